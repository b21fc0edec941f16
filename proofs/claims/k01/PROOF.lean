import PyProof.Rows.All
import Wide.All
import OpenK.AllK
import Wide.FinOn
import HandS.Base
import HandS.Call
import HandS.List
import HandS.Comp
import HandS.Exc
import HandS.ExcInit
import HandS.HeadHook2
import HandS.Lambda
import KE.KeyNested
import KE.KDictKeyed
import HandS.Text
import HandS.Star
import HandS.TupAny
import HandS.TupMul
import HandS.IsInst
import HandS.StrMore
import HandS.Deep
import HandS.Conv
import HandS.RaiseMore
import PyProof.ReprRoads
import HandS.NoneIn
import HandS.Style
import HandS.Iter
import HandS.Defaults
import HandS.Property
import HandS.CallSlots
import HandS.HeadEnd
import HandS.Ends
import HandS.MakeKwOnly
import HandS.FStr
import HandS.OwnEq
import HandS.Small
import KE.KFmtOwn
import KE.GoesMore
import KE.GoesEnum
import KE.KExcSuper
import HandS.ExcOwn
import HandS.TryMany
import HandS.WordsExc
import HandS.HotCalls
import HandS.ExcField
import HandS.ExcIs
import KE.KExcIs
import HandS.SetFor
import KE.KNestM
import PyProof.ListRange
import HandS.HeadNt
import KE.KUnpackStar
import HandS.Dict
import PyProof.StrBlock2
import PyProof.NeKinds
import HandS.TryOnly
import HandS.HeadHook3
import HandS.Zip
import KE.KDictWalk
import HandS.SetKeys
import HandS.Strs
import HandS.SortInts
import KE.SortKeyHeap
import KE.SortData
import KE.KDictSum
import KE.LtData
import KE.KDictDisplayH
import KE.KExcInit
import HandS.ExcValue
import HandS.Words
import HandS.Head0
import HandS.Head1
import HandS.Head2
import PySem.Challenge.RW_boxthieves_k01_limits_and_errors
set_option Elab.async false
set_option linter.all false
set_option maxRecDepth 100000
set_option maxHeartbeats 4000000
namespace FL
open PySem PySem.Spec PyProof.Rows L2

inductive D where
  | non | bl (b : Bool) | int (i : Int) | str (x : Str)
  | lst (xs : List D) | tup (xs : List D) | scr (ns : List Int)
  | dk (ks : List Key) (vs : List D)
  | fk (ks : List Key) (vs : List D)
  | dn (lk : Bool) (ks : List NestedKey) (vs : List D)
  | ins (c : Str) (ns : List Str) (fs : List D)
  | exn (a dd : Addr) (c : Str) (ns : List Str) (fs : List D)
  | err (c : Str) (ns : List Str) (fs : List D)
  | cls (c : Str)
instance : Inhabited D := ⟨.non⟩

abbrev Frg := PySem.W.Frag
abbrev St := L2.St
class Wrl where
  P : Program
  w : World
variable [Wrl]
mutual
inductive NKv (K : Frg) (H : Hp) : NestedKey → V → Prop
  | non : NKv K H .none .non
  | num (i : Int) : NKv K H (.num i) (.int i)
  | text (x : Str) : NKv K H (.text x) (.str x)
  | tup {a : Addr} {vs : List V} {ks : List NestedKey} : SqT K H a vs → NKs K H ks vs → NKv K H (.tup ks) (.ref a)
inductive NKs (K : Frg) (H : Hp) : List NestedKey → List V → Prop
  | nil : NKs K H [] []
  | cons {k : NestedKey} {v : V} {ks : List NestedKey} {vs : List V} : NKv K H k v → NKs K H ks vs → NKs K H (k :: ks) (v :: vs)
end
mutual
theorem NKv.mono {K : Frg} {H H' : Hp} (q : ∀ {c : Addr} {vs : List V}, SqT K H c vs → SqT K H' c vs) : ∀ {k : NestedKey} {v : V}, NKv K H k v → NKv K H' k v
  | _, _, .non => .non
  | _, _, .num i => .num i
  | _, _, .text x => .text x
  | _, _, .tup h hs => .tup (q h) (NKs.mono q hs)
theorem NKs.mono {K : Frg} {H H' : Hp} (q : ∀ {c : Addr} {vs : List V}, SqT K H c vs → SqT K H' c vs) : ∀ {ks : List NestedKey} {vs : List V}, NKs K H ks vs → NKs K H' ks vs
  | _, _, .nil => .nil
  | _, _, .cons h hs => .cons (NKv.mono q h) (NKs.mono q hs)
end
def DNP (P : Program) (w : World) (a : Addr) (xs : List (NestedKey × Addr × Value)) : Heap → Prop := fun h =>
  (a == sysModules) = false ∧ ∃ o es ep, h.get? a = some o ∧ o.ExactDict ∧ o.data = .dict es ep ∧ es.toList = xs.map (entryOfKey (nestedKind P w)) ∧ (xs.map (·.1)).Nodup
def DNO (a : Addr) (xs : List (NestedKey × Addr × Value)) : HO := .ext (DNP Wrl.P Wrl.w a xs)
def DNk (K : Frg) (H : Hp) (xs : List (NestedKey × Addr × Value)) (kvs : List (NestedKey × V)) : Prop := Paired (fun (x : NestedKey × Addr × Value) (p : NestedKey × V) => x.1 = p.1 ∧ x.1.depth ≤ 8 ∧ NKv K H x.1 (.ref x.2.1) ∧ RelV p.2 x.2.2) xs kvs
theorem DNk.mono {K : Frg} {H H' : Hp} {xs : List (NestedKey × Addr × Value)} {kvs : List (NestedKey × V)} (h : DNk K H xs kvs) (q : ∀ {c : Addr} {vs : List V}, SqT K H c vs → SqT K H' c vs) : DNk K H' xs kvs := by
  unfold DNk at h ⊢
  induction h with
  | nil => exact .nil
  | cons r t ih => exact .cons ⟨r.1, r.2.1, r.2.2.1.mono q, r.2.2.2⟩ ih
def Lk (lk : Bool) (u o : HO) : Prop := if lk = true then ∃ ob, u = .frz ob o else u = o
def DNat (K : Frg) (G : Hp) (a : Addr) (o : HO) (kvs : List (NestedKey × V)) : Prop := ∃ xs, o = DNO a xs ∧ DNk K G xs kvs ∧ xs.length ≤ sizeLine
theorem DNat.mono {K : Frg} {G G' : Hp} {a : Addr} {o : HO} {kvs : List (NestedKey × V)} (h : DNat K G a o kvs) (q : ∀ {c : Addr} {vs : List V}, SqT K G c vs → SqT K G' c vs) : DNat K G' a o kvs := let ⟨xs, e, k, l⟩ := h; ⟨xs, e, k.mono q, l⟩
theorem code_ne {a : Addr} {xs : List (NestedKey × Addr × Value)} {q : Str} : DNO a xs ≠ LamX.CodeO a q := fun e => by
  have e1 : DNP Wrl.P Wrl.w a xs = _ := HO.ext.inj e
  let o : Obj := { cls := .none, data := .fields #[.none, .str q default] }
  have h1 : (Heap.mk ((List.replicate (a + 1) o).toArray) {}).get? a = some o := by
    unfold Heap.get?
    have : (List.replicate (a + 1) o).toArray[a]? = some o := by simp
    simp only [this]
    rfl
  have h2 := congrFun e1 (Heap.mk ((List.replicate (a + 1) o).toArray) {})
  have h3 : DNP Wrl.P Wrl.w a xs (Heap.mk ((List.replicate (a + 1) o).toArray) {}) := h2 ▸ ⟨o, #[.none, .str q default], default, h1, rfl, rfl⟩
  obtain ⟨_, o', es, ep, g1, _, g2, _⟩ := h3
  rw [h1] at g1
  cases g1
  cases g2
def ErrAt (G : Hp) (e C : Addr) (fv : List (Str × V)) : Prop := (fv = [] ∧ G e = some (exo e C none)) ∨ ∃ d, G e = some (exo e C (some d)) ∧ G d = some (exd d fv)
mutual
/-- under the tracked heap G the value v shows the data d -/
def Rep (K : Frg) (G : Hp) : D → V → Prop
  | .non, v => v = .non
  | .bl b, v => v = .bl b
  | .int i, v => v = .int i
  | .str x, v => v = .str x
  | .lst ds, v => ∃ a vs, v = .ref a ∧ G a = some (.lst vs) ∧ Reps K G ds vs
  | .scr ns, v => ∃ a, v = .ref a ∧ SqL K G a (ns.map V.int)
  | .tup ds, v => ∃ a vs, v = .ref a ∧ SqT K G a vs ∧ Reps K G ds vs
  | .dk ks ds, v => ∃ a kv, v = .ref a ∧ G a = some (.dK kv) ∧ kv.map (·.1) = ks ∧ Reps K G ds (kv.map (·.2))
  | .fk ks ds, v => ∃ a ob kv, v = .ref a ∧ G a = some (.frz ob (.dK kv)) ∧ kv.map (·.1) = ks ∧ Reps K G ds (kv.map (·.2))
  | .dn lk ks ds, v => ∃ a u o kvs, v = .ref a ∧ G a = some u ∧ Lk lk u o ∧ DNat K G a o kvs ∧ kvs.map (·.1) = ks ∧ Reps K G ds (kvs.map (·.2))
  | .ins c ns ds, v => ∃ a dx fv, v = .ref a ∧ G a = some (.ins (He.ga K c) dx fv) ∧ fv.map (·.1) = ns ∧ Reps K G ds (fv.map (·.2))
  | .exn a dd _ ns ds, v => v = .ref a ∧ ∃ fv, G dd = some (.xd fv) ∧ fv.map (·.1) = ns ∧ Reps K G ds (fv.map (·.2))
  | .err c ns ds, v => ∃ a fv, v = .ref a ∧ ErrAt G a (He.ga K c) fv ∧ fv.map (·.1) = ns ∧ Reps K G ds (fv.map (·.2))
  | .cls c, v => v = .ref (He.ga K c)
def Reps (K : Frg) (G : Hp) : List D → List V → Prop
  | [], vs => vs = []
  | d :: ds, vs => ∃ v r, vs = v :: r ∧ Rep K G d v ∧ Reps K G ds r
end
def Le (G G' : Hp) : Prop := ∀ a o, G a = some o → G' a = some o
theorem Le.refl (G : Hp) : Le G G := fun _ _ h => h
theorem Le.trans {G1 G2 G3 : Hp} (h : Le G1 G2) (k : Le G2 G3) : Le G1 G3 := fun a o e => k a o (h a o e)
theorem Le.upd {G : Hp} {p : Addr} {o : HO} (h : G p = none) : Le G (upd G p o) := fun a u e => by
  rw [upd_ne (ne_of_none e h)]; exact e
theorem Rd.mono {G G' : Hp} (h : Le G G') {a : Addr} {u : HO} : Rd G a u → Rd G' a u
  | .inl e => .inl (h _ _ e)
  | .inr ⟨o, e⟩ => .inr ⟨o, h _ _ e⟩
theorem SqL.le {K : Frg} {G G' : Hp} (h : Le G G') {a : Addr} {xs : List V} : SqL K G a xs → SqL K G' a xs
  | .inl e => .inl (Rd.mono h e)
  | .inr e => .inr e
theorem ErrAt.le {G G' : Hp} (h : Le G G') {e C : Addr} {fv : List (Str × V)} : ErrAt G e C fv → ErrAt G' e C fv
  | .inl ⟨a, b⟩ => .inl ⟨a, h _ _ b⟩
  | .inr ⟨d, a, b⟩ => .inr ⟨d, h _ _ a, h _ _ b⟩
theorem SqT.le {K : Frg} {G G' : Hp} (h : Le G G') {a : Addr} {xs : List V} : SqT K G a xs → SqT K G' a xs
  | .inl e => .inl (Rd.mono h e)
  | .inr e => .inr e
mutual
theorem Rep.le {K : Frg} {G G' : Hp} (h : Le G G') : ∀ (d : D) (v : V), Rep K G d v → Rep K G' d v
  | .non, _, e => e
  | .bl _, _, e => e
  | .int _, _, e => e
  | .str _, _, e => e
  | .lst ds, _, ⟨a, vs, e, q, r⟩ => ⟨a, vs, e, h _ _ q, Reps.le h ds vs r⟩
  | .scr _, _, ⟨a, e, q⟩ => ⟨a, e, SqL.le h q⟩
  | .tup ds, _, ⟨a, vs, e, q, r⟩ => ⟨a, vs, e, SqT.le h q, Reps.le h ds vs r⟩
  | .dk _ ds, _, ⟨a, kv, e, q, n, r⟩ => ⟨a, kv, e, h _ _ q, n, Reps.le h ds _ r⟩
  | .fk _ ds, _, ⟨a, ob, kv, e, q, n, r⟩ => ⟨a, ob, kv, e, h _ _ q, n, Reps.le h ds _ r⟩
  | .dn _ _ ds, _, ⟨a, u, o, kv, e, q, l, m, n, r⟩ => ⟨a, u, o, kv, e, h _ _ q, l, m.mono (SqT.le h), n, Reps.le h ds _ r⟩
  | .ins _ _ ds, _, ⟨a, dx, fv, e, q, n, r⟩ => ⟨a, dx, fv, e, h _ _ q, n, Reps.le h ds _ r⟩
  | .exn _ _ _ _ ds, _, ⟨e, fv, q, n, r⟩ => ⟨e, fv, h _ _ q, n, Reps.le h ds _ r⟩
  | .err _ _ ds, _, ⟨a, fv, e, q, n, r⟩ => ⟨a, fv, e, q.le h, n, Reps.le h ds _ r⟩
  | .cls _, _, e => e
theorem Reps.le {K : Frg} {G G' : Hp} (h : Le G G') : ∀ (ds : List D) (vs : List V), Reps K G ds vs → Reps K G' ds vs
  | [], _, e => e
  | d :: ds, _, ⟨v, r, e, h1, h2⟩ => ⟨v, r, e, Rep.le h d v h1, Reps.le h ds r h2⟩
end
section
variable {K : Frg} {G G' : Hp}
theorem Reps.nil : Reps K G [] [] := rfl
theorem Reps.cons {d : D} {ds : List D} {v : V} {vs : List V} (h : Rep K G d v) (t : Reps K G ds vs) : Reps K G (d :: ds) (v :: vs) := ⟨v, vs, rfl, h, t⟩
theorem Reps.len : ∀ {ds : List D} {vs : List V}, Reps K G ds vs → vs.length = ds.length
  | [], _, e => by rw [show _ = [] from e]; rfl
  | _ :: _, _, ⟨_, _, e, _, t⟩ => by rw [e, List.length_cons, Reps.len t, List.length_cons]
theorem Reps.get : ∀ {ds : List D} {vs : List V} {i : Nat} {v : V}, Reps K G ds vs → vs[i]? = some v → ∃ d, ds[i]? = some d ∧ Rep K G d v
  | [], _, _, _, e, h => by rw [show _ = [] from e] at h; simp at h
  | d :: _, _, 0, _, ⟨_, _, e, r, _⟩, h => by subst e; simp at h; subst h; exact ⟨d, rfl, r⟩
  | _ :: _, _, i + 1, _, ⟨_, _, e, _, t⟩, h => by
    subst e
    obtain ⟨d, h1, h2⟩ := Reps.get (i := i) t (by simpa using h)
    exact ⟨d, by simpa using h1, h2⟩
theorem Reps.getD : ∀ {ds : List D} {vs : List V} {i : Nat} {d : D}, Reps K G ds vs → ds[i]? = some d → ∃ v, vs[i]? = some v ∧ Rep K G d v
  | [], _, _, _, _, h => by simp at h
  | d :: _, _, 0, _, ⟨v, _, e, r, _⟩, h => by subst e; simp at h; subst h; exact ⟨v, rfl, r⟩
  | _ :: _, _, i + 1, _, ⟨_, _, e, _, t⟩, h => by
    subst e
    obtain ⟨d, h1, h2⟩ := Reps.getD (i := i) t (by simpa using h)
    exact ⟨d, by simpa using h1, h2⟩
theorem Reps.append : ∀ {ds es : List D} {vs ws : List V}, Reps K G ds vs → Reps K G es ws → Reps K G (ds ++ es) (vs ++ ws)
  | [], _, _, _, e, t => by rw [show _ = [] from e]; exact t
  | _ :: _, _, _, _, ⟨v, r, e, h, t⟩, q => by subst e; exact ⟨v, _, rfl, h, Reps.append t q⟩
theorem Reps.take : ∀ {ds : List D} {vs : List V} (n : Nat), Reps K G ds vs → Reps K G (ds.take n) (vs.take n)
  | _, _, 0, _ => rfl
  | [], _, _ + 1, e => by rw [show _ = [] from e]; rfl
  | _ :: _, _, n + 1, ⟨v, r, e, h, t⟩ => by subst e; exact ⟨v, _, rfl, h, Reps.take n t⟩
theorem Reps.drop : ∀ {ds : List D} {vs : List V} (n : Nat), Reps K G ds vs → Reps K G (ds.drop n) (vs.drop n)
  | _, _, 0, h => h
  | [], _, _ + 1, e => by rw [show _ = [] from e]; rfl
  | _ :: _, _, n + 1, ⟨v, r, e, h, t⟩ => by subst e; exact Reps.drop n t
theorem Reps.set : ∀ {ds : List D} {vs : List V} (n : Nat) {d : D} {v : V}, Reps K G ds vs → Rep K G d v → Reps K G (ds.set n d) (vs.set n v)
  | [], _, _, _, _, e, _ => by rw [show _ = [] from e]; rfl
  | _ :: _, _, 0, _, _, ⟨v, r, e, h, t⟩, q => by subst e; exact ⟨_, _, rfl, q, t⟩
  | _ :: _, _, n + 1, _, _, ⟨v, r, e, h, t⟩, q => by subst e; exact ⟨_, _, rfl, h, Reps.set n t q⟩
theorem Reps.cut {ds : List D} {vs : List V} (h : Reps K G ds vs) (lo hi : Option Int) : Reps K G ((ds.drop (HT.sIx ds.length 0 lo)).take (HT.sIx ds.length ds.length hi - HT.sIx ds.length 0 lo)) (cutV vs lo hi) := by
  unfold cutV
  rw [h.len]
  exact (h.drop _).take _
theorem Reps.rep {ds : List D} {vs : List V} (h : Reps K G ds vs) : ∀ n : Nat, Reps K G (List.replicate n ds).flatten (List.replicate n vs).flatten
  | 0 => rfl
  | n + 1 => by
    rw [List.replicate_succ, List.replicate_succ, List.flatten_cons, List.flatten_cons]
    exact h.append (Reps.rep h n)
theorem Reps.of_ints : ∀ (xs : List Int), Reps K G (xs.map D.int) (xs.map V.int)
  | [] => rfl
  | _ :: xs => ⟨_, _, rfl, rfl, Reps.of_ints xs⟩
end

mutual
def D.py : D → Option PyData
  | .non => some .none
  | .bl b => some (.bool b)
  | .int i => some (.int i)
  | .str x => some (.str x)
  | .lst xs => (D.pys xs).map PyData.list
  | .tup xs => (D.pys xs).map PyData.tuple
  | .dk _ _ => none
  | .fk _ _ => none
  | .dn _ _ _ => none
  | .scr _ => none
  | .ins _ _ _ => none
  | .exn _ _ _ _ _ => none
  | .err _ _ _ => none
  | .cls _ => none
def D.pys : List D → Option (List PyData)
  | [] => some []
  | d :: ds => (D.py d).bind fun p => (D.pys ds).map fun ps => p :: ps
end
mutual
theorem Rep.dp {K : Frg} {G : Hp} : ∀ (d : D) (v : V) (p : PyData), D.py d = some p → Rep K G d v → Dp K G v p
  | .non, _, _, e, r => by cases e; rw [show _ = V.non from r]; exact .non
  | .bl _, _, _, e, r => by cases e; rw [show _ = V.bl _ from r]; exact .bl _
  | .int _, _, _, e, r => by cases e; rw [show _ = V.int _ from r]; exact .int _
  | .str _, _, _, e, r => by cases e; rw [show _ = V.str _ from r]; exact .str _
  | .lst ds, _, _, e, ⟨a, vs, ev, q, r⟩ => by
    obtain ⟨ps, e1, rfl⟩ := Option.map_eq_some_iff.mp (show (D.pys ds).map PyData.list = some _ from e)
    subst ev
    exact .lst (.of q) (Reps.dp ds vs ps e1 r)
  | .tup ds, _, _, e, ⟨a, vs, ev, q, r⟩ => by
    obtain ⟨ps, e1, rfl⟩ := Option.map_eq_some_iff.mp (show (D.pys ds).map PyData.tuple = some _ from e)
    subst ev
    exact .tup q (Reps.dp ds vs ps e1 r)
  | .dk _ _, _, _, e, _ => by cases e
  | .fk _ _, _, _, e, _ => by cases e
  | .dn _ _ _, _, _, e, _ => by cases e
  | .scr _, _, _, e, _ => by cases e
  | .ins _ _ _, _, _, e, _ => by cases e
  | .exn _ _ _ _ _, _, _, e, _ => by cases e
  | .err _ _ _, _, _, e, _ => by cases e
  | .cls _, _, _, e, _ => by cases e
theorem Reps.dp {K : Frg} {G : Hp} : ∀ (ds : List D) (vs : List V) (ps : List PyData), D.pys ds = some ps → Reps K G ds vs → DpAll K G vs ps
  | [], _, _, e, r => by cases e; rw [show _ = [] from r]; exact .nil
  | d :: ds, _, _, e, ⟨v, r, ev, h1, h2⟩ => by
    obtain ⟨p, e1, e2⟩ := Option.bind_eq_some_iff.mp (show (D.py d).bind (fun p => (D.pys ds).map fun ps => p :: ps) = some _ from e)
    obtain ⟨ps, e3, rfl⟩ := Option.map_eq_some_iff.mp e2
    subst ev
    exact .cons (Rep.dp d v p e1 h1) (Reps.dp ds r ps e3 h2)
end

inductive OD where
  | l (xs : List D) | k (ks : List Key) (vs : List D) | n (ks : List NestedKey) (vs : List D) | i (c : Str) (ns : List Str) (fs : List D)
def ORep (K : Frg) (G : Hp) (a : Addr) : OD → HO → Prop
  | .l xs, o => ∃ vs, o = .lst vs ∧ Reps K G xs vs
  | .k ks ds, o => ∃ kv, o = .dK kv ∧ kv.map (·.1) = ks ∧ Reps K G ds (kv.map (·.2))
  | .n ks ds, o => ∃ kvs, DNat K G a o kvs ∧ kvs.map (·.1) = ks ∧ Reps K G ds (kvs.map (·.2))
  | .i c ns ds, o => ∃ dx fv, o = .ins (He.ga K c) dx fv ∧ fv.map (·.1) = ns ∧ Reps K G ds (fv.map (·.2))
def OD.d : OD → D
  | .l xs => .lst xs
  | .k ks vs => .dk ks vs
  | .n ks vs => .dn false ks vs
  | .i c ns fs => .ins c ns fs
theorem ORep.le {K : Frg} {G G' : Hp} {a : Addr} (h : Le G G') : ∀ {o : OD} {u : HO}, ORep K G a o u → ORep K G' a o u
  | .l _, _, ⟨vs, e, r⟩ => ⟨vs, e, Reps.le h _ _ r⟩
  | .k _ _, _, ⟨kv, e, n, r⟩ => ⟨kv, e, n, Reps.le h _ _ r⟩
  | .n _ _, _, ⟨kv, e, n, r⟩ => ⟨kv, e.mono (SqT.le h), n, Reps.le h _ _ r⟩
  | .i _ _ _, _, ⟨dx, fv, e, n, r⟩ => ⟨dx, fv, e, n, Reps.le h _ _ r⟩
theorem ORep.rep {K : Frg} {G G' : Hp} (h : Le G G') {a : Addr} : ∀ {o : OD} {u : HO}, ORep K G a o u → G' a = some u → Rep K G' o.d (.ref a)
  | .l _, _, ⟨vs, e, r⟩, g => by subst e; exact ⟨a, vs, rfl, g, Reps.le h _ _ r⟩
  | .k _ _, _, ⟨kv, e, n, r⟩, g => by subst e; exact ⟨a, kv, rfl, g, n, Reps.le h _ _ r⟩
  | .n _ _, _, ⟨kv, e, n, r⟩, g => ⟨a, _, _, kv, rfl, g, rfl, e.mono (SqT.le h), n, Reps.le h _ _ r⟩
  | .i _ _ _, _, ⟨dx, fv, e, n, r⟩, g => by subst e; exact ⟨a, dx, fv, rfl, g, n, Reps.le h _ _ r⟩
inductive Sl where
  | no | im (d : D) | acc (o : OD) | bor (o : OD)
instance : Inhabited Sl := ⟨.no⟩
abbrev En := List Sl
structure Fr where
  He : Hp
  Ge : Hp
  bi : Option Nat
  ba : Addr
def ownAt (Γ : En) (j : Nat) : Prop := ∃ o, Γ[j]? = some (.acc o)
class Tabl where
  tl : Frg → List (Addr × Addr × Str)
def Tabl.tabs [Tabl] (K : Frg) : List (Addr × Str) := (Tabl.tl K).map fun t => (t.2.1, t.2.2)
def NT (o : HO) : Prop := ∀ ps, o ≠ .tbl ps
theorem ORep.nt {K : Frg} {G : Hp} {a : Addr} : ∀ {o : OD} {u : HO}, ORep K G a o u → NT u
  | .l _, _, ⟨_, e, _⟩ => fun _ z => by subst e; cases z
  | .k _ _, _, ⟨_, e, _⟩ => fun _ z => by subst e; cases z
  | .n _ _, _, ⟨_, ⟨_, e, _⟩, _⟩ => fun _ z => by subst e; cases z
  | .i _ _ _, _, ⟨_, _, e, _⟩ => fun _ z => by subst e; cases z
def NC (a : Addr) (o : HO) : Prop := NT o ∧ ∀ q, o ≠ LamX.CodeO a q
theorem ORep.nc {K : Frg} {G : Hp} {a : Addr} : ∀ {o : OD} {u : HO}, ORep K G a o u → NC a u
  | .l _, _, ⟨_, e, _⟩ => ⟨fun _ z => (by subst e; cases z), fun _ z => by subst e; cases z⟩
  | .k _ _, _, ⟨_, e, _⟩ => ⟨fun _ z => (by subst e; cases z), fun _ z => by subst e; cases z⟩
  | .n _ _, _, ⟨_, ⟨_, e, _⟩, _⟩ => ⟨fun _ z => (by subst e; cases z), fun _ z => by subst e; exact code_ne z⟩
  | .i _ _ _, _, ⟨_, _, e, _⟩ => ⟨fun _ z => (by subst e; cases z), fun _ z => by subst e; cases z⟩
variable [Tabl]
structure Tb0 (K : Frg) (H G : Hp) : Prop where
  gt : ∀ a o, G a = some o → NT o
  ts : LamX.Tabs (Tabl.tabs K) H
structure Tb (K : Frg) (F : Fr) (H G : Hp) : Prop where
  ht : ∀ a o, F.He a = some o → NT o
  t0 : Tb0 K H G
theorem tabs_upd {T : List (Addr × Str)} {H : Hp} {a : Addr} {u u' : HO} (t : LamX.Tabs T H) (h : H a = some u) (n : NC a u) : LamX.Tabs T (upd H a u') := fun p hp => by
  obtain ⟨ps, h1, h2, h3⟩ := t p hp
  have n1 : p.1 ≠ a := fun z => by rw [z, h] at h1; exact n.1 ps (Option.some.inj h1)
  refine ⟨ps, by rw [upd_ne n1]; exact h1, h2, fun pos cv hc => ?_⟩
  obtain ⟨c, e1, e2⟩ := h3 pos cv hc
  have n2 : c ≠ a := fun z => by subst z; rw [h] at e2; exact n.2 _ (Option.some.inj e2)
  exact ⟨c, e1, by rw [upd_ne n2]; exact e2⟩
theorem tabs_new {T : List (Addr × Str)} {H : Hp} {a : Addr} {u : HO} (t : LamX.Tabs T H) (h : H a = none) : LamX.Tabs T (upd H a u) := t.ext fun _ _ e => Le.upd h _ _ e
section
variable {K : Frg} {F : Fr} {H G : Hp} {p : Addr} {o u u' : HO}
theorem Tb.newH (t : Tb K F H G) (h : H p = none) : Tb K F (upd H p o) G := ⟨t.ht, t.t0.gt, tabs_new t.t0.ts h⟩
theorem Tb.tell (t : Tb K F H G) (n : NT o) : Tb K F H (upd G p o) := ⟨t.ht, fun a u e => by
  by_cases hp : a = p
  · subst hp; rw [upd_same] at e; cases e; exact n
  · rw [upd_ne hp] at e; exact t.t0.gt a u e, t.t0.ts⟩
theorem Tb.own (t : Tb K F H G) (h : H p = some u) (n : NC p u) : Tb K F (upd H p u') G := ⟨t.ht, t.t0.gt, tabs_upd t.t0.ts h n⟩
end
structure Rl (K : Frg) (F : Fr) (Γ : En) (σ : St) (H G : Hp) : Prop where
  len : Γ.length = σ.length
  gh : Le G H
  ge : Le F.Ge G
  he : ∀ a o, F.He a = some o → (F.bi = none ∨ a ≠ F.ba) → H a = some o
  gn : ∀ a o, G a = some o → F.Ge a = some o ∨ F.He a = none
  sl : ∀ (i : Nat) (d : D), Γ[i]? = some (.im d) → ∃ v, σ[i]? = some (some v) ∧ Rep K G d v
  ac : ∀ (i : Nat) (o : OD), Γ[i]? = some (.acc o) → ∃ (a : Addr) (u : HO), σ[i]? = some (some (V.ref a)) ∧ H a = some u ∧ G a = none ∧ F.He a = none ∧ ORep K G a o u ∧ ∀ j, j ≠ i → ownAt Γ j → σ[j]? ≠ some (some (V.ref a))
  bo : ∀ (i : Nat) (o : OD), Γ[i]? = some (.bor o) → F.bi = some i ∧ σ[i]? = some (some (V.ref F.ba)) ∧ (∃ u, F.He F.ba = some u) ∧ G F.ba = none ∧ ∃ u, H F.ba = some u ∧ ORep K G F.ba o u
  bb : ∀ i, F.bi = some i → ∃ o, Γ[i]? = some (.bor o)
  tb : Tb K F H G

inductive EV where
  | d (d : D) | own (i : Nat)
inductive O (α : Type) where
  | ok (a : α) (Γ : En) | exc (c : Str) (ns : List Str) (fs : List D) (Γ : En) | fail
def O.bind {α β : Type} (x : O α) (f : α → En → O β) : O β := match x with
  | .ok a Γ => f a Γ
  | .exc c ns fs Γ => .exc c ns fs Γ
  | .fail => .fail
abbrev EF := En → O EV
def ownD (Γ : En) (i : Nat) : Option OD := match Γ[i]? with
  | some (.acc o) => some o
  | some (.bor o) => some o
  | _ => none
def EV.look (Γ : En) : EV → Option D
  | .d x => some x
  | .own i => (ownD Γ i).map OD.d
def XRep (K : Frg) (G : Hp) (c : Str) (ns : List Str) (fs : List D) (cls : Value) (dx : Option Addr) : Prop :=
  cls = .ref (He.ga K c) ∧ ∃ fv : List (Str × V), fv.map (·.1) = ns ∧ Reps K G fs (fv.map (·.2)) ∧ (ns = [] ∨ ∃ a, dx = some a ∧ G a = some (.xd fv))
section
variable {K : Frg} {F : Fr} {Γ : En} {σ : St} {H G : Hp}
theorem Rl.heNone (R : Rl K F Γ σ H G) {p : Addr} (h : H p = none) : F.He p = none := by
  cases e : F.He p with
  | none => rfl
  | some o =>
    cases hb : F.bi with
    | none => have := R.he p o e (.inl hb); rw [h] at this; cases this
    | some i =>
      by_cases hp : p = F.ba
      · obtain ⟨o', ho⟩ := R.bb i hb
        obtain ⟨_, _, _, _, u, hu, _⟩ := R.bo i o' ho
        rw [← hp, h] at hu; cases hu
      · have := R.he p o e (.inr hp); rw [h] at this; cases this
theorem Rl.gNone (R : Rl K F Γ σ H G) {p : Addr} (h : H p = none) : G p = none := by
  cases e : G p with
  | none => rfl
  | some o => have := R.gh p o e; rw [h] at this; cases this
theorem Rl.newH (R : Rl K F Γ σ H G) {p : Addr} {o : HO} (h : H p = none) : Rl K F Γ σ (upd H p o) G where
  len := R.len
  gh := fun a u e => by rw [upd_ne (ne_of_none (R.gh a u e) h)]; exact R.gh a u e
  ge := R.ge
  he := fun a u e hb => by have := R.he a u e hb; rw [upd_ne (ne_of_none this h)]; exact this
  gn := R.gn
  sl := R.sl
  ac := fun i o' e => by
    obtain ⟨a, u, h1, h2, h3, h4, h5, h6⟩ := R.ac i o' e
    exact ⟨a, u, h1, by rw [upd_ne (ne_of_none h2 h)]; exact h2, h3, h4, h5, h6⟩
  bo := fun i o' e => by
    obtain ⟨h1, h2, h3, h4, u, h5, h6⟩ := R.bo i o' e
    exact ⟨h1, h2, h3, h4, u, by rw [upd_ne (ne_of_none h5 h)]; exact h5, h6⟩
  bb := R.bb
  tb := R.tb.newH h
theorem Rl.tell (R : Rl K F Γ σ H G) {p : Addr} {o : HO} (h : H p = some o) (hn : F.He p = none) (hg : G p = none) (ho : ∀ j, ownAt Γ j → σ[j]? ≠ some (some (.ref p))) (nt : NT o := by (intro _ z; cases z)) : Rl K F Γ σ H (upd G p o) where
  len := R.len
  gh := fun a u e => by
    by_cases hp : a = p
    · subst hp; rw [upd_same] at e; rw [h]; exact e
    · rw [upd_ne hp] at e; exact R.gh a u e
  ge := fun a u e => by rw [upd_ne (ne_of_none (R.ge a u e) hg)]; exact R.ge a u e
  he := R.he
  gn := fun a u e => by
    by_cases hp : a = p
    · subst hp; exact .inr hn
    · rw [upd_ne hp] at e; exact R.gn a u e
  sl := fun i d e => by
    obtain ⟨v, h1, h2⟩ := R.sl i d e
    exact ⟨v, h1, Rep.le (Le.upd hg) d v h2⟩
  ac := fun i o' e => by
    obtain ⟨a, u, h1, h2, h3, h4, h5, h6⟩ := R.ac i o' e
    have : a ≠ p := fun z => ho i ⟨o', e⟩ (by rw [h1, z])
    exact ⟨a, u, h1, h2, by rw [upd_ne this]; exact h3, h4, h5.le (Le.upd hg), h6⟩
  bo := fun i o' e => by
    obtain ⟨h1, h2, ⟨w, h3⟩, h4, u, h5, h6⟩ := R.bo i o' e
    have : F.ba ≠ p := ne_of_none h3 hn
    exact ⟨h1, h2, ⟨w, h3⟩, by rw [upd_ne this]; exact h4, u, h5, h6.le (Le.upd hg)⟩
  bb := R.bb
  tb := R.tb.tell nt
theorem Rl.noOwn (R : Rl K F Γ σ H G) {p : Addr} (h : H p = none) : ∀ j, ownAt Γ j → σ[j]? ≠ some (some (.ref p)) := fun j ⟨o, e⟩ z => by
  obtain ⟨a, u, h1, h2, _⟩ := R.ac j o e
  rw [h1] at z
  cases z
  rw [h] at h2; cases h2
theorem Rl.new (R : Rl K F Γ σ H G) {p : Addr} {o : HO} (h : H p = none) (nt : NT o := by (intro _ z; cases z)) : Rl K F Γ σ (upd H p o) (upd G p o) :=
  (R.newH h).tell upd_same (R.heNone h) (R.gNone h) (R.noOwn h) nt
theorem get_set {α : Type} {l : List α} {i j : Nat} {x y : α} (h : (l.set i x)[j]? = some y) : (j = i ∧ i < l.length ∧ y = x) ∨ (j ≠ i ∧ l[j]? = some y) := by
  by_cases e : i = j
  · subst e
    by_cases hi : i < l.length
    · rw [List.getElem?_set_self hi] at h; cases h; exact .inl ⟨rfl, hi, rfl⟩
    · rw [List.getElem?_eq_none (by simpa using hi)] at h; cases h
  · rw [List.getElem?_set_ne e] at h; exact .inr ⟨fun z => e z.symm, h⟩
theorem Rl.setIm (R : Rl K F Γ σ H G) {i : Nat} {d : D} {v : V} (hi : F.bi ≠ some i) (r : Rep K G d v) : Rl K F (Γ.set i (.im d)) (σ.set i (some v)) H G where
  len := by rw [List.length_set, List.length_set]; exact R.len
  gh := R.gh
  ge := R.ge
  he := R.he
  gn := R.gn
  sl := fun j d' e => by
    rcases get_set e with ⟨rfl, hl, e⟩ | ⟨hj, e⟩
    · cases e; exact ⟨v, List.getElem?_set_self (by rw [← R.len]; exact hl), r⟩
    · obtain ⟨w, h1, h2⟩ := R.sl j d' e
      exact ⟨w, by rw [List.getElem?_set_ne (Ne.symm hj)]; exact h1, h2⟩
  ac := fun j o e => by
    rcases get_set e with ⟨rfl, _, e⟩ | ⟨hj, e⟩
    · cases e
    · obtain ⟨a, u, h1, h2, h3, h4, h5, h6⟩ := R.ac j o e
      refine ⟨a, u, by rw [List.getElem?_set_ne (Ne.symm hj)]; exact h1, h2, h3, h4, h5, fun k hk ⟨o', ek⟩ => ?_⟩
      rcases get_set ek with ⟨_, _, e⟩ | ⟨hki, e⟩
      · cases e
      · rw [List.getElem?_set_ne (Ne.symm hki)]; exact h6 k hk ⟨o', e⟩
  bo := fun j o e => by
    rcases get_set e with ⟨rfl, _, e⟩ | ⟨hj, e⟩
    · cases e
    · obtain ⟨h1, h2, h3⟩ := R.bo j o e
      exact ⟨h1, by rw [List.getElem?_set_ne (Ne.symm hj)]; exact h2, h3⟩
  bb := fun j e => by
    obtain ⟨o, h⟩ := R.bb j e
    refine ⟨o, ?_⟩
    rw [List.getElem?_set_ne (fun z => hi (by rw [z]; exact e))]; exact h
  tb := R.tb
theorem Rl.setNo (R : Rl K F Γ σ H G) {i : Nat} {x : Option V} (hi : F.bi ≠ some i) : Rl K F (Γ.set i .no) (σ.set i x) H G where
  len := by rw [List.length_set, List.length_set]; exact R.len
  gh := R.gh
  ge := R.ge
  he := R.he
  gn := R.gn
  sl := fun j d' e => by
    rcases get_set e with ⟨rfl, hl, e⟩ | ⟨hj, e⟩
    · cases e
    · obtain ⟨w, h1, h2⟩ := R.sl j d' e
      exact ⟨w, by rw [List.getElem?_set_ne (Ne.symm hj)]; exact h1, h2⟩
  ac := fun j o e => by
    rcases get_set e with ⟨rfl, _, e⟩ | ⟨hj, e⟩
    · cases e
    · obtain ⟨a, u, h1, h2, h3, h4, h5, h6⟩ := R.ac j o e
      refine ⟨a, u, by rw [List.getElem?_set_ne (Ne.symm hj)]; exact h1, h2, h3, h4, h5, fun k hk ⟨o', ek⟩ => ?_⟩
      rcases get_set ek with ⟨_, _, e⟩ | ⟨hki, e⟩
      · cases e
      · rw [List.getElem?_set_ne (Ne.symm hki)]; exact h6 k hk ⟨o', e⟩
  bo := fun j o e => by
    rcases get_set e with ⟨rfl, _, e⟩ | ⟨hj, e⟩
    · cases e
    · obtain ⟨h1, h2, h3⟩ := R.bo j o e
      exact ⟨h1, by rw [List.getElem?_set_ne (Ne.symm hj)]; exact h2, h3⟩
  bb := fun j e => by
    obtain ⟨o, h⟩ := R.bb j e
    refine ⟨o, ?_⟩
    rw [List.getElem?_set_ne (fun z => hi (by rw [z]; exact e))]; exact h
  tb := R.tb
theorem Rl.setAcc (R : Rl K F Γ σ H G) {i : Nat} {o : OD} {p : Addr} {u : HO} (hi : F.bi ≠ some i) (hp : H p = some u) (hg : G p = none) (hn : F.He p = none) (ho : ∀ j, ownAt Γ j → σ[j]? ≠ some (some (.ref p))) (r : ORep K G p o u) :
    Rl K F (Γ.set i (.acc o)) (σ.set i (some (.ref p))) H G where
  len := by rw [List.length_set, List.length_set]; exact R.len
  gh := R.gh
  ge := R.ge
  he := R.he
  gn := R.gn
  sl := fun j d' e => by
    rcases get_set e with ⟨rfl, hl, e⟩ | ⟨hj, e⟩
    · cases e
    · obtain ⟨w, h1, h2⟩ := R.sl j d' e
      exact ⟨w, by rw [List.getElem?_set_ne (Ne.symm hj)]; exact h1, h2⟩
  ac := fun j o' e => by
    rcases get_set e with ⟨rfl, hl, e⟩ | ⟨hj, e⟩
    · cases e
      refine ⟨p, u, List.getElem?_set_self (by rw [← R.len]; exact hl), hp, hg, hn, r, fun k hk ⟨o', ek⟩ => ?_⟩
      rcases get_set ek with ⟨z, _, e⟩ | ⟨hki, e'⟩
      · exact absurd z hk
      · rw [List.getElem?_set_ne (Ne.symm hki)]; exact ho k ⟨o', e'⟩
    · obtain ⟨a, w, h1, h2, h3, h4, h5, h6⟩ := R.ac j o' e
      have hjo : σ[j]? ≠ some (some (.ref p)) := ho j ⟨o', e⟩
      refine ⟨a, w, by rw [List.getElem?_set_ne (Ne.symm hj)]; exact h1, h2, h3, h4, h5, fun k hk ⟨o', ek⟩ => ?_⟩
      rcases get_set ek with ⟨z, hl, _⟩ | ⟨hki, e'⟩
      · subst z
        rw [List.getElem?_set_self (by rw [← R.len]; exact hl)]
        intro q
        exact hjo (h1.trans q.symm)
      · rw [List.getElem?_set_ne (Ne.symm hki)]; exact h6 k hk ⟨o', e'⟩
  bo := fun j o e => by
    rcases get_set e with ⟨rfl, _, e⟩ | ⟨hj, e⟩
    · cases e
    · obtain ⟨h1, h2, h3⟩ := R.bo j o e
      exact ⟨h1, by rw [List.getElem?_set_ne (Ne.symm hj)]; exact h2, h3⟩
  bb := fun j e => by
    obtain ⟨o, h⟩ := R.bb j e
    refine ⟨o, ?_⟩
    rw [List.getElem?_set_ne (fun z => hi (by rw [z]; exact e))]; exact h
  tb := R.tb
theorem Rl.freeze (R : Rl K F Γ σ H G) {i : Nat} {o : OD} (h : Γ[i]? = some (.acc o)) : ∃ v G', σ[i]? = some (some v) ∧ Rl K F (Γ.set i (.im o.d)) σ H G' ∧ Le G G' ∧ Rep K G' o.d v := by
  obtain ⟨a, u, h1, h2, h3, h4, h5, h6⟩ := R.ac i o h
  have hb : F.bi ≠ some i := fun z => by
    obtain ⟨o', e⟩ := R.bb i z
    rw [h] at e; cases e
  have R1 : Rl K F (Γ.set i .no) (σ.set i (some (.ref a))) H G := R.setNo hb
  have eσ : σ.set i (some (.ref a)) = σ := by
    refine List.ext_getElem? fun j => ?_
    by_cases e : i = j
    · subst e
      rw [List.getElem?_set_self (List.getElem?_eq_some_iff.mp h1).1, h1]
    · rw [List.getElem?_set_ne e]
  rw [eσ] at R1
  have R2 : Rl K F (Γ.set i .no) σ H (upd G a u) := R1.tell h2 h4 h3 (fun j ⟨o', e⟩ => by
    rcases get_set e with ⟨_, _, e⟩ | ⟨hj, e⟩
    · cases e
    · exact h6 j hj ⟨o', e⟩) h5.nt
  have rp : Rep K (upd G a u) o.d (.ref a) := h5.rep (Le.upd h3) upd_same
  have R3 := R2.setIm (i := i) (d := o.d) hb rp
  rw [List.set_set, eσ] at R3
  exact ⟨.ref a, _, h1, R3, Le.upd h3, rp⟩
theorem Rl.setOwn (R : Rl K F Γ σ H G) {i : Nat} {o o' : OD} {p : Addr} {u' : HO} (h : Γ[i]? = some (.acc o)) (hp : σ[i]? = some (some (.ref p))) (r : ORep K G p o' u') : Rl K F (Γ.set i (.acc o')) σ (upd H p u') G := by
  obtain ⟨a, u, h1, h2, h3, h4, h5, h6⟩ := R.ac i o h
  rw [hp] at h1
  cases h1
  have hb : F.bi ≠ some i := fun z => by
    obtain ⟨o', e⟩ := R.bb i z
    rw [h] at e; cases e
  refine ⟨by rw [List.length_set]; exact R.len, fun a x e => ?_, R.ge, fun a x e q => ?_, R.gn, fun j d e => ?_, fun j ob e => ?_, fun j ob e => ?_, fun j e => ?_, R.tb.own h2 h5.nc⟩
  · rw [upd_ne (ne_of_none e h3)]; exact R.gh a x e
  · rw [upd_ne (ne_of_none e h4)]; exact R.he a x e q
  · rcases get_set e with ⟨_, _, e⟩ | ⟨_, e⟩
    · cases e
    · exact R.sl j d e
  · rcases get_set e with ⟨rfl, hl, e⟩ | ⟨hj, e⟩
    · cases e
      refine ⟨p, u', hp, upd_same, h3, h4, r, fun k hk ⟨ok, ek⟩ => ?_⟩
      rcases get_set ek with ⟨z, _, _⟩ | ⟨_, e⟩
      · exact absurd z hk
      · exact h6 k hk ⟨ok, e⟩
    · obtain ⟨a, w, g1, g2, g3, g4, g5, g6⟩ := R.ac j ob e
      have ne : a ≠ p := fun z => by subst z; exact h6 j hj ⟨ob, e⟩ g1
      refine ⟨a, w, g1, by rw [upd_ne ne]; exact g2, g3, g4, g5, fun k hk ⟨ok, ek⟩ => ?_⟩
      rcases get_set ek with ⟨z, _, _⟩ | ⟨_, e⟩
      · subst z; rw [hp]; intro q; cases q; exact ne rfl
      · exact g6 k hk ⟨ok, e⟩
  · rcases get_set e with ⟨_, _, e⟩ | ⟨hj, e⟩
    · cases e
    · obtain ⟨g1, g2, ⟨w, g3⟩, g4, x, g5, g6⟩ := R.bo j ob e
      exact ⟨g1, g2, ⟨w, g3⟩, g4, x, by rw [upd_ne (ne_of_none g3 h4)]; exact g5, g6⟩
  · obtain ⟨o, e2⟩ := R.bb j e
    exact ⟨o, by rw [List.getElem?_set_ne (fun z => hb (by rw [z]; exact e))]; exact e2⟩
theorem Rl.setBor (R : Rl K F Γ σ H G) {i : Nat} {o o' : OD} {u' : HO} (h : Γ[i]? = some (.bor o)) (r : ORep K G F.ba o' u') : Rl K F (Γ.set i (.bor o')) σ (upd H F.ba u') G := by
  obtain ⟨h1, h2, ⟨w, h3⟩, h4, u, h5, h6⟩ := R.bo i o h
  refine ⟨by rw [List.length_set]; exact R.len, fun a x e => ?_, R.ge, fun a x e q => ?_, R.gn, fun j d e => ?_, fun j ob e => ?_, fun j ob e => ?_, fun j e => ?_, R.tb.own h5 h6.nc⟩
  · rw [upd_ne (ne_of_none e h4)]; exact R.gh a x e
  · rcases q with q | q
    · rw [h1] at q; cases q
    · rw [upd_ne q]; exact R.he a x e (.inr q)
  · rcases get_set e with ⟨_, _, e⟩ | ⟨_, e⟩
    · cases e
    · exact R.sl j d e
  · rcases get_set e with ⟨_, _, e⟩ | ⟨hj, e⟩
    · cases e
    · obtain ⟨a, w', g1, g2, g3, g4, g5, g6⟩ := R.ac j ob e
      have ne : a ≠ F.ba := fun z => by rw [z, h3] at g4; cases g4
      refine ⟨a, w', g1, by rw [upd_ne ne]; exact g2, g3, g4, g5, fun k hk ⟨ok, ek⟩ => ?_⟩
      rcases get_set ek with ⟨_, _, e⟩ | ⟨_, e⟩
      · cases e
      · exact g6 k hk ⟨ok, e⟩
  · rcases get_set e with ⟨rfl, hl, e⟩ | ⟨hj, e⟩
    · cases e
      exact ⟨h1, h2, ⟨w, h3⟩, h4, u', upd_same, r⟩
    · obtain ⟨g1, _⟩ := R.bo j ob e
      rw [h1] at g1; cases g1; exact absurd rfl hj
  · rw [h1] at e; cases e
    exact ⟨o', List.getElem?_set_self (List.getElem?_eq_some_iff.mp h).1⟩
end
end FL

namespace FL
open PySem PySem.Spec PyProof.Rows L2
variable [Wrl] [Tabl]
abbrev Rel (α β : Type) := St → Hp → α → β → Prop
def Rel.Mono {α β : Type} (r : Rel α β) : Prop := ∀ σ G G' a b, Le G G' → r σ G a b → r σ G' a b
def Out {α β : Type} (K : Frg) (W : WX) (rel : Rel α β) (F : Fr) (σ : St) (G : Hp) (T : (β → Hp → Prop) → Prop) : O α → Prop
  | .ok a Γ' => ∀ Q : β → Hp → Prop, (∀ b H' G', Rl K F Γ' σ H' G' → Le G G' → rel σ G' a b → Q b H') → T Q
  | .exc c ns fs Γ' => ∀ Q : β → Hp → Prop, (∀ cls dx H' G', Rl K F Γ' σ H' G' → Le G G' → XRep K G' c ns fs cls dx → W cls dx σ H') → T Q
  | .fail => True
def Sem {α β : Type} (K : Frg) (W : WX) (rel : Rel α β) (t : St → Hp → (β → Hp → Prop) → Prop) (f : En → O α) : Prop := ∀ (F : Fr) (Γ : En) (σ : St) (H G : Hp), Rl K F Γ σ H G → Out K W rel F σ G (t σ H) (f Γ)
def SemK {α β α' β' : Type} (K : Frg) (W : WX) (rel : Rel α β) (rel' : Rel α' β') (t : β → St → Hp → (β' → Hp → Prop) → Prop) (f : α → En → O α') : Prop := ∀ (F : Fr) (Γ : En) (σ : St) (H G : Hp) (a : α) (b : β), Rl K F Γ σ H G → rel σ G a b → Out K W rel' F σ G (t b σ H) (f a Γ)
section
variable {α β α' β' α2 β2 : Type} {K : Frg} {W : WX} {rel : Rel α β} {rel' : Rel α' β'} {rel2 : Rel α2 β2} {F : Fr} {σ : St} {G : Hp}
theorem Out.of {T T' : (β → Hp → Prop) → Prop} : ∀ {r : O α}, Out K W rel F σ G T r → (∀ Q, T Q → T' Q) → Out K W rel F σ G T' r
  | .ok _ _, h, k => fun Q q => k Q (h Q q)
  | .exc _ _ _ _, h, k => fun Q q => k Q (h Q q)
  | .fail, _, _ => trivial
theorem Out.bind {T : (β → Hp → Prop) → Prop} {T' : β → Hp → (β' → Hp → Prop) → Prop} {g : α → En → O α'} : ∀ {r : O α}, Out K W rel F σ G T r →
    (∀ a Γ1 b H1 G1, Rl K F Γ1 σ H1 G1 → Le G G1 → rel σ G1 a b → Out K W rel' F σ G1 (T' b H1) (g a Γ1)) → Out K W rel' F σ G (fun Q => T fun b H1 => T' b H1 Q) (r.bind g)
  | .fail, _, _ => trivial
  | .exc _ _ _ _, h, _ => fun Q q => h _ q
  | .ok a Γ1, h, k => by
    show Out K W rel' F σ G _ (g a Γ1)
    cases e2 : g a Γ1 with
    | fail => trivial
    | exc c ns fs Γ' =>
      intro Q q
      refine h _ fun b H1 G1 R1 le1 r1 => ?_
      have h2 := k a Γ1 b H1 G1 R1 le1 r1
      rw [e2] at h2
      exact h2 Q fun cls dx H' G' R' le' x => q cls dx H' G' R' (le1.trans le') x
    | ok a' Γ' =>
      intro Q q
      refine h _ fun b H1 G1 R1 le1 r1 => ?_
      have h2 := k a Γ1 b H1 G1 R1 le1 r1
      rw [e2] at h2
      exact h2 Q fun b' H' G' R' le' x => q b' H' G' R' (le1.trans le') x
theorem Sem.bind {t : St → Hp → (β → Hp → Prop) → Prop} {f : En → O α} {T : β → St → Hp → (β' → Hp → Prop) → Prop} {g : α → En → O α'} (h : Sem K W rel t f) (k : SemK K W rel rel' T g) :
    Sem K W rel' (fun σ H Q => t σ H fun b H1 => T b σ H1 Q) (fun Γ => (f Γ).bind g) := fun F Γ σ H G R =>
  (h F Γ σ H G R).bind (T' := fun b H1 Q => T b σ H1 Q) fun a Γ1 b H1 G1 R1 _ r1 => k F Γ1 σ H1 G1 a b R1 r1
theorem SemK.bind {t : β → St → Hp → (β' → Hp → Prop) → Prop} {f : α → En → O α'} {T : β → β' → St → Hp → (β2 → Hp → Prop) → Prop} {g : α → α' → En → O α2} (m : rel.Mono) (h : SemK K W rel rel' t f)
    (k : ∀ (F : Fr) (Γ : En) (σ : St) (H G : Hp) (a : α) (b : β) (a' : α') (b' : β'), Rl K F Γ σ H G → rel σ G a b → rel' σ G a' b' → Out K W rel2 F σ G (T b b' σ H) (g a a' Γ)) :
    SemK K W rel rel2 (fun b σ H Q => t b σ H fun b' H1 => T b b' σ H1 Q) (fun a Γ => (f a Γ).bind (g a)) := fun F Γ σ H G a b R r =>
  (h F Γ σ H G a b R r).bind (T' := fun b' H1 Q => T b b' σ H1 Q) fun a' Γ1 b' H1 G1 R1 le1 r1 => k F Γ1 σ H1 G1 a b a' b' R1 (m _ _ _ _ _ le1 r) r1
theorem Sem.toK {t : St → Hp → (β' → Hp → Prop) → Prop} {f : En → O α'} (h : Sem K W rel' t f) : SemK K W rel rel' (fun _ => t) (fun _ => f) := fun F Γ σ H G _ _ R _ => h F Γ σ H G R
end
def vrel (K : Frg) : Rel EV V := fun σ G ev v => match ev with
  | .d x => Rep K G x v
  | .own i => σ[i]? = some (some v)
theorem vrel_mono (K : Frg) : (vrel K).Mono := fun σ G G' a b le r => by
  cases a with
  | d x => exact Rep.le le x b r
  | own i => exact r
def vsrel (K : Frg) : Rel (List EV) (List V) := fun σ G es vs => Paired (vrel K σ G) es vs
theorem vsrel_mono (K : Frg) : (vsrel K).Mono := fun σ G G' a b le r => by
  unfold vsrel at r ⊢
  induction r with
  | nil => exact .nil
  | cons h _ ih => exact .cons (vrel_mono K _ _ _ _ _ le h) ih
structure FE (X : Cx) (W : WX) (e : Expr) (f : EF) : Prop where
  ex : ∃ t, PE X e t ∧ Sem X.K W (vrel X.K) t f
abbrev TF := En → O Bool
abbrev AF := En → O (List EV)
def eqrel {α : Type} : Rel α α := fun _ _ a b => b = a
structure FT (X : Cx) (W : WX) (e : Expr) (f : TF) : Prop where
  ex : ∃ t, PT X e t ∧ Sem X.K W eqrel t f
structure FW (X : Cx) (W : WX) (e : Expr) (f : TF) : Prop where
  ex : ∃ t, PW X e t ∧ Sem X.K W eqrel t f
structure FA (X : Cx) (W : WX) (es : List Expr) (f : AF) : Prop where
  ex : ∃ t, PA X es t ∧ Sem X.K W (vsrel X.K) t f
def LRep (K : Frg) (G H : Hp) (d : D) (v : V) : Prop := Rep K G d v ∨ ∃ (a : Addr) (u : HO) (o : OD), v = .ref a ∧ d = o.d ∧ H a = some u ∧ ORep K G a o u
theorem LRep.rep {K : Frg} {G H : Hp} (le : Le G H) {d : D} {v : V} (h : LRep K G H d v) : Rep K H d v := by
  rcases h with h | ⟨a, u, o, rfl, rfl, hu, r⟩
  · exact Rep.le le d v h
  · exact r.rep le hu
theorem Rl.look {K : Frg} {F : Fr} {Γ : En} {σ : St} {H G : Hp} (R : Rl K F Γ σ H G) {ev : EV} {v : V} {x : D} (r : vrel K σ G ev v) (e : ev.look Γ = some x) : LRep K G H x v := by
  cases ev with
  | d y => cases e; exact .inl r
  | own i =>
    obtain ⟨o, e1, rfl⟩ := Option.map_eq_some_iff.mp (show (ownD Γ i).map OD.d = some x from e)
    have r : σ[i]? = some (some v) := r
    unfold ownD at e1
    split at e1
    · rename_i o' h
      cases e1
      obtain ⟨a, u, h1, h2, _, _, h5, _⟩ := R.ac i o h
      rw [r] at h1
      cases h1
      exact .inr ⟨a, u, o, rfl, rfl, h2, h5⟩
    · rename_i o' h
      cases e1
      obtain ⟨_, h2, _, _, u, h5, h6⟩ := R.bo i o h
      rw [r] at h2
      cases h2
      exact .inr ⟨_, u, o, rfl, rfl, h5, h6⟩
    · cases e1
theorem LRep.lst {K : Frg} {G H : Hp} (le : Le G H) {ds : List D} {v : V} (h : LRep K G H (.lst ds) v) : ∃ a vs, v = .ref a ∧ H a = some (.lst vs) ∧ Reps K G ds vs := by
  rcases h with ⟨a, vs, rfl, h, r⟩ | ⟨a, u, o, rfl, e, hu, r⟩
  · exact ⟨a, vs, rfl, le _ _ h, r⟩
  · cases o with
    | l xs =>
      cases e
      obtain ⟨vs, rfl, r⟩ := r
      exact ⟨a, vs, rfl, hu, r⟩
    | k _ _ => cases e
    | n _ _ => cases e
    | i _ _ _ => cases e
theorem LRep.flat {K : Frg} {G H : Hp} {d : D} {v : V} (h : LRep K G H d v) (n : ∀ o : OD, d ≠ o.d) : Rep K G d v := by
  rcases h with h | ⟨a, u, o, _, e, _⟩
  · exact h
  · exact absurd e (n o)
theorem LRep.tup {K : Frg} {G H : Hp} {ds : List D} {v : V} (h : LRep K G H (.tup ds) v) : ∃ a vs, v = .ref a ∧ SqT K G a vs ∧ Reps K G ds vs := h.flat (fun o => by cases o <;> (intro z; cases z))
theorem LRep.int {K : Frg} {G H : Hp} {i : Int} {v : V} (h : LRep K G H (.int i) v) : v = .int i := h.flat (fun o => by cases o <;> (intro z; cases z))
theorem LRep.str {K : Frg} {G H : Hp} {x : Str} {v : V} (h : LRep K G H (.str x) v) : v = .str x := h.flat (fun o => by cases o <;> (intro z; cases z))
theorem LRep.bl {K : Frg} {G H : Hp} {x : Bool} {v : V} (h : LRep K G H (.bl x) v) : v = .bl x := h.flat (fun o => by cases o <;> (intro z; cases z))
theorem LRep.non {K : Frg} {G H : Hp} {v : V} (h : LRep K G H .non v) : v = .non := h.flat (fun o => by cases o <;> (intro z; cases z))
def Kont (K : Frg) (F : Fr) (Γ : En) (σ : St) (G : Hp) (x : D) (Q : VK) : Prop := ∀ v H' G', Rl K F Γ σ H' G' → Le G G' → Rep K G' x v → Q v H'
end FL

set_option Elab.async false
set_option linter.all false
set_option maxRecDepth 100000
set_option maxHeartbeats 4000000
namespace FL
open PySem PySem.Spec PyProof.Rows L2
variable [Wrl] [Tabl]
variable {X : Cx} {W : WX} {e a b c : Expr} {f g f1 f2 f3 : EF} {pos : Pos}
def cE (x : D) : EF := fun Γ => .ok (.d x) Γ
def vE (i : Nat) : EF := fun Γ => match Γ[i]? with
  | some (.im x) => .ok (.d x) Γ
  | some (.acc _) => .ok (.own i) Γ
  | some (.bor _) => .ok (.own i) Γ
  | _ => .fail
theorem sem_c {K : Frg} {x : D} {v : V} (h : ∀ G, Rep K G x v) : Sem K W (vrel K) (tC v) (cE x) := fun F Γ σ H G R Q q => q v H G R (Le.refl G) (h G)
theorem fe_int {i : Int} {j pos} : FE X W (.Constant (.int i) j pos) (cE (.int i)) := ⟨_, pe_int, sem_c fun _ => rfl⟩
theorem fe_bl {b : Bool} {j pos} : FE X W (.Constant (.bool b) j pos) (cE (.bl b)) := ⟨_, pe_bl, sem_c fun _ => rfl⟩
theorem fe_non {j pos} : FE X W (.Constant .none j pos) (cE .non) := ⟨_, pe_non, sem_c fun _ => rfl⟩
theorem fe_str {x : Str} {j pos} : FE X W (.Constant (.str x) j pos) (cE (.str x)) := ⟨_, pe_str, sem_c fun _ => rfl⟩
def GK (X : Cx) (x : Str) (d : D) : Prop := ∃ (v : V) (u : Value), X.mg x = some u ∧ RelV v u ∧ ∀ G, Rep X.K G d v
theorem fe_glob {x : Str} {d : D} (h : GK X x d) (hg : Gl X x := by rfl) (hd : (x == ("__debug__" : Str)) = false := by decide) : FE X W (.Name x pos) (cE d) := by
  obtain ⟨v, u, hm, r, k⟩ := h
  exact ⟨_, pe_glob hg hm r hd, sem_c k⟩
theorem fe_var {i : Nat} {x : Str} (hN : X.N[i]? = some x) (hv : Vis X.env.scope x) (hd : (x == ("__debug__" : Str)) = false := by decide) (hcd : (x == ("__classdict__" : Str)) = false := by decide) : FE X W (.Name x pos) (vE i) := by
  refine ⟨_, pe_var hN hv hd hcd, fun F Γ σ H G R => ?_⟩
  unfold vE
  split
  · rename_i x' hx
    intro Q q
    obtain ⟨v, h1, h2⟩ := R.sl i _ hx
    exact ⟨v, h1, q v H G R (Le.refl G) h2⟩
  · rename_i o hx
    intro Q q
    obtain ⟨p, u, h1, _⟩ := R.ac i _ hx
    exact ⟨_, h1, q _ H G R (Le.refl G) h1⟩
  · rename_i o hx
    intro Q q
    obtain ⟨_, h1, _⟩ := R.bo i _ hx
    exact ⟨_, h1, q _ H G R (Le.refl G) h1⟩
  · trivial
def fin2 (g : D → D → Option D) (e1 e2 : EV) (Γ : En) : O EV := match e1.look Γ, e2.look Γ with
  | some d1, some d2 => (match g d1 d2 with | some x => .ok (.d x) Γ | none => .fail)
  | _, _ => .fail
def op2 (g : D → D → Option D) (f1 f2 : EF) : EF := fun Γ => (f1 Γ).bind fun e1 Γ1 => (f2 Γ1).bind fun e2 Γ2 => fin2 g e1 e2 Γ2
def Op2 (X : Cx) (r : R2) (g : D → D → Option D) : Prop := ∀ (F : Fr) (Γ : En) (σ : St) (H G : Hp) (d1 d2 : D) (v1 v2 : V) (x : D) (Q : VK), Rl X.K F Γ σ H G → LRep X.K G H d1 v1 → LRep X.K G H d2 v2 → g d1 d2 = some x →
  Kont X.K F Γ σ G x Q → r v1 v2 H Q
theorem out_fin2 {r : R2} {g : D → D → Option D} (ho : Op2 X r g) {F : Fr} {Γ : En} {σ : St} {H G : Hp} {a1 a2 : EV} {b1 b2 : V} (R : Rl X.K F Γ σ H G) (r1 : vrel X.K σ G a1 b1) (r2 : vrel X.K σ G a2 b2) :
    Out X.K W (vrel X.K) F σ G (fun Q => r b1 b2 H Q) (fin2 g a1 a2 Γ) := by
  unfold fin2
  split
  · rename_i d1 d2 e1 e2
    split
    · rename_i x e3
      exact fun Q q => ho F Γ σ H G d1 d2 b1 b2 x Q R (R.look r1 e1) (R.look r2 e2) e3 q
    · trivial
  · trivial
theorem sem_op2 {r : R2} {g : D → D → Option D} {t1 t2 : TE} (ho : Op2 X r g) (h1 : Sem X.K W (vrel X.K) t1 f1) (h2 : Sem X.K W (vrel X.K) t2 f2) : Sem X.K W (vrel X.K) (tOp r t1 t2) (op2 g f1 f2) := by
  refine Sem.bind (T := fun b σ H Q => t2 σ H fun b' H1 => r b b' H1 Q) h1 (SemK.bind (T := fun b b' σ H Q => r b b' H Q) (vrel_mono X.K) h2.toK fun F Γ σ H G a1 b1 a2 b2 R r1 r2 => out_fin2 ho R r1 r2)
theorem fe_op {op : Operator} {r : R2} {g : D → D → Option D} (ho : OpR X (binaryOp op) r) (hs : Op2 X r g) (ha : FE X W a f1) (hb : FE X W b f2) : FE X W (.BinOp a op b pos) (op2 g f1 f2) := by
  obtain ⟨t1, p1, s1⟩ := ha
  obtain ⟨t2, p2, s2⟩ := hb
  exact ⟨_, pe_op ho p1 p2, sem_op2 hs s1 s2⟩
theorem fe_cmp {op : CmpOp} {r : R2} {g : D → D → Option D} (ho : OpR X (compareOp op) r) (hs : Op2 X r g) (ha : FE X W a f1) (hb : FE X W b f2) (hm : behindInMarks op b = false) : FE X W (.Compare a [op] [b] pos) (op2 g f1 f2) := by
  obtain ⟨t1, p1, s1⟩ := ha
  obtain ⟨t2, p2, s2⟩ := hb
  exact ⟨_, pe_cmpR ho p1 p2 hm, sem_op2 hs s1 s2⟩
def addD : D → D → Option D
  | .int i, .int j => some (.int (i + j))
  | .str x, .str y => if x.length + y.length ≤ sizeLine then some (.str (x ++ y)) else none
  | .lst xs, .lst ys => if xs.length + ys.length ≤ sizeLine then some (.lst (xs ++ ys)) else none
  | .tup xs, .tup ys => if xs.length + ys.length ≤ sizeLine then some (.tup (xs ++ ys)) else none
  | _, _ => none
def rAddA (K : Frg) : R2 := fun x y H Q => (∃ i j, x = .int i ∧ y = .int j ∧ Q (.int (i + j)) H) ∨ (∃ i j, x = .str i ∧ y = .str j ∧ i.length + j.length ≤ sizeLine ∧ Q (.str (i ++ j)) H) ∨ rCat x y H Q ∨ rCatA K x y H Q
theorem op_addA : OpR X (binaryOp .Add) (rAddA X.K) := op_add.or (op_add_str.or (op_cat.or op_catA))
theorem add_ok : Op2 X (rAddA X.K) addD := by
  intro F Γ σ H G d1 d2 v1 v2 x Q R r1 r2 e q
  unfold addD at e
  split at e
  · cases e
    exact .inl ⟨_, _, r1.int, r2.int, q _ _ _ R (Le.refl G) rfl⟩
  · split at e
    · rename_i hz
      cases e
      exact .inr (.inl ⟨_, _, r1.str, r2.str, hz, q _ _ _ R (Le.refl G) rfl⟩)
    · cases e
  · split at e
    · rename_i hz
      cases e
      obtain ⟨l1, vs1, rfl, h1, q1⟩ := r1.lst R.gh
      obtain ⟨l2, vs2, rfl, h2, q2⟩ := r2.lst R.gh
      refine .inr (.inr (.inl ⟨l1, l2, vs1, vs2, rfl, rfl, h1, h2, by rw [q1.len, q2.len]; exact hz, fun p hp => ?_⟩))
      exact q _ _ _ (R.new hp) (Le.upd (R.gNone hp)) ⟨p, _, rfl, upd_same, Reps.le (Le.upd (R.gNone hp)) _ _ (q1.append q2)⟩
    · cases e
  · split at e
    · rename_i hz
      cases e
      obtain ⟨l1, vs1, rfl, h1, q1⟩ := r1.tup
      obtain ⟨l2, vs2, rfl, h2, q2⟩ := r2.tup
      refine .inr (.inr (.inr ⟨l1, l2, vs1, vs2, rfl, rfl, SqT.le R.gh h1, SqT.le R.gh h2, by rw [q1.len, q2.len]; exact hz, fun z => ?_, fun z1 z2 => ?_, fun _ _ p hp => ?_⟩))
      · subst z
        have := q1.append q2
        exact q _ _ _ R (Le.refl G) ⟨l2, _, rfl, by simpa using h2, by simpa using this⟩
      · subst z2
        have := q1.append q2
        exact q _ _ _ R (Le.refl G) ⟨l1, _, rfl, by simpa using h1, by simpa using this⟩
      · exact q _ _ _ (R.new hp) (Le.upd (R.gNone hp)) ⟨p, _, rfl, .of upd_same, Reps.le (Le.upd (R.gNone hp)) _ _ (q1.append q2)⟩
    · cases e
  · cases e
def intD (P : Int → Int → Bool) (g : Int → Int → D) : D → D → Option D
  | .int i, .int j => if P i j then some (g i j) else none
  | _, _ => none
theorem int_ok {C : Int → Int → Prop} {P : Int → Int → Bool} {g : Int → Int → V} {k : Int → Int → D} (hP : ∀ i j, P i j = true → C i j) (hk : ∀ G i j, Rep X.K G (k i j) (g i j)) : Op2 X (rI C g) (intD P k) := by
  intro F Γ σ H G d1 d2 v1 v2 x Q R r1 r2 e q
  unfold intD at e
  split at e
  · split at e
    · rename_i hz
      cases e
      exact ⟨_, _, r1.int, r2.int, hP _ _ hz, q _ _ _ R (Le.refl G) (hk _ _ _)⟩
    · cases e
  · cases e
theorem int0_ok {g : Int → Int → V} {k : Int → Int → D} (hk : ∀ G i j, Rep X.K G (k i j) (g i j)) : Op2 X (rI0 g) (intD (fun _ _ => true) k) := by
  intro F Γ σ H G d1 d2 v1 v2 x Q R r1 r2 e q
  unfold intD at e
  split at e
  · cases e
    exact ⟨_, _, r1.int, r2.int, q _ _ _ R (Le.refl G) (hk _ _ _)⟩
  · cases e
def subD := intD (fun _ _ => true) fun i j => .int (i - j)
def modD := intD (fun _ j => decide (0 < j)) fun i j => .int (i % j)
def fdivD := intD (fun _ j => decide (0 < j ∧ j < 1073741824)) fun i j => .int (i / j)
def powD := intD (fun i j => decide (0 ≤ j ∧ j ≤ 1000000 ∧ i.natAbs < 2 ^ 64)) fun i j => .int (i ^ j.toNat)
def ltD := intD (fun _ _ => true) fun i j => .bl (decide (i < j))
def leD := intD (fun _ _ => true) fun i j => .bl (decide (i ≤ j))
def gtD := intD (fun _ _ => true) fun i j => .bl (decide (j < i))
def geD := intD (fun _ _ => true) fun i j => .bl (decide (j ≤ i))
section
variable (ha : FE X W a f1) (hb : FE X W b f2)
include ha hb
theorem fe_mod : FE X W (.BinOp a .Mod b pos) (op2 modD f1 f2) := fe_op op_mod (int_ok (fun _ _ h => of_decide_eq_true h) fun _ _ _ => rfl) ha hb
theorem fe_pow : FE X W (.BinOp a .Pow b pos) (op2 powD f1 f2) := fe_op op_pow (int_ok (P := fun i j => decide (0 ≤ j ∧ j ≤ 1000000 ∧ i.natAbs < 2 ^ 64)) (fun i j h => of_decide_eq_true (p := 0 ≤ j ∧ j ≤ 1000000 ∧ i.natAbs < 2 ^ 64) h) fun _ _ _ => rfl) ha hb
theorem fe_lt : FE X W (.Compare a [.Lt] [b] pos) (op2 ltD f1 f2) := fe_cmp op_lt (int0_ok fun _ _ _ => rfl) ha hb (nomark _)
theorem fe_ge : FE X W (.Compare a [.GtE] [b] pos) (op2 geD f1 f2) := fe_cmp op_ge (int0_ok fun _ _ _ => rfl) ha hb (nomark _)
end
def mulD : D → D → Option D
  | .int i, .int j => if (-(2 ^ 64) < i ∧ i < 2 ^ 64) ∨ (-(2 ^ 64) < j ∧ j < 2 ^ 64) then some (.int (i * j)) else none
  | .lst xs, .int k => if -(2 ^ 63) ≤ k ∧ k < 2 ^ 63 ∧ xs.length * k.toNat ≤ sizeLine then some (.lst (List.replicate k.toNat xs).flatten) else none
  | .tup xs, .int k => if xs ≠ [] ∧ 2 ≤ k ∧ k ≤ 1000 ∧ xs.length ≤ 1000 then some (.tup (List.replicate k.toNat xs).flatten) else none
  | _, _ => none
def rMulA (K : Frg) : R2 := fun x y H Q => (rI CMul fun i j => .int (i * j)) x y H Q ∨ rRep x y H Q ∨ rRepT K x y H Q
theorem op_mulA : OpR X (binaryOp .Mult) (rMulA X.K) := op_mul.or (op_rep.or op_repT)
theorem mul_ok : Op2 X (rMulA X.K) mulD := by
  intro F Γ σ H G d1 d2 v1 v2 x Q R r1 r2 e q
  unfold mulD at e
  split at e
  · split at e
    · rename_i hz
      cases e
      exact .inl ⟨_, _, r1.int, r2.int, hz, q _ _ _ R (Le.refl G) rfl⟩
    · cases e
  · split at e
    · rename_i hz
      cases e
      obtain ⟨l1, vs1, rfl, h1, q1⟩ := r1.lst R.gh
      refine .inr (.inl ⟨l1, _, vs1, rfl, r2.int, h1, hz.1, hz.2.1, by rw [q1.len]; exact hz.2.2, fun p hp => ?_⟩)
      exact q _ _ _ (R.new hp) (Le.upd (R.gNone hp)) ⟨p, _, rfl, upd_same, Reps.le (Le.upd (R.gNone hp)) _ _ (q1.rep _)⟩
    · cases e
  · split at e
    · rename_i hz
      cases e
      obtain ⟨l1, vs1, rfl, h1, q1⟩ := r1.tup
      refine .inr (.inr ⟨l1, _, vs1, rfl, r2.int, SqT.le R.gh h1, fun z => hz.1 ?_, hz.2.1, hz.2.2.1, by rw [q1.len]; exact hz.2.2.2, fun p hp => ?_⟩)
      · subst z
        have := q1.len
        exact List.length_eq_zero_iff.mp this.symm
      · exact q _ _ _ (R.new hp) (Le.upd (R.gNone hp)) ⟨p, _, rfl, .of upd_same, Reps.le (Le.upd (R.gNone hp)) _ _ (q1.rep _)⟩
    · cases e
  · cases e
theorem fe_mul (ha : FE X W a f1) (hb : FE X W b f2) : FE X W (.BinOp a .Mult b pos) (op2 mulD f1 f2) := fe_op op_mulA mul_ok ha hb
def eqP (x y : D) : Option Bool := match x.py, y.py with
  | some p, some q => if SeqAt.shaped p && SeqAt.shaped q then some (PyData.eqv p q) else none
  | _, _ => none
def eqB : D → D → Option Bool
  | .str a, .str b => some (decide (a = b))
  | x, y => eqP x y
def eqD (x y : D) : Option D := (eqB x y).map D.bl
def neD (x y : D) : Option D := (eqB x y).map fun b => D.bl !b
theorem eqB_dp {K : Frg} {F : Fr} {Γ : En} {σ : St} {H G : Hp} {x y : D} {v w : V} {b : Bool} (R : Rl K F Γ σ H G) (r1 : LRep K G H x v) (r2 : LRep K G H y w) (e : eqB x y = some b) :
    (scal v w = true ∧ decide (v = w) = b) ∨ ∃ p q, Dp K H v p ∧ Dp K H w q ∧ SeqAt.shaped p = true ∧ SeqAt.shaped q = true ∧ PyData.eqv p q = b := by
  unfold eqB at e
  split at e
  · rename_i s t
    cases e
    left
    rw [r1.str, r2.str]
    refine ⟨rfl, ?_⟩
    rw [Bool.eq_iff_iff, decide_eq_true_iff, decide_eq_true_iff]
    exact ⟨fun h => V.str.inj h, fun h => by rw [h]⟩
  · right
    unfold eqP at e
    split at e
    · rename_i p q h1 h2
      split at e
      · rename_i hs
        cases e
        obtain ⟨s1, s2⟩ := Bool.and_eq_true_iff.mp hs
        exact ⟨p, q, Rep.dp _ v p h1 (r1.rep R.gh), Rep.dp _ w q h2 (r2.rep R.gh), s1, s2, rfl⟩
      · cases e
    · cases e
theorem op_eqA (hu : X.A.units + 64 < cLine) : OpR X (compareOp .Eq) (fun x y H Q => rEq x y H Q ∨ rEqD X.K x y H Q) := op_eq.or (op_eqD hu)
theorem op_neA (hu : X.A.units + 64 < cLine) : OpR X (compareOp .NotEq) (fun x y H Q => rNe x y H Q ∨ rNeD X.K x y H Q) := op_ne.or (op_neD hu)
theorem eq_ok : Op2 X (fun x y H Q => rEq x y H Q ∨ rEqD X.K x y H Q) eqD := by
  intro F Γ σ H G d1 d2 v1 v2 x Q R r1 r2 e q
  obtain ⟨b, e', rfl⟩ := Option.map_eq_some_iff.mp (show (eqB d1 d2).map D.bl = some x from e)
  rcases eqB_dp R r1 r2 e' with ⟨h1, rfl⟩ | ⟨p, p', h1, h2, h3, h4, rfl⟩
  · exact .inl ⟨h1, q _ _ _ R (Le.refl G) rfl⟩
  · exact .inr ⟨p, p', h1, h2, h3, h4, q _ _ _ R (Le.refl G) rfl⟩
theorem ne_ok : Op2 X (fun x y H Q => rNe x y H Q ∨ rNeD X.K x y H Q) neD := by
  intro F Γ σ H G d1 d2 v1 v2 x Q R r1 r2 e q
  obtain ⟨b, e', rfl⟩ := Option.map_eq_some_iff.mp (show (eqB d1 d2).map (fun b => D.bl !b) = some x from e)
  rcases eqB_dp R r1 r2 e' with ⟨h1, rfl⟩ | ⟨p, p', h1, h2, h3, h4, rfl⟩
  · exact .inl ⟨h1, q _ _ _ R (Le.refl G) rfl⟩
  · exact .inr ⟨p, p', h1, h2, h3, h4, q _ _ _ R (Le.refl G) rfl⟩
theorem fe_eq (hu : X.A.units + 64 < cLine) (ha : FE X W a f1) (hb : FE X W b f2) : FE X W (.Compare a [.Eq] [b] pos) (op2 eqD f1 f2) := fe_cmp (op_eqA hu) eq_ok ha hb (nomark _)
def D.isNon : D → Bool
  | .non => true
  | _ => false
theorem Rep.isNon {K : Frg} {G : Hp} {d : D} {v : V} (h : Rep K G d v) : decide (v = .non) = d.isNon := by
  cases d with
  | non => rw [show v = .non from h]; rfl
  | bl _ => rw [show v = .bl _ from h]; rfl
  | int _ => rw [show v = .int _ from h]; rfl
  | str _ => rw [show v = .str _ from h]; rfl
  | lst _ => obtain ⟨a, _, rfl, _⟩ := h; rfl
  | tup _ => obtain ⟨a, _, rfl, _⟩ := h; rfl
  | scr _ => obtain ⟨a, rfl, _⟩ := h; rfl
  | dk _ _ => obtain ⟨a, _, rfl, _⟩ := h; rfl
  | fk _ _ => obtain ⟨a, _, _, rfl, _⟩ := h; rfl
  | dn _ _ _ => obtain ⟨a, _, _, _, rfl, _⟩ := h; rfl
  | ins _ _ _ => obtain ⟨a, _, _, rfl, _⟩ := h; rfl
  | exn _ _ _ _ _ => obtain ⟨rfl, _⟩ := h; rfl
  | err _ _ _ => obtain ⟨a, _, rfl, _⟩ := h; rfl
  | cls _ => rw [show v = .ref _ from h]; rfl
def isND (x y : D) : Option D := if y.isNon then some (.bl x.isNon) else none
def notND (x y : D) : Option D := if y.isNon then some (.bl (!x.isNon)) else none
end FL

set_option Elab.async false
set_option linter.all false
set_option maxRecDepth 100000
set_option maxHeartbeats 4000000
namespace FL
open PySem PySem.Spec PyProof.Rows L2
variable [Wrl] [Tabl]
variable {X : Cx} {W : WX} {e a b c : Expr} {f g f1 f2 f3 : EF} {t1 t2 : TF} {pos : Pos}
def asB (ev : EV) (Γ : En) : O Bool := match ev with
  | .d (.bl k) => .ok k Γ
  | _ => .fail
def tstE (f : EF) : TF := fun Γ => (f Γ).bind asB
theorem out_asB {K : Frg} {F : Fr} {Γ : En} {σ : St} {H G : Hp} {ev : EV} {v : V} (R : Rl K F Γ σ H G) (r : vrel K σ G ev v) : Out K W eqrel F σ G (fun Q => ∃ c, v = .bl c ∧ Q c H) (asB ev Γ) := by
  unfold asB
  split
  · exact fun Q q => ⟨_, r, q _ H G R (Le.refl G) rfl⟩
  · trivial
theorem sem_tst {K : Frg} {t : TE} (s : Sem K W (vrel K) t f) : Sem K W eqrel (fun σ H (Q : Bool → Hp → Prop) => t σ H fun x H1 => ∃ c, x = .bl c ∧ Q c H1) (tstE f) :=
  Sem.bind (T := fun x σ H Q => ∃ c, x = .bl c ∧ Q c H) s fun F Γ σ H G ev v R r => out_asB R r
theorem ft_val (h : FE X W e f) (he : ∀ whole, isTrue e X.env whole = (do let v ← whole; standAt e.pos; holding [v] (truthy v)) := by intro _; rfl) : FT X W e (tstE f) := by
  obtain ⟨t, p, s⟩ := h
  exact ⟨_, pt_val p he, sem_tst s⟩
theorem ft_cmp {op : CmpOp} {r : R2} {g : D → D → Option D} (ho : OpR X (compareOp op) r) (hs : Op2 X r g) (ha : FE X W a f1) (hb : FE X W b f2) (hm : behindInMarks op b = false) : FT X W (.Compare a [op] [b] pos) (tstE (op2 g f1 f2)) := by
  obtain ⟨u1, p1, s1⟩ := ha
  obtain ⟨u2, p2, s2⟩ := hb
  exact ⟨_, pt_cmpR ho p1 p2 hm, sem_tst (sem_op2 hs s1 s2)⟩
def andT (t1 t2 : TF) : TF := fun Γ => (t1 Γ).bind fun k Γ1 => if k then t2 Γ1 else .ok false Γ1
def orT (t1 t2 : TF) : TF := fun Γ => (t1 Γ).bind fun k Γ1 => if k then .ok true Γ1 else t2 Γ1
def notT (t : TF) : TF := fun Γ => (t Γ).bind fun k Γ1 => .ok (!k) Γ1
theorem ft_of (h : FW X W e t1) : FT X W e t1 := by
  obtain ⟨t, p, s⟩ := h
  exact ⟨t, p.pt, s⟩
theorem fw_or1 (ha : FT X W a t1) : FW X W (.BoolOp .Or [a] pos) t1 := by
  obtain ⟨t, p, s⟩ := ha
  exact ⟨t, pw_or1 p, s⟩
theorem sem_ite {K : Frg} {α β : Type} {rel : Rel α β} {u1 u2 : St → Hp → (β → Hp → Prop) → Prop} {g1 g2 : En → O α} (h1 : Sem K W rel u1 g1) (h2 : Sem K W rel u2 g2) :
    SemK K W eqrel rel (fun (b : Bool) σ H Q => if b = true then u1 σ H Q else u2 σ H Q) (fun (k : Bool) Γ => if k then g1 Γ else g2 Γ) := fun F Γ σ H G k k' R r => by
  cases (show k' = k from r)
  cases k with
  | true => simpa using h1 F Γ σ H G R
  | false => simpa using h2 F Γ σ H G R
theorem sem_okb {K : Frg} {k : Bool} : Sem K W eqrel (fun _ H Q => Q k H) (fun Γ => .ok k Γ) := fun F Γ σ H G R Q q => q k H G R (Le.refl G) rfl
theorem fw_or {rest : List Expr} (ha : FT X W a t1) (hb : FW X W (.BoolOp .Or (b :: rest) pos) t2) : FW X W (.BoolOp .Or (a :: b :: rest) pos) (orT t1 t2) := by
  obtain ⟨u1, p1, s1⟩ := ha
  obtain ⟨u2, p2, s2⟩ := hb
  exact ⟨_, pw_or p1 p2, Sem.bind (T := fun (b : Bool) σ H Q => if b = true then Q true H else u2 σ H Q) s1 (sem_ite sem_okb s2)⟩
theorem ft_not (ha : FT X W a t1) : FT X W (.UnaryOp .Not a pos) (notT t1) := by
  obtain ⟨u1, p1, s1⟩ := ha
  refine ⟨_, pt_not p1, Sem.bind (T := fun c _ H Q => Q (!c) H) s1 fun F Γ σ H G k k' R r => ?_⟩
  cases (show k' = k from r)
  exact fun Q q => q _ H G R (Le.refl G) rfl
def andE (f1 f2 : EF) : EF := fun Γ => (tstE f1 Γ).bind fun k Γ1 => if k then f2 Γ1 else .ok (.d (.bl false)) Γ1
def orE (f1 f2 : EF) : EF := fun Γ => (tstE f1 Γ).bind fun k Γ1 => if k then .ok (.d (.bl true)) Γ1 else f2 Γ1
def notE (f : EF) : EF := fun Γ => (tstE f Γ).bind fun k Γ1 => .ok (.d (.bl (!k))) Γ1
theorem fe_one {op} (h : FE X W a f) : FE X W (.BoolOp op [a] pos) f := by
  obtain ⟨t, p, s⟩ := h
  exact ⟨t, pe_one p, s⟩
theorem fe_and {rest : List Expr} (ha : FE X W a f1) (hb : FE X W (.BoolOp .And (b :: rest) pos) f2) : FE X W (.BoolOp .And (a :: b :: rest) pos) (andE f1 f2) := by
  obtain ⟨u1, p1, s1⟩ := ha
  obtain ⟨u2, p2, s2⟩ := hb
  refine ⟨_, pe_and p1 p2, fun F Γ σ H G R => ?_⟩
  have h := Sem.bind (sem_tst s1) (sem_ite (rel := vrel X.K) s2 (sem_c (x := .bl false) (v := .bl false) fun _ => rfl)) F Γ σ H G R
  exact h
def ifE (t : TF) (f1 f2 : EF) : EF := fun Γ => (t Γ).bind fun k Γ1 => if k then f1 Γ1 else f2 Γ1
def chn3 (g g' : D → D → Option D) (f3 : EF) (e1 e2 : EV) (Γ : En) : O EV := (asB3 (fin2 g e1 e2 Γ)).bind fun k Γ2 => if k then (f3 Γ2).bind fun e3 Γ3 => fin2 g' e2 e3 Γ3 else .ok (.d (.bl false)) Γ2
where asB3 (o : O EV) : O Bool := o.bind asB
def chnE (g g' : D → D → Option D) (f1 f2 f3 : EF) : EF := fun Γ => (f1 Γ).bind fun e1 Γ1 => (f2 Γ1).bind fun e2 Γ2 => chn3 g g' f3 e1 e2 Γ2
def aNil : AF := fun Γ => .ok [] Γ
def aCons (f : EF) (r : AF) : AF := fun Γ => (f Γ).bind fun e Γ1 => (r Γ1).bind fun es Γ2 => .ok (e :: es) Γ2
theorem fa_nil : FA X W [] aNil := ⟨_, pa_nil, fun F Γ σ H G R Q q => q [] H G R (Le.refl G) .nil⟩
theorem fa_cons {es : List Expr} {r : AF} (ha : FE X W e f) (hr : FA X W es r) (hs : starEach (e :: es) X.env = (false, eval e X.env) :: starEach es X.env := by rfl) : FA X W (e :: es) (aCons f r) := by
  obtain ⟨u1, p1, s1⟩ := ha
  obtain ⟨u2, p2, s2⟩ := hr
  refine ⟨_, pa_cons p1 p2 hs, Sem.bind (T := fun x σ H Q => u2 σ H fun xs H2 => Q (x :: xs) H2) s1 (SemK.bind (T := fun x xs (σ : St) H Q => Q (x :: xs) H) (vrel_mono X.K) s2.toK fun F Γ σ H G a b a' b' R r r' => ?_)⟩
  exact fun Q q => q _ H G R (Le.refl G) (.cons r r')
def looks (Γ : En) : List EV → Option (List D)
  | [] => some []
  | e :: es => (e.look Γ).bind fun x => (looks Γ es).bind fun xs => some (x :: xs)
def LReps (K : Frg) (G H : Hp) : List D → List V → Prop := Paired (LRep K G H)
theorem Rl.looks {K : Frg} {F : Fr} {Γ : En} {σ : St} {H G : Hp} (R : Rl K F Γ σ H G) : ∀ {es : List EV} {vs : List V} {xs : List D}, Paired (vrel K σ G) es vs → FL.looks Γ es = some xs → LReps K G H xs vs
  | _, _, _, .nil, e => by cases e; exact .nil
  | _, _, _, .cons r t, e => by
    unfold FL.looks at e
    obtain ⟨x, e1, e⟩ := Option.bind_eq_some_iff.mp e
    obtain ⟨xs, e2, e⟩ := Option.bind_eq_some_iff.mp e
    cases e
    exact .cons (R.look r e1) (R.looks t e2)
def finN (g : List D → Option D) (es : List EV) (Γ : En) : O EV := match looks Γ es with
  | some xs => (match g xs with | some x => .ok (.d x) Γ | none => .fail)
  | none => .fail
def opN (g : List D → Option D) (r : AF) : EF := fun Γ => (r Γ).bind (finN g)
def OpN (X : Cx) (r : List V → Hp → VK → Prop) (g : List D → Option D) : Prop := ∀ (F : Fr) (Γ : En) (σ : St) (H G : Hp) (ds : List D) (vs : List V) (x : D) (Q : VK), Rl X.K F Γ σ H G → LReps X.K G H ds vs → g ds = some x →
  Kont X.K F Γ σ G x Q → r vs H Q
theorem out_finN {r : List V → Hp → VK → Prop} {g : List D → Option D} (ho : OpN X r g) {F : Fr} {Γ : En} {σ : St} {H G : Hp} {es : List EV} {vs : List V} (R : Rl X.K F Γ σ H G) (rs : vsrel X.K σ G es vs) :
    Out X.K W (vrel X.K) F σ G (fun Q => r vs H Q) (finN g es Γ) := by
  unfold finN
  split
  · rename_i xs e1
    split
    · rename_i x e2
      exact fun Q q => ho F Γ σ H G xs vs x Q R (R.looks rs e1) e2 q
    · trivial
  · trivial
theorem sem_opN {r : List V → Hp → VK → Prop} {g : List D → Option D} {t : TA} {u : AF} (ho : OpN X r g) (h : Sem X.K W (vsrel X.K) t u) : Sem X.K W (vrel X.K) (tCB r t) (opN g u) :=
  Sem.bind (T := fun b σ H Q => r b H Q) h fun F Γ σ H G es vs R rs => out_finN ho R rs
theorem fe_blt {x : Str} {p : Pos} {es : List Expr} {r : List V → Hp → VK → Prop} {g : List D → Option D} {u : AF} {id : String} (hc : CallR X (.builtin id) r) (ho : OpN X r g) (hm : X.mg x = none) (hv : bootBuiltins x = some (.builtin id)) (ha : FA X W (e :: es) u) (hg : Gl X x := by rfl) (hn : x ≠ "__name__" := by decide) (hdb : (x == ("__debug__" : Str)) = false := by decide)
    (he : starEach (e :: es) X.env = (false, eval e X.env) :: starEach es X.env := by rfl) (hpl : (backTo pos (starEach es X.env)).any (·.1) = false := by rfl) : FE X W (.Call (.Name x p) (e :: es) [] pos) (opN g u) := by
  obtain ⟨t, p, s⟩ := ha
  exact ⟨_, pe_callB hc hg hm hv p hn hdb he hpl, sem_opN ho s⟩
theorem fe_bty {x : Str} {p : Pos} {es : List Expr} {r : List V → Hp → VK → Prop} {g : List D → Option D} {u : AF} {T : String} (hc : CallR X (.type T) r) (ho : OpN X r g) (hm : X.mg x = none) (hv : bootBuiltins x = some (.type T)) (ha : FA X W (e :: es) u) (hg : Gl X x := by rfl) (hn : x ≠ "__name__" := by decide) (hdb : (x == ("__debug__" : Str)) = false := by decide)
    (he : starEach (e :: es) X.env = (false, eval e X.env) :: starEach es X.env := by rfl) (hpl : (backTo pos (starEach es X.env)).any (·.1) = false := by rfl) : FE X W (.Call (.Name x p) (e :: es) [] pos) (opN g u) := by
  obtain ⟨t, p, s⟩ := ha
  exact ⟨_, pe_callTy hc hg hm hv p hn hdb he hpl, sem_opN ho s⟩
end FL

set_option Elab.async false
set_option linter.all false
set_option maxRecDepth 100000
set_option maxHeartbeats 4000000
namespace FL
open PySem PySem.Spec PyProof.Rows L2
variable [Wrl] [Tabl]
variable {X : Cx} {W : WX} {e a b c o : Expr} {f g f1 f2 f3 fo fa : EF} {t1 t2 : TF} {pos apos : Pos}
def getD : D → D → Option D
  | .lst xs, .int i => atI xs i
  | .tup xs, .int i => atI xs i
  | .str x, .int i => if x.length ≤ sizeLine then (atI x.cps.toList i).map fun c => .str ⟨#[c]⟩ else none
  | .scr ns, .int i => (atI ns i).map D.int
  | _, _ => none
theorem Reps.atI {K : Frg} {G : Hp} {ds : List D} {vs : List V} {i : Int} {d : D} (r : Reps K G ds vs) (h : L2.atI ds i = some d) : ∃ v, L2.atI vs i = some v ∧ Rep K G d v := by
  unfold L2.atI at h ⊢
  rw [r.len]
  obtain ⟨j, h1, h2⟩ := Option.bind_eq_some_iff.mp h
  obtain ⟨v, h3, h4⟩ := r.getD h2
  exact ⟨v, by rw [h1]; exact h3, h4⟩
theorem atI_map {α β : Type} (g : α → β) (xs : List α) (i : Int) : atI (xs.map g) i = (atI xs i).map g := by
  unfold L2.atI
  rw [List.length_map]
  cases ixN xs.length i with
  | none => rfl
  | some j => simp
theorem get_ok : Op2 X (rIx X.K) getD := by
  intro F Γ σ H G d1 d2 v1 v2 x Q R r1 r2 e q
  unfold getD at e
  split at e
  · obtain ⟨a, vs, rfl, h, r⟩ := r1.lst R.gh
    obtain ⟨v, h1, h2⟩ := r.atI e
    exact .inl ⟨a, vs, _, v, rfl, r2.int, .of h, h1, q _ _ _ R (Le.refl G) h2⟩
  · obtain ⟨a, vs, rfl, h, r⟩ := r1.tup
    obtain ⟨v, h1, h2⟩ := r.atI e
    exact .inr (.inl ⟨a, vs, _, v, rfl, r2.int, SqT.le R.gh h, h1, q _ _ _ R (Le.refl G) h2⟩)
  · split at e
    · rename_i hz
      obtain ⟨c, h1, rfl⟩ := Option.map_eq_some_iff.mp e
      exact .inr (.inr ⟨_, _, c, r1.str, r2.int, hz, h1, q _ _ _ R (Le.refl G) rfl⟩)
    · cases e
  · rename_i ns i
    obtain ⟨n, h1, rfl⟩ := Option.map_eq_some_iff.mp e
    obtain ⟨a, rfl, h⟩ := r1.flat (fun o => by cases o <;> (intro z; cases z))
    exact .inl ⟨a, _, _, .int n, rfl, r2.int, SqL.le R.gh h, by rw [atI_map, h1]; rfl, q _ _ _ R (Le.refl G) rfl⟩
  · cases e
theorem fe_ix (ha : FE X W a f1) (hb : FE X W b f2) (hs : PlainIx b := by exact fun _ _ => rfl) : FE X W (.Subscript a b pos) (op2 getD f1 f2) := by
  obtain ⟨u1, p1, s1⟩ := ha
  obtain ⟨u2, p2, s2⟩ := hb
  exact ⟨_, pe_ix ix_seq p1 p2 hs, sem_op2 get_ok s1 s2⟩
abbrev OF := En → O (Option Int)
structure FO (X : Cx) (W : WX) (e : Option Expr) (f : OF) : Prop where
  ex : ∃ t, PO X e t ∧ Sem X.K W eqrel t f
def oNo : OF := fun Γ => .ok none Γ
def asI (ev : EV) (Γ : En) : O (Option Int) := match ev with
  | .d (.int i) => .ok (some i) Γ
  | _ => .fail
def oSome (f : EF) : OF := fun Γ => (f Γ).bind asI
theorem fo_no : FO X W none oNo := ⟨_, po_none, fun F Γ σ H G R Q q => q none H G R (Le.refl G) rfl⟩
theorem fo_some (h : FE X W e f) : FO X W (some e) (oSome f) := by
  obtain ⟨t, p, s⟩ := h
  refine ⟨_, po_some p, Sem.bind (T := fun x σ H Q => ∃ i, x = .int i ∧ Q (some i) H) s fun F Γ σ H G ev v R r => ?_⟩
  unfold asI
  split
  · exact fun Q q => ⟨_, r, q _ H G R (Le.refl G) rfl⟩
  · trivial
def cutL {α : Type} (xs : List α) (lo hi : Option Int) : List α := (xs.drop (HT.sIx xs.length 0 lo)).take (HT.sIx xs.length xs.length hi - HT.sIx xs.length 0 lo)
def cutD (lo hi : Option Int) : D → Option D
  | .lst xs => some (.lst (cutL xs lo hi))
  | .tup xs => some (.tup (cutL xs lo hi))
  | .str x => if x.length ≤ sizeLine then some (.str (cutS x lo hi)) else none
  | .scr ns => some (.lst ((cutL ns lo hi).map D.int))
  | _ => none
def fin3 (ev : EV) (lo hi : Option Int) (Γ : En) : O EV := match (ev.look Γ).bind (cutD lo hi) with
  | some x => .ok (.d x) Γ
  | none => .fail
def slE (f : EF) (l h : OF) : EF := fun Γ => (f Γ).bind fun ev Γ1 => (l Γ1).bind fun lo Γ2 => (h Γ2).bind fun hi Γ3 => fin3 ev lo hi Γ3
def rSlX (K : Frg) : V → Option Int → Option Int → Hp → VK → Prop := fun x lo hi H Q => rSlL K x lo hi H Q ∨ rSlA K x lo hi H Q ∨ rSlS x lo hi H Q
theorem sl_any : SlR X (rSlX X.K) := sl_list.or (sl_tupA.or sl_str)
theorem cutV_ints (ns : List Int) (lo hi : Option Int) : cutV (ns.map V.int) lo hi = (cutL ns lo hi).map V.int := by
  unfold cutV cutL
  rw [List.length_map, List.map_take, List.map_drop]
theorem out_fin3 {F : Fr} {Γ : En} {σ : St} {H G : Hp} {ev : EV} {v : V} {lo hi : Option Int} (R : Rl X.K F Γ σ H G) (r : vrel X.K σ G ev v) : Out X.K W (vrel X.K) F σ G (fun Q => rSlX X.K v lo hi H Q) (fin3 ev lo hi Γ) := by
  unfold fin3
  split
  · rename_i x e
    obtain ⟨y, e1, e2⟩ := Option.bind_eq_some_iff.mp e
    have r := R.look r e1
    intro Q q
    unfold cutD at e2
    split at e2
    · cases e2
      obtain ⟨a, vs, rfl, h, r⟩ := r.lst R.gh
      refine .inl ⟨a, vs, rfl, .of h, fun p hp => ?_⟩
      exact q _ _ _ (R.new hp) (Le.upd (R.gNone hp)) ⟨p, _, rfl, upd_same, Reps.le (Le.upd (R.gNone hp)) _ _ (r.cut lo hi)⟩
    · cases e2
      obtain ⟨a, vs, rfl, h, r⟩ := r.tup
      refine .inr (.inl ⟨a, vs, rfl, SqT.le R.gh h, fun z => ?_, fun z p hp => ?_⟩)
      · have c := r.cut lo hi
        have e : cutV vs lo hi = vs := by
          unfold cutV
          rw [z.1, z.2]
          simp
        rw [e] at c
        exact q _ _ _ R (Le.refl G) ⟨a, vs, rfl, h, c⟩
      · exact q _ _ _ (R.new hp) (Le.upd (R.gNone hp)) ⟨p, _, rfl, .of upd_same, Reps.le (Le.upd (R.gNone hp)) _ _ (r.cut lo hi)⟩
    · split at e2
      · rename_i hz
        cases e2
        exact .inr (.inr ⟨_, r.str, hz, q _ _ _ R (Le.refl G) rfl⟩)
      · cases e2
    · cases e2
      obtain ⟨a, rfl, h⟩ := r.flat (fun o => by cases o <;> (intro z; cases z))
      refine .inl ⟨a, _, rfl, SqL.le R.gh h, fun p hp => ?_⟩
      exact q _ _ _ (R.new hp) (Le.upd (R.gNone hp)) ⟨p, _, rfl, upd_same, by rw [cutV_ints]; exact Reps.of_ints _⟩
    · cases e2
  · trivial
theorem fe_sl {lo hi : Option Expr} {l h : OF} {p2 : Pos} (ha : FE X W a f) (hl : FO X W lo l) (hh : FO X W hi h) : FE X W (.Subscript a (.Slice lo hi none p2) pos) (slE f l h) := by
  obtain ⟨u1, p1, s1⟩ := ha
  obtain ⟨u2, p2, s2⟩ := hl
  obtain ⟨u3, p3, s3⟩ := hh
  refine ⟨_, pe_slice sl_any p1 p2 p3, fun F Γ σ H G R => ?_⟩
  refine Out.bind (T' := fun x H1 Q => u2 σ H1 fun l H2 => u3 σ H2 fun u H3 => rSlX X.K x l u H3 Q) (s1 F Γ σ H G R) fun ev Γ1 v H1 G1 R1 _ r1 => ?_
  refine Out.bind (T' := fun l H2 Q => u3 σ H2 fun u H3 => rSlX X.K v l u H3 Q) (s2 F Γ1 σ H1 G1 R1) fun lo Γ2 lo' H2 G2 R2 le2 r2 => ?_
  cases (show lo' = lo from r2)
  refine Out.bind (T' := fun u H3 Q => rSlX X.K v lo u H3 Q) (s3 F Γ2 σ H2 G2 R2) fun hi Γ3 hi' H3 G3 R3 le3 r3 => ?_
  cases (show hi' = hi from r3)
  exact out_fin3 R3 (vrel_mono _ _ _ _ _ _ (le2.trans le3) r1)
def frz1 (ev : EV) (Γ : En) : Option (D × En) := match ev with
  | .d x => some (x, Γ)
  | .own i => (match Γ[i]? with
    | some (.acc o) => some (o.d, Γ.set i (.im o.d))
    | some (.im x) => some (x, Γ)
    | _ => none)
def frzs : List EV → En → Option (List D × En)
  | [], Γ => some ([], Γ)
  | e :: es, Γ => (frz1 e Γ).bind fun p => (frzs es p.2).bind fun q => some (p.1 :: q.1, q.2)
theorem Rl.frz1 {K : Frg} {F : Fr} {Γ Γ' : En} {σ : St} {H G : Hp} {ev : EV} {v : V} {x : D} (R : Rl K F Γ σ H G) (r : vrel K σ G ev v) (e : FL.frz1 ev Γ = some (x, Γ')) : ∃ G', Rl K F Γ' σ H G' ∧ Le G G' ∧ Rep K G' x v := by
  unfold FL.frz1 at e
  split at e
  · cases e
    exact ⟨G, R, Le.refl G, r⟩
  · split at e
    · rename_i o h
      cases e
      obtain ⟨w, G', h1, R', le, rp⟩ := R.freeze h
      rw [show σ[_]? = some (some v) from r] at h1
      cases h1
      exact ⟨G', R', le, rp⟩
    · rename_i y h
      cases e
      obtain ⟨w, h1, rp⟩ := R.sl _ _ h
      rw [show σ[_]? = some (some v) from r] at h1
      cases h1
      exact ⟨G, R, Le.refl G, rp⟩
    · cases e
theorem Rl.frzs {K : Frg} {F : Fr} {σ : St} {H : Hp} : ∀ {es : List EV} {vs : List V} {xs : List D} {Γ Γ' : En} {G : Hp}, Rl K F Γ σ H G → Paired (vrel K σ G) es vs → FL.frzs es Γ = some (xs, Γ') → ∃ G', Rl K F Γ' σ H G' ∧ Le G G' ∧ Reps K G' xs vs
  | _, _, _, _, _, G, R, .nil, e => by cases e; exact ⟨G, R, Le.refl G, rfl⟩
  | _, _, _, _, _, G, R, .cons r t, e => by
    unfold FL.frzs at e
    obtain ⟨⟨x, Γ1⟩, e1, e⟩ := Option.bind_eq_some_iff.mp e
    obtain ⟨⟨xs, Γ2⟩, e2, e⟩ := Option.bind_eq_some_iff.mp e
    cases e
    obtain ⟨G1, R1, le1, r1⟩ := R.frz1 r e1
    obtain ⟨G2, R2, le2, r2⟩ := Rl.frzs R1 (vsrel_mono K _ _ _ _ _ le1 t) e2
    exact ⟨G2, R2, le1.trans le2, ⟨_, _, rfl, Rep.le le2 _ _ r1, r2⟩⟩
def finT (mk : List D → D) (es : List EV) (Γ : En) : O EV := match frzs es Γ with
  | some (xs, Γ') => if xs.length ≤ sizeLine then .ok (.d (mk xs)) Γ' else .fail
  | none => .fail
def tupE (r : AF) : EF := fun Γ => (r Γ).bind (finT .tup)
def lstE (r : AF) : EF := fun Γ => (r Γ).bind (finT .lst)
theorem Paired.len {α β : Type} {R : α → β → Prop} : ∀ {xs : List α} {ys : List β}, Paired R xs ys → ys.length = xs.length
  | _, _, .nil => rfl
  | _, _, .cons _ t => by rw [List.length_cons, List.length_cons, Paired.len t]
theorem fe_tup {es : List Expr} {r : AF} {x1} (h : FA X W es r) : FE X W (.Tuple es x1 pos) (tupE r) := by
  obtain ⟨t, p, s⟩ := h
  refine ⟨_, pe_tup p, Sem.bind (T := fun (xs : List V) σ H1 (Q : VK) => xs.length ≤ sizeLine ∧ ∀ p, H1 p = none → Q (.ref p) (upd H1 p (.tup xs))) s fun F Γ σ H G es vs R rs => ?_⟩
  unfold finT
  split
  · rename_i xs Γ' e
    split
    · rename_i hz
      intro Q q
      obtain ⟨G', R', le, rp⟩ := R.frzs rs e
      refine ⟨by rw [rp.len]; exact hz, fun p hp => ?_⟩
      exact q _ _ _ (R'.new hp) (le.trans (Le.upd (R'.gNone hp))) ⟨p, _, rfl, .of upd_same, Reps.le (Le.upd (R'.gNone hp)) _ _ rp⟩
    · trivial
  · trivial
theorem fe_lst {es : List Expr} {r : AF} (h : FA X W es r) : FE X W (.List es pos) (lstE r) := by
  obtain ⟨t, p, s⟩ := h
  refine ⟨_, pe_lst p, Sem.bind (T := fun (xs : List V) σ H1 (Q : VK) => xs.length ≤ sizeLine ∧ ∀ p, H1 p = none → Q (.ref p) (upd H1 p (.lst xs))) s fun F Γ σ H G es vs R rs => ?_⟩
  unfold finT
  split
  · rename_i xs Γ' e
    split
    · rename_i hz
      intro Q q
      obtain ⟨G', R', le, rp⟩ := R.frzs rs e
      refine ⟨by rw [rp.len]; exact hz, fun p hp => ?_⟩
      exact q _ _ _ (R'.new hp) (le.trans (Le.upd (R'.gNone hp))) ⟨p, _, rfl, upd_same, Reps.le (Le.upd (R'.gNone hp)) _ _ rp⟩
    · trivial
  · trivial
def starI (ev : EV) (Γ : En) : O (List EV) := match ev.look Γ with
  | some (.tup xs) => .ok (xs.map EV.d) Γ
  | some (.lst xs) => .ok (xs.map EV.d) Γ
  | _ => .fail
def aStar (f : EF) (r : AF) : AF := fun Γ => (f Γ).bind fun e Γ1 => (starI e Γ1).bind fun xs Γ1' => (r Γ1').bind fun es Γ2 => .ok (xs ++ es) Γ2
theorem Reps.ev {K : Frg} {σ : St} {G : Hp} : ∀ {ds : List D} {vs : List V}, Reps K G ds vs → Paired (vrel K σ G) (ds.map EV.d) vs
  | [], _, e => by rw [show _ = [] from e]; exact .nil
  | d :: ds, _, ⟨v, r, e, h, t⟩ => by subst e; exact .cons h (Reps.ev t)
theorem Paired.app {α β : Type} {R : α → β → Prop} : ∀ {xs us : List α} {ys ws : List β}, Paired R xs ys → Paired R us ws → Paired R (xs ++ us) (ys ++ ws)
  | _, _, _, _, .nil, q => q
  | _, _, _, _, .cons h t, q => .cons h (Paired.app t q)
def D.flat : D → Option V
  | .non => some .non
  | .bl b => some (.bl b)
  | .int i => some (.int i)
  | .str x => some (.str x)
  | _ => none
theorem Rep.flat {K : Frg} {G : Hp} {d : D} {v w : V} (h : Rep K G d v) (e : d.flat = some w) : v = w ∧ flatV w = true := by
  cases d with
  | non => cases e; exact ⟨h, rfl⟩
  | bl b => cases e; exact ⟨h, rfl⟩
  | int i => cases e; exact ⟨h, rfl⟩
  | str x => cases e; exact ⟨h, rfl⟩
  | _ => cases e
end FL

set_option Elab.async false
set_option linter.all false
set_option maxRecDepth 100000
set_option maxHeartbeats 4000000
namespace FL
open PySem PySem.Spec PyProof.Rows L2
variable [Wrl] [Tabl]
variable {X : Cx} {W : WX} {e a b c o : Expr} {f g f1 f2 f3 fo fa : EF} {t1 t2 : TF} {pos apos : Pos} {es : List Expr} {u : AF}
def one (g : D → Option D) : List D → Option D
  | [x] => g x
  | _ => none
def Op1 (X : Cx) (r : V → Hp → VK → Prop) (g : D → Option D) : Prop := ∀ (F : Fr) (Γ : En) (σ : St) (H G : Hp) (d : D) (v : V) (x : D) (Q : VK), Rl X.K F Γ σ H G → LRep X.K G H d v → g d = some x → Kont X.K F Γ σ G x Q → r v H Q
theorem opN_one {r : List V → Hp → VK → Prop} {g : D → Option D} (h : Op1 X (fun v => r [v]) g) : OpN X r (one g) := by
  intro F Γ σ H G ds vs x Q R rs e q
  cases rs with
  | nil => cases e
  | cons r1 t =>
    cases t with
    | nil => exact h F Γ σ H G _ _ x Q R r1 e q
    | cons _ _ => cases e
def lenD : D → Option D
  | .lst xs => some (.int xs.length)
  | .tup xs => some (.int xs.length)
  | .str x => if x.length ≤ sizeLine then some (.int x.length) else none
  | .scr ns => some (.int ns.length)
  | _ => none
theorem len_ok : Op1 X (fun v H Q => ∃ x n, [v] = [x] ∧ LenV X.K x H n ∧ Q (.int n) H) lenD := by
  intro F Γ σ H G d v x Q R r e q
  unfold lenD at e
  split at e
  · cases e
    obtain ⟨a, vs, rfl, h, r⟩ := r.lst R.gh
    exact ⟨_, _, rfl, .inl ⟨vs, .of h, rfl⟩, q _ _ _ R (Le.refl G) (by rw [← r.len]; rfl)⟩
  · cases e
    obtain ⟨a, vs, rfl, h, r⟩ := r.tup
    exact ⟨_, _, rfl, .inr ⟨vs, SqT.le R.gh h, rfl⟩, q _ _ _ R (Le.refl G) (by rw [← r.len]; rfl)⟩
  · split at e
    · rename_i hz
      cases e
      rw [r.str]
      exact ⟨_, _, rfl, ⟨hz, rfl⟩, q _ _ _ R (Le.refl G) rfl⟩
    · cases e
  · cases e
    obtain ⟨a, rfl, h⟩ := r.flat (fun o => by cases o <;> (intro z; cases z))
    exact ⟨_, _, rfl, .inl ⟨_, SqL.le R.gh h, rfl⟩, q _ _ _ R (Le.refl G) (by rw [List.length_map]; rfl)⟩
  · cases e
theorem fe_len {p : Pos} (hm : X.mg "len" = none) (ha : FE X W e f) (hg : Gl X "len" := by rfl) (he : starEach [e] X.env = (false, eval e X.env) :: starEach [] X.env := by rfl) : FE X W (.Call (.Name "len" p) [e] [] pos) (opN (one lenD) (aCons f aNil)) :=
  fe_blt call_len (opN_one len_ok) hm PySem.boot_len (fa_cons ha fa_nil he) hg (he := he) (hpl := by rfl)
def tupD : D → Option D
  | .lst xs => some (.tup xs)
  | .tup xs => some (.tup xs)
  | _ => none
def intC : D → Option D
  | .int i => some (.int i)
  | .bl k => some (.int (if k then 1 else 0))
  | _ => none
theorem fe_int1 {p : Pos} (hm : X.mg "int" = none) (ha : FE X W e f) (hg : Gl X "int" := by rfl) (he : starEach [e] X.env = (false, eval e X.env) :: starEach [] X.env := by rfl) : FE X W (.Call (.Name "int" p) [e] [] pos) (opN (one intC) (aCons f aNil)) := by
  refine fe_bty call_int1 (opN_one fun F Γ σ H G d v x Q R r e q => ?_) hm (by decide +kernel) (fa_cons ha fa_nil he) hg (he := he) (hpl := by rfl)
  unfold intC at e
  split at e
  · cases e
    exact .inl ⟨_, by rw [r.int], q _ _ _ R (Le.refl G) rfl⟩
  · cases e
    exact .inr ⟨_, by rw [r.bl], q _ _ _ R (Le.refl G) rfl⟩
  · cases e
def absD : D → Option D
  | .int i => some (.int (if i < 0 then -i else i))
  | _ => none
def two (g : D → D → Option D) : List D → Option D
  | [x, y] => g x y
  | _ => none
def maxD := intD (fun _ _ => true) fun i j => .int (if j > i then j else i)
def minD := intD (fun _ _ => true) fun i j => .int (if j < i then j else i)
def dmD := intD (fun _ j => decide (0 < j ∧ j < 1073741824)) fun i j => .tup [.int (i / j), .int (i % j)]
def tyN : D → Option String
  | .non => some "NoneType"
  | .bl _ => some "bool"
  | .int _ => some "int"
  | .str _ => some "str"
  | .lst _ => some "list"
  | .tup _ => some "tuple"
  | .dk _ _ => some "dict"
  | .fk _ _ => none
  | .dn _ _ _ => none
  | .scr _ => none
  | .ins _ _ _ => none
  | .exn _ _ _ _ _ => none
  | .err _ _ _ => none
  | .cls _ => none
def isB (n : String) (x : D) : Option Bool := (tyN x).bind fun t => kitB t n
structure FC (X : Cx) (e : Expr) (u : Value) : Prop where
  ex : ∃ (c : V), ClsV c u ∧ PE X e (tC c)
theorem fc_ty {x : Str} {n : String} (hm : X.mg x = none) (hv : bootBuiltins x = some (.type n)) (hg : Gl X x := by rfl) (hn : x ≠ "__name__" := by decide) (hd : (x == ("__debug__" : Str)) = false := by decide) : FC X (.Name x pos) (.type n) :=
  ⟨.ty n, .ty n, pe_bltn hg hm hv rfl hn hd⟩
theorem fc_own {x : Str} {C : Addr} (hm : X.mg x = some (.ref C)) (hg : Gl X x := by rfl) (hd : (x == ("__debug__" : Str)) = false := by decide) : FC X (.Name x pos) (.ref C) :=
  ⟨.ref C, .own C, pe_glob hg hm rfl hd⟩
def finI (g : D → Option Bool) (ev : EV) (Γ : En) : O EV := match (ev.look Γ).bind g with
  | some k => .ok (.d (.bl k)) Γ
  | none => .fail
def isiE (g : D → Option Bool) (f : EF) : EF := fun Γ => (f Γ).bind (finI g)
def reprP (p : PyData) : Option Str := if p.showable = true ∧ p.hasDict = false ∧ p.depth ≤ 60 ∧ p.shown.length ≤ sizeLine then some p.shown else none
def reprD (x : D) : Option D := x.py.bind fun p => (reprP p).map D.str
theorem call_reprD (hg : X.A.guards = some []) (hu : X.A.units + 65 < cLine) : CallR X (.builtin "repr") (fun xs H Q => ∃ v p z, xs = [v] ∧ Dp X.K H v p ∧ reprP p = some z ∧ Q (.str z) H) := by
  intro pins s σ H xs us Q I r h
  obtain ⟨v, p, z, rfl, dp, hz, q⟩ := h
  obtain ⟨w, rfl, rv⟩ := vals1 r
  unfold reprP at hz
  split at hz
  · rename_i hc
    obtain ⟨c1, c2, c3, c4⟩ := hc
    cases hz
    obtain ⟨as, rd⟩ := Dp.reads I p v w dp rv
    have fin : ∀ h' tk, (∀ b o, s.heap.get? b = some o → h'.get? b = some o) → ∀ t, EP X pins σ Q (.str p.shown t) { s with heap := h', toks := tk } := fun h' tk hk t => ⟨.str p.shown, H, I.kept (t' := tk) hk, ⟨t, rfl⟩, q⟩
    cases dp with
    | non =>
      cases rv
      exact P.repr_of_none (fin s.heap _ (fun _ _ e => e) _)
    | bl b =>
      cases rv
      exact P.repr_of_bool (fin s.heap _ (fun _ _ e => e) _)
    | int i =>
      obtain ⟨t, rfl⟩ := rv
      exact P.repr_of_int (by simpa [PyData.showable] using c1) (fin s.heap _ (fun _ _ e => e) _)
    | str x =>
      obtain ⟨t, rfl⟩ := rv
      exact P.repr_of_str (fin s.heap _ (fun _ _ e => e) _) (by simpa only [PyData.shown] using c4)
    | lst _ _ =>
      cases rv
      exact repr_of_reads' rd c1 (fun z => by rw [c2] at z; cases z) hg (by omega) (fun _ _ e => e) (fun h' t tk hk => fin h' tk hk t) c4
    | tup _ _ =>
      cases rv
      exact repr_of_reads' rd c1 (fun z => by rw [c2] at z; cases z) hg (by omega) (fun _ _ e => e) (fun h' t tk hk => fin h' tk hk t) c4
  · cases hz
theorem fe_repr {p : Pos} (hgd : X.A.guards = some []) (hu : X.A.units + 65 < cLine) (hm : X.mg "repr" = none) (ha : FE X W e f) (hg : Gl X "repr" := by rfl) (he : starEach [e] X.env = (false, eval e X.env) :: starEach [] X.env := by rfl) : FE X W (.Call (.Name "repr" p) [e] [] pos) (opN (one reprD) (aCons f aNil)) := by
  refine fe_blt (call_reprD hgd hu) (opN_one fun F Γ σ H G d v x Q R r e q => ?_) hm (by decide +kernel) (fa_cons ha fa_nil he) hg (he := he) (hpl := by rfl)
  obtain ⟨p, e1, e2⟩ := Option.bind_eq_some_iff.mp (show d.py.bind (fun p => (reprP p).map D.str) = some x from e)
  obtain ⟨z, e3, rfl⟩ := Option.map_eq_some_iff.mp e2
  exact ⟨v, p, z, rfl, Rep.dp d v p e1 (r.rep R.gh), e3, q _ _ _ R (Le.refl G) rfl⟩
def isStr : EV → Bool
  | .d (.str _) => true
  | _ => false
def m1E (g : D → D → Option D) (fo fa : EF) : EF := fun Γ => (fo Γ).bind fun eo Γ1 => if isStr eo then (fa Γ1).bind fun ea Γ2 => fin2 g eo ea Γ2 else .fail
end FL

set_option Elab.async false
set_option linter.all false
set_option maxRecDepth 100000
set_option maxHeartbeats 4000000
namespace FL
open PySem PySem.Spec PyProof.Rows L2
variable [Wrl] [Tabl]
noncomputable def reb (Γ : En) (σ : St) (H G : Hp) (F : Fr) : Fr :=
  ⟨fun a => open Classical in if (∃ j, ownAt Γ j ∧ σ[j]? = some (some (V.ref a))) ∨ (∃ ps, H a = some (.tbl ps)) then none else H a, G, F.bi, F.ba⟩
section
variable {K : Frg} {F : Fr} {Γ Γ' : En} {σ σ' : St} {H H' G G' : Hp}
theorem reb_he {a : Addr} {o : HO} (h : (reb Γ σ H G F).He a = some o) : H a = some o ∧ (¬ ∃ j, ownAt Γ j ∧ σ[j]? = some (some (V.ref a))) ∧ NT o := by
  unfold reb at h
  simp only at h
  split at h
  · cases h
  · rename_i n; exact ⟨h, fun z => n (.inl z), fun ps z => n (.inr ⟨ps, by rw [h, z]⟩)⟩
theorem reb_of {a : Addr} {o : HO} (h : H a = some o) (n : ¬ ∃ j, ownAt Γ j ∧ σ[j]? = some (some (V.ref a))) (nt : NT o) : (reb Γ σ H G F).He a = some o := by
  unfold reb
  simp only
  rw [if_neg (fun z => z.elim n fun ⟨ps, e⟩ => nt ps (Option.some.inj (h.symm.trans e)))]; exact h
theorem Rl.rebase (R : Rl K F Γ σ H G) : Rl K (reb Γ σ H G F) Γ σ H G where
  len := R.len
  gh := R.gh
  ge := Le.refl G
  he := fun a o e _ => (reb_he e).1
  gn := fun a o e => .inl e
  sl := R.sl
  ac := fun i o e => by
    obtain ⟨a, u, h1, h2, h3, h4, h5, h6⟩ := R.ac i o e
    refine ⟨a, u, h1, h2, h3, ?_, h5, h6⟩
    unfold reb
    simp only
    rw [if_pos (.inl ⟨i, ⟨o, e⟩, h1⟩)]
  bo := fun i o e => by
    obtain ⟨h1, h2, ⟨w, h3⟩, h4, u, h5, h6⟩ := R.bo i o e
    refine ⟨h1, h2, ⟨u, reb_of h5 (fun ⟨j, ⟨o', ho⟩, hj⟩ => ?_) h6.nt⟩, h4, u, h5, h6⟩
    obtain ⟨a, u', g1, _, _, g4, _⟩ := R.ac j o' ho
    rw [hj] at g1
    cases g1
    have g4 : F.He F.ba = none := g4
    rw [h3] at g4; cases g4
  bb := R.bb
  tb := ⟨fun a o e => (reb_he e).2.2, R.tb.t0⟩
theorem Rl.heH (R : Rl K F Γ σ H G) {a : Addr} {o : HO} (e : F.He a = some o) : ∃ u, H a = some u ∧ NT u := by
  cases hb : F.bi with
  | none => exact ⟨o, R.he a o e (.inl hb), R.tb.ht a o e⟩
  | some i =>
    by_cases hp : a = F.ba
    · obtain ⟨o', ho⟩ := R.bb i hb
      obtain ⟨_, _, _, _, u, hu, hr⟩ := R.bo i o' ho
      exact ⟨u, by rw [hp]; exact hu, hr.nt⟩
    · exact ⟨o, R.he a o e (.inr hp), R.tb.ht a o e⟩
theorem Rl.notOwned (R : Rl K F Γ σ H G) {a : Addr} {o : HO} (e : F.He a = some o) : ¬ ∃ j, ownAt Γ j ∧ σ[j]? = some (some (V.ref a)) := fun ⟨j, ⟨o', ho⟩, hj⟩ => by
  obtain ⟨b, u', g1, _, _, g4, _⟩ := R.ac j o' ho
  rw [hj] at g1
  cases g1
  rw [e] at g4; cases g4
theorem Rl.unrebase (R : Rl K F Γ σ H G) (R' : Rl K (reb Γ σ H G F) Γ' σ' H' G') : Rl K F Γ' σ' H' G' where
  len := R'.len
  gh := R'.gh
  ge := R.ge.trans R'.ge
  he := fun a o e hb => R'.he a o (reb_of (R.he a o e hb) (R.notOwned e) (R.tb.ht a o e)) hb
  gn := fun a o e => by
    rcases R'.gn a o e with h | h
    · exact R.gn a o h
    · right
      cases q : F.He a with
      | none => rfl
      | some u =>
        obtain ⟨u', hu, nt⟩ := R.heH q
        rw [reb_of hu (R.notOwned q) nt] at h
        cases h
  sl := R'.sl
  ac := fun i o e => by
    obtain ⟨a, u, h1, h2, h3, h4, h5, h6⟩ := R'.ac i o e
    refine ⟨a, u, h1, h2, h3, ?_, h5, h6⟩
    cases q : F.He a with
    | none => rfl
    | some u =>
      obtain ⟨u', hu, nt⟩ := R.heH q
      rw [reb_of hu (R.notOwned q) nt] at h4
      cases h4
  bo := fun i o e => by
    obtain ⟨h1, h2, ⟨w, h3⟩, h4, u, h5, h6⟩ := R'.bo i o e
    refine ⟨h1, h2, ?_, h4, u, h5, h6⟩
    obtain ⟨o', ho⟩ := R.bb i h1
    obtain ⟨_, _, g3, _⟩ := R.bo i o' ho
    exact g3
  bb := R'.bb
  tb := ⟨R.tb.ht, R'.tb.t0⟩
theorem Rl.stays (R : Rl K F Γ σ H G) (R' : Rl K (reb Γ σ H G F) Γ' σ' H' G') {p : Addr} {u : HO} (hp : H p = some u) (no : ∀ j, ownAt Γ j → σ[j]? ≠ some (some (.ref p))) (hb : F.bi = none ∨ p ≠ F.ba) (hg : G p = none) (nt : NT u) :
    H' p = some u ∧ G' p = none ∧ ∀ j, ownAt Γ' j → σ'[j]? ≠ some (some (.ref p)) := by
  have e : (reb Γ σ H G F).He p = some u := reb_of hp (fun ⟨j, ho, hj⟩ => no j ho hj) nt
  refine ⟨R'.he p u e hb, ?_, fun j ho hj => R'.notOwned e ⟨j, ho, hj⟩⟩
  cases q : G' p with
  | none => rfl
  | some w =>
    rcases R'.gn p w q with h | h
    · rw [show (reb Γ σ H G F).Ge p = G p from rfl, hg] at h; cases h
    · rw [e] at h; cases h
end
inductive VV where
  | e (ev : EV) | n (o : OD)
abbrev VF := En → O VV
def New (K : Frg) (F : Fr) (Γ : En) (σ : St) (H G : Hp) (o : OD) (v : V) : Prop := ∃ (p : Addr) (u : HO), v = .ref p ∧ H p = some u ∧ G p = none ∧ F.He p = none ∧ (F.bi = none ∨ p ≠ F.ba) ∧ (∀ j, ownAt Γ j → σ[j]? ≠ some (some (.ref p))) ∧ ORep K G p o u
def vvrel (K : Frg) (F : Fr) (Γ : En) (σ : St) (H G : Hp) (x : VV) (v : V) : Prop := match x with
  | .e ev => vrel K σ G ev v
  | .n o => New K F Γ σ H G o v
def OutV {α β : Type} (K : Frg) (W : WX) (rel : Fr → En → St → Hp → Hp → α → β → Prop) (F : Fr) (σ : St) (G : Hp) (T : (β → Hp → Prop) → Prop) : O α → Prop
  | .ok a Γ' => ∀ Q : β → Hp → Prop, (∀ b H' G', Rl K F Γ' σ H' G' → Le G G' → rel F Γ' σ H' G' a b → Q b H') → T Q
  | .exc c ns fs Γ' => ∀ Q : β → Hp → Prop, (∀ cls dx H' G', Rl K F Γ' σ H' G' → Le G G' → XRep K G' c ns fs cls dx → W cls dx σ H') → T Q
  | .fail => True
def SemV {α β : Type} (K : Frg) (W : WX) (rel : Fr → En → St → Hp → Hp → α → β → Prop) (t : St → Hp → (β → Hp → Prop) → Prop) (f : En → O α) : Prop := ∀ (F : Fr) (Γ : En) (σ : St) (H G : Hp), Rl K F Γ σ H G → OutV K W rel F σ G (t σ H) (f Γ)
structure FV (X : Cx) (W : WX) (e : Expr) (f : VF) : Prop where
  ex : ∃ t, PE X e t ∧ SemV X.K W (vvrel X.K) t f
variable {X : Cx} {W : WX} {e a b c o : Expr} {f g f1 f2 f3 fo fa : EF} {t1 t2 : TF} {pos apos : Pos} {es : List Expr} {u : AF}
def vE' (f : EF) : VF := fun Γ => match f Γ with
  | .ok ev Γ' => .ok (.e ev) Γ'
  | .exc c ns fs Γ' => .exc c ns fs Γ'
  | .fail => .fail
theorem fv_e (h : FE X W e f) : FV X W e (vE' f) := by
  obtain ⟨t, p, s⟩ := h
  refine ⟨t, p, fun F Γ σ H G R => ?_⟩
  have h1 := s F Γ σ H G R
  unfold vE'
  revert h1
  cases f Γ with
  | fail => exact fun _ => trivial
  | exc c ns fs Γ' => exact fun h1 => h1
  | ok a Γ' => exact fun h1 => h1
def finL (es : List EV) (Γ : En) : O VV := match frzs es Γ with
  | some (xs, Γ') => if xs.length ≤ sizeLine then .ok (.n (.l xs)) Γ' else .fail
  | none => .fail
def lstN (r : AF) : VF := fun Γ => (r Γ).bind finL
theorem OutV.bind {α β α' β' : Type} {K : Frg} {rel : Rel α β} {rel' : Fr → En → St → Hp → Hp → α' → β' → Prop} {F : Fr} {σ : St} {G : Hp} {T : (β → Hp → Prop) → Prop} {T' : β → Hp → (β' → Hp → Prop) → Prop} {g : α → En → O α'} : ∀ {r : O α}, Out K W rel F σ G T r →
    (∀ a Γ1 b H1 G1, Rl K F Γ1 σ H1 G1 → Le G G1 → rel σ G1 a b → OutV K W rel' F σ G1 (T' b H1) (g a Γ1)) → OutV K W rel' F σ G (fun Q => T fun b H1 => T' b H1 Q) (r.bind g)
  | .fail, _, _ => trivial
  | .exc _ _ _ _, h, _ => fun Q q => h _ q
  | .ok a Γ1, h, k => by
    show OutV K W rel' F σ G _ (g a Γ1)
    cases e2 : g a Γ1 with
    | fail => trivial
    | exc c ns fs Γ' =>
      intro Q q
      refine h _ fun b H1 G1 R1 le1 r1 => ?_
      have h2 := k a Γ1 b H1 G1 R1 le1 r1
      rw [e2] at h2
      exact h2 Q fun cls dx H' G' R' le' x => q cls dx H' G' R' (le1.trans le') x
    | ok a' Γ' =>
      intro Q q
      refine h _ fun b H1 G1 R1 le1 r1 => ?_
      have h2 := k a Γ1 b H1 G1 R1 le1 r1
      rw [e2] at h2
      exact h2 Q fun b' H' G' R' le' x => q b' H' G' R' (le1.trans le') x
theorem Rl.baNe {K : Frg} {F : Fr} {Γ : En} {σ : St} {H G : Hp} (R : Rl K F Γ σ H G) {p : Addr} (h : H p = none) : F.bi = none ∨ p ≠ F.ba := by
  cases hb : F.bi with
  | none => exact .inl rfl
  | some i =>
    obtain ⟨o, ho⟩ := R.bb i hb
    obtain ⟨_, _, _, _, u, hu, _⟩ := R.bo i o ho
    exact .inr fun z => by rw [z, hu] at h; cases h
theorem Rl.newN {K : Frg} {F : Fr} {Γ : En} {σ : St} {H G : Hp} (R : Rl K F Γ σ H G) {p : Addr} {u : HO} {o : OD} (h : H p = none) (r : ORep K G p o u) : Rl K F Γ σ (upd H p u) G ∧ New K F Γ σ (upd H p u) G o (.ref p) :=
  ⟨R.newH h, p, u, rfl, upd_same, R.gNone h, R.heNone h, R.baNe h, R.noOwn h, r⟩
theorem fv_lst {r : AF} (h : FA X W es r) : FV X W (.List es pos) (lstN r) := by
  obtain ⟨t, p, s⟩ := h
  refine ⟨_, pe_lst p, fun F Γ σ H G R => ?_⟩
  refine OutV.bind (T' := fun (xs : List V) H1 (Q : VK) => xs.length ≤ sizeLine ∧ ∀ p, H1 p = none → Q (.ref p) (upd H1 p (.lst xs))) (s F Γ σ H G R) fun es Γ1 vs H1 G1 R1 _ rs => ?_
  unfold finL
  split
  · rename_i xs Γ' e
    split
    · rename_i hz
      intro Q q
      obtain ⟨G', R', le, rp⟩ := R1.frzs rs e
      refine ⟨by rw [rp.len]; exact hz, fun p hp => ?_⟩
      obtain ⟨R2, n⟩ := R'.newN (o := .l xs) hp ⟨vs, rfl, rp⟩
      exact q _ _ _ R2 le n
    · trivial
  · trivial
inductive Fl where
  | nx | br | ct | rt (d : D) | rn (o : OD)
abbrev SF := En → O Fl
def Fin (K : Frg) (F : Fr) (Γ' : En) (G : Hp) (D : Ends) : Fl → Prop
  | .nx => ∀ σ' H' G', Rl K F Γ' σ' H' G' → Le G G' → D.nx σ' H'
  | .br => ∀ σ' H' G', Rl K F Γ' σ' H' G' → Le G G' → D.bk σ' H'
  | .ct => ∀ σ' H' G', Rl K F Γ' σ' H' G' → Le G G' → D.ct σ' H'
  | .rt d => ∀ v σ' H' G', Rl K F Γ' σ' H' G' → Le G G' → Rep K G' d v → D.rt v H'
  | .rn o => ∀ v σ' H' G', Rl K F Γ' σ' H' G' → Le G G' → New K F Γ' σ' H' G' o v → D.rt v H'
def OutS (K : Frg) (W : WX) (F : Fr) (G : Hp) (T : Ends → Prop) : O Fl → Prop
  | .ok fl Γ' => ∀ D : Ends, Fin K F Γ' G D fl → T D
  | .exc c ns fs Γ' => ∀ D : Ends, (∀ cls dx σ' H' G', Rl K F Γ' σ' H' G' → Le G G' → XRep K G' c ns fs cls dx → W cls dx σ' H') → T D
  | .fail => True
def SemS (K : Frg) (W : WX) (t : TS) (f : SF) : Prop := ∀ (F : Fr) (Γ : En) (σ : St) (H G : Hp), Rl K F Γ σ H G → OutS K W F G (fun D => t D σ H) (f Γ)
structure FS (X : Cx) (W : WX) (st : Stmt) (f : SF) : Prop where
  ex : ∃ t, PS X st t ∧ SemS X.K W t f
structure FB (X : Cx) (W : WX) (sts : List Stmt) (f : SF) : Prop where
  ex : ∃ t, PSs X sts t ∧ SemS X.K W t f
theorem Fin.le {K : Frg} {F : Fr} {Γ' : En} {G G1 : Hp} {D : Ends} (l : Le G G1) : ∀ {fl : Fl}, Fin K F Γ' G D fl → Fin K F Γ' G1 D fl
  | .nx, h => fun σ' H' G' R le => h σ' H' G' R (l.trans le)
  | .br, h => fun σ' H' G' R le => h σ' H' G' R (l.trans le)
  | .ct, h => fun σ' H' G' R le => h σ' H' G' R (l.trans le)
  | .rt _, h => fun v σ' H' G' R le r => h v σ' H' G' R (l.trans le) r
  | .rn _, h => fun v σ' H' G' R le r => h v σ' H' G' R (l.trans le) r
theorem OutS.bind {α β : Type} {K : Frg} {rel : Rel α β} {F : Fr} {σ : St} {G : Hp} {T : (β → Hp → Prop) → Prop} {T' : β → Hp → Ends → Prop} {g : α → En → O Fl} : ∀ {r : O α}, Out K W rel F σ G T r →
    (∀ a Γ1 b H1 G1, Rl K F Γ1 σ H1 G1 → Le G G1 → rel σ G1 a b → OutS K W F G1 (T' b H1) (g a Γ1)) → OutS K W F G (fun D => T fun b H1 => T' b H1 D) (r.bind g)
  | .fail, _, _ => trivial
  | .exc _ _ _ _, h, _ => fun D q => h _ fun cls dx H' G' R le x => q cls dx σ H' G' R le x
  | .ok a Γ1, h, k => by
    show OutS K W F G _ (g a Γ1)
    cases e2 : g a Γ1 with
    | fail => trivial
    | exc c ns fs Γ' =>
      intro D q
      refine h _ fun b H1 G1 R1 le1 r1 => ?_
      have h2 := k a Γ1 b H1 G1 R1 le1 r1
      rw [e2] at h2
      exact h2 D fun cls dx σ' H' G' R' le' x => q cls dx σ' H' G' R' (le1.trans le') x
    | ok fl Γ' =>
      intro D q
      refine h _ fun b H1 G1 R1 le1 r1 => ?_
      have h2 := k a Γ1 b H1 G1 R1 le1 r1
      rw [e2] at h2
      exact h2 D (q.le le1)
theorem OutS.bindV {α β : Type} {K : Frg} {rel : Fr → En → St → Hp → Hp → α → β → Prop} {F : Fr} {σ : St} {G : Hp} {T : (β → Hp → Prop) → Prop} {T' : β → Hp → Ends → Prop} {g : α → En → O Fl} : ∀ {r : O α}, OutV K W rel F σ G T r →
    (∀ a Γ1 b H1 G1, Rl K F Γ1 σ H1 G1 → Le G G1 → rel F Γ1 σ H1 G1 a b → OutS K W F G1 (T' b H1) (g a Γ1)) → OutS K W F G (fun D => T fun b H1 => T' b H1 D) (r.bind g)
  | .fail, _, _ => trivial
  | .exc _ _ _ _, h, _ => fun D q => h _ fun cls dx H' G' R le x => q cls dx σ H' G' R le x
  | .ok a Γ1, h, k => by
    show OutS K W F G _ (g a Γ1)
    cases e2 : g a Γ1 with
    | fail => trivial
    | exc c ns fs Γ' =>
      intro D q
      refine h _ fun b H1 G1 R1 le1 r1 => ?_
      have h2 := k a Γ1 b H1 G1 R1 le1 r1
      rw [e2] at h2
      exact h2 D fun cls dx σ' H' G' R' le' x => q cls dx σ' H' G' R' (le1.trans le') x
    | ok fl Γ' =>
      intro D q
      refine h _ fun b H1 G1 R1 le1 r1 => ?_
      have h2 := k a Γ1 b H1 G1 R1 le1 r1
      rw [e2] at h2
      exact h2 D (q.le le1)
theorem OutS.of {K : Frg} {F : Fr} {G : Hp} {T T' : Ends → Prop} : ∀ {r : O Fl}, OutS K W F G T r → (∀ D, T D → T' D) → OutS K W F G T' r
  | .ok _ _, h, k => fun D q => k D (h D q)
  | .exc _ _ _ _, h, k => fun D q => k D (h D q)
  | .fail, _, _ => trivial
def seqS (f g : SF) : SF := fun Γ => match f Γ with
  | .ok .nx Γ1 => g Γ1
  | r => r
def nxS : SF := fun Γ => .ok .nx Γ
theorem fb_nil : FB X W [] nxS := ⟨_, pss_nil, fun F Γ σ H G R D h => h σ H G R (Le.refl G)⟩
variable {st : Stmt} {rest sts : List Stmt} {s1 s2 : SF} {f' : VF}
theorem fb_cons (h1 : FS X W st s1) (h2 : FB X W rest s2) : FB X W (st :: rest) (seqS s1 s2) := by
  obtain ⟨t1, p1, m1⟩ := h1
  obtain ⟨t2, p2, m2⟩ := h2
  refine ⟨_, pss_cons p1 p2, fun F Γ σ H G R => ?_⟩
  have h := m1 F Γ σ H G R
  unfold seqS
  split
  · rename_i Γ1 e
    rw [e] at h
    cases e2 : s2 Γ1 with
    | fail => trivial
    | exc c ns fs Γ' =>
      intro D q
      refine h _ fun σ1 H1 G1 R1 le1 => ?_
      have k := m2 F Γ1 σ1 H1 G1 R1
      rw [e2] at k
      exact k D fun cls dx σ' H' G' R' le' x => q cls dx σ' H' G' R' (le1.trans le') x
    | ok fl Γ' =>
      intro D q
      refine h _ fun σ1 H1 G1 R1 le1 => ?_
      have k := m2 F Γ1 σ1 H1 G1 R1
      rw [e2] at k
      exact k D (q.le le1)
  · rename_i r n
    revert h
    cases e : s1 Γ with
    | fail => exact fun _ => trivial
    | exc c ns fs Γ' => exact fun h D q => h _ q
    | ok fl Γ' =>
      cases fl with
      | nx => exact absurd e (n Γ')
      | br => exact fun h D q => h _ q
      | ct => exact fun h D q => h _ q
      | rt d => exact fun h D q => h _ q
      | rn o => exact fun h D q => h _ q
theorem fb_one (h : FS X W st s1) : FB X W [st] s1 := by
  obtain ⟨t1, p1, m1⟩ := h
  exact ⟨_, pss_one p1, m1⟩
def brS : SF := fun Γ => .ok .br Γ
def ctS : SF := fun Γ => .ok .ct Γ
def finR (ev : EV) (Γ : En) : O Fl := match frz1 ev Γ with
  | some (x, Γ') => .ok (.rt x) Γ'
  | none => .fail
def retS (f : EF) : SF := fun Γ => (f Γ).bind finR
theorem fs_ret (h : FE X W e f) : FS X W (.Return (some e) pos) (retS f) := by
  obtain ⟨t, p, s⟩ := h
  refine ⟨_, ps_ret p, fun F Γ σ H G R => ?_⟩
  refine OutS.bind (T' := fun v H1 D => D.rt v H1) (s F Γ σ H G R) fun ev Γ1 v H1 G1 R1 _ r1 => ?_
  unfold finR
  split
  · rename_i x Γ' e
    obtain ⟨G', R', le, rp⟩ := R1.frz1 r1 e
    exact fun D q => q v σ H1 G' R' le rp
  · trivial
def finRV (x : VV) (Γ : En) : O Fl := match x with
  | .e ev => finR ev Γ
  | .n o => .ok (.rn o) Γ
def retV (f : VF) : SF := fun Γ => (f Γ).bind finRV
theorem fs_retV (h : FV X W e f') : FS X W (.Return (some e) pos) (retV f') := by
  obtain ⟨t, p, s⟩ := h
  refine ⟨_, ps_ret p, fun F Γ σ H G R => ?_⟩
  refine OutS.bindV (T' := fun v H1 D => D.rt v H1) (s F Γ σ H G R) fun x Γ1 v H1 G1 R1 _ r1 => ?_
  unfold finRV
  split
  · rename_i ev
    unfold finR
    split
    · rename_i x Γ' e
      obtain ⟨G', R', le, rp⟩ := R1.frz1 r1 e
      exact fun D q => q v σ H1 G' R' le rp
    · trivial
  · rename_i o
    exact fun D q => q v σ H1 G1 R1 (Le.refl _) r1
theorem Rl.setNo' {K : Frg} {F : Fr} {Γ : En} {σ : St} {H G : Hp} (R : Rl K F Γ σ H G) {i : Nat} {o : OD} (h : Γ[i]? = some (.acc o)) : Rl K F (Γ.set i .no) σ H G := by
  obtain ⟨a, u, h1, _⟩ := R.ac i o h
  have k := R.setNo (i := i) (x := some (.ref a)) (fun z => by
    obtain ⟨o', e⟩ := R.bb i z
    rw [h] at e; cases e)
  rwa [show σ.set i (some (.ref a)) = σ from by
    apply List.ext_getElem? ; intro j
    by_cases e : i = j
    · subst e; rw [List.getElem?_set_self (List.getElem?_eq_some_iff.mp h1).1, h1]
    · rw [List.getElem?_set_ne e]] at k
def giv (ev : EV) (Γ : En) : O VV := match ev with
  | .d d => .ok (.e (.d d)) Γ
  | .own i => match Γ[i]? with
    | some (.acc o) => .ok (.n o) (Γ.set i .no)
    | _ => .ok (.e (.own i)) Γ
def givV (f : EF) : VF := fun Γ => (f Γ).bind giv
theorem fv_giv (h : FE X W e f) : FV X W e (givV f) := by
  obtain ⟨t, p, s⟩ := h
  refine ⟨t, p, fun F Γ σ H G R => ?_⟩
  refine OutV.bind (T' := fun v H1 Q => Q v H1) (s F Γ σ H G R) fun ev Γ1 v H1 G1 R1 _ r1 => ?_
  unfold giv
  split
  · exact fun Q q => q v H1 G1 R1 (Le.refl _) r1
  · rename_i i
    split
    · rename_i o eo
      refine fun Q q => q v H1 G1 (R1.setNo' eo) (Le.refl _) ?_
      obtain ⟨p, u, h1, h2, h3, h4, h5, h6⟩ := R1.ac i o eo
      rw [show σ[i]? = some (some v) from r1] at h1
      cases h1
      refine ⟨p, u, rfl, h2, h3, h4, ?_, fun j ⟨o', ho'⟩ hj => ?_, h5⟩
      · cases hb : F.bi with
        | none => exact .inl rfl
        | some k =>
          obtain ⟨ob, hob⟩ := R1.bb k hb
          obtain ⟨_, _, ⟨w, g3⟩, _⟩ := R1.bo k ob hob
          exact .inr fun z => by rw [z, g3] at h4; cases h4
      · rcases get_set ho' with ⟨_, _, z⟩ | ⟨hk, z⟩
        · cases z
        · exact h6 j (fun q => hk q) ⟨o', z⟩ hj
    · exact fun Q q => q v H1 G1 R1 (Le.refl _) r1
def retN : SF := fun Γ => .ok (.rt .non) Γ
def exprS (f : EF) : SF := fun Γ => (f Γ).bind fun _ Γ1 => .ok .nx Γ1
def ifS (t : TF) (s1 s2 : SF) : SF := fun Γ => (t Γ).bind fun k Γ1 => if k then s1 Γ1 else s2 Γ1
theorem fs_if {sa sb : List Stmt} (hc : FT X W c t1) (ha : FB X W sa s1) (hb : FB X W sb s2) : FS X W (.If c sa sb pos) (ifS t1 s1 s2) := by
  obtain ⟨u1, p1, m1⟩ := hc
  obtain ⟨u2, p2, m2⟩ := ha
  obtain ⟨u3, p3, m3⟩ := hb
  refine ⟨_, ps_if p1 p2 p3, fun F Γ σ H G R => ?_⟩
  refine OutS.bind (T' := fun (b : Bool) H1 D => if b = true then u2 D σ H1 else u3 D σ H1) (m1 F Γ σ H G R) fun k Γ1 k' H1 G1 R1 _ r1 => ?_
  cases (show k' = k from r1)
  cases k with
  | true => exact m2 F Γ1 σ H1 G1 R1
  | false => exact m3 F Γ1 σ H1 G1 R1
def isBor (Γ : En) (i : Nat) : Bool := match Γ[i]? with
  | some (.bor _) => true
  | _ => false
theorem Rl.notBor {K : Frg} {F : Fr} {Γ : En} {σ : St} {H G : Hp} (R : Rl K F Γ σ H G) {i : Nat} (h : isBor Γ i = false) : F.bi ≠ some i := fun z => by
  obtain ⟨o, e⟩ := R.bb i z
  unfold isBor at h
  rw [e] at h
  cases h
def stoV (i : Nat) (x : VV) (Γ : En) : O Fl := match x with
  | .e ev => (match frz1 ev Γ with
    | some (d, Γ') => if isBor Γ' i = false then .ok .nx (Γ'.set i (.im d)) else .fail
    | none => .fail)
  | .n o => if isBor Γ i = false then .ok .nx (Γ.set i (.acc o)) else .fail
def asgV (i : Nat) (f : VF) : SF := fun Γ => (f Γ).bind (stoV i)
theorem out_sto {K : Frg} {F : Fr} {Γ : En} {σ : St} {H G : Hp} {i : Nat} {x : VV} {v : V} (R : Rl K F Γ σ H G) (r : vvrel K F Γ σ H G x v) : OutS K W F G (fun D => D.nx (σ.set i (some v)) H) (stoV i x Γ) := by
  unfold stoV
  split
  · split
    · rename_i d Γ' e
      split
      · rename_i hb
        obtain ⟨G', R', le, rp⟩ := R.frz1 r e
        exact fun D q => q _ H G' (R'.setIm (R'.notBor hb) rp) le
      · trivial
    · trivial
  · split
    · rename_i o hb
      obtain ⟨p, u, rfl, h1, h2, h3, _, h4, h5⟩ := r
      exact fun D q => q _ H G (R.setAcc (R.notBor hb) h1 h2 h3 h4 h5) (Le.refl G)
    · trivial
theorem fs_asg {i : Nat} {x : Str} {f : VF} {p' : Pos} (h : FV X W e f) (hN : X.N.Nodup) (hi : X.N[i]? = some x) (hx : Loc X.env.scope x) (hs : swapsWith e (some (.Name x p')) pos.line X.env = pure false := by rfl) (hf : X.fn x = true ∨ X.env.scope.names.lookup x = some .local := by first | exact .inl rfl | exact .inr rfl | assumption) :
    FS X W (.Assign [.Name x p'] e pos) (asgV i f) := by
  obtain ⟨t, p, s⟩ := h
  refine ⟨_, ps_set hN hi hx p hs hf, fun F Γ σ H G R => ?_⟩
  exact OutS.bindV (T' := fun v H1 D => D.nx (σ.set i (some v)) H1) (s F Γ σ H G R) fun x Γ1 v H1 G1 R1 _ r1 => out_sto R1 r1
abbrev BF := D → En → Option En
def Keeps (sl : List Nat) (σ σ' : St) : Prop := σ'.length = σ.length ∧ ∀ i, i ∉ sl → σ'[i]? = σ[i]?
theorem Keeps.refl (sl : List Nat) (σ : St) : Keeps sl σ σ := ⟨rfl, fun _ _ => rfl⟩
theorem Keeps.trans {sl sl' : List Nat} {σ σ1 σ2 : St} (h : Keeps sl σ σ1) (k : Keeps sl' σ1 σ2) : Keeps (sl ++ sl') σ σ2 :=
  ⟨k.1.trans h.1, fun i hi => (k.2 i fun z => hi (List.mem_append_right _ z)).trans (h.2 i fun z => hi (List.mem_append_left _ z))⟩
structure FG (X : Cx) (tg : Expr) (b : BF) (sl : List Nat) : Prop where
  ex : ∃ g : TG, PG X tg g ∧ ∀ (F : Fr) (Γ : En) (σ : St) (H G : Hp) (d : D) (v : V) (Γ' : En), Rl X.K F Γ σ H G → Rep X.K G d v → b d Γ = some Γ' → ∀ Q : St → Hp → Prop, (∀ σ' H' G', Rl X.K F Γ' σ' H' G' → Le G G' → Keeps sl σ σ' → Q σ' H') → g v σ H Q
structure FGs (X : Cx) (tgs : List Expr) (b : List D → En → Option En) (sl : List Nat) : Prop where
  ex : ∃ g : TGs, PGs X tgs g ∧ ∀ (F : Fr) (Γ : En) (σ : St) (H G : Hp) (d : List D) (v : List V) (Γ' : En), Rl X.K F Γ σ H G → Reps X.K G d v → b d Γ = some Γ' → ∀ Q : St → Hp → Prop, (∀ σ' H' G', Rl X.K F Γ' σ' H' G' → Le G G' → Keeps sl σ σ' → Q σ' H') → g v σ H Q
def bName (i : Nat) : BF := fun d Γ => if isBor Γ i = false then some (Γ.set i (.im d)) else none
theorem fg_name {i : Nat} {x : Str} (hN : X.N.Nodup) (hi : X.N[i]? = some x) (hx : Loc X.env.scope x) (hf : X.fn x = true ∨ X.env.scope.names.lookup x = some .local := by first | exact .inl rfl | exact .inr rfl | assumption) : FG X (.Name x pos) (bName i) [i] :=
  ⟨_, pg_name hN hi hx hf, fun F Γ σ H G d v Γ' R r e Q q => by
    unfold bName at e
    split at e
    · rename_i hb
      cases e
      exact q _ H G (R.setIm (R.notBor hb) r) (Le.refl G) ⟨by rw [List.length_set], fun k hk => List.getElem?_set_ne (fun z => hk (by simp [z]))⟩
    · cases e⟩
def bNil : List D → En → Option En
  | [], Γ => some Γ
  | _, _ => none
def bCons (b : BF) (r : List D → En → Option En) : List D → En → Option En
  | d :: ds, Γ => (b d Γ).bind fun Γ1 => r ds Γ1
  | _, _ => none
def stoB (b : BF) (ev : EV) (Γ : En) : O Fl := match frz1 ev Γ with
  | some (d, Γ1) => (match b d Γ1 with
    | some Γ2 => .ok .nx Γ2
    | none => .fail)
  | none => .fail
def asgB (b : BF) (f : EF) : SF := fun Γ => (f Γ).bind (stoB b)
end FL

set_option Elab.async false
set_option linter.all false
set_option maxRecDepth 100000
set_option maxHeartbeats 4000000
namespace FL
open PySem PySem.Spec PyProof.Rows L2
variable [Wrl] [Tabl]
variable {X : Cx} {W : WX} {e a b c o : Expr} {f g f1 f2 f3 fo fa : EF} {t1 t2 : TF} {pos apos : Pos} {es : List Expr} {u : AF}
def vvs (K : Frg) (F : Fr) (Γ : En) (σ : St) (H G : Hp) : List VV → List V → Prop
  | [], vs => vs = []
  | x :: xs, vs => ∃ v r, vs = v :: r ∧ vvrel K F Γ σ H G x v ∧ vvs K F Γ σ H G xs r ∧ ∀ o, x = .n o → ∀ (k : Nat) o', xs[k]? = some (.n o') → r[k]? ≠ some v
theorem New.stays {K : Frg} {F : Fr} {Γ Γ' : En} {σ : St} {H H' G G' : Hp} (R : Rl K F Γ σ H G) (R' : Rl K (reb Γ σ H G F) Γ' σ H' G') (le : Le G G') {o : OD} {v : V} (n : New K F Γ σ H G o v) : New K F Γ' σ H' G' o v := by
  obtain ⟨p, u, h1, h2, h3, h4, h5, h6, h7⟩ := n
  obtain ⟨g1, g2, g3⟩ := R.stays R' h2 h6 h5 h3 h7.nt
  exact ⟨p, u, h1, g1, g2, h4, h5, g3, h7.le le⟩
abbrev VAF := En → O (List VV)
structure FVA (X : Cx) (W : WX) (es : List Expr) (f : VAF) : Prop where
  ex : ∃ t, PA X es t ∧ SemV X.K W (vvs X.K) t f
def vNil : VAF := fun Γ => .ok [] Γ
def vCons (f : VF) (r : VAF) : VAF := fun Γ => (f Γ).bind fun x Γ1 => (r Γ1).bind fun xs Γ2 => .ok (x :: xs) Γ2
def setAll (σ : St) : List Nat → List V → St
  | i :: is, v :: vs => setAll (σ.set i (some v)) is vs
  | _, _ => σ
def offOwn (i : Nat) : List VV → Bool
  | [] => true
  | .e (.own j) :: xs => decide (j ≠ i) && offOwn i xs
  | _ :: xs => offOwn i xs
def stoP : List Nat → List VV → En → O Fl
  | [], [], Γ => .ok .nx Γ
  | i :: is, x :: xs, Γ => if offOwn i xs then seqS (stoV i x) (stoP is xs) Γ else .fail
  | _, _, _ => .fail
def parS (is : List Nat) (f : VAF) : SF := fun Γ => (f Γ).bind (stoP is)
end FL

set_option Elab.async false
set_option linter.all false
set_option maxRecDepth 100000
set_option maxHeartbeats 4000000
namespace FL
open PySem PySem.Spec PyProof.Rows L2
variable [Wrl] [Tabl]
variable {X : Cx} {W : WX} {e a b c o : Expr} {f g f1 f2 f3 fo fa : EF} {t1 t2 : TF} {pos apos : Pos} {es : List Expr} {u : AF}
def putOwn (Γ : En) (i : Nat) (o : OD) : En := match Γ[i]? with
  | some (.acc _) => Γ.set i (.acc o)
  | some (.bor _) => Γ.set i (.bor o)
  | _ => Γ
theorem Rl.own {K : Frg} {F : Fr} {Γ : En} {σ : St} {H G : Hp} (R : Rl K F Γ σ H G) {i : Nat} {o : OD} (h : ownD Γ i = some o) : ∃ p u, σ[i]? = some (some (V.ref p)) ∧ H p = some u ∧ G p = none ∧ ORep K G p o u ∧
    ∀ o' u', ORep K G p o' u' → Rl K F (putOwn Γ i o') σ (upd H p u') G := by
  unfold ownD at h
  split at h
  · rename_i o' e
    cases h
    obtain ⟨a, u, h1, h2, h3, h4, h5, h6⟩ := R.ac i o e
    refine ⟨a, u, h1, h2, h3, h5, fun o' u' r => ?_⟩
    unfold putOwn
    rw [e]
    exact R.setOwn e h1 r
  · rename_i o' e
    cases h
    obtain ⟨h1, h2, h3, h4, u, h5, h6⟩ := R.bo i o e
    refine ⟨F.ba, u, h2, h5, h4, h6, fun o' u' r => ?_⟩
    unfold putOwn
    rw [e]
    exact R.setBor e r
  · cases h
def finApp (i : Nat) (ev : EV) (Γ : En) : O Fl := match frz1 ev Γ with
  | some (d, Γ1) => (match ownD Γ1 i with
    | some (.l xs) => if xs.length < sizeLine then .ok .nx (putOwn Γ1 i (.l (xs ++ [d]))) else .fail
    | _ => .fail)
  | none => .fail
def isOwnL (Γ : En) (i : Nat) : Bool := match ownD Γ i with
  | some (.l _) => true
  | _ => false
def appS (i : Nat) (f : EF) : SF := fun Γ => if isOwnL Γ i then (f Γ).bind (finApp i) else .fail
theorem isOwnL_ok {Γ : En} {i : Nat} (h : isOwnL Γ i = true) : ∃ xs, ownD Γ i = some (.l xs) := by
  unfold isOwnL at h
  split at h
  · rename_i xs e; exact ⟨xs, e⟩
  · cases h
theorem fs_append {i : Nat} {x : Str} {p p2 : Pos} (ha : FE X W e f) (hN : X.N[i]? = some x) (hv : Vis X.env.scope x) (hd : (x == ("__debug__" : Str)) = false := by decide) (hcd : (x == ("__classdict__" : Str)) = false := by decide)
    (hbase : attributeBase (.Name x p) "append" X.env (eval (.Name x p) X.env) = eval (.Name x p) X.env := by rfl)
    (hfew : ((backTo p2 (starEach [e] X.env)).all (fun x => !x.1) && (backToKw p2 (keywordEach [] X.env)).all (fun x => x.1.isSome)
      && decide (([e] : List Expr).length + ([] : List Keyword).length + (if ([] : List Keyword).isEmpty then 0 else 1) < 30)) = true := by rfl)
    (hline : (apos.endLine == p2.line) = true := by rfl) (hs : starEach [e] X.env = (false, eval e X.env) :: starEach [] X.env := by rfl)
    (hsw : swapsWith (.Call (.Attribute (.Name x p) "append" apos) [e] [] p2) none pos.line X.env = pure false := by rfl) :
    FS X W (.Expr (.Call (.Attribute (.Name x p) "append" apos) [e] [] p2) pos) (appS i f) := by
  obtain ⟨t, pt, s⟩ := ha
  refine ⟨_, ps_expr (pe_bm PySem.F.plainAttrs_list PySem.F.slot_list_append PySem.F.type_list_append mt_append (pe_var hN hv hd hcd) (pa_cons pt pa_nil hs) hbase hfew hline hs (by rfl)) hsw, fun F Γ σ H G R => ?_⟩
  unfold appS
  split
  · rename_i hi
    obtain ⟨ys, ey⟩ := isOwnL_ok hi
    obtain ⟨q0, u0, h0, h1, h2, h3, _⟩ := R.own ey
    obtain ⟨vs0, rfl, _⟩ := h3
    refine OutS.of (OutS.bind (T' := fun v H2 D => rAppend (V.ref q0) [v] H2 fun _ H3 => D.nx σ H3) (s F Γ σ H G R) fun ev Γ1 v H1 G1 R1 le1 r1 => ?_) fun D q => ⟨_, h0, .inl ⟨rfl, _, .of h1⟩, q⟩
    unfold finApp
    split
    · rename_i d Γ2 e2
      obtain ⟨G2, R2, le2, rp⟩ := R1.frz1 r1 e2
      split
      · rename_i xs ex
        split
        · rename_i hz
          obtain ⟨p, u, g1, g2, g3, g4, k⟩ := R2.own ex
          obtain ⟨vs, rfl, g4⟩ := g4
          rw [h0] at g1
          cases g1
          exact fun D q => ⟨_, vs, v, rfl, rfl, g2, by rw [g4.len]; exact hz, q σ _ G2 (k (.l (xs ++ [d])) _ ⟨_, rfl, g4.append (Reps.cons rp Reps.nil)⟩) le2⟩
        · trivial
      · trivial
    · trivial
  · trivial
def finSet (i : Nat) (d : D) (k : Int) (Γ : En) : Option En := match ownD Γ i with
  | some (.l xs) => (ixN xs.length k).map fun j => putOwn Γ i (.l (xs.set j d))
  | _ => none
def bSub (i : Nat) (k : Int) : BF := fun d Γ => finSet i d k Γ
def Walks (K : Frg) (J : It) (ds : List D) (G0 : Hp) : Prop := ∀ (F : Fr) (Γ : En) (σ : St) (H G : Hp) (i : Nat), Rl K F Γ σ H G → Le G0 G →
  (∀ d, ds[i]? = some d → J.go i H ∧ ∀ x H', J.yld i H x H' → ∃ G', Rl K F Γ σ H' G' ∧ Le G G' ∧ Rep K G' d x ∧ (H' = H ∨ ∃ p o, H p = none ∧ H' = upd H p o)) ∧ (ds.length ≤ i → J.stop i H)
abbrev IF := En → O (List D)
def OutI (K : Frg) (W : WX) (F : Fr) (σ : St) (G : Hp) (T : (It → Hp → Prop) → Prop) : O (List D) → Prop
  | .ok ds Γ' => ∀ R : It → Hp → Prop, (∀ J H' G', Rl K F Γ' σ H' G' → Le G G' → Walks K J ds G' → R J H') → T R
  | .exc c ns fs Γ' => ∀ R : It → Hp → Prop, (∀ cls dx H' G', Rl K F Γ' σ H' G' → Le G G' → XRep K G' c ns fs cls dx → W cls dx σ H') → T R
  | .fail => True
structure FI (X : Cx) (W : WX) (tg e : Expr) (f : IF) : Prop where
  ex : ∃ wi, PI X tg e wi ∧ ∀ (F : Fr) (Γ : En) (σ : St) (H G : Hp), Rl X.K F Γ σ H G → OutI X.K W F σ G (wi σ H) (f Γ)
theorem OutI.bind {α β : Type} {K : Frg} {rel : Rel α β} {F : Fr} {σ : St} {G : Hp} {T : (β → Hp → Prop) → Prop} {T' : β → Hp → (It → Hp → Prop) → Prop} {g : α → En → O (List D)} : ∀ {r : O α}, Out K W rel F σ G T r →
    (∀ a Γ1 b H1 G1, Rl K F Γ1 σ H1 G1 → Le G G1 → rel σ G1 a b → OutI K W F σ G1 (T' b H1) (g a Γ1)) → OutI K W F σ G (fun Q => T fun b H1 => T' b H1 Q) (r.bind g)
  | .fail, _, _ => trivial
  | .exc _ _ _ _, h, _ => fun Q q => h _ q
  | .ok a Γ1, h, k => by
    show OutI K W F σ G _ (g a Γ1)
    cases e2 : g a Γ1 with
    | fail => trivial
    | exc c ns fs Γ' =>
      intro Q q
      refine h _ fun b H1 G1 R1 le1 r1 => ?_
      have h2 := k a Γ1 b H1 G1 R1 le1 r1
      rw [e2] at h2
      exact h2 Q fun cls dx H' G' R' le' x => q cls dx H' G' R' (le1.trans le') x
    | ok a' Γ' =>
      intro Q q
      refine h _ fun b H1 G1 R1 le1 r1 => ?_
      have h2 := k a Γ1 b H1 G1 R1 le1 r1
      rw [e2] at h2
      exact h2 Q fun J H' G' R' le' x => q J H' G' R' (le1.trans le') x
theorem walks_list {K : Frg} {a : Addr} {vs : List V} {ds : List D} {G0 : Hp} (h : G0 a = some (.lst vs)) (r : Reps K G0 ds vs) : Walks K (Itl K a) ds G0 := fun F Γ σ H G i R le => by
  have hG := le _ _ h
  have hH := R.gh _ _ hG
  have u : ∀ ys, SqL K H a ys → True := fun _ _ => trivial
  refine ⟨fun d hd => ?_, fun hi => ⟨vs, .of hH, by rw [r.len]; exact hi⟩⟩
  obtain ⟨v, h1, h2⟩ := r.getD hd
  refine ⟨⟨vs, v, .of hH, h1⟩, fun x H' y => ?_⟩
  obtain ⟨rfl, y⟩ := y
  have := y vs (.of hH)
  rw [h1] at this
  cases this
  exact ⟨G, R, Le.refl G, Rep.le le _ _ h2, .inl rfl⟩
theorem walks_tup {K : Frg} {a : Addr} {vs : List V} {ds : List D} {G0 : Hp} (h : SqT K G0 a vs) (r : Reps K G0 ds vs) : Walks K (Itt K a) ds G0 := fun F Γ σ H G i R le => by
  have hG := SqT.le le h
  have hH := SqT.le R.gh hG
  refine ⟨fun d hd => ?_, fun hi => ⟨vs, hH, by rw [r.len]; exact hi⟩⟩
  obtain ⟨v, h1, h2⟩ := r.getD hd
  refine ⟨⟨vs, v, hH, h1⟩, fun x H' y => ?_⟩
  obtain ⟨rfl, y⟩ := y
  have := y vs hH
  rw [h1] at this
  cases this
  exact ⟨G, R, Le.refl G, Rep.le le _ _ h2, .inl rfl⟩
theorem walks_range {K : Frg} {lo : Int} {n : Nat} {G0 : Hp} : Walks K (Itr lo n) ((List.range n).map fun i => D.int (lo + (i : Nat))) G0 := fun F Γ σ H G i R le => by
  refine ⟨fun d hd => ?_, fun hi => (by simpa using hi : n ≤ i)⟩
  rw [List.getElem?_map] at hd
  obtain ⟨j, h1, rfl⟩ := Option.map_eq_some_iff.mp hd
  obtain ⟨hl, h1⟩ := List.getElem?_eq_some_iff.mp h1
  rw [List.getElem_range] at h1
  subst h1
  refine ⟨(by simpa using hl : i < n), fun x H' y => ?_⟩
  obtain ⟨rfl, rfl⟩ := y
  exact ⟨G, R, Le.refl G, rfl, .inl rfl⟩
theorem walks_scr {K : Frg} {a : Addr} {ns : List Int} {G0 : Hp} (h : SqL K G0 a (ns.map V.int)) : Walks K (Itl K a) (ns.map D.int) G0 := fun F Γ σ H G i R le => by
  have hH := SqL.le R.gh (SqL.le le h)
  refine ⟨fun d hd => ?_, fun hi => ⟨_, hH, by simpa using hi⟩⟩
  rw [List.getElem?_map] at hd
  obtain ⟨j, h1, rfl⟩ := Option.map_eq_some_iff.mp hd
  have h1' : (ns.map V.int)[i]? = some (V.int j) := by rw [List.getElem?_map, h1]; rfl
  refine ⟨⟨_, _, hH, h1'⟩, fun x H' y => ?_⟩
  obtain ⟨rfl, y⟩ := y
  have := y _ hH
  rw [h1'] at this
  cases this
  exact ⟨G, R, Le.refl G, rfl, .inl rfl⟩
theorem walks_str {K : Frg} {x : Str} {G0 : Hp} : Walks K (Its x) (x.cps.toList.map fun c => D.str ⟨#[c]⟩) G0 := fun F Γ σ H G i R le => by
  refine ⟨fun d hd => ?_, fun hi => (by simpa using hi : x.cps.size ≤ i)⟩
  rw [List.getElem?_map] at hd
  obtain ⟨c, h1, rfl⟩ := Option.map_eq_some_iff.mp hd
  rw [Array.getElem?_toList] at h1
  refine ⟨(Array.getElem?_eq_some_iff.mp h1).1, fun y H' z => ?_⟩
  obtain ⟨rfl, c', h2, rfl⟩ := z
  rw [h1] at h2
  cases h2
  exact ⟨G, R, Le.refl G, rfl, .inl rfl⟩
def itL (ev : EV) (Γ : En) : O (List D) := match frz1 ev Γ with
  | some (.lst ds, Γ') => .ok ds Γ'
  | _ => .fail
def itT (ev : EV) (Γ : En) : O (List D) := match ev with
  | .d (.tup ds) => .ok ds Γ
  | _ => .fail
def itC (ev : EV) (Γ : En) : O (List D) := match ev with
  | .d (.scr ns) => .ok (ns.map D.int) Γ
  | _ => .fail
def itS (ev : EV) (Γ : En) : O (List D) := match ev with
  | .d (.str x) => .ok (x.cps.toList.map fun c => D.str ⟨#[c]⟩) Γ
  | _ => .fail
variable {tg : Expr}
theorem fi_list (h : FE X W e f) : FI X W tg e (fun Γ => (f Γ).bind itL) := by
  obtain ⟨t, p, s⟩ := h
  refine ⟨_, pi_list p, fun F Γ σ H G R => ?_⟩
  refine OutI.bind (T' := fun x H1 R => ∃ a, x = .ref a ∧ (∃ xs, SqL X.K H1 a xs) ∧ R (Itl X.K a) H1) (s F Γ σ H G R) fun ev Γ1 v H1 G1 R1 _ r1 => ?_
  unfold itL
  split
  · rename_i ds Γ' e
    obtain ⟨G', R', le, rp⟩ := R1.frz1 r1 e
    obtain ⟨a, vs, rfl, h, r⟩ := rp
    exact fun Q q => ⟨a, rfl, ⟨vs, .of (R'.gh _ _ h)⟩, q _ H1 G' R' le (walks_list h r)⟩
  · trivial
theorem fi_tup (h : FE X W e f) : FI X W tg e (fun Γ => (f Γ).bind itT) := by
  obtain ⟨t, p, s⟩ := h
  refine ⟨_, pi_tup p, fun F Γ σ H G R => ?_⟩
  refine OutI.bind (T' := fun x H1 R => ∃ a, x = .ref a ∧ (∃ xs, SqT X.K H1 a xs) ∧ R (Itt X.K a) H1) (s F Γ σ H G R) fun ev Γ1 v H1 G1 R1 _ r1 => ?_
  unfold itT
  split
  · obtain ⟨a, vs, rfl, h, r⟩ := r1
    exact fun Q q => ⟨a, rfl, ⟨vs, SqT.le R1.gh h⟩, q _ H1 G1 R1 (Le.refl _) (walks_tup h r)⟩
  · trivial
theorem fi_scr (h : FE X W e f) : FI X W tg e (fun Γ => (f Γ).bind itC) := by
  obtain ⟨t, p, s⟩ := h
  refine ⟨_, pi_list p, fun F Γ σ H G R => ?_⟩
  refine OutI.bind (T' := fun x H1 R => ∃ a, x = .ref a ∧ (∃ xs, SqL X.K H1 a xs) ∧ R (Itl X.K a) H1) (s F Γ σ H G R) fun ev Γ1 v H1 G1 R1 _ r1 => ?_
  unfold itC
  split
  · obtain ⟨a, rfl, h⟩ := r1
    exact fun Q q => ⟨a, rfl, ⟨_, SqL.le R1.gh h⟩, q _ H1 G1 R1 (Le.refl _) (walks_scr h)⟩
  · trivial
theorem fi_str (h : FE X W e f) : FI X W tg e (fun Γ => (f Γ).bind itS) := by
  obtain ⟨t, p, s⟩ := h
  refine ⟨_, pi_str p, fun F Γ σ H G R => ?_⟩
  refine OutI.bind (T' := fun v H1 R => ∃ x, v = .str x ∧ R (Its x) H1) (s F Γ σ H G R) fun ev Γ1 v H1 G1 R1 _ r1 => ?_
  unfold itS
  split
  · exact fun Q q => ⟨_, r1, q _ H1 G1 R1 (Le.refl _) walks_str⟩
  · trivial
def itR1 (es : List EV) (Γ : En) : O (List D) := match es with
  | [.d (.int j)] => if -(2 ^ 62) ≤ j ∧ j < 2 ^ 62 then .ok ((List.range j.toNat).map fun i => D.int (0 + (i : Nat))) Γ else .fail
  | _ => .fail
def itR2 (es : List EV) (Γ : En) : O (List D) := match es with
  | [.d (.int i), .d (.int j)] => if -(2 ^ 62) ≤ i ∧ i < 2 ^ 62 ∧ -(2 ^ 62) ≤ j ∧ j < 2 ^ 62 then .ok ((List.range (j - i).toNat).map fun k => D.int (i + (k : Nat))) Γ else .fail
  | _ => .fail
theorem fi_range1 {p : Pos} (hm : X.mg "range" = none) (h : FA X W [a] u) (hg : Gl X "range" := by rfl) (hs : starEach [a] X.env = [(false, eval a X.env)] := by rfl) : FI X W tg (.Call (.Name "range" p) [a] [] pos) (fun Γ => (u Γ).bind itR1) := by
  obtain ⟨t, p, s⟩ := h
  refine ⟨_, pi_range1 hg hm p hs, fun F Γ σ H G R => ?_⟩
  refine OutI.bind (T' := fun vs H1 R => ∃ j : Int, vs = [.int j] ∧ -(2 ^ 62) ≤ j ∧ j < 2 ^ 62 ∧ R (Itr 0 j.toNat) H1) (s F Γ σ H G R) fun es Γ1 vs H1 G1 R1 _ rs => ?_
  unfold itR1
  split
  · split
    · rename_i j hz
      cases rs with
      | cons r1 t =>
        cases t
        exact fun Q q => ⟨_, by rw [show _ = V.int j from r1], hz.1, hz.2, q _ H1 G1 R1 (Le.refl _) walks_range⟩
    · trivial
  · trivial
def loopS (b : BF) (body : SF) : List D → En → O Fl
  | [], Γ => .ok .nx Γ
  | d :: ds, Γ => match b d Γ with
    | none => .fail
    | some Γ1 => match body Γ1 with
      | .ok .nx Γ2 => loopS b body ds Γ2
      | .ok .ct Γ2 => loopS b body ds Γ2
      | .ok .br Γ2 => .ok .nx Γ2
      | r => r
def forS (it : IF) (b : BF) (body : SF) : SF := fun Γ => (it Γ).bind (loopS b body)
variable {sts : List Stmt} {s1 : SF}
theorem out_loop {K : Frg} {tb : TS} {g : TG} {bf : BF} {body : SF} {sl : List Nat} (mg : ∀ (F : Fr) (Γ : En) (σ : St) (H G : Hp) (d : D) (v : V) (Γ' : En), Rl K F Γ σ H G → Rep K G d v → bf d Γ = some Γ' → ∀ Q : St → Hp → Prop, (∀ σ' H' G', Rl K F Γ' σ' H' G' → Le G G' → Keeps sl σ σ' → Q σ' H') → g v σ H Q)
    (mb : SemS K W tb body) {J : It} {ds : List D} {F : Fr} {Γ : En} {σ : St} {H G : Hp} (R : Rl K F Γ σ H G) (wk : Walks K J ds G) :
    OutS K W F G (fun D => ∃ Wd : Nat → Nat → St → Hp → Prop, (∃ m, Wd 0 m σ H) ∧ ∀ i m σ H, Wd i m σ H →
      (J.stop i H ∧ D.nx σ H) ∨ (J.go i H ∧ ∃ N : St → Hp → Prop, (∀ σ' H', N σ' H' → ∃ m', m' < m ∧ Wd (i + 1) m' σ' H') ∧ ∀ x H', J.yld i H x H' → g x σ H' fun σ2 H2 => tb { D with nx := N, ct := N, bk := D.nx } σ2 H2)) (loopS bf body ds Γ) := by
  -- one statement for all ends
  have main : ∀ r, loopS bf body ds Γ = r → r ≠ .fail → ∀ D : Ends, (match r with
      | .ok fl Γ' => Fin K F Γ' G D fl
      | .exc c ns fs Γ' => ∀ cls dx σ' H' G', Rl K F Γ' σ' H' G' → Le G G' → XRep K G' c ns fs cls dx → W cls dx σ' H'
      | .fail => True) → ∃ Wd : Nat → Nat → St → Hp → Prop, (∃ m, Wd 0 m σ H) ∧ ∀ i m σ H, Wd i m σ H →
      (J.stop i H ∧ D.nx σ H) ∨ (J.go i H ∧ ∃ N : St → Hp → Prop, (∀ σ' H', N σ' H' → ∃ m', m' < m ∧ Wd (i + 1) m' σ' H') ∧ ∀ x H', J.yld i H x H' → g x σ H' fun σ2 H2 => tb { D with nx := N, ct := N, bk := D.nx } σ2 H2) := by
    intro r hr nf D hD
    refine ⟨fun i m σ H => m = ds.length - i ∧ i ≤ ds.length ∧ ∃ Γ1 G1, Rl K F Γ1 σ H G1 ∧ Le G G1 ∧ loopS bf body (ds.drop i) Γ1 = r, ⟨ds.length, by simp, Nat.zero_le _, Γ, G, R, Le.refl G, hr⟩, ?_⟩
    rintro i m σ1 H1 ⟨rfl, hi, Γ1, G1, R1, le1, e1⟩
    obtain ⟨w1, w2⟩ := wk F Γ1 σ1 H1 G1 i R1 le1
    by_cases hlt : i < ds.length
    · have hdrop : ds.drop i = ds[i] :: ds.drop (i + 1) := List.drop_eq_getElem_cons hlt
      rw [hdrop] at e1
      obtain ⟨go, yl⟩ := w1 ds[i] (List.getElem?_eq_getElem hlt)
      refine .inr ⟨go, fun σ' H' => ∃ Γ2 G2, Rl K F Γ2 σ' H' G2 ∧ Le G G2 ∧ loopS bf body (ds.drop (i + 1)) Γ2 = r, fun σ' H' ⟨Γ2, G2, R2, le2, e2⟩ => ⟨ds.length - (i + 1), by omega, rfl, hlt, Γ2, G2, R2, le2, e2⟩, fun x H' y => ?_⟩
      obtain ⟨G2, R2, le2, rx, _⟩ := yl x H' y
      unfold loopS at e1
      cases eb : bf ds[i] Γ1 with
      | none => rw [eb] at e1; exact absurd e1.symm nf
      | some Γ2 =>
        rw [eb] at e1
        refine mg F Γ1 σ1 H' G2 ds[i] x Γ2 R2 rx eb _ fun σ3 H3 G3 R3 le3 _ => ?_
        have k := mb F Γ2 σ3 H3 G3 R3
        have leA : Le G G3 := (le1.trans le2).trans le3
        simp only at e1
        cases ebd : body Γ2 with
        | fail => rw [ebd] at e1; exact absurd e1.symm nf
        | exc c ns fs Γ3 =>
          rw [ebd] at e1 k
          subst e1
          exact k _ fun cls dx σ' H' G' R' le' x => hD cls dx σ' H' G' R' (leA.trans le') x
        | ok fl Γ3 =>
          rw [ebd] at e1 k
          refine k _ ?_
          cases fl with
          | nx => exact fun σ' H' G' R' le' => ⟨Γ3, G', R', leA.trans le', e1⟩
          | ct => exact fun σ' H' G' R' le' => ⟨Γ3, G', R', leA.trans le', e1⟩
          | br =>
            simp only at e1
            subst e1
            exact fun σ' H' G' R' le' => hD σ' H' G' R' (leA.trans le')
          | rt d =>
            simp only at e1
            subst e1
            exact fun v σ' H' G' R' le' rv => hD v σ' H' G' R' (leA.trans le') rv
          | rn o =>
            simp only at e1
            subst e1
            exact fun v σ' H' G' R' le' rv => hD v σ' H' G' R' (leA.trans le') rv
    · have e : i = ds.length := by omega
      subst e
      rw [List.drop_length] at e1
      have e1 : O.ok Fl.nx Γ1 = r := e1
      subst e1
      exact .inl ⟨w2 (Nat.le_refl _), hD σ1 H1 G1 R1 le1⟩
  cases hr : loopS bf body ds Γ with
  | fail => trivial
  | exc c ns fs Γ' => exact fun D q => main _ hr (by simp) D q
  | ok fl Γ' => exact fun D q => main _ hr (by simp) D q
theorem fs_for {it : IF} {bf : BF} {sl : List Nat} (hc : X.calm = true) (hp : PassesOwn (model X.prog X.w) X.A X.env X.xe) (hi : FI X W tg e it) (hg : FG X tg bf sl) (hb : FB X W sts s1) (hs : ∀ x, foldedSetIterable e X.env x = pure x := by intro _; rfl) :
    FS X W (.For tg e sts [] pos) (forS it bf s1) := by
  obtain ⟨wi, pi, mi⟩ := hi
  obtain ⟨g, pg, mg⟩ := hg
  obtain ⟨tb, pb, mb⟩ := hb
  refine ⟨_, ps_for hp hc pi pg pb hs, fun F Γ σ H G R => ?_⟩
  have h := mi F Γ σ H G R
  unfold forS
  revert h
  cases it Γ with
  | fail => exact fun _ => trivial
  | exc c ns fs Γ' => exact fun h D q => h _ fun cls dx H' G' R' le x => q cls dx σ H' G' R' le x
  | ok ds Γ1 =>
    intro h
    show OutS X.K W F G _ (loopS bf s1 ds Γ1)
    cases hl : loopS bf s1 ds Γ1 with
    | fail => trivial
    | exc c ns fs Γ' =>
      intro D q
      refine h _ fun J H1 G1 R1 le1 wk => ?_
      have k := out_loop (W := W) mg mb R1 wk
      rw [hl] at k
      exact k D fun cls dx σ' H' G' R' le' x => q cls dx σ' H' G' R' (le1.trans le') x
    | ok fl Γ' =>
      intro D q
      refine h _ fun J H1 G1 R1 le1 wk => ?_
      have k := out_loop (W := W) mg mb R1 wk
      rw [hl] at k
      exact k D (q.le le1)
def wpE (K : Frg) (W : WX) (f : EF) : TE := fun σ H Q => ∃ F Γ G, Rl K F Γ σ H G ∧ match f Γ with
  | .ok ev Γ' => ∀ v H' G', Rl K F Γ' σ H' G' → Le G G' → vrel K σ G' ev v → Q v H'
  | .exc c ns fs Γ' => ∀ cls dx H' G', Rl K F Γ' σ H' G' → Le G G' → XRep K G' c ns fs cls dx → W cls dx σ H'
  | .fail => False
theorem FE.wp (h : FE X W e f) : PE X e (wpE X.K W f) := by
  obtain ⟨t, p, s⟩ := h
  refine ⟨fun pins s' σ H Q I q => p.run pins s' σ H Q I ?_⟩
  obtain ⟨F, Γ, G, R, q⟩ := q
  have k := s F Γ σ H G R
  revert q k
  cases f Γ with
  | fail => exact fun q _ => q.elim
  | ok ev Γ' => exact fun q k => k Q q
  | exc c ns fs Γ' => exact fun q k => k Q q
def wpT (K : Frg) (W : WX) (f : TF) : TT := fun σ H Q => ∃ F Γ G, Rl K F Γ σ H G ∧ match f Γ with
  | .ok k Γ' => ∀ H' G', Rl K F Γ' σ H' G' → Le G G' → Q k H'
  | .exc c ns fs Γ' => ∀ cls dx H' G', Rl K F Γ' σ H' G' → Le G G' → XRep K G' c ns fs cls dx → W cls dx σ H'
  | .fail => False
theorem FT.wp {t : TF} (h : FT X W e t) : PT X e (wpT X.K W t) := by
  obtain ⟨u, p, s⟩ := h
  refine ⟨fun pins s' σ H Q I q => p.run pins s' σ H Q I ?_⟩
  obtain ⟨F, Γ, G, R, q⟩ := q
  have k := s F Γ σ H G R
  revert q k
  cases t Γ with
  | fail => exact fun q _ => q.elim
  | ok b Γ' => exact fun q k => k Q fun b' H' G' R' le z => by cases z; exact q H' G' R' le
  | exc c ns fs Γ' => exact fun q k => k Q q
def wpG (K : Frg) (b : BF) (sl : List Nat) : TG := fun v σ H Q => ∃ F Γ G d Γ', Rl K F Γ σ H G ∧ Rep K G d v ∧ b d Γ = some Γ' ∧ ∀ σ' H' G', Rl K F Γ' σ' H' G' → Le G G' → Keeps sl σ σ' → Q σ' H'
theorem FG.wp {tg : Expr} {b : BF} {sl : List Nat} (h : FG X tg b sl) : PG X tg (wpG X.K b sl) := by
  obtain ⟨g, p, m⟩ := h
  refine ⟨fun pins s σ H v u Q I r q => p.run pins s σ H v u Q I r ?_⟩
  obtain ⟨F, Γ, G, d, Γ', R, rp, e, q⟩ := q
  exact m F Γ σ H G d v Γ' R rp e Q q
def wpI (K : Frg) (W : WX) (f : IF) : TI := fun σ H Q => ∃ F Γ G, Rl K F Γ σ H G ∧ match f Γ with
  | .ok ds Γ' => ∀ J H' G', Rl K F Γ' σ H' G' → Le G G' → Walks K J ds G' → Q J H'
  | .exc c ns fs Γ' => ∀ cls dx H' G', Rl K F Γ' σ H' G' → Le G G' → XRep K G' c ns fs cls dx → W cls dx σ H'
  | .fail => False
theorem FI.wp {tg : Expr} {f : IF} (h : FI X W tg e f) : PI X tg e (wpI X.K W f) := by
  obtain ⟨u, p, s⟩ := h
  refine ⟨fun pins s' σ H Q I q => p.run pins s' σ H Q I ?_⟩
  obtain ⟨F, Γ, G, R, q⟩ := q
  have k := s F Γ σ H G R
  revert q k
  cases f Γ with
  | fail => exact fun q _ => q.elim
  | ok b Γ' => exact fun q k => k Q q
  | exc c ns fs Γ' => exact fun q k => k Q q
end FL

set_option Elab.async false
set_option linter.all false
set_option maxRecDepth 100000
set_option maxHeartbeats 4000000
namespace FL
open PySem PySem.Spec PyProof.Rows L2
variable [Wrl] [Tabl]
variable {X : Cx} {W : WX} {e a b c o : Expr} {f g f1 f2 f3 fo fa : EF} {t1 t2 : TF} {pos apos : Pos} {es : List Expr} {u : AF}
def noW : WX := fun _ _ _ _ => False
def wipeΓ (Γ : En) : List Nat → En
  | [] => Γ
  | v :: vs => (wipeΓ Γ vs).set v .no
theorem wipeΓ_len (Γ : En) : ∀ vs : List Nat, (wipeΓ Γ vs).length = Γ.length
  | [] => rfl
  | v :: vs => by unfold wipeΓ; rw [List.length_set, wipeΓ_len Γ vs]
theorem wipeΓ_out {Γ : En} {i : Nat} : ∀ {vs : List Nat}, i ∉ vs → (wipeΓ Γ vs)[i]? = Γ[i]?
  | [], _ => rfl
  | v :: vs, h => by
    unfold wipeΓ
    rw [List.getElem?_set_ne (fun z => h (by simp [z]))]
    exact wipeΓ_out fun z => h (List.mem_cons_of_mem _ z)
theorem wipeΓ_in {Γ : En} {i : Nat} {x : Sl} : ∀ {vs : List Nat}, i ∈ vs → (wipeΓ Γ vs)[i]? = some x → x = .no
  | v :: vs, h, e => by
    unfold wipeΓ at e
    rcases get_set e with ⟨_, _, z⟩ | ⟨hj, z⟩
    · exact z
    · exact wipeΓ_in ((List.mem_cons.mp h).resolve_left hj) z
theorem Rl.wiped {K : Frg} {F : Fr} {Γ : En} {σ σ' : St} {H G : Hp} {vs : List Nat} (R : Rl K F Γ σ H G) (hb : ∀ v ∈ vs, F.bi ≠ some v) (hl : σ'.length = σ.length) (hs : ∀ i, i ∉ vs → σ'[i]? = σ[i]?) : Rl K F (wipeΓ Γ vs) σ' H G := by
  have out : ∀ {i : Nat} {x : Sl}, (wipeΓ Γ vs)[i]? = some x → x ≠ .no → i ∉ vs ∧ Γ[i]? = some x := fun {i x} e n => by
    by_cases hi : i ∈ vs
    · exact absurd (wipeΓ_in hi e) n
    · exact ⟨hi, by rw [wipeΓ_out hi] at e; exact e⟩
  refine ⟨by rw [wipeΓ_len, hl]; exact R.len, R.gh, R.ge, R.he, R.gn, fun i d e => ?_, fun i o e => ?_, fun i o e => ?_, fun i e => ?_, R.tb⟩
  · obtain ⟨h1, h2⟩ := out e (by simp)
    obtain ⟨v, h3, h4⟩ := R.sl i d h2
    exact ⟨v, by rw [hs i h1]; exact h3, h4⟩
  · obtain ⟨h1, h2⟩ := out e (by simp)
    obtain ⟨a, u, g1, g2, g3, g4, g5, g6⟩ := R.ac i o h2
    refine ⟨a, u, by rw [hs i h1]; exact g1, g2, g3, g4, g5, fun j hj ⟨o', ho⟩ => ?_⟩
    obtain ⟨k1, k2⟩ := out ho (by simp)
    rw [hs j k1]
    exact g6 j hj ⟨o', k2⟩
  · obtain ⟨h1, h2⟩ := out e (by simp)
    obtain ⟨g1, g2, g3⟩ := R.bo i o h2
    exact ⟨g1, by rw [hs i h1]; exact g2, g3⟩
  · obtain ⟨o, h⟩ := R.bb i e
    exact ⟨o, by rw [wipeΓ_out fun z => hb i z e]; exact h⟩
theorem wipe_in {σ : St} {i : Nat} : ∀ {vs : List Nat}, i ∈ vs → i < σ.length → (wipe σ vs)[i]? = some none
  | v :: vs, h, hl => by
    unfold wipe
    by_cases e : v = i
    · subst e; rw [List.getElem?_set_self (by rw [wipe_length]; exact hl)]
    · rw [List.getElem?_set_ne e]
      exact wipe_in ((List.mem_cons.mp h).resolve_left fun z => e z.symm) hl
theorem wipe_eq {σ σ' : St} {vs sl : List Nat} (h : Keeps sl (wipe σ vs) σ') (hs : ∀ i ∈ sl, i ∈ vs) : wipe σ' vs = wipe σ vs := by
  refine List.ext_getElem? fun i => ?_
  have hl : σ'.length = σ.length := h.1.trans (wipe_length σ vs)
  by_cases hi : i ∈ vs
  · by_cases hlt : i < σ.length
    · rw [wipe_in hi hlt, wipe_in hi (by rw [hl]; exact hlt)]
    · rw [List.getElem?_eq_none (by rw [wipe_length, hl]; omega), List.getElem?_eq_none (by rw [wipe_length]; omega)]
  · rw [wipe_out hi, h.2 i fun z => hi (hs i z)]
theorem Rl.updNew {K : Frg} {F : Fr} {Γ : En} {σ : St} {H G : Hp} (R : Rl K F Γ σ H G) {p : Addr} {o u : HO} (hu : H p = some u) (hc : NC p u) (hg : G p = none) (hn : F.He p = none) (hb : F.bi = none ∨ p ≠ F.ba) (ho : ∀ j, ownAt Γ j → σ[j]? ≠ some (some (.ref p))) : Rl K F Γ σ (upd H p o) G where
  len := R.len
  gh := fun a u e => by rw [upd_ne (ne_of_none e hg)]; exact R.gh a u e
  ge := R.ge
  he := fun a u e q => by rw [upd_ne (ne_of_none e hn)]; exact R.he a u e q
  gn := R.gn
  sl := R.sl
  ac := fun i o' e => by
    obtain ⟨a, u, h1, h2, h3, h4, h5, h6⟩ := R.ac i o' e
    have : a ≠ p := fun z => ho i ⟨o', e⟩ (by rw [h1, z])
    exact ⟨a, u, h1, by rw [upd_ne this]; exact h2, h3, h4, h5, h6⟩
  bo := fun i o' e => by
    obtain ⟨h1, h2, h3, h4, u, h5, h6⟩ := R.bo i o' e
    have : F.ba ≠ p := by
      rcases hb with z | z
      · rw [h1] at z; cases z
      · exact Ne.symm z
    exact ⟨h1, h2, h3, h4, u, by rw [upd_ne this]; exact h5, h6⟩
  bb := R.bb
  tb := R.tb.own hu hc
def cmpL (vs : List Nat) (b : BF) (tt : TF) (elt : EF) : List D → List D → En → O VV
  | [], acc, Γ => .ok (.n (.l acc)) Γ
  | d :: ds, acc, Γ => match b d (wipeΓ Γ vs) with
    | none => .fail
    | some Γ1 => match tt Γ1 with
      | .ok false Γ2 => cmpL vs b tt elt ds acc (wipeΓ Γ2 vs)
      | .ok true Γ2 => (match elt Γ2 with
        | .ok ev Γ3 => (match frz1 ev Γ3 with
          | some (x, Γ4) => if acc.length < sizeLine then cmpL vs b tt elt ds (acc ++ [x]) (wipeΓ Γ4 vs) else .fail
          | none => .fail)
        | _ => .fail)
      | _ => .fail
def noBor (Γ : En) (vs : List Nat) : Bool := vs.all fun v => !isBor Γ v
def compV (vs : List Nat) (it : IF) (b : BF) (tt : TF) (elt : EF) : VF := fun Γ => (it Γ).bind fun ds Γ1 => if noBor Γ1 vs then cmpL vs b tt elt ds [] Γ1 else .fail
def trueT : TF := fun Γ => .ok true Γ
structure FTs (X : Cx) (W : WX) (ifs : List Expr) (f : TF) : Prop where
  pt : PTs X ifs (wpT X.K W f)
theorem fts_nil : FTs X W [] trueT := ⟨⟨fun pins s σ H Q I ⟨F, Γ, G, R, q⟩ => pts_nil.run pins s σ H Q I (q H G R (Le.refl G))⟩⟩
theorem fts_one {t : TF} (h : FT X W c t) : FTs X W [c] t := ⟨pts_one h.wp⟩
theorem New.next {K : Frg} {F : Fr} {Γ Γ' : En} {σ : St} {H H' G G' : Hp} {xs : List D} {q : Addr} (n : New K F Γ σ H G (.l xs) (.ref q)) (R : Rl K F Γ σ H G) (R' : Rl K (reb Γ σ H G F) Γ' σ H' G') (le : Le G G') :
    ∃ vs, H q = some (.lst vs) ∧ H' q = some (.lst vs) ∧ Reps K G' xs vs ∧ G' q = none ∧ F.He q = none ∧ (F.bi = none ∨ q ≠ F.ba) ∧ (∀ j, ownAt Γ' j → σ[j]? ≠ some (some (.ref q))) := by
  obtain ⟨p, u, e, h2, h3, h4, h5, h6, vs, rfl, r⟩ := n
  cases e
  obtain ⟨g1, g2, g3⟩ := R.stays R' h2 h6 h5 h3 (fun _ z => by cases z)
  exact ⟨vs, h2, g1, Reps.le le _ _ r, g2, h4, h5, g3⟩
theorem out_cmp {K : Frg} {vs sl : List Nat} {bf : BF} {tt : TF} {elt : EF} (hsl : ∀ i ∈ sl, i ∈ vs) {J : It} {ds : List D} {F : Fr} {Γ : En} {σ : St} {H G : Hp} (R : Rl K F Γ σ H G) (hb : ∀ v ∈ vs, F.bi ≠ some v) (wk : Walks K J ds G) :
    OutV K W (vvrel K) F σ G (fun (Q : VK) => ∀ q, H q = none → ∃ Wd : Nat → Nat → Hp → Prop, (∃ m, Wd 0 m (upd H q (.lst []))) ∧ ∀ i m H, Wd i m H →
      (J.stop i H ∧ Q (.ref q) H) ∨ (J.go i H ∧ ∃ Nx : Hp → Prop, (∀ H', Nx H' → ∃ m', m' < m ∧ Wd (i + 1) m' H') ∧ ∀ x H', J.yld i H x H' → wpG K bf sl x (wipe σ vs) H' fun σ2 H2 => wipe σ2 vs = wipe σ vs ∧ wpT K noW tt σ2 H2 fun b H3 =>
        if b = true then wpE K noW elt σ2 H3 fun y H4 => ∃ acc, H4 q = some (.lst acc) ∧ acc.length < sizeLine ∧ Nx (upd H4 q (.lst (acc ++ [y]))) else Nx H3)) (cmpL vs bf tt elt ds [] Γ) := by
  have back : ∀ {Γ' : En} {σ' : St} {H' G' : Hp} {F' : Fr}, F'.bi = F.bi → Rl K F' Γ' σ' H' G' → σ'.length = σ.length → (∀ i, i ∉ vs → σ'[i]? = σ[i]?) → Rl K F' (wipeΓ Γ' vs) σ H' G' := fun {Γ' σ' H' G' F'} hf R' hl hs =>
    R'.wiped (by rw [hf]; exact hb) hl.symm fun i hi => (hs i hi).symm
  cases hr : cmpL vs bf tt elt ds [] Γ with
  | fail => trivial
  | exc c ns fs Γ' =>
    exfalso
    have no : ∀ (ds acc : List D) (Γ : En) c ns fs Γ', cmpL vs bf tt elt ds acc Γ ≠ .exc c ns fs Γ' := by
      intro ds
      induction ds with
      | nil => intro acc Γ c ns fs Γ' e; cases e
      | cons d ds ih =>
        intro acc Γ c ns fs Γ' e
        unfold cmpL at e
        split at e
        · cases e
        · split at e
          · exact ih _ _ _ _ _ _ e
          · split at e
            · split at e
              · split at e
                · exact ih _ _ _ _ _ _ e
                · cases e
              · cases e
            · cases e
          · cases e
    exact no _ _ _ _ _ _ _ hr
  | ok x Γf =>
    intro Q q D hD
    refine ⟨fun i m H1 => m = ds.length - i ∧ i ≤ ds.length ∧ ∃ Γ1 G1 acc, Rl K F Γ1 σ H1 G1 ∧ Le G G1 ∧ New K F Γ1 σ H1 G1 (.l acc) (.ref D) ∧ cmpL vs bf tt elt (ds.drop i) acc Γ1 = .ok x Γf, ⟨ds.length, by simp, Nat.zero_le _, Γ, G, [], ?_, Le.refl G, ?_, hr⟩, ?_⟩
    · exact R.newH hD
    · exact (R.newN (o := .l []) hD ⟨[], rfl, rfl⟩).2
    rintro i m H1 ⟨rfl, hi, Γ1, G1, acc, R1, le1, n1, e1⟩
    by_cases hlt : i < ds.length
    · have hdrop : ds.drop i = ds[i] :: ds.drop (i + 1) := List.drop_eq_getElem_cons hlt
      rw [hdrop] at e1
      have Rb := R1.rebase
      obtain ⟨go, yl⟩ := (wk _ Γ1 σ H1 G1 i Rb le1).1 ds[i] (List.getElem?_eq_getElem hlt)
      refine .inr ⟨go, fun H' => ∃ Γ2 G2 acc2, Rl K F Γ2 σ H' G2 ∧ Le G G2 ∧ New K F Γ2 σ H' G2 (.l acc2) (.ref D) ∧ cmpL vs bf tt elt (ds.drop (i + 1)) acc2 Γ2 = .ok x Γf, fun H' ⟨Γ2, G2, acc2, R2, le2, n2, e2⟩ => ⟨ds.length - (i + 1), by omega, rfl, hlt, Γ2, G2, acc2, R2, le2, n2, e2⟩, fun y H' hy => ?_⟩
      obtain ⟨G2, R2, le2, ry, _⟩ := yl y H' hy
      have R2w : Rl K (reb Γ1 σ H1 G1 F) (wipeΓ Γ1 vs) (wipe σ vs) H' G2 := R2.wiped hb (wipe_length σ vs) fun i hi => wipe_out hi
      unfold cmpL at e1
      split at e1
      · cases e1
      · rename_i Γ3 eb
        refine ⟨_, _, G2, ds[i], Γ3, R2w, ry, eb, fun σ4 H4 G4 R4 le4 kp => ⟨wipe_eq kp hsl, _, Γ3, G4, R4, ?_⟩⟩
        have hlen : σ4.length = σ.length := kp.1.trans (wipe_length σ vs)
        have hout : ∀ i, i ∉ vs → σ4[i]? = σ[i]? := fun i hi => (kp.2 i fun z => hi (hsl i z)).trans (wipe_out hi)
        split at e1
        · -- left out
          rename_i Γ5 et
          rw [et]
          intro H5 G5 R5 le5
          rw [if_neg Bool.false_ne_true]
          have R5w := back (F' := reb Γ1 σ H1 G1 F) rfl R5 hlen hout
          have leA : Le G1 G5 := (le2.trans le4).trans le5
          exact ⟨_, G5, acc, R1.unrebase R5w, le1.trans leA, New.stays R1 R5w leA n1, e1⟩
        · rename_i Γ5 et
          rw [et]
          intro H5 G5 R5 le5
          rw [if_pos rfl]
          refine ⟨_, Γ5, G5, R5, ?_⟩
          split at e1
          · rename_i ev Γ6 ee
            rw [ee]
            intro v H6 G6 R6 le6 rv
            split at e1
            · rename_i z Γ7 ez
              split at e1
              · rename_i hz
                obtain ⟨G7, R7, le7, rz⟩ := R6.frz1 rv ez
                have R7w := back (F' := reb Γ1 σ H1 G1 F) rfl R7 hlen hout
                have leA : Le G1 G7 := (((le2.trans le4).trans le5).trans le6).trans le7
                obtain ⟨ws, _, g2, g3, g4, g5, g6, g7⟩ := New.next n1 R1 R7w leA
                have R8 := (R1.unrebase R7w).updNew (o := .lst (ws ++ [v])) g2 ⟨fun _ z => (by cases z), fun _ z => by cases z⟩ g4 g5 g6 g7
                refine ⟨ws, g2, by rw [g3.len]; exact hz, _, G7, acc ++ [z], R8, le1.trans leA, ⟨D, _, rfl, upd_same, g4, g5, g6, g7, ws ++ [v], rfl, g3.append (Reps.cons rz Reps.nil)⟩, e1⟩
              · cases e1
            · cases e1
          · cases e1
        · cases e1
    · have e : i = ds.length := by omega
      subst e
      rw [List.drop_length] at e1
      have stop := (wk F Γ1 σ H1 G1 ds.length R1 le1).2 (Nat.le_refl _)
      cases e1
      exact .inl ⟨stop, q _ H1 G1 R1 le1 n1⟩
theorem noBor_ok {K : Frg} {F : Fr} {Γ : En} {σ : St} {H G : Hp} (R : Rl K F Γ σ H G) {vs : List Nat} (h : noBor Γ vs = true) : ∀ v ∈ vs, F.bi ≠ some v := fun v hv => by
  have := List.all_eq_true.mp h v hv
  exact R.notBor (by simpa using this)
section
variable {tg iter elt : Expr} {ifs : List Expr} {scope : Scope} {own : List (Str × Nat)} {it : IF} {bf : BF} {sl : List Nat} {tt : TF} {fe : EF}
theorem sem_lc {wi : TI} (mi : ∀ (F : Fr) (Γ : En) (σ : St) (H G : Hp), Rl X.K F Γ σ H G → OutI X.K W F σ G (wi σ H) (it Γ)) (hsl : ∀ i ∈ sl, i ∈ own.map (·.2)) :
    SemV X.K W (vvrel X.K) (tLc wi (wpG X.K bf sl) (wpT X.K noW tt) (wpE X.K noW fe) (own.map (·.2))) (compV (own.map (·.2)) it bf tt fe) := fun F Γ σ H G R => by
  have h := mi F Γ σ H G R
  unfold compV
  revert h
  cases it Γ with
  | fail => exact fun _ => trivial
  | exc c ns fs Γ' => exact fun h Q q => h _ q
  | ok ds Γ1 =>
    intro h
    show OutV X.K W (vvrel X.K) F σ G _ (if noBor Γ1 (own.map (·.2)) then cmpL (own.map (·.2)) bf tt fe ds [] Γ1 else .fail)
    split
    · rename_i hb
      cases hr : cmpL (own.map (·.2)) bf tt fe ds [] Γ1 with
      | fail => trivial
      | exc c ns fs Γ' =>
        intro Q q
        refine h _ fun J H1 G1 R1 le1 wk => ?_
        have k := out_cmp (W := W) (bf := bf) (tt := tt) (elt := fe) hsl R1 (noBor_ok R1 hb) wk
        rw [hr] at k
        exact k Q fun cls dx H' G' R' le' x => q cls dx H' G' R' (le1.trans le') x
      | ok x Γ' =>
        intro Q q
        refine h _ fun J H1 G1 R1 le1 wk => ?_
        have k := out_cmp (W := W) (bf := bf) (tt := tt) (elt := fe) hsl R1 (noBor_ok R1 hb) wk
        rw [hr] at k
        exact k Q fun b H' G' R' le' r => q b H' G' R' (le1.trans le') r
    · trivial
theorem fv_lc (hc : X.calm = true) (hN : X.N.Nodup) (hi : FI X W tg iter it) (ok : BlkOk X.N X.env.scope scope own) (hsl : ∀ i ∈ sl, i ∈ own.map (·.2))
    (hg : ∀ (s : Shared) (H : Hp) (C : Addr) (cl : List (Str × Addr)) (fp : List Addr), FG (X.blk s H scope (compEnvC scope cl C X.env) fp) tg bf sl) (ht : ∀ (s : Shared) (H : Hp) (C : Addr) (cl : List (Str × Addr)) (fp : List Addr), FTs (X.blk s H scope (compEnvC scope cl C X.env) fp) noW ifs tt)
    (he : ∀ (s : Shared) (H : Hp) (C : Addr) (cl : List (Str × Addr)) (fp : List Addr), FE (X.blk s H scope (compEnvC scope cl C X.env) fp) noW elt fe) (hs : ∀ x, foldedSetIterable iter X.env x = pure x := by intro _; rfl) :
    FV X W (.ListComp elt [⟨tg, iter, ifs, 0⟩] scope pos) (compV (own.map (·.2)) it bf tt fe) := by
  obtain ⟨wi, pi, mi⟩ := hi
  exact ⟨_, pe_lc (g := wpG X.K bf sl) (tt := wpT X.K noW tt) (te := wpE X.K noW fe) hc hN pi ok (fun s H C cl fp => (hg s H C cl fp).wp) (fun s H C cl fp => (ht s H C cl fp).pt) (fun s H C cl fp => (he s H C cl fp).wp) hs, sem_lc mi hsl⟩
theorem fs_setLc {i : Nat} {y : Str} {py spos : Pos} (hc : X.calm = true) (hN : X.N.Nodup) (hy : X.N[i]? = some y) (hyl : X.env.scope.names.lookup y = some .local)
    (hsw : swapsWith (.ListComp elt [⟨tg, iter, ifs, 0⟩] scope pos) (some (.Name y py)) spos.line X.env = pure true) (hi : FI X W tg iter it) (ok : BlkOk X.N X.env.scope scope own) (hsl : ∀ i ∈ sl, i ∈ own.map (·.2))
    (hg : ∀ (s : Shared) (H : Hp) (C : Addr) (cl : List (Str × Addr)) (fp : List Addr), FG (X.blk s H scope (compEnvC scope cl C X.env) fp) tg bf sl) (ht : ∀ (s : Shared) (H : Hp) (C : Addr) (cl : List (Str × Addr)) (fp : List Addr), FTs (X.blk s H scope (compEnvC scope cl C X.env) fp) noW ifs tt)
    (he : ∀ (s : Shared) (H : Hp) (C : Addr) (cl : List (Str × Addr)) (fp : List Addr), FE (X.blk s H scope (compEnvC scope cl C X.env) fp) noW elt fe) (hs : ∀ x, foldedSetIterable iter X.env x = pure x := by intro _; rfl) :
    FS X W (.Assign [.Name y py] (.ListComp elt [⟨tg, iter, ifs, 0⟩] scope pos) spos) (asgV i (compV (own.map (·.2)) it bf tt fe)) := by
  obtain ⟨wi, pi, mi⟩ := hi
  refine ⟨_, ps_setLc (g := wpG X.K bf sl) (tt := wpT X.K noW tt) (te := wpE X.K noW fe) hc hN hy hyl hsw pi ok (fun s H C cl fp => (hg s H C cl fp).wp) (fun s H C cl fp => (ht s H C cl fp).pt) (fun s H C cl fp => (he s H C cl fp).wp) hs, fun F Γ σ H G R => ?_⟩
  exact OutS.bindV (T' := fun v H1 D => D.nx (σ.set i (some v)) H1) (sem_lc mi hsl F Γ σ H G R) fun x Γ1 v H1 G1 R1 _ r1 => out_sto R1 r1
end
def telV (f : VF) : EF := fun Γ => match f Γ with
  | .ok (.e ev) Γ' => .ok ev Γ'
  | .ok (.n o) Γ' => .ok (.d o.d) Γ'
  | .exc c ns fs Γ' => .exc c ns fs Γ'
  | .fail => .fail
theorem fe_of {vf : VF} (h : FV X W e vf) : FE X W e (telV vf) := by
  obtain ⟨t, p, s⟩ := h
  refine ⟨t, p, fun F Γ σ H G R => ?_⟩
  have k := s F Γ σ H G R
  unfold telV
  revert k
  cases vf Γ with
  | fail => exact fun _ => trivial
  | exc c ns fs Γ' => exact fun k => k
  | ok x Γ' =>
    cases x with
    | e ev => exact fun k => k
    | n o =>
      intro k Q q
      refine k Q fun v H' G' R' le ⟨p, u, hp, h1, h2, h3, h4, h5, h6⟩ => ?_
      subst hp
      have lu : Le G' (upd G' p u) := Le.upd h2
      exact q _ H' _ (R'.tell h1 h3 h2 h5 h6.nt) (le.trans lu) (h6.rep lu upd_same)
end FL

set_option Elab.async false
set_option linter.all false
set_option maxRecDepth 100000
set_option maxHeartbeats 4000000
namespace FL
open PySem PySem.Spec PyProof.Rows L2
variable [Wrl] [Tabl]
inductive Ro where
  | ok (d : D) (out : Option OD) | nw (o : OD) (out : Option OD) | exc (c : Str) (ns : List Str) (fs : List D) (out : Option OD) | fail
abbrev DFn := List D → Ro
def D.od : D → Option OD
  | .lst xs => some (.l xs)
  | .dk ks vs => some (.k ks vs)
  | .dn false ks vs => some (.n ks vs)
  | .ins c ns fs => some (.i c ns fs)
  | _ => none
theorem OD.d_od (o : OD) : o.d.od = some o := by cases o <;> rfl
def startG (b : Option Nat) (n : Nat) (ds : List D) : Option En := match b with
  | none => some (ds.map Sl.im ++ List.replicate (n - ds.length) Sl.no)
  | some i => (ds[i]?.bind D.od).map fun o => (ds.map Sl.im ++ List.replicate (n - ds.length) Sl.no).set i (.bor o)
def outOf (b : Option Nat) (Γ : En) : Option OD := b.bind (ownD Γ)
def runF (b : Option Nat) (n : Nat) (body : SF) : DFn := fun ds => match startG b n ds with
  | none => .fail
  | some Γ => match body Γ with
    | .ok .nx Γ' => .ok .non (outOf b Γ')
    | .ok (.rt d) Γ' => .ok d (outOf b Γ')
    | .ok (.rn o) Γ' => .nw o (outOf b Γ')
    | .ok .br _ => .fail
    | .ok .ct _ => .fail
    | .exc c ns fs Γ' => .exc c ns fs (outOf b Γ')
    | .fail => .fail
structure ArgsAt (K : Frg) (b : Option Nat) (G H : Hp) (ds : List D) (vs : List V) : Prop where
  len : vs.length = ds.length
  rep : ∀ (i : Nat) d v, ds[i]? = some d → vs[i]? = some v → b ≠ some i → Rep K G d v
  lent : ∀ i, b = some i → ∃ (a : Addr) (o : OD) (u : HO), ds[i]? = some o.d ∧ vs[i]? = some (V.ref a) ∧ H a = some u ∧ G a = none ∧ ORep K G a o u
def Lent (b : Option Nat) (vs : List V) (a : Addr) : Prop := ∃ i, b = some i ∧ vs[i]? = some (V.ref a)
structure Aft (K : Frg) (b : Option Nat) (G H : Hp) (vs : List V) (G' H' : Hp) (out : Option OD) : Prop where
  le : Le G G'
  gh : Le G' H'
  keep : ∀ a o, H a = some o → NT o → ¬ Lent b vs a → H' a = some o
  gn : ∀ a o, G' a = some o → G a = some o ∨ ∀ u, H a = some u → ¬ NT u
  lent : ∀ i a, b = some i → vs[i]? = some (V.ref a) → G' a = none ∧ ∃ o u, out = some o ∧ H' a = some u ∧ ORep K G' a o u
  t0 : Tb0 K H' G'
def NewF (K : Frg) (H G' H' : Hp) (o : OD) (v : V) : Prop := ∃ (p : Addr) (u : HO), v = .ref p ∧ H' p = some u ∧ G' p = none ∧ (∀ u, H p = some u → ¬ NT u) ∧ ORep K G' p o u
noncomputable def vis (H : Hp) : Hp := fun a => open Classical in if (∃ ps, H a = some (.tbl ps)) then none else H a
theorem vis_of {H : Hp} {a : Addr} {o : HO} (h : H a = some o) (n : NT o) : vis H a = some o := by
  unfold vis
  rw [if_neg fun ⟨ps, z⟩ => n ps (Option.some.inj (h.symm.trans z))]; exact h
theorem vis_get {H : Hp} {a : Addr} {o : HO} (h : vis H a = some o) : H a = some o ∧ NT o := by
  unfold vis at h
  split at h
  · cases h
  · rename_i n; exact ⟨h, fun ps z => n ⟨ps, by rw [h, z]⟩⟩
theorem vis_none {H : Hp} {a : Addr} (h : vis H a = none) : ∀ u, H a = some u → ¬ NT u := fun u e n => by rw [vis_of e n] at h; cases h
def spF (K : Frg) (b : Option Nat) (Fn : DFn) : Sp := fun vs H Q E => ∃ (G : Hp) (ds : List D), Le G H ∧ Tb0 K H G ∧ ArgsAt K b G H ds vs ∧ match Fn ds with
  | .ok d out => ∀ v H' G', Aft K b G H vs G' H' out → Rep K G' d v → Q v H'
  | .nw o out => ∀ v H' G', Aft K b G H vs G' H' out → NewF K H G' H' o v → Q v H'
  | .exc c ns fs out => ∀ cls dx H' G', Aft K b G H vs G' H' out → XRep K G' c ns fs cls dx → E cls dx H'
  | .fail => False
structure FnG (P : Program) (w : World) (K : Frg) (mg : Str → Option Value) (base : Heap) (CX : CXT) (k : Nat) (f : Addr) (fd : FuncData) (ps : List Str) (sp : Sp) : Prop where
  len : ∀ vs H Q E, sp vs H Q E → vs.length = ps.length
  run : ∀ (A : Around) (outer : List Env) (s : Shared) (H : Hp) (args : Args) (us : List Value) (vs : List V) (Q : VK) (E : XK), Room k A → A.guards = some [] → Env0 P w K mg base A outer s H → BindsTo s fd args (ps.zip us) → Vals vs us → sp vs H Q E →
    codeAny (model P w) A (.call (.ref f) args) (CR CX outer P w H s Q E) s
theorem fn_ofG {CX : CXT} {P : Program} {w : World} {K : Frg} {mg : Str → Option Value} {base : Heap} {k : Nat} {f : Addr} {name qual : Str} {params : Arguments} {body : List Stmt} {scope : Scope} {dV kV doc pm cdv ct oc : Value} {an od : Option Addr}
    {osl : Array (Option Value)} {N ps : List Str} {sp : Sp} (lk : K.lookup f = some ⟨oc, od, .func (PySem.W.fnOf name qual params body scope dV kV doc pm an cdv ct), osl⟩) (hcd : PySem.W.codeIn K cdv qual = true) (S : FnScope N ps scope)
    (len : ∀ vs H Q E, sp vs H Q E → vs.length = ps.length)
    (hbody : ∀ (A : Around) (outer : List Env) (s : Shared) (H : Hp) (vs : List V) (Q : VK) (E : XK), Room k (A.deeper (envOfC qual scope s.heap.objs.size f cdv)) → A.guards = some [] → sp vs H Q E →
      ∃ t, PSs (cxOf CX P w K mg base N qual scope f cdv A outer s H E) body t ∧ t { nx := fun _ H' => Q .non H', rt := Q } (start N vs) H) :
    FnG P w K mg base CX (k + 1) f (PySem.W.fnOf name qual params body scope dV kV doc pm an cdv ct) ps sp := by
  refine ⟨len, fun A outer s H args us vs Q E hr hgd e0 hb r hsp => ?_⟩
  have hl := len _ _ _ _ hsp
  have KX : K.In s.heap := e0.mod.kin.keeps fun b o e => (e0.bs b o e).1
  have lim : s.heap.NoLimit := e0.mod.nolimit.keeps fun b o e => (e0.bs b o e).1
  have hkind : ∀ y ∈ ps.zip us, scope.names.lookup y.1 = some .local ∨ (scope.names.lookup y.1 = some .cell ∧ ((cellsFrom (s.heap.objs.size + 1) scope.names []).lookup y.1).isSome = true) := fun ⟨n, v⟩ hy => by
    rcases S.par n (List.of_mem_zip hy).1 with q | q
    · exact .inl q
    · exact .inr ⟨q, PySem.W.cellsFrom_some _ _ _ (.inl q)⟩
  refine codeAny_call_function hr.depth (KX _ _ lk) rfl S.co S.gen rfl (PySem.W.codeRec_of KX hcd) (hb _ _ _ _ ?_)
  refine wpAny_newFunctionEnv_cells S.kind hkind fun env he s1 x => ?_
  subst he
  refine ⟨lim.keeps x.toInCall.keep, codeAny_func ?_⟩
  obtain ⟨t, ht, hq⟩ := hbody A outer s H vs Q E (hr.deeper _) hgd hsp
  have I : Inv (cxOf CX P w K mg base N qual scope f cdv A outer s H E) [] (start N vs) H s1 := inv_start S hr.hd e0 hl r x
  refine wpAny_mono (ht.run [] s1 (start N vs) H _ I hq) (fun fl s' hs => ?_) fun e s' hs => hs
  have fin : ∀ {σ' : St} {H' : Hp} {v : V} {u : Value}, Inv (cxOf CX P w K mg base N qual scope f cdv A outer s H E) [] σ' H' s' → RelV v u → Q v H' → CE outer P w H s Q u s' :=
    fun {σ' H' v u} J rv q => ⟨v, H', J.os, J.bare, J.base, J.hok, rv, q⟩
  cases fl with
  | ret u =>
    obtain ⟨v, σ', H', J, rv, q⟩ := hs
    exact fin J rv q
  | next =>
    obtain ⟨σ', H', J, q⟩ := hs
    exact fin (v := V.non) (u := Value.none) J rfl q
  | brk =>
    obtain ⟨_, _, _, q⟩ := hs
    exact False.elim q
  | cont =>
    obtain ⟨_, _, _, q⟩ := hs
    exact False.elim q
theorem start_len {N : List Str} {vs : List V} (h : vs.length ≤ N.length) : (L2.start N vs).length = N.length := by
  unfold L2.start
  rw [List.length_append, List.length_map, List.length_replicate]
  omega
theorem start_get {N : List Str} {vs : List V} {i : Nat} {v : V} (h : vs[i]? = some v) : (L2.start N vs)[i]? = some (some v) := by
  unfold L2.start
  rw [List.getElem?_append_left (by rw [List.length_map]; exact (List.getElem?_eq_some_iff.mp h).1), List.getElem?_map, h]
  rfl
theorem rl_start {K : Frg} {b : Option Nat} {N : List Str} {G H : Hp} {ds : List D} {vs : List V} {Γ : En} (gh : Le G H) (tb : Tb0 K H G) (A : ArgsAt K b G H ds vs) (hn : ds.length ≤ N.length) (e : startG b N.length ds = some Γ) :
    ∃ ba, (∀ i, b = some i → vs[i]? = some (V.ref ba)) ∧ Rl K ⟨vis H, G, b, ba⟩ Γ (L2.start N vs) H G := by
  have hv : ∀ a o, vis H a = some o → H a = some o := fun a o e => (vis_get e).1
  have tb' : ∀ ba, Tb K ⟨vis H, G, b, ba⟩ H G := fun ba => ⟨fun a o e => (vis_get e).2, tb⟩
  have look : ∀ (i : Nat) x, (ds.map Sl.im ++ List.replicate (N.length - ds.length) Sl.no)[i]? = some x → (∃ d, ds[i]? = some d ∧ x = .im d) ∨ x = .no := fun i x h => by
    by_cases hi : i < ds.length
    · rw [List.getElem?_append_left (by simpa using hi), List.getElem?_map] at h
      obtain ⟨d, h1, rfl⟩ := Option.map_eq_some_iff.mp h
      exact .inl ⟨d, h1, rfl⟩
    · rw [List.getElem?_append_right (by simpa using hi), List.getElem?_replicate] at h
      split at h
      · cases h; exact .inr rfl
      · cases h
  have hlen : (ds.map Sl.im ++ List.replicate (N.length - ds.length) Sl.no).length = (L2.start N vs).length := by
    rw [start_len (by rw [A.len]; exact hn), List.length_append, List.length_map, List.length_replicate]
    omega
  have imc : ∀ (i : Nat) d, ds[i]? = some d → b ≠ some i → ∃ v, (L2.start N vs)[i]? = some (some v) ∧ Rep K G d v := fun i d h hb => by
    have hi := (List.getElem?_eq_some_iff.mp h).1
    obtain ⟨v, hv⟩ : ∃ v, vs[i]? = some v := ⟨vs[i]'(by rw [A.len]; exact hi), List.getElem?_eq_getElem _⟩
    exact ⟨_, start_get hv, A.rep i d _ h hv hb⟩
  cases b with
  | none =>
    cases e
    refine ⟨0, fun i z => (nomatch z), ⟨hlen, gh, Le.refl G, fun a o e _ => hv a o e, fun a o e => .inl e, fun i d h => ?_, fun i o h => ?_, fun i o h => ?_, fun i z => (nomatch z), tb' 0⟩⟩
    · rcases look i _ h with ⟨d', h1, z⟩ | z
      · cases z; exact imc i d h1 (fun z => (nomatch z))
      · cases z
    · rcases look i _ h with ⟨d', h1, z⟩ | z <;> cases z
    · rcases look i _ h with ⟨d', h1, z⟩ | z <;> cases z
  | some b =>
    obtain ⟨a, o, u, h1, h2, h3, h4, h5⟩ := A.lent b rfl
    have e : (ds[b]?.bind D.od).map (fun o => (ds.map Sl.im ++ List.replicate (N.length - ds.length) Sl.no).set b (.bor o)) = some Γ := e
    rw [h1] at e
    have e : some ((ds.map Sl.im ++ List.replicate (N.length - ds.length) Sl.no).set b (.bor o)) = some Γ := by
      rw [← e]
      show _ = (o.d.od).map _
      rw [OD.d_od]
      rfl
    cases e
    refine ⟨a, fun i z => (by cases z; exact h2), ⟨by rw [List.length_set]; exact hlen, gh, Le.refl G, fun a o e _ => hv a o e, fun a o e => .inl e, fun i d h => ?_, fun i o' h => ?_, fun i o' h => ?_, fun i z => ?_, tb' a⟩⟩
    · rcases get_set h with ⟨_, _, z⟩ | ⟨hj, h⟩
      · cases z
      · rcases look i _ h with ⟨d', g1, z⟩ | z
        · cases z; exact imc i d g1 (fun z => hj (Option.some.inj z).symm)
        · cases z
    · rcases get_set h with ⟨_, _, z⟩ | ⟨hj, h⟩
      · cases z
      · rcases look i _ h with ⟨d', g1, z⟩ | z <;> cases z
    · rcases get_set h with ⟨rfl, _, z⟩ | ⟨hj, h⟩
      · cases z
        exact ⟨rfl, start_get h2, ⟨u, vis_of h3 h5.nt⟩, h4, u, h3, h5⟩
      · rcases look i _ h with ⟨d', g1, z⟩ | z <;> cases z
    · cases z
      have hb : b < ds.length := (List.getElem?_eq_some_iff.mp h1).1
      exact ⟨o, List.getElem?_set_self (by rw [List.length_append, List.length_map]; omega)⟩
theorem Rl.aft {K : Frg} {b : Option Nat} {G H G' H' : Hp} {ba : Addr} {vs : List V} {Γ' : En} {σ' : St} (hv : ∀ i, b = some i → vs[i]? = some (V.ref ba)) (R : Rl K ⟨vis H, G, b, ba⟩ Γ' σ' H' G') : Aft K b G H vs G' H' (outOf b Γ') where
  le := R.ge
  gh := R.gh
  keep := fun a o e nt hl => R.he a o (vis_of e nt) (by
    cases b with
    | none => exact .inl rfl
    | some i => exact .inr fun z => hl ⟨i, rfl, by rw [hv i rfl, z]⟩)
  gn := fun a o e => (R.gn a o e).imp id vis_none
  t0 := R.tb.t0
  lent := fun i a hb e => by
    rw [hv i hb] at e
    cases e
    obtain ⟨o, ho⟩ := R.bb i hb
    obtain ⟨_, _, _, h4, u, h5, h6⟩ := R.bo i o ho
    refine ⟨h4, o, u, ?_, h5, h6⟩
    unfold outOf
    rw [hb]
    show ownD Γ' i = some o
    unfold ownD
    rw [ho]
def spL (K : Frg) (ps : List Str) (b : Option Nat) (Fn : DFn) : Sp := fun vs H Q E => vs.length = ps.length ∧ spF K b Fn vs H Q E
def cdOf (K : Frg) (f : Addr) : Value := match K.lookup f with
  | some ⟨_, _, .func fd, _⟩ => fd.code
  | _ => .none
theorem fn_F {P : Program} {w : World} {K : Frg} {mg : Str → Option Value} {base : Heap} {x qual : Str} {params : Arguments} {body : List Stmt} {scope : Scope} {dvs : List V} {kws : List (Str × V)} {f : Addr} {fd : FuncData} {N ps : List Str} {k : Nat} {b : Option Nat} {bd : SF}
    (Fd : FunD K x qual params body scope dvs kws f fd) (S : FnScope N ps scope)
    (hb : ∀ (cdv : Value) (A : Around) (outer : List Env) (s : Shared) (H : Hp) (E : XK), Room k (A.deeper (envOfC qual scope s.heap.objs.size f cdv)) → (A.deeper (envOfC qual scope s.heap.objs.size f cdv)).guards = some [] →
      Takes (cxOf (L2.CX P w) P w K mg base N qual scope f cdv A outer s H E) (fun cls d _ H => E cls d H) → PassesOwn (model P w) (A.deeper (envOfC qual scope s.heap.objs.size f cdv)) (envOfC qual scope s.heap.objs.size f cdv) (cxOf (L2.CX P w) P w K mg base N qual scope f cdv A outer s H E).xe → cdv = cdOf K f →
      FB (cxOf (L2.CX P w) P w K mg base N qual scope f cdv A outer s H E) (fun cls d _ H => E cls d H) body bd) :
    FnG P w K mg base (L2.CX P w) (k + 1) f fd ps (spL K ps b (runF b N.length bd)) := by
  obtain ⟨oc, od, dV, kV, doc, pm, an, cdv, ct, osl, rfl, lk, hcd, _, _⟩ := Fd.ex
  refine fn_ofG lk hcd S (fun vs H Q E h => h.1) fun A outer s H vs Q E hr hgd h => ?_
  obtain ⟨hl, G, ds, gh, tb, ha, h⟩ := h
  have hps : ps.length ≤ N.length := by have := congrArg List.length S.pre; rw [List.length_take] at this; omega
  obtain ⟨t, pt, mt⟩ := (hb cdv A outer s H E hr hgd (takes_of rfl rfl rfl rfl) (passes_of rfl) (by unfold cdOf; rw [lk])).ex
  refine ⟨t, pt, ?_⟩
  unfold runF at h
  cases es : startG b N.length ds with
  | none => rw [es] at h; exact h.elim
  | some Γ =>
    rw [es] at h
    obtain ⟨ba, hv, R⟩ := rl_start gh tb ha (by rw [← ha.len, hl]; exact hps) es
    have m := mt _ _ _ _ _ R
    simp only at h
    revert h m
    cases bd Γ with
    | fail => exact fun h _ => h.elim
    | exc c ns fs Γ' =>
      intro h m
      exact m _ fun cls dx σ' H' G' R' le x => h cls dx H' G' (R'.aft hv) x
    | ok fl Γ' =>
      cases fl with
      | nx =>
        intro h m
        exact m _ fun σ' H' G' R' le => h .non H' G' (R'.aft hv) rfl
      | rt d =>
        intro h m
        exact m _ fun v σ' H' G' R' le rv => h v H' G' (R'.aft hv) rv
      | rn o =>
        intro h m
        exact m _ fun v σ' H' G' R' le ⟨p, u, h1, h2, h3, h4, _, _, h5⟩ => h v H' G' (R'.aft hv) ⟨p, u, h1, h2, h3, vis_none h4, h5⟩
      | br => exact fun h _ => h.elim
      | ct => exact fun h _ => h.elim
end FL

set_option Elab.async false
set_option linter.all false
set_option maxRecDepth 100000
set_option maxHeartbeats 4000000
namespace FL
open PySem PySem.Spec PyProof.Rows L2
variable [Wrl] [Tabl]
section
variable {K : Frg} {F : Fr} {Γ : En} {σ : St} {H G : Hp} {p : Addr}
theorem Rl.heNoneV (R : Rl K F Γ σ H G) (h : ∀ u, H p = some u → ¬ NT u) : F.He p = none := by
  cases e : F.He p with
  | none => rfl
  | some o =>
    obtain ⟨u, h1, h2⟩ := R.heH e
    exact absurd h2 (h u h1)
theorem Rl.baNeV (R : Rl K F Γ σ H G) (h : ∀ u, H p = some u → ¬ NT u) : F.bi = none ∨ p ≠ F.ba := by
  cases hb : F.bi with
  | none => exact .inl rfl
  | some i =>
    obtain ⟨o, ho⟩ := R.bb i hb
    obtain ⟨_, _, _, _, u, hu, hr⟩ := R.bo i o ho
    exact .inr fun z => h u (by rw [z]; exact hu) hr.nt
theorem Rl.noOwnV (R : Rl K F Γ σ H G) (h : ∀ u, H p = some u → ¬ NT u) : ∀ j, ownAt Γ j → σ[j]? ≠ some (some (.ref p)) := fun j ⟨o, e⟩ z => by
  obtain ⟨a, u, h1, h2, _, _, h5, _⟩ := R.ac j o e
  rw [h1] at z
  cases z
  exact h u h2 h5.nt
end
variable {X : Cx} {W : WX} {e a o : Expr} {f g f1 f2 f3 fo fa : EF} {pos apos p : Pos} {es : List Expr} {u : AF}
def prep (b : Option Nat) (es : List EV) (Γ : En) : Option (List D × En × Option Nat) := match b with
  | none => (frzs es Γ).map fun p => (p.1, p.2, none)
  | some i => match es[i]? with
    | some (.own j) => (frzs (es.set i (.d .non)) Γ).bind fun p => (ownD p.2 j).map fun o => (p.1.set i o.d, p.2, some j)
    | _ => none
def putL (l : Option Nat) (out : Option OD) (Γ : En) : En := match l, out with
  | some j, some o => putOwn Γ j o
  | _, _ => Γ
def finCall (b : Option Nat) (Fn : DFn) (dd : List D) (es : List EV) (Γ : En) : O VV := match prep b es Γ with
  | none => .fail
  | some (ds, Γ1, l) => match Fn (ds ++ dd) with
    | .ok d out => .ok (.e (.d d)) (putL l out Γ1)
    | .nw o out => .ok (.n o) (putL l out Γ1)
    | .exc c ns fs out => .exc c ns fs (putL l out Γ1)
    | .fail => .fail
theorem paired_get {α β : Type} {R : α → β → Prop} : ∀ {xs : List α} {ys : List β} {i : Nat} {x : α}, Paired R xs ys → xs[i]? = some x → ∃ y, ys[i]? = some y ∧ R x y
  | _, _, _, _, .nil, h => by simp at h
  | _, _, 0, _, .cons r _, h => by simp at h; subst h; exact ⟨_, rfl, r⟩
  | _, _, i + 1, _, .cons _ t, h => by
    obtain ⟨y, h1, h2⟩ := paired_get (i := i) t (by simpa using h)
    exact ⟨y, by simpa using h1, h2⟩
theorem paired_set {α β : Type} {R : α → β → Prop} {x : α} {y : β} (r : R x y) : ∀ {xs : List α} {ys : List β} (i : Nat), Paired R xs ys → Paired R (xs.set i x) (ys.set i y)
  | _, _, _, .nil => .nil
  | _, _, 0, .cons _ t => .cons r t
  | _, _, i + 1, .cons q t => .cons q (paired_set r i t)
theorem prep_ok {K : Frg} {F : Fr} {Γ Γ1 : En} {σ : St} {H G : Hp} {b l : Option Nat} {es : List EV} {vs : List V} {ds : List D} (R : Rl K F Γ σ H G) (rs : vsrel K σ G es vs) (e : prep b es Γ = some (ds, Γ1, l)) :
    ∃ G1, Rl K F Γ1 σ H G1 ∧ Le G G1 ∧ ArgsAt K b G1 H ds vs ∧ (b = none → l = none) ∧ ∀ i, b = some i → ∃ (j : Nat) (a : Addr) (o : OD), l = some j ∧ ownD Γ1 j = some o ∧ σ[j]? = some (some (V.ref a)) ∧ vs[i]? = some (V.ref a) := by
  unfold prep at e
  split at e
  · obtain ⟨⟨xs, Γ2⟩, e1, e2⟩ := Option.map_eq_some_iff.mp e
    cases e2
    obtain ⟨G1, R1, le, rp⟩ := R.frzs rs e1
    refine ⟨G1, R1, le, ⟨rp.len, fun i d v h1 h2 _ => ?_, fun i z => (nomatch z)⟩, fun _ => rfl, fun i z => (nomatch z)⟩
    obtain ⟨v', h3, h4⟩ := rp.getD h1
    rw [h2] at h3
    cases h3
    exact h4
  · rename_i i
    split at e
    · rename_i j hj
      obtain ⟨⟨xs, Γ2⟩, e1, e2⟩ := Option.bind_eq_some_iff.mp e
      obtain ⟨o, e3, e4⟩ := Option.map_eq_some_iff.mp e2
      cases e4
      obtain ⟨v, hv, rv⟩ := paired_get rs hj
      have rs2 : vsrel K σ G (es.set i (.d .non)) (vs.set i .non) := paired_set (show vrel K σ G (.d .non) .non from rfl) i rs
      obtain ⟨G1, R1, le, rp⟩ := R.frzs rs2 e1
      obtain ⟨a, u, g1, g2, g3, g4, _⟩ := R1.own e3
      rw [show σ[j]? = some (some v) from rv] at g1
      cases g1
      have hl : xs.length = vs.length := by have := rp.len; rw [List.length_set] at this; exact this.symm
      refine ⟨G1, R1, le, ⟨by rw [List.length_set, hl], fun k d w h1 h2 hb => ?_, fun k z => ?_⟩, fun z => (nomatch z), fun k z => ?_⟩
      · have hk : i ≠ k := fun z => hb (by rw [z])
        rw [List.getElem?_set_ne hk] at h1
        obtain ⟨w', h3, h4⟩ := rp.getD h1
        rw [List.getElem?_set_ne hk, h2] at h3
        cases h3
        exact h4
      · cases z
        exact ⟨a, o, u, List.getElem?_set_self (by rw [hl]; exact (List.getElem?_eq_some_iff.mp hv).1), hv, g2, g3, g4⟩
      · cases z
        exact ⟨j, a, o, rfl, e3, rv, hv⟩
    · cases e
theorem Rl.call {K : Frg} {F : Fr} {Γ : En} {σ : St} {H G G' H' : Hp} {b l : Option Nat} {vs : List V} {out : Option OD} (R : Rl K F Γ σ H G) (hl : b = none → l = none) (hb : ∀ i, b = some i → ∃ (j : Nat) (a : Addr) (o : OD), l = some j ∧ ownD Γ j = some o ∧ σ[j]? = some (some (V.ref a)) ∧ vs[i]? = some (V.ref a))
    (A : Aft K b G H vs G' H' out) : Rl K F (putL l out Γ) σ H' G' := by
  have gnone : ∀ a u, H a = some u → NT u → G a = none → G' a = none := fun a u h1 nt h2 => by
    cases q : G' a with
    | none => rfl
    | some w =>
      rcases A.gn a w q with z | z
      · rw [h2] at z; cases z
      · exact absurd nt (z u h1)
  cases b with
  | none =>
    rw [hl rfl]
    have nl : ∀ a, ¬ Lent none vs a := fun a ⟨i, z, _⟩ => (nomatch z)
    exact ⟨R.len, A.gh, R.ge.trans A.le, fun a o e q => A.keep a o (R.he a o e q) (R.tb.ht a o e) (nl a), fun a o e => by
        rcases A.gn a o e with z | z
        · exact R.gn a o z
        · exact .inr (R.heNoneV z),
      fun i d e => by
        obtain ⟨v, h1, h2⟩ := R.sl i d e
        exact ⟨v, h1, Rep.le A.le _ _ h2⟩,
      fun i o e => by
        obtain ⟨a, u, h1, h2, h3, h4, h5, h6⟩ := R.ac i o e
        exact ⟨a, u, h1, A.keep a u h2 h5.nt (nl a), gnone a u h2 h5.nt h3, h4, h5.le A.le, h6⟩,
      fun i o e => by
        obtain ⟨h1, h2, h3, h4, u, h5, h6⟩ := R.bo i o e
        exact ⟨h1, h2, h3, gnone _ u h5 h6.nt h4, u, A.keep _ u h5 h6.nt (nl _), h6.le A.le⟩, R.bb, ⟨R.tb.ht, A.t0⟩⟩
  | some i =>
    obtain ⟨j, a0, o, rfl, ho, hs, hv⟩ := hb i rfl
    obtain ⟨hg0, o', u', rfl, hu', r'⟩ := A.lent i a0 rfl hv
    have lentE : ∀ a, Lent (some i) vs a → a = a0 := fun a ⟨k, z, h⟩ => by
      cases z
      rw [hv] at h
      cases h
      rfl
    show Rl K F (putOwn Γ j o') σ H' G'
    unfold ownD at ho
    split at ho
    · -- an own slot
      rename_i o2 ej
      obtain ⟨a, u, h1, h2, h3, h4, h5, h6⟩ := R.ac j o2 ej
      rw [hs] at h1
      cases h1
      have hbi : F.bi ≠ some j := fun z => by
        obtain ⟨o3, e⟩ := R.bb j z
        rw [ej] at e; cases e
      unfold putOwn
      rw [ej]
      refine ⟨by rw [List.length_set]; exact R.len, A.gh, R.ge.trans A.le, fun a o e q => A.keep a o (R.he a o e q) (R.tb.ht a o e) fun z => ?_, fun a o e => ?_, fun k d e => ?_, fun k ob e => ?_, fun k ob e => ?_, fun k e => ?_, ⟨R.tb.ht, A.t0⟩⟩
      · rw [lentE a z, h4] at e; cases e
      · rcases A.gn a o e with z | z
        · exact R.gn a o z
        · exact .inr (R.heNoneV z)
      · rcases get_set e with ⟨_, _, e⟩ | ⟨_, e⟩
        · cases e
        · obtain ⟨v, g1, g2⟩ := R.sl k d e
          exact ⟨v, g1, Rep.le A.le _ _ g2⟩
      · rcases get_set e with ⟨rfl, _, e⟩ | ⟨hk, e⟩
        · cases e
          refine ⟨a0, u', hs, hu', hg0, h4, r', fun m hm ⟨om, em⟩ => ?_⟩
          rcases get_set em with ⟨z, _, _⟩ | ⟨_, em⟩
          · exact absurd z hm
          · exact h6 m hm ⟨om, em⟩
        · obtain ⟨a, w, g1, g2, g3, g4, g5, g6⟩ := R.ac k ob e
          have ne : a ≠ a0 := fun z => by subst z; exact h6 k hk ⟨ob, e⟩ g1
          refine ⟨a, w, g1, A.keep a w g2 g5.nt fun z => ne (lentE a z), gnone a w g2 g5.nt g3, g4, g5.le A.le, fun m hm ⟨om, em⟩ => ?_⟩
          rcases get_set em with ⟨z, _, _⟩ | ⟨_, em⟩
          · subst z; rw [hs]; intro q; cases q; exact ne rfl
          · exact g6 m hm ⟨om, em⟩
      · rcases get_set e with ⟨_, _, e⟩ | ⟨hk, e⟩
        · cases e
        · obtain ⟨g1, g2, ⟨w, g3⟩, g4, x, g5, g6⟩ := R.bo k ob e
          have ne : F.ba ≠ a0 := fun z => by rw [z, h4] at g3; cases g3
          exact ⟨g1, g2, ⟨w, g3⟩, gnone _ x g5 g6.nt g4, x, A.keep _ x g5 g6.nt fun z => ne (lentE _ z), g6.le A.le⟩
      · obtain ⟨o3, e3⟩ := R.bb k e
        exact ⟨o3, by rw [List.getElem?_set_ne fun z => hbi (by rw [z]; exact e)]; exact e3⟩
    · -- the slot that is lent itself
      rename_i o2 ej
      obtain ⟨h1, h2, ⟨w, h3⟩, h4, u, h5, h6⟩ := R.bo j o2 ej
      rw [hs] at h2
      cases h2
      unfold putOwn
      rw [ej]
      refine ⟨by rw [List.length_set]; exact R.len, A.gh, R.ge.trans A.le, fun a o e q => A.keep a o (R.he a o e q) (R.tb.ht a o e) fun z => ?_, fun a o e => ?_, fun k d e => ?_, fun k ob e => ?_, fun k ob e => ?_, fun k e => ?_, ⟨R.tb.ht, A.t0⟩⟩
      · rcases q with q | q
        · rw [h1] at q; cases q
        · exact q (lentE a z)
      · rcases A.gn a o e with z | z
        · exact R.gn a o z
        · exact .inr (R.heNoneV z)
      · rcases get_set e with ⟨_, _, e⟩ | ⟨_, e⟩
        · cases e
        · obtain ⟨v, g1, g2⟩ := R.sl k d e
          exact ⟨v, g1, Rep.le A.le _ _ g2⟩
      · rcases get_set e with ⟨_, _, e⟩ | ⟨hk, e⟩
        · cases e
        · obtain ⟨a, w', g1, g2, g3, g4, g5, g6⟩ := R.ac k ob e
          have ne : a ≠ F.ba := fun z => by rw [z, h3] at g4; cases g4
          refine ⟨a, w', g1, A.keep a w' g2 g5.nt fun z => ne (lentE a z), gnone a w' g2 g5.nt g3, g4, g5.le A.le, fun m hm ⟨om, em⟩ => ?_⟩
          rcases get_set em with ⟨_, _, e⟩ | ⟨_, em⟩
          · cases e
          · exact g6 m hm ⟨om, em⟩
      · rcases get_set e with ⟨rfl, _, e⟩ | ⟨hk, e⟩
        · cases e
          exact ⟨h1, hs, ⟨w, h3⟩, hg0, u', hu', r'⟩
        · obtain ⟨g1, _⟩ := R.bo k ob e
          rw [h1] at g1; cases g1; exact absurd rfl hk
      · rw [h1] at e
        cases e
        exact ⟨o', List.getElem?_set_self (List.getElem?_eq_some_iff.mp ej).1⟩
    · cases ho
theorem ArgsAt.app {K : Frg} {b : Option Nat} {G H : Hp} {ds dd : List D} {vs dvs : List V} (A : ArgsAt K b G H ds vs) (r : Reps K G dd dvs) : ArgsAt K b G H (ds ++ dd) (vs ++ dvs) where
  len := by rw [List.length_append, List.length_append, A.len, r.len]
  rep := fun i d v h1 h2 hb => by
    by_cases hi : i < ds.length
    · rw [List.getElem?_append_left hi] at h1
      rw [List.getElem?_append_left (by rw [A.len]; exact hi)] at h2
      exact A.rep i d v h1 h2 hb
    · rw [List.getElem?_append_right (by omega)] at h1
      rw [List.getElem?_append_right (by rw [A.len]; omega), A.len] at h2
      obtain ⟨v', h3, h4⟩ := r.getD h1
      rw [h2] at h3
      cases h3
      exact h4
  lent := fun i hb => by
    obtain ⟨a, o, u, h1, h2, h3⟩ := A.lent i hb
    exact ⟨a, o, u, by rw [List.getElem?_append_left (List.getElem?_eq_some_iff.mp h1).1]; exact h1, by rw [List.getElem?_append_left (List.getElem?_eq_some_iff.mp h2).1]; exact h2, h3⟩
theorem putL_own {l : Option Nat} {out : Option OD} {Γ : En} {j : Nat} (h : ownAt (putL l out Γ) j) : ownAt Γ j := by
  obtain ⟨o, h⟩ := h
  unfold putL at h
  split at h
  · unfold putOwn at h
    split at h
    · rename_i e
      rcases get_set h with ⟨rfl, _, _⟩ | ⟨_, h⟩
      · exact ⟨_, e⟩
      · exact ⟨_, h⟩
    · rcases get_set h with ⟨_, _, z⟩ | ⟨_, h⟩
      · cases z
      · exact ⟨_, h⟩
    · exact ⟨_, h⟩
  · exact ⟨_, h⟩
theorem NewF.new {K : Frg} {F : Fr} {Γ Γ' : En} {σ : St} {H G G' H' : Hp} {o : OD} {v : V} (R : Rl K F Γ σ H G) (ho : ∀ j, ownAt Γ' j → ownAt Γ j) (n : NewF K H G' H' o v) : New K F Γ' σ H' G' o v := by
  obtain ⟨p, u, h1, h2, h3, h4, h5⟩ := n
  exact ⟨p, u, h1, h2, h3, R.heNoneV h4, R.baNeV h4, fun j hj => R.noOwnV h4 j (ho j hj), h5⟩
theorem out_call {K : Frg} {W : WX} {F : Fr} {Γ : En} {σ : St} {H G : Hp} {b : Option Nat} {Fn : DFn} {dd : List D} {dvs : List V} {es : List EV} {vs : List V} (R : Rl K F Γ σ H G) (rs : vsrel K σ G es vs) (hd : ∀ G, Reps K G dd dvs) :
    OutV K W (vvrel K) F σ G (fun Q => spF K b Fn (vs ++ dvs) H Q (fun cls dx H' => W cls dx σ H')) (finCall b Fn dd es Γ) := by
  unfold finCall
  split
  · trivial
  · rename_i ds Γ1 l e
    obtain ⟨G1, R1, le, A, hn, hl⟩ := prep_ok R rs e
    have A2 := A.app (hd G1)
    have hl2 : ∀ i, b = some i → ∃ (j : Nat) (a : Addr) (o : OD), l = some j ∧ ownD Γ1 j = some o ∧ σ[j]? = some (some (V.ref a)) ∧ (vs ++ dvs)[i]? = some (V.ref a) := fun i hb => by
      obtain ⟨j, a, o, h1, h2, h3, h4⟩ := hl i hb
      exact ⟨j, a, o, h1, h2, h3, by rw [List.getElem?_append_left (List.getElem?_eq_some_iff.mp h4).1]; exact h4⟩
    split
    · rename_i d out ef
      intro Q q
      refine ⟨G1, ds ++ dd, R1.gh, R1.tb.t0, A2, ?_⟩
      rw [ef]
      exact fun v H' G' Af rv => q v H' G' (R1.call hn hl2 Af) (le.trans Af.le) rv
    · rename_i o out ef
      intro Q q
      refine ⟨G1, ds ++ dd, R1.gh, R1.tb.t0, A2, ?_⟩
      rw [ef]
      exact fun v H' G' Af nw => q v H' G' (R1.call hn hl2 Af) (le.trans Af.le) (nw.new R1 fun j => putL_own)
    · rename_i c ns fs out ef
      intro Q q
      refine ⟨G1, ds ++ dd, R1.gh, R1.tb.t0, A2, ?_⟩
      rw [ef]
      exact fun cls dx H' G' Af x => q cls dx H' G' (R1.call hn hl2 Af) (le.trans Af.le) x
    · trivial
def finCallN (b : Option Nat) (Fn : DFn) (dd : List D) (x : VV) (Γ : En) : O VV := match x, b with
  | .n o, some 0 => (match Fn (o.d :: dd) with
    | .ok d _ => .ok (.e (.d d)) Γ
    | .nw o' _ => .ok (.n o') Γ
    | .exc c ns fs _ => .exc c ns fs Γ
    | .fail => .fail)
  | _, _ => .fail
section
variable {CX : CXT} {k : Nat} {fa' C : Addr} {fd : FuncData} {ps ks : List Str} {sp : Sp} {dvs : List V} {ds : List Value} {E : XK} {x m : Str}
theorem pass_at (tk : Takes X W) (σ : St) : PassesAt (L2.CX X.prog X.w) X σ (fun cls d H => W cls d σ H) := fun pins H s e s' I c => tk e s' (XE.of_call I (fun cls d H' h => h) c)
theorem run_G {pins : List (Addr × Obj)} {σ : St} {H : Hp} {s : Shared} {Q : VK} {us : List Value} {vs : List V} (F : FnG X.prog X.w X.K X.mg X.base (L2.CX X.prog X.w) k fa' fd ps sp) (hr : Room k X.A) (hg : X.A.guards = some []) (hb : Binds X.K fd ps ds) (hd : Vals dvs ds) (tk : Takes X W)
    (I : Inv X pins σ H s) (r : Vals vs us) (h : sp (vs ++ dvs) H Q (fun cls d H' => W cls d σ H')) : wpAny (model X.prog X.w) X.A (call (.ref fa') us) (EP X pins σ Q) X.xe s := by
  have r2 : Vals (vs ++ dvs) (us ++ ds) := r.append hd
  have hl : (us ++ ds).length = ps.length := by rw [← r2.length]; exact F.len _ _ _ _ h
  refine wpAny_call (codeAny_mono (F.run X.A X.stack s H ⟨us, []⟩ (us ++ ds) (vs ++ dvs) Q _ hr hg I.env0 (hb s us I.kIn hl) r2 h) fun r s' hq => ?_)
  cases r with
  | error e => exact pass_at tk σ pins H s e s' I hq
  | ok fl =>
    cases fl with
    | ret u => exact I.after hq
    | next => exact False.elim hq
    | brk => exact False.elim hq
    | cont => exact False.elim hq
def callV (b : Option Nat) (n : Nat) (Fn : DFn) (dd : List D) (u : AF) : VF := fun Γ => (u Γ).bind fun es Γ1 => if es.length = n then finCall b Fn dd es Γ1 else .fail
theorem vsrel_len {K : Frg} {σ : St} {G : Hp} : ∀ {es : List EV} {vs : List V}, vsrel K σ G es vs → vs.length = es.length
  | _, _, .nil => rfl
  | _, _, .cons _ t => by rw [List.length_cons, List.length_cons, vsrel_len t]
theorem OutV.of {α β : Type} {K : Frg} {W : WX} {rel : Fr → En → St → Hp → Hp → α → β → Prop} {F : Fr} {σ : St} {G : Hp} {T T' : (β → Hp → Prop) → Prop} : ∀ {r : O α}, OutV K W rel F σ G T r → (∀ Q, T Q → T' Q) → OutV K W rel F σ G T' r
  | .ok _ _, h, k => fun D q => k D (h D q)
  | .exc _ _ _ _, h, k => fun D q => k D (h D q)
  | .fail, _, _ => trivial
theorem sem_callG {Γ : En} {σ : St} {H G : Hp} {Fr : Fr} {b : Option Nat} {Fn : DFn} {dd : List D} {n : Nat} {es : List EV} {vs : List V} (R : Rl X.K Fr Γ σ H G) (rs : vsrel X.K σ G es vs) (hd : ∀ G, Reps X.K G dd dvs) (hn : n + dvs.length = ps.length) :
    OutV X.K W (vvrel X.K) Fr σ G (fun Q => spL X.K ps b Fn (vs ++ dvs) H Q (fun cls dx H' => W cls dx σ H')) (if es.length = n then finCall b Fn dd es Γ else .fail) := by
  split
  · rename_i h
    have hl : (vs ++ dvs).length = ps.length := by rw [List.length_append, vsrel_len rs, h]; exact hn
    exact OutV.of (out_call R rs hd) fun Q q => ⟨hl, q⟩
  · trivial
theorem fv_call {b : Option Nat} {Fn : DFn} {dd : List D} {n : Nat} (F : FnG X.prog X.w X.K X.mg X.base (L2.CX X.prog X.w) k fa' fd ps (spL X.K ps b Fn)) (hm : X.mg x = some (.ref fa')) (kp : PySem.W.keepIn X.K (.ref fa') = true) (hb : Binds X.K fd ps ds) (hd : Vals dvs ds) (hdd : ∀ G, Reps X.K G dd dvs)
    (hr : Room k X.A) (hgd : X.A.guards = some []) (tk : Takes X W) (hn : n + dvs.length = ps.length) (ha : FA X W (e :: es) u) (hg : Gl X x := by rfl) (hdb : (x == ("__debug__" : Str)) = false := by decide)
    (he : starEach (e :: es) X.env = (false, eval e X.env) :: starEach es X.env := by rfl) (hpl : (backTo pos (starEach es X.env)).any (·.1) = false := by rfl) :
    FV X W (.Call (.Name x p) (e :: es) [] pos) (callV b n Fn dd u) := by
  obtain ⟨t, pt, s⟩ := ha
  refine ⟨fun σ H Q => t σ H fun vs H1 => spL X.K ps b Fn (vs ++ dvs) H1 Q (fun cls d H' => W cls d σ H'), ⟨fun pins s' σ H Q I h => ?_⟩, fun Fr Γ σ H G R => ?_⟩
  · refine wpAny_Call_Name_kw (ld_glob I hg hm ?_ hdb)
    refine PySem.W.callWith_K (h₀ := X.base) I.ok.mod.kin kp (thn (pt.run pos pins s' σ H _ I h) fun us s1 ⟨vs, H1, I1, r, q⟩ => ⟨I1.kIn, ?_⟩) he hpl
    exact run_G F hr hgd hb hd tk I1 r q
  · exact OutV.bind (T' := fun vs H1 Q => spL X.K ps b Fn (vs ++ dvs) H1 Q (fun cls d H' => W cls d σ H')) (s Fr Γ σ H G R) fun es' Γ1 vs H1 G1 R1 _ rs => sem_callG R1 rs hdd hn
def call1V (b : Option Nat) (Fn : DFn) (dd : List D) (f : VF) : VF := fun Γ => (f Γ).bind (finCallN b Fn dd)
theorem OutV.bindV {α β α' β' : Type} {K : Frg} {W : WX} {rel : Fr → En → St → Hp → Hp → α → β → Prop} {rel' : Fr → En → St → Hp → Hp → α' → β' → Prop} {F : Fr} {σ : St} {G : Hp} {T : (β → Hp → Prop) → Prop} {T' : β → Hp → (β' → Hp → Prop) → Prop} {g : α → En → O α'} : ∀ {r : O α}, OutV K W rel F σ G T r →
    (∀ a Γ1 b H1 G1, Rl K F Γ1 σ H1 G1 → Le G G1 → rel F Γ1 σ H1 G1 a b → OutV K W rel' F σ G1 (T' b H1) (g a Γ1)) → OutV K W rel' F σ G (fun Q => T fun b H1 => T' b H1 Q) (r.bind g)
  | .fail, _, _ => trivial
  | .exc _ _ _ _, h, _ => fun Q q => h _ q
  | .ok a Γ1, h, k => by
    show OutV K W rel' F σ G _ (g a Γ1)
    cases e2 : g a Γ1 with
    | fail => trivial
    | exc c ns fs Γ' =>
      intro Q q
      refine h _ fun b H1 G1 R1 le1 r1 => ?_
      have h2 := k a Γ1 b H1 G1 R1 le1 r1
      rw [e2] at h2
      exact h2 Q fun cls dx H' G' R' le' x => q cls dx H' G' R' (le1.trans le') x
    | ok a' Γ' =>
      intro Q q
      refine h _ fun b H1 G1 R1 le1 r1 => ?_
      have h2 := k a Γ1 b H1 G1 R1 le1 r1
      rw [e2] at h2
      exact h2 Q fun b' H' G' R' le' x => q b' H' G' R' (le1.trans le') x
end
end FL

set_option Elab.async false
set_option linter.all false
set_option maxRecDepth 100000
set_option maxHeartbeats 4000000
namespace FL
open PySem PySem.Spec PyProof.Rows L2
variable [Wrl] [Tabl]
variable {X : Cx} {W : WX} {e a o : Expr} {f g f1 f2 f3 fo fa : EF} {pos apos kpos p : Pos} {es : List Expr} {u uk : AF} {kws : List Keyword} {nm : Option Str}
structure FK (X : Cx) (W : WX) (kws : List Keyword) (f : AF) : Prop where
  ex : ∃ t, PK X kws t ∧ Sem X.K W (vsrel X.K) t f
theorem fk_nil : FK X W [] aNil := ⟨_, pk_nil, fun F Γ σ H G R Q q => q [] H G R (Le.refl G) .nil⟩
theorem fk_cons {r : AF} (ha : FE X W e f) (hr : FK X W kws r) : FK X W (⟨nm, e, kpos⟩ :: kws) (aCons f r) := by
  obtain ⟨u1, p1, s1⟩ := ha
  obtain ⟨u2, p2, s2⟩ := hr
  refine ⟨_, pk_cons p1 p2, Sem.bind (T := fun x σ H Q => u2 σ H fun xs H2 => Q (x :: xs) H2) s1 (SemK.bind (T := fun x xs (σ : St) H Q => Q (x :: xs) H) (vrel_mono X.K) s2.toK fun F Γ σ H G a b a' b' R r r' => ?_)⟩
  exact fun Q q => q _ H G R (Le.refl G) (.cons r r')
def pick {α : Type} (pm : List Nat) (xs : List α) : List α := pm.filterMap (xs[·]?)
theorem paired_none {α β : Type} {R : α → β → Prop} {xs : List α} {ys : List β} {i : Nat} (h : Paired R xs ys) (e : xs[i]? = none) : ys[i]? = none := by
  rw [List.getElem?_eq_none_iff] at *
  rw [← Paired.length h]; exact e
theorem pick_paired {α β : Type} {R : α → β → Prop} {xs : List α} {ys : List β} (h : Paired R xs ys) : ∀ pm, Paired R (pick pm xs) (pick pm ys)
  | [] => .nil
  | i :: pm => by
    unfold pick
    cases e : xs[i]? with
    | none =>
      rw [List.filterMap_cons_none e, List.filterMap_cons_none (paired_none h e)]
      exact pick_paired h pm
    | some x =>
      obtain ⟨y, e2, r⟩ := paired_get h e
      rw [List.filterMap_cons_some e, List.filterMap_cons_some e2]
      exact .cons r (pick_paired h pm)
structure KB (K : Frg) (fd : FuncData) (ps : List Str) (n : Nat) (ks : List Str) (pm : List Nat) (ds : List Value) : Prop where
  to : ∀ (s : Shared) (us ws : List Value), K.In s.heap → us.length = n → ws.length = ks.length → BindsTo s fd ⟨us, ks.zip ws⟩ (ps.zip (pick pm (us ++ (ws ++ ds))))
section
variable {k : Nat} {fa' C : Addr} {fd : FuncData} {ps ks : List Str} {sp : Sp} {dvs : List V} {ds : List Value} {E : XK} {x m : Str} {pm : List Nat} {n : Nat} {b : Option Nat} {Fn : DFn} {dd : List D}
def callK (b : Option Nat) (n m np : Nat) (pm : List Nat) (Fn : DFn) (dd : List D) (u uk : AF) : VF := fun Γ => (u Γ).bind fun es Γ1 => (uk Γ1).bind fun zs Γ2 =>
  if es.length = n ∧ zs.length = m ∧ (pick pm (es ++ (zs ++ dd.map EV.d))).length = np then finCall b Fn [] (pick pm (es ++ (zs ++ dd.map EV.d))) Γ2 else .fail
end
def badS : SF := fun _ => .fail
theorem takes_noW {X : Cx} : Takes X noW := fun u s' ⟨_, _, _, _, _, _, _, _, _, _, _, _, _, _, _, _, w⟩ => w.elim
end FL

set_option Elab.async false
set_option linter.all false
set_option maxRecDepth 100000
set_option maxHeartbeats 4000000
namespace FL
open PySem PySem.Spec PyProof.Rows L2
abbrev eT : Obj := { cls := .none, data := .fields #[] }
def BB [Wrl] [Tabl] (K : Frg) (mg : Str → Option Value) (base : Heap) : Prop := ∀ t ∈ Tabl.tl K, LamX.TabB base mg t.1 t.2.1
def Entry (K : Frg) (cs : List (Addr × Addr)) (a : Addr) (H : Hp) : Prop :=
  ∀ b u, H b = some u → K.lookup b = none ∧ ((b = a ∧ ∃ o xs, u = .frz o (.lst xs)) ∨ (∃ p ∈ cs, b = p.2 ∧ u = .tbl #[]))
section
variable {P : Program} {w : World} {K : Frg} {mg mb : Str → Option Value} {k : Nat} {fa a : Addr} {fd : FuncData} {x : Str} {sp : Sp} {s₁ : Shared} {vs : List Value} {ns : List Int} {cs : List (Addr × Addr)}
theorem end_core (KX : K.In s₁.heap) (hns : s₁.heap.Ns mainGlobals mg) (hb : s₁.heap.Ns builtinsNs mb) (hbb : ∀ x : Str, x ≠ "__name__" → mb x = bootBuiltins x) (hlim : s₁.heap.NoLimit) (hg : s₁.gens = #[])
    (hT : ∀ p ∈ cs, s₁.heap.get? p.2 = some eT) (C : ∀ p ∈ cs, PySem.W.CodeHd s₁.heap p.1 p.2)
    (hbm : ∃ (bm : Addr) (ob : Obj), mg "__builtins__" = some (.ref bm) ∧ bm ≠ builtinsNs ∧ s₁.heap.get? bm = some ob ∧ ob.cls = .type "module" ∧ ob.dict = some builtinsNs ∧ ob.data = .plain)
    (ha : s₁.heap.get? a = some { cls := .type "list", data := .seq vs.toArray }) (hr : Room k callerA)
    (F : ∀ base : Heap, K.In base → base.Ns mainGlobals mg → (∀ p ∈ cs, LamX.TabB base mg p.1 p.2) → FnG P w K mg base (L2.CX P w) k fa fd [x] sp) (hbind : ∀ (s : Shared) (u : Value), BindsTo s fd ⟨[u], []⟩ [(x, u)])
    (H : Hp) (hO : Entry K cs a H) (hH : ∀ p ∈ cs, H p.2 = some (.tbl #[])) (hsp : sp [.ref a] H (fun v _ => v = .bl true) fun _ _ _ => False) (hok : HOk P w H s₁.heap) :
    codeAny (model P w) callerA (.call (.ref fa) ⟨[.ref a], []⟩) (fun r s' => r = .ok (.ret (.bool true)) ∧ OldK s₁.heap s'.heap ∧ s'.os = s₁.os ∧ AllBare s'.gens) s₁ := by
  have seen : ∀ {b : Addr} {o : Obj}, s₁.heap.get? b = some o → H b ≠ none → K.lookup b = none ∧ (o = { cls := .type "list", data := .seq vs.toArray } ∨ o = eT) := fun {b o} e h => by
    cases q : H b with
    | none => exact absurd q h
    | some u =>
      obtain ⟨n, z | ⟨p, hp, z, _⟩⟩ := hO b u q
      · refine ⟨n, .inl ?_⟩
        rw [z.1, ha] at e
        exact (Option.some.inj e).symm
      · refine ⟨n, .inr ?_⟩
        rw [z, hT p hp] at e
        exact (Option.some.inj e).symm
  have clear : ∀ {b : Addr} {o : Obj}, s₁.heap.get? b = some o → o ≠ { cls := .type "list", data := .seq vs.toArray } → o ≠ eT → H b = none := fun {b o} e n1 n2 => Classical.byContradiction fun h => (seen e h).2.elim n1 n2
  have dicts : ∀ {b : Addr} {o : Obj} {es : Array DictEntry} {ep : Nat}, s₁.heap.get? b = some o → o.data = .dict es ep → H b = none := fun {b o es ep} e d => clear e (fun z => by rw [z] at d; cases d) fun z => by rw [z] at d; cases d
  have ns : ∀ {b : Addr} {m : Str → Option Value}, s₁.heap.Ns b m → (hidT s₁.heap H).Ns b m := fun {b m} ⟨o, es, ep, e, d, r⟩ => ⟨o, es, ep, hidT_get e (dicts e d), d, r⟩
  have kin : K.In (hidT s₁.heap H) := fun b o e => hidT_get (KX b o e) (Classical.byContradiction fun h => by
    rw [(seen (KX b o e) h).1] at e
    cases e)
  obtain ⟨mc, l1, l2⟩ := hlim
  have notNs : ∀ {b c : Addr} {m : Str → Option Value} {o : Obj}, s₁.heap.Ns c m → s₁.heap.get? b = some o → (∀ es ep, o.data ≠ .dict es ep) → b ≠ c := fun {b c m o} ⟨o', es, ep, e', d', _⟩ e n z => by
    rw [z, e'] at e
    cases e
    exact n _ _ d'
  have TB : ∀ p ∈ cs, LamX.TabB (hidT s₁.heap H) mg p.1 p.2 := fun p hp => by
    obtain ⟨o, us, file, tf, flags, tg, inF, text, tt, e1, r1, r2, r3⟩ := C p hp
    have c1 : H p.1 = none := clear e1 (fun z => by rw [z] at r2; cases r2) fun z => by
      rw [z] at r2
      cases r2
      simp at r3
    obtain ⟨bm, ob, b1, b2, b3, b4, b5, b6⟩ := hbm
    refine ⟨⟨o, us, file, tf, flags, tg, inF, text, tt, hidT_get e1 c1, r1, r2, r3⟩, ?_, fun z => notNs hns (hT p hp) (fun _ _ q => by cases q) z.symm⟩
    refine ⟨bm, ob, b1, b2, notNs hns b3 (fun _ _ q => by rw [b6] at q; cases q), fun z => ?_, hidT_get b3 (clear b3 (fun z => by rw [z] at b6; cases b6) fun z => by rw [z] at b6; cases b6), b4, b5, b6⟩
    rw [z, hT p hp] at b3
    cases b3
    cases b6
  have e0 : Env0 P w K mg (hidT s₁.heap H) callerA [] s₁ H := ⟨rfl, ⟨kin, ns hns, ⟨mb, ns hb, hbb⟩, mc, ns l1, l2⟩, fun b o e => of_hidT e, Nat.le_of_eq (hidT_size _ _), trivial, fun b hb => absurd (show b ∈ ([] : List Addr) from hb) (by simp), hok, .of_eq hg⟩
  refine codeAny_mono ((F _ kin (ns hns) TB).run callerA [] s₁ H ⟨[.ref a], []⟩ [.ref a] [.ref a] _ _ hr rfl e0 (hbind s₁ (.ref a)) (.cons rfl .nil) hsp) fun r s' h => ?_
  match r, h with
  | .error e, h =>
    obtain ⟨_, _, _, _, _, _, _, _, _, _, _, _, z⟩ := (h : L2.CX P w [] H s₁ (fun _ _ _ => False) e s')
    exact z.elim
  | .ok .next, h => exact False.elim h
  | .ok .brk, h => exact False.elim h
  | .ok .cont, h => exact False.elim h
  | .ok (.ret u), h =>
    obtain ⟨v, H', os, bare, un, hok', r', q⟩ := h
    obtain rfl : v = .bl true := q
    obtain rfl : u = Value.bool true := r'
    have was : ∀ b o, s₁.heap.get? b = some o → s'.heap.get? b = some o ∨ ∃ p ∈ cs, b = p.2 := fun b o e => by
      cases z : H b with
      | none => exact .inl (un.keep b o e z (by intro y; exact absurd (show b ∈ ([] : List Addr) from y) (by simp)) (by simp))
      | some u =>
        obtain ⟨_, ⟨_, ob, xs, y⟩ | ⟨p, hp, y, _⟩⟩ := hO b u z
        · subst y
          obtain ⟨e1, _⟩ := hok b _ z
          obtain ⟨e2, _⟩ := hok' b _ (un.frzs b ob _ z)
          rw [e] at e1
          cases e1
          exact .inl e2
        · exact .inr ⟨p, hp, y⟩
    have more : ∀ p ∈ cs, ∃ ps : Array Value, s'.heap.get? p.2 = some { cls := .none, data := .fields ps } := fun p hp => by
      obtain ⟨m, z⟩ := un.tbls p.2 #[] (hH p hp)
      exact ⟨_, hok' p.2 _ z⟩
    refine ⟨rfl, ⟨fun b o e => ?_, fun b o e => ?_⟩, os, bare⟩
    · rcases was b o e with z | ⟨p, hp, z⟩
      · exact .inl z
      · obtain ⟨ps, m⟩ := more p hp
        subst z
        have eo := (hT p hp).symm.trans e
        cases eo
        exact .inr (.inl ⟨((C p hp).tab (hT p hp)).isCodeTable, rfl, #[], ps, rfl, by rw [Array.empty_append]; exact m⟩)
    · rcases was b o e with z | ⟨p, hp, z⟩
      · exact ⟨o, z⟩
      · obtain ⟨ps, m⟩ := more p hp
        exact ⟨_, by rw [z]; exact m⟩
theorem end_call (KX : K.In s₁.heap) (hns : s₁.heap.Ns mainGlobals mg) (hb : s₁.heap.Ns builtinsNs mb) (hbb : ∀ x : Str, x ≠ "__name__" → mb x = bootBuiltins x) (hlim : s₁.heap.NoLimit) (hg : s₁.gens = #[])
    (hT : ∀ p ∈ cs, s₁.heap.get? p.2 = some eT) (nT : ∀ p ∈ cs, K.lookup p.2 = none) (C : ∀ p ∈ cs, PySem.W.CodeHd s₁.heap p.1 p.2)
    (hbm : ∃ (bm : Addr) (ob : Obj), mg "__builtins__" = some (.ref bm) ∧ bm ≠ builtinsNs ∧ s₁.heap.get? bm = some ob ∧ ob.cls = .type "module" ∧ ob.dict = some builtinsNs ∧ ob.data = .plain)
    (ha : s₁.heap.get? a = some { cls := .type "list", data := .seq vs.toArray }) (hi : IntsAre vs ns) (hl : ns.length ≤ sizeLine) (hr : Room k callerA)
    (F : ∀ base : Heap, K.In base → base.Ns mainGlobals mg → (∀ p ∈ cs, LamX.TabB base mg p.1 p.2) → FnG P w K mg base (L2.CX P w) k fa fd [x] sp) (hbind : ∀ (s : Shared) (u : Value), BindsTo s fd ⟨[u], []⟩ [(x, u)])
    (hsp : ∀ H : Hp, (∀ p ∈ cs, H p.2 = some (.tbl #[])) → SqL K H a (ns.map V.int) → sp [.ref a] H (fun v _ => v = .bl true) fun _ _ _ => False) :
    codeAny (model P w) callerA (.call (.ref fa) ⟨[.ref a], []⟩) (fun r s' => r = .ok (.ret (.bool true)) ∧ OldK s₁.heap s'.heap ∧ s'.os = s₁.os ∧ AllBare s'.gens) s₁ := by
  have core := end_core KX hns hb hbb hlim hg hT C hbm ha hr F hbind
  let H0 : Hp := fun b => open Classical in if (∃ p ∈ cs, b = p.2) then some (.tbl #[]) else none
  have t0 : ∀ p ∈ cs, H0 p.2 = some (.tbl #[]) := fun p hp => if_pos ⟨p, hp, rfl⟩
  have g0 : ∀ b u, H0 b = some u → ∃ p ∈ cs, b = p.2 ∧ u = .tbl #[] := fun b u e => by
    by_cases h : ∃ p ∈ cs, b = p.2
    · obtain ⟨p, hp, rfl⟩ := h
      rw [t0 p hp] at e
      cases e
      exact ⟨p, hp, rfl, rfl⟩
    · rw [show H0 b = none from if_neg h] at e
      cases e
  have ok0 : ∀ b u, H0 b = some u → ObjOk P w H0 s₁.heap b u := fun b u e => by
    obtain ⟨p, hp, rfl, rfl⟩ := g0 b u e
    exact hT p hp
  cases hk : K.lookup a with
  | some o =>
    -- the script stands among the module's objects
    have e := (KX a o hk).symm.trans ha
    cases e
    refine core H0 (fun b u e => ?_) t0 (hsp _ t0 (.inr ⟨_, vs.toArray, _, hk, rfl, rfl, rfl, by rw [List.size_toArray, hi.length]; exact hl, by simpa using vals_ints hi⟩)) ok0
    obtain ⟨p, hp, rfl, rfl⟩ := g0 b u e
    exact ⟨nT p hp, .inr ⟨p, hp, rfl, rfl⟩⟩
  | none =>
    have ap : ∀ p ∈ cs, p.2 ≠ a := fun p hp z => by
      have y := hT p hp
      rw [z, ha] at y
      cases y
    let H1 : Hp := upd H0 a (.frz { cls := .type "list", data := .seq vs.toArray } (.lst (ns.map V.int)))
    have t1 : ∀ p ∈ cs, H1 p.2 = some (.tbl #[]) := fun p hp => (upd_ne (ap p hp)).trans (t0 p hp)
    refine core H1 (fun b u e => ?_) t1 (hsp _ t1 (.inl (.inr ⟨_, upd_same⟩))) fun b u z => ?_
    · by_cases h : b = a
      · subst h
        have e := (upd_same (H := H0)).symm.trans e
        cases e
        exact ⟨hk, .inl ⟨rfl, _, _, rfl⟩⟩
      · obtain ⟨p, hp, rfl, rfl⟩ := g0 b u ((upd_ne h).symm.trans e)
        exact ⟨nT p hp, .inr ⟨p, hp, rfl, rfl⟩⟩
    · by_cases h : b = a
      · subst h
        have e := (upd_same (H := H0)).symm.trans z
        cases e
        exact ⟨ha, by rw [List.length_map]; exact hl, vs, _, vals_ints hi, ha⟩
      · obtain ⟨p, hp, rfl, rfl⟩ := g0 b u ((upd_ne h).symm.trans z)
        exact hT p hp
end
structure TabsOk [Wrl] [Tabl] (K : Frg) (h : Heap) : Prop where
  hT : ∀ t ∈ Tabl.tl K, h.get? t.2.1 = some eT
  nT : ∀ t ∈ Tabl.tl K, K.lookup t.2.1 = none
  cd : ∀ t ∈ Tabl.tl K, PySem.W.CodeHd h t.1 t.2.1
theorem end_law [Tabl] {l : PySem.W.OpenLaw} {n k : Nat} {q : Program} {loose : List Str} {XP : (Str → Option Value) → Heap → Prop} {YP : World → Heap → Prop} {d : DefRec} {x : Str}
    (hn : l.most = some n) (hn2 : n ≤ sizeLine) (hdf : d.params.defaults = []) (hr : Room k callerA)
    (F : ∀ (w : World) (mg : Str → Option Value) (fa : Addr) (h : Heap), YP w h → h.Ns mainGlobals mg → mg d.name = some (.ref fa) → letI : Wrl := ⟨l.prog, w⟩
      ∃ (K : PySem.W.Frag) (fd : FuncData) (sp : Sp), K.In h ∧ TabsOk K h ∧ (∀ (s : Shared) (u : Value), BindsTo s fd ⟨[u], []⟩ [(x, u)]) ∧
        (∀ (H : Hp) (a : Addr) (ns : List Int), ns.length ≤ n → LamX.Tabs (Tabl.tabs K) H → SqL K H a (ns.map V.int) → sp [.ref a] H (fun v _ => v = .bl true) fun _ _ _ => False) ∧
        ∀ base : Heap, K.In base → base.Ns mainGlobals mg → BB K mg base → FnG l.prog w K mg base (L2.CX l.prog w) k fa fd [x] sp) :
    PySem.W.WalkO q loose XP YP l.row.toRowW d [] (fun f vs => PySem.call f vs) :=
  Att.attach_call hn hdf fun w s₀ s₁ mg mb fa o pm cd doc a vs ns G Y ho hd hcd hmg hobj hints hlen hg => by
    letI : Wrl := ⟨l.prog, w⟩
    obtain ⟨K, fd, sp, KX, TO, hb, hsp, hF⟩ := F w mg fa _ Y G.T.g hmg
    have un : ∀ {Q : Addr × Addr → Prop}, (∀ t ∈ Tabl.tl K, Q (t.1, t.2.1)) → ∀ p ∈ (Tabl.tl K).map (fun t => (t.1, t.2.1)), Q p := fun {Q} h p hp => by
      obtain ⟨t, ht, rfl⟩ := List.mem_map.mp hp
      exact h t ht
    refine end_call (cs := (Tabl.tl K).map fun t => (t.1, t.2.1)) KX G.T.g G.T.b G.T.builtins G.T.nolimit hg (un TO.hT) (un TO.nT) (un TO.cd) G.T.bmain hobj hints (Nat.le_trans hlen hn2) hr (fun base h1 h2 h3 => hF base h1 h2 fun t ht => h3 _ (List.mem_map.mpr ⟨t, ht, rfl⟩)) hb fun H hH hS => hsp H a ns hlen (fun p hp => ?_) hS
    obtain ⟨t, ht, rfl⟩ := List.mem_map.mp hp
    exact LamX.TabS.nil (hH _ (List.mem_map.mpr ⟨t, ht, rfl⟩))
theorem law_sp [Wrl] [Tabl] {K : Frg} {x : Str} {Fn : DFn} (h : ∀ ns : List Int, Fn [.scr ns] = .ok (.bl true) none) (H : Hp) (a : Addr) (ns : List Int) (hT : LamX.Tabs (Tabl.tabs K) H) (hS : SqL K H a (ns.map V.int)) : spL K [x] none Fn [.ref a] H (fun v _ => v = .bl true) fun _ _ _ => False := by
  have hS' : SqL K (vis H) a (ns.map V.int) := by
    rcases hS with hS | hS
    · rcases hS with e | ⟨o, e⟩
      · exact .inl (.inl (vis_of e fun _ z => by cases z))
      · exact .inl (.inr ⟨o, vis_of e fun _ z => by cases z⟩)
    · exact .inr hS
  refine ⟨rfl, vis H, [.scr ns], fun a o e => (vis_get e).1, ⟨fun a o e => (vis_get e).2, hT⟩, ⟨rfl, fun i d v h1 h2 _ => ?_, fun i z => nomatch z⟩, ?_⟩
  · cases i with
    | zero => cases h1; cases h2; exact ⟨a, rfl, hS'⟩
    | succ i => simp at h1
  · rw [h ns]
    exact fun v H' G' _ r => r
abbrev AlE : Type := He.AlD × Bool
def obsE (fa : List He.Fa) (fn : List He.DefD) (ex : Frg → Bool) (K : Frg) : AlE := (He.obsD fa fn K, ex K)
section
variable [Wrl]
mutual
def cst (K : Frg) : D → Value → Bool
  | .non, .none => true
  | .bl b, .bool c => b == c
  | .int i, .int j _ => decide (i = j)
  | .str x, .str y _ => decide (x = y)
  | .tup ds, .ref a => (match K.lookup a with
    | some ⟨.type c, _, .seq its _, _⟩ => decide (c = "tuple") && (decide (its.size ≤ sizeLine) && csts K ds its.toList)
    | _ => false)
  | _, _ => false
def csts (K : Frg) : List D → List Value → Bool
  | [], [] => true
  | d :: ds, u :: us => cst K d u && csts K ds us
  | _, _ => false
end
mutual
theorem cst_ok {K : Frg} : ∀ (d : D) (u : Value), cst K d u = true → ∃ v, RelV v u ∧ ∀ G, Rep K G d v
  | .non, .none, h => ⟨.non, rfl, fun _ => rfl⟩
  | .bl b, .bool c, h => ⟨.bl c, rfl, fun _ => by rw [eq_of_beq (show (b == c) = true from h)]; rfl⟩
  | .int i, .int j t, h => ⟨.int j, ⟨t, rfl⟩, fun _ => by rw [of_decide_eq_true (p := i = j) h]; rfl⟩
  | .str x, .str y t, h => ⟨.str y, ⟨t, rfl⟩, fun _ => by rw [of_decide_eq_true (p := x = y) h]; rfl⟩
  | .tup ds, .ref a, h => by
    unfold cst at h
    split at h
    · rename_i c od its n sl q
      obtain ⟨h1, h2⟩ := He.ba h
      obtain ⟨h3, h4⟩ := He.ba h2
      obtain ⟨vs, h5, h6⟩ := csts_ok ds its.toList h4
      exact ⟨.ref a, rfl, fun G => ⟨a, vs, rfl, .inr ⟨_, its, n, q, congrArg Value.type (of_decide_eq_true h1), rfl, of_decide_eq_true h3, h5⟩, h6 G⟩⟩
    · cases h
  | .lst _, u, h => by unfold cst at h; cases h
  | .scr _, u, h => by unfold cst at h; cases h
  | .dk _ _, u, h => by unfold cst at h; cases h
  | .fk _ _, u, h => by unfold cst at h; cases h
  | .dn _ _ _, u, h => by unfold cst at h; cases h
  | .ins _ _ _, u, h => by unfold cst at h; cases h
theorem csts_ok {K : Frg} : ∀ (ds : List D) (us : List Value), csts K ds us = true → ∃ vs, Vals vs us ∧ ∀ G, Reps K G ds vs
  | [], [], _ => ⟨[], .nil, fun _ => rfl⟩
  | d :: ds, u :: us, h => by
    obtain ⟨h1, h2⟩ := He.ba (show (cst K d u && csts K ds us) = true from h)
    obtain ⟨v, r1, r2⟩ := cst_ok d u h1
    obtain ⟨vs, r3, r4⟩ := csts_ok ds us h2
    exact ⟨v :: vs, .cons r1 r3, fun G => ⟨v, vs, rfl, r2 G, r4 G⟩⟩
end
def cstB (K : Frg) (x : Str) (d : D) : Bool := match PySem.W.nsIn K mainGlobals x with
  | some (some u) => cst K d u
  | _ => false
theorem cstB_ok {K : Frg} {mg : Str → Option Value} {h : Heap} (X : K.In h) (G : h.Ns mainGlobals mg) {x : Str} {d : D} (c : cstB K x d = true) : ∃ (v : V) (u : Value), mg x = some u ∧ RelV v u ∧ ∀ G, Rep K G d v := by
  unfold cstB at c
  split at c
  · rename_i u e
    obtain ⟨v, h1, h2⟩ := cst_ok d u c
    refine ⟨v, u, ?_, h1, h2⟩
    exact PySem.W.mg_of X G e
  · cases c
end
end FL

set_option Elab.async false
set_option linter.all false
set_option maxRecDepth 100000
set_option maxHeartbeats 4000000
namespace FL
open PySem PySem.Spec PyProof.Rows L2
variable [Wrl] [Tabl]
variable {X : Cx} {W : WX} {e a b c o tg iter : Expr} {f g f1 f2 f3 fo fa : EF} {pos apos kpos p : Pos} {es : List Expr}
theorem pi_or {t1 t2 : TI} (h1 : PI X tg iter t1) (h2 : PI X tg iter t2) : PI X tg iter (fun σ H R => t1 σ H R ∨ t2 σ H R) :=
  ⟨fun pins s σ H R I q => q.elim (fun q => h1.run pins s σ H R I q) fun q => h2.run pins s σ H R I q⟩
def itA (ev : EV) (Γ : En) : O (List D) := match ev with
  | .d (.tup ds) => .ok ds Γ
  | .d (.scr ns) => .ok (ns.map D.int) Γ
  | .d (.str x) => .ok (x.cps.toList.map fun c => D.str ⟨#[c]⟩) Γ
  | _ => itL ev Γ
def anyI (f : EF) : IF := fun Γ => (f Γ).bind itA
theorem OutI.or {K : Frg} {F : Fr} {σ : St} {G : Hp} {T1 T2 T : (It → Hp → Prop) → Prop} : ∀ {r : O (List D)}, OutI K W F σ G T1 r ∨ OutI K W F σ G T2 r → (∀ Q, T1 Q → T Q) → (∀ Q, T2 Q → T Q) → OutI K W F σ G T r
  | .ok _ _, h, k1, k2 => fun Q q => h.elim (fun h => k1 _ (h Q q)) fun h => k2 _ (h Q q)
  | .exc _ _ _ _, h, k1, k2 => fun Q q => h.elim (fun h => k1 _ (h Q q)) fun h => k2 _ (h Q q)
  | .fail, _, _, _ => trivial
theorem fi_any (h : FE X W e f) : FI X W tg e (anyI f) := by
  obtain ⟨t1, p1, s1⟩ := fi_list (tg := tg) h
  obtain ⟨t2, p2, s2⟩ := fi_tup (tg := tg) h
  obtain ⟨t3, p3, s3⟩ := fi_scr (tg := tg) h
  obtain ⟨t4, p4, s4⟩ := fi_str (tg := tg) h
  refine ⟨_, pi_or (pi_or p1 p2) (pi_or p3 p4), fun F Γ σ H G R => ?_⟩
  have k1 := s1 F Γ σ H G R
  have k2 := s2 F Γ σ H G R
  have k3 := s3 F Γ σ H G R
  have k4 := s4 F Γ σ H G R
  unfold anyI
  revert k1 k2 k3 k4
  cases f Γ with
  | fail => exact fun _ _ _ _ => trivial
  | exc c ns fs Γ' => exact fun k _ _ _ => OutI.or (T1 := t1 σ H) (T2 := t1 σ H) (.inl k) (fun Q q => .inl (.inl q)) fun Q q => .inl (.inl q)
  | ok ev Γ' =>
    intro k1 k2 k3 k4
    show OutI X.K W F σ G _ (itA ev Γ')
    unfold itA
    split
    · exact OutI.or (T1 := t2 σ H) (T2 := t2 σ H) (.inl k2) (fun Q q => .inl (.inr q)) fun Q q => .inl (.inr q)
    · exact OutI.or (T1 := t3 σ H) (T2 := t3 σ H) (.inl k3) (fun Q q => .inr (.inl q)) fun Q q => .inr (.inl q)
    · exact OutI.or (T1 := t4 σ H) (T2 := t4 σ H) (.inl k4) (fun Q q => .inr (.inr q)) fun Q q => .inr (.inr q)
    · exact OutI.or (T1 := t1 σ H) (T2 := t1 σ H) (.inl k1) (fun Q q => .inl (.inl q)) fun Q q => .inl (.inl q)
def rng1 (u : AF) : IF := fun Γ => (u Γ).bind itR1
def rng2 (u : AF) : IF := fun Γ => (u Γ).bind itR2
theorem fi_rng1 {u : AF} (hm : X.mg "range" = none) (h : FA X W [a] u) (hg : Gl X "range" := by rfl) (hs : starEach [a] X.env = [(false, eval a X.env)] := by rfl) : FI X W tg (.Call (.Name "range" p) [a] [] pos) (rng1 u) := fi_range1 hm h hg hs
def bSeq (n : Nat) (bs : List D → En → Option En) : BF
  | .tup ds, Γ => if ds.length = n then bs ds Γ else none
  | .lst ds, Γ => if ds.length = n then bs ds Γ else none
  | _, _ => none
def addV2 (e1 e2 : EV) (Γ : En) : O VV := match e1.look Γ, e2.look Γ with
  | some (.lst xs), some (.lst ys) => if xs.length + ys.length ≤ sizeLine then .ok (.n (.l (xs ++ ys))) Γ else .fail
  | some d1, some d2 => (match addD d1 d2 with | some x => .ok (.e (.d x)) Γ | none => .fail)
  | _, _ => .fail
def addV (f1 f2 : EF) : VF := fun Γ => (f1 Γ).bind fun e1 Γ1 => (f2 Γ1).bind (addV2 e1)
theorem fv_add (ha : FE X W a f1) (hb : FE X W b f2) : FV X W (.BinOp a .Add b pos) (addV f1 f2) := by
  obtain ⟨u1, p1, s1⟩ := ha
  obtain ⟨u2, p2, s2⟩ := hb
  refine ⟨_, pe_op op_addA p1 p2, fun F Γ σ H G R => ?_⟩
  refine OutV.bind (T' := fun x H1 Q => u2 σ H1 fun y H2 => rAddA X.K x y H2 Q) (s1 F Γ σ H G R) fun ev Γ1 v H1 G1 R1 _ r1 => ?_
  refine OutV.bind (T' := fun y H2 Q => rAddA X.K v y H2 Q) (s2 F Γ1 σ H1 G1 R1) fun ev2 Γ2 v2 H2 G2 R2 le2 r2 => ?_
  unfold addV2
  split
  · rename_i xs ys e1 e2
    split
    · rename_i hz
      intro Q q
      obtain ⟨l1, vs1, rfl, h1, q1⟩ := (R2.look (vrel_mono _ _ _ _ _ _ le2 r1) e1).lst R2.gh
      obtain ⟨l2, vs2, rfl, h2, q2⟩ := (R2.look r2 e2).lst R2.gh
      refine .inr (.inr (.inl ⟨l1, l2, vs1, vs2, rfl, rfl, h1, h2, by rw [q1.len, q2.len]; exact hz, fun p hp => ?_⟩))
      obtain ⟨R3, n⟩ := R2.newN (o := .l (xs ++ ys)) hp ⟨_, rfl, q1.append q2⟩
      exact q _ _ _ R3 (Le.refl _) n
    · trivial
  · rename_i d1 d2 _ e1 e2
    split
    · rename_i x e3
      exact fun Q q => add_ok F Γ2 σ H2 G2 d1 d2 v v2 x Q R2 (R2.look (vrel_mono _ _ _ _ _ _ le2 r1) e1) (R2.look r2 e2) e3 fun v H' G' R' le r => q v H' G' R' le r
    · trivial
  · trivial
theorem ft_ne (hu : X.A.units + 64 < cLine) (ha : FE X W a f1) (hb : FE X W b f2) : FT X W (.Compare a [.NotEq] [b] pos) (tstE (op2 neD f1 f2)) := ft_cmp (op_neA hu) ne_ok ha hb (nomark _)
def fdOf (K : Frg) (f : Addr) : FuncData := match K.lookup f with
  | some ⟨_, _, .func fd, _⟩ => fd
  | _ => default
theorem fdOf_eq {K : Frg} {x qual : Str} {params : Arguments} {body : List Stmt} {scope : Scope} {dvs : List V} {kws : List (Str × V)} {f : Addr} {fd : FuncData} (F : FunD K x qual params body scope dvs kws f fd) : fd = fdOf K f := by
  obtain ⟨oc, od, dV, kV, doc, pm, an, cdv, ct, osl, rfl, lk, _⟩ := F.ex
  unfold fdOf
  rw [lk]
structure Tx (fa : List He.Fa) (fn : List He.DefD) (ex : Frg → Bool) (K : Frg) (mg : Str → Option Value) : Prop where
  hh : ∃ h : Heap, K.In h ∧ h.Ns mainGlobals mg
  c : He.SaysD fa fn K
  e : ex K = true
section
variable {fas : List He.Fa} {fn : List He.DefD} {ex : Frg → Bool} {K : Frg} {mg : Str → Option Value}
theorem Tx.free (T : Tx fas fn ex K mg) (i : Nat) {x : Str} (h : fas[i]? = some (.free x)) : mg x = none := by
  obtain ⟨_, X, G⟩ := T.hh
  exact He.free_ok X G (T.c.fact i h)
theorem Tx.glo (T : Tx fas fn ex K mg) (i : Nat) {x : Str} (h : fas[i]? = some (.glo x)) : mg x = some (.ref (He.ga K x)) := by
  obtain ⟨_, X, G⟩ := T.hh
  exact He.glo_ok X G (T.c.fact i h)
theorem Tx.fund (T : Tx fas fn ex K mg) (i : Nat) {d : He.DefD} (h : fn[i]? = some d) : FunD K d.name d.qual d.params d.body d.scope (d.dvs K) (d.kws K) (He.fAd K d.at_) (fdOf K (He.fAd K d.at_)) := by
  obtain ⟨fd, F⟩ := T.c.def_ i h
  rw [← fdOf_eq F]
  exact F
theorem Tx.con (T : Tx fas fn ex K mg) {x : Str} {d : D} (h : cstB K x d = true) : ∃ (v : V) (u : Value), mg x = some u ∧ RelV v u ∧ ∀ G, Rep K G d v := by
  obtain ⟨_, X, G⟩ := T.hh
  exact cstB_ok X G h
end
theorem Room.u65 {k : Nat} {A : Around} (r : Room k A) : A.units + 65 < cLine := by have := r.un; omega
end FL

set_option Elab.async false
set_option linter.all false
set_option maxRecDepth 100000
set_option maxHeartbeats 4000000
namespace FL
open PySem PySem.Spec PyProof.Rows L2
variable [Wrl] [Tabl]
variable {X : Cx} {W : WX} {e a b c o tg iter : Expr} {f g f1 f2 f3 fo fa : EF} {pos apos kpos p : Pos} {es : List Expr}
def finU (ev : EV) (Γ : En) : O EV := match ev with
  | .d (.int i) => .ok (.d (.int (-i))) Γ
  | _ => .fail
def negE (f : EF) : EF := fun Γ => (f Γ).bind finU
theorem fe_neg (ha : FE X W a f) : FE X W (.UnaryOp .USub a pos) (negE f) := by
  obtain ⟨t, p, s⟩ := ha
  refine ⟨_, pe_un un_neg p, Sem.bind (T := fun x σ H Q => rU (fun i => .int (-i)) x H Q) s fun F Γ σ H G ev v R r => ?_⟩
  unfold finU
  split
  · exact fun Q q => ⟨_, r, q _ H G R (Le.refl G) rfl⟩
  · trivial
def blkB (N : List Str) (sc scope : Scope) (own : List (Str × Nat)) : Bool :=
  (match scope.kind with | .function => true | _ => false) && (scope.names.all fun y => scope.names.lookup y.1 == some y.2) && (own.all fun p => N[p.2]? == some p.1) &&
  (scope.names.all fun y => !(y.2 == .free) || (sc.names.lookup y.1 == some .cell || sc.names.lookup y.1 == some .free)) &&
  (scope.names.all fun y => !(y.2 == .local || y.2 == .cell) || (own.any fun p => p.1 == y.1) || !(N.any fun n => n == y.1))
theorem blk_of {N : List Str} {sc scope : Scope} {own : List (Str × Nat)} (h : blkB N sc scope own = true) : BlkOk N sc scope own := by
  unfold blkB at h
  simp only [Bool.and_eq_true, List.all_eq_true, beq_iff_eq] at h
  obtain ⟨⟨⟨⟨h1, h2⟩, h3⟩, h4⟩, h5⟩ := h
  refine ⟨?_, h2, h3, fun y hy e => ?_, fun y hy e => ?_⟩
  · split at h1
    · assumption
    · cases h1
  · have := h4 y hy
    rw [e] at this
    simpa using this
  · have := h5 y hy
    rcases e with e | e
    all_goals
      rw [e] at this
      simp only [Bool.or_eq_true, List.any_eq_true, beq_iff_eq, Bool.not_eq_true', List.any_eq_false] at this
      rcases this with (h | ⟨p, hp, e⟩) | h
      · simp at h
      · exact .inl (List.mem_map.mpr ⟨p, hp, e⟩)
      · exact .inr fun z => (by simpa using h _ z)
end FL

set_option Elab.async false
set_option linter.all false
set_option maxRecDepth 100000
set_option maxHeartbeats 4000000
namespace FL
open PySem PySem.Spec PyProof.Rows L2
def Sl.isB : Sl → Bool
  | .bor _ => true
  | _ => false
def seqK (s2 : SF) (r : O Fl) : O Fl := match r with
  | .ok .nx Γ1 => s2 Γ1
  | r => r
def ifK (s1 s2 : SF) (k : Bool) : SF := fun Γ => if k then s1 Γ else s2 Γ
def andK (t : TF) (k : Bool) : TF := fun Γ => if k then t Γ else .ok false Γ
def orK (t : TF) (k : Bool) : TF := fun Γ => if k then .ok true Γ else t Γ
def ifEK (f1 f2 : EF) (k : Bool) : EF := fun Γ => if k then f1 Γ else f2 Γ
def andEK (f : EF) (k : Bool) : EF := fun Γ => if k then f Γ else .ok (.d (.bl false)) Γ
def orEK (f : EF) (k : Bool) : EF := fun Γ => if k then .ok (.d (.bl true)) Γ else f Γ
def rtK (r : Option (D × En)) : O Fl := match r with
  | some (x, Γ') => .ok (.rt x) Γ'
  | none => .fail
def stK (i : Nat) (r : Option (D × En)) : O Fl := match r with
  | some (d, Γ') => if isBor Γ' i = false then .ok .nx (Γ'.set i (.im d)) else .fail
  | none => .fail
def nxK (r : Option En) : O Fl := match r with
  | some Γ => .ok .nx Γ
  | none => .fail
def sbK (bf : BF) (r : Option (D × En)) : O Fl := match r with
  | some (d, Γ1) => nxK (bf d Γ1)
  | none => .fail
def apL (i : Nat) (d : D) (Γ : En) (r : Option OD) : O Fl := match r with
  | some (.l xs) => if xs.length < sizeLine then .ok .nx (putOwn Γ i (.l (xs ++ [d]))) else .fail
  | _ => .fail
def apK (i : Nat) (r : Option (D × En)) : O Fl := match r with
  | some (d, Γ1) => apL i d Γ1 (ownD Γ1 i)
  | none => .fail
def oK (Γ : En) (r : Option D) : O EV := match r with
  | some x => .ok (.d x) Γ
  | none => .fail
def bK (Γ : En) (r : Option Bool) : O EV := match r with
  | some x => .ok (.d (.bl x)) Γ
  | none => .fail
def veK (r : O EV) : O VV := match r with
  | .ok ev Γ' => .ok (.e ev) Γ'
  | .exc c ns fs Γ' => .exc c ns fs Γ'
  | .fail => .fail
def teK (r : O VV) : O EV := match r with
  | .ok (.e ev) Γ' => .ok ev Γ'
  | .ok (.n o) Γ' => .ok (.d o.d) Γ'
  | .exc c ns fs Γ' => .exc c ns fs Γ'
  | .fail => .fail
def caK (Γ1 : En) (l : Option Nat) (r : Ro) : O VV := match r with
  | .ok d out => .ok (.e (.d d)) (putL l out Γ1)
  | .nw o out => .ok (.n o) (putL l out Γ1)
  | .exc c ns fs out => .exc c ns fs (putL l out Γ1)
  | .fail => .fail
def prK (Fn : DFn) (dd : List D) (r : Option (List D × En × Option Nat)) : O VV := match r with
  | none => .fail
  | some (ds, Γ1, l) => caK Γ1 l (Fn (ds ++ dd))
def cnK (Γ : En) (r : Ro) : O VV := match r with
  | .ok d _ => .ok (.e (.d d)) Γ
  | .nw o' _ => .ok (.n o') Γ
  | .exc c ns fs _ => .exc c ns fs Γ
  | .fail => .fail
def fiK (b : Option Nat) (r : O Fl) : Ro := match r with
  | .ok .nx Γ' => .ok .non (outOf b Γ')
  | .ok (.rt d) Γ' => .ok d (outOf b Γ')
  | .ok (.rn o) Γ' => .nw o (outOf b Γ')
  | .ok .br _ => .fail
  | .ok .ct _ => .fail
  | .exc c ns fs Γ' => .exc c ns fs (outOf b Γ')
  | .fail => .fail
def ruK (b : Option Nat) (s : SF) (r : Option En) : Ro := match r with
  | none => .fail
  | some Γ => fiK b (s Γ)
namespace Ev
variable {f f1 f2 f3 : EF} {t t1 t2 : TF} {s s1 s2 : SF} {Γ : En} {vf : VF} {r u uk : AF} {bf : BF}
theorem seqS : FL.seqS s1 s2 Γ = seqK s2 (s1 Γ) := rfl
theorem seqK0 : seqK s2 (.ok .nx Γ) = s2 Γ := rfl
theorem seqK1 {d} : seqK s2 (.ok (.rt d) Γ) = .ok (.rt d) Γ := rfl
theorem seqK2 {d} : seqK s2 (.ok (.rn d) Γ) = .ok (.rn d) Γ := rfl
theorem seqK3 : seqK s2 (.ok .br Γ) = .ok .br Γ := rfl
theorem seqK4 : seqK s2 (.ok .ct Γ) = .ok .ct Γ := rfl
theorem seqK5 {c ns fs} : seqK s2 (.exc c ns fs Γ) = .exc c ns fs Γ := rfl
theorem seqK6 : seqK s2 .fail = .fail := rfl
theorem nxS : nxS Γ = .ok .nx Γ := rfl
theorem brS : brS Γ = .ok .br Γ := rfl
theorem ctS : ctS Γ = .ok .ct Γ := rfl
theorem badS : badS Γ = .fail := rfl
theorem retN : retN Γ = .ok (.rt .non) Γ := rfl
theorem retS : retS f Γ = (f Γ).bind finR := rfl
theorem retV : retV vf Γ = (vf Γ).bind finRV := rfl
theorem finRVe {ev} : finRV (.e ev) Γ = FL.finR ev Γ := rfl
theorem finRVn {o} : finRV (.n o) Γ = .ok (.rn o) Γ := rfl
theorem finR {ev} : FL.finR ev Γ = rtK (frz1 ev Γ) := by unfold FL.finR rtK; rcases frz1 ev Γ with _ | ⟨x, Γ'⟩ <;> rfl
theorem rtK1 {x} : rtK (some (x, Γ)) = .ok (.rt x) Γ := rfl
theorem givV : givV f Γ = (f Γ).bind giv := rfl
theorem givd {x} : giv (.d x) Γ = .ok (.e (.d x)) Γ := rfl
theorem givo {i} : giv (.own i) Γ = (match Γ[i]? with | some (.acc o) => .ok (.n o) (Γ.set i .no) | _ => .ok (.e (.own i)) Γ) := rfl
theorem exprS : exprS f Γ = (f Γ).bind fun _ Γ1 => .ok .nx Γ1 := rfl
theorem ifS : FL.ifS t s1 s2 Γ = (t Γ).bind (ifK s1 s2) := rfl
theorem ifK1 : ifK s1 s2 true Γ = s1 Γ := rfl
theorem ifK0 : ifK s1 s2 false Γ = s2 Γ := rfl
theorem asgV {i} : asgV i vf Γ = (vf Γ).bind (stoV i) := rfl
theorem stoVe {i ev} : stoV i (.e ev) Γ = stK i (frz1 ev Γ) := by unfold FL.stoV stK; show (match frz1 ev Γ with | some (d, Γ') => (if FL.isBor Γ' i = false then (O.ok Fl.nx (Γ'.set i (.im d)) : O Fl) else O.fail) | none => O.fail) = _; rcases frz1 ev Γ with _ | ⟨x, Γ'⟩ <;> rfl
theorem stK1 {i d} : stK i (some (d, Γ)) = if FL.isBor Γ i = false then .ok .nx (Γ.set i (.im d)) else .fail := rfl
theorem stoVn {i o} : stoV i (.n o) Γ = if isBor Γ i = false then .ok .nx (Γ.set i (.acc o)) else .fail := rfl
theorem asgB : asgB bf f Γ = (f Γ).bind (stoB bf) := rfl
theorem stoB {ev} : FL.stoB bf ev Γ = sbK bf (frz1 ev Γ) := by unfold FL.stoB sbK; rcases frz1 ev Γ with _ | ⟨x, Γ'⟩ <;> rfl
theorem sbK1 {d} : sbK bf (some (d, Γ)) = nxK (bf d Γ) := rfl
theorem nxK1 : nxK (some Γ) = .ok .nx Γ := rfl
theorem bName {i d} : bName i d Γ = if isBor Γ i = false then some (Γ.set i (.im d)) else none := rfl
theorem bSub {i k d} : bSub i k d Γ = finSet i d k Γ := rfl
theorem bNil : bNil [] Γ = some Γ := rfl
theorem bCons {b r d ds} : bCons b r (d :: ds) Γ = (b d Γ).bind fun Γ1 => r ds Γ1 := rfl
theorem bSeqT {n bs ds} : bSeq n bs (.tup ds) Γ = if ds.length = n then bs ds Γ else none := rfl
theorem bSeqL {n bs ds} : bSeq n bs (.lst ds) Γ = if ds.length = n then bs ds Γ else none := rfl
theorem finSet {i d k} : finSet i d k Γ = (match ownD Γ i with | some (.l xs) => (ixN xs.length k).map fun j => putOwn Γ i (.l (xs.set j d)) | _ => none) := rfl
theorem ownD {i} : ownD Γ i = (match Γ[i]? with | some (.acc o) => some o | some (.bor o) => some o | _ => none) := rfl
theorem putOwn {i o} : putOwn Γ i o = (match Γ[i]? with | some (.acc _) => Γ.set i (.acc o) | some (.bor _) => Γ.set i (.bor o) | _ => Γ) := rfl
theorem isBor {i} : isBor Γ i = (match Γ[i]? with | some (.bor _) => true | _ => false) := rfl
theorem appS {i} : appS i f Γ = if isOwnL Γ i then (f Γ).bind (finApp i) else .fail := rfl
theorem isOwnL {i} : isOwnL Γ i = (match FL.ownD Γ i with | some (.l _) => true | _ => false) := rfl
theorem finApp {i ev} : FL.finApp i ev Γ = apK i (frz1 ev Γ) := by unfold FL.finApp apK; rcases frz1 ev Γ with _ | ⟨x, Γ'⟩ <;> rfl
theorem apK1 {i d} : apK i (some (d, Γ)) = apL i d Γ (FL.ownD Γ i) := rfl
theorem apL1 {i d xs} : apL i d Γ (some (.l xs)) = if xs.length < sizeLine then .ok .nx (FL.putOwn Γ i (.l (xs ++ [d]))) else .fail := rfl
theorem cE {x} : cE x Γ = .ok (.d x) Γ := rfl
theorem vE {i} : vE i Γ = (match Γ[i]? with | some (.im x) => .ok (.d x) Γ | some (.acc _) => .ok (.own i) Γ | some (.bor _) => .ok (.own i) Γ | _ => .fail) := rfl
theorem lookd {x} : EV.look Γ (.d x) = some x := rfl
theorem looko {i} : EV.look Γ (.own i) = (FL.ownD Γ i).map OD.d := rfl
theorem odl {xs} : OD.d (.l xs) = .lst xs := rfl
theorem op2 {g} : op2 g f1 f2 Γ = (f1 Γ).bind fun e1 Γ1 => (f2 Γ1).bind fun e2 Γ2 => fin2 g e1 e2 Γ2 := rfl
theorem fin2 {g e1 e2} : FL.fin2 g e1 e2 Γ = oK Γ ((e1.look Γ).bind fun a => (e2.look Γ).bind (g a)) := by
  unfold FL.fin2 oK
  cases e1.look Γ with
  | none => rfl
  | some a => cases e2.look Γ <;> rfl
theorem oK1 {x} : oK Γ (some x) = .ok (.d x) Γ := rfl
theorem oK0 : oK Γ none = .fail := rfl
theorem addV : addV f1 f2 Γ = (f1 Γ).bind fun e1 Γ1 => (f2 Γ1).bind (addV2 e1) := rfl
theorem opN {g} : opN g r Γ = (r Γ).bind (finN g) := rfl
theorem finN {g es} : FL.finN g es Γ = oK Γ ((looks Γ es).bind g) := by unfold FL.finN oK; cases looks Γ es <;> rfl
theorem looks0 : looks Γ [] = some [] := rfl
theorem looks1 {e es} : looks Γ (e :: es) = (e.look Γ).bind fun x => (looks Γ es).bind fun xs => some (x :: xs) := rfl
theorem one {g x} : one g [x] = g x := rfl
theorem two {g x y} : two g [x, y] = g x y := rfl
theorem aNil : aNil Γ = .ok [] Γ := rfl
theorem aCons : aCons f r Γ = (f Γ).bind fun e Γ1 => (r Γ1).bind fun es Γ2 => .ok (e :: es) Γ2 := rfl
theorem frzd {x} : frz1 (.d x) Γ = some (x, Γ) := rfl
theorem frzo {i} : frz1 (.own i) Γ = (match Γ[i]? with | some (.acc o) => some (o.d, Γ.set i (.im o.d)) | some (.im x) => some (x, Γ) | _ => none) := rfl
theorem frzs0 : frzs [] Γ = some ([], Γ) := rfl
theorem frzs1 {e es} : frzs (e :: es) Γ = (frz1 e Γ).bind fun p => (frzs es p.2).bind fun q => some (p.1 :: q.1, q.2) := rfl
theorem frzsD : ∀ {ds : List D}, frzs (ds.map EV.d) Γ = some (ds, Γ)
  | [] => rfl
  | d :: ds => by
    show (frzs (ds.map EV.d) Γ).bind _ = _
    rw [frzsD]; rfl
theorem tstE : tstE f Γ = (f Γ).bind asB := rfl
theorem asB {k} : asB (.d (.bl k)) Γ = .ok k Γ := rfl
theorem andT : FL.andT t1 t2 Γ = (t1 Γ).bind (andK t2) := rfl
theorem andK1 : andK t2 true Γ = t2 Γ := rfl
theorem andK0 : andK t2 false Γ = .ok false Γ := rfl
theorem orT : FL.orT t1 t2 Γ = (t1 Γ).bind (orK t2) := rfl
theorem orK1 : orK t2 true Γ = .ok true Γ := rfl
theorem orK0 : orK t2 false Γ = t2 Γ := rfl
theorem notT : notT t Γ = (t Γ).bind fun k Γ1 => .ok (!k) Γ1 := rfl
theorem ifE : FL.ifE t f1 f2 Γ = (t Γ).bind (ifEK f1 f2) := rfl
theorem ifEK1 : ifEK f1 f2 true Γ = f1 Γ := rfl
theorem ifEK0 : ifEK f1 f2 false Γ = f2 Γ := rfl
theorem vE' : FL.vE' f Γ = veK (f Γ) := rfl
theorem veK1 {ev} : veK (.ok ev Γ) = .ok (.e ev) Γ := rfl
theorem veK2 {c ns fs} : veK (.exc c ns fs Γ) = .exc c ns fs Γ := rfl
theorem telV : FL.telV vf Γ = teK (vf Γ) := rfl
theorem teK1 {ev} : teK (.ok (.e ev) Γ) = .ok ev Γ := rfl
theorem teK2 {o} : teK (.ok (.n o) Γ) = .ok (.d o.d) Γ := rfl
theorem teK3 {c ns fs} : teK (.exc c ns fs Γ) = .exc c ns fs Γ := rfl
theorem bindO {α β : Type} {a : α} {k : α → En → O β} : (O.ok a Γ).bind k = k a Γ := rfl
theorem bindX {α β : Type} {c ns fs} {k : α → En → O β} : (O.exc c ns fs Γ : O α).bind k = .exc c ns fs Γ := rfl
theorem bindF {α β : Type} {k : α → En → O β} : (O.fail : O α).bind k = .fail := rfl
theorem tupE : tupE r Γ = (r Γ).bind (finT .tup) := rfl
theorem lstE : lstE r Γ = (r Γ).bind (finT .lst) := rfl
theorem finT {mk es} : finT mk es Γ = (match frzs es Γ with | some (xs, Γ') => if xs.length ≤ sizeLine then .ok (.d (mk xs)) Γ' else .fail | none => .fail) := rfl
theorem lstN : lstN r Γ = (r Γ).bind finL := rfl
theorem finL {es} : finL es Γ = (match frzs es Γ with | some (xs, Γ') => if xs.length ≤ sizeLine then .ok (.n (.l xs)) Γ' else .fail | none => .fail) := rfl
theorem slE {l h : OF} : slE f l h Γ = (f Γ).bind fun ev Γ1 => (l Γ1).bind fun lo Γ2 => (h Γ2).bind fun hi Γ3 => fin3 ev lo hi Γ3 := rfl
theorem fin3 {ev lo hi} : FL.fin3 ev lo hi Γ = oK Γ ((ev.look Γ).bind (cutD lo hi)) := rfl
theorem oNo : oNo Γ = .ok none Γ := rfl
theorem oSome : oSome f Γ = (f Γ).bind asI := rfl
theorem asI {i} : asI (.d (.int i)) Γ = .ok (some i) Γ := rfl
theorem isiE {g} : isiE g f Γ = (f Γ).bind (finI g) := rfl
theorem finI {g ev} : FL.finI g ev Γ = bK Γ ((ev.look Γ).bind g) := rfl
theorem bK1 {k} : bK Γ (some k) = .ok (.d (.bl k)) Γ := rfl
theorem callV {b n Fn dd} : callV b n Fn dd u Γ = (u Γ).bind fun es Γ1 => if es.length = n then finCall b Fn dd es Γ1 else .fail := rfl
theorem finCall {b Fn dd es} : FL.finCall b Fn dd es Γ = prK Fn dd (prep b es Γ) := by
  unfold FL.finCall prK
  rcases prep b es Γ with _ | ⟨ds, Γ1, l⟩
  · rfl
  · show _ = caK Γ1 l (Fn (ds ++ dd))
    unfold caK
    try dsimp only
    try (cases Fn (ds ++ dd) <;> rfl)
theorem prK1 {Fn dd ds l} : prK Fn dd (some (ds, Γ, l)) = caK Γ l (Fn (ds ++ dd)) := rfl
theorem caK1 {l d out} : caK Γ l (.ok d out) = .ok (.e (.d d)) (putL l out Γ) := rfl
theorem caK2 {l d out} : caK Γ l (.nw d out) = .ok (.n d) (putL l out Γ) := rfl
theorem caK3 {l c ns fs out} : caK Γ l (.exc c ns fs out) = .exc c ns fs (putL l out Γ) := rfl
theorem callK {b n m np pm Fn dd} : callK b n m np pm Fn dd u uk Γ = (u Γ).bind fun es Γ1 => (uk Γ1).bind fun zs Γ2 =>
  if es.length = n ∧ zs.length = m ∧ (pick pm (es ++ (zs ++ dd.map EV.d))).length = np then FL.finCall b Fn [] (pick pm (es ++ (zs ++ dd.map EV.d))) Γ2 else .fail := rfl
theorem prep0 {es} : prep none es Γ = (frzs es Γ).map fun p => (p.1, p.2, none) := rfl
theorem prep1 {i es} : prep (some i) es Γ = (match es[i]? with
    | some (.own j) => (frzs (es.set i (.d .non)) Γ).bind fun p => (FL.ownD p.2 j).map fun o => (p.1.set i o.d, p.2, some j)
    | _ => none) := rfl
theorem putL0 {out} : putL none out Γ = Γ := rfl
theorem putL1 {j o} : putL (some j) (some o) Γ = FL.putOwn Γ j o := rfl
theorem runF {b n s ds} : FL.runF b n s ds = ruK b s (startG b n ds) := by
  unfold FL.runF ruK
  cases startG b n ds <;> rfl
theorem ruK1 {b s} : ruK b s (some Γ) = fiK b (s Γ) := rfl
theorem fiK1 {b} : fiK b (.ok .nx Γ) = .ok .non (outOf b Γ) := rfl
theorem fiK2 {b d} : fiK b (.ok (.rt d) Γ) = .ok d (outOf b Γ) := rfl
theorem fiK3 {b d} : fiK b (.ok (.rn d) Γ) = .nw d (outOf b Γ) := rfl
theorem fiK4 {b c ns fs} : fiK b (.exc c ns fs Γ) = .exc c ns fs (outOf b Γ) := rfl
theorem startG0 {n ds} : startG none n ds = some (ds.map Sl.im ++ List.replicate (n - ds.length) Sl.no) := rfl
theorem startG1 {i n ds} : startG (some i) n ds = (ds[i]?.bind D.od).map fun o => (ds.map Sl.im ++ List.replicate (n - ds.length) Sl.no).set i (.bor o) := rfl
theorem odlst {xs} : D.od (.lst xs) = some (.l xs) := rfl
theorem out0 : outOf none Γ = none := rfl
theorem out1 {i} : outOf (some i) Γ = FL.ownD Γ i := rfl
theorem forS {it body} : forS it bf body Γ = (it Γ).bind (loopS bf body) := rfl
theorem parS {is} {vf : VAF} : parS is vf Γ = (vf Γ).bind (stoP is) := rfl
theorem vNil : vNil Γ = .ok [] Γ := rfl
theorem vCons {r : VAF} : vCons vf r Γ = (vf Γ).bind fun x Γ1 => (r Γ1).bind fun xs Γ2 => .ok (x :: xs) Γ2 := rfl
theorem anyI : anyI f Γ = (f Γ).bind itA := rfl
theorem getL {xs : List D} {i : Int} : FL.getD (.lst xs) (.int i) = L2.atI xs i := rfl
theorem getT {xs : List D} {i : Int} : FL.getD (.tup xs) (.int i) = L2.atI xs i := rfl
theorem getC {xs : List Int} {i : Int} : FL.getD (.scr xs) (.int i) = (L2.atI xs i).map D.int := rfl
theorem atI {α : Type} {xs : List α} {k : Nat} : L2.atI xs (k : Int) = xs[k]? := by
  unfold L2.atI L2.ixN
  rw [if_pos (Int.natCast_nonneg k)]
  by_cases h : k < xs.length
  · rw [if_pos (by omega)]; simp
  · rw [if_neg (by omega), List.getElem?_eq_none (by omega)]; rfl
theorem atI0 {α : Type} {xs : List α} : L2.atI xs 0 = xs[0]? := atI (k := 0)
theorem atI1 {α : Type} {xs : List α} : L2.atI xs 1 = xs[1]? := atI (k := 1)
theorem atI2 {α : Type} {xs : List α} : L2.atI xs 2 = xs[2]? := atI (k := 2)
theorem ixN {n k : Nat} (h : k < n) : L2.ixN n (k : Int) = some k := by
  unfold L2.ixN
  rw [if_pos (Int.natCast_nonneg k), if_pos (by omega)]; simp
theorem andE : FL.andE f1 f2 Γ = (FL.tstE f1 Γ).bind (andEK f2) := rfl
theorem andEK1 : andEK f2 true Γ = f2 Γ := rfl
theorem andEK0 : andEK f2 false Γ = .ok (.d (.bl false)) Γ := rfl
theorem orE : FL.orE f1 f2 Γ = (FL.tstE f1 Γ).bind (orEK f2) := rfl
theorem orEK1 : orEK f2 true Γ = .ok (.d (.bl true)) Γ := rfl
theorem orEK0 : orEK f2 false Γ = f2 Γ := rfl
theorem notE : notE f Γ = (FL.tstE f Γ).bind fun k Γ1 => .ok (.d (.bl (!k))) Γ1 := rfl
theorem chnE {g g'} : chnE g g' f1 f2 f3 Γ = (f1 Γ).bind fun e1 Γ1 => (f2 Γ1).bind fun e2 Γ2 => chn3 g g' f3 e1 e2 Γ2 := rfl
theorem chn3 {g g' e1 e2} : FL.chn3 g g' f3 e1 e2 Γ = ((FL.fin2 g e1 e2 Γ).bind FL.asB).bind fun k Γ2 => if k then (f3 Γ2).bind fun e3 Γ3 => FL.fin2 g' e2 e3 Γ3 else .ok (.d (.bl false)) Γ2 := rfl
theorem lenL {xs} : lenD (.lst xs) = some (.int xs.length) := rfl
theorem lenT {xs} : lenD (.tup xs) = some (.int xs.length) := rfl
theorem lenC {xs} : lenD (.scr xs) = some (.int xs.length) := rfl
theorem lenS {x : Str} : lenD (.str x) = if x.length ≤ sizeLine then some (.int x.length) else none := rfl
theorem isSS {x} : isB "str" (.str x) = some true := rfl
theorem isST {x} : isB "str" (.tup x) = some false := rfl
theorem isTT {x} : isB "tuple" (.tup x) = some true := rfl
theorem eqS {x y} : eqD (.str x) (.str y) = some (.bl (decide (x = y))) := rfl
theorem neS {x y} : neD (.str x) (.str y) = some (.bl (!decide (x = y))) := rfl
theorem isN0 : isND .non .non = some (.bl true) := rfl
theorem isNT {x} : isND (.tup x) .non = some (.bl false) := rfl
theorem isNS {x} : isND (.str x) .non = some (.bl false) := rfl
theorem notN0 : notND .non .non = some (.bl false) := rfl
theorem notNT {x} : notND (.tup x) .non = some (.bl true) := rfl
theorem m1E {g fo fa} : m1E g fo fa Γ = (fo Γ).bind fun eo Γ1 => if isStr eo then (fa Γ1).bind fun ea Γ2 => FL.fin2 g eo ea Γ2 else .fail := rfl
theorem isStrS {x} : isStr (.d (.str x)) = true := rfl
theorem aStar : aStar f r Γ = (f Γ).bind fun e Γ1 => (starI e Γ1).bind fun xs Γ1' => (r Γ1').bind fun es Γ2 => .ok (xs ++ es) Γ2 := rfl
theorem starT {xs} : starI (.d (.tup xs)) Γ = .ok (xs.map EV.d) Γ := rfl
theorem starL {xs} : starI (.d (.lst xs)) Γ = .ok (xs.map EV.d) Γ := rfl
theorem itT {xs} : itA (.d (.tup xs)) Γ = .ok xs Γ := rfl
theorem itC {xs : List Int} : itA (.d (.scr xs)) Γ = .ok (xs.map D.int) Γ := rfl
theorem itS {x : Str} : itA (.d (.str x)) Γ = .ok (x.cps.toList.map fun c => D.str ⟨#[c]⟩) Γ := rfl
theorem itL {xs} : itA (.d (.lst xs)) Γ = .ok xs Γ := rfl
theorem itR1 {j : Int} (h0 : 0 ≤ j) (h1 : j ≤ 1000000) : FL.itR1 [.d (.int j)] Γ = .ok ((List.range j.toNat).map fun i => D.int (0 + (i : Nat))) Γ := by
  unfold FL.itR1
  exact if_pos ⟨by omega, by omega⟩
theorem itR2 {i j : Int} (h0 : 0 ≤ i) (h1 : i ≤ 1000000) (h2 : 0 ≤ j) (h3 : j ≤ 1000000) : FL.itR2 [.d (.int i), .d (.int j)] Γ = .ok ((List.range (j - i).toNat).map fun n => D.int (i + (n : Nat))) Γ := by
  unfold FL.itR2
  exact if_pos ⟨by omega, by omega, by omega, by omega⟩
theorem rng1 : rng1 u Γ = (u Γ).bind FL.itR1 := rfl
theorem rng2 : rng2 u Γ = (u Γ).bind FL.itR2 := rfl
theorem tupL {xs} : tupD (.lst xs) = some (.tup xs) := rfl
theorem tupT {xs} : tupD (.tup xs) = some (.tup xs) := rfl
theorem addT {xs ys} : addD (.tup xs) (.tup ys) = if xs.length + ys.length ≤ sizeLine then some (.tup (xs ++ ys)) else none := rfl
theorem addS {x y : Str} : addD (.str x) (.str y) = if x.length + y.length ≤ sizeLine then some (.str (x ++ y)) else none := rfl
theorem addL {xs ys} : addD (.lst xs) (.lst ys) = if xs.length + ys.length ≤ sizeLine then some (.lst (xs ++ ys)) else none := rfl
theorem addV2I {i j} : addV2 (.d (.int i)) (.d (.int j)) Γ = .ok (.e (.d (.int (i + j)))) Γ := rfl
theorem addV2S {x y : Str} : addV2 (.d (.str x)) (.d (.str y)) Γ = (match addD (.str x) (.str y) with | some x => .ok (.e (.d x)) Γ | none => .fail) := rfl
theorem addV2T {x y} : addV2 (.d (.tup x)) (.d (.tup y)) Γ = (match addD (.tup x) (.tup y) with | some x => .ok (.e (.d x)) Γ | none => .fail) := rfl
theorem cutT {xs lo hi} : cutD lo hi (.tup xs) = some (.tup (cutL xs lo hi)) := rfl
theorem cutLL {xs lo hi} : cutD lo hi (.lst xs) = some (.lst (cutL xs lo hi)) := rfl
theorem sz0 : (0 ≤ sizeLine) = True := eq_true (by decide)
theorem sz1 : (1 ≤ sizeLine) = True := eq_true (by decide)
theorem sz2 : (2 ≤ sizeLine) = True := eq_true (by decide)
theorem sz3 : (3 ≤ sizeLine) = True := eq_true (by decide)
theorem sz4 : (4 ≤ sizeLine) = True := eq_true (by decide)
theorem sz5 : (5 ≤ sizeLine) = True := eq_true (by decide)
theorem sz6 : (6 ≤ sizeLine) = True := eq_true (by decide)
theorem sz7 : (7 ≤ sizeLine) = True := eq_true (by decide)
theorem sz8 : (8 ≤ sizeLine) = True := eq_true (by decide)
theorem sz9 : (9 ≤ sizeLine) = True := eq_true (by decide)
theorem sz10 : (10 ≤ sizeLine) = True := eq_true (by decide)
theorem sz11 : (11 ≤ sizeLine) = True := eq_true (by decide)
theorem sz12 : (12 ≤ sizeLine) = True := eq_true (by decide)
theorem sz13 : (13 ≤ sizeLine) = True := eq_true (by decide)
theorem sz14 : (14 ≤ sizeLine) = True := eq_true (by decide)
theorem sz15 : (15 ≤ sizeLine) = True := eq_true (by decide)
theorem sz16 : (16 ≤ sizeLine) = True := eq_true (by decide)
theorem sz17 : (17 ≤ sizeLine) = True := eq_true (by decide)
theorem sz18 : (18 ≤ sizeLine) = True := eq_true (by decide)
theorem sz19 : (19 ≤ sizeLine) = True := eq_true (by decide)
theorem sz20 : (20 ≤ sizeLine) = True := eq_true (by decide)
theorem sz21 : (21 ≤ sizeLine) = True := eq_true (by decide)
theorem sz22 : (22 ≤ sizeLine) = True := eq_true (by decide)
theorem sz23 : (23 ≤ sizeLine) = True := eq_true (by decide)
theorem sz24 : (24 ≤ sizeLine) = True := eq_true (by decide)
theorem sz25 : (25 ≤ sizeLine) = True := eq_true (by decide)
theorem sz26 : (26 ≤ sizeLine) = True := eq_true (by decide)
theorem sz27 : (27 ≤ sizeLine) = True := eq_true (by decide)
theorem sz28 : (28 ≤ sizeLine) = True := eq_true (by decide)
theorem sz29 : (29 ≤ sizeLine) = True := eq_true (by decide)
theorem sz30 : (30 ≤ sizeLine) = True := eq_true (by decide)
theorem sz31 : (31 ≤ sizeLine) = True := eq_true (by decide)
theorem sz32 : (32 ≤ sizeLine) = True := eq_true (by decide)
theorem sz33 : (33 ≤ sizeLine) = True := eq_true (by decide)
theorem sz34 : (34 ≤ sizeLine) = True := eq_true (by decide)
theorem sz35 : (35 ≤ sizeLine) = True := eq_true (by decide)
theorem sz36 : (36 ≤ sizeLine) = True := eq_true (by decide)
theorem sz37 : (37 ≤ sizeLine) = True := eq_true (by decide)
theorem sz38 : (38 ≤ sizeLine) = True := eq_true (by decide)
theorem sz39 : (39 ≤ sizeLine) = True := eq_true (by decide)
theorem sz40 : (40 ≤ sizeLine) = True := eq_true (by decide)
theorem sz41 : (41 ≤ sizeLine) = True := eq_true (by decide)
theorem sz42 : (42 ≤ sizeLine) = True := eq_true (by decide)
theorem sz43 : (43 ≤ sizeLine) = True := eq_true (by decide)
theorem sz44 : (44 ≤ sizeLine) = True := eq_true (by decide)
theorem sz45 : (45 ≤ sizeLine) = True := eq_true (by decide)
theorem ix30 : L2.ixN 3 0 = some 0 := rfl
theorem ix31 : L2.ixN 3 1 = some 1 := rfl
theorem ix32 : L2.ixN 3 2 = some 2 := rfl
theorem addI {i j} : addD (.int i) (.int j) = some (.int (i + j)) := rfl
theorem subI {i j} : subD (.int i) (.int j) = some (.int (i - j)) := rfl
theorem ltI {i j} : ltD (.int i) (.int j) = some (.bl (decide (i < j))) := rfl
theorem leI {i j} : leD (.int i) (.int j) = some (.bl (decide (i ≤ j))) := rfl
theorem gtI {i j} : gtD (.int i) (.int j) = some (.bl (decide (j < i))) := rfl
theorem geI {i j} : geD (.int i) (.int j) = some (.bl (decide (j ≤ i))) := rfl
theorem intI {i} : intC (.int i) = some (.int i) := rfl
theorem mulI {i j} : mulD (.int i) (.int j) = if (-(2 ^ 64) < i ∧ i < 2 ^ 64) ∨ (-(2 ^ 64) < j ∧ j < 2 ^ 64) then some (.int (i * j)) else none := rfl
theorem modI {i j} : modD (.int i) (.int j) = if decide (0 < j) = true then some (.int (i % j)) else none := rfl
theorem fdivI {i j} : fdivD (.int i) (.int j) = if decide (0 < j ∧ j < 1073741824) = true then some (.int (i / j)) else none := rfl
theorem dmI {i j} : dmD (.int i) (.int j) = if decide (0 < j ∧ j < 1073741824) = true then some (.tup [.int (i / j), .int (i % j)]) else none := rfl
theorem isBz {x : Sl} : FL.isBor (x :: Γ) 0 = x.isB := by cases x <;> rfl
theorem isBs {x : Sl} {n : Nat} : FL.isBor (x :: Γ) (n + 1) = FL.isBor Γ n := by unfold FL.isBor; rw [List.getElem?_cons_succ]
theorem isB0 : Sl.isB .no = false := rfl
theorem isB1 {d} : Sl.isB (.im d) = false := rfl
theorem isB2 {o} : Sl.isB (.acc o) = false := rfl
theorem isB3 {o} : Sl.isB (.bor o) = true := rfl
theorem itAo {i} : itA (.own i) Γ = FL.itL (.own i) Γ := rfl
theorem itLe {ev} : FL.itL ev Γ = (match frz1 ev Γ with | some (.lst ds, Γ') => .ok ds Γ' | _ => .fail) := rfl
theorem stoP0 : stoP [] [] Γ = .ok .nx Γ := rfl
theorem stoP1 {i is x xs} : stoP (i :: is) (x :: xs) Γ = if offOwn i xs then FL.seqS (stoV i x) (stoP is xs) Γ else .fail := rfl
theorem offOwn0 {i} : offOwn i [] = true := rfl
theorem offOwnd {i d xs} : offOwn i (.e (.d d) :: xs) = offOwn i xs := rfl
theorem offOwnn {i o xs} : offOwn i (.n o :: xs) = offOwn i xs := rfl
theorem maxI {i j} : maxD (.int i) (.int j) = some (.int (if j > i then j else i)) := rfl
theorem minI {i j} : minD (.int i) (.int j) = some (.int (if j < i then j else i)) := rfl
theorem absI {i} : absD (.int i) = some (.int (if i < 0 then -i else i)) := rfl
theorem call1V {b Fn dd} : FL.call1V b Fn dd vf Γ = (vf Γ).bind (finCallN b Fn dd) := rfl
theorem finCallN0 {Fn dd o} : finCallN (some 0) Fn dd (.n o) Γ = cnK Γ (Fn (o.d :: dd)) := rfl
theorem cnK1 {d out} : cnK Γ (.ok d out) = .ok (.e (.d d)) Γ := rfl
theorem cnK2 {o out} : cnK Γ (.nw o out) = .ok (.n o) Γ := rfl
theorem cnK3 {c ns fs out} : cnK Γ (.exc c ns fs out) = .exc c ns fs Γ := rfl
theorem wipe0 : wipeΓ Γ [] = Γ := rfl
theorem wipe1 {v vs} : wipeΓ Γ (v :: vs) = (wipeΓ Γ vs).set v .no := rfl
theorem addV2L {x y : List D} : addV2 (.d (.lst x)) (.d (.lst y)) Γ = if x.length + y.length ≤ sizeLine then .ok (.n (.l (x ++ y))) Γ else .fail := rfl
theorem pick0 {α : Type} {xs : List α} : pick [] xs = [] := rfl
theorem pick1 {α : Type} {i : Nat} {pm : List Nat} {xs : List α} : pick (i :: pm) xs = (match xs[i]? with | some x => x :: pick pm xs | none => pick pm xs) := by
  unfold pick
  rw [List.filterMap_cons]
  cases xs[i]? <;> rfl
theorem addV2own {i ys} : addV2 (.own i) (.d (.lst ys)) Γ = (match FL.ownD Γ i with | some (.l xs) => if xs.length + ys.length ≤ sizeLine then .ok (.n (.l (xs ++ ys))) Γ else .fail | _ => .fail) := by
  unfold addV2
  rw [looko, lookd]
  cases h : FL.ownD Γ i with
  | none => rfl
  | some o => cases o <;> rfl
theorem sl0 : (0 < sizeLine) = True := eq_true (by decide)
theorem sl1 : (1 < sizeLine) = True := eq_true (by decide)
theorem sl2 : (2 < sizeLine) = True := eq_true (by decide)
theorem sl3 : (3 < sizeLine) = True := eq_true (by decide)
theorem sl4 : (4 < sizeLine) = True := eq_true (by decide)
theorem sl5 : (5 < sizeLine) = True := eq_true (by decide)
theorem sl6 : (6 < sizeLine) = True := eq_true (by decide)
theorem sl7 : (7 < sizeLine) = True := eq_true (by decide)
theorem sl8 : (8 < sizeLine) = True := eq_true (by decide)
theorem sl9 : (9 < sizeLine) = True := eq_true (by decide)
theorem sl10 : (10 < sizeLine) = True := eq_true (by decide)
theorem sl11 : (11 < sizeLine) = True := eq_true (by decide)
theorem sl12 : (12 < sizeLine) = True := eq_true (by decide)
theorem sl13 : (13 < sizeLine) = True := eq_true (by decide)
theorem sl14 : (14 < sizeLine) = True := eq_true (by decide)
theorem sl15 : (15 < sizeLine) = True := eq_true (by decide)
theorem sl16 : (16 < sizeLine) = True := eq_true (by decide)
theorem sl17 : (17 < sizeLine) = True := eq_true (by decide)
theorem sl18 : (18 < sizeLine) = True := eq_true (by decide)
theorem sl19 : (19 < sizeLine) = True := eq_true (by decide)
theorem sl20 : (20 < sizeLine) = True := eq_true (by decide)
theorem sl21 : (21 < sizeLine) = True := eq_true (by decide)
theorem sl22 : (22 < sizeLine) = True := eq_true (by decide)
theorem sl23 : (23 < sizeLine) = True := eq_true (by decide)
theorem sl24 : (24 < sizeLine) = True := eq_true (by decide)
theorem sl25 : (25 < sizeLine) = True := eq_true (by decide)
theorem sl26 : (26 < sizeLine) = True := eq_true (by decide)
theorem sl27 : (27 < sizeLine) = True := eq_true (by decide)
theorem sl28 : (28 < sizeLine) = True := eq_true (by decide)
theorem sl29 : (29 < sizeLine) = True := eq_true (by decide)
theorem eqI {i j : Int} : eqD (.int i) (.int j) = some (.bl (decide (i = j))) := rfl
theorem neI {i j : Int} : neD (.int i) (.int j) = some (.bl (!decide (i = j))) := rfl
end Ev
end FL

set_option Elab.async false
set_option linter.all false
set_option maxRecDepth 100000
set_option maxHeartbeats 4000000
namespace FL
open PySem PySem.Spec PyProof.Rows L2
def Ev.all := (And.intro @Ev.seqS (And.intro @Ev.seqK0 (And.intro @Ev.seqK1 (And.intro @Ev.seqK2 (And.intro @Ev.seqK3 (And.intro @Ev.seqK4 (And.intro @Ev.seqK5 (And.intro @Ev.seqK6 (And.intro @Ev.nxS (And.intro @Ev.brS (And.intro @Ev.ctS (And.intro @Ev.badS (And.intro @Ev.retN (And.intro @Ev.retS (And.intro @Ev.retV (And.intro @Ev.finRVe (And.intro @Ev.finRVn (And.intro @Ev.finR (And.intro @Ev.rtK1 (And.intro @Ev.givV (And.intro @Ev.givd (And.intro @Ev.givo (And.intro @Ev.exprS (And.intro @Ev.ifS (And.intro @Ev.ifK1 (And.intro @Ev.ifK0 (And.intro @Ev.asgV (And.intro @Ev.stoVe (And.intro @Ev.stK1 (And.intro @Ev.stoVn (And.intro @Ev.asgB (And.intro @Ev.stoB (And.intro @Ev.sbK1 (And.intro @Ev.nxK1 (And.intro @Ev.bName (And.intro @Ev.bSub (And.intro @Ev.bNil (And.intro @Ev.bCons (And.intro @Ev.bSeqT (And.intro @Ev.bSeqL (And.intro @Ev.finSet (And.intro @Ev.ownD (And.intro @Ev.putOwn (And.intro @Ev.appS (And.intro @Ev.isOwnL (And.intro @Ev.finApp (And.intro @Ev.apK1 (And.intro @Ev.apL1 (And.intro @Ev.cE (And.intro @Ev.vE (And.intro @Ev.lookd (And.intro @Ev.looko (And.intro @Ev.odl (And.intro @Ev.op2 (And.intro @Ev.fin2 (And.intro @Ev.oK1 (And.intro @Ev.oK0 (And.intro @Ev.addV (And.intro @Ev.opN (And.intro @Ev.finN (And.intro @Ev.looks0 (And.intro @Ev.looks1 (And.intro @Ev.one (And.intro @Ev.two (And.intro @Ev.aNil (And.intro @Ev.aCons (And.intro @Ev.frzd (And.intro @Ev.frzo (And.intro @Ev.frzs0 (And.intro @Ev.frzs1 (And.intro @Ev.frzsD (And.intro @Ev.tstE (And.intro @Ev.asB (And.intro @Ev.andT (And.intro @Ev.andK1 (And.intro @Ev.andK0 (And.intro @Ev.orT (And.intro @Ev.orK1 (And.intro @Ev.orK0 (And.intro @Ev.notT (And.intro @Ev.ifE (And.intro @Ev.ifEK1 (And.intro @Ev.ifEK0 (And.intro @Ev.vE' (And.intro @Ev.veK1 (And.intro @Ev.veK2 (And.intro @Ev.telV (And.intro @Ev.teK1 (And.intro @Ev.teK2 (And.intro @Ev.teK3 (And.intro @Ev.bindO (And.intro @Ev.bindX (And.intro @Ev.bindF (And.intro @Ev.tupE (And.intro @Ev.lstE (And.intro @Ev.finT (And.intro @Ev.lstN (And.intro @Ev.finL (And.intro @Ev.slE (And.intro @Ev.fin3 (And.intro @Ev.oNo (And.intro @Ev.oSome (And.intro @Ev.asI (And.intro @Ev.isiE (And.intro @Ev.finI (And.intro @Ev.bK1 (And.intro @Ev.callV (And.intro @Ev.finCall (And.intro @Ev.prK1 (And.intro @Ev.caK1 (And.intro @Ev.caK2 (And.intro @Ev.caK3 (And.intro @Ev.callK (And.intro @Ev.prep0 (And.intro @Ev.prep1 (And.intro @Ev.putL0 (And.intro @Ev.putL1 (And.intro @Ev.runF (And.intro @Ev.ruK1 (And.intro @Ev.fiK1 (And.intro @Ev.fiK2 (And.intro @Ev.fiK3 (And.intro @Ev.fiK4 (And.intro @Ev.startG0 (And.intro @Ev.startG1 (And.intro @Ev.odlst (And.intro @Ev.out0 (And.intro @Ev.out1 (And.intro @Ev.parS (And.intro @Ev.vNil (And.intro @Ev.vCons (And.intro @Ev.anyI (And.intro @Ev.getL (And.intro @Ev.getT (And.intro @Ev.getC (And.intro @Ev.atI0 (And.intro @Ev.atI1 (And.intro @Ev.atI2 (And.intro @Ev.andE (And.intro @Ev.andEK1 (And.intro @Ev.andEK0 (And.intro @Ev.orE (And.intro @Ev.orEK1 (And.intro @Ev.orEK0 (And.intro @Ev.notE (And.intro @Ev.chnE (And.intro @Ev.chn3 (And.intro @Ev.lenL (And.intro @Ev.lenT (And.intro @Ev.lenC (And.intro @Ev.lenS (And.intro @Ev.isSS (And.intro @Ev.isST (And.intro @Ev.isTT (And.intro @Ev.eqS (And.intro @Ev.neS (And.intro @Ev.isN0 (And.intro @Ev.isNT (And.intro @Ev.isNS (And.intro @Ev.notN0 (And.intro @Ev.notNT (And.intro @Ev.m1E (And.intro @Ev.isStrS (And.intro @Ev.aStar (And.intro @Ev.starT (And.intro @Ev.starL (And.intro @Ev.itT (And.intro @Ev.itC (And.intro @Ev.itS (And.intro @Ev.itL (And.intro @Ev.rng1 (And.intro @Ev.rng2 (And.intro @Ev.tupL (And.intro @Ev.tupT (And.intro @Ev.addT (And.intro @Ev.addS (And.intro @Ev.addL (And.intro @Ev.addV2I (And.intro @Ev.addV2S (And.intro @Ev.addV2T (And.intro @Ev.cutT (And.intro @Ev.cutLL (And.intro @Ev.sz0 (And.intro @Ev.sz1 (And.intro @Ev.sz2 (And.intro @Ev.sz3 (And.intro @Ev.sz4 (And.intro @Ev.sz5 (And.intro @Ev.sz6 (And.intro @Ev.sz7 (And.intro @Ev.sz8 (And.intro @Ev.sz9 (And.intro @Ev.sz10 (And.intro @Ev.sz11 (And.intro @Ev.sz12 (And.intro @Ev.sz13 (And.intro @Ev.sz14 (And.intro @Ev.sz15 (And.intro @Ev.sz16 (And.intro @Ev.sz17 (And.intro @Ev.sz18 (And.intro @Ev.sz19 (And.intro @Ev.sz20 (And.intro @Ev.sz21 (And.intro @Ev.sz22 (And.intro @Ev.sz23 (And.intro @Ev.sz24 (And.intro @Ev.sz25 (And.intro @Ev.sz26 (And.intro @Ev.sz27 (And.intro @Ev.sz28 (And.intro @Ev.sz29 (And.intro @Ev.sz30 (And.intro @Ev.sz31 (And.intro @Ev.sz32 (And.intro @Ev.sz33 (And.intro @Ev.sz34 (And.intro @Ev.sz35 (And.intro @Ev.sz36 (And.intro @Ev.sz37 (And.intro @Ev.sz38 (And.intro @Ev.sz39 (And.intro @Ev.sz40 (And.intro @Ev.sz41 (And.intro @Ev.sz42 (And.intro @Ev.sz43 (And.intro @Ev.sz44 (And.intro @Ev.sz45 (And.intro @Ev.ix30 (And.intro @Ev.ix31 (And.intro @Ev.ix32 (And.intro @Ev.addI (And.intro @Ev.subI (And.intro @Ev.ltI (And.intro @Ev.leI (And.intro @Ev.gtI (And.intro @Ev.geI (And.intro @Ev.intI (And.intro @Ev.mulI (And.intro @Ev.modI (And.intro @Ev.fdivI (And.intro @Ev.dmI (And.intro @Ev.isBz (And.intro @Ev.isBs (And.intro @Ev.isB0 (And.intro @Ev.isB1 (And.intro @Ev.isB2 (And.intro @Ev.isB3 (And.intro @Ev.itAo (And.intro @Ev.itLe (And.intro @Ev.stoP0 (And.intro @Ev.stoP1 (And.intro @Ev.offOwn0 (And.intro @Ev.offOwnd (And.intro @Ev.offOwnn (And.intro @Ev.maxI (And.intro @Ev.minI (And.intro @Ev.absI (And.intro @Ev.call1V (And.intro @Ev.finCallN0 (And.intro @Ev.cnK1 (And.intro @Ev.cnK2 (And.intro @Ev.cnK3 (And.intro @Ev.wipe0 (And.intro @Ev.wipe1 (And.intro @Ev.addV2L (And.intro @Ev.pick0 (And.intro @Ev.pick1 (And.intro @Ev.addV2own (And.intro @Ev.sl0 (And.intro @Ev.sl1 (And.intro @Ev.sl2 (And.intro @Ev.sl3 (And.intro @Ev.sl4 (And.intro @Ev.sl5 (And.intro @Ev.sl6 (And.intro @Ev.sl7 (And.intro @Ev.sl8 (And.intro @Ev.sl9 (And.intro @Ev.sl10 (And.intro @Ev.sl11 (And.intro @Ev.sl12 (And.intro @Ev.sl13 (And.intro @Ev.sl14 (And.intro @Ev.sl15 (And.intro @Ev.sl16 (And.intro @Ev.sl17 (And.intro @Ev.sl18 (And.intro @Ev.sl19 (And.intro @Ev.sl20 (And.intro @Ev.sl21 (And.intro @Ev.sl22 (And.intro @Ev.sl23 (And.intro @Ev.sl24 (And.intro @Ev.sl25 (And.intro @Ev.sl26 (And.intro @Ev.sl27 (And.intro @Ev.sl28 (And.intro @Ev.sl29 (And.intro @Ev.eqI @Ev.neI))))))))))))))))))))))))))))))))))))))))))))))))))))))))))))))))))))))))))))))))))))))))))))))))))))))))))))))))))))))))))))))))))))))))))))))))))))))))))))))))))))))))))))))))))))))))))))))))))))))))))))))))))))))))))))))))))))))))))))))))))))))))))))))))))))))))))))))))))))))))))))))))))))))))))))
end FL

set_option Elab.async false
set_option linter.all false
set_option maxRecDepth 100000
set_option maxHeartbeats 4000000
namespace FL
open PySem PySem.Spec PyProof.Rows L2
section
variable [Wrl] [Tabl]
variable {X : Cx} {W : WX} {e a b c o tg iter : Expr} {f g f1 f2 f3 fo fa : EF} {pos apos kpos p : Pos} {es : List Expr}
def isLst (ev : EV) (Γ : En) : Bool := match ev.look Γ with
  | some (.lst _) => true
  | _ => false
def m1L (g : D → D → Option D) (fo fa : EF) : EF := fun Γ => (fo Γ).bind fun eo Γ1 => if isLst eo Γ1 then (fa Γ1).bind fun ea Γ2 => fin2 g eo ea Γ2 else .fail
def lmK (g : D → D → Option D) (fa : EF) (eo : EV) (Γ1 : En) : O EV := if isLst eo Γ1 then (fa Γ1).bind fun ea Γ2 => fin2 g eo ea Γ2 else .fail
end
namespace Ev
variable {Γ : En}
theorem m1L {g fo fa} : FL.m1L g fo fa Γ = (fo Γ).bind (lmK g fa) := rfl
theorem lmK1 {g fa eo} : lmK g fa eo Γ = if isLst eo Γ then (fa Γ).bind fun ea Γ2 => FL.fin2 g eo ea Γ2 else .fail := rfl
theorem isLstd {xs} : isLst (.d (.lst xs)) Γ = true := rfl
theorem isLsto {i} : isLst (.own i) Γ = (match FL.ownD Γ i with | some (.l _) => true | _ => false) := by
  unfold isLst
  rw [looko]
  cases FL.ownD Γ i with
  | none => rfl
  | some o => cases o <;> rfl
def all2 := And.intro @m1L (And.intro @lmK1 (And.intro @isLstd @isLsto))
end Ev
end FL

set_option Elab.async false
set_option linter.all false
set_option maxRecDepth 100000
set_option maxHeartbeats 4000000
namespace FL
open PySem PySem.Spec PyProof.Rows L2
variable [Wrl] [Tabl]
variable {X : Cx} {W : WX} {e a b c o tg iter value : Expr} {f g f1 f2 f3 fo fa : EF} {pos pos' apos kpos p : Pos} {es : List Expr} {u uk : AF} {kws : List Keyword}
def maK (Γ1 : En) (r : Ro) : O VV := match r with
  | .ok .non (some o) => .ok (.n o) Γ1
  | .exc c ns fs _ => .exc c ns fs Γ1
  | _ => .fail
def finMake (Fn : DFn) (c : Str) (dd : List D) (es : List EV) (Γ : En) : O VV := match frzs es Γ with
  | none => .fail
  | some (ds, Γ1) => maK Γ1 (Fn (.ins c [] [] :: (ds ++ dd)))
section
variable {k n : Nat} {fa' C : Addr} {fd : FuncData} {ps ks : List Str} {sp : Sp} {dvs : List V} {ds : List Value} {x m cn fn : Str} {Fn : DFn} {dd : List D} {pm : List Nat}
def makeV (n : Nat) (Fn : DFn) (c : Str) (dd : List D) (u : AF) : VF := fun Γ => (u Γ).bind fun es Γ1 => if es.length = n then finMake Fn c dd es Γ1 else .fail
def makeK (n m np : Nat) (pm : List Nat) (Fn : DFn) (c : Str) (dd : List D) (u uk : AF) : VF := fun Γ => (u Γ).bind fun es Γ1 => (uk Γ1).bind fun zs Γ2 =>
  if es.length = n ∧ zs.length = m ∧ (pick pm (es ++ (zs ++ dd.map EV.d))).length + 1 = np then finMake Fn c [] (pick pm (es ++ (zs ++ dd.map EV.d))) Γ2 else .fail
theorem pick_succ {α : Type} (pm : List Nat) (x : α) (xs : List α) : pick (0 :: pm.map (· + 1)) (x :: xs) = x :: pick pm xs := by
  unfold pick
  rw [List.filterMap_cons, List.getElem?_cons_zero, List.filterMap_map]
  rfl
def insOf (c : Str) (ev : EV) (Γ : En) : Option (List Str × List D) := match ev.look Γ with
  | some (.ins c' ns fs) => if c' = c then some (ns, fs) else none
  | _ => none
def fldOf (f : Str) : List Str → List D → Option D
  | n :: ns, d :: ds => if n = f then some d else fldOf f ns ds
  | _, _ => none
def fldE (c f : Str) (fo : EF) : EF := fun Γ => (fo Γ).bind fun ev Γ1 => match (insOf c ev Γ1).bind (fun p => fldOf f p.1 p.2) with
  | some d => .ok (.d d) Γ1
  | none => .fail
def noX (r : O VV) : O VV := match r with
  | .exc _ _ _ _ => .fail
  | r => r
theorem OutV.noX {α : Type} {K : Frg} {W : WX} {rel : Fr → En → St → Hp → Hp → VV → α → Prop} {F : Fr} {σ : St} {G : Hp} {T : (α → Hp → Prop) → Prop} : ∀ {r : O VV}, OutV K noW rel F σ G T r → OutV K W rel F σ G T (noX r)
  | .ok _ _, h => h
  | .exc _ _ _ _, _ => trivial
  | .fail, _ => trivial
def propV (c : Str) (Fn : DFn) (fo : EF) : VF := fun Γ => (fo Γ).bind fun ev Γ1 => if (insOf c ev Γ1).isSome then noX (finCall none Fn [] [ev] Γ1) else .fail
def methV (b : Option Nat) (n : Nat) (c m : Str) (Fn : DFn) (dd : List D) (fo : EF) (u : AF) : VF := fun Γ => (fo Γ).bind fun eo Γ1 => match insOf c eo Γ1 with
  | some (ns, _) => if ns.contains m then .fail else (u Γ1).bind fun es Γ2 => if es.length = n then finCall b Fn dd (eo :: es) Γ2 else .fail
  | none => .fail
def putFD (f : Str) (d : D) : List Str → List D → List Str × List D
  | n :: ns, e :: es => if n = f then (n :: ns, d :: es) else let r := putFD f d ns es; (n :: r.1, e :: r.2)
  | _, _ => ([f], [d])
def setFK (i : Nat) (c f : Str) (r : Option (D × En)) : O Fl := match r with
  | some (d, Γ1) => (match ownD Γ1 i with
    | some (.i c' ns fs) => if c' = c ∧ ns.length < 1000 then .ok .nx (putOwn Γ1 i (.i c (putFD f d ns fs).1 (putFD f d ns fs).2)) else .fail
    | _ => .fail)
  | none => .fail
def setF (i : Nat) (c f : Str) (fv : EF) : SF := fun Γ => (fv Γ).bind fun ev Γ1 => setFK i c f (frz1 ev Γ1)
end
end FL

set_option Elab.async false
set_option linter.all false
set_option maxRecDepth 100000
set_option maxHeartbeats 4000000
namespace FLB
open PySem PySem.Spec PyProof.Rows PySem.Sem
open PySem.Sem (wp)
end FLB
namespace FL
open PySem PySem.Spec PyProof.Rows L2
variable [Wrl] [Tabl]
variable {X : Cx} {W : WX} {e a b c o tg iter value : Expr} {f g f1 f2 f3 fo fa : EF} {pos pos' apos kpos p : Pos} {es : List Expr} {u uk : AF} {kws : List Keyword}
section
variable {k n : Nat} {f' C : Addr} {fd : FuncData} {ps ks : List Str} {sp : Sp} {x m cn fn : Str} {Fn : DFn}
end
end FL
namespace FL
open PySem PySem.Spec PyProof.Rows L2
variable [Wrl] [Tabl]
variable {X : Cx} {W : WX} {e a b c o tg iter value : Expr} {f g f1 f2 f3 fo fa : EF} {pos pos' apos kpos p : Pos} {es : List Expr} {u uk : AF} {kws : List Keyword}
structure OwnC (K : Frg) (cn : Str) : Prop where
  cl : Cls K (He.ga K cn)
  ha : PySem.W.findIn K (.ref (He.ga K cn)) "__class__" = some (some (.builtin "object.__class__"))
  hn : PySem.W.specialIn K (.builtin "object.__class__") "__get__" = some (some (.builtin "getset_descriptor.__get__"))
  htk : PySem.W.takesIn K (.builtin "object.__class__") = some true
  hm : PySem.W.mroIn K (He.ga K cn) (.type "object") = some true
def isC (cs : List Str) (c : Str) (x : D) : Option Bool := match x with
  | .ins c' _ _ => if cs.contains c' then some (decide (c' = c)) else none
  | .scr _ => none
  | .fk _ _ => none
  | .dn _ _ _ => none
  | .exn _ _ _ _ _ => none
  | .err _ _ _ => none
  | .cls _ => none
  | _ => some false
def txK (r : O VV) : O EV := match r with
  | .ok (.e (.d (.str y))) Γ => .ok (.d (.str y)) Γ
  | _ => .fail
def textE (cn : Str) (Fn : DFn) (fo : EF) : EF := fun Γ => (fo Γ).bind fun ev Γ1 => if (insOf cn ev Γ1).isSome then txK (finCall none Fn [] [ev] Γ1) else .fail
section
variable {k n : Nat} {f' : Addr} {fd : FuncData} {ps ks : List Str} {x m cn fn : Str} {Fn : DFn}
def trueI (cn : Str) (fo : EF) : EF := fun Γ => (fo Γ).bind fun ev Γ1 => if (insOf cn ev Γ1).isSome then .ok (.d (.bl true)) Γ1 else .fail
def altE (pick : En → Bool) (f1 f2 : EF) : EF := fun Γ => if pick Γ then f1 Γ else f2 Γ
def pkI (cn : Str) (f : EF) (Γ : En) : Bool := match f Γ with
  | .ok ev Γ1 => (insOf cn ev Γ1).isSome
  | _ => false
def eqK (r : O VV) : O EV := match r with
  | .ok (.e (.d (.bl b))) Γ => .ok (.d (.bl b)) Γ
  | _ => .fail
def okTy (cs : List Str) (ev : EV) (Γ : En) : Bool := match ev.look Γ with
  | some (.ins c _ _) => cs.contains c
  | some (.scr _) => false
  | some (.fk _ _) => false
  | some (.dn _ _ _) => false
  | some (.exn _ _ _ _ _) => false
  | some (.err _ _ _) => false
  | some (.cls _) => false
  | some _ => true
  | none => false
def eqiE (cs : List Str) (cn : Str) (Fn : DFn) (f1 f2 : EF) : EF := fun Γ => (f1 Γ).bind fun e1 Γ1 => (f2 Γ1).bind fun e2 Γ2 => if ((insOf cn e1 Γ2).isSome && okTy cs e2 Γ2) = true then eqK (finCall none Fn [] [e1, e2] Γ2) else .fail
def fmtE (f : EF) : EF := fun Γ => (f Γ).bind fun ev Γ1 => match ev with
  | .d (.str y) => if y.length ≤ sizeLine then .ok (.d (.str y)) Γ1 else .fail
  | .d (.int i) => if i.natAbs.log2 < 1920 then .ok (.d (.str (Str.ofString (toString i)))) Γ1 else .fail
  | _ => .fail
inductive FJ (X : Cx) (W : WX) : List Expr → List EF → Prop where
  | nil : FJ X W [] []
  | cons {e : Expr} {f : EF} {es : List Expr} {fs : List EF} (h : FE X W e f) (r : FJ X W es fs) : FJ X W (e :: es) (f :: fs)
def jsE : List EF → Str → EF
  | [], acc, Γ => .ok (.d (.str acc)) Γ
  | f :: fs, acc, Γ => (f Γ).bind fun ev Γ1 => match ev with
    | .d (.str y) => if (acc ++ y).length ≤ sizeLine then jsE fs (acc ++ y) Γ1 else .fail
    | _ => .fail
end
end FL

set_option Elab.async false
set_option linter.all false
set_option maxRecDepth 100000
set_option maxHeartbeats 4000000
namespace FL
open PySem PySem.Spec PyProof.Rows L2
variable [Wrl] [Tabl]
structure DefX where
  adr : Frg → Addr
  d : He.DefD
def fnA (K : Frg) (a : Addr) : He.FnW := match K.lookup a with
  | some ⟨_, _, .func fd, _⟩ => some (fd.name, fd.qualname, fd.params, fd.body, fd.scope, fd.globals, fd.closure, fd.builtins)
  | _ => none
def okA (K : Frg) (x : DefX) : Bool := PySem.W.keepIn K (.ref (x.adr K)) && (match K.lookup (x.adr K) with
  | some ⟨_, _, .func fd, _⟩ => PySem.W.codeIn K fd.code x.d.qual && (He.dflB K fd.defaults (x.d.dvs K) && He.kwdB K fd.kwdefaults (x.d.kws K))
  | _ => false)
abbrev AlX : Type := AlE × List He.FnW
def exX (ex : Frg → Bool) (xs : List DefX) (K : Frg) : Bool := ex K && xs.all (okA K)
def obsX (fa : List He.Fa) (fn : List He.DefD) (ex : Frg → Bool) (xs : List DefX) (K : Frg) : AlX := (obsE fa fn (exX ex xs) K, xs.map fun x => fnA K (x.adr K))
def SaysX (xs : List DefX) (K : Frg) : Prop := xs.map (fun x => fnA K (x.adr K)) = xs.map fun x => x.d.val
structure Ty (fa : List He.Fa) (fn : List He.DefD) (ex : Frg → Bool) (xs : List DefX) (K : Frg) (mg : Str → Option Value) : Prop where
  t : Tx fa fn ex K mg
  o : xs.all (okA K) = true
  s : SaysX xs K
theorem Ty.mk' {fa : List He.Fa} {fn : List He.DefD} {ex : Frg → Bool} {xs : List DefX} {K : Frg} {mg : Str → Option Value} (hh : ∃ h : Heap, K.In h ∧ h.Ns mainGlobals mg) (c : He.SaysD fa fn K) (e : exX ex xs K = true) (s : SaysX xs K) : Ty fa fn ex xs K mg := by
  obtain ⟨e1, e2⟩ := He.ba e
  exact ⟨⟨hh, c, e1⟩, e2, s⟩
end FL

set_option Elab.async false
set_option linter.all false
set_option maxRecDepth 100000
set_option maxHeartbeats 4000000
namespace FLB
open PySem PySem.Spec PySem.Calls PyProof.Rows PySem.W
section
variable {prog : Program} {w : World} {M : Model} {A : Around} {E : Value → Shared → Prop} {s : Shared} {K : Frag} {x C f : Addr} {ox : Obj} {od : Option Obj} {b tb : Value}
end
end FLB
namespace FL
open PySem PySem.Spec PyProof.Rows L2
variable [Wrl] [Tabl]
variable {X : Cx} {W : WX} {e a b c o tg iter value : Expr} {f g f1 f2 f3 fo fa : EF} {pos pos' apos kpos p : Pos}
section
variable {k n : Nat} {f' : Addr} {fd : FuncData} {ps ks : List Str} {x m cn fn : Str} {Fn : DFn}
def neK (r : O VV) : O EV := match r with
  | .ok (.e (.d (.bl b))) Γ => .ok (.d (.bl (!b))) Γ
  | _ => .fail
def neiE (cs : List Str) (cn : Str) (Fn : DFn) (f1 f2 : EF) : EF := fun Γ => (f1 Γ).bind fun e1 Γ1 => (f2 Γ1).bind fun e2 Γ2 => if ((insOf cn e1 Γ2).isSome && okTy cs e2 Γ2) = true then neK (finCall none Fn [] [e1, e2] Γ2) else .fail
end
end FL

set_option Elab.async false
set_option linter.all false
set_option maxRecDepth 100000
set_option maxHeartbeats 4000000
namespace FLB
open PySem PySem.Spec PyProof.Rows L2
end FLB

set_option Elab.async false
set_option linter.all false
set_option maxRecDepth 100000
set_option maxHeartbeats 4000000
namespace FL
open PySem PySem.Spec PyProof.Rows L2
variable [Wrl] [Tabl]
variable {X : Cx} {W : WX} {e a b c o tg iter value : Expr} {f g f1 f2 f3 fo fa : EF} {pos pos' apos kpos p tpos : Pos} {es : List Expr} {u uk : AF} {kws : List Keyword}
def enumD : Nat → List D → List D
  | _, [] => []
  | i, d :: ds => .tup [.int (i : Nat), d] :: enumD (i + 1) ds
def enL (ev : EV) (Γ : En) : O (List D) := match frz1 ev Γ with
  | some (.lst ds, Γ') => .ok (enumD 0 ds) Γ'
  | _ => .fail
def enA (ev : EV) (Γ : En) : O (List D) := match ev with
  | .d (.tup ds) => .ok (enumD 0 ds) Γ
  | _ => enL ev Γ
def enumI (f : EF) : IF := fun Γ => (f Γ).bind enA
section
variable {k n : Nat} {fa' : Addr} {fd : FuncData} {ps ks : List Str} {sp : Sp} {dvs : List V} {ds : List Value} {x m cn fn : Str} {Fn : DFn} {dd : List D} {pm : List Nat} {b : Option Nat}
def methK (b : Option Nat) (n mk np : Nat) (pm : List Nat) (c m : Str) (Fn : DFn) (dd : List D) (fo : EF) (u uk : AF) : VF := fun Γ => (fo Γ).bind fun eo Γ1 => match insOf c eo Γ1 with
  | some (ns, _) => if ns.contains m then .fail else (u Γ1).bind fun es Γ2 => (uk Γ2).bind fun zs Γ3 =>
      if es.length = n ∧ zs.length = mk ∧ (pick pm ((eo :: es) ++ (zs ++ dd.map EV.d))).length = np then finCall b Fn [] (pick pm ((eo :: es) ++ (zs ++ dd.map EV.d))) Γ3 else .fail
  | none => .fail
end
end FL

set_option Elab.async false
set_option linter.all false
set_option maxRecDepth 100000
set_option maxHeartbeats 4000000
namespace FL
open PySem PySem.Spec PyProof.Rows L2
section
variable [Wrl] [Tabl]
def insO (c : Str) (r : Option OD) : Option (List Str × List D) := match r with
  | some (.i c' ns fs) => if c' = c then some (ns, fs) else none
  | _ => none
def flC (c f : Str) (ev : EV) (Γ : En) : O EV := oK Γ ((insOf c ev Γ).bind fun p => fldOf f p.1 p.2)
def prC (c : Str) (Fn : DFn) (ev : EV) (Γ : En) : O VV := if (insOf c ev Γ).isSome then noX (finCall none Fn [] [ev] Γ) else .fail
def mkC (n : Nat) (Fn : DFn) (c : Str) (dd : List D) (es : List EV) (Γ : En) : O VV := if es.length = n then finMake Fn c dd es Γ else .fail
def fmK (Fn : DFn) (c : Str) (dd : List D) (r : Option (List D × En)) : O VV := match r with
  | none => .fail
  | some (ds, Γ1) => maK Γ1 (Fn (.ins c [] [] :: (ds ++ dd)))
def meI (b : Option Nat) (n : Nat) (m : Str) (Fn : DFn) (dd : List D) (u : AF) (eo : EV) (Γ : En) (r : Option (List Str × List D)) : O VV := match r with
  | some (ns, _) => if ns.contains m then .fail else (u Γ).bind fun es Γ2 => if es.length = n then finCall b Fn dd (eo :: es) Γ2 else .fail
  | none => .fail
def meC (b : Option Nat) (n : Nat) (c m : Str) (Fn : DFn) (dd : List D) (u : AF) (eo : EV) (Γ : En) : O VV := meI b n m Fn dd u eo Γ (insOf c eo Γ)
def mkI (b : Option Nat) (n mk np : Nat) (pm : List Nat) (m : Str) (Fn : DFn) (dd : List D) (u uk : AF) (eo : EV) (Γ : En) (r : Option (List Str × List D)) : O VV := match r with
  | some (ns, _) => if ns.contains m then .fail else (u Γ).bind fun es Γ2 => (uk Γ2).bind fun zs Γ3 =>
      if es.length = n ∧ zs.length = mk ∧ (pick pm ((eo :: es) ++ (zs ++ dd.map EV.d))).length = np then finCall b Fn [] (pick pm ((eo :: es) ++ (zs ++ dd.map EV.d))) Γ3 else .fail
  | none => .fail
def mkC' (b : Option Nat) (n mk np : Nat) (pm : List Nat) (c m : Str) (Fn : DFn) (dd : List D) (u uk : AF) (eo : EV) (Γ : En) : O VV := mkI b n mk np pm m Fn dd u uk eo Γ (insOf c eo Γ)
def sfC (i : Nat) (c f : Str) (ev : EV) (Γ : En) : O Fl := setFK i c f (frz1 ev Γ)
def sfD (i : Nat) (c f : Str) (d : D) (Γ : En) (r : Option OD) : O Fl := match r with
  | some (.i c' ns fs) => if c' = c ∧ ns.length < 1000 then .ok .nx (putOwn Γ i (.i c (putFD f d ns fs).1 (putFD f d ns fs).2)) else .fail
  | _ => .fail
def txC (cn : Str) (Fn : DFn) (ev : EV) (Γ : En) : O EV := if (insOf cn ev Γ).isSome then txK (finCall none Fn [] [ev] Γ) else .fail
def trC (cn : Str) (ev : EV) (Γ : En) : O EV := if (insOf cn ev Γ).isSome then .ok (.d (.bl true)) Γ else .fail
def eqC (cs : List Str) (cn : Str) (Fn : DFn) (e1 e2 : EV) (Γ : En) : O EV := if ((insOf cn e1 Γ).isSome && okTy cs e2 Γ) = true then eqK (finCall none Fn [] [e1, e2] Γ) else .fail
def neC (cs : List Str) (cn : Str) (Fn : DFn) (e1 e2 : EV) (Γ : En) : O EV := if ((insOf cn e1 Γ).isSome && okTy cs e2 Γ) = true then neK (finCall none Fn [] [e1, e2] Γ) else .fail
def jsC (fs : List EF) (acc : Str) (ev : EV) (Γ : En) : O EV := match ev with
  | .d (.str y) => if (acc ++ y).length ≤ sizeLine then jsE fs (acc ++ y) Γ else .fail
  | _ => .fail
def fmC (ev : EV) (Γ : En) : O EV := match ev with
  | .d (.str y) => if y.length ≤ sizeLine then .ok (.d (.str y)) Γ else .fail
  | .d (.int i) => if i.natAbs.log2 < 1920 then .ok (.d (.str (Str.ofString (toString i)))) Γ else .fail
  | _ => .fail
end
namespace Ev
variable {f f1 f2 : EF} {Γ : En} {vf : VF} {u uk : AF} {cn c c' m : Str} {Fn : DFn} {b : Option Nat} {dd ds : List D} {n : Nat} {ns : List Str} {fs : List D} {cs : List Str}
theorem ins_d : insOf c (.d (.ins c' ns fs)) Γ = if c' = c then some (ns, fs) else none := rfl
theorem ins_o {i} : insOf c (.own i) Γ = insO c (FL.ownD Γ i) := by
  unfold insOf insO
  rw [looko]
  cases FL.ownD Γ i with
  | none => rfl
  | some o => cases o <;> rfl
theorem ins_oi : insO c (some (.i c' ns fs)) = if c' = c then some (ns, fs) else none := rfl
theorem isSomeS {α : Type} {x : α} : (some x).isSome = true := rfl
theorem fld {x : Str} : fldE c x f Γ = (f Γ).bind (flC c x) := by
  unfold fldE flC
  congr 1
theorem flC1 {x : Str} {ev} : flC c x ev Γ = oK Γ ((insOf c ev Γ).bind fun p => fldOf x p.1 p.2) := rfl
theorem prop : propV c Fn f Γ = (f Γ).bind (prC c Fn) := rfl
theorem prC1 {ev} : prC c Fn ev Γ = if (insOf c ev Γ).isSome then noX (FL.finCall none Fn [] [ev] Γ) else .fail := rfl
theorem noX1 {v} : noX (.ok v Γ) = .ok v Γ := rfl
theorem make : makeV n Fn c dd u Γ = (u Γ).bind (mkC n Fn c dd) := rfl
theorem mkC1 {es} : mkC n Fn c dd es Γ = if es.length = n then finMake Fn c dd es Γ else .fail := rfl
theorem fmk {es} : finMake Fn c dd es Γ = fmK Fn c dd (frzs es Γ) := by unfold finMake fmK; cases frzs es Γ <;> rfl
theorem fmK1 : fmK Fn c dd (some (ds, Γ)) = maK Γ (Fn (.ins c [] [] :: (ds ++ dd))) := rfl
theorem maK1 {o} : maK Γ (.ok .non (some o)) = .ok (.n o) Γ := rfl
theorem makeKK {k np pm} : makeK n k np pm Fn c dd u uk Γ = (u Γ).bind fun es Γ1 => (uk Γ1).bind fun zs Γ2 =>
  if es.length = n ∧ zs.length = k ∧ (pick pm (es ++ (zs ++ dd.map EV.d))).length + 1 = np then finMake Fn c [] (pick pm (es ++ (zs ++ dd.map EV.d))) Γ2 else .fail := rfl
theorem meth : methV b n c m Fn dd f u Γ = (f Γ).bind (meC b n c m Fn dd u) := by
  unfold methV meC meI
  congr 1
theorem meC1 {eo} : meC b n c m Fn dd u eo Γ = meI b n m Fn dd u eo Γ (insOf c eo Γ) := rfl
theorem meI1 {eo} : meI b n m Fn dd u eo Γ (some (ns, fs)) = if ns.contains m then .fail else (u Γ).bind fun es Γ2 => if es.length = n then FL.finCall b Fn dd (eo :: es) Γ2 else .fail := rfl
theorem methKK {k np pm} : methK b n k np pm c m Fn dd f u uk Γ = (f Γ).bind (mkC' b n k np pm c m Fn dd u uk) := by
  unfold methK mkC' mkI
  congr 1
theorem mkC'1 {k np pm eo} : mkC' b n k np pm c m Fn dd u uk eo Γ = mkI b n k np pm m Fn dd u uk eo Γ (insOf c eo Γ) := rfl
theorem mkI1 {k np pm eo} : mkI b n k np pm m Fn dd u uk eo Γ (some (ns, fs)) = if ns.contains m then .fail else (u Γ).bind fun es Γ2 => (uk Γ2).bind fun zs Γ3 =>
      if es.length = n ∧ zs.length = k ∧ (pick pm ((eo :: es) ++ (zs ++ dd.map EV.d))).length = np then FL.finCall b Fn [] (pick pm ((eo :: es) ++ (zs ++ dd.map EV.d))) Γ3 else .fail := rfl
theorem setf {i x} : setF i c x f Γ = (f Γ).bind (sfC i c x) := rfl
theorem sfC1 {i x ev} : sfC i c x ev Γ = setFK i c x (frz1 ev Γ) := rfl
theorem setFK1 {i x d} : setFK i c x (some (d, Γ)) = sfD i c x d Γ (FL.ownD Γ i) := by
  first
  | (unfold setFK sfD; dsimp only; done)
  | (unfold setFK sfD; dsimp only; rcases FL.ownD Γ i with _ | o <;> first | rfl | (cases o <;> rfl))
theorem sfD1 {i x d} : sfD i c x d Γ (some (.i c' ns fs)) = if c' = c ∧ ns.length < 1000 then .ok .nx (FL.putOwn Γ i (.i c (putFD x d ns fs).1 (putFD x d ns fs).2)) else .fail := rfl
theorem odi : OD.d (.i c ns fs) = .ins c ns fs := rfl
theorem odins : D.od (.ins c ns fs) = some (.i c ns fs) := rfl
theorem text : textE c Fn f Γ = (f Γ).bind (txC c Fn) := rfl
theorem txC1 {ev} : txC c Fn ev Γ = if (insOf c ev Γ).isSome then txK (FL.finCall none Fn [] [ev] Γ) else .fail := rfl
theorem txK1 {y} : txK (.ok (.e (.d (.str y))) Γ) = .ok (.d (.str y)) Γ := rfl
theorem truei : trueI c f Γ = (f Γ).bind (trC c) := rfl
theorem trC1 {ev} : trC c ev Γ = if (insOf c ev Γ).isSome then .ok (.d (.bl true)) Γ else .fail := rfl
theorem eqi : eqiE cs c Fn f1 f2 Γ = (f1 Γ).bind fun e1 Γ1 => (f2 Γ1).bind (eqC cs c Fn e1) := rfl
theorem eqC1 {e1 e2} : eqC cs c Fn e1 e2 Γ = if ((insOf c e1 Γ).isSome && okTy cs e2 Γ) = true then eqK (FL.finCall none Fn [] [e1, e2] Γ) else .fail := rfl
theorem eqK1 {b} : eqK (.ok (.e (.d (.bl b))) Γ) = .ok (.d (.bl b)) Γ := rfl
theorem nei : neiE cs c Fn f1 f2 Γ = (f1 Γ).bind fun e1 Γ1 => (f2 Γ1).bind (neC cs c Fn e1) := rfl
theorem neC1 {e1 e2} : neC cs c Fn e1 e2 Γ = if ((insOf c e1 Γ).isSome && okTy cs e2 Γ) = true then neK (FL.finCall none Fn [] [e1, e2] Γ) else .fail := rfl
theorem neK1 {b} : neK (.ok (.e (.d (.bl b))) Γ) = .ok (.d (.bl (!b))) Γ := rfl
theorem okTyd : okTy cs (.d (.ins c ns fs)) Γ = cs.contains c := rfl
def okO (cs : List Str) (r : Option OD) : Bool := match r with
  | some (.i c _ _) => cs.contains c
  | some (.n _ _) => false
  | some _ => true
  | none => false
theorem okTyo {i} : okTy cs (.own i) Γ = okO cs (FL.ownD Γ i) := by
  unfold okTy okO
  rw [looko]
  cases FL.ownD Γ i with
  | none => rfl
  | some o => cases o <;> rfl
theorem okO1 : okO cs (some (.i c ns fs)) = cs.contains c := rfl
theorem isC1 : isC cs c (.ins c' ns fs) = if cs.contains c' then some (decide (c' = c)) else none := rfl
theorem js0 {acc} : jsE [] acc Γ = .ok (.d (.str acc)) Γ := rfl
theorem js1 {fs acc} : jsE (f :: fs) acc Γ = (f Γ).bind (jsC fs acc) := by
  show (f Γ).bind _ = _
  congr 1
theorem fmt : fmtE f Γ = (f Γ).bind fmC := by
  unfold fmtE
  congr 1
theorem enum : enumI f Γ = (f Γ).bind enA := rfl
theorem enAt {ds} : enA (.d (.tup ds)) Γ = .ok (enumD 0 ds) Γ := rfl
theorem enAl {ds} : enA (.d (.lst ds)) Γ = .ok (enumD 0 ds) Γ := rfl
theorem enAo {i} : enA (.own i) Γ = enL (.own i) Γ := rfl
theorem enL1 {ev} : enL ev Γ = (match frz1 ev Γ with | some (.lst ds, Γ') => .ok (enumD 0 ds) Γ' | _ => .fail) := rfl
def all3 := (And.intro @ins_d (And.intro @ins_o (And.intro @ins_oi (And.intro @isSomeS (And.intro @fld (And.intro @flC1 (And.intro @prop (And.intro @prC1 (And.intro @noX1 (And.intro @make (And.intro @mkC1 (And.intro @fmk (And.intro @fmK1 (And.intro @maK1 (And.intro @makeKK (And.intro @meth (And.intro @meC1 (And.intro @meI1 (And.intro @methKK (And.intro @mkC'1 (And.intro @mkI1 (And.intro @setf (And.intro @sfC1 (And.intro @setFK1 (And.intro @sfD1 (And.intro @odi (And.intro @odins (And.intro @text (And.intro @txC1 (And.intro @txK1 (And.intro @truei (And.intro @trC1 (And.intro @eqi (And.intro @eqC1 (And.intro @eqK1 (And.intro @nei (And.intro @neC1 (And.intro @neK1 (And.intro @okTyd (And.intro @okTyo (And.intro @okO1 (And.intro @isC1 (And.intro @js0 (And.intro @js1 (And.intro @fmt (And.intro @enum (And.intro @enAt (And.intro @enAl (And.intro @enAo @enL1)))))))))))))))))))))))))))))))))))))))))))))))))
end Ev
end FL

set_option Elab.async false
set_option linter.all false
set_option maxRecDepth 100000
set_option maxHeartbeats 4000000
namespace FL
open PySem PySem.Spec PyProof.Rows L2
section
variable [Wrl] [Tabl]
mutual
def free : D → Bool
  | .non => true
  | .bl _ => true
  | .int _ => true
  | .str _ => true
  | .tup ds => frees ds
  | _ => false
def frees : List D → Bool
  | [] => true
  | d :: ds => free d && frees ds
end
def freeO : OD → Bool
  | .l xs => frees xs
  | .k _ vs => frees vs
  | .n _ _ => false
  | .i _ _ fs => frees fs
def keep1 : Sl → Sl → Option Sl
  | .im d, _ => some (.im d)
  | .no, _ => some .no
  | .acc (.l _), .im (.lst xs) => if frees xs then some (.acc (.l xs)) else none
  | .acc _, .acc o => if freeO o then some (.acc o) else none
  | .bor _, .bor o => if freeO o then some (.bor o) else none
  | _, _ => none
def keepΓ : En → En → Option En
  | [], [] => some []
  | s :: Γ, s' :: Γ' => (keep1 s s').bind fun r => (keepΓ Γ Γ').map fun t => r :: t
  | _, _ => none
theorem keepΓ_get : ∀ {Γ Γ' Γr : En}, keepΓ Γ Γ' = some Γr → Γr.length = Γ.length ∧ ∀ (i : Nat) (s : Sl), Γr[i]? = some s → ∃ a b, Γ[i]? = some a ∧ Γ'[i]? = some b ∧ keep1 a b = some s
  | [], [], Γr, h => by
    cases h
    exact ⟨rfl, fun i s e => by simp at e⟩
  | [], _ :: _, _, h => by cases h
  | _ :: _, [], _, h => by cases h
  | x :: Γ, y :: Γ', Γr, h => by
    obtain ⟨r, h1, h2⟩ := Option.bind_eq_some_iff.mp h
    obtain ⟨t, h3, rfl⟩ := Option.map_eq_some_iff.mp h2
    obtain ⟨l, ih⟩ := keepΓ_get h3
    refine ⟨by rw [List.length_cons, List.length_cons, l], fun i s e => ?_⟩
    cases i with
    | zero => rw [List.getElem?_cons_zero] at e; cases e; exact ⟨x, y, rfl, rfl, h1⟩
    | succ i => rw [List.getElem?_cons_succ] at e ⊢; rw [List.getElem?_cons_succ]; exact ih i s e
theorem keepΓ_all {Γ Γ' Γr : En} (h : keepΓ Γ Γ' = some Γr) {i : Nat} {a : Sl} (e : Γ[i]? = some a) : ∃ b s, Γ'[i]? = some b ∧ Γr[i]? = some s ∧ keep1 a b = some s := by
  obtain ⟨l, k⟩ := keepΓ_get h
  obtain ⟨hi, _⟩ := List.getElem?_eq_some_iff.mp e
  have : Γr[i]? = some (Γr[i]'(by omega)) := List.getElem?_eq_getElem (by omega)
  obtain ⟨a', b, h1, h2, h3⟩ := k i _ this
  rw [e] at h1; cases h1
  exact ⟨b, _, h2, this, h3⟩
theorem keep_acc {a b : Sl} {o : OD} (h : keep1 a b = some (.acc o)) : ∃ o0, a = .acc o0 ∧ ((∃ xs, b = .im (.lst xs) ∧ o = .l xs ∧ frees xs = true) ∨ (b = .acc o ∧ freeO o = true)) := by
  unfold keep1 at h
  split at h <;> try (cases h; done)
  all_goals first
    | (split at h <;> first | (cases h; done) | (cases h; exact ⟨_, rfl, .inl ⟨_, rfl, rfl, by assumption⟩⟩) | (cases h; exact ⟨_, rfl, .inr ⟨rfl, by assumption⟩⟩))
theorem keep_bor {a b : Sl} {o : OD} (h : keep1 a b = some (.bor o)) : ∃ o0, a = .bor o0 ∧ b = .bor o ∧ freeO o = true := by
  unfold keep1 at h
  split at h <;> try (cases h; done)
  all_goals (split at h <;> first | (cases h; done) | (cases h; exact ⟨_, rfl, rfl, by assumption⟩))
theorem keep_im {a b : Sl} {d : D} (h : keep1 a b = some (.im d)) : a = .im d := by
  unfold keep1 at h
  split at h <;> first | (cases h; rfl) | (cases h; done) | (split at h <;> cases h)
open Classical in
noncomputable def without (Γ : En) (σ : St) (G : Hp) : Hp := fun a => if ∃ j, ownAt Γ j ∧ σ[j]? = some (some (V.ref a)) then none else G a
section
variable {K : Frg} {F : Fr} {Γ Γ' Γr : En} {σ : St} {H H' G G' : Hp}
theorem without_out {a : Addr} (h : ¬ ∃ j, ownAt Γ j ∧ σ[j]? = some (some (V.ref a))) : without Γ σ G' a = G' a := by unfold without; rw [if_neg h]
theorem without_in {a : Addr} (h : ∃ j, ownAt Γ j ∧ σ[j]? = some (some (V.ref a))) : without Γ σ G' a = none := by unfold without; rw [if_pos h]
theorem without_sub {a : Addr} {o : HO} (h : without Γ σ G' a = some o) : G' a = some o ∧ ¬ ∃ j, ownAt Γ j ∧ σ[j]? = some (some (V.ref a)) := by
  by_cases e : ∃ j, ownAt Γ j ∧ σ[j]? = some (some (V.ref a))
  · rw [without_in e] at h; cases h
  · rw [without_out e] at h; exact ⟨h, e⟩
theorem without_rd {a : Addr} {vs : List V} (hL : ∀ j, ownAt Γ j → σ[j]? = some (some (V.ref a)) → ∀ u, G' a = some u → ∃ ws, u = .lst ws) (h : Rd G' a (.tup vs)) : Rd (without Γ σ G') a (.tup vs) := by
  have hn : ¬ ∃ j, ownAt Γ j ∧ σ[j]? = some (some (V.ref a)) := fun ⟨j, h1, h2⟩ => by
    rcases h with h | ⟨o, h⟩
    · obtain ⟨ws, e⟩ := hL j h1 h2 _ h; cases e
    · obtain ⟨ws, e⟩ := hL j h1 h2 _ h; cases e
  rcases h with h | ⟨o, h⟩
  · exact .inl (by rw [without_out hn]; exact h)
  · exact .inr ⟨o, by rw [without_out hn]; exact h⟩
mutual
theorem Rep.without (hL : ∀ a j, ownAt Γ j → σ[j]? = some (some (V.ref a)) → ∀ u, G' a = some u → ∃ ws, u = .lst ws) : ∀ (d : D) (v : V), free d = true → Rep K G' d v → Rep K (FL.without Γ σ G') d v
  | .non, _, _, r => r
  | .bl _, _, _, r => r
  | .int _, _, _, r => r
  | .str _, _, _, r => r
  | .tup ds, _, hf, ⟨a, vs, e, q, r⟩ => by
    refine ⟨a, vs, e, ?_, Reps.without hL ds vs hf r⟩
    rcases q with q | q
    · exact .inl (without_rd (hL a) q)
    · exact .inr q
  | .lst _, _, hf, _ => by cases hf
  | .scr _, _, hf, _ => by cases hf
  | .dk _ _, _, hf, _ => by cases hf
  | .fk _ _, _, hf, _ => by cases hf
  | .dn _ _ _, _, hf, _ => by cases hf
  | .ins _ _ _, _, hf, _ => by cases hf
theorem Reps.without (hL : ∀ a j, ownAt Γ j → σ[j]? = some (some (V.ref a)) → ∀ u, G' a = some u → ∃ ws, u = .lst ws) : ∀ (ds : List D) (vs : List V), frees ds = true → Reps K G' ds vs → Reps K (FL.without Γ σ G') ds vs
  | [], _, _, r => r
  | d :: ds, _, hf, ⟨v, r, e, h1, h2⟩ => by
    have hf : (free d && frees ds) = true := hf
    obtain ⟨f1, f2⟩ := Bool.and_eq_true_iff.mp hf
    exact ⟨v, r, e, Rep.without hL d v f1 h1, Reps.without hL ds r f2 h2⟩
end
theorem ORep.without {a : Addr} (hL : ∀ a j, ownAt Γ j → σ[j]? = some (some (V.ref a)) → ∀ u, G' a = some u → ∃ ws, u = .lst ws) : ∀ {o : OD} {u : HO}, freeO o = true → ORep K G' a o u → ORep K (FL.without Γ σ G') a o u
  | .l _, _, hf, ⟨vs, e, r⟩ => ⟨vs, e, Reps.without hL _ _ hf r⟩
  | .k _ _, _, hf, ⟨kv, e, n, r⟩ => ⟨kv, e, n, Reps.without hL _ _ hf r⟩
  | .n _ _, _, hf, _ => by cases hf
  | .i _ _ _, _, hf, ⟨dx, fv, e, n, r⟩ => ⟨dx, fv, e, n, Reps.without hL _ _ hf r⟩
theorem keep_lists (R : Rl K F Γ σ H G) (R' : Rl K F Γ' σ H' G') (h : keepΓ Γ Γ' = some Γr) : ∀ a j, ownAt Γ j → σ[j]? = some (some (V.ref a)) → ∀ u, G' a = some u → ∃ ws, u = .lst ws := by
  rintro a j ⟨o, e⟩ hs u hu
  obtain ⟨b, s, h1, h2, h3⟩ := keepΓ_all h e
  have hs2 : ∃ o', s = .acc o' := by
    unfold keep1 at h3
    split at h3 <;> first | (rename_i z; cases z; done) | skip
    all_goals first
      | (split at h3 <;> first | (cases h3; done) | (cases h3; exact ⟨_, rfl⟩))
      | (cases h3; done)
      | skip
    all_goals first | (cases h3; exact ⟨_, rfl⟩) | (exfalso; simp_all)
  obtain ⟨o', rfl⟩ := hs2
  obtain ⟨_, _, hb⟩ := keep_acc h3
  rcases hb with ⟨xs, rfl, _, _⟩ | ⟨rfl, _⟩
  · obtain ⟨v, k1, a', vs, rfl, k2, _⟩ := R'.sl j _ h1
    rw [hs] at k1; cases k1
    rw [k2] at hu; cases hu
    exact ⟨vs, rfl⟩
  · obtain ⟨a', u', k1, _, k3, _⟩ := R'.ac j _ h1
    rw [hs] at k1; cases k1
    rw [k3] at hu; cases hu
theorem Rl.keep (R : Rl K F Γ σ H G) (le : Le G G') (R' : Rl K F Γ' σ H' G') (h : keepΓ Γ Γ' = some Γr) : Rl K F Γr σ H' (FL.without Γ σ G') := by
  have hL := keep_lists R R' h
  obtain ⟨hlen, hget⟩ := keepΓ_get h
  have own : ∀ j, ownAt Γr j → ownAt Γ j := fun j ⟨o, e⟩ => by
    obtain ⟨a, b, h1, h2, h3⟩ := hget j _ e
    obtain ⟨o0, rfl, _⟩ := keep_acc h3
    exact ⟨o0, h1⟩
  refine ⟨by rw [hlen]; exact R.len, fun a o e => R'.gh a o (without_sub e).1, fun a o e => ?_, R'.he, fun a o e => R'.gn a o (without_sub e).1, fun i d e => ?_, fun i o e => ?_, fun i o e => ?_, fun i hi => ?_, ⟨R'.tb.ht, ⟨fun a o e => R'.tb.t0.gt a o (without_sub e).1, R'.tb.t0.ts⟩⟩⟩
  · have hg := R.ge a o e
    have hn : ¬ ∃ j, ownAt Γ j ∧ σ[j]? = some (some (V.ref a)) := fun ⟨j, ⟨o', e'⟩, hs⟩ => by
      obtain ⟨a', u, k1, _, k3, _⟩ := R.ac j o' e'
      rw [hs] at k1; cases k1
      rw [hg] at k3; cases k3
    rw [without_out hn]
    exact R'.ge a o e
  · obtain ⟨a, b, h1, h2, h3⟩ := hget i _ e
    rw [keep_im h3] at h1
    obtain ⟨v, k1, k2⟩ := R.sl i d h1
    refine ⟨v, k1, Rep.le (fun a o hg => ?_) d v k2⟩
    have hn : ¬ ∃ j, ownAt Γ j ∧ σ[j]? = some (some (V.ref a)) := fun ⟨j, ⟨o', e'⟩, hs⟩ => by
      obtain ⟨a', u, m1, _, m3, _⟩ := R.ac j o' e'
      rw [hs] at m1; cases m1
      rw [hg] at m3; cases m3
    rw [without_out hn]
    exact le a o hg
  · obtain ⟨a, b, h1, h2, h3⟩ := hget i _ e
    obtain ⟨o0, rfl, hb⟩ := keep_acc h3
    obtain ⟨p, u0, k1, _, _, k4, _, k6⟩ := R.ac i o0 h1
    have hin : FL.without Γ σ G' p = none := without_in ⟨i, ⟨o0, h1⟩, k1⟩
    rcases hb with ⟨xs, rfl, rfl, hf⟩ | ⟨rfl, hf⟩
    · obtain ⟨v, m1, a', vs, rfl, m2, m3⟩ := R'.sl i _ h2
      rw [k1] at m1; cases m1
      exact ⟨p, .lst vs, k1, R'.gh _ _ m2, hin, k4, ⟨vs, rfl, Reps.without hL xs vs hf m3⟩, fun j hj hj' => k6 j hj (own j hj')⟩
    · obtain ⟨a', u, m1, m2, m3, m4, m5, _⟩ := R'.ac i o h2
      rw [k1] at m1; cases m1
      exact ⟨p, u, k1, m2, hin, k4, m5.without hL hf, fun j hj hj' => k6 j hj (own j hj')⟩
  · obtain ⟨a, b, h1, h2, h3⟩ := hget i _ e
    obtain ⟨o0, rfl, rfl, hf⟩ := keep_bor h3
    obtain ⟨k1, k2, k3, k4, u, k5, k6⟩ := R'.bo i o h2
    refine ⟨k1, k2, k3, ?_, u, k5, k6.without hL hf⟩
    by_cases hn : ∃ j, ownAt Γ j ∧ σ[j]? = some (some (V.ref F.ba))
    · exact without_in hn
    · rw [without_out hn]; exact k4
  · obtain ⟨o0, h1⟩ := R.bb i hi
    obtain ⟨b, s, h2, h3, h4⟩ := keepΓ_all h h1
    obtain ⟨o', h5⟩ := R'.bb i hi
    rw [h5] at h2; cases h2
    unfold keep1 at h4
    dsimp only at h4
    split at h4
    · cases h4; exact ⟨o', h3⟩
    · cases h4
end
end
namespace Ev
variable {Γ Γ' : En} {f : VF}
end Ev
end FL

set_option Elab.async false
set_option linter.all false
set_option maxRecDepth 100000
set_option maxHeartbeats 4000000
namespace FL
open PySem PySem.Spec PyProof.Rows L2
variable [Wrl] [Tabl]
variable {X : Cx} {W : WX} {a b : Expr} {f1 f2 : EF} {pos : Pos}
end FL

set_option Elab.async false
set_option linter.all false
set_option maxRecDepth 100000
set_option maxHeartbeats 4000000
namespace HT
open PySem PyProof.Rows
open PySem.SeqAt
open PySem.AutoSeq1 (wpAny_loadPart')
open PySem.MeetsSeq PySem.MeetsSeq2 PySem.MeetsSeq3
section
variable {prog : Program} {w : World} {A : Around} {E : Value → Shared → Prop} {s : Shared}
end
end HT
namespace FL
open PySem PySem.Spec PyProof.Rows L2
variable [Wrl] [Tabl]
section
variable {X : Cx} {W : WX} {e : Expr} {f : EF} {te : TE}
theorem Reps.snoc {K : Frg} {G : Hp} {d : D} {v : V} (h : Rep K G d v) : ∀ {ds : List D} {vs : List V}, Reps K G ds vs → Reps K G (ds ++ [d]) (vs ++ [v])
  | [], _, e => by rw [show _ = [] from e]; exact ⟨v, [], rfl, h, rfl⟩
  | x :: ds, _, ⟨w, r, e, h1, h2⟩ => by subst e; exact ⟨w, _, rfl, h1, Reps.snoc h h2⟩
theorem Reps.rev {K : Frg} {G : Hp} : ∀ {ds : List D} {vs : List V}, Reps K G ds vs → Reps K G ds.reverse vs.reverse
  | [], _, e => by rw [show _ = [] from e]; exact rfl
  | x :: ds, _, ⟨w, r, e, h1, h2⟩ => by
    subst e
    rw [List.reverse_cons, List.reverse_cons]
    exact Reps.snoc h1 (Reps.rev h2)
end
end FL

set_option Elab.async false
set_option linter.all false
set_option maxRecDepth 100000
set_option maxHeartbeats 4000000
namespace FL
open PySem PySem.Spec PyProof.Rows L2
def xiCx (P : Program) (w : World) (K : Frg) (mg : Str → Option Value) (base : Heap) (N : List Str) (qual : Str) (scope : Scope) (f : Addr) (cd : Value) (cc : Addr) (A : Around) (outer : List Env) (s : Shared) (H : Hp) (E : XK) : Cx :=
  { cxOf (L2.CX P w) P w K mg base N qual scope f cd A outer s H E with
    A := A.deeper (PySem.W.ksEnv qual scope s.heap.objs.size f cd cc)
    env := PySem.W.ksEnv qual scope s.heap.objs.size f cd cc
    stack := PySem.W.ksEnv qual scope s.heap.objs.size f cd cc :: outer
    fn := fun _ => false
    xe := fun e s' => wpAny (model P w) (A.deeper (PySem.W.ksEnv qual scope s.heap.objs.size f cd cc)) (leaving (PySem.W.ksEnv qual scope s.heap.objs.size f cd cc) e) (fun _ s'' => L2.CX P w outer H s E e s'') (fun e' s'' => L2.CX P w outer H s E e' s'') s' }
structure XScope (N ps : List Str) (sc : Scope) : Prop where
  kind : sc.kind = .function
  co : sc.isCoroutine = false
  gen : sc.isGenerator = false
  nd : N.Nodup
  pre : N.take ps.length = ps
  par : ∀ x ∈ ps, sc.names.lookup x = some .local
  vis : ∀ x ∈ N, x ∈ ps
  nocell : ∀ x ∈ sc.names, x.2 ≠ .cell
  free : ∀ x ∈ sc.names, x.2 = .free → x.1 = "__class__"
  hs : sc.names.lookup ("super" : Str) = some .globalImplicit
  hc : sc.names.lookup ("__class__" : Str) = some .free
structure XIni (P : Program) (K : Frg) (B i : String) (C f : Addr) (qual : Str) (params : Arguments) (body : List Stmt) (scope : Scope) (cc cda : Addr) (fd : FuncData) : Prop where
  lk : ∃ (oc : Value) (od : Option Addr) (name : Str) (dV kV doc pm : Value) (an : Option Addr) (ct : Value) (osl : Array (Option Value)), fd = PySem.W.ksFn name qual params body scope dV kV doc pm an (.ref cda) ct cc ∧ K.lookup f = some ⟨oc, od, .func fd, osl⟩
  cd : PySem.W.codeIn K (.ref cda) qual = true
  co : ∃ (ccl : Value) (cdd : Option Addr) (vs : Array Value) (ccs : Array (Option Value)) (file : Str) (tf : Tok), K.lookup cda = some ⟨ccl, cdd, .fields vs, ccs⟩ ∧ vs[2]? = some (.str file tf) ∧ ((P.main.file : Str) == file) = true
  ce : ∃ (cl : Value) (cld : Option Addr) (csl : Array (Option Value)), K.lookup cc = some ⟨cl, cld, .cell (some (.ref C)), csl⟩
  cls : ∃ cd, PySem.W.clsIn K C = some cd
  me : PySem.W.mroIn K C (.ref C) = some true
  up : PySem.W.ks_superIn K C C "__init__" = some (some (.builtin i))
  ve : PySem.W.subIn K (.ref C) (.type B) = some true
  th : PySem.W.nsIn K cStatics "thirdparty.any" = some none
theorem zip_rev {ps : List Str} {us : List Value} {i : Nat} {y : Str} {u : Value} (nd : ps.Nodup) (h1 : ps[i]? = some y) (h2 : us[i]? = some u) : (ps.zip us).reverse.lookup y = some u := by
  have hm : (y, u) ∈ (ps.zip us).reverse := List.mem_reverse.mpr (List.mem_of_getElem? (i := i) (by rw [List.getElem?_zip_eq_some]; exact ⟨h1, h2⟩))
  obtain ⟨v, hv⟩ := mem_lookup hm
  have hv2 := List.mem_reverse.mp (PySem.mem_of_lookup hv)
  obtain ⟨j, hj⟩ := List.getElem?_of_mem hv2
  obtain ⟨k1, k2⟩ := List.getElem?_zip_eq_some.mp hj
  have e : j = i := by
    obtain ⟨l1, e1⟩ := List.getElem?_eq_some_iff.mp k1
    obtain ⟨l2, e2⟩ := List.getElem?_eq_some_iff.mp h1
    exact (List.getElem_inj nd).mp (e1.trans e2.symm)
  subst e
  rw [h2] at k2
  rw [hv, k2]
section
variable {P : Program} {w : World} {K : Frg} {mg : Str → Option Value} {base : Heap} {N ps : List Str} {qual : Str} {scope : Scope} {f C cc cda : Addr} {cd : Value} {A : Around} {outer : List Env} {s : Shared} {H : Hp} {E : XK} {us : List Value} {vs : List V}
theorem xi_cells {x : Str} {c : Addr} (h : ([("__class__", cc)] : List (Str × Addr)).lookup x = some c) : x = "__class__" ∧ c = cc := by
  have := PySem.mem_of_lookup h
  rw [List.mem_singleton] at this
  cases this
  exact ⟨rfl, rfl⟩
theorem xi_start (S : XScope N ps scope) (hd : A.handled = none) (e0 : Env0 P w K mg base A outer s H) (hl : vs.length = ps.length) (r : Vals vs us) (hcc : ∃ o, base.get? cc = some o ∧ o.data = .cell (some (.ref C)))
    {h₀ : Heap} {tk : Nat} (hns : h₀.Ns s.heap.objs.size fun x => (ps.zip us).reverse.lookup x) (kp : ∀ b o, s.heap.get? b = some o → h₀.get? b = some o) :
    Inv (xiCx P w K mg base N qual scope f cd cc A outer s H E) [] (L2.start N vs) H { s with heap := h₀, toks := tk } := by
  have hpl : ps.length ≤ N.length := by have := congrArg List.length S.pre; rw [List.length_take] at this; omega
  obtain ⟨oc, hoc, hcd⟩ := hcc
  have hoc2 := e0.bs cc oc hoc
  have noA : ∀ b : Addr, b ∉ (xiCx P w K mg base N qual scope f cd cc A outer s H E).ex := fun b z => absurd (show b ∈ ([] : List Addr) from z) (by simp)
  refine ⟨⟨e0.mod, S.kind, rfl, rfl, Nat.le_refl _, fun y z c h1 h2 => ?_, fun y hy => ?_, fun y c h _ => Bool.noConfusion (show false = true from h), fun _ => hd, Around.frames_deeper e0.frames, .inr ⟨rfl, rfl⟩, fun b z => absurd z (noA b), e0.bs, e0.bsz, fun b _ _ => noA b, fun b z => absurd z (noA b), e0.funs, e0.frf⟩,
    rfl, e0.bare, Un.kept kp, ⟨_, hns, fun i y v h1 h2 h3 => ?_⟩, fun y c h => ⟨some (.ref C), ?_⟩, e0.hok.fresh (Nat.le_refl _), fun y c h => ?_, fun p hp => absurd (show p ∈ ([] : List (Addr × Obj)) from hp) (by simp), e0.hok.kept kp, ?_⟩
  · exact (xi_cells h1).1.trans (xi_cells h2).1.symm
  · have hy : scope.names.lookup y = some .cell ∨ scope.names.lookup y = some .free := hy
    rcases hy with hy | hy
    · exact absurd rfl (S.nocell _ (PySem.mem_of_lookup hy))
    · rw [show y = "__class__" from S.free _ (PySem.mem_of_lookup hy) rfl]
      exact ⟨cc, by first | rfl | decide +kernel⟩
  · have hi : i < vs.length := by
      rcases Nat.lt_or_ge i vs.length with hi | hi
      · exact hi
      · unfold L2.start at h2
        rw [List.getElem?_append_right (by simpa using hi), List.getElem?_replicate] at h2
        split at h2 <;> cases h2
    have ha : vs[i]? = some v := by
      unfold L2.start at h2
      rw [List.getElem?_append_left (by simpa using hi), List.getElem?_map] at h2
      cases e : vs[i]? with
      | none => rw [e] at h2; cases h2
      | some a => rw [e] at h2; cases h2; rfl
    obtain ⟨u, hu, rv⟩ := r.get ha
    have hp : ps[i]? = some y := by
      have h1 : N[i]? = some y := h1
      rw [← S.pre, List.getElem?_take_of_lt (by omega)]; exact h1
    have ndP : ps.Nodup := by rw [← S.pre]; exact S.nd.sublist (List.take_sublist _ _)
    exact ⟨u, rv, .inl ⟨S.par y (List.mem_of_getElem? hp), zip_rev ndP hp hu⟩⟩
  · rw [(xi_cells h).2]
    exact ⟨oc, kp _ _ hoc2.1, hcd⟩
  · rw [(xi_cells h).2]
    exact hoc2.2
  · unfold L2.start
    show _ = N.length
    rw [List.length_append, List.length_map, List.length_replicate]
    omega
def XCall (p0 p1 p2 p3 : Pos) (pl : Env → PySem.Sem Bool) : Prop := ∀ env : Env, eval (.Call (.Attribute (.Call (.Name "super" p0) [] [] p1) "__init__" p2) [] [] p3) env = (do
  let ov ← attributeBase (.Call (.Name "super" p0) [] [] p1) "__init__" env (eval (.Call (.Name "super" p0) [] [] p1) env)
  standAt p2.atName
  let (g, first) ← holding [ov] (getMethod ov "__init__" (pl env))
  callWith p3 g first (backTo p3 (starEach [] env)) [])
theorem boot_super : bootBuiltins "super" = some (.type "super") := by first | decide +kernel | kernel_rfl
theorem xi_super {σ : St} {s1 : Shared} {a : Addr} {body : List Stmt} {params : Arguments} {fd : FuncData} {ar : Arg} {p0 p1 p2 p3 : Pos} {Q : Value → Shared → Prop} (T : OexC K C) (Xi : XIni P K "ValueError" "ValueError.__init__" C f qual params body scope cc cda fd) (S : XScope N ps scope)
    (hpar : (params.posonlyargs ++ params.args).head? = some ar) (hN : N[0]? = some ar.arg) (hm : mg "super" = none) (htop : (P.main.scope.names.lookup ("super" : Str)).isSome = false)
    (I : Inv (xiCx P w K mg base N qual scope f (.ref cda) cc A outer s H E) [] σ H s1) (h0 : σ[0]? = some (some (.ref a))) (ea : H a = some (exo a C none)) {X : Value → Shared → Prop} {pl : Env → PySem.Sem Bool} (hev : XCall p0 p1 p2 p3 pl)
    (h : ∀ s2, Inv (xiCx P w K mg base N qual scope f (.ref cda) cc A outer s H E) [] σ H s2 → Q .none s2) :
    _root_.PySem.wpAt (model P w) (A.deeper (PySem.W.ksEnv qual scope s.heap.objs.size f (.ref cda) cc)) (.func body (PySem.W.ksEnv qual scope s.heap.objs.size f (.ref cda) cc)) (eval (.Call (.Attribute (.Call (.Name "super" p0) [] [] p1) "__init__" p2) [] [] p3) (PySem.W.ksEnv qual scope s.heap.objs.size f (.ref cda) cc)) Q X s1 := by
  obtain ⟨oc, od, name, dV, kV, doc, pm, an, ct, osl, rfl, lk⟩ := Xi.lk
  obtain ⟨ccl, cdd, vs, ccs, file, tf, lkc, hvs, hfile⟩ := Xi.co
  obtain ⟨cl, cld, csl, lke⟩ := Xi.ce
  obtain ⟨cd, hcd⟩ := Xi.cls
  obtain ⟨nm, q, NN, bs, bm, sn, sub, ab, col, dd, k0, k1, k2, k3, k5, hC, hbm⟩ := T.cls
  have hsup : PySem.W.alongIn K "__init__" ((cd.mro.dropWhile (· != .ref C)).drop 1) = some (some (.builtin "ValueError.__init__")) := by
    have u := Xi.up
    unfold PySem.W.ks_superIn at u
    rw [hcd] at u
    exact u
  have kin := I.kIn
  obtain ⟨t1, hx⟩ := exo_at I.hok ea
  obtain ⟨mb, hblt, hbb⟩ := I.mod.blt
  obtain ⟨m, hns, hloc⟩ := I.loc
  have hpar0 : ar.arg ∈ ps := S.vis _ (List.mem_of_getElem? hN)
  have hla := S.par _ hpar0
  obtain ⟨u, ru, lo⟩ := hloc 0 ar.arg (.ref a) hN h0 (.inl hla)
  obtain rfl : u = Value.ref a := ru
  have hv : m ar.arg = some (.ref a) := by
    rcases lo with ⟨_, z⟩ | ⟨z, _⟩
    · exact z
    · have z : scope.names.lookup ar.arg = some .cell ∨ scope.names.lookup ar.arg = some .free := z
      rcases z with z | z <;> rw [hla] at z <;> cases z
  obtain ⟨oD, hD1, hD2⟩ : ∃ oD, s1.heap.get? C = some oD ∧ oD.data = .cls cd := by
    unfold PySem.W.clsIn at hcd
    split at hcd
    · rename_i c d cd' sl ho
      cases hcd
      exact ⟨_, kin _ _ ho, rfl⟩
    · cases hcd
  refine ks_wpAt_MethodCall ?_ (hev _)
  refine ks_wpAt_super_base (env := PySem.W.ksEnv qual scope s.heap.objs.size f (.ref cda) cc) S.hs S.hc (by decide) rfl (kin _ _ lk) rfl hpar rfl (kin _ _ lkc) rfl hvs hfile htop ?_
  refine PySem.W.ks_loadName_global S.kind S.hs (PySem.Calls.loadGlobal_builtin (env := PySem.W.ksEnv qual scope s.heap.objs.size f (.ref cda) cc) (I.mod.glob.keeps I.bk) hm (hblt.keeps I.bk) ((hbb _ (by decide)).trans boot_super) ⟨rfl, ?_⟩)
  refine wpAny_loadName_free S.kind S.hc (by first | rfl | decide +kernel) ⟨_, kin _ _ lke, rfl⟩ ?_
  refine wpAny_loadName_local S.kind hla hns hv ?_
  refine ks_wpAny_isType_cls hD1 hD2 ⟨rfl, ?_⟩
  obtain ⟨hp, g, d, t, os⟩ := s1
  refine ks_wpAny_call_super hD1 hD2 hx rfl (fun c z => nomatch z) (PySem.W.looks_mroIn kin Xi.me) (fun h2 hso k => ?_)
  have I2 := I.kept (t' := t) k
  have kin2 := I2.kIn
  have hx2 := k _ _ hx
  have J : PySem.W.InstAt h2 a (PySem.W.excObj C t1 none .none) C none := ⟨hx2, rfl, rfl, trivial⟩
  refine PySem.W.kxs_getMethod PySem.W.kxs_ValueError hso (PySem.W.looks_opaque kin2 Xi.th) (l₀ := cd.mro) (fun A Q E s k q => wpAny_bind ((PySem.W.looks_clsIn kin2 hcd) A _ E s k (wpAny_pure q))) rfl kin2 hsup (J.type.andThen (PySem.W.looks_subIn kin2 Xi.ve)) (PySem.W.ks_ne kin2 J hcd) (by decide) ?_
  have k3 : ∀ b o, h2.get? b = some o → (h2.push (PySem.W.kxs_mw "ValueError.__init__" a)).get? b = some o := fun b o e => Heap.get?_push_of_some _ e
  have I3 := I2.kept (t' := t + 1) k3
  have hu : (h2.push (PySem.W.kxs_mw "ValueError.__init__" a)).get? h2.objs.size = some (PySem.W.kxs_mw "ValueError.__init__" a) := Heap.get?_push_at rfl rfl
  refine PySem.W.kxs_callWith (i := "ValueError.__init__") (x := a) rfl (evalArgs_empty ⟨hu, ?_⟩)
  have he := k3 _ _ hx2
  have hC3 := I3.kIn _ _ hC
  refine wpAny_call (codeAny_of_tree ?_)
  show wpAny _ _ (callAny (.ref h2.objs.size) ⟨[], []⟩) _ _ _
  simp only [callAny]
  refine wpAny_bind (wpAny_load hu ?_)
  simp only [PySem.W.kxs_mw, show (Value.type "method-wrapper" == Value.type "method" || Value.type "method-wrapper" == Value.type "builtin_function_or_method" || Value.type "method-wrapper" == Value.type "method-wrapper") = true by decide, if_true]
  refine PySem.W.KFB.if_so (by decide) ?_
  refine wpAny_bind (PySem.W.check_bound_init F.excBase_ValueError.toExcCallFacts hC3 he rfl ?_)
  refine wpAny_bind (wpAny_pure (wpAny_pure ?_))
  refine ⟨plainId_quiet F.excBase_ValueError.init.plain _, codeAny_builtin F.excBase_ValueError.initEntry ?_⟩
  refine PySem.W.exc_init_tree (cls := .ref C) (t0 := t1) (dv := none) (c2 := .none) (c3 := .none) (b4 := .bool false) he (Nat.zero_le _) fun h4 k4 e4 _ => ?_
  have J4 := I3.write (t' := t + 1) (x := a) (e := a) (o := exo a C none) (by rw [ea]; exact True.intro) (.inl rfl) (fun b u hb e => k4 b u hb e) ⟨_, e4⟩ (exo_ok e4)
  have eu : upd H a (exo a C none) = H := by
    funext b
    by_cases hb : b = a
    · rw [hb, upd_same, ea]
    · rw [upd_ne hb]
  rw [eu] at J4
  exact h _ J4
theorem fn_xinit {k : Nat} {sp : Sp} {params : Arguments} {fd : FuncData} {ar : Arg} {p0 p1 p2 p3 p4 : Pos} {rest : List Stmt} {t : TS} {pl : Env → PySem.Sem Bool} (T : OexC K C) (Xi : XIni P K "ValueError" "ValueError.__init__" C f qual params (.Expr (.Call (.Attribute (.Call (.Name "super" p0) [] [] p1) "__init__" p2) [] [] p3) p4 :: rest) scope cc cda fd) (S : XScope N ps scope)
    (hpar : (params.posonlyargs ++ params.args).head? = some ar) (hN : N[0]? = some ar.arg) (hm : mg "super" = none) (htop : (P.main.scope.names.lookup ("super" : Str)).isSome = false) (hev : XCall p0 p1 p2 p3 pl) (hsw : ∀ env : Env, swapsWith (.Call (.Attribute (.Call (.Name "super" p0) [] [] p1) "__init__" p2) [] [] p3) none p4.line env = pure false)
    (hrest : ∀ (A : Around) (outer : List Env) (s : Shared) (H : Hp) (E : XK), PSs (xiCx P w K mg base N qual scope f (.ref cda) cc A outer s H E) rest t) (hl : ∀ vs H Q E, sp vs H Q E → vs.length = ps.length)
    (hsp : ∀ vs H Q E, sp vs H Q E → ∃ a ws, vs = .ref a :: ws ∧ H a = some (exo a C none) ∧ t { nx := fun _ H' => Q .non H', rt := Q } (L2.start N vs) H) : FnOk P w K mg base (L2.CX P w) (k + 1) f fd ps sp := by
  refine ⟨hl, fun A outer s H args us vs Q E hr e0 hb r h => ?_⟩
  obtain ⟨a, ws, rfl, ea, ht⟩ := hsp _ _ _ _ h
  have hlen := hl _ _ _ _ h
  have kin : K.In s.heap := e0.mod.kin.keeps fun b o e => (e0.bs b o e).1
  have lim : s.heap.NoLimit := e0.mod.nolimit.keeps fun b o e => (e0.bs b o e).1
  have Xi2 := Xi
  obtain ⟨oc, od, name, dV, kV, doc, pm, an, ct, osl, rfl, lk⟩ := Xi.lk
  obtain ⟨cl, cld, csl, lke⟩ := Xi.ce
  refine ks_codeAny_call_defAt hr.depth (kin _ _ lk) rfl lim (PySem.W.codeRec_of kin Xi.cd) rfl hb S.nocell (fun ⟨n, v⟩ hy => S.par n (List.of_mem_zip hy).1) (fun h₀ hns kp => ?_) S.co S.gen S.kind
  have I : Inv (xiCx P w K mg base N qual scope f (.ref cda) cc A outer s H E) [] (L2.start N (.ref a :: ws)) H ⟨h₀, s.gens, s.drawn, s.toks + (ps.zip us).length, s.os⟩ :=
    xi_start S hr.hd e0 hlen r ⟨_, e0.mod.kin _ _ lke, rfl⟩ hns kp
  have h0 : (L2.start N (V.ref a :: ws))[0]? = some (some (.ref a)) := by
    unfold L2.start
    rw [List.getElem?_append_left (by simp)]
    rfl
  refine ks_wpAt_execs_cons (ks_wpAt_Expr_any (xi_super T Xi2 S hpar hN hm htop I h0 ea hev fun s2 I2 => ?_) (by
    show (scope.kind == .module && _) = false
    rw [S.kind]; rfl) (hsw _))
  refine wpAt_of_wpAny (wpAny_mono ((hrest A outer s H E).run [] s2 (L2.start N (.ref a :: ws)) H _ I2 ht) (fun fl s' hs => ?_) fun e s' hs => hs)
  have fin : ∀ {σ' : St} {H' : Hp} {v : V} {u : Value}, Inv (xiCx P w K mg base N qual scope f (.ref cda) cc A outer s H E) [] σ' H' s' → RelV v u → Q v H' → CE outer P w H s Q u s' :=
    fun {σ' H' v u} J rv q => ⟨v, H', J.os, J.bare, J.base, J.hok, rv, q⟩
  match fl, hs with
  | .ret u, ⟨v, σ', H', J, rv, q⟩ => exact fin J rv q
  | .next, ⟨σ', H', J, q⟩ => exact fin (v := V.non) (u := Value.none) J rfl q
  | .brk, ⟨_, _, _, q⟩ => exact False.elim q
  | .cont, ⟨_, _, _, q⟩ => exact False.elim q
def spXi (C : Addr) (n : Str) : Sp := fun vs H Q _ => ∃ a x, vs = [.ref a, x] ∧ H a = some (exo a C none) ∧ ∀ d, H d = none → d ≠ a → Q .non (upd (upd H d (exd d [(n, x)])) a (exo a C (some d)))
theorem fn_xinit1 {k : Nat} {params : Arguments} {fd : FuncData} {ar : Arg} {p0 p1 p2 p3 p4 q1 q2 q3 q4 : Pos} {self x n : Str} {pl : Env → PySem.Sem Bool} (T : OexC K C)
    (Xi : XIni P K "ValueError" "ValueError.__init__" C f qual params [.Expr (.Call (.Attribute (.Call (.Name "super" p0) [] [] p1) "__init__" p2) [] [] p3) p4, .Assign [.Attribute (.Name self q1) n q2] (.Name x q3) q4] scope cc cda fd) (S : XScope [self, x] [self, x] scope)
    (hpar : (params.posonlyargs ++ params.args).head? = some ar) (har : ar.arg = self) (hm : mg "super" = none) (htop : (P.main.scope.names.lookup ("super" : Str)).isSome = false) (hev : XCall p0 p1 p2 p3 pl) (hsw0 : ∀ env : Env, swapsWith (.Call (.Attribute (.Call (.Name "super" p0) [] [] p1) "__init__" p2) [] [] p3) none p4.line env = pure false) (hno : PySem.W.findIn K (.ref C) n = some none)
    (hsw : ∀ env : Env, swapsWith (.Name x q3) (some (.Attribute (.Name self q1) n q2)) q4.line env = pure false)
    (d1 : (self == ("__debug__" : Str)) = false) (d2 : (self == ("__classdict__" : Str)) = false) (d3 : (x == ("__debug__" : Str)) = false) (d4 : (x == ("__classdict__" : Str)) = false) : FnOk P w K mg base (L2.CX P w) (k + 1) f fd [self, x] (spXi C n) := by
  refine fn_xinit (N := [self, x]) T Xi S hpar (by rw [har]; rfl) hm htop hev hsw0 (t := tOst K n (tVar 0) (tVar 1)) (fun A outer s H E => pss_one (ps_ost (X := xiCx P w K mg base [self, x] qual scope f (.ref cda) cc A outer s H E) (pe_var (i := 0) rfl (.inl (S.par self (by simp))) d1 d2) (pe_var (i := 1) rfl (.inl (S.par x (by simp))) d3 d4) (hsw _))) (fun vs H Q E ⟨a, y, e, _⟩ => by rw [e]; rfl) fun vs H Q E ⟨a, y, e, ea, q⟩ => ?_
  subst e
  refine ⟨a, [y], rfl, ea, y, rfl, .ref a, rfl, a, C, rfl, T, hno, .inl ⟨ea, fun d hd ne => ?_⟩⟩
  exact q d hd ne
end
end FL

set_option Elab.async false
set_option linter.all false
set_option maxRecDepth 100000
set_option maxHeartbeats 4000000
namespace FL
open PySem PySem.Spec PyProof.Rows L2
variable [Wrl] [Tabl]
variable {X : Cx} {W : WX} {e : Expr} {pos pos' p : Pos} {u : AF}
def raiK (c n : Str) (r : Option (List D × En)) : O Fl := match r with
  | some ([d], Γ) => .exc c [n] [d] Γ
  | _ => .fail
def raiseS (c n : Str) (u : AF) : SF := fun Γ => (u Γ).bind fun es Γ1 => raiK c n (frzs es Γ1)
theorem made_heap {H1 : Hp} {a d C : Addr} {e0 : HO} {fs : List (Str × V)} (hn : H1 a = none) (ne : d ≠ a) : upd (del (upd (upd (upd H1 a e0) d (exd d fs)) a (exo a C (some d))) a) d (.xd fs) = upd H1 d (.xd fs) := by
  funext b
  by_cases h1 : b = d
  · rw [h1, upd_same, upd_same]
  · rw [upd_ne h1, upd_ne h1]
    by_cases h2 : b = a
    · rw [h2, del_same, hn]
    · rw [del_ne h2, upd_ne h2, upd_ne h1, upd_ne h2]
theorem fs_raise {k : Nat} {c n x : Str} {fI : Addr} {fd : FuncData} {ps : List Str} (hc : X.calm = true) (tk : Takes X W) (T : OexC X.K (He.ga X.K c)) (iC : PySem.W.findIn X.K (.ref (He.ga X.K c)) "__init__" = some (some (.ref fI))) (tI : PySem.W.typeIn X.K (.ref fI) = some (.type "function"))
    (F1 : FnOk X.prog X.w X.K X.mg X.base (L2.CX X.prog X.w) k fI fd ps (spXi (He.ga X.K c) n)) (hb : Binds X.K fd ps []) (hm : X.mg x = some (.ref (He.ga X.K c))) (hr : Room (k + 1) X.A) (ha : FA X W [e] u)
    (hg : Gl X x := by rfl) (hdb : (x == ("__debug__" : Str)) = false := by decide) (he : starEach [e] X.env = (false, eval e X.env) :: starEach [] X.env := by rfl) (hpl : (backTo pos (starEach [] X.env)).any (·.1) = false := by rfl) :
    FS X W (.Raise (some (.Call (.Name x p) [e] [] pos)) none pos') (raiseS c n u) := by
  obtain ⟨t, pt, s⟩ := ha
  refine ⟨_, ps_raise hc tk (pmk_oex (CX := L2.CX X.prog X.w) (sp := spXi (He.ga X.K c) n) (ds := []) (dvs := []) T iC tI F1 hr hb .nil L2.passL hg hm pt hdb he hpl), fun F Γ σ H G R => ?_⟩
  refine OutS.bind (T' := fun (vs : List V) (H1 : Hp) (D : Ends) => vs.length ≤ 1000 ∧ ∀ a, H1 a = none → spXi (He.ga X.K c) n (.ref a :: (vs ++ [])) (upd H1 a (exo a (He.ga X.K c) none))
    (fun v H2 => v = .non ∧ ∃ (d : Addr) (fs : List (Str × V)), H2 a = some (exo a (He.ga X.K c) (some d)) ∧ H2 d = some (exd d fs) ∧ H1 d = none ∧ W (.ref (He.ga X.K c)) (some d) σ (upd (del H2 a) d (.xd fs))) (fun _ _ _ => False)) (s F Γ σ H G R) fun es Γ1 vs H1 G1 R1 _ rs => ?_
  unfold raiK
  split
  · rename_i d Γ2 ef
    obtain ⟨G2, R2, le, rp⟩ := R1.frzs rs ef
    obtain ⟨v, r, ev, r1, er⟩ := rp
    obtain rfl : r = [] := er
    subst ev
    refine fun D q => ⟨by simp, fun a ha => ⟨a, v, rfl, upd_same, fun dx hdx ne => ⟨rfl, dx, [(n, v)], upd_same, by rw [upd_ne ne]; exact upd_same, ?_, ?_⟩⟩⟩
    · rw [upd_ne ne] at hdx; exact hdx
    · have hd1 : H1 dx = none := by rw [upd_ne ne] at hdx; exact hdx
      rw [made_heap ha ne]
      exact q _ _ σ _ _ (R2.new (o := .xd [(n, v)]) hd1) (le.trans (Le.upd (R2.gNone hd1))) ⟨rfl, [(n, v)], rfl, ⟨v, [], rfl, Rep.le (Le.upd (R2.gNone hd1)) d v r1, rfl⟩, .inr ⟨dx, rfl, upd_same⟩⟩
  · trivial
end FL

set_option Elab.async false
set_option linter.all false
set_option maxRecDepth 100000
set_option maxHeartbeats 4000000
namespace FL
open PySem PySem.Spec PyProof.Rows L2
end FL

set_option Elab.async false
set_option linter.all false
set_option maxRecDepth 100000
set_option maxHeartbeats 4000000
namespace FL
open PySem PySem.Spec PyProof.Rows L2
section
variable [Wrl] [Tabl]
variable {X : Cx} {W : WX} {e a b o : Expr} {f fo fa : EF} {pos apos p : Pos}
theorem xd_look {K : Frg} {G : Hp} {f : Str} {d : D} : ∀ {ns : List Str} {fs : List D} {fv : List (Str × V)}, fv.map (·.1) = ns → Reps K G fs (fv.map (·.2)) → fldOf f ns fs = some d → ∃ v, fv.lookup f = some v ∧ Rep K G d v
  | [], _, _, _, _, h => by cases h
  | _ :: _, [], _, _, _, h => by cases h
  | n :: ns, d0 :: fs, [], h, _, _ => by cases h
  | n :: ns, d0 :: fs, (m, w) :: fv, h, ⟨v, r, e, h1, h2⟩, h3 => by
    obtain ⟨rfl, hq⟩ := List.cons.inj (show m :: fv.map (·.1) = n :: ns from h)
    obtain ⟨rfl, rfl⟩ := List.cons.inj (show w :: fv.map (·.2) = v :: r from e)
    unfold fldOf at h3
    by_cases hm : m = f
    · rw [if_pos hm] at h3
      cases h3
      subst hm
      exact ⟨w, by simp [List.lookup], h1⟩
    · rw [if_neg hm] at h3
      have h3 : fldOf f ns fs = some d := h3
      obtain ⟨v, e1, e2⟩ := xd_look hq h2 h3
      have hb : (f == m) = false := by
        rw [beq_eq_false_iff_ne]
        exact fun z => hm z.symm
      exact ⟨v, by rw [List.lookup_cons, hb]; exact e1, e2⟩
def xfK (a dd : Addr) (c n : Str) (ev : EV) (Γ : En) : O EV := match ev with
  | .d (.exn a' dd' c' ns fs) => if a' = a ∧ dd' = dd ∧ c' = c then (match fldOf n ns fs with
    | some d => .ok (.d d) Γ
    | none => .fail) else .fail
  | _ => .fail
def xfE (a dd : Addr) (c n : Str) (f : EF) : EF := fun Γ => (f Γ).bind (xfK a dd c n)
theorem fe_xf {at_ dd : Addr} {c n : Str} {oe : Obj} {pn : List (Addr × Obj)} (T : XfC X.K (He.ga X.K c)) (hno : PySem.W.findIn X.K (.ref (He.ga X.K c)) n = some none) (hz : Zc (.ref (He.ga X.K c)) (some dd) oe) (hf : ∃ vs, oe.data = .fields vs)
    (ha : FE (X.suite at_ ((at_, oe) :: pn)) W e f) (hb : attributeBase e n X.env (eval e X.env) = eval e X.env := by rfl) : FE (X.suite at_ ((at_, oe) :: pn)) W (.Attribute e n pos) (xfE at_ dd c n f) := by
  obtain ⟨t, p1, s1⟩ := ha
  refine ⟨_, pe_xf T hno hz hf p1 hb, Sem.bind (T := fun x σ H1 Q => x = .ref at_ ∧ Value.ref (He.ga X.K c) = .ref (He.ga X.K c) ∧ ∃ (dd' : Addr) (fs : List (Str × V)) (v : V), some dd = some dd' ∧ H1 dd' = some (.xd fs) ∧ fs.lookup n = some v ∧ Q v H1) s1 fun F Γ σ H G ev w R r => ?_⟩
  unfold xfK
  split
  · rename_i a' dd' c' ns fs
    split
    · rename_i h
      obtain ⟨rfl, rfl, rfl⟩ := h
      split
      · rename_i d hd
        have r : w = .ref a' ∧ ∃ fv : List (Str × V), G dd' = some (.xd fv) ∧ fv.map (·.1) = ns ∧ Reps X.K G fs (fv.map (·.2)) := r
        obtain ⟨rfl, fv, hG, hns, hr⟩ := r
        obtain ⟨v, e1, e2⟩ := xd_look hns hr hd
        exact fun Q q => ⟨rfl, rfl, _, fv, v, rfl, R.gh _ _ hG, e1, q _ _ _ R (Le.refl G) e2⟩
      · trivial
    · trivial
  · trivial
end
end FL

set_option Elab.async false
set_option linter.all false
set_option maxRecDepth 100000
set_option maxHeartbeats 4000000
namespace L2H
open PySem PySem.Spec PyProof.Rows L2
theorem RoomH.units {k : Nat} {A : Around} (r : RoomH k A) : A.units + 64 < cLine := by have := r.un; omega
theorem RoomH.u65 {k : Nat} {A : Around} (r : RoomH k A) : A.units + 65 < cLine := by have := r.un; omega
end L2H
namespace FL
open PySem PySem.Spec PyProof.Rows L2
variable [Wrl] [Tabl]
structure FnE (P : Program) (w : World) (K : Frg) (mg : Str → Option Value) (base : Heap) (k : Nat) (f : Addr) (fd : FuncData) (ps : List Str) (cs : List Str) (Fn : Addr → Addr → Str → DFn) : Prop where
  run : ∀ (A : Around) (outer : List Env) (s : Shared) (H : Hp) (args : Args) (us : List Value) (vs : List V) (Q : VK) (a dd : Addr) (c : Str) (oe : Obj), L2H.RoomH k A → A.handled = some (.ref a) → A.guards = some [] → L2H.PinOk outer H s (a, oe) →
    Zc (.ref (He.ga K c)) (some dd) oe → (∃ vs, oe.data = .fields vs) → c ∈ cs → Env0 P w K mg base A outer s H → BindsTo s fd args (ps.zip us) → Vals vs us → spL K ps none (Fn a dd c) vs H Q (fun _ _ _ => False) →
    codeAny (model P w) A (.call (.ref f) args) (CR (L2.CX P w) outer P w H s Q fun _ _ _ => False) s
end FL

set_option Elab.async false
set_option linter.all false
set_option maxRecDepth 100000
set_option maxHeartbeats 4000000
namespace FL
open PySem PySem.Spec PyProof.Rows L2
variable [Wrl] [Tabl]
section
variable {X : Cx} {W : WX} {x a v1 n er x1 x2 qg : Str} {g fe C1 C2 c P : Addr} {k : Nat} {pg : Arguments} {bg : List Stmt} {sg : Scope} {fd fde : FuncData} {ps cs : List Str} {Fn : Addr → Addr → Str → DFn} {told : Str} {params : Arguments} {body : Expr} {scope : Scope} {fb : EF} {p lpos pos : Pos}
  
abbrev saidB (a v1 n er x1 x2 told : Str) (q1 q2 q3 q4 q5 q6 q7 q8 q9 q10 q11 q12 q13 r1 r2 r3 r4 r5 r6 : Pos) (k1 j1 : Nat) : List Stmt :=
  [.Try [.Assign [.Name v1 q1] (.Call (.Name a q2) [] [] q3) q4] [.ExceptHandler (some (.Tuple [.Name x1 q5, .Name x2 q6] k1 q7)) (some n) [.Return (some (.Call (.Name er q8) [.Name n q9] [] q10)) q11] q12] [] [] q13,
    .Return (some (.List [.Constant (.str told) j1 r1, .Call (.Name "repr" r2) [.Name v1 r3] [] r4] r5)) r6]
structure SaidOk (Pr : Program) (w : World) (K : Frg) (mg : Str → Option Value) (base : Heap) (x a v1 n er x1 x2 qg told : Str) (g fe C1 C2 : Addr) (k : Nat) (pg : Arguments) (bg : List Stmt) (sg : Scope) (fd fde : FuncData) (ps cs : List Str) (Fn : Addr → Addr → Str → DFn) : Prop where
  tx : ∃ q1 q2 q3 q4 q5 q6 q7 q8 q9 q10 q11 q12 q13 r1 r2 r3 r4 r5 r6 k1 j1, bg = saidB a v1 n er x1 x2 told q1 q2 q3 q4 q5 q6 q7 q8 q9 q10 q11 q12 q13 r1 r2 r3 r4 r5 r6 k1 j1 ∧ ∀ env : Env, swapsWith (.Call (.Name a q2) [] [] q3) (some (.Name v1 q1)) q4.line env = pure false
  fd_ : FunD K x qg pg bg sg [] [] g fd
  sc : FnScope [a, v1, n] [a] sg
  bd : L2.Binds K fd [a] []
  fe_ : FnE Pr w K mg base k fe fde ps cs Fn
  be : L2.Binds K fde ps []
  ke : PySem.W.keepIn K (.ref fe) = true
  l0 : sg.names.lookup a = some .local
  l1 : sg.names.lookup v1 = some .local
  l2 : sg.names.lookup n = some .local
  g1 : sg.names.lookup x1 = some .globalImplicit
  g2 : sg.names.lookup x2 = some .globalImplicit
  ge : sg.names.lookup er = some .globalImplicit
  gr : sg.names.lookup ("repr" : Str) = some .globalImplicit
  m1 : mg x1 = some (.ref C1)
  m2 : mg x2 = some (.ref C2)
  me : mg er = some (.ref fe)
  mr : mg "repr" = none
  db : ∀ y ∈ [a, v1, n, x1, x2, er], (y == ("__debug__" : Str)) = false ∧ (y == ("__classdict__" : Str)) = false
end
section
variable {X : Cx} {W : WX} {x a v1 n er x1 x2 qg : Str} {g fe C1 C2 c P : Addr} {k : Nat} {pg : Arguments} {bg : List Stmt} {sg : Scope} {fd fde : FuncData} {ps cs : List Str} {Fn : Addr → Addr → Str → DFn} {told : Str} {params : Arguments} {body : Expr} {scope : Scope} {fb : EF} {p lpos pos : Pos}
  {ef : Str → List Str → List D → Option OD}
end
end FL

set_option Elab.async false
set_option linter.all false
set_option maxRecDepth 100000
set_option maxHeartbeats 4000000
namespace FL
open PySem PySem.Spec PyProof.Rows L2
def oexC (K : Frg) (C : Addr) : Bool := match K.lookup C with
  | some ⟨.type "type", _, .cls cd, sl⟩ => (match cd.mro, sl.toList with
    | .ref C' :: bm, [_, _, _, _, some (.builtin n), _] => C' == C && (n == "ValueError.__new__" && (!cd.hasDel && (cd.hasDict && PySem.HandSPX.refsVE bm)))
    | _, _ => false)
  | _ => false
theorem oexC_ok {K : Frg} {C : Addr} (q : oexC K C = true) : ∃ nm q N bs bm sn sub ab col dd k0 k1 k2 k3 k5, K.lookup C = some (excClassObj nm q C N bs bm true sn sub ab col dd k0 k1 k2 k3 k5 "ValueError.__new__") ∧ PySem.HandSPX.refsVE bm = true := by
  unfold oexC at q
  split at q
  · rename_i dd cd sl ho
    split at q
    · rename_i C' bm k0 k1 k2 k3 n k5 hm hs
      simp only [Bool.and_eq_true, beq_iff_eq, Bool.not_eq_true'] at q
      obtain ⟨rfl, rfl, hdel, hdict, hv⟩ := q
      obtain ⟨nm, bs, mro, ns, qn, hd, sn, sub, ab, col, del⟩ := cd
      dsimp only at hm hdel hdict
      subst hm hdel hdict
      obtain ⟨l⟩ := sl
      simp only at hs
      subst hs
      exact ⟨nm, qn, ns, bs, bm, sn, sub, ab, col, dd, k0, k1, k2, k3, k5, ho, hv⟩
    · cases q
  · cases q
def oexB (K : Frg) (c : Str) : Bool := oexC K (He.ga K c) && (decide (PySem.W.findIn K (.ref (He.ga K c)) "__setattr__" = some (some (.builtin "object.__setattr__"))) && (decide (PySem.W.subIn K (.ref (He.ga K c)) (.type "BaseException") = some true) &&
  (decide (PySem.W.typeIn K (.ref (He.ga K c)) = some (.type "type")) && PySem.W.keepIn K (.ref (He.ga K c)))))
theorem oexB_ok {K : Frg} {c : Str} (h : oexB K c = true) : OexC K (He.ga K c) := by
  obtain ⟨h1, h⟩ := He.ba h
  obtain ⟨h2, h⟩ := He.ba h
  obtain ⟨h3, h⟩ := He.ba h
  obtain ⟨h4, h5⟩ := He.ba h
  exact ⟨oexC_ok h1, of_decide_eq_true h2, of_decide_eq_true h3, of_decide_eq_true h4, h5⟩
def excB (K : Frg) (c : Str) : Bool := xfB K (He.ga K c) && (decide (PySem.W.findIn K (.ref (He.ga K c)) "__class__" = some (some (.builtin "object.__class__"))) && (decide (PySem.W.specialIn K (.builtin "object.__class__") "__get__" = some (some (.builtin "getset_descriptor.__get__"))) &&
  (decide (PySem.W.takesIn K (.builtin "object.__class__") = some true) && decide (PySem.W.mroIn K (He.ga K c) (.type "object") = some true))))
theorem excB_ok {K : Frg} {c : Str} (h : excB K c = true) : ExcC K (He.ga K c) ∧ XfC K (He.ga K c) := by
  obtain ⟨h1, h⟩ := He.ba h
  obtain ⟨h2, h⟩ := He.ba h
  obtain ⟨h3, h⟩ := He.ba h
  obtain ⟨h4, h5⟩ := He.ba h
  have x := xfB_ok h1
  exact ⟨⟨x.ga, x.gg, x.exC, x.hdC, of_decide_eq_true h2, of_decide_eq_true h3, of_decide_eq_true h4, of_decide_eq_true h5⟩, x⟩
structure ErrD where
  c : Str
  n : Str
  name : Str
  qual : Str
  params : Arguments
  body : List Stmt
  scope : Scope
def ErrD.at_ (e : ErrD) (K : Frg) : Addr := He.ma K (He.ga K e.c) "__init__"
def ErrD.val (e : ErrD) : He.FnW := some (e.name, e.qual, e.params, .stmts e.body, e.scope, mainGlobals, [("__class__", 0)], builtinsNs)
def fnE (K : Frg) (a : Addr) : He.FnW := match K.lookup a with
  | some ⟨_, _, .func fd, _⟩ => some (fd.name, fd.qualname, fd.params, fd.body, fd.scope, fd.globals, fd.closure.map fun p => (p.1, 0), fd.builtins)
  | _ => none
def cdA (K : Frg) (f : Addr) : Addr := match cdOf K f with
  | .ref c => c
  | _ => 0
def clA : List (Str × Addr) → Addr
  | [(_, c)] => c
  | _ => 0
def ccA (K : Frg) (f : Addr) : Addr := match K.lookup f with
  | some ⟨_, _, .func fd, _⟩ => clA fd.closure
  | _ => 0
def tbA (K : Frg) (c : Addr) : Addr := match K.lookup c with
  | some ⟨_, _, .fields vs, _⟩ => (match (vs[11]? : Option Value) with
    | some (.ref P) => P
    | _ => 0)
  | _ => 0
def fileB (K : Frg) (file : Str) (c : Addr) : Bool := match K.lookup c with
  | some ⟨_, _, .fields vs, _⟩ => (match (vs[2]? : Option Value) with
    | some (.str f _) => (file : Str) == f
    | _ => false)
  | _ => false
def cellB (K : Frg) (cc C : Addr) : Bool := match K.lookup cc with
  | some ⟨_, _, .cell (some (.ref D)), _⟩ => D == C
  | _ => false
def dfN (K : Frg) (f : Addr) : Bool := match K.lookup f with
  | some ⟨_, _, .func fd, _⟩ => decide (fd.defaults = .none)
  | _ => false
def xinB (file : Str) (K : Frg) (e : ErrD) : Bool :=
  decide (cdOf K (e.at_ K) = .ref (cdA K (e.at_ K))) && (PySem.W.codeIn K (.ref (cdA K (e.at_ K))) e.qual && (fileB K file (cdA K (e.at_ K)) && (cellB K (ccA K (e.at_ K)) (He.ga K e.c) && ((PySem.W.clsIn K (He.ga K e.c)).isSome && (decide (PySem.W.mroIn K (He.ga K e.c) (.ref (He.ga K e.c)) = some true) &&
  (decide (PySem.W.ks_superIn K (He.ga K e.c) (He.ga K e.c) "__init__" = some (some (.builtin "ValueError.__init__"))) && (decide (PySem.W.subIn K (.ref (He.ga K e.c)) (.type "ValueError") = some true) && (decide (PySem.W.nsIn K cStatics "thirdparty.any" = some none) &&
  (decide (PySem.W.findIn K (.ref (He.ga K e.c)) e.n = some none) && (decide (PySem.W.findIn K (.ref (He.ga K e.c)) "__init__" = some (some (.ref (e.at_ K)))) && decide (PySem.W.typeIn K (.ref (e.at_ K)) = some (.type "function")))))))))))) && (oexB K e.c && dfN K (e.at_ K))
structure ErrOk (file : Str) (K : Frg) (e : ErrD) (fd : FuncData) : Prop where
  T : OexC K (He.ga K e.c)
  xi : ∀ P : Program, ((P.main.file : Str) == file) = true → XIni P K "ValueError" "ValueError.__init__" (He.ga K e.c) (e.at_ K) e.qual e.params e.body e.scope (ccA K (e.at_ K)) (cdA K (e.at_ K)) fd
  no : PySem.W.findIn K (.ref (He.ga K e.c)) e.n = some none
  iC : PySem.W.findIn K (.ref (He.ga K e.c)) "__init__" = some (some (.ref (e.at_ K)))
  tI : PySem.W.typeIn K (.ref (e.at_ K)) = some (.type "function")
  fm : ∃ (kV doc pm : Value) (an : Option Addr) (ct : Value), fd = PySem.W.ksFn e.name e.qual e.params e.body e.scope .none kV doc pm an (.ref (cdA K (e.at_ K))) ct (ccA K (e.at_ K))
theorem errOk_of {file : Str} {K : Frg} {e : ErrD} (hv : fnE K (e.at_ K) = e.val) (hb : xinB file K e = true) : ErrOk file K e (fdOf K (e.at_ K)) := by
  obtain ⟨hb, b0⟩ := He.ba hb
  obtain ⟨b0, bd⟩ := He.ba b0
  obtain ⟨b1, hb⟩ := He.ba hb
  obtain ⟨b2, hb⟩ := He.ba hb
  obtain ⟨b3, hb⟩ := He.ba hb
  obtain ⟨b4, hb⟩ := He.ba hb
  obtain ⟨b5, hb⟩ := He.ba hb
  obtain ⟨b6, hb⟩ := He.ba hb
  obtain ⟨b7, hb⟩ := He.ba hb
  obtain ⟨b8, hb⟩ := He.ba hb
  obtain ⟨b9, hb⟩ := He.ba hb
  obtain ⟨b10, hb⟩ := He.ba hb
  obtain ⟨b11, b12⟩ := He.ba hb
  have c1 := of_decide_eq_true b1
  cases q : K.lookup (e.at_ K) with
  | none =>
    unfold fnE at hv
    rw [q] at hv
    cases hv
  | some o =>
    obtain ⟨oc, od, dt, osl⟩ := o
    cases dt with
    | func fd =>
      obtain ⟨n1, n2, n3, n4, n5, n6, n7, n8, n9, n10, n11, n12, n13, n14, n15⟩ := fd
      have hfd : fdOf K (e.at_ K) = ⟨n1, n2, n3, n4, n5, n6, n7, n8, n9, n10, n11, n12, n13, n14, n15⟩ := by unfold fdOf; rw [q]
      have hcd : cdOf K (e.at_ K) = n13 := by unfold cdOf; rw [q]
      have hcc : ccA K (e.at_ K) = clA n7 := by unfold ccA; rw [q]
      unfold fnE at hv
      rw [q] at hv
      have e2 : (some (n1, n2, n3, n4, n5, n6, n7.map fun p => (p.1, 0), n15) : He.FnW) = some (e.name, e.qual, e.params, FuncBody.stmts e.body, e.scope, mainGlobals, [(("__class__" : Str), (0 : Addr))], builtinsNs) := hv
      simp only [Option.some.injEq, Prod.mk.injEq] at e2
      obtain ⟨h1, h2, h3, h4, h5, h6, h7, h8⟩ := e2
      obtain ⟨cc, rfl⟩ : ∃ cc : Addr, n7 = [(("__class__" : Str), cc)] := by
        match n7, h7 with
        | [(x, c)], h7 =>
          have := (List.cons.inj h7).1
          simp only [Prod.mk.injEq, and_true] at this
          exact ⟨c, by rw [this]⟩
        | [], h7 => cases h7
        | _ :: _ :: _, h7 => exact absurd (congrArg List.length h7) (by simp)
      have hcc : ccA K (e.at_ K) = cc := hcc
      have hn8 : n8 = .none := by
        unfold dfN at bd
        rw [q] at bd
        exact of_decide_eq_true bd
      have hn13 : n13 = .ref (cdA K (e.at_ K)) := hcd.symm.trans c1
      have form : fdOf K (e.at_ K) = PySem.W.ksFn e.name e.qual e.params e.body e.scope n8 n9 n10 n11 n12 (.ref (cdA K (e.at_ K))) n14 (ccA K (e.at_ K)) := by
        rw [hfd, hcc, ← hn13, h1, h2, h3, h4, h5, h6, h8]
      refine ⟨oexB_ok b0, fun P hP => ⟨⟨oc, od, e.name, n8, n9, n10, n11, n12, n14, osl, form, by rw [q, hfd]⟩, b2, ?_, ?_, Option.isSome_iff_exists.mp b5, of_decide_eq_true b6, of_decide_eq_true b7, of_decide_eq_true b8, of_decide_eq_true b9⟩, of_decide_eq_true b10, of_decide_eq_true b11, of_decide_eq_true b12, ⟨n9, n10, n11, n12, n14, by rw [form, hn8]⟩⟩
      · unfold fileB at b3
        split at b3
        · rename_i c d vs sl ho
          split at b3
          · rename_i f t hf
            exact ⟨c, d, vs, sl, f, t, ho, hf, by rw [beq_iff_eq.mp hP]; exact b3⟩
          · cases b3
        · cases b3
      · unfold cellB at b4
        split at b4
        · rename_i c d D sl ho
          rw [beq_iff_eq.mp b4] at ho
          exact ⟨c, d, sl, ho⟩
        · cases b4
    | _ =>
      unfold fnE at hv
      rw [q] at hv
      cases hv
end FL

set_option Elab.async false
set_option linter.all false
set_option maxRecDepth 100000
set_option maxHeartbeats 4000000
namespace FL
open PySem PySem.Spec PyProof.Rows L2
section
variable {K : Frg} {c C : Str} {B : String} {k : Bool}
end
def isTab : Obj → Bool
  | ⟨.none, none, .fields vs, sl⟩ => vs.toList.isEmpty && sl.toList.isEmpty
  | _ => false
theorem isTab_eq {o : Obj} (h : isTab o = true) : o = eT := by
  unfold isTab at h
  split at h
  · rename_i vs sl
    obtain ⟨h1, h2⟩ := He.ba h
    obtain ⟨l1⟩ := vs
    obtain ⟨l2⟩ := sl
    have e1 : l1 = [] := List.isEmpty_iff.mp h1
    have e2 : l2 = [] := List.isEmpty_iff.mp h2
    rw [e1, e2]
  · cases h
def tabG (g : Addr → Option Obj) (a : Addr) : Bool := match g a with
  | some o => isTab o
  | none => false
def tlsOf (L : List ((Frg → Addr) × Str)) (K : Frg) : List (Addr × Addr × Str) := L.map fun x => (cdA K (x.1 K), tbA K (cdA K (x.1 K)), (x.2 ++ ".<locals>.") ++ "<lambda>")
def tabB (tl : Frg → List (Addr × Addr × Str)) (K : Frg) : Bool := (tl K).all fun t => PySem.W.codeHdIn K t.1 t.2.1 && ((K.lookup t.2.1).isNone && (tl K).all fun u => t.2.1 != u.2.1 || decide (t.2.2 = u.2.2))
def addB : List Addr → Nat → List Addr → Nat × List Addr
  | [], m, out => (m, out)
  | a :: r, m, out => bif Nat.beq (Nat.land (Nat.shiftRight m a) 1) 1 then addB r m out else addB r (Nat.lor m (Nat.shiftLeft 1 a)) (a :: out)
def refB (g : Addr → Option Obj) (a : Addr) : List Addr := match g a with
  | some o => He.refsD o
  | none => []
def growB (g : Addr → Option Obj) : Nat → Nat × List Addr → List Addr
  | 0, (_, fr) => fr
  | n + 1, (m, fr) => fr ++ growB g n (addB (fr.flatMap (refB g)) m [])
def asN (g : Addr → Option Obj) (n : Nat) : List Addr := growB g n (addB (He.asD g 0) 0 [])
def asT (tl : Frg → List (Addr × Addr × Str)) (g : Addr → Option Obj) (n : Nat) : List Addr := (cStatics :: asN g n).filter fun a => !((tl (He.frG g (cStatics :: asN g n))).map fun t => t.2.1).contains a
abbrev AlT : Type := AlX × (List He.FnW × Bool)
def obsT (fa : List He.Fa) (fn : List He.DefD) (ex : Frg → Bool) (xs : List DefX) (es : List ErrD) (tl : Frg → List (Addr × Addr × Str)) (g : Addr → Option Obj) (K : Frg) : AlT :=
  (obsX fa fn ex xs K, es.map (fun e => fnE K (e.at_ K)), tabB tl K && (tl K).all fun t => tabG g t.2.1)
def obsTG (n : Nat) (fa : List He.Fa) (fn : List He.DefD) (ex : Frg → Bool) (xs : List DefX) (es : List ErrD) (tl : Frg → List (Addr × Addr × Str)) (g : Addr → Option Obj) : AlT := obsT fa fn ex xs es tl g (He.frG g (asT tl g n))
def SaysT (es : List ErrD) (K : Frg) : Prop := es.map (fun e => fnE K (e.at_ K)) = es.map ErrD.val
def hookT (n : Nat) (fa : List He.Fa) (fn : List He.DefD) (ex : Frg → Bool) (xs : List DefX) (es : List ErrD) (tl : Frg → List (Addr × Addr × Str)) : PySem.W.Hook where
  α := AlT
  obs := fun s => obsTG n fa fn ex xs es tl s.heap.get?
  val := fun _ => (((He.valD fn, true), xs.map fun (x : DefX) => x.d.val), es.map ErrD.val, true)
  says := fun _ h => ∃ K : Frg, K.In h ∧ He.SaysD fa fn K ∧ exX ex xs K = true ∧ SaysX xs K ∧ SaysT es K ∧ tabB tl K = true ∧ ∀ t ∈ tl K, h.get? t.2.1 = some eT
  of := fun _ s e => by
    have b := He.ba (show (tabB tl (He.frG s.heap.get? (asT tl s.heap.get? n)) && (tl (He.frG s.heap.get? (asT tl s.heap.get? n))).all fun t => tabG s.heap.get? t.2.1) = true from congrArg (fun z : AlT => z.2.2) e)
    refine ⟨_, He.frG_in (as := asT tl s.heap.get? n), congrArg (fun z : AlT => z.1.1.1) e, congrArg (fun z : AlT => z.1.1.2) e, congrArg (fun z : AlT => z.1.2) e, congrArg (fun z : AlT => z.2.1) e, b.1, fun t ht => ?_⟩
    have z := List.all_eq_true.mp b.2 t ht
    unfold tabG at z
    split at z
    · rename_i o ho
      rw [ho, isTab_eq z]
    · cases z
  keeps := fun _ _ _ ⟨K, hK, c, e, s, r, b, t⟩ k => ⟨K, PySem.W.Frag.In.keeps hK k, c, e, s, r, b, fun p hp => k _ _ (t p hp)⟩
theorem obsTG_eq {n : Nat} {fa : List He.Fa} {fn : List He.DefD} {ex : Frg → Bool} {xs : List DefX} {es : List ErrD} {tl : Frg → List (Addr × Addr × Str)} {g : Addr → Option Obj} {s : Shared} (h : ∀ a, g a = s.heap.get? a) : obsTG n fa fn ex xs es tl g = (hookT n fa fn ex xs es tl).obs s := by
  have e : g = s.heap.get? := funext h
  rw [e] <;> rfl
structure Tz (fa : List He.Fa) (fn : List He.DefD) (ex : Frg → Bool) (xs : List DefX) (es : List ErrD) (tl : Frg → List (Addr × Addr × Str)) (K : Frg) (mg : Str → Option Value) : Prop where
  t : Ty fa fn ex xs K mg
  r : SaysT es K
  b : tabB tl K = true
theorem Tz.err {fa : List He.Fa} {fn : List He.DefD} {ex : Frg → Bool} {xs : List DefX} {es : List ErrD} {tl : Frg → List (Addr × Addr × Str)} {K : Frg} {mg : Str → Option Value} (T : Tz fa fn ex xs es tl K mg) (i : Nat) {e : ErrD} {file : Str} (h : es[i]? = some e) (hb : xinB file K e = true) : ErrOk file K e (fdOf K (e.at_ K)) := by
  have h2 : (es.map (fun e => fnE K (e.at_ K)))[i]? = (es.map ErrD.val)[i]? := by rw [show es.map (fun e => fnE K (e.at_ K)) = es.map ErrD.val from T.r]
  rw [List.getElem?_map, List.getElem?_map, h] at h2
  exact errOk_of (Option.some.inj h2) hb
theorem tabsOk_of [Wrl] [Tabl] {K : Frg} {h : Heap} (X : K.In h) (b : tabB Tabl.tl K = true) (t : ∀ t ∈ Tabl.tl K, h.get? t.2.1 = some eT) : TabsOk K h :=
  ⟨t, fun t ht => Option.isNone_iff_eq_none.mp (He.ba (He.ba (List.all_eq_true.mp b t ht)).2).1, fun t ht => PySem.W.codeHd_of_K X (He.ba (List.all_eq_true.mp b t ht)).1⟩
structure BX [Wrl] [Tabl] (P : Program) (file : Str) (K : Frg) (mg : Str → Option Value) (base : Heap) : Prop where
  tb : BB K mg base
  fl : ((P.main.file : Str) == file) = true
  su : (P.main.scope.names.lookup ("super" : Str)).isSome = false
theorem binds_err {file : Str} {K : Frg} {e : ErrD} {fd : FuncData} {ps : List Str} (O : ErrOk file K e fd) (hb : ∀ (kV doc pm : Value) (an : Option Addr) (ct cd : Value) (cc : Addr) (us : List Value), us.length = ps.length → bindArgs (PySem.W.ksFn e.name e.qual e.params e.body e.scope .none kV doc pm an cd ct cc) ⟨us, []⟩ = pure (ps.zip us)) : L2.Binds K fd ps [] := by
  obtain ⟨kV, doc, pm, an, ct, rfl⟩ := O.fm
  exact L2.Binds.all fun us hl => hb _ _ _ _ _ _ _ us hl
end FL

set_option Elab.async false
set_option linter.all false
set_option maxRecDepth 100000
set_option maxHeartbeats 4000000
namespace FL
open PySem PySem.Spec PyProof.Rows L2
namespace Ev
variable {f : EF} {Γ : En} {u : AF} {c n told : Str} {er : Str → List Str → List D → Option OD} {ns : List Str} {fs : List D} {x z d : D}
theorem raiseS : FL.raiseS c n u Γ = (u Γ).bind fun es Γ1 => raiK c n (frzs es Γ1) := rfl
end Ev
end FL

set_option Elab.async false
set_option linter.all false
set_option maxRecDepth 100000
set_option maxHeartbeats 4000000
namespace FL
open PySem PySem.Spec PyProof.Rows L2
section
variable [Wrl] [Tabl]
def wpS (K : Frg) (W : WX) (f : SF) : TS := fun D σ H => ∃ F Γ G, Rl K F Γ σ H G ∧ match f Γ with
  | .ok fl Γ' => Fin K F Γ' G D fl
  | .exc c ns fs Γ' => ∀ cls dx σ' H' G', Rl K F Γ' σ' H' G' → Le G G' → XRep K G' c ns fs cls dx → W cls dx σ' H'
  | .fail => False
theorem FB.wp {X : Cx} {W : WX} {sts : List Stmt} {f : SF} (h : FB X W sts f) : PSs X sts (wpS X.K W f) := by
  obtain ⟨t, p, s⟩ := h
  refine ⟨fun pins s' σ H D I ⟨F, Γ, G, R, q⟩ => p.run pins s' σ H D I ?_⟩
  have k := s F Γ σ H G R
  revert q k
  cases f Γ with
  | fail => exact fun q _ => q.elim
  | ok fl Γ' => exact fun q k => k D q
  | exc c ns fs Γ' => exact fun q k => k D q
end
theorem fld_ne {n : Str} {ns : List Str} {fs : List D} {d : D} (h : fldOf n ns fs = some d) : ns ≠ [] := fun z => by subst z; cases h
theorem set_at {Γ : En} {i : Nat} {s : Sl} (h : i < Γ.length) : (Γ.set i s)[i]? = some s := List.getElem?_set_self h
theorem vE_im {Γ : En} {j : Nat} {x : D} (h : Γ[j]? = some (.im x)) : vE j Γ = .ok (.d x) Γ := by
  unfold vE
  rw [h]
theorem xfE_at {a dd : Addr} {c n : Str} {f : EF} {Γ : En} {ns : List Str} {fs : List D} {d : D} (h : f Γ = .ok (.d (.exn a dd c ns fs)) Γ) (e : fldOf n ns fs = some d) : xfE a dd c n f Γ = .ok (.d d) Γ := by
  unfold xfE
  rw [h, Ev.bindO]
  show (if a = a ∧ dd = dd ∧ c = c then (match fldOf n ns fs with | some d => (O.ok (EV.d d) Γ : O EV) | none => .fail) else .fail) = _
  rw [if_pos ⟨rfl, rfl, rfl⟩, e]
namespace Ev
variable {i : Nat} {c0 c : Str} {hv : List Str → List D → En → Option D} {sf : SF} {Γ : En} {ns : List Str} {fs : List D} {fl : Fl}
end Ev
end FL

set_option Elab.async false
set_option linter.all false
set_option maxRecDepth 100000
set_option maxHeartbeats 1000000
namespace FL
open PySem PySem.Spec PyProof.Rows L2
section
variable [Wrl] [Tabl]
variable {X : Cx} {W : WX} {a : Expr} {p p2 pos pos2 : Pos} {u : AF}
end
namespace Ev
end Ev
end FL

set_option Elab.async false
set_option linter.all false
set_option maxRecDepth 100000
set_option maxHeartbeats 4000000
namespace FL
open PySem PySem.Spec PyProof.Rows L2
variable [Wrl] [Tabl]
variable {X : Cx} {W : WX} {pos : Pos}
theorem vvs.newH {K : Frg} {F : Fr} {Γ : En} {σ : St} {H G : Hp} {p : Addr} {u : HO} (hp : H p = none) : ∀ {xs : List VV} {vs : List V}, vvs K F Γ σ H G xs vs → vvs K F Γ σ (upd H p u) G xs vs
  | [], _, e => e
  | x :: xs, _, ⟨v, r, e, h1, h2, h3⟩ => by
    refine ⟨v, r, e, ?_, vvs.newH hp h2, h3⟩
    cases x with
    | e ev => exact h1
    | n o =>
      obtain ⟨q, w, e1, g1, g2, g3, g4, g5, g6⟩ := h1
      exact ⟨q, w, e1, by rw [upd_ne (ne_of_none g1 hp)]; exact g1, g2, g3, g4, g5, g6⟩
structure FGN (X : Cx) (tgs : List Expr) (is : List Nat) : Prop where
  ex : ∃ g : TGs, PGs X tgs g ∧ ∀ (σ : St) (vs : List V) (H : Hp) (Q : St → Hp → Prop), vs.length = is.length → Q (setAll σ is vs) H → g vs σ H Q
end FL

set_option Elab.async false
set_option linter.all false
set_option maxRecDepth 100000
set_option maxHeartbeats 4000000
namespace FL
open PySem PySem.Spec PyProof.Rows L2
variable [Wrl] [Tabl]
variable {X : Cx} {W : WX} {e a b c o tg iter value : Expr} {f g f1 f2 f3 fo fa : EF} {pos pos' apos kpos p tpos : Pos} {es : List Expr} {u uk : AF} {kws : List Keyword}
def cmAd (K : Frg) (c m : Str) : Addr := He5.wf K (He.ga K c) "classmethod" m
structure CmOk (K : Frg) (c m : Str) : Prop where
  rd : ClX.CRead K (He.ga K c) (.type "type")
  cm : ClX.CMet K (He.ga K c) (.type "type") m (He.ma K (He.ga K c) m) (cmAd K c m)
section
variable {k n : Nat} {fa' C : Addr} {fd : FuncData} {ps ks : List Str} {sp : Sp} {dvs : List V} {ds : List Value} {x m cn fn : Str} {Fn : DFn} {dd : List D} {pm : List Nat} {pl : PySem.Sem Bool}
end
end FL

set_option Elab.async false
set_option linter.all false
set_option maxRecDepth 100000
set_option maxHeartbeats 4000000
namespace PySem.W
open PySem PySem.Spec PySem.Calls PyProof.Rows
end PySem.W
namespace FL
open PySem PySem.Spec PyProof.Rows L2
variable [Wrl] [Tabl]
variable {X : Cx} {pos : Pos}
end FL

set_option Elab.async false
set_option linter.all false
set_option maxRecDepth 100000
set_option maxHeartbeats 4000000
namespace FL
open PySem PySem.Spec PyProof.Rows L2
namespace Ev
variable {Γ : En} {u uk : AF} {n i mk np : Nat} {c : Str} {Fn : DFn} {dd ds : List D} {d : D} {b1 b2 : BF} {pm : List Nat}
end Ev
end FL

set_option Elab.async false
set_option linter.all false
set_option maxRecDepth 100000
set_option maxHeartbeats 2000000
namespace FL
open PySem PySem.Spec PyProof.Rows L2
section
variable [Wrl] [Tabl]
variable {X : Cx} {W : WX} {a : Expr} {p p2 pos pos2 : Pos} {f : EF}
end
namespace Ev
end Ev
end FL

set_option Elab.async false
set_option linter.all false
set_option maxRecDepth 100000
set_option maxHeartbeats 2000000
namespace FL
open PySem PySem.Spec PyProof.Rows L2
variable [Wrl] [Tabl]
variable {X : Cx} {W : WX} {pos : Pos}
end FL

set_option Elab.async false
set_option linter.all false
set_option maxRecDepth 100000
set_option maxHeartbeats 2000000
namespace FL
open PySem PySem.Spec PyProof.Rows L2
def isB2 (cs : List Str) (n : String) (x : D) : Option Bool := match x with
  | .ins c _ _ => if cs.contains c then some false else none
  | x => isB n x
end FL

set_option Elab.async false
set_option linter.all false
set_option maxRecDepth 100000
set_option maxHeartbeats 2000000
namespace FL
open PySem PySem.Spec PyProof.Rows L2
variable {X : Cx} {W : WX} {e : Expr} {f : EF} {pos : Pos}
def keyP : Key → PyData
  | .inl i => .int i
  | .inr x => .str x
def D.leaf : D → Option PyData
  | .non => some .none
  | .bl b => some (.bool b)
  | .int i => some (.int i)
  | .str x => some (.str x)
  | _ => none
def D.leaves : List D → Option (List PyData)
  | [] => some []
  | d :: ds => (D.leaf d).bind fun p => (D.leaves ds).map fun ps => p :: ps
def D.el : D → Option PyData
  | .dk ks ds => (D.leaves ds).map fun ps => .dict ((ks.map keyP).zip ps)
  | d => D.leaf d
def D.els : List D → Option (List PyData)
  | [] => some []
  | d :: ds => (D.el d).bind fun p => (D.els ds).map fun ps => p :: ps
def D.kp : D → Option PyData
  | .tup xs => (D.els xs).map PyData.tuple
  | d => D.el d
section
variable [Wrl] [Tabl]
variable {K : Frg} {H : Hp} {pins : List (Addr × Obj)} {σ : St} {s : Shared}
end
def refK : D → Bool
  | .dk _ _ => true
  | .tup _ => true
  | _ => false
def reprQ (p : PyData) : Option Str := if p.showable = true ∧ p.depth ≤ 60 ∧ p.shown.length ≤ sizeLine then some p.shown else none
def reprK (x : D) : Option D := if refK x then x.kp.bind fun p => (reprQ p).map D.str else none
def reprA (x : D) : Option D := match reprD x with
  | some r => some r
  | none => reprK x
section
variable [Wrl] [Tabl]
end
section
variable [Wrl] [Tabl]
variable {P : Program} {w : World} {K : Frg} {mg : Str → Option Value} {base : Heap} {N : List Str} {qual : Str} {scope : Scope} {f0 : Addr} {cd : Value} {A0 : Around} {outer : List Env} {s0 : Shared} {H0 : Hp} {a dd : Addr} {oe : Obj}
end
def rxK (cn : Str) (Fn : DFn) (ev : EV) (Γ : En) : O EV := if (insOf cn ev Γ).isSome then txK (finCall none Fn [] [ev] Γ) else FL.finN (one reprA) [ev] Γ
namespace Ev
theorem rx {cn : Str} {Fn : DFn} {f : EF} {Γ : En} : altE (pkI cn f) (textE cn Fn f) (FL.opN (FL.one reprA) (FL.aCons f FL.aNil)) Γ = (f Γ).bind (rxK cn Fn) := by
  show (if pkI cn f Γ = true then textE cn Fn f Γ else FL.opN (FL.one reprA) (FL.aCons f FL.aNil) Γ) = _
  unfold pkI textE FL.opN FL.aCons rxK FL.aNil
  cases f Γ with
  | ok ev Γ1 =>
    show (if (insOf cn ev Γ1).isSome = true then (if (insOf cn ev Γ1).isSome = true then _ else _) else _) = (if _ then _ else _)
    by_cases h : (insOf cn ev Γ1).isSome = true
    · rw [if_pos h, if_pos h, if_pos h]
    · rw [if_neg h, if_neg h]
      rfl
  | exc c ns fs Γ1 => rfl
  | fail => rfl
end Ev
end FL

set_option Elab.async false
set_option linter.all false
set_option maxRecDepth 100000
set_option maxHeartbeats 2000000
namespace FL
open PySem PySem.Spec PyProof.Rows L2
end FL

set_option Elab.async false
set_option linter.all false
set_option maxRecDepth 100000
set_option maxHeartbeats 2000000
namespace FL
open PySem PySem.Spec PyProof.Rows L2
section
variable [Wrl] [Tabl]
variable {X : Cx} {W : WX} {a b : Expr} {f1 f2 : EF} {pos : Pos}
end
end FL

set_option Elab.async false
set_option linter.all false
set_option maxRecDepth 100000
set_option maxHeartbeats 2000000
namespace FL
open PySem PySem.Spec PyProof.Rows L2
variable [Wrl] [Tabl]
theorem lk_nt {K : Frg} {G : Hp} {a : Addr} {lk : Bool} {u o : HO} {kvs : List (NestedKey × V)} (h : Lk lk u o) (m : DNat K G a o kvs) : NT u := fun ps z => by
  obtain ⟨xs, e, _⟩ := m
  unfold Lk at h
  split at h
  · obtain ⟨ob, h⟩ := h; rw [z] at h; cases h
  · rw [z, e] at h; cases h
theorem ErrAt.vis {G : Hp} {e C : Addr} {fv : List (Str × V)} : ErrAt G e C fv → ErrAt (vis G) e C fv
  | .inl ⟨a, b⟩ => .inl ⟨a, vis_of b fun ps => exo_tbl⟩
  | .inr ⟨d, a, b⟩ => .inr ⟨d, vis_of a fun ps => exo_tbl, vis_of b fun ps z => (by
    have z' : HO.ext _ = HO.tbl ps := z
    cases z')⟩
mutual
theorem Rep.vis {K : Frg} {G : Hp} : ∀ (d : D) (v : V), Rep K G d v → Rep K (vis G) d v
  | .non, _, e => e
  | .bl _, _, e => e
  | .int _, _, e => e
  | .str _, _, e => e
  | .cls _, _, e => e
  | .lst ds, _, ⟨a, vs, e, q, r⟩ => ⟨a, vs, e, vis_of q (by intro ps z; cases z), Reps.vis ds vs r⟩
  | .scr ns, _, ⟨a, e, q⟩ => ⟨a, e, q.elim (fun r => .inl (r.elim (fun z => .inl (vis_of z (by intro ps z; cases z))) fun ⟨o, z⟩ => .inr ⟨o, vis_of z (by intro ps z; cases z)⟩)) .inr⟩
  | .tup ds, _, ⟨a, vs, e, q, r⟩ => ⟨a, vs, e, q.elim (fun r => .inl (r.elim (fun z => .inl (vis_of z (by intro ps z; cases z))) fun ⟨o, z⟩ => .inr ⟨o, vis_of z (by intro ps z; cases z)⟩)) .inr, Reps.vis ds vs r⟩
  | .dk _ ds, _, ⟨a, kv, e, q, n, r⟩ => ⟨a, kv, e, vis_of q (by intro ps z; cases z), n, Reps.vis ds _ r⟩
  | .fk _ ds, _, ⟨a, ob, kv, e, q, n, r⟩ => ⟨a, ob, kv, e, vis_of q (by intro ps z; cases z), n, Reps.vis ds _ r⟩
  | .dn _ _ ds, _, ⟨a, u, o, kv, e, q, l, m, n, r⟩ => ⟨a, u, o, kv, e, vis_of q (lk_nt l m), l, m.mono (fun {c vs} q => q.elim (fun r => .inl (r.elim (fun z => .inl (vis_of z (by intro ps z; cases z))) fun ⟨o, z⟩ => .inr ⟨o, vis_of z (by intro ps z; cases z)⟩)) .inr), n, Reps.vis ds _ r⟩
  | .ins _ _ ds, _, ⟨a, dx, fv, e, q, n, r⟩ => ⟨a, dx, fv, e, vis_of q (by intro ps z; cases z), n, Reps.vis ds _ r⟩
  | .exn _ _ _ _ ds, _, ⟨e, fv, q, n, r⟩ => ⟨e, fv, vis_of q (by intro ps z; cases z), n, Reps.vis ds _ r⟩
  | .err _ _ ds, _, ⟨a, fv, e, q, n, r⟩ => ⟨a, fv, e, q.vis, n, Reps.vis ds _ r⟩
theorem Reps.vis {K : Frg} {G : Hp} : ∀ (ds : List D) (vs : List V), Reps K G ds vs → Reps K (vis G) ds vs
  | [], _, e => e
  | d :: ds, _, ⟨v, r, e, h1, h2⟩ => ⟨v, r, e, Rep.vis d v h1, Reps.vis ds r h2⟩
end
structure Kp (K : Frg) (H H' : Hp) : Prop where
  keep : ∀ a o, H a = some o → NT o → H' a = some o
  ts : LamX.Tabs (Tabl.tabs K) H'
section
variable {K : Frg} {H H1 H2 : Hp}
theorem Kp.refl (t : LamX.Tabs (Tabl.tabs K) H) : Kp K H H := ⟨fun _ _ e _ => e, t⟩
theorem Kp.trans (a : Kp K H H1) (b : Kp K H1 H2) : Kp K H H2 := ⟨fun c o e n => b.keep c o (a.keep c o e n) n, b.ts⟩
theorem Kp.le (a : Kp K H H1) : Le (vis H) H1 := fun c o e => a.keep c o (vis_get e).1 (vis_get e).2
theorem Kp.rep (a : Kp K H H1) {d : D} {v : V} (r : Rep K H d v) : Rep K H1 d v := Rep.le a.le d v (Rep.vis d v r)
theorem Rl.kp {F : Fr} {Γ : En} {σ : St} {G : Hp} (R : Rl K F Γ σ H G) (k : Kp K H H1) : Rl K F Γ σ H1 G where
  len := R.len
  gh := fun a o e => k.keep a o (R.gh a o e) (R.tb.t0.gt a o e)
  ge := R.ge
  he := fun a o e q => k.keep a o (R.he a o e q) (R.tb.ht a o e)
  gn := R.gn
  sl := R.sl
  ac := fun i o e => by
    obtain ⟨a, u, h1, h2, h3, h4, h5, h6⟩ := R.ac i o e
    exact ⟨a, u, h1, k.keep a u h2 h5.nt, h3, h4, h5, h6⟩
  bo := fun i o e => by
    obtain ⟨h1, h2, h3, h4, u, h5, h6⟩ := R.bo i o e
    exact ⟨h1, h2, h3, h4, u, k.keep _ u h5 h6.nt, h6⟩
  bb := R.bb
  tb := ⟨R.tb.ht, R.tb.t0.gt, k.ts⟩
theorem Tb0.vis (t : LamX.Tabs (Tabl.tabs K) H) : Tb0 K H (vis H) := ⟨fun a o e => (vis_get e).2, t⟩
end
structure FnEO (P : Program) (w : World) (K : Frg) (mg : Str → Option Value) (base : Heap) (k : Nat) (f : Addr) (fd : FuncData) (ps : List Str) (Fn : DFn) : Prop where
  run : ∀ (A : Around) (outer : List Env) (s : Shared) (H : Hp) (args : Args) (us : List Value) (vs : List V) (Q : VK) (a : Addr) (oe : Obj), L2H.RoomH k A → A.handled = some (.ref a) → L2H.PinOk outer H s (a, oe) →
    Env0 P w K mg base A outer s H → BindsTo s fd args (ps.zip us) → Vals vs us → spL K ps none Fn vs H Q (fun _ _ _ => False) →
    codeAny (model P w) A (.call (.ref f) args) (CR (L2.CX P w) outer P w H s Q fun _ _ _ => False) s
end FL

set_option Elab.async false
set_option linter.all false
set_option maxRecDepth 100000
set_option maxHeartbeats 2000000
namespace FLR
open PySem PySem.Spec PyProof.Rows L2
end FLR
namespace FL
open PySem PySem.Spec PyProof.Rows L2
abbrev Tl := List (Str × DFn)
def txS : Ro → Option Str
  | .ok (.str y) _ => some y
  | _ => none
variable [Wrl] [Tabl]
variable {Y : Cx} {k : Nat} {L : Tl} {pins : List (Addr × Obj)} {σ : St} {H : Hp} {s : Shared} {a : Addr} {A : Around} {E : Value → Shared → Prop}
def TellI (Y : Cx) (k : Nat) (f' : Addr) (Fn : DFn) : Prop := ∀ (A : Around) (pins : List (Addr × Obj)) (σ : St) (H : Hp) (s : Shared) (a : Addr) (d : D) (y : Str) (Q E : Value → Shared → Prop),
  L2H.RoomH k A → A.handled = Y.A.handled → A.frames = Y.A.frames → Inv Y pins σ H s → LamX.Tabs (Tabl.tabs Y.K) H → Rep Y.K H d (.ref a) → txS (Fn [d]) = some y →
  (∀ H' s' t, Inv Y pins σ H' s' → Kp Y.K H H' → Q (.str y t) s') → wpAny (model Y.prog Y.w) A (call (.ref f') [.ref a]) Q E s
def TellAll (Y : Cx) (k : Nat) (L : Tl) : Prop := ∀ c Fn, L.lookup c = some Fn → ∃ f', PySem.W.findIn Y.K (.ref (He.ga Y.K c)) "__repr__" = some (some (.ref f')) ∧ PySem.W.isFn Y.K (.ref f') = true ∧ TellI Y k f' Fn
theorem TellAll.nil : TellAll Y k [] := fun c Fn h => by cases h
theorem TellAll.cons {c0 : Str} {Fn0 : DFn} {f' : Addr} (h1 : PySem.W.findIn Y.K (.ref (He.ga Y.K c0)) "__repr__" = some (some (.ref f'))) (h2 : PySem.W.isFn Y.K (.ref f') = true) (h3 : TellI Y k f' Fn0) (t : TellAll Y k L) : TellAll Y k ((c0, Fn0) :: L) := fun c Fn h => by
  rw [List.lookup_cons] at h
  split at h
  · rename_i e
    cases h
    rw [eq_of_beq e]
    exact ⟨f', h1, h2, h3⟩
  · exact t c Fn h
structure AIn (Y : Cx) (k : Nat) (a : Addr) (A : Around) : Prop where
  rm : L2H.RoomH k A
  hd : A.handled = Y.A.handled
  fr : A.frames = Y.A.frames
  gd : ∃ g, A.guards = some g ∧ ∀ b, b ≠ a → Clear g b
theorem SqT.kp {K : Frg} {H H' : Hp} {a : Addr} {xs : List V} (q : SqT K H a xs) (k : Kp K H H') : SqT K H' a xs :=
  q.elim (fun r => .inl (r.elim (fun z => .inl (k.keep _ _ z (by intro ps z; cases z))) fun ⟨o, z⟩ => .inr ⟨o, k.keep _ _ z (by intro ps z; cases z)⟩)) .inr
end FL

set_option Elab.async false
set_option linter.all false
set_option maxRecDepth 100000
set_option maxHeartbeats 2000000
namespace FL
open PySem PySem.Spec PyProof.Rows L2
variable [Wrl] [Tabl]
variable {Y : Cx} {k : Nat} {L : Tl} {pins : List (Addr × Obj)} {σ : St} {H : Hp} {s : Shared} {a : Addr} {E : Value → Shared → Prop}
section
variable {R : Result → Shared → Prop}
end
variable {W : WX} {e : Expr} {f : EF} {pos : Pos}
end FL

set_option Elab.async false
set_option linter.all false
set_option maxRecDepth 100000
set_option maxHeartbeats 2000000
namespace FL
open PySem PySem.Spec PyProof.Rows L2
def atD (k : Key) : List Key → List D → Option D
  | j :: ks, v :: vs => if j = k then some v else atD k ks vs
  | _, _ => none
namespace Ev
variable {Γ : En} {fo fa fb : EF}
end Ev
variable [Wrl] [Tabl]
variable {X : Cx} {W : WX} {o a b : Expr} {fo fa fb : EF} {pos apos p : Pos}
end FL

set_option Elab.async false
set_option linter.all false
set_option maxRecDepth 100000
set_option maxHeartbeats 2000000
namespace FL
open PySem PySem.Spec PyProof.Rows L2
variable [Wrl] [Tabl]
variable {X : Cx} {W : WX} {a b : Expr} {f1 f2 : EF} {pos : Pos}
end FL

set_option Elab.async false
set_option linter.all false
set_option maxRecDepth 100000
set_option maxHeartbeats 2000000
namespace FL
open PySem PySem.Spec PyProof.Rows L2
variable [Wrl] [Tabl]
variable {Y : Cx} {k : Nat} {L : Tl}
variable {W : WX} {e : Expr} {f : EF} {pos : Pos}
end FL

set_option Elab.async false
set_option linter.all false
set_option maxRecDepth 100000
set_option maxHeartbeats 4000000
namespace FL
open PySem PySem.Spec PyProof.Rows L2
section
variable [Wrl] [Tabl]
end
namespace Ev
variable {c0 c : Str} {d : D} {sf : SF} {Γ : En} {ns : List Str} {fs : List D} {fl : Fl}
end Ev
end FL

set_option Elab.async false
set_option linter.all false
set_option maxRecDepth 100000
set_option maxHeartbeats 4000000
namespace FL
open PySem PySem.Spec PyProof.Rows L2
abbrev TabU : Type := Str × List Str
def SaysU (ts : List TabU) (w : World) (K : Frg) : Prop := ts.map (fun t => He.dicW K (He.ga K t.1)) = ts.map fun t => some (He.keysIn w.params t.2)
theorem SaysU.at_ {ts : List TabU} {w : World} {K : Frg} (c : SaysU ts w K) (i : Nat) {t : TabU} (h : ts[i]? = some t) : ∃ es n, KDict K w (He.ga K t.1) es n := by
  have e2 : (ts.map fun t => He.dicW K (He.ga K t.1))[i]? = (ts.map fun t => some (He.keysIn w.params t.2))[i]? := by rw [show ts.map (fun t => He.dicW K (He.ga K t.1)) = _ from c]
  rw [List.getElem?_map, List.getElem?_map, h] at e2
  exact He.dicW_ok (Option.some.inj e2)
def gdL (K : Frg) : List DictEntry → List Key → List D → Bool
  | [], [], [] => true
  | e :: es, .inr x :: ks, d :: vs => (match e.key with
    | .str y _ => decide (y = x) && (cst K d e.val && gdL K es ks vs)
    | _ => false)
  | _, _, _ => false
def gdB (K : Frg) (x : Str) (ks : List Key) (vs : List D) : Bool := match PySem.W.nsIn K mainGlobals x, K.lookup (He.ga K x) with
  | some (some (.ref a)), some ⟨_, _, .dict es _, _⟩ => gdL K es.toList ks vs
  | _, _ => false
theorem gdL_find [Wrl] {K : Frg} : ∀ {es : List DictEntry} {ks : List Key} {vs : List D}, gdL K es ks vs = true → ∀ z : Str, es.any (·.refKey) = false ∧ (match es.find? (·.key.isStr z) with
    | some e => ∃ d v, atD (.inr z) ks vs = some d ∧ RelV v e.val ∧ ∀ G, Rep K G d v
    | none => atD (.inr z) ks vs = none)
  | [], [], [], _, z => ⟨rfl, rfl⟩
  | [], [], _ :: _, h, _ => by cases h
  | [], _ :: _, _, h, _ => by cases h
  | _ :: _, [], _, h, _ => by cases h
  | _ :: _, .inl _ :: _, _, h, _ => by cases h
  | _ :: _, .inr _ :: _, [], h, _ => by cases h
  | e :: es, .inr x :: ks, d :: vs, h, z => by
    have h1 : (match e.key with
      | .str y _ => decide (y = x) && (cst K d e.val && gdL K es ks vs)
      | _ => false) = true := h
    split at h1
    · rename_i y t ek
      obtain ⟨h2, h3⟩ := He.ba h1
      obtain ⟨h4, h5⟩ := He.ba h3
      have h2 := of_decide_eq_true h2
      subst h2
      obtain ⟨i1, i2⟩ := gdL_find h5 z
      refine ⟨by rw [List.any_cons, i1]; unfold DictEntry.refKey; rw [ek]; rfl, ?_⟩
      have ei : e.key.isStr z = (y == z) := by rw [ek]; rfl
      rw [List.find?_cons, ei]
      unfold atD
      by_cases hz : y = z
      · subst hz
        rw [beq_self_eq_true y, if_pos rfl]
        obtain ⟨v, r1, r2⟩ := cst_ok d e.val h4
        exact ⟨d, v, rfl, r1, r2⟩
      · rw [beq_eq_false_iff_ne.mpr hz, if_neg (fun q => hz (Sum.inr.inj q))]
        exact i2
    · cases h1
def KGM [Wrl] (K : Frg) (w : World) (mg : Str → Option Value) (x : Str) (ks : List Key) (vs : List D) : Prop := ∃ d es n, mg x = some (.ref d) ∧ KDict K w d es n ∧ ∀ z, ∃ r, PySem.W.nsIn K d z = some r ∧ (match r with
  | some u => ∃ e v, atD (.inr z) ks vs = some e ∧ RelV v u ∧ ∀ G, Rep K G e v
  | none => atD (.inr z) ks vs = none)
theorem gdB_ok [Wrl] {K : Frg} {w : World} {mg : Str → Option Value} {h : Heap} (X : K.In h) (G : h.Ns mainGlobals mg) {x : Str} {ks : List Key} {vs : List D} (c : gdB K x ks vs = true) (u : ∃ es n, KDict K w (He.ga K x) es n) :
    KGM K w mg x ks vs := by
  obtain ⟨es, n, D⟩ := u
  unfold gdB at c
  rw [D.at_] at c
  cases e1 : PySem.W.nsIn K mainGlobals x with
  | none => rw [e1] at c; cases c
  | some r => cases r with
  | none => rw [e1] at c; cases c
  | some u => cases u with
  | ref a =>
    rw [e1] at c
    replace c : gdL K es.toList ks vs = true := c
    have eg : He.ga K x = a := by unfold He.ga; rw [e1]
    refine ⟨a, es, n, PySem.W.mg_of X G e1, eg ▸ D, fun z => ?_⟩
    obtain ⟨h1, h2⟩ := gdL_find c z
    unfold PySem.W.nsIn
    rw [← eg, D.at_]
    dsimp only
    revert h2
    cases es.toList.find? (·.key.isStr z) with
    | some e => exact fun h2 => ⟨some e.val, rfl, h2⟩
    | none =>
      intro h2
      refine ⟨none, ?_, h2⟩
      dsimp only
      rw [h1]
      rfl
  | _ => rw [e1] at c; cases c
theorem Tx.gd [Wrl] {fas : List He.Fa} {fn : List He.DefD} {ex : Frg → Bool} {K : Frg} {w : World} {mg : Str → Option Value} (T : Tx fas fn ex K mg) {x : Str} {ks : List Key} {vs : List D} (u : ∃ es n, KDict K w (He.ga K x) es n) (c : gdB K x ks vs = true) : KGM K w mg x ks vs := by
  obtain ⟨_, X, G⟩ := T.hh
  exact gdB_ok X G c u
section
variable {X : Cx} {o e : Expr} {apos cpos : Pos} {td ty : TE}
end
namespace Ev
variable {Γ : En} {fa : EF} {ks : List Key} {vs : List D} {z : Str}
end Ev
section
variable [Wrl] [Tabl]
variable {X : Cx} {W : WX} {e : Expr} {fa : EF} {x : Str} {ks : List Key} {vs : List D} {npos apos pos : Pos}
end
end FL

set_option Elab.async false
set_option linter.all false
set_option maxRecDepth 100000
set_option maxHeartbeats 2000000
namespace FL
open PySem PySem.Spec PyProof.Rows L2
namespace Ev
variable {Γ : En} {t : TF} {f1 f2 : VF}
end Ev
section
variable [Wrl] [Tabl]
variable {X : Cx} {W : WX} {a b c : Expr} {pos : Pos} {t1 : TF} {f1 f2 : VF}
end
end FL

set_option Elab.async false
set_option linter.all false
set_option maxRecDepth 100000
set_option maxHeartbeats 4000000
namespace FL
open PySem PySem.Spec PyProof.Rows L2
namespace Ev
variable {Γ : En} {i : Nat} {f : VF} {xs ys : List D}
end Ev
section
variable [Wrl] [Tabl]
variable {X : Cx} {W : WX} {e : Expr} {f : VF} {pos apos : Pos}
end
end FL

set_option Elab.async false
set_option linter.all false
set_option maxRecDepth 100000
set_option maxHeartbeats 4000000
namespace FL
open PySem PySem.Spec PyProof.Rows L2
section
variable [Wrl] [Tabl]
variable {X : Cx} {W : WX}
theorem New.wiped {K : Frg} {F : Fr} {Γ : En} {σ σ' : St} {H G : Hp} {xs : List D} {q : Addr} {vs : List Nat} (n : New K F Γ σ H G (.l xs) (.ref q)) (hs : ∀ i, i ∉ vs → σ'[i]? = σ[i]?) : New K F (wipeΓ Γ vs) σ' H G (.l xs) (.ref q) := by
  obtain ⟨p, u, e, h2, h3, h4, h5, h6, r⟩ := n
  cases e
  refine ⟨q, u, rfl, h2, h3, h4, h5, fun j ⟨o, ho⟩ => ?_, r⟩
  by_cases hj : j ∈ vs
  · exact absurd (wipeΓ_in hj ho) (by simp)
  · rw [hs j hj]
    refine h6 j ⟨o, ?_⟩
    rw [wipeΓ_out hj] at ho
    exact ho
section
variable {tg iter tg1 iter1 elt : Expr} {ifs ifs1 : List Expr} {scope : Scope} {own : List (Str × Nat)} {vs1 : List Nat} {it it1 : IF} {bf b1 : BF} {sl sl1 : List Nat} {tt tt1 : TF} {fe : EF} {pos : Pos}
end
end
namespace Ev
variable {vs vs1 : List Nat} {it it1 : IF} {b b1 : BF} {tt tt1 : TF} {elt : EF} {Γ : En} {d : D} {ds acc : List D}
end Ev
end FL

set_option Elab.async false
set_option linter.all false
set_option maxRecDepth 100000
set_option maxHeartbeats 4000000
namespace FL
open PySem PySem.Spec PyProof.Rows L2
namespace Ev
variable {Γ : En} {u : AF} {xs ys : List D}
end Ev
section
variable [Wrl] [Tabl]
variable {X : Cx} {W : WX} {e e2 : Expr} {u : AF} {p pos tpos : Pos}
end
end FL

set_option Elab.async false
set_option linter.all false
set_option maxRecDepth 100000
set_option maxHeartbeats 4000000
namespace FL
open PySem PySem.Spec PyProof.Rows L2
section
variable [Wrl] [Tabl]
variable {X : Cx} {W : WX} {a : Expr} {f1 : EF} {pos : Pos}
end
end FL

set_option Elab.async false
set_option linter.all false
set_option maxRecDepth 100000
set_option maxHeartbeats 2000000
namespace FL
open PySem PySem.Spec PyProof.Rows L2
namespace Ev
variable {Γ : En} {f : EF} {x : Str}
end Ev
section
variable [Wrl] [Tabl]
variable {X : Cx} {W : WX} {a : Expr} {f : EF} {apos pos : Pos}
end
end FL

set_option Elab.async false
set_option linter.all false
set_option maxRecDepth 100000
set_option maxHeartbeats 2000000
namespace FL
open PySem PySem.Spec PyProof.Rows L2
variable [Wrl]
def HW (X : Cx) : Prop := X.prog = Wrl.P ∧ X.w = Wrl.w
theorem dnp_of {X : Cx} (hw : HW X) {a : Addr} {xs : List (NestedKey × Addr × Value)} {h : Heap} : DNP Wrl.P Wrl.w a xs h → DNP X.prog X.w a xs h := by rw [hw.1, hw.2]; exact id
section
variable {X : Cx} {pins : List (Addr × Obj)} {σ : St} {H : Hp} {s : Shared}
mutual
theorem NKv.is (I : Inv X pins σ H s) : ∀ {k : NestedKey} {v : V} {u : Value}, NKv X.K H k v → RelV v u → NestedIs s.heap k u
  | _, _, u, .non, r => by cases (show u = Value.none from r); exact .none
  | _, _, u, .num i, r => by obtain ⟨t, rfl⟩ := (show ∃ t, u = Value.int i t from r); exact .int i t
  | _, _, u, .text x, r => by obtain ⟨t, rfl⟩ := (show ∃ t, u = Value.str x t from r); exact .text x t
  | _, _, u, .tup h hs, r => by
    cases (show u = Value.ref _ from r)
    obtain ⟨its, rv, ⟨o, h1, h2, n, h3⟩, hz⟩ := I.tuple h
    exact .tup h1 h2 h3 (by simpa using NKs.are I hs rv)
theorem NKs.are (I : Inv X pins σ H s) : ∀ {ks : List NestedKey} {vs : List V} {us : List Value}, NKs X.K H ks vs → Vals vs us → NestedAll s.heap ks us
  | _, _, _, .nil, .nil => .nil
  | _, _, _, .cons h hs, .cons r rs => .cons (NKv.is I h r) (NKs.are I hs rs)
end
end
def TrD (X : Cx) (H : Hp) (a : Addr) (kvs : List (NestedKey × V)) : Prop := ∃ xs, H a = some (DNO a xs) ∧ DNk X.K H xs kvs ∧ xs.length ≤ sizeLine
theorem TrD.at_ {X : Cx} {H : Hp} {a : Addr} {kvs : List (NestedKey × V)} {o : HO} (e : H a = some o) (d : DNat X.K H a o kvs) : TrD X H a kvs := let ⟨xs, q, k, l⟩ := d; ⟨xs, q ▸ e, k, l⟩
section
variable {X : Cx} {pins : List (Addr × Obj)} {σ : St} {H : Hp} {s : Shared} {a b : Addr} {kvs : List (NestedKey × V)} {A : Around} {E : Value → Shared → Prop}
theorem DNk.keys {xs : List (NestedKey × Addr × Value)} (I : Inv X pins σ H s) (h : DNk X.K H xs kvs) : ∀ x ∈ xs, (nestedKind X.prog X.w).is s.heap x.1 x.2.1 := by
  unfold DNk at h
  induction h with
  | nil => exact fun _ z => (by cases z)
  | cons r t ih =>
    intro x hx
    rcases List.mem_cons.mp hx with rfl | hx
    · exact ⟨r.2.2.1.is I rfl, r.2.1⟩
    · exact ih x hx
theorem TrD.of (hw : HW X) (I : Inv X pins σ H s) (t : TrD X H a kvs) : ∃ xs, H a = some (DNO a xs) ∧ DNk X.K H xs kvs ∧ xs.length ≤ sizeLine ∧ (a == sysModules) = false ∧ s.heap.DictOfH (nestedKind X.prog X.w) a xs := by
  obtain ⟨xs, h1, h2, h3⟩ := t
  obtain ⟨z, o, es, ep, e1, e2, e3, e4, e5⟩ := dnp_of hw (I.hok a _ h1).1
  exact ⟨xs, h1, h2, h3, z, o, es, ep, e1, e2, e3, e4, h2.keys I, e5⟩
theorem DNk.at {xs : List (NestedKey × Addr × Value)} {K : Frg} (h : DNk K H xs kvs) (k : NestedKey) : RelO ((kvs.find? fun p => decide (p.1 = k)).map (·.2)) ((atKey xs k).map (·.2)) := by
  unfold DNk at h
  induction h with
  | nil => exact True.intro
  | @cons x p xs kvs r t ih =>
    obtain ⟨e, _, _, rv⟩ := r
    unfold atKey at ih ⊢
    rw [List.find?_cons, List.find?_cons, ← e]
    by_cases hk : x.1 = k
    · rw [decide_eq_true hk]; exact rv
    · rw [decide_eq_false hk]; exact ih
theorem DNk.snoc {K : Frg} {xs : List (NestedKey × Addr × Value)} (h : DNk K H xs kvs) {x : NestedKey × Addr × Value} {p : NestedKey × V} (h1 : x.1 = p.1) (h2 : x.1.depth ≤ 8) (h3 : NKv K H x.1 (.ref x.2.1)) (h4 : RelV p.2 x.2.2) : DNk K H (xs ++ [x]) (kvs ++ [p]) := by
  unfold DNk at h ⊢
  induction h with
  | nil => exact .cons ⟨h1, h2, h3, h4⟩ .nil
  | cons r t ih => exact .cons r ih
def valN (kvs : List (NestedKey × V)) (k : NestedKey) : Option V := (kvs.find? fun p => decide (p.1 = k)).map (·.2)
def TrR (X : Cx) (H : Hp) (a : Addr) (kvs : List (NestedKey × V)) : Prop := ∃ xs, Rd H a (DNO a xs) ∧ DNk X.K H xs kvs ∧ xs.length ≤ sizeLine
theorem TrD.rd (t : TrD X H a kvs) : TrR X H a kvs := let ⟨xs, h1, h2⟩ := t; ⟨xs, .of h1, h2⟩
theorem TrR.of (hw : HW X) (I : Inv X pins σ H s) (t : TrR X H a kvs) : ∃ xs, DNk X.K H xs kvs ∧ xs.length ≤ sizeLine ∧ (a == sysModules) = false ∧ s.heap.DictOfH (nestedKind X.prog X.w) a xs := by
  obtain ⟨xs, h1, h2, h3⟩ := t
  obtain ⟨z, o, es, ep, e1, e2, e3, e4, e5⟩ := dnp_of hw (show ObjOk X.prog X.w H s.heap a (DNO a xs) from h1.ok I.hok).1
  exact ⟨xs, h2, h3, z, o, es, ep, e1, e2, e3, e4, h2.keys I, e5⟩
def stoN (kvs : List (NestedKey × V)) (k : NestedKey) (v : V) : List (NestedKey × V) := if (valN kvs k).isSome then kvs.map (fun p => if p.1 = k then (p.1, v) else p) else kvs ++ [(k, v)]
theorem DNk.isSome {K : Frg} {xs : List (NestedKey × Addr × Value)} (h : DNk K H xs kvs) (k : NestedKey) : (atKey xs k).isSome = (valN kvs k).isSome := by
  have hat := h.at k
  unfold valN
  revert hat
  cases (kvs.find? fun p => decide (p.1 = k)).map (·.2) <;> cases atKey xs k
  · exact fun _ => rfl
  · exact fun z => z.elim
  · exact fun z => z.elim
  · exact fun _ => rfl
theorem DNk.put {K : Frg} {xs : List (NestedKey × Addr × Value)} (h : DNk K H xs kvs) {k : NestedKey} {v : V} {r : Value} (hk : NKv K H k (.ref b)) (hd : k.depth ≤ 8) (rv : RelV v r) : DNk K H (storedH xs k b r) (stoN kvs k v) := by
  have hs := h.isSome k
  unfold storedH stoN
  rw [hs]
  split
  · rename_i h0
    clear h0 hs
    unfold DNk at h ⊢
    induction h with
    | nil => exact .nil
    | @cons x p xs kvs q t ih =>
      refine .cons ?_ ih
      obtain ⟨e, q2, q3, q4⟩ := q
      unfold putAt
      by_cases hx : x.1 = k
      · have hp : p.1 = k := e ▸ hx
        simp only [if_pos hx, if_pos hp]
        exact ⟨e, q2, q3, rv⟩
      · have hp : ¬ p.1 = k := e ▸ hx
        simp only [if_neg hx, if_neg hp]
        exact ⟨e, q2, q3, q4⟩
  · exact DNk.snoc (x := (k, b, r)) (p := (k, v)) h rfl hd hk rv
end
end FL

set_option Elab.async false
set_option linter.all false
set_option maxRecDepth 100000
set_option maxHeartbeats 2000000
namespace FL
open PySem PySem.Spec PyProof.Rows L2
variable [Wrl]
theorem TrR.at_ {X : Cx} (hw : HW X) {pins : List (Addr × Obj)} {σ : St} {H : Hp} {s : Shared} {a : Addr} {kvs : List (NestedKey × V)} (I : Inv X pins σ H s) (t : TrR X H a kvs) :
    s.TypeIs (.ref a) "dict" ∧ (∀ b, Value.ref a = .ref b → ∃ ob, s.heap.get? b = some ob ∧ ob.dict = none) := by
  obtain ⟨xs, _, _, _, hm⟩ := t.of hw I
  refine ⟨hm.typeIs, fun b q => ?_⟩
  cases q
  obtain ⟨ob, _, _, h1, h2, _⟩ := hm
  exact ⟨ob, h1, h2.2.1⟩
section
variable {X : Cx} {o e f : Expr} {td ty tx : TE} {apos cpos : Pos}
end
end FL

set_option Elab.async false
set_option linter.all false
set_option maxRecDepth 100000
set_option maxHeartbeats 2000000
namespace FL
open PySem PySem.Spec PyProof.Rows L2
section
variable [Wrl]
section
variable {X : Cx} {e : Expr} {td : TE}
end
section
variable {X : Cx} {pins : List (Addr × Obj)} {σ : St} {H : Hp} {s : Shared} {d : Addr} {o : Obj}
end
section
variable {P : Program} {w : World} {K : PySem.W.Frag} {tg : Expr} {d : Addr} {o : Obj} {es : Array DictEntry} {ep : Nat} {xs : List (NestedKey × Addr × Value)} {ps : List (Addr × V)}
end
section
variable {X : Cx} {tg e : Expr} {td : TE} {apos cpos : Pos}
end
end
section
variable [Wrl] [Tabl]
variable {K : Frg} {F : Fr} {Γ : En} {σ : St} {H G : Hp}
end
end FL

set_option Elab.async false
set_option linter.all false
set_option maxRecDepth 100000
set_option maxHeartbeats 2000000
namespace FL
open PySem PySem.Spec PyProof.Rows L2
section
variable [Wrl] [Tabl]
variable {K : Frg} {F : Fr} {Γ : En} {σ : St} {H G : Hp}
theorem OutI.bindV {α β : Type} {W : WX} {rel : Fr → En → St → Hp → Hp → α → β → Prop} {T : (β → Hp → Prop) → Prop} {T' : β → Hp → (It → Hp → Prop) → Prop} {g : α → En → O (List D)} : ∀ {r : O α}, OutV K W rel F σ G T r →
    (∀ a Γ1 b H1 G1, Rl K F Γ1 σ H1 G1 → Le G G1 → rel F Γ1 σ H1 G1 a b → OutI K W F σ G1 (T' b H1) (g a Γ1)) → OutI K W F σ G (fun Q => T fun b H1 => T' b H1 Q) (r.bind g)
  | .fail, _, _ => trivial
  | .exc _ _ _ _, h, _ => fun Q q => h _ q
  | .ok a Γ1, h, k => by
    show OutI K W F σ G _ (g a Γ1)
    cases e2 : g a Γ1 with
    | fail => trivial
    | exc c ns fs Γ' =>
      intro Q q
      refine h _ fun b H1 G1 R1 le1 r1 => ?_
      have h2 := k a Γ1 b H1 G1 R1 le1 r1
      rw [e2] at h2
      exact h2 Q fun cls dx H' G' R' le' x => q cls dx H' G' R' (le1.trans le') x
    | ok a' Γ' =>
      intro Q q
      refine h _ fun b H1 G1 R1 le1 r1 => ?_
      have h2 := k a Γ1 b H1 G1 R1 le1 r1
      rw [e2] at h2
      exact h2 Q fun J H' G' R' le' x => q J H' G' R' (le1.trans le') x
variable {X : Cx} {W : WX} {e : Expr} {pos apos p cpos : Pos}
end
end FL

set_option Elab.async false
set_option linter.all false
set_option maxRecDepth 100000
set_option maxHeartbeats 2000000
namespace FL
open PySem PySem.Spec PyProof.Rows L2
structure BY [Wrl] [Tabl] (P : Program) (w : World) (file : Str) (K : Frg) (mg : Str → Option Value) (base : Heap) : Prop extends BX P file K mg base where
  pw : P = Wrl.P ∧ w = Wrl.w
section
variable [Wrl] [Tabl]
variable {X : Cx} {W : WX} {pos : Pos}
end
end FL

set_option Elab.async false
set_option linter.all false
set_option maxRecDepth 100000
set_option maxHeartbeats 2000000
namespace FL
open PySem PySem.Spec PyProof.Rows L2
section
variable {X : Cx} {pins : List (Addr × Obj)} {σ : St} {H : Hp} {s : Shared}
end
section
variable [Wrl] [Tabl]
variable {X : Cx} {W : WX} {a : Expr} {fa : EF} {x : Str} {d : D} {pos apos p : Pos}
end
end FL

set_option Elab.async false
set_option linter.all false
set_option maxRecDepth 100000
set_option maxHeartbeats 2000000
namespace FL
open PySem PySem.Spec PyProof.Rows L2
mutual
def D.rp : D → Option PyData
  | .non => some .none
  | .bl b => some (.bool b)
  | .int i => some (.int i)
  | .str x => some (.str x)
  | .tup ds => (D.rps ds).map PyData.tuple
  | .dk ks ds => D.el (.dk ks ds)
  | _ => none
def D.rps : List D → Option (List PyData)
  | [] => some []
  | d :: ds => (D.rp d).bind fun p => (D.rps ds).map fun ps => p :: ps
end
section
variable [Wrl] [Tabl]
variable {X : Cx} {H : Hp} {pins : List (Addr × Obj)} {σ : St} {s : Shared}
end
section
variable [Wrl] [Tabl]
variable {X : Cx} {W : WX} {e : Expr} {f : EF} {pos : Pos}
end
end FL

set_option Elab.async false
set_option linter.all false
set_option maxRecDepth 100000
set_option maxHeartbeats 2000000
namespace FL
open PySem PySem.Spec PyProof.Rows L2
section
variable [Wrl] [Tabl]
variable {K : Frg} {F : Fr} {Γ : En} {σ : St} {H G : Hp}
variable {X : Cx} {W : WX} {e a b o : Expr} {f fo fa fb : EF} {pos apos p cpos : Pos}
end
end FL

set_option Elab.async false
set_option linter.all false
set_option maxRecDepth 100000
set_option maxHeartbeats 2000000
namespace FL
open PySem PySem.Spec PyProof.Rows L2
section
variable [Wrl] [Tabl]
variable {K : Frg} {F : Fr} {Γ : En} {σ : St} {H G : Hp}
variable {X : Cx} {W : WX} {e a b o : Expr} {f fo fa fb : EF} {pos apos p cpos : Pos}
end
end FL

set_option Elab.async false
set_option linter.all false
set_option maxRecDepth 100000
set_option maxHeartbeats 2000000
namespace FL
open PySem PySem.Spec PyProof.Rows L2
section
variable [Wrl] [Tabl]
variable {K : Frg} {F : Fr} {Γ : En} {σ : St} {H G : Hp}
variable {X : Cx} {W : WX} {e a b o : Expr} {f fo fa fb : EF} {pos apos p cpos dpos : Pos}
end
end FL

set_option Elab.async false
set_option linter.all false
set_option maxRecDepth 100000
set_option maxHeartbeats 2000000
namespace CL
open PySem PySem.Spec PyProof.Rows L2 FL
abbrev Lay := Bool × Str
abbrev LBox := List Lay
def kindS (b : Bool) : Str := if b then "lock" else "tag"
def layD (l : Lay) : D := .tup [.str (kindS l.1), .str l.2]
def layN (l : Lay) : NestedKey := .tup [.text (kindS l.1), .text l.2]
def oN : Option Lay → NestedKey
  | some l => layN l
  | none => .none
def oD : Option Lay → D
  | some l => layD l
  | none => .non
def arrK (k : Nat × Option Lay) : NestedKey := .tup [.num k.1, oN k.2]
def treK (k : Nat × Lay) : NestedKey := .tup [.num k.1, layN k.2]
section
variable {κ α : Type} [DecidableEq κ]
def getA (k : κ) (xs : List (κ × α)) : Option α := (xs.find? fun p => decide (p.1 = k)).map (·.2)
def setA (k : κ) (v : α) (xs : List (κ × α)) : List (κ × α) := if (xs.any fun p => decide (p.1 = k)) = true then xs.map (fun p => if p.1 = k then (p.1, v) else p) else xs ++ [(k, v)]
theorem getA_any (k : κ) : ∀ xs : List (κ × α), (xs.any fun p => decide (p.1 = k)) = (getA k xs).isSome
  | [] => rfl
  | p :: xs => by
    have ih := getA_any k xs
    unfold getA at ih ⊢
    rw [List.any_cons, List.find?_cons, ih]
    by_cases h : p.1 = k
    · rw [decide_eq_true h]; rfl
    · rw [decide_eq_false h]; rfl
end
structure Au where
  arrows : List ((Nat × Option Lay) × List (Nat × Nat))
  tree : List ((Nat × Lay) × Nat)
  many : Nat
def dflA (k : Nat × Option Lay) (xs : List ((Nat × Option Lay) × List (Nat × Nat))) : List ((Nat × Option Lay) × List (Nat × Nat)) := match getA k xs with
  | some _ => xs
  | none => xs ++ [(k, [])]
def path1 (a : Au) (s : Nat) (l : Lay) : Au × Nat := match getA (s, l) a.tree with
  | some t => (a, t)
  | none => (⟨setA (s, some l) (setA a.many 0 ((getA (s, some l) a.arrows).getD [])) (dflA (s, some l) a.arrows), setA (s, l) a.many a.tree, a.many + 1⟩, a.many)
def pathA (a : Au) (s : Nat) : LBox → Au × Nat
  | [] => (a, s)
  | l :: ls => pathA (path1 a s l).1 (path1 a s l).2 ls
def open1 (f : List (Nat × Nat)) (p : Nat × Nat) : List (Nat × Nat) := setA p.1 (min ((getA p.1 f).getD ((getA 0 f).getD 0 + p.2)) ((getA 0 f).getD 0 + p.2)) f
def openedA (xs : List ((Nat × Option Lay) × List (Nat × Nat))) (f : List (Nat × Nat)) : List (Nat × Nat) := match getA 0 f with
  | some _ => ((getA (0, none) xs).getD []).foldl open1 f
  | none => f
def later1 (least : Nat) (f : List (Nat × Nat)) (p : Nat × Nat) : List (Nat × Nat) := setA p.1 (min ((getA p.1 f).getD (least + p.2)) (least + p.2)) f
def laterA (xs : List ((Nat × Option Lay) × List (Nat × Nat))) (l : Lay) (f : List (Nat × Nat)) : List (Nat × Nat) :=
  f.foldl (fun later p => ((getA (p.1, some l) xs).getD []).foldl (later1 p.2) later) []
def goA (xs : List ((Nat × Option Lay) × List (Nat × Nat))) (f : List (Nat × Nat)) : LBox → List (Nat × Nat)
  | [] => f
  | l :: ls => goA xs (openedA xs (laterA xs l f)) ls
def reachedA (xs : List ((Nat × Option Lay) × List (Nat × Nat))) (f : List (Nat × Nat)) (ls : LBox) : List (Nat × Nat) := goA xs (openedA xs f) ls
structure Ru where
  taken : LBox
  put : LBox
  step : D
def put1 (k : Nat × Option Lay) (st : List ((Nat × Option Lay) × List (Nat × Nat)) × Bool) (p : Nat × Nat) : List ((Nat × Option Lay) × List (Nat × Nat)) × Bool :=
  let known := (getA k st.1).getD []
  match getA p.1 known with
  | some w => if w > p.2 + 1 then (setA k (setA p.1 (p.2 + 1) known) (dflA k st.1), true) else (dflA k st.1, st.2)
  | none => (setA k (setA p.1 (p.2 + 1) known) (dflA k st.1), true)
def wid1 (st : List ((Nat × Option Lay) × List (Nat × Nat)) × Bool) (c : Ru × Nat) : List ((Nat × Option Lay) × List (Nat × Nat)) × Bool :=
  (reachedA st.1 [(0, 0)] c.1.put).foldl (put1 (c.2, c.1.taken.getLast?)) st
def widA (cs : List (Ru × Nat)) (xs : List ((Nat × Option Lay) × List (Nat × Nat))) : List ((Nat × Option Lay) × List (Nat × Nat)) × Bool := cs.foldl wid1 (xs, false)
def runA (cs : List (Ru × Nat)) : Nat → List ((Nat × Option Lay) × List (Nat × Nat)) → Option (List ((Nat × Option Lay) × List (Nat × Nat)))
  | 0, _ => none
  | n + 1, xs => if (widA cs xs).2 then runA cs n (widA cs xs).1 else some (widA cs xs).1
def chain1 (st : Au × List (Ru × Nat)) (r : Ru) : Au × List (Ru × Nat) := if r.taken = [] then (st.1, st.2 ++ [(r, 0)]) else ((pathA st.1 0 r.taken.dropLast).1, st.2 ++ [(r, (pathA st.1 0 r.taken.dropLast).2)])
def preA (rs : List Ru) (goal : LBox) : (Au × List (Ru × Nat)) × Nat :=
  (rs.foldl chain1 ((pathA ⟨[], [], 1⟩ 0 goal).1, []), (pathA ⟨[], [], 1⟩ 0 goal).2)
def ruD (r : Ru) : D := .ins "Rule" ["taken", "put", "step"] [.tup (r.taken.map layD), .tup (r.put.map layD), r.step]
def inD_ (g : List (Nat × Nat)) : D := .fk (g.map fun p => .inl (p.1 : Nat)) (g.map fun p => .int (p.2 : Nat))
def arD (xs : List ((Nat × Option Lay) × List (Nat × Nat))) : D := .dn true (xs.map fun p => arrK p.1) (xs.map fun p => inD_ p.2)
def trD (xs : List ((Nat × Lay) × Nat)) : D := .dn true (xs.map fun p => treK p.1) (xs.map fun p => .int (p.2 : Nat))
def chD (cs : List (Ru × Nat)) : D := .lst (cs.map fun c => .tup [ruD c.1, .int (c.2 : Nat)])
def cloN : List Str := ["arrows", "tree", "many", "end", "chains"]
def cloV (a : Au) (e : Nat) (cs : List (Ru × Nat)) : List D := [arD a.arrows, trD a.tree, .int (a.many : Nat), .int (e : Nat), chD cs]
def layO : D → Option Lay
  | .tup [.str k, .str x] => if k = "lock" then some (true, x) else if k = "tag" then some (false, x) else none
  | _ => none
def laysO : List D → Option LBox
  | [] => some []
  | d :: ds => (layO d).bind fun l => (laysO ds).map fun ls => l :: ls
def ruO : D → Option Ru
  | .ins c ns [.tup t, .tup p, s] => if c = "Rule" ∧ ns = (["taken", "put", "step"] : List Str) then (laysO t).bind fun t => (laysO p).map fun p => ⟨t, p, s⟩ else none
  | _ => none
def rusO : List D → Option (List Ru)
  | [] => some []
  | d :: ds => (ruO d).bind fun r => (rusO ds).map fun rs => r :: rs
end CL

set_option Elab.async false
set_option linter.all false
set_option maxRecDepth 100000
set_option maxHeartbeats 2000000
namespace FL
open PySem PySem.Spec PyProof.Rows L2
variable [Wrl] [Tabl]
section
variable {X : Cx} {W : WX} {e tg : Expr} {it : IF}
variable {o i : Expr} {td ty tv : TE} {pos pos' : Pos} {value : Expr}
end
end FL

set_option Elab.async false
set_option linter.all false
set_option maxRecDepth 100000
set_option maxHeartbeats 2000000
namespace CL
open PySem PySem.Spec PyProof.Rows L2 FL
abbrev Ars := List ((Nat × Option Lay) × List (Nat × Nat))
abbrev Trs := List ((Nat × Lay) × Nat)
def gkv (g : List (Nat × Nat)) : List (Key × V) := g.map fun p => (.inl ((p.1 : Nat) : Int), .int ((p.2 : Nat) : Int))
def zipA (xs : Ars) (ps : List Addr) : List (NestedKey × V) := List.zipWith (fun x p => (arrK x.1, V.ref p)) xs ps
def trV (xs : Trs) : List (NestedKey × V) := xs.map fun p => (treK p.1, .int ((p.2 : Nat) : Int))
section
variable [Wrl] [Tabl]
structure Clo (K : Frg) (G H : Hp) (ca A T : Addr) (fv : List (Str × V)) (a : Au) (ps : List Addr) : Prop where
  ins : ∃ dx, H ca = some (.ins (He.ga K "Closure") dx fv)
  fA : fv.lookup ("arrows" : Str) = some (.ref A)
  fT : fv.lookup ("tree" : Str) = some (.ref T)
  fM : fv.lookup ("many" : Str) = some (.int ((a.many : Nat) : Int))
  fl : fv.length < 900
  arr : ∃ o, H A = some o ∧ DNat K G A o (zipA a.arrows ps)
  tre : ∃ o, H T = some o ∧ DNat K G T o (trV a.tree)
  inn : Paired (fun (p : Addr) (x : (Nat × Option Lay) × List (Nat × Nat)) => H p = some (.dK (gkv x.2))) ps a.arrows
  nd : (T :: A :: ca :: ps).Nodup
  un : ∀ x ∈ T :: A :: ca :: ps, G x = none
  kn : (a.arrows.map (·.1)).Nodup
variable {K : Frg} {F : Fr} {Γ Γ' : En} {σ : FL.St} {H H' G G' : Hp} {ca A T : Addr} {fv : List (Str × V)} {a : Au} {ps : List Addr} {W : WX}
theorem Clo.len (C : Clo K G H ca A T fv a ps) : ps.length = a.arrows.length := Paired.length C.inn
theorem Clo.obj (C : Clo K G H ca A T fv a ps) : ∀ x ∈ T :: A :: ca :: ps, ∃ u, H x = some u ∧ NC x u := by
  intro x hx
  rcases List.mem_cons.mp hx with rfl | hx
  · obtain ⟨o, h, xs, rfl, _⟩ := C.tre
    exact ⟨_, h, fun _ z => (by cases z), fun _ z => code_ne z⟩
  rcases List.mem_cons.mp hx with rfl | hx
  · obtain ⟨o, h, xs, rfl, _⟩ := C.arr
    exact ⟨_, h, fun _ z => (by cases z), fun _ z => code_ne z⟩
  rcases List.mem_cons.mp hx with rfl | hx
  · obtain ⟨dx, h⟩ := C.ins
    exact ⟨_, h, fun _ z => (by cases z), fun _ z => by cases z⟩
  · have : ∀ {ps : List Addr} {xs : Ars}, Paired (fun (p : Addr) (x : (Nat × Option Lay) × List (Nat × Nat)) => H p = some (.dK (gkv x.2))) ps xs → ∀ p ∈ ps, ∃ g, H p = some (.dK (gkv g)) := by
      intro ps xs h
      induction h with
      | nil => exact fun _ h => by cases h
      | cons r t ih =>
        intro p hp
        rcases List.mem_cons.mp hp with rfl | hp
        · exact ⟨_, r⟩
        · exact ih p hp
    obtain ⟨g, h⟩ := this C.inn x hx
    exact ⟨_, h, fun _ z => (by cases z), fun _ z => by cases z⟩
theorem Clo.keep (C : Clo K G H ca A T fv a ps) (le : Le G G') (h : ∀ x ∈ T :: A :: ca :: ps, ∀ u, H x = some u → NT u → H' x = some u ∧ G' x = none) : Clo K G' H' ca A T fv a ps where
  ins := by
    obtain ⟨dx, e⟩ := C.ins
    exact ⟨dx, (h ca (by simp) _ e fun _ z => by cases z).1⟩
  fA := C.fA
  fT := C.fT
  fM := C.fM
  fl := C.fl
  arr := by
    obtain ⟨o, e, m⟩ := C.arr
    refine ⟨o, (h A (by simp) _ e ?_).1, m.mono (SqT.le le)⟩
    obtain ⟨xs, rfl, _⟩ := m
    exact fun _ z => by cases z
  tre := by
    obtain ⟨o, e, m⟩ := C.tre
    refine ⟨o, (h T (by simp) _ e ?_).1, m.mono (SqT.le le)⟩
    obtain ⟨xs, rfl, _⟩ := m
    exact fun _ z => by cases z
  inn := by
    have : ∀ {ps : List Addr} {xs : Ars}, (∀ p ∈ ps, ∀ u, H p = some u → NT u → H' p = some u ∧ G' p = none) → Paired (fun (p : Addr) (x : (Nat × Option Lay) × List (Nat × Nat)) => H p = some (.dK (gkv x.2))) ps xs → Paired (fun (p : Addr) (x : (Nat × Option Lay) × List (Nat × Nat)) => H' p = some (.dK (gkv x.2))) ps xs := by
      intro ps xs hk h
      induction h with
      | nil => exact .nil
      | cons r t ih => exact .cons (hk _ List.mem_cons_self _ r fun _ z => by cases z).1 (ih fun p hp => hk p (List.mem_cons_of_mem _ hp))
    exact this (fun p hp => h p (List.mem_cons_of_mem _ (List.mem_cons_of_mem _ (List.mem_cons_of_mem _ hp)))) C.inn
  nd := C.nd
  un := fun x hx => by
    obtain ⟨u, e, n⟩ := C.obj x hx
    exact (h x hx u e n.1).2
  kn := C.kn
structure HR (K : Frg) (F : Fr) (Γ : En) (σ : FL.St) (H G : Hp) (ca A T : Addr) (fv : List (Str × V)) (a : Au) (ps : List Addr) : Prop where
  R : Rl K F Γ σ H G
  C : Clo K G H ca A T fv a ps
  fp : ∀ x ∈ T :: A :: ca :: ps, F.He x = none
  bi : F.bi = none
  ow : ∀ j, ¬ ownAt Γ j
theorem HR.back (h : HR K F Γ σ H G ca A T fv a ps) (R' : Rl K (reb Γ σ H G F) Γ' σ H' G') (le : Le G G') (ow : ∀ j, ¬ ownAt Γ' j) : HR K F Γ' σ H' G' ca A T fv a ps :=
  ⟨h.R.unrebase R', h.C.keep le fun x hx u e n => by
    obtain ⟨k1, k2, _⟩ := h.R.stays R' e (fun j z => absurd z (h.ow j)) (.inl h.bi) (h.C.un x hx) n
    exact ⟨k1, k2⟩, h.fp, h.bi, ow⟩
theorem HR.fe {f : EF} {ev : EV} {Q : VK} (h : HR K F Γ σ H G ca A T fv a ps) (e : f Γ = .ok ev Γ') (ow : ∀ j, ¬ ownAt Γ' j) (q : ∀ v H' G', HR K F Γ' σ H' G' ca A T fv a ps → Le G G' → vrel K σ G' ev v → Q v H') : wpE K W f σ H Q := by
  refine ⟨_, Γ, G, h.R.rebase, ?_⟩
  rw [e]
  exact fun v H' G' R' le r => q v H' G' (h.back R' le ow) le r
theorem HR.upd {p : Addr} {u' : HO} (h : HR K F Γ σ H G ca A T fv a ps) (hp : p ∈ T :: A :: ca :: ps) : Rl K F Γ σ (upd H p u') G := by
  obtain ⟨u, e, n⟩ := h.C.obj p hp
  exact h.R.updNew e n (h.C.un p hp) (h.fp p hp) (.inl h.bi) fun j z => absurd z (h.ow j)
end
end CL

set_option Elab.async false
set_option linter.all false
set_option maxRecDepth 100000
set_option maxHeartbeats 2000000
namespace CL
open PySem PySem.Spec PyProof.Rows L2 FL
theorem gkv_put (n w : Nat) (g : List (Nat × Nat)) : putK (gkv g) (.inl (n : Int)) (.int (w : Int)) = gkv (setA n w g) := by
  have ha : ((gkv g).any fun kv => decide (kv.1 = .inl (n : Int))) = g.any fun p => decide (p.1 = n) := by
    unfold gkv
    rw [List.any_map]
    congr 1
    funext p
    by_cases h : p.1 = n
    · rw [decide_eq_true h]; exact decide_eq_true (show (Sum.inl ((p.1 : Nat) : Int) : Key) = Sum.inl (n : Int) by rw [h])
    · rw [decide_eq_false h]
      refine decide_eq_false fun z => h ?_
      have : ((p.1 : Nat) : Int) = n := Sum.inl.inj z
      omega
  unfold putK setA
  rw [ha]
  split
  · unfold gkv
    rw [List.map_map, List.map_map]
    refine List.map_congr_left fun p _ => ?_
    simp only [Function.comp_apply]
    by_cases h : p.1 = n
    · rw [if_pos h, if_pos (show (Sum.inl ((p.1 : Nat) : Int) : Key) = Sum.inl (n : Int) by rw [h]), h]
    · rw [if_neg h, if_neg fun z => h (by have : ((p.1 : Nat) : Int) = n := Sum.inl.inj z; omega)]
  · unfold gkv
    rw [List.map_append]; rfl
theorem set_uniq {κ α : Type} [DecidableEq κ] {k : κ} {v w : α} : ∀ {xs : List (κ × α)} {i : Nat}, (xs.map (·.1)).Nodup → xs[i]? = some (k, v) → xs.set i (k, w) = setA k w xs
  | [], i, _, h => by simp at h
  | p :: xs, 0, nd, h => by
    simp only [List.getElem?_cons_zero, Option.some.injEq] at h
    subst h
    obtain ⟨n1, n2⟩ := List.nodup_cons.mp nd
    unfold setA
    rw [List.any_cons, decide_eq_true rfl, Bool.true_or, if_pos rfl, List.map_cons, if_pos rfl]
    show (k, w) :: xs = (k, w) :: _
    congr 1
    rw [List.map_congr_left (g := id) fun q hq => ?_, List.map_id]
    rw [if_neg fun z => n1 (by show k ∈ _; rw [← z]; exact List.mem_map_of_mem (f := (·.1)) hq)]; rfl
  | p :: xs, i + 1, nd, h => by
    simp only [List.getElem?_cons_succ] at h
    obtain ⟨n1, n2⟩ := List.nodup_cons.mp nd
    have ih := set_uniq (w := w) n2 h
    have hk : ¬ p.1 = k := fun z => n1 (by show p.1 ∈ _; rw [z]; exact List.mem_map_of_mem (f := (·.1)) (List.mem_of_getElem? h))
    rw [List.set_cons_succ, ih]
    unfold setA
    rw [List.any_cons, decide_eq_false hk, Bool.false_or]
    split
    · rw [List.map_cons, if_neg hk]
    · rfl
theorem setA_keys {κ α : Type} [DecidableEq κ] {k : κ} {v : α} {xs : List (κ × α)} (h : (getA k xs).isSome = true) : (setA k v xs).map (·.1) = xs.map (·.1) := by
  unfold setA
  rw [getA_any, h, if_pos rfl, List.map_map]
  refine List.map_congr_left fun p _ => ?_
  simp only [Function.comp_apply]
  by_cases e : p.1 = k
  · rw [if_pos e]
  · rw [if_neg e]
theorem inn_upd {H : Hp} {q : Addr} {o : HO} : ∀ {ps : List Addr} {xs : Ars}, (∀ p ∈ ps, p ≠ q) → Paired (fun (p : Addr) (x : (Nat × Option Lay) × List (Nat × Nat)) => H p = some (.dK (gkv x.2))) ps xs → Paired (fun (p : Addr) (x : (Nat × Option Lay) × List (Nat × Nat)) => upd H q o p = some (.dK (gkv x.2))) ps xs
  | _, _, _, .nil => .nil
  | _, _, hk, .cons r t => .cons (by rw [upd_ne (hk _ List.mem_cons_self)]; exact r) (inn_upd (fun p hp => hk p (List.mem_cons_of_mem _ hp)) t)
section
variable [Wrl] [Tabl]
variable {X : Cx} {F : Fr} {Γ Γ' : En} {σ : FL.St} {H H' G G' : Hp} {ca A T : Addr} {fv : List (Str × V)} {a : Au} {ps : List Addr} {W : WX} {D : Ends}
structure KC (K : Frg) : Prop where
  cl : Cls K (He.ga K "Closure")
  nA : NoAttr K (He.ga K "Closure") "arrows"
  nT : NoAttr K (He.ga K "Closure") "tree"
  nM : NoAttr K (He.ga K "Closure") "many"
  nE : NoAttr K (He.ga K "Closure") "end"
  nC : NoAttr K (He.ga K "Closure") "chains"
theorem Clo.rd (C : Clo X.K G H ca A T fv a ps) (gh : Le G H) : TrD X H A (zipA a.arrows ps) ∧ TrD X H T (trV a.tree) := by
  obtain ⟨o, e, m⟩ := C.arr
  obtain ⟨o', e', m'⟩ := C.tre
  exact ⟨.at_ e (m.mono (SqT.le gh)), .at_ e' (m'.mono (SqT.le gh))⟩
end
end CL

set_option Elab.async false
set_option linter.all false
set_option maxRecDepth 100000
set_option maxHeartbeats 2000000
namespace CL
open PySem PySem.Spec PyProof.Rows L2 FL
theorem zip_keys {xs ys : Ars} {ps : List Addr} (h : xs.map (·.1) = ys.map (·.1)) : zipA xs ps = zipA ys ps := by
  induction xs generalizing ys ps with
  | nil =>
    cases ys with
    | nil => rfl
    | cons _ _ => cases h
  | cons x xs ih =>
    cases ys with
    | nil => cases h
    | cons y ys =>
      cases ps with
      | nil => rfl
      | cons p ps =>
        obtain ⟨h1, h2⟩ := List.cons.inj h
        show (arrK x.1, _) :: zipA xs ps = (arrK y.1, _) :: zipA ys ps
        rw [ih h2, show x.1 = y.1 from h1]
section
variable [Wrl] [Tabl]
variable {X : Cx} {F : Fr} {Γ Γ' : En} {σ : FL.St} {H H' G G' : Hp} {ca A T : Addr} {fv : List (Str × V)} {a : Au} {ps : List Addr} {W : WX} {D : Ends}
theorem put_inner {i n w : Nat} {k : Nat × Option Lay} {g : List (Nat × Nat)} {p : Addr} (h : HR X.K F Γ σ H G ca A T fv a ps) (hi : a.arrows[i]? = some (k, g)) (hp : ps[i]? = some p) :
    H p = some (.dK (gkv g)) ∧ HR X.K F Γ σ (upd H p (.dK (putK (gkv g) (.inl (n : Int)) (.int (w : Int))))) G ca A T fv ⟨setA k (setA n w g) a.arrows, a.tree, a.many⟩ ps := by
  have hm : p ∈ ps := List.mem_of_getElem? hp
  have hH : H p = some (.dK (gkv g)) := by
    obtain ⟨x, hx, r⟩ := L2.paired_get h.C.inn hp
    rw [hi] at hx
    cases hx
    exact r
  refine ⟨hH, h.upd (by simp [hm]), ?_, h.fp, h.bi, h.ow⟩
  have nd := h.C.nd
  obtain ⟨n1, n2⟩ := List.nodup_cons.mp nd
  obtain ⟨n3, n4⟩ := List.nodup_cons.mp n2
  obtain ⟨n5, n6⟩ := List.nodup_cons.mp n4
  have nT : T ≠ p := fun z => n1 (by rw [z]; simp [hm])
  have nA : A ≠ p := fun z => n3 (by rw [z]; simp [hm])
  have nC : ca ≠ p := fun z => n5 (by rw [z]; exact hm)
  have gs : (getA k a.arrows).isSome = true := by
    rw [← getA_any]
    exact List.any_eq_true.mpr ⟨_, List.mem_of_getElem? hi, decide_eq_true rfl⟩
  have hk := setA_keys (k := k) (v := setA n w g) gs
  refine ⟨?_, h.C.fA, h.C.fT, h.C.fM, h.C.fl, ?_, ?_, ?_, nd, h.C.un, by show ((setA k (setA n w g) a.arrows).map (·.1)).Nodup; rw [hk]; exact h.C.kn⟩
  · obtain ⟨dx, e⟩ := h.C.ins
    exact ⟨dx, by rw [upd_ne nC]; exact e⟩
  · obtain ⟨o, e, m⟩ := h.C.arr
    refine ⟨o, by rw [upd_ne nA]; exact e, ?_⟩
    show DNat X.K G A o (zipA (setA k (setA n w g) a.arrows) ps)
    rw [zip_keys hk]; exact m
  · obtain ⟨o, e, m⟩ := h.C.tre
    exact ⟨o, by rw [upd_ne nT]; exact e, m⟩
  · show Paired _ ps (setA k (setA n w g) a.arrows)
    rw [← set_uniq (w := setA n w g) h.C.kn hi]
    have : ∀ {ps : List Addr} {xs : Ars} {i : Nat}, ps.Nodup → ps[i]? = some p → xs[i]? = some (k, g) → Paired (fun (p : Addr) (x : (Nat × Option Lay) × List (Nat × Nat)) => H p = some (.dK (gkv x.2))) ps xs → Paired (fun (q : Addr) (x : (Nat × Option Lay) × List (Nat × Nat)) => upd H p (.dK (putK (gkv g) (.inl (n : Int)) (.int (w : Int)))) q = some (.dK (gkv x.2))) ps (xs.set i (k, setA n w g)) := by
      intro ps xs i nd h1 h2 h
      induction h generalizing i with
      | nil => simp at h1
      | @cons q x ps xs r t ih =>
        obtain ⟨d1, d2⟩ := List.nodup_cons.mp nd
        cases i with
        | zero =>
          simp only [List.getElem?_cons_zero, Option.some.injEq] at h1 h2
          subst h1 h2
          refine .cons ?_ (inn_upd (fun z hz e => d1 (e ▸ hz)) t)
          rw [upd_same, gkv_put]
        | succ j =>
          simp only [List.getElem?_cons_succ] at h1 h2
          refine .cons ?_ (ih d2 h1 h2)
          have hq : q ≠ p := fun z => d1 (by rw [z]; exact List.mem_of_getElem? h1)
          show upd H p _ q = _
          rw [upd_ne hq]; exact r
    exact this n6 hp hi h.C.inn
end
end CL

set_option Elab.async false
set_option linter.all false
set_option maxRecDepth 100000
set_option maxHeartbeats 2000000
namespace CL
open PySem PySem.Spec PyProof.Rows L2 FL
def Sz (a : Au) (n : Nat) : Prop := a.arrows.length + n < sizeLine ∧ a.tree.length + n < sizeLine ∧ ∀ x ∈ a.arrows, x.2.length + n < sizeLine
theorem setA_le {κ α : Type} [DecidableEq κ] (k : κ) (v : α) (xs : List (κ × α)) : (setA k v xs).length ≤ xs.length + 1 := by
  unfold setA; split <;> simp
theorem dfl_le (k : Nat × Option Lay) (xs : Ars) : (dflA k xs).length ≤ xs.length + 1 := by
  unfold dflA; split <;> simp
theorem dfl_has (k : Nat × Option Lay) (xs : Ars) : (getA k (dflA k xs)).isSome = true := by
  unfold dflA
  cases h : getA k xs with
  | some g => simp only [h]; rfl
  | none =>
    simp only
    rw [← getA_any, List.any_append, List.any_cons, decide_eq_true rfl, Bool.true_or, Bool.or_true]
theorem setA_len' {κ α : Type} [DecidableEq κ] {k : κ} {v : α} {xs : List (κ × α)} (h : (getA k xs).isSome = true) : (setA k v xs).length = xs.length := by
  have := congrArg List.length (setA_keys (v := v) h)
  rwa [List.length_map, List.length_map] at this
theorem setA_mem {κ α : Type} [DecidableEq κ] {k : κ} {v : α} {xs : List (κ × α)} {x : κ × α} (h : x ∈ setA k v xs) : x ∈ xs ∨ x = (k, v) := by
  unfold setA at h
  split at h
  · obtain ⟨p, hp, e⟩ := List.mem_map.mp h
    split at e
    · rename_i hk; exact .inr (by rw [← e, hk])
    · exact .inl (e ▸ hp)
  · rcases List.mem_append.mp h with h | h
    · exact .inl h
    · exact .inr (List.mem_singleton.mp h)
theorem dfl_mem {k : Nat × Option Lay} {xs : Ars} {x} (h : x ∈ dflA k xs) : x ∈ xs ∨ x = (k, []) := by
  unfold dflA at h
  split at h
  · exact .inl h
  · rcases List.mem_append.mp h with h | h
    · exact .inl h
    · exact .inr (List.mem_singleton.mp h)
theorem getA_mem {κ α : Type} [DecidableEq κ] {k : κ} {v : α} {xs : List (κ × α)} (h : getA k xs = some v) : (k, v) ∈ xs := by
  unfold getA at h
  obtain ⟨p, h1, rfl⟩ := Option.map_eq_some_iff.mp h
  have := List.find?_some h1
  rw [← of_decide_eq_true this]
  exact List.mem_of_find?_eq_some h1
theorem getD_len {k : Nat × Option Lay} {a : Au} {n : Nat} (h : Sz a n) : ((getA k a.arrows).getD []).length + n < sizeLine := by
  cases e : getA k a.arrows with
  | none => have := h.1; show 0 + n < _; omega
  | some g => exact h.2.2 _ (getA_mem e)
theorem Sz.path1 {a : Au} {s : Nat} {l : Lay} {n : Nat} (h : Sz a (n + 1)) : Sz (path1 a s l).1 n := by
  unfold CL.path1
  cases e : getA (s, l) a.tree with
  | some t => exact ⟨by have := h.1; show a.arrows.length + n < _; omega, by have := h.2.1; show a.tree.length + n < _; omega, fun x hx => by have := h.2.2 x hx; omega⟩
  | none =>
    refine ⟨?_, ?_, fun x hx => ?_⟩
    · show (setA _ _ _).length + n < _
      rw [setA_len' (dfl_has _ _)]
      have := dfl_le (s, some l) a.arrows
      have := h.1
      omega
    · show (setA _ _ _).length + n < _
      have := setA_le (s, l) a.many a.tree
      have := h.2.1
      omega
    · rcases setA_mem hx with hx | rfl
      · rcases dfl_mem hx with hx | rfl
        · have := h.2.2 x hx; omega
        · have := h.1; show 0 + n < _; omega
      · have h1 := setA_le a.many 0 ((getA (s, some l) a.arrows).getD [])
        have h2 := getD_len (k := (s, some l)) h
        show (setA _ _ _).length + n < _
        omega
section
variable [Wrl] [Tabl]
variable {K : Frg} {X : Cx} {F : Fr} {Γ Γ' : En} {σ σ' : FL.St} {H H' G G' : Hp} {ca A T : Addr} {fv fv' : List (Str × V)} {a a' : Au} {ps ps' : List Addr} {W : WX} {D : Ends}
open Classical in noncomputable def visO (H : Hp) (fp : List Addr) : Hp := fun x => if x ∈ fp then none else vis H x
theorem visO_none {H : Hp} {fp : List Addr} {x : Addr} (h : visO H fp x = none) : x ∈ fp ∨ ∀ u, H x = some u → ¬ NT u := by
  unfold visO at h
  split at h
  · rename_i hx; exact .inl hx
  · exact .inr (vis_none h)
structure AftC (K : Frg) (G H : Hp) (fp : List Addr) (G' H' : Hp) (fp' : List Addr) : Prop where
  le : Le G G'
  gh : Le G' H'
  keep : ∀ x o, H x = some o → NT o → x ∉ fp → H' x = some o
  gn : ∀ x o, G' x = some o → G x = some o ∨ x ∈ fp ∨ ∀ u, H x = some u → ¬ NT u
  t0 : Tb0 K H' G'
  nw : ∀ x ∈ fp', x ∈ fp ∨ ∀ u, H x = some u → ¬ NT u
theorem HR.aft {fp : List Addr} {H0 G0 : Hp} {b : Addr} (h : HR K ⟨visO H0 fp, G0, none, b⟩ Γ σ H G ca A T fv a ps) : AftC K G0 H0 fp G H (T :: A :: ca :: ps) where
  le := h.R.ge
  gh := h.R.gh
  keep := fun x o e n hx => h.R.he x o (by show visO H0 fp x = some o; unfold visO; rw [if_neg hx]; exact vis_of e n) (.inl rfl)
  gn := fun x o e => (h.R.gn x o e).imp id visO_none
  t0 := h.R.tb.t0
  nw := fun x hx => visO_none (h.fp x hx)
theorem HR.after (h : HR K F Γ σ H G ca A T fv a ps) (B : AftC K G H (T :: A :: ca :: ps) G' H' (T :: A :: ca :: ps')) (C' : Clo K G' H' ca A T fv' a' ps') : HR K F Γ σ H' G' ca A T fv' a' ps' := by
  have nb : ∀ i, F.bi ≠ some i := fun i z => by rw [h.bi] at z; cases z
  refine ⟨⟨h.R.len, B.gh, h.R.ge.trans B.le, fun x o e q => B.keep x o (h.R.he x o e q) (h.R.tb.ht x o e) fun hx => ?_, fun x o e => ?_, fun i d e => ?_, fun i o e => absurd ⟨o, e⟩ (h.ow i), fun i o e => absurd (h.R.bo i o e).1 (nb i), fun i e => absurd e (nb i), ⟨h.R.tb.ht, B.t0⟩⟩, C', fun x hx => ?_, h.bi, h.ow⟩
  · rw [h.fp x hx] at e; cases e
  · rcases B.gn x o e with z | z | z
    · exact h.R.gn x o z
    · exact .inr (h.fp x z)
    · exact .inr (h.R.heNoneV z)
  · obtain ⟨v, h1, h2⟩ := h.R.sl i d e
    exact ⟨v, h1, Rep.le B.le _ _ h2⟩
  · rcases B.nw x hx with z | z
    · exact h.fp x z
    · exact h.R.heNoneV z
theorem HR.back' (h : HR K F Γ σ H G ca A T fv a ps) (R' : Rl K (reb Γ σ H G F) Γ' σ' H' G') (le : Le G G') (ow : ∀ j, ¬ ownAt Γ' j) : HR K F Γ' σ' H' G' ca A T fv a ps :=
  ⟨h.R.unrebase R', h.C.keep le fun x hx u e n => by
    obtain ⟨k1, k2, _⟩ := h.R.stays R' e (fun j z => absurd z (h.ow j)) (.inl h.bi) (h.C.un x hx) n
    exact ⟨k1, k2⟩, h.fp, h.bi, ow⟩
theorem ow_set {i : Nat} {d : FL.D} (h : ∀ j, ¬ ownAt Γ j) : ∀ j, ¬ ownAt (Γ.set i (.im d)) j := fun j ⟨o, e⟩ => by
  rcases get_set e with ⟨_, _, z⟩ | ⟨_, z⟩
  · cases z
  · exact h j ⟨o, z⟩
theorem HR.set {i : Nat} {d : FL.D} {v : V} (h : HR K F Γ σ H G ca A T fv a ps) (r : Rep K G d v) : HR K F (Γ.set i (.im d)) (σ.set i (some v)) H G ca A T fv a ps :=
  ⟨h.R.setIm (by rw [h.bi]; exact fun z => nomatch z) r, h.C, h.fp, h.bi, ow_set h.ow⟩
theorem HR.stop {J : It} {ds : List FL.D} {G0 : Hp} {i : Nat} (h : HR K F Γ σ H G ca A T fv a ps) (wk : Walks K J ds G0) (le : Le G0 G) (e : ds.length ≤ i) : J.stop i H :=
  (wk _ Γ σ H G i h.R.rebase le).2 e
def Same (fv fv' : List (Str × V)) : Prop := (∀ f : Str, f ≠ "many" → fv'.lookup f = fv.lookup f) ∧ fv'.map (·.1) = fv.map (·.1)
theorem Same.refl (fv : List (Str × V)) : Same fv fv := ⟨fun _ _ => rfl, rfl⟩
theorem Same.trans {f1 f2 f3 : List (Str × V)} (h : Same f1 f2) (k : Same f2 f3) : Same f1 f3 := ⟨fun f hf => by rw [k.1 f hf, h.1 f hf], by rw [k.2, h.2]⟩
end
end CL

set_option Elab.async false
set_option linter.all false
set_option maxRecDepth 100000
set_option maxHeartbeats 2000000
namespace CL
open PySem PySem.Spec PyProof.Rows L2 FL
variable [Wrl] [Tabl]
variable {K : Frg} {X : Cx} {F : Fr} {Γ Γ' : En} {σ σ' : FL.St} {H H' G G' : Hp} {ca A T : Addr} {fv fv' : List (Str × V)} {a a' : Au} {ps ps' : List Addr} {W : WX} {D : Ends}
end CL

set_option Elab.async false
set_option linter.all false
set_option maxRecDepth 100000
set_option maxHeartbeats 2000000
namespace FL
open PySem PySem.Spec PyProof.Rows L2
variable [Wrl] [Tabl]
section
variable {X : Cx} {W : WX} {o e : Expr} {es : List Expr} {cn m : Str} {k : Nat} {fa' : Addr} {fd : FuncData} {ps : List Str} {ds : List Value} {dvs : List V} {sp : Sp} {ta : TE} {t : TA} {apos pos : Pos} {C : Addr}
end
end FL

set_option Elab.async false
set_option linter.all false
set_option maxRecDepth 100000
set_option maxHeartbeats 2000000
namespace FL
open PySem PySem.Spec PyProof.Rows L2
variable [Wrl] [Tabl]
variable {X : Cx} {W : WX} {e : Expr} {es : List Expr}
def wpA (K : Frg) (W : WX) (f : AF) : TA := fun σ H Q => ∃ F Γ G, Rl K F Γ σ H G ∧ match f Γ with
  | .ok ev Γ' => ∀ v H' G', Rl K F Γ' σ H' G' → Le G G' → vsrel K σ G' ev v → Q v H'
  | .exc c ns fs Γ' => ∀ cls dx H' G', Rl K F Γ' σ H' G' → Le G G' → XRep K G' c ns fs cls dx → W cls dx σ H'
  | .fail => False
theorem FA.wp {f : AF} (h : FA X W es f) : PA X es (wpA X.K W f) := by
  obtain ⟨t, p, s⟩ := h
  refine ⟨fun pos pins s' σ H Q I q => p.run pos pins s' σ H Q I ?_⟩
  obtain ⟨F, Γ, G, R, q⟩ := q
  have k := s F Γ σ H G R
  revert q k
  cases f Γ with
  | fail => exact fun q _ => q.elim
  | ok ev Γ' => exact fun q k => k Q q
  | exc c ns fs Γ' => exact fun q k => k Q q
end FL
namespace CL
open PySem PySem.Spec PyProof.Rows L2 FL
variable [Wrl] [Tabl]
variable {K : Frg} {X : Cx} {F : Fr} {Γ Γ' : En} {σ σ' : FL.St} {H H' G G' : Hp} {ca A T : Addr} {fv fv' : List (Str × V)} {a a' : Au} {ps ps' : List Addr} {W : WX} {D : Ends}
end CL

set_option Elab.async false
set_option linter.all false
set_option maxRecDepth 100000
set_option maxHeartbeats 2000000
namespace CL
open PySem PySem.Spec PyProof.Rows L2 FL
variable [Wrl] [Tabl]
variable {K : Frg} {X : Cx} {F : Fr} {Γ Γ' : En} {σ σ' : FL.St} {H H' G G' : Hp} {ca A T : Addr} {fv fv' : List (Str × V)} {a a' : Au} {ps ps' : List Addr} {W : WX} {D : Ends}
open Classical in noncomputable def telA (G H1 : Hp) (fp : List Addr) : Hp := fun x => if x ∈ fp then H1 x else G x
end CL

set_option Elab.async false
set_option linter.all false
set_option maxRecDepth 100000
set_option maxHeartbeats 2000000
namespace CL
open PySem PySem.Spec PyProof.Rows L2 FL
def RuOk (r : Ru) : Prop := eqB (.tup (r.taken.map layD)) (.tup []) = some (decide (r.taken = []))
def RSm (xs : Ars) : Prop := ∃ n, 0 < n ∧ n < sizeLine ∧ ∀ x ∈ xs, ∀ p ∈ x.2, p.1 < n
structure WOk (cs : List (Ru × Nat)) (Ok : Ars → Prop) (Gl : Nat → Prop) : Prop where
  ru : ∀ c ∈ cs, RuOk c.1
  sm : ∀ {xs}, Ok xs → RSm xs
  len : ∀ {xs}, Ok xs → xs.length < sizeLine ∧ ∀ x ∈ xs, x.2.length < sizeLine
  rch : ∀ {xs c p}, Ok xs → c ∈ cs → p ∈ reachedA xs [(0, 0)] c.1.put → Gl p.1
  put : ∀ {xs c p b}, Ok xs → c ∈ cs → Gl p.1 → Ok (put1 (c.2, c.1.taken.getLast?) (xs, b) p).1
variable [Wrl] [Tabl]
variable {K : Frg} {X : Cx} {F : Fr} {Γ Γ' : En} {σ σ' : FL.St} {H H' G G' : Hp} {ca A T : Addr} {fv fv' : List (Str × V)} {a a' : Au} {ps ps' : List Addr} {W : WX} {D : Ends}
theorem HR.nb (h : HR K F Γ σ H G ca A T fv a ps) (i : Nat) : isBor Γ i = false := by
  cases hb : isBor Γ i with
  | false => rfl
  | true =>
    unfold isBor at hb
    split at hb
    · rename_i o e3
      have := (h.R.bo i o e3).1
      rw [h.bi] at this; cases this
    · cases hb
theorem HR.no {i : Nat} {x : Option V} (h : HR K F Γ σ H G ca A T fv a ps) : HR K F (Γ.set i .no) (σ.set i x) H G ca A T fv a ps :=
  ⟨h.R.setNo (by rw [h.bi]; exact fun z => nomatch z), h.C, h.fp, h.bi, fun j ⟨o, e⟩ => by
    rcases get_set e with ⟨_, _, z⟩ | ⟨_, z⟩
    · cases z
    · exact h.ow j ⟨o, z⟩⟩
theorem HR.at {i : Nat} {k : Nat × Option Lay} {g : List (Nat × Nat)} {p : Addr} (h : HR X.K F Γ σ H G ca A T fv a ps) (hi : a.arrows[i]? = some (k, g)) (hp : ps[i]? = some p) : H p = some (.dK (gkv g)) := (put_inner (n := 0) (w := 0) h hi hp).1
end CL

set_option Elab.async false
set_option linter.all false
set_option maxRecDepth 100000
set_option maxHeartbeats 2000000
namespace CL
open PySem PySem.Spec PyProof.Rows L2 FL
variable [Wrl] [Tabl]
variable {K : Frg} {X : Cx} {F : Fr} {Γ Γ' : En} {σ σ' : FL.St} {H H' G G' : Hp} {ca A T : Addr} {fv fv' : List (Str × V)} {a a' : Au} {ps ps' : List Addr} {W : WX} {D : Ends}
end CL

set_option Elab.async false
set_option linter.all false
set_option maxRecDepth 100000
set_option maxHeartbeats 2000000
namespace CL
open PySem PySem.Spec PyProof.Rows L2 FL
def lens (rs : List Ru) : Nat := (rs.map fun r => r.taken.length).sum
structure InitOk (rs : List Ru) (g : LBox) : Prop where
  wo : ∃ (Ok : Ars → Prop) (Gl : Nat → Prop), WOk (preA rs g).1.2 Ok Gl ∧ Ok (preA rs g).1.1.arrows
  sz : g.length + lens rs < sizeLine
  ln : rs.length < sizeLine
  ru : ∀ r ∈ rs, RuOk r
open Classical in noncomputable def initF : DFn := fun ds => match ds with
  | [.ins c [] [], .lst rs, .tup g] => (match rusO rs, laysO g with
    | some rs, some g => if h : (c = "Closure" ∧ InitOk rs g) ∧ ∃ n xs, runA (preA rs g).1.2 n (preA rs g).1.1.arrows = some xs then .ok .non (some (.i "Closure" cloN (cloV ⟨h.2.choose_spec.choose, (preA rs g).1.1.tree, (preA rs g).1.1.many⟩ (preA rs g).2 (preA rs g).1.2))) else .fail
    | _, _ => .fail)
  | _ => .fail
theorem Sz.mono {a : Au} {n m : Nat} (h : Sz a n) (k : m ≤ n) : Sz a m := ⟨by have := h.1; omega, by have := h.2.1; omega, fun x hx => by have := h.2.2 x hx; omega⟩
end CL

set_option Elab.async false
set_option linter.all false
set_option maxRecDepth 100000
set_option maxHeartbeats 2000000
namespace FL
open PySem PySem.Spec PyProof.Rows L2
variable [Wrl] [Tabl]
variable {X : Cx} {W : WX} {e : Expr} {st : Stmt}
def wpV (K : Frg) (W : WX) (f : VF) : TE := fun σ H Q => ∃ F Γ G, Rl K F Γ σ H G ∧ match f Γ with
  | .ok x Γ' => ∀ v H' G', Rl K F Γ' σ H' G' → Le G G' → vvrel K F Γ' σ H' G' x v → Q v H'
  | .exc c ns fs Γ' => ∀ cls dx H' G', Rl K F Γ' σ H' G' → Le G G' → XRep K G' c ns fs cls dx → W cls dx σ H'
  | .fail => False
theorem FV.wp {f : VF} (h : FV X W e f) : PE X e (wpV X.K W f) := by
  obtain ⟨t, p, s⟩ := h
  refine ⟨fun pins s' σ H Q I q => p.run pins s' σ H Q I ?_⟩
  obtain ⟨F, Γ, G, R, q⟩ := q
  have k := s F Γ σ H G R
  revert q k
  cases f Γ with
  | fail => exact fun q _ => q.elim
  | ok ev Γ' => exact fun q k => k Q q
  | exc c ns fs Γ' => exact fun q k => k Q q
end FL
namespace CL
open PySem PySem.Spec PyProof.Rows L2 FL
variable [Wrl] [Tabl]
variable {K : Frg} {X : Cx} {F : Fr} {Γ Γ' : En} {σ σ' : FL.St} {H H' G G' : Hp} {ca A T : Addr} {fv fv' : List (Str × V)} {a a' : Au} {ps ps' : List Addr} {W : WX} {D : Ends}
def Kpt (G H : Hp) (fp : List Addr) (G' H' : Hp) (fp' : List Addr) : Prop := Le G G' ∧ ∀ x u, H x = some u → NT u → G x = none → x ∉ fp → H' x = some u ∧ G' x = none ∧ x ∉ fp'
theorem Kpt.trans {G1 H1 G2 H2 G3 H3 : Hp} {f1 f2 f3 : List Addr} (h : Kpt G1 H1 f1 G2 H2 f2) (k : Kpt G2 H2 f2 G3 H3 f3) : Kpt G1 H1 f1 G3 H3 f3 := ⟨h.1.trans k.1, fun x u e n g hx => let ⟨e2, g2, x2⟩ := h.2 x u e n g hx; k.2 x u e2 n g2 x2⟩
theorem HR.kpt (h : HR K F Γ σ H G ca A T fv a ps) (R' : Rl K (reb Γ σ H G F) Γ' σ' H' G') (le : Le G G') : Kpt G H (T :: A :: ca :: ps) G' H' (T :: A :: ca :: ps) :=
  ⟨le, fun x u e n g hx => let ⟨k1, k2, _⟩ := h.R.stays R' e (fun j z => absurd z (h.ow j)) (.inl h.bi) g n; ⟨k1, k2, hx⟩⟩
theorem AftC.kpt {fp fp' : List Addr} (B : AftC K G H fp G' H' fp') : Kpt G H fp G' H' fp' := ⟨B.le, fun x u e n g hx => ⟨B.keep x u e n hx, by
    cases z : G' x with
    | none => rfl
    | some o =>
      rcases B.gn x o z with y | y | y
      · rw [g] at y; cases y
      · exact absurd y hx
      · exact absurd n (y u e), fun hm => (B.nw x hm).elim hx fun y => y u e n⟩⟩
theorem HR.fiK {f : IF} {ds : List FL.D} {Q : It → Hp → Prop} (h : HR K F Γ σ H G ca A T fv a ps) (e : f Γ = .ok ds Γ') (ow : ∀ j, ¬ ownAt Γ' j) (q : ∀ J H' G', HR K F Γ' σ H' G' ca A T fv a ps → Kpt G H (T :: A :: ca :: ps) G' H' (T :: A :: ca :: ps) → Walks K J ds G' → Q J H') : wpI K W f σ H Q := by
  refine ⟨_, Γ, G, h.R.rebase, ?_⟩
  rw [e]
  exact fun J H' G' R' le wk => q J H' G' (h.back' R' le ow) (h.kpt R' le) wk
theorem HR.tell {p : Addr} {u : HO} (h : HR K F Γ σ H G ca A T fv a ps) (hp : H p = some u) (nt : NT u) (hg : G p = none) (he : F.He p = none) (hf : p ∉ T :: A :: ca :: ps) : HR K F Γ σ H (L2.upd G p u) ca A T fv a ps :=
  ⟨h.R.tell hp he hg (fun j z => absurd z (h.ow j)) nt, h.C.keep (Le.upd hg) fun x hx w e _ => ⟨e, by rw [upd_ne (show x ≠ p from fun z => hf (z ▸ hx))]; exact h.C.un x hx⟩, h.fp, h.bi, h.ow⟩
theorem HR.setF {f : Str} {v : V} {dx : Addr} (h : HR K F Γ σ H G ca A T fv a ps) (n1 : f ≠ "arrows") (n2 : f ≠ "tree") (n3 : f ≠ "many") (hl : (putF f v fv).length < 900) : HR K F Γ σ (L2.upd H ca (.ins (He.ga K "Closure") dx (putF f v fv))) G ca A T (putF f v fv) a ps := by
  have nd := h.C.nd
  obtain ⟨m1, m2⟩ := List.nodup_cons.mp nd
  obtain ⟨m3, m4⟩ := List.nodup_cons.mp m2
  obtain ⟨m5, m6⟩ := List.nodup_cons.mp m4
  have lk : ∀ g : Str, f ≠ g → (putF f v fv).lookup g = fv.lookup g := fun g hg => by rw [lookup_putF, if_neg (fun z => hg (by first | exact z | exact z.symm))]
  refine ⟨h.upd (by simp), ⟨⟨dx, upd_same⟩, by rw [lk _ n1]; exact h.C.fA, by rw [lk _ n2]; exact h.C.fT, by rw [lk _ n3]; exact h.C.fM, hl, ?_, ?_, ?_, h.C.nd, h.C.un, h.C.kn⟩, h.fp, h.bi, h.ow⟩
  · obtain ⟨o, e, m⟩ := h.C.arr
    exact ⟨o, by rw [upd_ne fun z => m3 (by rw [z]; simp)]; exact e, m⟩
  · obtain ⟨o, e, m⟩ := h.C.tre
    exact ⟨o, by rw [upd_ne fun z => m1 (by rw [z]; simp)]; exact e, m⟩
  · exact inn_upd (fun p hp z => m5 (z ▸ hp)) h.C.inn
end CL

set_option Elab.async false
set_option linter.all false
set_option maxRecDepth 100000
set_option maxHeartbeats 2000000
namespace CL
open PySem PySem.Spec PyProof.Rows L2 FL
variable [Wrl] [Tabl]
variable {K : Frg} {X : Cx} {F : Fr} {Γ Γ' : En} {σ σ' : FL.St} {H H' G G' : Hp} {ca A T : Addr} {fv fv' : List (Str × V)} {a a' : Au} {ps ps' : List Addr} {W : WX} {D : Ends}
end CL

set_option Elab.async false
set_option linter.all false
set_option maxRecDepth 100000
set_option maxHeartbeats 2000000
namespace CL
open PySem PySem.Spec PyProof.Rows L2 FL
variable [Wrl] [Tabl]
variable {K : Frg} {X : Cx} {F : Fr} {Γ Γ' : En} {σ σ' : FL.St} {H H' G G' : Hp} {ca A T : Addr} {fv fv' : List (Str × V)} {a a' : Au} {ps ps' : List Addr} {W : WX} {D : Ends}
end CL

set_option Elab.async false
set_option linter.all false
set_option maxRecDepth 100000
set_option maxHeartbeats 2000000
namespace CL
open PySem PySem.Spec PyProof.Rows L2 FL
variable [Wrl] [Tabl]
variable {K : Frg} {X : Cx} {F : Fr} {Γ Γ' : En} {σ σ' : FL.St} {H H' G G' : Hp} {ca A T : Addr} {fv fv' : List (Str × V)} {a a' : Au} {ps ps' : List Addr} {W : WX} {D : Ends}
end CL

set_option Elab.async false
set_option linter.all false
set_option maxRecDepth 100000
set_option maxHeartbeats 2000000
namespace CL
open PySem PySem.Spec PyProof.Rows L2 FL
variable [Wrl] [Tabl]
variable {K : Frg} {X : Cx} {F : Fr} {Γ Γ' : En} {σ σ' : FL.St} {H H' G G' : Hp} {ca A T : Addr} {fv fv' : List (Str × V)} {a a' : Au} {ps ps' : List Addr} {W : WX} {D : Ends}
open Classical in noncomputable def telD (G H1 : Hp) (fp : List Addr) : Hp := fun x => if x ∈ fp then H1 x else G x
end CL

set_option Elab.async false
set_option linter.all false
set_option maxRecDepth 100000
set_option maxHeartbeats 2000000
namespace CL
open PySem PySem.Spec PyProof.Rows L2 FL
end CL

set_option Elab.async false
set_option linter.all false
set_option maxRecDepth 100000
set_option maxHeartbeats 2000000
namespace FL
open PySem PySem.Spec PyProof.Rows L2
section
variable [Wrl] [Tabl] {X : Cx} {W : WX} {a b c tg : Expr} {u : AF} {p pos : Pos}
end
namespace Ev
end Ev
end FL

set_option Elab.async false
set_option linter.all false
set_option maxRecDepth 100000
set_option maxHeartbeats 4000000
namespace FL
open PySem PySem.Spec PyProof.Rows L2
section
variable [Wrl] [Tabl] {X : Cx} {W : WX} {e : Expr} {f : EF} {te : TE}
end
namespace Ev
end Ev
end FL

set_option Elab.async false
set_option linter.all false
set_option maxRecDepth 100000
set_option maxHeartbeats 4000000
namespace SL
open PySem PySem.Spec PyProof.Rows L2
section
variable {P : Program} {w : World} {A : Around} {E : Value → Shared → Prop} {s : Shared}
structure Filled (w : World) (h h' : Heap) (S : Addr) (ns : List Int) : Prop where
  st : ∃ c, c ≤ ns.length ∧ SetR w h' S (fun j => decide (j ∈ ns)) c
  old : ∀ b o, b ≠ S → h.get? b = some o → h'.get? b = some o
end
end SL

set_option Elab.async false
set_option linter.all false
set_option maxRecDepth 100000
set_option maxHeartbeats 4000000
namespace FL
open PySem PySem.Spec PyProof.Rows L2
section
variable [Wrl] [Tabl] {X : Cx} {W : WX} {e : Expr} {f : EF} {tg : Expr}
end
namespace Ev
end Ev
end FL

set_option Elab.async false
set_option linter.all false
set_option maxRecDepth 100000
set_option maxHeartbeats 2000000
namespace FL
open PySem PySem.Spec PyProof.Rows L2
section
variable [Wrl] [Tabl] {X : Cx} {W : WX} {e tg c : Expr} {f : EF} {t : TF} {s1 : SF} {sts : List Stmt} {pos : Pos} {K : Frg}
end
namespace Ev
end Ev
end FL

set_option Elab.async false
set_option linter.all false
set_option maxRecDepth 100000
set_option maxHeartbeats 2000000
namespace FL
open PySem PySem.Spec PyProof.Rows L2
section
variable [Wrl] [Tabl]
variable {X : Cx} {W : WX} {a o : Expr} {fo fa : EF} {pos apos p : Pos}
end
end FL

set_option Elab.async false
set_option linter.all false
set_option maxRecDepth 100000
set_option maxHeartbeats 2000000
namespace FL.SK
open PySem PySem.Spec PySem.Calls PyProof.Rows L2 PySem.W
section
variable {prog : Program} {w : World} {A : Around} {E : Value → Shared → Prop}
end
section
variable {X : Cx} {pins : List (Addr × Obj)} {σ : St} {H : Hp} {s : Shared}
end
section
variable {prog : Program} {w : World} {A : Around}
end
end FL.SK

set_option Elab.async false
set_option linter.all false
set_option maxRecDepth 100000
set_option maxHeartbeats 2000000
namespace FL
open PySem PySem.Spec PyProof.Rows L2
section
variable [Wrl] [Tabl] {X : Cx} {W : WX} {e : Expr} {f : EF}
end
namespace Ev
end Ev
end FL

set_option Elab.async false
set_option linter.all false
set_option maxRecDepth 100000
set_option maxHeartbeats 2000000
namespace FL.BX
open PySem PySem.Spec PySem.Calls PyProof.Rows L2 PySem.W
section
variable {prog : Program} {w : World} {A : Around} {E : Value → Shared → Prop} {s : Shared}
end
end FL.BX

set_option Elab.async false
set_option linter.all false
set_option maxRecDepth 100000
set_option maxHeartbeats 2000000
namespace FL
open PySem PySem.Spec PyProof.Rows L2
section
variable [Wrl] {X : Cx} {ke ve : Expr} {t1 t2 : TE} {pos : Pos}
end
end FL

set_option Elab.async false
set_option linter.all false
set_option maxRecDepth 100000
set_option maxHeartbeats 2000000
namespace FL
open PySem PySem.Spec PyProof.Rows L2
section
variable [Wrl] [Tabl]
variable {F : Fr} {Γ : En} {σ : St} {H G : Hp}
variable {X : Cx} {W : WX} {e a b o ke ve : Expr} {f fo fa fb f1 f2 fk fv : EF} {pos apos p cpos : Pos}
theorem OutV.all {α β : Type} {K : Frg} {rel : Fr → En → St → Hp → Hp → α → β → Prop} {T : Addr → (β → Hp → Prop) → Prop} {c : Addr → Prop} : ∀ {r : O α}, (∀ p, c p → OutV K W rel F σ G (T p) r) → OutV K W rel F σ G (fun Q => ∀ p, c p → T p Q) r
  | .ok _ _, h => fun Q q p hp => h p hp Q q
  | .exc _ _ _ _, h => fun Q q p hp => h p hp Q q
  | .fail, _ => trivial
end
end FL

set_option Elab.async false
set_option linter.all false
set_option maxRecDepth 100000
set_option maxHeartbeats 2000000
namespace FL
open PySem PySem.Spec PyProof.Rows L2
section
variable [Wrl] [Tabl] {X : Cx} {W : WX} {e : Expr} {f : EF} {p pos : Pos}
theorem DNk.all {K : Frg} {G : Hp} {ys : List (NestedKey × Addr × Value)} {kvs : List (NestedKey × V)} (h : DNk K G ys kvs) : ∀ y ∈ ys, NKv K G y.1 (.ref y.2.1) := by
  unfold DNk at h
  induction h with
  | nil => exact fun y hy => by cases hy
  | cons r _ ih =>
    intro y hy
    rcases List.mem_cons.mp hy with rfl | hy
    · exact r.2.2.1
    · exact ih y hy
end
namespace Ev
variable {f f1 f2 : EF} {Γ : En}
end Ev
end FL

set_option Elab.async false
set_option linter.all false
set_option maxRecDepth 100000
set_option maxHeartbeats 4000000
namespace FL
open PySem PySem.Spec PySem.Builtin PySem.Builtin.ObjectAttr PyProof.Rows L2
structure OeB (N I : String) (bB : List Value) (K : Frg) (C : Addr) : Prop where
  cls : ∃ nm q Na bs bm sn sub ab col dd k0 k1 k2 k3 k5, K.lookup C = some (excClassObj nm q C Na bs bm true sn sub ab col dd k0 k1 k2 k3 k5 N) ∧ PySem.W.excTail bB bm = true
  sa : PySem.W.findIn K (.ref C) "__setattr__" = some (some (.builtin "object.__setattr__"))
  exC : PySem.W.subIn K (.ref C) (.type "BaseException") = some true
  tyC : PySem.W.typeIn K (.ref C) = some (.type "type")
  kC : PySem.W.keepIn K (.ref C) = true
section
variable {X : Cx} {pins : List (Addr × Obj)} {σ : St} {H : Hp} {s : Shared} {a C dx : Addr} {f : Str} {y : V} {u : Value} {fs : List (Str × V)} {Q : Unit → Shared → Prop} {E : Value → Shared → Prop} {A : Around} {B N I : String} {bB : List Value}
theorem oeb_over (T : OeB N I bB X.K C) : ∃ cd, PySem.W.clsIn X.K C = some cd ∧ cd.hasDict = true ∧ PySem.W.excOver X.K C bB = true := by
  obtain ⟨nm, q, Na, bs, bm, sn, sub, ab, col, dd, k0, k1, k2, k3, k5, hC, hb⟩ := T.cls
  have hcl : PySem.W.clsIn X.K C = some { name := nm, bases := bs, mro := .ref C :: bm, ns := Na, qualname := q, hasDict := true, slotNames := sn, subclasses := sub, abstract := ab, collection := col, hasDel := false } := by unfold PySem.W.clsIn; rw [hC] <;> rfl
  refine ⟨_, hcl, rfl, ?_⟩
  unfold PySem.W.excOver
  rw [hcl]
  show ((C == C) && PySem.W.excTail bB bm) = true
  rw [hb]; simp
theorem tak_none {K : Frg} {C : Addr} {f : Str} (h : PySem.W.findIn K (.ref C) f = some none) : PySem.W.takerIn K C f = some none := by
  unfold PySem.W.takerIn
  rw [h]; rfl
theorem oeb_new (SF : StoreFacts B bB "object.__setattr__" "object") (T : OeB N I bB X.K C) (J : Inv X pins σ H s) (e : H a = some (exo a C none)) (hno : PySem.W.findIn X.K (.ref C) f = some none) (ry : RelV y u)
    (h : ∀ dx s', H dx = none → dx ≠ a → Inv X pins σ (upd (upd H dx (exd dx [(f, y)])) a (exo a C (some dx))) s' → Q () s') : wpAny (model X.prog X.w) A (setAttr (.ref a) f u) Q E s := by
  obtain ⟨cd, hcl, hdc, hov⟩ := oeb_over T
  obtain ⟨t1, ho⟩ := exo_at J.hok e
  obtain ⟨hp, g, d, t, os⟩ := s
  have notHere : ∀ {b : Addr} {o : Obj}, hp.get? b = some o → b ≠ hp.objs.size := fun {b o} q => Nat.ne_of_lt (Heap.lt_size q)
  have na : ∀ {b : Addr}, H b = none → b ≠ a := fun {b} n z => by
    rw [z, e] at n
    cases n
  have ha : a ≠ hp.objs.size := notHere ho
  refine PySem.W.set_plain J.kIn (ox := { cls := .ref C, dict := none, data := .fields #[.ref t1, .none, .none, .none, .bool false, .none] }) (od := none) ⟨ho, rfl, rfl, trivial⟩ T.sa ?_
  refine PySem.W.osa_openX SF J.kIn (ox := { cls := .ref C, dict := none, data := .fields #[.ref t1, .none, .none, .none, .bool false, .none] }) (od := none) ⟨ho, rfl, rfl, trivial⟩ hov (tak_none hno) fun b => ?_
  show wpAny _ _ (storeInOwnDict (.ref a) (.ref C) _ f u b) _ _ _
  have lc : PySem.W.Looks (model X.prog X.w) hp (classData C) cd := PySem.W.looks_clsIn J.kIn hcl
  unfold storeInOwnDict ownDictForStores
  have emp : ((hp.push { cls := .type "dict", data := .dict #[] }).update a fun o => { o with dict := some hp.objs.size }).Ns hp.objs.size fun _ => none :=
    ⟨_, #[], _, (Heap.get?_update_ne _ _ _ _ ha.symm).trans (Heap.get?_push_at rfl rfl), rfl, fun e he => absurd he (by simp), fun _ => rfl⟩
  refine wpAny_bind (wpAny_pure (wpAny_bind (PySem.W.instanceDict_exc (t := t1) (c2 := .none) ho lc hdc ?_)))
  refine PySem.HandSPX.store_in_new emp fun h' tk' hn' hs => ?_
  have hx1 : (hp.push { cls := .type "dict", data := .dict #[] }).get? a = some { cls := .ref C, dict := none, data := .fields #[.ref t1, .none, .none, .none, .bool false, .none] } := Heap.get?_push_of_some _ ho
  have hx : h'.get? a = some { cls := .ref C, dict := some hp.objs.size, data := .fields #[.ref t1, .none, .none, .none, .bool false, .none] } := (hs.2 a ha).trans (Heap.get?_update_self _ hx1 rfl)
  have k : ∀ b o, b ≠ a → hp.get? b = some o → h'.get? b = some o := fun b o hb ho => (hs.2 b (notHere ho)).trans ((Heap.get?_update_ne _ _ _ _ hb).trans (Heap.get?_push_of_some _ ho))
  have hnd : H hp.objs.size = none := J.hok.fresh (Nat.le_refl _)
  have Un1 : Un X.fs [] H (upd (upd H hp.objs.size (exd hp.objs.size [(f, y)])) a (exo a C (some hp.objs.size))) hp h' := {
    keep := fun b o q n _ _ => k b o (na n) q
    slot := fun b o q n _ _ => ⟨o.slots, k b o (na n) q⟩
    free := fun b o q n _ => by rw [upd_ne (na n), upd_ne (notHere q)]; exact n
    there := fun b o q _ => by
      by_cases hb : b = a
      · exact ⟨_, by rw [hb]; exact hx⟩
      · exact ⟨o, k b o hb q⟩
    tups := fun b xs q => by rw [upd_ne (at_ne e q exo_tup), upd_ne (ne_of_none q hnd)]; exact q
    frzs := fun b o v q => by rw [upd_ne (at_ne e q exo_frz), upd_ne (ne_of_none q hnd)]; exact q
    tbls := fun b ps q => ⟨#[], by rw [upd_ne (at_ne e q exo_tbl), upd_ne (ne_of_none q hnd), q]; simp⟩ }
  refine h hp.objs.size _ hnd ha.symm (J.un (t' := tk') Un1 fun b o q => ?_)
  by_cases hb : b = a
  · subst hb
    rw [upd_same] at q
    cases q
    exact exo_ok hx
  · rw [upd_ne hb] at q
    by_cases hd : b = hp.objs.size
    · subst hd
      rw [upd_same] at q
      cases q
      exact exd_ok hn' (relO_put (fs := []) ry fun g => True.intro)
    · rw [upd_ne hd] at q
      exact (J.hok b o q).stay (fun c v hc z => k c v (by
          rcases hc with hc | hc
          · rw [hc]
            exact hb
          · exact at_ne e hc exo_own) z)
        (fun c hc => by rw [upd_ne (at_ne e hc exo_own), upd_ne (ne_of_none hc hnd)]; exact hc) (fun c xs hc => by rw [upd_ne (at_ne e hc exo_tup), upd_ne (ne_of_none hc hnd)]; exact hc)
theorem oeb_old (SF : StoreFacts B bB "object.__setattr__" "object") (T : OeB N I bB X.K C) (J : Inv X pins σ H s) (e : H a = some (exo a C (some dx))) (ed : H dx = some (exd dx fs)) (hl : fs.length ≤ 900) (hno : PySem.W.findIn X.K (.ref C) f = some none) (ry : RelV y u)
    (h : ∀ s', Inv X pins σ (upd H dx (exd dx ((f, y) :: fs))) s' → Q () s') : wpAny (model X.prog X.w) A (setAttr (.ref a) f u) Q E s := by
  obtain ⟨cd, hcl, hdc, hov⟩ := oeb_over T
  obtain ⟨t1, ho⟩ := exo_at J.hok e
  obtain ⟨mA, hns, rel⟩ := exd_at J.hok ed
  have hw := within_of rel
  obtain ⟨hp, g, d, t, os⟩ := s
  obtain ⟨oD, esD, epD, hoD, hdD, _⟩ := hns.count hw
  refine PySem.W.set_plain J.kIn (ox := { cls := .ref C, dict := some dx, data := .fields #[.ref t1, .none, .none, .none, .bool false, .none] }) (od := some oD) ⟨ho, rfl, rfl, hoD⟩ T.sa ?_
  refine PySem.W.osa_openX SF J.kIn (ox := { cls := .ref C, dict := some dx, data := .fields #[.ref t1, .none, .none, .none, .bool false, .none] }) (od := some oD) ⟨ho, rfl, rfl, hoD⟩ hov (tak_none hno) fun b => ?_
  show wpAny _ _ (storeInOwnDict (.ref a) (.ref C) _ f u b) _ _ _
  have lc : PySem.W.Looks (model X.prog X.w) hp (classData C) cd := PySem.W.looks_clsIn J.kIn hcl
  have fin : ∀ h' tk', h'.Ns1 dx (fun y => if y = f then some u else mA y) → Heap.SameBut dx hp h' → Q () ⟨h', g, d, tk', os⟩ := fun h' tk' hn hs => by
    have hd : ∃ o, h'.get? dx = some o := by
      obtain ⟨o, _, _, e', _⟩ := hn
      exact ⟨o, e'⟩
    exact h _ (J.write (t' := tk') (x := dx) (e := dx) (o := exd dx ((f, y) :: fs)) (by rw [ed]; exact True.intro) (.inl rfl) (fun b o hb ho => (hs.2 b hb).trans ho) hd (exd_ok hn (relO_put ry rel)))
  unfold storeInOwnDict ownDictForStores
  repeat (first | with_reducible refine PySem.OEX.store_in_old hns hw (by rw [List.length_map]; omega) ?_ | with_reducible refine wpAny_loadPart_at ho ?_ | with_reducible refine lc.at ?_ | wp_step)
  intro h' tk' hn hs
  exact fin h' tk' hn hs
end
end FL

set_option Elab.async false
set_option linter.all false
set_option maxRecDepth 100000
set_option maxHeartbeats 4000000
namespace FL
open PySem PySem.Spec PyProof.Rows L2
abbrev aeTail : List Value := [.type "ArithmeticError", .type "Exception", .type "BaseException", .type "object"]
abbrev OeA := OeB "ArithmeticError.__new__" "ArithmeticError.__init__" aeTail
section
variable {P : Program} {w : World} {K : Frg} {mg : Str → Option Value} {base : Heap} {N ps : List Str} {qual : Str} {scope : Scope} {f C cc cda : Addr} {cd : Value} {A : Around} {outer : List Env} {s : Shared} {H : Hp} {E : XK} {us : List Value} {vs : List V}
theorem xa_super {σ : St} {s1 : Shared} {a : Addr} {body : List Stmt} {params : Arguments} {fd : FuncData} {ar : Arg} {p0 p1 p2 p3 : Pos} {Q : Value → Shared → Prop} (T : OeA K C) (Xi : XIni P K "ArithmeticError" "ArithmeticError.__init__" C f qual params body scope cc cda fd) (S : XScope N ps scope)
    (hpar : (params.posonlyargs ++ params.args).head? = some ar) (hN : N[0]? = some ar.arg) (hm : mg "super" = none) (htop : (P.main.scope.names.lookup ("super" : Str)).isSome = false)
    (I : Inv (xiCx P w K mg base N qual scope f (.ref cda) cc A outer s H E) [] σ H s1) (h0 : σ[0]? = some (some (.ref a))) (ea : H a = some (exo a C none)) {X : Value → Shared → Prop} {pl : Env → PySem.Sem Bool} (hev : XCall p0 p1 p2 p3 pl)
    (h : ∀ s2, Inv (xiCx P w K mg base N qual scope f (.ref cda) cc A outer s H E) [] σ H s2 → Q .none s2) :
    _root_.PySem.wpAt (model P w) (A.deeper (PySem.W.ksEnv qual scope s.heap.objs.size f (.ref cda) cc)) (.func body (PySem.W.ksEnv qual scope s.heap.objs.size f (.ref cda) cc)) (eval (.Call (.Attribute (.Call (.Name "super" p0) [] [] p1) "__init__" p2) [] [] p3) (PySem.W.ksEnv qual scope s.heap.objs.size f (.ref cda) cc)) Q X s1 := by
  obtain ⟨oc, od, name, dV, kV, doc, pm, an, ct, osl, rfl, lk⟩ := Xi.lk
  obtain ⟨ccl, cdd, vs, ccs, file, tf, lkc, hvs, hfile⟩ := Xi.co
  obtain ⟨cl, cld, csl, lke⟩ := Xi.ce
  obtain ⟨cd, hcd⟩ := Xi.cls
  obtain ⟨nm, q, NN, bs, bm, sn, sub, ab, col, dd, k0, k1, k2, k3, k5, hC, hbm⟩ := T.cls
  have hsup : PySem.W.alongIn K "__init__" ((cd.mro.dropWhile (· != .ref C)).drop 1) = some (some (.builtin "ArithmeticError.__init__")) := by
    have u := Xi.up
    unfold PySem.W.ks_superIn at u
    rw [hcd] at u
    exact u
  have kin := I.kIn
  obtain ⟨t1, hx⟩ := exo_at I.hok ea
  obtain ⟨mb, hblt, hbb⟩ := I.mod.blt
  obtain ⟨m, hns, hloc⟩ := I.loc
  have hpar0 : ar.arg ∈ ps := S.vis _ (List.mem_of_getElem? hN)
  have hla := S.par _ hpar0
  obtain ⟨u, ru, lo⟩ := hloc 0 ar.arg (.ref a) hN h0 (.inl hla)
  obtain rfl : u = Value.ref a := ru
  have hv : m ar.arg = some (.ref a) := by
    rcases lo with ⟨_, z⟩ | ⟨z, _⟩
    · exact z
    · have z : scope.names.lookup ar.arg = some .cell ∨ scope.names.lookup ar.arg = some .free := z
      rcases z with z | z <;> rw [hla] at z <;> cases z
  obtain ⟨oD, hD1, hD2⟩ : ∃ oD, s1.heap.get? C = some oD ∧ oD.data = .cls cd := by
    unfold PySem.W.clsIn at hcd
    split at hcd
    · rename_i c d cd' sl ho
      cases hcd
      exact ⟨_, kin _ _ ho, rfl⟩
    · cases hcd
  refine ks_wpAt_MethodCall ?_ (hev _)
  refine ks_wpAt_super_base (env := PySem.W.ksEnv qual scope s.heap.objs.size f (.ref cda) cc) S.hs S.hc (by decide) rfl (kin _ _ lk) rfl hpar rfl (kin _ _ lkc) rfl hvs hfile htop ?_
  refine PySem.W.ks_loadName_global S.kind S.hs (PySem.Calls.loadGlobal_builtin (env := PySem.W.ksEnv qual scope s.heap.objs.size f (.ref cda) cc) (I.mod.glob.keeps I.bk) hm (hblt.keeps I.bk) ((hbb _ (by decide)).trans boot_super) ⟨rfl, ?_⟩)
  refine wpAny_loadName_free S.kind S.hc (by first | rfl | decide +kernel) ⟨_, kin _ _ lke, rfl⟩ ?_
  refine wpAny_loadName_local S.kind hla hns hv ?_
  refine ks_wpAny_isType_cls hD1 hD2 ⟨rfl, ?_⟩
  obtain ⟨hp, g, d, t, os⟩ := s1
  refine ks_wpAny_call_super hD1 hD2 hx rfl (fun c z => nomatch z) (PySem.W.looks_mroIn kin Xi.me) (fun h2 hso k => ?_)
  have I2 := I.kept (t' := t) k
  have kin2 := I2.kIn
  have hx2 := k _ _ hx
  have J : PySem.W.InstAt h2 a (PySem.W.excObj C t1 none .none) C none := ⟨hx2, rfl, rfl, trivial⟩
  refine PySem.W.kxs_getMethod PySem.W.kxs_ArithmeticError hso (PySem.W.looks_opaque kin2 Xi.th) (l₀ := cd.mro) (fun A Q E s k q => wpAny_bind ((PySem.W.looks_clsIn kin2 hcd) A _ E s k (wpAny_pure q))) rfl kin2 hsup (J.type.andThen (PySem.W.looks_subIn kin2 Xi.ve)) (PySem.W.ks_ne kin2 J hcd) (by decide) ?_
  have k3 : ∀ b o, h2.get? b = some o → (h2.push (PySem.W.kxs_mw "ArithmeticError.__init__" a)).get? b = some o := fun b o e => Heap.get?_push_of_some _ e
  have I3 := I2.kept (t' := t + 1) k3
  have hu : (h2.push (PySem.W.kxs_mw "ArithmeticError.__init__" a)).get? h2.objs.size = some (PySem.W.kxs_mw "ArithmeticError.__init__" a) := Heap.get?_push_at rfl rfl
  refine PySem.W.kxs_callWith (i := "ArithmeticError.__init__") (x := a) rfl (evalArgs_empty ⟨hu, ?_⟩)
  have he := k3 _ _ hx2
  have hC3 := I3.kIn _ _ hC
  refine wpAny_call (codeAny_of_tree ?_)
  show wpAny _ _ (callAny (.ref h2.objs.size) ⟨[], []⟩) _ _ _
  simp only [callAny]
  refine wpAny_bind (wpAny_load hu ?_)
  simp only [PySem.W.kxs_mw, show (Value.type "method-wrapper" == Value.type "method" || Value.type "method-wrapper" == Value.type "builtin_function_or_method" || Value.type "method-wrapper" == Value.type "method-wrapper") = true by decide, if_true]
  refine PySem.W.KFB.if_so (by decide) ?_
  refine wpAny_bind (PySem.W.check_bound_init F.excBase_ArithmeticError.toExcCallFacts hC3 he rfl ?_)
  refine wpAny_bind (wpAny_pure (wpAny_pure ?_))
  refine ⟨plainId_quiet F.excBase_ArithmeticError.init.plain _, codeAny_builtin F.excBase_ArithmeticError.initEntry ?_⟩
  refine PySem.W.exc_init_tree (cls := .ref C) (t0 := t1) (dv := none) (c2 := .none) (c3 := .none) (b4 := .bool false) he (Nat.zero_le _) fun h4 k4 e4 _ => ?_
  have J4 := I3.write (t' := t + 1) (x := a) (e := a) (o := exo a C none) (by rw [ea]; exact True.intro) (.inl rfl) (fun b u hb e => k4 b u hb e) ⟨_, e4⟩ (exo_ok e4)
  have eu : upd H a (exo a C none) = H := by
    funext b
    by_cases hb : b = a
    · rw [hb, upd_same, ea]
    · rw [upd_ne hb]
  rw [eu] at J4
  exact h _ J4
theorem fn_xainit {k : Nat} {sp : Sp} {params : Arguments} {fd : FuncData} {ar : Arg} {p0 p1 p2 p3 p4 : Pos} {rest : List Stmt} {t : TS} {pl : Env → PySem.Sem Bool} (T : OeA K C) (Xi : XIni P K "ArithmeticError" "ArithmeticError.__init__" C f qual params (.Expr (.Call (.Attribute (.Call (.Name "super" p0) [] [] p1) "__init__" p2) [] [] p3) p4 :: rest) scope cc cda fd) (S : XScope N ps scope)
    (hpar : (params.posonlyargs ++ params.args).head? = some ar) (hN : N[0]? = some ar.arg) (hm : mg "super" = none) (htop : (P.main.scope.names.lookup ("super" : Str)).isSome = false) (hev : XCall p0 p1 p2 p3 pl) (hsw : ∀ env : Env, swapsWith (.Call (.Attribute (.Call (.Name "super" p0) [] [] p1) "__init__" p2) [] [] p3) none p4.line env = pure false)
    (hrest : ∀ (A : Around) (outer : List Env) (s : Shared) (H : Hp) (E : XK), PSs (xiCx P w K mg base N qual scope f (.ref cda) cc A outer s H E) rest t) (hl : ∀ vs H Q E, sp vs H Q E → vs.length = ps.length)
    (hsp : ∀ vs H Q E, sp vs H Q E → ∃ a ws, vs = .ref a :: ws ∧ H a = some (exo a C none) ∧ t { nx := fun _ H' => Q .non H', rt := Q } (L2.start N vs) H) : FnOk P w K mg base (L2.CX P w) (k + 1) f fd ps sp := by
  refine ⟨hl, fun A outer s H args us vs Q E hr e0 hb r h => ?_⟩
  obtain ⟨a, ws, rfl, ea, ht⟩ := hsp _ _ _ _ h
  have hlen := hl _ _ _ _ h
  have kin : K.In s.heap := e0.mod.kin.keeps fun b o e => (e0.bs b o e).1
  have lim : s.heap.NoLimit := e0.mod.nolimit.keeps fun b o e => (e0.bs b o e).1
  have Xi2 := Xi
  obtain ⟨oc, od, name, dV, kV, doc, pm, an, ct, osl, rfl, lk⟩ := Xi.lk
  obtain ⟨cl, cld, csl, lke⟩ := Xi.ce
  refine ks_codeAny_call_defAt hr.depth (kin _ _ lk) rfl lim (PySem.W.codeRec_of kin Xi.cd) rfl hb S.nocell (fun ⟨n, v⟩ hy => S.par n (List.of_mem_zip hy).1) (fun h₀ hns kp => ?_) S.co S.gen S.kind
  have I : Inv (xiCx P w K mg base N qual scope f (.ref cda) cc A outer s H E) [] (L2.start N (.ref a :: ws)) H ⟨h₀, s.gens, s.drawn, s.toks + (ps.zip us).length, s.os⟩ :=
    xi_start S hr.hd e0 hlen r ⟨_, e0.mod.kin _ _ lke, rfl⟩ hns kp
  have h0 : (L2.start N (V.ref a :: ws))[0]? = some (some (.ref a)) := by
    unfold L2.start
    rw [List.getElem?_append_left (by simp)]
    rfl
  refine ks_wpAt_execs_cons (ks_wpAt_Expr_any (xa_super T Xi2 S hpar hN hm htop I h0 ea hev fun s2 I2 => ?_) (by
    show (scope.kind == .module && _) = false
    rw [S.kind]; rfl) (hsw _))
  refine wpAt_of_wpAny (wpAny_mono ((hrest A outer s H E).run [] s2 (L2.start N (.ref a :: ws)) H _ I2 ht) (fun fl s' hs => ?_) fun e s' hs => hs)
  have fin : ∀ {σ' : St} {H' : Hp} {v : V} {u : Value}, Inv (xiCx P w K mg base N qual scope f (.ref cda) cc A outer s H E) [] σ' H' s' → RelV v u → Q v H' → CE outer P w H s Q u s' :=
    fun {σ' H' v u} J rv q => ⟨v, H', J.os, J.bare, J.base, J.hok, rv, q⟩
  match fl, hs with
  | .ret u, ⟨v, σ', H', J, rv, q⟩ => exact fin J rv q
  | .next, ⟨σ', H', J, q⟩ => exact fin (v := V.non) (u := Value.none) J rfl q
  | .brk, ⟨_, _, _, q⟩ => exact False.elim q
  | .cont, ⟨_, _, _, q⟩ => exact False.elim q
end
end FL

set_option Elab.async false
set_option linter.all false
set_option maxRecDepth 100000
set_option maxHeartbeats 4000000
namespace FL.EK
open PySem PySem.Spec PySem.Builtin PyProof.Rows PySem.Calls PySem.HandSPX
section
variable {prog : Program} {w : World} {A : Around} {E : Value → Shared → Prop} {R : Result → Shared → Prop} {h : Heap} {g : Array GenState} {d : Drawn} {t : Nat} {os : OsState}
variable {nm q : Str} {C N : Addr} {bs bm bB : List Value} {hdct : Bool} {sn : List Str} {sub : List Value} {ab : Bool} {col : Option Bool} {dd : Option Addr} {k0 k1 k2 k3 k5 : Option Value} {B newId initId : String} {kw : List (Str × Value)} {us : List Value}
theorem chkN (F : ExcBaseFacts B newId initId bB) (hB : bm.contains (.type B) = bB.contains (.type B)) {M : Model} {Q : Unit → Shared → Prop} (hC : h.get? C = some (excClassObj nm q C N bs bm hdct sn sub ab col dd k0 k1 k2 k3 k5 newId)) (hq : Q () ⟨h, g, d, t, os⟩) :
    wpAny M A (checkBuiltinCall newId ⟨.ref C :: us, kw⟩) Q E ⟨h, g, d, t, os⟩ := by
  have c1 : (Value.ref C :: bm).contains (.type B) = true := by rw [List.contains_cons, hB, F.hasB, Bool.or_true]
  have c2 := F.noStar
  simp only [checkBuiltinCall, F.newKind, F.newSplit, F.newRow]
  repeat (first | refine wpAny_loadPart_at hC ?_ | (refine wpAny_isSubtype_exc hC ?_; rw [c1]) | refine wpAny_staticBase_exc hC ?_ | refine wpAny_madeBy_exc hC ?_ | simp only [bne_self_eq_false, Bool.false_eq_true, if_false] | wp_step)
  exact hq
theorem newN (F : ExcBaseFacts B newId initId bB) (hT : ∀ X : String, bm.contains (.type X) = bB.contains (.type X)) (hC : h.get? C = some (excClassObj nm q C N bs bm hdct sn sub ab col dd k0 k1 k2 k3 k5 newId)) (hz : us.length ≤ sizeLine)
    (hq : R (.ok (.ret (.ref (h.objs.size + 1)))) ⟨(h.push (W.kdv_tup us)).push (excO C h.objs.size), g, d, t, os⟩) : codeAny (model prog w) A (.builtin newId ⟨.ref C :: us, kw⟩) R ⟨h, g, d, t, os⟩ := by
  have c0 := F.ends
  have c1 : (Value.ref C :: bm).contains (.type B) = true := by rw [List.contains_cons, hT, F.hasB, Bool.or_true]
  have c2 : (Value.ref C :: bm).contains (.type "AttributeError") = false := by rw [List.contains_cons, hT, F.noAttr]; rfl
  have c3 : (Value.ref C :: bm).contains (.type "NameError") = false := by rw [List.contains_cons, hT, F.noName]; rfl
  refine PySem.codeAny_builtinAt F.entry ?_
  unfold Builtin.«BaseException.__new__»
  refine PySem.wpAt_bind ?_
  show PySem.wpAt _ _ _ (stack >>= _) _ _ _
  refine PySem.wpAt_bind (PySem.wpAt_stack fun p below => PySem.wpAt_of_wpAny ?_)
  wp_walk
  refine PySem.wpAt_of_wpAny ?_
  rw [F.owner]
  repeat (first | with_reducible refine wpAny_madeHere_exc F.canon hC ?_ | with_reducible refine wpAny_loadPart_at hC ?_ | (with_reducible refine wpAny_isSubtype_exc hC ?_; first | rw [c1] | rw [c2] | rw [c3]) | wp_step)
  show R _ _
  rw [Heap.size_push]
  exact hq
theorem tyN (F : ExcBaseFacts B newId initId bB) (hT : ∀ X : String, bm.contains (.type X) = bB.contains (.type X)) {fV : Value} {Q : PySem.Fin → Shared → Prop} (hC : h.get? C = some (excClassObj nm q C N bs bm hdct sn sub ab col dd k0 k1 k2 k3 k5 newId))
    (hi : W.Looks (model prog w) h (typeLookup (.ref C) "__init__") (some fV)) (hb : ∀ self, W.Looks (model prog w) h (bindSpecial fV self) (fV, [self])) (hz : us.length ≤ sizeLine)
    (hq : codeAny (model prog w) A (.call fV ⟨.ref (h.objs.size + 1) :: us, kw⟩)
      (fun r s' => match r with | .ok (.ret v) => v = .none ∧ Q (.done (.ret (.ref (h.objs.size + 1)))) s' | .ok _ => False | .error e => E e s')
      ⟨(h.push (W.kdv_tup us)).push (excO C h.objs.size), g, d, t, os⟩) :
    wpAny (model prog w) A (Builtin.«type.__call__» ⟨.ref C :: us, kw⟩) Q E ⟨h, g, d, t, os⟩ := by
  repeat (first | with_reducible refine wpAny_loadPart_at hC ?_ | with_reducible refine wpAny_madeBy_exc hC ?_ | wp_step)
  refine codeAny_call_builtin_code (Code.quiet_builtin _ F.quiet) (chkN F (hT B) hC ?_)
  refine newN F hT hC hz ?_
  show wpAny _ _ _ _ _ _
  have k : ∀ b o, h.get? b = some o → ((h.push (W.kdv_tup us)).push (excO C h.objs.size)).get? b = some o := fun b o e => Heap.get?_push_of_some _ (Heap.get?_push_of_some _ e)
  have hC2 := k _ _ hC
  have hx : ((h.push (W.kdv_tup us)).push (excO C h.objs.size)).get? (h.objs.size + 1) = some (excO C h.objs.size) := by heap_get
  have cc : (Value.ref C :: bm).contains (.ref C) = true := by simp
  have i1 := hi.keeps k
  have b1 := (hb (.ref (h.objs.size + 1))).keeps k
  unfold isInstance
  repeat (first | with_reducible refine wpAny_loadPart_at hx ?_ | (with_reducible refine wpAny_isSubtype_exc hC2 ?_; rw [cc]) | wp_step)
  show wpAny _ _ (typeLookup (.ref C) _) _ _ _
  refine i1.at ?_
  refine wpAny_holding (wpAny_bind (b1.at ?_))
  refine wpAny_bind (wpAny_call (codeAny_mono hq fun r s' z => ?_))
  rcases r with e | (v | _ | _ | _) <;> first | exact z | exact z.elim | skip
  obtain ⟨rfl, z⟩ := z
  first
    | exact wpAny_pure (wpAny_pure z)
    | (wp_walk; exact z)
theorem chkT {M : Model} {Q : Unit → Shared → Prop} (hC : h.get? C = some (excClassObj nm q C N bs bm hdct sn sub ab col dd k0 k1 k2 k3 k5 newId)) (hq : Q () ⟨h, g, d, t, os⟩) : wpAny M A (checkBuiltinCall "type.__call__" ⟨.ref C :: us, kw⟩) Q E ⟨h, g, d, t, os⟩ := by
  have f3 := tc_sub
  have hT : (⟨h, g, d, t, os⟩ : Shared).TypeIs (.ref C) "type" := ⟨_, hC, rfl⟩
  simp only [checkBuiltinCall, tc_kind, tc_split]
  repeat (any_goals (first | assumption | with_reducible refine wpAny_loadPart_at hC ?_ | with_reducible refine wpAny_onRaise ?_ | with_reducible refine wpAny_map ?_ | wp_step))
theorem callN (F : ExcBaseFacts B newId initId bB) (hT : ∀ X : String, bm.contains (.type X) = bB.contains (.type X)) {fV : Value} (hC : h.get? C = some (excClassObj nm q C N bs bm hdct sn sub ab col dd k0 k1 k2 k3 k5 newId))
    (hi : W.Looks (model prog w) h (typeLookup (.ref C) "__init__") (some fV)) (hb : ∀ self, W.Looks (model prog w) h (bindSpecial fV self) (fV, [self])) (hz : us.length ≤ sizeLine)
    (hq : codeAny (model prog w) (A.under (.builtin "type.__call__" ⟨.ref C :: us, kw⟩)) (.call fV ⟨.ref (h.objs.size + 1) :: us, kw⟩) (W.InitBack (h.objs.size + 1) R) ⟨(h.push (W.kdv_tup us)).push (excO C h.objs.size), g, d, t, os⟩) :
    codeAny (model prog w) A (.call (.ref C) ⟨us, kw⟩) R ⟨h, g, d, t, os⟩ := by
  have f1 := tc_lookup
  have f2 := tc_bind (.ref C)
  have hTy : (⟨h, g, d, t, os⟩ : Shared).TypeIs (.ref C) "type" := ⟨_, hC, rfl⟩
  refine codeAny_of_tree ?_
  show wpAny _ _ (callAny (.ref C) _) _ _ _
  repeat (any_goals (first | assumption | with_reducible refine wpAny_loadPart_at hC ?_ | wp_step))
  refine ⟨rfl, ?_⟩
  refine codeAny_call_builtin_at (Code.quiet_builtin _ (by decide +kernel)) entry_typeCall (chkT hC (tyN F hT hC hi hb hz ?_))
  refine codeAny_mono hq fun r s' z => ?_
  rcases r with e | (v | _ | _ | _) <;> exact z
end
end FL.EK

set_option Elab.async false
set_option linter.all false
set_option maxRecDepth 100000
set_option maxHeartbeats 4000000
namespace FL
open PySem PySem.Spec PyProof.Rows L2
variable [Wrl] [Tabl]
def tOeb (K : Frg) (f : Str) (to te : TE) : TS := fun D τ J => te τ J fun z J1 => to τ J1 fun x J2 => ∃ b C : Addr, x = .ref b ∧ OeA K C ∧ PySem.W.findIn K (.ref C) f = some none ∧
  ((J2 b = some (exo b C none) ∧ ∀ d, J2 d = none → d ≠ b → D.nx τ (upd (upd J2 d (exd d [(f, z)])) b (exo b C (some d)))) ∨
    ∃ (d : Addr) (fs : List (Str × V)), J2 b = some (exo b C (some d)) ∧ J2 d = some (exd d fs) ∧ fs.length ≤ 900 ∧ D.nx τ (upd J2 d (exd d ((f, z) :: fs))))
theorem ps_oeb {X : Cx} {o e : Expr} {to te : TE} {f : Str} {p' pos : Pos} (ho : PE X o to) (he : PE X e te) (hs : swapsWith e (some (.Attribute o f p')) pos.line X.env = pure false) : PS X (.Assign [.Attribute o f p'] e pos) (tOeb X.K f to te) := by
  refine ⟨fun ps s τ J D I h => ?_⟩
  refine plainObj_wpAny_Assign_Attribute (thn (he.run ps s τ J _ I h) fun w s1 ⟨z, J1, I1, rz, q1⟩ => thn (ho.run ps s1 τ J1 _ I1 q1) fun u s2 ⟨x, J2, I2, rx, b, C, ex, T, no, q⟩ => ?_) hs
  subst ex
  obtain rfl : u = Value.ref b := rx
  rcases q with ⟨eb, q⟩ | ⟨d, fs, eb, ed, hl, q⟩
  · exact oeb_new PySem.F.store_ArithmeticError T I2 eb no rz fun d s' n ne Z => ⟨τ, _, Z, q d n ne⟩
  · exact oeb_old PySem.F.store_ArithmeticError T I2 eb ed hl no rz fun s' Z => ⟨τ, _, Z, q⟩
def spXn (C : Addr) (ns : List Str) : Sp := fun vs H Q _ => ∃ a xs, vs = .ref a :: xs ∧ xs.length = ns.length ∧ H a = some (exo a C none) ∧ ∀ d, H d = none → d ≠ a → Q .non (upd (upd H d (exd d (ns.zip xs).reverse)) a (exo a C (some d)))
theorem fn_weak {P : Program} {w : World} {K : Frg} {mg : Str → Option Value} {base : Heap} {CX : CXT} {k : Nat} {f : Addr} {fd : FuncData} {ps : List Str} {sp sp' : Sp} (F : FnOk P w K mg base CX k f fd ps sp) (h : ∀ vs H Q E, sp' vs H Q E → sp vs H Q E) : FnOk P w K mg base CX k f fd ps sp' :=
  ⟨fun vs H Q E z => F.len vs H Q E (h _ _ _ _ z), fun A outer s H args us vs Q E hr e0 hb r z => F.run A outer s H args us vs Q E hr e0 hb r (h _ _ _ _ z)⟩
theorem spXn_1 {C : Addr} {n : Str} (vs : List V) (H : Hp) (Q : VK) (E : XK) (h : spXn C [n] vs H Q E) : spXi C n vs H Q E := by
  obtain ⟨a, xs, e, hl, ea, q⟩ := h
  match xs, hl with
  | [x], _ => exact ⟨a, x, e, ea, q⟩
section
variable {P : Program} {w : World} {K : Frg} {mg : Str → Option Value} {base : Heap} {qual : Str} {scope : Scope} {f C cc cda : Addr}
theorem fn_xa2 {k : Nat} {params : Arguments} {fd : FuncData} {ar : Arg} {p0 p1 p2 p3 p4 q1 q2 q3 q4 r1 r2 r3 r4 : Pos} {self x y n m : Str} {pl : Env → PySem.Sem Bool} (T : OeA K C)
    (Xi : XIni P K "ArithmeticError" "ArithmeticError.__init__" C f qual params [.Expr (.Call (.Attribute (.Call (.Name "super" p0) [] [] p1) "__init__" p2) [] [] p3) p4, .Assign [.Attribute (.Name self q1) n q2] (.Name x q3) q4, .Assign [.Attribute (.Name self r1) m r2] (.Name y r3) r4] scope cc cda fd) (S : XScope [self, x, y] [self, x, y] scope)
    (hpar : (params.posonlyargs ++ params.args).head? = some ar) (har : ar.arg = self) (hm : mg "super" = none) (htop : (P.main.scope.names.lookup ("super" : Str)).isSome = false) (hev : XCall p0 p1 p2 p3 pl)
    (hsw0 : ∀ env : Env, swapsWith (.Call (.Attribute (.Call (.Name "super" p0) [] [] p1) "__init__" p2) [] [] p3) none p4.line env = pure false) (hno : PySem.W.findIn K (.ref C) n = some none) (hno2 : PySem.W.findIn K (.ref C) m = some none)
    (hsw : ∀ env : Env, swapsWith (.Name x q3) (some (.Attribute (.Name self q1) n q2)) q4.line env = pure false) (hsw2 : ∀ env : Env, swapsWith (.Name y r3) (some (.Attribute (.Name self r1) m r2)) r4.line env = pure false)
    (d1 : (self == ("__debug__" : Str)) = false) (d2 : (self == ("__classdict__" : Str)) = false) (d3 : (x == ("__debug__" : Str)) = false) (d4 : (x == ("__classdict__" : Str)) = false) (d5 : (y == ("__debug__" : Str)) = false) (d6 : (y == ("__classdict__" : Str)) = false) :
    FnOk P w K mg base (L2.CX P w) (k + 1) f fd [self, x, y] (spXn C [n, m]) := by
  refine fn_xainit (N := [self, x, y]) T Xi S hpar (by rw [har]; rfl) hm htop hev hsw0 (t := tSeq (tOeb K n (tVar 0) (tVar 1)) (tOeb K m (tVar 0) (tVar 2))) (fun A outer s H E => pss_cons (ps_oeb (X := xiCx P w K mg base [self, x, y] qual scope f (.ref cda) cc A outer s H E) (pe_var (i := 0) rfl (.inl (S.par self (by simp))) d1 d2) (pe_var (i := 1) rfl (.inl (S.par x (by simp))) d3 d4) (hsw _))
    (pss_one (ps_oeb (X := xiCx P w K mg base [self, x, y] qual scope f (.ref cda) cc A outer s H E) (pe_var (i := 0) rfl (.inl (S.par self (by simp))) d1 d2) (pe_var (i := 2) rfl (.inl (S.par y (by simp))) d5 d6) (hsw2 _)))) (fun vs H Q E ⟨a, xs, e, hl, _⟩ => by rw [e, List.length_cons, hl]; rfl) fun vs H Q E ⟨a, xs, e, hl, ea, q⟩ => ?_
  match xs, hl with
  | [u, v], _ =>
    subst e
    refine ⟨a, [u, v], rfl, ea, u, rfl, .ref a, rfl, a, C, rfl, T, hno, .inl ⟨ea, fun d hd ne => ⟨v, rfl, .ref a, rfl, a, C, rfl, T, hno2, .inr ⟨d, [(n, u)], upd_same, (by rw [upd_ne ne]; exact upd_same), by simp, ?_⟩⟩⟩⟩
    have e : upd (upd (upd H d (exd d [(n, u)])) a (exo a C (some d))) d (exd d [(m, v), (n, u)]) = upd (upd H d (exd d [(m, v), (n, u)])) a (exo a C (some d)) := by
      funext b
      by_cases h1 : b = d
      · subst h1
        rw [upd_same, upd_ne ne, upd_same]
      · rw [upd_ne h1]
        by_cases h2 : b = a
        · subst h2
          rw [upd_same, upd_same]
        · rw [upd_ne h2, upd_ne h2, upd_ne h1, upd_ne h1]
    show Q .non (upd (upd (upd H d (exd d [(n, u)])) a (exo a C (some d))) d (exd d [(m, v), (n, u)]))
    rw [e]
    exact q d hd ne
end
abbrev veB : List Value := [.type "ValueError", .type "Exception", .type "BaseException", .type "object"]
abbrev OeV := OeB "ValueError.__new__" "ValueError.__init__" veB
theorem tail_ve : ∀ l : List Value, PySem.HandSPX.refsVE l = true → PySem.W.excTail veB l = true := by
  intro l
  induction l with
  | nil => intro e; exact absurd e (by decide)
  | cons a r ih =>
    intro e
    rcases PySem.HandSPX.refsVE_cases (a :: r) e with ⟨c, r', q, h⟩ | q
    · obtain ⟨rfl, rfl⟩ := List.cons.inj q
      exact ih h
    · rw [q]; decide
theorem oeV_of {K : Frg} {C : Addr} (T : OexC K C) : OeV K C := by
  obtain ⟨nm, q, Na, bs, bm, sn, sub, ab, col, dd, k0, k1, k2, k3, k5, hC, hb⟩ := T.cls
  exact ⟨⟨nm, q, Na, bs, bm, sn, sub, ab, col, dd, k0, k1, k2, k3, k5, hC, tail_ve _ hb⟩, T.sa, T.exC, T.tyC, T.kC⟩
section
variable {X : Cx} {W : WX} {B N I : String} {bB : List Value} {C fI : Addr} {k : Nat} {fd : FuncData} {ps : List Str} {sp : Sp} {x : Str} {p pos : Pos} {e : Expr} {es : List Expr} {kws : List Keyword}
theorem run_mkX {pins : List (Addr × Obj)} {σ : St} {H : Hp} {s : Shared} {Q : VK} {us : List Value} {kw : List (Str × Value)} {gu : Addr → List Value} {gv : Addr → List V} (FB : ExcBaseFacts B N I bB) (T : OeB N I bB X.K C) (iC : PySem.W.findIn X.K (.ref C) "__init__" = some (some (.ref fI))) (tI : PySem.W.typeIn X.K (.ref fI) = some (.type "function"))
    (F1 : FnOk X.prog X.w X.K X.mg X.base (L2.CX X.prog X.w) k fI fd ps sp) (hr : Room (k + 1) X.A) (I0 : Inv X pins σ H s) (hz : us.length ≤ sizeLine) (hb : ∀ (s' : Shared) (b : Addr), X.K.In s'.heap → BindsTo s' fd ⟨.ref b :: us, kw⟩ (ps.zip (gu b))) (rv : ∀ b, Vals (gv b) (gu b))
    (h : ∀ b, H b = none → sp (gv b) (upd H b (exo b C none)) (fun v H2 => v = .non ∧ Q (.ref b) H2) (fun _ _ _ => False)) : wpAny (model X.prog X.w) X.A (call (.ref C) us kw) (EP X pins σ Q) X.xe s := by
  obtain ⟨nm, q, Na, bs, bm, sn, sub, ab, col, dd, k0, k1, k2, k3, k5, hC, hbm⟩ := T.cls
  obtain ⟨hp, g, dr, tk, os⟩ := s
  have hsz : hp.objs.size ≤ hp.objs.size + 1 := Nat.le_succ _
  have hq := h (hp.objs.size + 1) (I0.hok.fresh hsz)
  have kk : ∀ b o, hp.get? b = some o → ((hp.push (PySem.W.kdv_tup us)).push (PySem.HandSPX.excO C hp.objs.size)).get? b = some o := fun b o e => Heap.get?_push_of_some _ (Heap.get?_push_of_some _ e)
  have hx : ((hp.push (PySem.W.kdv_tup us)).push (PySem.HandSPX.excO C hp.objs.size)).get? (hp.objs.size + 1) = some (PySem.HandSPX.excO C hp.objs.size) := by heap_get
  have I2 : Inv X pins σ (upd H (hp.objs.size + 1) (exo (hp.objs.size + 1) C none)) ⟨(hp.push (PySem.W.kdv_tup us)).push (PySem.HandSPX.excO C hp.objs.size), g, dr, tk, os⟩ := I0.laid (t' := tk) kk hsz (exo_ok hx)
  refine wpAny_call (EK.callN (fV := .ref fI) FB (fun Y => PySem.W.excTail_contains Y bm hbm) (I0.kIn _ _ hC) (PySem.W.looks_findIn I0.kIn iC) (fun self => PySem.W.bind_fn I0.kIn self tI) hz
    (codeAny_mono (F1.run _ X.stack _ _ ⟨Value.ref (hp.objs.size + 1) :: us, kw⟩ _ _ _ (fun _ _ _ => False) (hr.make C us kw) (I2.env0.make C us kw) (hb _ _ I2.kIn) (rv _) hq) fun r s' hq' => ?_))
  match r, hq' with
  | .error er, hq' =>
    obtain ⟨_, _, _, _, _, _, _, _, _, _, _, _, z⟩ := (hq' : L2.CX X.prog X.w X.stack _ _ (fun _ _ _ => False) er s')
    exact z.elim
  | .ok (.ret u), hq' =>
    obtain ⟨v, H', I3, ru, ev, q3⟩ := I2.after hq'
    subst ev
    exact ⟨ru, ⟨V.ref (hp.objs.size + 1), H', I3, rfl, q3⟩⟩
  | .ok .next, hq' => exact False.elim hq'
  | .ok .brk, hq' => exact False.elim hq'
  | .ok .cont, hq' => exact False.elim hq'
end
theorem exd_nt {d : Addr} {fs : List (Str × V)} : NT (exd d fs) := fun ps z => by
  have z' : HO.ext _ = HO.tbl ps := z
  cases z'
theorem exo_nt {e C : Addr} {d : Option Addr} : NT (exo e C d) := fun ps => exo_tbl
theorem Reps.pick {K : Frg} {G : Hp} {ds : List D} {vs : List V} (h : Reps K G ds vs) : ∀ pm : List Nat, Reps K G (FL.pick pm ds) (FL.pick pm vs)
  | [] => rfl
  | i :: pm => by
    have ih := Reps.pick h pm
    unfold FL.pick at ih ⊢
    cases hd : ds[i]? with
    | none =>
      have hv : vs[i]? = none := by
        cases hv : vs[i]? with
        | none => rfl
        | some v => obtain ⟨d, e, _⟩ := Reps.get h hv; rw [hd] at e; cases e
      rw [List.filterMap_cons, List.filterMap_cons]
      simp only [hd, hv]
      exact ih
    | some d =>
      obtain ⟨v, hv, r⟩ := Reps.getD h hd
      rw [List.filterMap_cons, List.filterMap_cons]
      simp only [hd, hv]
      exact ⟨v, _, rfl, r, ih⟩
def ermD (c : Str) (ns : List Str) (ds : List D) (Γ : En) : O EV := if ds.length = ns.length ∧ ns ≠ [] then .ok (.d (.err c ns.reverse ds.reverse)) Γ else .fail
def ermK (n : Nat) (c : Str) (ns : List Str) (pm : List Nat) (r : Option (List D × En)) : O EV := match r with
  | some (ds, Γ) => if ds.length = n then ermD c ns (FL.pick pm ds) Γ else .fail
  | none => .fail
def ermE (n : Nat) (c : Str) (ns : List Str) (pm : List Nat) (u : AF) : EF := fun Γ => (u Γ).bind fun es Γ1 => ermK n c ns pm (frzs es Γ1)
def erm0E (c : Str) : EF := fun Γ => .ok (.d (.err c [] [])) Γ
theorem err_heap {H1 : Hp} {a d C : Addr} {e0 : HO} {fs : List (Str × V)} : upd (upd (upd H1 a e0) d (exd d fs)) a (exo a C (some d)) = upd (upd H1 d (exd d fs)) a (exo a C (some d)) := by
  funext b
  by_cases h1 : b = a
  · rw [h1, upd_same, upd_same]
  · rw [upd_ne h1, upd_ne h1]
    by_cases h2 : b = d
    · rw [h2, upd_same, upd_same]
    · rw [upd_ne h2, upd_ne h2, upd_ne h1]
theorem zip_fst : ∀ {ns : List Str} {xs : List V}, xs.length = ns.length → (ns.zip xs).map (·.1) = ns
  | [], [], _ => rfl
  | n :: ns, x :: xs, h => by rw [List.zip_cons_cons, List.map_cons, zip_fst (Nat.succ.inj h)]
theorem zip_snd : ∀ {ns : List Str} {xs : List V}, xs.length = ns.length → (ns.zip xs).map (·.2) = xs
  | [], [], _ => rfl
  | n :: ns, x :: xs, h => by rw [List.zip_cons_cons, List.map_cons, zip_snd (Nat.succ.inj h)]
theorem out_erm {K : Frg} {W : WX} {F : Fr} {Γ : En} {σ : St} {H G : Hp} {es : List EV} {vs : List V} {n : Nat} {c : Str} {ns : List Str} {pm : List Nat} (R : Rl K F Γ σ H G) (rs : vsrel K σ G es vs) :
    Out K W (vrel K) F σ G (fun Q => vs.length = n ∧ (FL.pick pm vs).length = ns.length ∧ ∀ b, H b = none → spXn (He.ga K c) ns (.ref b :: FL.pick pm vs) (upd H b (exo b (He.ga K c) none)) (fun v H2 => v = .non ∧ Q (.ref b) H2) (fun _ _ _ => False)) (ermK n c ns pm (frzs es Γ)) := by
  unfold ermK
  split
  · rename_i ds Γ2 ef
    split
    · rename_i hn
      obtain ⟨G2, R2, le, rp⟩ := R.frzs rs ef
      unfold ermD
      split
      · rename_i hl
        obtain ⟨hl, hne⟩ := hl
        have rk := Reps.pick rp pm
        have xl : (FL.pick pm vs).length = ns.length := by rw [Reps.len rk, hl]
        refine fun Q q => ⟨by rw [Reps.len rp, hn], xl, fun b hb => ⟨b, _, rfl, xl, upd_same, fun d hd ne => ⟨rfl, ?_⟩⟩⟩
        have hd1 : H d = none := by rw [upd_ne ne] at hd; exact hd
        rw [err_heap]
        have R3 := R2.new (o := exd d (ns.zip (FL.pick pm vs)).reverse) hd1 exd_nt
        have hb3 : upd H d (exd d (ns.zip (FL.pick pm vs)).reverse) b = none := by rw [upd_ne (Ne.symm ne)]; exact hb
        have R4 := R3.new (o := exo b (He.ga K c) (some d)) hb3 exo_nt
        have l1 : Le G2 (upd G2 d (exd d (ns.zip (FL.pick pm vs)).reverse)) := Le.upd (R2.gNone hd1)
        have l2 := Le.upd (o := exo b (He.ga K c) (some d)) (R3.gNone hb3)
        refine q _ _ _ R4 ((le.trans l1).trans l2) ⟨b, (ns.zip (FL.pick pm vs)).reverse, rfl, .inr ⟨d, upd_same, ?_⟩, ?_, ?_⟩
        · rw [upd_ne ne]; exact upd_same
        · rw [List.map_reverse, zip_fst xl]
        · rw [List.map_reverse, zip_snd xl]
          exact Reps.le (l1.trans l2) _ _ (Reps.rev rk)
      · trivial
    · trivial
  · trivial
section
variable {X : Cx} {W : WX} {B N I : String} {bB : List Value} {fI : Addr} {k : Nat} {fd : FuncData} {ps ns : List Str} {x c : Str} {p pos : Pos} {e : Expr} {es : List Expr} {kws : List Keyword} {u : AF} {pm : List Nat}
theorem pick1 (us : List Value) (h : us.length = 1) : FL.pick [0] us = us := by
  match us, h with
  | [a], _ => rfl
theorem pick2 (us : List Value) (h : us.length = 2) : FL.pick [0, 1] us = us := by
  match us, h with
  | [a, b], _ => rfl
theorem fe_mkX {n : Nat} (FB : ExcBaseFacts B N I bB) (T : OeB N I bB X.K (He.ga X.K c)) (iC : PySem.W.findIn X.K (.ref (He.ga X.K c)) "__init__" = some (some (.ref fI))) (tI : PySem.W.typeIn X.K (.ref fI) = some (.type "function"))
    (F1 : FnOk X.prog X.w X.K X.mg X.base (L2.CX X.prog X.w) k fI fd ps (spXn (He.ga X.K c) ns)) (hb : Binds X.K fd ps []) (hm : X.mg x = some (.ref (He.ga X.K c))) (hr : Room (k + 1) X.A) (ha : FA X W (e :: es) u) (hpk : ∀ us : List Value, us.length = n → FL.pick pm us = us) (hps : n + 1 = ps.length) (hn : n ≤ 1000)
    (hg : Gl X x := by rfl) (hdb : (x == ("__debug__" : Str)) = false := by decide) (he : starEach (e :: es) X.env = (false, eval e X.env) :: starEach es X.env := by rfl) (hpl : (backTo pos (starEach es X.env)).any (·.1) = false := by rfl) :
    FE X W (.Call (.Name x p) (e :: es) [] pos) (ermE n c ns pm u) := by
  obtain ⟨t, pt, s⟩ := ha
  refine ⟨fun σ H Q => t σ H fun vs H1 => vs.length = n ∧ (FL.pick pm vs).length = ns.length ∧ ∀ b, H1 b = none → spXn (He.ga X.K c) ns (.ref b :: FL.pick pm vs) (upd H1 b (exo b (He.ga X.K c) none)) (fun v H2 => v = .non ∧ Q (.ref b) H2) (fun _ _ _ => False), ⟨fun pins s' σ H Q I0 h => ?_⟩, fun Fr Γ σ H G R => ?_⟩
  · refine wpAny_Call_Name_kw (ld_glob I0 hg hm ?_ hdb)
    refine PySem.W.callWith_K (h₀ := X.base) I0.ok.mod.kin T.kC (thn (pt.run pos pins s' σ H _ I0 h) fun us s1 ⟨vs, H1, I1, r, l1, l2, q⟩ => ⟨I1.kIn, ?_⟩) he hpl
    have lu : us.length = n := r.length.symm.trans l1
    refine run_mkX (gu := fun b => Value.ref b :: FL.pick pm us) (gv := fun b => V.ref b :: FL.pick pm vs) FB T iC tI F1 hr I1 (show us.length ≤ sizeLine by rw [lu, sizeLine_eq]; omega) (fun s2 b kin => ?_) (fun b => .cons rfl (pick_paired r pm)) q
    have z := hb s2 (Value.ref b :: us) kin (by rw [List.append_nil, List.length_cons, lu, hps])
    rw [List.append_nil] at z
    rw [hpk us lu]
    exact z
  · exact Out.bind (T' := fun (vs : List V) (H1 : Hp) (Q : VK) => vs.length = n ∧ (FL.pick pm vs).length = ns.length ∧ ∀ b, H1 b = none → spXn (He.ga X.K c) ns (.ref b :: FL.pick pm vs) (upd H1 b (exo b (He.ga X.K c) none)) (fun v H2 => v = .non ∧ Q (.ref b) H2) (fun _ _ _ => False)) (s Fr Γ σ H G R) fun es' Γ1 vs H1 G1 R1 _ rs => out_erm R1 rs
theorem fe_mkXK {ks : List Str} (FB : ExcBaseFacts B N I bB) (T : OeB N I bB X.K (He.ga X.K c)) (iC : PySem.W.findIn X.K (.ref (He.ga X.K c)) "__init__" = some (some (.ref fI))) (tI : PySem.W.typeIn X.K (.ref fI) = some (.type "function"))
    (F1 : FnOk X.prog X.w X.K X.mg X.base (L2.CX X.prog X.w) k fI fd ps (spXn (He.ga X.K c) ns)) (hb : KB X.K fd ps 1 ks (0 :: pm.map (· + 1)) []) (hm : X.mg x = some (.ref (He.ga X.K c))) (hr : Room (k + 1) X.A) (hkw : FK X W kws u)
    (hg : Gl X x := by rfl) (hall : (backToKw pos (keywordEach kws X.env)).all (·.1.isSome) = true := by rfl) (hks : (backToKw pos (keywordEach kws X.env)).filterMap (·.1) = ks := by rfl)
    (hdb : (x == ("__debug__" : Str)) = false := by decide) (hpl : ((backTo pos (starEach [] X.env)).any (·.1) || (backToKw pos (keywordEach kws X.env)).any (·.1.isNone)) = false := by rfl) :
    FE X W (.Call (.Name x p) [] kws pos) (ermE ks.length c ns pm u) := by
  obtain ⟨t, pt, s⟩ := hkw
  refine ⟨fun σ H Q => t σ H fun vs H1 => vs.length = ks.length ∧ (FL.pick pm vs).length = ns.length ∧ ∀ b, H1 b = none → spXn (He.ga X.K c) ns (.ref b :: FL.pick pm vs) (upd H1 b (exo b (He.ga X.K c) none)) (fun v H2 => v = .non ∧ Q (.ref b) H2) (fun _ _ _ => False), ⟨fun pins s' σ H Q I0 h => ?_⟩, fun Fr Γ σ H G R => ?_⟩
  · refine wpAny_Call_Name_kw (ld_glob I0 hg hm ?_ hdb)
    refine PySem.W.callWith_KW0 (h₀ := X.base) I0.ok.mod.kin T.kC hall ?_ hpl
    refine thn (pt.run pos pins s' σ H _ I0 h) fun ws s1 ⟨vs, H1, I1, r, l1, l2, q⟩ => ⟨I1.kIn, ?_⟩
    rw [hks]
    have lw : ws.length = ks.length := r.length.symm.trans l1
    refine run_mkX (gu := fun b => Value.ref b :: FL.pick pm ws) (gv := fun b => V.ref b :: FL.pick pm vs) FB T iC tI F1 hr I1 (Nat.zero_le _) (fun s2 b kin => ?_) (fun b => .cons rfl (pick_paired r pm)) q
    have z := hb.to s2 [Value.ref b] ws kin rfl lw
    rw [List.append_nil, List.cons_append, List.nil_append, pick_succ] at z
    exact z
  · exact Out.bind (T' := fun (vs : List V) (H1 : Hp) (Q : VK) => vs.length = ks.length ∧ (FL.pick pm vs).length = ns.length ∧ ∀ b, H1 b = none → spXn (He.ga X.K c) ns (.ref b :: FL.pick pm vs) (upd H1 b (exo b (He.ga X.K c) none)) (fun v H2 => v = .non ∧ Q (.ref b) H2) (fun _ _ _ => False)) (s Fr Γ σ H G R) fun es' Γ1 vs H1 G1 R1 _ rs => out_erm R1 rs
theorem fe_mkX0 (FB : ExcBaseFacts B N I bB) (q : PySem.W.excIn X.K (He.ga X.K c) bB N = true) (kC : PySem.W.keepIn X.K (.ref (He.ga X.K c)) = true) (hm : X.mg x = some (.ref (He.ga X.K c))) (hg : Gl X x := by rfl) (hdb : (x == ("__debug__" : Str)) = false := by decide) :
    FE X W (.Call (.Name x p) [] [] pos) (erm0E c) := by
  refine ⟨fun σ H Q => ∀ b, H b = none → Q (.ref b) (upd H b (exo b (He.ga X.K c) none)), ⟨fun pins s σ H Q I0 h => ?_⟩, fun Fr Γ σ H G R => ?_⟩
  · refine wpAny_Call_Name_kw (ld_glob I0 hg hm ?_ hdb)
    refine PySem.W.callWith_K0 I0.kIn kC ?_
    obtain ⟨bm, Na, nm, qn, bs, hdct, sn, sub, ab, col, dd, k0, k1, k2, k3, k5, mN, hC, hN, hni, T⟩ := exc_obj I0.kIn q
    refine wpAny_call_exc_subT FB T hC hN hni (fun h' b m => ?_) (Nat.zero_le _)
    obtain ⟨t, hx, _⟩ := m.there
    have hn := I0.hok.gone m.new
    exact ⟨.ref b, _, I0.laidN (t' := s.toks) m.keeps m.new hn (exo_ok hx), rfl, h b hn⟩
  · refine fun Q q => fun b hb => ?_
    have R2 := R.new (o := exo b (He.ga X.K c) none) hb exo_nt
    exact q _ _ _ R2 (Le.upd (R.gNone hb)) ⟨b, [], rfl, .inl ⟨rfl, upd_same⟩, rfl, rfl⟩
end
end FL

set_option Elab.async false
set_option linter.all false
set_option maxRecDepth 100000
set_option maxHeartbeats 4000000
namespace FL
open PySem PySem.Spec PyProof.Rows L2
variable [Wrl] [Tabl]
def errY : List Str := ["InvalidRow", "InvalidText", "InvalidBox", "InvalidName", "InvalidStep", "InvalidPlace", "InvalidClaim", "NotABook", "InvalidAnswers", "InvalidSteps", "NothingToUndo", "Broken"]
def ownY : List Str := errY ++ (["NotRight", "CannotBe"] : List Str)
def bltY : List String := ["ValueError", "ArithmeticError", "LookupError", "TypeError", "ZeroDivisionError", "OverflowError"]
def ariY (c : Str) : Bool := decide (c = "NothingToUndo") || decide (c = "Broken")
def isYD (C c : Str) : Option Bool := if errY.contains c && ownY.contains C then some (decide (C = c) || (decide (C = "NotRight") && !ariY c) || (decide (C = "CannotBe") && ariY c)) else none
def isYB (B : String) (c : Str) : Option Bool := if errY.contains c && bltY.contains B then some ((decide (B = "ValueError") && !ariY c) || (decide (B = "ArithmeticError") && ariY c)) else none
def isy1 (K : Frg) (c : Str) : Bool := (ownY.all fun C => decide (PySem.W.kitOne K (.ref (He.ga K c)) (.ref (He.ga K C)) = isYD C c)) && ((bltY.all fun B => decide (PySem.W.kitOne K (.ref (He.ga K c)) (.type B) = isYB B c)) && (excB K c && ((["given", "index", "shown"] : List Str).all fun n => decide (PySem.W.findIn K (.ref (He.ga K c)) n = some none))))
def isyT (K : Frg) : Bool := errY.all (isy1 K)
section
variable {K : Frg} {c C n : Str} {B : String} {k : Bool}
theorem isyT_at (h : isyT K = true) (hc : c ∈ errY) : isy1 K c = true := List.all_eq_true.mp h c hc
theorem isyT_exc (h : isyT K = true) (hc : c ∈ errY) : ExcC K (He.ga K c) ∧ XfC K (He.ga K c) := excB_ok (He.ba (He.ba (He.ba (isyT_at h hc)).2).2).1
theorem isyT_own (h : isyT K = true) (e : isYD C c = some k) : c ∈ errY ∧ PySem.W.kitOne K (.ref (He.ga K c)) (.ref (He.ga K C)) = some k := by
  have z : (errY.contains c && ownY.contains C) = true := by
    unfold isYD at e
    split at e
    · rename_i z; exact z
    · cases e
  have hc := List.contains_iff_mem.mp (Bool.and_eq_true_iff.mp z).1
  refine ⟨hc, ?_⟩
  rw [← e]
  exact of_decide_eq_true (List.all_eq_true.mp (He.ba (isyT_at h hc)).1 C (List.contains_iff_mem.mp (Bool.and_eq_true_iff.mp z).2))
theorem isyT_blt (h : isyT K = true) (e : isYB B c = some k) : c ∈ errY ∧ PySem.W.kitOne K (.ref (He.ga K c)) (.type B) = some k := by
  have z : (errY.contains c && bltY.contains B) = true := by
    unfold isYB at e
    split at e
    · rename_i z; exact z
    · cases e
  have hc := List.contains_iff_mem.mp (Bool.and_eq_true_iff.mp z).1
  refine ⟨hc, ?_⟩
  rw [← e]
  exact of_decide_eq_true (List.all_eq_true.mp (He.ba (He.ba (isyT_at h hc)).2).1 B (List.contains_iff_mem.mp (Bool.and_eq_true_iff.mp z).2))
theorem isyT_fld (h : isyT K = true) (hc : c ∈ errY) (hn : n ∈ (["given", "index", "shown"] : List Str)) : PySem.W.findIn K (.ref (He.ga K c)) n = some none := of_decide_eq_true (List.all_eq_true.mp (He.ba (He.ba (He.ba (isyT_at h hc)).2).2).2 n hn)
end
section
variable {X : Cx} {W : WX} {e a b : Expr} {f : EF} {p pos : Pos}
def ErrH (H : Hp) (a D : Addr) : Prop := H a = some (exo a D none) ∨ ∃ d fs, H a = some (exo a D (some d)) ∧ H d = some (exd d fs)
theorem ErrAt.eh {G H : Hp} (h : Le G H) {a D : Addr} {fv : List (Str × V)} : ErrAt G a D fv → ErrH H a D
  | .inl ⟨_, e⟩ => .inl (h _ _ e)
  | .inr ⟨d, e1, e2⟩ => .inr ⟨d, fv, h _ _ e1, h _ _ e2⟩
theorem errh_at {pins : List (Addr × Obj)} {σ : St} {H : Hp} {s : Shared} {a D : Addr} (I : Inv X pins σ H s) (h : ErrH H a D) : ∃ ob od, PySem.W.InstAt s.heap a ob D od := by
  rcases h with h | ⟨d, fs, h1, h2⟩
  · obtain ⟨t, ho⟩ := exo_at I.hok h
    exact ⟨_, none, ho, rfl, rfl, trivial⟩
  · obtain ⟨t, ho⟩ := exo_at I.hok h1
    obtain ⟨mA, hns, _⟩ := exd_at I.hok h2
    obtain ⟨od, hod, _⟩ := lookIn_ns hns
    exact ⟨_, some od, ho, rfl, rfl, hod⟩
def rIsY (K : Frg) : List V → Hp → VK → Prop := fun xs H Q => ∃ (a D : Addr) (c : V) (cv : Value) (k : Bool), xs = [.ref a, c] ∧ (∀ u, RelV c u → u = cv) ∧ ExcC K D ∧ PySem.W.kitOne K (.ref D) cv = some k ∧ ErrH H a D ∧ Q (.bl k) H
theorem call_isY : CallR X (.builtin "isinstance") (rIsY X.K) := by
  intro pins s σ H xs us Q I r h
  obtain ⟨a, D, c, cv, k, rfl, hcv, C, e, hd, q⟩ := h
  cases r with
  | @cons _ u0 _ ur rx rr =>
    obtain ⟨u, rfl, rt⟩ := vals1 rr
    cases rx
    obtain rfl := hcv _ rt
    obtain ⟨ob, od, J⟩ := errh_at I hd
    obtain ⟨cd, hcd, _⟩ := PySem.W.any_some C.hd
    exact PySem.W.kia_one (PySem.W.kitx_exc (by rw [hcd]; rfl) C.hg C.hk C.hs C.ha C.hn C.ht C.hm) I.kIn J e (fun z => nomatch z) fun tk => ⟨.bl k, H, I.kept (t' := tk) fun _ _ z => z, rfl, q⟩
def isyK (tab : Str → Option Bool) (ev : EV) (Γ : En) : O EV := match ev with
  | .d (.err c _ _) => (match tab c with
    | some k => .ok (.d (.bl k)) Γ
    | none => .fail)
  | _ => .fail
def isyE (tab : Str → Option Bool) (f : EF) : EF := fun Γ => (f Γ).bind (isyK tab)
theorem fe_isy {v : Value} {tab : Str → Option Bool} (hm : X.mg "isinstance" = none) (hk : ∀ c k, tab c = some k → ExcC X.K (He.ga X.K c) ∧ PySem.W.kitOne X.K (.ref (He.ga X.K c)) v = some k)
    (hc : FC X b v) (ha : FE X W a f) (hg : Gl X "isinstance" := by rfl) (he : starEach [a, b] X.env = (false, eval a X.env) :: starEach [b] X.env := by rfl) (he2 : starEach [b] X.env = (false, eval b X.env) :: starEach [] X.env := by rfl) (hpl : (backTo pos (starEach [b] X.env)).any (·.1) = false := by rfl) :
    FE X W (.Call (.Name "isinstance" p) [a, b] [] pos) (isyE tab f) := by
  obtain ⟨t, p1, s1⟩ := ha
  obtain ⟨cv, hcv, pc⟩ := hc
  refine ⟨_, pe_callB call_isY hg hm (by decide +kernel) (pa_cons p1 (pa_cons pc pa_nil he2) he) (he := he) (hpl := hpl), Sem.bind (T := fun x σ H Q => rIsY X.K [x, cv] H Q) s1 fun F Γ σ H G ev w R r => ?_⟩
  unfold isyK
  split
  · rename_i c ns fs
    split
    · rename_i k hk'
      obtain ⟨z1, z2⟩ := hk c k hk'
      obtain ⟨q0, fv, rfl, h1, _⟩ := (show Rep X.K G (.err c ns fs) w from r)
      exact fun Q q => ⟨q0, _, cv, v, k, rfl, fun u ru => hcv.eq ru, z1, z2, h1.eh R.gh, q _ _ _ R (Le.refl G) rfl⟩
    · trivial
  · trivial
def tXy (K : Frg) (n : Str) (te : TE) : TE := fun σ H Q => te σ H fun x H1 => ∃ (q C d : Addr) (fs : List (Str × V)) (v : V), x = .ref q ∧ XfC K C ∧ PySem.W.findIn K (.ref C) n = some none ∧ H1 q = some (exo q C (some d)) ∧ H1 d = some (exd d fs) ∧ fs.lookup n = some v ∧ Q v H1
theorem pe_xy {te : TE} {n : Str} (he : PE X e te) (hb : attributeBase e n X.env (eval e X.env) = eval e X.env := by rfl) : PE X (.Attribute e n pos) (tXy X.K n te) := by
  refine ⟨fun ps s τ J Q I h => ?_⟩
  refine attr_of hb (thn (he.run ps s τ J _ I h) fun u s1 hh => ?_)
  obtain ⟨x, J1, I1, rx, b, C, d, fs, v, ex, T, no, e1, e2, l, q⟩ := hh
  subst ex
  obtain rfl : u = Value.ref b := rx
  obtain ⟨t, ho⟩ := exo_at I1.hok e1
  obtain ⟨mA, hns, rel⟩ := exd_at I1.hok e2
  obtain ⟨od, hod, hl⟩ := lookIn_ns hns
  obtain ⟨w, hw, rw'⟩ := RelO.some_of (v := v) (o := mA n) (by rw [← l]; exact rel n)
  have Z : PySem.W.InstAt s1.heap b _ C (some od) := ⟨ho, rfl, rfl, hod⟩
  exact HandSPX.exc_get I1.kIn Z T.ga T.gg T.exC (PySem.W.findObj_own T.hdC no rfl (by rw [hl, hw])) (handed_of rw') ⟨v, J1, I1.tok _, rw', q⟩
def xyK (n : Str) (ev : EV) (Γ : En) : O EV := match ev with
  | .d (.err c ns fs) => if errY.contains c = true then (match fldOf n ns fs with
    | some d => .ok (.d d) Γ
    | none => .fail) else .fail
  | _ => .fail
def xyE (n : Str) (f : EF) : EF := fun Γ => (f Γ).bind (xyK n)
theorem fe_xy {n : Str} (h : isyT X.K = true) (hn : n ∈ (["given", "index", "shown"] : List Str)) (ha : FE X W e f) (hb : attributeBase e n X.env (eval e X.env) = eval e X.env := by rfl) : FE X W (.Attribute e n pos) (xyE n f) := by
  obtain ⟨t, p1, s1⟩ := ha
  refine ⟨_, pe_xy p1 hb, Sem.bind (T := fun x σ H1 Q => ∃ (q C d : Addr) (fs : List (Str × V)) (v : V), x = .ref q ∧ XfC X.K C ∧ PySem.W.findIn X.K (.ref C) n = some none ∧ H1 q = some (exo q C (some d)) ∧ H1 d = some (exd d fs) ∧ fs.lookup n = some v ∧ Q v H1) s1 fun F Γ σ H G ev w R r => ?_⟩
  unfold xyK
  split
  · rename_i c ns fs
    split
    · rename_i hc
      have hc := List.contains_iff_mem.mp hc
      split
      · rename_i d hd
        obtain ⟨q0, fv, rfl, h1, hns, hr⟩ := (show Rep X.K G (.err c ns fs) w from r)
        rcases h1 with ⟨rfl, _⟩ | ⟨dd, g1, g2⟩
        · rw [← hns] at hd
          cases hd
        · obtain ⟨v, e1, e2⟩ := xd_look hns hr hd
          exact fun Q q => ⟨q0, _, dd, fv, v, rfl, (isyT_exc h hc).2, isyT_fld h hc hn, R.gh _ _ g1, R.gh _ _ g2, e1, q _ _ _ R (Le.refl G) e2⟩
      · trivial
    · trivial
  · trivial
end
end FL

set_option Elab.async false
set_option linter.all false
set_option maxRecDepth 100000
set_option maxHeartbeats 4000000
namespace FL
open PySem PySem.Spec PyProof.Rows L2
variable [Wrl] [Tabl]
section
variable {X : Cx} {W : WX} {B N I : String} {bB : List Value} {C fI : Addr} {k : Nat} {fd : FuncData} {ps ns : List Str} {sp : Sp} {x c : Str} {p pos pos' : Pos} {e : Expr} {es : List Expr} {ta : TA} {u : AF}
theorem pmk_oeb (FB : ExcBaseFacts B N I bB) (T : OeB N I bB X.K C) (iC : PySem.W.findIn X.K (.ref C) "__init__" = some (some (.ref fI))) (tI : PySem.W.typeIn X.K (.ref fI) = some (.type "function"))
    (F1 : FnOk X.prog X.w X.K X.mg X.base (L2.CX X.prog X.w) k fI fd ps sp) (hr : Room (k + 1) X.A) (hb : Binds X.K fd ps []) (hg : Gl X x) (hm : X.mg x = some (.ref C)) (ha : PA X (e :: es) ta)
    (hdb : (x == ("__debug__" : Str)) = false := by decide) (he : starEach (e :: es) X.env = (false, eval e X.env) :: starEach es X.env := by rfl) (hpl : (backTo pos (starEach es X.env)).any (·.1) = false := by rfl) :
    PMk X (.Call (.Name x p) (e :: es) [] pos) (tMkO C sp [] ta) := by
  intro pins s τ J Q I0 h
  obtain ⟨nm, q, Na, bs, bm, sn, sub, ab, col, dd, k0, k1, k2, k3, k5, hC, hbm⟩ := T.cls
  refine wpAny_Call_Name_kw (ld_glob I0 hg hm ?_ hdb)
  refine PySem.W.callWith_K (h₀ := X.base) I0.ok.mod.kin T.kC (thn (ha.run pos pins s τ J _ I0 h) fun us s1 ⟨vs, J1, I1, r1, hz, q1⟩ => ⟨I1.kIn, ?_⟩) he hpl
  show wpAny _ _ (call (.ref C) us) _ _ _
  obtain ⟨hp, g, dr, tk, os⟩ := s1
  have hsz : hp.objs.size ≤ hp.objs.size + 1 := Nat.le_succ _
  have hq := q1 (hp.objs.size + 1) (I1.hok.fresh hsz)
  have kk : ∀ b o, hp.get? b = some o → ((hp.push (PySem.W.kdv_tup us)).push (PySem.HandSPX.excO C hp.objs.size)).get? b = some o := fun b o e => Heap.get?_push_of_some _ (Heap.get?_push_of_some _ e)
  have hx : ((hp.push (PySem.W.kdv_tup us)).push (PySem.HandSPX.excO C hp.objs.size)).get? (hp.objs.size + 1) = some (PySem.HandSPX.excO C hp.objs.size) := by heap_get
  have I2 : Inv X pins τ (upd J1 (hp.objs.size + 1) (exo (hp.objs.size + 1) C none)) ⟨(hp.push (PySem.W.kdv_tup us)).push (PySem.HandSPX.excO C hp.objs.size), g, dr, tk, os⟩ := I1.laid (t' := tk) kk hsz (exo_ok hx)
  have r2 : Vals (V.ref (hp.objs.size + 1) :: (vs ++ [])) (Value.ref (hp.objs.size + 1) :: (us ++ [])) := .cons rfl (r1.append .nil)
  have hl : (Value.ref (hp.objs.size + 1) :: us ++ []).length = ps.length := by
    have e := r2.length
    rw [F1.len _ _ _ _ hq] at e
    exact e.symm
  have hus : us.length ≤ sizeLine := by
    rw [← r1.length, sizeLine_eq]
    omega
  have hbd := hb _ (Value.ref (hp.objs.size + 1) :: us) I2.kIn hl
  rw [List.cons_append] at hbd
  refine wpAny_call (EK.callN (fV := .ref fI) FB (fun Y => PySem.W.excTail_contains Y bm hbm) (I1.kIn _ _ hC) (PySem.W.looks_findIn I1.kIn iC) (fun self => PySem.W.bind_fn I1.kIn self tI) hus
    (codeAny_mono (F1.run _ X.stack _ _ ⟨Value.ref (hp.objs.size + 1) :: us, []⟩ (Value.ref (hp.objs.size + 1) :: (us ++ [])) _ _ (fun _ _ _ => False) (hr.make C us []) (I2.env0.make C us []) hbd r2 hq) fun r s' hq' => ?_))
  match r, hq' with
  | .error er, hq' =>
    obtain ⟨_, _, _, _, _, _, _, _, _, _, _, _, z⟩ := (hq' : L2.CX X.prog X.w X.stack _ _ (fun _ _ _ => False) er s')
    exact z.elim
  | .ok (.ret u), hq' =>
    obtain ⟨v, J2, os2, bare2, un2, hok2, rv, ev, d, fs, ea, ed, hd1, q2⟩ := hq'
    subst ev
    obtain ⟨h2, g2, d2, t2, os'⟩ := s'
    exact ⟨rv, mk_end (raises_own T.exC T.tyC) I1 hsz kk un2 hok2 os2 bare2 ea ed hd1 q2⟩
  | .ok .next, hq' => exact False.elim hq'
  | .ok .brk, hq' => exact False.elim hq'
  | .ok .cont, hq' => exact False.elim hq'
def raiNK (c : Str) (ns : List Str) (r : Option (List D × En)) : O Fl := match r with
  | some (ds, Γ) => if ds.length = ns.length ∧ ns ≠ [] then .exc c ns.reverse ds.reverse Γ else .fail
  | none => .fail
def raiseN (c : Str) (ns : List Str) (u : AF) : SF := fun Γ => (u Γ).bind fun es Γ1 => raiNK c ns (frzs es Γ1)
theorem fs_raiseN (hc : X.calm = true) (tk : Takes X W) (FB : ExcBaseFacts B N I bB) (T : OeB N I bB X.K (He.ga X.K c)) (iC : PySem.W.findIn X.K (.ref (He.ga X.K c)) "__init__" = some (some (.ref fI))) (tI : PySem.W.typeIn X.K (.ref fI) = some (.type "function"))
    (F1 : FnOk X.prog X.w X.K X.mg X.base (L2.CX X.prog X.w) k fI fd ps (spXn (He.ga X.K c) ns)) (hb : Binds X.K fd ps []) (hm : X.mg x = some (.ref (He.ga X.K c))) (hr : Room (k + 1) X.A) (ha : FA X W (e :: es) u) (hnl : ns.length ≤ 1000)
    (hg : Gl X x := by rfl) (hdb : (x == ("__debug__" : Str)) = false := by decide) (he : starEach (e :: es) X.env = (false, eval e X.env) :: starEach es X.env := by rfl) (hpl : (backTo pos (starEach es X.env)).any (·.1) = false := by rfl) :
    FS X W (.Raise (some (.Call (.Name x p) (e :: es) [] pos)) none pos') (raiseN c ns u) := by
  obtain ⟨t, pt, s⟩ := ha
  refine ⟨_, ps_raise hc tk (pmk_oeb (sp := spXn (He.ga X.K c) ns) FB T iC tI F1 hr hb hg hm pt hdb he hpl), fun F Γ σ H G R => ?_⟩
  refine OutS.bind (T' := fun (vs : List V) (H1 : Hp) (D : Ends) => vs.length ≤ 1000 ∧ ∀ a, H1 a = none → spXn (He.ga X.K c) ns (.ref a :: (vs ++ [])) (upd H1 a (exo a (He.ga X.K c) none))
    (fun v H2 => v = .non ∧ ∃ (d : Addr) (fs : List (Str × V)), H2 a = some (exo a (He.ga X.K c) (some d)) ∧ H2 d = some (exd d fs) ∧ H1 d = none ∧ W (.ref (He.ga X.K c)) (some d) σ (upd (del H2 a) d (.xd fs))) (fun _ _ _ => False)) (s F Γ σ H G R) fun es' Γ1 vs H1 G1 R1 _ rs => ?_
  unfold raiNK
  split
  · rename_i ds Γ2 ef
    split
    · rename_i hl
      obtain ⟨hl, hne⟩ := hl
      obtain ⟨G2, R2, le, rp⟩ := R1.frzs rs ef
      have xl : vs.length = ns.length := by rw [Reps.len rp, hl]
      refine fun D q => ⟨by omega, fun a ha => ⟨a, vs ++ [], rfl, by rw [List.append_nil]; exact xl, upd_same, fun dx hdx ne => ⟨rfl, dx, (ns.zip vs).reverse, upd_same, by rw [upd_ne ne, List.append_nil]; exact upd_same, ?_, ?_⟩⟩⟩
      · rw [upd_ne ne] at hdx; exact hdx
      · have hd1 : H1 dx = none := by rw [upd_ne ne] at hdx; exact hdx
        rw [List.append_nil, made_heap ha ne]
        have l1 := Le.upd (o := .xd (ns.zip vs).reverse) (R2.gNone hd1)
        refine q _ _ σ _ _ (R2.new (o := .xd (ns.zip vs).reverse) hd1) (le.trans l1) ⟨rfl, (ns.zip vs).reverse, ?_, ?_, .inr ⟨dx, rfl, upd_same⟩⟩
        · rw [List.map_reverse, zip_fst xl]
        · rw [List.map_reverse, zip_snd xl]
          exact Reps.le l1 _ _ (Reps.rev rp)
    · trivial
  · trivial
end
def tryNK (i : Nat) (c0 : Str) (hv : List Str → List D → En → Option En) (r : O Fl) : O Fl := match r with
  | .exc c ns fs Γ => if c = c0 ∧ isBor Γ i = false ∧ i < Γ.length then (match hv ns fs Γ with
    | some Γ' => .ok .nx (Γ'.set i .no)
    | none => .fail) else .fail
  | r => r
def tryN (i : Nat) (c0 : Str) (hv : List Str → List D → En → Option En) (sf : SF) : SF := fun Γ => tryNK i c0 hv (sf Γ)
def HvN (i : Nat) (c0 : Str) (hv : List Str → List D → En → Option En) (h : Addr → Addr → SF) : Prop :=
  ∀ a dd ns fs Γ Γ', isBor Γ i = false → i < Γ.length → hv ns fs Γ = some Γ' → ns ≠ [] ∧ h a dd (Γ.set i (.im (.exn a dd c0 ns fs))) = .ok .nx (Γ'.set i (.im (.exn a dd c0 ns fs)))
theorem fs_tryN {X : Cx} {W : WX} {x n c0 C0 : Str} {i : Nat} {body suite : List Stmt} {b₀ : Stmt} {np pos pos' : Pos} {sf : SF} {h : Addr → Addr → SF} {hv : List Str → List D → En → Option En} (tk : Takes X W) (hs : X.stack = X.env :: X.outer) (hf : X.env.frame = some X.env.locals) (hN : X.N.Nodup) (hi : X.N[i]? = some n)
    (hln : X.env.kindOf n = some .local) (hg : Gl X x) (hdb : (x == ("__debug__" : Str)) = false) (hm : X.mg x = some (.ref (He.ga X.K C0))) (hx : PySem.W.exmOne X.K (.ref (He.ga X.K c0)) (.ref (He.ga X.K C0)) = some true)
    (hb : ∀ (W : WX) (pn : List (Addr × Obj)) (xe : Value → Shared → Prop), Takes (X.tr pn xe) W → PassesOwn (model X.prog X.w) X.A X.env xe → FB (X.tr pn xe) W body sf)
    (hsu : ∀ (a dd : Addr) (oe : Obj) (pn : List (Addr × Obj)), Zc (.ref (He.ga X.K c0)) (some dd) oe → (∃ vs, oe.data = .fields vs) → FB (X.suite a ((a, oe) :: pn)) noW (b₀ :: suite) (h a dd))
    (hr : HvN i c0 hv h) : FS X W (.Try body [.ExceptHandler (some (.Name x np)) (some n) (b₀ :: suite) pos'] [] [] pos) (tryN i c0 hv sf) := by
  let ts : Addr → Value → Option Addr → TS := fun a cls d D σ H => ∃ dd, cls = .ref (He.ga X.K c0) ∧ d = some dd ∧ wpS X.K noW (h a dd) D σ H
  refine ⟨_, ps_try_as (tb := fun W => wpS X.K W sf) (ts := ts) hs hf hN hi hln ⟨hg, hdb, .inl hm⟩ tk (fun W pn xe tk hp => (hb W pn xe tk hp).wp) (fun a oe cls d pn hz hf => ?_), fun F Γ σ H G R => ?_⟩
  · refine ⟨fun pins s τ J D I ⟨dd, e1, e2, q⟩ => ?_⟩
    subst e1 e2
    exact (hsu a dd oe pn hz hf).wp.run pins s τ J D I q
  · unfold tryN
    cases e : sf Γ with
    | fail => trivial
    | ok fl Γ' =>
      intro D q
      exact ⟨F, Γ, G, R, by rw [e]; exact q⟩
    | exc c ns fs Γ' =>
      show OutS X.K W F G _ (if c = c0 ∧ isBor Γ' i = false ∧ i < Γ'.length then (match hv ns fs Γ' with | some Γ2 => (O.ok .nx (Γ2.set i .no) : O Fl) | none => .fail) else .fail)
      split
      · rename_i hc
        obtain ⟨rfl, hbo, hle⟩ := hc
        split
        · rename_i Γ2 ed
          intro D q
          refine ⟨F, Γ, G, R, ?_⟩
          rw [e]
          intro cls dx σ' H' G' R' le xr
          obtain ⟨rfl, fv, hn, rp, hd⟩ := xr
          refine ⟨true, hx, fun _ a ha => ?_, fun z => by cases z⟩
          have hns := (hr 0 0 ns fs Γ' Γ2 hbo hle ed).1
          obtain ⟨dd, rfl, hdd⟩ : ∃ dd, dx = some dd ∧ G' dd = some (.xd fv) := by
            rcases hd with z | z
            · exact absurd z hns
            · exact z
          have R2 := R'.setIm (i := i) (d := .exn a dd c ns fs) (v := .ref a) (R'.notBor hbo) ⟨rfl, fv, hdd, hn, rp⟩
          refine ⟨dd, rfl, rfl, F, _, G', R2, ?_⟩
          rw [(hr a dd ns fs Γ' Γ2 hbo hle ed).2]
          intro τ J G2 R3 le2
          have R4 := R3.setNo (i := i) (x := none) (R'.notBor hbo)
          rw [List.set_set] at R4
          exact q _ J G2 R4 (le.trans le2)
        · trivial
      · trivial
def hvApp (n : Str) (j : Nat) (ns : List Str) (fs : List D) (Γ : En) : Option En := match fldOf n ns fs, Γ[j]? with
  | some d, some (.acc (.l xs)) => (match reprD d with
    | some z => if xs.length < sizeLine then some (Γ.set j (.acc (.l (xs ++ [z])))) else none
    | none => none)
  | _, _ => none
theorem hv_app {i j : Nat} {c0 n : Str} (hij : i ≠ j) : HvN i c0 (hvApp n j) (fun a dd => appS j (opN (one reprD) (aCons (xfE a dd c0 n (vE i)) aNil))) := fun a dd ns fs Γ Γ' hb hi h => by
  unfold hvApp at h
  split at h
  · rename_i d xs h1 h2
    split at h
    · rename_i z h3
      split at h
      · rename_i hz
        cases h
        refine ⟨fld_ne h1, ?_⟩
        have e1 := xfE_at (vE_im (set_at (s := .im (.exn a dd c0 ns fs)) hi)) h1
        have e2 : (Γ.set i (.im (.exn a dd c0 ns fs)))[j]? = some (.acc (.l xs)) := by rw [List.getElem?_set_ne hij]; exact h2
        have e3 : opN (one reprD) (aCons (xfE a dd c0 n (vE i)) aNil) (Γ.set i (.im (.exn a dd c0 ns fs))) = .ok (.d z) (Γ.set i (.im (.exn a dd c0 ns fs))) := by
          generalize xfE a dd c0 n (vE i) = f1 at e1 ⊢
          simp -implicitDefEqProofs only [Ev.all, Ev.all2, Ev.all3, ↓e1, h3, Option.bind_some, Option.map_some]
        show (if isOwnL (Γ.set i (.im (.exn a dd c0 ns fs))) j then (opN (one reprD) (aCons (xfE a dd c0 n (vE i)) aNil) (Γ.set i (.im (.exn a dd c0 ns fs)))).bind (finApp j) else .fail) = _
        rw [e3]
        generalize hΔ : Γ.set i (.im (.exn a dd c0 ns fs)) = Δ at e2
        have o1 : isOwnL Δ j = true := by unfold isOwnL ownD; rw [e2]
        rw [if_pos o1]
        rw [show (Γ.set j (.acc (.l (xs ++ [z])))).set i (.im (.exn a dd c0 ns fs)) = Δ.set j (.acc (.l (xs ++ [z]))) from by rw [← hΔ]; exact List.set_comm _ _ (Ne.symm hij)]
        have o2 : ownD Δ j = some (.l xs) := by unfold ownD; rw [e2]
        have o3 : putOwn Δ j (.l (xs ++ [z])) = Δ.set j (.acc (.l (xs ++ [z]))) := by unfold putOwn; rw [e2]
        show (match ownD Δ j with | some (.l xs) => if xs.length < sizeLine then (O.ok .nx (putOwn Δ j (.l (xs ++ [z]))) : O Fl) else .fail | _ => .fail) = _
        rw [o2]
        show (if xs.length < sizeLine then (O.ok .nx (putOwn Δ j (.l (xs ++ [z]))) : O Fl) else .fail) = _
        rw [if_pos hz, o3]
      · cases h
    · cases h
  · cases h
namespace Ev
variable {u : AF} {Γ : En} {c c0 n : Str} {ns pm} {i m : Nat} {sf : SF} {hv : List Str → List D → En → Option En} {fs ds : List D} {fl : Fl} {f : EF} {tab : Str → Option Bool}
theorem ermE : FL.ermE m c ns pm u Γ = (u Γ).bind fun es Γ1 => ermK m c ns pm (frzs es Γ1) := rfl
theorem ermD : FL.ermD c ns ds Γ = if ds.length = ns.length ∧ ns ≠ [] then .ok (.d (.err c ns.reverse ds.reverse)) Γ else .fail := rfl
theorem isyE : FL.isyE tab f Γ = (f Γ).bind (isyK tab) := rfl
theorem xyE : FL.xyE n f Γ = (f Γ).bind (xyK n) := rfl
theorem raiseN : FL.raiseN c ns u Γ = (u Γ).bind fun es Γ1 => raiNK c ns (frzs es Γ1) := rfl
theorem tryN : FL.tryN i c0 hv sf Γ = tryNK i c0 hv (sf Γ) := rfl
end Ev
end FL

set_option Elab.async false
set_option linter.all false
set_option maxRecDepth 100000
set_option maxHeartbeats 4000000
namespace FL
open PySem PySem.Spec PyProof.Rows L2
def oeaC (K : Frg) (C : Addr) : Bool := match K.lookup C with
  | some ⟨.type "type", _, .cls cd, sl⟩ => (match cd.mro, sl.toList with
    | .ref C' :: bm, [_, _, _, _, some (.builtin n), _] => C' == C && (n == "ArithmeticError.__new__" && (!cd.hasDel && (cd.hasDict && PySem.W.excTail aeTail bm)))
    | _, _ => false)
  | _ => false
theorem oeaC_ok {K : Frg} {C : Addr} (q : oeaC K C = true) : ∃ nm q N bs bm sn sub ab col dd k0 k1 k2 k3 k5, K.lookup C = some (excClassObj nm q C N bs bm true sn sub ab col dd k0 k1 k2 k3 k5 "ArithmeticError.__new__") ∧ PySem.W.excTail aeTail bm = true := by
  unfold oeaC at q
  split at q
  · rename_i dd cd sl ho
    split at q
    · rename_i C' bm k0 k1 k2 k3 n k5 hm hs
      simp only [Bool.and_eq_true, beq_iff_eq, Bool.not_eq_true'] at q
      obtain ⟨rfl, rfl, hdel, hdict, hv⟩ := q
      obtain ⟨nm, bs, mro, ns, qn, hd, sn, sub, ab, col, del⟩ := cd
      dsimp only at hm hdel hdict
      subst hm hdel hdict
      obtain ⟨l⟩ := sl
      simp only at hs
      subst hs
      exact ⟨nm, qn, ns, bs, bm, sn, sub, ab, col, dd, k0, k1, k2, k3, k5, ho, hv⟩
    · cases q
  · cases q
def oeaB (K : Frg) (c : Str) : Bool := oeaC K (He.ga K c) && (decide (PySem.W.findIn K (.ref (He.ga K c)) "__setattr__" = some (some (.builtin "object.__setattr__"))) && (decide (PySem.W.subIn K (.ref (He.ga K c)) (.type "BaseException") = some true) &&
  (decide (PySem.W.typeIn K (.ref (He.ga K c)) = some (.type "type")) && PySem.W.keepIn K (.ref (He.ga K c)))))
theorem oeaB_ok {K : Frg} {c : Str} (h : oeaB K c = true) : OeA K (He.ga K c) := by
  obtain ⟨h1, h⟩ := He.ba h
  obtain ⟨h2, h⟩ := He.ba h
  obtain ⟨h3, h⟩ := He.ba h
  obtain ⟨h4, h5⟩ := He.ba h
  exact ⟨oeaC_ok h1, of_decide_eq_true h2, of_decide_eq_true h3, of_decide_eq_true h4, h5⟩
def xinA (file : Str) (K : Frg) (e : ErrD) : Bool :=
  decide (cdOf K (e.at_ K) = .ref (cdA K (e.at_ K))) && (PySem.W.codeIn K (.ref (cdA K (e.at_ K))) e.qual && (fileB K file (cdA K (e.at_ K)) && (cellB K (ccA K (e.at_ K)) (He.ga K e.c) && ((PySem.W.clsIn K (He.ga K e.c)).isSome && (decide (PySem.W.mroIn K (He.ga K e.c) (.ref (He.ga K e.c)) = some true) &&
  (decide (PySem.W.ks_superIn K (He.ga K e.c) (He.ga K e.c) "__init__" = some (some (.builtin "ArithmeticError.__init__"))) && (decide (PySem.W.subIn K (.ref (He.ga K e.c)) (.type "ArithmeticError") = some true) && (decide (PySem.W.nsIn K cStatics "thirdparty.any" = some none) &&
  (decide (PySem.W.findIn K (.ref (He.ga K e.c)) e.n = some none) && (decide (PySem.W.findIn K (.ref (He.ga K e.c)) "__init__" = some (some (.ref (e.at_ K)))) && decide (PySem.W.typeIn K (.ref (e.at_ K)) = some (.type "function")))))))))))) && (oeaB K e.c && dfN K (e.at_ K))
structure ErrOkA (file : Str) (K : Frg) (e : ErrD) (fd : FuncData) : Prop where
  T : OeA K (He.ga K e.c)
  xi : ∀ P : Program, ((P.main.file : Str) == file) = true → XIni P K "ArithmeticError" "ArithmeticError.__init__" (He.ga K e.c) (e.at_ K) e.qual e.params e.body e.scope (ccA K (e.at_ K)) (cdA K (e.at_ K)) fd
  no : PySem.W.findIn K (.ref (He.ga K e.c)) e.n = some none
  iC : PySem.W.findIn K (.ref (He.ga K e.c)) "__init__" = some (some (.ref (e.at_ K)))
  tI : PySem.W.typeIn K (.ref (e.at_ K)) = some (.type "function")
  fm : ∃ (kV doc pm : Value) (an : Option Addr) (ct : Value), fd = PySem.W.ksFn e.name e.qual e.params e.body e.scope .none kV doc pm an (.ref (cdA K (e.at_ K))) ct (ccA K (e.at_ K))
theorem errOkA_of {file : Str} {K : Frg} {e : ErrD} (hv : fnE K (e.at_ K) = e.val) (hb : xinA file K e = true) : ErrOkA file K e (fdOf K (e.at_ K)) := by
  obtain ⟨hb, b0⟩ := He.ba hb
  obtain ⟨b0, bd⟩ := He.ba b0
  obtain ⟨b1, hb⟩ := He.ba hb
  obtain ⟨b2, hb⟩ := He.ba hb
  obtain ⟨b3, hb⟩ := He.ba hb
  obtain ⟨b4, hb⟩ := He.ba hb
  obtain ⟨b5, hb⟩ := He.ba hb
  obtain ⟨b6, hb⟩ := He.ba hb
  obtain ⟨b7, hb⟩ := He.ba hb
  obtain ⟨b8, hb⟩ := He.ba hb
  obtain ⟨b9, hb⟩ := He.ba hb
  obtain ⟨b10, hb⟩ := He.ba hb
  obtain ⟨b11, b12⟩ := He.ba hb
  have c1 := of_decide_eq_true b1
  cases q : K.lookup (e.at_ K) with
  | none =>
    unfold fnE at hv
    rw [q] at hv
    cases hv
  | some o =>
    obtain ⟨oc, od, dt, osl⟩ := o
    cases dt with
    | func fd =>
      obtain ⟨n1, n2, n3, n4, n5, n6, n7, n8, n9, n10, n11, n12, n13, n14, n15⟩ := fd
      have hfd : fdOf K (e.at_ K) = ⟨n1, n2, n3, n4, n5, n6, n7, n8, n9, n10, n11, n12, n13, n14, n15⟩ := by unfold fdOf; rw [q]
      have hcd : cdOf K (e.at_ K) = n13 := by unfold cdOf; rw [q]
      have hcc : ccA K (e.at_ K) = clA n7 := by unfold ccA; rw [q]
      unfold fnE at hv
      rw [q] at hv
      have e2 : (some (n1, n2, n3, n4, n5, n6, n7.map fun p => (p.1, 0), n15) : He.FnW) = some (e.name, e.qual, e.params, FuncBody.stmts e.body, e.scope, mainGlobals, [(("__class__" : Str), (0 : Addr))], builtinsNs) := hv
      simp only [Option.some.injEq, Prod.mk.injEq] at e2
      obtain ⟨h1, h2, h3, h4, h5, h6, h7, h8⟩ := e2
      obtain ⟨cc, rfl⟩ : ∃ cc : Addr, n7 = [(("__class__" : Str), cc)] := by
        match n7, h7 with
        | [(x, c)], h7 =>
          have := (List.cons.inj h7).1
          simp only [Prod.mk.injEq, and_true] at this
          exact ⟨c, by rw [this]⟩
        | [], h7 => cases h7
        | _ :: _ :: _, h7 => exact absurd (congrArg List.length h7) (by simp)
      have hcc : ccA K (e.at_ K) = cc := hcc
      have hn8 : n8 = .none := by
        unfold dfN at bd
        rw [q] at bd
        exact of_decide_eq_true bd
      have hn13 : n13 = .ref (cdA K (e.at_ K)) := hcd.symm.trans c1
      have form : fdOf K (e.at_ K) = PySem.W.ksFn e.name e.qual e.params e.body e.scope n8 n9 n10 n11 n12 (.ref (cdA K (e.at_ K))) n14 (ccA K (e.at_ K)) := by
        rw [hfd, hcc, ← hn13, h1, h2, h3, h4, h5, h6, h8]
      refine ⟨oeaB_ok b0, fun P hP => ⟨⟨oc, od, e.name, n8, n9, n10, n11, n12, n14, osl, form, by rw [q, hfd]⟩, b2, ?_, ?_, Option.isSome_iff_exists.mp b5, of_decide_eq_true b6, of_decide_eq_true b7, of_decide_eq_true b8, of_decide_eq_true b9⟩, of_decide_eq_true b10, of_decide_eq_true b11, of_decide_eq_true b12, ⟨n9, n10, n11, n12, n14, by rw [form, hn8]⟩⟩
      · unfold fileB at b3
        split at b3
        · rename_i c d vs sl ho
          split at b3
          · rename_i f t hf
            exact ⟨c, d, vs, sl, f, t, ho, hf, by rw [beq_iff_eq.mp hP]; exact b3⟩
          · cases b3
        · cases b3
      · unfold cellB at b4
        split at b4
        · rename_i c d D sl ho
          rw [beq_iff_eq.mp b4] at ho
          exact ⟨c, d, sl, ho⟩
        · cases b4
    | _ =>
      unfold fnE at hv
      rw [q] at hv
      cases hv

theorem Tz.errA {fa : List He.Fa} {fn : List He.DefD} {ex : Frg → Bool} {xs : List DefX} {es : List ErrD} {tl : Frg → List (Addr × Addr × Str)} {K : Frg} {mg : Str → Option Value} (T : Tz fa fn ex xs es tl K mg) (i : Nat) {e : ErrD} {file : Str} (h : es[i]? = some e) (hb : xinA file K e = true) : ErrOkA file K e (fdOf K (e.at_ K)) := by
  have h2 : (es.map (fun e => fnE K (e.at_ K)))[i]? = (es.map ErrD.val)[i]? := by rw [show es.map (fun e => fnE K (e.at_ K)) = es.map ErrD.val from T.r]
  rw [List.getElem?_map, List.getElem?_map, h] at h2
  exact errOkA_of (Option.some.inj h2) hb
theorem binds_errA {file : Str} {K : Frg} {e : ErrD} {fd : FuncData} {ps : List Str} (O : ErrOkA file K e fd) (hb : ∀ (kV doc pm : Value) (an : Option Addr) (ct cd : Value) (cc : Addr) (us : List Value), us.length = ps.length → bindArgs (PySem.W.ksFn e.name e.qual e.params e.body e.scope .none kV doc pm an cd ct cc) ⟨us, []⟩ = pure (ps.zip us)) : L2.Binds K fd ps [] := by
  obtain ⟨kV, doc, pm, an, ct, rfl⟩ := O.fm
  exact L2.Binds.all fun us hl => hb _ _ _ _ _ _ _ us hl
theorem kb_errA {file : Str} {K : Frg} {e : ErrD} {fd : FuncData} {ps ks : List Str} {n : Nat} {pm : List Nat} (O : ErrOkA file K e fd) (hb : ∀ (kV doc pmv : Value) (an : Option Addr) (ct cd : Value) (cc : Addr) (us ws : List Value), us.length = n → ws.length = ks.length → bindArgs (PySem.W.ksFn e.name e.qual e.params e.body e.scope .none kV doc pmv an cd ct cc) ⟨us, ks.zip ws⟩ = pure (ps.zip (pick pm (us ++ (ws ++ []))))) : KB K fd ps n ks pm [] := by
  obtain ⟨kV, doc, pmv, an, ct, rfl⟩ := O.fm
  exact ⟨fun s us ws _ h1 h2 => .of_eq (hb _ _ _ _ _ _ _ us ws h1 h2)⟩
theorem kb_err {file : Str} {K : Frg} {e : ErrD} {fd : FuncData} {ps ks : List Str} {n : Nat} {pm : List Nat} (O : ErrOk file K e fd) (hb : ∀ (kV doc pmv : Value) (an : Option Addr) (ct cd : Value) (cc : Addr) (us ws : List Value), us.length = n → ws.length = ks.length → bindArgs (PySem.W.ksFn e.name e.qual e.params e.body e.scope .none kV doc pmv an cd ct cc) ⟨us, ks.zip ws⟩ = pure (ps.zip (pick pm (us ++ (ws ++ []))))) : KB K fd ps n ks pm [] := by
  obtain ⟨kV, doc, pmv, an, ct, rfl⟩ := O.fm
  exact ⟨fun s us ws _ h1 h2 => .of_eq (hb _ _ _ _ _ _ _ us ws h1 h2)⟩
def trNB (K : Frg) (c C n : Str) : Bool := xfB K (He.ga K c) && (decide (PySem.W.exmOne K (.ref (He.ga K c)) (.ref (He.ga K C)) = some true) && decide (PySem.W.findIn K (.ref (He.ga K c)) n = some none))
theorem trNB_ok {K : Frg} {c C n : Str} (h : trNB K c C n = true) : XfC K (He.ga K c) ∧ PySem.W.exmOne K (.ref (He.ga K c)) (.ref (He.ga K C)) = some true ∧ PySem.W.findIn K (.ref (He.ga K c)) n = some none := by
  obtain ⟨h1, h⟩ := He.ba h
  obtain ⟨h2, h3⟩ := He.ba h
  exact ⟨xfB_ok h1, of_decide_eq_true h2, of_decide_eq_true h3⟩
def ntuB (K : Frg) (c : Str) : Bool := PySem.W.excIn K (He.ga K c) aeTail "ArithmeticError.__new__" && PySem.W.keepIn K (.ref (He.ga K c))
theorem ntuB_ok {K : Frg} {c : Str} (h : ntuB K c = true) : PySem.W.excIn K (He.ga K c) aeTail "ArithmeticError.__new__" = true ∧ PySem.W.keepIn K (.ref (He.ga K c)) = true := He.ba h
end FL

set_option Elab.async false
set_option linter.all false
set_option maxRecDepth 100000
namespace PF
open PySem PySem.Spec PyProof.Rows L2 FL
def c_MOST_DEEDS : D := (.int 6)
def c_MOST_LAYERS : D := (.int 12)
def c_MOST_ANSWERS : D := (.int 4)
def _law_raised_right_x1 : SF := raiseN "Broken" ["index", "shown"] (aCons (vE 0) (aCons (cE (.int 3)) aNil))
def _law_raised_right_x2 : SF := raiseS "InvalidText" "given" (aCons (vE 0) aNil)
def _law_raised_right_b : SF := (seqS (asgV 1 (lstN aNil)) ((seqS (tryN 2 "InvalidText" (hvApp "given" 1) ((_law_raised_right_x2))) ((seqS (tryN 2 "Broken" (hvApp "index" 1) ((_law_raised_right_x1))) (retS ((op2 eqD (vE 1) ((op2 mulD ((lstE (aCons ((opN (one reprD) (aCons (vE 0) aNil))) aNil))) (cE (.int 2))))))))))))
def _law_raised_right_F : DFn := runF none 3 _law_raised_right_b
def _law_given_b : SF := (seqS (asgV 1 (lstN (aCons ((ermE 1 "InvalidRow" ["given"] [0] (aCons (vE 0) aNil))) (aCons ((ermE 1 "InvalidText" ["given"] [0] (aCons (vE 0) aNil))) (aCons ((ermE 1 "InvalidBox" ["given"] [0] (aCons (vE 0) aNil))) (aCons ((ermE 1 "InvalidName" ["given"] [0] (aCons (vE 0) aNil))) (aCons ((ermE 1 "InvalidStep" ["given"] [0] (aCons (vE 0) aNil))) aNil))))))) ((seqS (asgV 1 (addV (vE 1) ((lstE (aCons ((ermE 1 "InvalidPlace" ["given"] [0] (aCons (vE 0) aNil))) (aCons ((ermE 1 "InvalidClaim" ["given"] [0] (aCons (vE 0) aNil))) (aCons ((ermE 1 "NotABook" ["given"] [0] (aCons (vE 0) aNil))) (aCons ((ermE 1 "InvalidAnswers" ["index"] [0] (aCons (vE 0) aNil))) aNil)))))))) ((seqS (asgV 1 (addV (vE 1) ((lstE (aCons ((ermE 1 "InvalidSteps" ["index"] [0] (aCons (vE 0) aNil))) (aCons ((erm0E "NothingToUndo")) (aCons ((ermE 2 "Broken" ["index", "shown"] [0, 1] (aCons (vE 0) (aCons (cE (.int 7)) aNil)))) aNil))))))) ((seqS (asgV 2 (lstN (aCons ((ermE 1 "InvalidRow" ["given"] [0] (aCons (vE 0) aNil))) (aCons ((ermE 1 "InvalidText" ["given"] [0] (aCons (vE 0) aNil))) (aCons ((ermE 1 "InvalidBox" ["given"] [0] (aCons (vE 0) aNil))) aNil))))) ((seqS (asgV 2 (addV (vE 2) ((lstE (aCons ((ermE 1 "InvalidName" ["given"] [0] (aCons (vE 0) aNil))) (aCons ((ermE 1 "InvalidStep" ["given"] [0] (aCons (vE 0) aNil))) (aCons ((ermE 1 "InvalidPlace" ["given"] [0] (aCons (vE 0) aNil))) aNil))))))) ((seqS (asgV 2 (addV (vE 2) ((lstE (aCons ((ermE 1 "InvalidClaim" ["given"] [0] (aCons (vE 0) aNil))) (aCons ((ermE 1 "NotABook" ["given"] [0] (aCons (vE 0) aNil))) (aCons ((ermE 1 "InvalidAnswers" ["index"] [0] (aCons (vE 0) aNil))) aNil))))))) ((seqS (asgV 2 (addV (vE 2) ((lstE (aCons ((ermE 1 "InvalidSteps" ["index"] [0] (aCons (vE 0) aNil))) (aCons ((erm0E "NothingToUndo")) (aCons ((ermE 2 "Broken" ["index", "shown"] [1, 0] (aCons (cE (.int 7)) (aCons (vE 0) aNil)))) aNil))))))) (retV (lstN (aCons (vE 1) (aCons (vE 2) aNil)))))))))))))))))
def _law_given_F : DFn := runF none 3 _law_given_b
def _law_kept_right_x1 : EF := (xyE "given" ((op2 getD (vE 0) (vE 4))))
def _law_kept_right_x2 : EF := (xyE "index" ((op2 getD (vE 0) (vE 4))))
def _law_kept_right_b : SF := (seqS (asgV 2 (addV ((telV (compV [4] (anyI ((lstE (aCons (cE (.int 0)) (aCons (cE (.int 1)) (aCons (cE (.int 2)) (aCons (cE (.int 3)) (aCons (cE (.int 4)) (aCons (cE (.int 5)) (aCons (cE (.int 6)) (aCons (cE (.int 7)) aNil))))))))))) (bName 4) (trueT) ((_law_kept_right_x1))))) ((telV (compV [4] (anyI ((lstE (aCons (cE (.int 8)) (aCons (cE (.int 9)) aNil))))) (bName 4) (trueT) ((_law_kept_right_x2))))))) ((seqS (asgV 3 (vE' ((op2 getD (vE 0) (cE (.int 11)))))) (retS ((andE ((op2 eqD ((opN (one reprD) (aCons (vE 2) aNil))) ((opN (one reprD) (aCons ((op2 mulD ((lstE (aCons (vE 1) aNil))) ((opN (one lenD) (aCons (vE 2) aNil))))) aNil))))) ((op2 eqD ((opN (one reprD) (aCons ((lstE (aCons ((xyE "index" (vE 3))) (aCons ((xyE "shown" (vE 3))) aNil)))) aNil))) ((opN (one reprD) (aCons ((lstE (aCons (vE 1) (aCons (cE (.int 7)) aNil)))) aNil)))))))))))
def _law_kept_right_F : DFn := runF none 5 _law_kept_right_b
def _law_sorts_b : SF := (seqS (asgV 1 (lstN (aCons ((isyE (isYD "InvalidRow") (vE 0))) (aCons ((isyE (isYD "InvalidText") (vE 0))) (aCons ((isyE (isYD "InvalidBox") (vE 0))) aNil))))) ((seqS (asgV 1 (addV (vE 1) ((lstE (aCons ((isyE (isYD "InvalidName") (vE 0))) (aCons ((isyE (isYD "InvalidStep") (vE 0))) (aCons ((isyE (isYD "InvalidPlace") (vE 0))) aNil))))))) ((seqS (asgV 1 (addV (vE 1) ((lstE (aCons ((isyE (isYD "InvalidClaim") (vE 0))) (aCons ((isyE (isYD "NotABook") (vE 0))) (aCons ((isyE (isYD "InvalidAnswers") (vE 0))) aNil))))))) ((seqS (asgV 1 (addV (vE 1) ((lstE (aCons ((isyE (isYD "InvalidSteps") (vE 0))) (aCons ((isyE (isYD "NothingToUndo") (vE 0))) (aCons ((isyE (isYD "Broken") (vE 0))) aNil))))))) (retV (givV (vE 1))))))))))
def _law_sorts_F : DFn := runF none 2 _law_sorts_b
def _law_bases_b : SF := (seqS (asgV 1 (lstN (aCons ((isyE (isYD "NotRight") (vE 0))) (aCons ((isyE (isYD "CannotBe") (vE 0))) (aCons ((isyE (isYB "ValueError") (vE 0))) aNil))))) ((seqS (asgV 1 (addV (vE 1) ((lstE (aCons ((isyE (isYB "ArithmeticError") (vE 0))) (aCons ((isyE (isYB "LookupError") (vE 0))) (aCons ((isyE (isYB "TypeError") (vE 0))) aNil))))))) (retV (addV (vE 1) ((lstE (aCons ((isyE (isYB "ZeroDivisionError") (vE 0))) (aCons ((isyE (isYB "OverflowError") (vE 0))) aNil)))))))))
def _law_bases_F : DFn := runF none 2 _law_bases_b
def _law_due_b : SF := retV (addV ((op2 mulD ((lstE (aCons ((op2 ltD (vE 0) (cE (.int 10)))) (aCons ((op2 geD (vE 0) (cE (.int 10)))) aNil)))) (cE (.int 2)))) ((op2 mulD ((lstE (aCons (cE (.bl false)) aNil))) (cE (.int 4)))))
def _law_due_F : DFn := runF none 1 _law_due_b
def _law_right_37_x1 : EF := (op2 eqD (vE 4) (vE 2))
def _law_right_37_x2 : SF := (seqS (asgV 3 (compV [4] (rng1 (aCons ((opN (one lenD) (aCons (vE 1) aNil))) aNil)) (bName 4) (trueT) ((_law_right_37_x1)))) (ifS ((orT ((tstE (op2 neD ((telV (callV none 1 _law_sorts_F [] (aCons ((op2 getD (vE 1) (vE 2))) aNil)))) (vE 3)))) ((tstE (op2 neD ((telV (callV none 1 _law_bases_F [] (aCons ((op2 getD (vE 1) (vE 2))) aNil)))) ((telV (callV none 1 _law_due_F [] (aCons (vE 2) aNil))))))))) (retS (cE (.bl false))) (nxS)))
def _law_right_37_x3 : SF := (seqS (forS (rng1 (aCons ((opN (one lenD) (aCons (vE 1) aNil))) aNil)) (bName 2) ((_law_right_37_x2))) (ifS ((notT ((tstE ((telV (callV none 2 _law_kept_right_F [] (aCons (vE 1) (aCons (vE 0) aNil))))))))) (retS (cE (.bl false))) (nxS)))
def _law_right_37_b : SF := (seqS (forS (anyI ((telV (callV none 1 _law_given_F [] (aCons (vE 0) aNil))))) (bName 1) ((_law_right_37_x3))) (retV (callV none 1 _law_raised_right_F [] (aCons (vE 0) aNil))))
def _law_right_37_F : DFn := runF none 5 _law_right_37_b
def law_38_x1 : EF := vE 3
def law_38_x2 : TF := (notT ((tstE ((telV (callV none 1 _law_right_37_F [] (aCons (vE 3) aNil)))))))
def law_38_x3 : EF := (op2 modD ((opN (one intC) (aCons (vE 2) aNil))) ((op2 powD (cE (.int 10)) (cE (.int 12)))))
def law_38_b : SF := (seqS (ifS ((tstE (op2 neD ((lstE (aCons (cE c_MOST_DEEDS) (aCons (cE c_MOST_ANSWERS) (aCons (cE c_MOST_LAYERS) aNil))))) ((lstE (aCons (cE (.int 6)) (aCons (cE (.int 4)) (aCons (cE (.int 12)) aNil)))))))) (retS (cE (.bl false))) (nxS)) ((seqS (asgV 1 (addV ((lstE (aCons (cE .non) (aCons (cE (.str "ann")) (aCons ((tupE (aCons (cE (.int 1)) (aCons (cE (.str "x")) aNil)))) (aCons (cE (.bl true)) (aCons ((negE (cE (.int 3)))) aNil))))))) ((telV (compV [2] (anyI ((slE (vE 0) oNo (oSome (cE (.int 3)))))) (bName 2) (trueT) ((law_38_x3))))))) (retS ((op2 eqD ((telV (compV [3] (anyI (vE 1)) (bName 3) ((law_38_x2)) ((law_38_x1))))) ((lstE aNil))))))))
def law_38_F : DFn := runF none 4 law_38_b
end PF
set_option Elab.async false
set_option linter.all false
set_option maxRecDepth 100000
set_option maxHeartbeats 8000000
namespace K01
open PySem PySem.Spec PyProof.Rows L2 FL
def top (i : Nat) : Stmt := PySem.Challenge.pw_boxthieves_k01_limits_and_errors.main.body.getD i (.Pass ⟨0, 0, 0, 0⟩)
def d__law_raised_right : He.DefD := ⟨("_law_raised_right", none), "_law_raised_right", "_law_raised_right", defArgs (top 24), defBody (top 24), defScope (top 24), [], []⟩
def d__law_given : He.DefD := ⟨("_law_given", none), "_law_given", "_law_given", defArgs (top 22), defBody (top 22), defScope (top 22), [], []⟩
def d__law_kept_right : He.DefD := ⟨("_law_kept_right", none), "_law_kept_right", "_law_kept_right", defArgs (top 23), defBody (top 23), defScope (top 23), [], []⟩
def d__law_sorts : He.DefD := ⟨("_law_sorts", none), "_law_sorts", "_law_sorts", defArgs (top 19), defBody (top 19), defScope (top 19), [], []⟩
def d__law_bases : He.DefD := ⟨("_law_bases", none), "_law_bases", "_law_bases", defArgs (top 20), defBody (top 20), defScope (top 20), [], []⟩
def d__law_due : He.DefD := ⟨("_law_due", none), "_law_due", "_law_due", defArgs (top 21), defBody (top 21), defScope (top 21), [], []⟩
def d__law_right : He.DefD := ⟨("_law_right", none), "_law_right", "_law_right", defArgs (top 25), defBody (top 25), defScope (top 25), [], []⟩
def d_law : He.DefD := ⟨("law", none), "law", "law", defArgs (top 26), defBody (top 26), defScope (top 26), [], []⟩
def e_Broken : ErrD := ⟨"Broken", "index", "__init__", "Broken.__init__", defArgs (inClass (top 14) 0), defBody (inClass (top 14) 0), defScope (inClass (top 14) 0)⟩
def e_InvalidText : ErrD := ⟨"InvalidText", "given", "__init__", "InvalidText.__init__", defArgs (inClass (top 3) 0), defBody (inClass (top 3) 0), defScope (inClass (top 3) 0)⟩
def e_InvalidSteps : ErrD := ⟨"InvalidSteps", "index", "__init__", "InvalidSteps.__init__", defArgs (inClass (top 11) 0), defBody (inClass (top 11) 0), defScope (inClass (top 11) 0)⟩
def e_InvalidAnswers : ErrD := ⟨"InvalidAnswers", "index", "__init__", "InvalidAnswers.__init__", defArgs (inClass (top 10) 0), defBody (inClass (top 10) 0), defScope (inClass (top 10) 0)⟩
def e_NotABook : ErrD := ⟨"NotABook", "given", "__init__", "NotABook.__init__", defArgs (inClass (top 9) 0), defBody (inClass (top 9) 0), defScope (inClass (top 9) 0)⟩
def e_InvalidClaim : ErrD := ⟨"InvalidClaim", "given", "__init__", "InvalidClaim.__init__", defArgs (inClass (top 8) 0), defBody (inClass (top 8) 0), defScope (inClass (top 8) 0)⟩
def e_InvalidPlace : ErrD := ⟨"InvalidPlace", "given", "__init__", "InvalidPlace.__init__", defArgs (inClass (top 7) 0), defBody (inClass (top 7) 0), defScope (inClass (top 7) 0)⟩
def e_InvalidStep : ErrD := ⟨"InvalidStep", "given", "__init__", "InvalidStep.__init__", defArgs (inClass (top 6) 0), defBody (inClass (top 6) 0), defScope (inClass (top 6) 0)⟩
def e_InvalidName : ErrD := ⟨"InvalidName", "given", "__init__", "InvalidName.__init__", defArgs (inClass (top 5) 0), defBody (inClass (top 5) 0), defScope (inClass (top 5) 0)⟩
def e_InvalidBox : ErrD := ⟨"InvalidBox", "given", "__init__", "InvalidBox.__init__", defArgs (inClass (top 4) 0), defBody (inClass (top 4) 0), defScope (inClass (top 4) 0)⟩
def e_InvalidRow : ErrD := ⟨"InvalidRow", "given", "__init__", "InvalidRow.__init__", defArgs (inClass (top 2) 0), defBody (inClass (top 2) 0), defScope (inClass (top 2) 0)⟩
def es : List ErrD := [e_Broken, e_InvalidText, e_InvalidSteps, e_InvalidAnswers, e_NotABook, e_InvalidClaim, e_InvalidPlace, e_InvalidStep, e_InvalidName, e_InvalidBox, e_InvalidRow]
abbrev fileS : Str := PySem.Challenge.pw_boxthieves_k01_limits_and_errors.main.file
def tlL : List ((Frg → Addr) × Str) := []
abbrev tl (K : Frg) : List (Addr × Addr × Str) := tlsOf tlL K
instance : Tabl := ⟨tl⟩
def fas_0 : List He.Fa := [.glo "_law_raised_right", .glo "_law_given", .glo "_law_kept_right", .glo "_law_sorts", .glo "_law_bases", .glo "_law_due", .glo "_law_right", .glo "law", .free "ArithmeticError", .free "LookupError", .free "OverflowError", .free "TypeError", .free "ValueError", .free "ZeroDivisionError", .free "int", .free "isinstance", .free "len", .free "range", .free "repr", .free "super", .glo "Broken", .glo "CannotBe", .glo "InvalidText", .glo "NotRight", .glo "NothingToUndo", .glo "InvalidSteps", .glo "InvalidAnswers", .glo "NotABook", .glo "InvalidClaim", .glo "InvalidPlace"]
def fas_1 : List He.Fa := [.glo "InvalidStep", .glo "InvalidName", .glo "InvalidBox", .glo "InvalidRow"]
def fas : List He.Fa := fas_0 ++ fas_1
def fns_0 : List He.DefD := [d__law_raised_right, d__law_given, d__law_kept_right, d__law_sorts, d__law_bases, d__law_due, d__law_right, d_law]
def fns : List He.DefD := fns_0
def dxs_0 : List DefX := []
def dxs : List DefX := dxs_0
def cons : List (Str × D) := [("MOST_ANSWERS", PF.c_MOST_ANSWERS), ("MOST_DEEDS", PF.c_MOST_DEEDS), ("MOST_LAYERS", PF.c_MOST_LAYERS)]
def exl : List (Frg → Bool) := [fun K => xinA fileS K e_Broken, fun K => decide (PySem.W.findIn K (.ref (He.ga K "Broken")) "shown" = some none), fun K => trNB K "Broken" "CannotBe" "index", fun K => xinB fileS K e_InvalidText, fun K => trNB K "InvalidText" "NotRight" "given", fun K => ntuB K "NothingToUndo", fun K => xinB fileS K e_InvalidSteps, fun K => xinB fileS K e_InvalidAnswers, fun K => xinB fileS K e_NotABook, fun K => xinB fileS K e_InvalidClaim, fun K => xinB fileS K e_InvalidPlace, fun K => xinB fileS K e_InvalidStep, fun K => xinB fileS K e_InvalidName, fun K => xinB fileS K e_InvalidBox, fun K => xinB fileS K e_InvalidRow, fun K => isyT K]
def ex (K : Frg) : Bool := (cons.all fun p => cstB K p.1 p.2) && exl.all fun f => f K
structure TX (K : Frg) (mg : Str → Option Value) : Prop where
  t : Ty fas fns ex dxs K mg
  z : Tz fas fns ex dxs es tl K mg
section
variable [Wrl] {P : Program} {w : World} {K : Frg} {mg : Str → Option Value} {base : Heap}
theorem TX.exs (T : TX K mg) {i : Nat} {f : Frg → Bool} (h : exl[i]? = some f) : f K = true := List.all_eq_true.mp (He.ba (show ((cons.all fun p => cstB K p.1 p.2) && exl.all fun f => f K) = true from T.t.t.e)).2 f (List.mem_of_getElem? h)
theorem TX.gc_Broken (T : TX K mg) : mg "Broken" = some (.ref (He.ga K "Broken")) := T.t.t.glo 20 rfl
theorem TX.xi_Broken (T : TX K mg) : xinA fileS K e_Broken = true := (T.exs (i := 0) rfl)
theorem TX.no_Broken_shown (T : TX K mg) : PySem.W.findIn K (.ref (He.ga K "Broken")) "shown" = some none := of_decide_eq_true (T.exs (i := 1) rfl)
theorem TX.tn_Broken_CannotBe_index (T : TX K mg) : XfC K (He.ga K "Broken") ∧ PySem.W.exmOne K (.ref (He.ga K "Broken")) (.ref (He.ga K "CannotBe")) = some true ∧ PySem.W.findIn K (.ref (He.ga K "Broken")) "index" = some none := trNB_ok (T.exs (i := 2) rfl)
theorem TX.gc_CannotBe (T : TX K mg) : mg "CannotBe" = some (.ref (He.ga K "CannotBe")) := T.t.t.glo 21 rfl
theorem TX.gc_InvalidText (T : TX K mg) : mg "InvalidText" = some (.ref (He.ga K "InvalidText")) := T.t.t.glo 22 rfl
theorem TX.xi_InvalidText (T : TX K mg) : xinB fileS K e_InvalidText = true := (T.exs (i := 3) rfl)
theorem TX.tn_InvalidText_NotRight_given (T : TX K mg) : XfC K (He.ga K "InvalidText") ∧ PySem.W.exmOne K (.ref (He.ga K "InvalidText")) (.ref (He.ga K "NotRight")) = some true ∧ PySem.W.findIn K (.ref (He.ga K "InvalidText")) "given" = some none := trNB_ok (T.exs (i := 4) rfl)
theorem TX.gc_NotRight (T : TX K mg) : mg "NotRight" = some (.ref (He.ga K "NotRight")) := T.t.t.glo 23 rfl
theorem TX.nt_NothingToUndo (T : TX K mg) : PySem.W.excIn K (He.ga K "NothingToUndo") aeTail "ArithmeticError.__new__" = true ∧ PySem.W.keepIn K (.ref (He.ga K "NothingToUndo")) = true := ntuB_ok (T.exs (i := 5) rfl)
theorem TX.gc_NothingToUndo (T : TX K mg) : mg "NothingToUndo" = some (.ref (He.ga K "NothingToUndo")) := T.t.t.glo 24 rfl
theorem TX.gc_InvalidSteps (T : TX K mg) : mg "InvalidSteps" = some (.ref (He.ga K "InvalidSteps")) := T.t.t.glo 25 rfl
theorem TX.xi_InvalidSteps (T : TX K mg) : xinB fileS K e_InvalidSteps = true := (T.exs (i := 6) rfl)
theorem TX.gc_InvalidAnswers (T : TX K mg) : mg "InvalidAnswers" = some (.ref (He.ga K "InvalidAnswers")) := T.t.t.glo 26 rfl
theorem TX.xi_InvalidAnswers (T : TX K mg) : xinB fileS K e_InvalidAnswers = true := (T.exs (i := 7) rfl)
theorem TX.gc_NotABook (T : TX K mg) : mg "NotABook" = some (.ref (He.ga K "NotABook")) := T.t.t.glo 27 rfl
theorem TX.xi_NotABook (T : TX K mg) : xinB fileS K e_NotABook = true := (T.exs (i := 8) rfl)
theorem TX.gc_InvalidClaim (T : TX K mg) : mg "InvalidClaim" = some (.ref (He.ga K "InvalidClaim")) := T.t.t.glo 28 rfl
theorem TX.xi_InvalidClaim (T : TX K mg) : xinB fileS K e_InvalidClaim = true := (T.exs (i := 9) rfl)
theorem TX.gc_InvalidPlace (T : TX K mg) : mg "InvalidPlace" = some (.ref (He.ga K "InvalidPlace")) := T.t.t.glo 29 rfl
theorem TX.xi_InvalidPlace (T : TX K mg) : xinB fileS K e_InvalidPlace = true := (T.exs (i := 10) rfl)
theorem TX.gc_InvalidStep (T : TX K mg) : mg "InvalidStep" = some (.ref (He.ga K "InvalidStep")) := T.t.t.glo 30 rfl
theorem TX.xi_InvalidStep (T : TX K mg) : xinB fileS K e_InvalidStep = true := (T.exs (i := 11) rfl)
theorem TX.gc_InvalidName (T : TX K mg) : mg "InvalidName" = some (.ref (He.ga K "InvalidName")) := T.t.t.glo 31 rfl
theorem TX.xi_InvalidName (T : TX K mg) : xinB fileS K e_InvalidName = true := (T.exs (i := 12) rfl)
theorem TX.gc_InvalidBox (T : TX K mg) : mg "InvalidBox" = some (.ref (He.ga K "InvalidBox")) := T.t.t.glo 32 rfl
theorem TX.xi_InvalidBox (T : TX K mg) : xinB fileS K e_InvalidBox = true := (T.exs (i := 13) rfl)
theorem TX.gc_InvalidRow (T : TX K mg) : mg "InvalidRow" = some (.ref (He.ga K "InvalidRow")) := T.t.t.glo 33 rfl
theorem TX.xi_InvalidRow (T : TX K mg) : xinB fileS K e_InvalidRow = true := (T.exs (i := 14) rfl)
theorem TX.isy (T : TX K mg) : isyT K = true := (T.exs (i := 15) rfl)
theorem TX.b_ArithmeticError (T : TX K mg) : mg "ArithmeticError" = none := T.t.t.free 8 rfl
theorem TX.b_LookupError (T : TX K mg) : mg "LookupError" = none := T.t.t.free 9 rfl
theorem TX.b_OverflowError (T : TX K mg) : mg "OverflowError" = none := T.t.t.free 10 rfl
theorem TX.b_TypeError (T : TX K mg) : mg "TypeError" = none := T.t.t.free 11 rfl
theorem TX.b_ValueError (T : TX K mg) : mg "ValueError" = none := T.t.t.free 12 rfl
theorem TX.b_ZeroDivisionError (T : TX K mg) : mg "ZeroDivisionError" = none := T.t.t.free 13 rfl
theorem TX.b_int (T : TX K mg) : mg "int" = none := T.t.t.free 14 rfl
theorem TX.b_isinstance (T : TX K mg) : mg "isinstance" = none := T.t.t.free 15 rfl
theorem TX.b_len (T : TX K mg) : mg "len" = none := T.t.t.free 16 rfl
theorem TX.b_range (T : TX K mg) : mg "range" = none := T.t.t.free 17 rfl
theorem TX.b_repr (T : TX K mg) : mg "repr" = none := T.t.t.free 18 rfl
theorem TX.b_super (T : TX K mg) : mg "super" = none := T.t.t.free 19 rfl
theorem TX.c_MOST_ANSWERS (T : TX K mg) : ∃ (v : V) (u : Value), mg "MOST_ANSWERS" = some u ∧ RelV v u ∧ ∀ G, Rep K G PF.c_MOST_ANSWERS v := T.t.t.con (List.all_eq_true.mp (He.ba (show ((cons.all fun p => cstB K p.1 p.2) && exl.all fun f => f K) = true from T.t.t.e)).1 ("MOST_ANSWERS", PF.c_MOST_ANSWERS) (List.mem_of_getElem? (i := 0) rfl))
theorem TX.c_MOST_DEEDS (T : TX K mg) : ∃ (v : V) (u : Value), mg "MOST_DEEDS" = some u ∧ RelV v u ∧ ∀ G, Rep K G PF.c_MOST_DEEDS v := T.t.t.con (List.all_eq_true.mp (He.ba (show ((cons.all fun p => cstB K p.1 p.2) && exl.all fun f => f K) = true from T.t.t.e)).1 ("MOST_DEEDS", PF.c_MOST_DEEDS) (List.mem_of_getElem? (i := 1) rfl))
theorem TX.c_MOST_LAYERS (T : TX K mg) : ∃ (v : V) (u : Value), mg "MOST_LAYERS" = some u ∧ RelV v u ∧ ∀ G, Rep K G PF.c_MOST_LAYERS v := T.t.t.con (List.all_eq_true.mp (He.ba (show ((cons.all fun p => cstB K p.1 p.2) && exl.all fun f => f K) = true from T.t.t.e)).1 ("MOST_LAYERS", PF.c_MOST_LAYERS) (List.mem_of_getElem? (i := 2) rfl))
theorem TX.eo_Broken (T : TX K mg) : ErrOkA fileS K e_Broken (fdOf K (e_Broken.at_ K)) := T.z.errA 0 rfl T.xi_Broken
theorem TX.bx_Broken (T : TX K mg) : L2.Binds K (fdOf K (e_Broken.at_ K)) ["self", "index", "shown"] [] := binds_errA T.eo_Broken fun _ _ _ _ _ _ _ us hl => match us, hl with | [_, _, _], _ => rfl
theorem xs_Broken : XScope ["self", "index", "shown"] ["self", "index", "shown"] (defScope (inClass (top 14) 0)) := ⟨rfl, rfl, rfl, by decide +kernel, rfl, by decide +kernel, fun _ h => h, by decide +kernel, by decide +kernel, by decide +kernel, by decide +kernel⟩
theorem TX.xn_Broken (T : TX K mg) (B : BY P w fileS K mg base) : FnOk P w K mg base (L2.CX P w) 1 (e_Broken.at_ K) (fdOf K (e_Broken.at_ K)) ["self", "index", "shown"] (spXn (He.ga K "Broken") ["index", "shown"]) := fn_xa2 (k := 0) T.eo_Broken.T (T.eo_Broken.xi P B.fl) xs_Broken rfl rfl T.b_super B.su (fun _ => rfl) (fun _ => rfl) T.eo_Broken.no T.no_Broken_shown (fun _ => rfl) (fun _ => rfl) (by decide) (by decide) (by decide) (by decide) (by decide) (by decide)
theorem TX.ekb_Broken_shown_index (T : TX K mg) : KB K (fdOf K (e_Broken.at_ K)) ["self", "index", "shown"] 1 ["shown", "index"] [0, 2, 1] [] := kb_errA T.eo_Broken fun _ _ _ _ _ _ _ us ws h1 h2 => match us, ws, h1, h2 with | [_], [_, _], _, _ => rfl
theorem TX.eo_InvalidText (T : TX K mg) : ErrOk fileS K e_InvalidText (fdOf K (e_InvalidText.at_ K)) := T.z.err 1 rfl T.xi_InvalidText
theorem TX.bx_InvalidText (T : TX K mg) : L2.Binds K (fdOf K (e_InvalidText.at_ K)) ["self", "given"] [] := binds_err T.eo_InvalidText fun _ _ _ _ _ _ _ us hl => match us, hl with | [_, _], _ => rfl
theorem xs_InvalidText : XScope ["self", "given"] ["self", "given"] (defScope (inClass (top 3) 0)) := ⟨rfl, rfl, rfl, by decide +kernel, rfl, by decide +kernel, fun _ h => h, by decide +kernel, by decide +kernel, by decide +kernel, by decide +kernel⟩
theorem TX.xf_InvalidText (T : TX K mg) (B : BY P w fileS K mg base) : FnOk P w K mg base (L2.CX P w) 1 (e_InvalidText.at_ K) (fdOf K (e_InvalidText.at_ K)) ["self", "given"] (spXi (He.ga K "InvalidText") "given") := fn_xinit1 (k := 0) T.eo_InvalidText.T (T.eo_InvalidText.xi P B.fl) xs_InvalidText rfl rfl T.b_super B.su (fun _ => rfl) (fun _ => rfl) T.eo_InvalidText.no (fun _ => rfl) (by decide) (by decide) (by decide) (by decide)
theorem TX.xn_InvalidText (T : TX K mg) (B : BY P w fileS K mg base) : FnOk P w K mg base (L2.CX P w) 1 (e_InvalidText.at_ K) (fdOf K (e_InvalidText.at_ K)) ["self", "given"] (spXn (He.ga K "InvalidText") ["given"]) := fn_weak (T.xf_InvalidText B) spXn_1
theorem TX.ekb_InvalidText_given (T : TX K mg) : KB K (fdOf K (e_InvalidText.at_ K)) ["self", "given"] 1 ["given"] [0, 1] [] := kb_err T.eo_InvalidText fun _ _ _ _ _ _ _ us ws h1 h2 => match us, ws, h1, h2 with | [_], [_], _, _ => rfl
theorem TX.eo_InvalidSteps (T : TX K mg) : ErrOk fileS K e_InvalidSteps (fdOf K (e_InvalidSteps.at_ K)) := T.z.err 2 rfl T.xi_InvalidSteps
theorem TX.bx_InvalidSteps (T : TX K mg) : L2.Binds K (fdOf K (e_InvalidSteps.at_ K)) ["self", "index"] [] := binds_err T.eo_InvalidSteps fun _ _ _ _ _ _ _ us hl => match us, hl with | [_, _], _ => rfl
theorem xs_InvalidSteps : XScope ["self", "index"] ["self", "index"] (defScope (inClass (top 11) 0)) := ⟨rfl, rfl, rfl, by decide +kernel, rfl, by decide +kernel, fun _ h => h, by decide +kernel, by decide +kernel, by decide +kernel, by decide +kernel⟩
theorem TX.xf_InvalidSteps (T : TX K mg) (B : BY P w fileS K mg base) : FnOk P w K mg base (L2.CX P w) 1 (e_InvalidSteps.at_ K) (fdOf K (e_InvalidSteps.at_ K)) ["self", "index"] (spXi (He.ga K "InvalidSteps") "index") := fn_xinit1 (k := 0) T.eo_InvalidSteps.T (T.eo_InvalidSteps.xi P B.fl) xs_InvalidSteps rfl rfl T.b_super B.su (fun _ => rfl) (fun _ => rfl) T.eo_InvalidSteps.no (fun _ => rfl) (by decide) (by decide) (by decide) (by decide)
theorem TX.xn_InvalidSteps (T : TX K mg) (B : BY P w fileS K mg base) : FnOk P w K mg base (L2.CX P w) 1 (e_InvalidSteps.at_ K) (fdOf K (e_InvalidSteps.at_ K)) ["self", "index"] (spXn (He.ga K "InvalidSteps") ["index"]) := fn_weak (T.xf_InvalidSteps B) spXn_1
theorem TX.ekb_InvalidSteps_index (T : TX K mg) : KB K (fdOf K (e_InvalidSteps.at_ K)) ["self", "index"] 1 ["index"] [0, 1] [] := kb_err T.eo_InvalidSteps fun _ _ _ _ _ _ _ us ws h1 h2 => match us, ws, h1, h2 with | [_], [_], _, _ => rfl
theorem TX.eo_InvalidAnswers (T : TX K mg) : ErrOk fileS K e_InvalidAnswers (fdOf K (e_InvalidAnswers.at_ K)) := T.z.err 3 rfl T.xi_InvalidAnswers
theorem TX.bx_InvalidAnswers (T : TX K mg) : L2.Binds K (fdOf K (e_InvalidAnswers.at_ K)) ["self", "index"] [] := binds_err T.eo_InvalidAnswers fun _ _ _ _ _ _ _ us hl => match us, hl with | [_, _], _ => rfl
theorem xs_InvalidAnswers : XScope ["self", "index"] ["self", "index"] (defScope (inClass (top 10) 0)) := ⟨rfl, rfl, rfl, by decide +kernel, rfl, by decide +kernel, fun _ h => h, by decide +kernel, by decide +kernel, by decide +kernel, by decide +kernel⟩
theorem TX.xf_InvalidAnswers (T : TX K mg) (B : BY P w fileS K mg base) : FnOk P w K mg base (L2.CX P w) 1 (e_InvalidAnswers.at_ K) (fdOf K (e_InvalidAnswers.at_ K)) ["self", "index"] (spXi (He.ga K "InvalidAnswers") "index") := fn_xinit1 (k := 0) T.eo_InvalidAnswers.T (T.eo_InvalidAnswers.xi P B.fl) xs_InvalidAnswers rfl rfl T.b_super B.su (fun _ => rfl) (fun _ => rfl) T.eo_InvalidAnswers.no (fun _ => rfl) (by decide) (by decide) (by decide) (by decide)
theorem TX.xn_InvalidAnswers (T : TX K mg) (B : BY P w fileS K mg base) : FnOk P w K mg base (L2.CX P w) 1 (e_InvalidAnswers.at_ K) (fdOf K (e_InvalidAnswers.at_ K)) ["self", "index"] (spXn (He.ga K "InvalidAnswers") ["index"]) := fn_weak (T.xf_InvalidAnswers B) spXn_1
theorem TX.ekb_InvalidAnswers_index (T : TX K mg) : KB K (fdOf K (e_InvalidAnswers.at_ K)) ["self", "index"] 1 ["index"] [0, 1] [] := kb_err T.eo_InvalidAnswers fun _ _ _ _ _ _ _ us ws h1 h2 => match us, ws, h1, h2 with | [_], [_], _, _ => rfl
theorem TX.eo_NotABook (T : TX K mg) : ErrOk fileS K e_NotABook (fdOf K (e_NotABook.at_ K)) := T.z.err 4 rfl T.xi_NotABook
theorem TX.bx_NotABook (T : TX K mg) : L2.Binds K (fdOf K (e_NotABook.at_ K)) ["self", "given"] [] := binds_err T.eo_NotABook fun _ _ _ _ _ _ _ us hl => match us, hl with | [_, _], _ => rfl
theorem xs_NotABook : XScope ["self", "given"] ["self", "given"] (defScope (inClass (top 9) 0)) := ⟨rfl, rfl, rfl, by decide +kernel, rfl, by decide +kernel, fun _ h => h, by decide +kernel, by decide +kernel, by decide +kernel, by decide +kernel⟩
theorem TX.xf_NotABook (T : TX K mg) (B : BY P w fileS K mg base) : FnOk P w K mg base (L2.CX P w) 1 (e_NotABook.at_ K) (fdOf K (e_NotABook.at_ K)) ["self", "given"] (spXi (He.ga K "NotABook") "given") := fn_xinit1 (k := 0) T.eo_NotABook.T (T.eo_NotABook.xi P B.fl) xs_NotABook rfl rfl T.b_super B.su (fun _ => rfl) (fun _ => rfl) T.eo_NotABook.no (fun _ => rfl) (by decide) (by decide) (by decide) (by decide)
theorem TX.xn_NotABook (T : TX K mg) (B : BY P w fileS K mg base) : FnOk P w K mg base (L2.CX P w) 1 (e_NotABook.at_ K) (fdOf K (e_NotABook.at_ K)) ["self", "given"] (spXn (He.ga K "NotABook") ["given"]) := fn_weak (T.xf_NotABook B) spXn_1
theorem TX.ekb_NotABook_given (T : TX K mg) : KB K (fdOf K (e_NotABook.at_ K)) ["self", "given"] 1 ["given"] [0, 1] [] := kb_err T.eo_NotABook fun _ _ _ _ _ _ _ us ws h1 h2 => match us, ws, h1, h2 with | [_], [_], _, _ => rfl
theorem TX.eo_InvalidClaim (T : TX K mg) : ErrOk fileS K e_InvalidClaim (fdOf K (e_InvalidClaim.at_ K)) := T.z.err 5 rfl T.xi_InvalidClaim
theorem TX.bx_InvalidClaim (T : TX K mg) : L2.Binds K (fdOf K (e_InvalidClaim.at_ K)) ["self", "given"] [] := binds_err T.eo_InvalidClaim fun _ _ _ _ _ _ _ us hl => match us, hl with | [_, _], _ => rfl
theorem xs_InvalidClaim : XScope ["self", "given"] ["self", "given"] (defScope (inClass (top 8) 0)) := ⟨rfl, rfl, rfl, by decide +kernel, rfl, by decide +kernel, fun _ h => h, by decide +kernel, by decide +kernel, by decide +kernel, by decide +kernel⟩
theorem TX.xf_InvalidClaim (T : TX K mg) (B : BY P w fileS K mg base) : FnOk P w K mg base (L2.CX P w) 1 (e_InvalidClaim.at_ K) (fdOf K (e_InvalidClaim.at_ K)) ["self", "given"] (spXi (He.ga K "InvalidClaim") "given") := fn_xinit1 (k := 0) T.eo_InvalidClaim.T (T.eo_InvalidClaim.xi P B.fl) xs_InvalidClaim rfl rfl T.b_super B.su (fun _ => rfl) (fun _ => rfl) T.eo_InvalidClaim.no (fun _ => rfl) (by decide) (by decide) (by decide) (by decide)
theorem TX.xn_InvalidClaim (T : TX K mg) (B : BY P w fileS K mg base) : FnOk P w K mg base (L2.CX P w) 1 (e_InvalidClaim.at_ K) (fdOf K (e_InvalidClaim.at_ K)) ["self", "given"] (spXn (He.ga K "InvalidClaim") ["given"]) := fn_weak (T.xf_InvalidClaim B) spXn_1
theorem TX.ekb_InvalidClaim_given (T : TX K mg) : KB K (fdOf K (e_InvalidClaim.at_ K)) ["self", "given"] 1 ["given"] [0, 1] [] := kb_err T.eo_InvalidClaim fun _ _ _ _ _ _ _ us ws h1 h2 => match us, ws, h1, h2 with | [_], [_], _, _ => rfl
theorem TX.eo_InvalidPlace (T : TX K mg) : ErrOk fileS K e_InvalidPlace (fdOf K (e_InvalidPlace.at_ K)) := T.z.err 6 rfl T.xi_InvalidPlace
theorem TX.bx_InvalidPlace (T : TX K mg) : L2.Binds K (fdOf K (e_InvalidPlace.at_ K)) ["self", "given"] [] := binds_err T.eo_InvalidPlace fun _ _ _ _ _ _ _ us hl => match us, hl with | [_, _], _ => rfl
theorem xs_InvalidPlace : XScope ["self", "given"] ["self", "given"] (defScope (inClass (top 7) 0)) := ⟨rfl, rfl, rfl, by decide +kernel, rfl, by decide +kernel, fun _ h => h, by decide +kernel, by decide +kernel, by decide +kernel, by decide +kernel⟩
theorem TX.xf_InvalidPlace (T : TX K mg) (B : BY P w fileS K mg base) : FnOk P w K mg base (L2.CX P w) 1 (e_InvalidPlace.at_ K) (fdOf K (e_InvalidPlace.at_ K)) ["self", "given"] (spXi (He.ga K "InvalidPlace") "given") := fn_xinit1 (k := 0) T.eo_InvalidPlace.T (T.eo_InvalidPlace.xi P B.fl) xs_InvalidPlace rfl rfl T.b_super B.su (fun _ => rfl) (fun _ => rfl) T.eo_InvalidPlace.no (fun _ => rfl) (by decide) (by decide) (by decide) (by decide)
theorem TX.xn_InvalidPlace (T : TX K mg) (B : BY P w fileS K mg base) : FnOk P w K mg base (L2.CX P w) 1 (e_InvalidPlace.at_ K) (fdOf K (e_InvalidPlace.at_ K)) ["self", "given"] (spXn (He.ga K "InvalidPlace") ["given"]) := fn_weak (T.xf_InvalidPlace B) spXn_1
theorem TX.ekb_InvalidPlace_given (T : TX K mg) : KB K (fdOf K (e_InvalidPlace.at_ K)) ["self", "given"] 1 ["given"] [0, 1] [] := kb_err T.eo_InvalidPlace fun _ _ _ _ _ _ _ us ws h1 h2 => match us, ws, h1, h2 with | [_], [_], _, _ => rfl
theorem TX.eo_InvalidStep (T : TX K mg) : ErrOk fileS K e_InvalidStep (fdOf K (e_InvalidStep.at_ K)) := T.z.err 7 rfl T.xi_InvalidStep
theorem TX.bx_InvalidStep (T : TX K mg) : L2.Binds K (fdOf K (e_InvalidStep.at_ K)) ["self", "given"] [] := binds_err T.eo_InvalidStep fun _ _ _ _ _ _ _ us hl => match us, hl with | [_, _], _ => rfl
theorem xs_InvalidStep : XScope ["self", "given"] ["self", "given"] (defScope (inClass (top 6) 0)) := ⟨rfl, rfl, rfl, by decide +kernel, rfl, by decide +kernel, fun _ h => h, by decide +kernel, by decide +kernel, by decide +kernel, by decide +kernel⟩
theorem TX.xf_InvalidStep (T : TX K mg) (B : BY P w fileS K mg base) : FnOk P w K mg base (L2.CX P w) 1 (e_InvalidStep.at_ K) (fdOf K (e_InvalidStep.at_ K)) ["self", "given"] (spXi (He.ga K "InvalidStep") "given") := fn_xinit1 (k := 0) T.eo_InvalidStep.T (T.eo_InvalidStep.xi P B.fl) xs_InvalidStep rfl rfl T.b_super B.su (fun _ => rfl) (fun _ => rfl) T.eo_InvalidStep.no (fun _ => rfl) (by decide) (by decide) (by decide) (by decide)
theorem TX.xn_InvalidStep (T : TX K mg) (B : BY P w fileS K mg base) : FnOk P w K mg base (L2.CX P w) 1 (e_InvalidStep.at_ K) (fdOf K (e_InvalidStep.at_ K)) ["self", "given"] (spXn (He.ga K "InvalidStep") ["given"]) := fn_weak (T.xf_InvalidStep B) spXn_1
theorem TX.ekb_InvalidStep_given (T : TX K mg) : KB K (fdOf K (e_InvalidStep.at_ K)) ["self", "given"] 1 ["given"] [0, 1] [] := kb_err T.eo_InvalidStep fun _ _ _ _ _ _ _ us ws h1 h2 => match us, ws, h1, h2 with | [_], [_], _, _ => rfl
theorem TX.eo_InvalidName (T : TX K mg) : ErrOk fileS K e_InvalidName (fdOf K (e_InvalidName.at_ K)) := T.z.err 8 rfl T.xi_InvalidName
theorem TX.bx_InvalidName (T : TX K mg) : L2.Binds K (fdOf K (e_InvalidName.at_ K)) ["self", "given"] [] := binds_err T.eo_InvalidName fun _ _ _ _ _ _ _ us hl => match us, hl with | [_, _], _ => rfl
theorem xs_InvalidName : XScope ["self", "given"] ["self", "given"] (defScope (inClass (top 5) 0)) := ⟨rfl, rfl, rfl, by decide +kernel, rfl, by decide +kernel, fun _ h => h, by decide +kernel, by decide +kernel, by decide +kernel, by decide +kernel⟩
theorem TX.xf_InvalidName (T : TX K mg) (B : BY P w fileS K mg base) : FnOk P w K mg base (L2.CX P w) 1 (e_InvalidName.at_ K) (fdOf K (e_InvalidName.at_ K)) ["self", "given"] (spXi (He.ga K "InvalidName") "given") := fn_xinit1 (k := 0) T.eo_InvalidName.T (T.eo_InvalidName.xi P B.fl) xs_InvalidName rfl rfl T.b_super B.su (fun _ => rfl) (fun _ => rfl) T.eo_InvalidName.no (fun _ => rfl) (by decide) (by decide) (by decide) (by decide)
theorem TX.xn_InvalidName (T : TX K mg) (B : BY P w fileS K mg base) : FnOk P w K mg base (L2.CX P w) 1 (e_InvalidName.at_ K) (fdOf K (e_InvalidName.at_ K)) ["self", "given"] (spXn (He.ga K "InvalidName") ["given"]) := fn_weak (T.xf_InvalidName B) spXn_1
theorem TX.ekb_InvalidName_given (T : TX K mg) : KB K (fdOf K (e_InvalidName.at_ K)) ["self", "given"] 1 ["given"] [0, 1] [] := kb_err T.eo_InvalidName fun _ _ _ _ _ _ _ us ws h1 h2 => match us, ws, h1, h2 with | [_], [_], _, _ => rfl
theorem TX.eo_InvalidBox (T : TX K mg) : ErrOk fileS K e_InvalidBox (fdOf K (e_InvalidBox.at_ K)) := T.z.err 9 rfl T.xi_InvalidBox
theorem TX.bx_InvalidBox (T : TX K mg) : L2.Binds K (fdOf K (e_InvalidBox.at_ K)) ["self", "given"] [] := binds_err T.eo_InvalidBox fun _ _ _ _ _ _ _ us hl => match us, hl with | [_, _], _ => rfl
theorem xs_InvalidBox : XScope ["self", "given"] ["self", "given"] (defScope (inClass (top 4) 0)) := ⟨rfl, rfl, rfl, by decide +kernel, rfl, by decide +kernel, fun _ h => h, by decide +kernel, by decide +kernel, by decide +kernel, by decide +kernel⟩
theorem TX.xf_InvalidBox (T : TX K mg) (B : BY P w fileS K mg base) : FnOk P w K mg base (L2.CX P w) 1 (e_InvalidBox.at_ K) (fdOf K (e_InvalidBox.at_ K)) ["self", "given"] (spXi (He.ga K "InvalidBox") "given") := fn_xinit1 (k := 0) T.eo_InvalidBox.T (T.eo_InvalidBox.xi P B.fl) xs_InvalidBox rfl rfl T.b_super B.su (fun _ => rfl) (fun _ => rfl) T.eo_InvalidBox.no (fun _ => rfl) (by decide) (by decide) (by decide) (by decide)
theorem TX.xn_InvalidBox (T : TX K mg) (B : BY P w fileS K mg base) : FnOk P w K mg base (L2.CX P w) 1 (e_InvalidBox.at_ K) (fdOf K (e_InvalidBox.at_ K)) ["self", "given"] (spXn (He.ga K "InvalidBox") ["given"]) := fn_weak (T.xf_InvalidBox B) spXn_1
theorem TX.ekb_InvalidBox_given (T : TX K mg) : KB K (fdOf K (e_InvalidBox.at_ K)) ["self", "given"] 1 ["given"] [0, 1] [] := kb_err T.eo_InvalidBox fun _ _ _ _ _ _ _ us ws h1 h2 => match us, ws, h1, h2 with | [_], [_], _, _ => rfl
theorem TX.eo_InvalidRow (T : TX K mg) : ErrOk fileS K e_InvalidRow (fdOf K (e_InvalidRow.at_ K)) := T.z.err 10 rfl T.xi_InvalidRow
theorem TX.bx_InvalidRow (T : TX K mg) : L2.Binds K (fdOf K (e_InvalidRow.at_ K)) ["self", "given"] [] := binds_err T.eo_InvalidRow fun _ _ _ _ _ _ _ us hl => match us, hl with | [_, _], _ => rfl
theorem xs_InvalidRow : XScope ["self", "given"] ["self", "given"] (defScope (inClass (top 2) 0)) := ⟨rfl, rfl, rfl, by decide +kernel, rfl, by decide +kernel, fun _ h => h, by decide +kernel, by decide +kernel, by decide +kernel, by decide +kernel⟩
theorem TX.xf_InvalidRow (T : TX K mg) (B : BY P w fileS K mg base) : FnOk P w K mg base (L2.CX P w) 1 (e_InvalidRow.at_ K) (fdOf K (e_InvalidRow.at_ K)) ["self", "given"] (spXi (He.ga K "InvalidRow") "given") := fn_xinit1 (k := 0) T.eo_InvalidRow.T (T.eo_InvalidRow.xi P B.fl) xs_InvalidRow rfl rfl T.b_super B.su (fun _ => rfl) (fun _ => rfl) T.eo_InvalidRow.no (fun _ => rfl) (by decide) (by decide) (by decide) (by decide)
theorem TX.xn_InvalidRow (T : TX K mg) (B : BY P w fileS K mg base) : FnOk P w K mg base (L2.CX P w) 1 (e_InvalidRow.at_ K) (fdOf K (e_InvalidRow.at_ K)) ["self", "given"] (spXn (He.ga K "InvalidRow") ["given"]) := fn_weak (T.xf_InvalidRow B) spXn_1
theorem TX.ekb_InvalidRow_given (T : TX K mg) : KB K (fdOf K (e_InvalidRow.at_ K)) ["self", "given"] 1 ["given"] [0, 1] [] := kb_err T.eo_InvalidRow fun _ _ _ _ _ _ _ us ws h1 h2 => match us, ws, h1, h2 with | [_], [_], _, _ => rfl
theorem TX.f__law_raised_right (T : TX K mg) : FunD K "_law_raised_right" "_law_raised_right" (defArgs (top 24)) (defBody (top 24)) (defScope (top 24)) [] [] (He.ga K "_law_raised_right") (fdOf K (He.ga K "_law_raised_right")) := T.t.t.fund 0 (d := d__law_raised_right) rfl
theorem TX.g__law_raised_right (T : TX K mg) : mg "_law_raised_right" = some (.ref (He.ga K "_law_raised_right")) := T.t.t.glo 0 rfl
theorem TX.k__law_raised_right (T : TX K mg) : PySem.W.keepIn K (.ref (He.ga K "_law_raised_right")) = true := T.f__law_raised_right.kp
theorem TX.bd__law_raised_right (T : TX K mg) : Binds K (fdOf K (He.ga K "_law_raised_right")) ["_law_thing"] [] := FunD.bindsN T.f__law_raised_right fun _ _ _ _ _ _ us hl => match us, hl with | [_], _ => rfl
theorem sc__law_raised_right : FnScope ["_law_thing", "_law_seen", "_law_e"] ["_law_thing"] (defScope (top 24)) := ⟨rfl, rfl, rfl, by decide +kernel, rfl, by decide +kernel, by decide +kernel⟩
theorem TX.w__law_raised_right (T : TX K mg) (B : BY P w fileS K mg base) : FnG P w K mg base (L2.CX P w) 3 (He.ga K "_law_raised_right") (fdOf K (He.ga K "_law_raised_right")) ["_law_thing"] (spL K ["_law_thing"] none PF._law_raised_right_F) :=
  fn_F (N := ["_law_thing", "_law_seen", "_law_e"]) (k := 2) (b := none) (bd := PF._law_raised_right_b) T.f__law_raised_right sc__law_raised_right fun cdv A outer s H E hr hg tk hp hcd =>
    (fb_cons (fs_asg (i := 1) (fv_lst fa_nil) sc__law_raised_right.nd rfl (by first | exact .inl rfl | exact .inr rfl)) (fb_cons (fs_tryN (i := 2) (h := fun a dd => appS 1 ((opN (one reprD) (aCons ((xfE a dd "InvalidText" "given" (vE 2))) aNil)))) tk rfl rfl sc__law_raised_right.nd rfl rfl rfl (by decide) T.gc_NotRight T.tn_InvalidText_NotRight_given.2.1 (fun W pn xe tk hp => (fb_one (fs_raise (c := "InvalidText") (n := "given") rfl tk T.eo_InvalidText.T T.eo_InvalidText.iC T.eo_InvalidText.tI (T.xf_InvalidText B) T.bx_InvalidText T.gc_InvalidText (hr.mono (by decide)) (fa_cons (fe_var (i := 0) rfl (by first | exact .inl rfl | exact .inr (.inl rfl) | exact .inr (.inr rfl))) fa_nil)))) (fun a dd oe pn hz hf => (fb_one (fs_append (i := 1) (fe_repr hg (by have z := Room.u65 hr; exact z) (T.b_repr) (fe_xf T.tn_InvalidText_NotRight_given.1 T.tn_InvalidText_NotRight_given.2.2 hz hf (fe_var (i := 2) rfl (by first | exact .inl rfl | exact .inr (.inl rfl) | exact .inr (.inr rfl))))) rfl (by first | exact .inl rfl | exact .inr (.inl rfl) | exact .inr (.inr rfl))))) (hv_app (by decide))) (fb_cons (fs_tryN (i := 2) (h := fun a dd => appS 1 ((opN (one reprD) (aCons ((xfE a dd "Broken" "index" (vE 2))) aNil)))) tk rfl rfl sc__law_raised_right.nd rfl rfl rfl (by decide) T.gc_CannotBe T.tn_Broken_CannotBe_index.2.1 (fun W pn xe tk hp => (fb_one (fs_raiseN (c := "Broken") (ns := ["index", "shown"]) rfl tk PySem.F.excBase_ArithmeticError T.eo_Broken.T T.eo_Broken.iC T.eo_Broken.tI (T.xn_Broken B) T.bx_Broken T.gc_Broken (hr.mono (by decide)) (fa_cons (fe_var (i := 0) rfl (by first | exact .inl rfl | exact .inr (.inl rfl) | exact .inr (.inr rfl))) (fa_cons fe_int fa_nil)) (by decide)))) (fun a dd oe pn hz hf => (fb_one (fs_append (i := 1) (fe_repr hg (by have z := Room.u65 hr; exact z) (T.b_repr) (fe_xf T.tn_Broken_CannotBe_index.1 T.tn_Broken_CannotBe_index.2.2 hz hf (fe_var (i := 2) rfl (by first | exact .inl rfl | exact .inr (.inl rfl) | exact .inr (.inr rfl))))) rfl (by first | exact .inl rfl | exact .inr (.inl rfl) | exact .inr (.inr rfl))))) (hv_app (by decide))) (fb_one (fs_ret (fe_eq hr.units (fe_var (i := 1) rfl (by first | exact .inl rfl | exact .inr (.inl rfl) | exact .inr (.inr rfl))) (fe_mul (fe_lst (fa_cons (fe_repr hg (Room.u65 hr) (T.b_repr) (fe_var (i := 0) rfl (by first | exact .inl rfl | exact .inr (.inl rfl) | exact .inr (.inr rfl)))) fa_nil)) fe_int)))))))
theorem TX.f__law_given (T : TX K mg) : FunD K "_law_given" "_law_given" (defArgs (top 22)) (defBody (top 22)) (defScope (top 22)) [] [] (He.ga K "_law_given") (fdOf K (He.ga K "_law_given")) := T.t.t.fund 1 (d := d__law_given) rfl
theorem TX.g__law_given (T : TX K mg) : mg "_law_given" = some (.ref (He.ga K "_law_given")) := T.t.t.glo 1 rfl
theorem TX.k__law_given (T : TX K mg) : PySem.W.keepIn K (.ref (He.ga K "_law_given")) = true := T.f__law_given.kp
theorem TX.bd__law_given (T : TX K mg) : Binds K (fdOf K (He.ga K "_law_given")) ["_law_thing"] [] := FunD.bindsN T.f__law_given fun _ _ _ _ _ _ us hl => match us, hl with | [_], _ => rfl
theorem sc__law_given : FnScope ["_law_thing", "_law_found", "_law_named"] ["_law_thing"] (defScope (top 22)) := ⟨rfl, rfl, rfl, by decide +kernel, rfl, by decide +kernel, by decide +kernel⟩
theorem TX.w__law_given (T : TX K mg) (B : BY P w fileS K mg base) : FnG P w K mg base (L2.CX P w) 3 (He.ga K "_law_given") (fdOf K (He.ga K "_law_given")) ["_law_thing"] (spL K ["_law_thing"] none PF._law_given_F) :=
  fn_F (N := ["_law_thing", "_law_found", "_law_named"]) (k := 2) (b := none) (bd := PF._law_given_b) T.f__law_given sc__law_given fun cdv A outer s H E hr hg tk hp hcd =>
    (fb_cons (fs_asg (i := 1) (fv_lst (fa_cons (fe_mkX (c := "InvalidRow") (ns := ["given"]) (n := 1) (pm := [0]) PySem.F.excBase_ValueError (oeV_of T.eo_InvalidRow.T) T.eo_InvalidRow.iC T.eo_InvalidRow.tI (T.xn_InvalidRow B) T.bx_InvalidRow T.gc_InvalidRow (hr.mono (by decide)) (fa_cons (fe_var (i := 0) rfl (by first | exact .inl rfl | exact .inr (.inl rfl) | exact .inr (.inr rfl))) fa_nil) pick1 rfl (by decide)) (fa_cons (fe_mkX (c := "InvalidText") (ns := ["given"]) (n := 1) (pm := [0]) PySem.F.excBase_ValueError (oeV_of T.eo_InvalidText.T) T.eo_InvalidText.iC T.eo_InvalidText.tI (T.xn_InvalidText B) T.bx_InvalidText T.gc_InvalidText (hr.mono (by decide)) (fa_cons (fe_var (i := 0) rfl (by first | exact .inl rfl | exact .inr (.inl rfl) | exact .inr (.inr rfl))) fa_nil) pick1 rfl (by decide)) (fa_cons (fe_mkX (c := "InvalidBox") (ns := ["given"]) (n := 1) (pm := [0]) PySem.F.excBase_ValueError (oeV_of T.eo_InvalidBox.T) T.eo_InvalidBox.iC T.eo_InvalidBox.tI (T.xn_InvalidBox B) T.bx_InvalidBox T.gc_InvalidBox (hr.mono (by decide)) (fa_cons (fe_var (i := 0) rfl (by first | exact .inl rfl | exact .inr (.inl rfl) | exact .inr (.inr rfl))) fa_nil) pick1 rfl (by decide)) (fa_cons (fe_mkX (c := "InvalidName") (ns := ["given"]) (n := 1) (pm := [0]) PySem.F.excBase_ValueError (oeV_of T.eo_InvalidName.T) T.eo_InvalidName.iC T.eo_InvalidName.tI (T.xn_InvalidName B) T.bx_InvalidName T.gc_InvalidName (hr.mono (by decide)) (fa_cons (fe_var (i := 0) rfl (by first | exact .inl rfl | exact .inr (.inl rfl) | exact .inr (.inr rfl))) fa_nil) pick1 rfl (by decide)) (fa_cons (fe_mkX (c := "InvalidStep") (ns := ["given"]) (n := 1) (pm := [0]) PySem.F.excBase_ValueError (oeV_of T.eo_InvalidStep.T) T.eo_InvalidStep.iC T.eo_InvalidStep.tI (T.xn_InvalidStep B) T.bx_InvalidStep T.gc_InvalidStep (hr.mono (by decide)) (fa_cons (fe_var (i := 0) rfl (by first | exact .inl rfl | exact .inr (.inl rfl) | exact .inr (.inr rfl))) fa_nil) pick1 rfl (by decide)) fa_nil)))))) sc__law_given.nd rfl (by first | exact .inl rfl | exact .inr rfl)) (fb_cons (fs_asg (i := 1) (fv_add (fe_var (i := 1) rfl (by first | exact .inl rfl | exact .inr (.inl rfl) | exact .inr (.inr rfl))) (fe_lst (fa_cons (fe_mkX (c := "InvalidPlace") (ns := ["given"]) (n := 1) (pm := [0]) PySem.F.excBase_ValueError (oeV_of T.eo_InvalidPlace.T) T.eo_InvalidPlace.iC T.eo_InvalidPlace.tI (T.xn_InvalidPlace B) T.bx_InvalidPlace T.gc_InvalidPlace (hr.mono (by decide)) (fa_cons (fe_var (i := 0) rfl (by first | exact .inl rfl | exact .inr (.inl rfl) | exact .inr (.inr rfl))) fa_nil) pick1 rfl (by decide)) (fa_cons (fe_mkX (c := "InvalidClaim") (ns := ["given"]) (n := 1) (pm := [0]) PySem.F.excBase_ValueError (oeV_of T.eo_InvalidClaim.T) T.eo_InvalidClaim.iC T.eo_InvalidClaim.tI (T.xn_InvalidClaim B) T.bx_InvalidClaim T.gc_InvalidClaim (hr.mono (by decide)) (fa_cons (fe_var (i := 0) rfl (by first | exact .inl rfl | exact .inr (.inl rfl) | exact .inr (.inr rfl))) fa_nil) pick1 rfl (by decide)) (fa_cons (fe_mkX (c := "NotABook") (ns := ["given"]) (n := 1) (pm := [0]) PySem.F.excBase_ValueError (oeV_of T.eo_NotABook.T) T.eo_NotABook.iC T.eo_NotABook.tI (T.xn_NotABook B) T.bx_NotABook T.gc_NotABook (hr.mono (by decide)) (fa_cons (fe_var (i := 0) rfl (by first | exact .inl rfl | exact .inr (.inl rfl) | exact .inr (.inr rfl))) fa_nil) pick1 rfl (by decide)) (fa_cons (fe_mkX (c := "InvalidAnswers") (ns := ["index"]) (n := 1) (pm := [0]) PySem.F.excBase_ValueError (oeV_of T.eo_InvalidAnswers.T) T.eo_InvalidAnswers.iC T.eo_InvalidAnswers.tI (T.xn_InvalidAnswers B) T.bx_InvalidAnswers T.gc_InvalidAnswers (hr.mono (by decide)) (fa_cons (fe_var (i := 0) rfl (by first | exact .inl rfl | exact .inr (.inl rfl) | exact .inr (.inr rfl))) fa_nil) pick1 rfl (by decide)) fa_nil)))))) sc__law_given.nd rfl (by first | exact .inl rfl | exact .inr rfl)) (fb_cons (fs_asg (i := 1) (fv_add (fe_var (i := 1) rfl (by first | exact .inl rfl | exact .inr (.inl rfl) | exact .inr (.inr rfl))) (fe_lst (fa_cons (fe_mkX (c := "InvalidSteps") (ns := ["index"]) (n := 1) (pm := [0]) PySem.F.excBase_ValueError (oeV_of T.eo_InvalidSteps.T) T.eo_InvalidSteps.iC T.eo_InvalidSteps.tI (T.xn_InvalidSteps B) T.bx_InvalidSteps T.gc_InvalidSteps (hr.mono (by decide)) (fa_cons (fe_var (i := 0) rfl (by first | exact .inl rfl | exact .inr (.inl rfl) | exact .inr (.inr rfl))) fa_nil) pick1 rfl (by decide)) (fa_cons (fe_mkX0 PySem.F.excBase_ArithmeticError T.nt_NothingToUndo.1 T.nt_NothingToUndo.2 T.gc_NothingToUndo) (fa_cons (fe_mkX (c := "Broken") (ns := ["index", "shown"]) (n := 2) (pm := [0, 1]) PySem.F.excBase_ArithmeticError T.eo_Broken.T T.eo_Broken.iC T.eo_Broken.tI (T.xn_Broken B) T.bx_Broken T.gc_Broken (hr.mono (by decide)) (fa_cons (fe_var (i := 0) rfl (by first | exact .inl rfl | exact .inr (.inl rfl) | exact .inr (.inr rfl))) (fa_cons fe_int fa_nil)) pick2 rfl (by decide)) fa_nil))))) sc__law_given.nd rfl (by first | exact .inl rfl | exact .inr rfl)) (fb_cons (fs_asg (i := 2) (fv_lst (fa_cons (fe_mkXK (c := "InvalidRow") (ns := ["given"]) (pm := [0]) (ks := ["given"]) PySem.F.excBase_ValueError (oeV_of T.eo_InvalidRow.T) T.eo_InvalidRow.iC T.eo_InvalidRow.tI (T.xn_InvalidRow B) T.ekb_InvalidRow_given T.gc_InvalidRow (hr.mono (by decide)) (fk_cons (fe_var (i := 0) rfl (by first | exact .inl rfl | exact .inr (.inl rfl) | exact .inr (.inr rfl))) fk_nil)) (fa_cons (fe_mkXK (c := "InvalidText") (ns := ["given"]) (pm := [0]) (ks := ["given"]) PySem.F.excBase_ValueError (oeV_of T.eo_InvalidText.T) T.eo_InvalidText.iC T.eo_InvalidText.tI (T.xn_InvalidText B) T.ekb_InvalidText_given T.gc_InvalidText (hr.mono (by decide)) (fk_cons (fe_var (i := 0) rfl (by first | exact .inl rfl | exact .inr (.inl rfl) | exact .inr (.inr rfl))) fk_nil)) (fa_cons (fe_mkXK (c := "InvalidBox") (ns := ["given"]) (pm := [0]) (ks := ["given"]) PySem.F.excBase_ValueError (oeV_of T.eo_InvalidBox.T) T.eo_InvalidBox.iC T.eo_InvalidBox.tI (T.xn_InvalidBox B) T.ekb_InvalidBox_given T.gc_InvalidBox (hr.mono (by decide)) (fk_cons (fe_var (i := 0) rfl (by first | exact .inl rfl | exact .inr (.inl rfl) | exact .inr (.inr rfl))) fk_nil)) fa_nil)))) sc__law_given.nd rfl (by first | exact .inl rfl | exact .inr rfl)) (fb_cons (fs_asg (i := 2) (fv_add (fe_var (i := 2) rfl (by first | exact .inl rfl | exact .inr (.inl rfl) | exact .inr (.inr rfl))) (fe_lst (fa_cons (fe_mkXK (c := "InvalidName") (ns := ["given"]) (pm := [0]) (ks := ["given"]) PySem.F.excBase_ValueError (oeV_of T.eo_InvalidName.T) T.eo_InvalidName.iC T.eo_InvalidName.tI (T.xn_InvalidName B) T.ekb_InvalidName_given T.gc_InvalidName (hr.mono (by decide)) (fk_cons (fe_var (i := 0) rfl (by first | exact .inl rfl | exact .inr (.inl rfl) | exact .inr (.inr rfl))) fk_nil)) (fa_cons (fe_mkXK (c := "InvalidStep") (ns := ["given"]) (pm := [0]) (ks := ["given"]) PySem.F.excBase_ValueError (oeV_of T.eo_InvalidStep.T) T.eo_InvalidStep.iC T.eo_InvalidStep.tI (T.xn_InvalidStep B) T.ekb_InvalidStep_given T.gc_InvalidStep (hr.mono (by decide)) (fk_cons (fe_var (i := 0) rfl (by first | exact .inl rfl | exact .inr (.inl rfl) | exact .inr (.inr rfl))) fk_nil)) (fa_cons (fe_mkXK (c := "InvalidPlace") (ns := ["given"]) (pm := [0]) (ks := ["given"]) PySem.F.excBase_ValueError (oeV_of T.eo_InvalidPlace.T) T.eo_InvalidPlace.iC T.eo_InvalidPlace.tI (T.xn_InvalidPlace B) T.ekb_InvalidPlace_given T.gc_InvalidPlace (hr.mono (by decide)) (fk_cons (fe_var (i := 0) rfl (by first | exact .inl rfl | exact .inr (.inl rfl) | exact .inr (.inr rfl))) fk_nil)) fa_nil))))) sc__law_given.nd rfl (by first | exact .inl rfl | exact .inr rfl)) (fb_cons (fs_asg (i := 2) (fv_add (fe_var (i := 2) rfl (by first | exact .inl rfl | exact .inr (.inl rfl) | exact .inr (.inr rfl))) (fe_lst (fa_cons (fe_mkXK (c := "InvalidClaim") (ns := ["given"]) (pm := [0]) (ks := ["given"]) PySem.F.excBase_ValueError (oeV_of T.eo_InvalidClaim.T) T.eo_InvalidClaim.iC T.eo_InvalidClaim.tI (T.xn_InvalidClaim B) T.ekb_InvalidClaim_given T.gc_InvalidClaim (hr.mono (by decide)) (fk_cons (fe_var (i := 0) rfl (by first | exact .inl rfl | exact .inr (.inl rfl) | exact .inr (.inr rfl))) fk_nil)) (fa_cons (fe_mkXK (c := "NotABook") (ns := ["given"]) (pm := [0]) (ks := ["given"]) PySem.F.excBase_ValueError (oeV_of T.eo_NotABook.T) T.eo_NotABook.iC T.eo_NotABook.tI (T.xn_NotABook B) T.ekb_NotABook_given T.gc_NotABook (hr.mono (by decide)) (fk_cons (fe_var (i := 0) rfl (by first | exact .inl rfl | exact .inr (.inl rfl) | exact .inr (.inr rfl))) fk_nil)) (fa_cons (fe_mkXK (c := "InvalidAnswers") (ns := ["index"]) (pm := [0]) (ks := ["index"]) PySem.F.excBase_ValueError (oeV_of T.eo_InvalidAnswers.T) T.eo_InvalidAnswers.iC T.eo_InvalidAnswers.tI (T.xn_InvalidAnswers B) T.ekb_InvalidAnswers_index T.gc_InvalidAnswers (hr.mono (by decide)) (fk_cons (fe_var (i := 0) rfl (by first | exact .inl rfl | exact .inr (.inl rfl) | exact .inr (.inr rfl))) fk_nil)) fa_nil))))) sc__law_given.nd rfl (by first | exact .inl rfl | exact .inr rfl)) (fb_cons (fs_asg (i := 2) (fv_add (fe_var (i := 2) rfl (by first | exact .inl rfl | exact .inr (.inl rfl) | exact .inr (.inr rfl))) (fe_lst (fa_cons (fe_mkXK (c := "InvalidSteps") (ns := ["index"]) (pm := [0]) (ks := ["index"]) PySem.F.excBase_ValueError (oeV_of T.eo_InvalidSteps.T) T.eo_InvalidSteps.iC T.eo_InvalidSteps.tI (T.xn_InvalidSteps B) T.ekb_InvalidSteps_index T.gc_InvalidSteps (hr.mono (by decide)) (fk_cons (fe_var (i := 0) rfl (by first | exact .inl rfl | exact .inr (.inl rfl) | exact .inr (.inr rfl))) fk_nil)) (fa_cons (fe_mkX0 PySem.F.excBase_ArithmeticError T.nt_NothingToUndo.1 T.nt_NothingToUndo.2 T.gc_NothingToUndo) (fa_cons (fe_mkXK (c := "Broken") (ns := ["index", "shown"]) (pm := [1, 0]) (ks := ["shown", "index"]) PySem.F.excBase_ArithmeticError T.eo_Broken.T T.eo_Broken.iC T.eo_Broken.tI (T.xn_Broken B) T.ekb_Broken_shown_index T.gc_Broken (hr.mono (by decide)) (fk_cons fe_int (fk_cons (fe_var (i := 0) rfl (by first | exact .inl rfl | exact .inr (.inl rfl) | exact .inr (.inr rfl))) fk_nil))) fa_nil))))) sc__law_given.nd rfl (by first | exact .inl rfl | exact .inr rfl)) (fb_one (fs_retV (fv_lst (fa_cons (fe_var (i := 1) rfl (by first | exact .inl rfl | exact .inr (.inl rfl) | exact .inr (.inr rfl))) (fa_cons (fe_var (i := 2) rfl (by first | exact .inl rfl | exact .inr (.inl rfl) | exact .inr (.inr rfl))) fa_nil))))))))))))
theorem TX.f__law_kept_right (T : TX K mg) : FunD K "_law_kept_right" "_law_kept_right" (defArgs (top 23)) (defBody (top 23)) (defScope (top 23)) [] [] (He.ga K "_law_kept_right") (fdOf K (He.ga K "_law_kept_right")) := T.t.t.fund 2 (d := d__law_kept_right) rfl
theorem TX.g__law_kept_right (T : TX K mg) : mg "_law_kept_right" = some (.ref (He.ga K "_law_kept_right")) := T.t.t.glo 2 rfl
theorem TX.k__law_kept_right (T : TX K mg) : PySem.W.keepIn K (.ref (He.ga K "_law_kept_right")) = true := T.f__law_kept_right.kp
theorem TX.bd__law_kept_right (T : TX K mg) : Binds K (fdOf K (He.ga K "_law_kept_right")) ["_law_found", "_law_thing"] [] := FunD.bindsN T.f__law_kept_right fun _ _ _ _ _ _ us hl => match us, hl with | [_, _], _ => rfl
theorem sc__law_kept_right : FnScope ["_law_found", "_law_thing", "_law_some", "_law_last", "_law_k"] ["_law_found", "_law_thing"] (defScope (top 23)) := ⟨rfl, rfl, rfl, by decide +kernel, rfl, by decide +kernel, by decide +kernel⟩
theorem TX.w__law_kept_right (T : TX K mg) (B : BY P w fileS K mg base) : FnG P w K mg base (L2.CX P w) 1 (He.ga K "_law_kept_right") (fdOf K (He.ga K "_law_kept_right")) ["_law_found", "_law_thing"] (spL K ["_law_found", "_law_thing"] none PF._law_kept_right_F) :=
  fn_F (N := ["_law_found", "_law_thing", "_law_some", "_law_last", "_law_k"]) (k := 0) (b := none) (bd := PF._law_kept_right_b) T.f__law_kept_right sc__law_kept_right fun cdv A outer s H E hr hg tk hp hcd =>
    (fb_cons (fs_asg (i := 2) (fv_add (fe_of (fv_lc (own := [("_law_k", 4)]) rfl sc__law_kept_right.nd (fi_any (fe_lst (fa_cons fe_int (fa_cons fe_int (fa_cons fe_int (fa_cons fe_int (fa_cons fe_int (fa_cons fe_int (fa_cons fe_int (fa_cons fe_int fa_nil)))))))))) (blk_of rfl) (by decide) (fun s1 H1 C1 cl fp => (fg_name (i := 4) sc__law_kept_right.nd rfl (by first | exact .inl rfl | exact .inr rfl))) (fun s1 H1 C1 cl fp => fts_nil) (fun s1 H1 C1 cl fp => (fe_xy T.isy (by decide) (fe_ix (fe_var (i := 0) rfl (by first | exact .inl rfl | exact .inr (.inl rfl) | exact .inr (.inr rfl))) (fe_var (i := 4) rfl (by first | exact .inl rfl | exact .inr (.inl rfl) | exact .inr (.inr rfl)))))))) (fe_of (fv_lc (own := [("_law_k", 4)]) rfl sc__law_kept_right.nd (fi_any (fe_lst (fa_cons fe_int (fa_cons fe_int fa_nil)))) (blk_of rfl) (by decide) (fun s1 H1 C1 cl fp => (fg_name (i := 4) sc__law_kept_right.nd rfl (by first | exact .inl rfl | exact .inr rfl))) (fun s1 H1 C1 cl fp => fts_nil) (fun s1 H1 C1 cl fp => (fe_xy T.isy (by decide) (fe_ix (fe_var (i := 0) rfl (by first | exact .inl rfl | exact .inr (.inl rfl) | exact .inr (.inr rfl))) (fe_var (i := 4) rfl (by first | exact .inl rfl | exact .inr (.inl rfl) | exact .inr (.inr rfl))))))))) sc__law_kept_right.nd rfl (by first | exact .inl rfl | exact .inr rfl)) (fb_cons (fs_asg (i := 3) (fv_e (fe_ix (fe_var (i := 0) rfl (by first | exact .inl rfl | exact .inr (.inl rfl) | exact .inr (.inr rfl))) fe_int)) sc__law_kept_right.nd rfl (by first | exact .inl rfl | exact .inr rfl)) (fb_one (fs_ret (fe_and (fe_eq hr.units (fe_repr hg (Room.u65 hr) (T.b_repr) (fe_var (i := 2) rfl (by first | exact .inl rfl | exact .inr (.inl rfl) | exact .inr (.inr rfl)))) (fe_repr hg (Room.u65 hr) (T.b_repr) (fe_mul (fe_lst (fa_cons (fe_var (i := 1) rfl (by first | exact .inl rfl | exact .inr (.inl rfl) | exact .inr (.inr rfl))) fa_nil)) (fe_len (T.b_len) (fe_var (i := 2) rfl (by first | exact .inl rfl | exact .inr (.inl rfl) | exact .inr (.inr rfl))))))) (fe_one (fe_eq hr.units (fe_repr hg (Room.u65 hr) (T.b_repr) (fe_lst (fa_cons (fe_xy T.isy (by decide) (fe_var (i := 3) rfl (by first | exact .inl rfl | exact .inr (.inl rfl) | exact .inr (.inr rfl)))) (fa_cons (fe_xy T.isy (by decide) (fe_var (i := 3) rfl (by first | exact .inl rfl | exact .inr (.inl rfl) | exact .inr (.inr rfl)))) fa_nil)))) (fe_repr hg (Room.u65 hr) (T.b_repr) (fe_lst (fa_cons (fe_var (i := 1) rfl (by first | exact .inl rfl | exact .inr (.inl rfl) | exact .inr (.inr rfl))) (fa_cons fe_int fa_nil)))))))))))
theorem TX.f__law_sorts (T : TX K mg) : FunD K "_law_sorts" "_law_sorts" (defArgs (top 19)) (defBody (top 19)) (defScope (top 19)) [] [] (He.ga K "_law_sorts") (fdOf K (He.ga K "_law_sorts")) := T.t.t.fund 3 (d := d__law_sorts) rfl
theorem TX.g__law_sorts (T : TX K mg) : mg "_law_sorts" = some (.ref (He.ga K "_law_sorts")) := T.t.t.glo 3 rfl
theorem TX.k__law_sorts (T : TX K mg) : PySem.W.keepIn K (.ref (He.ga K "_law_sorts")) = true := T.f__law_sorts.kp
theorem TX.bd__law_sorts (T : TX K mg) : Binds K (fdOf K (He.ga K "_law_sorts")) ["_law_e"] [] := FunD.bindsN T.f__law_sorts fun _ _ _ _ _ _ us hl => match us, hl with | [_], _ => rfl
theorem sc__law_sorts : FnScope ["_law_e", "_law_found"] ["_law_e"] (defScope (top 19)) := ⟨rfl, rfl, rfl, by decide +kernel, rfl, by decide +kernel, by decide +kernel⟩
theorem TX.w__law_sorts (T : TX K mg) (B : BY P w fileS K mg base) : FnG P w K mg base (L2.CX P w) 1 (He.ga K "_law_sorts") (fdOf K (He.ga K "_law_sorts")) ["_law_e"] (spL K ["_law_e"] none PF._law_sorts_F) :=
  fn_F (N := ["_law_e", "_law_found"]) (k := 0) (b := none) (bd := PF._law_sorts_b) T.f__law_sorts sc__law_sorts fun cdv A outer s H E hr hg tk hp hcd =>
    (fb_cons (fs_asg (i := 1) (fv_lst (fa_cons (fe_isy (T.b_isinstance) (fun _ _ e => ⟨(isyT_exc T.isy (isyT_own T.isy e).1).1, (isyT_own T.isy e).2⟩) (fc_own T.gc_InvalidRow) (fe_var (i := 0) rfl (by first | exact .inl rfl | exact .inr (.inl rfl) | exact .inr (.inr rfl)))) (fa_cons (fe_isy (T.b_isinstance) (fun _ _ e => ⟨(isyT_exc T.isy (isyT_own T.isy e).1).1, (isyT_own T.isy e).2⟩) (fc_own T.gc_InvalidText) (fe_var (i := 0) rfl (by first | exact .inl rfl | exact .inr (.inl rfl) | exact .inr (.inr rfl)))) (fa_cons (fe_isy (T.b_isinstance) (fun _ _ e => ⟨(isyT_exc T.isy (isyT_own T.isy e).1).1, (isyT_own T.isy e).2⟩) (fc_own T.gc_InvalidBox) (fe_var (i := 0) rfl (by first | exact .inl rfl | exact .inr (.inl rfl) | exact .inr (.inr rfl)))) fa_nil)))) sc__law_sorts.nd rfl (by first | exact .inl rfl | exact .inr rfl)) (fb_cons (fs_asg (i := 1) (fv_add (fe_var (i := 1) rfl (by first | exact .inl rfl | exact .inr (.inl rfl) | exact .inr (.inr rfl))) (fe_lst (fa_cons (fe_isy (T.b_isinstance) (fun _ _ e => ⟨(isyT_exc T.isy (isyT_own T.isy e).1).1, (isyT_own T.isy e).2⟩) (fc_own T.gc_InvalidName) (fe_var (i := 0) rfl (by first | exact .inl rfl | exact .inr (.inl rfl) | exact .inr (.inr rfl)))) (fa_cons (fe_isy (T.b_isinstance) (fun _ _ e => ⟨(isyT_exc T.isy (isyT_own T.isy e).1).1, (isyT_own T.isy e).2⟩) (fc_own T.gc_InvalidStep) (fe_var (i := 0) rfl (by first | exact .inl rfl | exact .inr (.inl rfl) | exact .inr (.inr rfl)))) (fa_cons (fe_isy (T.b_isinstance) (fun _ _ e => ⟨(isyT_exc T.isy (isyT_own T.isy e).1).1, (isyT_own T.isy e).2⟩) (fc_own T.gc_InvalidPlace) (fe_var (i := 0) rfl (by first | exact .inl rfl | exact .inr (.inl rfl) | exact .inr (.inr rfl)))) fa_nil))))) sc__law_sorts.nd rfl (by first | exact .inl rfl | exact .inr rfl)) (fb_cons (fs_asg (i := 1) (fv_add (fe_var (i := 1) rfl (by first | exact .inl rfl | exact .inr (.inl rfl) | exact .inr (.inr rfl))) (fe_lst (fa_cons (fe_isy (T.b_isinstance) (fun _ _ e => ⟨(isyT_exc T.isy (isyT_own T.isy e).1).1, (isyT_own T.isy e).2⟩) (fc_own T.gc_InvalidClaim) (fe_var (i := 0) rfl (by first | exact .inl rfl | exact .inr (.inl rfl) | exact .inr (.inr rfl)))) (fa_cons (fe_isy (T.b_isinstance) (fun _ _ e => ⟨(isyT_exc T.isy (isyT_own T.isy e).1).1, (isyT_own T.isy e).2⟩) (fc_own T.gc_NotABook) (fe_var (i := 0) rfl (by first | exact .inl rfl | exact .inr (.inl rfl) | exact .inr (.inr rfl)))) (fa_cons (fe_isy (T.b_isinstance) (fun _ _ e => ⟨(isyT_exc T.isy (isyT_own T.isy e).1).1, (isyT_own T.isy e).2⟩) (fc_own T.gc_InvalidAnswers) (fe_var (i := 0) rfl (by first | exact .inl rfl | exact .inr (.inl rfl) | exact .inr (.inr rfl)))) fa_nil))))) sc__law_sorts.nd rfl (by first | exact .inl rfl | exact .inr rfl)) (fb_cons (fs_asg (i := 1) (fv_add (fe_var (i := 1) rfl (by first | exact .inl rfl | exact .inr (.inl rfl) | exact .inr (.inr rfl))) (fe_lst (fa_cons (fe_isy (T.b_isinstance) (fun _ _ e => ⟨(isyT_exc T.isy (isyT_own T.isy e).1).1, (isyT_own T.isy e).2⟩) (fc_own T.gc_InvalidSteps) (fe_var (i := 0) rfl (by first | exact .inl rfl | exact .inr (.inl rfl) | exact .inr (.inr rfl)))) (fa_cons (fe_isy (T.b_isinstance) (fun _ _ e => ⟨(isyT_exc T.isy (isyT_own T.isy e).1).1, (isyT_own T.isy e).2⟩) (fc_own T.gc_NothingToUndo) (fe_var (i := 0) rfl (by first | exact .inl rfl | exact .inr (.inl rfl) | exact .inr (.inr rfl)))) (fa_cons (fe_isy (T.b_isinstance) (fun _ _ e => ⟨(isyT_exc T.isy (isyT_own T.isy e).1).1, (isyT_own T.isy e).2⟩) (fc_own T.gc_Broken) (fe_var (i := 0) rfl (by first | exact .inl rfl | exact .inr (.inl rfl) | exact .inr (.inr rfl)))) fa_nil))))) sc__law_sorts.nd rfl (by first | exact .inl rfl | exact .inr rfl)) (fb_one (fs_retV (fv_giv (fe_var (i := 1) rfl (by first | exact .inl rfl | exact .inr (.inl rfl) | exact .inr (.inr rfl))))))))))
theorem TX.f__law_bases (T : TX K mg) : FunD K "_law_bases" "_law_bases" (defArgs (top 20)) (defBody (top 20)) (defScope (top 20)) [] [] (He.ga K "_law_bases") (fdOf K (He.ga K "_law_bases")) := T.t.t.fund 4 (d := d__law_bases) rfl
theorem TX.g__law_bases (T : TX K mg) : mg "_law_bases" = some (.ref (He.ga K "_law_bases")) := T.t.t.glo 4 rfl
theorem TX.k__law_bases (T : TX K mg) : PySem.W.keepIn K (.ref (He.ga K "_law_bases")) = true := T.f__law_bases.kp
theorem TX.bd__law_bases (T : TX K mg) : Binds K (fdOf K (He.ga K "_law_bases")) ["_law_e"] [] := FunD.bindsN T.f__law_bases fun _ _ _ _ _ _ us hl => match us, hl with | [_], _ => rfl
theorem sc__law_bases : FnScope ["_law_e", "_law_found"] ["_law_e"] (defScope (top 20)) := ⟨rfl, rfl, rfl, by decide +kernel, rfl, by decide +kernel, by decide +kernel⟩
theorem TX.w__law_bases (T : TX K mg) (B : BY P w fileS K mg base) : FnG P w K mg base (L2.CX P w) 1 (He.ga K "_law_bases") (fdOf K (He.ga K "_law_bases")) ["_law_e"] (spL K ["_law_e"] none PF._law_bases_F) :=
  fn_F (N := ["_law_e", "_law_found"]) (k := 0) (b := none) (bd := PF._law_bases_b) T.f__law_bases sc__law_bases fun cdv A outer s H E hr hg tk hp hcd =>
    (fb_cons (fs_asg (i := 1) (fv_lst (fa_cons (fe_isy (T.b_isinstance) (fun _ _ e => ⟨(isyT_exc T.isy (isyT_own T.isy e).1).1, (isyT_own T.isy e).2⟩) (fc_own T.gc_NotRight) (fe_var (i := 0) rfl (by first | exact .inl rfl | exact .inr (.inl rfl) | exact .inr (.inr rfl)))) (fa_cons (fe_isy (T.b_isinstance) (fun _ _ e => ⟨(isyT_exc T.isy (isyT_own T.isy e).1).1, (isyT_own T.isy e).2⟩) (fc_own T.gc_CannotBe) (fe_var (i := 0) rfl (by first | exact .inl rfl | exact .inr (.inl rfl) | exact .inr (.inr rfl)))) (fa_cons (fe_isy (T.b_isinstance) (fun _ _ e => ⟨(isyT_exc T.isy (isyT_blt T.isy e).1).1, (isyT_blt T.isy e).2⟩) (fc_ty (T.b_ValueError) (by decide +kernel)) (fe_var (i := 0) rfl (by first | exact .inl rfl | exact .inr (.inl rfl) | exact .inr (.inr rfl)))) fa_nil)))) sc__law_bases.nd rfl (by first | exact .inl rfl | exact .inr rfl)) (fb_cons (fs_asg (i := 1) (fv_add (fe_var (i := 1) rfl (by first | exact .inl rfl | exact .inr (.inl rfl) | exact .inr (.inr rfl))) (fe_lst (fa_cons (fe_isy (T.b_isinstance) (fun _ _ e => ⟨(isyT_exc T.isy (isyT_blt T.isy e).1).1, (isyT_blt T.isy e).2⟩) (fc_ty (T.b_ArithmeticError) (by decide +kernel)) (fe_var (i := 0) rfl (by first | exact .inl rfl | exact .inr (.inl rfl) | exact .inr (.inr rfl)))) (fa_cons (fe_isy (T.b_isinstance) (fun _ _ e => ⟨(isyT_exc T.isy (isyT_blt T.isy e).1).1, (isyT_blt T.isy e).2⟩) (fc_ty (T.b_LookupError) (by decide +kernel)) (fe_var (i := 0) rfl (by first | exact .inl rfl | exact .inr (.inl rfl) | exact .inr (.inr rfl)))) (fa_cons (fe_isy (T.b_isinstance) (fun _ _ e => ⟨(isyT_exc T.isy (isyT_blt T.isy e).1).1, (isyT_blt T.isy e).2⟩) (fc_ty (T.b_TypeError) (by decide +kernel)) (fe_var (i := 0) rfl (by first | exact .inl rfl | exact .inr (.inl rfl) | exact .inr (.inr rfl)))) fa_nil))))) sc__law_bases.nd rfl (by first | exact .inl rfl | exact .inr rfl)) (fb_one (fs_retV (fv_add (fe_var (i := 1) rfl (by first | exact .inl rfl | exact .inr (.inl rfl) | exact .inr (.inr rfl))) (fe_lst (fa_cons (fe_isy (T.b_isinstance) (fun _ _ e => ⟨(isyT_exc T.isy (isyT_blt T.isy e).1).1, (isyT_blt T.isy e).2⟩) (fc_ty (T.b_ZeroDivisionError) (by decide +kernel)) (fe_var (i := 0) rfl (by first | exact .inl rfl | exact .inr (.inl rfl) | exact .inr (.inr rfl)))) (fa_cons (fe_isy (T.b_isinstance) (fun _ _ e => ⟨(isyT_exc T.isy (isyT_blt T.isy e).1).1, (isyT_blt T.isy e).2⟩) (fc_ty (T.b_OverflowError) (by decide +kernel)) (fe_var (i := 0) rfl (by first | exact .inl rfl | exact .inr (.inl rfl) | exact .inr (.inr rfl)))) fa_nil))))))))
theorem TX.f__law_due (T : TX K mg) : FunD K "_law_due" "_law_due" (defArgs (top 21)) (defBody (top 21)) (defScope (top 21)) [] [] (He.ga K "_law_due") (fdOf K (He.ga K "_law_due")) := T.t.t.fund 5 (d := d__law_due) rfl
theorem TX.g__law_due (T : TX K mg) : mg "_law_due" = some (.ref (He.ga K "_law_due")) := T.t.t.glo 5 rfl
theorem TX.k__law_due (T : TX K mg) : PySem.W.keepIn K (.ref (He.ga K "_law_due")) = true := T.f__law_due.kp
theorem TX.bd__law_due (T : TX K mg) : Binds K (fdOf K (He.ga K "_law_due")) ["_law_k"] [] := FunD.bindsN T.f__law_due fun _ _ _ _ _ _ us hl => match us, hl with | [_], _ => rfl
theorem sc__law_due : FnScope ["_law_k"] ["_law_k"] (defScope (top 21)) := ⟨rfl, rfl, rfl, by decide +kernel, rfl, by decide +kernel, by decide +kernel⟩
theorem TX.w__law_due (T : TX K mg) (B : BY P w fileS K mg base) : FnG P w K mg base (L2.CX P w) 1 (He.ga K "_law_due") (fdOf K (He.ga K "_law_due")) ["_law_k"] (spL K ["_law_k"] none PF._law_due_F) :=
  fn_F (N := ["_law_k"]) (k := 0) (b := none) (bd := PF._law_due_b) T.f__law_due sc__law_due fun cdv A outer s H E hr hg tk hp hcd =>
    (fb_one (fs_retV (fv_add (fe_mul (fe_lst (fa_cons (fe_lt (fe_var (i := 0) rfl (by first | exact .inl rfl | exact .inr (.inl rfl) | exact .inr (.inr rfl))) fe_int) (fa_cons (fe_ge (fe_var (i := 0) rfl (by first | exact .inl rfl | exact .inr (.inl rfl) | exact .inr (.inr rfl))) fe_int) fa_nil))) fe_int) (fe_mul (fe_lst (fa_cons fe_bl fa_nil)) fe_int))))
theorem TX.f__law_right (T : TX K mg) : FunD K "_law_right" "_law_right" (defArgs (top 25)) (defBody (top 25)) (defScope (top 25)) [] [] (He.ga K "_law_right") (fdOf K (He.ga K "_law_right")) := T.t.t.fund 6 (d := d__law_right) rfl
theorem TX.g__law_right (T : TX K mg) : mg "_law_right" = some (.ref (He.ga K "_law_right")) := T.t.t.glo 6 rfl
theorem TX.k__law_right (T : TX K mg) : PySem.W.keepIn K (.ref (He.ga K "_law_right")) = true := T.f__law_right.kp
theorem TX.bd__law_right (T : TX K mg) : Binds K (fdOf K (He.ga K "_law_right")) ["_law_thing"] [] := FunD.bindsN T.f__law_right fun _ _ _ _ _ _ us hl => match us, hl with | [_], _ => rfl
theorem sc__law_right : FnScope ["_law_thing", "_law_found", "_law_k", "_law_due_here", "_law_at"] ["_law_thing"] (defScope (top 25)) := ⟨rfl, rfl, rfl, by decide +kernel, rfl, by decide +kernel, by decide +kernel⟩
theorem TX.w__law_right (T : TX K mg) (B : BY P w fileS K mg base) : FnG P w K mg base (L2.CX P w) 4 (He.ga K "_law_right") (fdOf K (He.ga K "_law_right")) ["_law_thing"] (spL K ["_law_thing"] none PF._law_right_37_F) :=
  fn_F (N := ["_law_thing", "_law_found", "_law_k", "_law_due_here", "_law_at"]) (k := 3) (b := none) (bd := PF._law_right_37_b) T.f__law_right sc__law_right fun cdv A outer s H E hr hg tk hp hcd =>
    (fb_cons (fs_for rfl hp (fi_any (fe_of (fv_call (T.w__law_given B) (T.g__law_given) T.k__law_given T.bd__law_given .nil (fun _ => Reps.nil) (hr.mono (by decide)) hg tk rfl (fa_cons (fe_var (i := 0) rfl (by first | exact .inl rfl | exact .inr (.inl rfl) | exact .inr (.inr rfl))) fa_nil)))) (fg_name (i := 1) sc__law_right.nd rfl (by first | exact .inl rfl | exact .inr rfl)) (fb_cons (fs_for rfl hp (fi_rng1 (T.b_range) (fa_cons (fe_len (T.b_len) (fe_var (i := 1) rfl (by first | exact .inl rfl | exact .inr (.inl rfl) | exact .inr (.inr rfl)))) fa_nil)) (fg_name (i := 2) sc__law_right.nd rfl (by first | exact .inl rfl | exact .inr rfl)) (fb_cons (fs_setLc (i := 3) (own := [("_law_at", 4)]) rfl sc__law_right.nd rfl rfl rfl (fi_rng1 (T.b_range) (fa_cons (fe_len (T.b_len) (fe_var (i := 1) rfl (by first | exact .inl rfl | exact .inr (.inl rfl) | exact .inr (.inr rfl)))) fa_nil)) (blk_of rfl) (by decide) (fun s1 H1 C1 cl fp => (fg_name (i := 4) sc__law_right.nd rfl (by first | exact .inl rfl | exact .inr rfl))) (fun s1 H1 C1 cl fp => fts_nil) (fun s1 H1 C1 cl fp => (fe_eq hr.units (fe_var (i := 4) rfl (by first | exact .inl rfl | exact .inr (.inl rfl) | exact .inr (.inr rfl))) (fe_var (i := 2) rfl (by first | exact .inl rfl | exact .inr (.inl rfl) | exact .inr (.inr rfl)))))) (fb_one (fs_if (ft_of (fw_or (ft_ne hr.units (fe_of (fv_call (T.w__law_sorts B) (T.g__law_sorts) T.k__law_sorts T.bd__law_sorts .nil (fun _ => Reps.nil) (hr.mono (by decide)) hg tk rfl (fa_cons (fe_ix (fe_var (i := 1) rfl (by first | exact .inl rfl | exact .inr (.inl rfl) | exact .inr (.inr rfl))) (fe_var (i := 2) rfl (by first | exact .inl rfl | exact .inr (.inl rfl) | exact .inr (.inr rfl)))) fa_nil))) (fe_var (i := 3) rfl (by first | exact .inl rfl | exact .inr (.inl rfl) | exact .inr (.inr rfl)))) (fw_or1 (ft_ne hr.units (fe_of (fv_call (T.w__law_bases B) (T.g__law_bases) T.k__law_bases T.bd__law_bases .nil (fun _ => Reps.nil) (hr.mono (by decide)) hg tk rfl (fa_cons (fe_ix (fe_var (i := 1) rfl (by first | exact .inl rfl | exact .inr (.inl rfl) | exact .inr (.inr rfl))) (fe_var (i := 2) rfl (by first | exact .inl rfl | exact .inr (.inl rfl) | exact .inr (.inr rfl)))) fa_nil))) (fe_of (fv_call (T.w__law_due B) (T.g__law_due) T.k__law_due T.bd__law_due .nil (fun _ => Reps.nil) (hr.mono (by decide)) hg tk rfl (fa_cons (fe_var (i := 2) rfl (by first | exact .inl rfl | exact .inr (.inl rfl) | exact .inr (.inr rfl))) fa_nil))))))) (fb_one (fs_ret fe_bl)) fb_nil)))) (fb_one (fs_if (ft_not (ft_val (fe_of (fv_call (T.w__law_kept_right B) (T.g__law_kept_right) T.k__law_kept_right T.bd__law_kept_right .nil (fun _ => Reps.nil) (hr.mono (by decide)) hg tk rfl (fa_cons (fe_var (i := 1) rfl (by first | exact .inl rfl | exact .inr (.inl rfl) | exact .inr (.inr rfl))) (fa_cons (fe_var (i := 0) rfl (by first | exact .inl rfl | exact .inr (.inl rfl) | exact .inr (.inr rfl))) fa_nil)))))) (fb_one (fs_ret fe_bl)) fb_nil)))) (fb_one (fs_retV (fv_call (T.w__law_raised_right B) (T.g__law_raised_right) T.k__law_raised_right T.bd__law_raised_right .nil (fun _ => Reps.nil) (hr.mono (by decide)) hg tk rfl (fa_cons (fe_var (i := 0) rfl (by first | exact .inl rfl | exact .inr (.inl rfl) | exact .inr (.inr rfl))) fa_nil)))))
theorem TX.f_law (T : TX K mg) : FunD K "law" "law" (defArgs (top 26)) (defBody (top 26)) (defScope (top 26)) [] [] (He.ga K "law") (fdOf K (He.ga K "law")) := T.t.t.fund 7 (d := d_law) rfl
theorem TX.g_law (T : TX K mg) : mg "law" = some (.ref (He.ga K "law")) := T.t.t.glo 7 rfl
theorem sc_law : FnScope ["_law_cells", "_law_things", "_law_cell", "_law_thing"] ["_law_cells"] (defScope (top 26)) := ⟨rfl, rfl, rfl, by decide +kernel, rfl, by decide +kernel, by decide +kernel⟩
theorem TX.w_law (T : TX K mg) (B : BY P w fileS K mg base) : FnG P w K mg base (L2.CX P w) 5 (He.ga K "law") (fdOf K (He.ga K "law")) ["_law_cells"] (spL K ["_law_cells"] none PF.law_38_F) :=
  fn_F (N := ["_law_cells", "_law_things", "_law_cell", "_law_thing"]) (k := 4) (b := none) (bd := PF.law_38_b) T.f_law sc_law fun cdv A outer s H E hr hg tk hp hcd =>
    (fb_cons (fs_if (ft_ne hr.units (fe_lst (fa_cons (fe_glob (T.c_MOST_DEEDS)) (fa_cons (fe_glob (T.c_MOST_ANSWERS)) (fa_cons (fe_glob (T.c_MOST_LAYERS)) fa_nil)))) (fe_lst (fa_cons fe_int (fa_cons fe_int (fa_cons fe_int fa_nil))))) (fb_one (fs_ret fe_bl)) fb_nil) (fb_cons (fs_asg (i := 1) (fv_add (fe_lst (fa_cons fe_non (fa_cons fe_str (fa_cons (fe_tup (fa_cons fe_int (fa_cons fe_str fa_nil))) (fa_cons fe_bl (fa_cons (fe_neg fe_int) fa_nil)))))) (fe_of (fv_lc (own := [("_law_cell", 2)]) rfl sc_law.nd (fi_any (fe_sl (fe_var (i := 0) rfl (by first | exact .inl rfl | exact .inr (.inl rfl) | exact .inr (.inr rfl))) fo_no (fo_some fe_int))) (blk_of rfl) (by decide) (fun s1 H1 C1 cl fp => (fg_name (i := 2) sc_law.nd rfl (by first | exact .inl rfl | exact .inr rfl))) (fun s1 H1 C1 cl fp => fts_nil) (fun s1 H1 C1 cl fp => (fe_mod (fe_int1 (T.b_int) (fe_var (i := 2) rfl (by first | exact .inl rfl | exact .inr (.inl rfl) | exact .inr (.inr rfl)))) (fe_pow fe_int fe_int)))))) sc_law.nd rfl (by first | exact .inl rfl | exact .inr rfl)) (fb_one (fs_ret (fe_eq hr.units (fe_of (fv_lc (own := [("_law_thing", 3)]) rfl sc_law.nd (fi_any (fe_var (i := 1) rfl (by first | exact .inl rfl | exact .inr (.inl rfl) | exact .inr (.inr rfl)))) (blk_of rfl) (by decide) (fun s1 H1 C1 cl fp => (fg_name (i := 3) sc_law.nd rfl (by first | exact .inl rfl | exact .inr rfl))) (fun s1 H1 C1 cl fp => (fts_one (ft_not (ft_val (fe_of (fv_call (T.w__law_right B) (T.g__law_right) T.k__law_right T.bd__law_right .nil (fun _ => Reps.nil) (hr.mono (by decide)) hg takes_noW rfl (fa_cons (fe_var (i := 3) rfl (by first | exact .inl rfl | exact .inr (.inl rfl) | exact .inr (.inr rfl))) fa_nil))))))) (fun s1 H1 C1 cl fp => (fe_var (i := 3) rfl (by first | exact .inl rfl | exact .inr (.inl rfl) | exact .inr (.inr rfl)))))) (fe_lst fa_nil))))))
end
end K01

set_option Elab.async false
set_option linter.all false
set_option maxRecDepth 100000
set_option maxHeartbeats 0
namespace K01
open PySem PySem.Spec PyProof.Rows L2 FL
def loose_0 : List PySem.Str := ["NotRight", "InvalidRow", "InvalidText", "InvalidBox", "InvalidName", "InvalidStep", "InvalidPlace", "InvalidClaim", "NotABook", "InvalidAnswers", "InvalidSteps", "CannotBe", "NothingToUndo", "Broken", "MOST_DEEDS", "MOST_ANSWERS", "MOST_LAYERS", "_law_sorts", "_law_bases", "_law_due", "_law_given", "_law_kept_right", "_law_raised_right", "_law_right"]
def loose : List PySem.Str := loose_0
abbrev R : PySem.W.OpenRow := PySem.W.OpenLaw.row PySem.Challenge.rw_boxthieves_k01_limits_and_errors
abbrev hk : PySem.W.Hook := hookT 5 fas fns ex dxs es tl
def ob (s : PySem.W.SharedT) : AlT := obsTG 5 fas fns ex dxs es tl (HandSHeadRun.getT s)
theorem ob_eq (s : PySem.W.SharedT) : ob s = hk.obs s.abs := obsTG_eq (HandSHeadRun.getT_eq s)
theorem run (w : World) : HandSHeadRun.RunEq R (PySem.W.view R.prog [26]) hk ob 12000 loose w := by
  intro os
  kernel_rfl
end K01

set_option Elab.async false
set_option linter.all false
set_option maxRecDepth 100000
set_option maxHeartbeats 4000000
namespace PL
open PySem PySem.Spec PyProof.Rows L2 FL PF
def Sm (d : D) (k n : Nat) : Prop := ∃ p : PyData, d.py = some p ∧ p.canLay0 = true ∧ p.showable = true ∧ p.hasDict = false ∧ p.depth ≤ k ∧ p.shown.length ≤ n
theorem Sm.mono {d : D} {k n k' n' : Nat} (h : Sm d k n) (h1 : k ≤ k') (h2 : n ≤ n') : Sm d k' n' := by
  obtain ⟨p, a, b, c, e, f, g⟩ := h
  exact ⟨p, a, b, c, e, by omega, by omega⟩
theorem Sm.non : Sm .non 0 4 := ⟨.none, rfl, rfl, rfl, rfl, Nat.le_refl _, by decide +kernel⟩
theorem Sm.bl {b : Bool} : Sm (.bl b) 0 5 := ⟨.bool b, rfl, rfl, rfl, rfl, Nat.le_refl _, by cases b <;> decide +kernel⟩
theorem Sm.str {x : Str} {m : Nat} (h : PyData.strOk x = true) (hl : x.length ≤ m) : Sm (.str x) 0 (10 * m + 2) := by
  refine ⟨.str x, rfl, h, rfl, rfl, Nat.le_refl _, ?_⟩
  have h2 : ∀ c ∈ x.cps.toList, c < 16 ^ 8 := fun c hc => by
    have := Array.all_eq_true_iff_forall_mem.mp (show x.cps.all (· < 0x110000) = true from h) c (Array.mem_toList_iff.mp hc)
    have := of_decide_eq_true this
    omega
  have := StrLaws.reprText_len x h2
  show (reprText x).length ≤ _
  omega
theorem str_len_app (x y : Str) : (x ++ y).length = x.length + y.length := by
  show (x.cps ++ y.cps).size = _
  rw [Array.size_append]; rfl
theorem shown_all {k n : Nat} : ∀ {ds : List D}, (∀ d ∈ ds, Sm d k n) → ∃ ps, D.pys ds = some ps ∧ PyData.canLayAll0 ps = true ∧ PyData.showableAll ps = true ∧ PyData.hasDictAll ps = false ∧ PyData.depthAll ps ≤ k ∧ (∀ t ∈ PyData.shownAll ps, t.length ≤ n) ∧ (PyData.shownAll ps).length = ds.length
  | [], _ => ⟨[], rfl, rfl, rfl, rfl, Nat.zero_le _, (fun t h => by simp [PyData.shownAll] at h), rfl⟩
  | d :: ds, h => by
    obtain ⟨p, a, b, c, e, f, g⟩ := h d List.mem_cons_self
    obtain ⟨ps, a', b', c', e', f', g', l'⟩ := shown_all (ds := ds) fun d hd => h d (List.mem_cons_of_mem _ hd)
    refine ⟨p :: ps, ?_, ?_, ?_, ?_, ?_, ?_, ?_⟩
    · show (D.py d).bind _ = _
      rw [a]
      show (D.pys ds).map _ = _
      rw [a']; rfl
    · simp only [PyData.canLayAll0, b, b', Bool.and_self]
    · simp only [PyData.showableAll, c, c', Bool.and_self]
    · simp only [PyData.hasDictAll, e, e', Bool.or_self]
    · simp only [PyData.depthAll]; omega
    · intro t ht
      simp only [PyData.shownAll, List.mem_cons] at ht
      rcases ht with rfl | ht
      · exact g
      · exact g' t ht
    · simp only [PyData.shownAll, List.length_cons, l']
theorem join_le (sep : Str) {n : Nat} : ∀ {ts : List Str}, (∀ t ∈ ts, t.length ≤ n) → (Str.join sep ts).length ≤ ts.length * (n + sep.length)
  | [], _ => Nat.zero_le _
  | [x], h => by
    have := h x List.mem_cons_self
    show x.length ≤ _
    simp only [List.length_cons, List.length_nil]; omega
  | x :: y :: r, h => by
    have h1 := h x List.mem_cons_self
    have h2 := join_le sep (ts := y :: r) fun t ht => h t (List.mem_cons_of_mem _ ht)
    show (x ++ sep ++ Str.join sep (y :: r)).length ≤ _
    rw [str_len_app, str_len_app, List.length_cons, Nat.succ_mul]
    omega
theorem textFrom_le {n : Nat} : ∀ (ts : List Str) (k : Nat) (acc : Str), (∀ t ∈ ts, t.length ≤ n) → (textFrom k acc ts).length ≤ acc.length + ts.length * (n + 2)
  | [], _, _, _ => by show _ ≤ _; simp [textFrom]
  | t :: r, k, acc, h => by
    have h1 := h t List.mem_cons_self
    have h2 := textFrom_le r (k + 1) (acc ++ (if k > 0 then ", " else "" : String) ++ t) fun t ht => h t (List.mem_cons_of_mem _ ht)
    rw [str_len_app, str_len_app] at h2
    have h3 : (Str.ofString (if k > 0 then ", " else "")).length ≤ 2 := by split <;> decide +kernel
    show (textFrom (k + 1) (acc ++ (if k > 0 then ", " else "" : String) ++ t) r).length ≤ _
    rw [List.length_cons, Nat.succ_mul]
    omega
theorem Sm.tup {ds : List D} {k n : Nat} (h : ∀ d ∈ ds, Sm d k n) : Sm (.tup ds) (k + 1) (ds.length * (n + 2) + 3) := by
  obtain ⟨ps, a, b, c, e, f, g, l⟩ := shown_all h
  refine ⟨.tuple ps, ?_, b, c, e, ?_, ?_⟩
  · show (D.pys ds).map _ = _
    rw [a]; rfl
  · show PyData.depthAll ps + 1 ≤ _; omega
  · show (tupleText (PyData.shownAll ps)).length ≤ _
    unfold tupleText
    rw [str_len_app, str_len_app]
    have h1 := join_le (Str.ofString ", ") g
    have h2 : (Str.ofString ", ").length = 2 := by decide +kernel
    have h3 : (Str.ofString "(").length = 1 := by decide +kernel
    have h4 : (Str.ofString (if (PyData.shownAll ps).length == 1 then ",)" else ")")).length ≤ 2 := by split <;> decide +kernel
    rw [h2, l] at h1
    omega
theorem Sm.lst {ds : List D} {k n : Nat} (h : ∀ d ∈ ds, Sm d k n) : Sm (.lst ds) (k + 1) (ds.length * (n + 2) + 3) := by
  obtain ⟨ps, a, b, c, e, f, g, l⟩ := shown_all h
  refine ⟨.list ps, ?_, b, c, e, ?_, ?_⟩
  · show (D.pys ds).map _ = _
    rw [a]; rfl
  · show PyData.depthAll ps + 1 ≤ _; omega
  · show (listText (PyData.shownAll ps)).length ≤ _
    unfold listText
    rw [str_len_app]
    have h1 := textFrom_le (PyData.shownAll ps) 0 (Str.ofString "[") g
    have h3 : (Str.ofString "[").length = 1 := by decide +kernel
    have h4 : (Str.ofString "]").length = 1 := by decide +kernel
    rw [l] at h1
    omega
theorem Sm.shows {d : D} {k n : Nat} (h : Sm d k n) (hk : k ≤ 60) (hn : n ≤ 16777216) : ∃ z : Str, reprD d = some (.str z) := by
  obtain ⟨p, a, b, c, e, f, g⟩ := h
  refine ⟨p.shown, ?_⟩
  unfold reprD
  rw [a]
  show (reprP p).map D.str = _
  unfold reprP
  rw [if_pos ⟨c, e, by omega, by show _ ≤ 2 ^ 24; omega⟩]
  rfl
end PL

set_option Elab.async false
set_option linter.all false
set_option maxRecDepth 100000
set_option maxHeartbeats 4000000
namespace PL
open PySem PySem.Spec PyProof.Rows L2 FL PF
def IsName (x : Str) : Prop := 0 < x.length ∧ x.length < 9 ∧ ∀ c ∈ x.cps.toList, 97 ≤ c ∧ c ≤ 122
theorem IsName.ok {x : Str} (h : IsName x) : PyData.strOk x = true := by
  show x.cps.all (· < 0x110000) = true
  rw [Array.all_eq_true_iff_forall_mem]
  intro c hc
  have := h.2.2 c (Array.mem_toList_iff.mpr hc)
  exact decide_eq_true (by omega)
def nameB (x : Str) : Bool := decide (0 < x.length ∧ x.length < 9) && x.cps.toList.all fun c => decide (97 ≤ c ∧ c ≤ 122)
theorem nameB_iff {x : Str} : nameB x = true ↔ IsName x := by
  unfold nameB IsName
  simp only [Bool.and_eq_true, decide_eq_true_eq, List.all_eq_true, and_assoc]
end PL

set_option Elab.async false
set_option linter.all false
set_option maxRecDepth 100000
set_option maxHeartbeats 4000000
namespace PL
open PySem PySem.Spec PyProof.Rows L2 FL PF
abbrev Box := List (Bool × Str)
def kd (k : Bool) : Str := if k then "lock" else "tag"
def lay (p : Bool × Str) : D := .tup [.str (kd p.1), .str p.2]
def bx (b : Box) : List D := b.map lay
def rs : Option Box → D
  | none => .non
  | some b => .tup (bx b)
def top1 (k : Bool) (n : Str) : Box → Option Box
  | (j, o) :: r => if j = k ∧ o = n then some r else none
  | [] => none
def stp (i : Fin 8) (me you : Str) (b : Box) : Option Box := match i with
  | 0 => some ((true, me) :: b) | 1 => some ((true, you) :: b) | 2 => top1 true me b | 3 => some ((false, me) :: b) | 4 => some ((false, you) :: b) | 5 => top1 false me b | 6 => top1 false you b
  | 7 => (match b with
    | (false, _) :: r => some r
    | _ => none)
theorem un2 : Str.ofString "un" ++ Str.ofString "tag" = Str.ofString "untag" := by decide +kernel
end PL

set_option Elab.async false
set_option linter.all false
set_option maxRecDepth 100000
set_option maxHeartbeats 4000000
namespace PL
open PySem PySem.Spec PyProof.Rows L2 FL PF
end PL

set_option Elab.async false
set_option linter.all false
set_option maxRecDepth 100000
set_option maxHeartbeats 4000000
namespace PL
open PySem PySem.Spec PyProof.Rows L2 FL PF
def BoxOk (b : Box) : Prop := ∀ p ∈ b, PyData.strOk p.2 = true
theorem stp_all {P : Str → Prop} {i : Fin 8} {me you : Str} {b b' : Box} (h : stp i me you b = some b') (hm : P me) (hy : P you) (hb : ∀ p ∈ b, P p.2) : (∀ p ∈ b', P p.2) ∧ b'.length ≤ b.length + 1 := by
  have push : ∀ k o, P o → ∀ p ∈ ((k, o) :: b : Box), P p.2 := fun k o ho p hp => by
    rcases List.mem_cons.mp hp with rfl | hp
    · exact ho
    · exact hb p hp
  have tail : ∀ k o, top1 k o b = some b' → (∀ p ∈ b', P p.2) ∧ b'.length ≤ b.length + 1 := fun k o e => by
    cases b with
    | nil => cases e
    | cons p r =>
      obtain ⟨j, x⟩ := p
      by_cases hc : j = k ∧ x = o
      · rw [show top1 k o ((j, x) :: r) = some r from if_pos hc] at e
        cases e; exact ⟨fun p hp => hb p (List.mem_cons_of_mem _ hp), by simp; omega⟩
      · rw [show top1 k o ((j, x) :: r) = none from if_neg hc] at e
        cases e
  match i with
  | 0 => cases h; exact ⟨push _ _ hm, Nat.le_refl _⟩
  | 1 => cases h; exact ⟨push _ _ hy, Nat.le_refl _⟩
  | 2 => exact tail _ _ h
  | 3 => cases h; exact ⟨push _ _ hm, Nat.le_refl _⟩
  | 4 => cases h; exact ⟨push _ _ hy, Nat.le_refl _⟩
  | 5 => exact tail _ _ h
  | 6 => exact tail _ _ h
  | 7 =>
    cases b with
    | nil => cases h
    | cons p r =>
      obtain ⟨j, x⟩ := p
      cases j with
      | true => cases h
      | false => cases h; exact ⟨fun p hp => hb p (List.mem_cons_of_mem _ hp), by simp; omega⟩
def runD : List (Fin 8) → Str → Str → Box → Option Box
  | [], _, _, b => some b
  | i :: is, me, you, b => (stp i me you b).bind (runD is me you)
theorem runD_all {P : Str → Prop} {me you : Str} (hm : P me) (hy : P you) : ∀ {is : List (Fin 8)} {b b' : Box}, runD is me you b = some b' → (∀ p ∈ b, P p.2) → (∀ p ∈ b', P p.2) ∧ b'.length ≤ b.length + is.length
  | [], b, b', h, hb => by cases h; exact ⟨hb, by simp⟩
  | i :: is, b, b', h, hb => by
    obtain ⟨b1, h1, h2⟩ := Option.bind_eq_some_iff.mp (show (stp i me you b).bind (runD is me you) = some b' from h)
    obtain ⟨k1, k2⟩ := stp_all h1 hm hy hb
    obtain ⟨k3, k4⟩ := runD_all hm hy h2 k1
    exact ⟨k3, by rw [List.length_cons]; omega⟩
end PL

set_option Elab.async false
set_option linter.all false
set_option maxRecDepth 100000
set_option maxHeartbeats 4000000
namespace PL
open PySem PySem.Spec PyProof.Rows L2 FL PF
def IsBox (b : Box) : Prop := b.length ≤ 12 ∧ ∀ p ∈ b, IsName p.2
theorem IsBox.ok {b : Box} (h : IsBox b) : BoxOk b := fun p hp => (h.2 p hp).ok
end PL

set_option Elab.async false
set_option linter.all false
set_option maxRecDepth 100000
set_option maxHeartbeats 4000000
namespace PL
open PySem PySem.Spec PyProof.Rows L2 FL PF
instance (x : Str) : Decidable (IsName x) := decidable_of_iff _ nameB_iff
end PL

set_option Elab.async false
set_option linter.all false
set_option maxRecDepth 100000
set_option maxHeartbeats 4000000
namespace PL
open PySem PySem.Spec PyProof.Rows L2 FL PF
theorem comp_at {vs : List Nat} {it : IF} {b : BF} {tt : TF} {elt : EF} {Γ Γ1 : En} {ds : List D} {r : O VV} (h : it Γ = .ok ds Γ1) (hb : noBor Γ1 vs = true) (hc : cmpL vs b tt elt ds [] Γ1 = r) : compV vs it b tt elt Γ = r := by
  unfold compV
  rw [h]
  show (if noBor Γ1 vs = true then _ else _) = r
  rw [if_pos hb]; exact hc
end PL

set_option Elab.async false
set_option linter.all false
set_option maxRecDepth 100000
set_option maxHeartbeats 4000000
namespace PL
open PySem PySem.Spec PyProof.Rows L2 FL PF
end PL

set_option Elab.async false
set_option linter.all false
set_option maxRecDepth 100000
set_option maxHeartbeats 4000000
namespace PL
open PySem PySem.Spec PyProof.Rows L2 FL PF
end PL

set_option Elab.async false
set_option linter.all false
set_option maxRecDepth 100000
set_option maxHeartbeats 4000000
namespace PL
open PySem PySem.Spec PyProof.Rows L2 FL PF
end PL

set_option Elab.async false
set_option linter.all false
set_option maxRecDepth 100000
set_option maxHeartbeats 4000000
namespace PL
open PySem PySem.Spec PyProof.Rows L2 FL PF
end PL

set_option Elab.async false
set_option linter.all false
set_option maxRecDepth 100000
set_option maxHeartbeats 4000000
namespace PL
open PySem PySem.Spec PyProof.Rows L2 FL PF
end PL

set_option Elab.async false
set_option linter.all false
set_option maxRecDepth 100000
set_option maxHeartbeats 4000000
namespace PL
open PySem PySem.Spec PyProof.Rows L2 FL PF
theorem cmp_flt {vs : List Nat} {b : BF} {tt : TF} {elt : EF} {P : D → Bool} {g : D → D} {Γ : En} (hw : wipeΓ Γ vs = Γ) : ∀ {ds : List D} (acc : List D), acc.length + ds.length ≤ 16777216 →
    (∀ d ∈ ds, ∃ Γ1, b d Γ = some Γ1 ∧ tt Γ1 = .ok (P d) Γ1 ∧ elt Γ1 = .ok (.d (g d)) Γ1 ∧ wipeΓ Γ1 vs = Γ) → cmpL vs b tt elt ds acc Γ = .ok (.n (.l (acc ++ (ds.filter P).map g))) Γ
  | [], acc, _, _ => by simp [cmpL]
  | d :: ds, acc, hl, hs => by
    obtain ⟨Γ1, e1, e2, e3, e4⟩ := hs d List.mem_cons_self
    rw [List.length_cons] at hl
    have hz : acc.length < sizeLine := by show _ < 2 ^ 24; omega
    cases hp : P d with
    | false =>
      rw [hp] at e2
      have ih := cmp_flt (ds := ds) (P := P) (g := g) (elt := elt) (tt := tt) (b := b) hw acc (by omega) fun d hd => hs d (List.mem_cons_of_mem _ hd)
      rw [List.filter_cons_of_neg (by rw [hp]; decide), ← ih]
      simp only [cmpL, hw, e1, e2, e4]
    | true =>
      rw [hp] at e2
      have ih := cmp_flt (ds := ds) (P := P) (g := g) (elt := elt) (tt := tt) (b := b) hw (acc ++ [g d]) (by rw [List.length_append, List.length_singleton]; omega) fun d hd => hs d (List.mem_cons_of_mem _ hd)
      rw [List.filter_cons_of_pos hp, List.map_cons, List.append_cons, ← ih]
      simp only [cmpL, hw, e1, e2, e3, e4, Ev.frzd, if_pos hz]
theorem loop_cons {b : BF} {body : SF} {d : D} {ds : List D} {Γ Γ1 Γ2 : En} (h1 : b d Γ = some Γ1) (h2 : body Γ1 = .ok .nx Γ2) : loopS b body (d :: ds) Γ = loopS b body ds Γ2 := by
  rw [loopS, h1]
  simp only [h2]
theorem for_at {it : IF} {b : BF} {body : SF} {Γ Γ1 : En} {ds : List D} {r : O Fl} (h : it Γ = .ok ds Γ1) (hl : loopS b body ds Γ1 = r) : forS it b body Γ = r := by
  unfold forS
  rw [h, Ev.bindO]; exact hl
def NB (r : En) : Prop := ∀ s ∈ r, s.isB = false
theorem NB.nil : NB [] := fun _ h => by cases h
theorem NB.cons {s : Sl} {r : En} (h : s.isB = false) (t : NB r) : NB (s :: r) := fun x hx => by
  rcases List.mem_cons.mp hx with rfl | hx
  · exact h
  · exact t x hx
theorem NB.rep (n : Nat) : NB (List.replicate n .no) := fun s h => by rw [List.eq_of_mem_replicate h]; rfl
end PL

set_option Elab.async false
set_option linter.all false
set_option maxRecDepth 100000
set_option maxHeartbeats 4000000
namespace PL
open PySem PySem.Spec PyProof.Rows L2 FL PF
end PL

set_option Elab.async false
set_option linter.all false
set_option maxRecDepth 100000
set_option maxHeartbeats 4000000
namespace PL
open PySem PySem.Spec PyProof.Rows L2 FL PF
theorem IsBox.names {b : Box} (h : IsBox b) : ∀ p ∈ b, IsName p.2 := h.2
end PL

set_option Elab.async false
set_option linter.all false
set_option maxRecDepth 100000
set_option maxHeartbeats 4000000
namespace PL
open PySem PySem.Spec PyProof.Rows L2 FL PF
theorem IsBox.run {is : List (Fin 8)} {me you : Str} {b c : Box} (hb : IsBox b) (hd : IsName me) (ha : IsName you) (h : runD is me you b = some c) (hl : b.length + is.length ≤ 12) : IsBox c := by
  obtain ⟨h1, h2⟩ := runD_all (P := IsName) hd ha h hb.2
  exact ⟨by omega, h1⟩
end PL

set_option Elab.async false
set_option linter.all false
set_option maxRecDepth 100000
set_option maxHeartbeats 4000000
namespace PL
open PySem PySem.Spec PyProof.Rows L2 FL PF
end PL

set_option Elab.async false
set_option linter.all false
set_option maxRecDepth 100000
set_option maxHeartbeats 4000000
namespace PL
open PySem PySem.Spec PyProof.Rows L2 FL PF
def sm (xs : List Str) : List D := xs.map D.str
def at_ (ns : List Str) (x : Str) : Nat := (ns.findIdx? (· == x)).getD 0
end PL

set_option Elab.async false
set_option linter.all false
set_option maxRecDepth 100000
set_option maxHeartbeats 4000000
namespace PL
open PySem PySem.Spec PyProof.Rows L2 FL PF
end PL

set_option Elab.async false
set_option linter.all false
set_option maxRecDepth 100000
set_option maxHeartbeats 4000000
namespace PL
open PySem PySem.Spec PyProof.Rows L2 FL PF
theorem cmp_gen {α : Type} {vs : List Nat} {b : BF} {tt : TF} {elt : EF} {a c : α → D} {P : α → Bool} {Γ : En} (hw : wipeΓ Γ vs = Γ) : ∀ (xs : List α) (acc : List D), acc.length + xs.length ≤ 16777216 →
    (∀ x ∈ xs, ∃ Γ1, b (a x) Γ = some Γ1 ∧ tt Γ1 = .ok (P x) Γ1 ∧ elt Γ1 = .ok (.d (c x)) Γ1 ∧ wipeΓ Γ1 vs = Γ) → cmpL vs b tt elt (xs.map a) acc Γ = .ok (.n (.l (acc ++ (xs.filter P).map c))) Γ
  | [], acc, _, _ => by simp [cmpL]
  | d :: ds, acc, hl, hs => by
    obtain ⟨Γ1, e1, e2, e3, e4⟩ := hs d List.mem_cons_self
    rw [List.length_cons] at hl
    rw [List.map_cons]
    have hz : acc.length < sizeLine := by show _ < 2 ^ 24; omega
    cases hp : P d with
    | false =>
      rw [hp] at e2
      have ih := cmp_gen (a := a) (c := c) (P := P) (elt := elt) (tt := tt) (b := b) hw ds acc (by omega) fun d hd => hs d (List.mem_cons_of_mem _ hd)
      rw [List.filter_cons_of_neg (by rw [hp]; decide), ← ih]
      simp only [cmpL, hw, e1, e2, e4]
    | true =>
      rw [hp] at e2
      have ih := cmp_gen (a := a) (c := c) (P := P) (elt := elt) (tt := tt) (b := b) hw ds (acc ++ [c d]) (by rw [List.length_append, List.length_singleton]; omega) fun d hd => hs d (List.mem_cons_of_mem _ hd)
      rw [List.filter_cons_of_pos hp, List.map_cons, List.append_cons, ← ih]
      simp only [cmpL, hw, e1, e2, e3, e4, Ev.frzd, if_pos hz]
theorem cmp_maps {α : Type} {vs : List Nat} {b : BF} {elt : EF} {a c : α → D} {Γ : En} (hw : wipeΓ Γ vs = Γ) {xs : List α} (hl : xs.length ≤ 16777216)
    (hs : ∀ x ∈ xs, ∃ Γ1, b (a x) Γ = some Γ1 ∧ elt Γ1 = .ok (.d (c x)) Γ1 ∧ wipeΓ Γ1 vs = Γ) : cmpL vs b trueT elt (xs.map a) [] Γ = .ok (.n (.l (xs.map c))) Γ := by
  have := cmp_gen (tt := trueT) (P := fun _ : α => true) (a := a) (c := c) (elt := elt) (b := b) hw xs [] (by simpa using hl) fun x hx => by
    obtain ⟨Γ1, e1, e2, e3⟩ := hs x hx
    exact ⟨Γ1, e1, rfl, e2, e3⟩
  rw [this, List.nil_append, List.filter_eq_self.mpr (fun _ _ => rfl)]
end PL

set_option Elab.async false
set_option linter.all false
set_option maxRecDepth 100000
set_option maxHeartbeats 4000000
namespace PL
open PySem PySem.Spec PyProof.Rows L2 FL PF
theorem eq_self_D {d : D} {k n : Nat} (h : Sm d k n) (hk : k ≤ 60) : eqB d d = some true := by
  obtain ⟨p, h1, h2, h3, h4, h5, h6⟩ := h
  have hs : SeqAt.shaped p = true := Bool.and_eq_true_iff.mpr ⟨h2, decide_eq_true (by omega)⟩
  have hP : eqP d d = some true := by
    unfold eqP
    rw [h1]
    simp only [hs, Bool.and_self, if_true, SeqAt.eqv_refl p h2]
  unfold eqB
  split
  · simp
  · exact hP
end PL

set_option Elab.async false
set_option linter.all false
set_option maxRecDepth 100000
set_option maxHeartbeats 4000000
namespace PL
open PySem PySem.Spec PyProof.Rows L2 FL PF
theorem Sm.int {m : Int} (h0 : 0 ≤ m) (h : m < 10 ^ 12) : Sm (.int m) 0 12 := by
  refine ⟨.int m, rfl, rfl, ?_, rfl, Nat.le_refl _, ?_⟩
  · show decide (m.natAbs.log2 < 1920) = true
    refine decide_eq_true ?_
    have h2 : m.natAbs < 2 ^ 40 := by
      have : (10 : Int) ^ 12 = 1000000000000 := by decide
      rw [this] at h
      show m.natAbs < 1099511627776
      omega
    by_cases hz : m.natAbs = 0
    · rw [hz]; decide
    · exact Nat.lt_of_lt_of_le ((Nat.log2_lt hz).mpr h2) (by decide)
  · exact toString_length_le h0 (by decide) h
structure Shw (x : D) : Prop where
  one : ∃ z : Str, reprD x = some (.str z) ∧ PyData.strOk z = true ∧ z.length ≤ 8140952
  ten : ∃ z : Str, reprD (.lst (List.replicate 10 x)) = some (.str z)
  two : ∃ z : Str, reprD (.lst [x, .int 7]) = some (.str z)
theorem Sm.shown {d : D} {k n : Nat} (h : Sm d k n) (hk : k ≤ 60) (hn : n ≤ 16777216) : ∃ z : Str, reprD d = some (.str z) := by
  obtain ⟨p, a, b, c, e, f, g⟩ := h
  refine ⟨p.shown, ?_⟩
  unfold reprD
  rw [a]
  show (reprP p).map D.str = _
  unfold reprP
  rw [if_pos ⟨c, e, by omega, by show _ ≤ 2 ^ 24; omega⟩]
  rfl
theorem Sm.shw {x : D} {k n : Nat} (h : Sm x k n) (hk : k ≤ 10) (hn : n ≤ 100) (one : ∃ z : Str, reprD x = some (.str z) ∧ PyData.strOk z = true ∧ z.length ≤ 8140952) : Shw x := by
  have h7 : Sm (.int 7) 0 12 := Sm.int (by decide) (by decide)
  have m1 : Sm x 10 100 := h.mono hk hn
  have m2 : Sm (.int 7) 10 100 := h7.mono (by decide) (by decide)
  refine ⟨one, ?_, ?_⟩
  · exact (Sm.lst (ds := List.replicate 10 x) (k := 10) (n := 100) fun d hd => by rw [(List.mem_replicate.mp hd).2]; exact m1).shown (by decide) (by simp)
  · exact (Sm.lst (ds := [x, .int 7]) (k := 10) (n := 100) fun d hd => by
      simp only [List.mem_cons, List.not_mem_nil, or_false] at hd
      rcases hd with rfl | rfl
      · exact m1
      · exact m2).shown (by decide) (by simp)
theorem ofs_ok (s : String) : PyData.strOk (Str.ofString s) = true := by
  rw [Str.ofString_eq_toList]
  show ((s.toList.map Char.toNat).toArray.all (· < 0x110000)) = true
  rw [List.all_toArray, List.all_eq_true]
  intro c hc
  obtain ⟨ch, _, rfl⟩ := List.mem_map.mp hc
  refine decide_eq_true ?_
  have := ch.valid
  show ch.val.toNat < 1114112
  rcases this with h | ⟨_, h⟩
  · exact Nat.lt_trans h (by decide)
  · exact h
theorem shw_int {m : Int} (h0 : 0 ≤ m) (h : m < 10 ^ 12) : Shw (.int m) := by
  refine (Sm.int h0 h).shw (by decide) (by decide) ?_
  obtain ⟨p, a, b, c, e, f, g⟩ := Sm.int h0 h
  cases a
  refine ⟨Str.ofString (toString m), ?_, ofs_ok _, Nat.le_trans g (by decide)⟩
  show (reprP (.int m)).map D.str = _
  unfold reprP
  rw [if_pos ⟨c, e, by omega, Nat.le_trans g (by decide)⟩]; rfl
theorem shw_five : ∀ x ∈ ([.non, .str "ann", .tup [.int 1, .str "x"], .bl true, .int (-3)] : List D), Shw x := by
  intro x hx
  simp only [List.mem_cons, List.not_mem_nil, or_false] at hx
  have s1 : ∀ t : Str, PyData.strOk t = true → t.length ≤ 3 → Sm (.str t) 0 32 := fun t h1 h2 => Sm.str h1 h2
  rcases hx with rfl | rfl | rfl | rfl | rfl
  · exact Sm.non.shw (by decide) (by decide) ⟨"None", by kernel_rfl, by decide +kernel, by decide +kernel⟩
  · exact (s1 "ann" (by decide +kernel) (by decide +kernel)).shw (by decide) (by decide) ⟨"'ann'", by kernel_rfl, by decide +kernel, by decide +kernel⟩
  · exact (Sm.tup (ds := [.int 1, .str "x"]) (k := 0) (n := 32) fun d hd => by
      simp only [List.mem_cons, List.not_mem_nil, or_false] at hd
      rcases hd with rfl | rfl
      · exact (Sm.int (by decide) (by decide)).mono (by decide) (by decide)
      · exact s1 "x" (by decide +kernel) (by decide +kernel)).shw (by decide) (by decide) ⟨"(1, 'x')", by kernel_rfl, by decide +kernel, by decide +kernel⟩
  · exact Sm.bl.shw (by decide) (by decide) ⟨"True", by kernel_rfl, by decide +kernel, by decide +kernel⟩
  · exact Sm.shw (k := 0) (n := 12) ⟨.int (-3), rfl, rfl, by decide +kernel, rfl, Nat.le_refl _, by decide +kernel⟩ (by decide) (by decide) ⟨"-3", by kernel_rfl, by decide +kernel, by decide +kernel⟩
def errs (x : D) : List D := [.err "InvalidRow" ["given"] [x], .err "InvalidText" ["given"] [x], .err "InvalidBox" ["given"] [x], .err "InvalidName" ["given"] [x], .err "InvalidStep" ["given"] [x], .err "InvalidPlace" ["given"] [x], .err "InvalidClaim" ["given"] [x], .err "NotABook" ["given"] [x], .err "InvalidAnswers" ["index"] [x], .err "InvalidSteps" ["index"] [x], .err "NothingToUndo" [] [], .err "Broken" ["shown", "index"] [.int 7, x]]
theorem given_ev (x : D) : _law_given_F [x] = .nw (.l [.lst (errs x), .lst (errs x)]) none := by rfl
theorem sorts_ev (x : D) : forS (rng1 (aCons (opN (one lenD) (aCons (vE 1) aNil)) aNil)) (bName 2) _law_right_37_x2 [.im x, .im (.lst (errs x)), .no, .no, .no] = .ok .nx [.im x, .im (.lst (errs x)), .im (.int 11), .acc (.l [.bl false, .bl false, .bl false, .bl false, .bl false, .bl false, .bl false, .bl false, .bl false, .bl false, .bl false, .bl true]), .no] := by kernel_rfl
theorem sorts_ev2 (x : D) : forS (rng1 (aCons (opN (one lenD) (aCons (vE 1) aNil)) aNil)) (bName 2) _law_right_37_x2 [.im x, .im (.lst (errs x)), .im (.int 11), .acc (.l [.bl false, .bl false, .bl false, .bl false, .bl false, .bl false, .bl false, .bl false, .bl false, .bl false, .bl false, .bl true]), .no] = .ok .nx [.im x, .im (.lst (errs x)), .im (.int 11), .acc (.l [.bl false, .bl false, .bl false, .bl false, .bl false, .bl false, .bl false, .bl false, .bl false, .bl false, .bl false, .bl true]), .no] := by kernel_rfl
theorem tryNK_x {i : Nat} {c0 c : Str} {hv : List Str → List D → En → Option En} {ns : List Str} {fs : List D} {Γ Γ' : En} (h : c = c0) (hb : isBor Γ i = false) (hl : i < Γ.length) (hh : hv ns fs Γ = some Γ') : tryNK i c0 hv (.exc c ns fs Γ) = .ok .nx (Γ'.set i .no) := by
  show (if c = c0 ∧ isBor Γ i = false ∧ i < Γ.length then (match hv ns fs Γ with | some Γ' => (O.ok .nx (Γ'.set i .no) : O Fl) | none => .fail) else .fail) = _
  rw [if_pos ⟨h, hb, hl⟩, hh]
theorem kept_ev {x : D} (h : Shw x) : _law_kept_right_F [.lst (errs x), x] = .ok (.bl true) none := by
  obtain ⟨_, ⟨z, h1⟩, ⟨w, h2⟩⟩ := h
  have h1 : reprD (.lst [x, x, x, x, x, x, x, x, x, x]) = some (.str z) := h1
  have a1 : addV (telV (compV [4] (anyI (lstE (aCons (cE (.int 0)) (aCons (cE (.int 1)) (aCons (cE (.int 2)) (aCons (cE (.int 3)) (aCons (cE (.int 4)) (aCons (cE (.int 5)) (aCons (cE (.int 6)) (aCons (cE (.int 7)) aNil)))))))))) (bName 4) trueT _law_kept_right_x1)) (telV (compV [4] (anyI (lstE (aCons (cE (.int 8)) (aCons (cE (.int 9)) aNil)))) (bName 4) trueT _law_kept_right_x2)) [.im (.lst (errs x)), .im x, .no, .no, .no] = .ok (.n (.l [x, x, x, x, x, x, x, x, x, x])) [.im (.lst (errs x)), .im x, .no, .no, .no] := by kernel_rfl
  have a2 : op2 getD (vE 0) (cE (.int 11)) [.im (.lst (errs x)), .im x, .acc (.l [x, x, x, x, x, x, x, x, x, x]), .no, .no] = .ok (.d (.err "Broken" ["shown", "index"] [.int 7, x])) [.im (.lst (errs x)), .im x, .acc (.l [x, x, x, x, x, x, x, x, x, x]), .no, .no] := by kernel_rfl
  have a6 : L2.atI (errs x) 11 = some (.err "Broken" ["shown", "index"] [.int 7, x]) := by kernel_rfl
  have a3 : mulD (.lst [x]) (.int ((10 : Nat) : Int)) = some (.lst [x, x, x, x, x, x, x, x, x, x]) := by kernel_rfl
  have a4 : lstE (aCons (xyE "index" (vE 3)) (aCons (xyE "shown" (vE 3)) aNil)) [.im (.lst (errs x)), .im x, .acc (.l [x, x, x, x, x, x, x, x, x, x]), .im (.err "Broken" ["shown", "index"] [.int 7, x]), .no] = .ok (.d (.lst [x, .int 7])) [.im (.lst (errs x)), .im x, .acc (.l [x, x, x, x, x, x, x, x, x, x]), .im (.err "Broken" ["shown", "index"] [.int 7, x]), .no] := by kernel_rfl
  have q : ∀ z : Str, eqD (.str z) (.str z) = some (.bl true) := fun z => by rw [Ev.eqS, decide_eq_true rfl]
  unfold _law_kept_right_F _law_kept_right_b
  simp -implicitDefEqProofs only [Ev.all, Ev.all2, Ev.all3, and_self, and_true, true_and, List.getElem?_cons_zero, List.getElem?_cons_succ, List.set_cons_zero, List.set_cons_succ, List.length_cons, List.length_nil, Option.map_some, Option.bind_some, Option.map_none, Option.bind_none, List.map_cons, List.map_nil, List.cons_append, List.nil_append, List.append_nil, Nat.reduceAdd, Nat.reduceSub, Nat.zero_add, List.replicate_succ, List.replicate_zero, if_true, if_false, reduceIte, Nat.reduceLeDiff, Nat.reduceEqDiff, Bool.not_true, Bool.not_false, decide_true, decide_false, Int.reduceLT, Int.reduceLE, Bool.false_eq_true, Bool.true_eq_false, reduceCtorEq, Bool.or_false, Bool.or_true, Bool.true_or, Bool.false_or, Bool.and_self, Bool.true_and, Bool.and_true, eq_self, ↓a1, a6, a3, ↓a4, h1, h2, q]
  done
theorem raised_ev {x : D} (h : Shw x) : _law_raised_right_F [x] = .ok (.bl true) none := by
  obtain ⟨⟨z, h1, h2, h3⟩, _, _⟩ := h
  have q : eqD (.lst [.str z, .str z]) (.lst [.str z, .str z]) = some (.bl true) := by
    unfold eqD
    rw [eq_self_D (Sm.lst (ds := [.str z, .str z]) (k := 0) (n := 10 * 8140952 + 2) fun d h' => by
      simp only [List.mem_cons, List.not_mem_nil, or_false] at h'
      rcases h' with rfl | rfl <;> exact Sm.str h2 h3) (by decide)]
    rfl
  have b1 : tryN 2 "InvalidText" (hvApp "given" 1) _law_raised_right_x2 [.im x, .acc (.l []), .no] = .ok .nx [.im x, .acc (.l [.str z]), .no] := by
    show tryNK 2 "InvalidText" (hvApp "given" 1) (.exc "InvalidText" ["given"] [x] [.im x, .acc (.l []), .no]) = _
    have hv : hvApp "given" 1 ["given"] [x] [.im x, .acc (.l []), .no] = some [.im x, .acc (.l [.str z]), .no] := by
      unfold hvApp
      show (match reprD x with | some z => if ([] : List D).length < sizeLine then some ([.im x, .acc (.l ([] ++ [z])), .no] : En) else none | none => none) = _
      rw [h1]; rfl
    exact tryNK_x rfl rfl (by simp) hv
  have b2 : tryN 2 "Broken" (hvApp "index" 1) _law_raised_right_x1 [.im x, .acc (.l [.str z]), .no] = .ok .nx [.im x, .acc (.l [.str z, .str z]), .no] := by
    show tryNK 2 "Broken" (hvApp "index" 1) (.exc "Broken" ["shown", "index"] [.int 3, x] [.im x, .acc (.l [.str z]), .no]) = _
    have hv : hvApp "index" 1 ["shown", "index"] [.int 3, x] [.im x, .acc (.l [.str z]), .no] = some [.im x, .acc (.l [.str z, .str z]), .no] := by
      unfold hvApp
      show (match reprD x with | some y => if ([D.str z] : List D).length < sizeLine then some ([.im x, .acc (.l ([D.str z] ++ [y])), .no] : En) else none | none => none) = _
      rw [h1]; rfl
    exact tryNK_x rfl rfl (by simp) hv
  have m : mulD (.lst [.str z]) (.int 2) = some (.lst [.str z, .str z]) := by kernel_rfl
  unfold _law_raised_right_F _law_raised_right_b
  simp -implicitDefEqProofs only [Ev.all, Ev.all2, Ev.all3, and_self, and_true, true_and, List.getElem?_cons_zero, List.getElem?_cons_succ, List.set_cons_zero, List.set_cons_succ, List.length_cons, List.length_nil, Option.map_some, Option.bind_some, Option.map_none, Option.bind_none, List.map_cons, List.map_nil, List.cons_append, List.nil_append, List.append_nil, Nat.reduceAdd, Nat.reduceSub, Nat.zero_add, List.replicate_succ, List.replicate_zero, if_true, if_false, reduceIte, Nat.reduceLeDiff, Nat.reduceEqDiff, Bool.not_true, Bool.not_false, decide_true, decide_false, Int.reduceLT, Int.reduceLE, Bool.false_eq_true, Bool.true_eq_false, reduceCtorEq, Bool.or_false, Bool.or_true, Bool.true_or, Bool.false_or, Bool.and_self, Bool.true_and, Bool.and_true, eq_self, ↓b1, ↓b2, h1, m, q]
  done
end PL

set_option Elab.async false
set_option linter.all false
set_option maxRecDepth 100000
set_option maxHeartbeats 4000000
namespace PL
open PySem PySem.Spec PyProof.Rows L2 FL PF
theorem right_k01 {x : D} (h : Shw x) : _law_right_37_F [x] = .ok (.bl true) none := by
  have e1 := given_ev x
  have e2 := sorts_ev x
  have e3 := sorts_ev2 x
  have e4 := kept_ev h
  have e5 := raised_ev h
  have t1 : _law_right_37_x3 [.im x, .im (.lst (errs x)), .no, .no, .no] = .ok .nx [.im x, .im (.lst (errs x)), .im (.int 11), .acc (.l [.bl false, .bl false, .bl false, .bl false, .bl false, .bl false, .bl false, .bl false, .bl false, .bl false, .bl false, .bl true]), .no] := by
    unfold _law_right_37_x3
    simp -implicitDefEqProofs only [Ev.all, Ev.all2, Ev.all3, and_self, and_true, true_and, List.getElem?_cons_zero, List.getElem?_cons_succ, List.set_cons_zero, List.set_cons_succ, List.length_cons, List.length_nil, Option.map_some, Option.bind_some, Option.map_none, Option.bind_none, List.map_cons, List.map_nil, List.cons_append, List.nil_append, List.append_nil, Nat.reduceAdd, Nat.reduceSub, Nat.zero_add, List.replicate_succ, List.replicate_zero, if_true, if_false, reduceIte, Nat.reduceLeDiff, Nat.reduceEqDiff, Bool.not_true, Bool.not_false, decide_true, decide_false, Int.reduceLT, Int.reduceLE, Bool.false_eq_true, Bool.true_eq_false, reduceCtorEq, Bool.or_false, Bool.or_true, Bool.true_or, Bool.false_or, Bool.and_self, Bool.true_and, Bool.and_true, eq_self, ↓e2, e4]
  have t2 : _law_right_37_x3 [.im x, .im (.lst (errs x)), .im (.int 11), .acc (.l [.bl false, .bl false, .bl false, .bl false, .bl false, .bl false, .bl false, .bl false, .bl false, .bl false, .bl false, .bl true]), .no] = .ok .nx [.im x, .im (.lst (errs x)), .im (.int 11), .acc (.l [.bl false, .bl false, .bl false, .bl false, .bl false, .bl false, .bl false, .bl false, .bl false, .bl false, .bl false, .bl true]), .no] := by
    unfold _law_right_37_x3
    simp -implicitDefEqProofs only [Ev.all, Ev.all2, Ev.all3, and_self, and_true, true_and, List.getElem?_cons_zero, List.getElem?_cons_succ, List.set_cons_zero, List.set_cons_succ, List.length_cons, List.length_nil, Option.map_some, Option.bind_some, Option.map_none, Option.bind_none, List.map_cons, List.map_nil, List.cons_append, List.nil_append, List.append_nil, Nat.reduceAdd, Nat.reduceSub, Nat.zero_add, List.replicate_succ, List.replicate_zero, if_true, if_false, reduceIte, Nat.reduceLeDiff, Nat.reduceEqDiff, Bool.not_true, Bool.not_false, decide_true, decide_false, Int.reduceLT, Int.reduceLE, Bool.false_eq_true, Bool.true_eq_false, reduceCtorEq, Bool.or_false, Bool.or_true, Bool.true_or, Bool.false_or, Bool.and_self, Bool.true_and, Bool.and_true, eq_self, ↓e3, e4]
  have l : loopS (bName 1) _law_right_37_x3 [.lst (errs x), .lst (errs x)] [.im x, .no, .no, .no, .no] = .ok .nx [.im x, .im (.lst (errs x)), .im (.int 11), .acc (.l [.bl false, .bl false, .bl false, .bl false, .bl false, .bl false, .bl false, .bl false, .bl false, .bl false, .bl false, .bl true]), .no] :=
    Eq.trans (loop_cons (Γ1 := [.im x, .im (.lst (errs x)), .no, .no, .no]) rfl t1) (Eq.trans (loop_cons (Γ1 := [.im x, .im (.lst (errs x)), .im (.int 11), .acc (.l [.bl false, .bl false, .bl false, .bl false, .bl false, .bl false, .bl false, .bl false, .bl false, .bl false, .bl false, .bl true]), .no]) rfl t2) rfl)
  have hf := for_at (it := anyI (telV (callV none 1 _law_given_F [] (aCons (vE 0) aNil)))) (Γ := [.im x, .no, .no, .no, .no]) (by simp -implicitDefEqProofs only [Ev.all, Ev.all2, Ev.all3, and_self, and_true, true_and, List.getElem?_cons_zero, List.getElem?_cons_succ, List.set_cons_zero, List.set_cons_succ, List.length_cons, List.length_nil, Option.map_some, Option.bind_some, Option.map_none, Option.bind_none, List.map_cons, List.map_nil, List.cons_append, List.nil_append, List.append_nil, Nat.reduceAdd, Nat.reduceSub, Nat.zero_add, List.replicate_succ, List.replicate_zero, if_true, if_false, reduceIte, Nat.reduceLeDiff, Nat.reduceEqDiff, Bool.not_true, Bool.not_false, decide_true, decide_false, Int.reduceLT, Int.reduceLE, Bool.false_eq_true, Bool.true_eq_false, reduceCtorEq, Bool.or_false, Bool.or_true, Bool.true_or, Bool.false_or, Bool.and_self, Bool.true_and, Bool.and_true, eq_self, e1]) l
  generalize errs x = E at *
  unfold _law_right_37_F _law_right_37_b
  simp -implicitDefEqProofs only [Ev.all, Ev.all2, Ev.all3, and_self, and_true, true_and, List.getElem?_cons_zero, List.getElem?_cons_succ, List.set_cons_zero, List.set_cons_succ, List.length_cons, List.length_nil, Option.map_some, Option.bind_some, Option.map_none, Option.bind_none, List.map_cons, List.map_nil, List.cons_append, List.nil_append, List.append_nil, Nat.reduceAdd, Nat.reduceSub, Nat.zero_add, List.replicate_succ, List.replicate_zero, if_true, if_false, reduceIte, Nat.reduceLeDiff, Nat.reduceEqDiff, Bool.not_true, Bool.not_false, decide_true, decide_false, Int.reduceLT, Int.reduceLE, Bool.false_eq_true, Bool.true_eq_false, reduceCtorEq, Bool.or_false, Bool.or_true, Bool.true_or, Bool.false_or, Bool.and_self, Bool.true_and, Bool.and_true, eq_self, ↓hf, e5]
  done
theorem pow12 : powD (.int 10) (.int 12) = some (.int 1000000000000) := by kernel_rfl
theorem len3 (ns : List Int) : (cutL ns none (some 3)).length ≤ 3 := by
  unfold cutL
  rw [List.length_take]
  have : HT.sIx ns.length ns.length (some 3) ≤ 3 := by
    unfold HT.sIx
    simp
    omega
  omega
theorem K01_law (ns : List Int) : law_38_F [.scr ns] = .ok (.bl true) none := by
  have h3 := len3 ns
  have hcp := cmp_maps (vs := [2]) (b := bName 2) (elt := law_38_x3) (a := fun n : Int => D.int n) (c := fun n => D.int (n % 1000000000000)) (xs := cutL ns none (some 3)) (Γ := [.im (.scr ns), .no, .no, .no]) rfl (by omega) fun n hn => by
    refine ⟨[.im (.scr ns), .no, .im (.int n), .no], by simp -implicitDefEqProofs only [Ev.all, Ev.all2, Ev.all3, and_self, and_true, true_and, List.getElem?_cons_zero, List.getElem?_cons_succ, List.set_cons_zero, List.set_cons_succ, List.length_cons, List.length_nil, Option.map_some, Option.bind_some, Option.map_none, Option.bind_none, List.map_cons, List.map_nil, List.cons_append, List.nil_append, List.append_nil, Nat.reduceAdd, Nat.reduceSub, Nat.zero_add, List.replicate_succ, List.replicate_zero, if_true, if_false, reduceIte, Nat.reduceLeDiff, Nat.reduceEqDiff, Bool.not_true, Bool.not_false, decide_true, decide_false, Int.reduceLT, Int.reduceLE, Bool.false_eq_true, Bool.true_eq_false, reduceCtorEq, Bool.or_false, Bool.or_true, Bool.true_or, Bool.false_or, Bool.and_self, Bool.true_and, Bool.and_true, eq_self], ?_, rfl⟩
    simp -implicitDefEqProofs only [law_38_x3, Ev.all, Ev.all2, Ev.all3, and_self, and_true, true_and, List.getElem?_cons_zero, List.getElem?_cons_succ, List.set_cons_zero, List.set_cons_succ, List.length_cons, List.length_nil, Option.map_some, Option.bind_some, Option.map_none, Option.bind_none, List.map_cons, List.map_nil, List.cons_append, List.nil_append, List.append_nil, Nat.reduceAdd, Nat.reduceSub, Nat.zero_add, List.replicate_succ, List.replicate_zero, if_true, if_false, reduceIte, Nat.reduceLeDiff, Nat.reduceEqDiff, Bool.not_true, Bool.not_false, decide_true, decide_false, Int.reduceLT, Int.reduceLE, Bool.false_eq_true, Bool.true_eq_false, reduceCtorEq, Bool.or_false, Bool.or_true, Bool.true_or, Bool.false_or, Bool.and_self, Bool.true_and, Bool.and_true, eq_self, pow12]
  have ec : cutD none (some 3) (.scr ns) = some (.lst ((cutL ns none (some 3)).map fun n => D.int n)) := rfl
  have hc := comp_at (it := anyI (slE (vE 0) oNo (oSome (cE (.int 3))))) (Γ := [.im (.scr ns), .no, .no, .no]) (ds := (cutL ns none (some 3)).map fun n => D.int n) (by simp -implicitDefEqProofs only [Ev.all, Ev.all2, Ev.all3, and_self, and_true, true_and, List.getElem?_cons_zero, List.getElem?_cons_succ, List.set_cons_zero, List.set_cons_succ, List.length_cons, List.length_nil, Option.map_some, Option.bind_some, Option.map_none, Option.bind_none, List.map_cons, List.map_nil, List.cons_append, List.nil_append, List.append_nil, Nat.reduceAdd, Nat.reduceSub, Nat.zero_add, List.replicate_succ, List.replicate_zero, if_true, if_false, reduceIte, Nat.reduceLeDiff, Nat.reduceEqDiff, Bool.not_true, Bool.not_false, decide_true, decide_false, Int.reduceLT, Int.reduceLE, Bool.false_eq_true, Bool.true_eq_false, reduceCtorEq, Bool.or_false, Bool.or_true, Bool.true_or, Bool.false_or, Bool.and_self, Bool.true_and, Bool.and_true, eq_self, ec]) rfl hcp
  generalize cutL ns none (some 3) = ms at *
  have hd : ∀ d ∈ ([.non, .str "ann", .tup [.int 1, .str "x"], .bl true, .int (-3)] : List D) ++ ms.map (fun n => D.int (n % 1000000000000)), Shw d := fun d hd => by
    rcases List.mem_append.mp hd with hd | hd
    · exact shw_five d hd
    · obtain ⟨n, _, rfl⟩ := List.mem_map.mp hd
      exact shw_int (Int.emod_nonneg _ (by decide)) (by have := Int.emod_lt_of_pos n (show (0 : Int) < 1000000000000 by decide); omega)
  have hl : (([.non, .str "ann", .tup [.int 1, .str "x"], .bl true, .int (-3)] : List D) ++ ms.map (fun n => D.int (n % 1000000000000))).length ≤ 8 := by rw [List.length_append, List.length_map]; simp only [List.length_cons, List.length_nil]; omega
  have hz : ([.non, .str "ann", .tup [.int 1, .str "x"], .bl true, .int (-3)] : List D).length + (ms.map (fun n => D.int (n % 1000000000000))).length ≤ sizeLine := by rw [← List.length_append]; exact Nat.le_trans hl (by decide)
  have ha : addV (lstE (aCons (cE .non) (aCons (cE (.str "ann")) (aCons (tupE (aCons (cE (.int 1)) (aCons (cE (.str "x")) aNil))) (aCons (cE (.bl true)) (aCons (negE (cE (.int 3))) aNil)))))) (telV (compV [2] (anyI (slE (vE 0) oNo (oSome (cE (.int 3))))) (bName 2) trueT law_38_x3)) [.im (.scr ns), .no, .no, .no] = .ok (.n (.l (([.non, .str "ann", .tup [.int 1, .str "x"], .bl true, .int (-3)] : List D) ++ ms.map (fun n => D.int (n % 1000000000000))))) [.im (.scr ns), .no, .no, .no] := by
    have e0 : lstE (aCons (cE .non) (aCons (cE (.str "ann")) (aCons (tupE (aCons (cE (.int 1)) (aCons (cE (.str "x")) aNil))) (aCons (cE (.bl true)) (aCons (negE (cE (.int 3))) aNil))))) [.im (.scr ns), .no, .no, .no] = .ok (.d (.lst [.non, .str "ann", .tup [.int 1, .str "x"], .bl true, .int (-3)])) [.im (.scr ns), .no, .no, .no] := by kernel_rfl
    generalize lstE (aCons (cE .non) (aCons (cE (.str "ann")) (aCons (tupE (aCons (cE (.int 1)) (aCons (cE (.str "x")) aNil))) (aCons (cE (.bl true)) (aCons (negE (cE (.int 3))) aNil))))) = L at e0 ⊢
    generalize ([.non, .str "ann", .tup [.int 1, .str "x"], .bl true, .int (-3)] : List D) = five at *
    simp -implicitDefEqProofs only [Ev.all, Ev.all2, Ev.all3, and_self, and_true, true_and, List.getElem?_cons_zero, List.getElem?_cons_succ, List.set_cons_zero, List.set_cons_succ, List.length_cons, List.length_nil, Option.map_some, Option.bind_some, Option.map_none, Option.bind_none, List.map_cons, List.map_nil, List.cons_append, List.nil_append, List.append_nil, Nat.reduceAdd, Nat.reduceSub, Nat.zero_add, List.replicate_succ, List.replicate_zero, if_true, if_false, reduceIte, Nat.reduceLeDiff, Nat.reduceEqDiff, Bool.not_true, Bool.not_false, decide_true, decide_false, Int.reduceLT, Int.reduceLE, Bool.false_eq_true, Bool.true_eq_false, reduceCtorEq, Bool.or_false, Bool.or_true, Bool.true_or, Bool.false_or, Bool.and_self, Bool.true_and, Bool.and_true, eq_self, ↓e0, ↓hc, if_pos hz]
  generalize ([.non, .str "ann", .tup [.int 1, .str "x"], .bl true, .int (-3)] : List D) ++ ms.map (fun n => D.int (n % 1000000000000)) = ds at *
  have cf := cmp_flt (vs := [3]) (b := bName 3) (tt := law_38_x2) (elt := law_38_x1) (P := fun _ => false) (g := id) (Γ := [.im (.scr ns), .im (.lst ds), .no, .no]) rfl (ds := ds) [] (by rw [List.length_nil]; omega) fun d h => by
    have e := right_k01 (hd d h)
    refine ⟨[.im (.scr ns), .im (.lst ds), .no, .im d], by simp -implicitDefEqProofs only [Ev.all, Ev.all2, Ev.all3, and_self, and_true, true_and, List.getElem?_cons_zero, List.getElem?_cons_succ, List.set_cons_zero, List.set_cons_succ, List.length_cons, List.length_nil, Option.map_some, Option.bind_some, Option.map_none, Option.bind_none, List.map_cons, List.map_nil, List.cons_append, List.nil_append, List.append_nil, Nat.reduceAdd, Nat.reduceSub, Nat.zero_add, List.replicate_succ, List.replicate_zero, if_true, if_false, reduceIte, Nat.reduceLeDiff, Nat.reduceEqDiff, Bool.not_true, Bool.not_false, decide_true, decide_false, Int.reduceLT, Int.reduceLE, Bool.false_eq_true, Bool.true_eq_false, reduceCtorEq, Bool.or_false, Bool.or_true, Bool.true_or, Bool.false_or, Bool.and_self, Bool.true_and, Bool.and_true, eq_self], ?_, ?_, rfl⟩
    · simp -implicitDefEqProofs only [law_38_x2, Ev.all, Ev.all2, Ev.all3, and_self, and_true, true_and, List.getElem?_cons_zero, List.getElem?_cons_succ, List.set_cons_zero, List.set_cons_succ, List.length_cons, List.length_nil, Option.map_some, Option.bind_some, Option.map_none, Option.bind_none, List.map_cons, List.map_nil, List.cons_append, List.nil_append, List.append_nil, Nat.reduceAdd, Nat.reduceSub, Nat.zero_add, List.replicate_succ, List.replicate_zero, if_true, if_false, reduceIte, Nat.reduceLeDiff, Nat.reduceEqDiff, Bool.not_true, Bool.not_false, decide_true, decide_false, Int.reduceLT, Int.reduceLE, Bool.false_eq_true, Bool.true_eq_false, reduceCtorEq, Bool.or_false, Bool.or_true, Bool.true_or, Bool.false_or, Bool.and_self, Bool.true_and, Bool.and_true, eq_self, e]
    · simp -implicitDefEqProofs only [law_38_x1, Ev.all, Ev.all2, Ev.all3, and_self, and_true, true_and, List.getElem?_cons_zero, List.getElem?_cons_succ, List.set_cons_zero, List.set_cons_succ, List.length_cons, List.length_nil, Option.map_some, Option.bind_some, Option.map_none, Option.bind_none, List.map_cons, List.map_nil, List.cons_append, List.nil_append, List.append_nil, Nat.reduceAdd, Nat.reduceSub, Nat.zero_add, List.replicate_succ, List.replicate_zero, if_true, if_false, reduceIte, Nat.reduceLeDiff, Nat.reduceEqDiff, Bool.not_true, Bool.not_false, decide_true, decide_false, Int.reduceLT, Int.reduceLE, Bool.false_eq_true, Bool.true_eq_false, reduceCtorEq, Bool.or_false, Bool.or_true, Bool.true_or, Bool.false_or, Bool.and_self, Bool.true_and, Bool.and_true, eq_self, id]
  rw [show (ds.filter fun _ => false) = [] from List.filter_eq_nil_iff.mpr fun _ _ h => Bool.noConfusion h, List.map_nil, List.append_nil] at cf
  have hg := comp_at (it := anyI (vE 1)) (Γ := [.im (.scr ns), .acc (.l ds), .no, .no]) (ds := ds) (by simp -implicitDefEqProofs only [Ev.all, Ev.all2, Ev.all3, and_self, and_true, true_and, List.getElem?_cons_zero, List.getElem?_cons_succ, List.set_cons_zero, List.set_cons_succ, List.length_cons, List.length_nil, Option.map_some, Option.bind_some, Option.map_none, Option.bind_none, List.map_cons, List.map_nil, List.cons_append, List.nil_append, List.append_nil, Nat.reduceAdd, Nat.reduceSub, Nat.zero_add, List.replicate_succ, List.replicate_zero, if_true, if_false, reduceIte, Nat.reduceLeDiff, Nat.reduceEqDiff, Bool.not_true, Bool.not_false, decide_true, decide_false, Int.reduceLT, Int.reduceLE, Bool.false_eq_true, Bool.true_eq_false, reduceCtorEq, Bool.or_false, Bool.or_true, Bool.true_or, Bool.false_or, Bool.and_self, Bool.true_and, Bool.and_true, eq_self]) rfl cf
  have q1 : tstE (op2 neD (lstE (aCons (cE c_MOST_DEEDS) (aCons (cE c_MOST_ANSWERS) (aCons (cE c_MOST_LAYERS) aNil)))) (lstE (aCons (cE (.int 6)) (aCons (cE (.int 4)) (aCons (cE (.int 12)) aNil))))) [.im (.scr ns), .no, .no, .no] = .ok false [.im (.scr ns), .no, .no, .no] := by kernel_rfl
  have q2 : eqD (.lst []) (.lst []) = some (.bl true) := by kernel_rfl
  unfold law_38_F law_38_b
  simp -implicitDefEqProofs only [Ev.all, Ev.all2, Ev.all3, and_self, and_true, true_and, List.getElem?_cons_zero, List.getElem?_cons_succ, List.set_cons_zero, List.set_cons_succ, List.length_cons, List.length_nil, Option.map_some, Option.bind_some, Option.map_none, Option.bind_none, List.map_cons, List.map_nil, List.cons_append, List.nil_append, List.append_nil, Nat.reduceAdd, Nat.reduceSub, Nat.zero_add, List.replicate_succ, List.replicate_zero, if_true, if_false, reduceIte, Nat.reduceLeDiff, Nat.reduceEqDiff, Bool.not_true, Bool.not_false, decide_true, decide_false, Int.reduceLT, Int.reduceLE, Bool.false_eq_true, Bool.true_eq_false, reduceCtorEq, Bool.or_false, Bool.or_true, Bool.true_or, Bool.false_or, Bool.and_self, Bool.true_and, Bool.and_true, eq_self, ↓q1, ↓ha, ↓hg, q2]
  done
end PL

set_option Elab.async false
set_option linter.all false
set_option maxRecDepth 100000
set_option maxHeartbeats 0
open PySem PySem.W PySem.Calls PyProof.Rows
theorem PySem.Challenge.cw_boxthieves_k01_limits_and_errors_holds : PySem.Challenge.rw_boxthieves_k01_limits_and_errors.Holds := by
  w_on; o_law
  refine HandSHeadRun.head_any (r := OpenLaw.row PySem.Challenge.rw_boxthieves_k01_limits_and_errors) (q := view (OpenLaw.row PySem.Challenge.rw_boxthieves_k01_limits_and_errors).prog [26]) (H := K01.hk) (ob := K01.ob) (M := 12000) (loose := K01.loose) (d := HandSHeadRun.topDef (OpenLaw.row PySem.Challenge.rw_boxthieves_k01_limits_and_errors).prog 26) (kwd := []) K01.ob_eq
    (by kernel_rfl) (fun s => by kernel_rfl) K01.run (by kernel_rfl) (by kernel_rfl) (by kernel_rfl) (by rfl) (by first | assumption | decide +kernel) (by decide +kernel) ⟨rfl, rfl, rfl, rfl, rfl, by decide +kernel⟩ ?hw ?hc
  case hw => w_witness2
  case hc =>
    refine FL.end_law (l := PySem.Challenge.rw_boxthieves_k01_limits_and_errors) (n := 63) (k := 5) (x := "_law_cells") rfl (by decide) (by kernel_rfl) ⟨rfl, by decide, by decide⟩ ?F
    intro w mg fa h Y G hmg0
    letI : FL.Wrl := ⟨(PySem.Challenge.rw_boxthieves_k01_limits_and_errors).prog, w⟩
    obtain ⟨K, KX, c, e, sx, rr, bb, tt⟩ := Y
    have hmg : mg ("law" : PySem.Str) = some (.ref fa) := by
      have e : (HandSHeadRun.topDef (OpenLaw.row PySem.Challenge.rw_boxthieves_k01_limits_and_errors).prog 26).name = ("law" : PySem.Str) := by kernel_rfl
      rw [← e]
      exact hmg0
    have ty := FL.Ty.mk' ⟨h, KX, G⟩ c e sx
    have T : K01.TX K mg := ⟨ty, ty, rr, bb⟩
    have ea := hmg.symm.trans T.g_law
    cases ea
    refine ⟨K, FL.fdOf K (He.ga K "law"), FL.spL K ["_law_cells"] none PF.law_38_F, KX, FL.tabsOk_of KX bb tt, fun s v => ?_, fun H a ns hl hO hS => FL.law_sp (fun ns => PL.K01_law ns) H a ns hO hS, fun base _ _ hB => T.w_law ⟨⟨hB, by first | rfl | decide +kernel | kernel_rfl, by first | rfl | decide +kernel | kernel_rfl⟩, rfl, rfl⟩⟩
    exact L2.FunD.bindsA (ps := ["_law_cells"]) T.f_law (fun _ _ _ _ _ _ us hl => match us, hl with | [_], _ => rfl) s [v] rfl

