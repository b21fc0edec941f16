import PyProof.Rows.All
import Wide.All
import OpenK.AllK
import Wide.FinOn
import HandS.Base
import HandS.Call
import HandS.List
import HandS.Comp
import HandS.Exc
import HandS.HeadHook2
import HandS.Text
import HandS.Star
import HandS.TupAny
import HandS.TupMul
import HandS.IsInst
import HandS.StrMore
import HandS.Deep
import HandS.Conv
import HandS.RaiseMore
import PyProof.ReprRoads
import HandS.NoneIn
import HandS.Style
import HandS.Iter
import HandS.Defaults
import HandS.Property
import HandS.CallSlots
import HandS.HeadEnd
import HandS.Ends
import HandS.MakeKwOnly
import HandS.FStr
import HandS.OwnEq
import HandS.Small
import KE.KFmtOwn
import KE.GoesMore
import KE.GoesEnum
import HandS.Words
import HandS.Head0
import HandS.Head1
import HandS.Head2
import PySem.Challenge.RW_boxthieves_k14_answers_exchanged
/-! part F1 -/
set_option Elab.async false
set_option linter.all false
set_option maxRecDepth 100000
set_option maxHeartbeats 4000000
namespace FL
open PySem PySem.Spec PyProof.Rows L2

/-- plain data; ins: an instance of the module's class of this name -/
inductive D where
  | non | bl (b : Bool) | int (i : Int) | str (x : Str)
  | lst (xs : List D) | tup (xs : List D) | scr (ns : List Int)
  | dk (ks : List Key) (vs : List D)
  | ins (c : Str) (ns : List Str) (fs : List D)
instance : Inhabited D := ⟨.non⟩

abbrev Frg := PySem.W.Frag
abbrev St := L2.St
mutual
/-- under the tracked heap G the value v shows the data d -/
def Rep (K : Frg) (G : Hp) : D → V → Prop
  | .non, v => v = .non
  | .bl b, v => v = .bl b
  | .int i, v => v = .int i
  | .str x, v => v = .str x
  | .lst ds, v => ∃ a vs, v = .ref a ∧ G a = some (.lst vs) ∧ Reps K G ds vs
  | .scr ns, v => ∃ a, v = .ref a ∧ SqL K G a (ns.map V.int)
  | .tup ds, v => ∃ a vs, v = .ref a ∧ SqT K G a vs ∧ Reps K G ds vs
  | .dk ks ds, v => ∃ a kv, v = .ref a ∧ G a = some (.dK kv) ∧ kv.map (·.1) = ks ∧ Reps K G ds (kv.map (·.2))
  | .ins c ns ds, v => ∃ a dx fv, v = .ref a ∧ G a = some (.ins (He.ga K c) dx fv) ∧ fv.map (·.1) = ns ∧ Reps K G ds (fv.map (·.2))
def Reps (K : Frg) (G : Hp) : List D → List V → Prop
  | [], vs => vs = []
  | d :: ds, vs => ∃ v r, vs = v :: r ∧ Rep K G d v ∧ Reps K G ds r
end
def Le (G G' : Hp) : Prop := ∀ a o, G a = some o → G' a = some o
theorem Le.refl (G : Hp) : Le G G := fun _ _ h => h
theorem Le.trans {G1 G2 G3 : Hp} (h : Le G1 G2) (k : Le G2 G3) : Le G1 G3 := fun a o e => k a o (h a o e)
theorem Le.upd {G : Hp} {p : Addr} {o : HO} (h : G p = none) : Le G (upd G p o) := fun a u e => by
  rw [upd_ne (ne_of_none e h)]; exact e
theorem Rd.mono {G G' : Hp} (h : Le G G') {a : Addr} {u : HO} : Rd G a u → Rd G' a u
  | .inl e => .inl (h _ _ e)
  | .inr ⟨o, e⟩ => .inr ⟨o, h _ _ e⟩
theorem SqL.le {K : Frg} {G G' : Hp} (h : Le G G') {a : Addr} {xs : List V} : SqL K G a xs → SqL K G' a xs
  | .inl e => .inl (Rd.mono h e)
  | .inr e => .inr e
theorem SqT.le {K : Frg} {G G' : Hp} (h : Le G G') {a : Addr} {xs : List V} : SqT K G a xs → SqT K G' a xs
  | .inl e => .inl (Rd.mono h e)
  | .inr e => .inr e
mutual
theorem Rep.le {K : Frg} {G G' : Hp} (h : Le G G') : ∀ (d : D) (v : V), Rep K G d v → Rep K G' d v
  | .non, _, e => e
  | .bl _, _, e => e
  | .int _, _, e => e
  | .str _, _, e => e
  | .lst ds, _, ⟨a, vs, e, q, r⟩ => ⟨a, vs, e, h _ _ q, Reps.le h ds vs r⟩
  | .scr _, _, ⟨a, e, q⟩ => ⟨a, e, SqL.le h q⟩
  | .tup ds, _, ⟨a, vs, e, q, r⟩ => ⟨a, vs, e, SqT.le h q, Reps.le h ds vs r⟩
  | .dk _ ds, _, ⟨a, kv, e, q, n, r⟩ => ⟨a, kv, e, h _ _ q, n, Reps.le h ds _ r⟩
  | .ins _ _ ds, _, ⟨a, dx, fv, e, q, n, r⟩ => ⟨a, dx, fv, e, h _ _ q, n, Reps.le h ds _ r⟩
theorem Reps.le {K : Frg} {G G' : Hp} (h : Le G G') : ∀ (ds : List D) (vs : List V), Reps K G ds vs → Reps K G' ds vs
  | [], _, e => e
  | d :: ds, _, ⟨v, r, e, h1, h2⟩ => ⟨v, r, e, Rep.le h d v h1, Reps.le h ds r h2⟩
end
section
variable {K : Frg} {G G' : Hp}
theorem Reps.nil : Reps K G [] [] := rfl
theorem Reps.cons {d : D} {ds : List D} {v : V} {vs : List V} (h : Rep K G d v) (t : Reps K G ds vs) : Reps K G (d :: ds) (v :: vs) := ⟨v, vs, rfl, h, t⟩
theorem Reps.len : ∀ {ds : List D} {vs : List V}, Reps K G ds vs → vs.length = ds.length
  | [], _, e => by rw [show _ = [] from e]; rfl
  | _ :: _, _, ⟨_, _, e, _, t⟩ => by rw [e, List.length_cons, Reps.len t, List.length_cons]
theorem Reps.get : ∀ {ds : List D} {vs : List V} {i : Nat} {v : V}, Reps K G ds vs → vs[i]? = some v → ∃ d, ds[i]? = some d ∧ Rep K G d v
  | [], _, _, _, e, h => by rw [show _ = [] from e] at h; simp at h
  | d :: _, _, 0, _, ⟨_, _, e, r, _⟩, h => by subst e; simp at h; subst h; exact ⟨d, rfl, r⟩
  | _ :: _, _, i + 1, _, ⟨_, _, e, _, t⟩, h => by
    subst e
    obtain ⟨d, h1, h2⟩ := Reps.get (i := i) t (by simpa using h)
    exact ⟨d, by simpa using h1, h2⟩
theorem Reps.getD : ∀ {ds : List D} {vs : List V} {i : Nat} {d : D}, Reps K G ds vs → ds[i]? = some d → ∃ v, vs[i]? = some v ∧ Rep K G d v
  | [], _, _, _, _, h => by simp at h
  | d :: _, _, 0, _, ⟨v, _, e, r, _⟩, h => by subst e; simp at h; subst h; exact ⟨v, rfl, r⟩
  | _ :: _, _, i + 1, _, ⟨_, _, e, _, t⟩, h => by
    subst e
    obtain ⟨d, h1, h2⟩ := Reps.getD (i := i) t (by simpa using h)
    exact ⟨d, by simpa using h1, h2⟩
theorem Reps.append : ∀ {ds es : List D} {vs ws : List V}, Reps K G ds vs → Reps K G es ws → Reps K G (ds ++ es) (vs ++ ws)
  | [], _, _, _, e, t => by rw [show _ = [] from e]; exact t
  | _ :: _, _, _, _, ⟨v, r, e, h, t⟩, q => by subst e; exact ⟨v, _, rfl, h, Reps.append t q⟩
theorem Reps.take : ∀ {ds : List D} {vs : List V} (n : Nat), Reps K G ds vs → Reps K G (ds.take n) (vs.take n)
  | _, _, 0, _ => rfl
  | [], _, _ + 1, e => by rw [show _ = [] from e]; rfl
  | _ :: _, _, n + 1, ⟨v, r, e, h, t⟩ => by subst e; exact ⟨v, _, rfl, h, Reps.take n t⟩
theorem Reps.drop : ∀ {ds : List D} {vs : List V} (n : Nat), Reps K G ds vs → Reps K G (ds.drop n) (vs.drop n)
  | _, _, 0, h => h
  | [], _, _ + 1, e => by rw [show _ = [] from e]; rfl
  | _ :: _, _, n + 1, ⟨v, r, e, h, t⟩ => by subst e; exact Reps.drop n t
theorem Reps.set : ∀ {ds : List D} {vs : List V} (n : Nat) {d : D} {v : V}, Reps K G ds vs → Rep K G d v → Reps K G (ds.set n d) (vs.set n v)
  | [], _, _, _, _, e, _ => by rw [show _ = [] from e]; rfl
  | _ :: _, _, 0, _, _, ⟨v, r, e, h, t⟩, q => by subst e; exact ⟨_, _, rfl, q, t⟩
  | _ :: _, _, n + 1, _, _, ⟨v, r, e, h, t⟩, q => by subst e; exact ⟨_, _, rfl, h, Reps.set n t q⟩
theorem Reps.cut {ds : List D} {vs : List V} (h : Reps K G ds vs) (lo hi : Option Int) : Reps K G ((ds.drop (HT.sIx ds.length 0 lo)).take (HT.sIx ds.length ds.length hi - HT.sIx ds.length 0 lo)) (cutV vs lo hi) := by
  unfold cutV
  rw [h.len]
  exact (h.drop _).take _
theorem Reps.rep {ds : List D} {vs : List V} (h : Reps K G ds vs) : ∀ n : Nat, Reps K G (List.replicate n ds).flatten (List.replicate n vs).flatten
  | 0 => rfl
  | n + 1 => by
    rw [List.replicate_succ, List.replicate_succ, List.flatten_cons, List.flatten_cons]
    exact h.append (Reps.rep h n)
theorem Reps.strs : ∀ {ds : List D} {vs : List V} (xs : List Str), ds = xs.map D.str → Reps K G ds vs → vs = xs.map V.str
  | _, _, [], e, h => by subst e; exact h
  | _, _, x :: xs, e, h => by
    subst e
    obtain ⟨v, r, e, h1, h2⟩ := h
    subst e
    rw [show v = V.str x from h1, Reps.strs xs rfl h2]
    rfl
theorem Reps.of_strs : ∀ (xs : List Str), Reps K G (xs.map D.str) (xs.map V.str)
  | [] => rfl
  | _ :: xs => ⟨_, _, rfl, rfl, Reps.of_strs xs⟩
theorem Reps.of_ints : ∀ (xs : List Int), Reps K G (xs.map D.int) (xs.map V.int)
  | [] => rfl
  | _ :: xs => ⟨_, _, rfl, rfl, Reps.of_ints xs⟩
theorem Reps.bls : ∀ {vs : List V} (xs : List Bool), Reps K G (xs.map D.bl) vs → vs = xs.map V.bl
  | _, [], h => h
  | _, x :: xs, h => by
    obtain ⟨v, r, e, h1, h2⟩ := h
    subst e
    rw [show v = V.bl x from h1, Reps.bls xs h2]
    rfl
theorem Reps.ints : ∀ {vs : List V} (xs : List Int), Reps K G (xs.map D.int) vs → vs = xs.map V.int
  | _, [], h => h
  | _, x :: xs, h => by
    obtain ⟨v, r, e, h1, h2⟩ := h
    subst e
    rw [show v = V.int x from h1, Reps.ints xs h2]
    rfl
end

mutual
def D.py : D → Option PyData
  | .non => some .none
  | .bl b => some (.bool b)
  | .int i => some (.int i)
  | .str x => some (.str x)
  | .lst xs => (D.pys xs).map PyData.list
  | .tup xs => (D.pys xs).map PyData.tuple
  | .dk _ _ => none
  | .scr _ => none
  | .ins _ _ _ => none
def D.pys : List D → Option (List PyData)
  | [] => some []
  | d :: ds => (D.py d).bind fun p => (D.pys ds).map fun ps => p :: ps
end
mutual
theorem Rep.dp {K : Frg} {G : Hp} : ∀ (d : D) (v : V) (p : PyData), D.py d = some p → Rep K G d v → Dp K G v p
  | .non, _, _, e, r => by cases e; rw [show _ = V.non from r]; exact .non
  | .bl _, _, _, e, r => by cases e; rw [show _ = V.bl _ from r]; exact .bl _
  | .int _, _, _, e, r => by cases e; rw [show _ = V.int _ from r]; exact .int _
  | .str _, _, _, e, r => by cases e; rw [show _ = V.str _ from r]; exact .str _
  | .lst ds, _, _, e, ⟨a, vs, ev, q, r⟩ => by
    obtain ⟨ps, e1, rfl⟩ := Option.map_eq_some_iff.mp (show (D.pys ds).map PyData.list = some _ from e)
    subst ev
    exact .lst (.of q) (Reps.dp ds vs ps e1 r)
  | .tup ds, _, _, e, ⟨a, vs, ev, q, r⟩ => by
    obtain ⟨ps, e1, rfl⟩ := Option.map_eq_some_iff.mp (show (D.pys ds).map PyData.tuple = some _ from e)
    subst ev
    exact .tup q (Reps.dp ds vs ps e1 r)
  | .dk _ _, _, _, e, _ => by cases e
  | .scr _, _, _, e, _ => by cases e
  | .ins _ _ _, _, _, e, _ => by cases e
theorem Reps.dp {K : Frg} {G : Hp} : ∀ (ds : List D) (vs : List V) (ps : List PyData), D.pys ds = some ps → Reps K G ds vs → DpAll K G vs ps
  | [], _, _, e, r => by cases e; rw [show _ = [] from r]; exact .nil
  | d :: ds, _, _, e, ⟨v, r, ev, h1, h2⟩ => by
    obtain ⟨p, e1, e2⟩ := Option.bind_eq_some_iff.mp (show (D.py d).bind (fun p => (D.pys ds).map fun ps => p :: ps) = some _ from e)
    obtain ⟨ps, e3, rfl⟩ := Option.map_eq_some_iff.mp e2
    subst ev
    exact .cons (Rep.dp d v p e1 h1) (Reps.dp ds r ps e3 h2)
end

/-- an object of the frame's own that nobody else holds: a list, a dict, an instance -/
inductive OD where
  | l (xs : List D) | k (ks : List Key) (vs : List D) | i (c : Str) (ns : List Str) (fs : List D)
def ORep (K : Frg) (G : Hp) : OD → HO → Prop
  | .l xs, o => ∃ vs, o = .lst vs ∧ Reps K G xs vs
  | .k ks ds, o => ∃ kv, o = .dK kv ∧ kv.map (·.1) = ks ∧ Reps K G ds (kv.map (·.2))
  | .i c ns ds, o => ∃ dx fv, o = .ins (He.ga K c) dx fv ∧ fv.map (·.1) = ns ∧ Reps K G ds (fv.map (·.2))
def OD.d : OD → D
  | .l xs => .lst xs
  | .k ks vs => .dk ks vs
  | .i c ns fs => .ins c ns fs
theorem ORep.le {K : Frg} {G G' : Hp} (h : Le G G') : ∀ {o : OD} {u : HO}, ORep K G o u → ORep K G' o u
  | .l _, _, ⟨vs, e, r⟩ => ⟨vs, e, Reps.le h _ _ r⟩
  | .k _ _, _, ⟨kv, e, n, r⟩ => ⟨kv, e, n, Reps.le h _ _ r⟩
  | .i _ _ _, _, ⟨dx, fv, e, n, r⟩ => ⟨dx, fv, e, n, Reps.le h _ _ r⟩
theorem ORep.rep {K : Frg} {G G' : Hp} (h : Le G G') {a : Addr} : ∀ {o : OD} {u : HO}, ORep K G o u → G' a = some u → Rep K G' o.d (.ref a)
  | .l _, _, ⟨vs, e, r⟩, g => by subst e; exact ⟨a, vs, rfl, g, Reps.le h _ _ r⟩
  | .k _ _, _, ⟨kv, e, n, r⟩, g => by subst e; exact ⟨a, kv, rfl, g, n, Reps.le h _ _ r⟩
  | .i _ _ _, _, ⟨dx, fv, e, n, r⟩, g => by subst e; exact ⟨a, dx, fv, rfl, g, n, Reps.le h _ _ r⟩
/-- a slot: unknown, plain data that stays, an own object, the object that the caller lent -/
inductive Sl where
  | no | im (d : D) | acc (o : OD) | bor (o : OD)
instance : Inhabited Sl := ⟨.no⟩
abbrev En := List Sl
/-- a def's entry: the tracked heap, the part that stays, the lent object's slot and place -/
structure Fr where
  He : Hp
  Ge : Hp
  bi : Option Nat
  ba : Addr
def ownAt (Γ : En) (j : Nat) : Prop := ∃ o, Γ[j]? = some (.acc o)
structure Rl (K : Frg) (F : Fr) (Γ : En) (σ : St) (H G : Hp) : Prop where
  len : Γ.length = σ.length
  gh : Le G H
  ge : Le F.Ge G
  he : ∀ a o, F.He a = some o → (F.bi = none ∨ a ≠ F.ba) → H a = some o
  gn : ∀ a o, G a = some o → F.Ge a = some o ∨ F.He a = none
  sl : ∀ (i : Nat) (d : D), Γ[i]? = some (.im d) → ∃ v, σ[i]? = some (some v) ∧ Rep K G d v
  ac : ∀ (i : Nat) (o : OD), Γ[i]? = some (.acc o) → ∃ (a : Addr) (u : HO), σ[i]? = some (some (V.ref a)) ∧ H a = some u ∧ G a = none ∧ F.He a = none ∧ ORep K G o u ∧ ∀ j, j ≠ i → ownAt Γ j → σ[j]? ≠ some (some (V.ref a))
  bo : ∀ (i : Nat) (o : OD), Γ[i]? = some (.bor o) → F.bi = some i ∧ σ[i]? = some (some (V.ref F.ba)) ∧ (∃ u, F.He F.ba = some u) ∧ G F.ba = none ∧ ∃ u, H F.ba = some u ∧ ORep K G o u
  bb : ∀ i, F.bi = some i → ∃ o, Γ[i]? = some (.bor o)

/-- an expression's value: data, or the object that a slot owns -/
inductive EV where
  | d (d : D) | own (i : Nat)
/-- how a piece ends -/
inductive O (α : Type) where
  | ok (a : α) (Γ : En) | exc (c : Str) (ns : List Str) (fs : List D) (Γ : En) | fail
def O.bind {α β : Type} (x : O α) (f : α → En → O β) : O β := match x with
  | .ok a Γ => f a Γ
  | .exc c ns fs Γ => .exc c ns fs Γ
  | .fail => .fail
abbrev EF := En → O EV
abbrev DF := En → O D
/-- what stands at a slot, as data -/
def ownD (Γ : En) (i : Nat) : Option OD := match Γ[i]? with
  | some (.acc o) => some o
  | some (.bor o) => some o
  | _ => none
def EV.look (Γ : En) : EV → Option D
  | .d x => some x
  | .own i => (ownD Γ i).map OD.d
/-- an exception's class and fields -/
def XRep (K : Frg) (G : Hp) (c : Str) (ns : List Str) (fs : List D) (cls : Value) (dx : Option Addr) : Prop :=
  cls = .ref (He.ga K c) ∧ ∃ fv : List (Str × V), fv.map (·.1) = ns ∧ Reps K G fs (fv.map (·.2)) ∧ (ns = [] ∨ ∃ a, dx = some a ∧ G a = some (.xd fv))
section
variable {K : Frg} {F : Fr} {Γ : En} {σ : St} {H G : Hp}
theorem Rl.heNone (R : Rl K F Γ σ H G) {p : Addr} (h : H p = none) : F.He p = none := by
  cases e : F.He p with
  | none => rfl
  | some o =>
    cases hb : F.bi with
    | none => have := R.he p o e (.inl hb); rw [h] at this; cases this
    | some i =>
      by_cases hp : p = F.ba
      · obtain ⟨o', ho⟩ := R.bb i hb
        obtain ⟨_, _, _, _, u, hu, _⟩ := R.bo i o' ho
        rw [← hp, h] at hu; cases hu
      · have := R.he p o e (.inr hp); rw [h] at this; cases this
theorem Rl.gNone (R : Rl K F Γ σ H G) {p : Addr} (h : H p = none) : G p = none := by
  cases e : G p with
  | none => rfl
  | some o => have := R.gh p o e; rw [h] at this; cases this
/-- the tracked heap grows by an object that is not told -/
theorem Rl.newH (R : Rl K F Γ σ H G) {p : Addr} {o : HO} (h : H p = none) : Rl K F Γ σ (upd H p o) G where
  len := R.len
  gh := fun a u e => by rw [upd_ne (ne_of_none (R.gh a u e) h)]; exact R.gh a u e
  ge := R.ge
  he := fun a u e hb => by have := R.he a u e hb; rw [upd_ne (ne_of_none this h)]; exact this
  gn := R.gn
  sl := R.sl
  ac := fun i o' e => by
    obtain ⟨a, u, h1, h2, h3, h4, h5, h6⟩ := R.ac i o' e
    exact ⟨a, u, h1, by rw [upd_ne (ne_of_none h2 h)]; exact h2, h3, h4, h5, h6⟩
  bo := fun i o' e => by
    obtain ⟨h1, h2, h3, h4, u, h5, h6⟩ := R.bo i o' e
    exact ⟨h1, h2, h3, h4, u, by rw [upd_ne (ne_of_none h5 h)]; exact h5, h6⟩
  bb := R.bb
/-- an object that no slot owns is told from now on -/
theorem Rl.tell (R : Rl K F Γ σ H G) {p : Addr} {o : HO} (h : H p = some o) (hn : F.He p = none) (hg : G p = none) (ho : ∀ j, ownAt Γ j → σ[j]? ≠ some (some (.ref p))) : Rl K F Γ σ H (upd G p o) where
  len := R.len
  gh := fun a u e => by
    by_cases hp : a = p
    · subst hp; rw [upd_same] at e; rw [h]; exact e
    · rw [upd_ne hp] at e; exact R.gh a u e
  ge := fun a u e => by rw [upd_ne (ne_of_none (R.ge a u e) hg)]; exact R.ge a u e
  he := R.he
  gn := fun a u e => by
    by_cases hp : a = p
    · subst hp; exact .inr hn
    · rw [upd_ne hp] at e; exact R.gn a u e
  sl := fun i d e => by
    obtain ⟨v, h1, h2⟩ := R.sl i d e
    exact ⟨v, h1, Rep.le (Le.upd hg) d v h2⟩
  ac := fun i o' e => by
    obtain ⟨a, u, h1, h2, h3, h4, h5, h6⟩ := R.ac i o' e
    have : a ≠ p := fun z => ho i ⟨o', e⟩ (by rw [h1, z])
    exact ⟨a, u, h1, h2, by rw [upd_ne this]; exact h3, h4, h5.le (Le.upd hg), h6⟩
  bo := fun i o' e => by
    obtain ⟨h1, h2, ⟨w, h3⟩, h4, u, h5, h6⟩ := R.bo i o' e
    have : F.ba ≠ p := ne_of_none h3 hn
    exact ⟨h1, h2, ⟨w, h3⟩, by rw [upd_ne this]; exact h4, u, h5, h6.le (Le.upd hg)⟩
  bb := R.bb
theorem Rl.noOwn (R : Rl K F Γ σ H G) {p : Addr} (h : H p = none) : ∀ j, ownAt Γ j → σ[j]? ≠ some (some (.ref p)) := fun j ⟨o, e⟩ z => by
  obtain ⟨a, u, h1, h2, _⟩ := R.ac j o e
  rw [h1] at z
  cases z
  rw [h] at h2; cases h2
/-- a new object, told -/
theorem Rl.new (R : Rl K F Γ σ H G) {p : Addr} {o : HO} (h : H p = none) : Rl K F Γ σ (upd H p o) (upd G p o) :=
  (R.newH h).tell upd_same (R.heNone h) (R.gNone h) (R.noOwn h)
theorem get_set {α : Type} {l : List α} {i j : Nat} {x y : α} (h : (l.set i x)[j]? = some y) : (j = i ∧ i < l.length ∧ y = x) ∨ (j ≠ i ∧ l[j]? = some y) := by
  by_cases e : i = j
  · subst e
    by_cases hi : i < l.length
    · rw [List.getElem?_set_self hi] at h; cases h; exact .inl ⟨rfl, hi, rfl⟩
    · rw [List.getElem?_eq_none (by simpa using hi)] at h; cases h
  · rw [List.getElem?_set_ne e] at h; exact .inr ⟨fun z => e z.symm, h⟩
/-- a slot is stored: data -/
theorem Rl.setIm (R : Rl K F Γ σ H G) {i : Nat} {d : D} {v : V} (hi : F.bi ≠ some i) (r : Rep K G d v) : Rl K F (Γ.set i (.im d)) (σ.set i (some v)) H G where
  len := by rw [List.length_set, List.length_set]; exact R.len
  gh := R.gh
  ge := R.ge
  he := R.he
  gn := R.gn
  sl := fun j d' e => by
    rcases get_set e with ⟨rfl, hl, e⟩ | ⟨hj, e⟩
    · cases e; exact ⟨v, List.getElem?_set_self (by rw [← R.len]; exact hl), r⟩
    · obtain ⟨w, h1, h2⟩ := R.sl j d' e
      exact ⟨w, by rw [List.getElem?_set_ne (Ne.symm hj)]; exact h1, h2⟩
  ac := fun j o e => by
    rcases get_set e with ⟨rfl, _, e⟩ | ⟨hj, e⟩
    · cases e
    · obtain ⟨a, u, h1, h2, h3, h4, h5, h6⟩ := R.ac j o e
      refine ⟨a, u, by rw [List.getElem?_set_ne (Ne.symm hj)]; exact h1, h2, h3, h4, h5, fun k hk ⟨o', ek⟩ => ?_⟩
      rcases get_set ek with ⟨_, _, e⟩ | ⟨hki, e⟩
      · cases e
      · rw [List.getElem?_set_ne (Ne.symm hki)]; exact h6 k hk ⟨o', e⟩
  bo := fun j o e => by
    rcases get_set e with ⟨rfl, _, e⟩ | ⟨hj, e⟩
    · cases e
    · obtain ⟨h1, h2, h3⟩ := R.bo j o e
      exact ⟨h1, by rw [List.getElem?_set_ne (Ne.symm hj)]; exact h2, h3⟩
  bb := fun j e => by
    obtain ⟨o, h⟩ := R.bb j e
    refine ⟨o, ?_⟩
    rw [List.getElem?_set_ne (fun z => hi (by rw [z]; exact e))]; exact h
/-- a slot is forgotten -/
theorem Rl.setNo (R : Rl K F Γ σ H G) {i : Nat} {x : Option V} (hi : F.bi ≠ some i) : Rl K F (Γ.set i .no) (σ.set i x) H G where
  len := by rw [List.length_set, List.length_set]; exact R.len
  gh := R.gh
  ge := R.ge
  he := R.he
  gn := R.gn
  sl := fun j d' e => by
    rcases get_set e with ⟨rfl, hl, e⟩ | ⟨hj, e⟩
    · cases e
    · obtain ⟨w, h1, h2⟩ := R.sl j d' e
      exact ⟨w, by rw [List.getElem?_set_ne (Ne.symm hj)]; exact h1, h2⟩
  ac := fun j o e => by
    rcases get_set e with ⟨rfl, _, e⟩ | ⟨hj, e⟩
    · cases e
    · obtain ⟨a, u, h1, h2, h3, h4, h5, h6⟩ := R.ac j o e
      refine ⟨a, u, by rw [List.getElem?_set_ne (Ne.symm hj)]; exact h1, h2, h3, h4, h5, fun k hk ⟨o', ek⟩ => ?_⟩
      rcases get_set ek with ⟨_, _, e⟩ | ⟨hki, e⟩
      · cases e
      · rw [List.getElem?_set_ne (Ne.symm hki)]; exact h6 k hk ⟨o', e⟩
  bo := fun j o e => by
    rcases get_set e with ⟨rfl, _, e⟩ | ⟨hj, e⟩
    · cases e
    · obtain ⟨h1, h2, h3⟩ := R.bo j o e
      exact ⟨h1, by rw [List.getElem?_set_ne (Ne.symm hj)]; exact h2, h3⟩
  bb := fun j e => by
    obtain ⟨o, h⟩ := R.bb j e
    refine ⟨o, ?_⟩
    rw [List.getElem?_set_ne (fun z => hi (by rw [z]; exact e))]; exact h
/-- a slot is stored: an object of its own -/
theorem Rl.setAcc (R : Rl K F Γ σ H G) {i : Nat} {o : OD} {p : Addr} {u : HO} (hi : F.bi ≠ some i) (hp : H p = some u) (hg : G p = none) (hn : F.He p = none) (ho : ∀ j, ownAt Γ j → σ[j]? ≠ some (some (.ref p))) (r : ORep K G o u) :
    Rl K F (Γ.set i (.acc o)) (σ.set i (some (.ref p))) H G where
  len := by rw [List.length_set, List.length_set]; exact R.len
  gh := R.gh
  ge := R.ge
  he := R.he
  gn := R.gn
  sl := fun j d' e => by
    rcases get_set e with ⟨rfl, hl, e⟩ | ⟨hj, e⟩
    · cases e
    · obtain ⟨w, h1, h2⟩ := R.sl j d' e
      exact ⟨w, by rw [List.getElem?_set_ne (Ne.symm hj)]; exact h1, h2⟩
  ac := fun j o' e => by
    rcases get_set e with ⟨rfl, hl, e⟩ | ⟨hj, e⟩
    · cases e
      refine ⟨p, u, List.getElem?_set_self (by rw [← R.len]; exact hl), hp, hg, hn, r, fun k hk ⟨o', ek⟩ => ?_⟩
      rcases get_set ek with ⟨z, _, e⟩ | ⟨hki, e'⟩
      · exact absurd z hk
      · rw [List.getElem?_set_ne (Ne.symm hki)]; exact ho k ⟨o', e'⟩
    · obtain ⟨a, w, h1, h2, h3, h4, h5, h6⟩ := R.ac j o' e
      have hjo : σ[j]? ≠ some (some (.ref p)) := ho j ⟨o', e⟩
      refine ⟨a, w, by rw [List.getElem?_set_ne (Ne.symm hj)]; exact h1, h2, h3, h4, h5, fun k hk ⟨o', ek⟩ => ?_⟩
      rcases get_set ek with ⟨z, hl, _⟩ | ⟨hki, e'⟩
      · subst z
        rw [List.getElem?_set_self (by rw [← R.len]; exact hl)]
        intro q
        exact hjo (h1.trans q.symm)
      · rw [List.getElem?_set_ne (Ne.symm hki)]; exact h6 k hk ⟨o', e'⟩
  bo := fun j o e => by
    rcases get_set e with ⟨rfl, _, e⟩ | ⟨hj, e⟩
    · cases e
    · obtain ⟨h1, h2, h3⟩ := R.bo j o e
      exact ⟨h1, by rw [List.getElem?_set_ne (Ne.symm hj)]; exact h2, h3⟩
  bb := fun j e => by
    obtain ⟨o, h⟩ := R.bb j e
    refine ⟨o, ?_⟩
    rw [List.getElem?_set_ne (fun z => hi (by rw [z]; exact e))]; exact h
/-- an own object is told from now on, its slot holds data -/
theorem Rl.freeze (R : Rl K F Γ σ H G) {i : Nat} {o : OD} (h : Γ[i]? = some (.acc o)) : ∃ v G', σ[i]? = some (some v) ∧ Rl K F (Γ.set i (.im o.d)) σ H G' ∧ Le G G' ∧ Rep K G' o.d v := by
  obtain ⟨a, u, h1, h2, h3, h4, h5, h6⟩ := R.ac i o h
  have hb : F.bi ≠ some i := fun z => by
    obtain ⟨o', e⟩ := R.bb i z
    rw [h] at e; cases e
  have R1 : Rl K F (Γ.set i .no) (σ.set i (some (.ref a))) H G := R.setNo hb
  have eσ : σ.set i (some (.ref a)) = σ := by
    refine List.ext_getElem? fun j => ?_
    by_cases e : i = j
    · subst e
      rw [List.getElem?_set_self (List.getElem?_eq_some_iff.mp h1).1, h1]
    · rw [List.getElem?_set_ne e]
  rw [eσ] at R1
  have R2 : Rl K F (Γ.set i .no) σ H (upd G a u) := R1.tell h2 h4 h3 fun j ⟨o', e⟩ => by
    rcases get_set e with ⟨_, _, e⟩ | ⟨hj, e⟩
    · cases e
    · exact h6 j hj ⟨o', e⟩
  have rp : Rep K (upd G a u) o.d (.ref a) := h5.rep (Le.upd h3) upd_same
  have R3 := R2.setIm (i := i) (d := o.d) hb rp
  rw [List.set_set, eσ] at R3
  exact ⟨.ref a, _, h1, R3, Le.upd h3, rp⟩
/-- an own object is changed -/
theorem Rl.setOwn (R : Rl K F Γ σ H G) {i : Nat} {o o' : OD} {p : Addr} {u' : HO} (h : Γ[i]? = some (.acc o)) (hp : σ[i]? = some (some (.ref p))) (r : ORep K G o' u') : Rl K F (Γ.set i (.acc o')) σ (upd H p u') G := by
  obtain ⟨a, u, h1, h2, h3, h4, h5, h6⟩ := R.ac i o h
  rw [hp] at h1
  cases h1
  have hb : F.bi ≠ some i := fun z => by
    obtain ⟨o', e⟩ := R.bb i z
    rw [h] at e; cases e
  refine ⟨by rw [List.length_set]; exact R.len, fun a x e => ?_, R.ge, fun a x e q => ?_, R.gn, fun j d e => ?_, fun j ob e => ?_, fun j ob e => ?_, fun j e => ?_⟩
  · rw [upd_ne (ne_of_none e h3)]; exact R.gh a x e
  · rw [upd_ne (ne_of_none e h4)]; exact R.he a x e q
  · rcases get_set e with ⟨_, _, e⟩ | ⟨_, e⟩
    · cases e
    · exact R.sl j d e
  · rcases get_set e with ⟨rfl, hl, e⟩ | ⟨hj, e⟩
    · cases e
      refine ⟨p, u', hp, upd_same, h3, h4, r, fun k hk ⟨ok, ek⟩ => ?_⟩
      rcases get_set ek with ⟨z, _, _⟩ | ⟨_, e⟩
      · exact absurd z hk
      · exact h6 k hk ⟨ok, e⟩
    · obtain ⟨a, w, g1, g2, g3, g4, g5, g6⟩ := R.ac j ob e
      have ne : a ≠ p := fun z => by subst z; exact h6 j hj ⟨ob, e⟩ g1
      refine ⟨a, w, g1, by rw [upd_ne ne]; exact g2, g3, g4, g5, fun k hk ⟨ok, ek⟩ => ?_⟩
      rcases get_set ek with ⟨z, _, _⟩ | ⟨_, e⟩
      · subst z; rw [hp]; intro q; cases q; exact ne rfl
      · exact g6 k hk ⟨ok, e⟩
  · rcases get_set e with ⟨_, _, e⟩ | ⟨hj, e⟩
    · cases e
    · obtain ⟨g1, g2, ⟨w, g3⟩, g4, x, g5, g6⟩ := R.bo j ob e
      exact ⟨g1, g2, ⟨w, g3⟩, g4, x, by rw [upd_ne (ne_of_none g3 h4)]; exact g5, g6⟩
  · obtain ⟨o, e2⟩ := R.bb j e
    exact ⟨o, by rw [List.getElem?_set_ne (fun z => hb (by rw [z]; exact e))]; exact e2⟩
/-- the lent object is changed -/
theorem Rl.setBor (R : Rl K F Γ σ H G) {i : Nat} {o o' : OD} {u' : HO} (h : Γ[i]? = some (.bor o)) (r : ORep K G o' u') : Rl K F (Γ.set i (.bor o')) σ (upd H F.ba u') G := by
  obtain ⟨h1, h2, ⟨w, h3⟩, h4, u, h5, h6⟩ := R.bo i o h
  refine ⟨by rw [List.length_set]; exact R.len, fun a x e => ?_, R.ge, fun a x e q => ?_, R.gn, fun j d e => ?_, fun j ob e => ?_, fun j ob e => ?_, fun j e => ?_⟩
  · rw [upd_ne (ne_of_none e h4)]; exact R.gh a x e
  · rcases q with q | q
    · rw [h1] at q; cases q
    · rw [upd_ne q]; exact R.he a x e (.inr q)
  · rcases get_set e with ⟨_, _, e⟩ | ⟨_, e⟩
    · cases e
    · exact R.sl j d e
  · rcases get_set e with ⟨_, _, e⟩ | ⟨hj, e⟩
    · cases e
    · obtain ⟨a, w', g1, g2, g3, g4, g5, g6⟩ := R.ac j ob e
      have ne : a ≠ F.ba := fun z => by rw [z, h3] at g4; cases g4
      refine ⟨a, w', g1, by rw [upd_ne ne]; exact g2, g3, g4, g5, fun k hk ⟨ok, ek⟩ => ?_⟩
      rcases get_set ek with ⟨_, _, e⟩ | ⟨_, e⟩
      · cases e
      · exact g6 k hk ⟨ok, e⟩
  · rcases get_set e with ⟨rfl, hl, e⟩ | ⟨hj, e⟩
    · cases e
      exact ⟨h1, h2, ⟨w, h3⟩, h4, u', upd_same, r⟩
    · obtain ⟨g1, _⟩ := R.bo j ob e
      rw [h1] at g1; cases g1; exact absurd rfl hj
  · rw [h1] at e; cases e
    exact ⟨o', List.getElem?_set_self (List.getElem?_eq_some_iff.mp h).1⟩
end
end FL

namespace FL
open PySem PySem.Spec PyProof.Rows L2
abbrev Rel (α β : Type) := St → Hp → α → β → Prop
def Rel.Mono {α β : Type} (r : Rel α β) : Prop := ∀ σ G G' a b, Le G G' → r σ G a b → r σ G' a b
/-- how a piece's end is wished: T Q says that the machine's piece ends in Q -/
def Out {α β : Type} (K : Frg) (W : WX) (rel : Rel α β) (F : Fr) (σ : St) (G : Hp) (T : (β → Hp → Prop) → Prop) : O α → Prop
  | .ok a Γ' => ∀ Q : β → Hp → Prop, (∀ b H' G', Rl K F Γ' σ H' G' → Le G G' → rel σ G' a b → Q b H') → T Q
  | .exc c ns fs Γ' => ∀ Q : β → Hp → Prop, (∀ cls dx H' G', Rl K F Γ' σ H' G' → Le G G' → XRep K G' c ns fs cls dx → W cls dx σ H') → T Q
  | .fail => True
/-- a piece as a plain function: α its result, β what the machine has for it -/
def Sem {α β : Type} (K : Frg) (W : WX) (rel : Rel α β) (t : St → Hp → (β → Hp → Prop) → Prop) (f : En → O α) : Prop := ∀ (F : Fr) (Γ : En) (σ : St) (H G : Hp), Rl K F Γ σ H G → Out K W rel F σ G (t σ H) (f Γ)
/-- .. behind a piece whose result is known -/
def SemK {α β α' β' : Type} (K : Frg) (W : WX) (rel : Rel α β) (rel' : Rel α' β') (t : β → St → Hp → (β' → Hp → Prop) → Prop) (f : α → En → O α') : Prop := ∀ (F : Fr) (Γ : En) (σ : St) (H G : Hp) (a : α) (b : β), Rl K F Γ σ H G → rel σ G a b → Out K W rel' F σ G (t b σ H) (f a Γ)
section
variable {α β α' β' α2 β2 : Type} {K : Frg} {W : WX} {rel : Rel α β} {rel' : Rel α' β'} {rel2 : Rel α2 β2} {F : Fr} {σ : St} {G : Hp}
/-- the end goes on from a state that is known when the piece ahead has ended -/
theorem Out.of {T T' : (β → Hp → Prop) → Prop} : ∀ {r : O α}, Out K W rel F σ G T r → (∀ Q, T Q → T' Q) → Out K W rel F σ G T' r
  | .ok _ _, h, k => fun Q q => k Q (h Q q)
  | .exc _ _ _ _, h, k => fun Q q => k Q (h Q q)
  | .fail, _, _ => trivial
theorem Out.bind {T : (β → Hp → Prop) → Prop} {T' : β → Hp → (β' → Hp → Prop) → Prop} {g : α → En → O α'} : ∀ {r : O α}, Out K W rel F σ G T r →
    (∀ a Γ1 b H1 G1, Rl K F Γ1 σ H1 G1 → Le G G1 → rel σ G1 a b → Out K W rel' F σ G1 (T' b H1) (g a Γ1)) → Out K W rel' F σ G (fun Q => T fun b H1 => T' b H1 Q) (r.bind g)
  | .fail, _, _ => trivial
  | .exc _ _ _ _, h, _ => fun Q q => h _ q
  | .ok a Γ1, h, k => by
    show Out K W rel' F σ G _ (g a Γ1)
    cases e2 : g a Γ1 with
    | fail => trivial
    | exc c ns fs Γ' =>
      intro Q q
      refine h _ fun b H1 G1 R1 le1 r1 => ?_
      have h2 := k a Γ1 b H1 G1 R1 le1 r1
      rw [e2] at h2
      exact h2 Q fun cls dx H' G' R' le' x => q cls dx H' G' R' (le1.trans le') x
    | ok a' Γ' =>
      intro Q q
      refine h _ fun b H1 G1 R1 le1 r1 => ?_
      have h2 := k a Γ1 b H1 G1 R1 le1 r1
      rw [e2] at h2
      exact h2 Q fun b' H' G' R' le' x => q b' H' G' R' (le1.trans le') x
theorem Sem.bind {t : St → Hp → (β → Hp → Prop) → Prop} {f : En → O α} {T : β → St → Hp → (β' → Hp → Prop) → Prop} {g : α → En → O α'} (h : Sem K W rel t f) (k : SemK K W rel rel' T g) :
    Sem K W rel' (fun σ H Q => t σ H fun b H1 => T b σ H1 Q) (fun Γ => (f Γ).bind g) := fun F Γ σ H G R =>
  (h F Γ σ H G R).bind (T' := fun b H1 Q => T b σ H1 Q) fun a Γ1 b H1 G1 R1 _ r1 => k F Γ1 σ H1 G1 a b R1 r1
theorem SemK.bind {t : β → St → Hp → (β' → Hp → Prop) → Prop} {f : α → En → O α'} {T : β → β' → St → Hp → (β2 → Hp → Prop) → Prop} {g : α → α' → En → O α2} (m : rel.Mono) (h : SemK K W rel rel' t f)
    (k : ∀ (F : Fr) (Γ : En) (σ : St) (H G : Hp) (a : α) (b : β) (a' : α') (b' : β'), Rl K F Γ σ H G → rel σ G a b → rel' σ G a' b' → Out K W rel2 F σ G (T b b' σ H) (g a a' Γ)) :
    SemK K W rel rel2 (fun b σ H Q => t b σ H fun b' H1 => T b b' σ H1 Q) (fun a Γ => (f a Γ).bind (g a)) := fun F Γ σ H G a b R r =>
  (h F Γ σ H G a b R r).bind (T' := fun b' H1 Q => T b b' σ H1 Q) fun a' Γ1 b' H1 G1 R1 le1 r1 => k F Γ1 σ H1 G1 a b a' b' R1 (m _ _ _ _ _ le1 r) r1
/-- a piece that does not look at what is known -/
theorem Sem.toK {t : St → Hp → (β' → Hp → Prop) → Prop} {f : En → O α'} (h : Sem K W rel' t f) : SemK K W rel rel' (fun _ => t) (fun _ => f) := fun F Γ σ H G _ _ R _ => h F Γ σ H G R
end
/-- the value that an EV shows -/
def vrel (K : Frg) : Rel EV V := fun σ G ev v => match ev with
  | .d x => Rep K G x v
  | .own i => σ[i]? = some (some v)
theorem vrel_mono (K : Frg) : (vrel K).Mono := fun σ G G' a b le r => by
  cases a with
  | d x => exact Rep.le le x b r
  | own i => exact r
def vsrel (K : Frg) : Rel (List EV) (List V) := fun σ G es vs => Paired (vrel K σ G) es vs
theorem vsrel_mono (K : Frg) : (vsrel K).Mono := fun σ G G' a b le r => by
  unfold vsrel at r ⊢
  induction r with
  | nil => exact .nil
  | cons h _ ih => exact .cons (vrel_mono K _ _ _ _ _ le h) ih
structure FE (X : Cx) (W : WX) (e : Expr) (f : EF) : Prop where
  ex : ∃ t, PE X e t ∧ Sem X.K W (vrel X.K) t f
abbrev TF := En → O Bool
abbrev AF := En → O (List EV)
def eqrel {α : Type} : Rel α α := fun _ _ a b => b = a
theorem eqrel_mono {α : Type} : (eqrel (α := α)).Mono := fun _ _ _ _ _ _ h => h
structure FT (X : Cx) (W : WX) (e : Expr) (f : TF) : Prop where
  ex : ∃ t, PT X e t ∧ Sem X.K W eqrel t f
structure FW (X : Cx) (W : WX) (e : Expr) (f : TF) : Prop where
  ex : ∃ t, PW X e t ∧ Sem X.K W eqrel t f
structure FA (X : Cx) (W : WX) (es : List Expr) (f : AF) : Prop where
  ex : ∃ t, PA X es t ∧ Sem X.K W (vsrel X.K) t f
/-- data at the top of which an own object may stand -/
def LRep (K : Frg) (G H : Hp) (d : D) (v : V) : Prop := Rep K G d v ∨ ∃ (a : Addr) (u : HO) (o : OD), v = .ref a ∧ d = o.d ∧ H a = some u ∧ ORep K G o u
theorem LRep.rep {K : Frg} {G H : Hp} (le : Le G H) {d : D} {v : V} (h : LRep K G H d v) : Rep K H d v := by
  rcases h with h | ⟨a, u, o, rfl, rfl, hu, r⟩
  · exact Rep.le le d v h
  · exact r.rep le hu
theorem Rl.look {K : Frg} {F : Fr} {Γ : En} {σ : St} {H G : Hp} (R : Rl K F Γ σ H G) {ev : EV} {v : V} {x : D} (r : vrel K σ G ev v) (e : ev.look Γ = some x) : LRep K G H x v := by
  cases ev with
  | d y => cases e; exact .inl r
  | own i =>
    obtain ⟨o, e1, rfl⟩ := Option.map_eq_some_iff.mp (show (ownD Γ i).map OD.d = some x from e)
    have r : σ[i]? = some (some v) := r
    unfold ownD at e1
    split at e1
    · rename_i o' h
      cases e1
      obtain ⟨a, u, h1, h2, _, _, h5, _⟩ := R.ac i o h
      rw [r] at h1
      cases h1
      exact .inr ⟨a, u, o, rfl, rfl, h2, h5⟩
    · rename_i o' h
      cases e1
      obtain ⟨_, h2, _, _, u, h5, h6⟩ := R.bo i o h
      rw [r] at h2
      cases h2
      exact .inr ⟨_, u, o, rfl, rfl, h5, h6⟩
    · cases e1
/-- a list at hand: its items -/
theorem LRep.lst {K : Frg} {G H : Hp} (le : Le G H) {ds : List D} {v : V} (h : LRep K G H (.lst ds) v) : ∃ a vs, v = .ref a ∧ H a = some (.lst vs) ∧ Reps K G ds vs := by
  rcases h with ⟨a, vs, rfl, h, r⟩ | ⟨a, u, o, rfl, e, hu, r⟩
  · exact ⟨a, vs, rfl, le _ _ h, r⟩
  · cases o with
    | l xs =>
      cases e
      obtain ⟨vs, rfl, r⟩ := r
      exact ⟨a, vs, rfl, hu, r⟩
    | k _ _ => cases e
    | i _ _ _ => cases e
theorem LRep.flat {K : Frg} {G H : Hp} {d : D} {v : V} (h : LRep K G H d v) (n : ∀ o : OD, d ≠ o.d) : Rep K G d v := by
  rcases h with h | ⟨a, u, o, _, e, _⟩
  · exact h
  · exact absurd e (n o)
theorem LRep.tup {K : Frg} {G H : Hp} {ds : List D} {v : V} (h : LRep K G H (.tup ds) v) : ∃ a vs, v = .ref a ∧ SqT K G a vs ∧ Reps K G ds vs := h.flat (fun o => by cases o <;> (intro z; cases z))
theorem LRep.int {K : Frg} {G H : Hp} {i : Int} {v : V} (h : LRep K G H (.int i) v) : v = .int i := h.flat (fun o => by cases o <;> (intro z; cases z))
theorem LRep.str {K : Frg} {G H : Hp} {x : Str} {v : V} (h : LRep K G H (.str x) v) : v = .str x := h.flat (fun o => by cases o <;> (intro z; cases z))
theorem LRep.bl {K : Frg} {G H : Hp} {x : Bool} {v : V} (h : LRep K G H (.bl x) v) : v = .bl x := h.flat (fun o => by cases o <;> (intro z; cases z))
theorem LRep.non {K : Frg} {G H : Hp} {v : V} (h : LRep K G H .non v) : v = .non := h.flat (fun o => by cases o <;> (intro z; cases z))
/-- what is wanted behind a piece that gives x, the slots as they are -/
def Kont (K : Frg) (F : Fr) (Γ : En) (σ : St) (G : Hp) (x : D) (Q : VK) : Prop := ∀ v H' G', Rl K F Γ σ H' G' → Le G G' → Rep K G' x v → Q v H'
end FL

/-! part F2 -/
set_option Elab.async false
set_option linter.all false
set_option maxRecDepth 100000
set_option maxHeartbeats 4000000
namespace FL
open PySem PySem.Spec PyProof.Rows L2
variable {X : Cx} {W : WX} {e a b c : Expr} {f g f1 f2 f3 : EF} {pos : Pos}
def cE (x : D) : EF := fun Γ => .ok (.d x) Γ
def vE (i : Nat) : EF := fun Γ => match Γ[i]? with
  | some (.im x) => .ok (.d x) Γ
  | some (.acc _) => .ok (.own i) Γ
  | some (.bor _) => .ok (.own i) Γ
  | _ => .fail
theorem sem_c {K : Frg} {x : D} {v : V} (h : ∀ G, Rep K G x v) : Sem K W (vrel K) (tC v) (cE x) := fun F Γ σ H G R Q q => q v H G R (Le.refl G) (h G)
theorem fe_int {i : Int} {j pos} : FE X W (.Constant (.int i) j pos) (cE (.int i)) := ⟨_, pe_int, sem_c fun _ => rfl⟩
theorem fe_bl {b : Bool} {j pos} : FE X W (.Constant (.bool b) j pos) (cE (.bl b)) := ⟨_, pe_bl, sem_c fun _ => rfl⟩
theorem fe_non {j pos} : FE X W (.Constant .none j pos) (cE .non) := ⟨_, pe_non, sem_c fun _ => rfl⟩
theorem fe_str {x : Str} {j pos} : FE X W (.Constant (.str x) j pos) (cE (.str x)) := ⟨_, pe_str, sem_c fun _ => rfl⟩
/-- a constant of the module -/
def GK (X : Cx) (x : Str) (d : D) : Prop := ∃ (v : V) (u : Value), X.mg x = some u ∧ RelV v u ∧ ∀ G, Rep X.K G d v
theorem fe_glob {x : Str} {d : D} (h : GK X x d) (hg : Gl X x := by rfl) (hd : (x == ("__debug__" : Str)) = false := by decide) : FE X W (.Name x pos) (cE d) := by
  obtain ⟨v, u, hm, r, k⟩ := h
  exact ⟨_, pe_glob hg hm r hd, sem_c k⟩
theorem fe_var {i : Nat} {x : Str} (hN : X.N[i]? = some x) (hv : Vis X.env.scope x) (hd : (x == ("__debug__" : Str)) = false := by decide) (hcd : (x == ("__classdict__" : Str)) = false := by decide) : FE X W (.Name x pos) (vE i) := by
  refine ⟨_, pe_var hN hv hd hcd, fun F Γ σ H G R => ?_⟩
  unfold vE
  split
  · rename_i x' hx
    intro Q q
    obtain ⟨v, h1, h2⟩ := R.sl i _ hx
    exact ⟨v, h1, q v H G R (Le.refl G) h2⟩
  · rename_i o hx
    intro Q q
    obtain ⟨p, u, h1, _⟩ := R.ac i _ hx
    exact ⟨_, h1, q _ H G R (Le.refl G) h1⟩
  · rename_i o hx
    intro Q q
    obtain ⟨_, h1, _⟩ := R.bo i _ hx
    exact ⟨_, h1, q _ H G R (Le.refl G) h1⟩
  · trivial
def fin2 (g : D → D → Option D) (e1 e2 : EV) (Γ : En) : O EV := match e1.look Γ, e2.look Γ with
  | some d1, some d2 => (match g d1 d2 with | some x => .ok (.d x) Γ | none => .fail)
  | _, _ => .fail
def op2 (g : D → D → Option D) (f1 f2 : EF) : EF := fun Γ => (f1 Γ).bind fun e1 Γ1 => (f2 Γ1).bind fun e2 Γ2 => fin2 g e1 e2 Γ2
/-- what an operator does with data -/
def Op2 (X : Cx) (r : R2) (g : D → D → Option D) : Prop := ∀ (F : Fr) (Γ : En) (σ : St) (H G : Hp) (d1 d2 : D) (v1 v2 : V) (x : D) (Q : VK), Rl X.K F Γ σ H G → LRep X.K G H d1 v1 → LRep X.K G H d2 v2 → g d1 d2 = some x →
  Kont X.K F Γ σ G x Q → r v1 v2 H Q
theorem out_fin2 {r : R2} {g : D → D → Option D} (ho : Op2 X r g) {F : Fr} {Γ : En} {σ : St} {H G : Hp} {a1 a2 : EV} {b1 b2 : V} (R : Rl X.K F Γ σ H G) (r1 : vrel X.K σ G a1 b1) (r2 : vrel X.K σ G a2 b2) :
    Out X.K W (vrel X.K) F σ G (fun Q => r b1 b2 H Q) (fin2 g a1 a2 Γ) := by
  unfold fin2
  split
  · rename_i d1 d2 e1 e2
    split
    · rename_i x e3
      exact fun Q q => ho F Γ σ H G d1 d2 b1 b2 x Q R (R.look r1 e1) (R.look r2 e2) e3 q
    · trivial
  · trivial
theorem sem_op2 {r : R2} {g : D → D → Option D} {t1 t2 : TE} (ho : Op2 X r g) (h1 : Sem X.K W (vrel X.K) t1 f1) (h2 : Sem X.K W (vrel X.K) t2 f2) : Sem X.K W (vrel X.K) (tOp r t1 t2) (op2 g f1 f2) := by
  refine Sem.bind (T := fun b σ H Q => t2 σ H fun b' H1 => r b b' H1 Q) h1 (SemK.bind (T := fun b b' σ H Q => r b b' H Q) (vrel_mono X.K) h2.toK fun F Γ σ H G a1 b1 a2 b2 R r1 r2 => out_fin2 ho R r1 r2)
theorem fe_op {op : Operator} {r : R2} {g : D → D → Option D} (ho : OpR X (binaryOp op) r) (hs : Op2 X r g) (ha : FE X W a f1) (hb : FE X W b f2) : FE X W (.BinOp a op b pos) (op2 g f1 f2) := by
  obtain ⟨t1, p1, s1⟩ := ha
  obtain ⟨t2, p2, s2⟩ := hb
  exact ⟨_, pe_op ho p1 p2, sem_op2 hs s1 s2⟩
theorem fe_cmp {op : CmpOp} {r : R2} {g : D → D → Option D} (ho : OpR X (compareOp op) r) (hs : Op2 X r g) (ha : FE X W a f1) (hb : FE X W b f2) (hm : behindInMarks op b = false) : FE X W (.Compare a [op] [b] pos) (op2 g f1 f2) := by
  obtain ⟨t1, p1, s1⟩ := ha
  obtain ⟨t2, p2, s2⟩ := hb
  exact ⟨_, pe_cmpR ho p1 p2 hm, sem_op2 hs s1 s2⟩
/-- one of two operators' rules -/
theorem OpR.or3 {f : Value → Value → PySem.Sem Value} {r1 r2 : R2} (h1 : OpR X f r1) (h2 : OpR X f r2) : OpR X f (fun x y H Q => r1 x y H Q ∨ r2 x y H Q) := h1.or h2
def addD : D → D → Option D
  | .int i, .int j => some (.int (i + j))
  | .str x, .str y => if x.length + y.length ≤ sizeLine then some (.str (x ++ y)) else none
  | .lst xs, .lst ys => if xs.length + ys.length ≤ sizeLine then some (.lst (xs ++ ys)) else none
  | .tup xs, .tup ys => if xs.length + ys.length ≤ sizeLine then some (.tup (xs ++ ys)) else none
  | _, _ => none
def rAddA (K : Frg) : R2 := fun x y H Q => (∃ i j, x = .int i ∧ y = .int j ∧ Q (.int (i + j)) H) ∨ (∃ i j, x = .str i ∧ y = .str j ∧ i.length + j.length ≤ sizeLine ∧ Q (.str (i ++ j)) H) ∨ rCat x y H Q ∨ rCatA K x y H Q
theorem op_addA : OpR X (binaryOp .Add) (rAddA X.K) := op_add.or (op_add_str.or (op_cat.or op_catA))
theorem add_ok : Op2 X (rAddA X.K) addD := by
  intro F Γ σ H G d1 d2 v1 v2 x Q R r1 r2 e q
  unfold addD at e
  split at e
  · cases e
    exact .inl ⟨_, _, r1.int, r2.int, q _ _ _ R (Le.refl G) rfl⟩
  · split at e
    · rename_i hz
      cases e
      exact .inr (.inl ⟨_, _, r1.str, r2.str, hz, q _ _ _ R (Le.refl G) rfl⟩)
    · cases e
  · split at e
    · rename_i hz
      cases e
      obtain ⟨l1, vs1, rfl, h1, q1⟩ := r1.lst R.gh
      obtain ⟨l2, vs2, rfl, h2, q2⟩ := r2.lst R.gh
      refine .inr (.inr (.inl ⟨l1, l2, vs1, vs2, rfl, rfl, h1, h2, by rw [q1.len, q2.len]; exact hz, fun p hp => ?_⟩))
      exact q _ _ _ (R.new hp) (Le.upd (R.gNone hp)) ⟨p, _, rfl, upd_same, Reps.le (Le.upd (R.gNone hp)) _ _ (q1.append q2)⟩
    · cases e
  · split at e
    · rename_i hz
      cases e
      obtain ⟨l1, vs1, rfl, h1, q1⟩ := r1.tup
      obtain ⟨l2, vs2, rfl, h2, q2⟩ := r2.tup
      refine .inr (.inr (.inr ⟨l1, l2, vs1, vs2, rfl, rfl, SqT.le R.gh h1, SqT.le R.gh h2, by rw [q1.len, q2.len]; exact hz, fun z => ?_, fun z1 z2 => ?_, fun _ _ p hp => ?_⟩))
      · subst z
        have := q1.append q2
        exact q _ _ _ R (Le.refl G) ⟨l2, _, rfl, by simpa using h2, by simpa using this⟩
      · subst z2
        have := q1.append q2
        exact q _ _ _ R (Le.refl G) ⟨l1, _, rfl, by simpa using h1, by simpa using this⟩
      · exact q _ _ _ (R.new hp) (Le.upd (R.gNone hp)) ⟨p, _, rfl, .of upd_same, Reps.le (Le.upd (R.gNone hp)) _ _ (q1.append q2)⟩
    · cases e
  · cases e
def intD (P : Int → Int → Bool) (g : Int → Int → D) : D → D → Option D
  | .int i, .int j => if P i j then some (g i j) else none
  | _, _ => none
theorem int_ok {C : Int → Int → Prop} {P : Int → Int → Bool} {g : Int → Int → V} {k : Int → Int → D} (hP : ∀ i j, P i j = true → C i j) (hk : ∀ G i j, Rep X.K G (k i j) (g i j)) : Op2 X (rI C g) (intD P k) := by
  intro F Γ σ H G d1 d2 v1 v2 x Q R r1 r2 e q
  unfold intD at e
  split at e
  · split at e
    · rename_i hz
      cases e
      exact ⟨_, _, r1.int, r2.int, hP _ _ hz, q _ _ _ R (Le.refl G) (hk _ _ _)⟩
    · cases e
  · cases e
theorem int0_ok {g : Int → Int → V} {k : Int → Int → D} (hk : ∀ G i j, Rep X.K G (k i j) (g i j)) : Op2 X (rI0 g) (intD (fun _ _ => true) k) := by
  intro F Γ σ H G d1 d2 v1 v2 x Q R r1 r2 e q
  unfold intD at e
  split at e
  · cases e
    exact ⟨_, _, r1.int, r2.int, q _ _ _ R (Le.refl G) (hk _ _ _)⟩
  · cases e
def subD := intD (fun _ _ => true) fun i j => .int (i - j)
def modD := intD (fun _ j => decide (0 < j)) fun i j => .int (i % j)
def fdivD := intD (fun _ j => decide (0 < j ∧ j < 1073741824)) fun i j => .int (i / j)
def powD := intD (fun i j => decide (0 ≤ j ∧ j ≤ 1000000 ∧ i.natAbs < 2 ^ 64)) fun i j => .int (i ^ j.toNat)
def ltD := intD (fun _ _ => true) fun i j => .bl (decide (i < j))
def leD := intD (fun _ _ => true) fun i j => .bl (decide (i ≤ j))
def gtD := intD (fun _ _ => true) fun i j => .bl (decide (j < i))
def geD := intD (fun _ _ => true) fun i j => .bl (decide (j ≤ i))
section
variable (ha : FE X W a f1) (hb : FE X W b f2)
include ha hb
theorem fe_add : FE X W (.BinOp a .Add b pos) (op2 addD f1 f2) := fe_op op_addA add_ok ha hb
theorem fe_sub : FE X W (.BinOp a .Sub b pos) (op2 subD f1 f2) := fe_op op_sub (int0_ok fun _ _ _ => rfl) ha hb
theorem fe_mod : FE X W (.BinOp a .Mod b pos) (op2 modD f1 f2) := fe_op op_mod (int_ok (fun _ _ h => of_decide_eq_true h) fun _ _ _ => rfl) ha hb
theorem fe_fdiv : FE X W (.BinOp a .FloorDiv b pos) (op2 fdivD f1 f2) := fe_op op_fdiv (int_ok (P := fun _ j => decide (0 < j ∧ j < 1073741824)) (fun _ _ h => of_decide_eq_true (p := 0 < _ ∧ _ < 1073741824) h) fun _ _ _ => rfl) ha hb
theorem fe_pow : FE X W (.BinOp a .Pow b pos) (op2 powD f1 f2) := fe_op op_pow (int_ok (P := fun i j => decide (0 ≤ j ∧ j ≤ 1000000 ∧ i.natAbs < 2 ^ 64)) (fun i j h => of_decide_eq_true (p := 0 ≤ j ∧ j ≤ 1000000 ∧ i.natAbs < 2 ^ 64) h) fun _ _ _ => rfl) ha hb
theorem fe_lt : FE X W (.Compare a [.Lt] [b] pos) (op2 ltD f1 f2) := fe_cmp op_lt (int0_ok fun _ _ _ => rfl) ha hb (nomark _)
theorem fe_le : FE X W (.Compare a [.LtE] [b] pos) (op2 leD f1 f2) := fe_cmp op_le (int0_ok fun _ _ _ => rfl) ha hb (nomark _)
theorem fe_gt : FE X W (.Compare a [.Gt] [b] pos) (op2 gtD f1 f2) := fe_cmp op_gt (int0_ok fun _ _ _ => rfl) ha hb (nomark _)
theorem fe_ge : FE X W (.Compare a [.GtE] [b] pos) (op2 geD f1 f2) := fe_cmp op_ge (int0_ok fun _ _ _ => rfl) ha hb (nomark _)
end
def mulD : D → D → Option D
  | .int i, .int j => if (-(2 ^ 64) < i ∧ i < 2 ^ 64) ∨ (-(2 ^ 64) < j ∧ j < 2 ^ 64) then some (.int (i * j)) else none
  | .lst xs, .int k => if -(2 ^ 63) ≤ k ∧ k < 2 ^ 63 ∧ xs.length * k.toNat ≤ sizeLine then some (.lst (List.replicate k.toNat xs).flatten) else none
  | .tup xs, .int k => if xs ≠ [] ∧ 2 ≤ k ∧ k ≤ 1000 ∧ xs.length ≤ 1000 then some (.tup (List.replicate k.toNat xs).flatten) else none
  | _, _ => none
def rMulA (K : Frg) : R2 := fun x y H Q => (rI CMul fun i j => .int (i * j)) x y H Q ∨ rRep x y H Q ∨ rRepT K x y H Q
theorem op_mulA : OpR X (binaryOp .Mult) (rMulA X.K) := op_mul.or (op_rep.or op_repT)
theorem mul_ok : Op2 X (rMulA X.K) mulD := by
  intro F Γ σ H G d1 d2 v1 v2 x Q R r1 r2 e q
  unfold mulD at e
  split at e
  · split at e
    · rename_i hz
      cases e
      exact .inl ⟨_, _, r1.int, r2.int, hz, q _ _ _ R (Le.refl G) rfl⟩
    · cases e
  · split at e
    · rename_i hz
      cases e
      obtain ⟨l1, vs1, rfl, h1, q1⟩ := r1.lst R.gh
      refine .inr (.inl ⟨l1, _, vs1, rfl, r2.int, h1, hz.1, hz.2.1, by rw [q1.len]; exact hz.2.2, fun p hp => ?_⟩)
      exact q _ _ _ (R.new hp) (Le.upd (R.gNone hp)) ⟨p, _, rfl, upd_same, Reps.le (Le.upd (R.gNone hp)) _ _ (q1.rep _)⟩
    · cases e
  · split at e
    · rename_i hz
      cases e
      obtain ⟨l1, vs1, rfl, h1, q1⟩ := r1.tup
      refine .inr (.inr ⟨l1, _, vs1, rfl, r2.int, SqT.le R.gh h1, fun z => hz.1 ?_, hz.2.1, hz.2.2.1, by rw [q1.len]; exact hz.2.2.2, fun p hp => ?_⟩)
      · subst z
        have := q1.len
        exact List.length_eq_zero_iff.mp this.symm
      · exact q _ _ _ (R.new hp) (Le.upd (R.gNone hp)) ⟨p, _, rfl, .of upd_same, Reps.le (Le.upd (R.gNone hp)) _ _ (q1.rep _)⟩
    · cases e
  · cases e
theorem fe_mul (ha : FE X W a f1) (hb : FE X W b f2) : FE X W (.BinOp a .Mult b pos) (op2 mulD f1 f2) := fe_op op_mulA mul_ok ha hb
def eqP (x y : D) : Option Bool := match x.py, y.py with
  | some p, some q => if SeqAt.shaped p && SeqAt.shaped q then some (PyData.eqv p q) else none
  | _, _ => none
def eqB : D → D → Option Bool
  | .str a, .str b => some (decide (a = b))
  | x, y => eqP x y
def eqD (x y : D) : Option D := (eqB x y).map D.bl
def neD (x y : D) : Option D := (eqB x y).map fun b => D.bl !b
theorem eqB_dp {K : Frg} {F : Fr} {Γ : En} {σ : St} {H G : Hp} {x y : D} {v w : V} {b : Bool} (R : Rl K F Γ σ H G) (r1 : LRep K G H x v) (r2 : LRep K G H y w) (e : eqB x y = some b) :
    (scal v w = true ∧ decide (v = w) = b) ∨ ∃ p q, Dp K H v p ∧ Dp K H w q ∧ SeqAt.shaped p = true ∧ SeqAt.shaped q = true ∧ PyData.eqv p q = b := by
  unfold eqB at e
  split at e
  · rename_i s t
    cases e
    left
    rw [r1.str, r2.str]
    refine ⟨rfl, ?_⟩
    rw [Bool.eq_iff_iff, decide_eq_true_iff, decide_eq_true_iff]
    exact ⟨fun h => V.str.inj h, fun h => by rw [h]⟩
  · right
    unfold eqP at e
    split at e
    · rename_i p q h1 h2
      split at e
      · rename_i hs
        cases e
        obtain ⟨s1, s2⟩ := Bool.and_eq_true_iff.mp hs
        exact ⟨p, q, Rep.dp _ v p h1 (r1.rep R.gh), Rep.dp _ w q h2 (r2.rep R.gh), s1, s2, rfl⟩
      · cases e
    · cases e
theorem op_eqA (hu : X.A.units + 64 < cLine) : OpR X (compareOp .Eq) (fun x y H Q => rEq x y H Q ∨ rEqD X.K x y H Q) := op_eq.or (op_eqD hu)
theorem op_neA (hu : X.A.units + 64 < cLine) : OpR X (compareOp .NotEq) (fun x y H Q => rNe x y H Q ∨ rNeD X.K x y H Q) := op_ne.or (op_neD hu)
theorem eq_ok : Op2 X (fun x y H Q => rEq x y H Q ∨ rEqD X.K x y H Q) eqD := by
  intro F Γ σ H G d1 d2 v1 v2 x Q R r1 r2 e q
  obtain ⟨b, e', rfl⟩ := Option.map_eq_some_iff.mp (show (eqB d1 d2).map D.bl = some x from e)
  rcases eqB_dp R r1 r2 e' with ⟨h1, rfl⟩ | ⟨p, p', h1, h2, h3, h4, rfl⟩
  · exact .inl ⟨h1, q _ _ _ R (Le.refl G) rfl⟩
  · exact .inr ⟨p, p', h1, h2, h3, h4, q _ _ _ R (Le.refl G) rfl⟩
theorem ne_ok : Op2 X (fun x y H Q => rNe x y H Q ∨ rNeD X.K x y H Q) neD := by
  intro F Γ σ H G d1 d2 v1 v2 x Q R r1 r2 e q
  obtain ⟨b, e', rfl⟩ := Option.map_eq_some_iff.mp (show (eqB d1 d2).map (fun b => D.bl !b) = some x from e)
  rcases eqB_dp R r1 r2 e' with ⟨h1, rfl⟩ | ⟨p, p', h1, h2, h3, h4, rfl⟩
  · exact .inl ⟨h1, q _ _ _ R (Le.refl G) rfl⟩
  · exact .inr ⟨p, p', h1, h2, h3, h4, q _ _ _ R (Le.refl G) rfl⟩
theorem fe_eq (hu : X.A.units + 64 < cLine) (ha : FE X W a f1) (hb : FE X W b f2) : FE X W (.Compare a [.Eq] [b] pos) (op2 eqD f1 f2) := fe_cmp (op_eqA hu) eq_ok ha hb (nomark _)
theorem fe_ne (hu : X.A.units + 64 < cLine) (ha : FE X W a f1) (hb : FE X W b f2) : FE X W (.Compare a [.NotEq] [b] pos) (op2 neD f1 f2) := fe_cmp (op_neA hu) ne_ok ha hb (nomark _)
def D.isNon : D → Bool
  | .non => true
  | _ => false
theorem Rep.isNon {K : Frg} {G : Hp} {d : D} {v : V} (h : Rep K G d v) : decide (v = .non) = d.isNon := by
  cases d with
  | non => rw [show v = .non from h]; rfl
  | bl _ => rw [show v = .bl _ from h]; rfl
  | int _ => rw [show v = .int _ from h]; rfl
  | str _ => rw [show v = .str _ from h]; rfl
  | lst _ => obtain ⟨a, _, rfl, _⟩ := h; rfl
  | tup _ => obtain ⟨a, _, rfl, _⟩ := h; rfl
  | scr _ => obtain ⟨a, rfl, _⟩ := h; rfl
  | dk _ _ => obtain ⟨a, _, rfl, _⟩ := h; rfl
  | ins _ _ _ => obtain ⟨a, _, _, rfl, _⟩ := h; rfl
def isND (x y : D) : Option D := if y.isNon then some (.bl x.isNon) else none
def notND (x y : D) : Option D := if y.isNon then some (.bl (!x.isNon)) else none
theorem fe_isN {j p} (ha : FE X W a f1) : FE X W (.Compare a [.Is] [.Constant .none j p] pos) (op2 isND f1 (cE .non)) := by
  refine fe_cmp op_isN (fun F Γ σ H G d1 d2 v1 v2 x Q R r1 r2 e q => ?_) ha fe_non (nomark _)
  unfold isND at e
  split at e
  · rename_i h
    cases e
    refine ⟨?_, ?_⟩
    · have := (r2.rep R.gh).isNon
      rw [h] at this
      exact of_decide_eq_true this
    · rw [(r1.rep R.gh).isNon]
      exact q _ _ _ R (Le.refl G) rfl
  · cases e
theorem fe_notN {j p} (ha : FE X W a f1) : FE X W (.Compare a [.IsNot] [.Constant .none j p] pos) (op2 notND f1 (cE .non)) := by
  refine fe_cmp op_notN (fun F Γ σ H G d1 d2 v1 v2 x Q R r1 r2 e q => ?_) ha fe_non (nomark _)
  unfold notND at e
  split at e
  · rename_i h
    cases e
    refine ⟨?_, ?_⟩
    · have := (r2.rep R.gh).isNon
      rw [h] at this
      exact of_decide_eq_true this
    · rw [(r1.rep R.gh).isNon]
      exact q _ _ _ R (Le.refl G) rfl
  · cases e
end FL

/-! part F3 -/
set_option Elab.async false
set_option linter.all false
set_option maxRecDepth 100000
set_option maxHeartbeats 4000000
namespace FL
open PySem PySem.Spec PyProof.Rows L2
variable {X : Cx} {W : WX} {e a b c : Expr} {f g f1 f2 f3 : EF} {t1 t2 : TF} {pos : Pos}
def asB (ev : EV) (Γ : En) : O Bool := match ev with
  | .d (.bl k) => .ok k Γ
  | _ => .fail
/-- an expression that gives True or False, as a test -/
def tstE (f : EF) : TF := fun Γ => (f Γ).bind asB
theorem out_asB {K : Frg} {F : Fr} {Γ : En} {σ : St} {H G : Hp} {ev : EV} {v : V} (R : Rl K F Γ σ H G) (r : vrel K σ G ev v) : Out K W eqrel F σ G (fun Q => ∃ c, v = .bl c ∧ Q c H) (asB ev Γ) := by
  unfold asB
  split
  · exact fun Q q => ⟨_, r, q _ H G R (Le.refl G) rfl⟩
  · trivial
theorem sem_tst {K : Frg} {t : TE} (s : Sem K W (vrel K) t f) : Sem K W eqrel (fun σ H (Q : Bool → Hp → Prop) => t σ H fun x H1 => ∃ c, x = .bl c ∧ Q c H1) (tstE f) :=
  Sem.bind (T := fun x σ H Q => ∃ c, x = .bl c ∧ Q c H) s fun F Γ σ H G ev v R r => out_asB R r
theorem ft_val (h : FE X W e f) (he : ∀ whole, isTrue e X.env whole = (do let v ← whole; standAt e.pos; holding [v] (truthy v)) := by intro _; rfl) : FT X W e (tstE f) := by
  obtain ⟨t, p, s⟩ := h
  exact ⟨_, pt_val p he, sem_tst s⟩
/-- a comparison, as a test -/
theorem ft_cmp {op : CmpOp} {r : R2} {g : D → D → Option D} (ho : OpR X (compareOp op) r) (hs : Op2 X r g) (ha : FE X W a f1) (hb : FE X W b f2) (hm : behindInMarks op b = false) : FT X W (.Compare a [op] [b] pos) (tstE (op2 g f1 f2)) := by
  obtain ⟨u1, p1, s1⟩ := ha
  obtain ⟨u2, p2, s2⟩ := hb
  exact ⟨_, pt_cmpR ho p1 p2 hm, sem_tst (sem_op2 hs s1 s2)⟩
def andT (t1 t2 : TF) : TF := fun Γ => (t1 Γ).bind fun k Γ1 => if k then t2 Γ1 else .ok false Γ1
def orT (t1 t2 : TF) : TF := fun Γ => (t1 Γ).bind fun k Γ1 => if k then .ok true Γ1 else t2 Γ1
def notT (t : TF) : TF := fun Γ => (t Γ).bind fun k Γ1 => .ok (!k) Γ1
theorem ft_of (h : FW X W e t1) : FT X W e t1 := by
  obtain ⟨t, p, s⟩ := h
  exact ⟨t, p.pt, s⟩
theorem fw_and1 (ha : FT X W a t1) : FW X W (.BoolOp .And [a] pos) t1 := by
  obtain ⟨t, p, s⟩ := ha
  exact ⟨t, pw_and1 p, s⟩
theorem fw_or1 (ha : FT X W a t1) : FW X W (.BoolOp .Or [a] pos) t1 := by
  obtain ⟨t, p, s⟩ := ha
  exact ⟨t, pw_or1 p, s⟩
theorem sem_ite {K : Frg} {α β : Type} {rel : Rel α β} {u1 u2 : St → Hp → (β → Hp → Prop) → Prop} {g1 g2 : En → O α} (h1 : Sem K W rel u1 g1) (h2 : Sem K W rel u2 g2) :
    SemK K W eqrel rel (fun (b : Bool) σ H Q => if b = true then u1 σ H Q else u2 σ H Q) (fun (k : Bool) Γ => if k then g1 Γ else g2 Γ) := fun F Γ σ H G k k' R r => by
  cases (show k' = k from r)
  cases k with
  | true => simpa using h1 F Γ σ H G R
  | false => simpa using h2 F Γ σ H G R
theorem sem_okb {K : Frg} {k : Bool} : Sem K W eqrel (fun _ H Q => Q k H) (fun Γ => .ok k Γ) := fun F Γ σ H G R Q q => q k H G R (Le.refl G) rfl
theorem fw_and {rest : List Expr} (ha : FT X W a t1) (hb : FW X W (.BoolOp .And (b :: rest) pos) t2) : FW X W (.BoolOp .And (a :: b :: rest) pos) (andT t1 t2) := by
  obtain ⟨u1, p1, s1⟩ := ha
  obtain ⟨u2, p2, s2⟩ := hb
  exact ⟨_, pw_and p1 p2, Sem.bind (T := fun (b : Bool) σ H Q => if b = true then u2 σ H Q else Q false H) s1 (sem_ite s2 sem_okb)⟩
theorem fw_or {rest : List Expr} (ha : FT X W a t1) (hb : FW X W (.BoolOp .Or (b :: rest) pos) t2) : FW X W (.BoolOp .Or (a :: b :: rest) pos) (orT t1 t2) := by
  obtain ⟨u1, p1, s1⟩ := ha
  obtain ⟨u2, p2, s2⟩ := hb
  exact ⟨_, pw_or p1 p2, Sem.bind (T := fun (b : Bool) σ H Q => if b = true then Q true H else u2 σ H Q) s1 (sem_ite sem_okb s2)⟩
theorem ft_not (ha : FT X W a t1) : FT X W (.UnaryOp .Not a pos) (notT t1) := by
  obtain ⟨u1, p1, s1⟩ := ha
  refine ⟨_, pt_not p1, Sem.bind (T := fun c _ H Q => Q (!c) H) s1 fun F Γ σ H G k k' R r => ?_⟩
  cases (show k' = k from r)
  exact fun Q q => q _ H G R (Le.refl G) rfl
def andE (f1 f2 : EF) : EF := fun Γ => (tstE f1 Γ).bind fun k Γ1 => if k then f2 Γ1 else .ok (.d (.bl false)) Γ1
def orE (f1 f2 : EF) : EF := fun Γ => (tstE f1 Γ).bind fun k Γ1 => if k then .ok (.d (.bl true)) Γ1 else f2 Γ1
def notE (f : EF) : EF := fun Γ => (tstE f Γ).bind fun k Γ1 => .ok (.d (.bl (!k))) Γ1
theorem fe_one {op} (h : FE X W a f) : FE X W (.BoolOp op [a] pos) f := by
  obtain ⟨t, p, s⟩ := h
  exact ⟨t, pe_one p, s⟩
theorem fe_and {rest : List Expr} (ha : FE X W a f1) (hb : FE X W (.BoolOp .And (b :: rest) pos) f2) : FE X W (.BoolOp .And (a :: b :: rest) pos) (andE f1 f2) := by
  obtain ⟨u1, p1, s1⟩ := ha
  obtain ⟨u2, p2, s2⟩ := hb
  refine ⟨_, pe_and p1 p2, fun F Γ σ H G R => ?_⟩
  have h := Sem.bind (sem_tst s1) (sem_ite (rel := vrel X.K) s2 (sem_c (x := .bl false) (v := .bl false) fun _ => rfl)) F Γ σ H G R
  exact h
theorem fe_or {rest : List Expr} (ha : FE X W a f1) (hb : FE X W (.BoolOp .Or (b :: rest) pos) f2) : FE X W (.BoolOp .Or (a :: b :: rest) pos) (orE f1 f2) := by
  obtain ⟨u1, p1, s1⟩ := ha
  obtain ⟨u2, p2, s2⟩ := hb
  refine ⟨_, pe_or p1 p2, fun F Γ σ H G R => ?_⟩
  have h := Sem.bind (sem_tst s1) (sem_ite (rel := vrel X.K) (sem_c (x := .bl true) (v := .bl true) fun _ => rfl) s2) F Γ σ H G R
  exact h
theorem fe_not (ha : FE X W a f1) : FE X W (.UnaryOp .Not a pos) (notE f1) := by
  obtain ⟨u1, p1, s1⟩ := ha
  refine ⟨_, pe_not p1, fun F Γ σ H G R => ?_⟩
  have h := Sem.bind (T := fun (c : Bool) (_ : St) H (Q : VK) => Q (.bl (!c)) H) (g := fun (k : Bool) Γ => O.ok (EV.d (.bl (!k))) Γ) (rel' := vrel X.K) (sem_tst s1) (fun F Γ σ H G k k' R r => by
    cases (show k' = k from r)
    exact fun Q q => q _ H G R (Le.refl G) rfl) F Γ σ H G R
  exact h
def ifE (t : TF) (f1 f2 : EF) : EF := fun Γ => (t Γ).bind fun k Γ1 => if k then f1 Γ1 else f2 Γ1
theorem fe_if (hc : FT X W c t1) (ha : FE X W a f1) (hb : FE X W b f2) : FE X W (.IfExp c a b pos) (ifE t1 f1 f2) := by
  obtain ⟨u1, p1, s1⟩ := hc
  obtain ⟨u2, p2, s2⟩ := ha
  obtain ⟨u3, p3, s3⟩ := hb
  exact ⟨_, pe_ifExp p1 p2 p3, Sem.bind (T := fun (b : Bool) σ H Q => if b = true then u2 σ H Q else u3 σ H Q) s1 (sem_ite s2 s3)⟩
def chn3 (g g' : D → D → Option D) (f3 : EF) (e1 e2 : EV) (Γ : En) : O EV := (asB3 (fin2 g e1 e2 Γ)).bind fun k Γ2 => if k then (f3 Γ2).bind fun e3 Γ3 => fin2 g' e2 e3 Γ3 else .ok (.d (.bl false)) Γ2
where asB3 (o : O EV) : O Bool := o.bind asB
def chnE (g g' : D → D → Option D) (f1 f2 f3 : EF) : EF := fun Γ => (f1 Γ).bind fun e1 Γ1 => (f2 Γ1).bind fun e2 Γ2 => chn3 g g' f3 e1 e2 Γ2
theorem sem_chn {r r' : R2} {g g' : D → D → Option D} {u1 u2 u3 : TE} (ho : Op2 X r g) (ho' : Op2 X r' g') (h1 : Sem X.K W (vrel X.K) u1 f1) (h2 : Sem X.K W (vrel X.K) u2 f2) (h3 : Sem X.K W (vrel X.K) u3 f3) :
    Sem X.K W (vrel X.K) (tChain r r' u1 u2 u3) (chnE g g' f1 f2 f3) := by
  refine Sem.bind (T := fun b σ H Q => u2 σ H fun b' H1 => r b b' H1 fun z H3 => ∃ k, z = .bl k ∧ if k = true then u3 σ H3 fun w H4 => r' b' w H4 Q else Q (.bl false) H3) h1
    (SemK.bind (T := fun b b' σ H Q => r b b' H fun z H3 => ∃ k, z = .bl k ∧ if k = true then u3 σ H3 fun w H4 => r' b' w H4 Q else Q (.bl false) H3) (vrel_mono X.K) h2.toK fun F Γ σ H G a1 b1 a2 b2 R r1 r2 => ?_)
  unfold chn3 chn3.asB3
  refine Out.bind (rel := eqrel (α := Bool)) (T := fun Q => r b1 b2 H fun z H3 => ∃ k, z = .bl k ∧ Q k H3) (T' := fun k H3 Q => if k = true then u3 σ H3 fun w H4 => r' b2 w H4 Q else Q (.bl false) H3)
    (Out.bind (T' := fun z H3 Q => ∃ k, z = .bl k ∧ Q k H3) (out_fin2 ho R r1 r2) fun ev Γ1 z H1 G1 R1 _ rz => out_asB R1 rz) fun k Γ2 k' H3 G3 R3 le3 rk => ?_
  cases (show k' = k from rk)
  cases k with
  | false => exact fun Q q => q _ H3 G3 R3 (Le.refl _) rfl
  | true =>
    refine Out.bind (T' := fun w H4 Q => r' b2 w H4 Q) (h3 F Γ2 σ H3 G3 R3) fun e3 Γ3 b3 H4 G4 R4 le4 r3 => ?_
    exact out_fin2 ho' R4 (vrel_mono _ _ _ _ _ _ (le3.trans le4) r2) r3
theorem fe_chn {op op' : CmpOp} {r r' : R2} {g g' : D → D → Option D} (ho : OpR X (compareOp op) r) (ho' : OpR X (compareOp op') r') (hs : Op2 X r g) (hs' : Op2 X r' g') (ha : FE X W a f1) (hb : FE X W b f2) (hc : FE X W c f3)
    (hm : lastMarks [op, op'] [b, c] = false := by rfl) : FE X W (.Compare a [op, op'] [b, c] pos) (chnE g g' f1 f2 f3) := by
  obtain ⟨u1, p1, s1⟩ := ha
  obtain ⟨u2, p2, s2⟩ := hb
  obtain ⟨u3, p3, s3⟩ := hc
  exact ⟨_, pe_chain ho ho' p1 p2 p3 hm, sem_chn hs hs' s1 s2 s3⟩
theorem ft_chn {op op' : CmpOp} {r r' : R2} {g g' : D → D → Option D} (ho : OpR X (compareOp op) r) (ho' : OpR X (compareOp op') r') (hs : Op2 X r g) (hs' : Op2 X r' g') (ha : FE X W a f1) (hb : FE X W b f2) (hc : FE X W c f3)
    (hm : lastMarks [op, op'] [b, c] = false := by rfl) : FT X W (.Compare a [op, op'] [b, c] pos) (tstE (chnE g g' f1 f2 f3)) := by
  obtain ⟨u1, p1, s1⟩ := ha
  obtain ⟨u2, p2, s2⟩ := hb
  obtain ⟨u3, p3, s3⟩ := hc
  exact ⟨_, pt_chain ho ho' p1 p2 p3 hm, sem_tst (sem_chn hs hs' s1 s2 s3)⟩
def aNil : AF := fun Γ => .ok [] Γ
def aCons (f : EF) (r : AF) : AF := fun Γ => (f Γ).bind fun e Γ1 => (r Γ1).bind fun es Γ2 => .ok (e :: es) Γ2
theorem fa_nil : FA X W [] aNil := ⟨_, pa_nil, fun F Γ σ H G R Q q => q [] H G R (Le.refl G) .nil⟩
theorem fa_cons {es : List Expr} {r : AF} (ha : FE X W e f) (hr : FA X W es r) (hs : starEach (e :: es) X.env = (false, eval e X.env) :: starEach es X.env := by rfl) : FA X W (e :: es) (aCons f r) := by
  obtain ⟨u1, p1, s1⟩ := ha
  obtain ⟨u2, p2, s2⟩ := hr
  refine ⟨_, pa_cons p1 p2 hs, Sem.bind (T := fun x σ H Q => u2 σ H fun xs H2 => Q (x :: xs) H2) s1 (SemK.bind (T := fun x xs (σ : St) H Q => Q (x :: xs) H) (vrel_mono X.K) s2.toK fun F Γ σ H G a b a' b' R r r' => ?_)⟩
  exact fun Q q => q _ H G R (Le.refl G) (.cons r r')
def looks (Γ : En) : List EV → Option (List D)
  | [] => some []
  | e :: es => (e.look Γ).bind fun x => (looks Γ es).bind fun xs => some (x :: xs)
def LReps (K : Frg) (G H : Hp) : List D → List V → Prop := Paired (LRep K G H)
theorem Rl.looks {K : Frg} {F : Fr} {Γ : En} {σ : St} {H G : Hp} (R : Rl K F Γ σ H G) : ∀ {es : List EV} {vs : List V} {xs : List D}, Paired (vrel K σ G) es vs → FL.looks Γ es = some xs → LReps K G H xs vs
  | _, _, _, .nil, e => by cases e; exact .nil
  | _, _, _, .cons r t, e => by
    unfold FL.looks at e
    obtain ⟨x, e1, e⟩ := Option.bind_eq_some_iff.mp e
    obtain ⟨xs, e2, e⟩ := Option.bind_eq_some_iff.mp e
    cases e
    exact .cons (R.look r e1) (R.looks t e2)
def finN (g : List D → Option D) (es : List EV) (Γ : En) : O EV := match looks Γ es with
  | some xs => (match g xs with | some x => .ok (.d x) Γ | none => .fail)
  | none => .fail
def opN (g : List D → Option D) (r : AF) : EF := fun Γ => (r Γ).bind (finN g)
def OpN (X : Cx) (r : List V → Hp → VK → Prop) (g : List D → Option D) : Prop := ∀ (F : Fr) (Γ : En) (σ : St) (H G : Hp) (ds : List D) (vs : List V) (x : D) (Q : VK), Rl X.K F Γ σ H G → LReps X.K G H ds vs → g ds = some x →
  Kont X.K F Γ σ G x Q → r vs H Q
theorem out_finN {r : List V → Hp → VK → Prop} {g : List D → Option D} (ho : OpN X r g) {F : Fr} {Γ : En} {σ : St} {H G : Hp} {es : List EV} {vs : List V} (R : Rl X.K F Γ σ H G) (rs : vsrel X.K σ G es vs) :
    Out X.K W (vrel X.K) F σ G (fun Q => r vs H Q) (finN g es Γ) := by
  unfold finN
  split
  · rename_i xs e1
    split
    · rename_i x e2
      exact fun Q q => ho F Γ σ H G xs vs x Q R (R.looks rs e1) e2 q
    · trivial
  · trivial
theorem sem_opN {r : List V → Hp → VK → Prop} {g : List D → Option D} {t : TA} {u : AF} (ho : OpN X r g) (h : Sem X.K W (vsrel X.K) t u) : Sem X.K W (vrel X.K) (tCB r t) (opN g u) :=
  Sem.bind (T := fun b σ H Q => r b H Q) h fun F Γ σ H G es vs R rs => out_finN ho R rs
theorem fe_blt {x : Str} {p : Pos} {es : List Expr} {r : List V → Hp → VK → Prop} {g : List D → Option D} {u : AF} {id : String} (hc : CallR X (.builtin id) r) (ho : OpN X r g) (hm : X.mg x = none) (hv : bootBuiltins x = some (.builtin id)) (ha : FA X W (e :: es) u) (hg : Gl X x := by rfl) (hn : x ≠ "__name__" := by decide) (hdb : (x == ("__debug__" : Str)) = false := by decide)
    (he : starEach (e :: es) X.env = (false, eval e X.env) :: starEach es X.env := by rfl) (hpl : (backTo pos (starEach es X.env)).any (·.1) = false := by rfl) : FE X W (.Call (.Name x p) (e :: es) [] pos) (opN g u) := by
  obtain ⟨t, p, s⟩ := ha
  exact ⟨_, pe_callB hc hg hm hv p hn hdb he hpl, sem_opN ho s⟩
theorem fe_bty {x : Str} {p : Pos} {es : List Expr} {r : List V → Hp → VK → Prop} {g : List D → Option D} {u : AF} {T : String} (hc : CallR X (.type T) r) (ho : OpN X r g) (hm : X.mg x = none) (hv : bootBuiltins x = some (.type T)) (ha : FA X W (e :: es) u) (hg : Gl X x := by rfl) (hn : x ≠ "__name__" := by decide) (hdb : (x == ("__debug__" : Str)) = false := by decide)
    (he : starEach (e :: es) X.env = (false, eval e X.env) :: starEach es X.env := by rfl) (hpl : (backTo pos (starEach es X.env)).any (·.1) = false := by rfl) : FE X W (.Call (.Name x p) (e :: es) [] pos) (opN g u) := by
  obtain ⟨t, p, s⟩ := ha
  exact ⟨_, pe_callTy hc hg hm hv p hn hdb he hpl, sem_opN ho s⟩
end FL

/-! part F4 -/
set_option Elab.async false
set_option linter.all false
set_option maxRecDepth 100000
set_option maxHeartbeats 4000000
namespace FL
open PySem PySem.Spec PyProof.Rows L2
variable {X : Cx} {W : WX} {e a b c o : Expr} {f g f1 f2 f3 fo fa : EF} {t1 t2 : TF} {pos apos : Pos}
def getD : D → D → Option D
  | .lst xs, .int i => atI xs i
  | .tup xs, .int i => atI xs i
  | .str x, .int i => if x.length ≤ sizeLine then (atI x.cps.toList i).map fun c => .str ⟨#[c]⟩ else none
  | .scr ns, .int i => (atI ns i).map D.int
  | _, _ => none
theorem Reps.atI {K : Frg} {G : Hp} {ds : List D} {vs : List V} {i : Int} {d : D} (r : Reps K G ds vs) (h : L2.atI ds i = some d) : ∃ v, L2.atI vs i = some v ∧ Rep K G d v := by
  unfold L2.atI at h ⊢
  rw [r.len]
  obtain ⟨j, h1, h2⟩ := Option.bind_eq_some_iff.mp h
  obtain ⟨v, h3, h4⟩ := r.getD h2
  exact ⟨v, by rw [h1]; exact h3, h4⟩
theorem atI_map {α β : Type} (g : α → β) (xs : List α) (i : Int) : atI (xs.map g) i = (atI xs i).map g := by
  unfold L2.atI
  rw [List.length_map]
  cases ixN xs.length i with
  | none => rfl
  | some j => simp
theorem get_ok : Op2 X (rIx X.K) getD := by
  intro F Γ σ H G d1 d2 v1 v2 x Q R r1 r2 e q
  unfold getD at e
  split at e
  · obtain ⟨a, vs, rfl, h, r⟩ := r1.lst R.gh
    obtain ⟨v, h1, h2⟩ := r.atI e
    exact .inl ⟨a, vs, _, v, rfl, r2.int, .of h, h1, q _ _ _ R (Le.refl G) h2⟩
  · obtain ⟨a, vs, rfl, h, r⟩ := r1.tup
    obtain ⟨v, h1, h2⟩ := r.atI e
    exact .inr (.inl ⟨a, vs, _, v, rfl, r2.int, SqT.le R.gh h, h1, q _ _ _ R (Le.refl G) h2⟩)
  · split at e
    · rename_i hz
      obtain ⟨c, h1, rfl⟩ := Option.map_eq_some_iff.mp e
      exact .inr (.inr ⟨_, _, c, r1.str, r2.int, hz, h1, q _ _ _ R (Le.refl G) rfl⟩)
    · cases e
  · rename_i ns i
    obtain ⟨n, h1, rfl⟩ := Option.map_eq_some_iff.mp e
    obtain ⟨a, rfl, h⟩ := r1.flat (fun o => by cases o <;> (intro z; cases z))
    exact .inl ⟨a, _, _, .int n, rfl, r2.int, SqL.le R.gh h, by rw [atI_map, h1]; rfl, q _ _ _ R (Le.refl G) rfl⟩
  · cases e
theorem fe_ix (ha : FE X W a f1) (hb : FE X W b f2) (hs : PlainIx b := by exact fun _ _ => rfl) : FE X W (.Subscript a b pos) (op2 getD f1 f2) := by
  obtain ⟨u1, p1, s1⟩ := ha
  obtain ⟨u2, p2, s2⟩ := hb
  exact ⟨_, pe_ix ix_seq p1 p2 hs, sem_op2 get_ok s1 s2⟩
abbrev OF := En → O (Option Int)
structure FO (X : Cx) (W : WX) (e : Option Expr) (f : OF) : Prop where
  ex : ∃ t, PO X e t ∧ Sem X.K W eqrel t f
def oNo : OF := fun Γ => .ok none Γ
def asI (ev : EV) (Γ : En) : O (Option Int) := match ev with
  | .d (.int i) => .ok (some i) Γ
  | _ => .fail
def oSome (f : EF) : OF := fun Γ => (f Γ).bind asI
theorem fo_no : FO X W none oNo := ⟨_, po_none, fun F Γ σ H G R Q q => q none H G R (Le.refl G) rfl⟩
theorem fo_some (h : FE X W e f) : FO X W (some e) (oSome f) := by
  obtain ⟨t, p, s⟩ := h
  refine ⟨_, po_some p, Sem.bind (T := fun x σ H Q => ∃ i, x = .int i ∧ Q (some i) H) s fun F Γ σ H G ev v R r => ?_⟩
  unfold asI
  split
  · exact fun Q q => ⟨_, r, q _ H G R (Le.refl G) rfl⟩
  · trivial
def cutL {α : Type} (xs : List α) (lo hi : Option Int) : List α := (xs.drop (HT.sIx xs.length 0 lo)).take (HT.sIx xs.length xs.length hi - HT.sIx xs.length 0 lo)
def cutD (lo hi : Option Int) : D → Option D
  | .lst xs => some (.lst (cutL xs lo hi))
  | .tup xs => some (.tup (cutL xs lo hi))
  | .str x => if x.length ≤ sizeLine then some (.str (cutS x lo hi)) else none
  | .scr ns => some (.lst ((cutL ns lo hi).map D.int))
  | _ => none
def fin3 (ev : EV) (lo hi : Option Int) (Γ : En) : O EV := match (ev.look Γ).bind (cutD lo hi) with
  | some x => .ok (.d x) Γ
  | none => .fail
def slE (f : EF) (l h : OF) : EF := fun Γ => (f Γ).bind fun ev Γ1 => (l Γ1).bind fun lo Γ2 => (h Γ2).bind fun hi Γ3 => fin3 ev lo hi Γ3
def rSlX (K : Frg) : V → Option Int → Option Int → Hp → VK → Prop := fun x lo hi H Q => rSlL K x lo hi H Q ∨ rSlA K x lo hi H Q ∨ rSlS x lo hi H Q
theorem sl_any : SlR X (rSlX X.K) := sl_list.or (sl_tupA.or sl_str)
theorem cutV_ints (ns : List Int) (lo hi : Option Int) : cutV (ns.map V.int) lo hi = (cutL ns lo hi).map V.int := by
  unfold cutV cutL
  rw [List.length_map, List.map_take, List.map_drop]
theorem out_fin3 {F : Fr} {Γ : En} {σ : St} {H G : Hp} {ev : EV} {v : V} {lo hi : Option Int} (R : Rl X.K F Γ σ H G) (r : vrel X.K σ G ev v) : Out X.K W (vrel X.K) F σ G (fun Q => rSlX X.K v lo hi H Q) (fin3 ev lo hi Γ) := by
  unfold fin3
  split
  · rename_i x e
    obtain ⟨y, e1, e2⟩ := Option.bind_eq_some_iff.mp e
    have r := R.look r e1
    intro Q q
    unfold cutD at e2
    split at e2
    · cases e2
      obtain ⟨a, vs, rfl, h, r⟩ := r.lst R.gh
      refine .inl ⟨a, vs, rfl, .of h, fun p hp => ?_⟩
      exact q _ _ _ (R.new hp) (Le.upd (R.gNone hp)) ⟨p, _, rfl, upd_same, Reps.le (Le.upd (R.gNone hp)) _ _ (r.cut lo hi)⟩
    · cases e2
      obtain ⟨a, vs, rfl, h, r⟩ := r.tup
      refine .inr (.inl ⟨a, vs, rfl, SqT.le R.gh h, fun z => ?_, fun z p hp => ?_⟩)
      · have c := r.cut lo hi
        have e : cutV vs lo hi = vs := by
          unfold cutV
          rw [z.1, z.2]
          simp
        rw [e] at c
        exact q _ _ _ R (Le.refl G) ⟨a, vs, rfl, h, c⟩
      · exact q _ _ _ (R.new hp) (Le.upd (R.gNone hp)) ⟨p, _, rfl, .of upd_same, Reps.le (Le.upd (R.gNone hp)) _ _ (r.cut lo hi)⟩
    · split at e2
      · rename_i hz
        cases e2
        exact .inr (.inr ⟨_, r.str, hz, q _ _ _ R (Le.refl G) rfl⟩)
      · cases e2
    · cases e2
      obtain ⟨a, rfl, h⟩ := r.flat (fun o => by cases o <;> (intro z; cases z))
      refine .inl ⟨a, _, rfl, SqL.le R.gh h, fun p hp => ?_⟩
      exact q _ _ _ (R.new hp) (Le.upd (R.gNone hp)) ⟨p, _, rfl, upd_same, by rw [cutV_ints]; exact Reps.of_ints _⟩
    · cases e2
  · trivial
theorem fe_sl {lo hi : Option Expr} {l h : OF} {p2 : Pos} (ha : FE X W a f) (hl : FO X W lo l) (hh : FO X W hi h) : FE X W (.Subscript a (.Slice lo hi none p2) pos) (slE f l h) := by
  obtain ⟨u1, p1, s1⟩ := ha
  obtain ⟨u2, p2, s2⟩ := hl
  obtain ⟨u3, p3, s3⟩ := hh
  refine ⟨_, pe_slice sl_any p1 p2 p3, fun F Γ σ H G R => ?_⟩
  refine Out.bind (T' := fun x H1 Q => u2 σ H1 fun l H2 => u3 σ H2 fun u H3 => rSlX X.K x l u H3 Q) (s1 F Γ σ H G R) fun ev Γ1 v H1 G1 R1 _ r1 => ?_
  refine Out.bind (T' := fun l H2 Q => u3 σ H2 fun u H3 => rSlX X.K v l u H3 Q) (s2 F Γ1 σ H1 G1 R1) fun lo Γ2 lo' H2 G2 R2 le2 r2 => ?_
  cases (show lo' = lo from r2)
  refine Out.bind (T' := fun u H3 Q => rSlX X.K v lo u H3 Q) (s3 F Γ2 σ H2 G2 R2) fun hi Γ3 hi' H3 G3 R3 le3 r3 => ?_
  cases (show hi' = hi from r3)
  exact out_fin3 R3 (vrel_mono _ _ _ _ _ _ (le2.trans le3) r1)
/-- values that go into an object or out of the def: own objects are told from now on -/
def frz1 (ev : EV) (Γ : En) : Option (D × En) := match ev with
  | .d x => some (x, Γ)
  | .own i => (match Γ[i]? with
    | some (.acc o) => some (o.d, Γ.set i (.im o.d))
    | _ => none)
def frzs : List EV → En → Option (List D × En)
  | [], Γ => some ([], Γ)
  | e :: es, Γ => (frz1 e Γ).bind fun p => (frzs es p.2).bind fun q => some (p.1 :: q.1, q.2)
theorem Rl.frz1 {K : Frg} {F : Fr} {Γ Γ' : En} {σ : St} {H G : Hp} {ev : EV} {v : V} {x : D} (R : Rl K F Γ σ H G) (r : vrel K σ G ev v) (e : FL.frz1 ev Γ = some (x, Γ')) : ∃ G', Rl K F Γ' σ H G' ∧ Le G G' ∧ Rep K G' x v := by
  unfold FL.frz1 at e
  split at e
  · cases e
    exact ⟨G, R, Le.refl G, r⟩
  · split at e
    · rename_i o h
      cases e
      obtain ⟨w, G', h1, R', le, rp⟩ := R.freeze h
      rw [show σ[_]? = some (some v) from r] at h1
      cases h1
      exact ⟨G', R', le, rp⟩
    · cases e
theorem Rl.frzs {K : Frg} {F : Fr} {σ : St} {H : Hp} : ∀ {es : List EV} {vs : List V} {xs : List D} {Γ Γ' : En} {G : Hp}, Rl K F Γ σ H G → Paired (vrel K σ G) es vs → FL.frzs es Γ = some (xs, Γ') → ∃ G', Rl K F Γ' σ H G' ∧ Le G G' ∧ Reps K G' xs vs
  | _, _, _, _, _, G, R, .nil, e => by cases e; exact ⟨G, R, Le.refl G, rfl⟩
  | _, _, _, _, _, G, R, .cons r t, e => by
    unfold FL.frzs at e
    obtain ⟨⟨x, Γ1⟩, e1, e⟩ := Option.bind_eq_some_iff.mp e
    obtain ⟨⟨xs, Γ2⟩, e2, e⟩ := Option.bind_eq_some_iff.mp e
    cases e
    obtain ⟨G1, R1, le1, r1⟩ := R.frz1 r e1
    obtain ⟨G2, R2, le2, r2⟩ := Rl.frzs R1 (vsrel_mono K _ _ _ _ _ le1 t) e2
    exact ⟨G2, R2, le1.trans le2, ⟨_, _, rfl, Rep.le le2 _ _ r1, r2⟩⟩
def finT (mk : List D → D) (es : List EV) (Γ : En) : O EV := match frzs es Γ with
  | some (xs, Γ') => if xs.length ≤ sizeLine then .ok (.d (mk xs)) Γ' else .fail
  | none => .fail
def tupE (r : AF) : EF := fun Γ => (r Γ).bind (finT .tup)
def lstE (r : AF) : EF := fun Γ => (r Γ).bind (finT .lst)
theorem Paired.len {α β : Type} {R : α → β → Prop} : ∀ {xs : List α} {ys : List β}, Paired R xs ys → ys.length = xs.length
  | _, _, .nil => rfl
  | _, _, .cons _ t => by rw [List.length_cons, List.length_cons, Paired.len t]
theorem fe_tup {es : List Expr} {r : AF} {x1} (h : FA X W es r) : FE X W (.Tuple es x1 pos) (tupE r) := by
  obtain ⟨t, p, s⟩ := h
  refine ⟨_, pe_tup p, Sem.bind (T := fun (xs : List V) σ H1 (Q : VK) => xs.length ≤ sizeLine ∧ ∀ p, H1 p = none → Q (.ref p) (upd H1 p (.tup xs))) s fun F Γ σ H G es vs R rs => ?_⟩
  unfold finT
  split
  · rename_i xs Γ' e
    split
    · rename_i hz
      intro Q q
      obtain ⟨G', R', le, rp⟩ := R.frzs rs e
      refine ⟨by rw [rp.len]; exact hz, fun p hp => ?_⟩
      exact q _ _ _ (R'.new hp) (le.trans (Le.upd (R'.gNone hp))) ⟨p, _, rfl, .of upd_same, Reps.le (Le.upd (R'.gNone hp)) _ _ rp⟩
    · trivial
  · trivial
theorem fe_lst {es : List Expr} {r : AF} (h : FA X W es r) : FE X W (.List es pos) (lstE r) := by
  obtain ⟨t, p, s⟩ := h
  refine ⟨_, pe_lst p, Sem.bind (T := fun (xs : List V) σ H1 (Q : VK) => xs.length ≤ sizeLine ∧ ∀ p, H1 p = none → Q (.ref p) (upd H1 p (.lst xs))) s fun F Γ σ H G es vs R rs => ?_⟩
  unfold finT
  split
  · rename_i xs Γ' e
    split
    · rename_i hz
      intro Q q
      obtain ⟨G', R', le, rp⟩ := R.frzs rs e
      refine ⟨by rw [rp.len]; exact hz, fun p hp => ?_⟩
      exact q _ _ _ (R'.new hp) (le.trans (Le.upd (R'.gNone hp))) ⟨p, _, rfl, upd_same, Reps.le (Le.upd (R'.gNone hp)) _ _ rp⟩
    · trivial
  · trivial
/-- *e in a display -/
def starI (ev : EV) (Γ : En) : O (List EV) := match ev.look Γ with
  | some (.tup xs) => .ok (xs.map EV.d) Γ
  | some (.lst xs) => .ok (xs.map EV.d) Γ
  | _ => .fail
def aStar (f : EF) (r : AF) : AF := fun Γ => (f Γ).bind fun e Γ1 => (starI e Γ1).bind fun xs Γ1' => (r Γ1').bind fun es Γ2 => .ok (xs ++ es) Γ2
theorem Reps.ev {K : Frg} {σ : St} {G : Hp} : ∀ {ds : List D} {vs : List V}, Reps K G ds vs → Paired (vrel K σ G) (ds.map EV.d) vs
  | [], _, e => by rw [show _ = [] from e]; exact .nil
  | d :: ds, _, ⟨v, r, e, h, t⟩ => by subst e; exact .cons h (Reps.ev t)
theorem Paired.app {α β : Type} {R : α → β → Prop} : ∀ {xs us : List α} {ys ws : List β}, Paired R xs ys → Paired R us ws → Paired R (xs ++ us) (ys ++ ws)
  | _, _, _, _, .nil, q => q
  | _, _, _, _, .cons h t, q => .cons h (Paired.app t q)
theorem fa_star {es : List Expr} {r : AF} {p : Pos} (ha : FE X W e f) (hr : FA X W es r) (hs : starEach (.Starred e p :: es) X.env = (true, eval e X.env) :: starEach es X.env := by rfl) : FA X W (.Starred e p :: es) (aStar f r) := by
  obtain ⟨u1, p1, s1⟩ := ha
  obtain ⟨u2, p2, s2⟩ := hr
  refine ⟨_, StX.pa_star p1 p2 hs, fun F Γ σ H G R => ?_⟩
  refine Out.bind (T' := fun x H1 Q => ∃ p xs, x = V.ref p ∧ (SqT X.K H1 p xs ∨ SqL X.K H1 p xs) ∧ u2 σ H1 fun ys H2 => Q (xs ++ ys) H2) (s1 F Γ σ H G R) fun ev Γ1 v H1 G1 R1 _ r1 => ?_
  refine Out.bind (rel := vsrel X.K) (T := fun Q => ∃ p xs, v = V.ref p ∧ (SqT X.K H1 p xs ∨ SqL X.K H1 p xs) ∧ Q xs H1) (T' := fun xs H2 Q => u2 σ H2 fun ys H3 => Q (xs ++ ys) H3) (r := starI ev Γ1) ?_ fun xs Γ2 us H2 G2 R2 le2 r2 => ?_
  · unfold starI
    split
    · rename_i xs h
      obtain ⟨a, vs, rfl, h, r⟩ := (R1.look r1 h).tup
      exact fun Q q => ⟨a, vs, rfl, .inl (SqT.le R1.gh h), q _ H1 G1 R1 (Le.refl _) r.ev⟩
    · rename_i xs h
      obtain ⟨a, vs, rfl, h, r⟩ := (R1.look r1 h).lst R1.gh
      exact fun Q q => ⟨a, vs, rfl, .inr (.of h), q _ H1 G1 R1 (Le.refl _) r.ev⟩
    · trivial
  · refine Out.bind (T' := fun ys H3 Q => Q (us ++ ys) H3) (s2 F Γ2 σ H2 G2 R2) fun es Γ3 ws H3 G3 R3 le3 r3 => ?_
    exact fun Q q => q _ H3 G3 R3 (Le.refl _) (Paired.app (vsrel_mono X.K _ _ _ _ _ le3 r2) r3)
def D.flat : D → Option V
  | .non => some .non
  | .bl b => some (.bl b)
  | .int i => some (.int i)
  | .str x => some (.str x)
  | _ => none
def flats : List D → Option (List V)
  | [] => some []
  | d :: ds => d.flat.bind fun v => (flats ds).bind fun vs => some (v :: vs)
theorem Rep.flat {K : Frg} {G : Hp} {d : D} {v w : V} (h : Rep K G d v) (e : d.flat = some w) : v = w ∧ flatV w = true := by
  cases d with
  | non => cases e; exact ⟨h, rfl⟩
  | bl b => cases e; exact ⟨h, rfl⟩
  | int i => cases e; exact ⟨h, rfl⟩
  | str x => cases e; exact ⟨h, rfl⟩
  | _ => cases e
theorem Reps.flats {K : Frg} {G : Hp} : ∀ {ds : List D} {vs ws : List V}, Reps K G ds vs → FL.flats ds = some ws → vs = ws ∧ ws.all flatV = true
  | [], _, _, h, e => by cases e; exact ⟨h, rfl⟩
  | d :: ds, _, _, ⟨v, r, ev, h1, h2⟩, e => by
    unfold FL.flats at e
    obtain ⟨x, e1, e⟩ := Option.bind_eq_some_iff.mp e
    obtain ⟨xs, e2, e⟩ := Option.bind_eq_some_iff.mp e
    cases e
    subst ev
    obtain ⟨rfl, f1⟩ := h1.flat e1
    obtain ⟨rfl, f2⟩ := Reps.flats h2 e2
    exact ⟨rfl, by simp [f1, f2]⟩
def inB (x : D) : D → Option Bool
  | .lst ys => (match x.flat, flats ys with
    | some v, some vs => some (inV v vs)
    | _, _ => (match x.py, D.pys ys with
      | some p, some ps => if SeqAt.shaped p && SeqAt.shaped (.list ps) then some (ps.any fun z => PyData.eqv z p) else none
      | _, _ => none))
  | .tup ys => (match x.flat, flats ys with
    | some v, some vs => some (inV v vs)
    | _, _ => none)
  | .str z => (match x with
    | .str y => (match y.cps.toList with
      | [c] => some (decide (c ∈ z.cps.toList))
      | _ => none)
    | _ => none)
  | _ => none
def inD (x y : D) : Option D := (inB x y).map D.bl
def ninD (x y : D) : Option D := (inB x y).map fun b => D.bl !b
def rInX (K : Frg) : R2 := fun x y H Q => rIn K false x y H Q ∨ rInD K x y H Q ∨ (∃ (c : Nat) (z : Str), x = .str ⟨#[c]⟩ ∧ y = .str z ∧ Q (.bl (decide (c ∈ z.cps.toList))) H)
def rNinX (K : Frg) : R2 := fun x y H Q => rIn K true x y H Q ∨ rNotInD K x y H Q ∨ (∃ (c : Nat) (z : Str), x = .str ⟨#[c]⟩ ∧ y = .str z ∧ Q (.bl (!decide (c ∈ z.cps.toList))) H)
theorem op_inX (hu : X.A.units + 65 < cLine) : OpR X (compareOp .In) (rInX X.K) := op_in_seq.or ((op_inD hu).or op_in_sign)
theorem op_ninX (hu : X.A.units + 65 < cLine) : OpR X (compareOp .NotIn) (rNinX X.K) := op_notIn_seq.or ((op_notInD hu).or op_notIn_sign)
theorem inB_ok {K : Frg} {F : Fr} {Γ : En} {σ : St} {H G : Hp} {x y : D} {v w : V} {k : Bool} (R : Rl K F Γ σ H G) (r1 : LRep K G H x v) (r2 : LRep K G H y w) (e : inB x y = some k) (Q : Bool → Prop) (q : Q k) :
    (∃ p xs, w = .ref p ∧ (SqL K H p xs ∨ SqT K H p xs) ∧ flatV v = true ∧ xs.all flatV = true ∧ Q (inV v xs)) ∨ (∃ d ds, Dp K H v d ∧ Dp K H w (.list ds) ∧ SeqAt.shaped d = true ∧ SeqAt.shaped (.list ds) = true ∧ Q (ds.any fun z => PyData.eqv z d)) ∨
    (∃ (c : Nat) (z : Str), v = .str ⟨#[c]⟩ ∧ w = .str z ∧ Q (decide (c ∈ z.cps.toList))) := by
  unfold inB at e
  split at e
  · rename_i ys
    obtain ⟨a, vs, rfl, h, r⟩ := r2.lst R.gh
    split at e
    · rename_i v' vs' h1 h2
      cases e
      obtain ⟨rfl, f1⟩ := (r1.rep R.gh).flat h1
      obtain ⟨rfl, f2⟩ := r.flats h2
      exact .inl ⟨a, _, rfl, .inl (.of h), f1, f2, q⟩
    · split at e
      · rename_i p ps h1 h2
        split at e
        · rename_i hs
          cases e
          obtain ⟨s1, s2⟩ := Bool.and_eq_true_iff.mp hs
          exact .inr (.inl ⟨p, ps, Rep.dp _ _ _ h1 (r1.rep R.gh), .lst (.of h) (Reps.dp _ _ _ h2 (Reps.le R.gh _ _ r)), s1, s2, q⟩)
        · cases e
      · cases e
  · rename_i ys
    obtain ⟨a, vs, rfl, h, r⟩ := r2.tup
    split at e
    · rename_i v' vs' h1 h2
      cases e
      obtain ⟨rfl, f1⟩ := (r1.rep R.gh).flat h1
      obtain ⟨rfl, f2⟩ := r.flats h2
      exact .inl ⟨a, _, rfl, .inr (SqT.le R.gh h), f1, f2, q⟩
    · cases e
  · rename_i z
    split at e
    · rename_i y
      split at e
      · rename_i c hc
        cases e
        refine .inr (.inr ⟨c, z, ?_, r2.str, q⟩)
        have : y = ⟨#[c]⟩ := by
          cases y with
          | mk l => exact congrArg Str.mk (Array.toList_inj.mp hc)
        rw [← this]
        exact r1.str
      · cases e
    · cases e
  · cases e
theorem fe_in (hu : X.A.units + 65 < cLine) (ha : FE X W a f1) (hb : FE X W b f2) (hm : behindInMarks .In b = false := by rfl) : FE X W (.Compare a [.In] [b] pos) (op2 inD f1 f2) := by
  refine fe_cmp (op_inX hu) (fun F Γ σ H G d1 d2 v1 v2 x Q R r1 r2 e q => ?_) ha hb hm
  obtain ⟨k, e', rfl⟩ := Option.map_eq_some_iff.mp (show (inB d1 d2).map D.bl = some x from e)
  exact inB_ok R r1 r2 e' (fun k => Q (.bl k) H) (q _ _ _ R (Le.refl G) rfl)
theorem fe_nin (hu : X.A.units + 65 < cLine) (ha : FE X W a f1) (hb : FE X W b f2) (hm : behindInMarks .NotIn b = false := by rfl) : FE X W (.Compare a [.NotIn] [b] pos) (op2 ninD f1 f2) := by
  refine fe_cmp (op_ninX hu) (fun F Γ σ H G d1 d2 v1 v2 x Q R r1 r2 e q => ?_) ha hb hm
  obtain ⟨k, e', rfl⟩ := Option.map_eq_some_iff.mp (show (inB d1 d2).map (fun b => D.bl !b) = some x from e)
  rcases inB_ok R r1 r2 e' (fun k => Q (.bl (!k)) H) (q _ _ _ R (Le.refl G) rfl) with h | h | h
  · exact .inl h
  · exact .inr (.inl h)
  · exact .inr (.inr h)
end FL

/-! part F5 -/
set_option Elab.async false
set_option linter.all false
set_option maxRecDepth 100000
set_option maxHeartbeats 4000000
namespace FL
open PySem PySem.Spec PyProof.Rows L2
variable {X : Cx} {W : WX} {e a b c o : Expr} {f g f1 f2 f3 fo fa : EF} {t1 t2 : TF} {pos apos : Pos} {es : List Expr} {u : AF}
def one (g : D → Option D) : List D → Option D
  | [x] => g x
  | _ => none
def Op1 (X : Cx) (r : V → Hp → VK → Prop) (g : D → Option D) : Prop := ∀ (F : Fr) (Γ : En) (σ : St) (H G : Hp) (d : D) (v : V) (x : D) (Q : VK), Rl X.K F Γ σ H G → LRep X.K G H d v → g d = some x → Kont X.K F Γ σ G x Q → r v H Q
theorem opN_one {r : List V → Hp → VK → Prop} {g : D → Option D} (h : Op1 X (fun v => r [v]) g) : OpN X r (one g) := by
  intro F Γ σ H G ds vs x Q R rs e q
  cases rs with
  | nil => cases e
  | cons r1 t =>
    cases t with
    | nil => exact h F Γ σ H G _ _ x Q R r1 e q
    | cons _ _ => cases e
theorem bbI {x : Str} (h : bootBuiltins x = some (.builtin "len")) : True := trivial
def lenD : D → Option D
  | .lst xs => some (.int xs.length)
  | .tup xs => some (.int xs.length)
  | .str x => if x.length ≤ sizeLine then some (.int x.length) else none
  | .scr ns => some (.int ns.length)
  | _ => none
theorem len_ok : Op1 X (fun v H Q => ∃ x n, [v] = [x] ∧ LenV X.K x H n ∧ Q (.int n) H) lenD := by
  intro F Γ σ H G d v x Q R r e q
  unfold lenD at e
  split at e
  · cases e
    obtain ⟨a, vs, rfl, h, r⟩ := r.lst R.gh
    exact ⟨_, _, rfl, .inl ⟨vs, .of h, rfl⟩, q _ _ _ R (Le.refl G) (by rw [← r.len]; rfl)⟩
  · cases e
    obtain ⟨a, vs, rfl, h, r⟩ := r.tup
    exact ⟨_, _, rfl, .inr ⟨vs, SqT.le R.gh h, rfl⟩, q _ _ _ R (Le.refl G) (by rw [← r.len]; rfl)⟩
  · split at e
    · rename_i hz
      cases e
      rw [r.str]
      exact ⟨_, _, rfl, ⟨hz, rfl⟩, q _ _ _ R (Le.refl G) rfl⟩
    · cases e
  · cases e
    obtain ⟨a, rfl, h⟩ := r.flat (fun o => by cases o <;> (intro z; cases z))
    exact ⟨_, _, rfl, .inl ⟨_, SqL.le R.gh h, rfl⟩, q _ _ _ R (Le.refl G) (by rw [List.length_map]; rfl)⟩
  · cases e
theorem fe_len {p : Pos} (hm : X.mg "len" = none) (ha : FE X W e f) (hg : Gl X "len" := by rfl) (he : starEach [e] X.env = (false, eval e X.env) :: starEach [] X.env := by rfl) : FE X W (.Call (.Name "len" p) [e] [] pos) (opN (one lenD) (aCons f aNil)) :=
  fe_blt call_len (opN_one len_ok) hm PySem.boot_len (fa_cons ha fa_nil he) hg (he := he) (hpl := by rfl)
def tupD : D → Option D
  | .lst xs => some (.tup xs)
  | .tup xs => some (.tup xs)
  | _ => none
theorem tup_ok : Op1 X (fun v H Q => ∃ p ys, [v] = [V.ref p] ∧ ((SqL X.K H p ys ∧ ∀ l, H l = none → Q (.ref l) (upd H l (.tup ys))) ∨ (SqT X.K H p ys ∧ Q (.ref p) H))) tupD := by
  intro F Γ σ H G d v x Q R r e q
  unfold tupD at e
  split at e
  · cases e
    obtain ⟨a, vs, rfl, h, r⟩ := r.lst R.gh
    refine ⟨_, vs, rfl, .inl ⟨.of h, fun p hp => ?_⟩⟩
    exact q _ _ _ (R.new hp) (Le.upd (R.gNone hp)) ⟨p, _, rfl, .of upd_same, Reps.le (Le.upd (R.gNone hp)) _ _ r⟩
  · cases e
    obtain ⟨a, vs, rfl, h, r⟩ := r.tup
    exact ⟨_, vs, rfl, .inr ⟨SqT.le R.gh h, q _ _ _ R (Le.refl G) ⟨_, _, rfl, h, r⟩⟩⟩
  · cases e
theorem fe_tupC {p : Pos} (hm : X.mg "tuple" = none) (ha : FE X W e f) (hg : Gl X "tuple" := by rfl) (he : starEach [e] X.env = (false, eval e X.env) :: starEach [] X.env := by rfl) : FE X W (.Call (.Name "tuple" p) [e] [] pos) (opN (one tupD) (aCons f aNil)) :=
  fe_bty call_tuple_of (opN_one tup_ok) hm (by decide +kernel) (fa_cons ha fa_nil he) hg (he := he) (hpl := by rfl)
def bools : List D → Option (List Bool)
  | [] => some []
  | .bl b :: ds => (bools ds).map fun bs => b :: bs
  | _ :: _ => none
theorem bools_eq : ∀ {ds : List D} {bs : List Bool}, bools ds = some bs → ds = bs.map D.bl
  | [], _, e => by cases e; rfl
  | .bl b :: ds, _, e => by
    obtain ⟨bs, e1, rfl⟩ := Option.map_eq_some_iff.mp (show (bools ds).map (fun bs => b :: bs) = some _ from e)
    rw [bools_eq e1]
    rfl
  | .non :: _, _, e => by cases e
  | .int _ :: _, _, e => by cases e
  | .str _ :: _, _, e => by cases e
  | .lst _ :: _, _, e => by cases e
  | .tup _ :: _, _, e => by cases e
  | .scr _ :: _, _, e => by cases e
  | .dk _ _ :: _, _, e => by cases e
  | .ins _ _ _ :: _, _, e => by cases e
def allD : D → Option D
  | .lst xs => (bools xs).map fun bs => .bl (bs.all id)
  | _ => none
def anyD : D → Option D
  | .lst xs => (bools xs).map fun bs => .bl (bs.any id)
  | _ => none
theorem fe_all {p : Pos} (hc : X.calm = true) (hm : X.mg "all" = none) (ha : FE X W e f) (hg : Gl X "all" := by rfl) (he : starEach [e] X.env = (false, eval e X.env) :: starEach [] X.env := by rfl) : FE X W (.Call (.Name "all" p) [e] [] pos) (opN (one allD) (aCons f aNil)) := by
  refine fe_blt (cr_all hc) (opN_one fun F Γ σ H G d v x Q R r e q => ?_) hm (by decide +kernel) (fa_cons ha fa_nil he) hg (he := he) (hpl := by rfl)
  unfold allD at e
  split at e
  · obtain ⟨bs, e1, rfl⟩ := Option.map_eq_some_iff.mp e
    obtain ⟨a, vs, rfl, h, r⟩ := r.lst R.gh
    rw [bools_eq e1] at r
    rw [r.bls] at h
    exact ⟨a, bs, rfl, .of h, q _ _ _ R (Le.refl G) rfl⟩
  · cases e
theorem fe_any {p : Pos} (hc : X.calm = true) (hm : X.mg "any" = none) (ha : FE X W e f) (hg : Gl X "any" := by rfl) (he : starEach [e] X.env = (false, eval e X.env) :: starEach [] X.env := by rfl) : FE X W (.Call (.Name "any" p) [e] [] pos) (opN (one anyD) (aCons f aNil)) := by
  refine fe_blt (cr_any hc) (opN_one fun F Γ σ H G d v x Q R r e q => ?_) hm (by decide +kernel) (fa_cons ha fa_nil he) hg (he := he) (hpl := by rfl)
  unfold anyD at e
  split at e
  · obtain ⟨bs, e1, rfl⟩ := Option.map_eq_some_iff.mp e
    obtain ⟨a, vs, rfl, h, r⟩ := r.lst R.gh
    rw [bools_eq e1] at r
    rw [r.bls] at h
    exact ⟨a, bs, rfl, .of h, q _ _ _ R (Le.refl G) rfl⟩
  · cases e
def intC : D → Option D
  | .int i => some (.int i)
  | .bl k => some (.int (if k then 1 else 0))
  | _ => none
theorem fe_int1 {p : Pos} (hm : X.mg "int" = none) (ha : FE X W e f) (hg : Gl X "int" := by rfl) (he : starEach [e] X.env = (false, eval e X.env) :: starEach [] X.env := by rfl) : FE X W (.Call (.Name "int" p) [e] [] pos) (opN (one intC) (aCons f aNil)) := by
  refine fe_bty call_int1 (opN_one fun F Γ σ H G d v x Q R r e q => ?_) hm (by decide +kernel) (fa_cons ha fa_nil he) hg (he := he) (hpl := by rfl)
  unfold intC at e
  split at e
  · cases e
    exact .inl ⟨_, by rw [r.int], q _ _ _ R (Le.refl G) rfl⟩
  · cases e
    exact .inr ⟨_, by rw [r.bl], q _ _ _ R (Le.refl G) rfl⟩
  · cases e
def absD : D → Option D
  | .int i => some (.int (if i < 0 then -i else i))
  | _ => none
theorem fe_abs {p : Pos} (hm : X.mg "abs" = none) (ha : FE X W e f) (hg : Gl X "abs" := by rfl) (he : starEach [e] X.env = (false, eval e X.env) :: starEach [] X.env := by rfl) : FE X W (.Call (.Name "abs" p) [e] [] pos) (opN (one absD) (aCons f aNil)) := by
  refine fe_blt call_abs (opN_one fun F Γ σ H G d v x Q R r e q => ?_) hm (by decide +kernel) (fa_cons ha fa_nil he) hg (he := he) (hpl := by rfl)
  unfold absD at e
  split at e
  · cases e
    exact ⟨_, by rw [r.int], q _ _ _ R (Le.refl G) rfl⟩
  · cases e
def strD : D → Option D
  | .int i => if i.natAbs.log2 < 1920 then some (.str (toString i)) else none
  | _ => none
theorem fe_str1 {p : Pos} (hm : X.mg "str" = none) (ha : FE X W e f) (hg : Gl X "str" := by rfl) (he : starEach [e] X.env = (false, eval e X.env) :: starEach [] X.env := by rfl) : FE X W (.Call (.Name "str" p) [e] [] pos) (opN (one strD) (aCons f aNil)) := by
  refine fe_bty call_str_int (opN_one fun F Γ σ H G d v x Q R r e q => ?_) hm (by decide +kernel) (fa_cons ha fa_nil he) hg (he := he) (hpl := by rfl)
  unfold strD at e
  split at e
  · split at e
    · rename_i hz
      cases e
      exact ⟨_, by rw [r.int], hz, q _ _ _ R (Le.refl G) rfl⟩
    · cases e
  · cases e
def two (g : D → D → Option D) : List D → Option D
  | [x, y] => g x y
  | _ => none
theorem opN_two {r : List V → Hp → VK → Prop} {g : D → D → Option D} (h : Op2 X (fun v w => r [v, w]) g) : OpN X r (two g) := by
  intro F Γ σ H G ds vs x Q R rs e q
  cases rs with
  | nil => cases e
  | cons r1 t =>
    cases t with
    | nil => cases e
    | cons r2 t =>
      cases t with
      | nil => exact h F Γ σ H G _ _ _ _ x Q R r1 r2 e q
      | cons _ _ => cases e
def maxD := intD (fun _ _ => true) fun i j => .int (if j > i then j else i)
def minD := intD (fun _ _ => true) fun i j => .int (if j < i then j else i)
theorem intD_ok {P : Int → Int → Bool} {k : Int → Int → D} {r : List V → Hp → VK → Prop} (h : ∀ i j H Q, P i j = true → (∀ F Γ σ G, Rl X.K F Γ σ H G → Kont X.K F Γ σ G (k i j) Q → r [.int i, .int j] H Q)) : OpN X r (two (intD P k)) :=
  opN_two fun F Γ σ H G d1 d2 v1 v2 x Q R r1 r2 e q => by
    unfold intD at e
    split at e
    · split at e
      · rename_i hz
        cases e
        show r [v1, v2] H Q
        rw [r1.int, r2.int]
        exact h _ _ H Q hz F Γ σ G R q
      · cases e
    · cases e
theorem fe_max2 {p : Pos} (hc : X.calm = true) (hm : X.mg "max" = none) (ha : FE X W a f1) (hb : FE X W b f2) (hg : Gl X "max" := by rfl) (he : starEach [a, b] X.env = (false, eval a X.env) :: starEach [b] X.env := by rfl) (he2 : starEach [b] X.env = (false, eval b X.env) :: starEach [] X.env := by rfl) (hpl : (backTo pos (starEach [b] X.env)).any (·.1) = false := by rfl) :
    FE X W (.Call (.Name "max" p) [a, b] [] pos) (opN (two maxD) (aCons f1 (aCons f2 aNil))) :=
  fe_blt (call_max2 hc) (intD_ok fun i j H Q _ F Γ σ G R q => ⟨i, j, rfl, q _ _ _ R (Le.refl G) rfl⟩) hm (by decide +kernel) (fa_cons ha (fa_cons hb fa_nil he2) he) hg (he := he) (hpl := hpl)
theorem fe_min2 {p : Pos} (hc : X.calm = true) (hm : X.mg "min" = none) (ha : FE X W a f1) (hb : FE X W b f2) (hg : Gl X "min" := by rfl) (he : starEach [a, b] X.env = (false, eval a X.env) :: starEach [b] X.env := by rfl) (he2 : starEach [b] X.env = (false, eval b X.env) :: starEach [] X.env := by rfl) (hpl : (backTo pos (starEach [b] X.env)).any (·.1) = false := by rfl) :
    FE X W (.Call (.Name "min" p) [a, b] [] pos) (opN (two minD) (aCons f1 (aCons f2 aNil))) :=
  fe_blt (call_min2 hc) (intD_ok fun i j H Q _ F Γ σ G R q => ⟨i, j, rfl, q _ _ _ R (Le.refl G) rfl⟩) hm (by decide +kernel) (fa_cons ha (fa_cons hb fa_nil he2) he) hg (he := he) (hpl := hpl)
def dmD := intD (fun _ j => decide (0 < j ∧ j < 1073741824)) fun i j => .tup [.int (i / j), .int (i % j)]
theorem fe_divmod {p : Pos} (hm : X.mg "divmod" = none) (ha : FE X W a f1) (hb : FE X W b f2) (hg : Gl X "divmod" := by rfl) (he : starEach [a, b] X.env = (false, eval a X.env) :: starEach [b] X.env := by rfl) (he2 : starEach [b] X.env = (false, eval b X.env) :: starEach [] X.env := by rfl) (hpl : (backTo pos (starEach [b] X.env)).any (·.1) = false := by rfl) :
    FE X W (.Call (.Name "divmod" p) [a, b] [] pos) (opN (two dmD) (aCons f1 (aCons f2 aNil))) :=
  fe_blt call_divmod (intD_ok fun i j H Q hP F Γ σ G R q => ⟨i, j, rfl, of_decide_eq_true (p := 0 < j ∧ j < 1073741824) hP, fun p hp =>
    q _ _ _ (R.new hp) (Le.upd (R.gNone hp)) ⟨p, _, rfl, .of upd_same, ⟨_, _, rfl, rfl, _, _, rfl, rfl, rfl⟩⟩⟩) hm (by decide +kernel) (fa_cons ha (fa_cons hb fa_nil he2) he) hg (he := he) (hpl := hpl)
def tyN : D → Option String
  | .non => some "NoneType"
  | .bl _ => some "bool"
  | .int _ => some "int"
  | .str _ => some "str"
  | .lst _ => some "list"
  | .tup _ => some "tuple"
  | .dk _ _ => some "dict"
  | .scr _ => none
  | .ins _ _ _ => none
theorem tyX_of {K : Frg} {H : Hp} {x : D} {v : V} {t : String} (r : Rep K H x v) (e : tyN x = some t) : TyX K H v (.type t) := by
  cases x with
  | non => cases e; rw [show v = _ from r]; exact .base .non
  | bl b => cases e; rw [show v = _ from r]; exact .base (.bl b)
  | int i => cases e; rw [show v = _ from r]; exact .base (.int i)
  | str x => cases e; rw [show v = _ from r]; exact .base (.str x)
  | lst xs =>
    cases e
    obtain ⟨a, vs, rfl, h, _⟩ := r
    exact .base (.lst h)
  | tup xs =>
    cases e
    obtain ⟨a, vs, rfl, h, _⟩ := r
    rcases h with (h | ⟨o, h⟩) | ⟨o, its, n, h1, h2, _⟩
    · exact .base (.tup h)
    · exact .fTuple h
    · exact .kTuple h1 h2
  | dk ks vs =>
    cases e
    obtain ⟨a, kv, rfl, h, _⟩ := r
    exact .base (.dK h)
  | scr _ => cases e
  | ins _ _ _ => cases e
/-- what isinstance says of data: T's value is u -/
def IsiOk (K : Frg) (u : Value) (g : D → Option Bool) : Prop := ∀ (H : Hp) (x : D) (v : V) (k : Bool), Rep K H x v → g x = some k → ∃ t, TyX K H v t ∧ PySem.W.kitOne K t u = some k
def isB (n : String) (x : D) : Option Bool := (tyN x).bind fun t => kitB t n
theorem isB_ok {K : Frg} (n : String) : IsiOk K (.type n) (isB n) := fun H x v k r e => by
  obtain ⟨t, e1, e2⟩ := Option.bind_eq_some_iff.mp (show (tyN x).bind (fun t => kitB t n) = some k from e)
  exact ⟨_, tyX_of r e1, kit_ty e2⟩
/-- the class that stands as the second argument -/
structure FC (X : Cx) (e : Expr) (u : Value) : Prop where
  ex : ∃ (c : V), ClsV c u ∧ PE X e (tC c)
theorem fc_ty {x : Str} {n : String} (hm : X.mg x = none) (hv : bootBuiltins x = some (.type n)) (hg : Gl X x := by rfl) (hn : x ≠ "__name__" := by decide) (hd : (x == ("__debug__" : Str)) = false := by decide) : FC X (.Name x pos) (.type n) :=
  ⟨.ty n, .ty n, pe_bltn hg hm hv rfl hn hd⟩
theorem fc_own {x : Str} {C : Addr} (hm : X.mg x = some (.ref C)) (hg : Gl X x := by rfl) (hd : (x == ("__debug__" : Str)) = false := by decide) : FC X (.Name x pos) (.ref C) :=
  ⟨.ref C, .own C, pe_glob hg hm rfl hd⟩
def finI (g : D → Option Bool) (ev : EV) (Γ : En) : O EV := match (ev.look Γ).bind g with
  | some k => .ok (.d (.bl k)) Γ
  | none => .fail
def isiE (g : D → Option Bool) (f : EF) : EF := fun Γ => (f Γ).bind (finI g)
theorem fe_isi {p : Pos} {v : Value} {g : D → Option Bool} (hm : X.mg "isinstance" = none) (hi : IsiOk X.K v g) (hc : FC X b v) (ha : FE X W a f) (hg : Gl X "isinstance" := by rfl) (he : starEach [a, b] X.env = (false, eval a X.env) :: starEach [b] X.env := by rfl) (he2 : starEach [b] X.env = (false, eval b X.env) :: starEach [] X.env := by rfl) (hpl : (backTo pos (starEach [b] X.env)).any (·.1) = false := by rfl) :
    FE X W (.Call (.Name "isinstance" p) [a, b] [] pos) (isiE g f) := by
  obtain ⟨t, p1, s1⟩ := ha
  obtain ⟨c, hcv, pc⟩ := hc
  refine ⟨_, pe_callB call_isi hg hm (by decide +kernel) (pa_cons p1 (pa_cons pc pa_nil he2) he) (he := he) (hpl := hpl), Sem.bind (T := fun x σ H Q => rIsi X.K [x, c] H Q) s1 fun F Γ σ H G ev v R r => ?_⟩
  unfold finI
  split
  · rename_i k e
    obtain ⟨x, e1, e2⟩ := Option.bind_eq_some_iff.mp e
    obtain ⟨t, ht, hk⟩ := hi H x v k ((R.look r e1).rep R.gh) e2
    exact fun Q q => ⟨v, c, t, _, k, rfl, hcv, ht, hk, q _ _ _ R (Le.refl G) rfl⟩
  · trivial
def reprP (p : PyData) : Option Str := if p.showable = true ∧ p.hasDict = false ∧ p.depth ≤ 60 ∧ p.shown.length ≤ sizeLine then some p.shown else none
def reprD (x : D) : Option D := x.py.bind fun p => (reprP p).map D.str
theorem call_reprD (hg : X.A.guards = some []) (hu : X.A.units + 65 < cLine) : CallR X (.builtin "repr") (fun xs H Q => ∃ v p z, xs = [v] ∧ Dp X.K H v p ∧ reprP p = some z ∧ Q (.str z) H) := by
  intro pins s σ H xs us Q I r h
  obtain ⟨v, p, z, rfl, dp, hz, q⟩ := h
  obtain ⟨w, rfl, rv⟩ := vals1 r
  unfold reprP at hz
  split at hz
  · rename_i hc
    obtain ⟨c1, c2, c3, c4⟩ := hc
    cases hz
    obtain ⟨as, rd⟩ := Dp.reads I p v w dp rv
    have fin : ∀ h' tk, (∀ b o, s.heap.get? b = some o → h'.get? b = some o) → ∀ t, EP X pins σ Q (.str p.shown t) { s with heap := h', toks := tk } := fun h' tk hk t => ⟨.str p.shown, H, I.kept (t' := tk) hk, ⟨t, rfl⟩, q⟩
    cases dp with
    | non =>
      cases rv
      exact P.repr_of_none (fin s.heap _ (fun _ _ e => e) _)
    | bl b =>
      cases rv
      exact P.repr_of_bool (fin s.heap _ (fun _ _ e => e) _)
    | int i =>
      obtain ⟨t, rfl⟩ := rv
      exact P.repr_of_int (by simpa [PyData.showable] using c1) (fin s.heap _ (fun _ _ e => e) _)
    | str x =>
      obtain ⟨t, rfl⟩ := rv
      exact P.repr_of_str (fin s.heap _ (fun _ _ e => e) _) (by simpa only [PyData.shown] using c4)
    | lst _ _ =>
      cases rv
      exact repr_of_reads' rd c1 (fun z => by rw [c2] at z; cases z) hg (by omega) (fun _ _ e => e) (fun h' t tk hk => fin h' tk hk t) c4
    | tup _ _ =>
      cases rv
      exact repr_of_reads' rd c1 (fun z => by rw [c2] at z; cases z) hg (by omega) (fun _ _ e => e) (fun h' t tk hk => fin h' tk hk t) c4
  · cases hz
theorem fe_repr {p : Pos} (hgd : X.A.guards = some []) (hu : X.A.units + 65 < cLine) (hm : X.mg "repr" = none) (ha : FE X W e f) (hg : Gl X "repr" := by rfl) (he : starEach [e] X.env = (false, eval e X.env) :: starEach [] X.env := by rfl) : FE X W (.Call (.Name "repr" p) [e] [] pos) (opN (one reprD) (aCons f aNil)) := by
  refine fe_blt (call_reprD hgd hu) (opN_one fun F Γ σ H G d v x Q R r e q => ?_) hm (by decide +kernel) (fa_cons ha fa_nil he) hg (he := he) (hpl := by rfl)
  obtain ⟨p, e1, e2⟩ := Option.bind_eq_some_iff.mp (show d.py.bind (fun p => (reprP p).map D.str) = some x from e)
  obtain ⟨z, e3, rfl⟩ := Option.map_eq_some_iff.mp e2
  exact ⟨v, p, z, rfl, Rep.dp d v p e1 (r.rep R.gh), e3, q _ _ _ R (Le.refl G) rfl⟩
def isStr : EV → Bool
  | .d (.str _) => true
  | _ => false
def m1E (g : D → D → Option D) (fo fa : EF) : EF := fun Γ => (fo Γ).bind fun eo Γ1 => if isStr eo then (fa Γ1).bind fun ea Γ2 => fin2 g eo ea Γ2 else .fail
theorem isStr_rep {K : Frg} {σ : St} {G : Hp} {ev : EV} {v : V} (h : isStr ev = true) (r : vrel K σ G ev v) : ∃ a, v = .str a := by
  unfold isStr at h
  split at h
  · exact ⟨_, r⟩
  · cases h
theorem fe_m1 {id : String} {name : Str} {r : V → List V → Hp → VK → Prop} {g : D → D → Option D} (slot : Slot "str" name id) (ty : typeOf (.builtin id) = pure (.type "method_descriptor")) (rule : MtR X id r) (hs : Op2 X (fun v w => r v [w]) g) (ho : FE X W o fo) (ha : FE X W a fa)
    (hst : starEach [a] X.env = [(false, eval a X.env)] := by rfl) (hbase : attributeBase o name X.env (eval o X.env) = eval o X.env := by rfl) (hline : (apos.endLine == pos.line) = true := by rfl) : FE X W (.Call (.Attribute o name apos) [a] [] pos) (m1E g fo fa) := by
  obtain ⟨u1, p1, s1⟩ := ho
  obtain ⟨u2, p2, s2⟩ := ha
  refine ⟨_, pe_m1 slot ty rule p1 p2 hst hbase hline, fun F Γ σ H G R => ?_⟩
  refine Out.bind (T' := fun x H1 Q => (∃ a, x = .str a) ∧ u2 σ H1 fun y H2 => r x [y] H2 Q) (s1 F Γ σ H G R) fun ev Γ1 v H1 G1 R1 _ r1 => ?_
  split
  · rename_i hi
    refine Out.of (Out.bind (T' := fun y H2 Q => r v [y] H2 Q) (s2 F Γ1 σ H1 G1 R1) fun ev2 Γ2 v2 H2 G2 R2 le2 r2 => ?_) fun Q q => ⟨isStr_rep hi r1, q⟩
    exact out_fin2 hs R2 (vrel_mono _ _ _ _ _ _ le2 r1) r2
  · trivial
def splitD : D → D → Option D
  | .str x, .str y => if (y.length == 0) = false ∧ x.length + 2 ≤ sizeLine then some (.lst ((Txt.split x y).map D.str)) else none
  | _, _ => none
theorem fe_split (ho : FE X W o fo) (ha : FE X W a fa) (hst : starEach [a] X.env = [(false, eval a X.env)] := by rfl) (hbase : attributeBase o "split" X.env (eval o X.env) = eval o X.env := by rfl) (hline : (apos.endLine == pos.line) = true := by rfl) :
    FE X W (.Call (.Attribute o "split" apos) [a] [] pos) (m1E splitD fo fa) :=
  fe_m1 F.slot_str_split F.type_str_split mt_split (fun F Γ σ H G d1 d2 v1 v2 x Q R r1 r2 e q => by
    unfold splitD at e
    split at e
    · split at e
      · rename_i hz
        cases e
        exact ⟨_, _, r1.str, by rw [r2.str], hz.1, hz.2, fun p hp => q _ _ _ (R.new hp) (Le.upd (R.gNone hp)) ⟨p, _, rfl, upd_same, Reps.of_strs _⟩⟩
      · cases e
    · cases e) ho ha hst hbase hline
def texts : List D → Option (List Str)
  | [] => some []
  | .str x :: ds => (texts ds).map fun xs => x :: xs
  | _ :: _ => none
theorem texts_eq : ∀ {ds : List D} {xs : List Str}, texts ds = some xs → ds = xs.map D.str
  | [], _, e => by cases e; rfl
  | .str x :: ds, _, e => by
    obtain ⟨xs, e1, rfl⟩ := Option.map_eq_some_iff.mp (show (texts ds).map (fun xs => x :: xs) = some _ from e)
    rw [texts_eq e1]
    rfl
  | .non :: _, _, e => by cases e
  | .int _ :: _, _, e => by cases e
  | .bl _ :: _, _, e => by cases e
  | .lst _ :: _, _, e => by cases e
  | .tup _ :: _, _, e => by cases e
  | .scr _ :: _, _, e => by cases e
  | .dk _ _ :: _, _, e => by cases e
  | .ins _ _ _ :: _, _, e => by cases e
def joinD : D → D → Option D
  | .str x, .lst ys => (texts ys).bind fun zs => if (zs.map (·.length)).sum + zs.length * x.length ≤ 16777216 then some (.str (Txt.join x zs)) else none
  | .str x, .tup ys => (texts ys).bind fun zs => if (zs.map (·.length)).sum + zs.length * x.length ≤ 16777216 then some (.str (Txt.join x zs)) else none
  | _, _ => none
theorem fe_join (ho : FE X W o fo) (ha : FE X W a fa) (hst : starEach [a] X.env = [(false, eval a X.env)] := by rfl) (hbase : attributeBase o "join" X.env (eval o X.env) = eval o X.env := by rfl) (hline : (apos.endLine == pos.line) = true := by rfl) :
    FE X W (.Call (.Attribute o "join" apos) [a] [] pos) (m1E joinD fo fa) :=
  fe_m1 F.slot_str_join F.type_str_join mt_join (fun F Γ σ H G d1 d2 v1 v2 x Q R r1 r2 e q => by
    unfold joinD at e
    split at e
    · obtain ⟨zs, e1, e2⟩ := Option.bind_eq_some_iff.mp e
      split at e2
      · rename_i hz
        cases e2
        obtain ⟨p, vs, rfl, h, r⟩ := r2.lst R.gh
        rw [r.strs zs (texts_eq e1)] at h
        exact ⟨_, p, zs, r1.str, rfl, .inl (.of h), hz, q _ _ _ R (Le.refl G) rfl⟩
      · cases e2
    · obtain ⟨zs, e1, e2⟩ := Option.bind_eq_some_iff.mp e
      split at e2
      · rename_i hz
        cases e2
        obtain ⟨p, vs, rfl, h, r⟩ := r2.tup
        rw [r.strs zs (texts_eq e1)] at h
        exact ⟨_, p, zs, r1.str, rfl, .inr (SqT.le R.gh h), hz, q _ _ _ R (Le.refl G) rfl⟩
      · cases e2
    · cases e) ho ha hst hbase hline
def swD : D → D → Option D
  | .str x, .str y => some (.bl (Txt.startswith x y))
  | _, _ => none
theorem fe_startswith (ho : FE X W o fo) (ha : FE X W a fa) (hst : starEach [a] X.env = [(false, eval a X.env)] := by rfl) (hbase : attributeBase o "startswith" X.env (eval o X.env) = eval o X.env := by rfl) (hline : (apos.endLine == pos.line) = true := by rfl) :
    FE X W (.Call (.Attribute o "startswith" apos) [a] [] pos) (m1E swD fo fa) :=
  fe_m1 F.slot_str_startswith F.type_str_startswith mt_startswith (fun F Γ σ H G d1 d2 v1 v2 x Q R r1 r2 e q => by
    unfold swD at e
    split at e
    · cases e
      exact ⟨_, _, r1.str, by rw [r2.str], q _ _ _ R (Le.refl G) rfl⟩
    · cases e) ho ha hst hbase hline
def rpD : D → D → Option D
  | .str x, .str y => if x.length ≤ sizeLine then some (.str (Txt.removeprefix x y)) else none
  | _, _ => none
theorem fe_removeprefix (ho : FE X W o fo) (ha : FE X W a fa) (hst : starEach [a] X.env = [(false, eval a X.env)] := by rfl) (hbase : attributeBase o "removeprefix" X.env (eval o X.env) = eval o X.env := by rfl) (hline : (apos.endLine == pos.line) = true := by rfl) :
    FE X W (.Call (.Attribute o "removeprefix" apos) [a] [] pos) (m1E rpD fo fa) :=
  fe_m1 F.slot_str_removeprefix F.type_str_removeprefix mt_removeprefix (fun F Γ σ H G d1 d2 v1 v2 x Q R r1 r2 e q => by
    unfold rpD at e
    split at e
    · split at e
      · rename_i hz
        cases e
        exact ⟨_, _, r1.str, by rw [r2.str], hz, q _ _ _ R (Le.refl G) rfl⟩
      · cases e
    · cases e) ho ha hst hbase hline
end FL

/-! part F6 -/
set_option Elab.async false
set_option linter.all false
set_option maxRecDepth 100000
set_option maxHeartbeats 4000000
namespace FL
open PySem PySem.Spec PyProof.Rows L2
noncomputable def reb (Γ : En) (σ : St) (H G : Hp) (F : Fr) : Fr :=
  ⟨fun a => open Classical in if (∃ j, ownAt Γ j ∧ σ[j]? = some (some (V.ref a))) then none else H a, G, F.bi, F.ba⟩
section
variable {K : Frg} {F : Fr} {Γ Γ' : En} {σ σ' : St} {H H' G G' : Hp}
theorem reb_he {a : Addr} {o : HO} (h : (reb Γ σ H G F).He a = some o) : H a = some o ∧ ¬ ∃ j, ownAt Γ j ∧ σ[j]? = some (some (V.ref a)) := by
  unfold reb at h
  simp only at h
  split at h
  · cases h
  · rename_i n; exact ⟨h, n⟩
theorem reb_of {a : Addr} {o : HO} (h : H a = some o) (n : ¬ ∃ j, ownAt Γ j ∧ σ[j]? = some (some (V.ref a))) : (reb Γ σ H G F).He a = some o := by
  unfold reb
  simp only
  rw [if_neg n]; exact h
theorem Rl.rebase (R : Rl K F Γ σ H G) : Rl K (reb Γ σ H G F) Γ σ H G where
  len := R.len
  gh := R.gh
  ge := Le.refl G
  he := fun a o e _ => (reb_he e).1
  gn := fun a o e => .inl e
  sl := R.sl
  ac := fun i o e => by
    obtain ⟨a, u, h1, h2, h3, h4, h5, h6⟩ := R.ac i o e
    refine ⟨a, u, h1, h2, h3, ?_, h5, h6⟩
    unfold reb
    simp only
    rw [if_pos ⟨i, ⟨o, e⟩, h1⟩]
  bo := fun i o e => by
    obtain ⟨h1, h2, ⟨w, h3⟩, h4, u, h5, h6⟩ := R.bo i o e
    refine ⟨h1, h2, ⟨u, reb_of h5 fun ⟨j, ⟨o', ho⟩, hj⟩ => ?_⟩, h4, u, h5, h6⟩
    obtain ⟨a, u', g1, _, _, g4, _⟩ := R.ac j o' ho
    rw [hj] at g1
    cases g1
    have g4 : F.He F.ba = none := g4
    rw [h3] at g4; cases g4
  bb := R.bb
theorem Rl.heH (R : Rl K F Γ σ H G) {a : Addr} {o : HO} (e : F.He a = some o) : ∃ u, H a = some u := by
  cases hb : F.bi with
  | none => exact ⟨o, R.he a o e (.inl hb)⟩
  | some i =>
    by_cases hp : a = F.ba
    · obtain ⟨o', ho⟩ := R.bb i hb
      obtain ⟨_, _, _, _, u, hu, _⟩ := R.bo i o' ho
      exact ⟨u, by rw [hp]; exact hu⟩
    · exact ⟨o, R.he a o e (.inr hp)⟩
theorem Rl.notOwned (R : Rl K F Γ σ H G) {a : Addr} {o : HO} (e : F.He a = some o) : ¬ ∃ j, ownAt Γ j ∧ σ[j]? = some (some (V.ref a)) := fun ⟨j, ⟨o', ho⟩, hj⟩ => by
  obtain ⟨b, u', g1, _, _, g4, _⟩ := R.ac j o' ho
  rw [hj] at g1
  cases g1
  rw [e] at g4; cases g4
/-- back to the def's own entry -/
theorem Rl.unrebase (R : Rl K F Γ σ H G) (R' : Rl K (reb Γ σ H G F) Γ' σ' H' G') : Rl K F Γ' σ' H' G' where
  len := R'.len
  gh := R'.gh
  ge := R.ge.trans R'.ge
  he := fun a o e hb => R'.he a o (reb_of (R.he a o e hb) (R.notOwned e)) hb
  gn := fun a o e => by
    rcases R'.gn a o e with h | h
    · exact R.gn a o h
    · right
      cases q : F.He a with
      | none => rfl
      | some u =>
        obtain ⟨u', hu⟩ := R.heH q
        rw [reb_of hu (R.notOwned q)] at h
        cases h
  sl := R'.sl
  ac := fun i o e => by
    obtain ⟨a, u, h1, h2, h3, h4, h5, h6⟩ := R'.ac i o e
    refine ⟨a, u, h1, h2, h3, ?_, h5, h6⟩
    cases q : F.He a with
    | none => rfl
    | some u =>
      obtain ⟨u', hu⟩ := R.heH q
      rw [reb_of hu (R.notOwned q)] at h4
      cases h4
  bo := fun i o e => by
    obtain ⟨h1, h2, ⟨w, h3⟩, h4, u, h5, h6⟩ := R'.bo i o e
    refine ⟨h1, h2, ?_, h4, u, h5, h6⟩
    obtain ⟨o', ho⟩ := R.bb i h1
    obtain ⟨_, _, g3, _⟩ := R.bo i o' ho
    exact g3
  bb := R'.bb
/-- what nobody owns stays untouched and untold -/
theorem Rl.stays (R : Rl K F Γ σ H G) (R' : Rl K (reb Γ σ H G F) Γ' σ' H' G') {p : Addr} {u : HO} (hp : H p = some u) (no : ∀ j, ownAt Γ j → σ[j]? ≠ some (some (.ref p))) (hb : F.bi = none ∨ p ≠ F.ba) (hg : G p = none) :
    H' p = some u ∧ G' p = none ∧ ∀ j, ownAt Γ' j → σ'[j]? ≠ some (some (.ref p)) := by
  have e : (reb Γ σ H G F).He p = some u := reb_of hp fun ⟨j, ho, hj⟩ => no j ho hj
  refine ⟨R'.he p u e hb, ?_, fun j ho hj => R'.notOwned e ⟨j, ho, hj⟩⟩
  cases q : G' p with
  | none => rfl
  | some w =>
    rcases R'.gn p w q with h | h
    · rw [show (reb Γ σ H G F).Ge p = G p from rfl, hg] at h; cases h
    · rw [e] at h; cases h
end
inductive VV where
  | e (ev : EV) | n (o : OD)
abbrev VF := En → O VV
/-- a new object that nobody else holds -/
def New (K : Frg) (F : Fr) (Γ : En) (σ : St) (H G : Hp) (o : OD) (v : V) : Prop := ∃ (p : Addr) (u : HO), v = .ref p ∧ H p = some u ∧ G p = none ∧ F.He p = none ∧ (F.bi = none ∨ p ≠ F.ba) ∧ (∀ j, ownAt Γ j → σ[j]? ≠ some (some (.ref p))) ∧ ORep K G o u
def vvrel (K : Frg) (F : Fr) (Γ : En) (σ : St) (H G : Hp) (x : VV) (v : V) : Prop := match x with
  | .e ev => vrel K σ G ev v
  | .n o => New K F Γ σ H G o v
def OutV {α β : Type} (K : Frg) (W : WX) (rel : Fr → En → St → Hp → Hp → α → β → Prop) (F : Fr) (σ : St) (G : Hp) (T : (β → Hp → Prop) → Prop) : O α → Prop
  | .ok a Γ' => ∀ Q : β → Hp → Prop, (∀ b H' G', Rl K F Γ' σ H' G' → Le G G' → rel F Γ' σ H' G' a b → Q b H') → T Q
  | .exc c ns fs Γ' => ∀ Q : β → Hp → Prop, (∀ cls dx H' G', Rl K F Γ' σ H' G' → Le G G' → XRep K G' c ns fs cls dx → W cls dx σ H') → T Q
  | .fail => True
def SemV {α β : Type} (K : Frg) (W : WX) (rel : Fr → En → St → Hp → Hp → α → β → Prop) (t : St → Hp → (β → Hp → Prop) → Prop) (f : En → O α) : Prop := ∀ (F : Fr) (Γ : En) (σ : St) (H G : Hp), Rl K F Γ σ H G → OutV K W rel F σ G (t σ H) (f Γ)
structure FV (X : Cx) (W : WX) (e : Expr) (f : VF) : Prop where
  ex : ∃ t, PE X e t ∧ SemV X.K W (vvrel X.K) t f
variable {X : Cx} {W : WX} {e a b c o : Expr} {f g f1 f2 f3 fo fa : EF} {t1 t2 : TF} {pos apos : Pos} {es : List Expr} {u : AF}
def vE' (f : EF) : VF := fun Γ => match f Γ with
  | .ok ev Γ' => .ok (.e ev) Γ'
  | .exc c ns fs Γ' => .exc c ns fs Γ'
  | .fail => .fail
theorem fv_e (h : FE X W e f) : FV X W e (vE' f) := by
  obtain ⟨t, p, s⟩ := h
  refine ⟨t, p, fun F Γ σ H G R => ?_⟩
  have h1 := s F Γ σ H G R
  unfold vE'
  revert h1
  cases f Γ with
  | fail => exact fun _ => trivial
  | exc c ns fs Γ' => exact fun h1 => h1
  | ok a Γ' => exact fun h1 => h1
/-- a piece that ends in a new object -/
def finL (es : List EV) (Γ : En) : O VV := match frzs es Γ with
  | some (xs, Γ') => if xs.length ≤ sizeLine then .ok (.n (.l xs)) Γ' else .fail
  | none => .fail
def lstN (r : AF) : VF := fun Γ => (r Γ).bind finL
theorem OutV.bind {α β α' β' : Type} {K : Frg} {rel : Rel α β} {rel' : Fr → En → St → Hp → Hp → α' → β' → Prop} {F : Fr} {σ : St} {G : Hp} {T : (β → Hp → Prop) → Prop} {T' : β → Hp → (β' → Hp → Prop) → Prop} {g : α → En → O α'} : ∀ {r : O α}, Out K W rel F σ G T r →
    (∀ a Γ1 b H1 G1, Rl K F Γ1 σ H1 G1 → Le G G1 → rel σ G1 a b → OutV K W rel' F σ G1 (T' b H1) (g a Γ1)) → OutV K W rel' F σ G (fun Q => T fun b H1 => T' b H1 Q) (r.bind g)
  | .fail, _, _ => trivial
  | .exc _ _ _ _, h, _ => fun Q q => h _ q
  | .ok a Γ1, h, k => by
    show OutV K W rel' F σ G _ (g a Γ1)
    cases e2 : g a Γ1 with
    | fail => trivial
    | exc c ns fs Γ' =>
      intro Q q
      refine h _ fun b H1 G1 R1 le1 r1 => ?_
      have h2 := k a Γ1 b H1 G1 R1 le1 r1
      rw [e2] at h2
      exact h2 Q fun cls dx H' G' R' le' x => q cls dx H' G' R' (le1.trans le') x
    | ok a' Γ' =>
      intro Q q
      refine h _ fun b H1 G1 R1 le1 r1 => ?_
      have h2 := k a Γ1 b H1 G1 R1 le1 r1
      rw [e2] at h2
      exact h2 Q fun b' H' G' R' le' x => q b' H' G' R' (le1.trans le') x
theorem Rl.baNe {K : Frg} {F : Fr} {Γ : En} {σ : St} {H G : Hp} (R : Rl K F Γ σ H G) {p : Addr} (h : H p = none) : F.bi = none ∨ p ≠ F.ba := by
  cases hb : F.bi with
  | none => exact .inl rfl
  | some i =>
    obtain ⟨o, ho⟩ := R.bb i hb
    obtain ⟨_, _, _, _, u, hu, _⟩ := R.bo i o ho
    exact .inr fun z => by rw [z, hu] at h; cases h
/-- laying a new object gives one -/
theorem Rl.newN {K : Frg} {F : Fr} {Γ : En} {σ : St} {H G : Hp} (R : Rl K F Γ σ H G) {p : Addr} {u : HO} {o : OD} (h : H p = none) (r : ORep K G o u) : Rl K F Γ σ (upd H p u) G ∧ New K F Γ σ (upd H p u) G o (.ref p) :=
  ⟨R.newH h, p, u, rfl, upd_same, R.gNone h, R.heNone h, R.baNe h, R.noOwn h, r⟩
theorem fv_lst {r : AF} (h : FA X W es r) : FV X W (.List es pos) (lstN r) := by
  obtain ⟨t, p, s⟩ := h
  refine ⟨_, pe_lst p, fun F Γ σ H G R => ?_⟩
  refine OutV.bind (T' := fun (xs : List V) H1 (Q : VK) => xs.length ≤ sizeLine ∧ ∀ p, H1 p = none → Q (.ref p) (upd H1 p (.lst xs))) (s F Γ σ H G R) fun es Γ1 vs H1 G1 R1 _ rs => ?_
  unfold finL
  split
  · rename_i xs Γ' e
    split
    · rename_i hz
      intro Q q
      obtain ⟨G', R', le, rp⟩ := R1.frzs rs e
      refine ⟨by rw [rp.len]; exact hz, fun p hp => ?_⟩
      obtain ⟨R2, n⟩ := R'.newN (o := .l xs) hp ⟨vs, rfl, rp⟩
      exact q _ _ _ R2 le n
    · trivial
  · trivial
/-- a + b of lists, a new one -/
def catN (e1 e2 : EV) (Γ : En) : O VV := match e1.look Γ, e2.look Γ with
  | some (.lst xs), some (.lst ys) => if xs.length + ys.length ≤ sizeLine then .ok (.n (.l (xs ++ ys))) Γ else .fail
  | _, _ => .fail
theorem fv_cat (ha : FE X W a f1) (hb : FE X W b f2) : FV X W (.BinOp a .Add b pos) (fun Γ => (f1 Γ).bind fun e1 Γ1 => (f2 Γ1).bind (catN e1)) := by
  obtain ⟨u1, p1, s1⟩ := ha
  obtain ⟨u2, p2, s2⟩ := hb
  refine ⟨_, pe_op op_addA p1 p2, fun F Γ σ H G R => ?_⟩
  refine OutV.bind (T' := fun x H1 Q => u2 σ H1 fun y H2 => rAddA X.K x y H2 Q) (s1 F Γ σ H G R) fun ev Γ1 v H1 G1 R1 _ r1 => ?_
  refine OutV.bind (T' := fun y H2 Q => rAddA X.K v y H2 Q) (s2 F Γ1 σ H1 G1 R1) fun ev2 Γ2 v2 H2 G2 R2 le2 r2 => ?_
  unfold catN
  split
  · rename_i xs ys e1 e2
    split
    · rename_i hz
      intro Q q
      obtain ⟨l1, vs1, rfl, h1, q1⟩ := (R2.look (vrel_mono _ _ _ _ _ _ le2 r1) e1).lst R2.gh
      obtain ⟨l2, vs2, rfl, h2, q2⟩ := (R2.look r2 e2).lst R2.gh
      refine .inr (.inr (.inl ⟨l1, l2, vs1, vs2, rfl, rfl, h1, h2, by rw [q1.len, q2.len]; exact hz, fun p hp => ?_⟩))
      obtain ⟨R3, n⟩ := R2.newN (o := .l (xs ++ ys)) hp ⟨_, rfl, q1.append q2⟩
      exact q _ _ _ R3 (Le.refl _) n
    · trivial
  · trivial
/-- list(x), a new one -/
def listN : List EV → En → O VV
  | [e], Γ => (match e.look Γ with
    | some (.lst xs) => .ok (.n (.l xs)) Γ
    | some (.tup xs) => .ok (.n (.l xs)) Γ
    | _ => .fail)
  | _, _ => .fail
theorem fv_list {p : Pos} (hm : X.mg "list" = none) (ha : FE X W e f) (hg : Gl X "list" := by rfl) (he : starEach [e] X.env = (false, eval e X.env) :: starEach [] X.env := by rfl) : FV X W (.Call (.Name "list" p) [e] [] pos) (fun Γ => (aCons f aNil Γ).bind listN) := by
  obtain ⟨t, pa, s⟩ := fa_cons ha fa_nil he
  refine ⟨_, pe_callTy call_list_of hg hm (by decide +kernel) pa (he := he) (hpl := by rfl), fun F Γ σ H G R => ?_⟩
  refine OutV.bind (T' := fun xs H (Q : VK) => ∃ p ys, xs = [V.ref p] ∧ (SqL X.K H p ys ∨ SqT X.K H p ys) ∧ ∀ l, H l = none → Q (.ref l) (upd H l (.lst ys))) (s F Γ σ H G R) fun es Γ1 vs H1 G1 R1 _ rs => ?_
  unfold listN
  split
  · rename_i e
    cases rs with
    | cons r1 t =>
      cases t
      split
      · rename_i xs e1
        obtain ⟨l1, vs1, rfl, h1, q1⟩ := (R1.look r1 e1).lst R1.gh
        refine fun Q q => ⟨l1, vs1, rfl, .inl (.of h1), fun p hp => ?_⟩
        obtain ⟨R2, n⟩ := R1.newN (o := .l xs) hp ⟨_, rfl, q1⟩
        exact q _ _ _ R2 (Le.refl _) n
      · rename_i xs e1
        obtain ⟨l1, vs1, rfl, h1, q1⟩ := (R1.look r1 e1).tup
        refine fun Q q => ⟨l1, vs1, rfl, .inr (SqT.le R1.gh h1), fun p hp => ?_⟩
        obtain ⟨R2, n⟩ := R1.newN (o := .l xs) hp ⟨_, rfl, q1⟩
        exact q _ _ _ R2 (Le.refl _) n
      · trivial
  · trivial
inductive Fl where
  | nx | br | ct | rt (d : D) | rn (o : OD)
abbrev SF := En → O Fl
/-- what is wanted behind a statement that ends so -/
def Fin (K : Frg) (F : Fr) (Γ' : En) (G : Hp) (D : Ends) : Fl → Prop
  | .nx => ∀ σ' H' G', Rl K F Γ' σ' H' G' → Le G G' → D.nx σ' H'
  | .br => ∀ σ' H' G', Rl K F Γ' σ' H' G' → Le G G' → D.bk σ' H'
  | .ct => ∀ σ' H' G', Rl K F Γ' σ' H' G' → Le G G' → D.ct σ' H'
  | .rt d => ∀ v σ' H' G', Rl K F Γ' σ' H' G' → Le G G' → Rep K G' d v → D.rt v H'
  | .rn o => ∀ v σ' H' G', Rl K F Γ' σ' H' G' → Le G G' → New K F Γ' σ' H' G' o v → D.rt v H'
def OutS (K : Frg) (W : WX) (F : Fr) (G : Hp) (T : Ends → Prop) : O Fl → Prop
  | .ok fl Γ' => ∀ D : Ends, Fin K F Γ' G D fl → T D
  | .exc c ns fs Γ' => ∀ D : Ends, (∀ cls dx σ' H' G', Rl K F Γ' σ' H' G' → Le G G' → XRep K G' c ns fs cls dx → W cls dx σ' H') → T D
  | .fail => True
def SemS (K : Frg) (W : WX) (t : TS) (f : SF) : Prop := ∀ (F : Fr) (Γ : En) (σ : St) (H G : Hp), Rl K F Γ σ H G → OutS K W F G (fun D => t D σ H) (f Γ)
structure FS (X : Cx) (W : WX) (st : Stmt) (f : SF) : Prop where
  ex : ∃ t, PS X st t ∧ SemS X.K W t f
structure FB (X : Cx) (W : WX) (sts : List Stmt) (f : SF) : Prop where
  ex : ∃ t, PSs X sts t ∧ SemS X.K W t f
theorem Fin.le {K : Frg} {F : Fr} {Γ' : En} {G G1 : Hp} {D : Ends} (l : Le G G1) : ∀ {fl : Fl}, Fin K F Γ' G D fl → Fin K F Γ' G1 D fl
  | .nx, h => fun σ' H' G' R le => h σ' H' G' R (l.trans le)
  | .br, h => fun σ' H' G' R le => h σ' H' G' R (l.trans le)
  | .ct, h => fun σ' H' G' R le => h σ' H' G' R (l.trans le)
  | .rt _, h => fun v σ' H' G' R le r => h v σ' H' G' R (l.trans le) r
  | .rn _, h => fun v σ' H' G' R le r => h v σ' H' G' R (l.trans le) r
/-- a piece, then the rest of the statement -/
theorem OutS.bind {α β : Type} {K : Frg} {rel : Rel α β} {F : Fr} {σ : St} {G : Hp} {T : (β → Hp → Prop) → Prop} {T' : β → Hp → Ends → Prop} {g : α → En → O Fl} : ∀ {r : O α}, Out K W rel F σ G T r →
    (∀ a Γ1 b H1 G1, Rl K F Γ1 σ H1 G1 → Le G G1 → rel σ G1 a b → OutS K W F G1 (T' b H1) (g a Γ1)) → OutS K W F G (fun D => T fun b H1 => T' b H1 D) (r.bind g)
  | .fail, _, _ => trivial
  | .exc _ _ _ _, h, _ => fun D q => h _ fun cls dx H' G' R le x => q cls dx σ H' G' R le x
  | .ok a Γ1, h, k => by
    show OutS K W F G _ (g a Γ1)
    cases e2 : g a Γ1 with
    | fail => trivial
    | exc c ns fs Γ' =>
      intro D q
      refine h _ fun b H1 G1 R1 le1 r1 => ?_
      have h2 := k a Γ1 b H1 G1 R1 le1 r1
      rw [e2] at h2
      exact h2 D fun cls dx σ' H' G' R' le' x => q cls dx σ' H' G' R' (le1.trans le') x
    | ok fl Γ' =>
      intro D q
      refine h _ fun b H1 G1 R1 le1 r1 => ?_
      have h2 := k a Γ1 b H1 G1 R1 le1 r1
      rw [e2] at h2
      exact h2 D (q.le le1)
theorem OutS.bindV {α β : Type} {K : Frg} {rel : Fr → En → St → Hp → Hp → α → β → Prop} {F : Fr} {σ : St} {G : Hp} {T : (β → Hp → Prop) → Prop} {T' : β → Hp → Ends → Prop} {g : α → En → O Fl} : ∀ {r : O α}, OutV K W rel F σ G T r →
    (∀ a Γ1 b H1 G1, Rl K F Γ1 σ H1 G1 → Le G G1 → rel F Γ1 σ H1 G1 a b → OutS K W F G1 (T' b H1) (g a Γ1)) → OutS K W F G (fun D => T fun b H1 => T' b H1 D) (r.bind g)
  | .fail, _, _ => trivial
  | .exc _ _ _ _, h, _ => fun D q => h _ fun cls dx H' G' R le x => q cls dx σ H' G' R le x
  | .ok a Γ1, h, k => by
    show OutS K W F G _ (g a Γ1)
    cases e2 : g a Γ1 with
    | fail => trivial
    | exc c ns fs Γ' =>
      intro D q
      refine h _ fun b H1 G1 R1 le1 r1 => ?_
      have h2 := k a Γ1 b H1 G1 R1 le1 r1
      rw [e2] at h2
      exact h2 D fun cls dx σ' H' G' R' le' x => q cls dx σ' H' G' R' (le1.trans le') x
    | ok fl Γ' =>
      intro D q
      refine h _ fun b H1 G1 R1 le1 r1 => ?_
      have h2 := k a Γ1 b H1 G1 R1 le1 r1
      rw [e2] at h2
      exact h2 D (q.le le1)
theorem OutS.of {K : Frg} {F : Fr} {G : Hp} {T T' : Ends → Prop} : ∀ {r : O Fl}, OutS K W F G T r → (∀ D, T D → T' D) → OutS K W F G T' r
  | .ok _ _, h, k => fun D q => k D (h D q)
  | .exc _ _ _ _, h, k => fun D q => k D (h D q)
  | .fail, _, _ => trivial
def seqS (f g : SF) : SF := fun Γ => match f Γ with
  | .ok .nx Γ1 => g Γ1
  | r => r
def nxS : SF := fun Γ => .ok .nx Γ
theorem fb_nil : FB X W [] nxS := ⟨_, pss_nil, fun F Γ σ H G R D h => h σ H G R (Le.refl G)⟩
variable {st : Stmt} {rest sts : List Stmt} {s1 s2 : SF} {f' : VF}
theorem fb_cons (h1 : FS X W st s1) (h2 : FB X W rest s2) : FB X W (st :: rest) (seqS s1 s2) := by
  obtain ⟨t1, p1, m1⟩ := h1
  obtain ⟨t2, p2, m2⟩ := h2
  refine ⟨_, pss_cons p1 p2, fun F Γ σ H G R => ?_⟩
  have h := m1 F Γ σ H G R
  unfold seqS
  split
  · rename_i Γ1 e
    rw [e] at h
    cases e2 : s2 Γ1 with
    | fail => trivial
    | exc c ns fs Γ' =>
      intro D q
      refine h _ fun σ1 H1 G1 R1 le1 => ?_
      have k := m2 F Γ1 σ1 H1 G1 R1
      rw [e2] at k
      exact k D fun cls dx σ' H' G' R' le' x => q cls dx σ' H' G' R' (le1.trans le') x
    | ok fl Γ' =>
      intro D q
      refine h _ fun σ1 H1 G1 R1 le1 => ?_
      have k := m2 F Γ1 σ1 H1 G1 R1
      rw [e2] at k
      exact k D (q.le le1)
  · rename_i r n
    revert h
    cases e : s1 Γ with
    | fail => exact fun _ => trivial
    | exc c ns fs Γ' => exact fun h D q => h _ q
    | ok fl Γ' =>
      cases fl with
      | nx => exact absurd e (n Γ')
      | br => exact fun h D q => h _ q
      | ct => exact fun h D q => h _ q
      | rt d => exact fun h D q => h _ q
      | rn o => exact fun h D q => h _ q
theorem fb_one (h : FS X W st s1) : FB X W [st] s1 := by
  obtain ⟨t1, p1, m1⟩ := h
  exact ⟨_, pss_one p1, m1⟩
theorem fs_pass : FS X W (.Pass pos) nxS := ⟨_, ps_pass, fun F Γ σ H G R D h => h σ H G R (Le.refl G)⟩
def brS : SF := fun Γ => .ok .br Γ
def ctS : SF := fun Γ => .ok .ct Γ
theorem fs_break : FS X W (.Break pos) brS := ⟨_, ps_break, fun F Γ σ H G R D h => h σ H G R (Le.refl G)⟩
theorem fs_continue : FS X W (.Continue pos) ctS := ⟨_, ps_continue, fun F Γ σ H G R D h => h σ H G R (Le.refl G)⟩
def finR (ev : EV) (Γ : En) : O Fl := match frz1 ev Γ with
  | some (x, Γ') => .ok (.rt x) Γ'
  | none => .fail
def retS (f : EF) : SF := fun Γ => (f Γ).bind finR
theorem fs_ret (h : FE X W e f) : FS X W (.Return (some e) pos) (retS f) := by
  obtain ⟨t, p, s⟩ := h
  refine ⟨_, ps_ret p, fun F Γ σ H G R => ?_⟩
  refine OutS.bind (T' := fun v H1 D => D.rt v H1) (s F Γ σ H G R) fun ev Γ1 v H1 G1 R1 _ r1 => ?_
  unfold finR
  split
  · rename_i x Γ' e
    obtain ⟨G', R', le, rp⟩ := R1.frz1 r1 e
    exact fun D q => q v σ H1 G' R' le rp
  · trivial
/-- return of what may be new -/
def finRV (x : VV) (Γ : En) : O Fl := match x with
  | .e ev => finR ev Γ
  | .n o => .ok (.rn o) Γ
def retV (f : VF) : SF := fun Γ => (f Γ).bind finRV
theorem fs_retV (h : FV X W e f') : FS X W (.Return (some e) pos) (retV f') := by
  obtain ⟨t, p, s⟩ := h
  refine ⟨_, ps_ret p, fun F Γ σ H G R => ?_⟩
  refine OutS.bindV (T' := fun v H1 D => D.rt v H1) (s F Γ σ H G R) fun x Γ1 v H1 G1 R1 _ r1 => ?_
  unfold finRV
  split
  · rename_i ev
    unfold finR
    split
    · rename_i x Γ' e
      obtain ⟨G', R', le, rp⟩ := R1.frz1 r1 e
      exact fun D q => q v σ H1 G' R' le rp
    · trivial
  · rename_i o
    exact fun D q => q v σ H1 G1 R1 (Le.refl _) r1
theorem Rl.setNo' {K : Frg} {F : Fr} {Γ : En} {σ : St} {H G : Hp} (R : Rl K F Γ σ H G) {i : Nat} {o : OD} (h : Γ[i]? = some (.acc o)) : Rl K F (Γ.set i .no) σ H G := by
  obtain ⟨a, u, h1, _⟩ := R.ac i o h
  have k := R.setNo (i := i) (x := some (.ref a)) (fun z => by
    obtain ⟨o', e⟩ := R.bb i z
    rw [h] at e; cases e)
  rwa [show σ.set i (some (.ref a)) = σ from by
    apply List.ext_getElem? ; intro j
    by_cases e : i = j
    · subst e; rw [List.getElem?_set_self (List.getElem?_eq_some_iff.mp h1).1, h1]
    · rw [List.getElem?_set_ne e]] at k
/-- a slot's own object given away -/
def giv (ev : EV) (Γ : En) : O VV := match ev with
  | .d d => .ok (.e (.d d)) Γ
  | .own i => match Γ[i]? with
    | some (.acc o) => .ok (.n o) (Γ.set i .no)
    | _ => .ok (.e (.own i)) Γ
def givV (f : EF) : VF := fun Γ => (f Γ).bind giv
theorem fv_giv (h : FE X W e f) : FV X W e (givV f) := by
  obtain ⟨t, p, s⟩ := h
  refine ⟨t, p, fun F Γ σ H G R => ?_⟩
  refine OutV.bind (T' := fun v H1 Q => Q v H1) (s F Γ σ H G R) fun ev Γ1 v H1 G1 R1 _ r1 => ?_
  unfold giv
  split
  · exact fun Q q => q v H1 G1 R1 (Le.refl _) r1
  · rename_i i
    split
    · rename_i o eo
      refine fun Q q => q v H1 G1 (R1.setNo' eo) (Le.refl _) ?_
      obtain ⟨p, u, h1, h2, h3, h4, h5, h6⟩ := R1.ac i o eo
      rw [show σ[i]? = some (some v) from r1] at h1
      cases h1
      refine ⟨p, u, rfl, h2, h3, h4, ?_, fun j ⟨o', ho'⟩ hj => ?_, h5⟩
      · cases hb : F.bi with
        | none => exact .inl rfl
        | some k =>
          obtain ⟨ob, hob⟩ := R1.bb k hb
          obtain ⟨_, _, ⟨w, g3⟩, _⟩ := R1.bo k ob hob
          exact .inr fun z => by rw [z, g3] at h4; cases h4
      · rcases get_set ho' with ⟨_, _, z⟩ | ⟨hk, z⟩
        · cases z
        · exact h6 j (fun q => hk q) ⟨o', z⟩ hj
    · exact fun Q q => q v H1 G1 R1 (Le.refl _) r1
def retN : SF := fun Γ => .ok (.rt .non) Γ
theorem fs_retN : FS X W (.Return none pos) retN := ⟨_, ps_retN, fun F Γ σ H G R D h => h .non σ H G R (Le.refl G) rfl⟩
def exprS (f : EF) : SF := fun Γ => (f Γ).bind fun _ Γ1 => .ok .nx Γ1
theorem fs_expr (h : FE X W e f) (hs : swapsWith e none pos.line X.env = pure false := by rfl) : FS X W (.Expr e pos) (exprS f) := by
  obtain ⟨t, p, s⟩ := h
  refine ⟨_, ps_expr p hs, fun F Γ σ H G R => ?_⟩
  exact OutS.bind (T' := fun _ H1 D => D.nx σ H1) (s F Γ σ H G R) fun ev Γ1 v H1 G1 R1 _ r1 D q => q σ H1 G1 R1 (Le.refl _)
theorem fs_doc {x : Str} {j p} : FS X W (.Expr (.Constant (.str x) j p) pos) nxS := ⟨_, ps_doc, fun F Γ σ H G R D h => h σ H G R (Le.refl G)⟩
def ifS (t : TF) (s1 s2 : SF) : SF := fun Γ => (t Γ).bind fun k Γ1 => if k then s1 Γ1 else s2 Γ1
theorem fs_if {sa sb : List Stmt} (hc : FT X W c t1) (ha : FB X W sa s1) (hb : FB X W sb s2) : FS X W (.If c sa sb pos) (ifS t1 s1 s2) := by
  obtain ⟨u1, p1, m1⟩ := hc
  obtain ⟨u2, p2, m2⟩ := ha
  obtain ⟨u3, p3, m3⟩ := hb
  refine ⟨_, ps_if p1 p2 p3, fun F Γ σ H G R => ?_⟩
  refine OutS.bind (T' := fun (b : Bool) H1 D => if b = true then u2 D σ H1 else u3 D σ H1) (m1 F Γ σ H G R) fun k Γ1 k' H1 G1 R1 _ r1 => ?_
  cases (show k' = k from r1)
  cases k with
  | true => exact m2 F Γ1 σ H1 G1 R1
  | false => exact m3 F Γ1 σ H1 G1 R1
def isBor (Γ : En) (i : Nat) : Bool := match Γ[i]? with
  | some (.bor _) => true
  | _ => false
theorem Rl.notBor {K : Frg} {F : Fr} {Γ : En} {σ : St} {H G : Hp} (R : Rl K F Γ σ H G) {i : Nat} (h : isBor Γ i = false) : F.bi ≠ some i := fun z => by
  obtain ⟨o, e⟩ := R.bb i z
  unfold isBor at h
  rw [e] at h
  cases h
def stoV (i : Nat) (x : VV) (Γ : En) : O Fl := match x with
  | .e ev => (match frz1 ev Γ with
    | some (d, Γ') => if isBor Γ' i = false then .ok .nx (Γ'.set i (.im d)) else .fail
    | none => .fail)
  | .n o => if isBor Γ i = false then .ok .nx (Γ.set i (.acc o)) else .fail
def asgV (i : Nat) (f : VF) : SF := fun Γ => (f Γ).bind (stoV i)
theorem out_sto {K : Frg} {F : Fr} {Γ : En} {σ : St} {H G : Hp} {i : Nat} {x : VV} {v : V} (R : Rl K F Γ σ H G) (r : vvrel K F Γ σ H G x v) : OutS K W F G (fun D => D.nx (σ.set i (some v)) H) (stoV i x Γ) := by
  unfold stoV
  split
  · split
    · rename_i d Γ' e
      split
      · rename_i hb
        obtain ⟨G', R', le, rp⟩ := R.frz1 r e
        exact fun D q => q _ H G' (R'.setIm (R'.notBor hb) rp) le
      · trivial
    · trivial
  · split
    · rename_i o hb
      obtain ⟨p, u, rfl, h1, h2, h3, _, h4, h5⟩ := r
      exact fun D q => q _ H G (R.setAcc (R.notBor hb) h1 h2 h3 h4 h5) (Le.refl G)
    · trivial
theorem fs_asg {i : Nat} {x : Str} {f : VF} {p' : Pos} (h : FV X W e f) (hN : X.N.Nodup) (hi : X.N[i]? = some x) (hx : Loc X.env.scope x) (hs : swapsWith e (some (.Name x p')) pos.line X.env = pure false := by rfl) (hf : X.fn x = true ∨ X.env.scope.names.lookup x = some .local := by first | exact .inl rfl | exact .inr rfl | assumption) :
    FS X W (.Assign [.Name x p'] e pos) (asgV i f) := by
  obtain ⟨t, p, s⟩ := h
  refine ⟨_, ps_set hN hi hx p hs hf, fun F Γ σ H G R => ?_⟩
  exact OutS.bindV (T' := fun v H1 D => D.nx (σ.set i (some v)) H1) (s F Γ σ H G R) fun x Γ1 v H1 G1 R1 _ r1 => out_sto R1 r1
abbrev BF := D → En → Option En
/-- slots but these stay -/
def Keeps (sl : List Nat) (σ σ' : St) : Prop := σ'.length = σ.length ∧ ∀ i, i ∉ sl → σ'[i]? = σ[i]?
theorem Keeps.refl (sl : List Nat) (σ : St) : Keeps sl σ σ := ⟨rfl, fun _ _ => rfl⟩
theorem Keeps.trans {sl sl' : List Nat} {σ σ1 σ2 : St} (h : Keeps sl σ σ1) (k : Keeps sl' σ1 σ2) : Keeps (sl ++ sl') σ σ2 :=
  ⟨k.1.trans h.1, fun i hi => (k.2 i fun z => hi (List.mem_append_right _ z)).trans (h.2 i fun z => hi (List.mem_append_left _ z))⟩
structure FG (X : Cx) (tg : Expr) (b : BF) (sl : List Nat) : Prop where
  ex : ∃ g : TG, PG X tg g ∧ ∀ (F : Fr) (Γ : En) (σ : St) (H G : Hp) (d : D) (v : V) (Γ' : En), Rl X.K F Γ σ H G → Rep X.K G d v → b d Γ = some Γ' → ∀ Q : St → Hp → Prop, (∀ σ' H' G', Rl X.K F Γ' σ' H' G' → Le G G' → Keeps sl σ σ' → Q σ' H') → g v σ H Q
structure FGs (X : Cx) (tgs : List Expr) (b : List D → En → Option En) (sl : List Nat) : Prop where
  ex : ∃ g : TGs, PGs X tgs g ∧ ∀ (F : Fr) (Γ : En) (σ : St) (H G : Hp) (d : List D) (v : List V) (Γ' : En), Rl X.K F Γ σ H G → Reps X.K G d v → b d Γ = some Γ' → ∀ Q : St → Hp → Prop, (∀ σ' H' G', Rl X.K F Γ' σ' H' G' → Le G G' → Keeps sl σ σ' → Q σ' H') → g v σ H Q
def bName (i : Nat) : BF := fun d Γ => if isBor Γ i = false then some (Γ.set i (.im d)) else none
theorem fg_name {i : Nat} {x : Str} (hN : X.N.Nodup) (hi : X.N[i]? = some x) (hx : Loc X.env.scope x) (hf : X.fn x = true ∨ X.env.scope.names.lookup x = some .local := by first | exact .inl rfl | exact .inr rfl | assumption) : FG X (.Name x pos) (bName i) [i] :=
  ⟨_, pg_name hN hi hx hf, fun F Γ σ H G d v Γ' R r e Q q => by
    unfold bName at e
    split at e
    · rename_i hb
      cases e
      exact q _ H G (R.setIm (R.notBor hb) r) (Le.refl G) ⟨by rw [List.length_set], fun k hk => List.getElem?_set_ne (fun z => hk (by simp [z]))⟩
    · cases e⟩
def bNil : List D → En → Option En
  | [], Γ => some Γ
  | _, _ => none
def bCons (b : BF) (r : List D → En → Option En) : List D → En → Option En
  | d :: ds, Γ => (b d Γ).bind fun Γ1 => r ds Γ1
  | _, _ => none
theorem fgs_nil : FGs X [] bNil [] := ⟨_, pgs_nil, fun F Γ σ H G d v Γ' R r e Q q => by
  cases d with
  | nil => cases e; exact ⟨r, q _ H G R (Le.refl G) (Keeps.refl _ _)⟩
  | cons _ _ => cases e⟩
theorem fgs_cons {tg : Expr} {tgs : List Expr} {bf : BF} {bs : List D → En → Option En} {sl1 sl2 : List Nat} (h1 : FG X tg bf sl1) (h2 : FGs X tgs bs sl2) (hs : (assignEach (tg :: tgs) X.env).map (·.2) = assign tg X.env :: (assignEach tgs X.env).map (·.2) := by rfl) : FGs X (tg :: tgs) (bCons bf bs) (sl1 ++ sl2) := by
  obtain ⟨g1, p1, m1⟩ := h1
  obtain ⟨g2, p2, m2⟩ := h2
  refine ⟨_, pgs_cons p1 p2 hs, fun F Γ σ H G d v Γ' R r e Q q => ?_⟩
  cases d with
  | nil => cases e
  | cons d ds =>
    obtain ⟨v1, vs, rfl, r1, r2⟩ := r
    obtain ⟨Γ1, e1, e2⟩ := Option.bind_eq_some_iff.mp (show (bf d Γ).bind (fun Γ1 => bs ds Γ1) = some Γ' from e)
    refine ⟨v1, vs, rfl, m1 F Γ σ H G d v1 Γ1 R r1 e1 _ fun σ' H' G' R' le kp => ?_⟩
    exact m2 F Γ1 σ' H' G' ds vs Γ' R' (Reps.le le _ _ r2) e2 Q fun σ2 H2 G2 R2 le2 kp2 => q σ2 H2 G2 R2 (le.trans le2) (kp.trans kp2)
def bTup (n : Nat) (bs : List D → En → Option En) : BF
  | .tup ds, Γ => if ds.length = n then bs ds Γ else none
  | _, _ => none
theorem fg_tup {tgs : List Expr} {k : Nat} {bs : List D → En → Option En} {n : Nat} {sl : List Nat} (hc : X.calm = true) (h : FGs X tgs bs sl) (hn : (assignEach tgs X.env).length = n := by rfl) (hst : (assignEach tgs X.env).findIdx? (·.1) = none := by rfl) : FG X (.Tuple tgs k pos) (bTup n bs) sl := by
  obtain ⟨g, p, m⟩ := h
  refine ⟨_, pg_tup hc p hn hst, fun F Γ σ H G d v Γ' R r e Q q => ?_⟩
  unfold bTup at e
  split at e
  · split at e
    · rename_i ds hl
      obtain ⟨a, vs, rfl, h, r⟩ := r
      exact ⟨a, vs, rfl, SqT.le R.gh h, by rw [r.len]; exact hl, m F Γ σ H G ds vs Γ' R r e Q q⟩
    · cases e
  · cases e
def bUnl (n : Nat) (bs : List D → En → Option En) : BF
  | .lst ds, Γ => if ds.length = n then bs ds Γ else none
  | _, _ => none
theorem fg_unl {tgs : List Expr} {k : Nat} {bs : List D → En → Option En} {n : Nat} {sl : List Nat} (hc : X.calm = true) (h : FGs X tgs bs sl) (hn : (assignEach tgs X.env).length = n := by rfl) (hst : (assignEach tgs X.env).findIdx? (·.1) = none := by rfl) : FG X (.Tuple tgs k pos) (bUnl n bs) sl := by
  obtain ⟨g, p, m⟩ := h
  refine ⟨_, pg_unl hc p hn hst, fun F Γ σ H G d v Γ' R r e Q q => ?_⟩
  unfold bUnl at e
  split at e
  · split at e
    · rename_i ds hl
      obtain ⟨a, vs, rfl, h, r⟩ := r
      exact ⟨a, vs, rfl, .of (R.gh _ _ h), by rw [r.len]; exact hl, m F Γ σ H G ds vs Γ' R r e Q q⟩
    · cases e
  · cases e
/-- target = value, data -/
def stoB (b : BF) (ev : EV) (Γ : En) : O Fl := match frz1 ev Γ with
  | some (d, Γ1) => (match b d Γ1 with
    | some Γ2 => .ok .nx Γ2
    | none => .fail)
  | none => .fail
def asgB (b : BF) (f : EF) : SF := fun Γ => (f Γ).bind (stoB b)
theorem fs_asgB {tg : Expr} {b : BF} {sl : List Nat} (h : FE X W e f) (hg : FG X tg b sl) (hs : swapsWithSole [tg] e pos.line X.env = pure false := by rfl) (hw : swappedStores [tg] e X.env = pure none := by rfl) (h1 : (assignEach [tg] X.env).map (·.2) = [assign tg X.env] := by rfl) :
    FS X W (.Assign [tg] e pos) (asgB b f) := by
  obtain ⟨t, p, s⟩ := h
  obtain ⟨g, pg, m⟩ := hg
  refine ⟨_, ps_asg p pg hs hw h1, fun F Γ σ H G R => ?_⟩
  refine OutS.bind (T' := fun v H1 D => g v σ H1 D.nx) (s F Γ σ H G R) fun ev Γ1 v H1 G1 R1 _ r1 => ?_
  unfold stoB
  split
  · rename_i d Γ2 e
    split
    · rename_i Γ3 e3
      obtain ⟨G', R', le, rp⟩ := R1.frz1 r1 e
      exact fun D q => m F Γ2 σ H1 G' d v Γ3 R' rp e3 _ fun σ' H' G2 R3 le3 _ => q σ' H' G2 R3 (le.trans le3)
    · trivial
  · trivial
end FL

/-! part F7 -/
set_option Elab.async false
set_option linter.all false
set_option maxRecDepth 100000
set_option maxHeartbeats 4000000
namespace FL
open PySem PySem.Spec PyProof.Rows L2
variable {X : Cx} {W : WX} {e a b c o : Expr} {f g f1 f2 f3 fo fa : EF} {t1 t2 : TF} {pos apos : Pos} {es : List Expr} {u : AF}
def vvs (K : Frg) (F : Fr) (Γ : En) (σ : St) (H G : Hp) : List VV → List V → Prop
  | [], vs => vs = []
  | x :: xs, vs => ∃ v r, vs = v :: r ∧ vvrel K F Γ σ H G x v ∧ vvs K F Γ σ H G xs r ∧ ∀ o, x = .n o → ∀ (k : Nat) o', xs[k]? = some (.n o') → r[k]? ≠ some v
theorem New.unreb {K : Frg} {F : Fr} {Γ Γ' : En} {σ σ' : St} {H H' G G' : Hp} (R : Rl K F Γ σ H G) {o : OD} {v : V} (n : New K (reb Γ σ H G F) Γ' σ' H' G' o v) : New K F Γ' σ' H' G' o v := by
  obtain ⟨p, u, h1, h2, h3, h4, h5, h6, h7⟩ := n
  refine ⟨p, u, h1, h2, h3, ?_, h5, h6, h7⟩
  cases q : F.He p with
  | none => rfl
  | some u =>
    obtain ⟨u', hu⟩ := R.heH q
    rw [reb_of hu (R.notOwned q)] at h4
    cases h4
theorem vvs.unreb {K : Frg} {F : Fr} {Γ Γ' : En} {σ σ' : St} {H H' G G' : Hp} (R : Rl K F Γ σ H G) : ∀ {xs : List VV} {vs : List V}, vvs K (reb Γ σ H G F) Γ' σ' H' G' xs vs → vvs K F Γ' σ' H' G' xs vs
  | [], _, e => e
  | x :: xs, _, ⟨v, r, e, h1, h2, h3⟩ => ⟨v, r, e, (match x, h1 with
    | .e _, h1 => h1
    | .n _, h1 => New.unreb R h1), vvs.unreb R h2, h3⟩
/-- a new object stays new while others are reckoned -/
theorem New.stays {K : Frg} {F : Fr} {Γ Γ' : En} {σ : St} {H H' G G' : Hp} (R : Rl K F Γ σ H G) (R' : Rl K (reb Γ σ H G F) Γ' σ H' G') (le : Le G G') {o : OD} {v : V} (n : New K F Γ σ H G o v) : New K F Γ' σ H' G' o v := by
  obtain ⟨p, u, h1, h2, h3, h4, h5, h6, h7⟩ := n
  obtain ⟨g1, g2, g3⟩ := R.stays R' h2 h6 h5 h3
  exact ⟨p, u, h1, g1, g2, h4, h5, g3, h7.le le⟩
/-- and nothing reckoned behind it is it -/
theorem New.apart {K : Frg} {F : Fr} {Γ Γ' : En} {σ : St} {H H' G G' : Hp} {o o' : OD} {v w : V} (n : New K F Γ σ H G o v) (m : New K (reb Γ σ H G F) Γ' σ H' G' o' w) : w ≠ v := by
  obtain ⟨p, u, rfl, h2, h3, h4, h5, h6, h7⟩ := n
  obtain ⟨p', u', rfl, g2, g3, g4, g5, g6, g7⟩ := m
  intro z
  cases z
  rw [reb_of h2 fun ⟨j, ho, hj⟩ => h6 j ho hj] at g4
  cases g4
abbrev VAF := En → O (List VV)
structure FVA (X : Cx) (W : WX) (es : List Expr) (f : VAF) : Prop where
  ex : ∃ t, PA X es t ∧ SemV X.K W (vvs X.K) t f
def vNil : VAF := fun Γ => .ok [] Γ
def vCons (f : VF) (r : VAF) : VAF := fun Γ => (f Γ).bind fun x Γ1 => (r Γ1).bind fun xs Γ2 => .ok (x :: xs) Γ2
theorem fva_nil : FVA X W [] vNil := ⟨_, pa_nil, fun F Γ σ H G R Q q => q [] H G R (Le.refl G) rfl⟩
theorem vvs_new {K : Frg} {F : Fr} {Γ : En} {σ : St} {H G : Hp} : ∀ {xs : List VV} {vs : List V} {k : Nat} {o : OD} {w : V}, vvs K F Γ σ H G xs vs → xs[k]? = some (.n o) → vs[k]? = some w → New K F Γ σ H G o w
  | [], _, _, _, _, _, h, _ => by simp at h
  | x :: xs, _, 0, o, w, ⟨v, r, e, h1, h2, h3⟩, h, g => by
    subst e
    simp at h g
    subst h g
    exact h1
  | x :: xs, _, k + 1, o, w, ⟨v, r, e, h1, h2, h3⟩, h, g => by
    subst e
    exact vvs_new h2 (by simpa using h) (by simpa using g)
theorem fva_cons {vf : VF} {r : VAF} (ha : FV X W e vf) (hr : FVA X W es r) (hs : starEach (e :: es) X.env = (false, eval e X.env) :: starEach es X.env := by rfl) : FVA X W (e :: es) (vCons vf r) := by
  obtain ⟨u1, p1, s1⟩ := ha
  obtain ⟨u2, p2, s2⟩ := hr
  refine ⟨_, pa_cons p1 p2 hs, fun F Γ σ H G R => ?_⟩
  have h1 := s1 F Γ σ H G R
  unfold vCons
  revert h1
  cases e1 : vf Γ with
  | fail => exact fun _ => trivial
  | exc c ns fs Γ' => exact fun h1 Q q => h1 _ q
  | ok x Γ1 =>
    intro h1
    show OutV X.K W (vvs X.K) F σ G _ ((r Γ1).bind fun xs Γ2 => .ok (x :: xs) Γ2)
    cases e2 : r Γ1 with
    | fail => trivial
    | exc c ns fs Γ' =>
      intro Q q
      refine h1 _ fun v H1 G1 R1 le1 r1 => ?_
      have h2 := s2 (reb Γ1 σ H1 G1 F) Γ1 σ H1 G1 R1.rebase
      rw [e2] at h2
      exact h2 _ fun cls dx H' G' R' le' x => q cls dx H' G' (R1.unrebase R') (le1.trans le') x
    | ok xs Γ2 =>
      intro Q q
      refine h1 _ fun v H1 G1 R1 le1 r1 => ?_
      have h2 := s2 (reb Γ1 σ H1 G1 F) Γ1 σ H1 G1 R1.rebase
      rw [e2] at h2
      refine h2 _ fun vs H' G' R' le' r2 => q _ H' G' (R1.unrebase R') (le1.trans le') ⟨v, vs, rfl, ?_, r2.unreb R1, ?_⟩
      · cases x with
        | e ev => exact vrel_mono X.K _ _ _ _ _ le' r1
        | n o => exact New.stays R1 R' le' r1
      · rintro o rfl k o' hk hv
        exact New.apart r1 (vvs_new r2 hk hv) rfl
/-- stored one after the other -/
def stoVs : List Nat → List VV → En → O Fl
  | [], [], Γ => .ok .nx Γ
  | i :: is, x :: xs, Γ => seqS (stoV i x) (stoVs is xs) Γ
  | _, _, _ => .fail
def setAll (σ : St) : List Nat → List V → St
  | i :: is, v :: vs => setAll (σ.set i (some v)) is vs
  | _, _ => σ
theorem Rl.frz1s {K : Frg} {F : Fr} {Γ Γ' : En} {σ : St} {H G : Hp} {ev : EV} {v : V} {x : D} (R : Rl K F Γ σ H G) (r : vrel K σ G ev v) (e : FL.frz1 ev Γ = some (x, Γ')) :
    ∃ G', Rl K F Γ' σ H G' ∧ Le G G' ∧ Rep K G' x v ∧ ∀ p, G p = none → (∀ j, ownAt Γ j → σ[j]? ≠ some (some (.ref p))) → G' p = none ∧ ∀ j, ownAt Γ' j → σ[j]? ≠ some (some (.ref p)) := by
  unfold FL.frz1 at e
  split at e
  · cases e
    exact ⟨G, R, Le.refl G, r, fun p h1 h2 => ⟨h1, h2⟩⟩
  · split at e
    · rename_i i _ o h
      cases e
      obtain ⟨w, G', h1, R', le, rp⟩ := R.freeze h
      rw [show σ[_]? = some (some v) from r] at h1
      cases h1
      have Rb := R.rebase
      obtain ⟨w, G2, h1, R2, le2, rp2⟩ := Rb.freeze h
      rw [show σ[_]? = some (some v) from r] at h1
      cases h1
      refine ⟨G2, R.unrebase R2, le2, rp2, fun p g1 g2 => ?_⟩
      have own : ∀ j, ownAt (Γ.set i (.im o.d)) j → σ[j]? ≠ some (some (.ref p)) := fun j ⟨o', ho⟩ => by
        rcases get_set ho with ⟨_, _, z⟩ | ⟨_, z⟩
        · cases z
        · exact g2 j ⟨o', z⟩
      refine ⟨?_, own⟩
      cases hp : H p with
      | none => exact R2.gNone hp
      | some u =>
        cases q : G2 p with
        | none => rfl
        | some w =>
          rcases R2.gn p w q with z | z
          · rw [show (reb Γ σ H G F).Ge p = G p from rfl, g1] at z; cases z
          · rw [reb_of hp fun ⟨j, ho, hj⟩ => g2 j ho hj] at z; cases z
    · cases e
theorem vvs.store {K : Frg} {F : Fr} {Γ Γ' : En} {σ : St} {H G G' : Hp} {i : Nat} {v : V} (le : Le G G') (hG : ∀ p u, H p = some u → G p = none → (∀ j, ownAt Γ j → σ[j]? ≠ some (some (.ref p))) → (v ≠ .ref p ∨ ∀ o, Γ'[i]? ≠ some (.acc o)) → G' p = none ∧ ∀ j, ownAt Γ' j → (σ.set i (some v))[j]? ≠ some (some (.ref p)))
    : ∀ {xs : List VV} {vs : List V}, (∀ (k : Nat) o', xs[k]? = some (.n o') → vs[k]? ≠ some v ∨ ∀ o, Γ'[i]? ≠ some (.acc o)) → (∀ (k : Nat) j, xs[k]? = some (.e (.own j)) → j ≠ i) → vvs K F Γ σ H G xs vs → vvs K F Γ' (σ.set i (some v)) H G' xs vs
  | [], _, _, _, e => e
  | x :: xs, _, hn, ho, ⟨w, r, e, h1, h2, h3⟩ => by
    subst e
    refine ⟨w, r, rfl, ?_, vvs.store le hG (fun k o' hk => ?_) (fun k j hk => ho (k + 1) j (by simpa using hk)) h2, h3⟩
    · cases x with
      | e ev =>
        cases ev with
        | d y => exact Rep.le le _ _ h1
        | own j =>
          show (σ.set i (some v))[j]? = some (some w)
          rw [List.getElem?_set_ne (fun z => ho 0 j rfl z.symm)]
          exact h1
      | n o =>
        obtain ⟨p, u, rfl, g1, g2, g3, g4, g5, g6⟩ := h1
        obtain ⟨k1, k2⟩ := hG p u g1 g2 g5 (by
          rcases hn 0 o rfl with z | z
          · exact .inl fun q => z (by rw [q]; rfl)
          · exact .inr z)
        exact ⟨p, u, rfl, g1, k1, g3, g4, k2, g6.le le⟩
    · rcases hn (k + 1) o' (by simpa using hk) with z | z
      · exact .inl (by simpa using z)
      · exact .inr z
/-- no later value reads a slot that is stored earlier -/
def offOwn (i : Nat) : List VV → Bool
  | [] => true
  | .e (.own j) :: xs => decide (j ≠ i) && offOwn i xs
  | _ :: xs => offOwn i xs
theorem offOwn_ok {i : Nat} : ∀ {xs : List VV}, offOwn i xs = true → ∀ (k : Nat) j, xs[k]? = some (.e (.own j)) → j ≠ i
  | [], _, k, j, h => by simp at h
  | x :: xs, h, k, j, hk => by
    cases x with
    | n o =>
      cases k with
      | zero => simp at hk
      | succ k => exact offOwn_ok (xs := xs) h k j (by simpa using hk)
    | e ev =>
      cases ev with
      | d y =>
        cases k with
        | zero => simp at hk
        | succ k => exact offOwn_ok (xs := xs) h k j (by simpa using hk)
      | own l =>
        obtain ⟨h1, h2⟩ := Bool.and_eq_true_iff.mp (show (decide (l ≠ i) && offOwn i xs) = true from h)
        cases k with
        | zero => simp at hk; subst hk; exact of_decide_eq_true h1
        | succ k => exact offOwn_ok (xs := xs) h2 k j (by simpa using hk)
def stoP : List Nat → List VV → En → O Fl
  | [], [], Γ => .ok .nx Γ
  | i :: is, x :: xs, Γ => if offOwn i xs then seqS (stoV i x) (stoP is xs) Γ else .fail
  | _, _, _ => .fail
theorem out_stoP {K : Frg} : ∀ {is : List Nat} {xs : List VV} {vs : List V} {F : Fr} {Γ : En} {σ : St} {H G : Hp}, Rl K F Γ σ H G → vvs K F Γ σ H G xs vs → OutS K W F G (fun D => D.nx (setAll σ is vs) H) (stoP is xs Γ)
  | [], [], _, F, Γ, σ, H, G, R, r => by
    cases r
    exact fun D q => q σ H G R (Le.refl G)
  | [], _ :: _, _, _, _, _, _, _, _, _ => trivial
  | _ :: _, [], _, _, _, _, _, _, _, _ => trivial
  | i :: is, x :: xs, _, F, Γ, σ, H, G, R, ⟨v, vs, e, h1, h2, h3⟩ => by
    subst e
    unfold stoP
    split
    · rename_i hoff
      have hoff := offOwn_ok hoff
      show OutS K W F G (fun D => D.nx (setAll (σ.set i (some v)) is vs) H) (seqS (stoV i x) (stoP is xs) Γ)
      -- what the first store leaves
      have key : ∀ Γ', stoV i x Γ = .ok .nx Γ' → ∃ G', Rl K F Γ' (σ.set i (some v)) H G' ∧ Le G G' ∧ vvs K F Γ' (σ.set i (some v)) H G' xs vs := by
        intro Γ' hst
        unfold stoV at hst
        split at hst
        · rename_i ev
          split at hst
          · rename_i d Γ1 e1
            split at hst
            · rename_i hb
              cases hst
              obtain ⟨G', R', le, rp, st⟩ := R.frz1s h1 e1
              refine ⟨G', R'.setIm (R'.notBor hb) rp, le, vvs.store le (fun p u _ g1 g2 _ => ?_) (fun k o' hk => .inr fun o z => ?_) hoff h2⟩
              · obtain ⟨k1, k2⟩ := st p g1 g2
                refine ⟨k1, fun j ⟨o, ho⟩ => ?_⟩
                rcases get_set ho with ⟨_, _, z⟩ | ⟨hj, z⟩
                · cases z
                · rw [List.getElem?_set_ne (Ne.symm hj)]; exact k2 j ⟨o, z⟩
              · rcases get_set z with ⟨_, _, z⟩ | ⟨hj, _⟩
                · cases z
                · exact hj rfl
            · cases hst
          · cases hst
        · rename_i o
          split at hst
          · rename_i hb
            cases hst
            obtain ⟨p, u, rfl, k1, k2, k3, k4, k5, k6⟩ := h1
            refine ⟨G, R.setAcc (R.notBor hb) k1 k2 k3 k5 k6, Le.refl G, vvs.store (Le.refl G) (fun q w _ g1 g2 g3 => ⟨g1, fun j ⟨o', ho⟩ => ?_⟩) (fun k o' hk => .inl (h3 o rfl k o' hk)) hoff h2⟩
            rcases get_set ho with ⟨rfl, hl, z⟩ | ⟨hj, z⟩
            · rw [List.getElem?_set_self (by rw [← R.len]; exact hl)]
              intro y
              cases y
              rcases g3 with g3 | g3
              · exact g3 rfl
              · exact g3 o (List.getElem?_set_self hl)
            · rw [List.getElem?_set_ne (Ne.symm hj)]; exact g2 j ⟨o', z⟩
          · cases hst
      cases e1 : stoV i x Γ with
      | fail => unfold seqS; rw [e1]; trivial
      | exc c ns fs Γ' =>
        exfalso
        unfold stoV at e1
        split at e1
        · split at e1
          · split at e1 <;> cases e1
          · cases e1
        · split at e1 <;> cases e1
      | ok fl Γ' =>
        cases fl with
        | nx =>
          obtain ⟨G', R', le, r'⟩ := key Γ' e1
          unfold seqS
          rw [e1]
          have k := out_stoP (is := is) R' r'
          show OutS K W F G _ (stoP is xs Γ')
          revert k
          cases stoP is xs Γ' with
          | fail => exact fun _ => trivial
          | exc c ns fs Γ2 => exact fun k D q => k D fun cls dx σ' H' G2 R2 le2 x => q cls dx σ' H' G2 R2 (le.trans le2) x
          | ok fl Γ2 => exact fun k D q => k D (q.le le)
        | _ =>
          exfalso
          unfold stoV at e1
          split at e1
          · split at e1
            · split at e1 <;> cases e1
            · cases e1
          · split at e1 <;> cases e1
    · trivial
theorem stoV_cases (i : Nat) (x : VV) (Γ : En) : stoV i x Γ = .fail ∨ ∃ Γ', stoV i x Γ = .ok .nx Γ' := by
  unfold stoV
  split
  · split
    · split
      · exact .inr ⟨_, rfl⟩
      · exact .inl rfl
    · exact .inl rfl
  · split
    · exact .inr ⟨_, rfl⟩
    · exact .inl rfl
theorem stoP_cases : ∀ (is : List Nat) (xs : List VV) (Γ : En), stoP is xs Γ = .fail ∨ (is.length = xs.length ∧ ∃ Γ', stoP is xs Γ = .ok .nx Γ')
  | [], [], Γ => .inr ⟨rfl, Γ, rfl⟩
  | [], _ :: _, _ => .inl rfl
  | _ :: _, [], _ => .inl rfl
  | i :: is, x :: xs, Γ => by
    unfold stoP
    split
    · unfold seqS
      rcases stoV_cases i x Γ with h | ⟨Γ', h⟩
      · rw [h]; exact .inl rfl
      · rw [h]
        rcases stoP_cases is xs Γ' with k | ⟨hl, Γ2, k⟩
        · exact .inl k
        · exact .inr ⟨by rw [List.length_cons, List.length_cons, hl], Γ2, k⟩
    · exact .inl rfl
theorem vvs_len {K : Frg} {F : Fr} {Γ : En} {σ : St} {H G : Hp} : ∀ {xs : List VV} {vs : List V}, vvs K F Γ σ H G xs vs → vs.length = xs.length
  | [], _, e => by rw [show _ = [] from e]; rfl
  | _ :: _, _, ⟨_, _, e, _, t, _⟩ => by subst e; rw [List.length_cons, List.length_cons, vvs_len t]
def parS (is : List Nat) (f : VAF) : SF := fun Γ => (f Γ).bind (stoP is)
theorem out_par {is : List Nat} {t : TA} {vf : VAF} (s : SemV X.K W (vvs X.K) t vf) {tail : Ends → St → List V → Hp → Prop} (h : ∀ D σ vs H1, vs.length = is.length → D.nx (setAll σ is vs) H1 → tail D σ vs H1) :
    SemS X.K W (fun D σ H => t σ H fun vs H1 => tail D σ vs H1) (parS is vf) := fun F Γ σ H G R => by
  refine OutS.bindV (T' := fun vs H1 D => tail D σ vs H1) (s F Γ σ H G R) fun xs Γ1 vs H1 G1 R1 _ r1 => ?_
  have k := out_stoP (W := W) (is := is) R1 r1
  rcases stoP_cases is xs Γ1 with e | ⟨hl, Γ', e⟩
  · rw [e]; trivial
  · exact k.of fun D q => h D σ vs H1 (by rw [vvs_len r1, hl]) q
theorem fs_par {i j : Nat} {x y : Str} {px py pt pt2 : Pos} {kt k2} {vf : VAF} (h : FVA X W [a, b] vf) (hc : X.calm = true) (hN : X.N.Nodup) (hi : X.N[i]? = some x) (hj : X.N[j]? = some y) (hij : i ≠ j)
    (hx : X.env.scope.names.lookup x = some .local) (hy : X.env.scope.names.lookup y = some .local)
    (hw : swappedStores [.Tuple [.Name x px, .Name y py] kt pt] (.Tuple [a, b] k2 pt2) X.env = pure (some [x, y]))
    (hs : swapsWithSole [.Tuple [.Name x px, .Name y py] kt pt] (.Tuple [a, b] k2 pt2) pos.line X.env = pure false := by rfl) :
    FS X W (.Assign [.Tuple [.Name x px, .Name y py] kt pt] (.Tuple [a, b] k2 pt2) pos) (parS [i, j] vf) := by
  obtain ⟨t, p, s⟩ := h
  refine ⟨_, ps_par hc hN hi hj hij hx hy p hw hs, out_par s (tail := fun D σ vs H1 => ∃ v w, vs = [v, w] ∧ D.nx ((σ.set i (some v)).set j (some w)) H1) fun D σ vs H1 hl q => ?_⟩
  match vs, hl with
  | [v, w], _ => exact ⟨v, w, rfl, q⟩
theorem fs_par3 {i j l : Nat} {x y z : Str} {px py pz pt pt2 : Pos} {kt k2} {vf : VAF} (h : FVA X W [a, b, c] vf) (hc : X.calm = true) (hN : X.N.Nodup) (hi : X.N[i]? = some x) (hj : X.N[j]? = some y) (hl : X.N[l]? = some z) (hij : i ≠ j) (hil : i ≠ l) (hjl : j ≠ l)
    (hx : X.env.scope.names.lookup x = some .local) (hy : X.env.scope.names.lookup y = some .local) (hz : X.env.scope.names.lookup z = some .local)
    (hw : swappedStores [.Tuple [.Name x px, .Name y py, .Name z pz] kt pt] (.Tuple [a, b, c] k2 pt2) X.env = pure (some [x, y, z]))
    (hs : swapsWithSole [.Tuple [.Name x px, .Name y py, .Name z pz] kt pt] (.Tuple [a, b, c] k2 pt2) pos.line X.env = pure false := by rfl) :
    FS X W (.Assign [.Tuple [.Name x px, .Name y py, .Name z pz] kt pt] (.Tuple [a, b, c] k2 pt2) pos) (parS [i, j, l] vf) := by
  obtain ⟨t, p, s⟩ := h
  refine ⟨_, ps_par3 hc hN hi hj hl hij hil hjl hx hy hz p hw hs, out_par s (tail := fun D σ vs H1 => ∃ u v w, vs = [u, v, w] ∧ D.nx (((σ.set i (some u)).set j (some v)).set l (some w)) H1) fun D σ vs H1 hl q => ?_⟩
  match vs, hl with
  | [u, v, w], _ => exact ⟨u, v, w, rfl, q⟩
end FL

/-! part F8 -/
set_option Elab.async false
set_option linter.all false
set_option maxRecDepth 100000
set_option maxHeartbeats 4000000
namespace FL
open PySem PySem.Spec PyProof.Rows L2
variable {X : Cx} {W : WX} {e a b c o : Expr} {f g f1 f2 f3 fo fa : EF} {t1 t2 : TF} {pos apos : Pos} {es : List Expr} {u : AF}
/-- the object that slot i owns is put anew -/
def putOwn (Γ : En) (i : Nat) (o : OD) : En := match Γ[i]? with
  | some (.acc _) => Γ.set i (.acc o)
  | some (.bor _) => Γ.set i (.bor o)
  | _ => Γ
theorem Rl.own {K : Frg} {F : Fr} {Γ : En} {σ : St} {H G : Hp} (R : Rl K F Γ σ H G) {i : Nat} {o : OD} (h : ownD Γ i = some o) : ∃ p u, σ[i]? = some (some (V.ref p)) ∧ H p = some u ∧ G p = none ∧ ORep K G o u ∧
    ∀ o' u', ORep K G o' u' → Rl K F (putOwn Γ i o') σ (upd H p u') G := by
  unfold ownD at h
  split at h
  · rename_i o' e
    cases h
    obtain ⟨a, u, h1, h2, h3, h4, h5, h6⟩ := R.ac i o e
    refine ⟨a, u, h1, h2, h3, h5, fun o' u' r => ?_⟩
    unfold putOwn
    rw [e]
    exact R.setOwn e h1 r
  · rename_i o' e
    cases h
    obtain ⟨h1, h2, h3, h4, u, h5, h6⟩ := R.bo i o e
    refine ⟨F.ba, u, h2, h5, h4, h6, fun o' u' r => ?_⟩
    unfold putOwn
    rw [e]
    exact R.setBor e r
  · cases h
/-- name.append(e) -/
def finApp (i : Nat) (ev : EV) (Γ : En) : O Fl := match frz1 ev Γ with
  | some (d, Γ1) => (match ownD Γ1 i with
    | some (.l xs) => if xs.length < sizeLine then .ok .nx (putOwn Γ1 i (.l (xs ++ [d]))) else .fail
    | _ => .fail)
  | none => .fail
def isOwnL (Γ : En) (i : Nat) : Bool := match ownD Γ i with
  | some (.l _) => true
  | _ => false
def appS (i : Nat) (f : EF) : SF := fun Γ => if isOwnL Γ i then (f Γ).bind (finApp i) else .fail
theorem isOwnL_ok {Γ : En} {i : Nat} (h : isOwnL Γ i = true) : ∃ xs, ownD Γ i = some (.l xs) := by
  unfold isOwnL at h
  split at h
  · rename_i xs e; exact ⟨xs, e⟩
  · cases h
theorem fs_append {i : Nat} {x : Str} {p p2 : Pos} (ha : FE X W e f) (hN : X.N[i]? = some x) (hv : Vis X.env.scope x) (hd : (x == ("__debug__" : Str)) = false := by decide) (hcd : (x == ("__classdict__" : Str)) = false := by decide)
    (hbase : attributeBase (.Name x p) "append" X.env (eval (.Name x p) X.env) = eval (.Name x p) X.env := by rfl)
    (hfew : ((backTo p2 (starEach [e] X.env)).all (fun x => !x.1) && (backToKw p2 (keywordEach [] X.env)).all (fun x => x.1.isSome)
      && decide (([e] : List Expr).length + ([] : List Keyword).length + (if ([] : List Keyword).isEmpty then 0 else 1) < 30)) = true := by rfl)
    (hline : (apos.endLine == p2.line) = true := by rfl) (hs : starEach [e] X.env = (false, eval e X.env) :: starEach [] X.env := by rfl)
    (hsw : swapsWith (.Call (.Attribute (.Name x p) "append" apos) [e] [] p2) none pos.line X.env = pure false := by rfl) :
    FS X W (.Expr (.Call (.Attribute (.Name x p) "append" apos) [e] [] p2) pos) (appS i f) := by
  obtain ⟨t, pt, s⟩ := ha
  refine ⟨_, ps_expr (pe_bm PySem.F.plainAttrs_list PySem.F.slot_list_append PySem.F.type_list_append mt_append (pe_var hN hv hd hcd) (pa_cons pt pa_nil hs) hbase hfew hline hs (by rfl)) hsw, fun F Γ σ H G R => ?_⟩
  unfold appS
  split
  · rename_i hi
    obtain ⟨ys, ey⟩ := isOwnL_ok hi
    obtain ⟨q0, u0, h0, h1, h2, h3, _⟩ := R.own ey
    obtain ⟨vs0, rfl, _⟩ := h3
    refine OutS.of (OutS.bind (T' := fun v H2 D => rAppend (V.ref q0) [v] H2 fun _ H3 => D.nx σ H3) (s F Γ σ H G R) fun ev Γ1 v H1 G1 R1 le1 r1 => ?_) fun D q => ⟨_, h0, .inl ⟨rfl, _, .of h1⟩, q⟩
    unfold finApp
    split
    · rename_i d Γ2 e2
      obtain ⟨G2, R2, le2, rp⟩ := R1.frz1 r1 e2
      split
      · rename_i xs ex
        split
        · rename_i hz
          obtain ⟨p, u, g1, g2, g3, g4, k⟩ := R2.own ex
          obtain ⟨vs, rfl, g4⟩ := g4
          rw [h0] at g1
          cases g1
          exact fun D q => ⟨_, vs, v, rfl, rfl, g2, by rw [g4.len]; exact hz, q σ _ G2 (k (.l (xs ++ [d])) _ ⟨_, rfl, g4.append (Reps.cons rp Reps.nil)⟩) le2⟩
        · trivial
      · trivial
    · trivial
  · trivial
/-- name[k] = e -/
def finSet (i : Nat) (d : D) (k : Int) (Γ : En) : Option En := match ownD Γ i with
  | some (.l xs) => (ixN xs.length k).map fun j => putOwn Γ i (.l (xs.set j d))
  | _ => none
/-- a subscript with a written index, as a target -/
def bSub (i : Nat) (k : Int) : BF := fun d Γ => finSet i d k Γ
theorem fg_sub {i : Nat} {x : Str} {p : Pos} {k : Int} {j pj} (hN : X.N[i]? = some x) (hv : Vis X.env.scope x) (mk : ∀ to ti, PE X (.Name x p) to → PE X (.Constant (.int k) j pj) ti → PG X (.Subscript (.Name x p) (.Constant (.int k) j pj) pos) (gSub to ti rSetL))
    (hd : (x == ("__debug__" : Str)) = false := by decide) (hcd : (x == ("__classdict__" : Str)) = false := by decide) : FG X (.Subscript (.Name x p) (.Constant (.int k) j pj) pos) (bSub i k) [] := by
  refine ⟨_, mk _ _ (pe_var hN hv hd hcd) pe_int, fun F Γ σ H G d v Γ' R r e Q q => ?_⟩
  unfold bSub finSet at e
  split at e
  · rename_i xs ex
    obtain ⟨jj, e1, rfl⟩ := Option.map_eq_some_iff.mp e
    obtain ⟨p, u, g1, g2, g3, g4, kk⟩ := R.own ex
    obtain ⟨vs, rfl, g4⟩ := g4
    exact ⟨_, g1, p, vs, k, jj, rfl, rfl, g2, by rw [g4.len]; exact e1, q σ _ G (kk (.l (xs.set jj d)) _ ⟨_, rfl, g4.set jj r⟩) (Le.refl G) (Keeps.refl _ _)⟩
  · cases e
/-- an iteration that yields what ds tells -/
def Walks (K : Frg) (J : It) (ds : List D) (G0 : Hp) : Prop := ∀ (F : Fr) (Γ : En) (σ : St) (H G : Hp) (i : Nat), Rl K F Γ σ H G → Le G0 G →
  (∀ d, ds[i]? = some d → J.go i H ∧ ∀ x H', J.yld i H x H' → ∃ G', Rl K F Γ σ H' G' ∧ Le G G' ∧ Rep K G' d x ∧ (H' = H ∨ ∃ p o, H p = none ∧ H' = upd H p o)) ∧ (ds.length ≤ i → J.stop i H)
abbrev IF := En → O (List D)
def OutI (K : Frg) (W : WX) (F : Fr) (σ : St) (G : Hp) (T : (It → Hp → Prop) → Prop) : O (List D) → Prop
  | .ok ds Γ' => ∀ R : It → Hp → Prop, (∀ J H' G', Rl K F Γ' σ H' G' → Le G G' → Walks K J ds G' → R J H') → T R
  | .exc c ns fs Γ' => ∀ R : It → Hp → Prop, (∀ cls dx H' G', Rl K F Γ' σ H' G' → Le G G' → XRep K G' c ns fs cls dx → W cls dx σ H') → T R
  | .fail => True
structure FI (X : Cx) (W : WX) (tg e : Expr) (f : IF) : Prop where
  ex : ∃ wi, PI X tg e wi ∧ ∀ (F : Fr) (Γ : En) (σ : St) (H G : Hp), Rl X.K F Γ σ H G → OutI X.K W F σ G (wi σ H) (f Γ)
theorem OutI.bind {α β : Type} {K : Frg} {rel : Rel α β} {F : Fr} {σ : St} {G : Hp} {T : (β → Hp → Prop) → Prop} {T' : β → Hp → (It → Hp → Prop) → Prop} {g : α → En → O (List D)} : ∀ {r : O α}, Out K W rel F σ G T r →
    (∀ a Γ1 b H1 G1, Rl K F Γ1 σ H1 G1 → Le G G1 → rel σ G1 a b → OutI K W F σ G1 (T' b H1) (g a Γ1)) → OutI K W F σ G (fun Q => T fun b H1 => T' b H1 Q) (r.bind g)
  | .fail, _, _ => trivial
  | .exc _ _ _ _, h, _ => fun Q q => h _ q
  | .ok a Γ1, h, k => by
    show OutI K W F σ G _ (g a Γ1)
    cases e2 : g a Γ1 with
    | fail => trivial
    | exc c ns fs Γ' =>
      intro Q q
      refine h _ fun b H1 G1 R1 le1 r1 => ?_
      have h2 := k a Γ1 b H1 G1 R1 le1 r1
      rw [e2] at h2
      exact h2 Q fun cls dx H' G' R' le' x => q cls dx H' G' R' (le1.trans le') x
    | ok a' Γ' =>
      intro Q q
      refine h _ fun b H1 G1 R1 le1 r1 => ?_
      have h2 := k a Γ1 b H1 G1 R1 le1 r1
      rw [e2] at h2
      exact h2 Q fun J H' G' R' le' x => q J H' G' R' (le1.trans le') x
/-- a list that stays -/
theorem walks_list {K : Frg} {a : Addr} {vs : List V} {ds : List D} {G0 : Hp} (h : G0 a = some (.lst vs)) (r : Reps K G0 ds vs) : Walks K (Itl K a) ds G0 := fun F Γ σ H G i R le => by
  have hG := le _ _ h
  have hH := R.gh _ _ hG
  have u : ∀ ys, SqL K H a ys → True := fun _ _ => trivial
  refine ⟨fun d hd => ?_, fun hi => ⟨vs, .of hH, by rw [r.len]; exact hi⟩⟩
  obtain ⟨v, h1, h2⟩ := r.getD hd
  refine ⟨⟨vs, v, .of hH, h1⟩, fun x H' y => ?_⟩
  obtain ⟨rfl, y⟩ := y
  have := y vs (.of hH)
  rw [h1] at this
  cases this
  exact ⟨G, R, Le.refl G, Rep.le le _ _ h2, .inl rfl⟩
theorem walks_tup {K : Frg} {a : Addr} {vs : List V} {ds : List D} {G0 : Hp} (h : SqT K G0 a vs) (r : Reps K G0 ds vs) : Walks K (Itt K a) ds G0 := fun F Γ σ H G i R le => by
  have hG := SqT.le le h
  have hH := SqT.le R.gh hG
  refine ⟨fun d hd => ?_, fun hi => ⟨vs, hH, by rw [r.len]; exact hi⟩⟩
  obtain ⟨v, h1, h2⟩ := r.getD hd
  refine ⟨⟨vs, v, hH, h1⟩, fun x H' y => ?_⟩
  obtain ⟨rfl, y⟩ := y
  have := y vs hH
  rw [h1] at this
  cases this
  exact ⟨G, R, Le.refl G, Rep.le le _ _ h2, .inl rfl⟩
theorem walks_range {K : Frg} {lo : Int} {n : Nat} {G0 : Hp} : Walks K (Itr lo n) ((List.range n).map fun i => D.int (lo + (i : Nat))) G0 := fun F Γ σ H G i R le => by
  refine ⟨fun d hd => ?_, fun hi => (by simpa using hi : n ≤ i)⟩
  rw [List.getElem?_map] at hd
  obtain ⟨j, h1, rfl⟩ := Option.map_eq_some_iff.mp hd
  obtain ⟨hl, h1⟩ := List.getElem?_eq_some_iff.mp h1
  rw [List.getElem_range] at h1
  subst h1
  refine ⟨(by simpa using hl : i < n), fun x H' y => ?_⟩
  obtain ⟨rfl, rfl⟩ := y
  exact ⟨G, R, Le.refl G, rfl, .inl rfl⟩
theorem walks_scr {K : Frg} {a : Addr} {ns : List Int} {G0 : Hp} (h : SqL K G0 a (ns.map V.int)) : Walks K (Itl K a) (ns.map D.int) G0 := fun F Γ σ H G i R le => by
  have hH := SqL.le R.gh (SqL.le le h)
  refine ⟨fun d hd => ?_, fun hi => ⟨_, hH, by simpa using hi⟩⟩
  rw [List.getElem?_map] at hd
  obtain ⟨j, h1, rfl⟩ := Option.map_eq_some_iff.mp hd
  have h1' : (ns.map V.int)[i]? = some (V.int j) := by rw [List.getElem?_map, h1]; rfl
  refine ⟨⟨_, _, hH, h1'⟩, fun x H' y => ?_⟩
  obtain ⟨rfl, y⟩ := y
  have := y _ hH
  rw [h1'] at this
  cases this
  exact ⟨G, R, Le.refl G, rfl, .inl rfl⟩
theorem walks_str {K : Frg} {x : Str} {G0 : Hp} : Walks K (Its x) (x.cps.toList.map fun c => D.str ⟨#[c]⟩) G0 := fun F Γ σ H G i R le => by
  refine ⟨fun d hd => ?_, fun hi => (by simpa using hi : x.cps.size ≤ i)⟩
  rw [List.getElem?_map] at hd
  obtain ⟨c, h1, rfl⟩ := Option.map_eq_some_iff.mp hd
  rw [Array.getElem?_toList] at h1
  refine ⟨(Array.getElem?_eq_some_iff.mp h1).1, fun y H' z => ?_⟩
  obtain ⟨rfl, c', h2, rfl⟩ := z
  rw [h1] at h2
  cases h2
  exact ⟨G, R, Le.refl G, rfl, .inl rfl⟩
/-- items of a list, a tuple, a text: the value is told from now on -/
def itL (ev : EV) (Γ : En) : O (List D) := match frz1 ev Γ with
  | some (.lst ds, Γ') => .ok ds Γ'
  | _ => .fail
def itT (ev : EV) (Γ : En) : O (List D) := match ev with
  | .d (.tup ds) => .ok ds Γ
  | _ => .fail
def itC (ev : EV) (Γ : En) : O (List D) := match ev with
  | .d (.scr ns) => .ok (ns.map D.int) Γ
  | _ => .fail
def itS (ev : EV) (Γ : En) : O (List D) := match ev with
  | .d (.str x) => .ok (x.cps.toList.map fun c => D.str ⟨#[c]⟩) Γ
  | _ => .fail
variable {tg : Expr}
theorem fi_list (h : FE X W e f) : FI X W tg e (fun Γ => (f Γ).bind itL) := by
  obtain ⟨t, p, s⟩ := h
  refine ⟨_, pi_list p, fun F Γ σ H G R => ?_⟩
  refine OutI.bind (T' := fun x H1 R => ∃ a, x = .ref a ∧ (∃ xs, SqL X.K H1 a xs) ∧ R (Itl X.K a) H1) (s F Γ σ H G R) fun ev Γ1 v H1 G1 R1 _ r1 => ?_
  unfold itL
  split
  · rename_i ds Γ' e
    obtain ⟨G', R', le, rp⟩ := R1.frz1 r1 e
    obtain ⟨a, vs, rfl, h, r⟩ := rp
    exact fun Q q => ⟨a, rfl, ⟨vs, .of (R'.gh _ _ h)⟩, q _ H1 G' R' le (walks_list h r)⟩
  · trivial
theorem fi_tup (h : FE X W e f) : FI X W tg e (fun Γ => (f Γ).bind itT) := by
  obtain ⟨t, p, s⟩ := h
  refine ⟨_, pi_tup p, fun F Γ σ H G R => ?_⟩
  refine OutI.bind (T' := fun x H1 R => ∃ a, x = .ref a ∧ (∃ xs, SqT X.K H1 a xs) ∧ R (Itt X.K a) H1) (s F Γ σ H G R) fun ev Γ1 v H1 G1 R1 _ r1 => ?_
  unfold itT
  split
  · obtain ⟨a, vs, rfl, h, r⟩ := r1
    exact fun Q q => ⟨a, rfl, ⟨vs, SqT.le R1.gh h⟩, q _ H1 G1 R1 (Le.refl _) (walks_tup h r)⟩
  · trivial
theorem fi_scr (h : FE X W e f) : FI X W tg e (fun Γ => (f Γ).bind itC) := by
  obtain ⟨t, p, s⟩ := h
  refine ⟨_, pi_list p, fun F Γ σ H G R => ?_⟩
  refine OutI.bind (T' := fun x H1 R => ∃ a, x = .ref a ∧ (∃ xs, SqL X.K H1 a xs) ∧ R (Itl X.K a) H1) (s F Γ σ H G R) fun ev Γ1 v H1 G1 R1 _ r1 => ?_
  unfold itC
  split
  · obtain ⟨a, rfl, h⟩ := r1
    exact fun Q q => ⟨a, rfl, ⟨_, SqL.le R1.gh h⟩, q _ H1 G1 R1 (Le.refl _) (walks_scr h)⟩
  · trivial
theorem fi_str (h : FE X W e f) : FI X W tg e (fun Γ => (f Γ).bind itS) := by
  obtain ⟨t, p, s⟩ := h
  refine ⟨_, pi_str p, fun F Γ σ H G R => ?_⟩
  refine OutI.bind (T' := fun v H1 R => ∃ x, v = .str x ∧ R (Its x) H1) (s F Γ σ H G R) fun ev Γ1 v H1 G1 R1 _ r1 => ?_
  unfold itS
  split
  · exact fun Q q => ⟨_, r1, q _ H1 G1 R1 (Le.refl _) walks_str⟩
  · trivial
def itR1 (es : List EV) (Γ : En) : O (List D) := match es with
  | [.d (.int j)] => if -(2 ^ 62) ≤ j ∧ j < 2 ^ 62 then .ok ((List.range j.toNat).map fun i => D.int (0 + (i : Nat))) Γ else .fail
  | _ => .fail
def itR2 (es : List EV) (Γ : En) : O (List D) := match es with
  | [.d (.int i), .d (.int j)] => if -(2 ^ 62) ≤ i ∧ i < 2 ^ 62 ∧ -(2 ^ 62) ≤ j ∧ j < 2 ^ 62 then .ok ((List.range (j - i).toNat).map fun k => D.int (i + (k : Nat))) Γ else .fail
  | _ => .fail
theorem fi_range1 {p : Pos} (hm : X.mg "range" = none) (h : FA X W [a] u) (hg : Gl X "range" := by rfl) (hs : starEach [a] X.env = [(false, eval a X.env)] := by rfl) : FI X W tg (.Call (.Name "range" p) [a] [] pos) (fun Γ => (u Γ).bind itR1) := by
  obtain ⟨t, p, s⟩ := h
  refine ⟨_, pi_range1 hg hm p hs, fun F Γ σ H G R => ?_⟩
  refine OutI.bind (T' := fun vs H1 R => ∃ j : Int, vs = [.int j] ∧ -(2 ^ 62) ≤ j ∧ j < 2 ^ 62 ∧ R (Itr 0 j.toNat) H1) (s F Γ σ H G R) fun es Γ1 vs H1 G1 R1 _ rs => ?_
  unfold itR1
  split
  · split
    · rename_i j hz
      cases rs with
      | cons r1 t =>
        cases t
        exact fun Q q => ⟨_, by rw [show _ = V.int j from r1], hz.1, hz.2, q _ H1 G1 R1 (Le.refl _) walks_range⟩
    · trivial
  · trivial
theorem fi_range2 {p : Pos} (hm : X.mg "range" = none) (h : FA X W [a, b] u) (hg : Gl X "range" := by rfl) (hs : starEach [a, b] X.env = [(false, eval a X.env), (false, eval b X.env)] := by rfl) (hs2 : starEach [b] X.env = [(false, eval b X.env)] := by rfl) :
    FI X W tg (.Call (.Name "range" p) [a, b] [] pos) (fun Γ => (u Γ).bind itR2) := by
  obtain ⟨t, p, s⟩ := h
  refine ⟨_, pi_range2 hg hm p hs hs2, fun F Γ σ H G R => ?_⟩
  refine OutI.bind (T' := fun vs H1 R => ∃ i j : Int, vs = [.int i, .int j] ∧ (-(2 ^ 62) ≤ i ∧ i < 2 ^ 62 ∧ -(2 ^ 62) ≤ j ∧ j < 2 ^ 62) ∧ R (Itr i (j - i).toNat) H1) (s F Γ σ H G R) fun es Γ1 vs H1 G1 R1 _ rs => ?_
  unfold itR2
  split
  · split
    · rename_i i j hz
      cases rs with
      | cons r1 t =>
        cases t with
        | cons r2 t =>
          cases t
          exact fun Q q => ⟨_, _, by rw [show _ = V.int i from r1, show _ = V.int j from r2], hz, q _ H1 G1 R1 (Le.refl _) walks_range⟩
    · trivial
  · trivial
def loopS (b : BF) (body : SF) : List D → En → O Fl
  | [], Γ => .ok .nx Γ
  | d :: ds, Γ => match b d Γ with
    | none => .fail
    | some Γ1 => match body Γ1 with
      | .ok .nx Γ2 => loopS b body ds Γ2
      | .ok .ct Γ2 => loopS b body ds Γ2
      | .ok .br Γ2 => .ok .nx Γ2
      | r => r
def forS (it : IF) (b : BF) (body : SF) : SF := fun Γ => (it Γ).bind (loopS b body)
variable {sts : List Stmt} {s1 : SF}
theorem out_loop {K : Frg} {tb : TS} {g : TG} {bf : BF} {body : SF} {sl : List Nat} (mg : ∀ (F : Fr) (Γ : En) (σ : St) (H G : Hp) (d : D) (v : V) (Γ' : En), Rl K F Γ σ H G → Rep K G d v → bf d Γ = some Γ' → ∀ Q : St → Hp → Prop, (∀ σ' H' G', Rl K F Γ' σ' H' G' → Le G G' → Keeps sl σ σ' → Q σ' H') → g v σ H Q)
    (mb : SemS K W tb body) {J : It} {ds : List D} {F : Fr} {Γ : En} {σ : St} {H G : Hp} (R : Rl K F Γ σ H G) (wk : Walks K J ds G) :
    OutS K W F G (fun D => ∃ Wd : Nat → Nat → St → Hp → Prop, (∃ m, Wd 0 m σ H) ∧ ∀ i m σ H, Wd i m σ H →
      (J.stop i H ∧ D.nx σ H) ∨ (J.go i H ∧ ∃ N : St → Hp → Prop, (∀ σ' H', N σ' H' → ∃ m', m' < m ∧ Wd (i + 1) m' σ' H') ∧ ∀ x H', J.yld i H x H' → g x σ H' fun σ2 H2 => tb { D with nx := N, ct := N, bk := D.nx } σ2 H2)) (loopS bf body ds Γ) := by
  -- one statement for all ends
  have main : ∀ r, loopS bf body ds Γ = r → r ≠ .fail → ∀ D : Ends, (match r with
      | .ok fl Γ' => Fin K F Γ' G D fl
      | .exc c ns fs Γ' => ∀ cls dx σ' H' G', Rl K F Γ' σ' H' G' → Le G G' → XRep K G' c ns fs cls dx → W cls dx σ' H'
      | .fail => True) → ∃ Wd : Nat → Nat → St → Hp → Prop, (∃ m, Wd 0 m σ H) ∧ ∀ i m σ H, Wd i m σ H →
      (J.stop i H ∧ D.nx σ H) ∨ (J.go i H ∧ ∃ N : St → Hp → Prop, (∀ σ' H', N σ' H' → ∃ m', m' < m ∧ Wd (i + 1) m' σ' H') ∧ ∀ x H', J.yld i H x H' → g x σ H' fun σ2 H2 => tb { D with nx := N, ct := N, bk := D.nx } σ2 H2) := by
    intro r hr nf D hD
    refine ⟨fun i m σ H => m = ds.length - i ∧ i ≤ ds.length ∧ ∃ Γ1 G1, Rl K F Γ1 σ H G1 ∧ Le G G1 ∧ loopS bf body (ds.drop i) Γ1 = r, ⟨ds.length, by simp, Nat.zero_le _, Γ, G, R, Le.refl G, hr⟩, ?_⟩
    rintro i m σ1 H1 ⟨rfl, hi, Γ1, G1, R1, le1, e1⟩
    obtain ⟨w1, w2⟩ := wk F Γ1 σ1 H1 G1 i R1 le1
    by_cases hlt : i < ds.length
    · have hdrop : ds.drop i = ds[i] :: ds.drop (i + 1) := List.drop_eq_getElem_cons hlt
      rw [hdrop] at e1
      obtain ⟨go, yl⟩ := w1 ds[i] (List.getElem?_eq_getElem hlt)
      refine .inr ⟨go, fun σ' H' => ∃ Γ2 G2, Rl K F Γ2 σ' H' G2 ∧ Le G G2 ∧ loopS bf body (ds.drop (i + 1)) Γ2 = r, fun σ' H' ⟨Γ2, G2, R2, le2, e2⟩ => ⟨ds.length - (i + 1), by omega, rfl, hlt, Γ2, G2, R2, le2, e2⟩, fun x H' y => ?_⟩
      obtain ⟨G2, R2, le2, rx, _⟩ := yl x H' y
      unfold loopS at e1
      cases eb : bf ds[i] Γ1 with
      | none => rw [eb] at e1; exact absurd e1.symm nf
      | some Γ2 =>
        rw [eb] at e1
        refine mg F Γ1 σ1 H' G2 ds[i] x Γ2 R2 rx eb _ fun σ3 H3 G3 R3 le3 _ => ?_
        have k := mb F Γ2 σ3 H3 G3 R3
        have leA : Le G G3 := (le1.trans le2).trans le3
        simp only at e1
        cases ebd : body Γ2 with
        | fail => rw [ebd] at e1; exact absurd e1.symm nf
        | exc c ns fs Γ3 =>
          rw [ebd] at e1 k
          subst e1
          exact k _ fun cls dx σ' H' G' R' le' x => hD cls dx σ' H' G' R' (leA.trans le') x
        | ok fl Γ3 =>
          rw [ebd] at e1 k
          refine k _ ?_
          cases fl with
          | nx => exact fun σ' H' G' R' le' => ⟨Γ3, G', R', leA.trans le', e1⟩
          | ct => exact fun σ' H' G' R' le' => ⟨Γ3, G', R', leA.trans le', e1⟩
          | br =>
            simp only at e1
            subst e1
            exact fun σ' H' G' R' le' => hD σ' H' G' R' (leA.trans le')
          | rt d =>
            simp only at e1
            subst e1
            exact fun v σ' H' G' R' le' rv => hD v σ' H' G' R' (leA.trans le') rv
          | rn o =>
            simp only at e1
            subst e1
            exact fun v σ' H' G' R' le' rv => hD v σ' H' G' R' (leA.trans le') rv
    · have e : i = ds.length := by omega
      subst e
      rw [List.drop_length] at e1
      have e1 : O.ok Fl.nx Γ1 = r := e1
      subst e1
      exact .inl ⟨w2 (Nat.le_refl _), hD σ1 H1 G1 R1 le1⟩
  cases hr : loopS bf body ds Γ with
  | fail => trivial
  | exc c ns fs Γ' => exact fun D q => main _ hr (by simp) D q
  | ok fl Γ' => exact fun D q => main _ hr (by simp) D q
theorem fs_for {it : IF} {bf : BF} {sl : List Nat} (hc : X.calm = true) (hp : PassesOwn (model X.prog X.w) X.A X.env X.xe) (hi : FI X W tg e it) (hg : FG X tg bf sl) (hb : FB X W sts s1) (hs : ∀ x, foldedSetIterable e X.env x = pure x := by intro _; rfl) :
    FS X W (.For tg e sts [] pos) (forS it bf s1) := by
  obtain ⟨wi, pi, mi⟩ := hi
  obtain ⟨g, pg, mg⟩ := hg
  obtain ⟨tb, pb, mb⟩ := hb
  refine ⟨_, ps_for hp hc pi pg pb hs, fun F Γ σ H G R => ?_⟩
  have h := mi F Γ σ H G R
  unfold forS
  revert h
  cases it Γ with
  | fail => exact fun _ => trivial
  | exc c ns fs Γ' => exact fun h D q => h _ fun cls dx H' G' R' le x => q cls dx σ H' G' R' le x
  | ok ds Γ1 =>
    intro h
    show OutS X.K W F G _ (loopS bf s1 ds Γ1)
    cases hl : loopS bf s1 ds Γ1 with
    | fail => trivial
    | exc c ns fs Γ' =>
      intro D q
      refine h _ fun J H1 G1 R1 le1 wk => ?_
      have k := out_loop (W := W) mg mb R1 wk
      rw [hl] at k
      exact k D fun cls dx σ' H' G' R' le' x => q cls dx σ' H' G' R' (le1.trans le') x
    | ok fl Γ' =>
      intro D q
      refine h _ fun J H1 G1 R1 le1 wk => ?_
      have k := out_loop (W := W) mg mb R1 wk
      rw [hl] at k
      exact k D (q.le le1)
def wpE (K : Frg) (W : WX) (f : EF) : TE := fun σ H Q => ∃ F Γ G, Rl K F Γ σ H G ∧ match f Γ with
  | .ok ev Γ' => ∀ v H' G', Rl K F Γ' σ H' G' → Le G G' → vrel K σ G' ev v → Q v H'
  | .exc c ns fs Γ' => ∀ cls dx H' G', Rl K F Γ' σ H' G' → Le G G' → XRep K G' c ns fs cls dx → W cls dx σ H'
  | .fail => False
theorem FE.wp (h : FE X W e f) : PE X e (wpE X.K W f) := by
  obtain ⟨t, p, s⟩ := h
  refine ⟨fun pins s' σ H Q I q => p.run pins s' σ H Q I ?_⟩
  obtain ⟨F, Γ, G, R, q⟩ := q
  have k := s F Γ σ H G R
  revert q k
  cases f Γ with
  | fail => exact fun q _ => q.elim
  | ok ev Γ' => exact fun q k => k Q q
  | exc c ns fs Γ' => exact fun q k => k Q q
def wpT (K : Frg) (W : WX) (f : TF) : TT := fun σ H Q => ∃ F Γ G, Rl K F Γ σ H G ∧ match f Γ with
  | .ok k Γ' => ∀ H' G', Rl K F Γ' σ H' G' → Le G G' → Q k H'
  | .exc c ns fs Γ' => ∀ cls dx H' G', Rl K F Γ' σ H' G' → Le G G' → XRep K G' c ns fs cls dx → W cls dx σ H'
  | .fail => False
theorem FT.wp {t : TF} (h : FT X W e t) : PT X e (wpT X.K W t) := by
  obtain ⟨u, p, s⟩ := h
  refine ⟨fun pins s' σ H Q I q => p.run pins s' σ H Q I ?_⟩
  obtain ⟨F, Γ, G, R, q⟩ := q
  have k := s F Γ σ H G R
  revert q k
  cases t Γ with
  | fail => exact fun q _ => q.elim
  | ok b Γ' => exact fun q k => k Q fun b' H' G' R' le z => by cases z; exact q H' G' R' le
  | exc c ns fs Γ' => exact fun q k => k Q q
def wpG (K : Frg) (b : BF) (sl : List Nat) : TG := fun v σ H Q => ∃ F Γ G d Γ', Rl K F Γ σ H G ∧ Rep K G d v ∧ b d Γ = some Γ' ∧ ∀ σ' H' G', Rl K F Γ' σ' H' G' → Le G G' → Keeps sl σ σ' → Q σ' H'
theorem FG.wp {tg : Expr} {b : BF} {sl : List Nat} (h : FG X tg b sl) : PG X tg (wpG X.K b sl) := by
  obtain ⟨g, p, m⟩ := h
  refine ⟨fun pins s σ H v u Q I r q => p.run pins s σ H v u Q I r ?_⟩
  obtain ⟨F, Γ, G, d, Γ', R, rp, e, q⟩ := q
  exact m F Γ σ H G d v Γ' R rp e Q q
def wpI (K : Frg) (W : WX) (f : IF) : TI := fun σ H Q => ∃ F Γ G, Rl K F Γ σ H G ∧ match f Γ with
  | .ok ds Γ' => ∀ J H' G', Rl K F Γ' σ H' G' → Le G G' → Walks K J ds G' → Q J H'
  | .exc c ns fs Γ' => ∀ cls dx H' G', Rl K F Γ' σ H' G' → Le G G' → XRep K G' c ns fs cls dx → W cls dx σ H'
  | .fail => False
theorem FI.wp {tg : Expr} {f : IF} (h : FI X W tg e f) : PI X tg e (wpI X.K W f) := by
  obtain ⟨u, p, s⟩ := h
  refine ⟨fun pins s' σ H Q I q => p.run pins s' σ H Q I ?_⟩
  obtain ⟨F, Γ, G, R, q⟩ := q
  have k := s F Γ σ H G R
  revert q k
  cases f Γ with
  | fail => exact fun q _ => q.elim
  | ok b Γ' => exact fun q k => k Q q
  | exc c ns fs Γ' => exact fun q k => k Q q
end FL

/-! part F9 -/
set_option Elab.async false
set_option linter.all false
set_option maxRecDepth 100000
set_option maxHeartbeats 4000000
namespace FL
open PySem PySem.Spec PyProof.Rows L2
variable {X : Cx} {W : WX} {e a b c o : Expr} {f g f1 f2 f3 fo fa : EF} {t1 t2 : TF} {pos apos : Pos} {es : List Expr} {u : AF}
def noW : WX := fun _ _ _ _ => False
def wipeΓ (Γ : En) : List Nat → En
  | [] => Γ
  | v :: vs => (wipeΓ Γ vs).set v .no
theorem wipeΓ_len (Γ : En) : ∀ vs : List Nat, (wipeΓ Γ vs).length = Γ.length
  | [] => rfl
  | v :: vs => by unfold wipeΓ; rw [List.length_set, wipeΓ_len Γ vs]
theorem wipeΓ_out {Γ : En} {i : Nat} : ∀ {vs : List Nat}, i ∉ vs → (wipeΓ Γ vs)[i]? = Γ[i]?
  | [], _ => rfl
  | v :: vs, h => by
    unfold wipeΓ
    rw [List.getElem?_set_ne (fun z => h (by simp [z]))]
    exact wipeΓ_out fun z => h (List.mem_cons_of_mem _ z)
theorem wipeΓ_in {Γ : En} {i : Nat} {x : Sl} : ∀ {vs : List Nat}, i ∈ vs → (wipeΓ Γ vs)[i]? = some x → x = .no
  | v :: vs, h, e => by
    unfold wipeΓ at e
    rcases get_set e with ⟨_, _, z⟩ | ⟨hj, z⟩
    · exact z
    · exact wipeΓ_in ((List.mem_cons.mp h).resolve_left hj) z
theorem Rl.wiped {K : Frg} {F : Fr} {Γ : En} {σ σ' : St} {H G : Hp} {vs : List Nat} (R : Rl K F Γ σ H G) (hb : ∀ v ∈ vs, F.bi ≠ some v) (hl : σ'.length = σ.length) (hs : ∀ i, i ∉ vs → σ'[i]? = σ[i]?) : Rl K F (wipeΓ Γ vs) σ' H G := by
  have out : ∀ {i : Nat} {x : Sl}, (wipeΓ Γ vs)[i]? = some x → x ≠ .no → i ∉ vs ∧ Γ[i]? = some x := fun {i x} e n => by
    by_cases hi : i ∈ vs
    · exact absurd (wipeΓ_in hi e) n
    · exact ⟨hi, by rw [wipeΓ_out hi] at e; exact e⟩
  refine ⟨by rw [wipeΓ_len, hl]; exact R.len, R.gh, R.ge, R.he, R.gn, fun i d e => ?_, fun i o e => ?_, fun i o e => ?_, fun i e => ?_⟩
  · obtain ⟨h1, h2⟩ := out e (by simp)
    obtain ⟨v, h3, h4⟩ := R.sl i d h2
    exact ⟨v, by rw [hs i h1]; exact h3, h4⟩
  · obtain ⟨h1, h2⟩ := out e (by simp)
    obtain ⟨a, u, g1, g2, g3, g4, g5, g6⟩ := R.ac i o h2
    refine ⟨a, u, by rw [hs i h1]; exact g1, g2, g3, g4, g5, fun j hj ⟨o', ho⟩ => ?_⟩
    obtain ⟨k1, k2⟩ := out ho (by simp)
    rw [hs j k1]
    exact g6 j hj ⟨o', k2⟩
  · obtain ⟨h1, h2⟩ := out e (by simp)
    obtain ⟨g1, g2, g3⟩ := R.bo i o h2
    exact ⟨g1, by rw [hs i h1]; exact g2, g3⟩
  · obtain ⟨o, h⟩ := R.bb i e
    exact ⟨o, by rw [wipeΓ_out fun z => hb i z e]; exact h⟩
theorem wipe_in {σ : St} {i : Nat} : ∀ {vs : List Nat}, i ∈ vs → i < σ.length → (wipe σ vs)[i]? = some none
  | v :: vs, h, hl => by
    unfold wipe
    by_cases e : v = i
    · subst e; rw [List.getElem?_set_self (by rw [wipe_length]; exact hl)]
    · rw [List.getElem?_set_ne e]
      exact wipe_in ((List.mem_cons.mp h).resolve_left fun z => e z.symm) hl
theorem wipe_eq {σ σ' : St} {vs sl : List Nat} (h : Keeps sl (wipe σ vs) σ') (hs : ∀ i ∈ sl, i ∈ vs) : wipe σ' vs = wipe σ vs := by
  refine List.ext_getElem? fun i => ?_
  have hl : σ'.length = σ.length := h.1.trans (wipe_length σ vs)
  by_cases hi : i ∈ vs
  · by_cases hlt : i < σ.length
    · rw [wipe_in hi hlt, wipe_in hi (by rw [hl]; exact hlt)]
    · rw [List.getElem?_eq_none (by rw [wipe_length, hl]; omega), List.getElem?_eq_none (by rw [wipe_length]; omega)]
  · rw [wipe_out hi, h.2 i fun z => hi (hs i z)]
/-- an object that nobody owns and nobody tells may change -/
theorem Rl.updNew {K : Frg} {F : Fr} {Γ : En} {σ : St} {H G : Hp} (R : Rl K F Γ σ H G) {p : Addr} {o : HO} (hg : G p = none) (hn : F.He p = none) (hb : F.bi = none ∨ p ≠ F.ba) (ho : ∀ j, ownAt Γ j → σ[j]? ≠ some (some (.ref p))) : Rl K F Γ σ (upd H p o) G where
  len := R.len
  gh := fun a u e => by rw [upd_ne (ne_of_none e hg)]; exact R.gh a u e
  ge := R.ge
  he := fun a u e q => by rw [upd_ne (ne_of_none e hn)]; exact R.he a u e q
  gn := R.gn
  sl := R.sl
  ac := fun i o' e => by
    obtain ⟨a, u, h1, h2, h3, h4, h5, h6⟩ := R.ac i o' e
    have : a ≠ p := fun z => ho i ⟨o', e⟩ (by rw [h1, z])
    exact ⟨a, u, h1, by rw [upd_ne this]; exact h2, h3, h4, h5, h6⟩
  bo := fun i o' e => by
    obtain ⟨h1, h2, h3, h4, u, h5, h6⟩ := R.bo i o' e
    have : F.ba ≠ p := by
      rcases hb with z | z
      · rw [h1] at z; cases z
      · exact Ne.symm z
    exact ⟨h1, h2, h3, h4, u, by rw [upd_ne this]; exact h5, h6⟩
  bb := R.bb
def cmpL (vs : List Nat) (b : BF) (tt : TF) (elt : EF) : List D → List D → En → O VV
  | [], acc, Γ => .ok (.n (.l acc)) Γ
  | d :: ds, acc, Γ => match b d (wipeΓ Γ vs) with
    | none => .fail
    | some Γ1 => match tt Γ1 with
      | .ok false Γ2 => cmpL vs b tt elt ds acc (wipeΓ Γ2 vs)
      | .ok true Γ2 => (match elt Γ2 with
        | .ok ev Γ3 => (match frz1 ev Γ3 with
          | some (x, Γ4) => if acc.length < sizeLine then cmpL vs b tt elt ds (acc ++ [x]) (wipeΓ Γ4 vs) else .fail
          | none => .fail)
        | _ => .fail)
      | _ => .fail
def noBor (Γ : En) (vs : List Nat) : Bool := vs.all fun v => !isBor Γ v
def compV (vs : List Nat) (it : IF) (b : BF) (tt : TF) (elt : EF) : VF := fun Γ => (it Γ).bind fun ds Γ1 => if noBor Γ1 vs then cmpL vs b tt elt ds [] Γ1 else .fail
def trueT : TF := fun Γ => .ok true Γ
/-- the tests of a comprehension -/
structure FTs (X : Cx) (W : WX) (ifs : List Expr) (f : TF) : Prop where
  pt : PTs X ifs (wpT X.K W f)
theorem fts_nil : FTs X W [] trueT := ⟨⟨fun pins s σ H Q I ⟨F, Γ, G, R, q⟩ => pts_nil.run pins s σ H Q I (q H G R (Le.refl G))⟩⟩
theorem fts_one {t : TF} (h : FT X W c t) : FTs X W [c] t := ⟨pts_one h.wp⟩
theorem New.next {K : Frg} {F : Fr} {Γ Γ' : En} {σ : St} {H H' G G' : Hp} {xs : List D} {q : Addr} (n : New K F Γ σ H G (.l xs) (.ref q)) (R : Rl K F Γ σ H G) (R' : Rl K (reb Γ σ H G F) Γ' σ H' G') (le : Le G G') :
    ∃ vs, H q = some (.lst vs) ∧ H' q = some (.lst vs) ∧ Reps K G' xs vs ∧ G' q = none ∧ F.He q = none ∧ (F.bi = none ∨ q ≠ F.ba) ∧ (∀ j, ownAt Γ' j → σ[j]? ≠ some (some (.ref q))) := by
  obtain ⟨p, u, e, h2, h3, h4, h5, h6, vs, rfl, r⟩ := n
  cases e
  obtain ⟨g1, g2, g3⟩ := R.stays R' h2 h6 h5 h3
  exact ⟨vs, h2, g1, Reps.le le _ _ r, g2, h4, h5, g3⟩
/-- the reading of a comprehension's loop -/
theorem out_cmp {K : Frg} {vs sl : List Nat} {bf : BF} {tt : TF} {elt : EF} (hsl : ∀ i ∈ sl, i ∈ vs) {J : It} {ds : List D} {F : Fr} {Γ : En} {σ : St} {H G : Hp} (R : Rl K F Γ σ H G) (hb : ∀ v ∈ vs, F.bi ≠ some v) (wk : Walks K J ds G) :
    OutV K W (vvrel K) F σ G (fun (Q : VK) => ∀ q, H q = none → ∃ Wd : Nat → Nat → Hp → Prop, (∃ m, Wd 0 m (upd H q (.lst []))) ∧ ∀ i m H, Wd i m H →
      (J.stop i H ∧ Q (.ref q) H) ∨ (J.go i H ∧ ∃ Nx : Hp → Prop, (∀ H', Nx H' → ∃ m', m' < m ∧ Wd (i + 1) m' H') ∧ ∀ x H', J.yld i H x H' → wpG K bf sl x (wipe σ vs) H' fun σ2 H2 => wipe σ2 vs = wipe σ vs ∧ wpT K noW tt σ2 H2 fun b H3 =>
        if b = true then wpE K noW elt σ2 H3 fun y H4 => ∃ acc, H4 q = some (.lst acc) ∧ acc.length < sizeLine ∧ Nx (upd H4 q (.lst (acc ++ [y]))) else Nx H3)) (cmpL vs bf tt elt ds [] Γ) := by
  have back : ∀ {Γ' : En} {σ' : St} {H' G' : Hp} {F' : Fr}, F'.bi = F.bi → Rl K F' Γ' σ' H' G' → σ'.length = σ.length → (∀ i, i ∉ vs → σ'[i]? = σ[i]?) → Rl K F' (wipeΓ Γ' vs) σ H' G' := fun {Γ' σ' H' G' F'} hf R' hl hs =>
    R'.wiped (by rw [hf]; exact hb) hl.symm fun i hi => (hs i hi).symm
  cases hr : cmpL vs bf tt elt ds [] Γ with
  | fail => trivial
  | exc c ns fs Γ' =>
    exfalso
    have no : ∀ (ds acc : List D) (Γ : En) c ns fs Γ', cmpL vs bf tt elt ds acc Γ ≠ .exc c ns fs Γ' := by
      intro ds
      induction ds with
      | nil => intro acc Γ c ns fs Γ' e; cases e
      | cons d ds ih =>
        intro acc Γ c ns fs Γ' e
        unfold cmpL at e
        split at e
        · cases e
        · split at e
          · exact ih _ _ _ _ _ _ e
          · split at e
            · split at e
              · split at e
                · exact ih _ _ _ _ _ _ e
                · cases e
              · cases e
            · cases e
          · cases e
    exact no _ _ _ _ _ _ _ hr
  | ok x Γf =>
    intro Q q D hD
    refine ⟨fun i m H1 => m = ds.length - i ∧ i ≤ ds.length ∧ ∃ Γ1 G1 acc, Rl K F Γ1 σ H1 G1 ∧ Le G G1 ∧ New K F Γ1 σ H1 G1 (.l acc) (.ref D) ∧ cmpL vs bf tt elt (ds.drop i) acc Γ1 = .ok x Γf, ⟨ds.length, by simp, Nat.zero_le _, Γ, G, [], ?_, Le.refl G, ?_, hr⟩, ?_⟩
    · exact R.newH hD
    · exact (R.newN (o := .l []) hD ⟨[], rfl, rfl⟩).2
    rintro i m H1 ⟨rfl, hi, Γ1, G1, acc, R1, le1, n1, e1⟩
    by_cases hlt : i < ds.length
    · have hdrop : ds.drop i = ds[i] :: ds.drop (i + 1) := List.drop_eq_getElem_cons hlt
      rw [hdrop] at e1
      have Rb := R1.rebase
      obtain ⟨go, yl⟩ := (wk _ Γ1 σ H1 G1 i Rb le1).1 ds[i] (List.getElem?_eq_getElem hlt)
      refine .inr ⟨go, fun H' => ∃ Γ2 G2 acc2, Rl K F Γ2 σ H' G2 ∧ Le G G2 ∧ New K F Γ2 σ H' G2 (.l acc2) (.ref D) ∧ cmpL vs bf tt elt (ds.drop (i + 1)) acc2 Γ2 = .ok x Γf, fun H' ⟨Γ2, G2, acc2, R2, le2, n2, e2⟩ => ⟨ds.length - (i + 1), by omega, rfl, hlt, Γ2, G2, acc2, R2, le2, n2, e2⟩, fun y H' hy => ?_⟩
      obtain ⟨G2, R2, le2, ry, _⟩ := yl y H' hy
      have R2w : Rl K (reb Γ1 σ H1 G1 F) (wipeΓ Γ1 vs) (wipe σ vs) H' G2 := R2.wiped hb (wipe_length σ vs) fun i hi => wipe_out hi
      unfold cmpL at e1
      split at e1
      · cases e1
      · rename_i Γ3 eb
        refine ⟨_, _, G2, ds[i], Γ3, R2w, ry, eb, fun σ4 H4 G4 R4 le4 kp => ⟨wipe_eq kp hsl, _, Γ3, G4, R4, ?_⟩⟩
        have hlen : σ4.length = σ.length := kp.1.trans (wipe_length σ vs)
        have hout : ∀ i, i ∉ vs → σ4[i]? = σ[i]? := fun i hi => (kp.2 i fun z => hi (hsl i z)).trans (wipe_out hi)
        split at e1
        · -- left out
          rename_i Γ5 et
          rw [et]
          intro H5 G5 R5 le5
          rw [if_neg Bool.false_ne_true]
          have R5w := back (F' := reb Γ1 σ H1 G1 F) rfl R5 hlen hout
          have leA : Le G1 G5 := (le2.trans le4).trans le5
          exact ⟨_, G5, acc, R1.unrebase R5w, le1.trans leA, New.stays R1 R5w leA n1, e1⟩
        · rename_i Γ5 et
          rw [et]
          intro H5 G5 R5 le5
          rw [if_pos rfl]
          refine ⟨_, Γ5, G5, R5, ?_⟩
          split at e1
          · rename_i ev Γ6 ee
            rw [ee]
            intro v H6 G6 R6 le6 rv
            split at e1
            · rename_i z Γ7 ez
              split at e1
              · rename_i hz
                obtain ⟨G7, R7, le7, rz⟩ := R6.frz1 rv ez
                have R7w := back (F' := reb Γ1 σ H1 G1 F) rfl R7 hlen hout
                have leA : Le G1 G7 := (((le2.trans le4).trans le5).trans le6).trans le7
                obtain ⟨ws, _, g2, g3, g4, g5, g6, g7⟩ := New.next n1 R1 R7w leA
                have R8 := (R1.unrebase R7w).updNew (o := .lst (ws ++ [v])) g4 g5 g6 g7
                refine ⟨ws, g2, by rw [g3.len]; exact hz, _, G7, acc ++ [z], R8, le1.trans leA, ⟨D, _, rfl, upd_same, g4, g5, g6, g7, ws ++ [v], rfl, g3.append (Reps.cons rz Reps.nil)⟩, e1⟩
              · cases e1
            · cases e1
          · cases e1
        · cases e1
    · have e : i = ds.length := by omega
      subst e
      rw [List.drop_length] at e1
      have stop := (wk F Γ1 σ H1 G1 ds.length R1 le1).2 (Nat.le_refl _)
      cases e1
      exact .inl ⟨stop, q _ H1 G1 R1 le1 n1⟩
theorem noBor_ok {K : Frg} {F : Fr} {Γ : En} {σ : St} {H G : Hp} (R : Rl K F Γ σ H G) {vs : List Nat} (h : noBor Γ vs = true) : ∀ v ∈ vs, F.bi ≠ some v := fun v hv => by
  have := List.all_eq_true.mp h v hv
  exact R.notBor (by simpa using this)
section
variable {tg iter elt : Expr} {ifs : List Expr} {scope : Scope} {own : List (Str × Nat)} {it : IF} {bf : BF} {sl : List Nat} {tt : TF} {fe : EF}
theorem sem_lc {wi : TI} (mi : ∀ (F : Fr) (Γ : En) (σ : St) (H G : Hp), Rl X.K F Γ σ H G → OutI X.K W F σ G (wi σ H) (it Γ)) (hsl : ∀ i ∈ sl, i ∈ own.map (·.2)) :
    SemV X.K W (vvrel X.K) (tLc wi (wpG X.K bf sl) (wpT X.K noW tt) (wpE X.K noW fe) (own.map (·.2))) (compV (own.map (·.2)) it bf tt fe) := fun F Γ σ H G R => by
  have h := mi F Γ σ H G R
  unfold compV
  revert h
  cases it Γ with
  | fail => exact fun _ => trivial
  | exc c ns fs Γ' => exact fun h Q q => h _ q
  | ok ds Γ1 =>
    intro h
    show OutV X.K W (vvrel X.K) F σ G _ (if noBor Γ1 (own.map (·.2)) then cmpL (own.map (·.2)) bf tt fe ds [] Γ1 else .fail)
    split
    · rename_i hb
      cases hr : cmpL (own.map (·.2)) bf tt fe ds [] Γ1 with
      | fail => trivial
      | exc c ns fs Γ' =>
        intro Q q
        refine h _ fun J H1 G1 R1 le1 wk => ?_
        have k := out_cmp (W := W) (bf := bf) (tt := tt) (elt := fe) hsl R1 (noBor_ok R1 hb) wk
        rw [hr] at k
        exact k Q fun cls dx H' G' R' le' x => q cls dx H' G' R' (le1.trans le') x
      | ok x Γ' =>
        intro Q q
        refine h _ fun J H1 G1 R1 le1 wk => ?_
        have k := out_cmp (W := W) (bf := bf) (tt := tt) (elt := fe) hsl R1 (noBor_ok R1 hb) wk
        rw [hr] at k
        exact k Q fun b H' G' R' le' r => q b H' G' R' (le1.trans le') r
    · trivial
theorem fv_lc (hc : X.calm = true) (hN : X.N.Nodup) (hi : FI X W tg iter it) (ok : BlkOk X.N X.env.scope scope own) (hsl : ∀ i ∈ sl, i ∈ own.map (·.2))
    (hg : ∀ (s : Shared) (H : Hp) (C : Addr) (cl : List (Str × Addr)) (fp : List Addr), FG (X.blk s H scope (compEnvC scope cl C X.env) fp) tg bf sl) (ht : ∀ (s : Shared) (H : Hp) (C : Addr) (cl : List (Str × Addr)) (fp : List Addr), FTs (X.blk s H scope (compEnvC scope cl C X.env) fp) noW ifs tt)
    (he : ∀ (s : Shared) (H : Hp) (C : Addr) (cl : List (Str × Addr)) (fp : List Addr), FE (X.blk s H scope (compEnvC scope cl C X.env) fp) noW elt fe) (hs : ∀ x, foldedSetIterable iter X.env x = pure x := by intro _; rfl) :
    FV X W (.ListComp elt [⟨tg, iter, ifs, 0⟩] scope pos) (compV (own.map (·.2)) it bf tt fe) := by
  obtain ⟨wi, pi, mi⟩ := hi
  exact ⟨_, pe_lc (g := wpG X.K bf sl) (tt := wpT X.K noW tt) (te := wpE X.K noW fe) hc hN pi ok (fun s H C cl fp => (hg s H C cl fp).wp) (fun s H C cl fp => (ht s H C cl fp).pt) (fun s H C cl fp => (he s H C cl fp).wp) hs, sem_lc mi hsl⟩
theorem fs_setLc {i : Nat} {y : Str} {py spos : Pos} (hc : X.calm = true) (hN : X.N.Nodup) (hy : X.N[i]? = some y) (hyl : X.env.scope.names.lookup y = some .local)
    (hsw : swapsWith (.ListComp elt [⟨tg, iter, ifs, 0⟩] scope pos) (some (.Name y py)) spos.line X.env = pure true) (hi : FI X W tg iter it) (ok : BlkOk X.N X.env.scope scope own) (hsl : ∀ i ∈ sl, i ∈ own.map (·.2))
    (hg : ∀ (s : Shared) (H : Hp) (C : Addr) (cl : List (Str × Addr)) (fp : List Addr), FG (X.blk s H scope (compEnvC scope cl C X.env) fp) tg bf sl) (ht : ∀ (s : Shared) (H : Hp) (C : Addr) (cl : List (Str × Addr)) (fp : List Addr), FTs (X.blk s H scope (compEnvC scope cl C X.env) fp) noW ifs tt)
    (he : ∀ (s : Shared) (H : Hp) (C : Addr) (cl : List (Str × Addr)) (fp : List Addr), FE (X.blk s H scope (compEnvC scope cl C X.env) fp) noW elt fe) (hs : ∀ x, foldedSetIterable iter X.env x = pure x := by intro _; rfl) :
    FS X W (.Assign [.Name y py] (.ListComp elt [⟨tg, iter, ifs, 0⟩] scope pos) spos) (asgV i (compV (own.map (·.2)) it bf tt fe)) := by
  obtain ⟨wi, pi, mi⟩ := hi
  refine ⟨_, ps_setLc (g := wpG X.K bf sl) (tt := wpT X.K noW tt) (te := wpE X.K noW fe) hc hN hy hyl hsw pi ok (fun s H C cl fp => (hg s H C cl fp).wp) (fun s H C cl fp => (ht s H C cl fp).pt) (fun s H C cl fp => (he s H C cl fp).wp) hs, fun F Γ σ H G R => ?_⟩
  exact OutS.bindV (T' := fun v H1 D => D.nx (σ.set i (some v)) H1) (sem_lc mi hsl F Γ σ H G R) fun x Γ1 v H1 G1 R1 _ r1 => out_sto R1 r1
end
/-- a value that may be new, told -/
def telV (f : VF) : EF := fun Γ => match f Γ with
  | .ok (.e ev) Γ' => .ok ev Γ'
  | .ok (.n o) Γ' => .ok (.d o.d) Γ'
  | .exc c ns fs Γ' => .exc c ns fs Γ'
  | .fail => .fail
theorem fe_of {vf : VF} (h : FV X W e vf) : FE X W e (telV vf) := by
  obtain ⟨t, p, s⟩ := h
  refine ⟨t, p, fun F Γ σ H G R => ?_⟩
  have k := s F Γ σ H G R
  unfold telV
  revert k
  cases vf Γ with
  | fail => exact fun _ => trivial
  | exc c ns fs Γ' => exact fun k => k
  | ok x Γ' =>
    cases x with
    | e ev => exact fun k => k
    | n o =>
      intro k Q q
      refine k Q fun v H' G' R' le ⟨p, u, hp, h1, h2, h3, h4, h5, h6⟩ => ?_
      subst hp
      have lu : Le G' (upd G' p u) := Le.upd h2
      exact q _ H' _ (R'.tell h1 h3 h2 h5) (le.trans lu) (h6.rep lu upd_same)
end FL

/-! part F10 -/
set_option Elab.async false
set_option linter.all false
set_option maxRecDepth 100000
set_option maxHeartbeats 4000000
namespace FL
open PySem PySem.Spec PyProof.Rows L2
inductive Ro where
  | ok (d : D) (out : Option OD) | nw (o : OD) (out : Option OD) | exc (c : Str) (ns : List Str) (fs : List D) (out : Option OD) | fail
abbrev DFn := List D → Ro
def D.od : D → Option OD
  | .lst xs => some (.l xs)
  | .dk ks vs => some (.k ks vs)
  | .ins c ns fs => some (.i c ns fs)
  | _ => none
theorem D.od_d {d : D} {o : OD} (h : d.od = some o) : d = o.d := by
  cases d <;> first | (cases h; rfl) | cases h
theorem OD.d_od (o : OD) : o.d.od = some o := by cases o <;> rfl
/-- the slots at the entry; the one at b is lent -/
def startG (b : Option Nat) (n : Nat) (ds : List D) : Option En := match b with
  | none => some (ds.map Sl.im ++ List.replicate (n - ds.length) Sl.no)
  | some i => (ds[i]?.bind D.od).map fun o => (ds.map Sl.im ++ List.replicate (n - ds.length) Sl.no).set i (.bor o)
def outOf (b : Option Nat) (Γ : En) : Option OD := b.bind (ownD Γ)
def runF (b : Option Nat) (n : Nat) (body : SF) : DFn := fun ds => match startG b n ds with
  | none => .fail
  | some Γ => match body Γ with
    | .ok .nx Γ' => .ok .non (outOf b Γ')
    | .ok (.rt d) Γ' => .ok d (outOf b Γ')
    | .ok (.rn o) Γ' => .nw o (outOf b Γ')
    | .ok .br _ => .fail
    | .ok .ct _ => .fail
    | .exc c ns fs Γ' => .exc c ns fs (outOf b Γ')
    | .fail => .fail
structure ArgsAt (K : Frg) (b : Option Nat) (G H : Hp) (ds : List D) (vs : List V) : Prop where
  len : vs.length = ds.length
  rep : ∀ (i : Nat) d v, ds[i]? = some d → vs[i]? = some v → b ≠ some i → Rep K G d v
  lent : ∀ i, b = some i → ∃ (a : Addr) (o : OD) (u : HO), ds[i]? = some o.d ∧ vs[i]? = some (V.ref a) ∧ H a = some u ∧ G a = none ∧ ORep K G o u
def Lent (b : Option Nat) (vs : List V) (a : Addr) : Prop := ∃ i, b = some i ∧ vs[i]? = some (V.ref a)
structure Aft (K : Frg) (b : Option Nat) (G H : Hp) (vs : List V) (G' H' : Hp) (out : Option OD) : Prop where
  le : Le G G'
  gh : Le G' H'
  keep : ∀ a o, H a = some o → ¬ Lent b vs a → H' a = some o
  gn : ∀ a o, G' a = some o → G a = some o ∨ H a = none
  lent : ∀ i a, b = some i → vs[i]? = some (V.ref a) → G' a = none ∧ ∃ o u, out = some o ∧ H' a = some u ∧ ORep K G' o u
/-- a new object, for the caller -/
def NewF (K : Frg) (H G' H' : Hp) (o : OD) (v : V) : Prop := ∃ (p : Addr) (u : HO), v = .ref p ∧ H' p = some u ∧ G' p = none ∧ H p = none ∧ ORep K G' o u
def spF (K : Frg) (b : Option Nat) (Fn : DFn) : Sp := fun vs H Q E => ∃ (G : Hp) (ds : List D), Le G H ∧ ArgsAt K b G H ds vs ∧ match Fn ds with
  | .ok d out => ∀ v H' G', Aft K b G H vs G' H' out → Rep K G' d v → Q v H'
  | .nw o out => ∀ v H' G', Aft K b G H vs G' H' out → NewF K H G' H' o v → Q v H'
  | .exc c ns fs out => ∀ cls dx H' G', Aft K b G H vs G' H' out → XRep K G' c ns fs cls dx → E cls dx H'
  | .fail => False
/-- a def of the text keeps its promise (as FnOk; no object is being shown) -/
structure FnG (P : Program) (w : World) (K : Frg) (mg : Str → Option Value) (base : Heap) (CX : CXT) (k : Nat) (f : Addr) (fd : FuncData) (ps : List Str) (sp : Sp) : Prop where
  len : ∀ vs H Q E, sp vs H Q E → vs.length = ps.length
  run : ∀ (A : Around) (outer : List Env) (s : Shared) (H : Hp) (args : Args) (us : List Value) (vs : List V) (Q : VK) (E : XK), Room k A → A.guards = some [] → Env0 P w K mg base A outer s H → BindsTo s fd args (ps.zip us) → Vals vs us → sp vs H Q E →
    codeAny (model P w) A (.call (.ref f) args) (CR CX outer P w H s Q E) s
theorem fn_ofG {CX : CXT} {P : Program} {w : World} {K : Frg} {mg : Str → Option Value} {base : Heap} {k : Nat} {f : Addr} {name qual : Str} {params : Arguments} {body : List Stmt} {scope : Scope} {dV kV doc pm cdv ct oc : Value} {an od : Option Addr}
    {osl : Array (Option Value)} {N ps : List Str} {sp : Sp} (lk : K.lookup f = some ⟨oc, od, .func (PySem.W.fnOf name qual params body scope dV kV doc pm an cdv ct), osl⟩) (hcd : PySem.W.codeIn K cdv qual = true) (S : FnScope N ps scope)
    (len : ∀ vs H Q E, sp vs H Q E → vs.length = ps.length)
    (hbody : ∀ (A : Around) (outer : List Env) (s : Shared) (H : Hp) (vs : List V) (Q : VK) (E : XK), Room k (A.deeper (envOfC qual scope s.heap.objs.size f cdv)) → A.guards = some [] → sp vs H Q E →
      ∃ t, PSs (cxOf CX P w K mg base N qual scope f cdv A outer s H E) body t ∧ t { nx := fun _ H' => Q .non H', rt := Q } (start N vs) H) :
    FnG P w K mg base CX (k + 1) f (PySem.W.fnOf name qual params body scope dV kV doc pm an cdv ct) ps sp := by
  refine ⟨len, fun A outer s H args us vs Q E hr hgd e0 hb r hsp => ?_⟩
  have hl := len _ _ _ _ hsp
  have KX : K.In s.heap := e0.mod.kin.keeps fun b o e => (e0.bs b o e).1
  have lim : s.heap.NoLimit := e0.mod.nolimit.keeps fun b o e => (e0.bs b o e).1
  have hkind : ∀ y ∈ ps.zip us, scope.names.lookup y.1 = some .local ∨ (scope.names.lookup y.1 = some .cell ∧ ((cellsFrom (s.heap.objs.size + 1) scope.names []).lookup y.1).isSome = true) := fun ⟨n, v⟩ hy => by
    rcases S.par n (List.of_mem_zip hy).1 with q | q
    · exact .inl q
    · exact .inr ⟨q, PySem.W.cellsFrom_some _ _ _ (.inl q)⟩
  refine codeAny_call_function hr.depth (KX _ _ lk) rfl S.co S.gen rfl (PySem.W.codeRec_of KX hcd) (hb _ _ _ _ ?_)
  refine wpAny_newFunctionEnv_cells S.kind hkind fun env he s1 x => ?_
  subst he
  refine ⟨lim.keeps x.toInCall.keep, codeAny_func ?_⟩
  obtain ⟨t, ht, hq⟩ := hbody A outer s H vs Q E (hr.deeper _) hgd hsp
  have I : Inv (cxOf CX P w K mg base N qual scope f cdv A outer s H E) [] (start N vs) H s1 := inv_start S hr.hd e0 hl r x
  refine wpAny_mono (ht.run [] s1 (start N vs) H _ I hq) (fun fl s' hs => ?_) fun e s' hs => hs
  have fin : ∀ {σ' : St} {H' : Hp} {v : V} {u : Value}, Inv (cxOf CX P w K mg base N qual scope f cdv A outer s H E) [] σ' H' s' → RelV v u → Q v H' → CE outer P w H s Q u s' :=
    fun {σ' H' v u} J rv q => ⟨v, H', J.os, J.bare, J.base, J.hok, rv, q⟩
  cases fl with
  | ret u =>
    obtain ⟨v, σ', H', J, rv, q⟩ := hs
    exact fin J rv q
  | next =>
    obtain ⟨σ', H', J, q⟩ := hs
    exact fin (v := V.non) (u := Value.none) J rfl q
  | brk =>
    obtain ⟨_, _, _, q⟩ := hs
    exact False.elim q
  | cont =>
    obtain ⟨_, _, _, q⟩ := hs
    exact False.elim q
theorem start_len {N : List Str} {vs : List V} (h : vs.length ≤ N.length) : (L2.start N vs).length = N.length := by
  unfold L2.start
  rw [List.length_append, List.length_map, List.length_replicate]
  omega
theorem start_get {N : List Str} {vs : List V} {i : Nat} {v : V} (h : vs[i]? = some v) : (L2.start N vs)[i]? = some (some v) := by
  unfold L2.start
  rw [List.getElem?_append_left (by rw [List.length_map]; exact (List.getElem?_eq_some_iff.mp h).1), List.getElem?_map, h]
  rfl
/-- the state at a def's entry -/
theorem rl_start {K : Frg} {b : Option Nat} {N : List Str} {G H : Hp} {ds : List D} {vs : List V} {Γ : En} (gh : Le G H) (A : ArgsAt K b G H ds vs) (hn : ds.length ≤ N.length) (e : startG b N.length ds = some Γ) :
    ∃ ba, (∀ i, b = some i → vs[i]? = some (V.ref ba)) ∧ Rl K ⟨H, G, b, ba⟩ Γ (L2.start N vs) H G := by
  have look : ∀ (i : Nat) x, (ds.map Sl.im ++ List.replicate (N.length - ds.length) Sl.no)[i]? = some x → (∃ d, ds[i]? = some d ∧ x = .im d) ∨ x = .no := fun i x h => by
    by_cases hi : i < ds.length
    · rw [List.getElem?_append_left (by simpa using hi), List.getElem?_map] at h
      obtain ⟨d, h1, rfl⟩ := Option.map_eq_some_iff.mp h
      exact .inl ⟨d, h1, rfl⟩
    · rw [List.getElem?_append_right (by simpa using hi), List.getElem?_replicate] at h
      split at h
      · cases h; exact .inr rfl
      · cases h
  have hlen : (ds.map Sl.im ++ List.replicate (N.length - ds.length) Sl.no).length = (L2.start N vs).length := by
    rw [start_len (by rw [A.len]; exact hn), List.length_append, List.length_map, List.length_replicate]
    omega
  have imc : ∀ (i : Nat) d, ds[i]? = some d → b ≠ some i → ∃ v, (L2.start N vs)[i]? = some (some v) ∧ Rep K G d v := fun i d h hb => by
    have hi := (List.getElem?_eq_some_iff.mp h).1
    obtain ⟨v, hv⟩ : ∃ v, vs[i]? = some v := ⟨vs[i]'(by rw [A.len]; exact hi), List.getElem?_eq_getElem _⟩
    exact ⟨_, start_get hv, A.rep i d _ h hv hb⟩
  cases b with
  | none =>
    cases e
    refine ⟨0, fun i z => (nomatch z), ⟨hlen, gh, Le.refl G, fun a o e _ => e, fun a o e => .inl e, fun i d h => ?_, fun i o h => ?_, fun i o h => ?_, fun i z => (nomatch z)⟩⟩
    · rcases look i _ h with ⟨d', h1, z⟩ | z
      · cases z; exact imc i d h1 (fun z => (nomatch z))
      · cases z
    · rcases look i _ h with ⟨d', h1, z⟩ | z <;> cases z
    · rcases look i _ h with ⟨d', h1, z⟩ | z <;> cases z
  | some b =>
    obtain ⟨a, o, u, h1, h2, h3, h4, h5⟩ := A.lent b rfl
    have e : (ds[b]?.bind D.od).map (fun o => (ds.map Sl.im ++ List.replicate (N.length - ds.length) Sl.no).set b (.bor o)) = some Γ := e
    rw [h1] at e
    have e : some ((ds.map Sl.im ++ List.replicate (N.length - ds.length) Sl.no).set b (.bor o)) = some Γ := by
      rw [← e]
      show _ = (o.d.od).map _
      rw [OD.d_od]
      rfl
    cases e
    refine ⟨a, fun i z => (by cases z; exact h2), ⟨by rw [List.length_set]; exact hlen, gh, Le.refl G, fun a o e _ => e, fun a o e => .inl e, fun i d h => ?_, fun i o' h => ?_, fun i o' h => ?_, fun i z => ?_⟩⟩
    · rcases get_set h with ⟨_, _, z⟩ | ⟨hj, h⟩
      · cases z
      · rcases look i _ h with ⟨d', g1, z⟩ | z
        · cases z; exact imc i d g1 (fun z => hj (Option.some.inj z).symm)
        · cases z
    · rcases get_set h with ⟨_, _, z⟩ | ⟨hj, h⟩
      · cases z
      · rcases look i _ h with ⟨d', g1, z⟩ | z <;> cases z
    · rcases get_set h with ⟨rfl, _, z⟩ | ⟨hj, h⟩
      · cases z
        exact ⟨rfl, start_get h2, ⟨u, h3⟩, h4, u, h3, h5⟩
      · rcases look i _ h with ⟨d', g1, z⟩ | z <;> cases z
    · cases z
      have hb : b < ds.length := (List.getElem?_eq_some_iff.mp h1).1
      exact ⟨o, List.getElem?_set_self (by rw [List.length_append, List.length_map]; omega)⟩
/-- behind the body -/
theorem Rl.aft {K : Frg} {b : Option Nat} {G H G' H' : Hp} {ba : Addr} {vs : List V} {Γ' : En} {σ' : St} (hv : ∀ i, b = some i → vs[i]? = some (V.ref ba)) (R : Rl K ⟨H, G, b, ba⟩ Γ' σ' H' G') : Aft K b G H vs G' H' (outOf b Γ') where
  le := R.ge
  gh := R.gh
  keep := fun a o e hl => R.he a o e (by
    cases b with
    | none => exact .inl rfl
    | some i => exact .inr fun z => hl ⟨i, rfl, by rw [hv i rfl, z]⟩)
  gn := R.gn
  lent := fun i a hb e => by
    rw [hv i hb] at e
    cases e
    obtain ⟨o, ho⟩ := R.bb i hb
    obtain ⟨_, _, _, h4, u, h5, h6⟩ := R.bo i o ho
    refine ⟨h4, o, u, ?_, h5, h6⟩
    unfold outOf
    rw [hb]
    show ownD Γ' i = some o
    unfold ownD
    rw [ho]
/-- a def's promise: its function -/
def spL (K : Frg) (ps : List Str) (b : Option Nat) (Fn : DFn) : Sp := fun vs H Q E => vs.length = ps.length ∧ spF K b Fn vs H Q E
/-- THE RULE: a def by its body's function -/
theorem fn_F {P : Program} {w : World} {K : Frg} {mg : Str → Option Value} {base : Heap} {x qual : Str} {params : Arguments} {body : List Stmt} {scope : Scope} {dvs : List V} {kws : List (Str × V)} {f : Addr} {fd : FuncData} {N ps : List Str} {k : Nat} {b : Option Nat} {bd : SF}
    (Fd : FunD K x qual params body scope dvs kws f fd) (S : FnScope N ps scope)
    (hb : ∀ (cdv : Value) (A : Around) (outer : List Env) (s : Shared) (H : Hp) (E : XK), Room k (A.deeper (envOfC qual scope s.heap.objs.size f cdv)) → (A.deeper (envOfC qual scope s.heap.objs.size f cdv)).guards = some [] →
      Takes (cxOf (L2.CX P w) P w K mg base N qual scope f cdv A outer s H E) (fun cls d _ H => E cls d H) → PassesOwn (model P w) (A.deeper (envOfC qual scope s.heap.objs.size f cdv)) (envOfC qual scope s.heap.objs.size f cdv) (cxOf (L2.CX P w) P w K mg base N qual scope f cdv A outer s H E).xe →
      FB (cxOf (L2.CX P w) P w K mg base N qual scope f cdv A outer s H E) (fun cls d _ H => E cls d H) body bd) :
    FnG P w K mg base (L2.CX P w) (k + 1) f fd ps (spL K ps b (runF b N.length bd)) := by
  obtain ⟨oc, od, dV, kV, doc, pm, an, cdv, ct, osl, rfl, lk, hcd, _, _⟩ := Fd.ex
  refine fn_ofG lk hcd S (fun vs H Q E h => h.1) fun A outer s H vs Q E hr hgd h => ?_
  obtain ⟨hl, G, ds, gh, ha, h⟩ := h
  have hps : ps.length ≤ N.length := by have := congrArg List.length S.pre; rw [List.length_take] at this; omega
  obtain ⟨t, pt, mt⟩ := (hb cdv A outer s H E hr hgd (takes_of rfl rfl rfl rfl) (passes_of rfl)).ex
  refine ⟨t, pt, ?_⟩
  unfold runF at h
  cases es : startG b N.length ds with
  | none => rw [es] at h; exact h.elim
  | some Γ =>
    rw [es] at h
    obtain ⟨ba, hv, R⟩ := rl_start gh ha (by rw [← ha.len, hl]; exact hps) es
    have m := mt _ _ _ _ _ R
    simp only at h
    revert h m
    cases bd Γ with
    | fail => exact fun h _ => h.elim
    | exc c ns fs Γ' =>
      intro h m
      exact m _ fun cls dx σ' H' G' R' le x => h cls dx H' G' (R'.aft hv) x
    | ok fl Γ' =>
      cases fl with
      | nx =>
        intro h m
        exact m _ fun σ' H' G' R' le => h .non H' G' (R'.aft hv) rfl
      | rt d =>
        intro h m
        exact m _ fun v σ' H' G' R' le rv => h v H' G' (R'.aft hv) rv
      | rn o =>
        intro h m
        exact m _ fun v σ' H' G' R' le ⟨p, u, h1, h2, h3, h4, _, _, h5⟩ => h v H' G' (R'.aft hv) ⟨p, u, h1, h2, h3, h4, h5⟩
      | br => exact fun h _ => h.elim
      | ct => exact fun h _ => h.elim
end FL

/-! part F11 -/
set_option Elab.async false
set_option linter.all false
set_option maxRecDepth 100000
set_option maxHeartbeats 4000000
namespace FL
open PySem PySem.Spec PyProof.Rows L2
variable {X : Cx} {W : WX} {e a o : Expr} {f g f1 f2 f3 fo fa : EF} {pos apos p : Pos} {es : List Expr} {u : AF}
/-- all told but the lent one -/
def prep (b : Option Nat) (es : List EV) (Γ : En) : Option (List D × En × Option Nat) := match b with
  | none => (frzs es Γ).map fun p => (p.1, p.2, none)
  | some i => match es[i]? with
    | some (.own j) => (frzs (es.set i (.d .non)) Γ).bind fun p => (ownD p.2 j).map fun o => (p.1.set i o.d, p.2, some j)
    | _ => none
/-- behind the call the lent object is put anew -/
def putL (l : Option Nat) (out : Option OD) (Γ : En) : En := match l, out with
  | some j, some o => putOwn Γ j o
  | _, _ => Γ
def finCall (b : Option Nat) (Fn : DFn) (dd : List D) (es : List EV) (Γ : En) : O VV := match prep b es Γ with
  | none => .fail
  | some (ds, Γ1, l) => match Fn (ds ++ dd) with
    | .ok d out => .ok (.e (.d d)) (putL l out Γ1)
    | .nw o out => .ok (.n o) (putL l out Γ1)
    | .exc c ns fs out => .exc c ns fs (putL l out Γ1)
    | .fail => .fail
theorem paired_get {α β : Type} {R : α → β → Prop} : ∀ {xs : List α} {ys : List β} {i : Nat} {x : α}, Paired R xs ys → xs[i]? = some x → ∃ y, ys[i]? = some y ∧ R x y
  | _, _, _, _, .nil, h => by simp at h
  | _, _, 0, _, .cons r _, h => by simp at h; subst h; exact ⟨_, rfl, r⟩
  | _, _, i + 1, _, .cons _ t, h => by
    obtain ⟨y, h1, h2⟩ := paired_get (i := i) t (by simpa using h)
    exact ⟨y, by simpa using h1, h2⟩
theorem paired_set {α β : Type} {R : α → β → Prop} {x : α} {y : β} (r : R x y) : ∀ {xs : List α} {ys : List β} (i : Nat), Paired R xs ys → Paired R (xs.set i x) (ys.set i y)
  | _, _, _, .nil => .nil
  | _, _, 0, .cons _ t => .cons r t
  | _, _, i + 1, .cons q t => .cons q (paired_set r i t)
/-- the arguments at a call -/
theorem prep_ok {K : Frg} {F : Fr} {Γ Γ1 : En} {σ : St} {H G : Hp} {b l : Option Nat} {es : List EV} {vs : List V} {ds : List D} (R : Rl K F Γ σ H G) (rs : vsrel K σ G es vs) (e : prep b es Γ = some (ds, Γ1, l)) :
    ∃ G1, Rl K F Γ1 σ H G1 ∧ Le G G1 ∧ ArgsAt K b G1 H ds vs ∧ (b = none → l = none) ∧ ∀ i, b = some i → ∃ (j : Nat) (a : Addr) (o : OD), l = some j ∧ ownD Γ1 j = some o ∧ σ[j]? = some (some (V.ref a)) ∧ vs[i]? = some (V.ref a) := by
  unfold prep at e
  split at e
  · obtain ⟨⟨xs, Γ2⟩, e1, e2⟩ := Option.map_eq_some_iff.mp e
    cases e2
    obtain ⟨G1, R1, le, rp⟩ := R.frzs rs e1
    refine ⟨G1, R1, le, ⟨rp.len, fun i d v h1 h2 _ => ?_, fun i z => (nomatch z)⟩, fun _ => rfl, fun i z => (nomatch z)⟩
    obtain ⟨v', h3, h4⟩ := rp.getD h1
    rw [h2] at h3
    cases h3
    exact h4
  · rename_i i
    split at e
    · rename_i j hj
      obtain ⟨⟨xs, Γ2⟩, e1, e2⟩ := Option.bind_eq_some_iff.mp e
      obtain ⟨o, e3, e4⟩ := Option.map_eq_some_iff.mp e2
      cases e4
      obtain ⟨v, hv, rv⟩ := paired_get rs hj
      have rs2 : vsrel K σ G (es.set i (.d .non)) (vs.set i .non) := paired_set (show vrel K σ G (.d .non) .non from rfl) i rs
      obtain ⟨G1, R1, le, rp⟩ := R.frzs rs2 e1
      obtain ⟨a, u, g1, g2, g3, g4, _⟩ := R1.own e3
      rw [show σ[j]? = some (some v) from rv] at g1
      cases g1
      have hl : xs.length = vs.length := by have := rp.len; rw [List.length_set] at this; exact this.symm
      refine ⟨G1, R1, le, ⟨by rw [List.length_set, hl], fun k d w h1 h2 hb => ?_, fun k z => ?_⟩, fun z => (nomatch z), fun k z => ?_⟩
      · have hk : i ≠ k := fun z => hb (by rw [z])
        rw [List.getElem?_set_ne hk] at h1
        obtain ⟨w', h3, h4⟩ := rp.getD h1
        rw [List.getElem?_set_ne hk, h2] at h3
        cases h3
        exact h4
      · cases z
        exact ⟨a, o, u, List.getElem?_set_self (by rw [hl]; exact (List.getElem?_eq_some_iff.mp hv).1), hv, g2, g3, g4⟩
      · cases z
        exact ⟨j, a, o, rfl, e3, rv, hv⟩
    · cases e
/-- the state behind a call -/
theorem Rl.call {K : Frg} {F : Fr} {Γ : En} {σ : St} {H G G' H' : Hp} {b l : Option Nat} {vs : List V} {out : Option OD} (R : Rl K F Γ σ H G) (hl : b = none → l = none) (hb : ∀ i, b = some i → ∃ (j : Nat) (a : Addr) (o : OD), l = some j ∧ ownD Γ j = some o ∧ σ[j]? = some (some (V.ref a)) ∧ vs[i]? = some (V.ref a))
    (A : Aft K b G H vs G' H' out) : Rl K F (putL l out Γ) σ H' G' := by
  have gnone : ∀ a u, H a = some u → G a = none → G' a = none := fun a u h1 h2 => by
    cases q : G' a with
    | none => rfl
    | some w =>
      rcases A.gn a w q with z | z
      · rw [h2] at z; cases z
      · rw [h1] at z; cases z
  cases b with
  | none =>
    rw [hl rfl]
    have nl : ∀ a, ¬ Lent none vs a := fun a ⟨i, z, _⟩ => (nomatch z)
    exact ⟨R.len, A.gh, R.ge.trans A.le, fun a o e q => A.keep a o (R.he a o e q) (nl a), fun a o e => by
        rcases A.gn a o e with z | z
        · exact R.gn a o z
        · exact .inr (R.heNone z),
      fun i d e => by
        obtain ⟨v, h1, h2⟩ := R.sl i d e
        exact ⟨v, h1, Rep.le A.le _ _ h2⟩,
      fun i o e => by
        obtain ⟨a, u, h1, h2, h3, h4, h5, h6⟩ := R.ac i o e
        exact ⟨a, u, h1, A.keep a u h2 (nl a), gnone a u h2 h3, h4, h5.le A.le, h6⟩,
      fun i o e => by
        obtain ⟨h1, h2, h3, h4, u, h5, h6⟩ := R.bo i o e
        exact ⟨h1, h2, h3, gnone _ u h5 h4, u, A.keep _ u h5 (nl _), h6.le A.le⟩, R.bb⟩
  | some i =>
    obtain ⟨j, a0, o, rfl, ho, hs, hv⟩ := hb i rfl
    obtain ⟨hg0, o', u', rfl, hu', r'⟩ := A.lent i a0 rfl hv
    have lentE : ∀ a, Lent (some i) vs a → a = a0 := fun a ⟨k, z, h⟩ => by
      cases z
      rw [hv] at h
      cases h
      rfl
    show Rl K F (putOwn Γ j o') σ H' G'
    unfold ownD at ho
    split at ho
    · -- an own slot
      rename_i o2 ej
      obtain ⟨a, u, h1, h2, h3, h4, h5, h6⟩ := R.ac j o2 ej
      rw [hs] at h1
      cases h1
      have hbi : F.bi ≠ some j := fun z => by
        obtain ⟨o3, e⟩ := R.bb j z
        rw [ej] at e; cases e
      unfold putOwn
      rw [ej]
      refine ⟨by rw [List.length_set]; exact R.len, A.gh, R.ge.trans A.le, fun a o e q => A.keep a o (R.he a o e q) fun z => ?_, fun a o e => ?_, fun k d e => ?_, fun k ob e => ?_, fun k ob e => ?_, fun k e => ?_⟩
      · rw [lentE a z, h4] at e; cases e
      · rcases A.gn a o e with z | z
        · exact R.gn a o z
        · exact .inr (R.heNone z)
      · rcases get_set e with ⟨_, _, e⟩ | ⟨_, e⟩
        · cases e
        · obtain ⟨v, g1, g2⟩ := R.sl k d e
          exact ⟨v, g1, Rep.le A.le _ _ g2⟩
      · rcases get_set e with ⟨rfl, _, e⟩ | ⟨hk, e⟩
        · cases e
          refine ⟨a0, u', hs, hu', hg0, h4, r', fun m hm ⟨om, em⟩ => ?_⟩
          rcases get_set em with ⟨z, _, _⟩ | ⟨_, em⟩
          · exact absurd z hm
          · exact h6 m hm ⟨om, em⟩
        · obtain ⟨a, w, g1, g2, g3, g4, g5, g6⟩ := R.ac k ob e
          have ne : a ≠ a0 := fun z => by subst z; exact h6 k hk ⟨ob, e⟩ g1
          refine ⟨a, w, g1, A.keep a w g2 fun z => ne (lentE a z), gnone a w g2 g3, g4, g5.le A.le, fun m hm ⟨om, em⟩ => ?_⟩
          rcases get_set em with ⟨z, _, _⟩ | ⟨_, em⟩
          · subst z; rw [hs]; intro q; cases q; exact ne rfl
          · exact g6 m hm ⟨om, em⟩
      · rcases get_set e with ⟨_, _, e⟩ | ⟨hk, e⟩
        · cases e
        · obtain ⟨g1, g2, ⟨w, g3⟩, g4, x, g5, g6⟩ := R.bo k ob e
          have ne : F.ba ≠ a0 := fun z => by rw [z, h4] at g3; cases g3
          exact ⟨g1, g2, ⟨w, g3⟩, gnone _ x g5 g4, x, A.keep _ x g5 fun z => ne (lentE _ z), g6.le A.le⟩
      · obtain ⟨o3, e3⟩ := R.bb k e
        exact ⟨o3, by rw [List.getElem?_set_ne fun z => hbi (by rw [z]; exact e)]; exact e3⟩
    · -- the slot that is lent itself
      rename_i o2 ej
      obtain ⟨h1, h2, ⟨w, h3⟩, h4, u, h5, h6⟩ := R.bo j o2 ej
      rw [hs] at h2
      cases h2
      unfold putOwn
      rw [ej]
      refine ⟨by rw [List.length_set]; exact R.len, A.gh, R.ge.trans A.le, fun a o e q => A.keep a o (R.he a o e q) fun z => ?_, fun a o e => ?_, fun k d e => ?_, fun k ob e => ?_, fun k ob e => ?_, fun k e => ?_⟩
      · rcases q with q | q
        · rw [h1] at q; cases q
        · exact q (lentE a z)
      · rcases A.gn a o e with z | z
        · exact R.gn a o z
        · exact .inr (R.heNone z)
      · rcases get_set e with ⟨_, _, e⟩ | ⟨_, e⟩
        · cases e
        · obtain ⟨v, g1, g2⟩ := R.sl k d e
          exact ⟨v, g1, Rep.le A.le _ _ g2⟩
      · rcases get_set e with ⟨_, _, e⟩ | ⟨hk, e⟩
        · cases e
        · obtain ⟨a, w', g1, g2, g3, g4, g5, g6⟩ := R.ac k ob e
          have ne : a ≠ F.ba := fun z => by rw [z, h3] at g4; cases g4
          refine ⟨a, w', g1, A.keep a w' g2 fun z => ne (lentE a z), gnone a w' g2 g3, g4, g5.le A.le, fun m hm ⟨om, em⟩ => ?_⟩
          rcases get_set em with ⟨_, _, e⟩ | ⟨_, em⟩
          · cases e
          · exact g6 m hm ⟨om, em⟩
      · rcases get_set e with ⟨rfl, _, e⟩ | ⟨hk, e⟩
        · cases e
          exact ⟨h1, hs, ⟨w, h3⟩, hg0, u', hu', r'⟩
        · obtain ⟨g1, _⟩ := R.bo k ob e
          rw [h1] at g1; cases g1; exact absurd rfl hk
      · rw [h1] at e
        cases e
        exact ⟨o', List.getElem?_set_self (List.getElem?_eq_some_iff.mp ej).1⟩
    · cases ho
theorem ArgsAt.app {K : Frg} {b : Option Nat} {G H : Hp} {ds dd : List D} {vs dvs : List V} (A : ArgsAt K b G H ds vs) (r : Reps K G dd dvs) : ArgsAt K b G H (ds ++ dd) (vs ++ dvs) where
  len := by rw [List.length_append, List.length_append, A.len, r.len]
  rep := fun i d v h1 h2 hb => by
    by_cases hi : i < ds.length
    · rw [List.getElem?_append_left hi] at h1
      rw [List.getElem?_append_left (by rw [A.len]; exact hi)] at h2
      exact A.rep i d v h1 h2 hb
    · rw [List.getElem?_append_right (by omega)] at h1
      rw [List.getElem?_append_right (by rw [A.len]; omega), A.len] at h2
      obtain ⟨v', h3, h4⟩ := r.getD h1
      rw [h2] at h3
      cases h3
      exact h4
  lent := fun i hb => by
    obtain ⟨a, o, u, h1, h2, h3⟩ := A.lent i hb
    exact ⟨a, o, u, by rw [List.getElem?_append_left (List.getElem?_eq_some_iff.mp h1).1]; exact h1, by rw [List.getElem?_append_left (List.getElem?_eq_some_iff.mp h2).1]; exact h2, h3⟩
theorem putL_own {l : Option Nat} {out : Option OD} {Γ : En} {j : Nat} (h : ownAt (putL l out Γ) j) : ownAt Γ j := by
  obtain ⟨o, h⟩ := h
  unfold putL at h
  split at h
  · unfold putOwn at h
    split at h
    · rename_i e
      rcases get_set h with ⟨rfl, _, _⟩ | ⟨_, h⟩
      · exact ⟨_, e⟩
      · exact ⟨_, h⟩
    · rcases get_set h with ⟨_, _, z⟩ | ⟨_, h⟩
      · cases z
      · exact ⟨_, h⟩
    · exact ⟨_, h⟩
  · exact ⟨_, h⟩
theorem NewF.new {K : Frg} {F : Fr} {Γ Γ' : En} {σ : St} {H G G' H' : Hp} {o : OD} {v : V} (R : Rl K F Γ σ H G) (ho : ∀ j, ownAt Γ' j → ownAt Γ j) (n : NewF K H G' H' o v) : New K F Γ' σ H' G' o v := by
  obtain ⟨p, u, h1, h2, h3, h4, h5⟩ := n
  exact ⟨p, u, h1, h2, h3, R.heNone h4, R.baNe h4, fun j hj => R.noOwn h4 j (ho j hj), h5⟩
theorem out_call {K : Frg} {W : WX} {F : Fr} {Γ : En} {σ : St} {H G : Hp} {b : Option Nat} {Fn : DFn} {dd : List D} {dvs : List V} {es : List EV} {vs : List V} (R : Rl K F Γ σ H G) (rs : vsrel K σ G es vs) (hd : ∀ G, Reps K G dd dvs) :
    OutV K W (vvrel K) F σ G (fun Q => spF K b Fn (vs ++ dvs) H Q (fun cls dx H' => W cls dx σ H')) (finCall b Fn dd es Γ) := by
  unfold finCall
  split
  · trivial
  · rename_i ds Γ1 l e
    obtain ⟨G1, R1, le, A, hn, hl⟩ := prep_ok R rs e
    have A2 := A.app (hd G1)
    have hl2 : ∀ i, b = some i → ∃ (j : Nat) (a : Addr) (o : OD), l = some j ∧ ownD Γ1 j = some o ∧ σ[j]? = some (some (V.ref a)) ∧ (vs ++ dvs)[i]? = some (V.ref a) := fun i hb => by
      obtain ⟨j, a, o, h1, h2, h3, h4⟩ := hl i hb
      exact ⟨j, a, o, h1, h2, h3, by rw [List.getElem?_append_left (List.getElem?_eq_some_iff.mp h4).1]; exact h4⟩
    split
    · rename_i d out ef
      intro Q q
      refine ⟨G1, ds ++ dd, R1.gh, A2, ?_⟩
      rw [ef]
      exact fun v H' G' Af rv => q v H' G' (R1.call hn hl2 Af) (le.trans Af.le) rv
    · rename_i o out ef
      intro Q q
      refine ⟨G1, ds ++ dd, R1.gh, A2, ?_⟩
      rw [ef]
      exact fun v H' G' Af nw => q v H' G' (R1.call hn hl2 Af) (le.trans Af.le) (nw.new R1 fun j => putL_own)
    · rename_i c ns fs out ef
      intro Q q
      refine ⟨G1, ds ++ dd, R1.gh, A2, ?_⟩
      rw [ef]
      exact fun cls dx H' G' Af x => q cls dx H' G' (R1.call hn hl2 Af) (le.trans Af.le) x
    · trivial
/-- a new object, lent alone: f(new) -/
def finCallN (b : Option Nat) (Fn : DFn) (dd : List D) (x : VV) (Γ : En) : O VV := match x, b with
  | .n o, some 0 => (match Fn (o.d :: dd) with
    | .ok d _ => .ok (.e (.d d)) Γ
    | .nw o' _ => .ok (.n o') Γ
    | .exc c ns fs _ => .exc c ns fs Γ
    | .fail => .fail)
  | _, _ => .fail
theorem Rl.aftN {K : Frg} {F : Fr} {Γ : En} {σ : St} {H G G' H' : Hp} {vs : List V} {out : Option OD} {a : Addr} {u : HO} (R : Rl K F Γ σ H G) (hu : H a = some u) (hn : F.He a = none) (hb : F.bi = none ∨ a ≠ F.ba) (ho : ∀ j, ownAt Γ j → σ[j]? ≠ some (some (.ref a))) (hl : ∀ a', Lent (some 0) vs a' → a' = a)
    (A : Aft K (some 0) G H vs G' H' out) : Rl K F Γ σ H' G' := by
  have gnone : ∀ a u, H a = some u → G a = none → G' a = none := fun a u h1 h2 => by
    cases q : G' a with
    | none => rfl
    | some w =>
      rcases A.gn a w q with z | z
      · rw [h2] at z; cases z
      · rw [h1] at z; cases z
  exact ⟨R.len, A.gh, R.ge.trans A.le, fun b o e q => A.keep b o (R.he b o e q) fun z => (by rw [hl b z, hn] at e; cases e), fun a o e => by
        rcases A.gn a o e with z | z
        · exact R.gn a o z
        · exact .inr (R.heNone z),
      fun i d e => by
        obtain ⟨v, h1, h2⟩ := R.sl i d e
        exact ⟨v, h1, Rep.le A.le _ _ h2⟩,
      fun i o e => by
        obtain ⟨b, u, h1, h2, h3, h4, h5, h6⟩ := R.ac i o e
        exact ⟨b, u, h1, A.keep b u h2 fun z => ho i ⟨o, e⟩ (by rw [← hl b z]; exact h1), gnone b u h2 h3, h4, h5.le A.le, h6⟩,
      fun i o e => by
        obtain ⟨h1, h2, h3, h4, u, h5, h6⟩ := R.bo i o e
        refine ⟨h1, h2, h3, gnone _ u h5 h4, u, A.keep _ u h5 fun z => ?_, h6.le A.le⟩
        rcases hb with hb | hb
        · rw [h1] at hb; cases hb
        · exact hb (hl _ z).symm, R.bb⟩
theorem out_callN {K : Frg} {W : WX} {F : Fr} {Γ : En} {σ : St} {H G : Hp} {b : Option Nat} {Fn : DFn} {dd : List D} {dvs : List V} {x : VV} {v : V} (R : Rl K F Γ σ H G) (rs : vvrel K F Γ σ H G x v) (hd : ∀ G, Reps K G dd dvs) :
    OutV K W (vvrel K) F σ G (fun Q => spF K b Fn ([v] ++ dvs) H Q (fun cls dx H' => W cls dx σ H')) (finCallN b Fn dd x Γ) := by
  unfold finCallN
  split
  · rename_i o
    obtain ⟨p, u, rfl, h1, h2, h3, h4, h5, h6⟩ := rs
    have A : ArgsAt K (some 0) G H (o.d :: dd) ([V.ref p] ++ dvs) := ⟨by simp [(hd G).len], fun i d v e1 e2 hb => by
      cases i with
      | zero => exact absurd rfl hb
      | succ i =>
        obtain ⟨v', h3, h4⟩ := (hd G).getD (show dd[i]? = some d from e1)
        rw [show dvs[i]? = some v from e2] at h3
        cases h3
        exact h4, fun i hi => by cases hi; exact ⟨p, o, u, rfl, rfl, h1, h2, h6⟩⟩
    have hl : ∀ a', Lent (some 0) ([V.ref p] ++ dvs) a' → a' = p := fun a' ⟨i, z, h⟩ => by cases z; cases h; rfl
    split
    · rename_i d out ef
      intro Q q
      refine ⟨G, _, R.gh, A, ?_⟩
      rw [ef]
      exact fun v H' G' Af rv => q v H' G' (R.aftN h1 h3 h4 h5 hl Af) Af.le rv
    · rename_i o' out ef
      intro Q q
      refine ⟨G, _, R.gh, A, ?_⟩
      rw [ef]
      exact fun v H' G' Af nw => q v H' G' (R.aftN h1 h3 h4 h5 hl Af) Af.le (nw.new R fun j h => h)
    · rename_i c ns fs out ef
      intro Q q
      refine ⟨G, _, R.gh, A, ?_⟩
      rw [ef]
      exact fun cls dx H' G' Af x => q cls dx H' G' (R.aftN h1 h3 h4 h5 hl Af) Af.le x
    · trivial
  · trivial
section
variable {CX : CXT} {k : Nat} {fa' C : Addr} {fd : FuncData} {ps ks : List Str} {sp : Sp} {dvs : List V} {ds : List Value} {E : XK} {x m : Str}
theorem pass_at (tk : Takes X W) (σ : St) : PassesAt (L2.CX X.prog X.w) X σ (fun cls d H => W cls d σ H) := fun pins H s e s' I c => tk e s' (XE.of_call I (fun cls d H' h => h) c)
theorem run_G {pins : List (Addr × Obj)} {σ : St} {H : Hp} {s : Shared} {Q : VK} {us : List Value} {vs : List V} (F : FnG X.prog X.w X.K X.mg X.base (L2.CX X.prog X.w) k fa' fd ps sp) (hr : Room k X.A) (hg : X.A.guards = some []) (hb : Binds X.K fd ps ds) (hd : Vals dvs ds) (tk : Takes X W)
    (I : Inv X pins σ H s) (r : Vals vs us) (h : sp (vs ++ dvs) H Q (fun cls d H' => W cls d σ H')) : wpAny (model X.prog X.w) X.A (call (.ref fa') us) (EP X pins σ Q) X.xe s := by
  have r2 : Vals (vs ++ dvs) (us ++ ds) := r.append hd
  have hl : (us ++ ds).length = ps.length := by rw [← r2.length]; exact F.len _ _ _ _ h
  refine wpAny_call (codeAny_mono (F.run X.A X.stack s H ⟨us, []⟩ (us ++ ds) (vs ++ dvs) Q _ hr hg I.env0 (hb s us I.kIn hl) r2 h) fun r s' hq => ?_)
  cases r with
  | error e => exact pass_at tk σ pins H s e s' I hq
  | ok fl =>
    cases fl with
    | ret u => exact I.after hq
    | next => exact False.elim hq
    | brk => exact False.elim hq
    | cont => exact False.elim hq
def callV (b : Option Nat) (n : Nat) (Fn : DFn) (dd : List D) (u : AF) : VF := fun Γ => (u Γ).bind fun es Γ1 => if es.length = n then finCall b Fn dd es Γ1 else .fail
theorem vsrel_len {K : Frg} {σ : St} {G : Hp} : ∀ {es : List EV} {vs : List V}, vsrel K σ G es vs → vs.length = es.length
  | _, _, .nil => rfl
  | _, _, .cons _ t => by rw [List.length_cons, List.length_cons, vsrel_len t]
theorem OutV.of {α β : Type} {K : Frg} {W : WX} {rel : Fr → En → St → Hp → Hp → α → β → Prop} {F : Fr} {σ : St} {G : Hp} {T T' : (β → Hp → Prop) → Prop} : ∀ {r : O α}, OutV K W rel F σ G T r → (∀ Q, T Q → T' Q) → OutV K W rel F σ G T' r
  | .ok _ _, h, k => fun D q => k D (h D q)
  | .exc _ _ _ _, h, k => fun D q => k D (h D q)
  | .fail, _, _ => trivial
theorem sem_callG {Γ : En} {σ : St} {H G : Hp} {Fr : Fr} {b : Option Nat} {Fn : DFn} {dd : List D} {n : Nat} {es : List EV} {vs : List V} (R : Rl X.K Fr Γ σ H G) (rs : vsrel X.K σ G es vs) (hd : ∀ G, Reps X.K G dd dvs) (hn : n + dvs.length = ps.length) :
    OutV X.K W (vvrel X.K) Fr σ G (fun Q => spL X.K ps b Fn (vs ++ dvs) H Q (fun cls dx H' => W cls dx σ H')) (if es.length = n then finCall b Fn dd es Γ else .fail) := by
  split
  · rename_i h
    have hl : (vs ++ dvs).length = ps.length := by rw [List.length_append, vsrel_len rs, h]; exact hn
    exact OutV.of (out_call R rs hd) fun Q q => ⟨hl, q⟩
  · trivial
theorem fv_call {b : Option Nat} {Fn : DFn} {dd : List D} {n : Nat} (F : FnG X.prog X.w X.K X.mg X.base (L2.CX X.prog X.w) k fa' fd ps (spL X.K ps b Fn)) (hm : X.mg x = some (.ref fa')) (kp : PySem.W.keepIn X.K (.ref fa') = true) (hb : Binds X.K fd ps ds) (hd : Vals dvs ds) (hdd : ∀ G, Reps X.K G dd dvs)
    (hr : Room k X.A) (hgd : X.A.guards = some []) (tk : Takes X W) (hn : n + dvs.length = ps.length) (ha : FA X W (e :: es) u) (hg : Gl X x := by rfl) (hdb : (x == ("__debug__" : Str)) = false := by decide)
    (he : starEach (e :: es) X.env = (false, eval e X.env) :: starEach es X.env := by rfl) (hpl : (backTo pos (starEach es X.env)).any (·.1) = false := by rfl) :
    FV X W (.Call (.Name x p) (e :: es) [] pos) (callV b n Fn dd u) := by
  obtain ⟨t, pt, s⟩ := ha
  refine ⟨fun σ H Q => t σ H fun vs H1 => spL X.K ps b Fn (vs ++ dvs) H1 Q (fun cls d H' => W cls d σ H'), ⟨fun pins s' σ H Q I h => ?_⟩, fun Fr Γ σ H G R => ?_⟩
  · refine wpAny_Call_Name_kw (ld_glob I hg hm ?_ hdb)
    refine PySem.W.callWith_K (h₀ := X.base) I.ok.mod.kin kp (thn (pt.run pos pins s' σ H _ I h) fun us s1 ⟨vs, H1, I1, r, q⟩ => ⟨I1.kIn, ?_⟩) he hpl
    exact run_G F hr hgd hb hd tk I1 r q
  · exact OutV.bind (T' := fun vs H1 Q => spL X.K ps b Fn (vs ++ dvs) H1 Q (fun cls d H' => W cls d σ H')) (s Fr Γ σ H G R) fun es' Γ1 vs H1 G1 R1 _ rs => sem_callG R1 rs hdd hn
theorem fv_call0 {Fn : DFn} {dd : List D} (F : FnG X.prog X.w X.K X.mg X.base (L2.CX X.prog X.w) k fa' fd ps (spL X.K ps none Fn)) (hm : X.mg x = some (.ref fa')) (kp : PySem.W.keepIn X.K (.ref fa') = true) (hb : Binds X.K fd ps ds) (hd : Vals dvs ds) (hdd : ∀ G, Reps X.K G dd dvs)
    (hr : Room k X.A) (hgd : X.A.guards = some []) (tk : Takes X W) (hn : 0 + dvs.length = ps.length) (hg : Gl X x := by rfl) (hdb : (x == ("__debug__" : Str)) = false := by decide) :
    FV X W (.Call (.Name x p) [] [] pos) (callV none 0 Fn dd aNil) := by
  refine ⟨fun σ H Q => spL X.K ps none Fn ([] ++ dvs) H Q (fun cls d H' => W cls d σ H'), ⟨fun pins s' σ H Q I h => ?_⟩, fun Fr Γ σ H G R => ?_⟩
  · refine wpAny_Call_Name_kw (ld_glob I hg hm ?_ hdb)
    refine PySem.W.callWith_K0 I.kIn kp ?_
    exact run_G F hr hgd hb hd tk I .nil h
  · exact sem_callG R (show vsrel X.K σ G [] [] from .nil) hdd hn
/-- f(new object), lent -/
def call1V (b : Option Nat) (Fn : DFn) (dd : List D) (f : VF) : VF := fun Γ => (f Γ).bind (finCallN b Fn dd)
theorem OutV.bindV {α β α' β' : Type} {K : Frg} {W : WX} {rel : Fr → En → St → Hp → Hp → α → β → Prop} {rel' : Fr → En → St → Hp → Hp → α' → β' → Prop} {F : Fr} {σ : St} {G : Hp} {T : (β → Hp → Prop) → Prop} {T' : β → Hp → (β' → Hp → Prop) → Prop} {g : α → En → O α'} : ∀ {r : O α}, OutV K W rel F σ G T r →
    (∀ a Γ1 b H1 G1, Rl K F Γ1 σ H1 G1 → Le G G1 → rel F Γ1 σ H1 G1 a b → OutV K W rel' F σ G1 (T' b H1) (g a Γ1)) → OutV K W rel' F σ G (fun Q => T fun b H1 => T' b H1 Q) (r.bind g)
  | .fail, _, _ => trivial
  | .exc _ _ _ _, h, _ => fun Q q => h _ q
  | .ok a Γ1, h, k => by
    show OutV K W rel' F σ G _ (g a Γ1)
    cases e2 : g a Γ1 with
    | fail => trivial
    | exc c ns fs Γ' =>
      intro Q q
      refine h _ fun b H1 G1 R1 le1 r1 => ?_
      have h2 := k a Γ1 b H1 G1 R1 le1 r1
      rw [e2] at h2
      exact h2 Q fun cls dx H' G' R' le' x => q cls dx H' G' R' (le1.trans le') x
    | ok a' Γ' =>
      intro Q q
      refine h _ fun b H1 G1 R1 le1 r1 => ?_
      have h2 := k a Γ1 b H1 G1 R1 le1 r1
      rw [e2] at h2
      exact h2 Q fun b' H' G' R' le' x => q b' H' G' R' (le1.trans le') x
theorem fv_call1 {b : Option Nat} {Fn : DFn} {dd : List D} {vf : VF} (F : FnG X.prog X.w X.K X.mg X.base (L2.CX X.prog X.w) k fa' fd ps (spL X.K ps b Fn)) (hm : X.mg x = some (.ref fa')) (kp : PySem.W.keepIn X.K (.ref fa') = true) (hb : Binds X.K fd ps ds) (hd : Vals dvs ds) (hdd : ∀ G, Reps X.K G dd dvs)
    (hr : Room k X.A) (hgd : X.A.guards = some []) (tk : Takes X W) (hn : 1 + dvs.length = ps.length) (ha : FV X W e vf) (hg : Gl X x := by rfl) (hdb : (x == ("__debug__" : Str)) = false := by decide)
    (he : starEach [e] X.env = (false, eval e X.env) :: starEach [] X.env := by rfl) :
    FV X W (.Call (.Name x p) [e] [] pos) (call1V b Fn dd vf) := by
  obtain ⟨t, pt, s⟩ := ha
  refine ⟨fun σ H Q => t σ H fun v H1 => spL X.K ps b Fn ([v] ++ dvs) H1 Q (fun cls d H' => W cls d σ H'), ⟨fun pins s' σ H Q I h => ?_⟩, fun Fr Γ σ H G R => ?_⟩
  · refine wpAny_Call_Name_kw (ld_glob I hg hm ?_ hdb)
    refine PySem.W.callWith_K (h₀ := X.base) I.ok.mod.kin kp (thn ((pa_cons pt pa_nil he).run pos pins s' σ H (fun vs H1 => spL X.K ps b Fn (vs ++ dvs) H1 Q (fun cls d H' => W cls d σ H')) I h) fun us s1 ⟨vs, H1, I1, r, q⟩ => ⟨I1.kIn, ?_⟩) he rfl
    exact run_G F hr hgd hb hd tk I1 r q
  · refine OutV.bindV (T' := fun v H1 Q => spL X.K ps b Fn ([v] ++ dvs) H1 Q (fun cls d H' => W cls d σ H')) (s Fr Γ σ H G R) fun x Γ1 v H1 G1 R1 _ rs => ?_
    refine OutV.of (out_callN R1 rs hdd) fun Q q => ⟨by rw [List.length_append]; exact hn, q⟩
end
end FL

/-! part F12 -/
set_option Elab.async false
set_option linter.all false
set_option maxRecDepth 100000
set_option maxHeartbeats 4000000
namespace FL
open PySem PySem.Spec PyProof.Rows L2
variable {X : Cx} {W : WX} {e a o : Expr} {f g f1 f2 f3 fo fa : EF} {pos apos kpos p : Pos} {es : List Expr} {u uk : AF} {kws : List Keyword} {nm : Option Str}
structure FK (X : Cx) (W : WX) (kws : List Keyword) (f : AF) : Prop where
  ex : ∃ t, PK X kws t ∧ Sem X.K W (vsrel X.K) t f
theorem fk_nil : FK X W [] aNil := ⟨_, pk_nil, fun F Γ σ H G R Q q => q [] H G R (Le.refl G) .nil⟩
theorem fk_cons {r : AF} (ha : FE X W e f) (hr : FK X W kws r) : FK X W (⟨nm, e, kpos⟩ :: kws) (aCons f r) := by
  obtain ⟨u1, p1, s1⟩ := ha
  obtain ⟨u2, p2, s2⟩ := hr
  refine ⟨_, pk_cons p1 p2, Sem.bind (T := fun x σ H Q => u2 σ H fun xs H2 => Q (x :: xs) H2) s1 (SemK.bind (T := fun x xs (σ : St) H Q => Q (x :: xs) H) (vrel_mono X.K) s2.toK fun F Γ σ H G a b a' b' R r r' => ?_)⟩
  exact fun Q q => q _ H G R (Le.refl G) (.cons r r')
/-- values at these places -/
def pick {α : Type} (pm : List Nat) (xs : List α) : List α := pm.filterMap (xs[·]?)
theorem paired_none {α β : Type} {R : α → β → Prop} {xs : List α} {ys : List β} {i : Nat} (h : Paired R xs ys) (e : xs[i]? = none) : ys[i]? = none := by
  rw [List.getElem?_eq_none_iff] at *
  rw [← Paired.length h]; exact e
theorem pick_paired {α β : Type} {R : α → β → Prop} {xs : List α} {ys : List β} (h : Paired R xs ys) : ∀ pm, Paired R (pick pm xs) (pick pm ys)
  | [] => .nil
  | i :: pm => by
    unfold pick
    cases e : xs[i]? with
    | none =>
      rw [List.filterMap_cons_none e, List.filterMap_cons_none (paired_none h e)]
      exact pick_paired h pm
    | some x =>
      obtain ⟨y, e2, r⟩ := paired_get h e
      rw [List.filterMap_cons_some e, List.filterMap_cons_some e2]
      exact .cons r (pick_paired h pm)
theorem paired_app {α β : Type} {R : α → β → Prop} : ∀ {xs xs' : List α} {ys ys' : List β}, Paired R xs ys → Paired R xs' ys' → Paired R (xs ++ xs') (ys ++ ys')
  | _, _, _, _, .nil, h => h
  | _, _, _, _, .cons r t, h => .cons r (paired_app t h)
theorem reps_vs {K : Frg} {σ : St} {G : Hp} : ∀ {ds : List D} {vs : List V}, Reps K G ds vs → vsrel K σ G (ds.map EV.d) vs
  | [], _, h => by cases h; exact .nil
  | d :: ds, _, h => by
    obtain ⟨v, r, rfl, h1, h2⟩ := h
    exact .cons h1 (reps_vs h2)
/-- how a call with keywords binds -/
structure KB (K : Frg) (fd : FuncData) (ps : List Str) (n : Nat) (ks : List Str) (pm : List Nat) (ds : List Value) : Prop where
  to : ∀ (s : Shared) (us ws : List Value), K.In s.heap → us.length = n → ws.length = ks.length → BindsTo s fd ⟨us, ks.zip ws⟩ (ps.zip (pick pm (us ++ (ws ++ ds))))
theorem kb_of {K : Frg} {x qual : Str} {params : Arguments} {body : List Stmt} {scope : Scope} {kws : List (Str × V)} {f : Addr} {fd : FuncData} {ps : List Str} {n : Nat} {ks : List Str} {pm : List Nat} (F : FunD K x qual params body scope [] kws f fd)
    (h : ∀ (kV doc pmv : Value) (an : Option Addr) (cdv ct : Value) (us ws : List Value), us.length = n → ws.length = ks.length → bindArgs (PySem.W.fnOf x qual params body scope .none kV doc pmv an cdv ct) ⟨us, ks.zip ws⟩ = pure (ps.zip (pick pm (us ++ (ws ++ []))))) : KB K fd ps n ks pm [] := by
  obtain ⟨oc, od, dV, kV, doc, pmv, an, cdv, ct, osl, rfl, lk, hcd, hD, hK⟩ := F.ex
  rcases hD with ⟨_, rfl⟩ | ⟨e, _⟩
  · exact ⟨fun s us ws _ h1 h2 => .of_eq (h kV doc pmv an cdv ct us ws h1 h2)⟩
  · exact absurd rfl e
theorem kb_dfl {K : Frg} {x qual : Str} {params : Arguments} {body : List Stmt} {scope : Scope} {dvs : List V} {kws : List (Str × V)} {f : Addr} {fd : FuncData} {ps : List Str} {n : Nat} {ks : List Str} {pm : List Nat} (F : FunD K x qual params body scope dvs kws f fd) (hd : dvs ≠ [])
    (h : ∀ (T : Addr) (kV doc pmv : Value) (an : Option Addr) (cdv ct : Value) (us its ws : List Value), us.length = n → its.length = dvs.length → ws.length = ks.length →
      ∃ k, bindArgs (PySem.W.fnOf x qual params body scope (.ref T) kV doc pmv an cdv ct) ⟨us, ks.zip ws⟩ = seqItems? (.ref T) >>= k ∧ k (some its.toArray) = pure (ps.zip (pick pm (us ++ (ws ++ its))))) : ∃ ds, Vals dvs ds ∧ KB K fd ps n ks pm ds := by
  obtain ⟨oc, od, dV, kV, doc, pmv, an, cdv, ct, osl, rfl, lk, hcd, hD, hK⟩ := F.ex
  rcases hD with ⟨e, _⟩ | ⟨_, T, o, its, m, rfl, lT, oT, rT⟩
  · exact absurd e hd
  · refine ⟨its, rT, ⟨fun s us ws X l1 l2 => ?_⟩⟩
    obtain ⟨k, e1, e2⟩ := h T kV doc pmv an cdv ct us its ws l1 rT.length.symm l2
    refine BindsTo.of_looks fun M => ?_
    rw [e1]
    exact looks_items X lT oT (.of_pure e2)
section
variable {k : Nat} {fa' C : Addr} {fd : FuncData} {ps ks : List Str} {sp : Sp} {dvs : List V} {ds : List Value} {E : XK} {x m : Str} {pm : List Nat} {n : Nat} {b : Option Nat} {Fn : DFn} {dd : List D}
def callK (b : Option Nat) (n m np : Nat) (pm : List Nat) (Fn : DFn) (dd : List D) (u uk : AF) : VF := fun Γ => (u Γ).bind fun es Γ1 => (uk Γ1).bind fun zs Γ2 =>
  if es.length = n ∧ zs.length = m ∧ (pick pm (es ++ (zs ++ dd.map EV.d))).length = np then finCall b Fn [] (pick pm (es ++ (zs ++ dd.map EV.d))) Γ2 else .fail
theorem run_GK {pins : List (Addr × Obj)} {σ : St} {H : Hp} {s : Shared} {Q : VK} {us ws : List Value} {vs zs : List V} (F : FnG X.prog X.w X.K X.mg X.base (L2.CX X.prog X.w) k fa' fd ps sp) (hr : Room k X.A) (hg : X.A.guards = some []) (hb : KB X.K fd ps n ks pm ds) (hd : Vals dvs ds) (tk : Takes X W)
    (I : Inv X pins σ H s) (r : Vals vs us) (rz : Vals zs ws) (l1 : vs.length = n) (l2 : zs.length = ks.length) (h : sp (pick pm (vs ++ (zs ++ dvs))) H Q (fun cls d H' => W cls d σ H')) : wpAny (model X.prog X.w) X.A (call (.ref fa') us (ks.zip ws)) (EP X pins σ Q) X.xe s := by
  have r2 : Vals (pick pm (vs ++ (zs ++ dvs))) (pick pm (us ++ (ws ++ ds))) := pick_paired (r.append (rz.append hd)) pm
  refine wpAny_call (codeAny_mono (F.run X.A X.stack s H ⟨us, ks.zip ws⟩ _ _ Q _ hr hg I.env0 (hb.to s us ws I.kIn (r.length.symm.trans l1) (rz.length.symm.trans l2)) r2 h) fun r s' hq => ?_)
  cases r with
  | error e => exact pass_at tk σ pins H s e s' I hq
  | ok fl =>
    cases fl with
    | ret u => exact I.after hq
    | next => exact False.elim hq
    | brk => exact False.elim hq
    | cont => exact False.elim hq
theorem sem_callK {Γ : En} {σ : St} {H G : Hp} {Fr : Fr} {m : Nat} {es zs : List EV} {vs ws : List V} (R : Rl X.K Fr Γ σ H G) (rs : vsrel X.K σ G es vs) (rz : vsrel X.K σ G zs ws) (hd : ∀ G, Reps X.K G dd dvs) :
    OutV X.K W (vvrel X.K) Fr σ G (fun Q => vs.length = n ∧ ws.length = m ∧ spL X.K ps b Fn (pick pm (vs ++ (ws ++ dvs))) H Q (fun cls dx H' => W cls dx σ H'))
      (if es.length = n ∧ zs.length = m ∧ (pick pm (es ++ (zs ++ dd.map EV.d))).length = ps.length then finCall b Fn [] (pick pm (es ++ (zs ++ dd.map EV.d))) Γ else .fail) := by
  split
  · rename_i h
    have rp : vsrel X.K σ G (pick pm (es ++ (zs ++ dd.map EV.d))) (pick pm (vs ++ (ws ++ dvs))) := pick_paired (paired_app rs (paired_app rz (reps_vs (hd G)))) pm
    refine OutV.of (out_call (dvs := []) R rp (fun _ => rfl)) fun Q q => ⟨by rw [vsrel_len rs, h.1], by rw [vsrel_len rz, h.2.1], by rw [vsrel_len rp, h.2.2], ?_⟩
    rwa [List.append_nil] at q
  · trivial
theorem fv_callK0 (F : FnG X.prog X.w X.K X.mg X.base (L2.CX X.prog X.w) k fa' fd ps (spL X.K ps b Fn)) (hm : X.mg x = some (.ref fa')) (kp : PySem.W.keepIn X.K (.ref fa') = true) (hb : KB X.K fd ps 0 ks pm ds) (hd : Vals dvs ds) (hdd : ∀ G, Reps X.K G dd dvs)
    (hr : Room k X.A) (hgd : X.A.guards = some []) (tk : Takes X W) (hkw : FK X W kws uk) (hg : Gl X x := by rfl) (hall : (backToKw pos (keywordEach kws X.env)).all (·.1.isSome) = true := by rfl) (hks : (backToKw pos (keywordEach kws X.env)).filterMap (·.1) = ks := by rfl)
    (hdb : (x == ("__debug__" : Str)) = false := by decide) (hpl : ((backTo pos (starEach [] X.env)).any (·.1) || (backToKw pos (keywordEach kws X.env)).any (·.1.isNone)) = false := by rfl) :
    FV X W (.Call (.Name x p) [] kws pos) (callK b 0 ks.length ps.length pm Fn dd aNil uk) := by
  obtain ⟨t2, p2, s2⟩ := hkw
  refine ⟨fun σ H Q => t2 σ H fun zs H1 => ([] : List V).length = 0 ∧ zs.length = ks.length ∧ spL X.K ps b Fn (pick pm ([] ++ (zs ++ dvs))) H1 Q (fun cls d H' => W cls d σ H'), ⟨fun pins s' σ H Q I h => ?_⟩, fun Fr Γ σ H G R => ?_⟩
  · refine wpAny_Call_Name_kw (ld_glob I hg hm ?_ hdb)
    refine PySem.W.callWith_KW0 (h₀ := X.base) I.ok.mod.kin kp hall ?_ hpl
    refine thn (p2.run pos pins s' σ H _ I h) fun ws s2 ⟨zs, H2, I2, rz, l1, l2, q2⟩ => ⟨I2.kIn, ?_⟩
    rw [hks]
    exact run_GK F hr hgd hb hd tk I2 .nil rz l1 l2 q2
  · refine OutV.bind (T' := fun zs H1 Q => ([] : List V).length = 0 ∧ zs.length = ks.length ∧ spL X.K ps b Fn (pick pm ([] ++ (zs ++ dvs))) H1 Q (fun cls d H' => W cls d σ H')) (s2 Fr Γ σ H G R) fun zs Γ1 ws H1 G1 R1 _ rz => ?_
    exact sem_callK R1 (show vsrel X.K σ G1 [] [] from .nil) rz hdd
theorem fv_callK (F : FnG X.prog X.w X.K X.mg X.base (L2.CX X.prog X.w) k fa' fd ps (spL X.K ps b Fn)) (hm : X.mg x = some (.ref fa')) (kp : PySem.W.keepIn X.K (.ref fa') = true) (hb : KB X.K fd ps n ks pm ds) (hd : Vals dvs ds) (hdd : ∀ G, Reps X.K G dd dvs)
    (hr : Room k X.A) (hgd : X.A.guards = some []) (tk : Takes X W) (ha : FA X W (e :: es) u) (hkw : FK X W kws uk) (hg : Gl X x := by rfl) (hall : (backToKw pos (keywordEach kws X.env)).all (·.1.isSome) = true := by rfl) (hks : (backToKw pos (keywordEach kws X.env)).filterMap (·.1) = ks := by rfl)
    (hdb : (x == ("__debug__" : Str)) = false := by decide) (he : starEach (e :: es) X.env = (false, eval e X.env) :: starEach es X.env := by rfl)
    (hpl : ((backTo pos (starEach (e :: es) X.env)).any (·.1) || (backToKw pos (keywordEach kws X.env)).any (·.1.isNone)) = false := by rfl) :
    FV X W (.Call (.Name x p) (e :: es) kws pos) (callK b n ks.length ps.length pm Fn dd u uk) := by
  obtain ⟨t1, p1, s1⟩ := ha
  obtain ⟨t2, p2, s2⟩ := hkw
  refine ⟨fun σ H Q => t1 σ H fun vs H1 => t2 σ H1 fun zs H1 => vs.length = n ∧ zs.length = ks.length ∧ spL X.K ps b Fn (pick pm (vs ++ (zs ++ dvs))) H1 Q (fun cls d H' => W cls d σ H'), ⟨fun pins s' σ H Q I h => ?_⟩, fun Fr Γ σ H G R => ?_⟩
  · refine wpAny_Call_Name_kw (ld_glob I hg hm ?_ hdb)
    refine PySem.W.callWith_KW (h₀ := X.base) I.ok.mod.kin kp hall (thn (p1.run pos pins s' σ H _ I h) fun us s1 ⟨vs, H1, I1, r, q⟩ => ?_) hpl he
    refine thn (p2.run pos pins s1 σ H1 _ I1 q) fun ws s2 ⟨zs, H2, I2, rz, l1, l2, q2⟩ => ⟨I2.kIn, ?_⟩
    rw [hks]
    exact run_GK F hr hgd hb hd tk I2 r rz l1 l2 q2
  · refine OutV.bind (T' := fun vs H1 Q => t2 σ H1 fun zs H1 => vs.length = n ∧ zs.length = ks.length ∧ spL X.K ps b Fn (pick pm (vs ++ (zs ++ dvs))) H1 Q (fun cls d H' => W cls d σ H')) (s1 Fr Γ σ H G R) fun es Γ1 vs H1 G1 R1 _ rs => ?_
    have h2 := s2 Fr Γ1 σ H1 G1 R1
    -- the positional ones stand while the keywords are read
    exact OutV.bind (T' := fun zs H2 Q => vs.length = n ∧ zs.length = ks.length ∧ spL X.K ps b Fn (pick pm (vs ++ (zs ++ dvs))) H2 Q (fun cls d H' => W cls d σ H')) h2 fun zs Γ2 ws H2 G2 R2 le2 rz => sem_callK R2 (vsrel_mono X.K _ _ _ _ _ le2 rs) rz hdd
end
def badS : SF := fun _ => .fail
theorem fs_never {st : Stmt} : FS X W st badS := ⟨fun _ _ _ => False, ⟨fun _ _ _ _ _ _ h => h.elim⟩, fun _ _ _ _ _ _ => trivial⟩
theorem fb_never {sts : List Stmt} : FB X W sts badS := ⟨fun _ _ _ => False, ⟨fun _ _ _ _ _ _ h => h.elim⟩, fun _ _ _ _ _ _ => trivial⟩
def badE : EF := fun _ => .fail
theorem fe_never : FE X W e badE := ⟨fun _ _ _ => False, ⟨fun _ _ _ _ _ _ h => h.elim⟩, fun _ _ _ _ _ _ => trivial⟩
theorem takes_noW {X : Cx} : Takes X noW := fun u s' ⟨_, _, _, _, _, _, _, _, _, _, _, _, _, _, _, _, w⟩ => w.elim
end FL

/-! part F13 -/
set_option Elab.async false
set_option linter.all false
set_option maxRecDepth 100000
set_option maxHeartbeats 4000000
namespace FL
open PySem PySem.Spec PyProof.Rows L2
section
variable {P : Program} {w : World} {K : Frg} {mg mb : Str → Option Value} {k : Nat} {fa a : Addr} {fd : FuncData} {x : Str} {sp : Sp} {s₁ : Shared} {vs : List Value} {ns : List Int}
/-- from a heap that may hold the script alone -/
theorem end_core (KX : K.In s₁.heap) (hns : s₁.heap.Ns mainGlobals mg) (hb : s₁.heap.Ns builtinsNs mb) (hbb : ∀ x : Str, x ≠ "__name__" → mb x = bootBuiltins x) (hlim : s₁.heap.NoLimit) (hg : s₁.gens = #[])
    (ha : s₁.heap.get? a = some { cls := .type "list", data := .seq vs.toArray }) (hr : Room k callerA)
    (F : ∀ base : Heap, K.In base → base.Ns mainGlobals mg → FnG P w K mg base (L2.CX P w) k fa fd [x] sp) (hbind : ∀ (s : Shared) (u : Value), BindsTo s fd ⟨[u], []⟩ [(x, u)])
    (H : Hp) (hO : Only H) (hsp : sp [.ref a] H (fun v _ => v = .bl true) fun _ _ _ => False) (hok : HOk P w H s₁.heap) (hA : ∀ b, H b ≠ none → b = a) (hK : H a ≠ none → K.lookup a = none) :
    codeAny (model P w) callerA (.call (.ref fa) ⟨[.ref a], []⟩) (fun r s' => r = .ok (.ret (.bool true)) ∧ OldK s₁.heap s'.heap ∧ s'.os = s₁.os ∧ AllBare s'.gens) s₁ := by
  have at_a : ∀ {b : Addr}, H b ≠ none → s₁.heap.get? b = some { cls := .type "list", data := .seq vs.toArray } ∧ K.lookup b = none := fun {b} h => by
    have e := hA b h
    subst e
    exact ⟨ha, hK h⟩
  have untold : ∀ {b : Addr} {o : Obj} {es : Array DictEntry} {ep : Nat}, s₁.heap.get? b = some o → o.data = .dict es ep → H b = none := fun {b o es ep} e d => Classical.byContradiction fun h => by
    rw [(at_a h).1] at e
    cases e
    exact nomatch (show Data.seq vs.toArray _ = Data.dict es ep from d)
  have ns : ∀ {b : Addr} {m : Str → Option Value}, s₁.heap.Ns b m → (hidT s₁.heap H).Ns b m := fun {b m} ⟨o, es, ep, e, d, r⟩ => ⟨o, es, ep, hidT_get e (untold e d), d, r⟩
  have kin : K.In (hidT s₁.heap H) := fun b o e => hidT_get (KX b o e) (Classical.byContradiction fun h => by
    rw [(at_a h).2] at e
    cases e)
  obtain ⟨mc, l1, l2⟩ := hlim
  have e0 : Env0 P w K mg (hidT s₁.heap H) callerA [] s₁ H := ⟨rfl, ⟨kin, ns hns, ⟨mb, ns hb, hbb⟩, mc, ns l1, l2⟩, fun b o e => of_hidT e, Nat.le_of_eq (hidT_size _ _), trivial, fun b hb => absurd (show b ∈ ([] : List Addr) from hb) (by simp), hok, .of_eq hg⟩
  refine codeAny_mono ((F _ kin (ns hns)).run callerA [] s₁ H ⟨[.ref a], []⟩ [.ref a] [.ref a] _ _ hr rfl e0 (hbind s₁ (.ref a)) (.cons rfl .nil) hsp) fun r s' h => ?_
  match r, h with
  | .error e, h =>
    obtain ⟨_, _, _, _, _, _, _, _, _, _, _, _, z⟩ := (h : L2.CX P w [] H s₁ (fun _ _ _ => False) e s')
    exact z.elim
  | .ok .next, h => exact False.elim h
  | .ok .brk, h => exact False.elim h
  | .ok .cont, h => exact False.elim h
  | .ok (.ret u), h =>
    obtain ⟨v, H', os, bare, un, hok', r', q⟩ := h
    obtain rfl : v = .bl true := q
    obtain rfl : u = Value.bool true := r'
    refine ⟨rfl, OldK.of_keep fun b o e => ?_, os, bare⟩
    rcases hO b with z | ⟨ob, xs, z⟩
    · exact un.keep b o e z (by intro z; exact absurd (show b ∈ ([] : List Addr) from z) (by simp)) (by simp)
    · obtain ⟨e1, _⟩ := hok b _ z
      obtain ⟨e2, _⟩ := hok' b _ (un.frzs b ob _ z)
      rw [e] at e1
      cases e1
      exact e2
theorem end_call (KX : K.In s₁.heap) (hns : s₁.heap.Ns mainGlobals mg) (hb : s₁.heap.Ns builtinsNs mb) (hbb : ∀ x : Str, x ≠ "__name__" → mb x = bootBuiltins x) (hlim : s₁.heap.NoLimit) (hg : s₁.gens = #[])
    (ha : s₁.heap.get? a = some { cls := .type "list", data := .seq vs.toArray }) (hi : IntsAre vs ns) (hl : ns.length ≤ sizeLine) (hr : Room k callerA)
    (F : ∀ base : Heap, K.In base → base.Ns mainGlobals mg → FnG P w K mg base (L2.CX P w) k fa fd [x] sp) (hbind : ∀ (s : Shared) (u : Value), BindsTo s fd ⟨[u], []⟩ [(x, u)])
    (hsp : ∀ H : Hp, Only H → SqL K H a (ns.map V.int) → sp [.ref a] H (fun v _ => v = .bl true) fun _ _ _ => False) :
    codeAny (model P w) callerA (.call (.ref fa) ⟨[.ref a], []⟩) (fun r s' => r = .ok (.ret (.bool true)) ∧ OldK s₁.heap s'.heap ∧ s'.os = s₁.os ∧ AllBare s'.gens) s₁ := by
  have core := end_core KX hns hb hbb hlim hg ha hr F hbind
  cases hk : K.lookup a with
  | some o =>
    -- the script stands among the module's objects
    have e := (KX a o hk).symm.trans ha
    cases e
    have hO : Only fun _ => none := fun _ => .inl rfl
    exact core _ hO (hsp _ hO (.inr ⟨_, vs.toArray, _, hk, rfl, rfl, rfl, by rw [List.size_toArray, hi.length]; exact hl, by simpa using vals_ints hi⟩)) (fun _ _ z => nomatch z) (fun _ z => absurd rfl z) fun z => absurd rfl z
  | none =>
    have hO : Only (upd (fun _ => none) a (.frz { cls := .type "list", data := .seq vs.toArray } (.lst (ns.map V.int)))) := fun b => by
      by_cases h : b = a
      · rw [h]; exact .inr ⟨_, _, upd_same⟩
      · exact .inl (upd_ne h)
    have isA : ∀ b, upd (fun _ => none) a (.frz { cls := .type "list", data := .seq vs.toArray } (.lst (ns.map V.int))) b ≠ none → b = a := fun b z => Classical.byContradiction fun h => z (upd_ne h)
    refine core _ hO (hsp _ hO (.inl (.inr ⟨_, upd_same⟩))) (fun b u z => ?_) isA fun _ => hk
    have hb := isA b (by rw [z]; simp)
    subst hb
    rw [upd_same] at z
    cases z
    exact ⟨ha, by rw [List.length_map]; exact hl, vs, _, vals_ints hi, ha⟩
end
/-- the law's end -/
theorem end_law {l : PySem.W.OpenLaw} {n k : Nat} {q : Program} {loose : List Str} {XP : (Str → Option Value) → Heap → Prop} {YP : World → Heap → Prop} {d : DefRec} {x : Str}
    (hn : l.most = some n) (hn2 : n ≤ sizeLine) (hdf : d.params.defaults = []) (hr : Room k callerA)
    (F : ∀ (w : World) (mg : Str → Option Value) (fa : Addr) (h : Heap), YP w h → h.Ns mainGlobals mg → mg d.name = some (.ref fa) →
      ∃ (K : PySem.W.Frag) (fd : FuncData) (sp : Sp), K.In h ∧ (∀ (s : Shared) (u : Value), BindsTo s fd ⟨[u], []⟩ [(x, u)]) ∧
        (∀ (H : Hp) (a : Addr) (ns : List Int), ns.length ≤ n → Only H → SqL K H a (ns.map V.int) → sp [.ref a] H (fun v _ => v = .bl true) fun _ _ _ => False) ∧
        ∀ base : Heap, K.In base → base.Ns mainGlobals mg → FnG l.prog w K mg base (L2.CX l.prog w) k fa fd [x] sp) :
    PySem.W.WalkO q loose XP YP l.row.toRowW d [] (fun f vs => PySem.call f vs) :=
  Att.attach_call hn hdf fun w s₀ s₁ mg mb fa o pm cd doc a vs ns G Y ho hd hcd hmg hobj hints hlen hg => by
    obtain ⟨K, fd, sp, KX, hb, hsp, hF⟩ := F w mg fa _ Y G.T.g hmg
    exact end_call KX G.T.g G.T.b G.T.builtins G.T.nolimit hg hobj hints (Nat.le_trans hlen hn2) hr hF hb fun H hO hS => hsp H a ns hlen hO hS
/-- the script, told -/
theorem law_sp {K : Frg} {x : Str} {Fn : DFn} (h : ∀ ns : List Int, Fn [.scr ns] = .ok (.bl true) none) (H : Hp) (a : Addr) (ns : List Int) (hO : Only H) (hS : SqL K H a (ns.map V.int)) : spL K [x] none Fn [.ref a] H (fun v _ => v = .bl true) fun _ _ _ => False := by
  refine ⟨rfl, H, [.scr ns], Le.refl H, ⟨rfl, fun i d v h1 h2 _ => ?_, fun i z => nomatch z⟩, ?_⟩
  · cases i with
    | zero => cases h1; cases h2; exact ⟨a, rfl, hS⟩
    | succ i => simp at h1
  · rw [h ns]
    exact fun v H' G' _ r => r
abbrev AlE : Type := He.AlD × Bool
def obsE (fa : List He.Fa) (fn : List He.DefD) (ex : Frg → Bool) (K : Frg) : AlE := (He.obsD fa fn K, ex K)
def obsEG (n : Nat) (fa : List He.Fa) (fn : List He.DefD) (ex : Frg → Bool) (g : Addr → Option Obj) : AlE := obsE fa fn ex (He.frG g (He.asD g n))
def hookE (n : Nat) (fa : List He.Fa) (fn : List He.DefD) (ex : Frg → Bool) : PySem.W.Hook where
  α := AlE
  obs := fun s => obsEG n fa fn ex s.heap.get?
  val := fun _ => (He.valD fn, true)
  says := fun _ h => ∃ K : Frg, K.In h ∧ He.SaysD fa fn K ∧ ex K = true
  of := fun _ _ e => ⟨_, He.frG_in, congrArg (fun z : AlE => z.1) e, congrArg (fun z : AlE => z.2) e⟩
  keeps := fun _ _ _ ⟨K, hK, c⟩ k => ⟨K, PySem.W.Frag.In.keeps hK k, c⟩
theorem obsEG_eq {n : Nat} {fa : List He.Fa} {fn : List He.DefD} {ex : Frg → Bool} {g : Addr → Option Obj} {s : Shared} (h : ∀ a, g a = s.heap.get? a) : obsEG n fa fn ex g = (hookE n fa fn ex).obs s := by
  have e : g = s.heap.get? := funext h
  rw [e] <;> rfl
mutual
def cst (K : Frg) : D → Value → Bool
  | .non, .none => true
  | .bl b, .bool c => b == c
  | .int i, .int j _ => decide (i = j)
  | .str x, .str y _ => decide (x = y)
  | .tup ds, .ref a => (match K.lookup a with
    | some ⟨.type c, _, .seq its _, _⟩ => decide (c = "tuple") && (decide (its.size ≤ sizeLine) && csts K ds its.toList)
    | _ => false)
  | _, _ => false
def csts (K : Frg) : List D → List Value → Bool
  | [], [] => true
  | d :: ds, u :: us => cst K d u && csts K ds us
  | _, _ => false
end
mutual
theorem cst_ok {K : Frg} : ∀ (d : D) (u : Value), cst K d u = true → ∃ v, RelV v u ∧ ∀ G, Rep K G d v
  | .non, .none, h => ⟨.non, rfl, fun _ => rfl⟩
  | .bl b, .bool c, h => ⟨.bl c, rfl, fun _ => by rw [eq_of_beq (show (b == c) = true from h)]; rfl⟩
  | .int i, .int j t, h => ⟨.int j, ⟨t, rfl⟩, fun _ => by rw [of_decide_eq_true (p := i = j) h]; rfl⟩
  | .str x, .str y t, h => ⟨.str y, ⟨t, rfl⟩, fun _ => by rw [of_decide_eq_true (p := x = y) h]; rfl⟩
  | .tup ds, .ref a, h => by
    unfold cst at h
    split at h
    · rename_i c od its n sl q
      obtain ⟨h1, h2⟩ := He.ba h
      obtain ⟨h3, h4⟩ := He.ba h2
      obtain ⟨vs, h5, h6⟩ := csts_ok ds its.toList h4
      exact ⟨.ref a, rfl, fun G => ⟨a, vs, rfl, .inr ⟨_, its, n, q, congrArg Value.type (of_decide_eq_true h1), rfl, of_decide_eq_true h3, h5⟩, h6 G⟩⟩
    · cases h
  | .lst _, u, h => by unfold cst at h; cases h
  | .scr _, u, h => by unfold cst at h; cases h
  | .dk _ _, u, h => by unfold cst at h; cases h
  | .ins _ _ _, u, h => by unfold cst at h; cases h
theorem csts_ok {K : Frg} : ∀ (ds : List D) (us : List Value), csts K ds us = true → ∃ vs, Vals vs us ∧ ∀ G, Reps K G ds vs
  | [], [], _ => ⟨[], .nil, fun _ => rfl⟩
  | d :: ds, u :: us, h => by
    obtain ⟨h1, h2⟩ := He.ba (show (cst K d u && csts K ds us) = true from h)
    obtain ⟨v, r1, r2⟩ := cst_ok d u h1
    obtain ⟨vs, r3, r4⟩ := csts_ok ds us h2
    exact ⟨v :: vs, .cons r1 r3, fun G => ⟨v, vs, rfl, r2 G, r4 G⟩⟩
end
def cstB (K : Frg) (x : Str) (d : D) : Bool := match PySem.W.nsIn K mainGlobals x with
  | some (some u) => cst K d u
  | _ => false
theorem cstB_ok {K : Frg} {mg : Str → Option Value} {h : Heap} (X : K.In h) (G : h.Ns mainGlobals mg) {x : Str} {d : D} (c : cstB K x d = true) : ∃ (v : V) (u : Value), mg x = some u ∧ RelV v u ∧ ∀ G, Rep K G d v := by
  unfold cstB at c
  split at c
  · rename_i u e
    obtain ⟨v, h1, h2⟩ := cst_ok d u c
    refine ⟨v, u, ?_, h1, h2⟩
    exact PySem.W.mg_of X G e
  · cases c
end FL

/-! part F14 -/
set_option Elab.async false
set_option linter.all false
set_option maxRecDepth 100000
set_option maxHeartbeats 4000000
namespace FL
open PySem PySem.Spec PyProof.Rows L2
variable {X : Cx} {W : WX} {e a b c o tg iter : Expr} {f g f1 f2 f3 fo fa : EF} {pos apos kpos p : Pos} {es : List Expr}
theorem pi_or {t1 t2 : TI} (h1 : PI X tg iter t1) (h2 : PI X tg iter t2) : PI X tg iter (fun σ H R => t1 σ H R ∨ t2 σ H R) :=
  ⟨fun pins s σ H R I q => q.elim (fun q => h1.run pins s σ H R I q) fun q => h2.run pins s σ H R I q⟩
def itA (ev : EV) (Γ : En) : O (List D) := match ev with
  | .d (.tup ds) => .ok ds Γ
  | .d (.scr ns) => .ok (ns.map D.int) Γ
  | .d (.str x) => .ok (x.cps.toList.map fun c => D.str ⟨#[c]⟩) Γ
  | _ => itL ev Γ
def anyI (f : EF) : IF := fun Γ => (f Γ).bind itA
theorem OutI.or {K : Frg} {F : Fr} {σ : St} {G : Hp} {T1 T2 T : (It → Hp → Prop) → Prop} : ∀ {r : O (List D)}, OutI K W F σ G T1 r ∨ OutI K W F σ G T2 r → (∀ Q, T1 Q → T Q) → (∀ Q, T2 Q → T Q) → OutI K W F σ G T r
  | .ok _ _, h, k1, k2 => fun Q q => h.elim (fun h => k1 _ (h Q q)) fun h => k2 _ (h Q q)
  | .exc _ _ _ _, h, k1, k2 => fun Q q => h.elim (fun h => k1 _ (h Q q)) fun h => k2 _ (h Q q)
  | .fail, _, _, _ => trivial
theorem fi_any (h : FE X W e f) : FI X W tg e (anyI f) := by
  obtain ⟨t1, p1, s1⟩ := fi_list (tg := tg) h
  obtain ⟨t2, p2, s2⟩ := fi_tup (tg := tg) h
  obtain ⟨t3, p3, s3⟩ := fi_scr (tg := tg) h
  obtain ⟨t4, p4, s4⟩ := fi_str (tg := tg) h
  refine ⟨_, pi_or (pi_or p1 p2) (pi_or p3 p4), fun F Γ σ H G R => ?_⟩
  have k1 := s1 F Γ σ H G R
  have k2 := s2 F Γ σ H G R
  have k3 := s3 F Γ σ H G R
  have k4 := s4 F Γ σ H G R
  unfold anyI
  revert k1 k2 k3 k4
  cases f Γ with
  | fail => exact fun _ _ _ _ => trivial
  | exc c ns fs Γ' => exact fun k _ _ _ => OutI.or (T1 := t1 σ H) (T2 := t1 σ H) (.inl k) (fun Q q => .inl (.inl q)) fun Q q => .inl (.inl q)
  | ok ev Γ' =>
    intro k1 k2 k3 k4
    show OutI X.K W F σ G _ (itA ev Γ')
    unfold itA
    split
    · exact OutI.or (T1 := t2 σ H) (T2 := t2 σ H) (.inl k2) (fun Q q => .inl (.inr q)) fun Q q => .inl (.inr q)
    · exact OutI.or (T1 := t3 σ H) (T2 := t3 σ H) (.inl k3) (fun Q q => .inr (.inl q)) fun Q q => .inr (.inl q)
    · exact OutI.or (T1 := t4 σ H) (T2 := t4 σ H) (.inl k4) (fun Q q => .inr (.inr q)) fun Q q => .inr (.inr q)
    · exact OutI.or (T1 := t1 σ H) (T2 := t1 σ H) (.inl k1) (fun Q q => .inl (.inl q)) fun Q q => .inl (.inl q)
def rng1 (u : AF) : IF := fun Γ => (u Γ).bind itR1
def rng2 (u : AF) : IF := fun Γ => (u Γ).bind itR2
theorem fi_rng1 {u : AF} (hm : X.mg "range" = none) (h : FA X W [a] u) (hg : Gl X "range" := by rfl) (hs : starEach [a] X.env = [(false, eval a X.env)] := by rfl) : FI X W tg (.Call (.Name "range" p) [a] [] pos) (rng1 u) := fi_range1 hm h hg hs
theorem fi_rng2 {u : AF} (hm : X.mg "range" = none) (h : FA X W [a, b] u) (hg : Gl X "range" := by rfl) (hs : starEach [a, b] X.env = [(false, eval a X.env), (false, eval b X.env)] := by rfl) (hs2 : starEach [b] X.env = [(false, eval b X.env)] := by rfl) : FI X W tg (.Call (.Name "range" p) [a, b] [] pos) (rng2 u) := fi_range2 hm h hg hs hs2
theorem pg_or {g1 g2 : TG} (h1 : PG X tg g1) (h2 : PG X tg g2) : PG X tg (fun v σ H Q => g1 v σ H Q ∨ g2 v σ H Q) := by
  constructor
  intros
  rename_i q
  rcases q with q | q
  · apply h1.run <;> assumption
  · apply h2.run <;> assumption
def bSeq (n : Nat) (bs : List D → En → Option En) : BF
  | .tup ds, Γ => if ds.length = n then bs ds Γ else none
  | .lst ds, Γ => if ds.length = n then bs ds Γ else none
  | _, _ => none
theorem fg_seq {tgs : List Expr} {k : Nat} {bs : List D → En → Option En} {n : Nat} {sl : List Nat} (hc : X.calm = true) (h : FGs X tgs bs sl) (hn : (assignEach tgs X.env).length = n := by rfl) (hst : (assignEach tgs X.env).findIdx? (·.1) = none := by rfl) : FG X (.Tuple tgs k pos) (bSeq n bs) sl := by
  obtain ⟨g1, p1, m1⟩ := fg_tup (k := k) (pos := pos) hc h hn hst
  obtain ⟨g2, p2, m2⟩ := fg_unl (k := k) (pos := pos) hc h hn hst
  refine ⟨_, pg_or p1 p2, fun F Γ σ H G d v Γ' R r e Q q => ?_⟩
  unfold bSeq at e
  split at e
  · exact .inl (m1 F Γ σ H G _ v Γ' R r e Q q)
  · exact .inr (m2 F Γ σ H G _ v Γ' R r e Q q)
  · cases e
def addV2 (e1 e2 : EV) (Γ : En) : O VV := match e1.look Γ, e2.look Γ with
  | some (.lst xs), some (.lst ys) => if xs.length + ys.length ≤ sizeLine then .ok (.n (.l (xs ++ ys))) Γ else .fail
  | some d1, some d2 => (match addD d1 d2 with | some x => .ok (.e (.d x)) Γ | none => .fail)
  | _, _ => .fail
def addV (f1 f2 : EF) : VF := fun Γ => (f1 Γ).bind fun e1 Γ1 => (f2 Γ1).bind (addV2 e1)
theorem fv_add (ha : FE X W a f1) (hb : FE X W b f2) : FV X W (.BinOp a .Add b pos) (addV f1 f2) := by
  obtain ⟨u1, p1, s1⟩ := ha
  obtain ⟨u2, p2, s2⟩ := hb
  refine ⟨_, pe_op op_addA p1 p2, fun F Γ σ H G R => ?_⟩
  refine OutV.bind (T' := fun x H1 Q => u2 σ H1 fun y H2 => rAddA X.K x y H2 Q) (s1 F Γ σ H G R) fun ev Γ1 v H1 G1 R1 _ r1 => ?_
  refine OutV.bind (T' := fun y H2 Q => rAddA X.K v y H2 Q) (s2 F Γ1 σ H1 G1 R1) fun ev2 Γ2 v2 H2 G2 R2 le2 r2 => ?_
  unfold addV2
  split
  · rename_i xs ys e1 e2
    split
    · rename_i hz
      intro Q q
      obtain ⟨l1, vs1, rfl, h1, q1⟩ := (R2.look (vrel_mono _ _ _ _ _ _ le2 r1) e1).lst R2.gh
      obtain ⟨l2, vs2, rfl, h2, q2⟩ := (R2.look r2 e2).lst R2.gh
      refine .inr (.inr (.inl ⟨l1, l2, vs1, vs2, rfl, rfl, h1, h2, by rw [q1.len, q2.len]; exact hz, fun p hp => ?_⟩))
      obtain ⟨R3, n⟩ := R2.newN (o := .l (xs ++ ys)) hp ⟨_, rfl, q1.append q2⟩
      exact q _ _ _ R3 (Le.refl _) n
    · trivial
  · rename_i d1 d2 _ e1 e2
    split
    · rename_i x e3
      exact fun Q q => add_ok F Γ2 σ H2 G2 d1 d2 v v2 x Q R2 (R2.look (vrel_mono _ _ _ _ _ _ le2 r1) e1) (R2.look r2 e2) e3 fun v H' G' R' le r => q v H' G' R' le r
    · trivial
  · trivial
theorem ft_lt (ha : FE X W a f1) (hb : FE X W b f2) : FT X W (.Compare a [.Lt] [b] pos) (tstE (op2 ltD f1 f2)) := ft_cmp op_lt (int0_ok fun _ _ _ => rfl) ha hb (nomark _)
theorem ft_le (ha : FE X W a f1) (hb : FE X W b f2) : FT X W (.Compare a [.LtE] [b] pos) (tstE (op2 leD f1 f2)) := ft_cmp op_le (int0_ok fun _ _ _ => rfl) ha hb (nomark _)
theorem ft_gt (ha : FE X W a f1) (hb : FE X W b f2) : FT X W (.Compare a [.Gt] [b] pos) (tstE (op2 gtD f1 f2)) := ft_cmp op_gt (int0_ok fun _ _ _ => rfl) ha hb (nomark _)
theorem ft_ge (ha : FE X W a f1) (hb : FE X W b f2) : FT X W (.Compare a [.GtE] [b] pos) (tstE (op2 geD f1 f2)) := ft_cmp op_ge (int0_ok fun _ _ _ => rfl) ha hb (nomark _)
theorem ft_eq (hu : X.A.units + 64 < cLine) (ha : FE X W a f1) (hb : FE X W b f2) : FT X W (.Compare a [.Eq] [b] pos) (tstE (op2 eqD f1 f2)) := ft_cmp (op_eqA hu) eq_ok ha hb (nomark _)
theorem ft_ne (hu : X.A.units + 64 < cLine) (ha : FE X W a f1) (hb : FE X W b f2) : FT X W (.Compare a [.NotEq] [b] pos) (tstE (op2 neD f1 f2)) := ft_cmp (op_neA hu) ne_ok ha hb (nomark _)
theorem isN_ok : Op2 X (fun x y H Q => y = .non ∧ Q (.bl (decide (x = .non))) H) isND := by
  intro F Γ σ H G d1 d2 v1 v2 x Q R r1 r2 e q
  unfold isND at e
  split at e
  · rename_i h
    cases e
    refine ⟨?_, ?_⟩
    · have := (r2.rep R.gh).isNon
      rw [h] at this
      exact of_decide_eq_true this
    · rw [(r1.rep R.gh).isNon]
      exact q _ _ _ R (Le.refl G) rfl
  · cases e
theorem notN_ok : Op2 X (fun x y H Q => y = .non ∧ Q (.bl (!decide (x = .non))) H) notND := by
  intro F Γ σ H G d1 d2 v1 v2 x Q R r1 r2 e q
  unfold notND at e
  split at e
  · rename_i h
    cases e
    refine ⟨?_, ?_⟩
    · have := (r2.rep R.gh).isNon
      rw [h] at this
      exact of_decide_eq_true this
    · rw [(r1.rep R.gh).isNon]
      exact q _ _ _ R (Le.refl G) rfl
  · cases e
theorem ft_isN {j p} (ha : FE X W a f1) : FT X W (.Compare a [.Is] [.Constant .none j p] pos) (tstE (op2 isND f1 (cE .non))) := ft_cmp op_isN isN_ok ha fe_non (nomark _)
theorem ft_notN {j p} (ha : FE X W a f1) : FT X W (.Compare a [.IsNot] [.Constant .none j p] pos) (tstE (op2 notND f1 (cE .non))) := ft_cmp op_notN notN_ok ha fe_non (nomark _)
theorem ft_in (hu : X.A.units + 65 < cLine) (ha : FE X W a f1) (hb : FE X W b f2) (hm : behindInMarks .In b = false := by rfl) : FT X W (.Compare a [.In] [b] pos) (tstE (op2 inD f1 f2)) := by
  refine ft_cmp (op_inX hu) (fun F Γ σ H G d1 d2 v1 v2 x Q R r1 r2 e q => ?_) ha hb hm
  obtain ⟨k, e', rfl⟩ := Option.map_eq_some_iff.mp (show (inB d1 d2).map D.bl = some x from e)
  exact inB_ok R r1 r2 e' (fun k => Q (.bl k) H) (q _ _ _ R (Le.refl G) rfl)
theorem ft_nin (hu : X.A.units + 65 < cLine) (ha : FE X W a f1) (hb : FE X W b f2) (hm : behindInMarks .NotIn b = false := by rfl) : FT X W (.Compare a [.NotIn] [b] pos) (tstE (op2 ninD f1 f2)) := by
  refine ft_cmp (op_ninX hu) (fun F Γ σ H G d1 d2 v1 v2 x Q R r1 r2 e q => ?_) ha hb hm
  obtain ⟨k, e', rfl⟩ := Option.map_eq_some_iff.mp (show (inB d1 d2).map (fun b => D.bl !b) = some x from e)
  rcases inB_ok R r1 r2 e' (fun k => Q (.bl (!k)) H) (q _ _ _ R (Le.refl G) rfl) with h | h | h
  · exact .inl h
  · exact .inr (.inl h)
  · exact .inr (.inr h)
def fdOf (K : Frg) (f : Addr) : FuncData := match K.lookup f with
  | some ⟨_, _, .func fd, _⟩ => fd
  | _ => default
theorem fdOf_eq {K : Frg} {x qual : Str} {params : Arguments} {body : List Stmt} {scope : Scope} {dvs : List V} {kws : List (Str × V)} {f : Addr} {fd : FuncData} (F : FunD K x qual params body scope dvs kws f fd) : fd = fdOf K f := by
  obtain ⟨oc, od, dV, kV, doc, pm, an, cdv, ct, osl, rfl, lk, _⟩ := F.ex
  unfold fdOf
  rw [lk]
structure Tx (fa : List He.Fa) (fn : List He.DefD) (ex : Frg → Bool) (K : Frg) (mg : Str → Option Value) : Prop where
  hh : ∃ h : Heap, K.In h ∧ h.Ns mainGlobals mg
  c : He.SaysD fa fn K
  e : ex K = true
section
variable {fas : List He.Fa} {fn : List He.DefD} {ex : Frg → Bool} {K : Frg} {mg : Str → Option Value}
theorem Tx.free (T : Tx fas fn ex K mg) (i : Nat) {x : Str} (h : fas[i]? = some (.free x)) : mg x = none := by
  obtain ⟨_, X, G⟩ := T.hh
  exact He.free_ok X G (T.c.fact i h)
theorem Tx.glo (T : Tx fas fn ex K mg) (i : Nat) {x : Str} (h : fas[i]? = some (.glo x)) : mg x = some (.ref (He.ga K x)) := by
  obtain ⟨_, X, G⟩ := T.hh
  exact He.glo_ok X G (T.c.fact i h)
theorem Tx.fund (T : Tx fas fn ex K mg) (i : Nat) {d : He.DefD} (h : fn[i]? = some d) : FunD K d.name d.qual d.params d.body d.scope (d.dvs K) (d.kws K) (He.fAd K d.at_) (fdOf K (He.fAd K d.at_)) := by
  obtain ⟨fd, F⟩ := T.c.def_ i h
  rw [← fdOf_eq F]
  exact F
theorem Tx.con (T : Tx fas fn ex K mg) {x : Str} {d : D} (h : cstB K x d = true) : ∃ (v : V) (u : Value), mg x = some u ∧ RelV v u ∧ ∀ G, Rep K G d v := by
  obtain ⟨_, X, G⟩ := T.hh
  exact cstB_ok X G h
end
theorem Room.u65 {k : Nat} {A : Around} (r : Room k A) : A.units + 65 < cLine := by have := r.un; omega
end FL

/-! part F15 -/
set_option Elab.async false
set_option linter.all false
set_option maxRecDepth 100000
set_option maxHeartbeats 4000000
namespace FL
open PySem PySem.Spec PyProof.Rows L2
variable {X : Cx} {W : WX} {e a b c o tg iter : Expr} {f g f1 f2 f3 fo fa : EF} {pos apos kpos p : Pos} {es : List Expr}
def finU (ev : EV) (Γ : En) : O EV := match ev with
  | .d (.int i) => .ok (.d (.int (-i))) Γ
  | _ => .fail
def negE (f : EF) : EF := fun Γ => (f Γ).bind finU
theorem fe_neg (ha : FE X W a f) : FE X W (.UnaryOp .USub a pos) (negE f) := by
  obtain ⟨t, p, s⟩ := ha
  refine ⟨_, pe_un un_neg p, Sem.bind (T := fun x σ H Q => rU (fun i => .int (-i)) x H Q) s fun F Γ σ H G ev v R r => ?_⟩
  unfold finU
  split
  · exact fun Q q => ⟨_, r, q _ H G R (Le.refl G) rfl⟩
  · trivial
theorem fg_sub1 {i : Nat} {x : Str} {p : Pos} {k : Int} {j pj} (hN : X.N[i]? = some x) (hv : Vis X.env.scope x) (hd : (x == ("__debug__" : Str)) = false := by decide) (hcd : (x == ("__classdict__" : Str)) = false := by decide) :
    FG X (.Subscript (.Name x p) (.Constant (.int k) j pj) pos) (bSub i k) [] := fg_sub hN hv (fun _ _ a b => pg_sub a b set_list) hd hcd
theorem lt0 : Op2 X (rI0 fun i j => .bl (decide (i < j))) ltD := int0_ok fun _ _ _ => rfl
theorem le0 : Op2 X (rI0 fun i j => .bl (decide (i ≤ j))) leD := int0_ok fun _ _ _ => rfl
/-- a comprehension's names, by a test -/
def blkB (N : List Str) (sc scope : Scope) (own : List (Str × Nat)) : Bool :=
  (match scope.kind with | .function => true | _ => false) && (scope.names.all fun y => scope.names.lookup y.1 == some y.2) && (own.all fun p => N[p.2]? == some p.1) &&
  (scope.names.all fun y => !(y.2 == .free) || (sc.names.lookup y.1 == some .cell || sc.names.lookup y.1 == some .free)) &&
  (scope.names.all fun y => !(y.2 == .local || y.2 == .cell) || (own.any fun p => p.1 == y.1) || !(N.any fun n => n == y.1))
theorem blk_of {N : List Str} {sc scope : Scope} {own : List (Str × Nat)} (h : blkB N sc scope own = true) : BlkOk N sc scope own := by
  unfold blkB at h
  simp only [Bool.and_eq_true, List.all_eq_true, beq_iff_eq] at h
  obtain ⟨⟨⟨⟨h1, h2⟩, h3⟩, h4⟩, h5⟩ := h
  refine ⟨?_, h2, h3, fun y hy e => ?_, fun y hy e => ?_⟩
  · split at h1
    · assumption
    · cases h1
  · have := h4 y hy
    rw [e] at this
    simpa using this
  · have := h5 y hy
    rcases e with e | e
    all_goals
      rw [e] at this
      simp only [Bool.or_eq_true, List.any_eq_true, beq_iff_eq, Bool.not_eq_true', List.any_eq_false] at this
      rcases this with (h | ⟨p, hp, e⟩) | h
      · simp at h
      · exact .inl (List.mem_map.mpr ⟨p, hp, e⟩)
      · exact .inr fun z => (by simpa using h _ z)
end FL

/-! part F16 -/
set_option Elab.async false
set_option linter.all false
set_option maxRecDepth 100000
set_option maxHeartbeats 4000000
namespace FL
open PySem PySem.Spec PyProof.Rows L2
def Sl.isB : Sl → Bool
  | .bor _ => true
  | _ => false
def seqK (s2 : SF) (r : O Fl) : O Fl := match r with
  | .ok .nx Γ1 => s2 Γ1
  | r => r
def ifK (s1 s2 : SF) (k : Bool) : SF := fun Γ => if k then s1 Γ else s2 Γ
def andK (t : TF) (k : Bool) : TF := fun Γ => if k then t Γ else .ok false Γ
def orK (t : TF) (k : Bool) : TF := fun Γ => if k then .ok true Γ else t Γ
def ifEK (f1 f2 : EF) (k : Bool) : EF := fun Γ => if k then f1 Γ else f2 Γ
def andEK (f : EF) (k : Bool) : EF := fun Γ => if k then f Γ else .ok (.d (.bl false)) Γ
def orEK (f : EF) (k : Bool) : EF := fun Γ => if k then .ok (.d (.bl true)) Γ else f Γ
def rtK (r : Option (D × En)) : O Fl := match r with
  | some (x, Γ') => .ok (.rt x) Γ'
  | none => .fail
def stK (i : Nat) (r : Option (D × En)) : O Fl := match r with
  | some (d, Γ') => if isBor Γ' i = false then .ok .nx (Γ'.set i (.im d)) else .fail
  | none => .fail
def nxK (r : Option En) : O Fl := match r with
  | some Γ => .ok .nx Γ
  | none => .fail
def sbK (bf : BF) (r : Option (D × En)) : O Fl := match r with
  | some (d, Γ1) => nxK (bf d Γ1)
  | none => .fail
def apL (i : Nat) (d : D) (Γ : En) (r : Option OD) : O Fl := match r with
  | some (.l xs) => if xs.length < sizeLine then .ok .nx (putOwn Γ i (.l (xs ++ [d]))) else .fail
  | _ => .fail
def apK (i : Nat) (r : Option (D × En)) : O Fl := match r with
  | some (d, Γ1) => apL i d Γ1 (ownD Γ1 i)
  | none => .fail
def oK (Γ : En) (r : Option D) : O EV := match r with
  | some x => .ok (.d x) Γ
  | none => .fail
def bK (Γ : En) (r : Option Bool) : O EV := match r with
  | some x => .ok (.d (.bl x)) Γ
  | none => .fail
def veK (r : O EV) : O VV := match r with
  | .ok ev Γ' => .ok (.e ev) Γ'
  | .exc c ns fs Γ' => .exc c ns fs Γ'
  | .fail => .fail
def teK (r : O VV) : O EV := match r with
  | .ok (.e ev) Γ' => .ok ev Γ'
  | .ok (.n o) Γ' => .ok (.d o.d) Γ'
  | .exc c ns fs Γ' => .exc c ns fs Γ'
  | .fail => .fail
def caK (Γ1 : En) (l : Option Nat) (r : Ro) : O VV := match r with
  | .ok d out => .ok (.e (.d d)) (putL l out Γ1)
  | .nw o out => .ok (.n o) (putL l out Γ1)
  | .exc c ns fs out => .exc c ns fs (putL l out Γ1)
  | .fail => .fail
def prK (Fn : DFn) (dd : List D) (r : Option (List D × En × Option Nat)) : O VV := match r with
  | none => .fail
  | some (ds, Γ1, l) => caK Γ1 l (Fn (ds ++ dd))
def cnK (Γ : En) (r : Ro) : O VV := match r with
  | .ok d _ => .ok (.e (.d d)) Γ
  | .nw o' _ => .ok (.n o') Γ
  | .exc c ns fs _ => .exc c ns fs Γ
  | .fail => .fail
def fiK (b : Option Nat) (r : O Fl) : Ro := match r with
  | .ok .nx Γ' => .ok .non (outOf b Γ')
  | .ok (.rt d) Γ' => .ok d (outOf b Γ')
  | .ok (.rn o) Γ' => .nw o (outOf b Γ')
  | .ok .br _ => .fail
  | .ok .ct _ => .fail
  | .exc c ns fs Γ' => .exc c ns fs (outOf b Γ')
  | .fail => .fail
def ruK (b : Option Nat) (s : SF) (r : Option En) : Ro := match r with
  | none => .fail
  | some Γ => fiK b (s Γ)
namespace Ev
variable {f f1 f2 f3 : EF} {t t1 t2 : TF} {s s1 s2 : SF} {Γ : En} {vf : VF} {r u uk : AF} {bf : BF}
theorem seqS : FL.seqS s1 s2 Γ = seqK s2 (s1 Γ) := rfl
theorem seqK0 : seqK s2 (.ok .nx Γ) = s2 Γ := rfl
theorem seqK1 {d} : seqK s2 (.ok (.rt d) Γ) = .ok (.rt d) Γ := rfl
theorem seqK2 {d} : seqK s2 (.ok (.rn d) Γ) = .ok (.rn d) Γ := rfl
theorem seqK3 : seqK s2 (.ok .br Γ) = .ok .br Γ := rfl
theorem seqK4 : seqK s2 (.ok .ct Γ) = .ok .ct Γ := rfl
theorem seqK5 {c ns fs} : seqK s2 (.exc c ns fs Γ) = .exc c ns fs Γ := rfl
theorem seqK6 : seqK s2 .fail = .fail := rfl
theorem nxS : nxS Γ = .ok .nx Γ := rfl
theorem brS : brS Γ = .ok .br Γ := rfl
theorem ctS : ctS Γ = .ok .ct Γ := rfl
theorem badS : badS Γ = .fail := rfl
theorem retN : retN Γ = .ok (.rt .non) Γ := rfl
theorem retS : retS f Γ = (f Γ).bind finR := rfl
theorem retV : retV vf Γ = (vf Γ).bind finRV := rfl
theorem finRVe {ev} : finRV (.e ev) Γ = FL.finR ev Γ := rfl
theorem finRVn {o} : finRV (.n o) Γ = .ok (.rn o) Γ := rfl
theorem finR {ev} : FL.finR ev Γ = rtK (frz1 ev Γ) := by unfold FL.finR rtK; rcases frz1 ev Γ with _ | ⟨x, Γ'⟩ <;> rfl
theorem rtK1 {x} : rtK (some (x, Γ)) = .ok (.rt x) Γ := rfl
theorem givV : givV f Γ = (f Γ).bind giv := rfl
theorem givd {x} : giv (.d x) Γ = .ok (.e (.d x)) Γ := rfl
theorem givo {i} : giv (.own i) Γ = (match Γ[i]? with | some (.acc o) => .ok (.n o) (Γ.set i .no) | _ => .ok (.e (.own i)) Γ) := rfl
theorem exprS : exprS f Γ = (f Γ).bind fun _ Γ1 => .ok .nx Γ1 := rfl
theorem ifS : FL.ifS t s1 s2 Γ = (t Γ).bind (ifK s1 s2) := rfl
theorem ifK1 : ifK s1 s2 true Γ = s1 Γ := rfl
theorem ifK0 : ifK s1 s2 false Γ = s2 Γ := rfl
theorem asgV {i} : asgV i vf Γ = (vf Γ).bind (stoV i) := rfl
theorem stoVe {i ev} : stoV i (.e ev) Γ = stK i (frz1 ev Γ) := by unfold FL.stoV stK; show (match frz1 ev Γ with | some (d, Γ') => (if FL.isBor Γ' i = false then (O.ok Fl.nx (Γ'.set i (.im d)) : O Fl) else O.fail) | none => O.fail) = _; rcases frz1 ev Γ with _ | ⟨x, Γ'⟩ <;> rfl
theorem stK1 {i d} : stK i (some (d, Γ)) = if FL.isBor Γ i = false then .ok .nx (Γ.set i (.im d)) else .fail := rfl
theorem stoVn {i o} : stoV i (.n o) Γ = if isBor Γ i = false then .ok .nx (Γ.set i (.acc o)) else .fail := rfl
theorem asgB : asgB bf f Γ = (f Γ).bind (stoB bf) := rfl
theorem stoB {ev} : FL.stoB bf ev Γ = sbK bf (frz1 ev Γ) := by unfold FL.stoB sbK; rcases frz1 ev Γ with _ | ⟨x, Γ'⟩ <;> rfl
theorem sbK1 {d} : sbK bf (some (d, Γ)) = nxK (bf d Γ) := rfl
theorem nxK1 : nxK (some Γ) = .ok .nx Γ := rfl
theorem bName {i d} : bName i d Γ = if isBor Γ i = false then some (Γ.set i (.im d)) else none := rfl
theorem bSub {i k d} : bSub i k d Γ = finSet i d k Γ := rfl
theorem bNil : bNil [] Γ = some Γ := rfl
theorem bCons {b r d ds} : bCons b r (d :: ds) Γ = (b d Γ).bind fun Γ1 => r ds Γ1 := rfl
theorem bSeqT {n bs ds} : bSeq n bs (.tup ds) Γ = if ds.length = n then bs ds Γ else none := rfl
theorem bSeqL {n bs ds} : bSeq n bs (.lst ds) Γ = if ds.length = n then bs ds Γ else none := rfl
theorem finSet {i d k} : finSet i d k Γ = (match ownD Γ i with | some (.l xs) => (ixN xs.length k).map fun j => putOwn Γ i (.l (xs.set j d)) | _ => none) := rfl
theorem ownD {i} : ownD Γ i = (match Γ[i]? with | some (.acc o) => some o | some (.bor o) => some o | _ => none) := rfl
theorem putOwn {i o} : putOwn Γ i o = (match Γ[i]? with | some (.acc _) => Γ.set i (.acc o) | some (.bor _) => Γ.set i (.bor o) | _ => Γ) := rfl
theorem isBor {i} : isBor Γ i = (match Γ[i]? with | some (.bor _) => true | _ => false) := rfl
theorem appS {i} : appS i f Γ = if isOwnL Γ i then (f Γ).bind (finApp i) else .fail := rfl
theorem isOwnL {i} : isOwnL Γ i = (match FL.ownD Γ i with | some (.l _) => true | _ => false) := rfl
theorem finApp {i ev} : FL.finApp i ev Γ = apK i (frz1 ev Γ) := by unfold FL.finApp apK; rcases frz1 ev Γ with _ | ⟨x, Γ'⟩ <;> rfl
theorem apK1 {i d} : apK i (some (d, Γ)) = apL i d Γ (FL.ownD Γ i) := rfl
theorem apL1 {i d xs} : apL i d Γ (some (.l xs)) = if xs.length < sizeLine then .ok .nx (FL.putOwn Γ i (.l (xs ++ [d]))) else .fail := rfl
theorem cE {x} : cE x Γ = .ok (.d x) Γ := rfl
theorem vE {i} : vE i Γ = (match Γ[i]? with | some (.im x) => .ok (.d x) Γ | some (.acc _) => .ok (.own i) Γ | some (.bor _) => .ok (.own i) Γ | _ => .fail) := rfl
theorem lookd {x} : EV.look Γ (.d x) = some x := rfl
theorem looko {i} : EV.look Γ (.own i) = (FL.ownD Γ i).map OD.d := rfl
theorem odl {xs} : OD.d (.l xs) = .lst xs := rfl
theorem op2 {g} : op2 g f1 f2 Γ = (f1 Γ).bind fun e1 Γ1 => (f2 Γ1).bind fun e2 Γ2 => fin2 g e1 e2 Γ2 := rfl
theorem fin2 {g e1 e2} : FL.fin2 g e1 e2 Γ = oK Γ ((e1.look Γ).bind fun a => (e2.look Γ).bind (g a)) := by
  unfold FL.fin2 oK
  cases e1.look Γ with
  | none => rfl
  | some a => cases e2.look Γ <;> rfl
theorem oK1 {x} : oK Γ (some x) = .ok (.d x) Γ := rfl
theorem oK0 : oK Γ none = .fail := rfl
theorem addV : addV f1 f2 Γ = (f1 Γ).bind fun e1 Γ1 => (f2 Γ1).bind (addV2 e1) := rfl
theorem opN {g} : opN g r Γ = (r Γ).bind (finN g) := rfl
theorem finN {g es} : FL.finN g es Γ = oK Γ ((looks Γ es).bind g) := by unfold FL.finN oK; cases looks Γ es <;> rfl
theorem looks0 : looks Γ [] = some [] := rfl
theorem looks1 {e es} : looks Γ (e :: es) = (e.look Γ).bind fun x => (looks Γ es).bind fun xs => some (x :: xs) := rfl
theorem one {g x} : one g [x] = g x := rfl
theorem two {g x y} : two g [x, y] = g x y := rfl
theorem aNil : aNil Γ = .ok [] Γ := rfl
theorem aCons : aCons f r Γ = (f Γ).bind fun e Γ1 => (r Γ1).bind fun es Γ2 => .ok (e :: es) Γ2 := rfl
theorem frzd {x} : frz1 (.d x) Γ = some (x, Γ) := rfl
theorem frzo {i} : frz1 (.own i) Γ = (match Γ[i]? with | some (.acc o) => some (o.d, Γ.set i (.im o.d)) | _ => none) := rfl
theorem frzs0 : frzs [] Γ = some ([], Γ) := rfl
theorem frzs1 {e es} : frzs (e :: es) Γ = (frz1 e Γ).bind fun p => (frzs es p.2).bind fun q => some (p.1 :: q.1, q.2) := rfl
theorem frzsD : ∀ {ds : List D}, frzs (ds.map EV.d) Γ = some (ds, Γ)
  | [] => rfl
  | d :: ds => by
    show (frzs (ds.map EV.d) Γ).bind _ = _
    rw [frzsD]; rfl
theorem tstE : tstE f Γ = (f Γ).bind asB := rfl
theorem asB {k} : asB (.d (.bl k)) Γ = .ok k Γ := rfl
theorem andT : FL.andT t1 t2 Γ = (t1 Γ).bind (andK t2) := rfl
theorem andK1 : andK t2 true Γ = t2 Γ := rfl
theorem andK0 : andK t2 false Γ = .ok false Γ := rfl
theorem orT : FL.orT t1 t2 Γ = (t1 Γ).bind (orK t2) := rfl
theorem orK1 : orK t2 true Γ = .ok true Γ := rfl
theorem orK0 : orK t2 false Γ = t2 Γ := rfl
theorem notT : notT t Γ = (t Γ).bind fun k Γ1 => .ok (!k) Γ1 := rfl
theorem ifE : FL.ifE t f1 f2 Γ = (t Γ).bind (ifEK f1 f2) := rfl
theorem ifEK1 : ifEK f1 f2 true Γ = f1 Γ := rfl
theorem ifEK0 : ifEK f1 f2 false Γ = f2 Γ := rfl
theorem vE' : FL.vE' f Γ = veK (f Γ) := rfl
theorem veK1 {ev} : veK (.ok ev Γ) = .ok (.e ev) Γ := rfl
theorem veK2 {c ns fs} : veK (.exc c ns fs Γ) = .exc c ns fs Γ := rfl
theorem telV : FL.telV vf Γ = teK (vf Γ) := rfl
theorem teK1 {ev} : teK (.ok (.e ev) Γ) = .ok ev Γ := rfl
theorem teK2 {o} : teK (.ok (.n o) Γ) = .ok (.d o.d) Γ := rfl
theorem teK3 {c ns fs} : teK (.exc c ns fs Γ) = .exc c ns fs Γ := rfl
theorem bindO {α β : Type} {a : α} {k : α → En → O β} : (O.ok a Γ).bind k = k a Γ := rfl
theorem bindX {α β : Type} {c ns fs} {k : α → En → O β} : (O.exc c ns fs Γ : O α).bind k = .exc c ns fs Γ := rfl
theorem bindF {α β : Type} {k : α → En → O β} : (O.fail : O α).bind k = .fail := rfl
theorem tupE : tupE r Γ = (r Γ).bind (finT .tup) := rfl
theorem lstE : lstE r Γ = (r Γ).bind (finT .lst) := rfl
theorem finT {mk es} : finT mk es Γ = (match frzs es Γ with | some (xs, Γ') => if xs.length ≤ sizeLine then .ok (.d (mk xs)) Γ' else .fail | none => .fail) := rfl
theorem lstN : lstN r Γ = (r Γ).bind finL := rfl
theorem finL {es} : finL es Γ = (match frzs es Γ with | some (xs, Γ') => if xs.length ≤ sizeLine then .ok (.n (.l xs)) Γ' else .fail | none => .fail) := rfl
theorem slE {l h : OF} : slE f l h Γ = (f Γ).bind fun ev Γ1 => (l Γ1).bind fun lo Γ2 => (h Γ2).bind fun hi Γ3 => fin3 ev lo hi Γ3 := rfl
theorem fin3 {ev lo hi} : FL.fin3 ev lo hi Γ = oK Γ ((ev.look Γ).bind (cutD lo hi)) := rfl
theorem oNo : oNo Γ = .ok none Γ := rfl
theorem oSome : oSome f Γ = (f Γ).bind asI := rfl
theorem asI {i} : asI (.d (.int i)) Γ = .ok (some i) Γ := rfl
theorem isiE {g} : isiE g f Γ = (f Γ).bind (finI g) := rfl
theorem finI {g ev} : FL.finI g ev Γ = bK Γ ((ev.look Γ).bind g) := rfl
theorem bK1 {k} : bK Γ (some k) = .ok (.d (.bl k)) Γ := rfl
theorem callV {b n Fn dd} : callV b n Fn dd u Γ = (u Γ).bind fun es Γ1 => if es.length = n then finCall b Fn dd es Γ1 else .fail := rfl
theorem finCall {b Fn dd es} : FL.finCall b Fn dd es Γ = prK Fn dd (prep b es Γ) := by
  unfold FL.finCall prK
  rcases prep b es Γ with _ | ⟨ds, Γ1, l⟩
  · rfl
  · show _ = caK Γ1 l (Fn (ds ++ dd))
    unfold caK
    try dsimp only
    try (cases Fn (ds ++ dd) <;> rfl)
theorem prK1 {Fn dd ds l} : prK Fn dd (some (ds, Γ, l)) = caK Γ l (Fn (ds ++ dd)) := rfl
theorem caK1 {l d out} : caK Γ l (.ok d out) = .ok (.e (.d d)) (putL l out Γ) := rfl
theorem caK2 {l d out} : caK Γ l (.nw d out) = .ok (.n d) (putL l out Γ) := rfl
theorem caK3 {l c ns fs out} : caK Γ l (.exc c ns fs out) = .exc c ns fs (putL l out Γ) := rfl
theorem callK {b n m np pm Fn dd} : callK b n m np pm Fn dd u uk Γ = (u Γ).bind fun es Γ1 => (uk Γ1).bind fun zs Γ2 =>
  if es.length = n ∧ zs.length = m ∧ (pick pm (es ++ (zs ++ dd.map EV.d))).length = np then FL.finCall b Fn [] (pick pm (es ++ (zs ++ dd.map EV.d))) Γ2 else .fail := rfl
theorem prep0 {es} : prep none es Γ = (frzs es Γ).map fun p => (p.1, p.2, none) := rfl
theorem prep1 {i es} : prep (some i) es Γ = (match es[i]? with
    | some (.own j) => (frzs (es.set i (.d .non)) Γ).bind fun p => (FL.ownD p.2 j).map fun o => (p.1.set i o.d, p.2, some j)
    | _ => none) := rfl
theorem putL0 {out} : putL none out Γ = Γ := rfl
theorem putL1 {j o} : putL (some j) (some o) Γ = FL.putOwn Γ j o := rfl
theorem runF {b n s ds} : FL.runF b n s ds = ruK b s (startG b n ds) := by
  unfold FL.runF ruK
  cases startG b n ds <;> rfl
theorem ruK1 {b s} : ruK b s (some Γ) = fiK b (s Γ) := rfl
theorem fiK1 {b} : fiK b (.ok .nx Γ) = .ok .non (outOf b Γ) := rfl
theorem fiK2 {b d} : fiK b (.ok (.rt d) Γ) = .ok d (outOf b Γ) := rfl
theorem fiK3 {b d} : fiK b (.ok (.rn d) Γ) = .nw d (outOf b Γ) := rfl
theorem fiK4 {b c ns fs} : fiK b (.exc c ns fs Γ) = .exc c ns fs (outOf b Γ) := rfl
theorem startG0 {n ds} : startG none n ds = some (ds.map Sl.im ++ List.replicate (n - ds.length) Sl.no) := rfl
theorem startG1 {i n ds} : startG (some i) n ds = (ds[i]?.bind D.od).map fun o => (ds.map Sl.im ++ List.replicate (n - ds.length) Sl.no).set i (.bor o) := rfl
theorem odlst {xs} : D.od (.lst xs) = some (.l xs) := rfl
theorem out0 : outOf none Γ = none := rfl
theorem out1 {i} : outOf (some i) Γ = FL.ownD Γ i := rfl
theorem forS {it body} : forS it bf body Γ = (it Γ).bind (loopS bf body) := rfl
theorem parS {is} {vf : VAF} : parS is vf Γ = (vf Γ).bind (stoP is) := rfl
theorem vNil : vNil Γ = .ok [] Γ := rfl
theorem vCons {r : VAF} : vCons vf r Γ = (vf Γ).bind fun x Γ1 => (r Γ1).bind fun xs Γ2 => .ok (x :: xs) Γ2 := rfl
theorem anyI : anyI f Γ = (f Γ).bind itA := rfl
theorem getL {xs : List D} {i : Int} : FL.getD (.lst xs) (.int i) = L2.atI xs i := rfl
theorem getT {xs : List D} {i : Int} : FL.getD (.tup xs) (.int i) = L2.atI xs i := rfl
theorem getC {xs : List Int} {i : Int} : FL.getD (.scr xs) (.int i) = (L2.atI xs i).map D.int := rfl
theorem atI {α : Type} {xs : List α} {k : Nat} : L2.atI xs (k : Int) = xs[k]? := by
  unfold L2.atI L2.ixN
  rw [if_pos (Int.natCast_nonneg k)]
  by_cases h : k < xs.length
  · rw [if_pos (by omega)]; simp
  · rw [if_neg (by omega), List.getElem?_eq_none (by omega)]; rfl
theorem atI0 {α : Type} {xs : List α} : L2.atI xs 0 = xs[0]? := atI (k := 0)
theorem atI1 {α : Type} {xs : List α} : L2.atI xs 1 = xs[1]? := atI (k := 1)
theorem atI2 {α : Type} {xs : List α} : L2.atI xs 2 = xs[2]? := atI (k := 2)
theorem ixN {n k : Nat} (h : k < n) : L2.ixN n (k : Int) = some k := by
  unfold L2.ixN
  rw [if_pos (Int.natCast_nonneg k), if_pos (by omega)]; simp
theorem andE : FL.andE f1 f2 Γ = (FL.tstE f1 Γ).bind (andEK f2) := rfl
theorem andEK1 : andEK f2 true Γ = f2 Γ := rfl
theorem andEK0 : andEK f2 false Γ = .ok (.d (.bl false)) Γ := rfl
theorem orE : FL.orE f1 f2 Γ = (FL.tstE f1 Γ).bind (orEK f2) := rfl
theorem orEK1 : orEK f2 true Γ = .ok (.d (.bl true)) Γ := rfl
theorem orEK0 : orEK f2 false Γ = f2 Γ := rfl
theorem notE : notE f Γ = (FL.tstE f Γ).bind fun k Γ1 => .ok (.d (.bl (!k))) Γ1 := rfl
theorem chnE {g g'} : chnE g g' f1 f2 f3 Γ = (f1 Γ).bind fun e1 Γ1 => (f2 Γ1).bind fun e2 Γ2 => chn3 g g' f3 e1 e2 Γ2 := rfl
theorem chn3 {g g' e1 e2} : FL.chn3 g g' f3 e1 e2 Γ = ((FL.fin2 g e1 e2 Γ).bind FL.asB).bind fun k Γ2 => if k then (f3 Γ2).bind fun e3 Γ3 => FL.fin2 g' e2 e3 Γ3 else .ok (.d (.bl false)) Γ2 := rfl
theorem lenL {xs} : lenD (.lst xs) = some (.int xs.length) := rfl
theorem lenT {xs} : lenD (.tup xs) = some (.int xs.length) := rfl
theorem lenC {xs} : lenD (.scr xs) = some (.int xs.length) := rfl
theorem lenS {x : Str} : lenD (.str x) = if x.length ≤ sizeLine then some (.int x.length) else none := rfl
theorem isSS {x} : isB "str" (.str x) = some true := rfl
theorem isST {x} : isB "str" (.tup x) = some false := rfl
theorem isTT {x} : isB "tuple" (.tup x) = some true := rfl
theorem eqS {x y} : eqD (.str x) (.str y) = some (.bl (decide (x = y))) := rfl
theorem neS {x y} : neD (.str x) (.str y) = some (.bl (!decide (x = y))) := rfl
theorem isN0 : isND .non .non = some (.bl true) := rfl
theorem isNT {x} : isND (.tup x) .non = some (.bl false) := rfl
theorem isNS {x} : isND (.str x) .non = some (.bl false) := rfl
theorem notN0 : notND .non .non = some (.bl false) := rfl
theorem notNT {x} : notND (.tup x) .non = some (.bl true) := rfl
theorem m1E {g fo fa} : m1E g fo fa Γ = (fo Γ).bind fun eo Γ1 => if isStr eo then (fa Γ1).bind fun ea Γ2 => FL.fin2 g eo ea Γ2 else .fail := rfl
theorem isStrS {x} : isStr (.d (.str x)) = true := rfl
theorem aStar : aStar f r Γ = (f Γ).bind fun e Γ1 => (starI e Γ1).bind fun xs Γ1' => (r Γ1').bind fun es Γ2 => .ok (xs ++ es) Γ2 := rfl
theorem starT {xs} : starI (.d (.tup xs)) Γ = .ok (xs.map EV.d) Γ := rfl
theorem starL {xs} : starI (.d (.lst xs)) Γ = .ok (xs.map EV.d) Γ := rfl
theorem itT {xs} : itA (.d (.tup xs)) Γ = .ok xs Γ := rfl
theorem itC {xs : List Int} : itA (.d (.scr xs)) Γ = .ok (xs.map D.int) Γ := rfl
theorem itS {x : Str} : itA (.d (.str x)) Γ = .ok (x.cps.toList.map fun c => D.str ⟨#[c]⟩) Γ := rfl
theorem itL {xs} : itA (.d (.lst xs)) Γ = .ok xs Γ := rfl
theorem itR1 {j : Int} (h0 : 0 ≤ j) (h1 : j ≤ 1000000) : FL.itR1 [.d (.int j)] Γ = .ok ((List.range j.toNat).map fun i => D.int (0 + (i : Nat))) Γ := by
  unfold FL.itR1
  exact if_pos ⟨by omega, by omega⟩
theorem itR2 {i j : Int} (h0 : 0 ≤ i) (h1 : i ≤ 1000000) (h2 : 0 ≤ j) (h3 : j ≤ 1000000) : FL.itR2 [.d (.int i), .d (.int j)] Γ = .ok ((List.range (j - i).toNat).map fun n => D.int (i + (n : Nat))) Γ := by
  unfold FL.itR2
  exact if_pos ⟨by omega, by omega, by omega, by omega⟩
theorem rng1 : rng1 u Γ = (u Γ).bind FL.itR1 := rfl
theorem rng2 : rng2 u Γ = (u Γ).bind FL.itR2 := rfl
theorem tupL {xs} : tupD (.lst xs) = some (.tup xs) := rfl
theorem tupT {xs} : tupD (.tup xs) = some (.tup xs) := rfl
theorem addT {xs ys} : addD (.tup xs) (.tup ys) = if xs.length + ys.length ≤ sizeLine then some (.tup (xs ++ ys)) else none := rfl
theorem addS {x y : Str} : addD (.str x) (.str y) = if x.length + y.length ≤ sizeLine then some (.str (x ++ y)) else none := rfl
theorem addL {xs ys} : addD (.lst xs) (.lst ys) = if xs.length + ys.length ≤ sizeLine then some (.lst (xs ++ ys)) else none := rfl
theorem addV2I {i j} : addV2 (.d (.int i)) (.d (.int j)) Γ = .ok (.e (.d (.int (i + j)))) Γ := rfl
theorem addV2S {x y : Str} : addV2 (.d (.str x)) (.d (.str y)) Γ = (match addD (.str x) (.str y) with | some x => .ok (.e (.d x)) Γ | none => .fail) := rfl
theorem addV2T {x y} : addV2 (.d (.tup x)) (.d (.tup y)) Γ = (match addD (.tup x) (.tup y) with | some x => .ok (.e (.d x)) Γ | none => .fail) := rfl
theorem cutT {xs lo hi} : cutD lo hi (.tup xs) = some (.tup (cutL xs lo hi)) := rfl
theorem cutLL {xs lo hi} : cutD lo hi (.lst xs) = some (.lst (cutL xs lo hi)) := rfl
theorem sz0 : (0 ≤ sizeLine) = True := eq_true (by decide)
theorem sz1 : (1 ≤ sizeLine) = True := eq_true (by decide)
theorem sz2 : (2 ≤ sizeLine) = True := eq_true (by decide)
theorem sz3 : (3 ≤ sizeLine) = True := eq_true (by decide)
theorem sz4 : (4 ≤ sizeLine) = True := eq_true (by decide)
theorem sz5 : (5 ≤ sizeLine) = True := eq_true (by decide)
theorem sz6 : (6 ≤ sizeLine) = True := eq_true (by decide)
theorem sz7 : (7 ≤ sizeLine) = True := eq_true (by decide)
theorem sz8 : (8 ≤ sizeLine) = True := eq_true (by decide)
theorem sz9 : (9 ≤ sizeLine) = True := eq_true (by decide)
theorem sz10 : (10 ≤ sizeLine) = True := eq_true (by decide)
theorem sz11 : (11 ≤ sizeLine) = True := eq_true (by decide)
theorem sz12 : (12 ≤ sizeLine) = True := eq_true (by decide)
theorem sz13 : (13 ≤ sizeLine) = True := eq_true (by decide)
theorem sz14 : (14 ≤ sizeLine) = True := eq_true (by decide)
theorem sz15 : (15 ≤ sizeLine) = True := eq_true (by decide)
theorem sz16 : (16 ≤ sizeLine) = True := eq_true (by decide)
theorem sz17 : (17 ≤ sizeLine) = True := eq_true (by decide)
theorem sz18 : (18 ≤ sizeLine) = True := eq_true (by decide)
theorem sz19 : (19 ≤ sizeLine) = True := eq_true (by decide)
theorem sz20 : (20 ≤ sizeLine) = True := eq_true (by decide)
theorem sz21 : (21 ≤ sizeLine) = True := eq_true (by decide)
theorem sz22 : (22 ≤ sizeLine) = True := eq_true (by decide)
theorem sz23 : (23 ≤ sizeLine) = True := eq_true (by decide)
theorem sz24 : (24 ≤ sizeLine) = True := eq_true (by decide)
theorem sz25 : (25 ≤ sizeLine) = True := eq_true (by decide)
theorem sz26 : (26 ≤ sizeLine) = True := eq_true (by decide)
theorem sz27 : (27 ≤ sizeLine) = True := eq_true (by decide)
theorem sz28 : (28 ≤ sizeLine) = True := eq_true (by decide)
theorem sz29 : (29 ≤ sizeLine) = True := eq_true (by decide)
theorem sz30 : (30 ≤ sizeLine) = True := eq_true (by decide)
theorem sz31 : (31 ≤ sizeLine) = True := eq_true (by decide)
theorem sz32 : (32 ≤ sizeLine) = True := eq_true (by decide)
theorem sz33 : (33 ≤ sizeLine) = True := eq_true (by decide)
theorem sz34 : (34 ≤ sizeLine) = True := eq_true (by decide)
theorem sz35 : (35 ≤ sizeLine) = True := eq_true (by decide)
theorem sz36 : (36 ≤ sizeLine) = True := eq_true (by decide)
theorem sz37 : (37 ≤ sizeLine) = True := eq_true (by decide)
theorem sz38 : (38 ≤ sizeLine) = True := eq_true (by decide)
theorem sz39 : (39 ≤ sizeLine) = True := eq_true (by decide)
theorem sz40 : (40 ≤ sizeLine) = True := eq_true (by decide)
theorem sz41 : (41 ≤ sizeLine) = True := eq_true (by decide)
theorem sz42 : (42 ≤ sizeLine) = True := eq_true (by decide)
theorem sz43 : (43 ≤ sizeLine) = True := eq_true (by decide)
theorem sz44 : (44 ≤ sizeLine) = True := eq_true (by decide)
theorem sz45 : (45 ≤ sizeLine) = True := eq_true (by decide)
theorem ix30 : L2.ixN 3 0 = some 0 := rfl
theorem ix31 : L2.ixN 3 1 = some 1 := rfl
theorem ix32 : L2.ixN 3 2 = some 2 := rfl
theorem addI {i j} : addD (.int i) (.int j) = some (.int (i + j)) := rfl
theorem subI {i j} : subD (.int i) (.int j) = some (.int (i - j)) := rfl
theorem ltI {i j} : ltD (.int i) (.int j) = some (.bl (decide (i < j))) := rfl
theorem leI {i j} : leD (.int i) (.int j) = some (.bl (decide (i ≤ j))) := rfl
theorem gtI {i j} : gtD (.int i) (.int j) = some (.bl (decide (j < i))) := rfl
theorem geI {i j} : geD (.int i) (.int j) = some (.bl (decide (j ≤ i))) := rfl
theorem intI {i} : intC (.int i) = some (.int i) := rfl
theorem mulI {i j} : mulD (.int i) (.int j) = if (-(2 ^ 64) < i ∧ i < 2 ^ 64) ∨ (-(2 ^ 64) < j ∧ j < 2 ^ 64) then some (.int (i * j)) else none := rfl
theorem modI {i j} : modD (.int i) (.int j) = if decide (0 < j) = true then some (.int (i % j)) else none := rfl
theorem fdivI {i j} : fdivD (.int i) (.int j) = if decide (0 < j ∧ j < 1073741824) = true then some (.int (i / j)) else none := rfl
theorem dmI {i j} : dmD (.int i) (.int j) = if decide (0 < j ∧ j < 1073741824) = true then some (.tup [.int (i / j), .int (i % j)]) else none := rfl
theorem isBz {x : Sl} : FL.isBor (x :: Γ) 0 = x.isB := by cases x <;> rfl
theorem isBs {x : Sl} {n : Nat} : FL.isBor (x :: Γ) (n + 1) = FL.isBor Γ n := by unfold FL.isBor; rw [List.getElem?_cons_succ]
theorem isB0 : Sl.isB .no = false := rfl
theorem isB1 {d} : Sl.isB (.im d) = false := rfl
theorem isB2 {o} : Sl.isB (.acc o) = false := rfl
theorem isB3 {o} : Sl.isB (.bor o) = true := rfl
theorem itAo {i} : itA (.own i) Γ = FL.itL (.own i) Γ := rfl
theorem itLe {ev} : FL.itL ev Γ = (match frz1 ev Γ with | some (.lst ds, Γ') => .ok ds Γ' | _ => .fail) := rfl
theorem stoP0 : stoP [] [] Γ = .ok .nx Γ := rfl
theorem stoP1 {i is x xs} : stoP (i :: is) (x :: xs) Γ = if offOwn i xs then FL.seqS (stoV i x) (stoP is xs) Γ else .fail := rfl
theorem offOwn0 {i} : offOwn i [] = true := rfl
theorem offOwnd {i d xs} : offOwn i (.e (.d d) :: xs) = offOwn i xs := rfl
theorem offOwnn {i o xs} : offOwn i (.n o :: xs) = offOwn i xs := rfl
theorem maxI {i j} : maxD (.int i) (.int j) = some (.int (if j > i then j else i)) := rfl
theorem minI {i j} : minD (.int i) (.int j) = some (.int (if j < i then j else i)) := rfl
theorem absI {i} : absD (.int i) = some (.int (if i < 0 then -i else i)) := rfl
theorem call1V {b Fn dd} : FL.call1V b Fn dd vf Γ = (vf Γ).bind (finCallN b Fn dd) := rfl
theorem finCallN0 {Fn dd o} : finCallN (some 0) Fn dd (.n o) Γ = cnK Γ (Fn (o.d :: dd)) := rfl
theorem cnK1 {d out} : cnK Γ (.ok d out) = .ok (.e (.d d)) Γ := rfl
theorem cnK2 {o out} : cnK Γ (.nw o out) = .ok (.n o) Γ := rfl
theorem cnK3 {c ns fs out} : cnK Γ (.exc c ns fs out) = .exc c ns fs Γ := rfl
theorem wipe0 : wipeΓ Γ [] = Γ := rfl
theorem wipe1 {v vs} : wipeΓ Γ (v :: vs) = (wipeΓ Γ vs).set v .no := rfl
theorem addV2L {x y : List D} : addV2 (.d (.lst x)) (.d (.lst y)) Γ = if x.length + y.length ≤ sizeLine then .ok (.n (.l (x ++ y))) Γ else .fail := rfl
theorem pick0 {α : Type} {xs : List α} : pick [] xs = [] := rfl
theorem pick1 {α : Type} {i : Nat} {pm : List Nat} {xs : List α} : pick (i :: pm) xs = (match xs[i]? with | some x => x :: pick pm xs | none => pick pm xs) := by
  unfold pick
  rw [List.filterMap_cons]
  cases xs[i]? <;> rfl
theorem addV2own {i ys} : addV2 (.own i) (.d (.lst ys)) Γ = (match FL.ownD Γ i with | some (.l xs) => if xs.length + ys.length ≤ sizeLine then .ok (.n (.l (xs ++ ys))) Γ else .fail | _ => .fail) := by
  unfold addV2
  rw [looko, lookd]
  cases h : FL.ownD Γ i with
  | none => rfl
  | some o => cases o <;> rfl
theorem sl0 : (0 < sizeLine) = True := eq_true (by decide)
theorem sl1 : (1 < sizeLine) = True := eq_true (by decide)
theorem sl2 : (2 < sizeLine) = True := eq_true (by decide)
theorem sl3 : (3 < sizeLine) = True := eq_true (by decide)
theorem sl4 : (4 < sizeLine) = True := eq_true (by decide)
theorem sl5 : (5 < sizeLine) = True := eq_true (by decide)
theorem sl6 : (6 < sizeLine) = True := eq_true (by decide)
theorem sl7 : (7 < sizeLine) = True := eq_true (by decide)
theorem sl8 : (8 < sizeLine) = True := eq_true (by decide)
theorem sl9 : (9 < sizeLine) = True := eq_true (by decide)
theorem sl10 : (10 < sizeLine) = True := eq_true (by decide)
theorem sl11 : (11 < sizeLine) = True := eq_true (by decide)
theorem sl12 : (12 < sizeLine) = True := eq_true (by decide)
theorem sl13 : (13 < sizeLine) = True := eq_true (by decide)
theorem sl14 : (14 < sizeLine) = True := eq_true (by decide)
theorem sl15 : (15 < sizeLine) = True := eq_true (by decide)
theorem sl16 : (16 < sizeLine) = True := eq_true (by decide)
theorem sl17 : (17 < sizeLine) = True := eq_true (by decide)
theorem sl18 : (18 < sizeLine) = True := eq_true (by decide)
theorem sl19 : (19 < sizeLine) = True := eq_true (by decide)
theorem sl20 : (20 < sizeLine) = True := eq_true (by decide)
theorem sl21 : (21 < sizeLine) = True := eq_true (by decide)
theorem sl22 : (22 < sizeLine) = True := eq_true (by decide)
theorem sl23 : (23 < sizeLine) = True := eq_true (by decide)
theorem sl24 : (24 < sizeLine) = True := eq_true (by decide)
theorem sl25 : (25 < sizeLine) = True := eq_true (by decide)
theorem sl26 : (26 < sizeLine) = True := eq_true (by decide)
theorem sl27 : (27 < sizeLine) = True := eq_true (by decide)
theorem sl28 : (28 < sizeLine) = True := eq_true (by decide)
theorem sl29 : (29 < sizeLine) = True := eq_true (by decide)
theorem eqI {i j : Int} : eqD (.int i) (.int j) = some (.bl (decide (i = j))) := rfl
theorem neI {i j : Int} : neD (.int i) (.int j) = some (.bl (!decide (i = j))) := rfl
end Ev
end FL

/-! part F17 -/
set_option Elab.async false
set_option linter.all false
set_option maxRecDepth 100000
set_option maxHeartbeats 4000000
namespace FL
open PySem PySem.Spec PyProof.Rows L2
def Ev.all := (And.intro @Ev.seqS (And.intro @Ev.seqK0 (And.intro @Ev.seqK1 (And.intro @Ev.seqK2 (And.intro @Ev.seqK3 (And.intro @Ev.seqK4 (And.intro @Ev.seqK5 (And.intro @Ev.seqK6 (And.intro @Ev.nxS (And.intro @Ev.brS (And.intro @Ev.ctS (And.intro @Ev.badS (And.intro @Ev.retN (And.intro @Ev.retS (And.intro @Ev.retV (And.intro @Ev.finRVe (And.intro @Ev.finRVn (And.intro @Ev.finR (And.intro @Ev.rtK1 (And.intro @Ev.givV (And.intro @Ev.givd (And.intro @Ev.givo (And.intro @Ev.exprS (And.intro @Ev.ifS (And.intro @Ev.ifK1 (And.intro @Ev.ifK0 (And.intro @Ev.asgV (And.intro @Ev.stoVe (And.intro @Ev.stK1 (And.intro @Ev.stoVn (And.intro @Ev.asgB (And.intro @Ev.stoB (And.intro @Ev.sbK1 (And.intro @Ev.nxK1 (And.intro @Ev.bName (And.intro @Ev.bSub (And.intro @Ev.bNil (And.intro @Ev.bCons (And.intro @Ev.bSeqT (And.intro @Ev.bSeqL (And.intro @Ev.finSet (And.intro @Ev.ownD (And.intro @Ev.putOwn (And.intro @Ev.appS (And.intro @Ev.isOwnL (And.intro @Ev.finApp (And.intro @Ev.apK1 (And.intro @Ev.apL1 (And.intro @Ev.cE (And.intro @Ev.vE (And.intro @Ev.lookd (And.intro @Ev.looko (And.intro @Ev.odl (And.intro @Ev.op2 (And.intro @Ev.fin2 (And.intro @Ev.oK1 (And.intro @Ev.oK0 (And.intro @Ev.addV (And.intro @Ev.opN (And.intro @Ev.finN (And.intro @Ev.looks0 (And.intro @Ev.looks1 (And.intro @Ev.one (And.intro @Ev.two (And.intro @Ev.aNil (And.intro @Ev.aCons (And.intro @Ev.frzd (And.intro @Ev.frzo (And.intro @Ev.frzs0 (And.intro @Ev.frzs1 (And.intro @Ev.frzsD (And.intro @Ev.tstE (And.intro @Ev.asB (And.intro @Ev.andT (And.intro @Ev.andK1 (And.intro @Ev.andK0 (And.intro @Ev.orT (And.intro @Ev.orK1 (And.intro @Ev.orK0 (And.intro @Ev.notT (And.intro @Ev.ifE (And.intro @Ev.ifEK1 (And.intro @Ev.ifEK0 (And.intro @Ev.vE' (And.intro @Ev.veK1 (And.intro @Ev.veK2 (And.intro @Ev.telV (And.intro @Ev.teK1 (And.intro @Ev.teK2 (And.intro @Ev.teK3 (And.intro @Ev.bindO (And.intro @Ev.bindX (And.intro @Ev.bindF (And.intro @Ev.tupE (And.intro @Ev.lstE (And.intro @Ev.finT (And.intro @Ev.lstN (And.intro @Ev.finL (And.intro @Ev.slE (And.intro @Ev.fin3 (And.intro @Ev.oNo (And.intro @Ev.oSome (And.intro @Ev.asI (And.intro @Ev.isiE (And.intro @Ev.finI (And.intro @Ev.bK1 (And.intro @Ev.callV (And.intro @Ev.finCall (And.intro @Ev.prK1 (And.intro @Ev.caK1 (And.intro @Ev.caK2 (And.intro @Ev.caK3 (And.intro @Ev.callK (And.intro @Ev.prep0 (And.intro @Ev.prep1 (And.intro @Ev.putL0 (And.intro @Ev.putL1 (And.intro @Ev.runF (And.intro @Ev.ruK1 (And.intro @Ev.fiK1 (And.intro @Ev.fiK2 (And.intro @Ev.fiK3 (And.intro @Ev.fiK4 (And.intro @Ev.startG0 (And.intro @Ev.startG1 (And.intro @Ev.odlst (And.intro @Ev.out0 (And.intro @Ev.out1 (And.intro @Ev.parS (And.intro @Ev.vNil (And.intro @Ev.vCons (And.intro @Ev.anyI (And.intro @Ev.getL (And.intro @Ev.getT (And.intro @Ev.getC (And.intro @Ev.atI0 (And.intro @Ev.atI1 (And.intro @Ev.atI2 (And.intro @Ev.andE (And.intro @Ev.andEK1 (And.intro @Ev.andEK0 (And.intro @Ev.orE (And.intro @Ev.orEK1 (And.intro @Ev.orEK0 (And.intro @Ev.notE (And.intro @Ev.chnE (And.intro @Ev.chn3 (And.intro @Ev.lenL (And.intro @Ev.lenT (And.intro @Ev.lenC (And.intro @Ev.lenS (And.intro @Ev.isSS (And.intro @Ev.isST (And.intro @Ev.isTT (And.intro @Ev.eqS (And.intro @Ev.neS (And.intro @Ev.isN0 (And.intro @Ev.isNT (And.intro @Ev.isNS (And.intro @Ev.notN0 (And.intro @Ev.notNT (And.intro @Ev.m1E (And.intro @Ev.isStrS (And.intro @Ev.aStar (And.intro @Ev.starT (And.intro @Ev.starL (And.intro @Ev.itT (And.intro @Ev.itC (And.intro @Ev.itS (And.intro @Ev.itL (And.intro @Ev.rng1 (And.intro @Ev.rng2 (And.intro @Ev.tupL (And.intro @Ev.tupT (And.intro @Ev.addT (And.intro @Ev.addS (And.intro @Ev.addL (And.intro @Ev.addV2I (And.intro @Ev.addV2S (And.intro @Ev.addV2T (And.intro @Ev.cutT (And.intro @Ev.cutLL (And.intro @Ev.sz0 (And.intro @Ev.sz1 (And.intro @Ev.sz2 (And.intro @Ev.sz3 (And.intro @Ev.sz4 (And.intro @Ev.sz5 (And.intro @Ev.sz6 (And.intro @Ev.sz7 (And.intro @Ev.sz8 (And.intro @Ev.sz9 (And.intro @Ev.sz10 (And.intro @Ev.sz11 (And.intro @Ev.sz12 (And.intro @Ev.sz13 (And.intro @Ev.sz14 (And.intro @Ev.sz15 (And.intro @Ev.sz16 (And.intro @Ev.sz17 (And.intro @Ev.sz18 (And.intro @Ev.sz19 (And.intro @Ev.sz20 (And.intro @Ev.sz21 (And.intro @Ev.sz22 (And.intro @Ev.sz23 (And.intro @Ev.sz24 (And.intro @Ev.sz25 (And.intro @Ev.sz26 (And.intro @Ev.sz27 (And.intro @Ev.sz28 (And.intro @Ev.sz29 (And.intro @Ev.sz30 (And.intro @Ev.sz31 (And.intro @Ev.sz32 (And.intro @Ev.sz33 (And.intro @Ev.sz34 (And.intro @Ev.sz35 (And.intro @Ev.sz36 (And.intro @Ev.sz37 (And.intro @Ev.sz38 (And.intro @Ev.sz39 (And.intro @Ev.sz40 (And.intro @Ev.sz41 (And.intro @Ev.sz42 (And.intro @Ev.sz43 (And.intro @Ev.sz44 (And.intro @Ev.sz45 (And.intro @Ev.ix30 (And.intro @Ev.ix31 (And.intro @Ev.ix32 (And.intro @Ev.addI (And.intro @Ev.subI (And.intro @Ev.ltI (And.intro @Ev.leI (And.intro @Ev.gtI (And.intro @Ev.geI (And.intro @Ev.intI (And.intro @Ev.mulI (And.intro @Ev.modI (And.intro @Ev.fdivI (And.intro @Ev.dmI (And.intro @Ev.isBz (And.intro @Ev.isBs (And.intro @Ev.isB0 (And.intro @Ev.isB1 (And.intro @Ev.isB2 (And.intro @Ev.isB3 (And.intro @Ev.itAo (And.intro @Ev.itLe (And.intro @Ev.stoP0 (And.intro @Ev.stoP1 (And.intro @Ev.offOwn0 (And.intro @Ev.offOwnd (And.intro @Ev.offOwnn (And.intro @Ev.maxI (And.intro @Ev.minI (And.intro @Ev.absI (And.intro @Ev.call1V (And.intro @Ev.finCallN0 (And.intro @Ev.cnK1 (And.intro @Ev.cnK2 (And.intro @Ev.cnK3 (And.intro @Ev.wipe0 (And.intro @Ev.wipe1 (And.intro @Ev.addV2L (And.intro @Ev.pick0 (And.intro @Ev.pick1 (And.intro @Ev.addV2own (And.intro @Ev.sl0 (And.intro @Ev.sl1 (And.intro @Ev.sl2 (And.intro @Ev.sl3 (And.intro @Ev.sl4 (And.intro @Ev.sl5 (And.intro @Ev.sl6 (And.intro @Ev.sl7 (And.intro @Ev.sl8 (And.intro @Ev.sl9 (And.intro @Ev.sl10 (And.intro @Ev.sl11 (And.intro @Ev.sl12 (And.intro @Ev.sl13 (And.intro @Ev.sl14 (And.intro @Ev.sl15 (And.intro @Ev.sl16 (And.intro @Ev.sl17 (And.intro @Ev.sl18 (And.intro @Ev.sl19 (And.intro @Ev.sl20 (And.intro @Ev.sl21 (And.intro @Ev.sl22 (And.intro @Ev.sl23 (And.intro @Ev.sl24 (And.intro @Ev.sl25 (And.intro @Ev.sl26 (And.intro @Ev.sl27 (And.intro @Ev.sl28 (And.intro @Ev.sl29 (And.intro @Ev.eqI @Ev.neI))))))))))))))))))))))))))))))))))))))))))))))))))))))))))))))))))))))))))))))))))))))))))))))))))))))))))))))))))))))))))))))))))))))))))))))))))))))))))))))))))))))))))))))))))))))))))))))))))))))))))))))))))))))))))))))))))))))))))))))))))))))))))))))))))))))))))))))))))))))))))))))))))))))))))))
end FL

/-! part F18 -/
set_option Elab.async false
set_option linter.all false
set_option maxRecDepth 100000
set_option maxHeartbeats 4000000
namespace FL
open PySem PySem.Spec PyProof.Rows L2
variable {X : Cx} {W : WX} {e a b c o tg iter : Expr} {f g f1 f2 f3 fo fa : EF} {pos apos kpos p : Pos} {es : List Expr}
def isLst (ev : EV) (Γ : En) : Bool := match ev.look Γ with
  | some (.lst _) => true
  | _ => false
def m1L (g : D → D → Option D) (fo fa : EF) : EF := fun Γ => (fo Γ).bind fun eo Γ1 => if isLst eo Γ1 then (fa Γ1).bind fun ea Γ2 => fin2 g eo ea Γ2 else .fail
theorem isLst_rep {K : Frg} {F : Fr} {Γ : En} {σ : St} {H G : Hp} (R : Rl K F Γ σ H G) {ev : EV} {v : V} (h : isLst ev Γ = true) (r : vrel K σ G ev v) : tyV K "list" v H := by
  unfold isLst at h
  split at h
  · rename_i ds e
    obtain ⟨a, vs, rfl, hv, _⟩ := (R.look r e).lst R.gh
    exact .inl ⟨rfl, _, .of hv⟩
  · cases h
theorem fe_lm1 {id : String} {name : Str} {r : V → List V → Hp → VK → Prop} {g : D → D → Option D} (slot : Slot "list" name id) (ty : typeOf (.builtin id) = pure (.type "method_descriptor")) (rule : MtR X id r) (hs : Op2 X (fun v w => r v [w]) g) (ho : FE X W o fo) (ha : FE X W a fa)
    (hbase : attributeBase o name X.env (eval o X.env) = eval o X.env := by rfl)
    (hfew : ((backTo p (starEach [a] X.env)).all (fun x => !x.1) && (backToKw p (keywordEach [] X.env)).all (fun x => x.1.isSome)
      && decide (([a] : List Expr).length + ([] : List Keyword).length + (if ([] : List Keyword).isEmpty then 0 else 1) < 30)) = true := by rfl)
    (hline : (apos.endLine == p.line) = true := by rfl) (hst : starEach [a] X.env = (false, eval a X.env) :: starEach [] X.env := by rfl) :
    FE X W (.Call (.Attribute o name apos) [a] [] p) (m1L g fo fa) := by
  obtain ⟨u1, p1, s1⟩ := ho
  obtain ⟨u2, p2, s2⟩ := ha
  refine ⟨_, pe_bm PySem.F.plainAttrs_list slot ty rule p1 (pa_cons p2 pa_nil hst) hbase hfew hline hst (by rfl), fun F Γ σ H G R => ?_⟩
  refine Out.bind (T' := fun x H1 Q => tyV X.K "list" x H1 ∧ u2 σ H1 fun y H2 => r x [y] H2 Q) (s1 F Γ σ H G R) fun ev Γ1 v H1 G1 R1 _ r1 => ?_
  split
  · rename_i hi
    refine Out.of (Out.bind (T' := fun y H2 Q => r v [y] H2 Q) (s2 F Γ1 σ H1 G1 R1) fun ev2 Γ2 v2 H2 G2 R2 le2 r2 => ?_) fun Q q => ⟨isLst_rep R1 hi r1, q⟩
    exact out_fin2 hs R2 (vrel_mono _ _ _ _ _ _ le2 r1) r2
  · trivial
def idxD : D → D → Option D
  | .lst ds, x => (match x.flat, flats ds with
    | some v, some vs => (vs.findIdx? fun z => eqV z v).map fun j => .int (j : Nat)
    | _, _ => none)
  | _, _ => none
theorem fe_index (ho : FE X W o fo) (ha : FE X W a fa) (hbase : attributeBase o "index" X.env (eval o X.env) = eval o X.env := by rfl)
    (hfew : ((backTo p (starEach [a] X.env)).all (fun x => !x.1) && (backToKw p (keywordEach [] X.env)).all (fun x => x.1.isSome)
      && decide (([a] : List Expr).length + ([] : List Keyword).length + (if ([] : List Keyword).isEmpty then 0 else 1) < 30)) = true := by rfl)
    (hline : (apos.endLine == p.line) = true := by rfl) (hst : starEach [a] X.env = (false, eval a X.env) :: starEach [] X.env := by rfl) :
    FE X W (.Call (.Attribute o "index" apos) [a] [] p) (m1L idxD fo fa) :=
  fe_lm1 F.slot_list_index F.type_list_index mt_index (fun F Γ σ H G d1 d2 v1 v2 x Q R r1 r2 e q => by
    unfold idxD at e
    split at e
    · rename_i ds
      split at e
      · rename_i w ws ew es
        obtain ⟨j, e1, rfl⟩ := Option.map_eq_some_iff.mp e
        obtain ⟨hj, h1, h2⟩ := List.findIdx?_eq_some_iff_getElem.mp e1
        obtain ⟨l, vs, rfl, hv, rp⟩ := r1.lst R.gh
        obtain ⟨rfl, fl⟩ := rp.flats es
        obtain ⟨rfl, f2⟩ := (r2.rep R.gh).flat ew
        refine ⟨l, vs, v2, j, vs[j], rfl, rfl, .of hv, f2, fl, List.getElem?_eq_getElem hj, h1, fun m z' hm hz => ?_, q _ H G R (Le.refl G) rfl⟩
        obtain ⟨hm', rfl⟩ := List.getElem?_eq_some_iff.mp hz
        simpa using h2 m hm
      · cases e
    · cases e) ho ha hbase hfew hline hst
def lmK (g : D → D → Option D) (fa : EF) (eo : EV) (Γ1 : En) : O EV := if isLst eo Γ1 then (fa Γ1).bind fun ea Γ2 => fin2 g eo ea Γ2 else .fail
namespace Ev
variable {Γ : En}
theorem m1L {g fo fa} : FL.m1L g fo fa Γ = (fo Γ).bind (lmK g fa) := rfl
theorem lmK1 {g fa eo} : lmK g fa eo Γ = if isLst eo Γ then (fa Γ).bind fun ea Γ2 => FL.fin2 g eo ea Γ2 else .fail := rfl
theorem isLstd {xs} : isLst (.d (.lst xs)) Γ = true := rfl
theorem isLsto {i} : isLst (.own i) Γ = (match FL.ownD Γ i with | some (.l _) => true | _ => false) := by
  unfold isLst
  rw [looko]
  cases FL.ownD Γ i with
  | none => rfl
  | some o => cases o <;> rfl
theorem mulL {xs : List D} {k : Int} : mulD (.lst xs) (.int k) = if -(2 ^ 63) ≤ k ∧ k < 2 ^ 63 ∧ xs.length * k.toNat ≤ sizeLine then some (.lst (List.replicate k.toNat xs).flatten) else none := rfl
def all2 := And.intro @m1L (And.intro @lmK1 (And.intro @isLstd @isLsto))
end Ev
end FL

/-! part F19 -/
set_option Elab.async false
set_option linter.all false
set_option maxRecDepth 100000
set_option maxHeartbeats 4000000
namespace FL
open PySem PySem.Spec PyProof.Rows L2
variable {X : Cx} {W : WX} {e a b c o tg iter value : Expr} {f g f1 f2 f3 fo fa : EF} {pos pos' apos kpos p : Pos} {es : List Expr} {u uk : AF} {kws : List Keyword}
def maK (Γ1 : En) (r : Ro) : O VV := match r with
  | .ok .non (some o) => .ok (.n o) Γ1
  | .exc c ns fs _ => .exc c ns fs Γ1
  | _ => .fail
def finMake (Fn : DFn) (c : Str) (dd : List D) (es : List EV) (Γ : En) : O VV := match frzs es Γ with
  | none => .fail
  | some (ds, Γ1) => maK Γ1 (Fn (.ins c [] [] :: (ds ++ dd)))
theorem out_make {K : Frg} {F : Fr} {Γ : En} {σ : St} {H G : Hp} {Fn : DFn} {cn : Str} {dd : List D} {dvs : List V} {es : List EV} {vs : List V} (R : Rl K F Γ σ H G) (rs : vsrel K σ G es vs) (hd : ∀ G, Reps K G dd dvs) :
    OutV K W (vvrel K) F σ G (fun Q => ∀ x dx, H x = none → H dx = none → dx ≠ x → spF K (some 0) Fn (.ref x :: (vs ++ dvs)) (upd (upd H dx (.own x)) x (.ins (He.ga K cn) dx [])) (fun v H2 => v = .non ∧ Q (.ref x) H2) (fun cls d H' => W cls d σ H')) (finMake Fn cn dd es Γ) := by
  unfold finMake
  split
  · trivial
  · rename_i ds Γ1 e
    obtain ⟨G1, R1, le, rp⟩ := R.frzs rs e
    have core : ∀ x dx, H x = none → H dx = none → dx ≠ x → ∃ u : HO, Rl K F Γ1 σ (upd (upd H dx (.own x)) x u) G1 ∧ u = .ins (He.ga K cn) dx [] ∧ G1 x = none ∧ F.He x = none ∧ (F.bi = none ∨ x ≠ F.ba) ∧ (∀ j, ownAt Γ1 j → σ[j]? ≠ some (some (.ref x))) ∧
        ArgsAt K (some 0) G1 (upd (upd H dx (.own x)) x u) (.ins cn [] [] :: (ds ++ dd)) (.ref x :: (vs ++ dvs)) := fun x dx hx hdx ne => by
      have R2 := R1.newH (p := dx) (o := .own x) hdx
      have hx2 : upd H dx (.own x) x = none := by rw [upd_ne (Ne.symm ne)]; exact hx
      have ro : ORep K G1 (.i cn [] []) (.ins (He.ga K cn) dx []) := ⟨dx, [], rfl, rfl, rfl⟩
      obtain ⟨R3, p, u, e1, h1, h2, h3, h4, h5, h6⟩ := R2.newN (p := x) (u := .ins (He.ga K cn) dx []) (o := .i cn [] []) hx2 ro
      cases e1
      refine ⟨_, R3, rfl, h2, h3, h4, h5, ⟨?_, fun i d v e1 e2 hb => ?_, fun i hi => ?_⟩⟩
      · rw [List.length_cons, List.length_cons, List.length_append, List.length_append, rp.len, (hd G1).len]
      · cases i with
        | zero => exact absurd rfl hb
        | succ i =>
          obtain ⟨v', k1, k2⟩ := (rp.append (hd G1)).getD (show (ds ++ dd)[i]? = some d by simpa using e1)
          rw [show (vs ++ dvs)[i]? = some v by simpa using e2] at k1
          cases k1
          exact k2
      · cases hi
        exact ⟨x, .i cn [] [], _, rfl, rfl, upd_same, h2, ro⟩
    have hl : ∀ x a', Lent (some 0) (V.ref x :: (vs ++ dvs)) a' → a' = x := fun x a' ⟨i, z, h⟩ => by cases z; cases h; rfl
    unfold maK
    split
    · rename_i o ef
      intro Q q x dx hx hdx ne
      obtain ⟨u, R3, rfl, h2, h3, h4, h5, A⟩ := core x dx hx hdx ne
      refine ⟨G1, _, R3.gh, A, ?_⟩
      rw [ef]
      intro v H' G' Af rv
      refine ⟨rv, ?_⟩
      obtain ⟨k1, o', u', eo, k2, k3⟩ := Af.lent 0 x rfl rfl
      cases eo
      exact q _ H' G' (R3.aftN upd_same h3 h4 h5 (hl x) Af) (le.trans Af.le) ⟨x, u', rfl, k2, k1, h3, h4, h5, k3⟩
    · rename_i c ns fs out ef
      intro Q q x dx hx hdx ne
      obtain ⟨u, R3, rfl, h2, h3, h4, h5, A⟩ := core x dx hx hdx ne
      refine ⟨G1, _, R3.gh, A, ?_⟩
      rw [ef]
      intro cls d H' G' Af xr
      exact q _ _ H' G' (R3.aftN upd_same h3 h4 h5 (hl x) Af) (le.trans Af.le) xr
    · trivial
section
variable {k n : Nat} {fa' C : Addr} {fd : FuncData} {ps ks : List Str} {sp : Sp} {dvs : List V} {ds : List Value} {x m cn fn : Str} {Fn : DFn} {dd : List D} {pm : List Nat}
theorem run_makeG {pins : List (Addr × Obj)} {σ : St} {H : Hp} {s : Shared} {Q : VK} {us : List Value} {vs : List V} (M : Mk X.K C fa') (F : FnG X.prog X.w X.K X.mg X.base (L2.CX X.prog X.w) k fa' fd ps sp) (hr : Room (k + 1) X.A) (hg : X.A.guards = some []) (hb : Binds X.K fd ps ds) (hd : Vals dvs ds)
    (tk : Takes X W) (I : Inv X pins σ H s) (r : Vals vs us)
    (h : ∀ x dx, H x = none → H dx = none → dx ≠ x → sp (.ref x :: (vs ++ dvs)) (upd (upd H dx (.own x)) x (.ins C dx [])) (fun v H2 => v = .non ∧ Q (.ref x) H2) (fun cls d H' => W cls d σ H')) :
    wpAny (model X.prog X.w) X.A (call (.ref C) us) (EP X pins σ Q) X.xe s := by
  have hq := h (s.heap.objs.size + 1) s.heap.objs.size (I.hok.fresh (Nat.le_succ _)) (I.hok.fresh (Nat.le_refl _)) (Nat.ne_of_lt (Nat.lt_succ_self _))
  have I2 := Inv.made (C := C) I
  have r2 : Vals (V.ref (s.heap.objs.size + 1) :: (vs ++ dvs)) (Value.ref (s.heap.objs.size + 1) :: (us ++ ds)) := .cons rfl (r.append hd)
  have hl : (Value.ref (s.heap.objs.size + 1) :: us ++ ds).length = ps.length := by
    have e := r2.length
    rw [F.len _ _ _ _ hq] at e
    exact e.symm
  refine wpAny_call (make_map (f := fa') I.kIn M.makes M.init (beq_iff_eq.mp M.fn) (codeAny_mono (F.run _ X.stack _ _ ⟨Value.ref (s.heap.objs.size + 1) :: us, []⟩ (Value.ref (s.heap.objs.size + 1) :: (us ++ ds)) _ _ _ (hr.make C us []) hg
    (I2.env0.make C us []) (hb _ (Value.ref (s.heap.objs.size + 1) :: us) I2.kIn hl) r2 hq) fun r s' hq' => ?_))
  cases r with
  | error e => exact pass_at tk σ pins _ _ e s' I2 hq'
  | ok fl =>
    cases fl with
    | ret u =>
      obtain ⟨v, H', I3, rv, ev, q3⟩ := I2.after hq'
      subst ev
      exact ⟨rv, ⟨V.ref (s.heap.objs.size + 1), H', I3, rfl, q3⟩⟩
    | next => exact False.elim hq'
    | brk => exact False.elim hq'
    | cont => exact False.elim hq'
def makeV (n : Nat) (Fn : DFn) (c : Str) (dd : List D) (u : AF) : VF := fun Γ => (u Γ).bind fun es Γ1 => if es.length = n then finMake Fn c dd es Γ1 else .fail
theorem fv_make (M : Mk X.K (He.ga X.K cn) fa') (F : FnG X.prog X.w X.K X.mg X.base (L2.CX X.prog X.w) k fa' fd ps (spL X.K ps (some 0) Fn)) (hm : X.mg x = some (.ref (He.ga X.K cn))) (hb : Binds X.K fd ps ds) (hd : Vals dvs ds) (hdd : ∀ G, Reps X.K G dd dvs)
    (hr : Room (k + 1) X.A) (hgd : X.A.guards = some []) (tk : Takes X W) (hn : n + 1 + dvs.length = ps.length) (ha : FA X W (e :: es) u) (hg : Gl X x := by rfl) (hdb : (x == ("__debug__" : Str)) = false := by decide)
    (he : starEach (e :: es) X.env = (false, eval e X.env) :: starEach es X.env := by rfl) (hpl : (backTo pos (starEach es X.env)).any (·.1) = false := by rfl) :
    FV X W (.Call (.Name x p) (e :: es) [] pos) (makeV n Fn cn dd u) := by
  obtain ⟨t, pt, s⟩ := ha
  refine ⟨fun σ H Q => t σ H fun vs H1 => ∀ x dx, H1 x = none → H1 dx = none → dx ≠ x → spL X.K ps (some 0) Fn (.ref x :: (vs ++ dvs)) (upd (upd H1 dx (.own x)) x (.ins (He.ga X.K cn) dx [])) (fun v H2 => v = .non ∧ Q (.ref x) H2) (fun cls d H' => W cls d σ H'), ⟨fun pins s' σ H Q I h => ?_⟩, fun Fr Γ σ H G R => ?_⟩
  · refine wpAny_Call_Name_kw (ld_glob I hg hm ?_ hdb)
    refine PySem.W.callWith_K (h₀ := X.base) I.ok.mod.kin M.kp (thn (pt.run pos pins s' σ H _ I h) fun us s1 ⟨vs, H1, I1, r, q⟩ => ⟨I1.kIn, ?_⟩) he hpl
    exact run_makeG M F hr hgd hb hd tk I1 r q
  · refine OutV.bind (T' := fun (vs : List V) (H1 : Hp) (Q : VK) => ∀ x dx, H1 x = none → H1 dx = none → dx ≠ x → spL X.K ps (some 0) Fn (.ref x :: (vs ++ dvs)) (upd (upd H1 dx (.own x)) x (.ins (He.ga X.K cn) dx [])) (fun v H2 => v = .non ∧ Q (.ref x) H2) (fun cls d H' => W cls d σ H')) (s Fr Γ σ H G R) fun es' Γ1 vs H1 G1 R1 _ rs => ?_
    split
    · rename_i hlen
      have hl : (vs ++ dvs).length + 1 = ps.length := by rw [List.length_append, vsrel_len rs, hlen]; omega
      exact OutV.of (out_make R1 rs hdd) fun Q q x dx h1 h2 h3 => ⟨hl, q x dx h1 h2 h3⟩
    · trivial
theorem run_makeGK {pins : List (Addr × Obj)} {σ : St} {H : Hp} {s : Shared} {Q : VK} {us ws : List Value} {vs zs : List V} (M : Mk X.K C fa') (F : FnG X.prog X.w X.K X.mg X.base (L2.CX X.prog X.w) k fa' fd ps sp) (hr : Room (k + 1) X.A) (hg : X.A.guards = some []) (hb : KB X.K fd ps (n + 1) ks pm ds) (hd : Vals dvs ds)
    (tk : Takes X W) (I : Inv X pins σ H s) (r : Vals vs us) (rz : Vals zs ws) (l1 : vs.length = n) (l2 : zs.length = ks.length)
    (h : ∀ x dx, H x = none → H dx = none → dx ≠ x → sp (pick pm ((.ref x :: vs) ++ (zs ++ dvs))) (upd (upd H dx (.own x)) x (.ins C dx [])) (fun v H2 => v = .non ∧ Q (.ref x) H2) (fun cls d H' => W cls d σ H')) :
    wpAny (model X.prog X.w) X.A (call (.ref C) us (ks.zip ws)) (EP X pins σ Q) X.xe s := by
  have hq := h (s.heap.objs.size + 1) s.heap.objs.size (I.hok.fresh (Nat.le_succ _)) (I.hok.fresh (Nat.le_refl _)) (Nat.ne_of_lt (Nat.lt_succ_self _))
  have I2 := Inv.made (C := C) I
  have r1 : Vals (V.ref (s.heap.objs.size + 1) :: vs) (Value.ref (s.heap.objs.size + 1) :: us) := .cons rfl r
  have r2 : Vals (pick pm ((V.ref (s.heap.objs.size + 1) :: vs) ++ (zs ++ dvs))) (pick pm ((Value.ref (s.heap.objs.size + 1) :: us) ++ (ws ++ ds))) := pick_paired (r1.append (rz.append hd)) pm
  have n1 : (Value.ref (s.heap.objs.size + 1) :: us).length = n + 1 := by
    rw [List.length_cons, ← r.length, l1]
  refine wpAny_call (make_map (f := fa') I.kIn M.makes M.init (beq_iff_eq.mp M.fn) (codeAny_mono (F.run _ X.stack _ _ ⟨Value.ref (s.heap.objs.size + 1) :: us, ks.zip ws⟩ _ _ _ _ (hr.make C us (ks.zip ws)) hg
    (I2.env0.make C us (ks.zip ws)) (hb.to _ (Value.ref (s.heap.objs.size + 1) :: us) ws I2.kIn n1 (rz.length.symm.trans l2)) r2 hq) fun r s' hq' => ?_))
  cases r with
  | error e => exact pass_at tk σ pins _ _ e s' I2 hq'
  | ok fl =>
    cases fl with
    | ret u =>
      obtain ⟨v, H', I3, rv, ev, q3⟩ := I2.after hq'
      subst ev
      exact ⟨rv, ⟨V.ref (s.heap.objs.size + 1), H', I3, rfl, q3⟩⟩
    | next => exact False.elim hq'
    | brk => exact False.elim hq'
    | cont => exact False.elim hq'
def makeK (n m np : Nat) (pm : List Nat) (Fn : DFn) (c : Str) (dd : List D) (u uk : AF) : VF := fun Γ => (u Γ).bind fun es Γ1 => (uk Γ1).bind fun zs Γ2 =>
  if es.length = n ∧ zs.length = m ∧ (pick pm (es ++ (zs ++ dd.map EV.d))).length + 1 = np then finMake Fn c [] (pick pm (es ++ (zs ++ dd.map EV.d))) Γ2 else .fail
theorem pick_succ {α : Type} (pm : List Nat) (x : α) (xs : List α) : pick (0 :: pm.map (· + 1)) (x :: xs) = x :: pick pm xs := by
  unfold pick
  rw [List.filterMap_cons, List.getElem?_cons_zero, List.filterMap_map]
  rfl
theorem sem_makeK {Γ : En} {σ : St} {H G : Hp} {Fr : Fr} {mk : Nat} {es zs : List EV} {vs ws : List V} (R : Rl X.K Fr Γ σ H G) (rs : vsrel X.K σ G es vs) (rz : vsrel X.K σ G zs ws) (hdd : ∀ G, Reps X.K G dd dvs) :
    OutV X.K W (vvrel X.K) Fr σ G (fun Q => vs.length = n ∧ ws.length = mk ∧ ∀ x dx, H x = none → H dx = none → dx ≠ x → spL X.K ps (some 0) Fn (pick (0 :: pm.map (· + 1)) ((.ref x :: vs) ++ (ws ++ dvs))) (upd (upd H dx (.own x)) x (.ins (He.ga X.K cn) dx [])) (fun v H2 => v = .non ∧ Q (.ref x) H2) (fun cls d H' => W cls d σ H'))
      (if es.length = n ∧ zs.length = mk ∧ (pick pm (es ++ (zs ++ dd.map EV.d))).length + 1 = ps.length then finMake Fn cn [] (pick pm (es ++ (zs ++ dd.map EV.d))) Γ else .fail) := by
  split
  · rename_i h
    have rp : vsrel X.K σ G (pick pm (es ++ (zs ++ dd.map EV.d))) (pick pm (vs ++ (ws ++ dvs))) := pick_paired (paired_app rs (paired_app rz (reps_vs (hdd G)))) pm
    refine OutV.of (out_make (dvs := []) (cn := cn) R rp (fun _ => rfl)) fun Q q => ⟨by rw [vsrel_len rs, h.1], by rw [vsrel_len rz, h.2.1], fun x dx h1 h2 h3 => ?_⟩
    have q2 := q x dx h1 h2 h3
    rw [List.append_nil] at q2
    rw [List.cons_append, pick_succ]
    exact ⟨by rw [List.length_cons, vsrel_len rp, h.2.2], q2⟩
  · trivial
theorem fv_makeK0 (M : Mk X.K (He.ga X.K cn) fa') (F : FnG X.prog X.w X.K X.mg X.base (L2.CX X.prog X.w) k fa' fd ps (spL X.K ps (some 0) Fn)) (hm : X.mg x = some (.ref (He.ga X.K cn))) (hb : KB X.K fd ps 1 ks (0 :: pm.map (· + 1)) ds) (hd : Vals dvs ds) (hdd : ∀ G, Reps X.K G dd dvs)
    (hr : Room (k + 1) X.A) (hgd : X.A.guards = some []) (tk : Takes X W) (hkw : FK X W kws uk) (hg : Gl X x := by rfl) (hall : (backToKw pos (keywordEach kws X.env)).all (·.1.isSome) = true := by rfl) (hks : (backToKw pos (keywordEach kws X.env)).filterMap (·.1) = ks := by rfl)
    (hdb : (x == ("__debug__" : Str)) = false := by decide) (hpl : ((backTo pos (starEach [] X.env)).any (·.1) || (backToKw pos (keywordEach kws X.env)).any (·.1.isNone)) = false := by rfl) :
    FV X W (.Call (.Name x p) [] kws pos) (makeK 0 ks.length ps.length pm Fn cn dd aNil uk) := by
  obtain ⟨t2, p2, s2⟩ := hkw
  refine ⟨fun σ H Q => t2 σ H fun zs H1 => ([] : List V).length = 0 ∧ zs.length = ks.length ∧ ∀ x dx, H1 x = none → H1 dx = none → dx ≠ x → spL X.K ps (some 0) Fn (pick (0 :: pm.map (· + 1)) ((.ref x :: []) ++ (zs ++ dvs))) (upd (upd H1 dx (.own x)) x (.ins (He.ga X.K cn) dx [])) (fun v H2 => v = .non ∧ Q (.ref x) H2) (fun cls d H' => W cls d σ H'), ⟨fun pins s' σ H Q I h => ?_⟩, fun Fr Γ σ H G R => ?_⟩
  · refine wpAny_Call_Name_kw (ld_glob I hg hm ?_ hdb)
    refine PySem.W.callWith_KW0 (h₀ := X.base) I.ok.mod.kin M.kp hall ?_ hpl
    refine thn (p2.run pos pins s' σ H _ I h) fun ws s2 ⟨zs, H2, I2, rz, l1, l2, q2⟩ => ⟨I2.kIn, ?_⟩
    rw [hks]
    exact run_makeGK (n := 0) (us := []) (vs := []) M F hr hgd hb hd tk I2 .nil rz l1 l2 q2
  · refine OutV.bind (T' := fun (zs : List V) (H1 : Hp) (Q : VK) => ([] : List V).length = 0 ∧ zs.length = ks.length ∧ ∀ x dx, H1 x = none → H1 dx = none → dx ≠ x → spL X.K ps (some 0) Fn (pick (0 :: pm.map (· + 1)) ((.ref x :: []) ++ (zs ++ dvs))) (upd (upd H1 dx (.own x)) x (.ins (He.ga X.K cn) dx [])) (fun v H2 => v = .non ∧ Q (.ref x) H2) (fun cls d H' => W cls d σ H')) (s2 Fr Γ σ H G R) fun zs Γ1 ws H1 G1 R1 _ rz => ?_
    exact sem_makeK R1 (show vsrel X.K σ G1 [] [] from .nil) rz hdd
/-- an instance of this class at hand -/
def insOf (c : Str) (ev : EV) (Γ : En) : Option (List Str × List D) := match ev.look Γ with
  | some (.ins c' ns fs) => if c' = c then some (ns, fs) else none
  | _ => none
def fldOf (f : Str) : List Str → List D → Option D
  | n :: ns, d :: ds => if n = f then some d else fldOf f ns ds
  | _, _ => none
def fldE (c f : Str) (fo : EF) : EF := fun Γ => (fo Γ).bind fun ev Γ1 => match (insOf c ev Γ1).bind (fun p => fldOf f p.1 p.2) with
  | some d => .ok (.d d) Γ1
  | none => .fail
theorem insOf_ok {K : Frg} {F : Fr} {Γ : En} {σ : St} {H G : Hp} (R : Rl K F Γ σ H G) {ev : EV} {v : V} {ns : List Str} {fs : List D} (r : vrel K σ G ev v) (e : insOf cn ev Γ = some (ns, fs)) :
    ∃ a dx fv, v = .ref a ∧ H a = some (.ins (He.ga K cn) dx fv) ∧ fv.map (·.1) = ns ∧ Reps K G fs (fv.map (·.2)) := by
  unfold insOf at e
  split at e
  · rename_i c' ns' fs' el
    split at e
    · rename_i hc
      cases e
      subst hc
      rcases R.look r el with ⟨a, dx, fv, rfl, h, n, rp⟩ | ⟨a, u, o, rfl, eo, hu, ro⟩
      · exact ⟨a, dx, fv, rfl, R.gh _ _ h, n, rp⟩
      · cases o with
        | i c ns fs =>
          cases eo
          obtain ⟨dx, fv, rfl, n, rp⟩ := ro
          exact ⟨a, dx, fv, rfl, hu, n, rp⟩
        | l _ => cases eo
        | k _ _ => cases eo
    · cases e
  · cases e
theorem fldOf_ok {K : Frg} {G : Hp} : ∀ {ns : List Str} {fs : List D} {fv : List (Str × V)} {d : D}, fv.map (·.1) = ns → Reps K G fs (fv.map (·.2)) → fldOf fn ns fs = some d → ∃ v, fv.lookup fn = some v ∧ Rep K G d v
  | [], _, fv, d, h, _, e => by unfold fldOf at e; cases e
  | n :: ns, [], fv, d, h, _, e => by unfold fldOf at e; cases e
  | n :: ns, d0 :: ds, [], d, h, _, e => by cases h
  | n :: ns, d0 :: ds, (y, v) :: fv, d, h, rp, e => by
    obtain ⟨rfl, h2⟩ := List.cons_eq_cons.mp (show y :: fv.map (·.1) = n :: ns from h)
    obtain ⟨v', r', e', r1, r2⟩ := rp
    obtain ⟨rfl, rfl⟩ := List.cons_eq_cons.mp (show v :: fv.map (·.2) = v' :: r' from e')
    unfold fldOf at e
    split at e
    · rename_i hy
      cases e
      subst hy
      exact ⟨v, by rw [List.lookup_cons, beq_self_eq_true], r1⟩
    · rename_i hy
      obtain ⟨w, h3, h4⟩ := fldOf_ok h2 r2 e
      refine ⟨w, ?_, h4⟩
      rw [List.lookup_cons, beq_eq_false_iff_ne.mpr (Ne.symm hy)]
      exact h3
theorem fe_fld (cl : Cls X.K (He.ga X.K cn)) (na : NoAttr X.K (He.ga X.K cn) fn) (ho : FE X W o fo) (hab : attributeBase o fn X.env (eval o X.env) = eval o X.env := by rfl) : FE X W (.Attribute o fn pos) (fldE cn fn fo) := by
  obtain ⟨t, p, s⟩ := ho
  refine ⟨_, pe_fld p hab, Sem.bind (T := fun (x : V) σ (H1 : Hp) (Q : VK) => ∃ a C dx fs v, x = .ref a ∧ H1 a = some (.ins C dx fs) ∧ Cls X.K C ∧ NoAttr X.K C fn ∧ fs.lookup fn = some v ∧ Q v H1) s fun F Γ σ H G ev v R r => ?_⟩
  split
  · rename_i d e
    obtain ⟨⟨ns, fs⟩, e1, e2⟩ := Option.bind_eq_some_iff.mp e
    obtain ⟨a, dx, fv, rfl, h, n, rp⟩ := insOf_ok R r e1
    obtain ⟨w, h3, h4⟩ := fldOf_ok n rp e2
    exact fun Q q => ⟨a, _, dx, fv, w, rfl, h, cl, na, h3, q w H G R (Le.refl G) h4⟩
  · trivial
def noX (r : O VV) : O VV := match r with
  | .exc _ _ _ _ => .fail
  | r => r
theorem OutV.noX {α : Type} {K : Frg} {W : WX} {rel : Fr → En → St → Hp → Hp → VV → α → Prop} {F : Fr} {σ : St} {G : Hp} {T : (α → Hp → Prop) → Prop} : ∀ {r : O VV}, OutV K noW rel F σ G T r → OutV K W rel F σ G T (noX r)
  | .ok _ _, h => h
  | .exc _ _ _ _, _ => trivial
  | .fail, _ => trivial
def propV (c : Str) (Fn : DFn) (fo : EF) : VF := fun Γ => (fo Γ).bind fun ev Γ1 => if (insOf c ev Γ1).isSome then noX (finCall none Fn [] [ev] Γ1) else .fail
theorem getpropG {C g2 p2 a2 dx : Addr} {fs : List (Str × V)} {pins : List (Addr × Obj)} {σ : St} {H : Hp} {s : Shared} {Q : VK} {b : Bool} (I : Inv X pins σ H s) (ea : H a2 = some (.ins C dx fs)) (c : Cls X.K C) (hp : PropOf X.K C fn p2 g2)
    (F : FnG X.prog X.w X.K X.mg X.base (L2.CX X.prog X.w) k g2 fd ps sp) (hr : Room (k + 1) X.A) (hg : X.A.guards = some []) (hb : Binds X.K fd ps []) (h : sp [.ref a2] H Q (fun _ _ _ => False)) :
    wpAny (model X.prog X.w) X.A (getAttr (.ref a2) fn b) (EP X pins σ Q) X.xe s := by
  obtain ⟨mA, O, _, _, _, _⟩ := ins_get I.hok ea
  obtain ⟨od, J, _⟩ := O.look
  obtain ⟨rest, hrec⟩ := hp.rec_
  have I1 := I.tok (s.toks + 1)
  have hl : ([Value.ref a2] ++ []).length = ps.length := by
    rw [← F.len _ _ _ _ h]; rfl
  have hc : (PySem.W.clsIn X.K C).isSome = true := by
    obtain ⟨cd, hc, _⟩ := PySem.W.any_some c.hd
    rw [hc]
    rfl
  refine PySem.W.get_bind I.kIn J (PySem.W.plainGet_of (c.get fn)).1 (PySem.W.findObj_data hc hp.at_ hp.get hp.tak) (PySem.W.plainGet_of (c.get fn)).2 (wpAny_call (PySem.W.prop_get (s := { s with toks := s.toks + 1 }) I.kIn hrec ?_))
  refine codeAny_mono (F.run X.A.in1 X.stack { s with toks := s.toks + 1 } H ⟨[.ref a2], []⟩ [.ref a2] [.ref a2] Q _ hr.in1 hg I1.env0.in1 (hb _ [.ref a2] I1.kIn hl) (.cons rfl .nil) h) fun r s' hq => ?_
  cases r with
  | error er =>
    obtain ⟨_, _, _, _, _, _, _, _, _, _, _, _, z⟩ := (hq : L2.CX X.prog X.w X.stack H { s with toks := s.toks + 1 } (fun _ _ _ => False) er s')
    exact z.elim
  | ok fl =>
    cases fl with
    | ret u =>
      obtain ⟨v, H', I3, rv, q3⟩ := I1.after hq
      show wpAny _ _ (handedOut u) _ _ _
      rw [PySem.W.handedOut_of (handed_of rv)]
      exact wpAny_pure ⟨v, H', I3, rv, q3⟩
    | next => exact False.elim hq
    | brk => exact False.elim hq
    | cont => exact False.elim hq
theorem fv_prop {g2 p2 : Addr} (cl : Cls X.K (He.ga X.K cn)) (hp : PropOf X.K (He.ga X.K cn) fn p2 g2) (F : FnG X.prog X.w X.K X.mg X.base (L2.CX X.prog X.w) k g2 fd ps (spL X.K ps none Fn)) (hb : Binds X.K fd ps [])
    (hr : Room (k + 1) X.A) (hgd : X.A.guards = some []) (hn : 1 = ps.length) (ho : FE X W o fo) (hab : attributeBase o fn X.env (eval o X.env) = eval o X.env := by rfl) :
    FV X W (.Attribute o fn pos) (propV cn Fn fo) := by
  obtain ⟨t, pt, s⟩ := ho
  refine ⟨fun σ H Q => t σ H fun x H1 => ∃ a dx fs, x = .ref a ∧ H1 a = some (.ins (He.ga X.K cn) dx fs) ∧ spL X.K ps none Fn [.ref a] H1 Q (fun _ _ _ => False), ⟨fun pins s' σ H Q I h => ?_⟩, fun Fr Γ σ H G R => ?_⟩
  · refine attr_of hab (thn (pt.run pins s' σ H _ I h) fun u s1 ⟨x, H1, I1, rx, a, dx, fs, ex, ea, q⟩ => ?_)
    subst ex
    obtain rfl : u = Value.ref a := rx
    exact getpropG I1 ea cl hp F hr hgd hb q
  · refine OutV.bind (T' := fun (x : V) (H1 : Hp) (Q : VK) => ∃ a dx fs, x = .ref a ∧ H1 a = some (.ins (He.ga X.K cn) dx fs) ∧ spL X.K ps none Fn [.ref a] H1 Q (fun _ _ _ => False)) (s Fr Γ σ H G R) fun ev Γ1 v H1 G1 R1 _ rv => ?_
    split
    · rename_i hi
      obtain ⟨⟨ns, fs⟩, e1⟩ := Option.isSome_iff_exists.mp hi
      obtain ⟨a, dx, fv, rfl, h, n, rp⟩ := insOf_ok R1 rv e1
      have rs : vsrel X.K σ G1 [ev] [V.ref a] := .cons rv .nil
      refine OutV.noX (OutV.of (out_call (W := noW) (dvs := []) (dd := []) (b := none) R1 rs (fun _ => rfl)) fun Q q => ⟨a, dx, fv, rfl, h, by rw [← hn]; rfl, q⟩)
    · trivial
def methV (b : Option Nat) (n : Nat) (c m : Str) (Fn : DFn) (dd : List D) (fo : EF) (u : AF) : VF := fun Γ => (fo Γ).bind fun eo Γ1 => match insOf c eo Γ1 with
  | some (ns, _) => if ns.contains m then .fail else (u Γ1).bind fun es Γ2 => if es.length = n then finCall b Fn dd (eo :: es) Γ2 else .fail
  | none => .fail
theorem look_none {fv : List (Str × V)} {ns : List Str} (h : fv.map (·.1) = ns) (e : ¬ ns.contains m = true) : fv.lookup m = none := by
  rw [List.lookup_eq_none_iff]
  intro p hp
  exact bne_iff_ne.mpr fun z => e (by rw [← h, List.contains_iff_mem]; exact List.mem_map.mpr ⟨p, hp, z.symm⟩)
theorem fv_meth {b : Option Nat} {pl : PySem.Sem Bool} (cl : Cls X.K (He.ga X.K cn)) (hm : Meth X.K (He.ga X.K cn) m fa') (F : FnG X.prog X.w X.K X.mg X.base (L2.CX X.prog X.w) k fa' fd ps (spL X.K ps b Fn)) (hb : Binds X.K fd ps ds) (hd : Vals dvs ds) (hdd : ∀ G, Reps X.K G dd dvs)
    (hr : Room k X.A) (hgd : X.A.guards = some []) (tk : Takes X W) (hn : n + 1 + dvs.length = ps.length) (ho : FE X W o fo) (ha : FA X W (e :: es) u)
    (hst : starEach (e :: es) X.env = (false, eval e X.env) :: starEach es X.env := by rfl) (hpl : (backTo pos (starEach es X.env)).any (·.1) = false := by rfl)
    (ht : eval (.Call (.Attribute o m apos) (e :: es) [] pos) X.env = (do
      let ov ← eval o X.env
      standAt apos.atName
      let (f, first) ← holding [ov] (getMethod ov m pl)
      callWith pos f first (backTo pos (starEach (e :: es) X.env)) (backToKw pos (keywordEach [] X.env))) := by rfl) :
    FV X W (.Call (.Attribute o m apos) (e :: es) [] pos) (methV b n cn m Fn dd fo u) := by
  obtain ⟨t1, p1, s1⟩ := ho
  obtain ⟨t2, p2, s2⟩ := ha
  refine ⟨fun σ H Q => t1 σ H fun x H1 => ∃ a dx fs, x = .ref a ∧ H1 a = some (.ins (He.ga X.K cn) dx fs) ∧ fs.lookup m = none ∧ t2 σ H1 fun vs H2 => spL X.K ps b Fn (x :: (vs ++ dvs)) H2 Q (fun cls d H' => W cls d σ H'), ⟨fun pins s' σ H Q I h => ?_⟩, fun Fr Γ σ H G R => ?_⟩
  · refine PySem.W.methodCall_KW (pl := pl) (thn (p1.run pins s' σ H _ I h) fun u s1 ⟨x, H1, I1, rx, a, dx, fs, ex, ea, l, q⟩ => ?_) ht
    subst ex
    obtain rfl : u = Value.ref a := rx
    refine getmeth_ok I1 ea cl hm l ?_
    refine PySem.W.callWith_K (first := [.ref a]) (h₀ := X.base) I.ok.mod.kin hm.kp (thn (p2.run pos pins s1 σ H1 _ I1 q) fun us s2 ⟨vs, H2, I2, r, q2⟩ => ⟨I2.kIn, ?_⟩) hst hpl
    exact run_G (us := .ref a :: us) (vs := .ref a :: vs) F hr hgd hb hd tk I2 (.cons rfl r) q2
  · refine OutV.bind (T' := fun (x : V) (H1 : Hp) (Q : VK) => ∃ a dx fs, x = .ref a ∧ H1 a = some (.ins (He.ga X.K cn) dx fs) ∧ fs.lookup m = none ∧ t2 σ H1 fun vs H2 => spL X.K ps b Fn (x :: (vs ++ dvs)) H2 Q (fun cls d H' => W cls d σ H')) (s1 Fr Γ σ H G R) fun eo Γ1 v H1 G1 R1 _ rv => ?_
    split
    · rename_i ns fs e1
      split
      · trivial
      · rename_i hns
        obtain ⟨a, dx, fv, rfl, h, n', rp⟩ := insOf_ok R1 rv e1
        refine OutV.of (OutV.bind (T' := fun vs H2 Q => spL X.K ps b Fn (V.ref a :: (vs ++ dvs)) H2 Q (fun cls d H' => W cls d σ H')) (s2 Fr Γ1 σ H1 G1 R1) fun es Γ2 vs H2 G2 R2 le2 rs => ?_) fun Q q => ⟨a, dx, fv, rfl, h, look_none n' hns, q⟩
        split
        · rename_i hlen
          have rs2 : vsrel X.K σ G2 (eo :: es) (V.ref a :: vs) := .cons (vrel_mono _ _ _ _ _ _ le2 rv) rs
          have hl : ((V.ref a :: vs) ++ dvs).length = ps.length := by rw [List.length_append, List.length_cons, vsrel_len rs, hlen]; exact hn
          exact OutV.of (out_call (b := b) R2 rs2 hdd) fun Q q => ⟨hl, q⟩
        · trivial
    · trivial
theorem fv_meth0 {b : Option Nat} {pl : PySem.Sem Bool} (cl : Cls X.K (He.ga X.K cn)) (hm : Meth X.K (He.ga X.K cn) m fa') (F : FnG X.prog X.w X.K X.mg X.base (L2.CX X.prog X.w) k fa' fd ps (spL X.K ps b Fn)) (hb : Binds X.K fd ps ds) (hd : Vals dvs ds) (hdd : ∀ G, Reps X.K G dd dvs)
    (hr : Room k X.A) (hgd : X.A.guards = some []) (tk : Takes X W) (hn : 0 + 1 + dvs.length = ps.length) (ho : FE X W o fo)
    (ht : eval (.Call (.Attribute o m apos) [] [] pos) X.env = (do
      let ov ← eval o X.env
      standAt apos.atName
      let (f, first) ← holding [ov] (getMethod ov m pl)
      callWith pos f first (backTo pos (starEach [] X.env)) (backToKw pos (keywordEach [] X.env))) := by rfl) :
    FV X W (.Call (.Attribute o m apos) [] [] pos) (methV b 0 cn m Fn dd fo aNil) := by
  obtain ⟨t1, p1, s1⟩ := ho
  refine ⟨fun σ H Q => t1 σ H fun x H1 => ∃ a dx fs, x = .ref a ∧ H1 a = some (.ins (He.ga X.K cn) dx fs) ∧ fs.lookup m = none ∧ spL X.K ps b Fn (x :: ([] ++ dvs)) H1 Q (fun cls d H' => W cls d σ H'), ⟨fun pins s' σ H Q I h => ?_⟩, fun Fr Γ σ H G R => ?_⟩
  · refine PySem.W.methodCall_KW (pl := pl) (thn (p1.run pins s' σ H _ I h) fun u s1 ⟨x, H1, I1, rx, a, dx, fs, ex, ea, l, q⟩ => ?_) ht
    subst ex
    obtain rfl : u = Value.ref a := rx
    refine getmeth_ok I1 ea cl hm l ?_
    exact PySem.W.callWith_K0 (first := [.ref a]) I1.kIn hm.kp (run_G (us := [.ref a]) (vs := [.ref a]) F hr hgd hb hd tk I1 (.cons rfl .nil) q)
  · refine OutV.bind (T' := fun (x : V) (H1 : Hp) (Q : VK) => ∃ a dx fs, x = .ref a ∧ H1 a = some (.ins (He.ga X.K cn) dx fs) ∧ fs.lookup m = none ∧ spL X.K ps b Fn (x :: ([] ++ dvs)) H1 Q (fun cls d H' => W cls d σ H')) (s1 Fr Γ σ H G R) fun eo Γ1 v H1 G1 R1 _ rv => ?_
    split
    · rename_i ns fs e1
      split
      · trivial
      · rename_i hns
        obtain ⟨a, dx, fv, rfl, h, n', rp⟩ := insOf_ok R1 rv e1
        have rs2 : vsrel X.K σ G1 [eo] [V.ref a] := .cons rv .nil
        have hl : ([V.ref a] ++ dvs).length = ps.length := by rw [List.length_append]; exact hn
        exact OutV.of (out_call (b := b) R1 rs2 hdd) fun Q q => ⟨a, dx, fv, rfl, h, look_none n' hns, hl, q⟩
    · trivial
def putFD (f : Str) (d : D) : List Str → List D → List Str × List D
  | n :: ns, e :: es => if n = f then (n :: ns, d :: es) else let r := putFD f d ns es; (n :: r.1, e :: r.2)
  | _, _ => ([f], [d])
def setFK (i : Nat) (c f : Str) (r : Option (D × En)) : O Fl := match r with
  | some (d, Γ1) => (match ownD Γ1 i with
    | some (.i c' ns fs) => if c' = c ∧ ns.length < 1000 then .ok .nx (putOwn Γ1 i (.i c (putFD f d ns fs).1 (putFD f d ns fs).2)) else .fail
    | _ => .fail)
  | none => .fail
def setF (i : Nat) (c f : Str) (fv : EF) : SF := fun Γ => (fv Γ).bind fun ev Γ1 => setFK i c f (frz1 ev Γ1)
theorem putFD_ok {K : Frg} {G : Hp} {d : D} {v : V} (r : Rep K G d v) : ∀ {ns : List Str} {fs : List D} {fv : List (Str × V)}, fv.map (·.1) = ns → Reps K G fs (fv.map (·.2)) → (putF fn v fv).map (·.1) = (putFD fn d ns fs).1 ∧ Reps K G (putFD fn d ns fs).2 ((putF fn v fv).map (·.2))
  | [], fs, [], _, rp => by
    cases fs with
    | nil => exact ⟨rfl, v, [], rfl, r, rfl⟩
    | cons d0 ds => obtain ⟨_, _, e, _⟩ := rp; cases e
  | [], _, _ :: _, h, _ => by cases h
  | n :: ns, [], [], h, _ => by cases h
  | n :: ns, [], (y, w) :: fv, h, rp => by cases (show w :: fv.map (·.2) = [] from rp)
  | n :: ns, d0 :: ds, [], h, _ => by cases h
  | n :: ns, d0 :: ds, (y, w) :: fv, h, rp => by
    obtain ⟨rfl, h2⟩ := List.cons_eq_cons.mp (show y :: fv.map (·.1) = n :: ns from h)
    obtain ⟨v', r', e', r1, r2⟩ := rp
    obtain ⟨rfl, rfl⟩ := List.cons_eq_cons.mp (show w :: fv.map (·.2) = v' :: r' from e')
    unfold putFD putF
    by_cases hy : y = fn
    · subst hy
      rw [if_pos rfl, if_pos rfl]
      exact ⟨by rw [List.map_cons, h2], v, _, rfl, r, r2⟩
    · rw [if_neg hy, if_neg hy]
      obtain ⟨k1, k2⟩ := putFD_ok r h2 r2
      exact ⟨by rw [List.map_cons, k1], w, _, rfl, r1, k2⟩
theorem fs_setf {i : Nat} {y : Str} {py : Pos} (cl : Cls X.K (He.ga X.K cn)) (na : NoAttr X.K (He.ga X.K cn) fn) (hN : X.N[i]? = some y) (hv : Vis X.env.scope y) (hval : FE X W value f) (hd : (y == ("__debug__" : Str)) = false := by decide) (hcd : (y == ("__classdict__" : Str)) = false := by decide)
    (hs : swapsWith value (some (.Attribute (.Name y py) fn pos')) pos.line X.env = pure false := by rfl) : FS X W (.Assign [.Attribute (.Name y py) fn pos'] value pos) (setF i cn fn f) := by
  obtain ⟨t, pt, s⟩ := hval
  refine ⟨_, ps_fld (pe_var hN hv hd hcd) pt hs, fun F Γ σ H G R => ?_⟩
  refine OutS.bind (T' := fun (v : V) (H1 : Hp) (D : Ends) => ∃ w, σ[i]? = some (some w) ∧ ∃ a C dx fs, w = .ref a ∧ H1 a = some (.ins C dx fs) ∧ Cls X.K C ∧ NoAttr X.K C fn ∧ fs.length < 1000 ∧ D.nx σ (upd H1 a (.ins C dx (putF fn v fs)))) (s F Γ σ H G R) fun ev Γ1 v H1 G1 R1 _ r1 => ?_
  unfold setFK
  split
  · rename_i d Γ2 e2
    obtain ⟨G2, R2, le2, rp⟩ := R1.frz1 r1 e2
    split
    · rename_i c' ns fs ex
      split
      · rename_i hc
        obtain ⟨rfl, hlen⟩ := hc
        obtain ⟨q0, u, g1, g2, g3, g4, k⟩ := R2.own ex
        obtain ⟨dx, fv, rfl, hn, hr⟩ := g4
        obtain ⟨k1, k2⟩ := putFD_ok (fn := fn) rp hn hr
        exact fun D q => ⟨_, g1, q0, _, dx, fv, rfl, g2, cl, na, by rw [← hn, List.length_map] at hlen; exact hlen, q σ _ G2 (k (.i c' (putFD fn d ns fs).1 (putFD fn d ns fs).2) (.ins (He.ga X.K c') dx (putF fn v fv)) ⟨dx, _, rfl, k1, k2⟩) le2⟩
      · trivial
    · trivial
  · trivial
end
end FL

/-! part F20 -/
set_option Elab.async false
set_option linter.all false
set_option maxRecDepth 100000
set_option maxHeartbeats 4000000
namespace FLB
open PySem PySem.Spec PyProof.Rows PySem.Sem
open PySem.Sem (wp)
theorem truthy_ins {M : Model} {A : Around} {E : Value → Shared → Prop} {s : Shared} {K : PySem.W.Frag} {x C : Addr} {ox : Obj} {od : Option Obj} {Q : Bool → Shared → Prop} (X : K.In s.heap) (I : PySem.W.InstAt s.heap x ox C od) (hs : PySem.W.findIn K (.ref C) "__bool__" = some none) (hl : PySem.W.findIn K (.ref C) "__len__" = some none)
    (h : Q true s) : wpAny M A (truthy (.ref x)) Q E s := by
  unfold truthy
  refine wpAny_bind (m := callSpecial? (.ref x) (Str.ofString "__bool__")) (wpAny_bind (wpAny_bind (I.type.here ((PySem.W.looks_findIn X hs).here (wpAny_pure ?_)))))
  refine wpAny_bind (wpAny_bind (I.type.here ((PySem.W.looks_findIn X hl).here ?_)))
  exact wpAny_pure h
theorem meets_bool_ins (K : PySem.W.Frag) (x C : Addr) (ox : Obj) (od : Option Obj) (hs : PySem.W.findIn K (.ref C) "__bool__" = some none) (hl : PySem.W.findIn K (.ref C) "__len__" = some none) :
    Meets (Builtin.«bool.__new__» ⟨[.type "bool", .ref x], []⟩) (fun _ R s => (K.In s.heap ∧ PySem.W.InstAt s.heap x ox C od) ∧ R (.ok (.ret (.bool true))) s) :=
  Meets.of_wp fun prog w A R s hh => by
    obtain ⟨⟨X, I⟩, hh⟩ := hh
    have f1 := PySem.F.conv_sub_bool
    repeat (any_goals (first | assumption | (with_reducible refine truthy_ins X I hs hl ?_) | wp_step))
    all_goals first | exact ⟨_, rfl, hh⟩ | exact hh | skip
end FLB
namespace FL
open PySem PySem.Spec PyProof.Rows L2
variable {X : Cx} {W : WX} {e a b c o tg iter value : Expr} {f g f1 f2 f3 fo fa : EF} {pos pos' apos kpos p : Pos} {es : List Expr} {u uk : AF} {kws : List Keyword}
section
variable {k n : Nat} {f' C : Addr} {fd : FuncData} {ps ks : List Str} {sp : Sp} {x m cn fn : Str} {Fn : DFn}
/-- what a special method's call asks: its promise, a text -/
theorem run_special {A : Around} {pins : List (Addr × Obj)} {σ : St} {H : Hp} {s : Shared} {Q : Value → Shared → Prop} {us : List Value} {vs : List V} (F : FnG X.prog X.w X.K X.mg X.base (L2.CX X.prog X.w) k f' fd ps sp) (hr : Room k A) (hg : A.guards = some []) (e0 : Env0 X.prog X.w X.K X.mg X.base A X.stack s H) (hb : Binds X.K fd ps [])
    (I : Inv X pins σ H s) (r : Vals vs us) (T : VK) (h : sp vs H T (fun _ _ _ => False)) (hq : ∀ v H' u s', Inv X pins σ H' s' → RelV v u → T v H' → Q u s') : wpAny (model X.prog X.w) A (call (.ref f') us) Q X.xe s := by
  have hl : (us ++ []).length = ps.length := by rw [List.append_nil, ← r.length]; exact F.len _ _ _ _ h
  have hb' := hb s us I.kIn hl
  rw [List.append_nil] at hb'
  refine wpAny_call (codeAny_mono (F.run A X.stack s H ⟨us, []⟩ us vs T _ hr hg e0 hb' r h) fun r s' hq' => ?_)
  cases r with
  | error er =>
    obtain ⟨_, _, _, _, _, _, _, _, _, _, _, _, z⟩ := (hq' : L2.CX X.prog X.w X.stack H s (fun _ _ _ => False) er s')
    exact z.elim
  | ok fl =>
    cases fl with
    | ret u =>
      obtain ⟨v, H', I3, rv, q3⟩ := I.after hq'
      exact hq v H' u s' I3 rv q3
    | next => exact False.elim hq'
    | brk => exact False.elim hq'
    | cont => exact False.elim hq'
def rIns (C : Addr) (sp : Sp) (P : V → Prop) : List V → Hp → VK → Prop := fun xs H Q => ∃ a dx fs, xs = [.ref a] ∧ H a = some (.ins C dx fs) ∧ sp [.ref a] H (fun v H' => P v ∧ Q v H') (fun _ _ _ => False)
def isS (v : V) : Prop := ∃ y, v = .str y
theorem call_strI (hs : PySem.W.findIn X.K (.ref C) "__str__" = some (some (.ref f'))) (hf : PySem.W.isFn X.K (.ref f') = true) (F : FnG X.prog X.w X.K X.mg X.base (L2.CX X.prog X.w) k f' fd ps sp) (hr : Room (k + 2) X.A) (hg : X.A.guards = some []) (hb : Binds X.K fd ps []) : CallR X (.type "str") (rIns C sp isS) := by
  intro pins s σ H xs us Q I r h
  obtain ⟨a, dx, fs, rfl, ea, h⟩ := h
  obtain rfl := Vals.ref1 r
  obtain ⟨mA, J, _⟩ := ins_get I.hok ea
  obtain ⟨od, J, _⟩ := J.look
  refine PySem.W.kso_call hr.in1.in1.units0 I.kIn J hs hf ?_
  refine run_special (vs := [V.ref a]) F hr.in1.in1 hg I.env0.in1.in1 hb I (.cons rfl .nil) _ h fun v H' u s' I' rv q => ?_
  obtain ⟨⟨y, rfl⟩, q⟩ := q
  obtain ⟨t, rfl⟩ := rv
  exact ⟨.str y, H', I', ⟨t, rfl⟩, q⟩
theorem call_reprI (hs : PySem.W.findIn X.K (.ref C) "__repr__" = some (some (.ref f'))) (hf : PySem.W.isFn X.K (.ref f') = true) (F : FnG X.prog X.w X.K X.mg X.base (L2.CX X.prog X.w) k f' fd ps sp) (hr : Room (k + 1) X.A) (hg : X.A.guards = some []) (hb : Binds X.K fd ps []) : CallR X (.builtin "repr") (rIns C sp isS) := by
  intro pins s σ H xs us Q I r h
  obtain ⟨a, dx, fs, rfl, ea, h⟩ := h
  obtain rfl := Vals.ref1 r
  obtain ⟨mA, J, _⟩ := ins_get I.hok ea
  obtain ⟨od, J, _⟩ := J.look
  obtain ⟨m, hF⟩ := I.fr
  refine PySem.W.repr_K hr.in1.units0 hF I.ok.mod.kin J hs hf ?_
  refine run_special (vs := [V.ref a]) F hr.in1 hg I.env0.in1 hb I (.cons rfl .nil) _ h fun v H' u s' I' rv q => ?_
  obtain ⟨⟨y, rfl⟩, q⟩ := q
  obtain ⟨t, rfl⟩ := rv
  exact ⟨.str y, H', I', ⟨t, rfl⟩, q⟩
theorem call_boolI (hs : PySem.W.findIn X.K (.ref C) "__bool__" = some none) (hl : PySem.W.findIn X.K (.ref C) "__len__" = some none) : CallR X (.type "bool") (fun xs H Q => ∃ a dx fs, xs = [.ref a] ∧ H a = some (.ins C dx fs) ∧ Q (.bl true) H) := by
  intro pins s σ H xs us Q I r h
  obtain ⟨a, dx, fs, rfl, ea, q⟩ := h
  obtain rfl := Vals.ref1 r
  obtain ⟨mA, J, _⟩ := ins_get I.hok ea
  obtain ⟨od, J, _⟩ := J.look
  refine call_bool_1 (FLB.meets_bool_ins X.K a C _ _ hs hl) ⟨⟨I.kIn, J⟩, rfl, ?_⟩
  exact ⟨.bl true, H, I, rfl, q⟩
end
end FL
namespace FL
open PySem PySem.Spec PyProof.Rows L2
variable {X : Cx} {W : WX} {e a b c o tg iter value : Expr} {f g f1 f2 f3 fo fa : EF} {pos pos' apos kpos p : Pos} {es : List Expr} {u uk : AF} {kws : List Keyword}
structure OwnC (K : Frg) (cn : Str) : Prop where
  cl : Cls K (He.ga K cn)
  ha : PySem.W.findIn K (.ref (He.ga K cn)) "__class__" = some (some (.builtin "object.__class__"))
  hn : PySem.W.specialIn K (.builtin "object.__class__") "__get__" = some (some (.builtin "getset_descriptor.__get__"))
  htk : PySem.W.takesIn K (.builtin "object.__class__") = some true
  hm : PySem.W.mroIn K (He.ga K cn) (.type "object") = some true
def ownB (K : Frg) (cn : Str) : Bool := (He.Fa.cls cn).ok K && (He.eqO (PySem.W.findIn K (.ref (He.ga K cn)) "__class__") (some (some (.builtin "object.__class__"))) && (He.eqO (PySem.W.specialIn K (.builtin "object.__class__") "__get__") (some (some (.builtin "getset_descriptor.__get__"))) &&
  (decide (PySem.W.takesIn K (.builtin "object.__class__") = some true) && decide (PySem.W.mroIn K (He.ga K cn) (.type "object") = some true))))
theorem ownB_ok {K : Frg} {cn : Str} (h : ownB K cn = true) : OwnC K cn := by
  obtain ⟨h1, h⟩ := He.ba h
  obtain ⟨h2, h⟩ := He.ba h
  obtain ⟨h3, h⟩ := He.ba h
  obtain ⟨h4, h5⟩ := He.ba h
  exact ⟨He.cls_ok h1, He.eqO_ok h2, He.eqO_ok h3, of_decide_eq_true h4, of_decide_eq_true h5⟩
def btys : List String := ["NoneType", "bool", "int", "str", "list", "tuple", "dict"]
theorem tyN_mem {x : D} {t : String} (h : tyN x = some t) : t ∈ btys := by
  cases x <;> first | (cases h; decide) | cases h
def isC (cs : List Str) (c : Str) (x : D) : Option Bool := match x with
  | .ins c' _ _ => if cs.contains c' then some (decide (c' = c)) else none
  | .scr _ => none
  | _ => some false
def isCB (K : Frg) (cs : List Str) (c : Str) : Bool := (btys.all fun t => decide (PySem.W.kitOne K (.type t) (.ref (He.ga K c)) = some false)) && cs.all fun c' => ownB K c' && decide (PySem.W.kitOne K (.ref (He.ga K c')) (.ref (He.ga K c)) = some (decide (c' = c)))
theorem tyX_ins {K : Frg} {H : Hp} {cn : Str} {ns : List Str} {fs : List D} {v : V} (O : OwnC K cn) (r : Rep K H (.ins cn ns fs) v) : TyX K H v (.ref (He.ga K cn)) := by
  obtain ⟨a, dx, fv, rfl, h, _⟩ := r
  exact .base (.ins h O.cl O.ha O.hn O.htk O.hm)
theorem isC_ok {K : Frg} {cs : List Str} {c : Str} (hB : isCB K cs c = true) : IsiOk K (.ref (He.ga K c)) (isC cs c) := fun H x v k r e => by
  obtain ⟨h1, h2⟩ := He.ba hB
  have flat : ∀ t, tyN x = some t → isC cs c x = some false → ∃ t, TyX K H v t ∧ PySem.W.kitOne K t (.ref (He.ga K c)) = some k := fun t ht hf => by
    rw [hf] at e
    cases e
    exact ⟨_, tyX_of r ht, of_decide_eq_true (List.all_eq_true.mp h1 t (tyN_mem ht))⟩
  cases x with
  | non => exact flat _ rfl rfl
  | bl _ => exact flat _ rfl rfl
  | int _ => exact flat _ rfl rfl
  | str _ => exact flat _ rfl rfl
  | lst _ => exact flat _ rfl rfl
  | tup _ => exact flat _ rfl rfl
  | dk _ _ => exact flat _ rfl rfl
  | scr _ => cases e
  | ins c' ns fs =>
    unfold isC at e
    simp only at e
    split at e
    · rename_i hc
      cases e
      obtain ⟨h3, h4⟩ := He.ba (List.all_eq_true.mp h2 c' (List.contains_iff_mem.mp hc))
      exact ⟨_, tyX_ins (ownB_ok h3) r, of_decide_eq_true h4⟩
    · cases e
def txK (r : O VV) : O EV := match r with
  | .ok (.e (.d (.str y))) Γ => .ok (.d (.str y)) Γ
  | _ => .fail
theorem out_txt {K : Frg} {F : Fr} {σ : St} {G : Hp} {T : (V → Hp → Prop) → Prop} : ∀ {r : O VV}, OutV K noW (vvrel K) F σ G T r → Out K W (vrel K) F σ G (fun Q => T fun v H' => isS v ∧ Q v H') (txK r)
  | .ok (.e (.d (.str y))) Γ', h => fun Q q => h _ fun v H' G' R le rv => ⟨⟨y, rv⟩, q v H' G' R le rv⟩
  | .ok (.e (.d .non)) _, _ => trivial
  | .ok (.e (.d (.bl _))) _, _ => trivial
  | .ok (.e (.d (.int _))) _, _ => trivial
  | .ok (.e (.d (.lst _))) _, _ => trivial
  | .ok (.e (.d (.tup _))) _, _ => trivial
  | .ok (.e (.d (.scr _))) _, _ => trivial
  | .ok (.e (.d (.dk _ _))) _, _ => trivial
  | .ok (.e (.d (.ins _ _ _))) _, _ => trivial
  | .ok (.e (.own _)) _, _ => trivial
  | .ok (.n _) _, _ => trivial
  | .exc _ _ _ _, _ => trivial
  | .fail, _ => trivial
def textE (cn : Str) (Fn : DFn) (fo : EF) : EF := fun Γ => (fo Γ).bind fun ev Γ1 => if (insOf cn ev Γ1).isSome then txK (finCall none Fn [] [ev] Γ1) else .fail
section
variable {k n : Nat} {f' : Addr} {fd : FuncData} {ps ks : List Str} {x m cn fn : Str} {Fn : DFn}
theorem sem_text {t : TE} (s : Sem X.K W (vrel X.K) t f) (hn : 1 = ps.length) : Sem X.K W (vrel X.K) (fun σ H Q => t σ H fun v H1 => rIns (He.ga X.K cn) (spL X.K ps none Fn) isS [v] H1 Q) (textE cn Fn f) :=
  Sem.bind (T := fun v σ H1 Q => rIns (He.ga X.K cn) (spL X.K ps none Fn) isS [v] H1 Q) s fun F Γ σ H G ev v R rv => by
    split
    · rename_i hi
      obtain ⟨⟨ns, fs⟩, e1⟩ := Option.isSome_iff_exists.mp hi
      obtain ⟨a, dx, fv, rfl, h, n, rp⟩ := insOf_ok R rv e1
      have rs : vsrel X.K σ G [ev] [V.ref a] := .cons rv .nil
      exact Out.of (out_txt (out_call (W := noW) (dvs := []) (dd := []) (b := none) (Fn := Fn) R rs (fun _ => rfl))) fun Q q => ⟨a, dx, fv, rfl, h, by rw [← hn]; rfl, q⟩
    · trivial
theorem fe_strI {p : Pos} (hs : PySem.W.findIn X.K (.ref (He.ga X.K cn)) "__str__" = some (some (.ref f'))) (hf : PySem.W.isFn X.K (.ref f') = true) (F : FnG X.prog X.w X.K X.mg X.base (L2.CX X.prog X.w) k f' fd ps (spL X.K ps none Fn)) (hr : Room (k + 2) X.A) (hgd : X.A.guards = some []) (hb : Binds X.K fd ps [])
    (hm : X.mg "str" = none) (hn : 1 = ps.length) (ha : FE X W e f) (hg : Gl X "str" := by rfl) (he : starEach [e] X.env = (false, eval e X.env) :: starEach [] X.env := by rfl) : FE X W (.Call (.Name "str" p) [e] [] pos) (textE cn Fn f) := by
  obtain ⟨t, pt, s⟩ := ha
  exact ⟨_, pe_callTy (call_strI hs hf F hr hgd hb) hg hm (by decide +kernel) (pa_cons pt pa_nil he) (by decide) (by decide) he (by rfl), sem_text s hn⟩
theorem fe_reprI {p : Pos} (hs : PySem.W.findIn X.K (.ref (He.ga X.K cn)) "__repr__" = some (some (.ref f'))) (hf : PySem.W.isFn X.K (.ref f') = true) (F : FnG X.prog X.w X.K X.mg X.base (L2.CX X.prog X.w) k f' fd ps (spL X.K ps none Fn)) (hr : Room (k + 1) X.A) (hgd : X.A.guards = some []) (hb : Binds X.K fd ps [])
    (hm : X.mg "repr" = none) (hn : 1 = ps.length) (ha : FE X W e f) (hg : Gl X "repr" := by rfl) (he : starEach [e] X.env = (false, eval e X.env) :: starEach [] X.env := by rfl) : FE X W (.Call (.Name "repr" p) [e] [] pos) (textE cn Fn f) := by
  obtain ⟨t, pt, s⟩ := ha
  exact ⟨_, pe_callB (call_reprI hs hf F hr hgd hb) hg hm (by decide +kernel) (pa_cons pt pa_nil he) (by decide) (by decide) he (by rfl), sem_text s hn⟩
def trueI (cn : Str) (fo : EF) : EF := fun Γ => (fo Γ).bind fun ev Γ1 => if (insOf cn ev Γ1).isSome then .ok (.d (.bl true)) Γ1 else .fail
theorem fe_boolI {p : Pos} (hs : PySem.W.findIn X.K (.ref (He.ga X.K cn)) "__bool__" = some none) (hl : PySem.W.findIn X.K (.ref (He.ga X.K cn)) "__len__" = some none) (hm : X.mg "bool" = none) (ha : FE X W e f) (hg : Gl X "bool" := by rfl) (he : starEach [e] X.env = (false, eval e X.env) :: starEach [] X.env := by rfl) :
    FE X W (.Call (.Name "bool" p) [e] [] pos) (trueI cn f) := by
  obtain ⟨t, pt, s⟩ := ha
  refine ⟨_, pe_callTy (call_boolI hs hl) hg hm (by decide +kernel) (pa_cons pt pa_nil he) (by decide) (by decide) he (by rfl), Sem.bind (T := fun (v : V) σ (H1 : Hp) (Q : VK) => ∃ a dx fs, [v] = [V.ref a] ∧ H1 a = some (.ins (He.ga X.K cn) dx fs) ∧ Q (.bl true) H1) s fun F Γ σ H G ev v R rv => ?_⟩
  split
  · rename_i hi
    obtain ⟨⟨ns, fs⟩, e1⟩ := Option.isSome_iff_exists.mp hi
    obtain ⟨a, dx, fv, rfl, h, n, rp⟩ := insOf_ok R rv e1
    exact fun Q q => ⟨a, dx, fv, rfl, h, q _ H G R (Le.refl G) rfl⟩
  · trivial
def altE (pick : En → Bool) (f1 f2 : EF) : EF := fun Γ => if pick Γ then f1 Γ else f2 Γ
theorem fe_alt {pick : En → Bool} (h1 : FE X W e f1) (h2 : FE X W e f2) : FE X W e (altE pick f1 f2) := by
  obtain ⟨t1, p1, s1⟩ := h1
  obtain ⟨t2, p2, s2⟩ := h2
  refine ⟨fun σ H Q => t1 σ H Q ∨ t2 σ H Q, ⟨fun pins s σ H Q I q => q.elim (fun q => p1.run pins s σ H Q I q) fun q => p2.run pins s σ H Q I q⟩, fun F Γ σ H G R => ?_⟩
  unfold altE
  split
  · exact Out.of (s1 F Γ σ H G R) fun Q q => .inl q
  · exact Out.of (s2 F Γ σ H G R) fun Q q => .inr q
def pkI (cn : Str) (f : EF) (Γ : En) : Bool := match f Γ with
  | .ok ev Γ1 => (insOf cn ev Γ1).isSome
  | _ => false
def rEqI (K : Frg) (C : Addr) (sp : Sp) : R2 := fun x y H Q => ∃ a dx fs t, x = .ref a ∧ H a = some (.ins C dx fs) ∧ TyX K H y t ∧ PySem.W.notFirst K C t = true ∧ sp [x, y] H (fun v H' => (∃ b, v = .bl b) ∧ Q v H') (fun _ _ _ => False)
theorem op_eqI {C : Addr} {sp : Sp} (hs : PySem.W.findIn X.K (.ref C) "__eq__" = some (some (.ref f'))) (hf : PySem.W.isFn X.K (.ref f') = true) (F : FnG X.prog X.w X.K X.mg X.base (L2.CX X.prog X.w) k f' fd ps sp) (hr : Room k X.A) (hg : X.A.guards = some []) (hb : Binds X.K fd ps []) : OpR X (compareOp .Eq) (rEqI X.K C sp) := by
  intro pins s σ H x y v u Q I rx ry h
  obtain ⟨a, dx, fs, t, rfl, ea, ty, hn, h⟩ := h
  cases rx
  obtain ⟨P, Z, hP, _⟩ := kit_of I ry ty
  obtain ⟨mA, J, _⟩ := ins_get I.hok ea
  obtain ⟨od, J, _⟩ := J.look
  obtain ⟨m, hF⟩ := I.fr
  show wpAny (model X.prog X.w) X.A (richCompare .Eq (.ref a) u) (EP X pins σ Q) X.xe s
  refine PySem.W.cmp_K (op := .Eq) (tb := t) hr.units0 hF I.ok.mod.kin J (Z.ty _ _ I.kIn hP) hn hs hf ?_
  refine run_special (vs := [.ref a, y]) F hr hg I.env0 hb I (.cons rfl (.cons ry .nil)) _ h fun v H' u s' I' rv q => ?_
  obtain ⟨⟨b, rfl⟩, q⟩ := q
  cases rv
  exact ⟨.bl b, H', I', rfl, q⟩
def eqK (r : O VV) : O EV := match r with
  | .ok (.e (.d (.bl b))) Γ => .ok (.d (.bl b)) Γ
  | _ => .fail
theorem out_eqK {K : Frg} {F : Fr} {σ : St} {G : Hp} {T : (V → Hp → Prop) → Prop} : ∀ {r : O VV}, OutV K noW (vvrel K) F σ G T r → Out K W (vrel K) F σ G (fun Q => T fun v H' => (∃ b, v = .bl b) ∧ Q v H') (eqK r)
  | .ok (.e (.d (.bl y))) Γ', h => fun Q q => h _ fun v H' G' R le rv => ⟨⟨y, rv⟩, q v H' G' R le rv⟩
  | .ok (.e (.d .non)) _, _ => trivial
  | .ok (.e (.d (.str _))) _, _ => trivial
  | .ok (.e (.d (.int _))) _, _ => trivial
  | .ok (.e (.d (.lst _))) _, _ => trivial
  | .ok (.e (.d (.tup _))) _, _ => trivial
  | .ok (.e (.d (.scr _))) _, _ => trivial
  | .ok (.e (.d (.dk _ _))) _, _ => trivial
  | .ok (.e (.d (.ins _ _ _))) _, _ => trivial
  | .ok (.e (.own _)) _, _ => trivial
  | .ok (.n _) _, _ => trivial
  | .exc _ _ _ _, _ => trivial
  | .fail, _ => trivial
def okTy (cs : List Str) (ev : EV) (Γ : En) : Bool := match ev.look Γ with
  | some (.ins c _ _) => cs.contains c
  | some (.scr _) => false
  | some _ => true
  | none => false
def nfB (K : Frg) (cs : List Str) (c : Str) : Bool := (btys.all fun t => PySem.W.notFirst K (He.ga K c) (.type t)) && cs.all fun c' => ownB K c' && PySem.W.notFirst K (He.ga K c) (.ref (He.ga K c'))
theorem okTy_ok {K : Frg} {F : Fr} {Γ : En} {σ : St} {H G : Hp} {cs : List Str} {ev : EV} {v : V} (R : Rl K F Γ σ H G) (hB : nfB K cs cn = true) (r : vrel K σ G ev v) (h : okTy cs ev Γ = true) : ∃ t, TyX K H v t ∧ PySem.W.notFirst K (He.ga K cn) t = true := by
  obtain ⟨h1, h2⟩ := He.ba hB
  unfold okTy at h
  have flat : ∀ x t, ev.look Γ = some x → tyN x = some t → ∃ t, TyX K H v t ∧ PySem.W.notFirst K (He.ga K cn) t = true := fun x t e ht =>
    ⟨_, tyX_of ((R.look r e).rep R.gh) ht, List.all_eq_true.mp h1 t (tyN_mem ht)⟩
  cases e : ev.look Γ with
  | none => rw [e] at h; cases h
  | some x =>
    rw [e] at h
    cases x with
    | non => exact flat _ _ e rfl
    | bl _ => exact flat _ _ e rfl
    | int _ => exact flat _ _ e rfl
    | str _ => exact flat _ _ e rfl
    | lst _ => exact flat _ _ e rfl
    | tup _ => exact flat _ _ e rfl
    | dk _ _ => exact flat _ _ e rfl
    | scr _ => cases h
    | ins c' ns fs =>
      obtain ⟨h3, h4⟩ := He.ba (List.all_eq_true.mp h2 c' (List.contains_iff_mem.mp h))
      exact ⟨_, tyX_ins (ownB_ok h3) ((R.look r e).rep R.gh), h4⟩
def eqiE (cs : List Str) (cn : Str) (Fn : DFn) (f1 f2 : EF) : EF := fun Γ => (f1 Γ).bind fun e1 Γ1 => (f2 Γ1).bind fun e2 Γ2 => if ((insOf cn e1 Γ2).isSome && okTy cs e2 Γ2) = true then eqK (finCall none Fn [] [e1, e2] Γ2) else .fail
theorem sem_eqi {t1 t2 : TE} {cs : List Str} (s1 : Sem X.K W (vrel X.K) t1 f1) (s2 : Sem X.K W (vrel X.K) t2 f2) (hB : nfB X.K cs cn = true) (hn : 2 = ps.length) :
    Sem X.K W (vrel X.K) (fun σ H Q => t1 σ H fun x H1 => t2 σ H1 fun y H2 => rEqI X.K (He.ga X.K cn) (spL X.K ps none Fn) x y H2 Q) (eqiE cs cn Fn f1 f2) := fun F Γ σ H G R => by
  refine Out.bind (T' := fun x H1 Q => t2 σ H1 fun y H2 => rEqI X.K (He.ga X.K cn) (spL X.K ps none Fn) x y H2 Q) (s1 F Γ σ H G R) fun e1 Γ1 v1 H1 G1 R1 _ r1 => ?_
  refine Out.bind (T' := fun y H2 Q => rEqI X.K (He.ga X.K cn) (spL X.K ps none Fn) v1 y H2 Q) (s2 F Γ1 σ H1 G1 R1) fun e2 Γ2 v2 H2 G2 R2 le2 r2 => ?_
  have r1' := vrel_mono _ _ _ _ _ _ le2 r1
  split
  · rename_i hi
    obtain ⟨h1, h2⟩ := He.ba hi
    obtain ⟨⟨ns, fs⟩, e1'⟩ := Option.isSome_iff_exists.mp h1
    obtain ⟨a, dx, fv, rfl, h, n, rp⟩ := insOf_ok R2 r1' e1'
    obtain ⟨t, ht, hnf⟩ := okTy_ok R2 hB r2 h2
    have rs : vsrel X.K σ G2 [e1, e2] [V.ref a, v2] := .cons r1' (.cons r2 .nil)
    exact Out.of (out_eqK (out_call (W := noW) (dvs := []) (dd := []) (b := none) (Fn := Fn) R2 rs (fun _ => rfl))) fun Q q => ⟨a, dx, fv, t, rfl, h, ht, hnf, by rw [← hn]; rfl, q⟩
  · trivial
theorem fe_eqI {cs : List Str} (hB : nfB X.K cs cn = true) (hs : PySem.W.findIn X.K (.ref (He.ga X.K cn)) "__eq__" = some (some (.ref f'))) (hf : PySem.W.isFn X.K (.ref f') = true) (F : FnG X.prog X.w X.K X.mg X.base (L2.CX X.prog X.w) k f' fd ps (spL X.K ps none Fn)) (hr : Room k X.A) (hgd : X.A.guards = some []) (hb : Binds X.K fd ps [])
    (hn : 2 = ps.length) (h1 : FE X W a f1) (h2 : FE X W b f2) : FE X W (.Compare a [.Eq] [b] pos) (eqiE cs cn Fn f1 f2) := by
  obtain ⟨t1, p1, s1⟩ := h1
  obtain ⟨t2, p2, s2⟩ := h2
  exact ⟨_, pe_cmpR (op_eqI hs hf F hr hgd hb) p1 p2 (nomark _), sem_eqi s1 s2 hB hn⟩
theorem ft_eqI {cs : List Str} (hB : nfB X.K cs cn = true) (hs : PySem.W.findIn X.K (.ref (He.ga X.K cn)) "__eq__" = some (some (.ref f'))) (hf : PySem.W.isFn X.K (.ref f') = true) (F : FnG X.prog X.w X.K X.mg X.base (L2.CX X.prog X.w) k f' fd ps (spL X.K ps none Fn)) (hr : Room k X.A) (hgd : X.A.guards = some []) (hb : Binds X.K fd ps [])
    (hn : 2 = ps.length) (h1 : FE X W a f1) (h2 : FE X W b f2) : FT X W (.Compare a [.Eq] [b] pos) (tstE (eqiE cs cn Fn f1 f2)) := by
  obtain ⟨t1, p1, s1⟩ := h1
  obtain ⟨t2, p2, s2⟩ := h2
  exact ⟨_, pt_cmpR (op_eqI hs hf F hr hgd hb) p1 p2 (nomark _), sem_tst (sem_eqi s1 s2 hB hn)⟩
theorem ft_alt {pick : En → Bool} (h1 : FT X W e (tstE f1)) (h2 : FT X W e (tstE f2)) : FT X W e (tstE (altE pick f1 f2)) := by
  obtain ⟨t1, p1, s1⟩ := h1
  obtain ⟨t2, p2, s2⟩ := h2
  refine ⟨fun σ H Q => t1 σ H Q ∨ t2 σ H Q, ⟨fun pins s σ H Q I q => q.elim (fun q => p1.run pins s σ H Q I q) fun q => p2.run pins s σ H Q I q⟩, fun F Γ σ H G R => ?_⟩
  unfold altE
  show Out X.K W eqrel F σ G _ ((if pick Γ = true then f1 Γ else f2 Γ).bind asB)
  split
  · exact Out.of (s1 F Γ σ H G R) fun Q q => .inl q
  · exact Out.of (s2 F Γ σ H G R) fun Q q => .inr q
def fmtE (f : EF) : EF := fun Γ => (f Γ).bind fun ev Γ1 => match ev with
  | .d (.str y) => if y.length ≤ sizeLine then .ok (.d (.str y)) Γ1 else .fail
  | .d (.int i) => if i.natAbs.log2 < 1920 then .ok (.d (.str (Str.ofString (toString i)))) Γ1 else .fail
  | _ => .fail
theorem fe_fmt (h : FE X W e f) : FE X W (.FormattedValue e (-1) none pos) (fmtE f) := by
  obtain ⟨t, p, s⟩ := h
  refine ⟨_, pe_fmt p, Sem.bind (T := fun (x : V) σ (H1 : Hp) (Q : VK) => (∃ y : Str, x = .str y ∧ y.length ≤ sizeLine ∧ Q (.str y) H1) ∨ ∃ i : Int, x = .int i ∧ i.natAbs.log2 < 1920 ∧ Q (.str (toString i)) H1) s fun F Γ σ H G ev v R rv => ?_⟩
  split
  · split
    · rename_i y hz
      exact fun Q q => .inl ⟨y, rv, hz, q _ H G R (Le.refl G) rfl⟩
    · trivial
  · split
    · rename_i i hz
      exact fun Q q => .inr ⟨i, rv, hz, q _ H G R (Le.refl G) rfl⟩
    · trivial
  · trivial
/-- the parts of an f-string -/
inductive FJ (X : Cx) (W : WX) : List Expr → List EF → Prop where
  | nil : FJ X W [] []
  | cons {e : Expr} {f : EF} {es : List Expr} {fs : List EF} (h : FE X W e f) (r : FJ X W es fs) : FJ X W (e :: es) (f :: fs)
def jsE : List EF → Str → EF
  | [], acc, Γ => .ok (.d (.str acc)) Γ
  | f :: fs, acc, Γ => (f Γ).bind fun ev Γ1 => match ev with
    | .d (.str y) => if (acc ++ y).length ≤ sizeLine then jsE fs (acc ++ y) Γ1 else .fail
    | _ => .fail
theorem fj_ok : ∀ {es : List Expr} {fs : List EF}, FJ X W es fs → ∃ ts, PJ X es ts ∧ ∀ acc, Sem X.K W (vrel X.K) (fun σ H Q => tJs ts acc σ H fun out H1 => Q (.str out) H1) (jsE fs acc)
  | _, _, .nil => ⟨[], .nil, fun acc F Γ σ H G R Q q => q _ H G R (Le.refl G) rfl⟩
  | _, _, .cons h r => by
    obtain ⟨t, p, s⟩ := h
    obtain ⟨ts, pj, k⟩ := fj_ok r
    refine ⟨t :: ts, .cons p pj, fun acc => Sem.bind (T := fun (x : V) σ (H1 : Hp) (Q : VK) => ∃ y : Str, x = .str y ∧ (acc ++ y).length ≤ sizeLine ∧ tJs ts (acc ++ y) σ H1 fun out H2 => Q (.str out) H2) s fun F Γ σ H G ev v R rv => ?_⟩
    split
    · rename_i y
      split
      · rename_i hz
        exact Out.of (k (acc ++ y) F Γ σ H G R) fun Q q => ⟨y, rv, hz, q⟩
      · trivial
    · trivial
theorem fe_joined {v1 v2 : Expr} {rest : List Expr} {fs : List EF} (h : FJ X W (v1 :: v2 :: rest) fs) : FE X W (.JoinedStr (v1 :: v2 :: rest) pos) (jsE fs Str.empty) := by
  obtain ⟨ts, pj, k⟩ := fj_ok h
  exact ⟨_, pe_joined pj, k Str.empty⟩
end
end FL

/-! part F21 -/
set_option Elab.async false
set_option linter.all false
set_option maxRecDepth 100000
set_option maxHeartbeats 4000000
namespace FL
open PySem PySem.Spec PyProof.Rows L2
structure DefX where
  adr : Frg → Addr
  d : He.DefD
def fnA (K : Frg) (a : Addr) : He.FnW := match K.lookup a with
  | some ⟨_, _, .func fd, _⟩ => some (fd.name, fd.qualname, fd.params, fd.body, fd.scope, fd.globals, fd.closure, fd.builtins)
  | _ => none
def okA (K : Frg) (x : DefX) : Bool := PySem.W.keepIn K (.ref (x.adr K)) && (match K.lookup (x.adr K) with
  | some ⟨_, _, .func fd, _⟩ => PySem.W.codeIn K fd.code x.d.qual && (He.dflB K fd.defaults (x.d.dvs K) && He.kwdB K fd.kwdefaults (x.d.kws K))
  | _ => false)
theorem funX {K : Frg} {x : DefX} (e : fnA K (x.adr K) = x.d.val) (c : okA K x = true) : ∃ fd, FunD K x.d.name x.d.qual x.d.params x.d.body x.d.scope (x.d.dvs K) (x.d.kws K) (x.adr K) fd := by
  obtain ⟨kp, c2⟩ := He.ba c
  unfold fnA at e
  cases q : K.lookup (x.adr K) with
  | none =>
    rw [q] at c2
    cases c2
  | some o =>
    obtain ⟨oc, od, dt, osl⟩ := o
    rw [q] at c2 e
    cases dt with
    | func fd =>
      obtain ⟨n1, n2, n3, n4, n5, n6, n7, n8, n9, n10, n11, n12, n13, n14, n15⟩ := fd
      have e2 : (some (n1, n2, n3, n4, n5, n6, n7, n15) : He.FnW) = some (x.d.name, x.d.qual, x.d.params, .stmts x.d.body, x.d.scope, mainGlobals, [], builtinsNs) := e
      simp only [Option.some.injEq, Prod.mk.injEq] at e2
      obtain ⟨h1, h2, h3, h4, h5, h6, h7, h8⟩ := e2
      subst h1 h2 h3 h4 h5 h6 h7 h8
      have c3 : (PySem.W.codeIn K n13 x.d.qual && (He.dflB K n8 (x.d.dvs K) && He.kwdB K n9 (x.d.kws K))) = true := c2
      obtain ⟨k1, k2⟩ := He.ba c3
      obtain ⟨k3, k4⟩ := He.ba k2
      exact ⟨_, ⟨oc, od, n8, n9, n10, n11, n12, n13, n14, osl, rfl, q, k1, He.dflB_ok k3, He.kwdB_ok k4⟩, kp⟩
    | _ => cases c2
abbrev AlX : Type := AlE × List He.FnW
def exX (ex : Frg → Bool) (xs : List DefX) (K : Frg) : Bool := ex K && xs.all (okA K)
def obsX (fa : List He.Fa) (fn : List He.DefD) (ex : Frg → Bool) (xs : List DefX) (K : Frg) : AlX := (obsE fa fn (exX ex xs) K, xs.map fun x => fnA K (x.adr K))
def obsXG (n : Nat) (fa : List He.Fa) (fn : List He.DefD) (ex : Frg → Bool) (xs : List DefX) (g : Addr → Option Obj) : AlX := obsX fa fn ex xs (He.frG g (He.asD g n))
def SaysX (xs : List DefX) (K : Frg) : Prop := xs.map (fun x => fnA K (x.adr K)) = xs.map fun x => x.d.val
def hookX (n : Nat) (fa : List He.Fa) (fn : List He.DefD) (ex : Frg → Bool) (xs : List DefX) : PySem.W.Hook where
  α := AlX
  obs := fun s => obsXG n fa fn ex xs s.heap.get?
  val := fun _ => ((He.valD fn, true), xs.map fun (x : DefX) => x.d.val)
  says := fun _ h => ∃ K : Frg, K.In h ∧ He.SaysD fa fn K ∧ exX ex xs K = true ∧ SaysX xs K
  of := fun _ _ e => ⟨_, He.frG_in, congrArg (fun z : AlX => z.1.1) e, congrArg (fun z : AlX => z.1.2) e, congrArg (fun z : AlX => z.2) e⟩
  keeps := fun _ _ _ ⟨K, hK, c⟩ k => ⟨K, PySem.W.Frag.In.keeps hK k, c⟩
theorem obsXG_eq {n : Nat} {fa : List He.Fa} {fn : List He.DefD} {ex : Frg → Bool} {xs : List DefX} {g : Addr → Option Obj} {s : Shared} (h : ∀ a, g a = s.heap.get? a) : obsXG n fa fn ex xs g = (hookX n fa fn ex xs).obs s := by
  have e : g = s.heap.get? := funext h
  rw [e] <;> rfl
structure Ty (fa : List He.Fa) (fn : List He.DefD) (ex : Frg → Bool) (xs : List DefX) (K : Frg) (mg : Str → Option Value) : Prop where
  t : Tx fa fn ex K mg
  o : xs.all (okA K) = true
  s : SaysX xs K
theorem Ty.mk' {fa : List He.Fa} {fn : List He.DefD} {ex : Frg → Bool} {xs : List DefX} {K : Frg} {mg : Str → Option Value} (hh : ∃ h : Heap, K.In h ∧ h.Ns mainGlobals mg) (c : He.SaysD fa fn K) (e : exX ex xs K = true) (s : SaysX xs K) : Ty fa fn ex xs K mg := by
  obtain ⟨e1, e2⟩ := He.ba e
  exact ⟨⟨hh, c, e1⟩, e2, s⟩
theorem Ty.funx {fa : List He.Fa} {fn : List He.DefD} {ex : Frg → Bool} {xs : List DefX} {K : Frg} {mg : Str → Option Value} (T : Ty fa fn ex xs K mg) (i : Nat) {x : DefX} (h : xs[i]? = some x) : FunD K x.d.name x.d.qual x.d.params x.d.body x.d.scope (x.d.dvs K) (x.d.kws K) (x.adr K) (fdOf K (x.adr K)) := by
  have h1 := List.all_eq_true.mp T.o x (List.mem_of_getElem? h)
  have h2 : (xs.map (fun x => fnA K (x.adr K)))[i]? = (xs.map fun x => x.d.val)[i]? := by rw [show xs.map (fun x => fnA K (x.adr K)) = xs.map fun x => x.d.val from T.s]
  rw [List.getElem?_map, List.getElem?_map, h] at h2
  obtain ⟨fd, F⟩ := funX (Option.some.inj h2) h1
  rw [← fdOf_eq F]
  exact F
def prAd (K : Frg) (c f : Str) : Addr := He.ma K (He.ga K c) f
def gtAd (K : Frg) (c f : Str) : Addr := match PySem.W.recIn K (prAd K c f) "property" with
  | some (.ref g :: _) => g
  | _ => 0
def propB (K : Frg) (c f : Str) : Bool := He.eqO (PySem.W.findIn K (.ref (He.ga K c)) f) (some (some (.ref (prAd K c f)))) && (He.eqO (PySem.W.specialIn K (.ref (prAd K c f)) "__get__") (some (some (.builtin "property.__get__"))) && (decide (PySem.W.takesIn K (.ref (prAd K c f)) = some true) &&
  (match PySem.W.recIn K (prAd K c f) "property" with
  | some (.ref _ :: _) => true
  | _ => false)))
theorem propB_ok {K : Frg} {c f : Str} (h : propB K c f = true) : PropOf K (He.ga K c) f (prAd K c f) (gtAd K c f) := by
  obtain ⟨h1, h⟩ := He.ba h
  obtain ⟨h2, h⟩ := He.ba h
  obtain ⟨h3, h4⟩ := He.ba h
  refine ⟨He.eqO_ok h1, He.eqO_ok h2, of_decide_eq_true h3, ?_⟩
  split at h4
  · rename_i g rest e
    exact ⟨rest, by rw [e]; unfold gtAd; rw [e]⟩
  · cases h4
def dfB (K : Frg) (p : Str × Option Str) (i : Nat) (d : D) : Bool := cst K d (.ref (He.dflAt p i K))
theorem dfB_ok {K : Frg} {p : Str × Option Str} {i : Nat} {d : D} (h : dfB K p i d = true) (G : Hp) : Reps K G [d] [V.ref (He.dflAt p i K)] := by
  obtain ⟨v, h1, h2⟩ := cst_ok d _ h
  have e : v = .ref (He.dflAt p i K) := by
    cases v with
    | ref a => cases h1; rfl
    | non => cases h1
    | bl _ => cases h1
    | int _ => obtain ⟨_, z⟩ := h1; cases z
    | str _ => obtain ⟨_, z⟩ := h1; cases z
    | byt _ => exact absurd h1 (by rintro ⟨_, z⟩; cases z)
    | flt _ => exact absurd h1 (by rintro ⟨_, z⟩; cases z)
    | _ => cases h1
  subst e
  exact ⟨_, [], rfl, h2 G, rfl⟩
end FL

/-! part F22 -/
set_option Elab.async false
set_option linter.all false
set_option maxRecDepth 100000
set_option maxHeartbeats 4000000
namespace FLB
open PySem PySem.Spec PySem.Calls PyProof.Rows PySem.W
section
variable {prog : Program} {w : World} {M : Model} {A : Around} {E : Value → Shared → Prop} {s : Shared} {K : Frag} {x C f : Addr} {ox : Obj} {od : Option Obj} {b tb : Value}
theorem ifBoundB {name : Str} {id : String} {args : List Value} {Q : Option Value → Shared → Prop} (X : K.In s.heap) (I : InstAt s.heap x ox C od) (hs : findIn K (.ref C) name = some (some (.builtin id))) (hb : ∀ self, bindSpecial (.builtin id) self = pure (.builtin id, [self]))
    (h : wpAny M A (call (.builtin id) (.ref x :: args)) (fun v => Q (some v)) E s) : wpAny M A (callSpecialIfBound? (.ref x) name args) Q E s := by
  simp only [callSpecialIfBound?, bindSpecialIfBound?]
  refine wpAny_holding (wpAny_bind (wpAny_bind (wpAny_bind (I.type.here ((looks_findIn X hs).here ?_)))))
  refine wpAny_bind (wpAny_askSetting (wpAny_ite ?_))
  have fin : wpAny M A (call (.builtin id) ([.ref x] ++ args) >>= fun v => pure (some v)) Q E s := wpAny_bind (wpAny_mono h (fun v s' h' => wpAny_pure h') fun _ _ h' => h')
  split
  · exact wpAny_bind ((Looks.of_pure (hb _)).here (wpAny_pure (by exact fin)))
  · exact wpAny_tryCatch (wpAny_bind ((Looks.of_pure (hb _)).here (wpAny_pure (by exact fin))))
def NotBack (Q : Value → Shared → Prop) (v : Value) (s' : Shared) : Prop := match v with
  | .bool r => Q (.bool (!r)) s'
  | _ => False
theorem call_ne {Q : Value → Shared → Prop} (hu : A.in1.units < cLine) (X : K.In s.heap) (I : InstAt s.heap x ox C od) (hm : mroIn K C (.type "object") = some true) (hs : findIn K (.ref C) "__eq__" = some (some (.ref f))) (hf : isFn K (.ref f) = true)
    (h : wpAny (model prog w) A.in1 (call (.ref f) [.ref x, b]) (NotBack Q) E s) : wpAny (model prog w) A (call (.builtin "object.__ne__") [.ref x, b]) Q E s := by
  refine wpAny_call (codeAny_call_builtin PySem.F.slot_object_ne.plain PySem.F.entry_object_ne (check_slot (i := "object.__ne__") (owner := "object") (n := "__ne__") (by decide +kernel) (by decide +kernel) (I.type.andThen (looks_mroIn X hm)) (PySem.F.args_object_ne_2 _ _) ?_))
  unfold Builtin.«object.__ne__»
  refine wpAny_bind (m := slotArgs "__ne__" 1 _) (wpAny_pure ?_)
  refine wpAny_bind (m := cRoomFor _ _) (wpAny_cRoomFor hu ?_)
  refine wpAny_bind (m := callSpecialIfBound? (.ref x) (Str.ofString "__eq__") _) (ifBound_K X I hs hf (wpAny_mono h (fun r s' hq => ?_) fun _ _ y => y))
  cases r <;> first | exact hq.elim | skip
  refine wpAny_bind (wpAny_truthy_bool ?_)
  exact wpAny_pure hq
theorem ne_K {Q : Value → Shared → Prop} (hu : A.units < cLine) (hu1 : A.in1.units < cLine) (X : K.In s.heap) (I : InstAt s.heap x ox C od) (hb : Looks (model prog w) s.heap (typeOf b) tb) (hn : notFirst K C tb = true) (hne : findIn K (.ref C) "__ne__" = some (some (.builtin "object.__ne__"))) (hm : mroIn K C (.type "object") = some true)
    (hs : findIn K (.ref C) "__eq__" = some (some (.ref f))) (hf : isFn K (.ref f) = true) (h : wpAny (model prog w) A.in1 (call (.ref f) [.ref x, b]) (NotBack Q) E s) : wpAny (model prog w) A (richCompare .NotEq (.ref x) b) Q E s := by
  have one : wpAny (model prog w) A (tryCompare (.ref x) (cmpInfo .NotEq).2.1 b) (fun r s' => ∃ v, r = some v ∧ Q v s') E s := by
    unfold tryCompare
    refine wpAny_bind (ifBoundB X I hne PySem.F.slot_object_ne.bind (call_ne hu1 X I hm hs hf (wpAny_mono h (fun v s' hv => ?_) fun _ _ e => e)))
    cases v <;> first | exact hv.elim | skip
    show wpAny _ _ _ _ _ _
    exact wpAny_pure ⟨_, rfl, hv⟩
  unfold richCompare
  simp only [oneThing_ref]
  refine wpAny_holding (wpAny_bind (wpAny_cRoomFor hu ?_))
  refine wpAny_bind (I.type.here (wpAny_bind (hb.here ?_)))
  split
  · rename_i q
    have e : subIn K tb (.ref C) = some false := by
      rcases Bool.or_eq_true_iff.mp hn with e | e
      · rw [beq_iff_eq.mp e] at q; simp at q
      · exact beq_iff_eq.mp e
    refine wpAny_bind ((looks_subIn X e).here ?_)
    simp only [Bool.false_eq_true, if_false]
    refine wpAny_bind (wpAny_mono one (fun r s' z => ?_) fun _ _ e => e)
    obtain ⟨v, rfl, hq⟩ := z
    exact wpAny_pure hq
  · refine wpAny_bind (wpAny_pure ?_)
    simp only [Bool.false_eq_true, if_false]
    refine wpAny_bind (wpAny_mono one (fun r s' z => ?_) fun _ _ e => e)
    obtain ⟨v, rfl, hq⟩ := z
    exact wpAny_pure hq
end
end FLB
namespace FL
open PySem PySem.Spec PyProof.Rows L2
variable {X : Cx} {W : WX} {e a b c o tg iter value : Expr} {f g f1 f2 f3 fo fa : EF} {pos pos' apos kpos p : Pos}
section
variable {k n : Nat} {f' : Addr} {fd : FuncData} {ps ks : List Str} {x m cn fn : Str} {Fn : DFn}
def rNeI (K : Frg) (C : Addr) (sp : Sp) : R2 := fun x y H Q => ∃ a dx fs t, x = .ref a ∧ H a = some (.ins C dx fs) ∧ TyX K H y t ∧ PySem.W.notFirst K C t = true ∧ sp [x, y] H (fun v H' => ∃ b, v = .bl b ∧ Q (.bl (!b)) H') (fun _ _ _ => False)
theorem op_neI {C : Addr} {sp : Sp} (hne : PySem.W.findIn X.K (.ref C) "__ne__" = some (some (.builtin "object.__ne__"))) (hm : PySem.W.mroIn X.K C (.type "object") = some true) (hs : PySem.W.findIn X.K (.ref C) "__eq__" = some (some (.ref f'))) (hf : PySem.W.isFn X.K (.ref f') = true) (F : FnG X.prog X.w X.K X.mg X.base (L2.CX X.prog X.w) k f' fd ps sp) (hr : Room (k + 1) X.A) (hg : X.A.guards = some []) (hb : Binds X.K fd ps []) :
    OpR X (compareOp .NotEq) (rNeI X.K C sp) := by
  intro pins s σ H x y v u Q I rx ry h
  obtain ⟨a, dx, fs, t, rfl, ea, ty, hn, h⟩ := h
  cases rx
  obtain ⟨P, Z, hP, _⟩ := kit_of I ry ty
  obtain ⟨mA, J, _⟩ := ins_get I.hok ea
  obtain ⟨od, J, _⟩ := J.look
  show wpAny (model X.prog X.w) X.A (richCompare .NotEq (.ref a) u) (EP X pins σ Q) X.xe s
  refine FLB.ne_K (tb := t) hr.units0 hr.in1.units0 I.kIn J (Z.ty _ _ I.kIn hP) hn hne hm hs hf ?_
  refine run_special (vs := [.ref a, y]) F hr.in1 hg I.env0.in1 hb I (.cons rfl (.cons ry .nil)) _ h fun v H' u s' I' rv q => ?_
  obtain ⟨b, rfl, q⟩ := q
  cases rv
  exact ⟨.bl (!b), H', I', rfl, q⟩
def neK (r : O VV) : O EV := match r with
  | .ok (.e (.d (.bl b))) Γ => .ok (.d (.bl (!b))) Γ
  | _ => .fail
theorem out_neK {K : Frg} {F : Fr} {σ : St} {G : Hp} {T : (V → Hp → Prop) → Prop} : ∀ {r : O VV}, OutV K noW (vvrel K) F σ G T r → Out K W (vrel K) F σ G (fun Q => T fun v H' => ∃ b, v = .bl b ∧ Q (.bl (!b)) H') (neK r)
  | .ok (.e (.d (.bl y))) Γ', h => fun Q q => h _ fun v H' G' R le rv => ⟨y, rv, q _ H' G' R le rfl⟩
  | .ok (.e (.d .non)) _, _ => trivial
  | .ok (.e (.d (.str _))) _, _ => trivial
  | .ok (.e (.d (.int _))) _, _ => trivial
  | .ok (.e (.d (.lst _))) _, _ => trivial
  | .ok (.e (.d (.tup _))) _, _ => trivial
  | .ok (.e (.d (.scr _))) _, _ => trivial
  | .ok (.e (.d (.dk _ _))) _, _ => trivial
  | .ok (.e (.d (.ins _ _ _))) _, _ => trivial
  | .ok (.e (.own _)) _, _ => trivial
  | .ok (.n _) _, _ => trivial
  | .exc _ _ _ _, _ => trivial
  | .fail, _ => trivial
def neiE (cs : List Str) (cn : Str) (Fn : DFn) (f1 f2 : EF) : EF := fun Γ => (f1 Γ).bind fun e1 Γ1 => (f2 Γ1).bind fun e2 Γ2 => if ((insOf cn e1 Γ2).isSome && okTy cs e2 Γ2) = true then neK (finCall none Fn [] [e1, e2] Γ2) else .fail
theorem sem_nei {t1 t2 : TE} {cs : List Str} (s1 : Sem X.K W (vrel X.K) t1 f1) (s2 : Sem X.K W (vrel X.K) t2 f2) (hB : nfB X.K cs cn = true) (hn : 2 = ps.length) :
    Sem X.K W (vrel X.K) (fun σ H Q => t1 σ H fun x H1 => t2 σ H1 fun y H2 => rNeI X.K (He.ga X.K cn) (spL X.K ps none Fn) x y H2 Q) (neiE cs cn Fn f1 f2) := fun F Γ σ H G R => by
  refine Out.bind (T' := fun x H1 Q => t2 σ H1 fun y H2 => rNeI X.K (He.ga X.K cn) (spL X.K ps none Fn) x y H2 Q) (s1 F Γ σ H G R) fun e1 Γ1 v1 H1 G1 R1 _ r1 => ?_
  refine Out.bind (T' := fun y H2 Q => rNeI X.K (He.ga X.K cn) (spL X.K ps none Fn) v1 y H2 Q) (s2 F Γ1 σ H1 G1 R1) fun e2 Γ2 v2 H2 G2 R2 le2 r2 => ?_
  have r1' := vrel_mono _ _ _ _ _ _ le2 r1
  split
  · rename_i hi
    obtain ⟨h1, h2⟩ := He.ba hi
    obtain ⟨⟨ns, fs⟩, e1'⟩ := Option.isSome_iff_exists.mp h1
    obtain ⟨a, dx, fv, rfl, h, n, rp⟩ := insOf_ok R2 r1' e1'
    obtain ⟨t, ht, hnf⟩ := okTy_ok R2 hB r2 h2
    have rs : vsrel X.K σ G2 [e1, e2] [V.ref a, v2] := .cons r1' (.cons r2 .nil)
    exact Out.of (out_neK (out_call (W := noW) (dvs := []) (dd := []) (b := none) (Fn := Fn) R2 rs (fun _ => rfl))) fun Q q => ⟨a, dx, fv, t, rfl, h, ht, hnf, by rw [← hn]; rfl, q⟩
  · trivial
theorem fe_neI {cs : List Str} (hB : nfB X.K cs cn = true) (hne : PySem.W.findIn X.K (.ref (He.ga X.K cn)) "__ne__" = some (some (.builtin "object.__ne__"))) (hm : PySem.W.mroIn X.K (He.ga X.K cn) (.type "object") = some true) (hs : PySem.W.findIn X.K (.ref (He.ga X.K cn)) "__eq__" = some (some (.ref f'))) (hf : PySem.W.isFn X.K (.ref f') = true)
    (F : FnG X.prog X.w X.K X.mg X.base (L2.CX X.prog X.w) k f' fd ps (spL X.K ps none Fn)) (hr : Room (k + 1) X.A) (hgd : X.A.guards = some []) (hb : Binds X.K fd ps []) (hn : 2 = ps.length) (h1 : FE X W a f1) (h2 : FE X W b f2) : FE X W (.Compare a [.NotEq] [b] pos) (neiE cs cn Fn f1 f2) := by
  obtain ⟨t1, p1, s1⟩ := h1
  obtain ⟨t2, p2, s2⟩ := h2
  exact ⟨_, pe_cmpR (op_neI hne hm hs hf F hr hgd hb) p1 p2 (nomark _), sem_nei s1 s2 hB hn⟩
theorem ft_neI {cs : List Str} (hB : nfB X.K cs cn = true) (hne : PySem.W.findIn X.K (.ref (He.ga X.K cn)) "__ne__" = some (some (.builtin "object.__ne__"))) (hm : PySem.W.mroIn X.K (He.ga X.K cn) (.type "object") = some true) (hs : PySem.W.findIn X.K (.ref (He.ga X.K cn)) "__eq__" = some (some (.ref f'))) (hf : PySem.W.isFn X.K (.ref f') = true)
    (F : FnG X.prog X.w X.K X.mg X.base (L2.CX X.prog X.w) k f' fd ps (spL X.K ps none Fn)) (hr : Room (k + 1) X.A) (hgd : X.A.guards = some []) (hb : Binds X.K fd ps []) (hn : 2 = ps.length) (h1 : FE X W a f1) (h2 : FE X W b f2) : FT X W (.Compare a [.NotEq] [b] pos) (tstE (neiE cs cn Fn f1 f2)) := by
  obtain ⟨t1, p1, s1⟩ := h1
  obtain ⟨t2, p2, s2⟩ := h2
  exact ⟨_, pt_cmpR (op_neI hne hm hs hf F hr hgd hb) p1 p2 (nomark _), sem_tst (sem_nei s1 s2 hB hn)⟩
end
end FL

/-! part F23 -/
set_option Elab.async false
set_option linter.all false
set_option maxRecDepth 100000
set_option maxHeartbeats 4000000
namespace FLB
open PySem PySem.Spec PyProof.Rows L2
set_option maxHeartbeats 4000000 in
theorem meets_enum1 {v : Value} {o : Obj} {H : Heap → Prop} (B : Begins v o H) :
    Meets (Builtin.«enumerate.__new__» ⟨[.type "enumerate", v], []⟩) (fun _ R s => H s.heap ∧
      R (.ok (.ret (.ref (s.heap.push o).objs.size))) { s with heap := (s.heap.push o).push { cls := .type "enumerate", data := .fields #[.none, .bool false, .ref s.heap.objs.size, rawInt 0, .none, .none] } }) :=
  .of_wp fun prog w A R s h => by
    obtain ⟨hp, g, d, tk, os⟩ := s; obtain ⟨h1, h⟩ := h
    have hsub := sub_enumerate
    have q1 : ∀ {A' : Around} {E : Value → Shared → Prop} {Q : Value → Shared → Prop}, Q (.ref hp.objs.size) ⟨hp.push o, g, d, tk, os⟩ → wpAny (model prog w) A' (pyIter v) Q E ⟨hp, g, d, tk, os⟩ :=
      fun q => B.iter prog w _ _ ⟨hp, g, d, tk, os⟩ _ h1 q
    wp_walk using q1
    refine wpAny_stack_any fun st => wpAny_pure ?_
    split
    · rename_i c _ _ _ _ _
      cases (c == Value.type "enumerate")
      · wp_walk using q1
        exact ⟨_, rfl, h⟩
      · wp_walk using q1
        exact ⟨_, rfl, h⟩
    · wp_walk using q1
      exact ⟨_, rfl, h⟩
theorem enum_begins1 {prog : Program} {w : World} {A : Around} {E : Value → Shared → Prop} {s : Shared} {v : Value} {o : Obj} {H : Heap → Prop} {Q : Value → Shared → Prop} (B : Begins v o H) (h1 : H s.heap)
    (h : ∀ h', IsEnum h' (s.heap.objs.size + 1) s.heap.objs.size 0 .none → h'.get? s.heap.objs.size = some o → h'.objs.size = s.heap.objs.size + 2 →
      (∀ b o, s.heap.get? b = some o → h'.get? b = some o) → Q (.ref (s.heap.objs.size + 1)) { s with heap := h' }) :
    wpAny (model prog w) A (call (.type "enumerate") [v]) Q E s := by
  refine callType_new F.called_enumerate (by decide) (F.typeCall_enumerate_1 _) (F.newCall_enumerate_1 _) (fun obj => F.args_object_init_2 obj _) F.entry_enumerate_new
    (meets_enum1 B) ⟨h1, ?_⟩
  have hz : (s.heap.push o).objs.size = s.heap.objs.size + 1 := Heap.size_push ..
  show _ ∧ _
  rw [hz]
  have he : IsEnum ((s.heap.push o).push { cls := .type "enumerate", data := .fields #[.none, .bool false, .ref s.heap.objs.size, rawInt 0, .none, .none] }) (s.heap.objs.size + 1) s.heap.objs.size 0 .none := by
    have := Heap.get?_push_size (s.heap.push o) (o := { cls := .type "enumerate", data := .fields #[.none, .bool false, .ref s.heap.objs.size, rawInt 0, .none, .none] }) rfl
    rw [hz] at this; exact this
  refine ⟨⟨_, he, rfl⟩, h _ he (Heap.get?_push_of_some _ (Heap.get?_push_size _ B.free)) (by rw [Heap.size_push, hz]) fun b o x => Heap.get?_push_of_some _ (Heap.get?_push_of_some _ x)⟩
/-- the tuple at a, each item in a new pair -/
def IteT (K : PySem.W.Frag) (a : Addr) : It :=
  ⟨fun i H => ∃ (xs : List V) (x : V), SqT K H a xs ∧ xs[i]? = some x, fun i H v H' => ∃ T x, v = .ref T ∧ H T = none ∧ H' = upd H T (.tup [.int (i : Nat), x]) ∧ ∀ xs, SqT K H a xs → xs[i]? = some x, fun i H => ∃ xs : List V, SqT K H a xs ∧ xs.length ≤ i⟩
theorem turn_enumT {P : Program} {w : World} {K : PySem.W.Frag} {elts : List Expr} {kk : Nat} {tpos : Pos} (a e it : Addr) (hae : a ≠ e) (hai : a ≠ it) :
    Turn P w K (.Tuple elts kk tpos) (IteT K a) [e, it] e (fun i h => (∃ old, IsEnum h e it ((i : Nat) : Int) old) ∧ h.IsTupleIter it a i ∧ e ≠ it) where
  mem := by simp
  obj := fun i h st b hb => by
    obtain ⟨⟨old, he⟩, ⟨o, ho, hc, hd⟩, _⟩ := st
    have e' : b = e ∨ b = it := by simpa using hb
    rcases e' with z | z
    · rw [z]; exact ⟨_, he, fun v q => nomatch q⟩
    · rw [z]; exact ⟨o, ho, fun v q => by rw [hd] at q; cases q⟩
  keep := fun i h h' st k => let ⟨⟨old, he⟩, hi, hne⟩ := st; ⟨⟨old, k e (by simp) _ he⟩, hi.at fun o q => k it (by simp) o q, hne⟩
  item := by
    intro X hP hw hK hc i pins s σ H E I hf st hg
    subst hP hw hK
    obtain ⟨⟨old, he⟩, hit, hne⟩ := st
    obtain ⟨xs, x, hq, hx⟩ := hg
    obtain ⟨its, rv, p, hz⟩ := I.tuple hq
    obtain ⟨u, hu, ru⟩ := rv.get hx
    have hel : e < s.heap.objs.size := Heap.lt_size he
    have hil : it < s.heap.objs.size := by obtain ⟨_, q, _⟩ := hit; exact Heap.lt_size q
    have hlt : i < its.toArray.size := by simpa using (List.getElem?_eq_some_iff.mp hu).1
    refine wpAny_pyNext_enum_itemD (Draws.tuple (A := X.A.in1) (show X.A.in1.handled = none from I.ok.hd hc) it a hai its.toArray) he ⟨hit, p⟩ hlt hne (by simp [hne, Ne.symm hae]) fun x' h' tk hP ho hst' hT hsz hk => ?_
    obtain ⟨hit', _⟩ := hst'
    have exu : x' = u := by
      have hu' : its.toArray[i]? = some u := by simpa using hu
      rw [hu'] at hP
      exact (Option.some.inj hP).symm
    subst exu
    refine ⟨_, rfl, wpAny_letOwnedTupleGo_enum (s := { s with heap := h', toks := tk + 1 }) ho fun h'' he' sb => ?_⟩
    have hT2 : h''.get? s.heap.objs.size = some { cls := .type "tuple", data := .seq #[.int i tk, x'] } := (sb.2 _ (Nat.ne_of_gt hel)).trans hT
    have new : ObjOk X.prog X.w (upd H s.heap.objs.size (.tup [.int (i : Nat), x])) h'' s.heap.objs.size (.tup [.int (i : Nat), x]) :=
      ⟨by show 2 ≤ sizeLine; decide, [.int i tk, x'], .cons ⟨_, rfl⟩ (.cons ru .nil), ⟨_, hT2, rfl, _, rfl⟩⟩
    have I1 : Inv X pins σ (upd H s.heap.objs.size (.tup [.int (i : Nat), x])) { s with heap := h'', toks := tk + 1 } :=
      I.turnedNew (ch := [e, it]) (fun b ob hb q => (sb.2 b (fun z => hb (by simp [z]))).trans (hk b ob (fun z => hb (by simp [z])) (fun z => hb (by simp [z])) q)) hf (Nat.le_refl _) new
    refine ⟨.ref s.heap.objs.size, _, I1, rfl, ⟨_, x, rfl, I.hok.fresh (Nat.le_refl _), rfl, fun ys hy => by rw [I.tuple_inj hy hq]; exact hx⟩, ⟨⟨x', ?_⟩, hit'.at fun o q => (sb.2 it (Ne.symm hne)).trans q, hne⟩, fun b hb => ?_⟩
    · have e1 : ((i + 1 : Nat) : Int) = (i : Int) + 1 := by omega
      rw [e1]; exact he'
    · have hb' : b < s.heap.objs.size := by
        have e' : b = e ∨ b = it := by simpa using hb
        rcases e' with z | z
        · rw [z]; exact hel
        · rw [z]; exact hil
      rw [upd_ne (Nat.ne_of_lt hb')]
      exact (hf b hb).1
  done := by
    intro X hP hw hK hc i pins s σ H E I hf st hg
    subst hP hw hK
    obtain ⟨⟨old, he⟩, hit, hne⟩ := st
    obtain ⟨xs, hq, hx⟩ := hg
    obtain ⟨its, rv, p, hz⟩ := I.tuple hq
    obtain ⟨f0, f1, f2, f3, f4, f5⟩ := hf it (by simp)
    have hl := rv.length
    have hT : s.TypeIs (.ref e) "enumerate" := ⟨_, he, rfl⟩
    unfold pyNext
    refine wpAny_bind (wpAny_attempt (wpAny_callSpecial?_slot (name := Str.ofString "__next__") hT F.slot_enumerate_next
      (wpAny_call_entry F.slot_enumerate_next hT F.entry_enumerate_next ?_ (F.args_enumerate_next_1 _))))
    show wpAny _ _ (field (.ref e) 2 >>= _) _ _ _
    refine wpAny_bind (wpAny_field he rfl (x := .ref it) rfl ?_)
    refine wpAny_bind (wpAny_nextOf_tuple_end (I.ok.hd hc) hit p (by simp; omega) fun h' x' eb hx' => ?_)
    obtain ⟨o, ho, hcx⟩ := hx'
    refine wpAny_bind (wpAny_isInstance (T := "StopIteration") (b := true) ⟨o, ho, hcx⟩ isSubtype_stop ?_)
    exact wpAny_pure ⟨rfl, I.turned (t' := s.toks) (fun b o hb q => eb b o hb q) f0 f1 f3 f4 f5⟩
  self := fun A i s Q E st h => let ⟨⟨_, he⟩, _⟩ := st; wpAny_pyIter_enum he h
def iEnumT (K : PySem.W.Frag) (ta : TA) : TI := fun σ H R => ta σ H fun vs H1 => ∃ a xs, vs = [.ref a] ∧ SqT K H1 a xs ∧ R (IteT K a) H1
theorem pi_enumT {X : Cx} {e : Expr} {ta : TA} {p pos tpos : Pos} {elts : List Expr} {kk : Nat} (hg : Gl X "enumerate") (hm : X.mg "enumerate" = none) (ha : PA X [e] ta) (hs : starEach [e] X.env = [(false, eval e X.env)] := by rfl) :
    PI X (.Tuple elts kk tpos) (.Call (.Name "enumerate" p) [e] [] pos) (iEnumT X.K ta) := by
  refine ⟨fun pins s σ H R I h => ?_⟩
  refine Call_ (ld_blt I hg hm boot_enumerate (PyProof.Rows.callWith_type1 (thn (ha.run pos pins s σ H _ I h) fun us s1 ⟨vs, H1, I1, r1, q1⟩ => ?_) hs rfl))
  obtain ⟨a, xs, ex, hq, q⟩ := q1
  subst ex
  cases r1 with
  | cons r rr =>
    cases rr
    cases r
    obtain ⟨its, rv, p', hz⟩ := I1.tuple hq
    have hal : a < s1.heap.objs.size := by obtain ⟨_, q, _⟩ := id p'; exact Heap.lt_size q
    refine enum_begins1 (begins_tuple a its.toArray) p' fun h' he hit hsz hk => wpAny_pyIter_enum he ?_
    have I2 : Inv X pins σ H1 { s1 with heap := h' } := I1.kept (t' := s1.toks) hk
    refine ⟨s1.heap.objs.size + 1, [s1.heap.objs.size + 1, s1.heap.objs.size], _, _, H1, rfl, I2, turn_enumT a (s1.heap.objs.size + 1) s1.heap.objs.size (Nat.ne_of_lt (Nat.lt_succ_of_lt hal)) (Nat.ne_of_lt hal), ⟨⟨.none, he⟩, ⟨_, hit, rfl, rfl⟩, Nat.succ_ne_self _⟩, fun b hb => ?_, q⟩
    have e' : b = s1.heap.objs.size + 1 ∨ b = s1.heap.objs.size := by simpa using hb
    have hle : s1.heap.objs.size ≤ b := by
      rcases e' with z | z
      · rw [z]; exact Nat.le_add_right _ _
      · rw [z]; exact Nat.le_refl _
    exact I1.fpOk hle (I1.hok.fresh hle)
end FLB

/-! part F24 -/
set_option Elab.async false
set_option linter.all false
set_option maxRecDepth 100000
set_option maxHeartbeats 4000000
namespace FL
open PySem PySem.Spec PyProof.Rows L2
variable {X : Cx} {W : WX} {e a b c o tg iter value : Expr} {f g f1 f2 f3 fo fa : EF} {pos pos' apos kpos p tpos : Pos} {es : List Expr} {u uk : AF} {kws : List Keyword}
def enumD : Nat → List D → List D
  | _, [] => []
  | i, d :: ds => .tup [.int (i : Nat), d] :: enumD (i + 1) ds
theorem enumD_get : ∀ {ds : List D} {i k : Nat}, (enumD k ds)[i]? = ds[i]?.map fun d => .tup [.int ((k + i : Nat) : Int), d]
  | [], i, k => by simp [enumD]
  | d :: ds, 0, k => by simp [enumD]
  | d :: ds, i + 1, k => by
    show (enumD (k + 1) ds)[i]? = _
    rw [enumD_get, List.getElem?_cons_succ, show k + 1 + i = k + (i + 1) by omega]
theorem enumD_len : ∀ (ds : List D) (k : Nat), (enumD k ds).length = ds.length
  | [], _ => rfl
  | d :: ds, k => by rw [enumD, List.length_cons, List.length_cons, enumD_len]
theorem walks_pairs {K : Frg} {J : It} {ds : List D} {vs : List V} {G0 : Hp} (r : Reps K G0 ds vs) (hgo : ∀ H i x, (∀ (F : Fr) (Γ : En) (σ : St) (G : Hp), Rl K F Γ σ H G → Le G0 G → vs[i]? = some x → J.go i H)) (hst : ∀ H i, (∀ (F : Fr) (Γ : En) (σ : St) (G : Hp), Rl K F Γ σ H G → Le G0 G → vs.length ≤ i → J.stop i H))
    (hy : ∀ H i v H', (∀ (F : Fr) (Γ : En) (σ : St) (G : Hp), Rl K F Γ σ H G → Le G0 G → J.yld i H v H' → ∃ T x, v = .ref T ∧ H T = none ∧ H' = upd H T (.tup [.int (i : Nat), x]) ∧ vs[i]? = some x)) : Walks K J (enumD 0 ds) G0 := fun F Γ σ H G i R le => by
  refine ⟨fun d hd => ?_, fun hi => hst H i F Γ σ G R le (by rw [r.len]; rw [enumD_len] at hi; exact hi)⟩
  rw [enumD_get] at hd
  obtain ⟨d0, h1, rfl⟩ := Option.map_eq_some_iff.mp hd
  obtain ⟨v, h2, h3⟩ := r.getD h1
  refine ⟨hgo H i v F Γ σ G R le h2, fun x H' y => ?_⟩
  obtain ⟨T, x', rfl, hT, rfl, hx⟩ := hy H i x H' F Γ σ G R le y
  rw [h2] at hx
  cases hx
  have R1 := R.newH (o := .tup [.int (i : Nat), v]) hT
  have R2 := R1.tell (p := T) upd_same (R.heNone hT) (R.gNone hT) (R.noOwn hT)
  refine ⟨_, R2, Le.upd (R.gNone hT), ⟨T, _, rfl, .of upd_same, .int (i : Nat), _, rfl, by rw [Nat.zero_add]; rfl, v, _, rfl, Rep.le (le.trans (Le.upd (R.gNone hT))) _ _ h3, rfl⟩, .inr ⟨T, _, hT, rfl⟩⟩
theorem walks_enumT {K : Frg} {a : Addr} {vs : List V} {ds : List D} {G0 : Hp} (h : SqT K G0 a vs) (r : Reps K G0 ds vs) : Walks K (FLB.IteT K a) (enumD 0 ds) G0 :=
  walks_pairs r (fun H i x F Γ σ G R le hx => ⟨vs, x, SqT.le R.gh (SqT.le le h), hx⟩) (fun H i F Γ σ G R le hi => ⟨vs, SqT.le R.gh (SqT.le le h), hi⟩) fun H i v H' F Γ σ G R le y => by
    obtain ⟨T, x, e1, e2, e3, e4⟩ := y
    exact ⟨T, x, e1, e2, e3, e4 vs (SqT.le R.gh (SqT.le le h))⟩
theorem walks_enumL {K : Frg} {a : Addr} {vs : List V} {ds : List D} {G0 : Hp} (h : G0 a = some (.lst vs)) (r : Reps K G0 ds vs) : Walks K (Ite K a) (enumD 0 ds) G0 :=
  walks_pairs r (fun H i x F Γ σ G R le hx => ⟨vs, x, .of (R.gh _ _ (le _ _ h)), hx⟩) (fun H i F Γ σ G R le hi => ⟨vs, .of (R.gh _ _ (le _ _ h)), hi⟩) fun H i v H' F Γ σ G R le y => by
    obtain ⟨T, x, e1, e2, e3, e4⟩ := y
    exact ⟨T, x, e1, e2, e3, e4 vs (.of (R.gh _ _ (le _ _ h)))⟩
def enT (ev : EV) (Γ : En) : O (List D) := match ev with
  | .d (.tup ds) => .ok (enumD 0 ds) Γ
  | _ => .fail
def enL (ev : EV) (Γ : En) : O (List D) := match frz1 ev Γ with
  | some (.lst ds, Γ') => .ok (enumD 0 ds) Γ'
  | _ => .fail
def enA (ev : EV) (Γ : En) : O (List D) := match ev with
  | .d (.tup ds) => .ok (enumD 0 ds) Γ
  | _ => enL ev Γ
def enumI (f : EF) : IF := fun Γ => (f Γ).bind enA
theorem fi_enum {elts : List Expr} {kk : Nat} (hm : X.mg "enumerate" = none) (h : FE X W e f) (hg : Gl X "enumerate" := by rfl) (hs : starEach [e] X.env = [(false, eval e X.env)] := by rfl) : FI X W (.Tuple elts kk tpos) (.Call (.Name "enumerate" p) [e] [] pos) (enumI f) := by
  obtain ⟨t, pt, s⟩ := h
  have pa : PA X [e] (tCons t tNil) := pa_cons pt pa_nil hs
  refine ⟨_, pi_or (FLB.pi_enumT hg hm pa hs) (pi_enum hg hm pa hs), fun F Γ σ H G R => ?_⟩
  have k := s F Γ σ H G R
  refine OutI.or (T1 := FLB.iEnumT X.K (tCons t tNil) σ H) (T2 := iEnum X.K (tCons t tNil) σ H) (r := enumI f Γ) ?_ (fun Q q => .inl q) (fun Q q => .inr q)
  unfold enumI
  revert k
  cases f Γ with
  | fail => exact fun _ => .inl trivial
  | exc c ns fs Γ' => exact fun k => .inl fun Q q => k _ q
  | ok ev Γ' =>
    intro k
    show OutI X.K W F σ G _ (enA ev Γ') ∨ OutI X.K W F σ G _ (enA ev Γ')
    unfold enA
    split
    · left
      intro Q q
      refine k _ fun v H1 G1 R1 le1 r1 => ?_
      obtain ⟨a, vs, rfl, hv, rp⟩ := r1
      exact ⟨a, vs, rfl, SqT.le R1.gh hv, q _ _ G1 R1 le1 (walks_enumT hv rp)⟩
    · right
      unfold enL
      split
      · rename_i ds Γ2 e2
        intro Q q
        refine k _ fun v H1 G1 R1 le1 r1 => ?_
        obtain ⟨G2, R2, le2, rp⟩ := R1.frz1 r1 e2
        obtain ⟨a, vs, rfl, hv, rp⟩ := rp
        exact ⟨a, vs, rfl, .of (R2.gh _ _ hv), q _ _ G2 R2 (le1.trans le2) (walks_enumL hv rp)⟩
      · trivial
section
variable {k n : Nat} {fa' : Addr} {fd : FuncData} {ps ks : List Str} {sp : Sp} {dvs : List V} {ds : List Value} {x m cn fn : Str} {Fn : DFn} {dd : List D} {pm : List Nat} {b : Option Nat}
def methK (b : Option Nat) (n mk np : Nat) (pm : List Nat) (c m : Str) (Fn : DFn) (dd : List D) (fo : EF) (u uk : AF) : VF := fun Γ => (fo Γ).bind fun eo Γ1 => match insOf c eo Γ1 with
  | some (ns, _) => if ns.contains m then .fail else (u Γ1).bind fun es Γ2 => (uk Γ2).bind fun zs Γ3 =>
      if es.length = n ∧ zs.length = mk ∧ (pick pm ((eo :: es) ++ (zs ++ dd.map EV.d))).length = np then finCall b Fn [] (pick pm ((eo :: es) ++ (zs ++ dd.map EV.d))) Γ3 else .fail
  | none => .fail
theorem sem_methK {Γ : En} {σ : St} {H G : Hp} {Fr : Fr} {mk : Nat} {eo : EV} {v : V} {es zs : List EV} {vs ws : List V} (R : Rl X.K Fr Γ σ H G) (rv : vrel X.K σ G eo v) (rs : vsrel X.K σ G es vs) (rz : vsrel X.K σ G zs ws) (hdd : ∀ G, Reps X.K G dd dvs) :
    OutV X.K W (vvrel X.K) Fr σ G (fun Q => vs.length = n ∧ ws.length = mk ∧ spL X.K ps b Fn (pick pm ((v :: vs) ++ (ws ++ dvs))) H Q (fun cls d H' => W cls d σ H'))
      (if es.length = n ∧ zs.length = mk ∧ (pick pm ((eo :: es) ++ (zs ++ dd.map EV.d))).length = ps.length then finCall b Fn [] (pick pm ((eo :: es) ++ (zs ++ dd.map EV.d))) Γ else .fail) := by
  split
  · rename_i h
    have rp : vsrel X.K σ G (pick pm ((eo :: es) ++ (zs ++ dd.map EV.d))) (pick pm ((v :: vs) ++ (ws ++ dvs))) := pick_paired (paired_app (.cons rv rs) (paired_app rz (reps_vs (hdd G)))) pm
    refine OutV.of (out_call (b := b) (dvs := []) R rp (fun _ => rfl)) fun Q q => ⟨by rw [vsrel_len rs, h.1], by rw [vsrel_len rz, h.2.1], by rw [vsrel_len rp, h.2.2], ?_⟩
    rwa [List.append_nil] at q
  · trivial
theorem fv_methK0 {pl : PySem.Sem Bool} (cl : Cls X.K (He.ga X.K cn)) (hm : Meth X.K (He.ga X.K cn) m fa') (F : FnG X.prog X.w X.K X.mg X.base (L2.CX X.prog X.w) k fa' fd ps (spL X.K ps b Fn)) (hb : KB X.K fd ps 1 ks pm ds) (hd : Vals dvs ds) (hdd : ∀ G, Reps X.K G dd dvs)
    (hr : Room k X.A) (hgd : X.A.guards = some []) (tk : Takes X W) (ho : FE X W o fo) (hkw : FK X W kws uk) (hall : (backToKw pos (keywordEach kws X.env)).all (·.1.isSome) = true := by rfl) (hks : (backToKw pos (keywordEach kws X.env)).filterMap (·.1) = ks := by rfl)
    (hpl : ((backTo pos (starEach [] X.env)).any (·.1) || (backToKw pos (keywordEach kws X.env)).any (·.1.isNone)) = false := by rfl)
    (ht : eval (.Call (.Attribute o m apos) [] kws pos) X.env = (do
      let ov ← eval o X.env
      standAt apos.atName
      let (f, first) ← holding [ov] (getMethod ov m pl)
      callWith pos f first (backTo pos (starEach [] X.env)) (backToKw pos (keywordEach kws X.env))) := by rfl) :
    FV X W (.Call (.Attribute o m apos) [] kws pos) (methK b 0 ks.length ps.length pm cn m Fn dd fo aNil uk) := by
  obtain ⟨t1, p1, s1⟩ := ho
  obtain ⟨t2, p2, s2⟩ := hkw
  refine ⟨fun σ H Q => t1 σ H fun x H1 => ∃ a dx fs, x = .ref a ∧ H1 a = some (.ins (He.ga X.K cn) dx fs) ∧ fs.lookup m = none ∧ t2 σ H1 fun zs H2 => ([] : List V).length = 0 ∧ zs.length = ks.length ∧ spL X.K ps b Fn (pick pm ([x] ++ (zs ++ dvs))) H2 Q (fun cls d H' => W cls d σ H'), ⟨fun pins s' σ H Q I h => ?_⟩, fun Fr Γ σ H G R => ?_⟩
  · refine PySem.W.methodCall_KW (pl := pl) (thn (p1.run pins s' σ H _ I h) fun u s1 ⟨x, H1, I1, rx, a, dx, fs, ex, ea, l, q⟩ => ?_) ht
    subst ex
    obtain rfl : u = Value.ref a := rx
    refine getmeth_ok I1 ea cl hm l ?_
    refine PySem.W.callWith_KW0 (first := [.ref a]) (h₀ := X.base) I1.ok.mod.kin hm.kp hall ?_ hpl
    refine thn (p2.run pos pins s1 σ H1 _ I1 q) fun ws s2 ⟨zs, H2, I2, rz, l1, l2, q2⟩ => ⟨I2.kIn, ?_⟩
    rw [hks]
    exact run_GK (us := [.ref a]) (vs := [.ref a]) F hr hgd hb hd tk I2 (.cons rfl .nil) rz rfl l2 q2
  · refine OutV.bind (T' := fun (x : V) (H1 : Hp) (Q : VK) => ∃ a dx fs, x = .ref a ∧ H1 a = some (.ins (He.ga X.K cn) dx fs) ∧ fs.lookup m = none ∧ t2 σ H1 fun zs H2 => ([] : List V).length = 0 ∧ zs.length = ks.length ∧ spL X.K ps b Fn (pick pm ([x] ++ (zs ++ dvs))) H2 Q (fun cls d H' => W cls d σ H')) (s1 Fr Γ σ H G R) fun eo Γ1 v H1 G1 R1 _ rv => ?_
    split
    · rename_i ns fs e1
      split
      · trivial
      · rename_i hns
        obtain ⟨a, dx, fv, rfl, h, n', rp⟩ := insOf_ok R1 rv e1
        show OutV X.K W (vvrel X.K) Fr σ G1 _ ((uk Γ1).bind fun zs Γ3 => if ([] : List EV).length = 0 ∧ zs.length = ks.length ∧ (pick pm ((eo :: []) ++ (zs ++ dd.map EV.d))).length = ps.length then finCall b Fn [] (pick pm ((eo :: []) ++ (zs ++ dd.map EV.d))) Γ3 else .fail)
        refine OutV.of (OutV.bind (T' := fun (zs : List V) (H2 : Hp) (Q : VK) => ([] : List V).length = 0 ∧ zs.length = ks.length ∧ spL X.K ps b Fn (pick pm ([V.ref a] ++ (zs ++ dvs))) H2 Q (fun cls d H' => W cls d σ H')) (s2 Fr Γ1 σ H1 G1 R1) fun zs Γ2 ws H2 G2 R2 le2 rz => ?_) fun Q q => ⟨a, dx, fv, rfl, h, look_none n' hns, q⟩
        exact sem_methK R2 (vrel_mono _ _ _ _ _ _ le2 rv) (show vsrel X.K σ G2 [] [] from .nil) rz hdd
    · trivial
end
end FL

/-! part F25 -/
set_option Elab.async false
set_option linter.all false
set_option maxRecDepth 100000
set_option maxHeartbeats 4000000
namespace FL
open PySem PySem.Spec PyProof.Rows L2
def insO (c : Str) (r : Option OD) : Option (List Str × List D) := match r with
  | some (.i c' ns fs) => if c' = c then some (ns, fs) else none
  | _ => none
def flC (c f : Str) (ev : EV) (Γ : En) : O EV := oK Γ ((insOf c ev Γ).bind fun p => fldOf f p.1 p.2)
def prC (c : Str) (Fn : DFn) (ev : EV) (Γ : En) : O VV := if (insOf c ev Γ).isSome then noX (finCall none Fn [] [ev] Γ) else .fail
def mkC (n : Nat) (Fn : DFn) (c : Str) (dd : List D) (es : List EV) (Γ : En) : O VV := if es.length = n then finMake Fn c dd es Γ else .fail
def fmK (Fn : DFn) (c : Str) (dd : List D) (r : Option (List D × En)) : O VV := match r with
  | none => .fail
  | some (ds, Γ1) => maK Γ1 (Fn (.ins c [] [] :: (ds ++ dd)))
def meI (b : Option Nat) (n : Nat) (m : Str) (Fn : DFn) (dd : List D) (u : AF) (eo : EV) (Γ : En) (r : Option (List Str × List D)) : O VV := match r with
  | some (ns, _) => if ns.contains m then .fail else (u Γ).bind fun es Γ2 => if es.length = n then finCall b Fn dd (eo :: es) Γ2 else .fail
  | none => .fail
def meC (b : Option Nat) (n : Nat) (c m : Str) (Fn : DFn) (dd : List D) (u : AF) (eo : EV) (Γ : En) : O VV := meI b n m Fn dd u eo Γ (insOf c eo Γ)
def mkI (b : Option Nat) (n mk np : Nat) (pm : List Nat) (m : Str) (Fn : DFn) (dd : List D) (u uk : AF) (eo : EV) (Γ : En) (r : Option (List Str × List D)) : O VV := match r with
  | some (ns, _) => if ns.contains m then .fail else (u Γ).bind fun es Γ2 => (uk Γ2).bind fun zs Γ3 =>
      if es.length = n ∧ zs.length = mk ∧ (pick pm ((eo :: es) ++ (zs ++ dd.map EV.d))).length = np then finCall b Fn [] (pick pm ((eo :: es) ++ (zs ++ dd.map EV.d))) Γ3 else .fail
  | none => .fail
def mkC' (b : Option Nat) (n mk np : Nat) (pm : List Nat) (c m : Str) (Fn : DFn) (dd : List D) (u uk : AF) (eo : EV) (Γ : En) : O VV := mkI b n mk np pm m Fn dd u uk eo Γ (insOf c eo Γ)
def sfC (i : Nat) (c f : Str) (ev : EV) (Γ : En) : O Fl := setFK i c f (frz1 ev Γ)
def sfD (i : Nat) (c f : Str) (d : D) (Γ : En) (r : Option OD) : O Fl := match r with
  | some (.i c' ns fs) => if c' = c ∧ ns.length < 1000 then .ok .nx (putOwn Γ i (.i c (putFD f d ns fs).1 (putFD f d ns fs).2)) else .fail
  | _ => .fail
def txC (cn : Str) (Fn : DFn) (ev : EV) (Γ : En) : O EV := if (insOf cn ev Γ).isSome then txK (finCall none Fn [] [ev] Γ) else .fail
def trC (cn : Str) (ev : EV) (Γ : En) : O EV := if (insOf cn ev Γ).isSome then .ok (.d (.bl true)) Γ else .fail
def eqC (cs : List Str) (cn : Str) (Fn : DFn) (e1 e2 : EV) (Γ : En) : O EV := if ((insOf cn e1 Γ).isSome && okTy cs e2 Γ) = true then eqK (finCall none Fn [] [e1, e2] Γ) else .fail
def neC (cs : List Str) (cn : Str) (Fn : DFn) (e1 e2 : EV) (Γ : En) : O EV := if ((insOf cn e1 Γ).isSome && okTy cs e2 Γ) = true then neK (finCall none Fn [] [e1, e2] Γ) else .fail
def jsC (fs : List EF) (acc : Str) (ev : EV) (Γ : En) : O EV := match ev with
  | .d (.str y) => if (acc ++ y).length ≤ sizeLine then jsE fs (acc ++ y) Γ else .fail
  | _ => .fail
def fmC (ev : EV) (Γ : En) : O EV := match ev with
  | .d (.str y) => if y.length ≤ sizeLine then .ok (.d (.str y)) Γ else .fail
  | .d (.int i) => if i.natAbs.log2 < 1920 then .ok (.d (.str (Str.ofString (toString i)))) Γ else .fail
  | _ => .fail
namespace Ev
variable {f f1 f2 : EF} {Γ : En} {vf : VF} {u uk : AF} {cn c c' m : Str} {Fn : DFn} {b : Option Nat} {dd ds : List D} {n : Nat} {ns : List Str} {fs : List D} {cs : List Str}
theorem ins_d : insOf c (.d (.ins c' ns fs)) Γ = if c' = c then some (ns, fs) else none := rfl
theorem ins_o {i} : insOf c (.own i) Γ = insO c (FL.ownD Γ i) := by
  unfold insOf insO
  rw [looko]
  cases FL.ownD Γ i with
  | none => rfl
  | some o => cases o <;> rfl
theorem ins_oi : insO c (some (.i c' ns fs)) = if c' = c then some (ns, fs) else none := rfl
theorem isSomeS {α : Type} {x : α} : (some x).isSome = true := rfl
theorem fld {x : Str} : fldE c x f Γ = (f Γ).bind (flC c x) := by
  unfold fldE flC
  congr 1
theorem flC1 {x : Str} {ev} : flC c x ev Γ = oK Γ ((insOf c ev Γ).bind fun p => fldOf x p.1 p.2) := rfl
theorem prop : propV c Fn f Γ = (f Γ).bind (prC c Fn) := rfl
theorem prC1 {ev} : prC c Fn ev Γ = if (insOf c ev Γ).isSome then noX (FL.finCall none Fn [] [ev] Γ) else .fail := rfl
theorem noX1 {v} : noX (.ok v Γ) = .ok v Γ := rfl
theorem make : makeV n Fn c dd u Γ = (u Γ).bind (mkC n Fn c dd) := rfl
theorem mkC1 {es} : mkC n Fn c dd es Γ = if es.length = n then finMake Fn c dd es Γ else .fail := rfl
theorem fmk {es} : finMake Fn c dd es Γ = fmK Fn c dd (frzs es Γ) := by unfold finMake fmK; cases frzs es Γ <;> rfl
theorem fmK1 : fmK Fn c dd (some (ds, Γ)) = maK Γ (Fn (.ins c [] [] :: (ds ++ dd))) := rfl
theorem maK1 {o} : maK Γ (.ok .non (some o)) = .ok (.n o) Γ := rfl
theorem makeKK {k np pm} : makeK n k np pm Fn c dd u uk Γ = (u Γ).bind fun es Γ1 => (uk Γ1).bind fun zs Γ2 =>
  if es.length = n ∧ zs.length = k ∧ (pick pm (es ++ (zs ++ dd.map EV.d))).length + 1 = np then finMake Fn c [] (pick pm (es ++ (zs ++ dd.map EV.d))) Γ2 else .fail := rfl
theorem meth : methV b n c m Fn dd f u Γ = (f Γ).bind (meC b n c m Fn dd u) := by
  unfold methV meC meI
  congr 1
theorem meC1 {eo} : meC b n c m Fn dd u eo Γ = meI b n m Fn dd u eo Γ (insOf c eo Γ) := rfl
theorem meI1 {eo} : meI b n m Fn dd u eo Γ (some (ns, fs)) = if ns.contains m then .fail else (u Γ).bind fun es Γ2 => if es.length = n then FL.finCall b Fn dd (eo :: es) Γ2 else .fail := rfl
theorem methKK {k np pm} : methK b n k np pm c m Fn dd f u uk Γ = (f Γ).bind (mkC' b n k np pm c m Fn dd u uk) := by
  unfold methK mkC' mkI
  congr 1
theorem mkC'1 {k np pm eo} : mkC' b n k np pm c m Fn dd u uk eo Γ = mkI b n k np pm m Fn dd u uk eo Γ (insOf c eo Γ) := rfl
theorem mkI1 {k np pm eo} : mkI b n k np pm m Fn dd u uk eo Γ (some (ns, fs)) = if ns.contains m then .fail else (u Γ).bind fun es Γ2 => (uk Γ2).bind fun zs Γ3 =>
      if es.length = n ∧ zs.length = k ∧ (pick pm ((eo :: es) ++ (zs ++ dd.map EV.d))).length = np then FL.finCall b Fn [] (pick pm ((eo :: es) ++ (zs ++ dd.map EV.d))) Γ3 else .fail := rfl
theorem setf {i x} : setF i c x f Γ = (f Γ).bind (sfC i c x) := rfl
theorem sfC1 {i x ev} : sfC i c x ev Γ = setFK i c x (frz1 ev Γ) := rfl
theorem setFK1 {i x d} : setFK i c x (some (d, Γ)) = sfD i c x d Γ (FL.ownD Γ i) := by
  first
  | (unfold setFK sfD; dsimp only; done)
  | (unfold setFK sfD; dsimp only; rcases FL.ownD Γ i with _ | o <;> first | rfl | (cases o <;> rfl))
theorem sfD1 {i x d} : sfD i c x d Γ (some (.i c' ns fs)) = if c' = c ∧ ns.length < 1000 then .ok .nx (FL.putOwn Γ i (.i c (putFD x d ns fs).1 (putFD x d ns fs).2)) else .fail := rfl
theorem odi : OD.d (.i c ns fs) = .ins c ns fs := rfl
theorem odins : D.od (.ins c ns fs) = some (.i c ns fs) := rfl
theorem text : textE c Fn f Γ = (f Γ).bind (txC c Fn) := rfl
theorem txC1 {ev} : txC c Fn ev Γ = if (insOf c ev Γ).isSome then txK (FL.finCall none Fn [] [ev] Γ) else .fail := rfl
theorem txK1 {y} : txK (.ok (.e (.d (.str y))) Γ) = .ok (.d (.str y)) Γ := rfl
theorem truei : trueI c f Γ = (f Γ).bind (trC c) := rfl
theorem trC1 {ev} : trC c ev Γ = if (insOf c ev Γ).isSome then .ok (.d (.bl true)) Γ else .fail := rfl
theorem eqi : eqiE cs c Fn f1 f2 Γ = (f1 Γ).bind fun e1 Γ1 => (f2 Γ1).bind (eqC cs c Fn e1) := rfl
theorem eqC1 {e1 e2} : eqC cs c Fn e1 e2 Γ = if ((insOf c e1 Γ).isSome && okTy cs e2 Γ) = true then eqK (FL.finCall none Fn [] [e1, e2] Γ) else .fail := rfl
theorem eqK1 {b} : eqK (.ok (.e (.d (.bl b))) Γ) = .ok (.d (.bl b)) Γ := rfl
theorem nei : neiE cs c Fn f1 f2 Γ = (f1 Γ).bind fun e1 Γ1 => (f2 Γ1).bind (neC cs c Fn e1) := rfl
theorem neC1 {e1 e2} : neC cs c Fn e1 e2 Γ = if ((insOf c e1 Γ).isSome && okTy cs e2 Γ) = true then neK (FL.finCall none Fn [] [e1, e2] Γ) else .fail := rfl
theorem neK1 {b} : neK (.ok (.e (.d (.bl b))) Γ) = .ok (.d (.bl (!b))) Γ := rfl
theorem okTyd : okTy cs (.d (.ins c ns fs)) Γ = cs.contains c := rfl
def okO (cs : List Str) (r : Option OD) : Bool := match r with
  | some (.i c _ _) => cs.contains c
  | some _ => true
  | none => false
theorem okTyo {i} : okTy cs (.own i) Γ = okO cs (FL.ownD Γ i) := by
  unfold okTy okO
  rw [looko]
  cases FL.ownD Γ i with
  | none => rfl
  | some o => cases o <;> rfl
theorem okO1 : okO cs (some (.i c ns fs)) = cs.contains c := rfl
theorem isC1 : isC cs c (.ins c' ns fs) = if cs.contains c' then some (decide (c' = c)) else none := rfl
theorem js0 {acc} : jsE [] acc Γ = .ok (.d (.str acc)) Γ := rfl
theorem js1 {fs acc} : jsE (f :: fs) acc Γ = (f Γ).bind (jsC fs acc) := by
  show (f Γ).bind _ = _
  congr 1
theorem jsC1 {fs acc y} : jsC fs acc (.d (.str y)) Γ = if (acc ++ y).length ≤ sizeLine then jsE fs (acc ++ y) Γ else .fail := rfl
theorem fmt : fmtE f Γ = (f Γ).bind fmC := by
  unfold fmtE
  congr 1
theorem fmCi {i : Int} : fmC (.d (.int i)) Γ = if i.natAbs.log2 < 1920 then .ok (.d (.str (Str.ofString (toString i)))) Γ else .fail := rfl
theorem enum : enumI f Γ = (f Γ).bind enA := rfl
theorem enAt {ds} : enA (.d (.tup ds)) Γ = .ok (enumD 0 ds) Γ := rfl
theorem enAl {ds} : enA (.d (.lst ds)) Γ = .ok (enumD 0 ds) Γ := rfl
theorem enAo {i} : enA (.own i) Γ = enL (.own i) Γ := rfl
theorem enL1 {ev} : enL ev Γ = (match frz1 ev Γ with | some (.lst ds, Γ') => .ok (enumD 0 ds) Γ' | _ => .fail) := rfl
def all3 := (And.intro @ins_d (And.intro @ins_o (And.intro @ins_oi (And.intro @isSomeS (And.intro @fld (And.intro @flC1 (And.intro @prop (And.intro @prC1 (And.intro @noX1 (And.intro @make (And.intro @mkC1 (And.intro @fmk (And.intro @fmK1 (And.intro @maK1 (And.intro @makeKK (And.intro @meth (And.intro @meC1 (And.intro @meI1 (And.intro @methKK (And.intro @mkC'1 (And.intro @mkI1 (And.intro @setf (And.intro @sfC1 (And.intro @setFK1 (And.intro @sfD1 (And.intro @odi (And.intro @odins (And.intro @text (And.intro @txC1 (And.intro @txK1 (And.intro @truei (And.intro @trC1 (And.intro @eqi (And.intro @eqC1 (And.intro @eqK1 (And.intro @nei (And.intro @neC1 (And.intro @neK1 (And.intro @okTyd (And.intro @okTyo (And.intro @okO1 (And.intro @isC1 (And.intro @js0 (And.intro @js1 (And.intro @fmt (And.intro @enum (And.intro @enAt (And.intro @enAl (And.intro @enAo @enL1)))))))))))))))))))))))))))))))))))))))))))))))))
end Ev
end FL

/-! plain functions -/
set_option Elab.async false
set_option linter.all false
set_option maxRecDepth 100000
namespace PF
open PySem PySem.Spec PyProof.Rows L2 FL
def c_MOST_DEEDS : D := (.int 6)
def c_DEEDS : D := (.tup [(.str "lock me"), (.str "lock you"), (.str "unlock me"), (.str "tag me"), (.str "tag you"), (.str "untag me"), (.str "untag you"), (.str "untag any")])
def c_BETWEEN : D := (.str "; ")
def is_row_x1 : EF := (op2 inD (vE 2) (cE c_DEEDS))
def is_row_b : SF := (seqS (ifS ((notT ((tstE ((isiE (isB "str") (vE 0))))))) (retS (cE (.bl false))) (nxS)) ((seqS (asgV 1 (vE' ((m1E splitD (vE 0) (cE c_BETWEEN))))) (retS ((andE ((op2 leD ((opN (one lenD) (aCons (vE 1) aNil))) (cE c_MOST_DEEDS))) ((opN (one allD) (aCons ((telV (compV [2] (anyI (vE 1)) (bName 2) (trueT) ((is_row_x1))))) aNil)))))))))
def is_row_F : DFn := runF none 3 is_row_b
def check_row_b : SF := ifS ((notT ((tstE ((telV (callV none 1 is_row_F [] (aCons (vE 0) aNil)))))))) (badS) (nxS)
def check_row_F : DFn := runF none 1 check_row_b
def behind_deed_b : SF := (seqS (asgB (bSeq 2 (bCons (bName 4) (bCons (bName 5) bNil))) (vE 0)) ((seqS (asgV 6 (vE' ((ifE ((tstE (op2 eqD (vE 5) (cE (.str "you"))))) (vE 2) (vE 1))))) ((seqS (ifS ((tstE (op2 inD (vE 4) ((tupE (aCons (cE (.str "lock")) (aCons (cE (.str "tag")) aNil))))))) (retS ((tupE (aCons ((tupE (aCons (vE 4) (aCons (vE 6) aNil)))) (aStar (vE 3) aNil))))) (nxS)) ((seqS (ifS ((tstE (op2 eqD (vE 3) ((tupE aNil))))) (retS (cE .non)) (nxS)) ((seqS (asgB (bSeq 2 (bCons (bName 7) (bCons (bName 8) bNil))) ((op2 getD (vE 3) (cE (.int 0))))) ((seqS (ifS ((orT ((tstE (op2 neD (vE 4) ((op2 addD (cE (.str "un")) (vE 7)))))) ((andT ((tstE (op2 neD (vE 5) (cE (.str "any"))))) ((tstE (op2 neD (vE 8) (vE 6)))))))) (retS (cE .non)) (nxS)) (retS ((slE (vE 3) (oSome (cE (.int 1))) oNo))))))))))))))
def behind_deed_F : DFn := runF none 9 behind_deed_b
def done_x1 : SF := (seqS (asgV 3 (callV none 4 behind_deed_F [] (aCons (vE 4) (aCons (vE 1) (aCons (vE 2) (aCons (vE 3) aNil)))))) (ifS ((tstE (op2 isND (vE 3) (cE .non)))) (retS (cE .non)) (nxS)))
def done_b : SF := (seqS (forS (anyI (vE 0)) (bName 4) ((done_x1))) (retV (givV (vE 3))))
def done_F : DFn := runF none 5 done_b
def c_LETTERS : D := (.str "abcdefghijklmnopqrstuvwxyz")
def is_name_x1 : EF := (op2 inD (vE 1) (cE c_LETTERS))
def is_name_b : SF := retS ((andE ((isiE (isB "str") (vE 0))) ((andE ((chnE ltD ltD (cE (.int 0)) ((opN (one lenD) (aCons (vE 0) aNil))) (cE (.int 9)))) ((opN (one allD) (aCons ((telV (compV [1] (anyI (vE 0)) (bName 1) (trueT) ((is_name_x1))))) aNil)))))))
def is_name_F : DFn := runF none 2 is_name_b
def is_layer_b : SF := (seqS (ifS ((orT ((notT ((tstE ((isiE (isB "tuple") (vE 0))))))) ((orT ((tstE (op2 neD ((opN (one lenD) (aCons (vE 0) aNil))) (cE (.int 2))))) ((notT ((tstE ((isiE (isB "str") ((op2 getD (vE 0) (cE (.int 0)))))))))))))) (retS (cE (.bl false))) (nxS)) (retS ((andE ((op2 inD ((op2 getD (vE 0) (cE (.int 0)))) ((tupE (aCons (cE (.str "lock")) (aCons (cE (.str "tag")) aNil)))))) ((telV (callV none 1 is_name_F [] (aCons ((op2 getD (vE 0) (cE (.int 1)))) aNil))))))))
def is_layer_F : DFn := runF none 1 is_layer_b
def c_MOST_LAYERS : D := (.int 12)
def is_box_x1 : EF := (telV (callV none 1 is_layer_F [] (aCons (vE 1) aNil)))
def is_box_b : SF := retS ((andE ((isiE (isB "tuple") (vE 0))) ((andE ((op2 leD ((opN (one lenD) (aCons (vE 0) aNil))) (cE c_MOST_LAYERS))) ((opN (one allD) (aCons ((telV (compV [1] (anyI (vE 0)) (bName 1) (trueT) ((is_box_x1))))) aNil)))))))
def is_box_F : DFn := runF none 2 is_box_b
def deeds_of_x1 : EF := (opN (one tupD) (aCons ((m1E splitD (vE 1) (cE (.str " ")))) aNil))
def deeds_of_b : SF := retV (compV [1] (anyI ((m1E splitD (vE 0) (cE c_BETWEEN)))) (bName 1) (trueT) ((deeds_of_x1)))
def deeds_of_F : DFn := runF none 2 deeds_of_b
def behind_x1 : SF := ifS ((notT ((tstE ((telV (callV none 1 is_name_F [] (aCons (vE 4) aNil)))))))) (badS) (nxS)
def behind_b : SF := (seqS (exprS ((telV (callV none 1 check_row_F [] (aCons (vE 0) aNil))))) ((seqS (forS (anyI ((tupE (aCons (vE 1) (aCons (vE 2) aNil))))) (bName 4) ((behind_x1))) ((seqS (ifS ((notT ((tstE ((telV (callV none 1 is_box_F [] (aCons (vE 3) aNil)))))))) (badS) (nxS)) (retV (callV none 4 done_F [] (aCons ((telV (callV none 1 deeds_of_F [] (aCons (vE 0) aNil)))) (aCons (vE 1) (aCons (vE 2) (aCons (vE 3) aNil)))))))))))
def behind_F : DFn := runF none 5 behind_b
def _law_take_b : SF := (seqS (asgB (bSub 0 2) ((op2 addD ((op2 getD (vE 0) (cE (.int 2)))) (cE (.int 1))))) ((seqS (asgB (bSub 0 0) ((op2 modD ((opN (one intC) (aCons ((op2 addD ((op2 mulD ((op2 getD (vE 0) (cE (.int 0)))) ((op2 addD ((op2 fdivD ((op2 getD (vE 0) (cE (.int 0)))) (cE (.int 5)))) (cE (.int 30893)))))) ((op2 mulD ((op2 getD (vE 0) (cE (.int 2)))) (cE (.int 50021)))))) aNil))) (cE (.int 2147483563))))) ((seqS (ifS ((tstE (op2 gtD ((op2 getD (vE 0) (cE (.int 1)))) (cE (.int 0))))) ((seqS (asgB (bSeq 2 (bCons (bSub 0 1) (bCons (bName 2) bNil))) ((opN (two dmD) (aCons ((op2 getD (vE 0) (cE (.int 1)))) (aCons (vE 1) aNil))))) (retV (givV (vE 2))))) (nxS)) (retS ((op2 modD ((opN (one intC) (aCons ((op2 fdivD ((op2 getD (vE 0) (cE (.int 0)))) (cE (.int 256)))) aNil))) (vE 1)))))))))
def _law_take_F : DFn := runF (some 0) 3 _law_take_b
def _law_boxed_x1 : EF := (tupE (aCons ((op2 getD ((lstE (aCons (cE (.str "lock")) (aCons (cE (.str "tag")) aNil)))) ((telV (callV (some 0) 2 _law_take_F [] (aCons (vE 0) (aCons (cE (.int 2)) aNil))))))) (aCons ((op2 getD (vE 1) ((telV (callV (some 0) 2 _law_take_F [] (aCons (vE 0) (aCons ((opN (one lenD) (aCons (vE 1) aNil))) aNil))))))) aNil)))
def _law_boxed_b : SF := (seqS (asgV 3 (callV (some 0) 2 _law_take_F [] (aCons (vE 0) (aCons ((op2 addD (vE 2) (cE (.int 1)))) aNil)))) (retS ((opN (one tupD) (aCons ((telV (compV [4] (rng1 (aCons (vE 3) aNil)) (bName 4) (trueT) ((_law_boxed_x1))))) aNil)))))
def _law_boxed_F : DFn := runF (some 0) 5 _law_boxed_b
def _law_called_x1 : EF := (op2 getD (vE 3) ((telV (callV (some 0) 2 _law_take_F [] (aCons (vE 0) (aCons (cE (.int 26)) aNil))))))
def _law_called_b : SF := (seqS (asgV 1 (callV (some 0) 2 _law_take_F [] (aCons (vE 0) (aCons (cE (.int 5)) aNil)))) ((seqS (ifS ((tstE (op2 ltD (vE 1) (cE (.int 3))))) (retS ((op2 getD ((lstE (aCons (cE (.str "ann")) (aCons (cE (.str "bob")) (aCons (cE (.str "zed")) aNil))))) (vE 1)))) (nxS)) ((seqS (ifS ((tstE (op2 eqD (vE 1) (cE (.int 3))))) ((seqS (asgV 2 (lstN (aCons (cE (.str "an")) (aCons (cE (.str "anna")) (aCons (cE (.str "bo")) (aCons (cE (.str "bobb")) (aCons (cE (.str "ze")) (aCons (cE (.str "zedd")) (aCons (cE (.str "a")) (aCons (cE (.str "z")) (aCons (cE (.str "ban")) (aCons (cE (.str "nna")) (aCons (cE (.str "me")) (aCons (cE (.str "you")) (aCons (cE (.str "any")) (aCons (cE (.str "lock")) (aCons (cE (.str "tag")) aNil))))))))))))))))) (retS ((op2 getD (vE 2) ((telV (callV (some 0) 2 _law_take_F [] (aCons (vE 0) (aCons (cE (.int 15)) aNil)))))))))) (nxS)) ((seqS (asgV 3 (vE' (cE (.str "abcdefghijklmnopqrstuvwxyz")))) (retS ((m1E joinD (cE (.str "")) ((telV (compV [4] (rng1 (aCons ((op2 addD (cE (.int 1)) ((telV (callV (some 0) 2 _law_take_F [] (aCons (vE 0) (aCons (cE (.int 8)) aNil))))))) aNil)) (bName 4) (trueT) ((_law_called_x1)))))))))))))))
def _law_called_F : DFn := runF (some 0) 5 _law_called_b
def _law_by_deed_b : SF := (seqS (asgB (bSeq 2 (bCons (bName 4) (bCons (bName 5) bNil))) ((m1E splitD (vE 0) (cE (.str " "))))) ((seqS (asgV 6 (vE' ((ifE ((tstE (op2 eqD (vE 5) (cE (.str "you"))))) (vE 2) (vE 1))))) ((seqS (ifS ((tstE (op2 inD (vE 4) ((lstE (aCons (cE (.str "lock")) (aCons (cE (.str "tag")) aNil))))))) (retV (addV ((tupE (aCons ((tupE (aCons (vE 4) (aCons (vE 6) aNil)))) aNil))) (vE 3))) (nxS)) ((seqS (ifS ((tstE (op2 eqD (vE 3) ((tupE aNil))))) (retS (cE .non)) (nxS)) ((seqS (ifS ((tstE (op2 eqD (vE 5) (cE (.str "any"))))) (retS ((ifE ((tstE (op2 eqD ((op2 getD ((op2 getD (vE 3) (cE (.int 0)))) (cE (.int 0)))) (cE (.str "tag"))))) ((slE (vE 3) (oSome (cE (.int 1))) oNo)) (cE .non)))) (nxS)) (retS ((ifE ((tstE (op2 eqD ((op2 getD (vE 3) (cE (.int 0)))) ((tupE (aCons ((slE (vE 4) (oSome (cE (.int 2))) oNo)) (aCons (vE 6) aNil))))))) ((slE (vE 3) (oSome (cE (.int 1))) oNo)) (cE .non)))))))))))))
def _law_by_deed_F : DFn := runF none 7 _law_by_deed_b
def _law_right_x1 : SF := (seqS (asgV 9 (lstN (aCons ((telV (callV none 4 _law_by_deed_F [] (aCons (vE 8) (aCons (vE 3) (aCons (vE 4) (aCons (vE 6) aNil))))))) (aCons ((telV (callV none 4 _law_by_deed_F [] (aCons (vE 8) (aCons (vE 4) (aCons (vE 3) (aCons (vE 6) aNil))))))) aNil)))) ((seqS (appS 9 ((telV (callV none 4 _law_by_deed_F [] (aCons (vE 8) (aCons (vE 3) (aCons (vE 3) (aCons (vE 6) aNil)))))))) ((seqS (asgV 10 (lstN (aCons ((telV (callV none 4 behind_F [] (aCons (vE 8) (aCons (vE 3) (aCons (vE 4) (aCons (vE 6) aNil))))))) (aCons ((telV (callK none 0 4 4 [2, 3, 1, 0] behind_F [] aNil (aCons (vE 6) (aCons (vE 3) (aCons (vE 8) (aCons (vE 4) aNil))))))) aNil)))) ((seqS (appS 10 ((telV (callV none 4 behind_F [] (aCons (vE 8) (aCons (vE 3) (aCons (vE 3) (aCons (vE 6) aNil)))))))) (ifS ((orT ((tstE (op2 neD ((opN (one reprD) (aCons (vE 10) aNil))) ((opN (one reprD) (aCons (vE 9) aNil)))))) ((tstE (op2 neD ((opN (one reprD) (aCons (vE 6) aNil))) (vE 7)))))) (retS (cE (.bl false))) (nxS)))))))))
def _law_right_x2 : SF := (seqS (parS [3, 4, 5] (vCons (callV (some 0) 1 _law_called_F [] (aCons (vE 0) aNil)) (vCons (callV (some 0) 1 _law_called_F [] (aCons (vE 0) aNil)) (vCons (callV (some 0) 1 _law_called_F [] (aCons (vE 0) aNil)) vNil)))) ((seqS (asgV 4 (vE' ((ifE ((tstE (op2 eqD ((telV (callV (some 0) 2 _law_take_F [] (aCons (vE 0) (aCons (cE (.int 5)) aNil))))) (cE (.int 0))))) (vE 3) (vE 4))))) ((seqS (asgV 6 (callV (some 0) 3 _law_boxed_F [] (aCons (vE 0) (aCons ((lstE (aCons (vE 3) (aCons (vE 4) (aCons (vE 5) (aCons (vE 3) (aCons (vE 4) aNil))))))) (aCons (cE (.int 12)) aNil))))) ((seqS (asgV 7 (vE' ((opN (one reprD) (aCons (vE 6) aNil))))) (forS (anyI (vE 1)) (bName 8) ((_law_right_x1))))))))))
def _law_right_b : SF := (seqS (asgV 1 (lstN (aCons (cE (.str "lock me")) (aCons (cE (.str "lock you")) (aCons (cE (.str "unlock me")) (aCons (cE (.str "tag me")) (aCons (cE (.str "tag you")) (aCons (cE (.str "untag me")) (aCons (cE (.str "untag you")) (aCons (cE (.str "untag any")) aNil)))))))))) ((seqS (forS (rng1 (aCons (cE (.int 3)) aNil)) (bName 2) ((_law_right_x2))) (retS (cE (.bl true))))))
def _law_right_F : DFn := runF (some 0) 11 _law_right_b
def _law_stock_x1 : SF := asgV 3 (vE' ((op2 modD ((opN (one intC) (aCons ((op2 addD ((op2 mulD (vE 3) (cE (.int 52711)))) (vE 4))) aNil))) (cE (.int 2147483563)))))
def _law_stock_b : SF := (seqS (asgV 2 (vE' ((ifE ((tstE (op2 ltD (vE 1) ((opN (one lenD) (aCons (vE 0) aNil)))))) ((op2 getD (vE 0) (vE 1))) (cE (.int 0)))))) ((seqS (asgV 3 (addV (cE (.int 104659)) ((op2 mulD (cE (.int 7919)) (vE 1))))) ((seqS (forS (anyI ((op2 addD ((slE (vE 0) oNo (oSome (cE (.int 3))))) ((lstE (aCons (vE 2) aNil)))))) (bName 4) ((_law_stock_x1))) (retV (lstN (aCons (vE 3) (aCons ((ifE ((orT ((tstE (op2 ltD (vE 2) (cE (.int 0))))) ((tstE (op2 gtD (vE 2) ((op2 powD (cE (.int 10)) (cE (.int 17))))))))) ((opN (one absD) (aCons (vE 2) aNil))) (cE (.int 0)))) (aCons (cE (.int 0)) aNil))))))))))
def _law_stock_F : DFn := runF none 5 _law_stock_b
def law_x1 : EF := (telV (call1V (some 0) _law_right_F [] (callV none 2 _law_stock_F [] (aCons (vE 0) (aCons (vE 3) aNil)))))
def law_b : SF := (seqS (asgV 1 (vE' ((tupE (aCons ((tupE (aCons (cE (.str "lock")) (aCons (cE (.str "bob")) aNil)))) (aCons ((tupE (aCons (cE (.str "tag")) (aCons (cE (.str "ann")) aNil)))) aNil)))))) ((seqS (asgV 2 (lstN (aCons ((telV (callV none 4 behind_F [] (aCons (cE (.str "unlock me")) (aCons (cE (.str "bob")) (aCons (cE (.str "ann")) (aCons (vE 1) aNil))))))) (aCons ((telV (callV none 4 behind_F [] (aCons (cE (.str "unlock me")) (aCons (cE (.str "ann")) (aCons (cE (.str "bob")) (aCons (vE 1) aNil))))))) aNil)))) ((seqS (asgV 2 (addV (vE 2) ((lstE (aCons ((telV (callV none 4 behind_F [] (aCons (cE (.str "untag any")) (aCons (cE (.str "ann")) (aCons (cE (.str "bob")) (aCons ((slE (vE 1) (oSome (cE (.int 1))) oNo)) aNil))))))) (aCons ((telV (callV none 4 behind_F [] (aCons (cE (.str "untag me")) (aCons (cE (.str "ann")) (aCons (cE (.str "bob")) (aCons ((slE (vE 1) (oSome (cE (.int 1))) oNo)) aNil))))))) aNil)))))) ((seqS (asgV 2 (addV (vE 2) ((lstE (aCons ((telV (callV none 4 behind_F [] (aCons (cE (.str "untag you")) (aCons (cE (.str "ann")) (aCons (cE (.str "bob")) (aCons ((slE (vE 1) (oSome (cE (.int 1))) oNo)) aNil))))))) (aCons ((telV (callV none 4 behind_F [] (aCons (cE (.str "untag any")) (aCons (cE (.str "ann")) (aCons (cE (.str "bob")) (aCons (vE 1) aNil))))))) aNil)))))) ((seqS (ifS ((tstE (op2 neD ((opN (one reprD) (aCons (vE 2) aNil))) ((opN (one reprD) (aCons ((lstE (aCons ((tupE (aCons ((tupE (aCons (cE (.str "tag")) (aCons (cE (.str "ann")) aNil)))) aNil))) (aCons (cE .non) (aCons ((tupE aNil)) (aCons ((tupE aNil)) (aCons (cE .non) (aCons (cE .non) aNil)))))))) aNil)))))) (retS (cE (.bl false))) (nxS)) (retS ((opN (one allD) (aCons ((telV (compV [3] (rng1 (aCons ((opN (two maxD) (aCons (cE (.int 2)) (aCons ((opN (two minD) (aCons ((opN (one lenD) (aCons (vE 0) aNil))) (aCons (cE (.int 8)) aNil)))) aNil)))) aNil)) (bName 3) (trueT) ((law_x1))))) aNil)))))))))))))
def law_F : DFn := runF none 4 law_b
def _law_some_deed_x1 : EF := vE 8
def _law_some_deed_x2 : TF := (tstE (op2 notND ((telV (callV none 4 _law_by_deed_F [] (aCons (vE 8) (aCons (vE 1) (aCons (vE 2) (aCons (vE 3) aNil))))))) (cE .non)))
def _law_some_deed_b : SF := (seqS (parS [4, 5] (vCons (lstN (aCons (cE (.str "lock me")) (aCons (cE (.str "lock you")) (aCons (cE (.str "tag me")) (aCons (cE (.str "tag you")) aNil))))) (vCons (lstN (aCons (cE (.str "unlock me")) (aCons (cE (.str "untag me")) (aCons (cE (.str "untag you")) (aCons (cE (.str "untag any")) aNil))))) vNil))) ((seqS (asgV 6 (compV [8] (anyI (vE 5)) (bName 8) ((_law_some_deed_x2)) ((_law_some_deed_x1)))) ((seqS (asgV 7 (callV (some 0) 2 _law_take_F [] (aCons (vE 0) (aCons (cE (.int 9)) aNil)))) ((seqS (ifS ((tstE (op2 eqD (vE 7) (cE (.int 0))))) (retS ((op2 getD ((op2 addD (vE 4) (vE 5))) ((telV (callV (some 0) 2 _law_take_F [] (aCons (vE 0) (aCons (cE (.int 8)) aNil)))))))) (nxS)) ((seqS (ifS ((andT ((tstE (op2 ltD (vE 7) (cE (.int 6))))) ((tstE (op2 neD (vE 6) ((lstE aNil))))))) (retS ((op2 getD (vE 6) ((telV (callV (some 0) 2 _law_take_F [] (aCons (vE 0) (aCons ((opN (one lenD) (aCons (vE 6) aNil))) aNil)))))))) (nxS)) (retS ((op2 getD (vE 4) ((telV (callV (some 0) 2 _law_take_F [] (aCons (vE 0) (aCons (cE (.int 4)) aNil)))))))))))))))))
def _law_some_deed_F : DFn := runF (some 0) 9 _law_some_deed_b
def _law_row_x1 : SF := (seqS (asgV 8 (callV (some 0) 4 _law_some_deed_F [] (aCons (vE 0) (aCons (vE 1) (aCons (vE 2) (aCons (vE 6) aNil)))))) ((seqS (asgV 9 (callV none 4 _law_by_deed_F [] (aCons (vE 8) (aCons (vE 1) (aCons (vE 2) (aCons (vE 6) aNil)))))) ((seqS (appS 5 (vE 8)) (asgV 6 (vE' ((ifE ((tstE (op2 notND (vE 9) (cE .non)))) (vE 9) (vE 6))))))))))
def _law_row_b : SF := (seqS (parS [5, 6] (vCons (lstN aNil) (vCons (vE' (vE 3)) vNil))) ((seqS (forS (rng1 (aCons (vE 4) aNil)) (bName 7) ((_law_row_x1))) (retS ((m1E joinD (cE (.str "; ")) (vE 5)))))))
def _law_row_F : DFn := runF (some 0) 10 _law_row_b
def _law_done_x1 : SF := asgV 4 (vE' ((ifE ((tstE (op2 notND (vE 4) (cE .non)))) ((telV (callV none 4 _law_by_deed_F [] (aCons (vE 5) (aCons (vE 1) (aCons (vE 2) (aCons (vE 4) aNil))))))) (cE .non))))
def _law_done_b : SF := (seqS (asgV 4 (vE' (vE 3))) ((seqS (forS (anyI ((m1E splitD (vE 0) (cE (.str "; "))))) (bName 5) ((_law_done_x1))) (retV (givV (vE 4))))))
def _law_done_F : DFn := runF none 6 _law_done_b
def _law_right_2_x1 : SF := (seqS (parS [2, 3, 4] (vCons (callV (some 0) 1 _law_called_F [] (aCons (vE 0) aNil)) (vCons (callV (some 0) 1 _law_called_F [] (aCons (vE 0) aNil)) (vCons (callV (some 0) 1 _law_called_F [] (aCons (vE 0) aNil)) vNil)))) ((seqS (asgV 3 (vE' ((ifE ((tstE (op2 eqD ((telV (callV (some 0) 2 _law_take_F [] (aCons (vE 0) (aCons (cE (.int 6)) aNil))))) (cE (.int 0))))) (vE 2) (vE 3))))) ((seqS (asgV 5 (callV (some 0) 3 _law_boxed_F [] (aCons (vE 0) (aCons ((lstE (aCons (vE 2) (aCons (vE 3) (aCons (vE 2) (aCons (vE 4) aNil)))))) (aCons (cE (.int 12)) aNil))))) ((seqS (asgV 6 (callV (some 0) 5 _law_row_F [] (aCons (vE 0) (aCons (vE 2) (aCons (vE 3) (aCons (vE 5) (aCons ((op2 addD (cE (.int 1)) ((telV (callV (some 0) 2 _law_take_F [] (aCons (vE 0) (aCons (cE (.int 6)) aNil))))))) aNil))))))) ((seqS (asgV 7 (vE' ((opN (one reprD) (aCons (vE 5) aNil))))) ((seqS (asgV 8 (lstN (aCons ((telV (callV none 4 behind_F [] (aCons (vE 6) (aCons (vE 2) (aCons (vE 3) (aCons (vE 5) aNil))))))) (aCons ((telV (callV none 4 behind_F [] (aCons (vE 6) (aCons (vE 3) (aCons (vE 2) (aCons (vE 5) aNil))))))) aNil)))) ((seqS (appS 8 ((telV (callV none 4 behind_F [] (aCons (vE 6) (aCons (vE 4) (aCons (vE 2) (aCons (vE 5) aNil)))))))) ((seqS (asgV 9 (lstN (aCons ((telV (callV none 4 _law_done_F [] (aCons (vE 6) (aCons (vE 2) (aCons (vE 3) (aCons (vE 5) aNil))))))) (aCons ((telV (callV none 4 _law_done_F [] (aCons (vE 6) (aCons (vE 3) (aCons (vE 2) (aCons (vE 5) aNil))))))) aNil)))) ((seqS (appS 9 ((telV (callV none 4 _law_done_F [] (aCons (vE 6) (aCons (vE 4) (aCons (vE 2) (aCons (vE 5) aNil)))))))) ((seqS (ifS ((orT ((tstE (op2 neD ((opN (one reprD) (aCons (vE 8) aNil))) ((opN (one reprD) (aCons (vE 9) aNil)))))) ((tstE (op2 neD ((opN (one reprD) (aCons ((telV (callK none 0 4 4 [3, 2, 0, 1] behind_F [] aNil (aCons (vE 3) (aCons (vE 5) (aCons (vE 2) (aCons (vE 6) aNil))))))) aNil))) ((opN (one reprD) (aCons ((op2 getD (vE 9) (cE (.int 0)))) aNil)))))))) (retS (cE (.bl false))) (nxS)) ((seqS (parS [8, 9] (vCons (callV none 4 behind_F [] (aCons (vE 6) (aCons (vE 2) (aCons (vE 3) (aCons ((tupE aNil)) aNil))))) (vCons (callV none 4 _law_done_F [] (aCons (vE 6) (aCons (vE 2) (aCons (vE 3) (aCons ((tupE aNil)) aNil))))) vNil))) (ifS ((orT ((tstE (op2 neD ((opN (one reprD) (aCons (vE 8) aNil))) ((opN (one reprD) (aCons (vE 9) aNil)))))) ((tstE (op2 neD ((opN (one reprD) (aCons (vE 5) aNil))) (vE 7)))))) (retS (cE (.bl false))) (nxS)))))))))))))))))))))))
def _law_right_2_b : SF := (seqS (forS (rng1 (aCons (cE (.int 4)) aNil)) (bName 1) ((_law_right_2_x1))) (retS (cE (.bl true))))
def _law_right_2_F : DFn := runF (some 0) 10 _law_right_2_b
def law_2_x1 : EF := (telV (call1V (some 0) _law_right_2_F [] (callV none 2 _law_stock_F [] (aCons (vE 0) (aCons (vE 3) aNil)))))
def law_2_b : SF := (seqS (asgV 1 (vE' ((tupE (aCons ((tupE (aCons (cE (.str "lock")) (aCons (cE (.str "bob")) aNil)))) (aCons ((tupE (aCons (cE (.str "tag")) (aCons (cE (.str "eve")) aNil)))) aNil)))))) ((seqS (asgV 2 (lstN (aCons ((telV (callV none 4 behind_F [] (aCons (cE (.str "unlock me; untag any; lock you")) (aCons (cE (.str "bob")) (aCons (cE (.str "zed")) (aCons (vE 1) aNil))))))) (aCons ((telV (callV none 4 behind_F [] (aCons (cE (.str "unlock me")) (aCons (cE (.str "ann")) (aCons (cE (.str "bob")) (aCons (vE 1) aNil))))))) aNil)))) ((seqS (asgV 2 (addV (vE 2) ((lstE (aCons ((telV (callV none 4 behind_F [] (aCons (cE (.str "lock me; unlock me")) (aCons (cE (.str "ann")) (aCons (cE (.str "bob")) (aCons ((tupE aNil)) aNil))))))) (aCons ((telV (callV none 4 behind_F [] (aCons (cE (.str "lock you; unlock me")) (aCons (cE (.str "ann")) (aCons (cE (.str "bob")) (aCons ((tupE aNil)) aNil))))))) aNil)))))) ((seqS (asgV 2 (addV (vE 2) ((lstE (aCons ((telV (callV none 4 behind_F [] (aCons (cE (.str "lock you; unlock me")) (aCons (cE (.str "ann")) (aCons (cE (.str "ann")) (aCons ((tupE aNil)) aNil))))))) aNil))))) ((seqS (appS 2 ((telV (callV none 4 behind_F [] (aCons (cE (.str "tag me; untag any; untag any")) (aCons (cE (.str "ann")) (aCons (cE (.str "bob")) (aCons (vE 1) aNil)))))))) ((seqS (ifS ((tstE (op2 neD ((opN (one reprD) (aCons (vE 2) aNil))) ((opN (one reprD) (aCons ((lstE (aCons ((tupE (aCons ((tupE (aCons (cE (.str "lock")) (aCons (cE (.str "zed")) aNil)))) aNil))) (aCons (cE .non) (aCons ((tupE aNil)) (aCons (cE .non) (aCons ((tupE aNil)) (aCons (cE .non) aNil)))))))) aNil)))))) (retS (cE (.bl false))) (nxS)) (retS ((opN (one allD) (aCons ((telV (compV [3] (rng1 (aCons ((opN (two maxD) (aCons (cE (.int 2)) (aCons ((opN (two minD) (aCons ((opN (one lenD) (aCons (vE 0) aNil))) (aCons (cE (.int 8)) aNil)))) aNil)))) aNil)) (bName 3) (trueT) ((law_2_x1))))) aNil)))))))))))))))
def law_2_F : DFn := runF none 4 law_2_b
def _law_parts_right_x1 : SF := (seqS (parS [7, 8] (vCons (vE' ((m1E joinD (cE (.str "; ")) ((slE (vE 4) oNo (oSome (vE 6))))))) (vCons (vE' ((m1E joinD (cE (.str "; ")) ((slE (vE 4) (oSome (vE 6)) oNo))))) vNil))) ((seqS (asgV 9 (callV none 4 behind_F [] (aCons (vE 7) (aCons (vE 1) (aCons (vE 2) (aCons (vE 3) aNil)))))) ((seqS (ifS ((orT ((notT ((tstE ((telV (callV none 1 is_row_F [] (aCons (vE 7) aNil)))))))) ((orT ((notT ((tstE ((telV (callV none 1 is_row_F [] (aCons (vE 8) aNil)))))))) ((andT ((tstE (op2 notND (vE 9) (cE .non)))) ((notT ((tstE ((isiE (isB "tuple") (vE 9))))))))))))) (retS (cE (.bl false))) (nxS)) ((seqS (asgV 10 (vE' ((ifE ((tstE (op2 notND (vE 9) (cE .non)))) ((telV (callV none 4 behind_F [] (aCons (vE 8) (aCons (vE 1) (aCons (vE 2) (aCons (vE 9) aNil))))))) (cE .non))))) (ifS ((tstE (op2 neD ((opN (one reprD) (aCons (vE 10) aNil))) ((opN (one reprD) (aCons (vE 5) aNil)))))) (retS (cE (.bl false))) (nxS)))))))))
def _law_parts_right_b : SF := (seqS (parS [4, 5] (vCons (vE' ((m1E splitD (vE 0) (cE (.str "; "))))) (vCons (callV none 4 behind_F [] (aCons (vE 0) (aCons (vE 1) (aCons (vE 2) (aCons (vE 3) aNil))))) vNil))) ((seqS (forS (rng2 (aCons (cE (.int 1)) (aCons ((opN (one lenD) (aCons (vE 4) aNil))) aNil))) (bName 6) ((_law_parts_right_x1))) (retS (cE (.bl true))))))
def _law_parts_right_F : DFn := runF none 11 _law_parts_right_b
def _law_beneath_right_b : SF := (seqS (parS [5, 6] (vCons (callV none 4 behind_F [] (aCons (vE 0) (aCons (vE 1) (aCons (vE 2) (aCons (vE 3) aNil))))) (vCons (callV none 4 behind_F [] (aCons (vE 0) (aCons (vE 1) (aCons (vE 2) (aCons ((op2 addD (vE 3) (vE 4))) aNil))))) vNil))) ((seqS (ifS ((tstE (op2 isND (vE 5) (cE .non)))) (retS ((orE ((op2 isND (vE 6) (cE .non))) ((isiE (isB "tuple") (vE 6)))))) (nxS)) (retS ((andE ((isiE (isB "tuple") (vE 5))) ((op2 eqD ((opN (one reprD) (aCons (vE 6) aNil))) ((opN (one reprD) (aCons ((op2 addD (vE 5) (vE 4))) aNil)))))))))))
def _law_beneath_right_F : DFn := runF none 7 _law_beneath_right_b
def _law_right_3_x1 : SF := ifS ((notT ((tstE ((telV (callV none 5 _law_beneath_right_F [] (aCons (vE 6) (aCons (vE 2) (aCons (vE 3) (aCons ((slE (vE 4) oNo (oSome (vE 7)))) (aCons ((op2 addD ((slE (vE 4) (oSome (vE 7)) oNo)) (vE 5))) aNil)))))))))))) (retS (cE (.bl false))) (nxS)
def _law_right_3_x2 : SF := (seqS (parS [2, 3] (vCons (callV (some 0) 1 _law_called_F [] (aCons (vE 0) aNil)) (vCons (callV (some 0) 1 _law_called_F [] (aCons (vE 0) aNil)) vNil))) ((seqS (asgV 3 (vE' ((ifE ((tstE (op2 eqD ((telV (callV (some 0) 2 _law_take_F [] (aCons (vE 0) (aCons (cE (.int 6)) aNil))))) (cE (.int 0))))) (vE 2) (vE 3))))) ((seqS (parS [4, 5] (vCons (callV (some 0) 3 _law_boxed_F [] (aCons (vE 0) (aCons ((lstE (aCons (vE 2) (aCons (vE 3) aNil)))) (aCons (cE (.int 6)) aNil)))) (vCons (callV (some 0) 3 _law_boxed_F [] (aCons (vE 0) (aCons ((lstE (aCons (vE 2) (aCons (vE 3) (aCons (cE (.str "eve")) aNil))))) (aCons (cE (.int 6)) aNil)))) vNil))) ((seqS (asgV 6 (callV (some 0) 5 _law_row_F [] (aCons (vE 0) (aCons (vE 2) (aCons (vE 3) (aCons ((op2 addD (vE 4) (vE 5))) (aCons ((op2 addD (cE (.int 1)) ((telV (callV (some 0) 2 _law_take_F [] (aCons (vE 0) (aCons (cE (.int 6)) aNil))))))) aNil))))))) ((seqS (ifS ((orT ((notT ((tstE ((telV (callV none 4 _law_parts_right_F [] (aCons (vE 6) (aCons (vE 2) (aCons (vE 3) (aCons ((op2 addD (vE 4) ((slE (vE 5) oNo (oSome (cE (.int 1))))))) aNil))))))))))) ((notT ((tstE ((telV (callV none 4 _law_parts_right_F [] (aCons (vE 6) (aCons (vE 3) (aCons (vE 2) (aCons (vE 4) aNil))))))))))))) (retS (cE (.bl false))) (nxS)) (forS (rng1 (aCons ((op2 addD ((opN (one lenD) (aCons (vE 4) aNil))) (cE (.int 1)))) aNil)) (bName 7) ((_law_right_3_x1))))))))))))
def _law_right_3_b : SF := (seqS (forS (rng1 (aCons (cE (.int 3)) aNil)) (bName 1) ((_law_right_3_x2))) (retS (cE (.bl true))))
def _law_right_3_F : DFn := runF (some 0) 8 _law_right_3_b
def law_3_x1 : EF := (telV (call1V (some 0) _law_right_3_F [] (callV none 2 _law_stock_F [] (aCons (vE 0) (aCons (vE 2) aNil)))))
def law_3_b : SF := (seqS (asgV 1 (vE' ((tupE (aCons ((tupE (aCons (cE (.str "tag")) (aCons (cE (.str "bob")) aNil)))) (aCons ((tupE (aCons (cE (.str "lock")) (aCons (cE (.str "ann")) aNil)))) aNil)))))) ((seqS (ifS ((tstE (op2 neD ((telV (callV none 4 behind_F [] (aCons (cE (.str "untag any; unlock me; lock you")) (aCons (cE (.str "ann")) (aCons (cE (.str "bob")) (aCons (vE 1) aNil))))))) ((tupE (aCons ((tupE (aCons (cE (.str "lock")) (aCons (cE (.str "bob")) aNil)))) aNil)))))) (retS (cE (.bl false))) (nxS)) (retS ((opN (one allD) (aCons ((telV (compV [2] (rng1 (aCons ((opN (two maxD) (aCons (cE (.int 2)) (aCons ((opN (two minD) (aCons ((opN (one lenD) (aCons (vE 0) aNil))) (aCons (cE (.int 8)) aNil)))) aNil)))) aNil)) (bName 2) (trueT) ((law_3_x1))))) aNil)))))))
def law_3_F : DFn := runF none 3 law_3_b
def _law_unlike_x1 : SF := ifS ((tstE (op2 ninD (vE 2) (vE 1)))) (appS 1 (vE 2)) (nxS)
def _law_unlike_b : SF := (seqS (asgV 1 (lstN aNil)) ((seqS (forS (anyI (vE 0)) (bName 2) ((_law_unlike_x1))) (retV (givV (vE 1))))))
def _law_unlike_F : DFn := runF none 3 _law_unlike_b
def _law_renamed_x1 : EF := (tupE (aCons (vE 3) (aCons ((op2 getD (vE 2) ((m1L idxD (vE 1) (vE 4))))) aNil)))
def _law_renamed_b : SF := retS ((opN (one tupD) (aCons ((telV (compV [3, 4] (anyI (vE 0)) (bSeq 2 (bCons (bName 3) (bCons (bName 4) bNil))) (trueT) ((_law_renamed_x1))))) aNil)))
def _law_renamed_F : DFn := runF none 5 _law_renamed_b
def _law_right_4_x1 : SF := (seqS (parS [12, 13] (vCons (vE' ((op2 getD (vE 11) ((m1L idxD (vE 2) (vE 3)))))) (vCons (vE' ((op2 getD (vE 11) ((m1L idxD (vE 2) (vE 4)))))) vNil))) ((seqS (asgV 14 (callV none 4 behind_F [] (aCons (vE 6) (aCons (vE 12) (aCons (vE 13) (aCons ((telV (callV none 3 _law_renamed_F [] (aCons (vE 5) (aCons (vE 2) (aCons (vE 11) aNil)))))) aNil)))))) ((seqS (ifS ((andT ((tstE (op2 notND (vE 10) (cE .non)))) ((tstE (op2 neD ((opN (one reprD) (aCons (vE 14) aNil))) ((opN (one reprD) (aCons ((telV (callV none 3 _law_renamed_F [] (aCons (vE 10) (aCons (vE 2) (aCons (vE 11) aNil)))))) aNil)))))))) (retS (cE (.bl false))) (nxS)) (ifS ((andT ((tstE (op2 isND (vE 10) (cE .non)))) ((andT ((tstE (op2 eqD ((opN (one lenD) (aCons ((telV (callV none 1 _law_unlike_F [] (aCons (vE 11) aNil)))) aNil))) ((opN (one lenD) (aCons (vE 2) aNil)))))) ((tstE (op2 notND (vE 14) (cE .non)))))))) (retS (cE (.bl false))) (nxS)))))))
def _law_right_4_x2 : EF := (op2 getD (vE 2) ((telV (callV (some 0) 2 _law_take_F [] (aCons (vE 0) (aCons ((opN (one lenD) (aCons (vE 2) aNil))) aNil))))))
def _law_right_4_x3 : EF := (telV (callV (some 0) 1 _law_called_F [] (aCons (vE 0) aNil)))
def _law_right_4_x4 : SF := (seqS (asgV 2 (callV none 1 _law_unlike_F [] (aCons ((telV (compV [15] (rng1 (aCons (cE (.int 4)) aNil)) (bName 15) (trueT) ((_law_right_4_x3))))) aNil))) ((seqS (asgV 3 (vE' ((op2 getD (vE 2) ((telV (callV (some 0) 2 _law_take_F [] (aCons (vE 0) (aCons ((opN (one lenD) (aCons (vE 2) aNil))) aNil))))))))) ((seqS (asgV 4 (vE' ((ifE ((tstE (op2 eqD ((telV (callV (some 0) 2 _law_take_F [] (aCons (vE 0) (aCons (cE (.int 6)) aNil))))) (cE (.int 0))))) (vE 3) ((op2 getD (vE 2) ((telV (callV (some 0) 2 _law_take_F [] (aCons (vE 0) (aCons ((opN (one lenD) (aCons (vE 2) aNil))) aNil))))))))))) ((seqS (asgV 5 (callV (some 0) 3 _law_boxed_F [] (aCons (vE 0) (aCons ((op2 addD ((lstE (aCons (vE 3) (aCons (vE 4) aNil)))) (vE 2))) (aCons (cE (.int 8)) aNil))))) ((seqS (asgV 6 (callV (some 0) 5 _law_row_F [] (aCons (vE 0) (aCons (vE 3) (aCons (vE 4) (aCons (vE 5) (aCons ((op2 addD (cE (.int 1)) ((telV (callV (some 0) 2 _law_take_F [] (aCons (vE 0) (aCons (cE (.int 6)) aNil))))))) aNil))))))) ((seqS (asgV 7 (addV ((slE (vE 2) (oSome (cE (.int 1))) oNo)) ((slE (vE 2) oNo (oSome (cE (.int 1))))))) ((seqS (asgV 8 (compV [16] (anyI (vE 2)) (bName 16) (trueT) ((_law_right_4_x3)))) ((seqS (asgV 9 (compV [16] (anyI (vE 2)) (bName 16) (trueT) ((_law_right_4_x2)))) ((seqS (asgV 10 (callV none 4 behind_F [] (aCons (vE 6) (aCons (vE 3) (aCons (vE 4) (aCons (vE 5) aNil)))))) (forS (anyI ((lstE (aCons (vE 7) (aCons (vE 8) (aCons (vE 9) (aCons ((op2 mulD ((lstE (aCons (cE (.str "zed")) aNil))) ((opN (one lenD) (aCons (vE 2) aNil))))) aNil))))))) (bName 11) ((_law_right_4_x1))))))))))))))))))))
def _law_right_4_b : SF := (seqS (forS (rng1 (aCons (cE (.int 3)) aNil)) (bName 1) ((_law_right_4_x4))) (retS (cE (.bl true))))
def _law_right_4_F : DFn := runF (some 0) 17 _law_right_4_b
def law_4_x1 : EF := (telV (call1V (some 0) _law_right_4_F [] (callV none 2 _law_stock_F [] (aCons (vE 0) (aCons (vE 2) aNil)))))
def law_4_b : SF := (seqS (asgV 1 (lstN (aCons ((telV (callV none 4 behind_F [] (aCons (cE (.str "unlock me; untag you")) (aCons (cE (.str "ann")) (aCons (cE (.str "bob")) (aCons ((tupE (aCons ((tupE (aCons (cE (.str "lock")) (aCons (cE (.str "ann")) aNil)))) (aCons ((tupE (aCons (cE (.str "tag")) (aCons (cE (.str "eve")) aNil)))) aNil)))) aNil))))))) aNil))) ((seqS (appS 1 ((telV (callV none 4 behind_F [] (aCons (cE (.str "unlock me; untag you")) (aCons (cE (.str "ann")) (aCons (cE (.str "zed")) (aCons ((tupE (aCons ((tupE (aCons (cE (.str "lock")) (aCons (cE (.str "ann")) aNil)))) (aCons ((tupE (aCons (cE (.str "tag")) (aCons (cE (.str "zed")) aNil)))) aNil)))) aNil)))))))) ((seqS (ifS ((tstE (op2 neD ((opN (one reprD) (aCons (vE 1) aNil))) (cE (.str "[None, ()]"))))) (retS (cE (.bl false))) (nxS)) (retS ((opN (one allD) (aCons ((telV (compV [2] (rng1 (aCons ((opN (two maxD) (aCons (cE (.int 2)) (aCons ((opN (two minD) (aCons ((opN (one lenD) (aCons (vE 0) aNil))) (aCons (cE (.int 8)) aNil)))) aNil)))) aNil)) (bName 2) (trueT) ((law_4_x1))))) aNil)))))))))
def law_4_F : DFn := runF none 3 law_4_b
def c_MOST_ANSWERS : D := (.int 4)
def check_answers_x1 : SF := ifS ((orT ((tstE (op2 eqD (vE 1) (cE c_MOST_ANSWERS)))) ((notT ((tstE ((telV (callV none 1 is_row_F [] (aCons (vE 2) aNil)))))))))) (badS) (nxS)
def check_answers_b : SF := (seqS (ifS ((notT ((tstE ((isiE (isB "tuple") (vE 0))))))) (badS) (nxS)) (forS (enumI (vE 0)) (bSeq 2 (bCons (bName 1) (bCons (bName 2) bNil))) ((check_answers_x1))))
def check_answers_F : DFn := runF none 3 check_answers_b
def c_LETTER : D := (.tup [])
def c_READER : D := (.str "bob")
def c_WRITER : D := (.str "ann")
def box_begun_b : SF := retS ((ifE ((tstE ((telV (callV none 1 is_row_F [] (aCons (vE 0) aNil)))))) ((telV (callV none 4 done_F [] (aCons ((telV (callV none 1 deeds_of_F [] (aCons (vE 0) aNil)))) (aCons (cE c_WRITER) (aCons (cE c_READER) (aCons (cE c_LETTER) aNil))))))) (cE .non)))
def box_begun_F : DFn := runF none 1 box_begun_b
def Book___init___x1 : EF := (telV (callV none 1 deeds_of_F [] (aCons (vE 4) aNil)))
def Book___init___b : SF := (seqS (asgV 3 (callV none 1 box_begun_F [] (aCons (vE 1) aNil))) ((seqS (ifS ((tstE (op2 isND (vE 3) (cE .non)))) (badS) (nxS)) ((seqS (exprS ((telV (callV none 1 check_answers_F [] (aCons (vE 2) aNil))))) ((seqS (setF 0 "Book" "first_row" (vE 1)) ((seqS (setF 0 "Book" "answer_rows" (vE 2)) ((seqS (setF 0 "Book" "first_box" (vE 3)) (setF 0 "Book" "deeds" ((telV (compV [4] (anyI (vE 2)) (bName 4) (trueT) ((Book___init___x1)))))))))))))))))
def Book___init___F : DFn := runF (some 0) 5 Book___init___b
def is_integer_b : SF := retS ((andE ((isiE (isB "int") (vE 0))) ((notE ((isiE (isB "bool") (vE 0)))))))
def is_integer_F : DFn := runF none 1 is_integer_b
def is_between_b : SF := retS ((andE ((telV (callV none 1 is_integer_F [] (aCons (vE 0) aNil)))) ((chnE leD leD (vE 1) (vE 0) (vE 2)))))
def is_between_F : DFn := runF none 3 is_between_b
def check_indexes_x1 : SF := (seqS (ifS ((notT ((tstE ((telV (callV none 3 is_between_F [] (aCons (vE 4) (aCons (vE 2) (aCons ((op2 subD (vE 1) (cE (.int 1)))) aNil)))))))))) (badS) (nxS)) (asgV 2 (addV (vE 4) (cE (.int 1)))))
def check_indexes_b : SF := (seqS (ifS ((notT ((tstE ((isiE (isB "tuple") (vE 0))))))) (badS) (nxS)) ((seqS (asgV 2 (vE' (cE (.int 0)))) (forS (enumI (vE 0)) (bSeq 2 (bCons (bName 3) (bCons (bName 4) bNil))) ((check_indexes_x1))))))
def check_indexes_F : DFn := runF none 5 check_indexes_b
def Book_without_x1 : EF := vE 3
def Book_without_x2 : TF := (tstE (op2 ninD (vE 2) (vE 1)))
def Book_without_b : SF := (seqS (exprS ((telV (callV none 2 check_indexes_F [] (aCons (vE 1) (aCons ((opN (one lenD) (aCons ((fldE "Book" "answer_rows" (vE 0))) aNil))) aNil)))))) (retV (makeV 2 Book___init___F "Book" [] (aCons ((fldE "Book" "first_row" (vE 0))) (aCons ((opN (one tupD) (aCons ((telV (compV [2, 3] (enumI ((fldE "Book" "answer_rows" (vE 0)))) (bSeq 2 (bCons (bName 2) (bCons (bName 3) bNil))) ((Book_without_x2)) ((Book_without_x1))))) aNil))) aNil)))))
def Book_without_F : DFn := runF none 4 Book_without_b
def Book___eq___b : SF := retS ((andE ((isiE (isC ["Book"] "Book") (vE 1))) ((andE ((op2 eqD ((fldE "Book" "first_row" (vE 0))) ((fldE "Book" "first_row" (vE 1))))) ((op2 eqD ((fldE "Book" "answer_rows" (vE 0))) ((fldE "Book" "answer_rows" (vE 1)))))))))
def Book___eq___F : DFn := runF none 2 Book___eq___b
def Book___repr___b : SF := retS ((jsE [cE (.str "Book with "), (fmtE ((opN (one lenD) (aCons ((fldE "Book" "answer_rows" (vE 0))) aNil)))), cE (.str " answers")] Str.empty))
def Book___repr___F : DFn := runF none 1 Book___repr___b
def c_FIRST : D := (.str "first ")
def c_ANSWER : D := (.str "answer ")
def Book___str___x1 : EF := (op2 addD (cE c_ANSWER) (vE 1))
def Book___str___b : SF := retS ((m1E joinD (cE (.str "\n")) ((op2 addD ((lstE (aCons ((op2 addD (cE c_FIRST) ((fldE "Book" "first_row" (vE 0))))) aNil))) ((telV (compV [1] (anyI ((fldE "Book" "answer_rows" (vE 0)))) (bName 1) (trueT) ((Book___str___x1)))))))))
def Book___str___F : DFn := runF none 2 Book___str___b
def Book_begun_b : SF := retS ((fldE "Book" "first_box" (vE 0)))
def Book_begun_F : DFn := runF none 1 Book_begun_b
def Book_answers_b : SF := retS ((fldE "Book" "answer_rows" (vE 0)))
def Book_answers_F : DFn := runF none 1 Book_answers_b
def Book_first_b : SF := retS ((fldE "Book" "first_row" (vE 0)))
def Book_first_F : DFn := runF none 1 Book_first_b
def _law_shown_b : SF := retS ((opN (one reprD) (aCons ((lstE (aCons ((telV (propV "Book" Book_first_F (vE 0)))) (aCons ((telV (propV "Book" Book_answers_F (vE 0)))) (aCons ((telV (propV "Book" Book_begun_F (vE 0)))) (aCons ((textE "Book" Book___str___F (vE 0))) (aCons ((textE "Book" Book___repr___F (vE 0))) (aCons ((trueI "Book" (vE 0))) aNil)))))))) aNil)))
def _law_shown_F : DFn := runF none 1 _law_shown_b
def _law_text_x1 : EF := (op2 addD (cE (.str "answer ")) (vE 2))
def _law_text_b : SF := retS ((m1E joinD (cE (.str "\n")) ((op2 addD ((lstE (aCons ((op2 addD (cE (.str "first ")) (vE 0))) aNil))) ((telV (compV [2] (anyI (vE 1)) (bName 2) (trueT) ((_law_text_x1)))))))))
def _law_text_F : DFn := runF none 3 _law_text_b
def _law_owed_b : SF := (seqS (asgV 2 (callV none 4 _law_done_F [] (aCons (vE 0) (aCons (cE (.str "ann")) (aCons (cE (.str "bob")) (aCons ((tupE aNil)) aNil)))))) ((seqS (asgV 3 (addV ((op2 addD (cE (.str "Book with ")) ((opN (one strD) (aCons ((opN (one lenD) (aCons (vE 1) aNil))) aNil))))) (cE (.str " answers")))) (retS ((opN (one reprD) (aCons ((lstE (aCons (vE 0) (aCons (vE 1) (aCons (vE 2) (aCons ((telV (callV none 2 _law_text_F [] (aCons (vE 0) (aCons (vE 1) aNil))))) (aCons (vE 3) (aCons (cE (.bl true)) aNil)))))))) aNil)))))))
def _law_owed_F : DFn := runF none 4 _law_owed_b
def _law_answers_x1 : SF := (seqS (asgB (bSeq 2 (bCons (bName 5) (bCons (bName 6) bNil))) ((op2 getD ((lstE (aCons ((tupE (aCons (cE (.str "bob")) (aCons (cE (.str "ann")) aNil)))) (aCons ((tupE (aCons (cE (.str "ann")) (aCons (cE (.str "bob")) aNil)))) (aCons ((tupE (aCons (cE (.str "bob")) (aCons (cE (.str "zed")) aNil)))) (aCons ((tupE (aCons (cE (.str "bob")) (aCons (cE (.str "bob")) aNil)))) aNil)))))) ((telV (callV (some 0) 2 _law_take_F [] (aCons (vE 0) (aCons (cE (.int 4)) aNil)))))))) ((seqS (asgV 7 (callV (some 0) 3 _law_boxed_F [] (aCons (vE 0) (aCons ((lstE (aCons (cE (.str "ann")) (aCons (cE (.str "bob")) (aCons (cE (.str "zed")) aNil))))) (aCons (cE (.int 4)) aNil))))) (appS 3 ((telV (callV (some 0) 5 _law_row_F [] (aCons (vE 0) (aCons (vE 5) (aCons (vE 6) (aCons (vE 7) (aCons ((op2 addD (cE (.int 1)) ((telV (callV (some 0) 2 _law_take_F [] (aCons (vE 0) (aCons (cE (.int 6)) aNil))))))) aNil))))))))))))
def _law_answers_b : SF := (seqS (asgV 3 (lstN aNil)) ((seqS (forS (rng1 (aCons ((op2 addD (vE 1) ((telV (callV (some 0) 2 _law_take_F [] (aCons (vE 0) (aCons ((op2 subD ((op2 addD (vE 2) (cE (.int 1)))) (vE 1))) aNil))))))) aNil)) (bName 4) ((_law_answers_x1))) (retS ((opN (one tupD) (aCons (vE 3) aNil)))))))
def _law_answers_F : DFn := runF (some 0) 8 _law_answers_b
def _law_first_x1 : SF := (seqS (asgV 5 (callV (some 0) 4 _law_some_deed_F [] (aCons (vE 0) (aCons (cE (.str "ann")) (aCons (cE (.str "bob")) (aCons (vE 3) aNil)))))) ((seqS (asgV 6 (callV none 4 _law_by_deed_F [] (aCons (vE 5) (aCons (cE (.str "ann")) (aCons (cE (.str "bob")) (aCons (vE 3) aNil)))))) (ifS ((tstE (op2 notND (vE 6) (cE .non)))) ((seqS (appS 2 (vE 5)) (asgV 3 (vE' (vE 6))))) (nxS)))))
def _law_first_b : SF := (seqS (parS [2, 3] (vCons (lstN aNil) (vCons (vE' ((tupE aNil))) vNil))) ((seqS (forS (rng1 (aCons ((op2 addD (cE (.int 1)) ((telV (callV (some 0) 2 _law_take_F [] (aCons (vE 0) (aCons (vE 1) aNil))))))) aNil)) (bName 4) ((_law_first_x1))) (retS ((ifE ((tstE (op2 neD (vE 2) ((lstE aNil))))) ((m1E joinD (cE (.str "; ")) (vE 2))) (cE (.str "lock you"))))))))
def _law_first_F : DFn := runF (some 0) 7 _law_first_b
def _law_right_5_x1 : EF := (op2 eqD ((telV (callV none 1 _law_shown_F [] (aCons (vE 10) aNil)))) ((telV (callV none 2 _law_owed_F [] (aCons (vE 1) (aCons (vE 7) aNil))))))
def _law_right_5_x2 : EF := (op2 getD (vE 2) (vE 9))
def _law_right_5_x3 : TF := (tstE (op2 ninD (vE 9) (vE 6)))
def _law_right_5_x4 : EF := vE 9
def _law_right_5_x5 : TF := (tstE (op2 eqD ((op2 modD ((opN (one intC) (aCons ((op2 fdivD (vE 5) ((op2 getD ((lstE (aCons (cE (.int 1)) (aCons (cE (.int 2)) (aCons (cE (.int 4)) (aCons (cE (.int 8)) aNil)))))) (vE 9))))) aNil))) (cE (.int 2)))) (cE (.int 1))))
def _law_right_5_x6 : SF := (seqS (asgV 6 (vE' ((opN (one tupD) (aCons ((telV (compV [9] (rng1 (aCons (vE 4) aNil)) (bName 9) ((_law_right_5_x5)) ((_law_right_5_x4))))) aNil))))) ((seqS (asgV 7 (vE' ((opN (one tupD) (aCons ((telV (compV [9] (rng1 (aCons (vE 4) aNil)) (bName 9) ((_law_right_5_x3)) ((_law_right_5_x2))))) aNil))))) ((seqS (asgV 8 (lstN (aCons ((telV (methV none 1 "Book" "without" Book_without_F [] (vE 3) (aCons (vE 6) aNil)))) (aCons ((telV (methK none 0 1 2 [0, 1] "Book" "without" Book_without_F [] (vE 3) aNil (aCons (vE 6) aNil)))) aNil)))) ((seqS (ifS ((orT ((notT ((tstE ((opN (one allD) (aCons ((telV (compV [10] (anyI (vE 8)) (bName 10) (trueT) ((_law_right_5_x1))))) aNil))))))) ((tstE (neiE ["Book"] "Book" Book___eq___F ((op2 getD (vE 8) (cE (.int 0)))) ((telV (makeV 2 Book___init___F "Book" [] (aCons (vE 1) (aCons (vE 7) aNil)))))))))) (retS (cE (.bl false))) (nxS)) (ifS ((orT ((tstE (op2 neD ((eqiE ["Book"] "Book" Book___eq___F ((op2 getD (vE 8) (cE (.int 1)))) (vE 3))) ((op2 eqD (vE 7) (vE 2)))))) ((tstE (op2 neD ((telV (callV none 1 _law_shown_F [] (aCons (vE 3) aNil)))) ((telV (callV none 2 _law_owed_F [] (aCons (vE 1) (aCons (vE 2) aNil)))))))))) (retS (cE (.bl false))) (nxS)))))))))
def _law_right_5_b : SF := (seqS (asgB (bSeq 2 (bCons (bName 1) (bCons (bName 2) bNil))) ((tupE (aCons ((telV (callV (some 0) 2 _law_first_F [] (aCons (vE 0) (aCons (cE (.int 6)) aNil))))) (aCons ((telV (callV (some 0) 3 _law_answers_F [] (aCons (vE 0) (aCons (cE (.int 0)) (aCons (cE (.int 4)) aNil)))))) aNil))))) ((seqS (ifS ((andT ((tstE (op2 neD (vE 2) ((tupE aNil))))) ((tstE (op2 eqD ((telV (callV (some 0) 2 _law_take_F [] (aCons (vE 0) (aCons (cE (.int 3)) aNil))))) (cE (.int 0))))))) (asgV 2 (vE' ((slE ((op2 addD (vE 2) (vE 2))) oNo (oSome (cE (.int 4))))))) (nxS)) ((seqS (parS [3, 4] (vCons (makeV 2 Book___init___F "Book" [] (aCons (vE 1) (aCons (vE 2) aNil))) (vCons (vE' ((opN (one lenD) (aCons (vE 2) aNil)))) vNil))) ((seqS (forS (rng1 (aCons (cE (.int 16)) aNil)) (bName 5) ((_law_right_5_x6))) (retS ((eqiE ["Book"] "Book" Book___eq___F ((telV (methV none 1 "Book" "without" Book_without_F [] (vE 3) (aCons ((tupE aNil)) aNil)))) (vE 3)))))))))))
def _law_right_5_F : DFn := runF (some 0) 11 _law_right_5_b
def law_5_x1 : EF := (telV (call1V (some 0) _law_right_5_F [] (callV none 2 _law_stock_F [] (aCons (vE 0) (aCons (vE 3) aNil)))))
def law_5_b : SF := (seqS (asgV 1 (makeV 2 Book___init___F "Book" [] (aCons (cE (.str "tag me; lock you")) (aCons ((tupE (aCons (cE (.str "lock me")) (aCons (cE (.str "lock you")) (aCons (cE (.str "tag me")) (aCons (cE (.str "lock you")) aNil)))))) aNil)))) ((seqS (asgV 2 (lstN (aCons ((telV (propV "Book" Book_answers_F ((telV (methV none 1 "Book" "without" Book_without_F [] (vE 1) (aCons ((tupE (aCons (cE (.int 0)) (aCons (cE (.int 3)) aNil)))) aNil))))))) (aCons ((telV (propV "Book" Book_answers_F ((telV (methV none 1 "Book" "without" Book_without_F [] (vE 1) (aCons ((tupE (aCons (cE (.int 1)) aNil))) aNil))))))) (aCons ((telV (propV "Book" Book_answers_F ((telV (methV none 1 "Book" "without" Book_without_F [] (vE 1) (aCons ((tupE (aCons (cE (.int 0)) (aCons (cE (.int 1)) (aCons (cE (.int 2)) (aCons (cE (.int 3)) aNil)))))) aNil))))))) aNil))))) ((seqS (ifS ((tstE (op2 neD (vE 2) ((lstE (aCons ((tupE (aCons (cE (.str "lock you")) (aCons (cE (.str "tag me")) aNil)))) (aCons ((tupE (aCons (cE (.str "lock me")) (aCons (cE (.str "tag me")) (aCons (cE (.str "lock you")) aNil))))) (aCons ((tupE aNil)) aNil)))))))) (retS (cE (.bl false))) (nxS)) ((seqS (ifS ((tstE (eqiE ["Book"] "Book" Book___eq___F ((telV (methV none 1 "Book" "without" Book_without_F [] (vE 1) (aCons ((tupE (aCons (cE (.int 1)) aNil))) aNil)))) ((telV (methV none 1 "Book" "without" Book_without_F [] (vE 1) (aCons ((tupE (aCons (cE (.int 3)) aNil))) aNil))))))) (retS (cE (.bl false))) (nxS)) (retS ((opN (one allD) (aCons ((telV (compV [3] (rng1 (aCons ((opN (two maxD) (aCons (cE (.int 2)) (aCons ((opN (two minD) (aCons ((opN (one lenD) (aCons (vE 0) aNil))) (aCons (cE (.int 6)) aNil)))) aNil)))) aNil)) (bName 3) (trueT) ((law_5_x1))))) aNil)))))))))))
def law_5_F : DFn := runF none 4 law_5_b
def Book_changed_b : SF := (seqS (ifS ((notT ((tstE ((telV (callV none 3 is_between_F [] (aCons (vE 1) (aCons (cE (.int 0)) (aCons ((op2 subD ((opN (one lenD) (aCons ((fldE "Book" "answer_rows" (vE 0))) aNil))) (cE (.int 1)))) aNil)))))))))) (badS) (nxS)) ((seqS (exprS ((telV (callV none 1 check_row_F [] (aCons (vE 2) aNil))))) (retV (makeV 2 Book___init___F "Book" [] (aCons ((fldE "Book" "first_row" (vE 0))) (aCons ((tupE (aStar ((slE ((fldE "Book" "answer_rows" (vE 0))) oNo (oSome (vE 1)))) (aCons (vE 2) (aStar ((slE ((fldE "Book" "answer_rows" (vE 0))) (oSome ((op2 addD (vE 1) (cE (.int 1))))) oNo)) aNil))))) aNil)))))))
def Book_changed_F : DFn := runF none 3 Book_changed_b
def _law_right_6_x1 : EF := (op2 eqD ((telV (callV none 1 _law_shown_F [] (aCons (vE 9) aNil)))) ((telV (callV none 2 _law_owed_F [] (aCons (vE 1) (aCons (vE 7) aNil))))))
def _law_right_6_x2 : SF := (seqS (asgV 5 (addV ((telV (callV (some 0) 3 _law_answers_F [] (aCons (vE 0) (aCons (cE (.int 1)) (aCons (cE (.int 2)) aNil)))))) (vE 2))) ((seqS (asgV 6 (vE' ((op2 getD (vE 5) ((telV (callV (some 0) 2 _law_take_F [] (aCons (vE 0) (aCons ((opN (one lenD) (aCons (vE 5) aNil))) aNil))))))))) ((seqS (asgV 7 (addV ((op2 addD ((slE (vE 2) oNo (oSome (vE 4)))) ((tupE (aCons (vE 6) aNil))))) ((slE (vE 2) (oSome ((op2 addD (vE 4) (cE (.int 1))))) oNo)))) ((seqS (asgV 8 (lstN (aCons ((telV (methV none 2 "Book" "changed" Book_changed_F [] (vE 3) (aCons (vE 4) (aCons (vE 6) aNil))))) (aCons ((telV (methK none 0 2 3 [0, 2, 1] "Book" "changed" Book_changed_F [] (vE 3) aNil (aCons (vE 6) (aCons (vE 4) aNil))))) aNil)))) ((seqS (ifS ((orT ((notT ((tstE ((opN (one allD) (aCons ((telV (compV [9] (anyI (vE 8)) (bName 9) (trueT) ((_law_right_6_x1))))) aNil))))))) ((tstE (neiE ["Book"] "Book" Book___eq___F ((op2 getD (vE 8) (cE (.int 0)))) ((telV (makeV 2 Book___init___F "Book" [] (aCons (vE 1) (aCons (vE 7) aNil)))))))))) (retS (cE (.bl false))) (nxS)) ((seqS (ifS ((orT ((tstE (op2 neD ((eqiE ["Book"] "Book" Book___eq___F ((op2 getD (vE 8) (cE (.int 1)))) (vE 3))) ((op2 eqD (vE 7) (vE 2)))))) ((tstE (op2 neD ((telV (callV none 1 _law_shown_F [] (aCons (vE 3) aNil)))) ((telV (callV none 2 _law_owed_F [] (aCons (vE 1) (aCons (vE 2) aNil)))))))))) (retS (cE (.bl false))) (nxS)) (ifS ((orT ((tstE (neiE ["Book"] "Book" Book___eq___F ((telV (methV none 2 "Book" "changed" Book_changed_F [] ((op2 getD (vE 8) (cE (.int 0)))) (aCons (vE 4) (aCons ((op2 getD (vE 2) (vE 4))) aNil))))) (vE 3)))) ((tstE (neiE ["Book"] "Book" Book___eq___F ((telV (methV none 2 "Book" "changed" Book_changed_F [] (vE 3) (aCons (vE 4) (aCons ((op2 getD (vE 2) (vE 4))) aNil))))) (vE 3)))))) (retS (cE (.bl false))) (nxS)))))))))))))
def _law_right_6_b : SF := (seqS (asgB (bSeq 2 (bCons (bName 1) (bCons (bName 2) bNil))) ((tupE (aCons ((telV (callV (some 0) 2 _law_first_F [] (aCons (vE 0) (aCons (cE (.int 6)) aNil))))) (aCons ((telV (callV (some 0) 3 _law_answers_F [] (aCons (vE 0) (aCons (cE (.int 1)) (aCons (cE (.int 4)) aNil)))))) aNil))))) ((seqS (asgV 3 (makeV 2 Book___init___F "Book" [] (aCons (vE 1) (aCons (vE 2) aNil)))) ((seqS (forS (rng1 (aCons ((opN (one lenD) (aCons (vE 2) aNil))) aNil)) (bName 4) ((_law_right_6_x2))) (retS (cE (.bl true))))))))
def _law_right_6_F : DFn := runF (some 0) 10 _law_right_6_b
def law_6_x1 : EF := (telV (call1V (some 0) _law_right_6_F [] (callV none 2 _law_stock_F [] (aCons (vE 0) (aCons (vE 3) aNil)))))
def law_6_b : SF := (seqS (asgV 1 (makeV 2 Book___init___F "Book" [] (aCons (cE (.str "lock you")) (aCons ((tupE (aCons (cE (.str "tag me")) (aCons (cE (.str "tag you")) (aCons (cE (.str "tag me")) aNil))))) aNil)))) ((seqS (asgV 2 (lstN (aCons ((telV (propV "Book" Book_answers_F ((telV (methV none 2 "Book" "changed" Book_changed_F [] (vE 1) (aCons (cE (.int 0)) (aCons (cE (.str "lock me")) aNil)))))))) (aCons ((telV (propV "Book" Book_answers_F ((telV (methV none 2 "Book" "changed" Book_changed_F [] (vE 1) (aCons (cE (.int 2)) (aCons (cE (.str "lock me")) aNil)))))))) (aCons ((telV (propV "Book" Book_answers_F (vE 1)))) aNil))))) ((seqS (ifS ((tstE (op2 neD (vE 2) ((lstE (aCons ((tupE (aCons (cE (.str "lock me")) (aCons (cE (.str "tag you")) (aCons (cE (.str "tag me")) aNil))))) (aCons ((tupE (aCons (cE (.str "tag me")) (aCons (cE (.str "tag you")) (aCons (cE (.str "lock me")) aNil))))) (aCons ((tupE (aCons (cE (.str "tag me")) (aCons (cE (.str "tag you")) (aCons (cE (.str "tag me")) aNil))))) aNil)))))))) (retS (cE (.bl false))) (nxS)) (retS ((opN (one allD) (aCons ((telV (compV [3] (rng1 (aCons ((opN (two maxD) (aCons (cE (.int 2)) (aCons ((opN (two minD) (aCons ((opN (one lenD) (aCons (vE 0) aNil))) (aCons (cE (.int 8)) aNil)))) aNil)))) aNil)) (bName 3) (trueT) ((law_6_x1))))) aNil)))))))))
def law_6_F : DFn := runF none 4 law_6_b
def Book___eq___2_b : SF := retS ((andE ((isiE (isC ["Book", "Mail"] "Book") (vE 1))) ((andE ((op2 eqD ((fldE "Book" "first_row" (vE 0))) ((fldE "Book" "first_row" (vE 1))))) ((op2 eqD ((fldE "Book" "answer_rows" (vE 0))) ((fldE "Book" "answer_rows" (vE 1)))))))))
def Book___eq___2_F : DFn := runF none 2 Book___eq___2_b
def Mail___eq___b : SF := retS ((andE ((isiE (isC ["Book", "Mail"] "Mail") (vE 1))) ((andE ((eqiE ["Book", "Mail"] "Book" Book___eq___2_F ((fldE "Mail" "rules" (vE 0))) ((fldE "Mail" "rules" (vE 1))))) ((op2 eqD ((fldE "Mail" "all_boxes" (vE 0))) ((fldE "Mail" "all_boxes" (vE 1)))))))))
def Mail___eq___F : DFn := runF none 2 Mail___eq___b
def check_book_b : SF := ifS ((notT ((tstE ((isiE (isC ["Book", "Mail"] "Book") (vE 0))))))) (badS) (nxS)
def check_book_F : DFn := runF none 1 check_book_b
def Mail___init___b : SF := (seqS (exprS ((telV (callV none 1 check_book_F [] (aCons (vE 1) aNil))))) ((seqS (setF 0 "Mail" "rules" (vE 1)) (setF 0 "Mail" "all_boxes" ((tupE (aCons ((telV (propV "Book" Book_begun_F (vE 1)))) aNil)))))))
def Mail___init___F : DFn := runF (some 0) 2 Mail___init___b
def Mail_joined_b : SF := (seqS (asgV 2 (makeV 1 Mail___init___F "Mail" [] (aCons ((fldE "Mail" "rules" (vE 0))) aNil))) ((seqS (setF 2 "Mail" "all_boxes" ((tupE (aStar ((fldE "Mail" "all_boxes" (vE 0))) (aCons (vE 1) aNil))))) (retV (givV (vE 2))))))
def Mail_joined_F : DFn := runF none 3 Mail_joined_b
def box_answered_b : SF := (seqS (ifS ((tstE (op2 neD ((opN (one lenD) (aCons (vE 1) aNil))) (cE (.int 3))))) (retS (cE .non)) (nxS)) ((seqS (asgB (bSeq 3 (bCons (bName 3) (bCons (bName 4) (bCons (bName 5) bNil)))) (vE 1)) ((seqS (ifS ((orT ((notT ((tstE ((telV (callV none 3 is_between_F [] (aCons (vE 3) (aCons (cE (.int 0)) (aCons ((op2 subD ((opN (one lenD) (aCons ((fldE "Book" "deeds" (vE 0))) aNil))) (cE (.int 1)))) aNil)))))))))) ((orT ((notT ((tstE ((telV (callV none 1 is_name_F [] (aCons (vE 4) aNil)))))))) ((notT ((tstE ((telV (callV none 1 is_name_F [] (aCons (vE 5) aNil)))))))))))) (retS (cE .non)) (nxS)) (retV (callV none 4 done_F [] (aCons ((op2 getD ((fldE "Book" "deeds" (vE 0))) (vE 3))) (aCons (vE 4) (aCons (vE 5) (aCons (vE 2) aNil)))))))))))
def box_answered_F : DFn := runF none 6 box_answered_b
def c_THIEF : D := (.str "zed")
def box_opened_b : SF := (seqS (ifS ((tstE (op2 eqD (vE 1) ((tupE aNil))))) (retS (cE .non)) (nxS)) ((seqS (asgB (bSeq 2 (bCons (bName 2) (bCons (bName 3) bNil))) ((op2 getD (vE 1) (cE (.int 0))))) (retS ((ifE ((andT ((tstE (op2 eqD (vE 0) ((op2 addD (cE (.str "un")) (vE 2)))))) ((orT ((tstE (op2 eqD (vE 2) (cE (.str "tag"))))) ((tstE (op2 eqD (vE 3) (cE c_THIEF)))))))) ((slE (vE 1) (oSome (cE (.int 1))) oNo)) (cE .non)))))))
def box_opened_F : DFn := runF none 4 box_opened_b
def box_behind_b : SF := (seqS (ifS ((orT ((notT ((tstE ((isiE (isB "tuple") (vE 2))))))) ((orT ((tstE (op2 ltD ((opN (one lenD) (aCons (vE 2) aNil))) (cE (.int 2))))) ((notT ((tstE ((isiE (isB "str") ((op2 getD (vE 2) (cE (.int 0)))))))))))))) (retS (cE .non)) (nxS)) ((seqS (ifS ((notT ((tstE ((telV (callV none 3 is_between_F [] (aCons ((op2 getD (vE 2) (cE (.int 1)))) (aCons (cE (.int 0)) (aCons ((op2 subD ((opN (one lenD) (aCons (vE 1) aNil))) (cE (.int 1)))) aNil)))))))))) (retS (cE .non)) (nxS)) ((seqS (parS [3, 4, 5] (vCons (vE' ((op2 getD (vE 2) (cE (.int 0))))) (vCons (vE' ((op2 getD (vE 1) ((op2 getD (vE 2) (cE (.int 1))))))) (vCons (vE' ((slE (vE 2) (oSome (cE (.int 2))) oNo))) vNil)))) ((seqS (ifS ((tstE (op2 inD (vE 3) ((tupE (aCons (cE (.str "lock")) (aCons (cE (.str "tag")) aNil))))))) (retS ((ifE ((andT ((tstE (op2 eqD ((opN (one lenD) (aCons (vE 5) aNil))) (cE (.int 1))))) ((tstE ((telV (callV none 1 is_name_F [] (aCons ((op2 getD (vE 5) (cE (.int 0)))) aNil)))))))) ((tupE (aCons ((tupE (aCons (vE 3) (aCons ((op2 getD (vE 5) (cE (.int 0)))) aNil)))) (aStar (vE 4) aNil)))) (cE .non)))) (nxS)) ((seqS (ifS ((tstE (op2 inD (vE 3) ((tupE (aCons (cE (.str "unlock")) (aCons (cE (.str "untag")) aNil))))))) (retS ((ifE ((tstE (op2 eqD ((opN (one lenD) (aCons (vE 5) aNil))) (cE (.int 0))))) ((telV (callV none 2 box_opened_F [] (aCons (vE 3) (aCons (vE 4) aNil))))) (cE .non)))) (nxS)) (retS ((ifE ((tstE (op2 eqD (vE 3) (cE (.str "answer"))))) ((telV (callV none 3 box_answered_F [] (aCons (vE 0) (aCons (vE 5) (aCons (vE 4) aNil)))))) (cE .non)))))))))))))
def box_behind_F : DFn := runF none 6 box_behind_b
def Mail_boxes_b : SF := retS ((fldE "Mail" "all_boxes" (vE 0)))
def Mail_boxes_F : DFn := runF none 1 Mail_boxes_b
def Mail_book_b : SF := retS ((fldE "Mail" "rules" (vE 0)))
def Mail_book_F : DFn := runF none 1 Mail_book_b
def Mail_led_x1 : SF := (seqS (asgV 5 (callV none 3 box_behind_F [] (aCons ((telV (propV "Mail" Mail_book_F (vE 2)))) (aCons ((telV (propV "Mail" Mail_boxes_F (vE 2)))) (aCons (vE 4) aNil))))) ((seqS (ifS ((tstE (op2 isND (vE 5) (cE .non)))) (badS) (nxS)) (asgV 2 (methV none 1 "Mail" "joined" Mail_joined_F [] (vE 2) (aCons (vE 5) aNil))))))
def Mail_led_b : SF := (seqS (ifS ((notT ((tstE ((isiE (isB "tuple") (vE 1))))))) (badS) (nxS)) ((seqS (asgV 2 (vE' (vE 0))) ((seqS (forS (enumI (vE 1)) (bSeq 2 (bCons (bName 3) (bCons (bName 4) bNil))) ((Mail_led_x1))) (retV (givV (vE 2))))))))
def Mail_led_F : DFn := runF none 6 Mail_led_b
def Mail___repr___b : SF := retS ((jsE [cE (.str "Mail with "), (fmtE ((opN (one lenD) (aCons ((fldE "Mail" "all_boxes" (vE 0))) aNil)))), cE (.str " boxes")] Str.empty))
def Mail___repr___F : DFn := runF none 1 Mail___repr___b
def _law_look_b : SF := retS ((opN (one reprD) (aCons ((lstE (aCons ((textE "Book" Book___str___F ((telV (propV "Mail" Mail_book_F (vE 0)))))) (aCons ((telV (propV "Mail" Mail_boxes_F (vE 0)))) (aCons ((textE "Mail" Mail___repr___F (vE 0))) (aCons ((trueI "Mail" (vE 0))) aNil)))))) aNil)))
def _law_look_F : DFn := runF none 1 _law_look_b
def _law_mailed_b : SF := retS ((opN (one reprD) (aCons ((lstE (aCons ((telV (callV none 2 _law_text_F [] (aCons (vE 0) (aCons (vE 1) aNil))))) (aCons ((opN (one tupD) (aCons (vE 2) aNil))) (aCons ((op2 addD ((op2 addD (cE (.str "Mail with ")) ((opN (one strD) (aCons ((opN (one lenD) (aCons (vE 2) aNil))) aNil))))) (cE (.str " boxes")))) (aCons (cE (.bl true)) aNil)))))) aNil)))
def _law_mailed_F : DFn := runF none 3 _law_mailed_b
def Mail_after_b : SF := (seqS (asgV 2 (callV none 3 box_behind_F [] (aCons ((fldE "Mail" "rules" (vE 0))) (aCons ((fldE "Mail" "all_boxes" (vE 0))) (aCons (vE 1) aNil))))) ((seqS (ifS ((tstE (op2 isND (vE 2) (cE .non)))) (badS) (nxS)) (retV (methV none 1 "Mail" "joined" Mail_joined_F [] (vE 0) (aCons (vE 2) aNil))))))
def Mail_after_F : DFn := runF none 3 Mail_after_b
def _law_made_b : SF := (seqS (asgV 3 (vE' ((op2 getD (vE 1) ((op2 getD (vE 0) (cE (.int 1)))))))) ((seqS (ifS ((tstE (op2 inD ((op2 getD (vE 0) (cE (.int 0)))) ((lstE (aCons (cE (.str "lock")) (aCons (cE (.str "tag")) aNil))))))) (retV (addV ((tupE (aCons ((tupE (aCons ((op2 getD (vE 0) (cE (.int 0)))) (aCons ((op2 getD (vE 0) (cE (.int 2)))) aNil)))) aNil))) (vE 3))) (nxS)) ((seqS (ifS ((tstE (op2 eqD ((op2 getD (vE 0) (cE (.int 0)))) (cE (.str "answer"))))) (retV (callV none 4 _law_done_F [] (aCons ((op2 getD (vE 2) ((op2 getD (vE 0) (cE (.int 2)))))) (aCons ((op2 getD (vE 0) (cE (.int 3)))) (aCons ((op2 getD (vE 0) (cE (.int 4)))) (aCons (vE 3) aNil)))))) (nxS)) ((seqS (ifS ((orT ((tstE (op2 eqD (vE 3) ((tupE aNil))))) ((andT ((tstE (op2 eqD ((op2 getD (vE 0) (cE (.int 0)))) (cE (.str "unlock"))))) ((tstE (op2 neD ((op2 getD (vE 3) (cE (.int 0)))) ((tupE (aCons (cE (.str "lock")) (aCons (cE (.str "zed")) aNil))))))))))) (retS (cE .non)) (nxS)) (retS ((ifE ((andT ((tstE (op2 eqD ((op2 getD (vE 0) (cE (.int 0)))) (cE (.str "untag"))))) ((tstE (op2 neD ((op2 getD ((op2 getD (vE 3) (cE (.int 0)))) (cE (.int 0)))) (cE (.str "tag"))))))) (cE .non) ((slE (vE 3) (oSome (cE (.int 1))) oNo))))))))))))
def _law_made_F : DFn := runF none 4 _law_made_b
def _law_step_b : SF := (seqS (asgV 4 (callV (some 0) 2 _law_take_F [] (aCons (vE 0) (aCons ((opN (one lenD) (aCons (vE 1) aNil))) aNil)))) ((seqS (parS [5, 6] (vCons (vE' ((op2 getD (vE 1) (vE 4)))) (vCons (callV (some 0) 2 _law_take_F [] (aCons (vE 0) (aCons (cE (.int 10)) aNil))) vNil))) ((seqS (parS [7, 8] (vCons (vE' ((op2 getD (vE 3) ((telV (callV (some 0) 2 _law_take_F [] (aCons (vE 0) (aCons ((opN (one lenD) (aCons (vE 3) aNil))) aNil)))))))) (vCons (vE' ((op2 getD (vE 3) ((telV (callV (some 0) 2 _law_take_F [] (aCons (vE 0) (aCons ((opN (one lenD) (aCons (vE 3) aNil))) aNil)))))))) vNil))) ((seqS (asgV 7 (vE' ((ifE ((andT ((tstE (op2 neD (vE 5) ((tupE aNil))))) ((tstE (op2 gtD ((telV (callV (some 0) 2 _law_take_F [] (aCons (vE 0) (aCons (cE (.int 3)) aNil))))) (cE (.int 0))))))) ((op2 getD ((op2 getD (vE 5) (cE (.int 0)))) (cE (.int 1)))) (vE 7))))) ((seqS (ifS ((tstE (op2 ltD (vE 6) (cE (.int 2))))) (retS ((tupE (aCons ((op2 getD ((lstE (aCons (cE (.str "lock")) (aCons (cE (.str "tag")) aNil)))) (vE 6))) (aCons (vE 4) (aCons (vE 8) aNil)))))) (nxS)) ((seqS (ifS ((orT ((tstE (op2 ltD (vE 6) (cE (.int 4))))) ((tstE (op2 eqD (vE 2) ((tupE aNil))))))) (retS ((ifE ((andT ((tstE (op2 neD (vE 5) ((tupE aNil))))) ((tstE (op2 eqD ((op2 getD (vE 5) (cE (.int 0)))) ((tupE (aCons (cE (.str "lock")) (aCons (cE (.str "zed")) aNil))))))))) ((tupE (aCons (cE (.str "unlock")) (aCons (vE 4) aNil)))) ((tupE (aCons (cE (.str "untag")) (aCons (vE 4) aNil))))))) (nxS)) (retS ((tupE (aCons (cE (.str "answer")) (aCons (vE 4) (aCons ((telV (callV (some 0) 2 _law_take_F [] (aCons (vE 0) (aCons ((opN (one lenD) (aCons (vE 2) aNil))) aNil))))) (aCons (vE 7) (aCons (vE 8) aNil)))))))))))))))))))
def _law_step_F : DFn := runF (some 0) 9 _law_step_b
def _law_led_x1 : SF := (seqS (asgV 8 (callV (some 0) 4 _law_step_F [] (aCons (vE 0) (aCons (vE 5) (aCons (vE 2) (aCons (vE 3) aNil)))))) ((seqS (asgV 9 (callV none 3 _law_made_F [] (aCons (vE 8) (aCons (vE 5) (aCons (vE 2) aNil))))) (ifS ((tstE (op2 notND (vE 9) (cE .non)))) ((seqS (appS 5 (vE 9)) (appS 6 (vE 8)))) (nxS)))))
def _law_led_b : SF := (seqS (parS [5, 6] (vCons (lstN (aCons (vE 1) aNil)) (vCons (lstN aNil) vNil))) ((seqS (forS (rng1 (aCons (vE 4) aNil)) (bName 7) ((_law_led_x1))) (retS ((tupE (aCons (vE 6) (aCons (vE 5) aNil))))))))
def _law_led_F : DFn := runF (some 0) 10 _law_led_b
def _law_right_7_x1 : SF := ifS ((orT ((tstE (op2 neD ((telV (callV none 1 _law_look_F [] (aCons ((op2 getD (vE 7) (vE 10))) aNil)))) ((telV (callV none 3 _law_mailed_F [] (aCons (vE 1) (aCons (vE 2) (aCons ((slE (vE 5) oNo (oSome ((op2 addD (vE 10) (cE (.int 1))))))) aNil))))))))) ((tstE (neiE ["Book", "Mail"] "Book" Book___eq___2_F ((telV (propV "Mail" Mail_book_F ((op2 getD (vE 7) (vE 10)))))) (vE 6)))))) (retS (cE (.bl false))) (nxS)
def _law_right_7_x2 : EF := (op2 eqD ((telV (callV none 1 _law_look_F [] (aCons (vE 11) aNil)))) ((telV (callV none 3 _law_mailed_F [] (aCons (vE 1) (aCons (vE 2) (aCons (vE 5) aNil)))))))
def _law_right_7_x3 : SF := appS 7 ((telV (methV none 1 "Mail" "after" Mail_after_F [] ((op2 getD (vE 7) ((negE (cE (.int 1)))))) (aCons (vE 8) aNil))))
def _law_right_7_b : SF := (seqS (asgB (bSeq 2 (bCons (bName 1) (bCons (bName 2) bNil))) ((tupE (aCons ((telV (callV (some 0) 2 _law_first_F [] (aCons (vE 0) (aCons (cE (.int 6)) aNil))))) (aCons ((telV (callV (some 0) 3 _law_answers_F [] (aCons (vE 0) (aCons (cE (.int 0)) (aCons (cE (.int 4)) aNil)))))) aNil))))) ((seqS (asgV 3 (lstN (aCons (cE (.str "ann")) (aCons (cE (.str "bob")) (aCons (cE (.str "zed")) (aCons ((telV (callV (some 0) 1 _law_called_F [] (aCons (vE 0) aNil)))) (aCons ((telV (callV (some 0) 1 _law_called_F [] (aCons (vE 0) aNil)))) aNil))))))) ((seqS (asgB (bSeq 2 (bCons (bName 4) (bCons (bName 5) bNil))) ((telV (callV (some 0) 5 _law_led_F [] (aCons (vE 0) (aCons ((telV (callV none 4 _law_done_F [] (aCons (vE 1) (aCons (cE (.str "ann")) (aCons (cE (.str "bob")) (aCons ((tupE aNil)) aNil))))))) (aCons (vE 2) (aCons (vE 3) (aCons (cE (.int 20)) aNil))))))))) ((seqS (asgV 6 (makeV 2 Book___init___F "Book" [] (aCons (vE 1) (aCons (vE 2) aNil)))) ((seqS (asgV 7 (lstN (aCons ((telV (makeV 1 Mail___init___F "Mail" [] (aCons (vE 6) aNil)))) aNil))) ((seqS (forS (anyI (vE 4)) (bName 8) ((_law_right_7_x3))) ((seqS (asgV 9 (lstN (aCons ((telV (methV none 1 "Mail" "led" Mail_led_F [] ((telV (makeV 1 Mail___init___F "Mail" [] (aCons (vE 6) aNil)))) (aCons ((opN (one tupD) (aCons (vE 4) aNil))) aNil)))) (aCons ((telV (methK none 0 1 2 [0, 1] "Mail" "led" Mail_led_F [] ((op2 getD (vE 7) (cE (.int 0)))) aNil (aCons ((opN (one tupD) (aCons (vE 4) aNil))) aNil)))) (aCons ((op2 getD (vE 7) ((negE (cE (.int 1)))))) aNil))))) ((seqS (ifS ((notT ((tstE ((opN (one allD) (aCons ((telV (compV [11] (anyI (vE 9)) (bName 11) (trueT) ((_law_right_7_x2))))) aNil))))))) (retS (cE (.bl false))) (nxS)) ((seqS (forS (rng1 (aCons ((opN (one lenD) (aCons (vE 7) aNil))) aNil)) (bName 10) ((_law_right_7_x1))) ((seqS (ifS ((orT ((tstE (neiE ["Book", "Mail"] "Mail" Mail___eq___F ((op2 getD (vE 9) (cE (.int 0)))) ((op2 getD (vE 9) (cE (.int 2))))))) ((tstE (neiE ["Book", "Mail"] "Mail" Mail___eq___F ((telV (methV none 1 "Mail" "led" Mail_led_F [] ((op2 getD (vE 7) (cE (.int 0)))) (aCons ((tupE aNil)) aNil)))) ((telV (makeV 1 Mail___init___F "Mail" [] (aCons (vE 6) aNil))))))))) (retS (cE (.bl false))) (nxS)) (retS ((op2 eqD ((telV (callV none 1 _law_shown_F [] (aCons (vE 6) aNil)))) ((telV (callV none 2 _law_owed_F [] (aCons (vE 1) (aCons (vE 2) aNil)))))))))))))))))))))))))))
def _law_right_7_F : DFn := runF (some 0) 12 _law_right_7_b
def law_7_x1 : EF := (telV (call1V (some 0) _law_right_7_F [] (callV none 2 _law_stock_F [] (aCons (vE 0) (aCons (vE 5) aNil)))))
def law_7_b : SF := (seqS (asgV 1 (makeV 2 Book___init___F "Book" [] (aCons (cE (.str "lock you")) (aCons ((tupE (aCons (cE (.str "unlock me; lock you")) aNil))) aNil)))) ((seqS (asgV 2 (methV none 1 "Mail" "led" Mail_led_F [] ((telV (makeV 1 Mail___init___F "Mail" [] (aCons (vE 1) aNil)))) (aCons ((tupE (aCons ((tupE (aCons (cE (.str "answer")) (aCons (cE (.int 0)) (aCons (cE (.int 0)) (aCons (cE (.str "bob")) (aCons (cE (.str "zed")) aNil))))))) (aCons ((tupE (aCons (cE (.str "unlock")) (aCons (cE (.int 1)) aNil)))) aNil)))) aNil))) ((seqS (asgV 3 (lstN (aCons ((telV (propV "Book" Book_begun_F (vE 1)))) (aCons ((telV (propV "Mail" Mail_boxes_F (vE 2)))) (aCons ((textE "Mail" Mail___repr___F (vE 2))) (aCons ((textE "Mail" Mail___repr___F ((telV (makeV 1 Mail___init___F "Mail" [] (aCons (vE 1) aNil)))))) aNil)))))) ((seqS (asgV 4 (lstN (aCons ((tupE (aCons ((tupE (aCons (cE (.str "lock")) (aCons (cE (.str "bob")) aNil)))) aNil))) (aCons ((tupE (aCons ((tupE (aCons ((tupE (aCons (cE (.str "lock")) (aCons (cE (.str "bob")) aNil)))) aNil))) (aCons ((tupE (aCons ((tupE (aCons (cE (.str "lock")) (aCons (cE (.str "zed")) aNil)))) aNil))) (aCons ((tupE aNil)) aNil))))) aNil)))) ((seqS (asgV 4 (addV (vE 4) ((lstE (aCons (cE (.str "Mail with 3 boxes")) (aCons (cE (.str "Mail with 1 boxes")) aNil)))))) ((seqS (ifS ((tstE (op2 neD ((opN (one reprD) (aCons (vE 3) aNil))) ((opN (one reprD) (aCons (vE 4) aNil)))))) (retS (cE (.bl false))) (nxS)) (retS ((opN (one allD) (aCons ((telV (compV [5] (rng1 (aCons ((opN (two maxD) (aCons (cE (.int 2)) (aCons ((opN (two minD) (aCons ((opN (one lenD) (aCons (vE 0) aNil))) (aCons (cE (.int 8)) aNil)))) aNil)))) aNil)) (bName 5) (trueT) ((law_7_x1))))) aNil)))))))))))))))
def law_7_F : DFn := runF none 6 law_7_b
def _law_third_b : SF := retS ((ifE ((tstE (op2 inD (vE 0) ((lstE (aCons (cE (.str "ann")) (aCons (cE (.str "bob")) aNil))))))) (vE 0) (cE (.str "zed"))))
def _law_third_F : DFn := runF none 1 _law_third_b
def _law_box_taken_x1 : EF := (tupE (aCons (vE 1) (aCons ((telV (callV none 1 _law_third_F [] (aCons (vE 2) aNil)))) aNil)))
def _law_box_taken_b : SF := retS ((opN (one tupD) (aCons ((telV (compV [1, 2] (anyI (vE 0)) (bSeq 2 (bCons (bName 1) (bCons (bName 2) bNil))) (trueT) ((_law_box_taken_x1))))) aNil)))
def _law_box_taken_F : DFn := runF none 3 _law_box_taken_b
def _law_step_taken_x1 : EF := (telV (callV none 1 _law_third_F [] (aCons (vE 1) aNil)))
def _law_step_taken_b : SF := (seqS (ifS ((tstE (op2 eqD ((op2 getD (vE 0) (cE (.int 0)))) (cE (.str "answer"))))) (retV (addV ((slE (vE 0) oNo (oSome (cE (.int 3))))) ((tupE (aCons ((telV (callV none 1 _law_third_F [] (aCons ((op2 getD (vE 0) (cE (.int 3)))) aNil)))) (aCons ((telV (callV none 1 _law_third_F [] (aCons ((op2 getD (vE 0) (cE (.int 4)))) aNil)))) aNil)))))) (nxS)) (retV (addV ((slE (vE 0) oNo (oSome (cE (.int 2))))) ((opN (one tupD) (aCons ((telV (compV [1] (anyI ((slE (vE 0) (oSome (cE (.int 2))) oNo))) (bName 1) (trueT) ((_law_step_taken_x1))))) aNil))))))
def _law_step_taken_F : DFn := runF none 2 _law_step_taken_b
def _law_right_8_x1 : EF := (op2 inD (vE 12) ((lstE (aCons (cE (.str "ann")) (aCons (cE (.str "bob")) (aCons (cE (.str "zed")) aNil))))))
def _law_right_8_x2 : SF := ifS ((andT ((tstE ((opN (one allD) (aCons ((telV (compV [11, 12] (anyI (vE 8)) (bSeq 2 (bCons (bName 11) (bCons (bName 12) bNil))) (trueT) ((_law_right_8_x1))))) aNil))))) ((tstE (op2 ninD (vE 8) ((telV (propV "Mail" Mail_boxes_F (vE 7))))))))) (retS (cE (.bl false))) (nxS)
def _law_right_8_x3 : EF := (telV (callV none 1 _law_box_taken_F [] (aCons (vE 8) aNil)))
def _law_right_8_x4 : EF := (telV (callV none 1 _law_step_taken_F [] (aCons (vE 10) aNil)))
def _law_right_8_x5 : EF := (telV (callV (some 0) 1 _law_called_F [] (aCons (vE 0) aNil)))
def _law_right_8_b : SF := (seqS (parS [1, 2] (vCons (callV (some 0) 2 _law_first_F [] (aCons (vE 0) (aCons (cE (.int 6)) aNil))) (vCons (callV (some 0) 3 _law_answers_F [] (aCons (vE 0) (aCons (cE (.int 0)) (aCons (cE (.int 4)) aNil)))) vNil))) ((seqS (asgV 3 (addV ((lstE (aCons (cE (.str "ann")) (aCons (cE (.str "bob")) (aCons (cE (.str "zed")) (aCons (cE (.str "eve")) aNil)))))) ((telV (compV [9] (rng1 (aCons (cE (.int 3)) aNil)) (bName 9) (trueT) ((_law_right_8_x5))))))) ((seqS (asgB (bSeq 2 (bCons (bName 4) (bCons (bName 5) bNil))) ((telV (callV (some 0) 5 _law_led_F [] (aCons (vE 0) (aCons ((telV (callV none 4 _law_done_F [] (aCons (vE 1) (aCons (cE (.str "ann")) (aCons (cE (.str "bob")) (aCons ((tupE aNil)) aNil))))))) (aCons (vE 2) (aCons (vE 3) (aCons (cE (.int 20)) aNil))))))))) ((seqS (asgV 6 (methV none 1 "Mail" "led" Mail_led_F [] ((telV (makeV 1 Mail___init___F "Mail" [] (aCons ((telV (makeV 2 Book___init___F "Book" [] (aCons (vE 1) (aCons (vE 2) aNil))))) aNil)))) (aCons ((opN (one tupD) (aCons (vE 4) aNil))) aNil))) ((seqS (asgV 7 (methV none 1 "Mail" "led" Mail_led_F [] ((telV (makeV 1 Mail___init___F "Mail" [] (aCons ((telV (makeV 2 Book___init___F "Book" [] (aCons (vE 1) (aCons (vE 2) aNil))))) aNil)))) (aCons ((opN (one tupD) (aCons ((telV (compV [10] (anyI (vE 4)) (bName 10) (trueT) ((_law_right_8_x4))))) aNil))) aNil))) ((seqS (ifS ((orT ((tstE (op2 neD ((telV (propV "Mail" Mail_boxes_F (vE 7)))) ((opN (one tupD) (aCons ((telV (compV [8] (anyI ((telV (propV "Mail" Mail_boxes_F (vE 6))))) (bName 8) (trueT) ((_law_right_8_x3))))) aNil)))))) ((tstE (op2 neD ((opN (one lenD) (aCons ((telV (propV "Mail" Mail_boxes_F (vE 7)))) aNil))) ((op2 addD ((opN (one lenD) (aCons (vE 4) aNil))) (cE (.int 1))))))))) (retS (cE (.bl false))) (nxS)) ((seqS (ifS ((orT ((tstE (op2 neD ((op2 getD ((telV (propV "Mail" Mail_boxes_F (vE 7)))) (cE (.int 0)))) ((op2 getD ((telV (propV "Mail" Mail_boxes_F (vE 6)))) (cE (.int 0))))))) ((tstE (op2 neD ((op2 getD ((telV (propV "Mail" Mail_boxes_F (vE 6)))) (cE (.int 0)))) ((op2 getD ((telV (propV "Mail" Mail_boxes_F ((telV (makeV 1 Mail___init___F "Mail" [] (aCons ((telV (makeV 1 Book___init___F "Book" [(.tup [])] (aCons (vE 1) aNil)))) aNil))))))) (cE (.int 0))))))))) (retS (cE (.bl false))) (nxS)) ((seqS (forS (anyI ((telV (propV "Mail" Mail_boxes_F (vE 6))))) (bName 8) ((_law_right_8_x2))) (retS ((eqiE ["Book", "Mail"] "Book" Book___eq___2_F ((telV (propV "Mail" Mail_book_F (vE 7)))) ((telV (propV "Mail" Mail_book_F (vE 6))))))))))))))))))))))
def _law_right_8_F : DFn := runF (some 0) 13 _law_right_8_b
def law_8_x1 : EF := (telV (call1V (some 0) _law_right_8_F [] (callV none 2 _law_stock_F [] (aCons (vE 0) (aCons (vE 3) aNil)))))
def law_8_b : SF := (seqS (asgV 1 (makeV 1 Mail___init___F "Mail" [] (aCons ((telV (makeV 2 Book___init___F "Book" [] (aCons (cE (.str "lock you")) (aCons ((tupE (aCons (cE (.str "unlock me; lock you")) (aCons (cE (.str "unlock me")) aNil)))) aNil))))) aNil))) ((seqS (asgV 2 (lstN (aCons ((op2 getD ((telV (propV "Mail" Mail_boxes_F ((telV (methV none 1 "Mail" "led" Mail_led_F [] (vE 1) (aCons ((tupE (aCons ((tupE (aCons (cE (.str "answer")) (aCons (cE (.int 0)) (aCons (cE (.int 0)) (aCons (cE (.str "bob")) (aCons (cE (.str "eve")) aNil))))))) (aCons ((tupE (aCons (cE (.str "answer")) (aCons (cE (.int 1)) (aCons (cE (.int 1)) (aCons (cE (.str "eve")) (aCons (cE (.str "me")) aNil))))))) aNil)))) aNil))))))) (cE (.int 2)))) aNil))) ((seqS (appS 2 ((op2 getD ((telV (propV "Mail" Mail_boxes_F ((telV (methV none 1 "Mail" "led" Mail_led_F [] (vE 1) (aCons ((tupE (aCons ((tupE (aCons (cE (.str "answer")) (aCons (cE (.int 0)) (aCons (cE (.int 0)) (aCons (cE (.str "bob")) (aCons (cE (.str "zed")) aNil))))))) (aCons ((tupE (aCons (cE (.str "answer")) (aCons (cE (.int 1)) (aCons (cE (.int 1)) (aCons (cE (.str "zed")) (aCons (cE (.str "zed")) aNil))))))) aNil)))) aNil))))))) (cE (.int 2))))) ((seqS (ifS ((tstE (op2 neD (vE 2) ((lstE (aCons ((tupE aNil)) (aCons ((tupE aNil)) aNil))))))) (retS (cE (.bl false))) (nxS)) (retS ((opN (one allD) (aCons ((telV (compV [3] (rng1 (aCons ((opN (two maxD) (aCons (cE (.int 2)) (aCons ((opN (two minD) (aCons ((opN (one lenD) (aCons (vE 0) aNil))) (aCons (cE (.int 8)) aNil)))) aNil)))) aNil)) (bName 3) (trueT) ((law_8_x1))))) aNil)))))))))))
def law_8_F : DFn := runF none 4 law_8_b
def _law_right_9_x1 : EF := (op2 addD (vE 10) ((telV (propV "Book" Book_begun_F (vE 8)))))
def _law_right_9_b : SF := (seqS (parS [1, 2, 3] (vCons (callV (some 0) 2 _law_first_F [] (aCons (vE 0) (aCons (cE (.int 3)) aNil))) (vCons (callV (some 0) 2 _law_first_F [] (aCons (vE 0) (aCons (cE (.int 3)) aNil))) (vCons (callV (some 0) 3 _law_answers_F [] (aCons (vE 0) (aCons (cE (.int 0)) (aCons (cE (.int 4)) aNil)))) vNil)))) ((seqS (asgV 4 (lstN (aCons (cE (.str "ann")) (aCons (cE (.str "bob")) (aCons (cE (.str "zed")) (aCons ((telV (callV (some 0) 1 _law_called_F [] (aCons (vE 0) aNil)))) aNil)))))) ((seqS (asgB (bSeq 2 (bCons (bName 5) (bCons (bName 6) bNil))) ((telV (callV (some 0) 5 _law_led_F [] (aCons (vE 0) (aCons ((telV (callV none 4 _law_done_F [] (aCons (vE 1) (aCons (cE (.str "ann")) (aCons (cE (.str "bob")) (aCons ((tupE aNil)) aNil))))))) (aCons (vE 3) (aCons (vE 4) (aCons (cE (.int 16)) aNil))))))))) ((seqS (asgB (bSeq 2 (bCons (bName 7) (bCons (bName 8) bNil))) ((tupE (aCons ((telV (methV none 1 "Mail" "led" Mail_led_F [] ((telV (makeV 1 Mail___init___F "Mail" [] (aCons ((telV (makeV 2 Book___init___F "Book" [] (aCons (vE 1) (aCons (vE 3) aNil))))) aNil)))) (aCons ((opN (one tupD) (aCons (vE 5) aNil))) aNil)))) (aCons ((telV (makeV 2 Book___init___F "Book" [] (aCons (vE 2) (aCons (vE 3) aNil))))) aNil))))) ((seqS (asgV 9 (methV none 1 "Mail" "led" Mail_led_F [] ((telV (makeV 1 Mail___init___F "Mail" [] (aCons ((telV (makeV 2 Book___init___F "Book" [] (aCons ((op2 addD ((op2 addD (vE 2) (cE (.str "; ")))) (vE 1))) (aCons (vE 3) aNil))))) aNil)))) (aCons ((opN (one tupD) (aCons (vE 5) aNil))) aNil))) ((seqS (ifS ((orT ((tstE (op2 neD ((telV (propV "Mail" Mail_boxes_F (vE 9)))) ((opN (one tupD) (aCons ((telV (compV [10] (anyI ((telV (propV "Mail" Mail_boxes_F (vE 7))))) (bName 10) (trueT) ((_law_right_9_x1))))) aNil)))))) ((tstE (op2 neD ((opN (one lenD) (aCons ((telV (propV "Mail" Mail_boxes_F (vE 9)))) aNil))) ((op2 addD ((opN (one lenD) (aCons (vE 5) aNil))) (cE (.int 1))))))))) (retS (cE (.bl false))) (nxS)) ((seqS (ifS ((tstE (op2 neD ((telV (propV "Book" Book_begun_F ((telV (propV "Mail" Mail_book_F (vE 9))))))) ((op2 addD ((telV (propV "Book" Book_begun_F ((telV (propV "Mail" Mail_book_F (vE 7))))))) ((telV (propV "Book" Book_begun_F (vE 8))))))))) (retS (cE (.bl false))) (nxS)) ((seqS (ifS ((tstE (op2 neD ((telV (propV "Book" Book_begun_F ((telV (propV "Mail" Mail_book_F (vE 9))))))) ((telV (callV none 4 behind_F [] (aCons (vE 1) (aCons (cE (.str "ann")) (aCons (cE (.str "bob")) (aCons ((telV (propV "Book" Book_begun_F (vE 8)))) aNil)))))))))) (retS (cE (.bl false))) (nxS)) (retS ((op2 eqD ((op2 eqD ((telV (propV "Mail" Mail_boxes_F (vE 9)))) ((telV (propV "Mail" Mail_boxes_F (vE 7)))))) ((op2 eqD ((telV (propV "Book" Book_begun_F (vE 8)))) ((tupE aNil))))))))))))))))))))))
def _law_right_9_F : DFn := runF (some 0) 11 _law_right_9_b
def law_9_x1 : EF := (telV (call1V (some 0) _law_right_9_F [] (callV none 2 _law_stock_F [] (aCons (vE 0) (aCons (vE 2) aNil)))))
def law_9_b : SF := (seqS (asgV 1 (makeV 1 Mail___init___F "Mail" [] (aCons ((telV (makeV 2 Book___init___F "Book" [] (aCons (cE (.str "tag you; lock me; tag me")) (aCons ((tupE (aCons (cE (.str "unlock me")) aNil))) aNil))))) aNil))) ((seqS (asgV 1 (methV none 1 "Mail" "after" Mail_after_F [] ((telV (methV none 1 "Mail" "after" Mail_after_F [] (vE 1) (aCons ((tupE (aCons (cE (.str "untag")) (aCons (cE (.int 0)) aNil)))) aNil)))) (aCons ((tupE (aCons (cE (.str "answer")) (aCons (cE (.int 1)) (aCons (cE (.int 0)) (aCons (cE (.str "ann")) (aCons (cE (.str "x")) aNil))))))) aNil))) ((seqS (ifS ((tstE (op2 neD ((slE ((telV (propV "Mail" Mail_boxes_F (vE 1)))) (oSome (cE (.int 1))) oNo)) ((tupE (aCons ((tupE (aCons ((tupE (aCons (cE (.str "lock")) (aCons (cE (.str "ann")) aNil)))) (aCons ((tupE (aCons (cE (.str "tag")) (aCons (cE (.str "bob")) aNil)))) aNil)))) (aCons ((tupE (aCons ((tupE (aCons (cE (.str "tag")) (aCons (cE (.str "bob")) aNil)))) aNil))) aNil))))))) (retS (cE (.bl false))) (nxS)) (retS ((opN (one allD) (aCons ((telV (compV [2] (rng1 (aCons ((opN (two maxD) (aCons (cE (.int 2)) (aCons ((opN (two minD) (aCons ((opN (one lenD) (aCons (vE 0) aNil))) (aCons (cE (.int 8)) aNil)))) aNil)))) aNil)) (bName 2) (trueT) ((law_9_x1))))) aNil)))))))))
def law_9_F : DFn := runF none 3 law_9_b
end PF
/-! walk -/
set_option Elab.async false
set_option linter.all false
set_option maxRecDepth 100000
set_option maxHeartbeats 8000000
namespace K14
open PySem PySem.Spec PyProof.Rows L2 FL
def top (i : Nat) : Stmt := PySem.Challenge.pw_boxthieves_k14_answers_exchanged.main.body.getD i (.Pass ⟨0, 0, 0, 0⟩)
def d_deeds_of : He.DefD := ⟨("deeds_of", none), "deeds_of", "deeds_of", defArgs (top 17), defBody (top 17), defScope (top 17), [], []⟩
def d_is_row : He.DefD := ⟨("is_row", none), "is_row", "is_row", defArgs (top 15), defBody (top 15), defScope (top 15), [], []⟩
def d_check_answers : He.DefD := ⟨("check_answers", none), "check_answers", "check_answers", defArgs (top 27), defBody (top 27), defScope (top 27), [], []⟩
def d_behind_deed : He.DefD := ⟨("behind_deed", none), "behind_deed", "behind_deed", defArgs (top 18), defBody (top 18), defScope (top 18), [], []⟩
def d_done : He.DefD := ⟨("done", none), "done", "done", defArgs (top 19), defBody (top 19), defScope (top 19), [], []⟩
def d_box_begun : He.DefD := ⟨("box_begun", none), "box_begun", "box_begun", defArgs (top 26), defBody (top 26), defScope (top 26), [], []⟩
def d_Book___init__ : He.DefD := ⟨("Book", some "__init__"), "__init__", "Book.__init__", defArgs (inClass (top 29) 0), defBody (inClass (top 29) 0), defScope (inClass (top 29) 0), [.adr (He.dflAt ("Book", some "__init__") 0)], []⟩
def d_check_row : He.DefD := ⟨("check_row", none), "check_row", "check_row", defArgs (top 16), defBody (top 16), defScope (top 16), [], []⟩
def d_is_integer : He.DefD := ⟨("is_integer", none), "is_integer", "is_integer", defArgs (top 10), defBody (top 10), defScope (top 10), [], []⟩
def d_is_between : He.DefD := ⟨("is_between", none), "is_between", "is_between", defArgs (top 11), defBody (top 11), defScope (top 11), [], []⟩
def d_Book_changed : He.DefD := ⟨("Book", some "changed"), "changed", "Book.changed", defArgs (inClass (top 29) 6), defBody (inClass (top 29) 6), defScope (inClass (top 29) 6), [], []⟩
def d_Book___eq__ : He.DefD := ⟨("Book", some "__eq__"), "__eq__", "Book.__eq__", defArgs (inClass (top 29) 7), defBody (inClass (top 29) 7), defScope (inClass (top 29) 7), [], []⟩
def d_Book___repr__ : He.DefD := ⟨("Book", some "__repr__"), "__repr__", "Book.__repr__", defArgs (inClass (top 29) 9), defBody (inClass (top 29) 9), defScope (inClass (top 29) 9), [], []⟩
def d_Book___str__ : He.DefD := ⟨("Book", some "__str__"), "__str__", "Book.__str__", defArgs (inClass (top 29) 8), defBody (inClass (top 29) 8), defScope (inClass (top 29) 8), [], []⟩
def d_Book_begun : He.DefD := ⟨("", none), "begun", "Book.begun", defArgs (inClass (top 29) 4), defBody (inClass (top 29) 4), defScope (inClass (top 29) 4), [], []⟩
def x_Book_begun : DefX := ⟨fun K => (gtAd K "Book" "begun"), d_Book_begun⟩
def d_Book_answers : He.DefD := ⟨("", none), "answers", "Book.answers", defArgs (inClass (top 29) 3), defBody (inClass (top 29) 3), defScope (inClass (top 29) 3), [], []⟩
def x_Book_answers : DefX := ⟨fun K => (gtAd K "Book" "answers"), d_Book_answers⟩
def d_Book_first : He.DefD := ⟨("", none), "first", "Book.first", defArgs (inClass (top 29) 2), defBody (inClass (top 29) 2), defScope (inClass (top 29) 2), [], []⟩
def x_Book_first : DefX := ⟨fun K => (gtAd K "Book" "first"), d_Book_first⟩
def d__law_shown : He.DefD := ⟨("_law_shown", none), "_law_shown", "_law_shown", defArgs (top 41), defBody (top 41), defScope (top 41), [], []⟩
def d__law_text : He.DefD := ⟨("_law_text", none), "_law_text", "_law_text", defArgs (top 40), defBody (top 40), defScope (top 40), [], []⟩
def d__law_by_deed : He.DefD := ⟨("_law_by_deed", none), "_law_by_deed", "_law_by_deed", defArgs (top 33), defBody (top 33), defScope (top 33), [], []⟩
def d__law_done : He.DefD := ⟨("_law_done", none), "_law_done", "_law_done", defArgs (top 34), defBody (top 34), defScope (top 34), [], []⟩
def d__law_owed : He.DefD := ⟨("_law_owed", none), "_law_owed", "_law_owed", defArgs (top 42), defBody (top 42), defScope (top 42), [], []⟩
def d__law_take : He.DefD := ⟨("_law_take", none), "_law_take", "_law_take", defArgs (top 32), defBody (top 32), defScope (top 32), [], []⟩
def d__law_some_deed : He.DefD := ⟨("_law_some_deed", none), "_law_some_deed", "_law_some_deed", defArgs (top 36), defBody (top 36), defScope (top 36), [], []⟩
def d__law_row : He.DefD := ⟨("_law_row", none), "_law_row", "_law_row", defArgs (top 37), defBody (top 37), defScope (top 37), [], []⟩
def d__law_boxed : He.DefD := ⟨("_law_boxed", none), "_law_boxed", "_law_boxed", defArgs (top 35), defBody (top 35), defScope (top 35), [], []⟩
def d__law_answers : He.DefD := ⟨("_law_answers", none), "_law_answers", "_law_answers", defArgs (top 39), defBody (top 39), defScope (top 39), [], []⟩
def d__law_first : He.DefD := ⟨("_law_first", none), "_law_first", "_law_first", defArgs (top 38), defBody (top 38), defScope (top 38), [], []⟩
def d__law_right : He.DefD := ⟨("_law_right", none), "_law_right", "_law_right", defArgs (top 43), defBody (top 43), defScope (top 43), [], []⟩
def d__law_stock : He.DefD := ⟨("_law_stock", none), "_law_stock", "_law_stock", defArgs (top 31), defBody (top 31), defScope (top 31), [], []⟩
def d_law : He.DefD := ⟨("law", none), "law", "law", defArgs (top 44), defBody (top 44), defScope (top 44), [], []⟩
def fas_0 : List He.Fa := [.glo "deeds_of", .glo "is_row", .glo "check_answers", .glo "behind_deed", .glo "done", .glo "box_begun", .glo "check_row", .glo "is_integer", .glo "is_between", .glo "_law_shown", .glo "_law_text", .glo "_law_by_deed", .glo "_law_done", .glo "_law_owed", .glo "_law_take", .glo "_law_some_deed", .glo "_law_row", .glo "_law_boxed", .glo "_law_answers", .glo "_law_first", .glo "_law_right", .glo "_law_stock", .glo "law", .free "abs", .free "all", .free "bool", .free "divmod", .free "enumerate", .free "int", .free "isinstance"]
def fas_1 : List He.Fa := [.free "len", .free "max", .free "min", .free "range", .free "repr", .free "str", .free "tuple", .cls "Book", .noat "Book" "deeds", .noat "Book" "first_box", .noat "Book" "answer_rows", .noat "Book" "first_row", .mkr "Book", .glo "Book", .meth "Book" "changed", .meth "Book" "__eq__", .noat "Book" "__bool__", .noat "Book" "__len__", .meth "Book" "__repr__", .meth "Book" "__str__"]
def fas : List He.Fa := fas_0 ++ fas_1
def fns_0 : List He.DefD := [d_deeds_of, d_is_row, d_check_answers, d_behind_deed, d_done, d_box_begun, d_Book___init__, d_check_row, d_is_integer, d_is_between, d_Book_changed, d_Book___eq__, d_Book___repr__, d_Book___str__, d__law_shown, d__law_text, d__law_by_deed, d__law_done, d__law_owed, d__law_take, d__law_some_deed, d__law_row, d__law_boxed, d__law_answers, d__law_first, d__law_right, d__law_stock, d_law]
def fns : List He.DefD := fns_0
def dxs_0 : List DefX := [x_Book_begun, x_Book_answers, x_Book_first]
def dxs : List DefX := dxs_0
def cons : List (Str × D) := [("ANSWER", PF.c_ANSWER), ("BETWEEN", PF.c_BETWEEN), ("DEEDS", PF.c_DEEDS), ("FIRST", PF.c_FIRST), ("LETTER", PF.c_LETTER), ("MOST_ANSWERS", PF.c_MOST_ANSWERS), ("MOST_DEEDS", PF.c_MOST_DEEDS), ("READER", PF.c_READER), ("WRITER", PF.c_WRITER)]
def exl : List (Frg → Bool) := [fun K => isCB K ["Book"] "Book", fun K => nfB K ["Book"] "Book", fun K => He.eqO (PySem.W.findIn K (.ref (He.ga K "Book")) "__ne__") (some (some (.builtin "object.__ne__"))), fun K => ownB K "Book", fun K => propB K "Book" "begun", fun K => propB K "Book" "answers", fun K => propB K "Book" "first"]
def ex (K : Frg) : Bool := (cons.all fun p => cstB K p.1 p.2) && exl.all fun f => f K
structure TX (K : Frg) (mg : Str → Option Value) : Prop where
  t : Ty fas fns ex dxs K mg
section
variable {P : Program} {w : World} {K : Frg} {mg : Str → Option Value} {base : Heap}
theorem TX.exs (T : TX K mg) {i : Nat} {f : Frg → Bool} (h : exl[i]? = some f) : f K = true := List.all_eq_true.mp (He.ba (show ((cons.all fun p => cstB K p.1 p.2) && exl.all fun f => f K) = true from T.t.t.e)).2 f (List.mem_of_getElem? h)
theorem TX.cl_Book (T : TX K mg) : Cls K (He.ga K "Book") := He.cls_ok (T.t.t.c.fact 37 rfl)
theorem TX.na_Book_deeds (T : TX K mg) : NoAttr K (He.ga K "Book") "deeds" := He.noat_ok (T.t.t.c.fact 38 rfl)
theorem TX.na_Book_first_box (T : TX K mg) : NoAttr K (He.ga K "Book") "first_box" := He.noat_ok (T.t.t.c.fact 39 rfl)
theorem TX.na_Book_answer_rows (T : TX K mg) : NoAttr K (He.ga K "Book") "answer_rows" := He.noat_ok (T.t.t.c.fact 40 rfl)
theorem TX.na_Book_first_row (T : TX K mg) : NoAttr K (He.ga K "Book") "first_row" := He.noat_ok (T.t.t.c.fact 41 rfl)
theorem TX.mk_Book (T : TX K mg) : Mk K (He.ga K "Book") (He.ma K (He.ga K "Book") "__init__") := He.mkr_ok (T.t.t.c.fact 42 rfl)
theorem TX.gc_Book (T : TX K mg) : mg "Book" = some (.ref (He.ga K "Book")) := T.t.t.glo 43 rfl
theorem TX.mt_Book_changed (T : TX K mg) : Meth K (He.ga K "Book") "changed" (He.ma K (He.ga K "Book") "changed") := He.meth_ok (T.t.t.c.fact 44 rfl)
theorem TX.isc_Book (T : TX K mg) : isCB K ["Book"] "Book" = true := (T.exs (i := 0) rfl)
theorem TX.mt_Book___eq__ (T : TX K mg) : Meth K (He.ga K "Book") "__eq__" (He.ma K (He.ga K "Book") "__eq__") := He.meth_ok (T.t.t.c.fact 45 rfl)
theorem TX.nf_Book (T : TX K mg) : nfB K ["Book"] "Book" = true := (T.exs (i := 1) rfl)
theorem TX.ne_Book (T : TX K mg) : PySem.W.findIn K (.ref (He.ga K "Book")) "__ne__" = some (some (.builtin "object.__ne__")) := He.eqO_ok (T.exs (i := 2) rfl)
theorem TX.oc_Book (T : TX K mg) : OwnC K "Book" := ownB_ok (T.exs (i := 3) rfl)
theorem TX.na_Book___bool__ (T : TX K mg) : NoAttr K (He.ga K "Book") "__bool__" := He.noat_ok (T.t.t.c.fact 46 rfl)
theorem TX.na_Book___len__ (T : TX K mg) : NoAttr K (He.ga K "Book") "__len__" := He.noat_ok (T.t.t.c.fact 47 rfl)
theorem TX.mt_Book___repr__ (T : TX K mg) : Meth K (He.ga K "Book") "__repr__" (He.ma K (He.ga K "Book") "__repr__") := He.meth_ok (T.t.t.c.fact 48 rfl)
theorem TX.mt_Book___str__ (T : TX K mg) : Meth K (He.ga K "Book") "__str__" (He.ma K (He.ga K "Book") "__str__") := He.meth_ok (T.t.t.c.fact 49 rfl)
theorem TX.pr_Book_begun (T : TX K mg) : PropOf K (He.ga K "Book") "begun" (prAd K "Book" "begun") (gtAd K "Book" "begun") := propB_ok (T.exs (i := 4) rfl)
theorem TX.pr_Book_answers (T : TX K mg) : PropOf K (He.ga K "Book") "answers" (prAd K "Book" "answers") (gtAd K "Book" "answers") := propB_ok (T.exs (i := 5) rfl)
theorem TX.pr_Book_first (T : TX K mg) : PropOf K (He.ga K "Book") "first" (prAd K "Book" "first") (gtAd K "Book" "first") := propB_ok (T.exs (i := 6) rfl)
theorem TX.b_abs (T : TX K mg) : mg "abs" = none := T.t.t.free 23 rfl
theorem TX.b_all (T : TX K mg) : mg "all" = none := T.t.t.free 24 rfl
theorem TX.b_bool (T : TX K mg) : mg "bool" = none := T.t.t.free 25 rfl
theorem TX.b_divmod (T : TX K mg) : mg "divmod" = none := T.t.t.free 26 rfl
theorem TX.b_enumerate (T : TX K mg) : mg "enumerate" = none := T.t.t.free 27 rfl
theorem TX.b_int (T : TX K mg) : mg "int" = none := T.t.t.free 28 rfl
theorem TX.b_isinstance (T : TX K mg) : mg "isinstance" = none := T.t.t.free 29 rfl
theorem TX.b_len (T : TX K mg) : mg "len" = none := T.t.t.free 30 rfl
theorem TX.b_max (T : TX K mg) : mg "max" = none := T.t.t.free 31 rfl
theorem TX.b_min (T : TX K mg) : mg "min" = none := T.t.t.free 32 rfl
theorem TX.b_range (T : TX K mg) : mg "range" = none := T.t.t.free 33 rfl
theorem TX.b_repr (T : TX K mg) : mg "repr" = none := T.t.t.free 34 rfl
theorem TX.b_str (T : TX K mg) : mg "str" = none := T.t.t.free 35 rfl
theorem TX.b_tuple (T : TX K mg) : mg "tuple" = none := T.t.t.free 36 rfl
theorem TX.c_ANSWER (T : TX K mg) : ∃ (v : V) (u : Value), mg "ANSWER" = some u ∧ RelV v u ∧ ∀ G, Rep K G PF.c_ANSWER v := T.t.t.con (List.all_eq_true.mp (He.ba (show ((cons.all fun p => cstB K p.1 p.2) && exl.all fun f => f K) = true from T.t.t.e)).1 ("ANSWER", PF.c_ANSWER) (List.mem_of_getElem? (i := 0) rfl))
theorem TX.c_BETWEEN (T : TX K mg) : ∃ (v : V) (u : Value), mg "BETWEEN" = some u ∧ RelV v u ∧ ∀ G, Rep K G PF.c_BETWEEN v := T.t.t.con (List.all_eq_true.mp (He.ba (show ((cons.all fun p => cstB K p.1 p.2) && exl.all fun f => f K) = true from T.t.t.e)).1 ("BETWEEN", PF.c_BETWEEN) (List.mem_of_getElem? (i := 1) rfl))
theorem TX.c_DEEDS (T : TX K mg) : ∃ (v : V) (u : Value), mg "DEEDS" = some u ∧ RelV v u ∧ ∀ G, Rep K G PF.c_DEEDS v := T.t.t.con (List.all_eq_true.mp (He.ba (show ((cons.all fun p => cstB K p.1 p.2) && exl.all fun f => f K) = true from T.t.t.e)).1 ("DEEDS", PF.c_DEEDS) (List.mem_of_getElem? (i := 2) rfl))
theorem TX.c_FIRST (T : TX K mg) : ∃ (v : V) (u : Value), mg "FIRST" = some u ∧ RelV v u ∧ ∀ G, Rep K G PF.c_FIRST v := T.t.t.con (List.all_eq_true.mp (He.ba (show ((cons.all fun p => cstB K p.1 p.2) && exl.all fun f => f K) = true from T.t.t.e)).1 ("FIRST", PF.c_FIRST) (List.mem_of_getElem? (i := 3) rfl))
theorem TX.c_LETTER (T : TX K mg) : ∃ (v : V) (u : Value), mg "LETTER" = some u ∧ RelV v u ∧ ∀ G, Rep K G PF.c_LETTER v := T.t.t.con (List.all_eq_true.mp (He.ba (show ((cons.all fun p => cstB K p.1 p.2) && exl.all fun f => f K) = true from T.t.t.e)).1 ("LETTER", PF.c_LETTER) (List.mem_of_getElem? (i := 4) rfl))
theorem TX.c_MOST_ANSWERS (T : TX K mg) : ∃ (v : V) (u : Value), mg "MOST_ANSWERS" = some u ∧ RelV v u ∧ ∀ G, Rep K G PF.c_MOST_ANSWERS v := T.t.t.con (List.all_eq_true.mp (He.ba (show ((cons.all fun p => cstB K p.1 p.2) && exl.all fun f => f K) = true from T.t.t.e)).1 ("MOST_ANSWERS", PF.c_MOST_ANSWERS) (List.mem_of_getElem? (i := 5) rfl))
theorem TX.c_MOST_DEEDS (T : TX K mg) : ∃ (v : V) (u : Value), mg "MOST_DEEDS" = some u ∧ RelV v u ∧ ∀ G, Rep K G PF.c_MOST_DEEDS v := T.t.t.con (List.all_eq_true.mp (He.ba (show ((cons.all fun p => cstB K p.1 p.2) && exl.all fun f => f K) = true from T.t.t.e)).1 ("MOST_DEEDS", PF.c_MOST_DEEDS) (List.mem_of_getElem? (i := 6) rfl))
theorem TX.c_READER (T : TX K mg) : ∃ (v : V) (u : Value), mg "READER" = some u ∧ RelV v u ∧ ∀ G, Rep K G PF.c_READER v := T.t.t.con (List.all_eq_true.mp (He.ba (show ((cons.all fun p => cstB K p.1 p.2) && exl.all fun f => f K) = true from T.t.t.e)).1 ("READER", PF.c_READER) (List.mem_of_getElem? (i := 7) rfl))
theorem TX.c_WRITER (T : TX K mg) : ∃ (v : V) (u : Value), mg "WRITER" = some u ∧ RelV v u ∧ ∀ G, Rep K G PF.c_WRITER v := T.t.t.con (List.all_eq_true.mp (He.ba (show ((cons.all fun p => cstB K p.1 p.2) && exl.all fun f => f K) = true from T.t.t.e)).1 ("WRITER", PF.c_WRITER) (List.mem_of_getElem? (i := 8) rfl))
theorem TX.f_deeds_of (T : TX K mg) : FunD K "deeds_of" "deeds_of" (defArgs (top 17)) (defBody (top 17)) (defScope (top 17)) [] [] (He.ga K "deeds_of") (fdOf K (He.ga K "deeds_of")) := T.t.t.fund 0 (d := d_deeds_of) rfl
theorem TX.g_deeds_of (T : TX K mg) : mg "deeds_of" = some (.ref (He.ga K "deeds_of")) := T.t.t.glo 0 rfl
theorem TX.k_deeds_of (T : TX K mg) : PySem.W.keepIn K (.ref (He.ga K "deeds_of")) = true := T.f_deeds_of.kp
theorem TX.bd_deeds_of (T : TX K mg) : Binds K (fdOf K (He.ga K "deeds_of")) ["row"] [] := FunD.bindsN T.f_deeds_of fun _ _ _ _ _ _ us hl => match us, hl with | [_], _ => rfl
theorem sc_deeds_of : FnScope ["row", "word"] ["row"] (defScope (top 17)) := ⟨rfl, rfl, rfl, by decide +kernel, rfl, by decide +kernel, by decide +kernel⟩
theorem TX.w_deeds_of (T : TX K mg) : FnG P w K mg base (L2.CX P w) 1 (He.ga K "deeds_of") (fdOf K (He.ga K "deeds_of")) ["row"] (spL K ["row"] none PF.deeds_of_F) :=
  fn_F (N := ["row", "word"]) (k := 0) (b := none) (bd := PF.deeds_of_b) T.f_deeds_of sc_deeds_of fun cdv A outer s H E hr hg tk hp =>
    (fb_one (fs_retV (fv_lc (own := [("word", 1)]) rfl sc_deeds_of.nd (fi_any (fe_split (fe_var (i := 0) rfl (by first | exact .inl rfl | exact .inr (.inl rfl) | exact .inr (.inr rfl))) (fe_glob (T.c_BETWEEN)))) (blk_of rfl) (by decide) (fun s1 H1 C1 cl fp => (fg_name (i := 1) sc_deeds_of.nd rfl (by first | exact .inl rfl | exact .inr rfl))) (fun s1 H1 C1 cl fp => fts_nil) (fun s1 H1 C1 cl fp => (fe_tupC (T.b_tuple) (fe_split (fe_var (i := 1) rfl (by first | exact .inl rfl | exact .inr (.inl rfl) | exact .inr (.inr rfl))) fe_str))))))
theorem TX.f_is_row (T : TX K mg) : FunD K "is_row" "is_row" (defArgs (top 15)) (defBody (top 15)) (defScope (top 15)) [] [] (He.ga K "is_row") (fdOf K (He.ga K "is_row")) := T.t.t.fund 1 (d := d_is_row) rfl
theorem TX.g_is_row (T : TX K mg) : mg "is_row" = some (.ref (He.ga K "is_row")) := T.t.t.glo 1 rfl
theorem TX.k_is_row (T : TX K mg) : PySem.W.keepIn K (.ref (He.ga K "is_row")) = true := T.f_is_row.kp
theorem TX.bd_is_row (T : TX K mg) : Binds K (fdOf K (He.ga K "is_row")) ["value"] [] := FunD.bindsN T.f_is_row fun _ _ _ _ _ _ us hl => match us, hl with | [_], _ => rfl
theorem sc_is_row : FnScope ["value", "words", "word"] ["value"] (defScope (top 15)) := ⟨rfl, rfl, rfl, by decide +kernel, rfl, by decide +kernel, by decide +kernel⟩
theorem TX.w_is_row (T : TX K mg) : FnG P w K mg base (L2.CX P w) 1 (He.ga K "is_row") (fdOf K (He.ga K "is_row")) ["value"] (spL K ["value"] none PF.is_row_F) :=
  fn_F (N := ["value", "words", "word"]) (k := 0) (b := none) (bd := PF.is_row_b) T.f_is_row sc_is_row fun cdv A outer s H E hr hg tk hp =>
    (fb_cons (fs_if (ft_not (ft_val (fe_isi (T.b_isinstance) (isB_ok "str") (fc_ty (T.b_str) (by decide +kernel)) (fe_var (i := 0) rfl (by first | exact .inl rfl | exact .inr (.inl rfl) | exact .inr (.inr rfl)))))) (fb_one (fs_ret fe_bl)) fb_nil) (fb_cons (fs_asg (i := 1) (fv_e (fe_split (fe_var (i := 0) rfl (by first | exact .inl rfl | exact .inr (.inl rfl) | exact .inr (.inr rfl))) (fe_glob (T.c_BETWEEN)))) sc_is_row.nd rfl (by first | exact .inl rfl | exact .inr rfl)) (fb_one (fs_ret (fe_and (fe_le (fe_len (T.b_len) (fe_var (i := 1) rfl (by first | exact .inl rfl | exact .inr (.inl rfl) | exact .inr (.inr rfl)))) (fe_glob (T.c_MOST_DEEDS))) (fe_one (fe_all rfl (T.b_all) (fe_of (fv_lc (own := [("word", 2)]) rfl sc_is_row.nd (fi_any (fe_var (i := 1) rfl (by first | exact .inl rfl | exact .inr (.inl rfl) | exact .inr (.inr rfl)))) (blk_of rfl) (by decide) (fun s1 H1 C1 cl fp => (fg_name (i := 2) sc_is_row.nd rfl (by first | exact .inl rfl | exact .inr rfl))) (fun s1 H1 C1 cl fp => fts_nil) (fun s1 H1 C1 cl fp => (fe_in (Room.u65 hr) (fe_var (i := 2) rfl (by first | exact .inl rfl | exact .inr (.inl rfl) | exact .inr (.inr rfl))) (fe_glob (T.c_DEEDS)))))))))))))
theorem TX.f_check_answers (T : TX K mg) : FunD K "check_answers" "check_answers" (defArgs (top 27)) (defBody (top 27)) (defScope (top 27)) [] [] (He.ga K "check_answers") (fdOf K (He.ga K "check_answers")) := T.t.t.fund 2 (d := d_check_answers) rfl
theorem TX.g_check_answers (T : TX K mg) : mg "check_answers" = some (.ref (He.ga K "check_answers")) := T.t.t.glo 2 rfl
theorem TX.k_check_answers (T : TX K mg) : PySem.W.keepIn K (.ref (He.ga K "check_answers")) = true := T.f_check_answers.kp
theorem TX.bd_check_answers (T : TX K mg) : Binds K (fdOf K (He.ga K "check_answers")) ["answers"] [] := FunD.bindsN T.f_check_answers fun _ _ _ _ _ _ us hl => match us, hl with | [_], _ => rfl
theorem sc_check_answers : FnScope ["answers", "index", "row"] ["answers"] (defScope (top 27)) := ⟨rfl, rfl, rfl, by decide +kernel, rfl, by decide +kernel, by decide +kernel⟩
theorem TX.w_check_answers (T : TX K mg) : FnG P w K mg base (L2.CX P w) 2 (He.ga K "check_answers") (fdOf K (He.ga K "check_answers")) ["answers"] (spL K ["answers"] none PF.check_answers_F) :=
  fn_F (N := ["answers", "index", "row"]) (k := 1) (b := none) (bd := PF.check_answers_b) T.f_check_answers sc_check_answers fun cdv A outer s H E hr hg tk hp =>
    (fb_cons (fs_if (ft_not (ft_val (fe_isi (T.b_isinstance) (isB_ok "tuple") (fc_ty (T.b_tuple) (by decide +kernel)) (fe_var (i := 0) rfl (by first | exact .inl rfl | exact .inr (.inl rfl) | exact .inr (.inr rfl)))))) (fb_one fs_never) fb_nil) (fb_one (fs_for rfl hp (fi_enum (T.b_enumerate) (fe_var (i := 0) rfl (by first | exact .inl rfl | exact .inr (.inl rfl) | exact .inr (.inr rfl)))) (fg_seq rfl (fgs_cons (fg_name (i := 1) sc_check_answers.nd rfl (by first | exact .inl rfl | exact .inr rfl)) (fgs_cons (fg_name (i := 2) sc_check_answers.nd rfl (by first | exact .inl rfl | exact .inr rfl)) fgs_nil))) (fb_one (fs_if (ft_of (fw_or (ft_eq hr.units (fe_var (i := 1) rfl (by first | exact .inl rfl | exact .inr (.inl rfl) | exact .inr (.inr rfl))) (fe_glob (T.c_MOST_ANSWERS))) (fw_or1 (ft_not (ft_val (fe_of (fv_call T.w_is_row (T.g_is_row) T.k_is_row T.bd_is_row .nil (fun _ => Reps.nil) (hr.mono (by decide)) hg tk rfl (fa_cons (fe_var (i := 2) rfl (by first | exact .inl rfl | exact .inr (.inl rfl) | exact .inr (.inr rfl))) fa_nil)))))))) (fb_one fs_never) fb_nil)))))
theorem TX.f_behind_deed (T : TX K mg) : FunD K "behind_deed" "behind_deed" (defArgs (top 18)) (defBody (top 18)) (defScope (top 18)) [] [] (He.ga K "behind_deed") (fdOf K (He.ga K "behind_deed")) := T.t.t.fund 3 (d := d_behind_deed) rfl
theorem TX.g_behind_deed (T : TX K mg) : mg "behind_deed" = some (.ref (He.ga K "behind_deed")) := T.t.t.glo 3 rfl
theorem TX.k_behind_deed (T : TX K mg) : PySem.W.keepIn K (.ref (He.ga K "behind_deed")) = true := T.f_behind_deed.kp
theorem TX.bd_behind_deed (T : TX K mg) : Binds K (fdOf K (He.ga K "behind_deed")) ["deed", "me", "you", "box"] [] := FunD.bindsN T.f_behind_deed fun _ _ _ _ _ _ us hl => match us, hl with | [_, _, _, _], _ => rfl
theorem sc_behind_deed : FnScope ["deed", "me", "you", "box", "verb", "whom", "name", "kind", "owner"] ["deed", "me", "you", "box"] (defScope (top 18)) := ⟨rfl, rfl, rfl, by decide +kernel, rfl, by decide +kernel, by decide +kernel⟩
theorem TX.w_behind_deed (T : TX K mg) : FnG P w K mg base (L2.CX P w) 1 (He.ga K "behind_deed") (fdOf K (He.ga K "behind_deed")) ["deed", "me", "you", "box"] (spL K ["deed", "me", "you", "box"] none PF.behind_deed_F) :=
  fn_F (N := ["deed", "me", "you", "box", "verb", "whom", "name", "kind", "owner"]) (k := 0) (b := none) (bd := PF.behind_deed_b) T.f_behind_deed sc_behind_deed fun cdv A outer s H E hr hg tk hp =>
    (fb_cons (fs_asgB (fe_var (i := 0) rfl (by first | exact .inl rfl | exact .inr (.inl rfl) | exact .inr (.inr rfl))) (fg_seq rfl (fgs_cons (fg_name (i := 4) sc_behind_deed.nd rfl (by first | exact .inl rfl | exact .inr rfl)) (fgs_cons (fg_name (i := 5) sc_behind_deed.nd rfl (by first | exact .inl rfl | exact .inr rfl)) fgs_nil)))) (fb_cons (fs_asg (i := 6) (fv_e (fe_if (ft_eq hr.units (fe_var (i := 5) rfl (by first | exact .inl rfl | exact .inr (.inl rfl) | exact .inr (.inr rfl))) fe_str) (fe_var (i := 2) rfl (by first | exact .inl rfl | exact .inr (.inl rfl) | exact .inr (.inr rfl))) (fe_var (i := 1) rfl (by first | exact .inl rfl | exact .inr (.inl rfl) | exact .inr (.inr rfl))))) sc_behind_deed.nd rfl (by first | exact .inl rfl | exact .inr rfl)) (fb_cons (fs_if (ft_in (Room.u65 hr) (fe_var (i := 4) rfl (by first | exact .inl rfl | exact .inr (.inl rfl) | exact .inr (.inr rfl))) (fe_tup (fa_cons fe_str (fa_cons fe_str fa_nil)))) (fb_one (fs_ret (fe_tup (fa_cons (fe_tup (fa_cons (fe_var (i := 4) rfl (by first | exact .inl rfl | exact .inr (.inl rfl) | exact .inr (.inr rfl))) (fa_cons (fe_var (i := 6) rfl (by first | exact .inl rfl | exact .inr (.inl rfl) | exact .inr (.inr rfl))) fa_nil))) (fa_star (fe_var (i := 3) rfl (by first | exact .inl rfl | exact .inr (.inl rfl) | exact .inr (.inr rfl))) fa_nil))))) fb_nil) (fb_cons (fs_if (ft_eq hr.units (fe_var (i := 3) rfl (by first | exact .inl rfl | exact .inr (.inl rfl) | exact .inr (.inr rfl))) (fe_tup fa_nil)) (fb_one (fs_ret fe_non)) fb_nil) (fb_cons (fs_asgB (fe_ix (fe_var (i := 3) rfl (by first | exact .inl rfl | exact .inr (.inl rfl) | exact .inr (.inr rfl))) fe_int) (fg_seq rfl (fgs_cons (fg_name (i := 7) sc_behind_deed.nd rfl (by first | exact .inl rfl | exact .inr rfl)) (fgs_cons (fg_name (i := 8) sc_behind_deed.nd rfl (by first | exact .inl rfl | exact .inr rfl)) fgs_nil)))) (fb_cons (fs_if (ft_of (fw_or (ft_ne hr.units (fe_var (i := 4) rfl (by first | exact .inl rfl | exact .inr (.inl rfl) | exact .inr (.inr rfl))) (fe_add fe_str (fe_var (i := 7) rfl (by first | exact .inl rfl | exact .inr (.inl rfl) | exact .inr (.inr rfl))))) (fw_or1 (ft_of (fw_and (ft_ne hr.units (fe_var (i := 5) rfl (by first | exact .inl rfl | exact .inr (.inl rfl) | exact .inr (.inr rfl))) fe_str) (fw_and1 (ft_ne hr.units (fe_var (i := 8) rfl (by first | exact .inl rfl | exact .inr (.inl rfl) | exact .inr (.inr rfl))) (fe_var (i := 6) rfl (by first | exact .inl rfl | exact .inr (.inl rfl) | exact .inr (.inr rfl)))))))))) (fb_one (fs_ret fe_non)) fb_nil) (fb_one (fs_ret (fe_sl (fe_var (i := 3) rfl (by first | exact .inl rfl | exact .inr (.inl rfl) | exact .inr (.inr rfl))) (fo_some fe_int) fo_no)))))))))
theorem TX.f_done (T : TX K mg) : FunD K "done" "done" (defArgs (top 19)) (defBody (top 19)) (defScope (top 19)) [] [] (He.ga K "done") (fdOf K (He.ga K "done")) := T.t.t.fund 4 (d := d_done) rfl
theorem TX.g_done (T : TX K mg) : mg "done" = some (.ref (He.ga K "done")) := T.t.t.glo 4 rfl
theorem TX.k_done (T : TX K mg) : PySem.W.keepIn K (.ref (He.ga K "done")) = true := T.f_done.kp
theorem TX.bd_done (T : TX K mg) : Binds K (fdOf K (He.ga K "done")) ["deeds", "me", "you", "box"] [] := FunD.bindsN T.f_done fun _ _ _ _ _ _ us hl => match us, hl with | [_, _, _, _], _ => rfl
theorem sc_done : FnScope ["deeds", "me", "you", "box", "deed"] ["deeds", "me", "you", "box"] (defScope (top 19)) := ⟨rfl, rfl, rfl, by decide +kernel, rfl, by decide +kernel, by decide +kernel⟩
theorem TX.w_done (T : TX K mg) : FnG P w K mg base (L2.CX P w) 2 (He.ga K "done") (fdOf K (He.ga K "done")) ["deeds", "me", "you", "box"] (spL K ["deeds", "me", "you", "box"] none PF.done_F) :=
  fn_F (N := ["deeds", "me", "you", "box", "deed"]) (k := 1) (b := none) (bd := PF.done_b) T.f_done sc_done fun cdv A outer s H E hr hg tk hp =>
    (fb_cons (fs_for rfl hp (fi_any (fe_var (i := 0) rfl (by first | exact .inl rfl | exact .inr (.inl rfl) | exact .inr (.inr rfl)))) (fg_name (i := 4) sc_done.nd rfl (by first | exact .inl rfl | exact .inr rfl)) (fb_cons (fs_asg (i := 3) (fv_call T.w_behind_deed (T.g_behind_deed) T.k_behind_deed T.bd_behind_deed .nil (fun _ => Reps.nil) (hr.mono (by decide)) hg tk rfl (fa_cons (fe_var (i := 4) rfl (by first | exact .inl rfl | exact .inr (.inl rfl) | exact .inr (.inr rfl))) (fa_cons (fe_var (i := 1) rfl (by first | exact .inl rfl | exact .inr (.inl rfl) | exact .inr (.inr rfl))) (fa_cons (fe_var (i := 2) rfl (by first | exact .inl rfl | exact .inr (.inl rfl) | exact .inr (.inr rfl))) (fa_cons (fe_var (i := 3) rfl (by first | exact .inl rfl | exact .inr (.inl rfl) | exact .inr (.inr rfl))) fa_nil))))) sc_done.nd rfl (by first | exact .inl rfl | exact .inr rfl)) (fb_one (fs_if (ft_isN (fe_var (i := 3) rfl (by first | exact .inl rfl | exact .inr (.inl rfl) | exact .inr (.inr rfl)))) (fb_one (fs_ret fe_non)) fb_nil)))) (fb_one (fs_retV (fv_giv (fe_var (i := 3) rfl (by first | exact .inl rfl | exact .inr (.inl rfl) | exact .inr (.inr rfl)))))))
theorem TX.f_box_begun (T : TX K mg) : FunD K "box_begun" "box_begun" (defArgs (top 26)) (defBody (top 26)) (defScope (top 26)) [] [] (He.ga K "box_begun") (fdOf K (He.ga K "box_begun")) := T.t.t.fund 5 (d := d_box_begun) rfl
theorem TX.g_box_begun (T : TX K mg) : mg "box_begun" = some (.ref (He.ga K "box_begun")) := T.t.t.glo 5 rfl
theorem TX.k_box_begun (T : TX K mg) : PySem.W.keepIn K (.ref (He.ga K "box_begun")) = true := T.f_box_begun.kp
theorem TX.bd_box_begun (T : TX K mg) : Binds K (fdOf K (He.ga K "box_begun")) ["first"] [] := FunD.bindsN T.f_box_begun fun _ _ _ _ _ _ us hl => match us, hl with | [_], _ => rfl
theorem sc_box_begun : FnScope ["first"] ["first"] (defScope (top 26)) := ⟨rfl, rfl, rfl, by decide +kernel, rfl, by decide +kernel, by decide +kernel⟩
theorem TX.w_box_begun (T : TX K mg) : FnG P w K mg base (L2.CX P w) 3 (He.ga K "box_begun") (fdOf K (He.ga K "box_begun")) ["first"] (spL K ["first"] none PF.box_begun_F) :=
  fn_F (N := ["first"]) (k := 2) (b := none) (bd := PF.box_begun_b) T.f_box_begun sc_box_begun fun cdv A outer s H E hr hg tk hp =>
    (fb_one (fs_ret (fe_if (ft_val (fe_of (fv_call T.w_is_row (T.g_is_row) T.k_is_row T.bd_is_row .nil (fun _ => Reps.nil) (hr.mono (by decide)) hg tk rfl (fa_cons (fe_var (i := 0) rfl (by first | exact .inl rfl | exact .inr (.inl rfl) | exact .inr (.inr rfl))) fa_nil)))) (fe_of (fv_call T.w_done (T.g_done) T.k_done T.bd_done .nil (fun _ => Reps.nil) (hr.mono (by decide)) hg tk rfl (fa_cons (fe_of (fv_call T.w_deeds_of (T.g_deeds_of) T.k_deeds_of T.bd_deeds_of .nil (fun _ => Reps.nil) (hr.mono (by decide)) hg tk rfl (fa_cons (fe_var (i := 0) rfl (by first | exact .inl rfl | exact .inr (.inl rfl) | exact .inr (.inr rfl))) fa_nil))) (fa_cons (fe_glob (T.c_WRITER)) (fa_cons (fe_glob (T.c_READER)) (fa_cons (fe_glob (T.c_LETTER)) fa_nil)))))) fe_non)))
theorem TX.f_Book___init__ (T : TX K mg) : FunD K "__init__" "Book.__init__" (defArgs (inClass (top 29) 0)) (defBody (inClass (top 29) 0)) (defScope (inClass (top 29) 0)) [V.ref (He.dflAt ("Book", some "__init__") 0 K)] [] (He.ma K (He.ga K "Book") "__init__") (fdOf K (He.ma K (He.ga K "Book") "__init__")) := T.t.t.fund 6 (d := d_Book___init__) rfl
theorem TX.k_Book___init__ (T : TX K mg) : PySem.W.keepIn K (.ref (He.ma K (He.ga K "Book") "__init__")) = true := T.f_Book___init__.kp
theorem TX.bd_Book___init___3 (T : TX K mg) : ∃ ds, Vals [] ds ∧ Binds K (fdOf K (He.ma K (He.ga K "Book") "__init__")) ["self", "first", "answers"] ds := FunD.binds1 T.f_Book___init__ 3 1 (by simp) rfl fun _ _ _ _ _ _ _ us its h1 h2 => match us, its, h1, h2 with | [_, _, _], [_], _, _ => ⟨_, rfl, rfl⟩
theorem sc_Book___init__ : FnScope ["self", "first", "answers", "begun", "row"] ["self", "first", "answers"] (defScope (inClass (top 29) 0)) := ⟨rfl, rfl, rfl, by decide +kernel, rfl, by decide +kernel, by decide +kernel⟩
theorem TX.w_Book___init__ (T : TX K mg) : FnG P w K mg base (L2.CX P w) 4 (He.ma K (He.ga K "Book") "__init__") (fdOf K (He.ma K (He.ga K "Book") "__init__")) ["self", "first", "answers"] (spL K ["self", "first", "answers"] (some 0) PF.Book___init___F) :=
  fn_F (N := ["self", "first", "answers", "begun", "row"]) (k := 3) (b := (some 0)) (bd := PF.Book___init___b) T.f_Book___init__ sc_Book___init__ fun cdv A outer s H E hr hg tk hp =>
    (fb_cons (fs_asg (i := 3) (fv_call T.w_box_begun (T.g_box_begun) T.k_box_begun T.bd_box_begun .nil (fun _ => Reps.nil) (hr.mono (by decide)) hg tk rfl (fa_cons (fe_var (i := 1) rfl (by first | exact .inl rfl | exact .inr (.inl rfl) | exact .inr (.inr rfl))) fa_nil)) sc_Book___init__.nd rfl (by first | exact .inl rfl | exact .inr rfl)) (fb_cons (fs_if (ft_isN (fe_var (i := 3) rfl (by first | exact .inl rfl | exact .inr (.inl rfl) | exact .inr (.inr rfl)))) (fb_one fs_never) fb_nil) (fb_cons (fs_expr (fe_of (fv_call T.w_check_answers (T.g_check_answers) T.k_check_answers T.bd_check_answers .nil (fun _ => Reps.nil) (hr.mono (by decide)) hg tk rfl (fa_cons (fe_var (i := 2) rfl (by first | exact .inl rfl | exact .inr (.inl rfl) | exact .inr (.inr rfl))) fa_nil)))) (fb_cons (fs_setf (i := 0) T.cl_Book T.na_Book_first_row rfl (by first | exact .inl rfl | exact .inr (.inl rfl) | exact .inr (.inr rfl)) (fe_var (i := 1) rfl (by first | exact .inl rfl | exact .inr (.inl rfl) | exact .inr (.inr rfl)))) (fb_cons (fs_setf (i := 0) T.cl_Book T.na_Book_answer_rows rfl (by first | exact .inl rfl | exact .inr (.inl rfl) | exact .inr (.inr rfl)) (fe_var (i := 2) rfl (by first | exact .inl rfl | exact .inr (.inl rfl) | exact .inr (.inr rfl)))) (fb_cons (fs_setf (i := 0) T.cl_Book T.na_Book_first_box rfl (by first | exact .inl rfl | exact .inr (.inl rfl) | exact .inr (.inr rfl)) (fe_var (i := 3) rfl (by first | exact .inl rfl | exact .inr (.inl rfl) | exact .inr (.inr rfl)))) (fb_one (fs_setf (i := 0) T.cl_Book T.na_Book_deeds rfl (by first | exact .inl rfl | exact .inr (.inl rfl) | exact .inr (.inr rfl)) (fe_of (fv_lc (own := [("row", 4)]) rfl sc_Book___init__.nd (fi_any (fe_var (i := 2) rfl (by first | exact .inl rfl | exact .inr (.inl rfl) | exact .inr (.inr rfl)))) (blk_of rfl) (by decide) (fun s1 H1 C1 cl fp => (fg_name (i := 4) sc_Book___init__.nd rfl (by first | exact .inl rfl | exact .inr rfl))) (fun s1 H1 C1 cl fp => fts_nil) (fun s1 H1 C1 cl fp => (fe_of (fv_call T.w_deeds_of (T.g_deeds_of) T.k_deeds_of T.bd_deeds_of .nil (fun _ => Reps.nil) (hr.mono (by decide)) hg takes_noW rfl (fa_cons (fe_var (i := 4) rfl (by first | exact .inl rfl | exact .inr (.inl rfl) | exact .inr (.inr rfl))) fa_nil))))))))))))))
theorem TX.f_check_row (T : TX K mg) : FunD K "check_row" "check_row" (defArgs (top 16)) (defBody (top 16)) (defScope (top 16)) [] [] (He.ga K "check_row") (fdOf K (He.ga K "check_row")) := T.t.t.fund 7 (d := d_check_row) rfl
theorem TX.g_check_row (T : TX K mg) : mg "check_row" = some (.ref (He.ga K "check_row")) := T.t.t.glo 6 rfl
theorem TX.k_check_row (T : TX K mg) : PySem.W.keepIn K (.ref (He.ga K "check_row")) = true := T.f_check_row.kp
theorem TX.bd_check_row (T : TX K mg) : Binds K (fdOf K (He.ga K "check_row")) ["row"] [] := FunD.bindsN T.f_check_row fun _ _ _ _ _ _ us hl => match us, hl with | [_], _ => rfl
theorem sc_check_row : FnScope ["row"] ["row"] (defScope (top 16)) := ⟨rfl, rfl, rfl, by decide +kernel, rfl, by decide +kernel, by decide +kernel⟩
theorem TX.w_check_row (T : TX K mg) : FnG P w K mg base (L2.CX P w) 2 (He.ga K "check_row") (fdOf K (He.ga K "check_row")) ["row"] (spL K ["row"] none PF.check_row_F) :=
  fn_F (N := ["row"]) (k := 1) (b := none) (bd := PF.check_row_b) T.f_check_row sc_check_row fun cdv A outer s H E hr hg tk hp =>
    (fb_one (fs_if (ft_not (ft_val (fe_of (fv_call T.w_is_row (T.g_is_row) T.k_is_row T.bd_is_row .nil (fun _ => Reps.nil) (hr.mono (by decide)) hg tk rfl (fa_cons (fe_var (i := 0) rfl (by first | exact .inl rfl | exact .inr (.inl rfl) | exact .inr (.inr rfl))) fa_nil))))) (fb_one fs_never) fb_nil))
theorem TX.f_is_integer (T : TX K mg) : FunD K "is_integer" "is_integer" (defArgs (top 10)) (defBody (top 10)) (defScope (top 10)) [] [] (He.ga K "is_integer") (fdOf K (He.ga K "is_integer")) := T.t.t.fund 8 (d := d_is_integer) rfl
theorem TX.g_is_integer (T : TX K mg) : mg "is_integer" = some (.ref (He.ga K "is_integer")) := T.t.t.glo 7 rfl
theorem TX.k_is_integer (T : TX K mg) : PySem.W.keepIn K (.ref (He.ga K "is_integer")) = true := T.f_is_integer.kp
theorem TX.bd_is_integer (T : TX K mg) : Binds K (fdOf K (He.ga K "is_integer")) ["value"] [] := FunD.bindsN T.f_is_integer fun _ _ _ _ _ _ us hl => match us, hl with | [_], _ => rfl
theorem sc_is_integer : FnScope ["value"] ["value"] (defScope (top 10)) := ⟨rfl, rfl, rfl, by decide +kernel, rfl, by decide +kernel, by decide +kernel⟩
theorem TX.w_is_integer (T : TX K mg) : FnG P w K mg base (L2.CX P w) 1 (He.ga K "is_integer") (fdOf K (He.ga K "is_integer")) ["value"] (spL K ["value"] none PF.is_integer_F) :=
  fn_F (N := ["value"]) (k := 0) (b := none) (bd := PF.is_integer_b) T.f_is_integer sc_is_integer fun cdv A outer s H E hr hg tk hp =>
    (fb_one (fs_ret (fe_and (fe_isi (T.b_isinstance) (isB_ok "int") (fc_ty (T.b_int) (by decide +kernel)) (fe_var (i := 0) rfl (by first | exact .inl rfl | exact .inr (.inl rfl) | exact .inr (.inr rfl)))) (fe_one (fe_not (fe_isi (T.b_isinstance) (isB_ok "bool") (fc_ty (T.b_bool) (by decide +kernel)) (fe_var (i := 0) rfl (by first | exact .inl rfl | exact .inr (.inl rfl) | exact .inr (.inr rfl)))))))))
theorem TX.f_is_between (T : TX K mg) : FunD K "is_between" "is_between" (defArgs (top 11)) (defBody (top 11)) (defScope (top 11)) [] [] (He.ga K "is_between") (fdOf K (He.ga K "is_between")) := T.t.t.fund 9 (d := d_is_between) rfl
theorem TX.g_is_between (T : TX K mg) : mg "is_between" = some (.ref (He.ga K "is_between")) := T.t.t.glo 8 rfl
theorem TX.k_is_between (T : TX K mg) : PySem.W.keepIn K (.ref (He.ga K "is_between")) = true := T.f_is_between.kp
theorem TX.bd_is_between (T : TX K mg) : Binds K (fdOf K (He.ga K "is_between")) ["value", "least", "most"] [] := FunD.bindsN T.f_is_between fun _ _ _ _ _ _ us hl => match us, hl with | [_, _, _], _ => rfl
theorem sc_is_between : FnScope ["value", "least", "most"] ["value", "least", "most"] (defScope (top 11)) := ⟨rfl, rfl, rfl, by decide +kernel, rfl, by decide +kernel, by decide +kernel⟩
theorem TX.w_is_between (T : TX K mg) : FnG P w K mg base (L2.CX P w) 2 (He.ga K "is_between") (fdOf K (He.ga K "is_between")) ["value", "least", "most"] (spL K ["value", "least", "most"] none PF.is_between_F) :=
  fn_F (N := ["value", "least", "most"]) (k := 1) (b := none) (bd := PF.is_between_b) T.f_is_between sc_is_between fun cdv A outer s H E hr hg tk hp =>
    (fb_one (fs_ret (fe_and (fe_of (fv_call T.w_is_integer (T.g_is_integer) T.k_is_integer T.bd_is_integer .nil (fun _ => Reps.nil) (hr.mono (by decide)) hg tk rfl (fa_cons (fe_var (i := 0) rfl (by first | exact .inl rfl | exact .inr (.inl rfl) | exact .inr (.inr rfl))) fa_nil))) (fe_one (fe_chn op_le op_le le0 le0 (fe_var (i := 1) rfl (by first | exact .inl rfl | exact .inr (.inl rfl) | exact .inr (.inr rfl))) (fe_var (i := 0) rfl (by first | exact .inl rfl | exact .inr (.inl rfl) | exact .inr (.inr rfl))) (fe_var (i := 2) rfl (by first | exact .inl rfl | exact .inr (.inl rfl) | exact .inr (.inr rfl))))))))
theorem TX.f_Book_changed (T : TX K mg) : FunD K "changed" "Book.changed" (defArgs (inClass (top 29) 6)) (defBody (inClass (top 29) 6)) (defScope (inClass (top 29) 6)) [] [] (He.ma K (He.ga K "Book") "changed") (fdOf K (He.ma K (He.ga K "Book") "changed")) := T.t.t.fund 10 (d := d_Book_changed) rfl
theorem TX.k_Book_changed (T : TX K mg) : PySem.W.keepIn K (.ref (He.ma K (He.ga K "Book") "changed")) = true := T.f_Book_changed.kp
theorem TX.bd_Book_changed (T : TX K mg) : Binds K (fdOf K (He.ma K (He.ga K "Book") "changed")) ["self", "index", "row"] [] := FunD.bindsN T.f_Book_changed fun _ _ _ _ _ _ us hl => match us, hl with | [_, _, _], _ => rfl
theorem TX.kb_Book_changed_1_row_index (T : TX K mg) : KB K (fdOf K (He.ma K (He.ga K "Book") "changed")) ["self", "index", "row"] 1 ["row", "index"] [0, 2, 1] [] := kb_of T.f_Book_changed fun _ _ _ _ _ _ us ws h1 h2 => match us, ws, h1, h2 with | [_], [_, _], _, _ => rfl
theorem sc_Book_changed : FnScope ["self", "index", "row"] ["self", "index", "row"] (defScope (inClass (top 29) 6)) := ⟨rfl, rfl, rfl, by decide +kernel, rfl, by decide +kernel, by decide +kernel⟩
theorem TX.w_Book_changed (T : TX K mg) : FnG P w K mg base (L2.CX P w) 6 (He.ma K (He.ga K "Book") "changed") (fdOf K (He.ma K (He.ga K "Book") "changed")) ["self", "index", "row"] (spL K ["self", "index", "row"] none PF.Book_changed_F) :=
  fn_F (N := ["self", "index", "row"]) (k := 5) (b := none) (bd := PF.Book_changed_b) T.f_Book_changed sc_Book_changed fun cdv A outer s H E hr hg tk hp =>
    (fb_cons (fs_if (ft_not (ft_val (fe_of (fv_call T.w_is_between (T.g_is_between) T.k_is_between T.bd_is_between .nil (fun _ => Reps.nil) (hr.mono (by decide)) hg tk rfl (fa_cons (fe_var (i := 1) rfl (by first | exact .inl rfl | exact .inr (.inl rfl) | exact .inr (.inr rfl))) (fa_cons fe_int (fa_cons (fe_sub (fe_len (T.b_len) (fe_fld T.cl_Book T.na_Book_answer_rows (fe_var (i := 0) rfl (by first | exact .inl rfl | exact .inr (.inl rfl) | exact .inr (.inr rfl))))) fe_int) fa_nil))))))) (fb_one fs_never) fb_nil) (fb_cons (fs_expr (fe_of (fv_call T.w_check_row (T.g_check_row) T.k_check_row T.bd_check_row .nil (fun _ => Reps.nil) (hr.mono (by decide)) hg tk rfl (fa_cons (fe_var (i := 2) rfl (by first | exact .inl rfl | exact .inr (.inl rfl) | exact .inr (.inr rfl))) fa_nil)))) (fb_one (fs_retV (fv_make T.mk_Book T.w_Book___init__ T.gc_Book (T.bd_Book___init___3).choose_spec.2 (T.bd_Book___init___3).choose_spec.1 (fun _ => Reps.nil) (hr.mono (by decide)) hg tk rfl (fa_cons (fe_fld T.cl_Book T.na_Book_first_row (fe_var (i := 0) rfl (by first | exact .inl rfl | exact .inr (.inl rfl) | exact .inr (.inr rfl)))) (fa_cons (fe_tup (fa_star (fe_sl (fe_fld T.cl_Book T.na_Book_answer_rows (fe_var (i := 0) rfl (by first | exact .inl rfl | exact .inr (.inl rfl) | exact .inr (.inr rfl)))) fo_no (fo_some (fe_var (i := 1) rfl (by first | exact .inl rfl | exact .inr (.inl rfl) | exact .inr (.inr rfl))))) (fa_cons (fe_var (i := 2) rfl (by first | exact .inl rfl | exact .inr (.inl rfl) | exact .inr (.inr rfl))) (fa_star (fe_sl (fe_fld T.cl_Book T.na_Book_answer_rows (fe_var (i := 0) rfl (by first | exact .inl rfl | exact .inr (.inl rfl) | exact .inr (.inr rfl)))) (fo_some (fe_add (fe_var (i := 1) rfl (by first | exact .inl rfl | exact .inr (.inl rfl) | exact .inr (.inr rfl))) fe_int)) fo_no) fa_nil)))) fa_nil)))))))
theorem TX.f_Book___eq__ (T : TX K mg) : FunD K "__eq__" "Book.__eq__" (defArgs (inClass (top 29) 7)) (defBody (inClass (top 29) 7)) (defScope (inClass (top 29) 7)) [] [] (He.ma K (He.ga K "Book") "__eq__") (fdOf K (He.ma K (He.ga K "Book") "__eq__")) := T.t.t.fund 11 (d := d_Book___eq__) rfl
theorem TX.k_Book___eq__ (T : TX K mg) : PySem.W.keepIn K (.ref (He.ma K (He.ga K "Book") "__eq__")) = true := T.f_Book___eq__.kp
theorem TX.bd_Book___eq__ (T : TX K mg) : Binds K (fdOf K (He.ma K (He.ga K "Book") "__eq__")) ["self", "other"] [] := FunD.bindsN T.f_Book___eq__ fun _ _ _ _ _ _ us hl => match us, hl with | [_, _], _ => rfl
theorem sc_Book___eq__ : FnScope ["self", "other"] ["self", "other"] (defScope (inClass (top 29) 7)) := ⟨rfl, rfl, rfl, by decide +kernel, rfl, by decide +kernel, by decide +kernel⟩
theorem TX.w_Book___eq__ (T : TX K mg) : FnG P w K mg base (L2.CX P w) 1 (He.ma K (He.ga K "Book") "__eq__") (fdOf K (He.ma K (He.ga K "Book") "__eq__")) ["self", "other"] (spL K ["self", "other"] none PF.Book___eq___F) :=
  fn_F (N := ["self", "other"]) (k := 0) (b := none) (bd := PF.Book___eq___b) T.f_Book___eq__ sc_Book___eq__ fun cdv A outer s H E hr hg tk hp =>
    (fb_one (fs_ret (fe_and (fe_isi (T.b_isinstance) (isC_ok T.isc_Book) (fc_own T.gc_Book) (fe_var (i := 1) rfl (by first | exact .inl rfl | exact .inr (.inl rfl) | exact .inr (.inr rfl)))) (fe_and (fe_eq hr.units (fe_fld T.cl_Book T.na_Book_first_row (fe_var (i := 0) rfl (by first | exact .inl rfl | exact .inr (.inl rfl) | exact .inr (.inr rfl)))) (fe_fld T.cl_Book T.na_Book_first_row (fe_var (i := 1) rfl (by first | exact .inl rfl | exact .inr (.inl rfl) | exact .inr (.inr rfl))))) (fe_one (fe_eq hr.units (fe_fld T.cl_Book T.na_Book_answer_rows (fe_var (i := 0) rfl (by first | exact .inl rfl | exact .inr (.inl rfl) | exact .inr (.inr rfl)))) (fe_fld T.cl_Book T.na_Book_answer_rows (fe_var (i := 1) rfl (by first | exact .inl rfl | exact .inr (.inl rfl) | exact .inr (.inr rfl))))))))))
theorem TX.f_Book___repr__ (T : TX K mg) : FunD K "__repr__" "Book.__repr__" (defArgs (inClass (top 29) 9)) (defBody (inClass (top 29) 9)) (defScope (inClass (top 29) 9)) [] [] (He.ma K (He.ga K "Book") "__repr__") (fdOf K (He.ma K (He.ga K "Book") "__repr__")) := T.t.t.fund 12 (d := d_Book___repr__) rfl
theorem TX.k_Book___repr__ (T : TX K mg) : PySem.W.keepIn K (.ref (He.ma K (He.ga K "Book") "__repr__")) = true := T.f_Book___repr__.kp
theorem TX.bd_Book___repr__ (T : TX K mg) : Binds K (fdOf K (He.ma K (He.ga K "Book") "__repr__")) ["self"] [] := FunD.bindsN T.f_Book___repr__ fun _ _ _ _ _ _ us hl => match us, hl with | [_], _ => rfl
theorem sc_Book___repr__ : FnScope ["self"] ["self"] (defScope (inClass (top 29) 9)) := ⟨rfl, rfl, rfl, by decide +kernel, rfl, by decide +kernel, by decide +kernel⟩
theorem TX.w_Book___repr__ (T : TX K mg) : FnG P w K mg base (L2.CX P w) 1 (He.ma K (He.ga K "Book") "__repr__") (fdOf K (He.ma K (He.ga K "Book") "__repr__")) ["self"] (spL K ["self"] none PF.Book___repr___F) :=
  fn_F (N := ["self"]) (k := 0) (b := none) (bd := PF.Book___repr___b) T.f_Book___repr__ sc_Book___repr__ fun cdv A outer s H E hr hg tk hp =>
    (fb_one (fs_ret (fe_joined (.cons fe_str (.cons (fe_fmt (fe_len (T.b_len) (fe_fld T.cl_Book T.na_Book_answer_rows (fe_var (i := 0) rfl (by first | exact .inl rfl | exact .inr (.inl rfl) | exact .inr (.inr rfl)))))) (.cons fe_str .nil))))))
theorem TX.f_Book___str__ (T : TX K mg) : FunD K "__str__" "Book.__str__" (defArgs (inClass (top 29) 8)) (defBody (inClass (top 29) 8)) (defScope (inClass (top 29) 8)) [] [] (He.ma K (He.ga K "Book") "__str__") (fdOf K (He.ma K (He.ga K "Book") "__str__")) := T.t.t.fund 13 (d := d_Book___str__) rfl
theorem TX.k_Book___str__ (T : TX K mg) : PySem.W.keepIn K (.ref (He.ma K (He.ga K "Book") "__str__")) = true := T.f_Book___str__.kp
theorem TX.bd_Book___str__ (T : TX K mg) : Binds K (fdOf K (He.ma K (He.ga K "Book") "__str__")) ["self"] [] := FunD.bindsN T.f_Book___str__ fun _ _ _ _ _ _ us hl => match us, hl with | [_], _ => rfl
theorem sc_Book___str__ : FnScope ["self", "row"] ["self"] (defScope (inClass (top 29) 8)) := ⟨rfl, rfl, rfl, by decide +kernel, rfl, by decide +kernel, by decide +kernel⟩
theorem TX.w_Book___str__ (T : TX K mg) : FnG P w K mg base (L2.CX P w) 1 (He.ma K (He.ga K "Book") "__str__") (fdOf K (He.ma K (He.ga K "Book") "__str__")) ["self"] (spL K ["self"] none PF.Book___str___F) :=
  fn_F (N := ["self", "row"]) (k := 0) (b := none) (bd := PF.Book___str___b) T.f_Book___str__ sc_Book___str__ fun cdv A outer s H E hr hg tk hp =>
    (fb_one (fs_ret (fe_join fe_str (fe_add (fe_lst (fa_cons (fe_add (fe_glob (T.c_FIRST)) (fe_fld T.cl_Book T.na_Book_first_row (fe_var (i := 0) rfl (by first | exact .inl rfl | exact .inr (.inl rfl) | exact .inr (.inr rfl))))) fa_nil)) (fe_of (fv_lc (own := [("row", 1)]) rfl sc_Book___str__.nd (fi_any (fe_fld T.cl_Book T.na_Book_answer_rows (fe_var (i := 0) rfl (by first | exact .inl rfl | exact .inr (.inl rfl) | exact .inr (.inr rfl))))) (blk_of rfl) (by decide) (fun s1 H1 C1 cl fp => (fg_name (i := 1) sc_Book___str__.nd rfl (by first | exact .inl rfl | exact .inr rfl))) (fun s1 H1 C1 cl fp => fts_nil) (fun s1 H1 C1 cl fp => (fe_add (fe_glob (T.c_ANSWER)) (fe_var (i := 1) rfl (by first | exact .inl rfl | exact .inr (.inl rfl) | exact .inr (.inr rfl)))))))))))
theorem TX.f_Book_begun (T : TX K mg) : FunD K "begun" "Book.begun" (defArgs (inClass (top 29) 4)) (defBody (inClass (top 29) 4)) (defScope (inClass (top 29) 4)) [] [] (gtAd K "Book" "begun") (fdOf K (gtAd K "Book" "begun")) := T.t.funx 0 (x := x_Book_begun) rfl
theorem TX.k_Book_begun (T : TX K mg) : PySem.W.keepIn K (.ref (gtAd K "Book" "begun")) = true := T.f_Book_begun.kp
theorem TX.bd_Book_begun (T : TX K mg) : Binds K (fdOf K (gtAd K "Book" "begun")) ["self"] [] := FunD.bindsN T.f_Book_begun fun _ _ _ _ _ _ us hl => match us, hl with | [_], _ => rfl
theorem sc_Book_begun : FnScope ["self"] ["self"] (defScope (inClass (top 29) 4)) := ⟨rfl, rfl, rfl, by decide +kernel, rfl, by decide +kernel, by decide +kernel⟩
theorem TX.w_Book_begun (T : TX K mg) : FnG P w K mg base (L2.CX P w) 1 (gtAd K "Book" "begun") (fdOf K (gtAd K "Book" "begun")) ["self"] (spL K ["self"] none PF.Book_begun_F) :=
  fn_F (N := ["self"]) (k := 0) (b := none) (bd := PF.Book_begun_b) T.f_Book_begun sc_Book_begun fun cdv A outer s H E hr hg tk hp =>
    (fb_one (fs_ret (fe_fld T.cl_Book T.na_Book_first_box (fe_var (i := 0) rfl (by first | exact .inl rfl | exact .inr (.inl rfl) | exact .inr (.inr rfl))))))
theorem TX.f_Book_answers (T : TX K mg) : FunD K "answers" "Book.answers" (defArgs (inClass (top 29) 3)) (defBody (inClass (top 29) 3)) (defScope (inClass (top 29) 3)) [] [] (gtAd K "Book" "answers") (fdOf K (gtAd K "Book" "answers")) := T.t.funx 1 (x := x_Book_answers) rfl
theorem TX.k_Book_answers (T : TX K mg) : PySem.W.keepIn K (.ref (gtAd K "Book" "answers")) = true := T.f_Book_answers.kp
theorem TX.bd_Book_answers (T : TX K mg) : Binds K (fdOf K (gtAd K "Book" "answers")) ["self"] [] := FunD.bindsN T.f_Book_answers fun _ _ _ _ _ _ us hl => match us, hl with | [_], _ => rfl
theorem sc_Book_answers : FnScope ["self"] ["self"] (defScope (inClass (top 29) 3)) := ⟨rfl, rfl, rfl, by decide +kernel, rfl, by decide +kernel, by decide +kernel⟩
theorem TX.w_Book_answers (T : TX K mg) : FnG P w K mg base (L2.CX P w) 1 (gtAd K "Book" "answers") (fdOf K (gtAd K "Book" "answers")) ["self"] (spL K ["self"] none PF.Book_answers_F) :=
  fn_F (N := ["self"]) (k := 0) (b := none) (bd := PF.Book_answers_b) T.f_Book_answers sc_Book_answers fun cdv A outer s H E hr hg tk hp =>
    (fb_one (fs_ret (fe_fld T.cl_Book T.na_Book_answer_rows (fe_var (i := 0) rfl (by first | exact .inl rfl | exact .inr (.inl rfl) | exact .inr (.inr rfl))))))
theorem TX.f_Book_first (T : TX K mg) : FunD K "first" "Book.first" (defArgs (inClass (top 29) 2)) (defBody (inClass (top 29) 2)) (defScope (inClass (top 29) 2)) [] [] (gtAd K "Book" "first") (fdOf K (gtAd K "Book" "first")) := T.t.funx 2 (x := x_Book_first) rfl
theorem TX.k_Book_first (T : TX K mg) : PySem.W.keepIn K (.ref (gtAd K "Book" "first")) = true := T.f_Book_first.kp
theorem TX.bd_Book_first (T : TX K mg) : Binds K (fdOf K (gtAd K "Book" "first")) ["self"] [] := FunD.bindsN T.f_Book_first fun _ _ _ _ _ _ us hl => match us, hl with | [_], _ => rfl
theorem sc_Book_first : FnScope ["self"] ["self"] (defScope (inClass (top 29) 2)) := ⟨rfl, rfl, rfl, by decide +kernel, rfl, by decide +kernel, by decide +kernel⟩
theorem TX.w_Book_first (T : TX K mg) : FnG P w K mg base (L2.CX P w) 1 (gtAd K "Book" "first") (fdOf K (gtAd K "Book" "first")) ["self"] (spL K ["self"] none PF.Book_first_F) :=
  fn_F (N := ["self"]) (k := 0) (b := none) (bd := PF.Book_first_b) T.f_Book_first sc_Book_first fun cdv A outer s H E hr hg tk hp =>
    (fb_one (fs_ret (fe_fld T.cl_Book T.na_Book_first_row (fe_var (i := 0) rfl (by first | exact .inl rfl | exact .inr (.inl rfl) | exact .inr (.inr rfl))))))
theorem TX.f__law_shown (T : TX K mg) : FunD K "_law_shown" "_law_shown" (defArgs (top 41)) (defBody (top 41)) (defScope (top 41)) [] [] (He.ga K "_law_shown") (fdOf K (He.ga K "_law_shown")) := T.t.t.fund 14 (d := d__law_shown) rfl
theorem TX.g__law_shown (T : TX K mg) : mg "_law_shown" = some (.ref (He.ga K "_law_shown")) := T.t.t.glo 9 rfl
theorem TX.k__law_shown (T : TX K mg) : PySem.W.keepIn K (.ref (He.ga K "_law_shown")) = true := T.f__law_shown.kp
theorem TX.bd__law_shown (T : TX K mg) : Binds K (fdOf K (He.ga K "_law_shown")) ["_law_volume"] [] := FunD.bindsN T.f__law_shown fun _ _ _ _ _ _ us hl => match us, hl with | [_], _ => rfl
theorem sc__law_shown : FnScope ["_law_volume"] ["_law_volume"] (defScope (top 41)) := ⟨rfl, rfl, rfl, by decide +kernel, rfl, by decide +kernel, by decide +kernel⟩
theorem TX.w__law_shown (T : TX K mg) : FnG P w K mg base (L2.CX P w) 4 (He.ga K "_law_shown") (fdOf K (He.ga K "_law_shown")) ["_law_volume"] (spL K ["_law_volume"] none PF._law_shown_F) :=
  fn_F (N := ["_law_volume"]) (k := 3) (b := none) (bd := PF._law_shown_b) T.f__law_shown sc__law_shown fun cdv A outer s H E hr hg tk hp =>
    (fb_one (fs_ret (fe_repr hg (Room.u65 hr) (T.b_repr) (fe_lst (fa_cons (fe_of (fv_prop T.cl_Book T.pr_Book_first T.w_Book_first T.bd_Book_first (hr.mono (by decide)) hg rfl (fe_var (i := 0) rfl (by first | exact .inl rfl | exact .inr (.inl rfl) | exact .inr (.inr rfl))))) (fa_cons (fe_of (fv_prop T.cl_Book T.pr_Book_answers T.w_Book_answers T.bd_Book_answers (hr.mono (by decide)) hg rfl (fe_var (i := 0) rfl (by first | exact .inl rfl | exact .inr (.inl rfl) | exact .inr (.inr rfl))))) (fa_cons (fe_of (fv_prop T.cl_Book T.pr_Book_begun T.w_Book_begun T.bd_Book_begun (hr.mono (by decide)) hg rfl (fe_var (i := 0) rfl (by first | exact .inl rfl | exact .inr (.inl rfl) | exact .inr (.inr rfl))))) (fa_cons (fe_strI T.mt_Book___str__.at_ T.mt_Book___str__.fn T.w_Book___str__ (hr.mono (by decide)) hg T.bd_Book___str__ (T.b_str) rfl (fe_var (i := 0) rfl (by first | exact .inl rfl | exact .inr (.inl rfl) | exact .inr (.inr rfl)))) (fa_cons (fe_reprI T.mt_Book___repr__.at_ T.mt_Book___repr__.fn T.w_Book___repr__ (hr.mono (by decide)) hg T.bd_Book___repr__ (T.b_repr) rfl (fe_var (i := 0) rfl (by first | exact .inl rfl | exact .inr (.inl rfl) | exact .inr (.inr rfl)))) (fa_cons (fe_boolI T.na_Book___bool__ T.na_Book___len__ (T.b_bool) (fe_var (i := 0) rfl (by first | exact .inl rfl | exact .inr (.inl rfl) | exact .inr (.inr rfl)))) fa_nil))))))))))
theorem TX.f__law_text (T : TX K mg) : FunD K "_law_text" "_law_text" (defArgs (top 40)) (defBody (top 40)) (defScope (top 40)) [] [] (He.ga K "_law_text") (fdOf K (He.ga K "_law_text")) := T.t.t.fund 15 (d := d__law_text) rfl
theorem TX.g__law_text (T : TX K mg) : mg "_law_text" = some (.ref (He.ga K "_law_text")) := T.t.t.glo 10 rfl
theorem TX.k__law_text (T : TX K mg) : PySem.W.keepIn K (.ref (He.ga K "_law_text")) = true := T.f__law_text.kp
theorem TX.bd__law_text (T : TX K mg) : Binds K (fdOf K (He.ga K "_law_text")) ["_law_opening", "_law_replies"] [] := FunD.bindsN T.f__law_text fun _ _ _ _ _ _ us hl => match us, hl with | [_, _], _ => rfl
theorem sc__law_text : FnScope ["_law_opening", "_law_replies", "_law_rule"] ["_law_opening", "_law_replies"] (defScope (top 40)) := ⟨rfl, rfl, rfl, by decide +kernel, rfl, by decide +kernel, by decide +kernel⟩
theorem TX.w__law_text (T : TX K mg) : FnG P w K mg base (L2.CX P w) 1 (He.ga K "_law_text") (fdOf K (He.ga K "_law_text")) ["_law_opening", "_law_replies"] (spL K ["_law_opening", "_law_replies"] none PF._law_text_F) :=
  fn_F (N := ["_law_opening", "_law_replies", "_law_rule"]) (k := 0) (b := none) (bd := PF._law_text_b) T.f__law_text sc__law_text fun cdv A outer s H E hr hg tk hp =>
    (fb_one (fs_ret (fe_join fe_str (fe_add (fe_lst (fa_cons (fe_add fe_str (fe_var (i := 0) rfl (by first | exact .inl rfl | exact .inr (.inl rfl) | exact .inr (.inr rfl)))) fa_nil)) (fe_of (fv_lc (own := [("_law_rule", 2)]) rfl sc__law_text.nd (fi_any (fe_var (i := 1) rfl (by first | exact .inl rfl | exact .inr (.inl rfl) | exact .inr (.inr rfl)))) (blk_of rfl) (by decide) (fun s1 H1 C1 cl fp => (fg_name (i := 2) sc__law_text.nd rfl (by first | exact .inl rfl | exact .inr rfl))) (fun s1 H1 C1 cl fp => fts_nil) (fun s1 H1 C1 cl fp => (fe_add fe_str (fe_var (i := 2) rfl (by first | exact .inl rfl | exact .inr (.inl rfl) | exact .inr (.inr rfl)))))))))))
theorem TX.f__law_by_deed (T : TX K mg) : FunD K "_law_by_deed" "_law_by_deed" (defArgs (top 33)) (defBody (top 33)) (defScope (top 33)) [] [] (He.ga K "_law_by_deed") (fdOf K (He.ga K "_law_by_deed")) := T.t.t.fund 16 (d := d__law_by_deed) rfl
theorem TX.g__law_by_deed (T : TX K mg) : mg "_law_by_deed" = some (.ref (He.ga K "_law_by_deed")) := T.t.t.glo 11 rfl
theorem TX.k__law_by_deed (T : TX K mg) : PySem.W.keepIn K (.ref (He.ga K "_law_by_deed")) = true := T.f__law_by_deed.kp
theorem TX.bd__law_by_deed (T : TX K mg) : Binds K (fdOf K (He.ga K "_law_by_deed")) ["_law_deed", "_law_doer", "_law_asker", "_law_crate"] [] := FunD.bindsN T.f__law_by_deed fun _ _ _ _ _ _ us hl => match us, hl with | [_, _, _, _], _ => rfl
theorem sc__law_by_deed : FnScope ["_law_deed", "_law_doer", "_law_asker", "_law_crate", "_law_verb", "_law_whom", "_law_name"] ["_law_deed", "_law_doer", "_law_asker", "_law_crate"] (defScope (top 33)) := ⟨rfl, rfl, rfl, by decide +kernel, rfl, by decide +kernel, by decide +kernel⟩
theorem TX.w__law_by_deed (T : TX K mg) : FnG P w K mg base (L2.CX P w) 1 (He.ga K "_law_by_deed") (fdOf K (He.ga K "_law_by_deed")) ["_law_deed", "_law_doer", "_law_asker", "_law_crate"] (spL K ["_law_deed", "_law_doer", "_law_asker", "_law_crate"] none PF._law_by_deed_F) :=
  fn_F (N := ["_law_deed", "_law_doer", "_law_asker", "_law_crate", "_law_verb", "_law_whom", "_law_name"]) (k := 0) (b := none) (bd := PF._law_by_deed_b) T.f__law_by_deed sc__law_by_deed fun cdv A outer s H E hr hg tk hp =>
    (fb_cons (fs_asgB (fe_split (fe_var (i := 0) rfl (by first | exact .inl rfl | exact .inr (.inl rfl) | exact .inr (.inr rfl))) fe_str) (fg_seq rfl (fgs_cons (fg_name (i := 4) sc__law_by_deed.nd rfl (by first | exact .inl rfl | exact .inr rfl)) (fgs_cons (fg_name (i := 5) sc__law_by_deed.nd rfl (by first | exact .inl rfl | exact .inr rfl)) fgs_nil)))) (fb_cons (fs_asg (i := 6) (fv_e (fe_if (ft_eq hr.units (fe_var (i := 5) rfl (by first | exact .inl rfl | exact .inr (.inl rfl) | exact .inr (.inr rfl))) fe_str) (fe_var (i := 2) rfl (by first | exact .inl rfl | exact .inr (.inl rfl) | exact .inr (.inr rfl))) (fe_var (i := 1) rfl (by first | exact .inl rfl | exact .inr (.inl rfl) | exact .inr (.inr rfl))))) sc__law_by_deed.nd rfl (by first | exact .inl rfl | exact .inr rfl)) (fb_cons (fs_if (ft_in (Room.u65 hr) (fe_var (i := 4) rfl (by first | exact .inl rfl | exact .inr (.inl rfl) | exact .inr (.inr rfl))) (fe_lst (fa_cons fe_str (fa_cons fe_str fa_nil)))) (fb_one (fs_retV (fv_add (fe_tup (fa_cons (fe_tup (fa_cons (fe_var (i := 4) rfl (by first | exact .inl rfl | exact .inr (.inl rfl) | exact .inr (.inr rfl))) (fa_cons (fe_var (i := 6) rfl (by first | exact .inl rfl | exact .inr (.inl rfl) | exact .inr (.inr rfl))) fa_nil))) fa_nil)) (fe_var (i := 3) rfl (by first | exact .inl rfl | exact .inr (.inl rfl) | exact .inr (.inr rfl)))))) fb_nil) (fb_cons (fs_if (ft_eq hr.units (fe_var (i := 3) rfl (by first | exact .inl rfl | exact .inr (.inl rfl) | exact .inr (.inr rfl))) (fe_tup fa_nil)) (fb_one (fs_ret fe_non)) fb_nil) (fb_cons (fs_if (ft_eq hr.units (fe_var (i := 5) rfl (by first | exact .inl rfl | exact .inr (.inl rfl) | exact .inr (.inr rfl))) fe_str) (fb_one (fs_ret (fe_if (ft_eq hr.units (fe_ix (fe_ix (fe_var (i := 3) rfl (by first | exact .inl rfl | exact .inr (.inl rfl) | exact .inr (.inr rfl))) fe_int) fe_int) fe_str) (fe_sl (fe_var (i := 3) rfl (by first | exact .inl rfl | exact .inr (.inl rfl) | exact .inr (.inr rfl))) (fo_some fe_int) fo_no) fe_non))) fb_nil) (fb_one (fs_ret (fe_if (ft_eq hr.units (fe_ix (fe_var (i := 3) rfl (by first | exact .inl rfl | exact .inr (.inl rfl) | exact .inr (.inr rfl))) fe_int) (fe_tup (fa_cons (fe_sl (fe_var (i := 4) rfl (by first | exact .inl rfl | exact .inr (.inl rfl) | exact .inr (.inr rfl))) (fo_some fe_int) fo_no) (fa_cons (fe_var (i := 6) rfl (by first | exact .inl rfl | exact .inr (.inl rfl) | exact .inr (.inr rfl))) fa_nil)))) (fe_sl (fe_var (i := 3) rfl (by first | exact .inl rfl | exact .inr (.inl rfl) | exact .inr (.inr rfl))) (fo_some fe_int) fo_no) fe_non))))))))
theorem TX.f__law_done (T : TX K mg) : FunD K "_law_done" "_law_done" (defArgs (top 34)) (defBody (top 34)) (defScope (top 34)) [] [] (He.ga K "_law_done") (fdOf K (He.ga K "_law_done")) := T.t.t.fund 17 (d := d__law_done) rfl
theorem TX.g__law_done (T : TX K mg) : mg "_law_done" = some (.ref (He.ga K "_law_done")) := T.t.t.glo 12 rfl
theorem TX.k__law_done (T : TX K mg) : PySem.W.keepIn K (.ref (He.ga K "_law_done")) = true := T.f__law_done.kp
theorem TX.bd__law_done (T : TX K mg) : Binds K (fdOf K (He.ga K "_law_done")) ["_law_rule", "_law_doer", "_law_asker", "_law_crate"] [] := FunD.bindsN T.f__law_done fun _ _ _ _ _ _ us hl => match us, hl with | [_, _, _, _], _ => rfl
theorem sc__law_done : FnScope ["_law_rule", "_law_doer", "_law_asker", "_law_crate", "_law_found", "_law_deed"] ["_law_rule", "_law_doer", "_law_asker", "_law_crate"] (defScope (top 34)) := ⟨rfl, rfl, rfl, by decide +kernel, rfl, by decide +kernel, by decide +kernel⟩
theorem TX.w__law_done (T : TX K mg) : FnG P w K mg base (L2.CX P w) 2 (He.ga K "_law_done") (fdOf K (He.ga K "_law_done")) ["_law_rule", "_law_doer", "_law_asker", "_law_crate"] (spL K ["_law_rule", "_law_doer", "_law_asker", "_law_crate"] none PF._law_done_F) :=
  fn_F (N := ["_law_rule", "_law_doer", "_law_asker", "_law_crate", "_law_found", "_law_deed"]) (k := 1) (b := none) (bd := PF._law_done_b) T.f__law_done sc__law_done fun cdv A outer s H E hr hg tk hp =>
    (fb_cons (fs_asg (i := 4) (fv_e (fe_var (i := 3) rfl (by first | exact .inl rfl | exact .inr (.inl rfl) | exact .inr (.inr rfl)))) sc__law_done.nd rfl (by first | exact .inl rfl | exact .inr rfl)) (fb_cons (fs_for rfl hp (fi_any (fe_split (fe_var (i := 0) rfl (by first | exact .inl rfl | exact .inr (.inl rfl) | exact .inr (.inr rfl))) fe_str)) (fg_name (i := 5) sc__law_done.nd rfl (by first | exact .inl rfl | exact .inr rfl)) (fb_one (fs_asg (i := 4) (fv_e (fe_if (ft_notN (fe_var (i := 4) rfl (by first | exact .inl rfl | exact .inr (.inl rfl) | exact .inr (.inr rfl)))) (fe_of (fv_call T.w__law_by_deed (T.g__law_by_deed) T.k__law_by_deed T.bd__law_by_deed .nil (fun _ => Reps.nil) (hr.mono (by decide)) hg tk rfl (fa_cons (fe_var (i := 5) rfl (by first | exact .inl rfl | exact .inr (.inl rfl) | exact .inr (.inr rfl))) (fa_cons (fe_var (i := 1) rfl (by first | exact .inl rfl | exact .inr (.inl rfl) | exact .inr (.inr rfl))) (fa_cons (fe_var (i := 2) rfl (by first | exact .inl rfl | exact .inr (.inl rfl) | exact .inr (.inr rfl))) (fa_cons (fe_var (i := 4) rfl (by first | exact .inl rfl | exact .inr (.inl rfl) | exact .inr (.inr rfl))) fa_nil)))))) fe_non)) sc__law_done.nd rfl (by first | exact .inl rfl | exact .inr rfl)))) (fb_one (fs_retV (fv_giv (fe_var (i := 4) rfl (by first | exact .inl rfl | exact .inr (.inl rfl) | exact .inr (.inr rfl))))))))
theorem TX.f__law_owed (T : TX K mg) : FunD K "_law_owed" "_law_owed" (defArgs (top 42)) (defBody (top 42)) (defScope (top 42)) [] [] (He.ga K "_law_owed") (fdOf K (He.ga K "_law_owed")) := T.t.t.fund 18 (d := d__law_owed) rfl
theorem TX.g__law_owed (T : TX K mg) : mg "_law_owed" = some (.ref (He.ga K "_law_owed")) := T.t.t.glo 13 rfl
theorem TX.k__law_owed (T : TX K mg) : PySem.W.keepIn K (.ref (He.ga K "_law_owed")) = true := T.f__law_owed.kp
theorem TX.bd__law_owed (T : TX K mg) : Binds K (fdOf K (He.ga K "_law_owed")) ["_law_opening", "_law_replies"] [] := FunD.bindsN T.f__law_owed fun _ _ _ _ _ _ us hl => match us, hl with | [_, _], _ => rfl
theorem sc__law_owed : FnScope ["_law_opening", "_law_replies", "_law_begun", "_law_many"] ["_law_opening", "_law_replies"] (defScope (top 42)) := ⟨rfl, rfl, rfl, by decide +kernel, rfl, by decide +kernel, by decide +kernel⟩
theorem TX.w__law_owed (T : TX K mg) : FnG P w K mg base (L2.CX P w) 3 (He.ga K "_law_owed") (fdOf K (He.ga K "_law_owed")) ["_law_opening", "_law_replies"] (spL K ["_law_opening", "_law_replies"] none PF._law_owed_F) :=
  fn_F (N := ["_law_opening", "_law_replies", "_law_begun", "_law_many"]) (k := 2) (b := none) (bd := PF._law_owed_b) T.f__law_owed sc__law_owed fun cdv A outer s H E hr hg tk hp =>
    (fb_cons (fs_asg (i := 2) (fv_call T.w__law_done (T.g__law_done) T.k__law_done T.bd__law_done .nil (fun _ => Reps.nil) (hr.mono (by decide)) hg tk rfl (fa_cons (fe_var (i := 0) rfl (by first | exact .inl rfl | exact .inr (.inl rfl) | exact .inr (.inr rfl))) (fa_cons fe_str (fa_cons fe_str (fa_cons (fe_tup fa_nil) fa_nil))))) sc__law_owed.nd rfl (by first | exact .inl rfl | exact .inr rfl)) (fb_cons (fs_asg (i := 3) (fv_add (fe_add fe_str (fe_str1 (T.b_str) (fe_len (T.b_len) (fe_var (i := 1) rfl (by first | exact .inl rfl | exact .inr (.inl rfl) | exact .inr (.inr rfl)))))) fe_str) sc__law_owed.nd rfl (by first | exact .inl rfl | exact .inr rfl)) (fb_one (fs_ret (fe_repr hg (Room.u65 hr) (T.b_repr) (fe_lst (fa_cons (fe_var (i := 0) rfl (by first | exact .inl rfl | exact .inr (.inl rfl) | exact .inr (.inr rfl))) (fa_cons (fe_var (i := 1) rfl (by first | exact .inl rfl | exact .inr (.inl rfl) | exact .inr (.inr rfl))) (fa_cons (fe_var (i := 2) rfl (by first | exact .inl rfl | exact .inr (.inl rfl) | exact .inr (.inr rfl))) (fa_cons (fe_of (fv_call T.w__law_text (T.g__law_text) T.k__law_text T.bd__law_text .nil (fun _ => Reps.nil) (hr.mono (by decide)) hg tk rfl (fa_cons (fe_var (i := 0) rfl (by first | exact .inl rfl | exact .inr (.inl rfl) | exact .inr (.inr rfl))) (fa_cons (fe_var (i := 1) rfl (by first | exact .inl rfl | exact .inr (.inl rfl) | exact .inr (.inr rfl))) fa_nil)))) (fa_cons (fe_var (i := 3) rfl (by first | exact .inl rfl | exact .inr (.inl rfl) | exact .inr (.inr rfl))) (fa_cons fe_bl fa_nil))))))))))))
theorem TX.f__law_take (T : TX K mg) : FunD K "_law_take" "_law_take" (defArgs (top 32)) (defBody (top 32)) (defScope (top 32)) [] [] (He.ga K "_law_take") (fdOf K (He.ga K "_law_take")) := T.t.t.fund 19 (d := d__law_take) rfl
theorem TX.g__law_take (T : TX K mg) : mg "_law_take" = some (.ref (He.ga K "_law_take")) := T.t.t.glo 14 rfl
theorem TX.k__law_take (T : TX K mg) : PySem.W.keepIn K (.ref (He.ga K "_law_take")) = true := T.f__law_take.kp
theorem TX.bd__law_take (T : TX K mg) : Binds K (fdOf K (He.ga K "_law_take")) ["_law_pool", "_law_many"] [] := FunD.bindsN T.f__law_take fun _ _ _ _ _ _ us hl => match us, hl with | [_, _], _ => rfl
theorem sc__law_take : FnScope ["_law_pool", "_law_many", "_law_figure"] ["_law_pool", "_law_many"] (defScope (top 32)) := ⟨rfl, rfl, rfl, by decide +kernel, rfl, by decide +kernel, by decide +kernel⟩
theorem TX.w__law_take (T : TX K mg) : FnG P w K mg base (L2.CX P w) 1 (He.ga K "_law_take") (fdOf K (He.ga K "_law_take")) ["_law_pool", "_law_many"] (spL K ["_law_pool", "_law_many"] (some 0) PF._law_take_F) :=
  fn_F (N := ["_law_pool", "_law_many", "_law_figure"]) (k := 0) (b := (some 0)) (bd := PF._law_take_b) T.f__law_take sc__law_take fun cdv A outer s H E hr hg tk hp =>
    (fb_cons (fs_asgB (fe_add (fe_ix (fe_var (i := 0) rfl (by first | exact .inl rfl | exact .inr (.inl rfl) | exact .inr (.inr rfl))) fe_int) fe_int) (fg_sub1 (i := 0) rfl (by first | exact .inl rfl | exact .inr (.inl rfl) | exact .inr (.inr rfl)))) (fb_cons (fs_asgB (fe_mod (fe_int1 (T.b_int) (fe_add (fe_mul (fe_ix (fe_var (i := 0) rfl (by first | exact .inl rfl | exact .inr (.inl rfl) | exact .inr (.inr rfl))) fe_int) (fe_add (fe_fdiv (fe_ix (fe_var (i := 0) rfl (by first | exact .inl rfl | exact .inr (.inl rfl) | exact .inr (.inr rfl))) fe_int) fe_int) fe_int)) (fe_mul (fe_ix (fe_var (i := 0) rfl (by first | exact .inl rfl | exact .inr (.inl rfl) | exact .inr (.inr rfl))) fe_int) fe_int))) fe_int) (fg_sub1 (i := 0) rfl (by first | exact .inl rfl | exact .inr (.inl rfl) | exact .inr (.inr rfl)))) (fb_cons (fs_if (ft_gt (fe_ix (fe_var (i := 0) rfl (by first | exact .inl rfl | exact .inr (.inl rfl) | exact .inr (.inr rfl))) fe_int) fe_int) (fb_cons (fs_asgB (fe_divmod (T.b_divmod) (fe_ix (fe_var (i := 0) rfl (by first | exact .inl rfl | exact .inr (.inl rfl) | exact .inr (.inr rfl))) fe_int) (fe_var (i := 1) rfl (by first | exact .inl rfl | exact .inr (.inl rfl) | exact .inr (.inr rfl)))) (fg_seq rfl (fgs_cons (fg_sub1 (i := 0) rfl (by first | exact .inl rfl | exact .inr (.inl rfl) | exact .inr (.inr rfl))) (fgs_cons (fg_name (i := 2) sc__law_take.nd rfl (by first | exact .inl rfl | exact .inr rfl)) fgs_nil)))) (fb_one (fs_retV (fv_giv (fe_var (i := 2) rfl (by first | exact .inl rfl | exact .inr (.inl rfl) | exact .inr (.inr rfl))))))) fb_nil) (fb_one (fs_ret (fe_mod (fe_int1 (T.b_int) (fe_fdiv (fe_ix (fe_var (i := 0) rfl (by first | exact .inl rfl | exact .inr (.inl rfl) | exact .inr (.inr rfl))) fe_int) fe_int)) (fe_var (i := 1) rfl (by first | exact .inl rfl | exact .inr (.inl rfl) | exact .inr (.inr rfl)))))))))
theorem TX.f__law_some_deed (T : TX K mg) : FunD K "_law_some_deed" "_law_some_deed" (defArgs (top 36)) (defBody (top 36)) (defScope (top 36)) [] [] (He.ga K "_law_some_deed") (fdOf K (He.ga K "_law_some_deed")) := T.t.t.fund 20 (d := d__law_some_deed) rfl
theorem TX.g__law_some_deed (T : TX K mg) : mg "_law_some_deed" = some (.ref (He.ga K "_law_some_deed")) := T.t.t.glo 15 rfl
theorem TX.k__law_some_deed (T : TX K mg) : PySem.W.keepIn K (.ref (He.ga K "_law_some_deed")) = true := T.f__law_some_deed.kp
theorem TX.bd__law_some_deed (T : TX K mg) : Binds K (fdOf K (He.ga K "_law_some_deed")) ["_law_pool", "_law_doer", "_law_asker", "_law_crate"] [] := FunD.bindsN T.f__law_some_deed fun _ _ _ _ _ _ us hl => match us, hl with | [_, _, _, _], _ => rfl
theorem sc__law_some_deed : FnScope ["_law_pool", "_law_doer", "_law_asker", "_law_crate", "_law_some", "_law_taking", "_law_fitting", "_law_way", "_law_each"] ["_law_pool", "_law_doer", "_law_asker", "_law_crate"] (defScope (top 36)) := ⟨rfl, rfl, rfl, by decide +kernel, rfl, by decide +kernel, by decide +kernel⟩
theorem TX.w__law_some_deed (T : TX K mg) : FnG P w K mg base (L2.CX P w) 2 (He.ga K "_law_some_deed") (fdOf K (He.ga K "_law_some_deed")) ["_law_pool", "_law_doer", "_law_asker", "_law_crate"] (spL K ["_law_pool", "_law_doer", "_law_asker", "_law_crate"] (some 0) PF._law_some_deed_F) :=
  fn_F (N := ["_law_pool", "_law_doer", "_law_asker", "_law_crate", "_law_some", "_law_taking", "_law_fitting", "_law_way", "_law_each"]) (k := 1) (b := (some 0)) (bd := PF._law_some_deed_b) T.f__law_some_deed sc__law_some_deed fun cdv A outer s H E hr hg tk hp =>
    (fb_cons (fs_par (fva_cons (fv_lst (fa_cons fe_str (fa_cons fe_str (fa_cons fe_str (fa_cons fe_str fa_nil))))) (fva_cons (fv_lst (fa_cons fe_str (fa_cons fe_str (fa_cons fe_str (fa_cons fe_str fa_nil))))) fva_nil)) rfl sc__law_some_deed.nd (hi := rfl) (hj := rfl) (by decide) rfl rfl rfl) (fb_cons (fs_setLc (i := 6) (own := [("_law_each", 8)]) rfl sc__law_some_deed.nd rfl rfl rfl (fi_any (fe_var (i := 5) rfl (by first | exact .inl rfl | exact .inr (.inl rfl) | exact .inr (.inr rfl)))) (blk_of rfl) (by decide) (fun s1 H1 C1 cl fp => (fg_name (i := 8) sc__law_some_deed.nd rfl (by first | exact .inl rfl | exact .inr rfl))) (fun s1 H1 C1 cl fp => (fts_one (ft_notN (fe_of (fv_call T.w__law_by_deed (T.g__law_by_deed) T.k__law_by_deed T.bd__law_by_deed .nil (fun _ => Reps.nil) (hr.mono (by decide)) hg takes_noW rfl (fa_cons (fe_var (i := 8) rfl (by first | exact .inl rfl | exact .inr (.inl rfl) | exact .inr (.inr rfl))) (fa_cons (fe_var (i := 1) rfl (by first | exact .inl rfl | exact .inr (.inl rfl) | exact .inr (.inr rfl))) (fa_cons (fe_var (i := 2) rfl (by first | exact .inl rfl | exact .inr (.inl rfl) | exact .inr (.inr rfl))) (fa_cons (fe_var (i := 3) rfl (by first | exact .inl rfl | exact .inr (.inl rfl) | exact .inr (.inr rfl))) fa_nil))))))))) (fun s1 H1 C1 cl fp => (fe_var (i := 8) rfl (by first | exact .inl rfl | exact .inr (.inl rfl) | exact .inr (.inr rfl))))) (fb_cons (fs_asg (i := 7) (fv_call T.w__law_take (T.g__law_take) T.k__law_take T.bd__law_take .nil (fun _ => Reps.nil) (hr.mono (by decide)) hg tk rfl (fa_cons (fe_var (i := 0) rfl (by first | exact .inl rfl | exact .inr (.inl rfl) | exact .inr (.inr rfl))) (fa_cons fe_int fa_nil))) sc__law_some_deed.nd rfl (by first | exact .inl rfl | exact .inr rfl)) (fb_cons (fs_if (ft_eq hr.units (fe_var (i := 7) rfl (by first | exact .inl rfl | exact .inr (.inl rfl) | exact .inr (.inr rfl))) fe_int) (fb_one (fs_ret (fe_ix (fe_add (fe_var (i := 4) rfl (by first | exact .inl rfl | exact .inr (.inl rfl) | exact .inr (.inr rfl))) (fe_var (i := 5) rfl (by first | exact .inl rfl | exact .inr (.inl rfl) | exact .inr (.inr rfl)))) (fe_of (fv_call T.w__law_take (T.g__law_take) T.k__law_take T.bd__law_take .nil (fun _ => Reps.nil) (hr.mono (by decide)) hg tk rfl (fa_cons (fe_var (i := 0) rfl (by first | exact .inl rfl | exact .inr (.inl rfl) | exact .inr (.inr rfl))) (fa_cons fe_int fa_nil))))))) fb_nil) (fb_cons (fs_if (ft_of (fw_and (ft_lt (fe_var (i := 7) rfl (by first | exact .inl rfl | exact .inr (.inl rfl) | exact .inr (.inr rfl))) fe_int) (fw_and1 (ft_ne hr.units (fe_var (i := 6) rfl (by first | exact .inl rfl | exact .inr (.inl rfl) | exact .inr (.inr rfl))) (fe_lst fa_nil))))) (fb_one (fs_ret (fe_ix (fe_var (i := 6) rfl (by first | exact .inl rfl | exact .inr (.inl rfl) | exact .inr (.inr rfl))) (fe_of (fv_call T.w__law_take (T.g__law_take) T.k__law_take T.bd__law_take .nil (fun _ => Reps.nil) (hr.mono (by decide)) hg tk rfl (fa_cons (fe_var (i := 0) rfl (by first | exact .inl rfl | exact .inr (.inl rfl) | exact .inr (.inr rfl))) (fa_cons (fe_len (T.b_len) (fe_var (i := 6) rfl (by first | exact .inl rfl | exact .inr (.inl rfl) | exact .inr (.inr rfl)))) fa_nil))))))) fb_nil) (fb_one (fs_ret (fe_ix (fe_var (i := 4) rfl (by first | exact .inl rfl | exact .inr (.inl rfl) | exact .inr (.inr rfl))) (fe_of (fv_call T.w__law_take (T.g__law_take) T.k__law_take T.bd__law_take .nil (fun _ => Reps.nil) (hr.mono (by decide)) hg tk rfl (fa_cons (fe_var (i := 0) rfl (by first | exact .inl rfl | exact .inr (.inl rfl) | exact .inr (.inr rfl))) (fa_cons fe_int fa_nil))))))))))))
theorem TX.f__law_row (T : TX K mg) : FunD K "_law_row" "_law_row" (defArgs (top 37)) (defBody (top 37)) (defScope (top 37)) [] [] (He.ga K "_law_row") (fdOf K (He.ga K "_law_row")) := T.t.t.fund 21 (d := d__law_row) rfl
theorem TX.g__law_row (T : TX K mg) : mg "_law_row" = some (.ref (He.ga K "_law_row")) := T.t.t.glo 16 rfl
theorem TX.k__law_row (T : TX K mg) : PySem.W.keepIn K (.ref (He.ga K "_law_row")) = true := T.f__law_row.kp
theorem TX.bd__law_row (T : TX K mg) : Binds K (fdOf K (He.ga K "_law_row")) ["_law_pool", "_law_doer", "_law_asker", "_law_crate", "_law_many"] [] := FunD.bindsN T.f__law_row fun _ _ _ _ _ _ us hl => match us, hl with | [_, _, _, _, _], _ => rfl
theorem sc__law_row : FnScope ["_law_pool", "_law_doer", "_law_asker", "_law_crate", "_law_many", "_law_deeds", "_law_here", "_law_k", "_law_deed", "_law_after"] ["_law_pool", "_law_doer", "_law_asker", "_law_crate", "_law_many"] (defScope (top 37)) := ⟨rfl, rfl, rfl, by decide +kernel, rfl, by decide +kernel, by decide +kernel⟩
theorem TX.w__law_row (T : TX K mg) : FnG P w K mg base (L2.CX P w) 3 (He.ga K "_law_row") (fdOf K (He.ga K "_law_row")) ["_law_pool", "_law_doer", "_law_asker", "_law_crate", "_law_many"] (spL K ["_law_pool", "_law_doer", "_law_asker", "_law_crate", "_law_many"] (some 0) PF._law_row_F) :=
  fn_F (N := ["_law_pool", "_law_doer", "_law_asker", "_law_crate", "_law_many", "_law_deeds", "_law_here", "_law_k", "_law_deed", "_law_after"]) (k := 2) (b := (some 0)) (bd := PF._law_row_b) T.f__law_row sc__law_row fun cdv A outer s H E hr hg tk hp =>
    (fb_cons (fs_par (fva_cons (fv_lst fa_nil) (fva_cons (fv_e (fe_var (i := 3) rfl (by first | exact .inl rfl | exact .inr (.inl rfl) | exact .inr (.inr rfl)))) fva_nil)) rfl sc__law_row.nd (hi := rfl) (hj := rfl) (by decide) rfl rfl rfl) (fb_cons (fs_for rfl hp (fi_rng1 (T.b_range) (fa_cons (fe_var (i := 4) rfl (by first | exact .inl rfl | exact .inr (.inl rfl) | exact .inr (.inr rfl))) fa_nil)) (fg_name (i := 7) sc__law_row.nd rfl (by first | exact .inl rfl | exact .inr rfl)) (fb_cons (fs_asg (i := 8) (fv_call T.w__law_some_deed (T.g__law_some_deed) T.k__law_some_deed T.bd__law_some_deed .nil (fun _ => Reps.nil) (hr.mono (by decide)) hg tk rfl (fa_cons (fe_var (i := 0) rfl (by first | exact .inl rfl | exact .inr (.inl rfl) | exact .inr (.inr rfl))) (fa_cons (fe_var (i := 1) rfl (by first | exact .inl rfl | exact .inr (.inl rfl) | exact .inr (.inr rfl))) (fa_cons (fe_var (i := 2) rfl (by first | exact .inl rfl | exact .inr (.inl rfl) | exact .inr (.inr rfl))) (fa_cons (fe_var (i := 6) rfl (by first | exact .inl rfl | exact .inr (.inl rfl) | exact .inr (.inr rfl))) fa_nil))))) sc__law_row.nd rfl (by first | exact .inl rfl | exact .inr rfl)) (fb_cons (fs_asg (i := 9) (fv_call T.w__law_by_deed (T.g__law_by_deed) T.k__law_by_deed T.bd__law_by_deed .nil (fun _ => Reps.nil) (hr.mono (by decide)) hg tk rfl (fa_cons (fe_var (i := 8) rfl (by first | exact .inl rfl | exact .inr (.inl rfl) | exact .inr (.inr rfl))) (fa_cons (fe_var (i := 1) rfl (by first | exact .inl rfl | exact .inr (.inl rfl) | exact .inr (.inr rfl))) (fa_cons (fe_var (i := 2) rfl (by first | exact .inl rfl | exact .inr (.inl rfl) | exact .inr (.inr rfl))) (fa_cons (fe_var (i := 6) rfl (by first | exact .inl rfl | exact .inr (.inl rfl) | exact .inr (.inr rfl))) fa_nil))))) sc__law_row.nd rfl (by first | exact .inl rfl | exact .inr rfl)) (fb_cons (fs_append (i := 5) (fe_var (i := 8) rfl (by first | exact .inl rfl | exact .inr (.inl rfl) | exact .inr (.inr rfl))) rfl (by first | exact .inl rfl | exact .inr (.inl rfl) | exact .inr (.inr rfl))) (fb_one (fs_asg (i := 6) (fv_e (fe_if (ft_notN (fe_var (i := 9) rfl (by first | exact .inl rfl | exact .inr (.inl rfl) | exact .inr (.inr rfl)))) (fe_var (i := 9) rfl (by first | exact .inl rfl | exact .inr (.inl rfl) | exact .inr (.inr rfl))) (fe_var (i := 6) rfl (by first | exact .inl rfl | exact .inr (.inl rfl) | exact .inr (.inr rfl))))) sc__law_row.nd rfl (by first | exact .inl rfl | exact .inr rfl))))))) (fb_one (fs_ret (fe_join fe_str (fe_var (i := 5) rfl (by first | exact .inl rfl | exact .inr (.inl rfl) | exact .inr (.inr rfl))))))))
theorem TX.f__law_boxed (T : TX K mg) : FunD K "_law_boxed" "_law_boxed" (defArgs (top 35)) (defBody (top 35)) (defScope (top 35)) [] [] (He.ga K "_law_boxed") (fdOf K (He.ga K "_law_boxed")) := T.t.t.fund 22 (d := d__law_boxed) rfl
theorem TX.g__law_boxed (T : TX K mg) : mg "_law_boxed" = some (.ref (He.ga K "_law_boxed")) := T.t.t.glo 17 rfl
theorem TX.k__law_boxed (T : TX K mg) : PySem.W.keepIn K (.ref (He.ga K "_law_boxed")) = true := T.f__law_boxed.kp
theorem TX.bd__law_boxed (T : TX K mg) : Binds K (fdOf K (He.ga K "_law_boxed")) ["_law_pool", "_law_names", "_law_most"] [] := FunD.bindsN T.f__law_boxed fun _ _ _ _ _ _ us hl => match us, hl with | [_, _, _], _ => rfl
theorem sc__law_boxed : FnScope ["_law_pool", "_law_names", "_law_most", "_law_many", "_law_k"] ["_law_pool", "_law_names", "_law_most"] (defScope (top 35)) := ⟨rfl, rfl, rfl, by decide +kernel, rfl, by decide +kernel, by decide +kernel⟩
theorem TX.w__law_boxed (T : TX K mg) : FnG P w K mg base (L2.CX P w) 2 (He.ga K "_law_boxed") (fdOf K (He.ga K "_law_boxed")) ["_law_pool", "_law_names", "_law_most"] (spL K ["_law_pool", "_law_names", "_law_most"] (some 0) PF._law_boxed_F) :=
  fn_F (N := ["_law_pool", "_law_names", "_law_most", "_law_many", "_law_k"]) (k := 1) (b := (some 0)) (bd := PF._law_boxed_b) T.f__law_boxed sc__law_boxed fun cdv A outer s H E hr hg tk hp =>
    (fb_cons (fs_asg (i := 3) (fv_call T.w__law_take (T.g__law_take) T.k__law_take T.bd__law_take .nil (fun _ => Reps.nil) (hr.mono (by decide)) hg tk rfl (fa_cons (fe_var (i := 0) rfl (by first | exact .inl rfl | exact .inr (.inl rfl) | exact .inr (.inr rfl))) (fa_cons (fe_add (fe_var (i := 2) rfl (by first | exact .inl rfl | exact .inr (.inl rfl) | exact .inr (.inr rfl))) fe_int) fa_nil))) sc__law_boxed.nd rfl (by first | exact .inl rfl | exact .inr rfl)) (fb_one (fs_ret (fe_tupC (T.b_tuple) (fe_of (fv_lc (own := [("_law_k", 4)]) rfl sc__law_boxed.nd (fi_rng1 (T.b_range) (fa_cons (fe_var (i := 3) rfl (by first | exact .inl rfl | exact .inr (.inl rfl) | exact .inr (.inr rfl))) fa_nil)) (blk_of rfl) (by decide) (fun s1 H1 C1 cl fp => (fg_name (i := 4) sc__law_boxed.nd rfl (by first | exact .inl rfl | exact .inr rfl))) (fun s1 H1 C1 cl fp => fts_nil) (fun s1 H1 C1 cl fp => (fe_tup (fa_cons (fe_ix (fe_lst (fa_cons fe_str (fa_cons fe_str fa_nil))) (fe_of (fv_call T.w__law_take (T.g__law_take) T.k__law_take T.bd__law_take .nil (fun _ => Reps.nil) (hr.mono (by decide)) hg takes_noW rfl (fa_cons (fe_var (i := 0) rfl (by first | exact .inl rfl | exact .inr (.inl rfl) | exact .inr (.inr rfl))) (fa_cons fe_int fa_nil))))) (fa_cons (fe_ix (fe_var (i := 1) rfl (by first | exact .inl rfl | exact .inr (.inl rfl) | exact .inr (.inr rfl))) (fe_of (fv_call T.w__law_take (T.g__law_take) T.k__law_take T.bd__law_take .nil (fun _ => Reps.nil) (hr.mono (by decide)) hg takes_noW rfl (fa_cons (fe_var (i := 0) rfl (by first | exact .inl rfl | exact .inr (.inl rfl) | exact .inr (.inr rfl))) (fa_cons (fe_len (T.b_len) (fe_var (i := 1) rfl (by first | exact .inl rfl | exact .inr (.inl rfl) | exact .inr (.inr rfl)))) fa_nil))))) fa_nil))))))))))
theorem TX.f__law_answers (T : TX K mg) : FunD K "_law_answers" "_law_answers" (defArgs (top 39)) (defBody (top 39)) (defScope (top 39)) [] [] (He.ga K "_law_answers") (fdOf K (He.ga K "_law_answers")) := T.t.t.fund 23 (d := d__law_answers) rfl
theorem TX.g__law_answers (T : TX K mg) : mg "_law_answers" = some (.ref (He.ga K "_law_answers")) := T.t.t.glo 18 rfl
theorem TX.k__law_answers (T : TX K mg) : PySem.W.keepIn K (.ref (He.ga K "_law_answers")) = true := T.f__law_answers.kp
theorem TX.bd__law_answers (T : TX K mg) : Binds K (fdOf K (He.ga K "_law_answers")) ["_law_pool", "_law_least", "_law_most"] [] := FunD.bindsN T.f__law_answers fun _ _ _ _ _ _ us hl => match us, hl with | [_, _, _], _ => rfl
theorem sc__law_answers : FnScope ["_law_pool", "_law_least", "_law_most", "_law_found", "_law_k", "_law_doer", "_law_asker", "_law_crate"] ["_law_pool", "_law_least", "_law_most"] (defScope (top 39)) := ⟨rfl, rfl, rfl, by decide +kernel, rfl, by decide +kernel, by decide +kernel⟩
theorem TX.w__law_answers (T : TX K mg) : FnG P w K mg base (L2.CX P w) 4 (He.ga K "_law_answers") (fdOf K (He.ga K "_law_answers")) ["_law_pool", "_law_least", "_law_most"] (spL K ["_law_pool", "_law_least", "_law_most"] (some 0) PF._law_answers_F) :=
  fn_F (N := ["_law_pool", "_law_least", "_law_most", "_law_found", "_law_k", "_law_doer", "_law_asker", "_law_crate"]) (k := 3) (b := (some 0)) (bd := PF._law_answers_b) T.f__law_answers sc__law_answers fun cdv A outer s H E hr hg tk hp =>
    (fb_cons (fs_asg (i := 3) (fv_lst fa_nil) sc__law_answers.nd rfl (by first | exact .inl rfl | exact .inr rfl)) (fb_cons (fs_for rfl hp (fi_rng1 (T.b_range) (fa_cons (fe_add (fe_var (i := 1) rfl (by first | exact .inl rfl | exact .inr (.inl rfl) | exact .inr (.inr rfl))) (fe_of (fv_call T.w__law_take (T.g__law_take) T.k__law_take T.bd__law_take .nil (fun _ => Reps.nil) (hr.mono (by decide)) hg tk rfl (fa_cons (fe_var (i := 0) rfl (by first | exact .inl rfl | exact .inr (.inl rfl) | exact .inr (.inr rfl))) (fa_cons (fe_sub (fe_add (fe_var (i := 2) rfl (by first | exact .inl rfl | exact .inr (.inl rfl) | exact .inr (.inr rfl))) fe_int) (fe_var (i := 1) rfl (by first | exact .inl rfl | exact .inr (.inl rfl) | exact .inr (.inr rfl)))) fa_nil))))) fa_nil)) (fg_name (i := 4) sc__law_answers.nd rfl (by first | exact .inl rfl | exact .inr rfl)) (fb_cons (fs_asgB (fe_ix (fe_lst (fa_cons (fe_tup (fa_cons fe_str (fa_cons fe_str fa_nil))) (fa_cons (fe_tup (fa_cons fe_str (fa_cons fe_str fa_nil))) (fa_cons (fe_tup (fa_cons fe_str (fa_cons fe_str fa_nil))) (fa_cons (fe_tup (fa_cons fe_str (fa_cons fe_str fa_nil))) fa_nil))))) (fe_of (fv_call T.w__law_take (T.g__law_take) T.k__law_take T.bd__law_take .nil (fun _ => Reps.nil) (hr.mono (by decide)) hg tk rfl (fa_cons (fe_var (i := 0) rfl (by first | exact .inl rfl | exact .inr (.inl rfl) | exact .inr (.inr rfl))) (fa_cons fe_int fa_nil))))) (fg_seq rfl (fgs_cons (fg_name (i := 5) sc__law_answers.nd rfl (by first | exact .inl rfl | exact .inr rfl)) (fgs_cons (fg_name (i := 6) sc__law_answers.nd rfl (by first | exact .inl rfl | exact .inr rfl)) fgs_nil)))) (fb_cons (fs_asg (i := 7) (fv_call T.w__law_boxed (T.g__law_boxed) T.k__law_boxed T.bd__law_boxed .nil (fun _ => Reps.nil) (hr.mono (by decide)) hg tk rfl (fa_cons (fe_var (i := 0) rfl (by first | exact .inl rfl | exact .inr (.inl rfl) | exact .inr (.inr rfl))) (fa_cons (fe_lst (fa_cons fe_str (fa_cons fe_str (fa_cons fe_str fa_nil)))) (fa_cons fe_int fa_nil)))) sc__law_answers.nd rfl (by first | exact .inl rfl | exact .inr rfl)) (fb_one (fs_append (i := 3) (fe_of (fv_call T.w__law_row (T.g__law_row) T.k__law_row T.bd__law_row .nil (fun _ => Reps.nil) (hr.mono (by decide)) hg tk rfl (fa_cons (fe_var (i := 0) rfl (by first | exact .inl rfl | exact .inr (.inl rfl) | exact .inr (.inr rfl))) (fa_cons (fe_var (i := 5) rfl (by first | exact .inl rfl | exact .inr (.inl rfl) | exact .inr (.inr rfl))) (fa_cons (fe_var (i := 6) rfl (by first | exact .inl rfl | exact .inr (.inl rfl) | exact .inr (.inr rfl))) (fa_cons (fe_var (i := 7) rfl (by first | exact .inl rfl | exact .inr (.inl rfl) | exact .inr (.inr rfl))) (fa_cons (fe_add fe_int (fe_of (fv_call T.w__law_take (T.g__law_take) T.k__law_take T.bd__law_take .nil (fun _ => Reps.nil) (hr.mono (by decide)) hg tk rfl (fa_cons (fe_var (i := 0) rfl (by first | exact .inl rfl | exact .inr (.inl rfl) | exact .inr (.inr rfl))) (fa_cons fe_int fa_nil))))) fa_nil))))))) rfl (by first | exact .inl rfl | exact .inr (.inl rfl) | exact .inr (.inr rfl))))))) (fb_one (fs_ret (fe_tupC (T.b_tuple) (fe_var (i := 3) rfl (by first | exact .inl rfl | exact .inr (.inl rfl) | exact .inr (.inr rfl))))))))
theorem TX.f__law_first (T : TX K mg) : FunD K "_law_first" "_law_first" (defArgs (top 38)) (defBody (top 38)) (defScope (top 38)) [] [] (He.ga K "_law_first") (fdOf K (He.ga K "_law_first")) := T.t.t.fund 24 (d := d__law_first) rfl
theorem TX.g__law_first (T : TX K mg) : mg "_law_first" = some (.ref (He.ga K "_law_first")) := T.t.t.glo 19 rfl
theorem TX.k__law_first (T : TX K mg) : PySem.W.keepIn K (.ref (He.ga K "_law_first")) = true := T.f__law_first.kp
theorem TX.bd__law_first (T : TX K mg) : Binds K (fdOf K (He.ga K "_law_first")) ["_law_pool", "_law_most"] [] := FunD.bindsN T.f__law_first fun _ _ _ _ _ _ us hl => match us, hl with | [_, _], _ => rfl
theorem sc__law_first : FnScope ["_law_pool", "_law_most", "_law_deeds", "_law_here", "_law_k", "_law_deed", "_law_after"] ["_law_pool", "_law_most"] (defScope (top 38)) := ⟨rfl, rfl, rfl, by decide +kernel, rfl, by decide +kernel, by decide +kernel⟩
theorem TX.w__law_first (T : TX K mg) : FnG P w K mg base (L2.CX P w) 3 (He.ga K "_law_first") (fdOf K (He.ga K "_law_first")) ["_law_pool", "_law_most"] (spL K ["_law_pool", "_law_most"] (some 0) PF._law_first_F) :=
  fn_F (N := ["_law_pool", "_law_most", "_law_deeds", "_law_here", "_law_k", "_law_deed", "_law_after"]) (k := 2) (b := (some 0)) (bd := PF._law_first_b) T.f__law_first sc__law_first fun cdv A outer s H E hr hg tk hp =>
    (fb_cons (fs_par (fva_cons (fv_lst fa_nil) (fva_cons (fv_e (fe_tup fa_nil)) fva_nil)) rfl sc__law_first.nd (hi := rfl) (hj := rfl) (by decide) rfl rfl rfl) (fb_cons (fs_for rfl hp (fi_rng1 (T.b_range) (fa_cons (fe_add fe_int (fe_of (fv_call T.w__law_take (T.g__law_take) T.k__law_take T.bd__law_take .nil (fun _ => Reps.nil) (hr.mono (by decide)) hg tk rfl (fa_cons (fe_var (i := 0) rfl (by first | exact .inl rfl | exact .inr (.inl rfl) | exact .inr (.inr rfl))) (fa_cons (fe_var (i := 1) rfl (by first | exact .inl rfl | exact .inr (.inl rfl) | exact .inr (.inr rfl))) fa_nil))))) fa_nil)) (fg_name (i := 4) sc__law_first.nd rfl (by first | exact .inl rfl | exact .inr rfl)) (fb_cons (fs_asg (i := 5) (fv_call T.w__law_some_deed (T.g__law_some_deed) T.k__law_some_deed T.bd__law_some_deed .nil (fun _ => Reps.nil) (hr.mono (by decide)) hg tk rfl (fa_cons (fe_var (i := 0) rfl (by first | exact .inl rfl | exact .inr (.inl rfl) | exact .inr (.inr rfl))) (fa_cons fe_str (fa_cons fe_str (fa_cons (fe_var (i := 3) rfl (by first | exact .inl rfl | exact .inr (.inl rfl) | exact .inr (.inr rfl))) fa_nil))))) sc__law_first.nd rfl (by first | exact .inl rfl | exact .inr rfl)) (fb_cons (fs_asg (i := 6) (fv_call T.w__law_by_deed (T.g__law_by_deed) T.k__law_by_deed T.bd__law_by_deed .nil (fun _ => Reps.nil) (hr.mono (by decide)) hg tk rfl (fa_cons (fe_var (i := 5) rfl (by first | exact .inl rfl | exact .inr (.inl rfl) | exact .inr (.inr rfl))) (fa_cons fe_str (fa_cons fe_str (fa_cons (fe_var (i := 3) rfl (by first | exact .inl rfl | exact .inr (.inl rfl) | exact .inr (.inr rfl))) fa_nil))))) sc__law_first.nd rfl (by first | exact .inl rfl | exact .inr rfl)) (fb_one (fs_if (ft_notN (fe_var (i := 6) rfl (by first | exact .inl rfl | exact .inr (.inl rfl) | exact .inr (.inr rfl)))) (fb_cons (fs_append (i := 2) (fe_var (i := 5) rfl (by first | exact .inl rfl | exact .inr (.inl rfl) | exact .inr (.inr rfl))) rfl (by first | exact .inl rfl | exact .inr (.inl rfl) | exact .inr (.inr rfl))) (fb_one (fs_asg (i := 3) (fv_e (fe_var (i := 6) rfl (by first | exact .inl rfl | exact .inr (.inl rfl) | exact .inr (.inr rfl)))) sc__law_first.nd rfl (by first | exact .inl rfl | exact .inr rfl)))) fb_nil))))) (fb_one (fs_ret (fe_if (ft_ne hr.units (fe_var (i := 2) rfl (by first | exact .inl rfl | exact .inr (.inl rfl) | exact .inr (.inr rfl))) (fe_lst fa_nil)) (fe_join fe_str (fe_var (i := 2) rfl (by first | exact .inl rfl | exact .inr (.inl rfl) | exact .inr (.inr rfl)))) fe_str)))))
theorem TX.f__law_right (T : TX K mg) : FunD K "_law_right" "_law_right" (defArgs (top 43)) (defBody (top 43)) (defScope (top 43)) [] [] (He.ga K "_law_right") (fdOf K (He.ga K "_law_right")) := T.t.t.fund 25 (d := d__law_right) rfl
theorem TX.g__law_right (T : TX K mg) : mg "_law_right" = some (.ref (He.ga K "_law_right")) := T.t.t.glo 20 rfl
theorem TX.k__law_right (T : TX K mg) : PySem.W.keepIn K (.ref (He.ga K "_law_right")) = true := T.f__law_right.kp
theorem TX.bd__law_right (T : TX K mg) : Binds K (fdOf K (He.ga K "_law_right")) ["_law_pool"] [] := FunD.bindsN T.f__law_right fun _ _ _ _ _ _ us hl => match us, hl with | [_], _ => rfl
theorem sc__law_right : FnScope ["_law_pool", "_law_opening", "_law_replies", "_law_volume", "_law_spot", "_law_rows", "_law_rule", "_law_due", "_law_told", "_law_each"] ["_law_pool"] (defScope (top 43)) := ⟨rfl, rfl, rfl, by decide +kernel, rfl, by decide +kernel, by decide +kernel⟩
theorem TX.w__law_right (T : TX K mg) : FnG P w K mg base (L2.CX P w) 7 (He.ga K "_law_right") (fdOf K (He.ga K "_law_right")) ["_law_pool"] (spL K ["_law_pool"] (some 0) PF._law_right_6_F) :=
  fn_F (N := ["_law_pool", "_law_opening", "_law_replies", "_law_volume", "_law_spot", "_law_rows", "_law_rule", "_law_due", "_law_told", "_law_each"]) (k := 6) (b := (some 0)) (bd := PF._law_right_6_b) T.f__law_right sc__law_right fun cdv A outer s H E hr hg tk hp =>
    (fb_cons (fs_asgB (fe_tup (fa_cons (fe_of (fv_call T.w__law_first (T.g__law_first) T.k__law_first T.bd__law_first .nil (fun _ => Reps.nil) (hr.mono (by decide)) hg tk rfl (fa_cons (fe_var (i := 0) rfl (by first | exact .inl rfl | exact .inr (.inl rfl) | exact .inr (.inr rfl))) (fa_cons fe_int fa_nil)))) (fa_cons (fe_of (fv_call T.w__law_answers (T.g__law_answers) T.k__law_answers T.bd__law_answers .nil (fun _ => Reps.nil) (hr.mono (by decide)) hg tk rfl (fa_cons (fe_var (i := 0) rfl (by first | exact .inl rfl | exact .inr (.inl rfl) | exact .inr (.inr rfl))) (fa_cons fe_int (fa_cons fe_int fa_nil))))) fa_nil))) (fg_seq rfl (fgs_cons (fg_name (i := 1) sc__law_right.nd rfl (by first | exact .inl rfl | exact .inr rfl)) (fgs_cons (fg_name (i := 2) sc__law_right.nd rfl (by first | exact .inl rfl | exact .inr rfl)) fgs_nil)))) (fb_cons (fs_asg (i := 3) (fv_make T.mk_Book T.w_Book___init__ T.gc_Book (T.bd_Book___init___3).choose_spec.2 (T.bd_Book___init___3).choose_spec.1 (fun _ => Reps.nil) (hr.mono (by decide)) hg tk rfl (fa_cons (fe_var (i := 1) rfl (by first | exact .inl rfl | exact .inr (.inl rfl) | exact .inr (.inr rfl))) (fa_cons (fe_var (i := 2) rfl (by first | exact .inl rfl | exact .inr (.inl rfl) | exact .inr (.inr rfl))) fa_nil))) sc__law_right.nd rfl (by first | exact .inl rfl | exact .inr rfl)) (fb_cons (fs_for rfl hp (fi_rng1 (T.b_range) (fa_cons (fe_len (T.b_len) (fe_var (i := 2) rfl (by first | exact .inl rfl | exact .inr (.inl rfl) | exact .inr (.inr rfl)))) fa_nil)) (fg_name (i := 4) sc__law_right.nd rfl (by first | exact .inl rfl | exact .inr rfl)) (fb_cons (fs_asg (i := 5) (fv_add (fe_of (fv_call T.w__law_answers (T.g__law_answers) T.k__law_answers T.bd__law_answers .nil (fun _ => Reps.nil) (hr.mono (by decide)) hg tk rfl (fa_cons (fe_var (i := 0) rfl (by first | exact .inl rfl | exact .inr (.inl rfl) | exact .inr (.inr rfl))) (fa_cons fe_int (fa_cons fe_int fa_nil))))) (fe_var (i := 2) rfl (by first | exact .inl rfl | exact .inr (.inl rfl) | exact .inr (.inr rfl)))) sc__law_right.nd rfl (by first | exact .inl rfl | exact .inr rfl)) (fb_cons (fs_asg (i := 6) (fv_e (fe_ix (fe_var (i := 5) rfl (by first | exact .inl rfl | exact .inr (.inl rfl) | exact .inr (.inr rfl))) (fe_of (fv_call T.w__law_take (T.g__law_take) T.k__law_take T.bd__law_take .nil (fun _ => Reps.nil) (hr.mono (by decide)) hg tk rfl (fa_cons (fe_var (i := 0) rfl (by first | exact .inl rfl | exact .inr (.inl rfl) | exact .inr (.inr rfl))) (fa_cons (fe_len (T.b_len) (fe_var (i := 5) rfl (by first | exact .inl rfl | exact .inr (.inl rfl) | exact .inr (.inr rfl)))) fa_nil)))))) sc__law_right.nd rfl (by first | exact .inl rfl | exact .inr rfl)) (fb_cons (fs_asg (i := 7) (fv_add (fe_add (fe_sl (fe_var (i := 2) rfl (by first | exact .inl rfl | exact .inr (.inl rfl) | exact .inr (.inr rfl))) fo_no (fo_some (fe_var (i := 4) rfl (by first | exact .inl rfl | exact .inr (.inl rfl) | exact .inr (.inr rfl))))) (fe_tup (fa_cons (fe_var (i := 6) rfl (by first | exact .inl rfl | exact .inr (.inl rfl) | exact .inr (.inr rfl))) fa_nil))) (fe_sl (fe_var (i := 2) rfl (by first | exact .inl rfl | exact .inr (.inl rfl) | exact .inr (.inr rfl))) (fo_some (fe_add (fe_var (i := 4) rfl (by first | exact .inl rfl | exact .inr (.inl rfl) | exact .inr (.inr rfl))) fe_int)) fo_no)) sc__law_right.nd rfl (by first | exact .inl rfl | exact .inr rfl)) (fb_cons (fs_asg (i := 8) (fv_lst (fa_cons (fe_of (fv_meth T.cl_Book T.mt_Book_changed T.w_Book_changed T.bd_Book_changed .nil (fun _ => Reps.nil) (hr.mono (by decide)) hg tk rfl (fe_var (i := 3) rfl (by first | exact .inl rfl | exact .inr (.inl rfl) | exact .inr (.inr rfl))) (fa_cons (fe_var (i := 4) rfl (by first | exact .inl rfl | exact .inr (.inl rfl) | exact .inr (.inr rfl))) (fa_cons (fe_var (i := 6) rfl (by first | exact .inl rfl | exact .inr (.inl rfl) | exact .inr (.inr rfl))) fa_nil)))) (fa_cons (fe_of (fv_methK0 (pm := [0, 2, 1]) (ks := ["row", "index"]) T.cl_Book T.mt_Book_changed T.w_Book_changed T.kb_Book_changed_1_row_index .nil (fun _ => Reps.nil) (hr.mono (by decide)) hg tk (fe_var (i := 3) rfl (by first | exact .inl rfl | exact .inr (.inl rfl) | exact .inr (.inr rfl))) (fk_cons (fe_var (i := 6) rfl (by first | exact .inl rfl | exact .inr (.inl rfl) | exact .inr (.inr rfl))) (fk_cons (fe_var (i := 4) rfl (by first | exact .inl rfl | exact .inr (.inl rfl) | exact .inr (.inr rfl))) fk_nil)))) fa_nil))) sc__law_right.nd rfl (by first | exact .inl rfl | exact .inr rfl)) (fb_cons (fs_if (ft_of (fw_or (ft_not (ft_val (fe_all rfl (T.b_all) (fe_of (fv_lc (own := [("_law_each", 9)]) rfl sc__law_right.nd (fi_any (fe_var (i := 8) rfl (by first | exact .inl rfl | exact .inr (.inl rfl) | exact .inr (.inr rfl)))) (blk_of rfl) (by decide) (fun s1 H1 C1 cl fp => (fg_name (i := 9) sc__law_right.nd rfl (by first | exact .inl rfl | exact .inr rfl))) (fun s1 H1 C1 cl fp => fts_nil) (fun s1 H1 C1 cl fp => (fe_eq hr.units (fe_of (fv_call T.w__law_shown (T.g__law_shown) T.k__law_shown T.bd__law_shown .nil (fun _ => Reps.nil) (hr.mono (by decide)) hg takes_noW rfl (fa_cons (fe_var (i := 9) rfl (by first | exact .inl rfl | exact .inr (.inl rfl) | exact .inr (.inr rfl))) fa_nil))) (fe_of (fv_call T.w__law_owed (T.g__law_owed) T.k__law_owed T.bd__law_owed .nil (fun _ => Reps.nil) (hr.mono (by decide)) hg takes_noW rfl (fa_cons (fe_var (i := 1) rfl (by first | exact .inl rfl | exact .inr (.inl rfl) | exact .inr (.inr rfl))) (fa_cons (fe_var (i := 7) rfl (by first | exact .inl rfl | exact .inr (.inl rfl) | exact .inr (.inr rfl))) fa_nil))))))))))) (fw_or1 (ft_neI T.nf_Book T.ne_Book T.oc_Book.hm T.mt_Book___eq__.at_ T.mt_Book___eq__.fn T.w_Book___eq__ (hr.mono (by decide)) hg T.bd_Book___eq__ rfl (fe_ix (fe_var (i := 8) rfl (by first | exact .inl rfl | exact .inr (.inl rfl) | exact .inr (.inr rfl))) fe_int) (fe_of (fv_make T.mk_Book T.w_Book___init__ T.gc_Book (T.bd_Book___init___3).choose_spec.2 (T.bd_Book___init___3).choose_spec.1 (fun _ => Reps.nil) (hr.mono (by decide)) hg tk rfl (fa_cons (fe_var (i := 1) rfl (by first | exact .inl rfl | exact .inr (.inl rfl) | exact .inr (.inr rfl))) (fa_cons (fe_var (i := 7) rfl (by first | exact .inl rfl | exact .inr (.inl rfl) | exact .inr (.inr rfl))) fa_nil)))))))) (fb_one (fs_ret fe_bl)) fb_nil) (fb_cons (fs_if (ft_of (fw_or (ft_ne hr.units (fe_eqI T.nf_Book T.mt_Book___eq__.at_ T.mt_Book___eq__.fn T.w_Book___eq__ (hr.mono (by decide)) hg T.bd_Book___eq__ rfl (fe_ix (fe_var (i := 8) rfl (by first | exact .inl rfl | exact .inr (.inl rfl) | exact .inr (.inr rfl))) fe_int) (fe_var (i := 3) rfl (by first | exact .inl rfl | exact .inr (.inl rfl) | exact .inr (.inr rfl)))) (fe_eq hr.units (fe_var (i := 7) rfl (by first | exact .inl rfl | exact .inr (.inl rfl) | exact .inr (.inr rfl))) (fe_var (i := 2) rfl (by first | exact .inl rfl | exact .inr (.inl rfl) | exact .inr (.inr rfl))))) (fw_or1 (ft_ne hr.units (fe_of (fv_call T.w__law_shown (T.g__law_shown) T.k__law_shown T.bd__law_shown .nil (fun _ => Reps.nil) (hr.mono (by decide)) hg tk rfl (fa_cons (fe_var (i := 3) rfl (by first | exact .inl rfl | exact .inr (.inl rfl) | exact .inr (.inr rfl))) fa_nil))) (fe_of (fv_call T.w__law_owed (T.g__law_owed) T.k__law_owed T.bd__law_owed .nil (fun _ => Reps.nil) (hr.mono (by decide)) hg tk rfl (fa_cons (fe_var (i := 1) rfl (by first | exact .inl rfl | exact .inr (.inl rfl) | exact .inr (.inr rfl))) (fa_cons (fe_var (i := 2) rfl (by first | exact .inl rfl | exact .inr (.inl rfl) | exact .inr (.inr rfl))) fa_nil)))))))) (fb_one (fs_ret fe_bl)) fb_nil) (fb_one (fs_if (ft_of (fw_or (ft_neI T.nf_Book T.ne_Book T.oc_Book.hm T.mt_Book___eq__.at_ T.mt_Book___eq__.fn T.w_Book___eq__ (hr.mono (by decide)) hg T.bd_Book___eq__ rfl (fe_of (fv_meth T.cl_Book T.mt_Book_changed T.w_Book_changed T.bd_Book_changed .nil (fun _ => Reps.nil) (hr.mono (by decide)) hg tk rfl (fe_ix (fe_var (i := 8) rfl (by first | exact .inl rfl | exact .inr (.inl rfl) | exact .inr (.inr rfl))) fe_int) (fa_cons (fe_var (i := 4) rfl (by first | exact .inl rfl | exact .inr (.inl rfl) | exact .inr (.inr rfl))) (fa_cons (fe_ix (fe_var (i := 2) rfl (by first | exact .inl rfl | exact .inr (.inl rfl) | exact .inr (.inr rfl))) (fe_var (i := 4) rfl (by first | exact .inl rfl | exact .inr (.inl rfl) | exact .inr (.inr rfl)))) fa_nil)))) (fe_var (i := 3) rfl (by first | exact .inl rfl | exact .inr (.inl rfl) | exact .inr (.inr rfl)))) (fw_or1 (ft_neI T.nf_Book T.ne_Book T.oc_Book.hm T.mt_Book___eq__.at_ T.mt_Book___eq__.fn T.w_Book___eq__ (hr.mono (by decide)) hg T.bd_Book___eq__ rfl (fe_of (fv_meth T.cl_Book T.mt_Book_changed T.w_Book_changed T.bd_Book_changed .nil (fun _ => Reps.nil) (hr.mono (by decide)) hg tk rfl (fe_var (i := 3) rfl (by first | exact .inl rfl | exact .inr (.inl rfl) | exact .inr (.inr rfl))) (fa_cons (fe_var (i := 4) rfl (by first | exact .inl rfl | exact .inr (.inl rfl) | exact .inr (.inr rfl))) (fa_cons (fe_ix (fe_var (i := 2) rfl (by first | exact .inl rfl | exact .inr (.inl rfl) | exact .inr (.inr rfl))) (fe_var (i := 4) rfl (by first | exact .inl rfl | exact .inr (.inl rfl) | exact .inr (.inr rfl)))) fa_nil)))) (fe_var (i := 3) rfl (by first | exact .inl rfl | exact .inr (.inl rfl) | exact .inr (.inr rfl))))))) (fb_one (fs_ret fe_bl)) fb_nil))))))))) (fb_one (fs_ret fe_bl)))))
theorem TX.f__law_stock (T : TX K mg) : FunD K "_law_stock" "_law_stock" (defArgs (top 31)) (defBody (top 31)) (defScope (top 31)) [] [] (He.ga K "_law_stock") (fdOf K (He.ga K "_law_stock")) := T.t.t.fund 26 (d := d__law_stock) rfl
theorem TX.g__law_stock (T : TX K mg) : mg "_law_stock" = some (.ref (He.ga K "_law_stock")) := T.t.t.glo 21 rfl
theorem TX.k__law_stock (T : TX K mg) : PySem.W.keepIn K (.ref (He.ga K "_law_stock")) = true := T.f__law_stock.kp
theorem TX.bd__law_stock (T : TX K mg) : Binds K (fdOf K (He.ga K "_law_stock")) ["_law_cells", "_law_k"] [] := FunD.bindsN T.f__law_stock fun _ _ _ _ _ _ us hl => match us, hl with | [_, _], _ => rfl
theorem sc__law_stock : FnScope ["_law_cells", "_law_k", "_law_cell", "_law_mixed", "_law_part"] ["_law_cells", "_law_k"] (defScope (top 31)) := ⟨rfl, rfl, rfl, by decide +kernel, rfl, by decide +kernel, by decide +kernel⟩
theorem TX.w__law_stock (T : TX K mg) : FnG P w K mg base (L2.CX P w) 1 (He.ga K "_law_stock") (fdOf K (He.ga K "_law_stock")) ["_law_cells", "_law_k"] (spL K ["_law_cells", "_law_k"] none PF._law_stock_F) :=
  fn_F (N := ["_law_cells", "_law_k", "_law_cell", "_law_mixed", "_law_part"]) (k := 0) (b := none) (bd := PF._law_stock_b) T.f__law_stock sc__law_stock fun cdv A outer s H E hr hg tk hp =>
    (fb_cons (fs_asg (i := 2) (fv_e (fe_if (ft_lt (fe_var (i := 1) rfl (by first | exact .inl rfl | exact .inr (.inl rfl) | exact .inr (.inr rfl))) (fe_len (T.b_len) (fe_var (i := 0) rfl (by first | exact .inl rfl | exact .inr (.inl rfl) | exact .inr (.inr rfl))))) (fe_ix (fe_var (i := 0) rfl (by first | exact .inl rfl | exact .inr (.inl rfl) | exact .inr (.inr rfl))) (fe_var (i := 1) rfl (by first | exact .inl rfl | exact .inr (.inl rfl) | exact .inr (.inr rfl)))) fe_int)) sc__law_stock.nd rfl (by first | exact .inl rfl | exact .inr rfl)) (fb_cons (fs_asg (i := 3) (fv_add fe_int (fe_mul fe_int (fe_var (i := 1) rfl (by first | exact .inl rfl | exact .inr (.inl rfl) | exact .inr (.inr rfl))))) sc__law_stock.nd rfl (by first | exact .inl rfl | exact .inr rfl)) (fb_cons (fs_for rfl hp (fi_any (fe_add (fe_sl (fe_var (i := 0) rfl (by first | exact .inl rfl | exact .inr (.inl rfl) | exact .inr (.inr rfl))) fo_no (fo_some fe_int)) (fe_lst (fa_cons (fe_var (i := 2) rfl (by first | exact .inl rfl | exact .inr (.inl rfl) | exact .inr (.inr rfl))) fa_nil)))) (fg_name (i := 4) sc__law_stock.nd rfl (by first | exact .inl rfl | exact .inr rfl)) (fb_one (fs_asg (i := 3) (fv_e (fe_mod (fe_int1 (T.b_int) (fe_add (fe_mul (fe_var (i := 3) rfl (by first | exact .inl rfl | exact .inr (.inl rfl) | exact .inr (.inr rfl))) fe_int) (fe_var (i := 4) rfl (by first | exact .inl rfl | exact .inr (.inl rfl) | exact .inr (.inr rfl))))) fe_int)) sc__law_stock.nd rfl (by first | exact .inl rfl | exact .inr rfl)))) (fb_one (fs_retV (fv_lst (fa_cons (fe_var (i := 3) rfl (by first | exact .inl rfl | exact .inr (.inl rfl) | exact .inr (.inr rfl))) (fa_cons (fe_if (ft_of (fw_or (ft_lt (fe_var (i := 2) rfl (by first | exact .inl rfl | exact .inr (.inl rfl) | exact .inr (.inr rfl))) fe_int) (fw_or1 (ft_gt (fe_var (i := 2) rfl (by first | exact .inl rfl | exact .inr (.inl rfl) | exact .inr (.inr rfl))) (fe_pow fe_int fe_int))))) (fe_abs (T.b_abs) (fe_var (i := 2) rfl (by first | exact .inl rfl | exact .inr (.inl rfl) | exact .inr (.inr rfl)))) fe_int) (fa_cons fe_int fa_nil)))))))))
theorem TX.f_law (T : TX K mg) : FunD K "law" "law" (defArgs (top 44)) (defBody (top 44)) (defScope (top 44)) [] [] (He.ga K "law") (fdOf K (He.ga K "law")) := T.t.t.fund 27 (d := d_law) rfl
theorem TX.g_law (T : TX K mg) : mg "law" = some (.ref (He.ga K "law")) := T.t.t.glo 22 rfl
theorem TX.k_law (T : TX K mg) : PySem.W.keepIn K (.ref (He.ga K "law")) = true := T.f_law.kp
theorem TX.bd_law (T : TX K mg) : Binds K (fdOf K (He.ga K "law")) ["_law_cells"] [] := FunD.bindsN T.f_law fun _ _ _ _ _ _ us hl => match us, hl with | [_], _ => rfl
theorem sc_law : FnScope ["_law_cells", "_law_volume", "_law_told", "_law_k"] ["_law_cells"] (defScope (top 44)) := ⟨rfl, rfl, rfl, by decide +kernel, rfl, by decide +kernel, by decide +kernel⟩
theorem TX.w_law (T : TX K mg) : FnG P w K mg base (L2.CX P w) 8 (He.ga K "law") (fdOf K (He.ga K "law")) ["_law_cells"] (spL K ["_law_cells"] none PF.law_6_F) :=
  fn_F (N := ["_law_cells", "_law_volume", "_law_told", "_law_k"]) (k := 7) (b := none) (bd := PF.law_6_b) T.f_law sc_law fun cdv A outer s H E hr hg tk hp =>
    (fb_cons (fs_asg (i := 1) (fv_make T.mk_Book T.w_Book___init__ T.gc_Book (T.bd_Book___init___3).choose_spec.2 (T.bd_Book___init___3).choose_spec.1 (fun _ => Reps.nil) (hr.mono (by decide)) hg tk rfl (fa_cons fe_str (fa_cons (fe_tup (fa_cons fe_str (fa_cons fe_str (fa_cons fe_str fa_nil)))) fa_nil))) sc_law.nd rfl (by first | exact .inl rfl | exact .inr rfl)) (fb_cons (fs_asg (i := 2) (fv_lst (fa_cons (fe_of (fv_prop T.cl_Book T.pr_Book_answers T.w_Book_answers T.bd_Book_answers (hr.mono (by decide)) hg rfl (fe_of (fv_meth T.cl_Book T.mt_Book_changed T.w_Book_changed T.bd_Book_changed .nil (fun _ => Reps.nil) (hr.mono (by decide)) hg tk rfl (fe_var (i := 1) rfl (by first | exact .inl rfl | exact .inr (.inl rfl) | exact .inr (.inr rfl))) (fa_cons fe_int (fa_cons fe_str fa_nil)))))) (fa_cons (fe_of (fv_prop T.cl_Book T.pr_Book_answers T.w_Book_answers T.bd_Book_answers (hr.mono (by decide)) hg rfl (fe_of (fv_meth T.cl_Book T.mt_Book_changed T.w_Book_changed T.bd_Book_changed .nil (fun _ => Reps.nil) (hr.mono (by decide)) hg tk rfl (fe_var (i := 1) rfl (by first | exact .inl rfl | exact .inr (.inl rfl) | exact .inr (.inr rfl))) (fa_cons fe_int (fa_cons fe_str fa_nil)))))) (fa_cons (fe_of (fv_prop T.cl_Book T.pr_Book_answers T.w_Book_answers T.bd_Book_answers (hr.mono (by decide)) hg rfl (fe_var (i := 1) rfl (by first | exact .inl rfl | exact .inr (.inl rfl) | exact .inr (.inr rfl))))) fa_nil)))) sc_law.nd rfl (by first | exact .inl rfl | exact .inr rfl)) (fb_cons (fs_if (ft_ne hr.units (fe_var (i := 2) rfl (by first | exact .inl rfl | exact .inr (.inl rfl) | exact .inr (.inr rfl))) (fe_lst (fa_cons (fe_tup (fa_cons fe_str (fa_cons fe_str (fa_cons fe_str fa_nil)))) (fa_cons (fe_tup (fa_cons fe_str (fa_cons fe_str (fa_cons fe_str fa_nil)))) (fa_cons (fe_tup (fa_cons fe_str (fa_cons fe_str (fa_cons fe_str fa_nil)))) fa_nil))))) (fb_one (fs_ret fe_bl)) fb_nil) (fb_one (fs_ret (fe_all rfl (T.b_all) (fe_of (fv_lc (own := [("_law_k", 3)]) rfl sc_law.nd (fi_rng1 (T.b_range) (fa_cons (fe_max2 rfl (T.b_max) fe_int (fe_min2 rfl (T.b_min) (fe_len (T.b_len) (fe_var (i := 0) rfl (by first | exact .inl rfl | exact .inr (.inl rfl) | exact .inr (.inr rfl)))) fe_int)) fa_nil)) (blk_of rfl) (by decide) (fun s1 H1 C1 cl fp => (fg_name (i := 3) sc_law.nd rfl (by first | exact .inl rfl | exact .inr rfl))) (fun s1 H1 C1 cl fp => fts_nil) (fun s1 H1 C1 cl fp => (fe_of (fv_call1 T.w__law_right (T.g__law_right) T.k__law_right T.bd__law_right .nil (fun _ => Reps.nil) (hr.mono (by decide)) hg takes_noW rfl (fv_call T.w__law_stock (T.g__law_stock) T.k__law_stock T.bd__law_stock .nil (fun _ => Reps.nil) (hr.mono (by decide)) hg takes_noW rfl (fa_cons (fe_var (i := 0) rfl (by first | exact .inl rfl | exact .inr (.inl rfl) | exact .inr (.inr rfl))) (fa_cons (fe_var (i := 3) rfl (by first | exact .inl rfl | exact .inr (.inl rfl) | exact .inr (.inr rfl))) fa_nil))))))))))))))
end
end K14

/-! head -/
set_option Elab.async false
set_option linter.all false
set_option maxRecDepth 100000
set_option maxHeartbeats 0
namespace K14
open PySem PySem.Spec PyProof.Rows L2 FL
def loose_0 : List PySem.Str := ["_wall", "NotRight", "InvalidRow", "InvalidText", "InvalidPlace", "InvalidAnswers", "MOST_DEEDS", "MOST_ANSWERS", "is_integer", "is_between", "BETWEEN", "DEEDS", "is_row", "check_row", "deeds_of", "behind_deed", "done", "WRITER", "READER", "LETTER", "FIRST", "ANSWER", "box_begun", "check_answers", "parts_of", "Book", "_law_stock", "_law_take", "_law_by_deed", "_law_done"]
def loose_1 : List PySem.Str := ["_law_boxed", "_law_some_deed", "_law_row", "_law_first", "_law_answers", "_law_text", "_law_shown", "_law_owed", "_law_right"]
def loose : List PySem.Str := loose_0 ++ loose_1
abbrev R : PySem.W.OpenRow := PySem.W.OpenLaw.row PySem.Challenge.rw_boxthieves_k14_answers_exchanged
abbrev hk : PySem.W.Hook := hookX 7 fas fns ex dxs
def ob (s : PySem.W.SharedT) : AlX := obsXG 7 fas fns ex dxs (HandSHeadRun.getT s)
theorem ob_eq (s : PySem.W.SharedT) : ob s = hk.obs s.abs := obsXG_eq (HandSHeadRun.getT_eq s)
theorem run (w : World) : HandSHeadRun.RunEq R (PySem.W.view R.prog [44]) hk ob 3000 loose w := by
  intro os
  kernel_rfl
end K14

/-! plain law PL1 -/
set_option Elab.async false
set_option linter.all false
set_option maxRecDepth 100000
set_option maxHeartbeats 4000000
namespace PL
open PySem PySem.Spec PyProof.Rows L2 FL PF
def Sm (d : D) (k n : Nat) : Prop := ∃ p : PyData, d.py = some p ∧ p.canLay0 = true ∧ p.showable = true ∧ p.hasDict = false ∧ p.depth ≤ k ∧ p.shown.length ≤ n
theorem Sm.mono {d : D} {k n k' n' : Nat} (h : Sm d k n) (h1 : k ≤ k') (h2 : n ≤ n') : Sm d k' n' := by
  obtain ⟨p, a, b, c, e, f, g⟩ := h
  exact ⟨p, a, b, c, e, by omega, by omega⟩
theorem Sm.non : Sm .non 0 4 := ⟨.none, rfl, rfl, rfl, rfl, Nat.le_refl _, by decide +kernel⟩
theorem Sm.bl {b : Bool} : Sm (.bl b) 0 5 := ⟨.bool b, rfl, rfl, rfl, rfl, Nat.le_refl _, by cases b <;> decide +kernel⟩
theorem Sm.str {x : Str} {m : Nat} (h : PyData.strOk x = true) (hl : x.length ≤ m) : Sm (.str x) 0 (10 * m + 2) := by
  refine ⟨.str x, rfl, h, rfl, rfl, Nat.le_refl _, ?_⟩
  have h2 : ∀ c ∈ x.cps.toList, c < 16 ^ 8 := fun c hc => by
    have := Array.all_eq_true_iff_forall_mem.mp (show x.cps.all (· < 0x110000) = true from h) c (Array.mem_toList_iff.mp hc)
    have := of_decide_eq_true this
    omega
  have := StrLaws.reprText_len x h2
  show (reprText x).length ≤ _
  omega
theorem str_len_app (x y : Str) : (x ++ y).length = x.length + y.length := by
  show (x.cps ++ y.cps).size = _
  rw [Array.size_append]; rfl
theorem shown_all {k n : Nat} : ∀ {ds : List D}, (∀ d ∈ ds, Sm d k n) → ∃ ps, D.pys ds = some ps ∧ PyData.canLayAll0 ps = true ∧ PyData.showableAll ps = true ∧ PyData.hasDictAll ps = false ∧ PyData.depthAll ps ≤ k ∧ (∀ t ∈ PyData.shownAll ps, t.length ≤ n) ∧ (PyData.shownAll ps).length = ds.length
  | [], _ => ⟨[], rfl, rfl, rfl, rfl, Nat.zero_le _, (fun t h => by simp [PyData.shownAll] at h), rfl⟩
  | d :: ds, h => by
    obtain ⟨p, a, b, c, e, f, g⟩ := h d List.mem_cons_self
    obtain ⟨ps, a', b', c', e', f', g', l'⟩ := shown_all (ds := ds) fun d hd => h d (List.mem_cons_of_mem _ hd)
    refine ⟨p :: ps, ?_, ?_, ?_, ?_, ?_, ?_, ?_⟩
    · show (D.py d).bind _ = _
      rw [a]
      show (D.pys ds).map _ = _
      rw [a']; rfl
    · simp only [PyData.canLayAll0, b, b', Bool.and_self]
    · simp only [PyData.showableAll, c, c', Bool.and_self]
    · simp only [PyData.hasDictAll, e, e', Bool.or_self]
    · simp only [PyData.depthAll]; omega
    · intro t ht
      simp only [PyData.shownAll, List.mem_cons] at ht
      rcases ht with rfl | ht
      · exact g
      · exact g' t ht
    · simp only [PyData.shownAll, List.length_cons, l']
theorem join_le (sep : Str) {n : Nat} : ∀ {ts : List Str}, (∀ t ∈ ts, t.length ≤ n) → (Str.join sep ts).length ≤ ts.length * (n + sep.length)
  | [], _ => Nat.zero_le _
  | [x], h => by
    have := h x List.mem_cons_self
    show x.length ≤ _
    simp only [List.length_cons, List.length_nil]; omega
  | x :: y :: r, h => by
    have h1 := h x List.mem_cons_self
    have h2 := join_le sep (ts := y :: r) fun t ht => h t (List.mem_cons_of_mem _ ht)
    show (x ++ sep ++ Str.join sep (y :: r)).length ≤ _
    rw [str_len_app, str_len_app, List.length_cons, Nat.succ_mul]
    omega
theorem textFrom_le {n : Nat} : ∀ (ts : List Str) (k : Nat) (acc : Str), (∀ t ∈ ts, t.length ≤ n) → (textFrom k acc ts).length ≤ acc.length + ts.length * (n + 2)
  | [], _, _, _ => by show _ ≤ _; simp [textFrom]
  | t :: r, k, acc, h => by
    have h1 := h t List.mem_cons_self
    have h2 := textFrom_le r (k + 1) (acc ++ (if k > 0 then ", " else "" : String) ++ t) fun t ht => h t (List.mem_cons_of_mem _ ht)
    rw [str_len_app, str_len_app] at h2
    have h3 : (Str.ofString (if k > 0 then ", " else "")).length ≤ 2 := by split <;> decide +kernel
    show (textFrom (k + 1) (acc ++ (if k > 0 then ", " else "" : String) ++ t) r).length ≤ _
    rw [List.length_cons, Nat.succ_mul]
    omega
theorem Sm.tup {ds : List D} {k n : Nat} (h : ∀ d ∈ ds, Sm d k n) : Sm (.tup ds) (k + 1) (ds.length * (n + 2) + 3) := by
  obtain ⟨ps, a, b, c, e, f, g, l⟩ := shown_all h
  refine ⟨.tuple ps, ?_, b, c, e, ?_, ?_⟩
  · show (D.pys ds).map _ = _
    rw [a]; rfl
  · show PyData.depthAll ps + 1 ≤ _; omega
  · show (tupleText (PyData.shownAll ps)).length ≤ _
    unfold tupleText
    rw [str_len_app, str_len_app]
    have h1 := join_le (Str.ofString ", ") g
    have h2 : (Str.ofString ", ").length = 2 := by decide +kernel
    have h3 : (Str.ofString "(").length = 1 := by decide +kernel
    have h4 : (Str.ofString (if (PyData.shownAll ps).length == 1 then ",)" else ")")).length ≤ 2 := by split <;> decide +kernel
    rw [h2, l] at h1
    omega
theorem Sm.lst {ds : List D} {k n : Nat} (h : ∀ d ∈ ds, Sm d k n) : Sm (.lst ds) (k + 1) (ds.length * (n + 2) + 3) := by
  obtain ⟨ps, a, b, c, e, f, g, l⟩ := shown_all h
  refine ⟨.list ps, ?_, b, c, e, ?_, ?_⟩
  · show (D.pys ds).map _ = _
    rw [a]; rfl
  · show PyData.depthAll ps + 1 ≤ _; omega
  · show (listText (PyData.shownAll ps)).length ≤ _
    unfold listText
    rw [str_len_app]
    have h1 := textFrom_le (PyData.shownAll ps) 0 (Str.ofString "[") g
    have h3 : (Str.ofString "[").length = 1 := by decide +kernel
    have h4 : (Str.ofString "]").length = 1 := by decide +kernel
    rw [l] at h1
    omega
/-- what is small enough is shown -/
theorem Sm.shows {d : D} {k n : Nat} (h : Sm d k n) (hk : k ≤ 60) (hn : n ≤ 16777216) : ∃ z : Str, reprD d = some (.str z) := by
  obtain ⟨p, a, b, c, e, f, g⟩ := h
  refine ⟨p.shown, ?_⟩
  unfold reprD
  rw [a]
  show (reprP p).map D.str = _
  unfold reprP
  rw [if_pos ⟨c, e, by omega, by show _ ≤ 2 ^ 24; omega⟩]
  rfl
end PL

/-! plain law PL2 -/
set_option Elab.async false
set_option linter.all false
set_option maxRecDepth 100000
set_option maxHeartbeats 4000000
namespace PL
open PySem PySem.Spec PyProof.Rows L2 FL PF
theorem cmp_inv {vs : List Nat} {b : BF} {tt : TF} {elt : EF} {I : En → Prop} {R : D → D → Prop} : ∀ (ds : List D) (acc : List D) (Γ : En), I Γ → acc.length + ds.length ≤ 16777216 →
    (∀ d ∈ ds, ∀ Γ, I Γ → ∃ Γ1 Γ2 ev Γ3 x Γ4, b d (wipeΓ Γ vs) = some Γ1 ∧ tt Γ1 = .ok true Γ2 ∧ elt Γ2 = .ok ev Γ3 ∧ frz1 ev Γ3 = some (x, Γ4) ∧ R d x ∧ I (wipeΓ Γ4 vs)) →
    ∃ xs Γ', cmpL vs b tt elt ds acc Γ = .ok (.n (.l (acc ++ xs))) Γ' ∧ Paired R ds xs ∧ I Γ'
  | [], acc, Γ, h, _, _ => ⟨[], Γ, by rw [List.append_nil]; rfl, .nil, h⟩
  | d :: ds, acc, Γ, h, hl, hs => by
    obtain ⟨Γ1, Γ2, ev, Γ3, x, Γ4, e1, e2, e3, e4, r, h'⟩ := hs d List.mem_cons_self Γ h
    rw [List.length_cons] at hl
    obtain ⟨xs, Γ', k1, k2, k3⟩ := cmp_inv (R := R) ds (acc ++ [x]) (wipeΓ Γ4 vs) h' (by rw [List.length_append, List.length_singleton]; omega) fun d hd => hs d (List.mem_cons_of_mem _ hd)
    refine ⟨x :: xs, Γ', ?_, .cons r k2, k3⟩
    have hz : acc.length < sizeLine := by show _ < 2 ^ 24; omega
    simp only [cmpL, e1, e2, e3, e4, if_pos hz, k1, List.append_assoc, List.singleton_append]
/-- a comprehension that changes nothing -/
theorem cmp_map {vs : List Nat} {b : BF} {elt : EF} {g : D → D} {Γ : En} (hw : wipeΓ Γ vs = Γ) {ds : List D} (hl : ds.length ≤ 16777216)
    (hs : ∀ d ∈ ds, ∃ Γ1, b d Γ = some Γ1 ∧ elt Γ1 = .ok (.d (g d)) Γ1 ∧ wipeΓ Γ1 vs = Γ) : cmpL vs b trueT elt ds [] Γ = .ok (.n (.l (ds.map g))) Γ := by
  obtain ⟨xs, Γ', h1, h2, h3⟩ := cmp_inv (vs := vs) (b := b) (tt := trueT) (elt := elt) (I := fun Γ' => Γ' = Γ) (R := fun d x => x = g d) ds [] Γ rfl (by simpa using hl) fun d hd Γ' e => by
    subst e
    obtain ⟨Γ1, e1, e2, e3⟩ := hs d hd
    exact ⟨Γ1, Γ1, _, Γ1, g d, Γ1, by rw [hw]; exact e1, rfl, e2, rfl, rfl, e3⟩
  subst h3
  rw [h1, List.nil_append]
  have : xs = ds.map g := by
    clear h1 hs hl
    induction h2 with
    | nil => rfl
    | cons r t ih => rw [r, ih]; rfl
  rw [this]
theorem for_inv {b : BF} {body : SF} {I : List D → En → Prop} : ∀ (ds : List D) (Γ : En), I ds Γ → (∀ d ds' Γ, I (d :: ds') Γ → ∃ Γ1, b d Γ = some Γ1 ∧ ∃ Γ2, (body Γ1 = .ok .nx Γ2 ∨ body Γ1 = .ok .ct Γ2) ∧ I ds' Γ2) →
    ∃ Γ', loopS b body ds Γ = .ok .nx Γ' ∧ I [] Γ'
  | [], Γ, h, _ => ⟨Γ, rfl, h⟩
  | d :: ds, Γ, h, hs => by
    obtain ⟨Γ1, e1, Γ2, e2, h2⟩ := hs d ds Γ h
    obtain ⟨Γ', k1, k2⟩ := for_inv ds Γ2 h2 hs
    refine ⟨Γ', ?_, k2⟩
    rcases e2 with e2 | e2 <;> simp only [loopS, e1, e2, k1]
theorem bools_map {α : Type} (g : α → Bool) : ∀ xs : List α, bools (xs.map fun a => D.bl (g a)) = some (xs.map g)
  | [] => rfl
  | x :: xs => by
    show (bools (xs.map fun a => D.bl (g a))).map _ = _
    rw [bools_map g xs]; rfl
theorem all_map {α : Type} (g : α → Bool) (xs : List α) : allD (.lst (xs.map fun a => D.bl (g a))) = some (.bl (xs.all g)) := by
  show (bools _).map _ = _
  rw [bools_map]
  show some (D.bl ((xs.map g).all id)) = _
  rw [List.all_map]; rfl
def IsName (x : Str) : Prop := 0 < x.length ∧ x.length < 9 ∧ ∀ c ∈ x.cps.toList, 97 ≤ c ∧ c ≤ 122
theorem IsName.ok {x : Str} (h : IsName x) : PyData.strOk x = true := by
  show x.cps.all (· < 0x110000) = true
  rw [Array.all_eq_true_iff_forall_mem]
  intro c hc
  have := h.2.2 c (Array.mem_toList_iff.mpr hc)
  exact decide_eq_true (by omega)
theorem letters_mem {c : Nat} : c ∈ (Str.ofString "abcdefghijklmnopqrstuvwxyz").cps.toList ↔ 97 ≤ c ∧ c ≤ 122 := by
  have e : (Str.ofString "abcdefghijklmnopqrstuvwxyz").cps.toList = [97, 98, 99, 100, 101, 102, 103, 104, 105, 106, 107, 108, 109, 110, 111, 112, 113, 114, 115, 116, 117, 118, 119, 120, 121, 122] := by decide +kernel
  rw [e]
  simp only [List.mem_cons, List.not_mem_nil, or_false]
  omega
def nameB (x : Str) : Bool := decide (0 < x.length ∧ x.length < 9) && x.cps.toList.all fun c => decide (97 ≤ c ∧ c ≤ 122)
theorem nameB_iff {x : Str} : nameB x = true ↔ IsName x := by
  unfold nameB IsName
  simp only [Bool.and_eq_true, decide_eq_true_eq, List.all_eq_true, and_assoc]
theorem is_name_ev (x : Str) (hx : x.length ≤ 16777216) : is_name_F [.str x] = .ok (.bl (nameB x)) none := by
  have hz : x.length ≤ sizeLine := by show _ ≤ 2 ^ 24; omega
  have comp : compV [1] (anyI (vE 0)) (bName 1) trueT is_name_x1 [.im (.str x), .no] = .ok (.n (.l ((x.cps.toList.map fun c => D.str ⟨#[c]⟩).map fun d => (inD d c_LETTERS).getD .non))) [.im (.str x), .no] := by
    unfold compV
    show (if noBor [Sl.im (.str x), .no] [1] = true then cmpL [1] (bName 1) trueT is_name_x1 (x.cps.toList.map fun c => D.str ⟨#[c]⟩) [] [.im (.str x), .no] else .fail) = _
    rw [if_pos (show noBor [Sl.im (.str x), Sl.no] [1] = true from rfl)]
    refine cmp_map rfl (by rw [List.length_map]; exact hx) fun d hd => ?_
    obtain ⟨c, hc, rfl⟩ := List.mem_map.mp hd
    exact ⟨_, rfl, rfl, rfl⟩
  have hall : allD (.lst ((x.cps.toList.map fun c => D.str ⟨#[c]⟩).map fun d => (inD d c_LETTERS).getD .non)) = some (.bl (x.cps.toList.all fun c => decide (97 ≤ c ∧ c ≤ 122))) := by
    rw [List.map_map]
    have : ((fun d => (inD d c_LETTERS).getD D.non) ∘ fun c => D.str ⟨#[c]⟩) = fun c => D.bl (decide (97 ≤ c ∧ c ≤ 122)) := by
      funext c
      show D.bl (decide (c ∈ (Str.ofString "abcdefghijklmnopqrstuvwxyz").cps.toList)) = _
      congr 1
      exact decide_eq_decide.mpr letters_mem
    rw [this, all_map]
  unfold is_name_F is_name_b nameB
  by_cases h1 : (0 : Int) < (x.length : Int)
  · by_cases h2 : (x.length : Int) < 9
    · have h3 : decide (0 < x.length ∧ x.length < 9) = true := decide_eq_true (by omega)
      simp -implicitDefEqProofs only [Ev.all, and_self, and_true, true_and, List.getElem?_cons_zero, List.getElem?_cons_succ, List.set_cons_zero, List.set_cons_succ, List.length_cons, List.length_nil, Option.map_some, Option.bind_some, Option.map_none, Option.bind_none, List.map_cons, List.map_nil, List.cons_append, List.nil_append, List.append_nil, Nat.reduceAdd, Nat.reduceSub, Nat.zero_add, List.replicate_succ, List.replicate_zero, if_true, if_false, reduceIte, Nat.reduceLeDiff, Nat.reduceEqDiff, Bool.not_true, Bool.not_false, decide_true, decide_false, Int.reduceLT, Int.reduceLE, Bool.false_eq_true, Bool.true_eq_false, reduceCtorEq, Bool.or_false, Bool.or_true, Bool.true_or, Bool.false_or, comp, hall, if_pos hz, h1, h2, h3, Bool.true_and]
    · have h3 : decide (0 < x.length ∧ x.length < 9) = false := decide_eq_false (by omega)
      simp -implicitDefEqProofs only [Ev.all, and_self, and_true, true_and, List.getElem?_cons_zero, List.getElem?_cons_succ, List.set_cons_zero, List.set_cons_succ, List.length_cons, List.length_nil, Option.map_some, Option.bind_some, Option.map_none, Option.bind_none, List.map_cons, List.map_nil, List.cons_append, List.nil_append, List.append_nil, Nat.reduceAdd, Nat.reduceSub, Nat.zero_add, List.replicate_succ, List.replicate_zero, if_true, if_false, reduceIte, Nat.reduceLeDiff, Nat.reduceEqDiff, Bool.not_true, Bool.not_false, decide_true, decide_false, Int.reduceLT, Int.reduceLE, Bool.false_eq_true, Bool.true_eq_false, reduceCtorEq, Bool.or_false, Bool.or_true, Bool.true_or, Bool.false_or, comp, hall, if_pos hz, h1, h2, h3, Bool.false_and]
  · have h3 : decide (0 < x.length ∧ x.length < 9) = false := decide_eq_false (by omega)
    simp -implicitDefEqProofs only [Ev.all, and_self, and_true, true_and, List.getElem?_cons_zero, List.getElem?_cons_succ, List.set_cons_zero, List.set_cons_succ, List.length_cons, List.length_nil, Option.map_some, Option.bind_some, Option.map_none, Option.bind_none, List.map_cons, List.map_nil, List.cons_append, List.nil_append, List.append_nil, Nat.reduceAdd, Nat.reduceSub, Nat.zero_add, List.replicate_succ, List.replicate_zero, if_true, if_false, reduceIte, Nat.reduceLeDiff, Nat.reduceEqDiff, Bool.not_true, Bool.not_false, decide_true, decide_false, Int.reduceLT, Int.reduceLE, Bool.false_eq_true, Bool.true_eq_false, reduceCtorEq, Bool.or_false, Bool.or_true, Bool.true_or, Bool.false_or, comp, hall, if_pos hz, h1, h3, Bool.false_and]
end PL

/-! plain law PL3 -/
set_option Elab.async false
set_option linter.all false
set_option maxRecDepth 100000
set_option maxHeartbeats 4000000
namespace PL
open PySem PySem.Spec PyProof.Rows L2 FL PF
abbrev Box := List (Bool × Str)
def kd (k : Bool) : Str := if k then "lock" else "tag"
def lay (p : Bool × Str) : D := .tup [.str (kd p.1), .str p.2]
def bx (b : Box) : List D := b.map lay
def rs : Option Box → D
  | none => .non
  | some b => .tup (bx b)
def vb (i : Fin 8) : Str := match i with
  | 0 => "lock" | 1 => "lock" | 2 => "unlock" | 3 => "tag" | 4 => "tag" | 5 => "untag" | 6 => "untag" | 7 => "untag"
def wm (i : Fin 8) : Str := match i with
  | 0 => "me" | 1 => "you" | 2 => "me" | 3 => "me" | 4 => "you" | 5 => "me" | 6 => "you" | 7 => "any"
def dT (i : Fin 8) : Str := match i with
  | 0 => "lock me" | 1 => "lock you" | 2 => "unlock me" | 3 => "tag me" | 4 => "tag you" | 5 => "untag me" | 6 => "untag you" | 7 => "untag any"
def top1 (k : Bool) (n : Str) : Box → Option Box
  | (j, o) :: r => if j = k ∧ o = n then some r else none
  | [] => none
def stp (i : Fin 8) (me you : Str) (b : Box) : Option Box := match i with
  | 0 => some ((true, me) :: b) | 1 => some ((true, you) :: b) | 2 => top1 true me b | 3 => some ((false, me) :: b) | 4 => some ((false, you) :: b) | 5 => top1 false me b | 6 => top1 false you b
  | 7 => (match b with
    | (false, _) :: r => some r
    | _ => none)
theorem inT2 {x a b : Str} : inD (.str x) (.tup [.str a, .str b]) = some (.bl (decide (x = a) || decide (x = b))) := by
  show some (D.bl (inV (.str x) [.str a, .str b])) = _
  simp only [inV, eqV, List.any_cons, List.any_nil, Bool.or_false]
  congr 2
  rw [Bool.eq_iff_iff]
  simp only [Bool.or_eq_true, beq_iff_eq, decide_eq_true_eq]
  constructor <;> (rintro (h | h) <;> simp [h])
theorem inL2 {x a b : Str} : inD (.str x) (.lst [.str a, .str b]) = some (.bl (decide (x = a) || decide (x = b))) := inT2
theorem bx_length (b : Box) : (bx b).length = b.length := List.length_map ..
theorem ne_lock_unlock : (Str.ofString "lock" = Str.ofString "unlock") = False := by decide +kernel
theorem ne_lock_tag : (Str.ofString "lock" = Str.ofString "tag") = False := by decide +kernel
theorem ne_lock_untag : (Str.ofString "lock" = Str.ofString "untag") = False := by decide +kernel
theorem ne_lock_me : (Str.ofString "lock" = Str.ofString "me") = False := by decide +kernel
theorem ne_lock_you : (Str.ofString "lock" = Str.ofString "you") = False := by decide +kernel
theorem ne_lock_any : (Str.ofString "lock" = Str.ofString "any") = False := by decide +kernel
theorem ne_unlock_lock : (Str.ofString "unlock" = Str.ofString "lock") = False := by decide +kernel
theorem ne_unlock_tag : (Str.ofString "unlock" = Str.ofString "tag") = False := by decide +kernel
theorem ne_unlock_untag : (Str.ofString "unlock" = Str.ofString "untag") = False := by decide +kernel
theorem ne_unlock_me : (Str.ofString "unlock" = Str.ofString "me") = False := by decide +kernel
theorem ne_unlock_you : (Str.ofString "unlock" = Str.ofString "you") = False := by decide +kernel
theorem ne_unlock_any : (Str.ofString "unlock" = Str.ofString "any") = False := by decide +kernel
theorem ne_tag_lock : (Str.ofString "tag" = Str.ofString "lock") = False := by decide +kernel
theorem ne_tag_unlock : (Str.ofString "tag" = Str.ofString "unlock") = False := by decide +kernel
theorem ne_tag_untag : (Str.ofString "tag" = Str.ofString "untag") = False := by decide +kernel
theorem ne_tag_me : (Str.ofString "tag" = Str.ofString "me") = False := by decide +kernel
theorem ne_tag_you : (Str.ofString "tag" = Str.ofString "you") = False := by decide +kernel
theorem ne_tag_any : (Str.ofString "tag" = Str.ofString "any") = False := by decide +kernel
theorem ne_untag_lock : (Str.ofString "untag" = Str.ofString "lock") = False := by decide +kernel
theorem ne_untag_unlock : (Str.ofString "untag" = Str.ofString "unlock") = False := by decide +kernel
theorem ne_untag_tag : (Str.ofString "untag" = Str.ofString "tag") = False := by decide +kernel
theorem ne_untag_me : (Str.ofString "untag" = Str.ofString "me") = False := by decide +kernel
theorem ne_untag_you : (Str.ofString "untag" = Str.ofString "you") = False := by decide +kernel
theorem ne_untag_any : (Str.ofString "untag" = Str.ofString "any") = False := by decide +kernel
theorem ne_me_lock : (Str.ofString "me" = Str.ofString "lock") = False := by decide +kernel
theorem ne_me_unlock : (Str.ofString "me" = Str.ofString "unlock") = False := by decide +kernel
theorem ne_me_tag : (Str.ofString "me" = Str.ofString "tag") = False := by decide +kernel
theorem ne_me_untag : (Str.ofString "me" = Str.ofString "untag") = False := by decide +kernel
theorem ne_me_you : (Str.ofString "me" = Str.ofString "you") = False := by decide +kernel
theorem ne_me_any : (Str.ofString "me" = Str.ofString "any") = False := by decide +kernel
theorem ne_you_lock : (Str.ofString "you" = Str.ofString "lock") = False := by decide +kernel
theorem ne_you_unlock : (Str.ofString "you" = Str.ofString "unlock") = False := by decide +kernel
theorem ne_you_tag : (Str.ofString "you" = Str.ofString "tag") = False := by decide +kernel
theorem ne_you_untag : (Str.ofString "you" = Str.ofString "untag") = False := by decide +kernel
theorem ne_you_me : (Str.ofString "you" = Str.ofString "me") = False := by decide +kernel
theorem ne_you_any : (Str.ofString "you" = Str.ofString "any") = False := by decide +kernel
theorem ne_any_lock : (Str.ofString "any" = Str.ofString "lock") = False := by decide +kernel
theorem ne_any_unlock : (Str.ofString "any" = Str.ofString "unlock") = False := by decide +kernel
theorem ne_any_tag : (Str.ofString "any" = Str.ofString "tag") = False := by decide +kernel
theorem ne_any_untag : (Str.ofString "any" = Str.ofString "untag") = False := by decide +kernel
theorem ne_any_me : (Str.ofString "any" = Str.ofString "me") = False := by decide +kernel
theorem ne_any_you : (Str.ofString "any" = Str.ofString "you") = False := by decide +kernel
theorem un1 : Str.ofString "un" ++ Str.ofString "lock" = Str.ofString "unlock" := by decide +kernel
theorem un2 : Str.ofString "un" ++ Str.ofString "tag" = Str.ofString "untag" := by decide +kernel
theorem lun1 : (Str.ofString "un").length + (Str.ofString "lock").length ≤ sizeLine := by decide +kernel
theorem lun2 : (Str.ofString "un").length + (Str.ofString "tag").length ≤ sizeLine := by decide +kernel
theorem kd1 : kd true = Str.ofString "lock" := rfl
theorem kd0 : kd false = Str.ofString "tag" := rfl
theorem cut1 {α : Type} (x : α) (xs : List α) : cutL (x :: xs) (some 1) none = xs := by
  unfold cutL
  have h1 : HT.sIx (x :: xs).length 0 (some 1) = 1 := by
    unfold HT.sIx
    simp
  have h2 : HT.sIx (x :: xs).length (x :: xs).length none = (x :: xs).length := rfl
  rw [h1, h2]
  simp
theorem pys_box : ∀ b : Box, (∀ p ∈ b, PyData.strOk p.2 = true) → ∃ ps, D.pys (bx b) = some ps ∧ PyData.canLayAll0 ps = true ∧ PyData.depthAll ps ≤ 1 ∧ ps.length = b.length
  | [], _ => ⟨[], rfl, rfl, Nat.zero_le _, rfl⟩
  | (k, o) :: r, h => by
    obtain ⟨ps, a, b, c, d⟩ := pys_box r fun p hp => h p (List.mem_cons_of_mem _ hp)
    refine ⟨.tuple [.str (kd k), .str o] :: ps, ?_, ?_, ?_, ?_⟩
    · show (D.pys (bx r)).map _ = _
      rw [a]; rfl
    · have h1 : PyData.strOk (kd k) = true := by cases k <;> decide +kernel
      have h2 := h (k, o) List.mem_cons_self
      simp only [PyData.canLayAll0, PyData.canLay0, h1, h2, b, Bool.and_self]
    · simp only [PyData.depthAll, PyData.depth]; omega
    · simp only [List.length_cons, d]
theorem eq_empty (b : Box) (h : ∀ p ∈ b, PyData.strOk p.2 = true) : eqD (.tup (bx b)) (.tup []) = some (.bl b.isEmpty) := by
  obtain ⟨ps, h1, h2, h3, h4⟩ := pys_box b h
  show (eqP (.tup (bx b)) (.tup [])).map D.bl = _
  have e : (D.tup (bx b)).py = some (.tuple ps) := by
    show (D.pys (bx b)).map _ = _
    rw [h1]; rfl
  have hs : SeqAt.shaped (.tuple ps) = true := by
    show (PyData.canLayAll0 ps && decide (PyData.depthAll ps + 1 ≤ 64)) = true
    rw [h2, decide_eq_true (by omega)]; rfl
  unfold eqP
  rw [e]
  show (if (SeqAt.shaped (.tuple ps) && SeqAt.shaped (.tuple [])) = true then some (PyData.eqvAll ps []) else none).map D.bl = _
  rw [hs, if_pos (by rfl)]
  cases b with
  | nil =>
    cases ps with
    | nil => rfl
    | cons _ _ => simp at h4
  | cons p r =>
    cases ps with
    | nil => simp at h4
    | cons _ _ => rfl
theorem eq_pair (a b c d : Str) (ha : PyData.strOk a = true) (hb : PyData.strOk b = true) (hc : PyData.strOk c = true) (hd : PyData.strOk d = true) : eqD (.tup [.str a, .str b]) (.tup [.str c, .str d]) = some (.bl (decide (a = c ∧ b = d))) := by
  show (eqP (.tup [.str a, .str b]) (.tup [.str c, .str d])).map D.bl = _
  have hs : ∀ x y : Str, PyData.strOk x = true → PyData.strOk y = true → SeqAt.shaped (.tuple [.str x, .str y]) = true := fun x y hx hy => by
    show ((PyData.strOk x && (PyData.strOk y && true)) && decide (1 ≤ 64)) = true
    rw [hx, hy]; rfl
  show (if (SeqAt.shaped (.tuple [.str a, .str b]) && SeqAt.shaped (.tuple [.str c, .str d])) = true then some (PyData.eqvAll [.str a, .str b] [.str c, .str d]) else none).map D.bl = _
  rw [hs a b ha hb, hs c d hc hd, if_pos (by rfl)]
  have e : ∀ x y : Str, (x == y) = decide (x = y) := fun x y => by rw [Bool.eq_iff_iff, beq_iff_eq, decide_eq_true_eq]
  simp [PyData.eqvAll, PyData.eqv, e]
theorem bx_cons (k : Bool) (o : Str) (r : Box) : bx ((k, o) :: r) = .tup [.str (kd k), .str o] :: bx r := rfl
theorem behind_deed_ev (i : Fin 8) (me you : Str) (b : Box) (hl : b.length ≤ 1000) (hn : ∀ p ∈ b, PyData.strOk p.2 = true) : behind_deed_F [.tup [.str (vb i), .str (wm i)], .str me, .str you, .tup (bx b)] = .ok (rs (stp i me you b)) none := by
  have he := eq_empty b hn
  have h1 : (bx b).length + 1 ≤ sizeLine := by rw [bx_length]; show _ ≤ 2 ^ 24; omega
  unfold behind_deed_F behind_deed_b
  match i with
  | 0 => simp -implicitDefEqProofs only [Ev.all, and_self, and_true, true_and, List.getElem?_cons_zero, List.getElem?_cons_succ, List.set_cons_zero, List.set_cons_succ, List.length_cons, List.length_nil, Option.map_some, Option.bind_some, Option.map_none, Option.bind_none, List.map_cons, List.map_nil, List.cons_append, List.nil_append, List.append_nil, Nat.reduceAdd, Nat.reduceSub, Nat.zero_add, List.replicate_succ, List.replicate_zero, if_true, if_false, reduceIte, Nat.reduceLeDiff, Nat.reduceEqDiff, Bool.not_true, Bool.not_false, decide_true, decide_false, Int.reduceLT, Int.reduceLE, Bool.false_eq_true, Bool.true_eq_false, reduceCtorEq, Bool.or_false, Bool.or_true, Bool.true_or, Bool.false_or, vb, wm, inT2, eq_self, ne_lock_unlock, ne_lock_tag, ne_lock_untag, ne_lock_me, ne_lock_you, ne_lock_any, ne_unlock_lock, ne_unlock_tag, ne_unlock_untag, ne_unlock_me, ne_unlock_you, ne_unlock_any, ne_tag_lock, ne_tag_unlock, ne_tag_untag, ne_tag_me, ne_tag_you, ne_tag_any, ne_untag_lock, ne_untag_unlock, ne_untag_tag, ne_untag_me, ne_untag_you, ne_untag_any, ne_me_lock, ne_me_unlock, ne_me_tag, ne_me_untag, ne_me_you, ne_me_any, ne_you_lock, ne_you_unlock, ne_you_tag, ne_you_untag, ne_you_me, ne_you_any, ne_any_lock, ne_any_unlock, ne_any_tag, ne_any_untag, ne_any_me, ne_any_you, if_pos h1]; rfl
  | 1 => simp -implicitDefEqProofs only [Ev.all, and_self, and_true, true_and, List.getElem?_cons_zero, List.getElem?_cons_succ, List.set_cons_zero, List.set_cons_succ, List.length_cons, List.length_nil, Option.map_some, Option.bind_some, Option.map_none, Option.bind_none, List.map_cons, List.map_nil, List.cons_append, List.nil_append, List.append_nil, Nat.reduceAdd, Nat.reduceSub, Nat.zero_add, List.replicate_succ, List.replicate_zero, if_true, if_false, reduceIte, Nat.reduceLeDiff, Nat.reduceEqDiff, Bool.not_true, Bool.not_false, decide_true, decide_false, Int.reduceLT, Int.reduceLE, Bool.false_eq_true, Bool.true_eq_false, reduceCtorEq, Bool.or_false, Bool.or_true, Bool.true_or, Bool.false_or, vb, wm, inT2, eq_self, ne_lock_unlock, ne_lock_tag, ne_lock_untag, ne_lock_me, ne_lock_you, ne_lock_any, ne_unlock_lock, ne_unlock_tag, ne_unlock_untag, ne_unlock_me, ne_unlock_you, ne_unlock_any, ne_tag_lock, ne_tag_unlock, ne_tag_untag, ne_tag_me, ne_tag_you, ne_tag_any, ne_untag_lock, ne_untag_unlock, ne_untag_tag, ne_untag_me, ne_untag_you, ne_untag_any, ne_me_lock, ne_me_unlock, ne_me_tag, ne_me_untag, ne_me_you, ne_me_any, ne_you_lock, ne_you_unlock, ne_you_tag, ne_you_untag, ne_you_me, ne_you_any, ne_any_lock, ne_any_unlock, ne_any_tag, ne_any_untag, ne_any_me, ne_any_you, if_pos h1]; rfl
  | 3 => simp -implicitDefEqProofs only [Ev.all, and_self, and_true, true_and, List.getElem?_cons_zero, List.getElem?_cons_succ, List.set_cons_zero, List.set_cons_succ, List.length_cons, List.length_nil, Option.map_some, Option.bind_some, Option.map_none, Option.bind_none, List.map_cons, List.map_nil, List.cons_append, List.nil_append, List.append_nil, Nat.reduceAdd, Nat.reduceSub, Nat.zero_add, List.replicate_succ, List.replicate_zero, if_true, if_false, reduceIte, Nat.reduceLeDiff, Nat.reduceEqDiff, Bool.not_true, Bool.not_false, decide_true, decide_false, Int.reduceLT, Int.reduceLE, Bool.false_eq_true, Bool.true_eq_false, reduceCtorEq, Bool.or_false, Bool.or_true, Bool.true_or, Bool.false_or, vb, wm, inT2, eq_self, ne_lock_unlock, ne_lock_tag, ne_lock_untag, ne_lock_me, ne_lock_you, ne_lock_any, ne_unlock_lock, ne_unlock_tag, ne_unlock_untag, ne_unlock_me, ne_unlock_you, ne_unlock_any, ne_tag_lock, ne_tag_unlock, ne_tag_untag, ne_tag_me, ne_tag_you, ne_tag_any, ne_untag_lock, ne_untag_unlock, ne_untag_tag, ne_untag_me, ne_untag_you, ne_untag_any, ne_me_lock, ne_me_unlock, ne_me_tag, ne_me_untag, ne_me_you, ne_me_any, ne_you_lock, ne_you_unlock, ne_you_tag, ne_you_untag, ne_you_me, ne_you_any, ne_any_lock, ne_any_unlock, ne_any_tag, ne_any_untag, ne_any_me, ne_any_you, if_pos h1]; rfl
  | 4 => simp -implicitDefEqProofs only [Ev.all, and_self, and_true, true_and, List.getElem?_cons_zero, List.getElem?_cons_succ, List.set_cons_zero, List.set_cons_succ, List.length_cons, List.length_nil, Option.map_some, Option.bind_some, Option.map_none, Option.bind_none, List.map_cons, List.map_nil, List.cons_append, List.nil_append, List.append_nil, Nat.reduceAdd, Nat.reduceSub, Nat.zero_add, List.replicate_succ, List.replicate_zero, if_true, if_false, reduceIte, Nat.reduceLeDiff, Nat.reduceEqDiff, Bool.not_true, Bool.not_false, decide_true, decide_false, Int.reduceLT, Int.reduceLE, Bool.false_eq_true, Bool.true_eq_false, reduceCtorEq, Bool.or_false, Bool.or_true, Bool.true_or, Bool.false_or, vb, wm, inT2, eq_self, ne_lock_unlock, ne_lock_tag, ne_lock_untag, ne_lock_me, ne_lock_you, ne_lock_any, ne_unlock_lock, ne_unlock_tag, ne_unlock_untag, ne_unlock_me, ne_unlock_you, ne_unlock_any, ne_tag_lock, ne_tag_unlock, ne_tag_untag, ne_tag_me, ne_tag_you, ne_tag_any, ne_untag_lock, ne_untag_unlock, ne_untag_tag, ne_untag_me, ne_untag_you, ne_untag_any, ne_me_lock, ne_me_unlock, ne_me_tag, ne_me_untag, ne_me_you, ne_me_any, ne_you_lock, ne_you_unlock, ne_you_tag, ne_you_untag, ne_you_me, ne_you_any, ne_any_lock, ne_any_unlock, ne_any_tag, ne_any_untag, ne_any_me, ne_any_you, if_pos h1]; rfl
  | 2 =>
    match b, he with
    | [], he => simp -implicitDefEqProofs only [Ev.all, and_self, and_true, true_and, List.getElem?_cons_zero, List.getElem?_cons_succ, List.set_cons_zero, List.set_cons_succ, List.length_cons, List.length_nil, Option.map_some, Option.bind_some, Option.map_none, Option.bind_none, List.map_cons, List.map_nil, List.cons_append, List.nil_append, List.append_nil, Nat.reduceAdd, Nat.reduceSub, Nat.zero_add, List.replicate_succ, List.replicate_zero, if_true, if_false, reduceIte, Nat.reduceLeDiff, Nat.reduceEqDiff, Bool.not_true, Bool.not_false, decide_true, decide_false, Int.reduceLT, Int.reduceLE, Bool.false_eq_true, Bool.true_eq_false, reduceCtorEq, Bool.or_false, Bool.or_true, Bool.true_or, Bool.false_or, vb, wm, inT2, eq_self, ne_lock_unlock, ne_lock_tag, ne_lock_untag, ne_lock_me, ne_lock_you, ne_lock_any, ne_unlock_lock, ne_unlock_tag, ne_unlock_untag, ne_unlock_me, ne_unlock_you, ne_unlock_any, ne_tag_lock, ne_tag_unlock, ne_tag_untag, ne_tag_me, ne_tag_you, ne_tag_any, ne_untag_lock, ne_untag_unlock, ne_untag_tag, ne_untag_me, ne_untag_you, ne_untag_any, ne_me_lock, ne_me_unlock, ne_me_tag, ne_me_untag, ne_me_you, ne_me_any, ne_you_lock, ne_you_unlock, ne_you_tag, ne_you_untag, ne_you_me, ne_you_any, ne_any_lock, ne_any_unlock, ne_any_tag, ne_any_untag, ne_any_me, ne_any_you, he, List.isEmpty_nil]; rfl
    | (true, o) :: r, he =>
      simp only [bx_cons, kd1, List.isEmpty_cons] at he
      by_cases h : o = me
      · subst h
        simp -implicitDefEqProofs only [Ev.all, and_self, and_true, true_and, List.getElem?_cons_zero, List.getElem?_cons_succ, List.set_cons_zero, List.set_cons_succ, List.length_cons, List.length_nil, Option.map_some, Option.bind_some, Option.map_none, Option.bind_none, List.map_cons, List.map_nil, List.cons_append, List.nil_append, List.append_nil, Nat.reduceAdd, Nat.reduceSub, Nat.zero_add, List.replicate_succ, List.replicate_zero, if_true, if_false, reduceIte, Nat.reduceLeDiff, Nat.reduceEqDiff, Bool.not_true, Bool.not_false, decide_true, decide_false, Int.reduceLT, Int.reduceLE, Bool.false_eq_true, Bool.true_eq_false, reduceCtorEq, Bool.or_false, Bool.or_true, Bool.true_or, Bool.false_or, vb, wm, inT2, eq_self, ne_lock_unlock, ne_lock_tag, ne_lock_untag, ne_lock_me, ne_lock_you, ne_lock_any, ne_unlock_lock, ne_unlock_tag, ne_unlock_untag, ne_unlock_me, ne_unlock_you, ne_unlock_any, ne_tag_lock, ne_tag_unlock, ne_tag_untag, ne_tag_me, ne_tag_you, ne_tag_any, ne_untag_lock, ne_untag_unlock, ne_untag_tag, ne_untag_me, ne_untag_you, ne_untag_any, ne_me_lock, ne_me_unlock, ne_me_tag, ne_me_untag, ne_me_you, ne_me_any, ne_you_lock, ne_you_unlock, ne_you_tag, ne_you_untag, ne_you_me, ne_you_any, ne_any_lock, ne_any_unlock, ne_any_tag, ne_any_untag, ne_any_me, ne_any_you, he, List.isEmpty_cons, bx_cons, kd1, un1, lun1, cut1, stp, top1, and_self, rs]
      · simp -implicitDefEqProofs only [Ev.all, and_self, and_true, true_and, List.getElem?_cons_zero, List.getElem?_cons_succ, List.set_cons_zero, List.set_cons_succ, List.length_cons, List.length_nil, Option.map_some, Option.bind_some, Option.map_none, Option.bind_none, List.map_cons, List.map_nil, List.cons_append, List.nil_append, List.append_nil, Nat.reduceAdd, Nat.reduceSub, Nat.zero_add, List.replicate_succ, List.replicate_zero, if_true, if_false, reduceIte, Nat.reduceLeDiff, Nat.reduceEqDiff, Bool.not_true, Bool.not_false, decide_true, decide_false, Int.reduceLT, Int.reduceLE, Bool.false_eq_true, Bool.true_eq_false, reduceCtorEq, Bool.or_false, Bool.or_true, Bool.true_or, Bool.false_or, vb, wm, inT2, eq_self, ne_lock_unlock, ne_lock_tag, ne_lock_untag, ne_lock_me, ne_lock_you, ne_lock_any, ne_unlock_lock, ne_unlock_tag, ne_unlock_untag, ne_unlock_me, ne_unlock_you, ne_unlock_any, ne_tag_lock, ne_tag_unlock, ne_tag_untag, ne_tag_me, ne_tag_you, ne_tag_any, ne_untag_lock, ne_untag_unlock, ne_untag_tag, ne_untag_me, ne_untag_you, ne_untag_any, ne_me_lock, ne_me_unlock, ne_me_tag, ne_me_untag, ne_me_you, ne_me_any, ne_you_lock, ne_you_unlock, ne_you_tag, ne_you_untag, ne_you_me, ne_you_any, ne_any_lock, ne_any_unlock, ne_any_tag, ne_any_untag, ne_any_me, ne_any_you, he, List.isEmpty_cons, bx_cons, kd1, un1, lun1, cut1, h, stp, top1, and_false, rs]
    | (false, o) :: r, he =>
      simp only [bx_cons, kd0, List.isEmpty_cons] at he
      simp -implicitDefEqProofs only [Ev.all, and_self, and_true, true_and, List.getElem?_cons_zero, List.getElem?_cons_succ, List.set_cons_zero, List.set_cons_succ, List.length_cons, List.length_nil, Option.map_some, Option.bind_some, Option.map_none, Option.bind_none, List.map_cons, List.map_nil, List.cons_append, List.nil_append, List.append_nil, Nat.reduceAdd, Nat.reduceSub, Nat.zero_add, List.replicate_succ, List.replicate_zero, if_true, if_false, reduceIte, Nat.reduceLeDiff, Nat.reduceEqDiff, Bool.not_true, Bool.not_false, decide_true, decide_false, Int.reduceLT, Int.reduceLE, Bool.false_eq_true, Bool.true_eq_false, reduceCtorEq, Bool.or_false, Bool.or_true, Bool.true_or, Bool.false_or, vb, wm, inT2, eq_self, ne_lock_unlock, ne_lock_tag, ne_lock_untag, ne_lock_me, ne_lock_you, ne_lock_any, ne_unlock_lock, ne_unlock_tag, ne_unlock_untag, ne_unlock_me, ne_unlock_you, ne_unlock_any, ne_tag_lock, ne_tag_unlock, ne_tag_untag, ne_tag_me, ne_tag_you, ne_tag_any, ne_untag_lock, ne_untag_unlock, ne_untag_tag, ne_untag_me, ne_untag_you, ne_untag_any, ne_me_lock, ne_me_unlock, ne_me_tag, ne_me_untag, ne_me_you, ne_me_any, ne_you_lock, ne_you_unlock, ne_you_tag, ne_you_untag, ne_you_me, ne_you_any, ne_any_lock, ne_any_unlock, ne_any_tag, ne_any_untag, ne_any_me, ne_any_you, he, List.isEmpty_cons, bx_cons, kd0, un2, lun2, cut1, stp, top1, false_and, rs]
  | 5 =>
    match b, he with
    | [], he => simp -implicitDefEqProofs only [Ev.all, and_self, and_true, true_and, List.getElem?_cons_zero, List.getElem?_cons_succ, List.set_cons_zero, List.set_cons_succ, List.length_cons, List.length_nil, Option.map_some, Option.bind_some, Option.map_none, Option.bind_none, List.map_cons, List.map_nil, List.cons_append, List.nil_append, List.append_nil, Nat.reduceAdd, Nat.reduceSub, Nat.zero_add, List.replicate_succ, List.replicate_zero, if_true, if_false, reduceIte, Nat.reduceLeDiff, Nat.reduceEqDiff, Bool.not_true, Bool.not_false, decide_true, decide_false, Int.reduceLT, Int.reduceLE, Bool.false_eq_true, Bool.true_eq_false, reduceCtorEq, Bool.or_false, Bool.or_true, Bool.true_or, Bool.false_or, vb, wm, inT2, eq_self, ne_lock_unlock, ne_lock_tag, ne_lock_untag, ne_lock_me, ne_lock_you, ne_lock_any, ne_unlock_lock, ne_unlock_tag, ne_unlock_untag, ne_unlock_me, ne_unlock_you, ne_unlock_any, ne_tag_lock, ne_tag_unlock, ne_tag_untag, ne_tag_me, ne_tag_you, ne_tag_any, ne_untag_lock, ne_untag_unlock, ne_untag_tag, ne_untag_me, ne_untag_you, ne_untag_any, ne_me_lock, ne_me_unlock, ne_me_tag, ne_me_untag, ne_me_you, ne_me_any, ne_you_lock, ne_you_unlock, ne_you_tag, ne_you_untag, ne_you_me, ne_you_any, ne_any_lock, ne_any_unlock, ne_any_tag, ne_any_untag, ne_any_me, ne_any_you, he, List.isEmpty_nil]; rfl
    | (false, o) :: r, he =>
      simp only [bx_cons, kd0, List.isEmpty_cons] at he
      by_cases h : o = me
      · subst h
        simp -implicitDefEqProofs only [Ev.all, and_self, and_true, true_and, List.getElem?_cons_zero, List.getElem?_cons_succ, List.set_cons_zero, List.set_cons_succ, List.length_cons, List.length_nil, Option.map_some, Option.bind_some, Option.map_none, Option.bind_none, List.map_cons, List.map_nil, List.cons_append, List.nil_append, List.append_nil, Nat.reduceAdd, Nat.reduceSub, Nat.zero_add, List.replicate_succ, List.replicate_zero, if_true, if_false, reduceIte, Nat.reduceLeDiff, Nat.reduceEqDiff, Bool.not_true, Bool.not_false, decide_true, decide_false, Int.reduceLT, Int.reduceLE, Bool.false_eq_true, Bool.true_eq_false, reduceCtorEq, Bool.or_false, Bool.or_true, Bool.true_or, Bool.false_or, vb, wm, inT2, eq_self, ne_lock_unlock, ne_lock_tag, ne_lock_untag, ne_lock_me, ne_lock_you, ne_lock_any, ne_unlock_lock, ne_unlock_tag, ne_unlock_untag, ne_unlock_me, ne_unlock_you, ne_unlock_any, ne_tag_lock, ne_tag_unlock, ne_tag_untag, ne_tag_me, ne_tag_you, ne_tag_any, ne_untag_lock, ne_untag_unlock, ne_untag_tag, ne_untag_me, ne_untag_you, ne_untag_any, ne_me_lock, ne_me_unlock, ne_me_tag, ne_me_untag, ne_me_you, ne_me_any, ne_you_lock, ne_you_unlock, ne_you_tag, ne_you_untag, ne_you_me, ne_you_any, ne_any_lock, ne_any_unlock, ne_any_tag, ne_any_untag, ne_any_me, ne_any_you, he, List.isEmpty_cons, bx_cons, kd0, un2, lun2, cut1, stp, top1, and_self, rs]
      · simp -implicitDefEqProofs only [Ev.all, and_self, and_true, true_and, List.getElem?_cons_zero, List.getElem?_cons_succ, List.set_cons_zero, List.set_cons_succ, List.length_cons, List.length_nil, Option.map_some, Option.bind_some, Option.map_none, Option.bind_none, List.map_cons, List.map_nil, List.cons_append, List.nil_append, List.append_nil, Nat.reduceAdd, Nat.reduceSub, Nat.zero_add, List.replicate_succ, List.replicate_zero, if_true, if_false, reduceIte, Nat.reduceLeDiff, Nat.reduceEqDiff, Bool.not_true, Bool.not_false, decide_true, decide_false, Int.reduceLT, Int.reduceLE, Bool.false_eq_true, Bool.true_eq_false, reduceCtorEq, Bool.or_false, Bool.or_true, Bool.true_or, Bool.false_or, vb, wm, inT2, eq_self, ne_lock_unlock, ne_lock_tag, ne_lock_untag, ne_lock_me, ne_lock_you, ne_lock_any, ne_unlock_lock, ne_unlock_tag, ne_unlock_untag, ne_unlock_me, ne_unlock_you, ne_unlock_any, ne_tag_lock, ne_tag_unlock, ne_tag_untag, ne_tag_me, ne_tag_you, ne_tag_any, ne_untag_lock, ne_untag_unlock, ne_untag_tag, ne_untag_me, ne_untag_you, ne_untag_any, ne_me_lock, ne_me_unlock, ne_me_tag, ne_me_untag, ne_me_you, ne_me_any, ne_you_lock, ne_you_unlock, ne_you_tag, ne_you_untag, ne_you_me, ne_you_any, ne_any_lock, ne_any_unlock, ne_any_tag, ne_any_untag, ne_any_me, ne_any_you, he, List.isEmpty_cons, bx_cons, kd0, un2, lun2, cut1, h, stp, top1, and_false, rs]
    | (true, o) :: r, he =>
      simp only [bx_cons, kd1, List.isEmpty_cons] at he
      simp -implicitDefEqProofs only [Ev.all, and_self, and_true, true_and, List.getElem?_cons_zero, List.getElem?_cons_succ, List.set_cons_zero, List.set_cons_succ, List.length_cons, List.length_nil, Option.map_some, Option.bind_some, Option.map_none, Option.bind_none, List.map_cons, List.map_nil, List.cons_append, List.nil_append, List.append_nil, Nat.reduceAdd, Nat.reduceSub, Nat.zero_add, List.replicate_succ, List.replicate_zero, if_true, if_false, reduceIte, Nat.reduceLeDiff, Nat.reduceEqDiff, Bool.not_true, Bool.not_false, decide_true, decide_false, Int.reduceLT, Int.reduceLE, Bool.false_eq_true, Bool.true_eq_false, reduceCtorEq, Bool.or_false, Bool.or_true, Bool.true_or, Bool.false_or, vb, wm, inT2, eq_self, ne_lock_unlock, ne_lock_tag, ne_lock_untag, ne_lock_me, ne_lock_you, ne_lock_any, ne_unlock_lock, ne_unlock_tag, ne_unlock_untag, ne_unlock_me, ne_unlock_you, ne_unlock_any, ne_tag_lock, ne_tag_unlock, ne_tag_untag, ne_tag_me, ne_tag_you, ne_tag_any, ne_untag_lock, ne_untag_unlock, ne_untag_tag, ne_untag_me, ne_untag_you, ne_untag_any, ne_me_lock, ne_me_unlock, ne_me_tag, ne_me_untag, ne_me_you, ne_me_any, ne_you_lock, ne_you_unlock, ne_you_tag, ne_you_untag, ne_you_me, ne_you_any, ne_any_lock, ne_any_unlock, ne_any_tag, ne_any_untag, ne_any_me, ne_any_you, he, List.isEmpty_cons, bx_cons, kd1, un1, lun1, cut1, stp, top1, false_and, rs]
  | 6 =>
    match b, he with
    | [], he => simp -implicitDefEqProofs only [Ev.all, and_self, and_true, true_and, List.getElem?_cons_zero, List.getElem?_cons_succ, List.set_cons_zero, List.set_cons_succ, List.length_cons, List.length_nil, Option.map_some, Option.bind_some, Option.map_none, Option.bind_none, List.map_cons, List.map_nil, List.cons_append, List.nil_append, List.append_nil, Nat.reduceAdd, Nat.reduceSub, Nat.zero_add, List.replicate_succ, List.replicate_zero, if_true, if_false, reduceIte, Nat.reduceLeDiff, Nat.reduceEqDiff, Bool.not_true, Bool.not_false, decide_true, decide_false, Int.reduceLT, Int.reduceLE, Bool.false_eq_true, Bool.true_eq_false, reduceCtorEq, Bool.or_false, Bool.or_true, Bool.true_or, Bool.false_or, vb, wm, inT2, eq_self, ne_lock_unlock, ne_lock_tag, ne_lock_untag, ne_lock_me, ne_lock_you, ne_lock_any, ne_unlock_lock, ne_unlock_tag, ne_unlock_untag, ne_unlock_me, ne_unlock_you, ne_unlock_any, ne_tag_lock, ne_tag_unlock, ne_tag_untag, ne_tag_me, ne_tag_you, ne_tag_any, ne_untag_lock, ne_untag_unlock, ne_untag_tag, ne_untag_me, ne_untag_you, ne_untag_any, ne_me_lock, ne_me_unlock, ne_me_tag, ne_me_untag, ne_me_you, ne_me_any, ne_you_lock, ne_you_unlock, ne_you_tag, ne_you_untag, ne_you_me, ne_you_any, ne_any_lock, ne_any_unlock, ne_any_tag, ne_any_untag, ne_any_me, ne_any_you, he, List.isEmpty_nil]; rfl
    | (false, o) :: r, he =>
      simp only [bx_cons, kd0, List.isEmpty_cons] at he
      by_cases h : o = you
      · subst h
        simp -implicitDefEqProofs only [Ev.all, and_self, and_true, true_and, List.getElem?_cons_zero, List.getElem?_cons_succ, List.set_cons_zero, List.set_cons_succ, List.length_cons, List.length_nil, Option.map_some, Option.bind_some, Option.map_none, Option.bind_none, List.map_cons, List.map_nil, List.cons_append, List.nil_append, List.append_nil, Nat.reduceAdd, Nat.reduceSub, Nat.zero_add, List.replicate_succ, List.replicate_zero, if_true, if_false, reduceIte, Nat.reduceLeDiff, Nat.reduceEqDiff, Bool.not_true, Bool.not_false, decide_true, decide_false, Int.reduceLT, Int.reduceLE, Bool.false_eq_true, Bool.true_eq_false, reduceCtorEq, Bool.or_false, Bool.or_true, Bool.true_or, Bool.false_or, vb, wm, inT2, eq_self, ne_lock_unlock, ne_lock_tag, ne_lock_untag, ne_lock_me, ne_lock_you, ne_lock_any, ne_unlock_lock, ne_unlock_tag, ne_unlock_untag, ne_unlock_me, ne_unlock_you, ne_unlock_any, ne_tag_lock, ne_tag_unlock, ne_tag_untag, ne_tag_me, ne_tag_you, ne_tag_any, ne_untag_lock, ne_untag_unlock, ne_untag_tag, ne_untag_me, ne_untag_you, ne_untag_any, ne_me_lock, ne_me_unlock, ne_me_tag, ne_me_untag, ne_me_you, ne_me_any, ne_you_lock, ne_you_unlock, ne_you_tag, ne_you_untag, ne_you_me, ne_you_any, ne_any_lock, ne_any_unlock, ne_any_tag, ne_any_untag, ne_any_me, ne_any_you, he, List.isEmpty_cons, bx_cons, kd0, un2, lun2, cut1, stp, top1, and_self, rs]
      · simp -implicitDefEqProofs only [Ev.all, and_self, and_true, true_and, List.getElem?_cons_zero, List.getElem?_cons_succ, List.set_cons_zero, List.set_cons_succ, List.length_cons, List.length_nil, Option.map_some, Option.bind_some, Option.map_none, Option.bind_none, List.map_cons, List.map_nil, List.cons_append, List.nil_append, List.append_nil, Nat.reduceAdd, Nat.reduceSub, Nat.zero_add, List.replicate_succ, List.replicate_zero, if_true, if_false, reduceIte, Nat.reduceLeDiff, Nat.reduceEqDiff, Bool.not_true, Bool.not_false, decide_true, decide_false, Int.reduceLT, Int.reduceLE, Bool.false_eq_true, Bool.true_eq_false, reduceCtorEq, Bool.or_false, Bool.or_true, Bool.true_or, Bool.false_or, vb, wm, inT2, eq_self, ne_lock_unlock, ne_lock_tag, ne_lock_untag, ne_lock_me, ne_lock_you, ne_lock_any, ne_unlock_lock, ne_unlock_tag, ne_unlock_untag, ne_unlock_me, ne_unlock_you, ne_unlock_any, ne_tag_lock, ne_tag_unlock, ne_tag_untag, ne_tag_me, ne_tag_you, ne_tag_any, ne_untag_lock, ne_untag_unlock, ne_untag_tag, ne_untag_me, ne_untag_you, ne_untag_any, ne_me_lock, ne_me_unlock, ne_me_tag, ne_me_untag, ne_me_you, ne_me_any, ne_you_lock, ne_you_unlock, ne_you_tag, ne_you_untag, ne_you_me, ne_you_any, ne_any_lock, ne_any_unlock, ne_any_tag, ne_any_untag, ne_any_me, ne_any_you, he, List.isEmpty_cons, bx_cons, kd0, un2, lun2, cut1, h, stp, top1, and_false, rs]
    | (true, o) :: r, he =>
      simp only [bx_cons, kd1, List.isEmpty_cons] at he
      simp -implicitDefEqProofs only [Ev.all, and_self, and_true, true_and, List.getElem?_cons_zero, List.getElem?_cons_succ, List.set_cons_zero, List.set_cons_succ, List.length_cons, List.length_nil, Option.map_some, Option.bind_some, Option.map_none, Option.bind_none, List.map_cons, List.map_nil, List.cons_append, List.nil_append, List.append_nil, Nat.reduceAdd, Nat.reduceSub, Nat.zero_add, List.replicate_succ, List.replicate_zero, if_true, if_false, reduceIte, Nat.reduceLeDiff, Nat.reduceEqDiff, Bool.not_true, Bool.not_false, decide_true, decide_false, Int.reduceLT, Int.reduceLE, Bool.false_eq_true, Bool.true_eq_false, reduceCtorEq, Bool.or_false, Bool.or_true, Bool.true_or, Bool.false_or, vb, wm, inT2, eq_self, ne_lock_unlock, ne_lock_tag, ne_lock_untag, ne_lock_me, ne_lock_you, ne_lock_any, ne_unlock_lock, ne_unlock_tag, ne_unlock_untag, ne_unlock_me, ne_unlock_you, ne_unlock_any, ne_tag_lock, ne_tag_unlock, ne_tag_untag, ne_tag_me, ne_tag_you, ne_tag_any, ne_untag_lock, ne_untag_unlock, ne_untag_tag, ne_untag_me, ne_untag_you, ne_untag_any, ne_me_lock, ne_me_unlock, ne_me_tag, ne_me_untag, ne_me_you, ne_me_any, ne_you_lock, ne_you_unlock, ne_you_tag, ne_you_untag, ne_you_me, ne_you_any, ne_any_lock, ne_any_unlock, ne_any_tag, ne_any_untag, ne_any_me, ne_any_you, he, List.isEmpty_cons, bx_cons, kd1, un1, lun1, cut1, stp, top1, false_and, rs]
  | 7 =>
    match b, he with
    | [], he => simp -implicitDefEqProofs only [Ev.all, and_self, and_true, true_and, List.getElem?_cons_zero, List.getElem?_cons_succ, List.set_cons_zero, List.set_cons_succ, List.length_cons, List.length_nil, Option.map_some, Option.bind_some, Option.map_none, Option.bind_none, List.map_cons, List.map_nil, List.cons_append, List.nil_append, List.append_nil, Nat.reduceAdd, Nat.reduceSub, Nat.zero_add, List.replicate_succ, List.replicate_zero, if_true, if_false, reduceIte, Nat.reduceLeDiff, Nat.reduceEqDiff, Bool.not_true, Bool.not_false, decide_true, decide_false, Int.reduceLT, Int.reduceLE, Bool.false_eq_true, Bool.true_eq_false, reduceCtorEq, Bool.or_false, Bool.or_true, Bool.true_or, Bool.false_or, vb, wm, inT2, eq_self, ne_lock_unlock, ne_lock_tag, ne_lock_untag, ne_lock_me, ne_lock_you, ne_lock_any, ne_unlock_lock, ne_unlock_tag, ne_unlock_untag, ne_unlock_me, ne_unlock_you, ne_unlock_any, ne_tag_lock, ne_tag_unlock, ne_tag_untag, ne_tag_me, ne_tag_you, ne_tag_any, ne_untag_lock, ne_untag_unlock, ne_untag_tag, ne_untag_me, ne_untag_you, ne_untag_any, ne_me_lock, ne_me_unlock, ne_me_tag, ne_me_untag, ne_me_you, ne_me_any, ne_you_lock, ne_you_unlock, ne_you_tag, ne_you_untag, ne_you_me, ne_you_any, ne_any_lock, ne_any_unlock, ne_any_tag, ne_any_untag, ne_any_me, ne_any_you, he, List.isEmpty_nil]; rfl
    | (false, o) :: r, he =>
      simp only [bx_cons, kd0, List.isEmpty_cons] at he
      simp -implicitDefEqProofs only [Ev.all, and_self, and_true, true_and, List.getElem?_cons_zero, List.getElem?_cons_succ, List.set_cons_zero, List.set_cons_succ, List.length_cons, List.length_nil, Option.map_some, Option.bind_some, Option.map_none, Option.bind_none, List.map_cons, List.map_nil, List.cons_append, List.nil_append, List.append_nil, Nat.reduceAdd, Nat.reduceSub, Nat.zero_add, List.replicate_succ, List.replicate_zero, if_true, if_false, reduceIte, Nat.reduceLeDiff, Nat.reduceEqDiff, Bool.not_true, Bool.not_false, decide_true, decide_false, Int.reduceLT, Int.reduceLE, Bool.false_eq_true, Bool.true_eq_false, reduceCtorEq, Bool.or_false, Bool.or_true, Bool.true_or, Bool.false_or, vb, wm, inT2, eq_self, ne_lock_unlock, ne_lock_tag, ne_lock_untag, ne_lock_me, ne_lock_you, ne_lock_any, ne_unlock_lock, ne_unlock_tag, ne_unlock_untag, ne_unlock_me, ne_unlock_you, ne_unlock_any, ne_tag_lock, ne_tag_unlock, ne_tag_untag, ne_tag_me, ne_tag_you, ne_tag_any, ne_untag_lock, ne_untag_unlock, ne_untag_tag, ne_untag_me, ne_untag_you, ne_untag_any, ne_me_lock, ne_me_unlock, ne_me_tag, ne_me_untag, ne_me_you, ne_me_any, ne_you_lock, ne_you_unlock, ne_you_tag, ne_you_untag, ne_you_me, ne_you_any, ne_any_lock, ne_any_unlock, ne_any_tag, ne_any_untag, ne_any_me, ne_any_you, he, List.isEmpty_cons, bx_cons, kd0, un2, lun2, cut1, stp, rs]
    | (true, o) :: r, he =>
      simp only [bx_cons, kd1, List.isEmpty_cons] at he
      simp -implicitDefEqProofs only [Ev.all, and_self, and_true, true_and, List.getElem?_cons_zero, List.getElem?_cons_succ, List.set_cons_zero, List.set_cons_succ, List.length_cons, List.length_nil, Option.map_some, Option.bind_some, Option.map_none, Option.bind_none, List.map_cons, List.map_nil, List.cons_append, List.nil_append, List.append_nil, Nat.reduceAdd, Nat.reduceSub, Nat.zero_add, List.replicate_succ, List.replicate_zero, if_true, if_false, reduceIte, Nat.reduceLeDiff, Nat.reduceEqDiff, Bool.not_true, Bool.not_false, decide_true, decide_false, Int.reduceLT, Int.reduceLE, Bool.false_eq_true, Bool.true_eq_false, reduceCtorEq, Bool.or_false, Bool.or_true, Bool.true_or, Bool.false_or, vb, wm, inT2, eq_self, ne_lock_unlock, ne_lock_tag, ne_lock_untag, ne_lock_me, ne_lock_you, ne_lock_any, ne_unlock_lock, ne_unlock_tag, ne_unlock_untag, ne_unlock_me, ne_unlock_you, ne_unlock_any, ne_tag_lock, ne_tag_unlock, ne_tag_untag, ne_tag_me, ne_tag_you, ne_tag_any, ne_untag_lock, ne_untag_unlock, ne_untag_tag, ne_untag_me, ne_untag_you, ne_untag_any, ne_me_lock, ne_me_unlock, ne_me_tag, ne_me_untag, ne_me_you, ne_me_any, ne_you_lock, ne_you_unlock, ne_you_tag, ne_you_untag, ne_you_me, ne_you_any, ne_any_lock, ne_any_unlock, ne_any_tag, ne_any_untag, ne_any_me, ne_any_you, he, List.isEmpty_cons, bx_cons, kd1, un1, lun1, cut1, stp, rs]
end PL

/-! plain law PL4 -/
set_option Elab.async false
set_option linter.all false
set_option maxRecDepth 100000
set_option maxHeartbeats 4000000
namespace PL
open PySem PySem.Spec PyProof.Rows L2 FL PF
theorem split_dT (i : Fin 8) : splitD (.str (dT i)) (.str " ") = some (.lst [.str (vb i), .str (wm i)]) := by
  have h : ∀ i : Fin 8, ((Str.ofString " ").length == 0) = false ∧ (dT i).length + 2 ≤ sizeLine ∧ Txt.split (dT i) " " = [vb i, wm i] := by decide +kernel
  obtain ⟨h1, h2, h3⟩ := h i
  show (if _ then some (D.lst ((Txt.split (dT i) " ").map D.str)) else none) = _
  rw [if_pos ⟨h1, h2⟩, h3]; rfl
theorem cut_un1 : cutD (some 2) none (.str "unlock") = some (.str "lock") := by
  show (if (Str.ofString "unlock").length ≤ sizeLine then some (D.str (cutS "unlock" (some 2) none)) else none) = _
  rw [if_pos (by decide +kernel), show cutS "unlock" (some 2) none = Str.ofString "lock" by decide +kernel]
theorem cut_un2 : cutD (some 2) none (.str "untag") = some (.str "tag") := by
  show (if (Str.ofString "untag").length ≤ sizeLine then some (D.str (cutS "untag" (some 2) none)) else none) = _
  rw [if_pos (by decide +kernel), show cutS "untag" (some 2) none = Str.ofString "tag" by decide +kernel]
theorem by_deed_ev (i : Fin 8) (me you : Str) (b : Box) (hl : b.length ≤ 1000) (hn : ∀ p ∈ b, PyData.strOk p.2 = true) (hm : PyData.strOk me = true) (hy : PyData.strOk you = true) :
    _law_by_deed_F [.str (dT i), .str me, .str you, .tup (bx b)] = .ok (rs (stp i me you b)) none := by
  have he := eq_empty b hn
  have h1 : 1 + (bx b).length ≤ sizeLine := by rw [bx_length]; show _ ≤ 2 ^ 24; omega
  have hs := split_dT i
  have ol : PyData.strOk (Str.ofString "lock") = true := by decide +kernel
  have ot : PyData.strOk (Str.ofString "tag") = true := by decide +kernel
  unfold _law_by_deed_F _law_by_deed_b
  match i, hs with
  | 0, hs => simp -implicitDefEqProofs only [Ev.all, and_self, and_true, true_and, List.getElem?_cons_zero, List.getElem?_cons_succ, List.set_cons_zero, List.set_cons_succ, List.length_cons, List.length_nil, Option.map_some, Option.bind_some, Option.map_none, Option.bind_none, List.map_cons, List.map_nil, List.cons_append, List.nil_append, List.append_nil, Nat.reduceAdd, Nat.reduceSub, Nat.zero_add, List.replicate_succ, List.replicate_zero, if_true, if_false, reduceIte, Nat.reduceLeDiff, Nat.reduceEqDiff, Bool.not_true, Bool.not_false, decide_true, decide_false, Int.reduceLT, Int.reduceLE, Bool.false_eq_true, Bool.true_eq_false, reduceCtorEq, Bool.or_false, Bool.or_true, Bool.true_or, Bool.false_or, hs, vb, wm, inL2, eq_self, ne_lock_unlock, ne_lock_tag, ne_lock_untag, ne_lock_me, ne_lock_you, ne_lock_any, ne_unlock_lock, ne_unlock_tag, ne_unlock_untag, ne_unlock_me, ne_unlock_you, ne_unlock_any, ne_tag_lock, ne_tag_unlock, ne_tag_untag, ne_tag_me, ne_tag_you, ne_tag_any, ne_untag_lock, ne_untag_unlock, ne_untag_tag, ne_untag_me, ne_untag_you, ne_untag_any, ne_me_lock, ne_me_unlock, ne_me_tag, ne_me_untag, ne_me_you, ne_me_any, ne_you_lock, ne_you_unlock, ne_you_tag, ne_you_untag, ne_you_me, ne_you_any, ne_any_lock, ne_any_unlock, ne_any_tag, ne_any_untag, ne_any_me, ne_any_you, if_pos h1]; rfl
  | 1, hs => simp -implicitDefEqProofs only [Ev.all, and_self, and_true, true_and, List.getElem?_cons_zero, List.getElem?_cons_succ, List.set_cons_zero, List.set_cons_succ, List.length_cons, List.length_nil, Option.map_some, Option.bind_some, Option.map_none, Option.bind_none, List.map_cons, List.map_nil, List.cons_append, List.nil_append, List.append_nil, Nat.reduceAdd, Nat.reduceSub, Nat.zero_add, List.replicate_succ, List.replicate_zero, if_true, if_false, reduceIte, Nat.reduceLeDiff, Nat.reduceEqDiff, Bool.not_true, Bool.not_false, decide_true, decide_false, Int.reduceLT, Int.reduceLE, Bool.false_eq_true, Bool.true_eq_false, reduceCtorEq, Bool.or_false, Bool.or_true, Bool.true_or, Bool.false_or, hs, vb, wm, inL2, eq_self, ne_lock_unlock, ne_lock_tag, ne_lock_untag, ne_lock_me, ne_lock_you, ne_lock_any, ne_unlock_lock, ne_unlock_tag, ne_unlock_untag, ne_unlock_me, ne_unlock_you, ne_unlock_any, ne_tag_lock, ne_tag_unlock, ne_tag_untag, ne_tag_me, ne_tag_you, ne_tag_any, ne_untag_lock, ne_untag_unlock, ne_untag_tag, ne_untag_me, ne_untag_you, ne_untag_any, ne_me_lock, ne_me_unlock, ne_me_tag, ne_me_untag, ne_me_you, ne_me_any, ne_you_lock, ne_you_unlock, ne_you_tag, ne_you_untag, ne_you_me, ne_you_any, ne_any_lock, ne_any_unlock, ne_any_tag, ne_any_untag, ne_any_me, ne_any_you, if_pos h1]; rfl
  | 3, hs => simp -implicitDefEqProofs only [Ev.all, and_self, and_true, true_and, List.getElem?_cons_zero, List.getElem?_cons_succ, List.set_cons_zero, List.set_cons_succ, List.length_cons, List.length_nil, Option.map_some, Option.bind_some, Option.map_none, Option.bind_none, List.map_cons, List.map_nil, List.cons_append, List.nil_append, List.append_nil, Nat.reduceAdd, Nat.reduceSub, Nat.zero_add, List.replicate_succ, List.replicate_zero, if_true, if_false, reduceIte, Nat.reduceLeDiff, Nat.reduceEqDiff, Bool.not_true, Bool.not_false, decide_true, decide_false, Int.reduceLT, Int.reduceLE, Bool.false_eq_true, Bool.true_eq_false, reduceCtorEq, Bool.or_false, Bool.or_true, Bool.true_or, Bool.false_or, hs, vb, wm, inL2, eq_self, ne_lock_unlock, ne_lock_tag, ne_lock_untag, ne_lock_me, ne_lock_you, ne_lock_any, ne_unlock_lock, ne_unlock_tag, ne_unlock_untag, ne_unlock_me, ne_unlock_you, ne_unlock_any, ne_tag_lock, ne_tag_unlock, ne_tag_untag, ne_tag_me, ne_tag_you, ne_tag_any, ne_untag_lock, ne_untag_unlock, ne_untag_tag, ne_untag_me, ne_untag_you, ne_untag_any, ne_me_lock, ne_me_unlock, ne_me_tag, ne_me_untag, ne_me_you, ne_me_any, ne_you_lock, ne_you_unlock, ne_you_tag, ne_you_untag, ne_you_me, ne_you_any, ne_any_lock, ne_any_unlock, ne_any_tag, ne_any_untag, ne_any_me, ne_any_you, if_pos h1]; rfl
  | 4, hs => simp -implicitDefEqProofs only [Ev.all, and_self, and_true, true_and, List.getElem?_cons_zero, List.getElem?_cons_succ, List.set_cons_zero, List.set_cons_succ, List.length_cons, List.length_nil, Option.map_some, Option.bind_some, Option.map_none, Option.bind_none, List.map_cons, List.map_nil, List.cons_append, List.nil_append, List.append_nil, Nat.reduceAdd, Nat.reduceSub, Nat.zero_add, List.replicate_succ, List.replicate_zero, if_true, if_false, reduceIte, Nat.reduceLeDiff, Nat.reduceEqDiff, Bool.not_true, Bool.not_false, decide_true, decide_false, Int.reduceLT, Int.reduceLE, Bool.false_eq_true, Bool.true_eq_false, reduceCtorEq, Bool.or_false, Bool.or_true, Bool.true_or, Bool.false_or, hs, vb, wm, inL2, eq_self, ne_lock_unlock, ne_lock_tag, ne_lock_untag, ne_lock_me, ne_lock_you, ne_lock_any, ne_unlock_lock, ne_unlock_tag, ne_unlock_untag, ne_unlock_me, ne_unlock_you, ne_unlock_any, ne_tag_lock, ne_tag_unlock, ne_tag_untag, ne_tag_me, ne_tag_you, ne_tag_any, ne_untag_lock, ne_untag_unlock, ne_untag_tag, ne_untag_me, ne_untag_you, ne_untag_any, ne_me_lock, ne_me_unlock, ne_me_tag, ne_me_untag, ne_me_you, ne_me_any, ne_you_lock, ne_you_unlock, ne_you_tag, ne_you_untag, ne_you_me, ne_you_any, ne_any_lock, ne_any_unlock, ne_any_tag, ne_any_untag, ne_any_me, ne_any_you, if_pos h1]; rfl
  | 2, hs =>
    match b, he with
    | [], he => simp -implicitDefEqProofs only [Ev.all, and_self, and_true, true_and, List.getElem?_cons_zero, List.getElem?_cons_succ, List.set_cons_zero, List.set_cons_succ, List.length_cons, List.length_nil, Option.map_some, Option.bind_some, Option.map_none, Option.bind_none, List.map_cons, List.map_nil, List.cons_append, List.nil_append, List.append_nil, Nat.reduceAdd, Nat.reduceSub, Nat.zero_add, List.replicate_succ, List.replicate_zero, if_true, if_false, reduceIte, Nat.reduceLeDiff, Nat.reduceEqDiff, Bool.not_true, Bool.not_false, decide_true, decide_false, Int.reduceLT, Int.reduceLE, Bool.false_eq_true, Bool.true_eq_false, reduceCtorEq, Bool.or_false, Bool.or_true, Bool.true_or, Bool.false_or, hs, vb, wm, inL2, eq_self, ne_lock_unlock, ne_lock_tag, ne_lock_untag, ne_lock_me, ne_lock_you, ne_lock_any, ne_unlock_lock, ne_unlock_tag, ne_unlock_untag, ne_unlock_me, ne_unlock_you, ne_unlock_any, ne_tag_lock, ne_tag_unlock, ne_tag_untag, ne_tag_me, ne_tag_you, ne_tag_any, ne_untag_lock, ne_untag_unlock, ne_untag_tag, ne_untag_me, ne_untag_you, ne_untag_any, ne_me_lock, ne_me_unlock, ne_me_tag, ne_me_untag, ne_me_you, ne_me_any, ne_you_lock, ne_you_unlock, ne_you_tag, ne_you_untag, ne_you_me, ne_you_any, ne_any_lock, ne_any_unlock, ne_any_tag, ne_any_untag, ne_any_me, ne_any_you, he, List.isEmpty_nil]; rfl
    | (k, o) :: r, he =>
      have ho := hn (k, o) List.mem_cons_self
      have ek : PyData.strOk (kd k) = true := by cases k <;> decide +kernel
      have ep := eq_pair (kd k) o "lock" me ek ho ol hm
      simp only [bx_cons, List.isEmpty_cons] at he
      simp -implicitDefEqProofs only [Ev.all, and_self, and_true, true_and, List.getElem?_cons_zero, List.getElem?_cons_succ, List.set_cons_zero, List.set_cons_succ, List.length_cons, List.length_nil, Option.map_some, Option.bind_some, Option.map_none, Option.bind_none, List.map_cons, List.map_nil, List.cons_append, List.nil_append, List.append_nil, Nat.reduceAdd, Nat.reduceSub, Nat.zero_add, List.replicate_succ, List.replicate_zero, if_true, if_false, reduceIte, Nat.reduceLeDiff, Nat.reduceEqDiff, Bool.not_true, Bool.not_false, decide_true, decide_false, Int.reduceLT, Int.reduceLE, Bool.false_eq_true, Bool.true_eq_false, reduceCtorEq, Bool.or_false, Bool.or_true, Bool.true_or, Bool.false_or, hs, vb, wm, inL2, eq_self, ne_lock_unlock, ne_lock_tag, ne_lock_untag, ne_lock_me, ne_lock_you, ne_lock_any, ne_unlock_lock, ne_unlock_tag, ne_unlock_untag, ne_unlock_me, ne_unlock_you, ne_unlock_any, ne_tag_lock, ne_tag_unlock, ne_tag_untag, ne_tag_me, ne_tag_you, ne_tag_any, ne_untag_lock, ne_untag_unlock, ne_untag_tag, ne_untag_me, ne_untag_you, ne_untag_any, ne_me_lock, ne_me_unlock, ne_me_tag, ne_me_untag, ne_me_you, ne_me_any, ne_you_lock, ne_you_unlock, ne_you_tag, ne_you_untag, ne_you_me, ne_you_any, ne_any_lock, ne_any_unlock, ne_any_tag, ne_any_untag, ne_any_me, ne_any_you, he, bx_cons, cut_un1, cut1, ep]
      cases k with
      | true => by_cases h : o = me <;> simp only [kd1, h, eq_self, true_and, and_self, and_true, true_and, List.getElem?_cons_zero, List.getElem?_cons_succ, List.set_cons_zero, List.set_cons_succ, List.length_cons, List.length_nil, Option.map_some, Option.bind_some, Option.map_none, Option.bind_none, List.map_cons, List.map_nil, List.cons_append, List.nil_append, List.append_nil, Nat.reduceAdd, Nat.reduceSub, Nat.zero_add, List.replicate_succ, List.replicate_zero, if_true, if_false, reduceIte, Nat.reduceLeDiff, Nat.reduceEqDiff, Bool.not_true, Bool.not_false, decide_true, decide_false, Int.reduceLT, Int.reduceLE, Bool.false_eq_true, Bool.true_eq_false, reduceCtorEq, Bool.or_false, Bool.or_true, Bool.true_or, Bool.false_or, Ev.all, cut1, stp, top1, and_self, and_false, rs, bx_cons]
      | false => simp only [kd0, ne_tag_lock, false_and, and_self, and_true, true_and, List.getElem?_cons_zero, List.getElem?_cons_succ, List.set_cons_zero, List.set_cons_succ, List.length_cons, List.length_nil, Option.map_some, Option.bind_some, Option.map_none, Option.bind_none, List.map_cons, List.map_nil, List.cons_append, List.nil_append, List.append_nil, Nat.reduceAdd, Nat.reduceSub, Nat.zero_add, List.replicate_succ, List.replicate_zero, if_true, if_false, reduceIte, Nat.reduceLeDiff, Nat.reduceEqDiff, Bool.not_true, Bool.not_false, decide_true, decide_false, Int.reduceLT, Int.reduceLE, Bool.false_eq_true, Bool.true_eq_false, reduceCtorEq, Bool.or_false, Bool.or_true, Bool.true_or, Bool.false_or, Ev.all, stp, top1, rs, bx_cons]
  | 5, hs =>
    match b, he with
    | [], he => simp -implicitDefEqProofs only [Ev.all, and_self, and_true, true_and, List.getElem?_cons_zero, List.getElem?_cons_succ, List.set_cons_zero, List.set_cons_succ, List.length_cons, List.length_nil, Option.map_some, Option.bind_some, Option.map_none, Option.bind_none, List.map_cons, List.map_nil, List.cons_append, List.nil_append, List.append_nil, Nat.reduceAdd, Nat.reduceSub, Nat.zero_add, List.replicate_succ, List.replicate_zero, if_true, if_false, reduceIte, Nat.reduceLeDiff, Nat.reduceEqDiff, Bool.not_true, Bool.not_false, decide_true, decide_false, Int.reduceLT, Int.reduceLE, Bool.false_eq_true, Bool.true_eq_false, reduceCtorEq, Bool.or_false, Bool.or_true, Bool.true_or, Bool.false_or, hs, vb, wm, inL2, eq_self, ne_lock_unlock, ne_lock_tag, ne_lock_untag, ne_lock_me, ne_lock_you, ne_lock_any, ne_unlock_lock, ne_unlock_tag, ne_unlock_untag, ne_unlock_me, ne_unlock_you, ne_unlock_any, ne_tag_lock, ne_tag_unlock, ne_tag_untag, ne_tag_me, ne_tag_you, ne_tag_any, ne_untag_lock, ne_untag_unlock, ne_untag_tag, ne_untag_me, ne_untag_you, ne_untag_any, ne_me_lock, ne_me_unlock, ne_me_tag, ne_me_untag, ne_me_you, ne_me_any, ne_you_lock, ne_you_unlock, ne_you_tag, ne_you_untag, ne_you_me, ne_you_any, ne_any_lock, ne_any_unlock, ne_any_tag, ne_any_untag, ne_any_me, ne_any_you, he, List.isEmpty_nil]; rfl
    | (k, o) :: r, he =>
      have ho := hn (k, o) List.mem_cons_self
      have ek : PyData.strOk (kd k) = true := by cases k <;> decide +kernel
      have ep := eq_pair (kd k) o "tag" me ek ho ot hm
      simp only [bx_cons, List.isEmpty_cons] at he
      simp -implicitDefEqProofs only [Ev.all, and_self, and_true, true_and, List.getElem?_cons_zero, List.getElem?_cons_succ, List.set_cons_zero, List.set_cons_succ, List.length_cons, List.length_nil, Option.map_some, Option.bind_some, Option.map_none, Option.bind_none, List.map_cons, List.map_nil, List.cons_append, List.nil_append, List.append_nil, Nat.reduceAdd, Nat.reduceSub, Nat.zero_add, List.replicate_succ, List.replicate_zero, if_true, if_false, reduceIte, Nat.reduceLeDiff, Nat.reduceEqDiff, Bool.not_true, Bool.not_false, decide_true, decide_false, Int.reduceLT, Int.reduceLE, Bool.false_eq_true, Bool.true_eq_false, reduceCtorEq, Bool.or_false, Bool.or_true, Bool.true_or, Bool.false_or, hs, vb, wm, inL2, eq_self, ne_lock_unlock, ne_lock_tag, ne_lock_untag, ne_lock_me, ne_lock_you, ne_lock_any, ne_unlock_lock, ne_unlock_tag, ne_unlock_untag, ne_unlock_me, ne_unlock_you, ne_unlock_any, ne_tag_lock, ne_tag_unlock, ne_tag_untag, ne_tag_me, ne_tag_you, ne_tag_any, ne_untag_lock, ne_untag_unlock, ne_untag_tag, ne_untag_me, ne_untag_you, ne_untag_any, ne_me_lock, ne_me_unlock, ne_me_tag, ne_me_untag, ne_me_you, ne_me_any, ne_you_lock, ne_you_unlock, ne_you_tag, ne_you_untag, ne_you_me, ne_you_any, ne_any_lock, ne_any_unlock, ne_any_tag, ne_any_untag, ne_any_me, ne_any_you, he, bx_cons, cut_un2, cut1, ep]
      cases k with
      | false => by_cases h : o = me <;> simp only [kd0, h, eq_self, true_and, and_self, and_true, true_and, List.getElem?_cons_zero, List.getElem?_cons_succ, List.set_cons_zero, List.set_cons_succ, List.length_cons, List.length_nil, Option.map_some, Option.bind_some, Option.map_none, Option.bind_none, List.map_cons, List.map_nil, List.cons_append, List.nil_append, List.append_nil, Nat.reduceAdd, Nat.reduceSub, Nat.zero_add, List.replicate_succ, List.replicate_zero, if_true, if_false, reduceIte, Nat.reduceLeDiff, Nat.reduceEqDiff, Bool.not_true, Bool.not_false, decide_true, decide_false, Int.reduceLT, Int.reduceLE, Bool.false_eq_true, Bool.true_eq_false, reduceCtorEq, Bool.or_false, Bool.or_true, Bool.true_or, Bool.false_or, Ev.all, cut1, stp, top1, and_self, and_false, rs, bx_cons]
      | true => simp only [kd1, ne_lock_tag, false_and, and_self, and_true, true_and, List.getElem?_cons_zero, List.getElem?_cons_succ, List.set_cons_zero, List.set_cons_succ, List.length_cons, List.length_nil, Option.map_some, Option.bind_some, Option.map_none, Option.bind_none, List.map_cons, List.map_nil, List.cons_append, List.nil_append, List.append_nil, Nat.reduceAdd, Nat.reduceSub, Nat.zero_add, List.replicate_succ, List.replicate_zero, if_true, if_false, reduceIte, Nat.reduceLeDiff, Nat.reduceEqDiff, Bool.not_true, Bool.not_false, decide_true, decide_false, Int.reduceLT, Int.reduceLE, Bool.false_eq_true, Bool.true_eq_false, reduceCtorEq, Bool.or_false, Bool.or_true, Bool.true_or, Bool.false_or, Ev.all, stp, top1, rs, bx_cons]
  | 6, hs =>
    match b, he with
    | [], he => simp -implicitDefEqProofs only [Ev.all, and_self, and_true, true_and, List.getElem?_cons_zero, List.getElem?_cons_succ, List.set_cons_zero, List.set_cons_succ, List.length_cons, List.length_nil, Option.map_some, Option.bind_some, Option.map_none, Option.bind_none, List.map_cons, List.map_nil, List.cons_append, List.nil_append, List.append_nil, Nat.reduceAdd, Nat.reduceSub, Nat.zero_add, List.replicate_succ, List.replicate_zero, if_true, if_false, reduceIte, Nat.reduceLeDiff, Nat.reduceEqDiff, Bool.not_true, Bool.not_false, decide_true, decide_false, Int.reduceLT, Int.reduceLE, Bool.false_eq_true, Bool.true_eq_false, reduceCtorEq, Bool.or_false, Bool.or_true, Bool.true_or, Bool.false_or, hs, vb, wm, inL2, eq_self, ne_lock_unlock, ne_lock_tag, ne_lock_untag, ne_lock_me, ne_lock_you, ne_lock_any, ne_unlock_lock, ne_unlock_tag, ne_unlock_untag, ne_unlock_me, ne_unlock_you, ne_unlock_any, ne_tag_lock, ne_tag_unlock, ne_tag_untag, ne_tag_me, ne_tag_you, ne_tag_any, ne_untag_lock, ne_untag_unlock, ne_untag_tag, ne_untag_me, ne_untag_you, ne_untag_any, ne_me_lock, ne_me_unlock, ne_me_tag, ne_me_untag, ne_me_you, ne_me_any, ne_you_lock, ne_you_unlock, ne_you_tag, ne_you_untag, ne_you_me, ne_you_any, ne_any_lock, ne_any_unlock, ne_any_tag, ne_any_untag, ne_any_me, ne_any_you, he, List.isEmpty_nil]; rfl
    | (k, o) :: r, he =>
      have ho := hn (k, o) List.mem_cons_self
      have ek : PyData.strOk (kd k) = true := by cases k <;> decide +kernel
      have ep := eq_pair (kd k) o "tag" you ek ho ot hy
      simp only [bx_cons, List.isEmpty_cons] at he
      simp -implicitDefEqProofs only [Ev.all, and_self, and_true, true_and, List.getElem?_cons_zero, List.getElem?_cons_succ, List.set_cons_zero, List.set_cons_succ, List.length_cons, List.length_nil, Option.map_some, Option.bind_some, Option.map_none, Option.bind_none, List.map_cons, List.map_nil, List.cons_append, List.nil_append, List.append_nil, Nat.reduceAdd, Nat.reduceSub, Nat.zero_add, List.replicate_succ, List.replicate_zero, if_true, if_false, reduceIte, Nat.reduceLeDiff, Nat.reduceEqDiff, Bool.not_true, Bool.not_false, decide_true, decide_false, Int.reduceLT, Int.reduceLE, Bool.false_eq_true, Bool.true_eq_false, reduceCtorEq, Bool.or_false, Bool.or_true, Bool.true_or, Bool.false_or, hs, vb, wm, inL2, eq_self, ne_lock_unlock, ne_lock_tag, ne_lock_untag, ne_lock_me, ne_lock_you, ne_lock_any, ne_unlock_lock, ne_unlock_tag, ne_unlock_untag, ne_unlock_me, ne_unlock_you, ne_unlock_any, ne_tag_lock, ne_tag_unlock, ne_tag_untag, ne_tag_me, ne_tag_you, ne_tag_any, ne_untag_lock, ne_untag_unlock, ne_untag_tag, ne_untag_me, ne_untag_you, ne_untag_any, ne_me_lock, ne_me_unlock, ne_me_tag, ne_me_untag, ne_me_you, ne_me_any, ne_you_lock, ne_you_unlock, ne_you_tag, ne_you_untag, ne_you_me, ne_you_any, ne_any_lock, ne_any_unlock, ne_any_tag, ne_any_untag, ne_any_me, ne_any_you, he, bx_cons, cut_un2, cut1, ep]
      cases k with
      | false => by_cases h : o = you <;> simp only [kd0, h, eq_self, true_and, and_self, and_true, true_and, List.getElem?_cons_zero, List.getElem?_cons_succ, List.set_cons_zero, List.set_cons_succ, List.length_cons, List.length_nil, Option.map_some, Option.bind_some, Option.map_none, Option.bind_none, List.map_cons, List.map_nil, List.cons_append, List.nil_append, List.append_nil, Nat.reduceAdd, Nat.reduceSub, Nat.zero_add, List.replicate_succ, List.replicate_zero, if_true, if_false, reduceIte, Nat.reduceLeDiff, Nat.reduceEqDiff, Bool.not_true, Bool.not_false, decide_true, decide_false, Int.reduceLT, Int.reduceLE, Bool.false_eq_true, Bool.true_eq_false, reduceCtorEq, Bool.or_false, Bool.or_true, Bool.true_or, Bool.false_or, Ev.all, cut1, stp, top1, and_self, and_false, rs, bx_cons]
      | true => simp only [kd1, ne_lock_tag, false_and, and_self, and_true, true_and, List.getElem?_cons_zero, List.getElem?_cons_succ, List.set_cons_zero, List.set_cons_succ, List.length_cons, List.length_nil, Option.map_some, Option.bind_some, Option.map_none, Option.bind_none, List.map_cons, List.map_nil, List.cons_append, List.nil_append, List.append_nil, Nat.reduceAdd, Nat.reduceSub, Nat.zero_add, List.replicate_succ, List.replicate_zero, if_true, if_false, reduceIte, Nat.reduceLeDiff, Nat.reduceEqDiff, Bool.not_true, Bool.not_false, decide_true, decide_false, Int.reduceLT, Int.reduceLE, Bool.false_eq_true, Bool.true_eq_false, reduceCtorEq, Bool.or_false, Bool.or_true, Bool.true_or, Bool.false_or, Ev.all, stp, top1, rs, bx_cons]
  | 7, hs =>
    match b, he with
    | [], he => simp -implicitDefEqProofs only [Ev.all, and_self, and_true, true_and, List.getElem?_cons_zero, List.getElem?_cons_succ, List.set_cons_zero, List.set_cons_succ, List.length_cons, List.length_nil, Option.map_some, Option.bind_some, Option.map_none, Option.bind_none, List.map_cons, List.map_nil, List.cons_append, List.nil_append, List.append_nil, Nat.reduceAdd, Nat.reduceSub, Nat.zero_add, List.replicate_succ, List.replicate_zero, if_true, if_false, reduceIte, Nat.reduceLeDiff, Nat.reduceEqDiff, Bool.not_true, Bool.not_false, decide_true, decide_false, Int.reduceLT, Int.reduceLE, Bool.false_eq_true, Bool.true_eq_false, reduceCtorEq, Bool.or_false, Bool.or_true, Bool.true_or, Bool.false_or, hs, vb, wm, inL2, eq_self, ne_lock_unlock, ne_lock_tag, ne_lock_untag, ne_lock_me, ne_lock_you, ne_lock_any, ne_unlock_lock, ne_unlock_tag, ne_unlock_untag, ne_unlock_me, ne_unlock_you, ne_unlock_any, ne_tag_lock, ne_tag_unlock, ne_tag_untag, ne_tag_me, ne_tag_you, ne_tag_any, ne_untag_lock, ne_untag_unlock, ne_untag_tag, ne_untag_me, ne_untag_you, ne_untag_any, ne_me_lock, ne_me_unlock, ne_me_tag, ne_me_untag, ne_me_you, ne_me_any, ne_you_lock, ne_you_unlock, ne_you_tag, ne_you_untag, ne_you_me, ne_you_any, ne_any_lock, ne_any_unlock, ne_any_tag, ne_any_untag, ne_any_me, ne_any_you, he, List.isEmpty_nil]; rfl
    | (k, o) :: r, he =>
      simp only [bx_cons, List.isEmpty_cons] at he
      cases k with
      | false =>
        simp only [kd0] at he
        simp -implicitDefEqProofs only [Ev.all, and_self, and_true, true_and, List.getElem?_cons_zero, List.getElem?_cons_succ, List.set_cons_zero, List.set_cons_succ, List.length_cons, List.length_nil, Option.map_some, Option.bind_some, Option.map_none, Option.bind_none, List.map_cons, List.map_nil, List.cons_append, List.nil_append, List.append_nil, Nat.reduceAdd, Nat.reduceSub, Nat.zero_add, List.replicate_succ, List.replicate_zero, if_true, if_false, reduceIte, Nat.reduceLeDiff, Nat.reduceEqDiff, Bool.not_true, Bool.not_false, decide_true, decide_false, Int.reduceLT, Int.reduceLE, Bool.false_eq_true, Bool.true_eq_false, reduceCtorEq, Bool.or_false, Bool.or_true, Bool.true_or, Bool.false_or, hs, vb, wm, inL2, eq_self, ne_lock_unlock, ne_lock_tag, ne_lock_untag, ne_lock_me, ne_lock_you, ne_lock_any, ne_unlock_lock, ne_unlock_tag, ne_unlock_untag, ne_unlock_me, ne_unlock_you, ne_unlock_any, ne_tag_lock, ne_tag_unlock, ne_tag_untag, ne_tag_me, ne_tag_you, ne_tag_any, ne_untag_lock, ne_untag_unlock, ne_untag_tag, ne_untag_me, ne_untag_you, ne_untag_any, ne_me_lock, ne_me_unlock, ne_me_tag, ne_me_untag, ne_me_you, ne_me_any, ne_you_lock, ne_you_unlock, ne_you_tag, ne_you_untag, ne_you_me, ne_you_any, ne_any_lock, ne_any_unlock, ne_any_tag, ne_any_untag, ne_any_me, ne_any_you, he, bx_cons, kd0, cut1, stp, rs]
      | true =>
        simp only [kd1] at he
        simp -implicitDefEqProofs only [Ev.all, and_self, and_true, true_and, List.getElem?_cons_zero, List.getElem?_cons_succ, List.set_cons_zero, List.set_cons_succ, List.length_cons, List.length_nil, Option.map_some, Option.bind_some, Option.map_none, Option.bind_none, List.map_cons, List.map_nil, List.cons_append, List.nil_append, List.append_nil, Nat.reduceAdd, Nat.reduceSub, Nat.zero_add, List.replicate_succ, List.replicate_zero, if_true, if_false, reduceIte, Nat.reduceLeDiff, Nat.reduceEqDiff, Bool.not_true, Bool.not_false, decide_true, decide_false, Int.reduceLT, Int.reduceLE, Bool.false_eq_true, Bool.true_eq_false, reduceCtorEq, Bool.or_false, Bool.or_true, Bool.true_or, Bool.false_or, hs, vb, wm, inL2, eq_self, ne_lock_unlock, ne_lock_tag, ne_lock_untag, ne_lock_me, ne_lock_you, ne_lock_any, ne_unlock_lock, ne_unlock_tag, ne_unlock_untag, ne_unlock_me, ne_unlock_you, ne_unlock_any, ne_tag_lock, ne_tag_unlock, ne_tag_untag, ne_tag_me, ne_tag_you, ne_tag_any, ne_untag_lock, ne_untag_unlock, ne_untag_tag, ne_untag_me, ne_untag_you, ne_untag_any, ne_me_lock, ne_me_unlock, ne_me_tag, ne_me_untag, ne_me_you, ne_me_any, ne_you_lock, ne_you_unlock, ne_you_tag, ne_you_untag, ne_you_me, ne_you_any, ne_any_lock, ne_any_unlock, ne_any_tag, ne_any_untag, ne_any_me, ne_any_you, he, bx_cons, kd1, cut1, stp, rs]
end PL

/-! plain law PL5 -/
set_option Elab.async false
set_option linter.all false
set_option maxRecDepth 100000
set_option maxHeartbeats 4000000
namespace PL
open PySem PySem.Spec PyProof.Rows L2 FL PF
def BoxOk (b : Box) : Prop := ∀ p ∈ b, PyData.strOk p.2 = true
theorem stp_all {P : Str → Prop} {i : Fin 8} {me you : Str} {b b' : Box} (h : stp i me you b = some b') (hm : P me) (hy : P you) (hb : ∀ p ∈ b, P p.2) : (∀ p ∈ b', P p.2) ∧ b'.length ≤ b.length + 1 := by
  have push : ∀ k o, P o → ∀ p ∈ ((k, o) :: b : Box), P p.2 := fun k o ho p hp => by
    rcases List.mem_cons.mp hp with rfl | hp
    · exact ho
    · exact hb p hp
  have tail : ∀ k o, top1 k o b = some b' → (∀ p ∈ b', P p.2) ∧ b'.length ≤ b.length + 1 := fun k o e => by
    cases b with
    | nil => cases e
    | cons p r =>
      obtain ⟨j, x⟩ := p
      by_cases hc : j = k ∧ x = o
      · rw [show top1 k o ((j, x) :: r) = some r from if_pos hc] at e
        cases e; exact ⟨fun p hp => hb p (List.mem_cons_of_mem _ hp), by simp; omega⟩
      · rw [show top1 k o ((j, x) :: r) = none from if_neg hc] at e
        cases e
  match i with
  | 0 => cases h; exact ⟨push _ _ hm, Nat.le_refl _⟩
  | 1 => cases h; exact ⟨push _ _ hy, Nat.le_refl _⟩
  | 2 => exact tail _ _ h
  | 3 => cases h; exact ⟨push _ _ hm, Nat.le_refl _⟩
  | 4 => cases h; exact ⟨push _ _ hy, Nat.le_refl _⟩
  | 5 => exact tail _ _ h
  | 6 => exact tail _ _ h
  | 7 =>
    cases b with
    | nil => cases h
    | cons p r =>
      obtain ⟨j, x⟩ := p
      cases j with
      | true => cases h
      | false => cases h; exact ⟨fun p hp => hb p (List.mem_cons_of_mem _ hp), by simp; omega⟩
theorem stp_ok {i : Fin 8} {me you : Str} {b b' : Box} (h : stp i me you b = some b') (hm : PyData.strOk me = true) (hy : PyData.strOk you = true) (hb : BoxOk b) : BoxOk b' ∧ b'.length ≤ b.length + 1 := stp_all (P := fun x => PyData.strOk x = true) h hm hy hb
def runD : List (Fin 8) → Str → Str → Box → Option Box
  | [], _, _, b => some b
  | i :: is, me, you, b => (stp i me you b).bind (runD is me you)
def ddT (i : Fin 8) : D := .tup [.str (vb i), .str (wm i)]
theorem runD_all {P : Str → Prop} {me you : Str} (hm : P me) (hy : P you) : ∀ {is : List (Fin 8)} {b b' : Box}, runD is me you b = some b' → (∀ p ∈ b, P p.2) → (∀ p ∈ b', P p.2) ∧ b'.length ≤ b.length + is.length
  | [], b, b', h, hb => by cases h; exact ⟨hb, by simp⟩
  | i :: is, b, b', h, hb => by
    obtain ⟨b1, h1, h2⟩ := Option.bind_eq_some_iff.mp (show (stp i me you b).bind (runD is me you) = some b' from h)
    obtain ⟨k1, k2⟩ := stp_all h1 hm hy hb
    obtain ⟨k3, k4⟩ := runD_all hm hy h2 k1
    exact ⟨k3, by rw [List.length_cons]; omega⟩
theorem done_ev (me you : Str) (hm : PyData.strOk me = true) (hy : PyData.strOk you = true) : ∀ (is : List (Fin 8)) (b : Box), b.length + is.length ≤ 1000 → BoxOk b → done_F [.lst (is.map ddT), .str me, .str you, .tup (bx b)] = .ok (rs (runD is me you b)) none := by
  have main : ∀ (is : List (Fin 8)) (b : Box) (x : Sl) (L : List D), b.length + is.length ≤ 1000 → BoxOk b → ∃ Γ', loopS (bName 4) done_x1 (is.map ddT) [.im (.lst L), .im (.str me), .im (.str you), .im (.tup (bx b)), (match x with | .im d => .im d | _ => .no)] =
      (match runD is me you b with
        | some b' => .ok .nx Γ'
        | none => .ok (.rt .non) Γ') ∧ (∀ b', runD is me you b = some b' → ∃ y, Γ' = [.im (.lst L), .im (.str me), .im (.str you), .im (.tup (bx b')), y]) := by
    intro is
    induction is with
    | nil => intro b x L _ _; exact ⟨_, rfl, fun b' h => by cases h; exact ⟨_, rfl⟩⟩
    | cons i is ih =>
      intro b x L hl hb
      rw [List.length_cons] at hl
      have e := behind_deed_ev i me you b (by omega) hb
      rw [List.map_cons]
      unfold loopS
      cases hs : stp i me you b with
      | none =>
        refine ⟨[.im (.lst L), .im (.str me), .im (.str you), .im .non, .im (ddT i)], ?_, fun b' h => ?_⟩
        · rw [hs] at e
          have : runD (i :: is) me you b = none := by show (stp i me you b).bind _ = none; rw [hs]; rfl
          rw [this]
          cases x <;> simp -implicitDefEqProofs only [done_x1, Ev.all, and_self, and_true, true_and, List.getElem?_cons_zero, List.getElem?_cons_succ, List.set_cons_zero, List.set_cons_succ, List.length_cons, List.length_nil, Option.map_some, Option.bind_some, Option.map_none, Option.bind_none, List.map_cons, List.map_nil, List.cons_append, List.nil_append, List.append_nil, Nat.reduceAdd, Nat.reduceSub, Nat.zero_add, List.replicate_succ, List.replicate_zero, if_true, if_false, reduceIte, Nat.reduceLeDiff, Nat.reduceEqDiff, Bool.not_true, Bool.not_false, decide_true, decide_false, Int.reduceLT, Int.reduceLE, Bool.false_eq_true, Bool.true_eq_false, reduceCtorEq, Bool.or_false, Bool.or_true, Bool.true_or, Bool.false_or, ddT, e, rs]
        · have : runD (i :: is) me you b = none := by show (stp i me you b).bind _ = none; rw [hs]; rfl
          rw [this] at h; cases h
      | some b1 =>
        obtain ⟨h1, h2⟩ := stp_ok hs hm hy hb
        obtain ⟨Γ', k1, k2⟩ := ih b1 (.im (ddT i)) L (by omega) h1
        have er : runD (i :: is) me you b = runD is me you b1 := by show (stp i me you b).bind _ = _; rw [hs]; rfl
        refine ⟨Γ', ?_, fun b' h => k2 b' (by rw [← er]; exact h)⟩
        rw [er, ← k1]
        rw [hs] at e
        cases x <;> simp -implicitDefEqProofs only [done_x1, Ev.all, and_self, and_true, true_and, List.getElem?_cons_zero, List.getElem?_cons_succ, List.set_cons_zero, List.set_cons_succ, List.length_cons, List.length_nil, Option.map_some, Option.bind_some, Option.map_none, Option.bind_none, List.map_cons, List.map_nil, List.cons_append, List.nil_append, List.append_nil, Nat.reduceAdd, Nat.reduceSub, Nat.zero_add, List.replicate_succ, List.replicate_zero, if_true, if_false, reduceIte, Nat.reduceLeDiff, Nat.reduceEqDiff, Bool.not_true, Bool.not_false, decide_true, decide_false, Int.reduceLT, Int.reduceLE, Bool.false_eq_true, Bool.true_eq_false, reduceCtorEq, Bool.or_false, Bool.or_true, Bool.true_or, Bool.false_or, ddT, e, rs]
  intro is b hl hb
  obtain ⟨Γ', k1, k2⟩ := main is b .no (is.map ddT) hl hb
  unfold done_F done_b
  simp only [Ev.forS, Ev.all, and_self, and_true, true_and, List.getElem?_cons_zero, List.getElem?_cons_succ, List.set_cons_zero, List.set_cons_succ, List.length_cons, List.length_nil, Option.map_some, Option.bind_some, Option.map_none, Option.bind_none, List.map_cons, List.map_nil, List.cons_append, List.nil_append, List.append_nil, Nat.reduceAdd, Nat.reduceSub, Nat.zero_add, List.replicate_succ, List.replicate_zero, if_true, if_false, reduceIte, Nat.reduceLeDiff, Nat.reduceEqDiff, Bool.not_true, Bool.not_false, decide_true, decide_false, Int.reduceLT, Int.reduceLE, Bool.false_eq_true, Bool.true_eq_false, reduceCtorEq, Bool.or_false, Bool.or_true, Bool.true_or, Bool.false_or]
  simp only at k1
  rw [k1]
  cases hr : runD is me you b with
  | none => simp only [and_self, and_true, true_and, List.getElem?_cons_zero, List.getElem?_cons_succ, List.set_cons_zero, List.set_cons_succ, List.length_cons, List.length_nil, Option.map_some, Option.bind_some, Option.map_none, Option.bind_none, List.map_cons, List.map_nil, List.cons_append, List.nil_append, List.append_nil, Nat.reduceAdd, Nat.reduceSub, Nat.zero_add, List.replicate_succ, List.replicate_zero, if_true, if_false, reduceIte, Nat.reduceLeDiff, Nat.reduceEqDiff, Bool.not_true, Bool.not_false, decide_true, decide_false, Int.reduceLT, Int.reduceLE, Bool.false_eq_true, Bool.true_eq_false, reduceCtorEq, Bool.or_false, Bool.or_true, Bool.true_or, Bool.false_or, Ev.all, rs]
  | some b' =>
    obtain ⟨y, rfl⟩ := k2 b' hr
    simp -implicitDefEqProofs only [Ev.all, and_self, and_true, true_and, List.getElem?_cons_zero, List.getElem?_cons_succ, List.set_cons_zero, List.set_cons_succ, List.length_cons, List.length_nil, Option.map_some, Option.bind_some, Option.map_none, Option.bind_none, List.map_cons, List.map_nil, List.cons_append, List.nil_append, List.append_nil, Nat.reduceAdd, Nat.reduceSub, Nat.zero_add, List.replicate_succ, List.replicate_zero, if_true, if_false, reduceIte, Nat.reduceLeDiff, Nat.reduceEqDiff, Bool.not_true, Bool.not_false, decide_true, decide_false, Int.reduceLT, Int.reduceLE, Bool.false_eq_true, Bool.true_eq_false, reduceCtorEq, Bool.or_false, Bool.or_true, Bool.true_or, Bool.false_or, rs]
end PL

/-! plain law PL6 -/
set_option Elab.async false
set_option linter.all false
set_option maxRecDepth 100000
set_option maxHeartbeats 4000000
namespace PL
open PySem PySem.Spec PyProof.Rows L2 FL PF
theorem is_layer_ev (p : Bool × Str) (h : p.2.length ≤ 16777216) : is_layer_F [lay p] = .ok (.bl (nameB p.2)) none := by
  obtain ⟨k, o⟩ := p
  have hn := is_name_ev o h
  have n2 : neD (.int ((2 : Nat) : Int)) (.int 2) = some (.bl false) := rfl
  unfold is_layer_F is_layer_b lay
  cases k with
  | true => simp -implicitDefEqProofs only [Ev.all, and_self, and_true, true_and, List.getElem?_cons_zero, List.getElem?_cons_succ, List.set_cons_zero, List.set_cons_succ, List.length_cons, List.length_nil, Option.map_some, Option.bind_some, Option.map_none, Option.bind_none, List.map_cons, List.map_nil, List.cons_append, List.nil_append, List.append_nil, Nat.reduceAdd, Nat.reduceSub, Nat.zero_add, List.replicate_succ, List.replicate_zero, if_true, if_false, reduceIte, Nat.reduceLeDiff, Nat.reduceEqDiff, Bool.not_true, Bool.not_false, decide_true, decide_false, Int.reduceLT, Int.reduceLE, Bool.false_eq_true, Bool.true_eq_false, reduceCtorEq, Bool.or_false, Bool.or_true, Bool.true_or, Bool.false_or, inT2, kd1, eq_self, ne_lock_unlock, ne_lock_tag, ne_lock_untag, ne_lock_me, ne_lock_you, ne_lock_any, ne_unlock_lock, ne_unlock_tag, ne_unlock_untag, ne_unlock_me, ne_unlock_you, ne_unlock_any, ne_tag_lock, ne_tag_unlock, ne_tag_untag, ne_tag_me, ne_tag_you, ne_tag_any, ne_untag_lock, ne_untag_unlock, ne_untag_tag, ne_untag_me, ne_untag_you, ne_untag_any, ne_me_lock, ne_me_unlock, ne_me_tag, ne_me_untag, ne_me_you, ne_me_any, ne_you_lock, ne_you_unlock, ne_you_tag, ne_you_untag, ne_you_me, ne_you_any, ne_any_lock, ne_any_unlock, ne_any_tag, ne_any_untag, ne_any_me, ne_any_you, hn, n2]
  | false => simp -implicitDefEqProofs only [Ev.all, and_self, and_true, true_and, List.getElem?_cons_zero, List.getElem?_cons_succ, List.set_cons_zero, List.set_cons_succ, List.length_cons, List.length_nil, Option.map_some, Option.bind_some, Option.map_none, Option.bind_none, List.map_cons, List.map_nil, List.cons_append, List.nil_append, List.append_nil, Nat.reduceAdd, Nat.reduceSub, Nat.zero_add, List.replicate_succ, List.replicate_zero, if_true, if_false, reduceIte, Nat.reduceLeDiff, Nat.reduceEqDiff, Bool.not_true, Bool.not_false, decide_true, decide_false, Int.reduceLT, Int.reduceLE, Bool.false_eq_true, Bool.true_eq_false, reduceCtorEq, Bool.or_false, Bool.or_true, Bool.true_or, Bool.false_or, inT2, kd0, eq_self, ne_lock_unlock, ne_lock_tag, ne_lock_untag, ne_lock_me, ne_lock_you, ne_lock_any, ne_unlock_lock, ne_unlock_tag, ne_unlock_untag, ne_unlock_me, ne_unlock_you, ne_unlock_any, ne_tag_lock, ne_tag_unlock, ne_tag_untag, ne_tag_me, ne_tag_you, ne_tag_any, ne_untag_lock, ne_untag_unlock, ne_untag_tag, ne_untag_me, ne_untag_you, ne_untag_any, ne_me_lock, ne_me_unlock, ne_me_tag, ne_me_untag, ne_me_you, ne_me_any, ne_you_lock, ne_you_unlock, ne_you_tag, ne_you_untag, ne_you_me, ne_you_any, ne_any_lock, ne_any_unlock, ne_any_tag, ne_any_untag, ne_any_me, ne_any_you, hn, n2]
/-- a box that is known -/
def IsBox (b : Box) : Prop := b.length ≤ 12 ∧ ∀ p ∈ b, IsName p.2
theorem IsBox.ok {b : Box} (h : IsBox b) : BoxOk b := fun p hp => (h.2 p hp).ok
theorem is_box_ev (b : Box) (hl : b.length ≤ 1000) (h : ∀ p ∈ b, p.2.length ≤ 16777216) : is_box_F [.tup (bx b)] = .ok (.bl (decide (b.length ≤ 12) && b.all fun p => nameB p.2)) none := by
  have comp : compV [1] (anyI (vE 0)) (bName 1) trueT is_box_x1 [.im (.tup (bx b)), .no] = .ok (.n (.l (b.map fun p => D.bl (nameB p.2)))) [.im (.tup (bx b)), .no] := by
    unfold compV
    show (if noBor [Sl.im (.tup (bx b)), .no] [1] = true then cmpL [1] (bName 1) trueT is_box_x1 (bx b) [] [.im (.tup (bx b)), .no] else .fail) = _
    rw [if_pos (show noBor [Sl.im (.tup (bx b)), .no] [1] = true from rfl)]
    have := cmp_map (vs := [1]) (b := bName 1) (elt := is_box_x1) (g := fun d => match is_layer_F [d] with | .ok x _ => x | _ => .non) (Γ := [.im (.tup (bx b)), .no]) rfl (ds := bx b) (by rw [bx_length]; omega) fun d hd => by
      obtain ⟨p, hp, rfl⟩ := List.mem_map.mp hd
      have e := is_layer_ev p (h p hp)
      refine ⟨[.im (.tup (bx b)), .im (lay p)], rfl, ?_, rfl⟩
      simp -implicitDefEqProofs only [is_box_x1, Ev.all, and_self, and_true, true_and, List.getElem?_cons_zero, List.getElem?_cons_succ, List.set_cons_zero, List.set_cons_succ, List.length_cons, List.length_nil, Option.map_some, Option.bind_some, Option.map_none, Option.bind_none, List.map_cons, List.map_nil, List.cons_append, List.nil_append, List.append_nil, Nat.reduceAdd, Nat.reduceSub, Nat.zero_add, List.replicate_succ, List.replicate_zero, if_true, if_false, reduceIte, Nat.reduceLeDiff, Nat.reduceEqDiff, Bool.not_true, Bool.not_false, decide_true, decide_false, Int.reduceLT, Int.reduceLE, Bool.false_eq_true, Bool.true_eq_false, reduceCtorEq, Bool.or_false, Bool.or_true, Bool.true_or, Bool.false_or, e]
    rw [this]
    congr 3
    unfold bx
    rw [List.map_map]
    refine List.map_congr_left fun p hp => ?_
    show (match is_layer_F [lay p] with | .ok x _ => x | _ => .non) = _
    rw [is_layer_ev p (h p hp)]
  have hall := all_map (fun p : Bool × Str => nameB p.2) b
  have hb : (bx b).length = b.length := bx_length b
  unfold is_box_F is_box_b
  by_cases h1 : (b.length : Int) ≤ 12
  · have h2 : decide (b.length ≤ 12) = true := decide_eq_true (by omega)
    simp -implicitDefEqProofs only [Ev.all, and_self, and_true, true_and, List.getElem?_cons_zero, List.getElem?_cons_succ, List.set_cons_zero, List.set_cons_succ, List.length_cons, List.length_nil, Option.map_some, Option.bind_some, Option.map_none, Option.bind_none, List.map_cons, List.map_nil, List.cons_append, List.nil_append, List.append_nil, Nat.reduceAdd, Nat.reduceSub, Nat.zero_add, List.replicate_succ, List.replicate_zero, if_true, if_false, reduceIte, Nat.reduceLeDiff, Nat.reduceEqDiff, Bool.not_true, Bool.not_false, decide_true, decide_false, Int.reduceLT, Int.reduceLE, Bool.false_eq_true, Bool.true_eq_false, reduceCtorEq, Bool.or_false, Bool.or_true, Bool.true_or, Bool.false_or, comp, hall, hb, c_MOST_LAYERS, h1, h2, Bool.true_and]
  · have h2 : decide (b.length ≤ 12) = false := decide_eq_false (by omega)
    simp -implicitDefEqProofs only [Ev.all, and_self, and_true, true_and, List.getElem?_cons_zero, List.getElem?_cons_succ, List.set_cons_zero, List.set_cons_succ, List.length_cons, List.length_nil, Option.map_some, Option.bind_some, Option.map_none, Option.bind_none, List.map_cons, List.map_nil, List.cons_append, List.nil_append, List.append_nil, Nat.reduceAdd, Nat.reduceSub, Nat.zero_add, List.replicate_succ, List.replicate_zero, if_true, if_false, reduceIte, Nat.reduceLeDiff, Nat.reduceEqDiff, Bool.not_true, Bool.not_false, decide_true, decide_false, Int.reduceLT, Int.reduceLE, Bool.false_eq_true, Bool.true_eq_false, reduceCtorEq, Bool.or_false, Bool.or_true, Bool.true_or, Bool.false_or, hb, c_MOST_LAYERS, h1, h2, Bool.false_and]
def rowT (is : List (Fin 8)) : Str := Txt.join "; " (is.map dT)
theorem split_row {is : List (Fin 8)} (h : is ≠ []) : Txt.split (rowT is) "; " = is.map dT := by
  refine TL.split_join (y := "; ") (s := 59) (S := [32]) (by decide +kernel) (by decide +kernel) (by simpa using h) fun p hp => ?_
  obtain ⟨i, _, rfl⟩ := List.mem_map.mp hp
  have : ∀ i : Fin 8, 59 ∉ TL.tl (dT i) := by decide +kernel
  exact this i
theorem row_len (is : List (Fin 8)) : (rowT is).length ≤ is.length * 11 := by
  unfold rowT
  rw [TL.join_eq]
  have h : ∀ i : Fin 8, (dT i).length ≤ 9 := by decide +kernel
  have := join_le (Str.ofString "; ") (ts := is.map dT) (n := 9) fun t ht => by
    obtain ⟨i, _, rfl⟩ := List.mem_map.mp ht
    exact h i
  rw [List.length_map, show (Str.ofString "; ").length = 2 by decide +kernel] at this
  exact this
theorem splitD_row {is : List (Fin 8)} (h : is ≠ []) (hl : is.length ≤ 1000) : splitD (.str (rowT is)) c_BETWEEN = some (.lst (is.map fun i => D.str (dT i))) := by
  have := row_len is
  show (if ((Str.ofString "; ").length == 0) = false ∧ (rowT is).length + 2 ≤ sizeLine then some (D.lst ((Txt.split (rowT is) "; ").map D.str)) else none) = _
  rw [if_pos ⟨by decide +kernel, by show _ ≤ 2 ^ 24; omega⟩, split_row h, List.map_map]; rfl
theorem in_deeds (i : Fin 8) : inD (.str (dT i)) c_DEEDS = some (.bl true) := by
  have h : ∀ i : Fin 8, inV (.str (dT i)) [.str "lock me", .str "lock you", .str "unlock me", .str "tag me", .str "tag you", .str "untag me", .str "untag you", .str "untag any"] = true := by decide +kernel
  show some (D.bl (inV (.str (dT i)) [.str "lock me", .str "lock you", .str "unlock me", .str "tag me", .str "tag you", .str "untag me", .str "untag you", .str "untag any"])) = _
  rw [h i]
theorem is_row_ev {is : List (Fin 8)} (h : is ≠ []) (hl : is.length ≤ 1000) : is_row_F [.str (rowT is)] = .ok (.bl (decide (is.length ≤ 6))) none := by
  have hs := splitD_row h hl
  have comp : compV [2] (anyI (vE 1)) (bName 2) trueT is_row_x1 [.im (.str (rowT is)), .im (.lst (is.map fun i => D.str (dT i))), .no] = .ok (.n (.l (is.map fun _ => D.bl true))) [.im (.str (rowT is)), .im (.lst (is.map fun i => D.str (dT i))), .no] := by
    unfold compV
    show (if noBor [Sl.im (.str (rowT is)), .im (.lst (is.map fun i => D.str (dT i))), .no] [2] = true then cmpL [2] (bName 2) trueT is_row_x1 (is.map fun i => D.str (dT i)) [] [.im (.str (rowT is)), .im (.lst (is.map fun i => D.str (dT i))), .no] else .fail) = _
    rw [if_pos (show noBor [Sl.im (.str (rowT is)), .im (.lst (is.map fun i => D.str (dT i))), .no] [2] = true from rfl)]
    have := cmp_map (vs := [2]) (b := bName 2) (elt := is_row_x1) (g := fun _ => D.bl true) (Γ := [.im (.str (rowT is)), .im (.lst (is.map fun i => D.str (dT i))), .no]) rfl (ds := is.map fun i => D.str (dT i)) (by rw [List.length_map]; omega) fun d hd => by
      obtain ⟨i, _, rfl⟩ := List.mem_map.mp hd
      have e := in_deeds i
      refine ⟨[.im (.str (rowT is)), .im (.lst (is.map fun i => D.str (dT i))), .im (.str (dT i))], rfl, ?_, rfl⟩
      simp -implicitDefEqProofs only [is_row_x1, Ev.all, and_self, and_true, true_and, List.getElem?_cons_zero, List.getElem?_cons_succ, List.set_cons_zero, List.set_cons_succ, List.length_cons, List.length_nil, Option.map_some, Option.bind_some, Option.map_none, Option.bind_none, List.map_cons, List.map_nil, List.cons_append, List.nil_append, List.append_nil, Nat.reduceAdd, Nat.reduceSub, Nat.zero_add, List.replicate_succ, List.replicate_zero, if_true, if_false, reduceIte, Nat.reduceLeDiff, Nat.reduceEqDiff, Bool.not_true, Bool.not_false, decide_true, decide_false, Int.reduceLT, Int.reduceLE, Bool.false_eq_true, Bool.true_eq_false, reduceCtorEq, Bool.or_false, Bool.or_true, Bool.true_or, Bool.false_or, e]
    rw [this, List.map_map]; rfl
  have hall := all_map (fun _ : Fin 8 => true) is
  have ha : (is.all fun _ => true) = true := by simp
  rw [ha] at hall
  unfold is_row_F is_row_b
  have e6 : ((is.map fun i => D.str (dT i)).length : Int) = is.length := by rw [List.length_map]
  by_cases h1 : (is.length : Int) ≤ 6
  · have h2 : decide (is.length ≤ 6) = true := decide_eq_true (by omega)
    simp -implicitDefEqProofs only [Ev.all, and_self, and_true, true_and, List.getElem?_cons_zero, List.getElem?_cons_succ, List.set_cons_zero, List.set_cons_succ, List.length_cons, List.length_nil, Option.map_some, Option.bind_some, Option.map_none, Option.bind_none, List.map_cons, List.map_nil, List.cons_append, List.nil_append, List.append_nil, Nat.reduceAdd, Nat.reduceSub, Nat.zero_add, List.replicate_succ, List.replicate_zero, if_true, if_false, reduceIte, Nat.reduceLeDiff, Nat.reduceEqDiff, Bool.not_true, Bool.not_false, decide_true, decide_false, Int.reduceLT, Int.reduceLE, Bool.false_eq_true, Bool.true_eq_false, reduceCtorEq, Bool.or_false, Bool.or_true, Bool.true_or, Bool.false_or, comp, hall, hs, e6, c_MOST_DEEDS, h1, h2]
  · have h2 : decide (is.length ≤ 6) = false := decide_eq_false (by omega)
    simp -implicitDefEqProofs only [Ev.all, and_self, and_true, true_and, List.getElem?_cons_zero, List.getElem?_cons_succ, List.set_cons_zero, List.set_cons_succ, List.length_cons, List.length_nil, Option.map_some, Option.bind_some, Option.map_none, Option.bind_none, List.map_cons, List.map_nil, List.cons_append, List.nil_append, List.append_nil, Nat.reduceAdd, Nat.reduceSub, Nat.zero_add, List.replicate_succ, List.replicate_zero, if_true, if_false, reduceIte, Nat.reduceLeDiff, Nat.reduceEqDiff, Bool.not_true, Bool.not_false, decide_true, decide_false, Int.reduceLT, Int.reduceLE, Bool.false_eq_true, Bool.true_eq_false, reduceCtorEq, Bool.or_false, Bool.or_true, Bool.true_or, Bool.false_or, hs, e6, c_MOST_DEEDS, h1, h2]
theorem deeds_of_ev {is : List (Fin 8)} (h : is ≠ []) (hl : is.length ≤ 1000) : deeds_of_F [.str (rowT is)] = .nw (.l (is.map ddT)) none := by
  have hs := splitD_row h hl
  unfold deeds_of_F deeds_of_b
  have comp : compV [1] (anyI (m1E splitD (vE 0) (cE c_BETWEEN))) (bName 1) trueT deeds_of_x1 [.im (.str (rowT is)), .no] = .ok (.n (.l (is.map ddT))) [.im (.str (rowT is)), .no] := by
    unfold compV
    simp -implicitDefEqProofs only [Ev.all, and_self, and_true, true_and, List.getElem?_cons_zero, List.getElem?_cons_succ, List.set_cons_zero, List.set_cons_succ, List.length_cons, List.length_nil, Option.map_some, Option.bind_some, Option.map_none, Option.bind_none, List.map_cons, List.map_nil, List.cons_append, List.nil_append, List.append_nil, Nat.reduceAdd, Nat.reduceSub, Nat.zero_add, List.replicate_succ, List.replicate_zero, if_true, if_false, reduceIte, Nat.reduceLeDiff, Nat.reduceEqDiff, Bool.not_true, Bool.not_false, decide_true, decide_false, Int.reduceLT, Int.reduceLE, Bool.false_eq_true, Bool.true_eq_false, reduceCtorEq, Bool.or_false, Bool.or_true, Bool.true_or, Bool.false_or, hs]
    rw [if_pos (show noBor [Sl.im (.str (rowT is)), .no] [1] = true from rfl)]
    have := cmp_map (vs := [1]) (b := bName 1) (elt := deeds_of_x1) (g := fun d => match splitD d (.str " ") with | some (.lst xs) => .tup xs | _ => .non) (Γ := [.im (.str (rowT is)), .no]) rfl (ds := is.map fun i => D.str (dT i)) (by rw [List.length_map]; omega) fun d hd => by
      obtain ⟨i, _, rfl⟩ := List.mem_map.mp hd
      have e := split_dT i
      refine ⟨[.im (.str (rowT is)), .im (.str (dT i))], rfl, ?_, rfl⟩
      simp -implicitDefEqProofs only [deeds_of_x1, Ev.all, and_self, and_true, true_and, List.getElem?_cons_zero, List.getElem?_cons_succ, List.set_cons_zero, List.set_cons_succ, List.length_cons, List.length_nil, Option.map_some, Option.bind_some, Option.map_none, Option.bind_none, List.map_cons, List.map_nil, List.cons_append, List.nil_append, List.append_nil, Nat.reduceAdd, Nat.reduceSub, Nat.zero_add, List.replicate_succ, List.replicate_zero, if_true, if_false, reduceIte, Nat.reduceLeDiff, Nat.reduceEqDiff, Bool.not_true, Bool.not_false, decide_true, decide_false, Int.reduceLT, Int.reduceLE, Bool.false_eq_true, Bool.true_eq_false, reduceCtorEq, Bool.or_false, Bool.or_true, Bool.true_or, Bool.false_or, e]
    rw [this, List.map_map]
    congr 3
    refine List.map_congr_left fun i _ => ?_
    show (match splitD (.str (dT i)) (.str " ") with | some (.lst xs) => D.tup xs | _ => .non) = _
    rw [split_dT i]; rfl
  simp -implicitDefEqProofs only [Ev.all, and_self, and_true, true_and, List.getElem?_cons_zero, List.getElem?_cons_succ, List.set_cons_zero, List.set_cons_succ, List.length_cons, List.length_nil, Option.map_some, Option.bind_some, Option.map_none, Option.bind_none, List.map_cons, List.map_nil, List.cons_append, List.nil_append, List.append_nil, Nat.reduceAdd, Nat.reduceSub, Nat.zero_add, List.replicate_succ, List.replicate_zero, if_true, if_false, reduceIte, Nat.reduceLeDiff, Nat.reduceEqDiff, Bool.not_true, Bool.not_false, decide_true, decide_false, Int.reduceLT, Int.reduceLE, Bool.false_eq_true, Bool.true_eq_false, reduceCtorEq, Bool.or_false, Bool.or_true, Bool.true_or, Bool.false_or, comp]
theorem check_row_ev {is : List (Fin 8)} (h : is ≠ []) (hl : is.length ≤ 6) : check_row_F [.str (rowT is)] = .ok .non none := by
  have e := is_row_ev h (by omega)
  rw [decide_eq_true hl] at e
  unfold check_row_F check_row_b
  simp -implicitDefEqProofs only [Ev.all, and_self, and_true, true_and, List.getElem?_cons_zero, List.getElem?_cons_succ, List.set_cons_zero, List.set_cons_succ, List.length_cons, List.length_nil, Option.map_some, Option.bind_some, Option.map_none, Option.bind_none, List.map_cons, List.map_nil, List.cons_append, List.nil_append, List.append_nil, Nat.reduceAdd, Nat.reduceSub, Nat.zero_add, List.replicate_succ, List.replicate_zero, if_true, if_false, reduceIte, Nat.reduceLeDiff, Nat.reduceEqDiff, Bool.not_true, Bool.not_false, decide_true, decide_false, Int.reduceLT, Int.reduceLE, Bool.false_eq_true, Bool.true_eq_false, reduceCtorEq, Bool.or_false, Bool.or_true, Bool.true_or, Bool.false_or, e]
/-- what a row of deeds does to a box -/
theorem behind_ev {is : List (Fin 8)} (h : is ≠ []) (hl : is.length ≤ 6) {me you : Str} (hm : IsName me) (hy : IsName you) {b : Box} (hb : IsBox b) :
    behind_F [.str (rowT is), .str me, .str you, .tup (bx b)] = .ok (rs (runD is me you b)) none := by
  have e1 := check_row_ev h hl
  have e2 := is_name_ev me (by have := hm.2.1; omega)
  have e3 := is_name_ev you (by have := hy.2.1; omega)
  rw [nameB_iff.mpr hm] at e2
  rw [nameB_iff.mpr hy] at e3
  have e4 := is_box_ev b (by have := hb.1; omega) fun p hp => by have := (hb.2 p hp).2.1; omega
  rw [decide_eq_true hb.1, show (b.all fun p => nameB p.2) = true from List.all_eq_true.mpr fun p hp => nameB_iff.mpr (hb.2 p hp), Bool.and_self] at e4
  have e5 := deeds_of_ev h (by omega)
  have e6 := done_ev me you hm.ok hy.ok is b (by have := hb.1; omega) hb.ok
  unfold behind_F behind_b
  simp only [behind_x1, Ev.forS, Ev.all, and_self, and_true, true_and, List.getElem?_cons_zero, List.getElem?_cons_succ, List.set_cons_zero, List.set_cons_succ, List.length_cons, List.length_nil, Option.map_some, Option.bind_some, Option.map_none, Option.bind_none, List.map_cons, List.map_nil, List.cons_append, List.nil_append, List.append_nil, Nat.reduceAdd, Nat.reduceSub, Nat.zero_add, List.replicate_succ, List.replicate_zero, if_true, if_false, reduceIte, Nat.reduceLeDiff, Nat.reduceEqDiff, Bool.not_true, Bool.not_false, decide_true, decide_false, Int.reduceLT, Int.reduceLE, Bool.false_eq_true, Bool.true_eq_false, reduceCtorEq, Bool.or_false, Bool.or_true, Bool.true_or, Bool.false_or, loopS, e1, e2, e3, e4, e5, e6]
end PL

/-! plain law PL7 -/
set_option Elab.async false
set_option linter.all false
set_option maxRecDepth 100000
set_option maxHeartbeats 4000000
namespace PL
open PySem PySem.Spec PyProof.Rows L2 FL PF
def Pool (p : List D) : Prop := ∃ a b c : Int, p = [.int a, .int b, .int c] ∧ 0 ≤ a ∧ a < 2147483563 ∧ 0 ≤ b ∧ 0 ≤ c
theorem take_ok {p : List D} (h : Pool p) {n : Int} (h1 : 0 < n) (h2 : n < 1073741824) : ∃ (r : Int) (p' : List D), _law_take_F [.lst p, .int n] = .ok (.int r) (some (.l p')) ∧ 0 ≤ r ∧ r < n ∧ Pool p' := by
  obtain ⟨a, b, c, rfl, ha, hb, hc, hd⟩ := h
  unfold _law_take_F _law_take_b
  have e1 : ∀ x : Int, (-(2 ^ 64) < a ∧ a < 2 ^ 64) ∨ (-(2 ^ 64) < x ∧ x < 2 ^ 64) := fun x => .inl ⟨by omega, by omega⟩
  have e2 : ∀ x : Int, (-(2 ^ 64) < x ∧ x < 2 ^ 64) ∨ (-(2 ^ 64) < (50021 : Int) ∧ (50021 : Int) < 2 ^ 64) := fun x => .inr ⟨by omega, by omega⟩
  have hx : ∀ y : Int, 0 ≤ y % 2147483563 ∧ y % 2147483563 < 2147483563 := fun y => ⟨Int.emod_nonneg _ (by decide), Int.emod_lt_of_pos _ (by decide)⟩
  by_cases hz : 0 < b
  · simp -implicitDefEqProofs only [Ev.all, and_self, and_true, true_and, List.getElem?_cons_zero, List.getElem?_cons_succ, List.set_cons_zero, List.set_cons_succ, List.length_cons, List.length_nil, Option.map_some, Option.bind_some, Option.map_none, Option.bind_none, List.map_cons, List.map_nil, List.cons_append, List.nil_append, List.append_nil, Nat.reduceAdd, Nat.reduceSub, Nat.zero_add, List.replicate_succ, List.replicate_zero, if_true, if_false, reduceIte, Nat.reduceLeDiff, Nat.reduceEqDiff, Bool.not_true, Bool.not_false, decide_true, decide_false, Int.reduceLT, Int.reduceLE, Bool.false_eq_true, Bool.true_eq_false, reduceCtorEq, Bool.or_false, Bool.or_true, Bool.true_or, Bool.false_or, if_pos (e1 _), if_pos (e2 _), h1, h2, hz, and_self]
    refine ⟨_, _, rfl, Int.emod_nonneg _ (by omega), Int.emod_lt_of_pos _ h1, _, _, _, rfl, (hx _).1, (hx _).2, Int.ediv_nonneg hc (by omega), by omega⟩
  · simp -implicitDefEqProofs only [Ev.all, and_self, and_true, true_and, List.getElem?_cons_zero, List.getElem?_cons_succ, List.set_cons_zero, List.set_cons_succ, List.length_cons, List.length_nil, Option.map_some, Option.bind_some, Option.map_none, Option.bind_none, List.map_cons, List.map_nil, List.cons_append, List.nil_append, List.append_nil, Nat.reduceAdd, Nat.reduceSub, Nat.zero_add, List.replicate_succ, List.replicate_zero, if_true, if_false, reduceIte, Nat.reduceLeDiff, Nat.reduceEqDiff, Bool.not_true, Bool.not_false, decide_true, decide_false, Int.reduceLT, Int.reduceLE, Bool.false_eq_true, Bool.true_eq_false, reduceCtorEq, Bool.or_false, Bool.or_true, Bool.true_or, Bool.false_or, if_pos (e1 _), if_pos (e2 _), h1, h2, hz, and_self]
    refine ⟨_, _, rfl, Int.emod_nonneg _ (by omega), Int.emod_lt_of_pos _ h1, _, _, _, rfl, (hx _).1, (hx _).2, hc, by omega⟩
theorem at_in {α : Type} {xs : List α} {r : Int} (h1 : 0 ≤ r) (h2 : r < xs.length) : ∃ x, x ∈ xs ∧ L2.atI xs r = some x := by
  obtain ⟨k, rfl⟩ := Int.eq_ofNat_of_zero_le h1
  have hk : k < xs.length := by omega
  exact ⟨xs[k], List.getElem_mem hk, by rw [Ev.atI, List.getElem?_eq_getElem hk]⟩
theorem at_str {ys : List Str} {r : Int} (h1 : 0 ≤ r) (h2 : r < ys.length) : ∃ y, y ∈ ys ∧ L2.atI (ys.map D.str) r = some (.str y) := by
  obtain ⟨x, hx, e⟩ := at_in (xs := ys.map D.str) h1 (by rw [List.length_map]; exact h2)
  obtain ⟨y, hy, rfl⟩ := List.mem_map.mp hx
  exact ⟨y, hy, e⟩
instance (x : Str) : Decidable (IsName x) := decidable_of_iff _ nameB_iff
def near3 : List Str := ["ann", "bob", "zed"]
def near15 : List Str := ["an", "anna", "bo", "bobb", "ze", "zedd", "a", "z", "ban", "nna", "me", "you", "any", "lock", "tag"]
theorem near3_ok : ∀ y ∈ near3, IsName y := by decide +kernel
theorem near15_ok : ∀ y ∈ near15, IsName y := by decide +kernel
theorem letter_at {r : Int} (h1 : 0 ≤ r) (h2 : r < 26) : ∃ c : Nat, (97 ≤ c ∧ c ≤ 122) ∧ getD (.str "abcdefghijklmnopqrstuvwxyz") (.int r) = some (.str ⟨#[c]⟩) := by
  have hl : (Str.ofString "abcdefghijklmnopqrstuvwxyz").cps.toList.length = 26 := by decide +kernel
  obtain ⟨c, hc, e⟩ := at_in (xs := (Str.ofString "abcdefghijklmnopqrstuvwxyz").cps.toList) h1 (by rw [hl]; exact h2)
  refine ⟨c, letters_mem.mp hc, ?_⟩
  show (if (Str.ofString "abcdefghijklmnopqrstuvwxyz").length ≤ sizeLine then (L2.atI (Str.ofString "abcdefghijklmnopqrstuvwxyz").cps.toList r).map fun c => D.str ⟨#[c]⟩ else none) = _
  rw [if_pos (by decide +kernel), e]; rfl
theorem texts_map : ∀ zs : List Str, texts (zs.map D.str) = some zs
  | [] => rfl
  | z :: zs => by
    show (texts (zs.map D.str)).map _ = _
    rw [texts_map zs]; rfl
theorem join0_tl : ∀ zs : List Str, TL.tl (Str.join "" zs) = (zs.map TL.tl).flatten
  | [] => rfl
  | [z] => by show TL.tl z = _; simp
  | z :: y :: r => by
    show TL.tl (z ++ Str.ofString "" ++ Str.join "" (y :: r)) = _
    rw [TL.tl_append, TL.tl_append, join0_tl (y :: r), show TL.tl (Str.ofString "") = [] by decide +kernel, List.append_nil]
    rfl
/-- letters drawn, joined: a name -/
theorem letters_name {cs : List Nat} (h0 : 0 < cs.length) (h9 : cs.length < 9) (h : ∀ c ∈ cs, 97 ≤ c ∧ c ≤ 122) : ∃ x : Str, joinD (.str "") (.lst (cs.map fun c => D.str ⟨#[c]⟩)) = some (.str x) ∧ IsName x := by
  have e : (cs.map fun c => D.str ⟨#[c]⟩) = (cs.map fun c => (⟨#[c]⟩ : Str)).map D.str := by rw [List.map_map]; rfl
  have e2 : TL.tl (Txt.join "" (cs.map fun c => (⟨#[c]⟩ : Str))) = cs := by
    rw [TL.join_eq, join0_tl, List.map_map]
    clear h0 h9 h e
    induction cs with
    | nil => rfl
    | cons c cs ih => rw [List.map_cons, List.flatten_cons, ih]; rfl
  have hsum : ((cs.map fun c => (⟨#[c]⟩ : Str)).map (·.length)).sum = cs.length := by
    clear h0 h9 h e e2
    induction cs with
    | nil => rfl
    | cons c cs ih => rw [List.map_cons, List.map_cons, List.sum_cons, ih, List.length_cons]; show 1 + _ = _; omega
  refine ⟨Txt.join "" (cs.map fun c => (⟨#[c]⟩ : Str)), ?_, ?_⟩
  · rw [e]
    show (texts _).bind _ = _
    rw [texts_map]
    show (if _ then some (D.str (Txt.join "" _)) else none) = _
    rw [if_pos]
    rw [hsum, List.length_map, show (Str.ofString "").length = 0 by decide +kernel]; omega
  · have hl : (Txt.join "" (cs.map fun c => (⟨#[c]⟩ : Str))).length = cs.length := by
      have := congrArg List.length e2
      rw [← this]
      show Array.size _ = (Array.toList _).length
      simp
    exact ⟨by rw [hl]; exact h0, by rw [hl]; exact h9, fun c hc => h c (by rw [← e2]; exact hc)⟩
end PL

/-! plain law PL8 -/
set_option Elab.async false
set_option linter.all false
set_option maxRecDepth 100000
set_option maxHeartbeats 4000000
namespace PL
open PySem PySem.Spec PyProof.Rows L2 FL PF
theorem called_a {p p1 : List D} {w : Int} (e1 : _law_take_F [.lst p, .int 5] = .ok (.int w) (some (.l p1))) (w1 : 0 ≤ w) (hw : w < 3) : ∃ x : Str, _law_called_F [.lst p] = .ok (.str x) (some (.l p1)) ∧ IsName x := by
  obtain ⟨y, hy, ey⟩ := at_str (ys := near3) w1 (by show w < 3; exact hw)
  have ey : L2.atI [D.str (Str.ofString "ann"), D.str (Str.ofString "bob"), D.str (Str.ofString "zed")] w = some (.str y) := ey
  refine ⟨y, ?_, near3_ok y hy⟩
  unfold _law_called_F _law_called_b
  simp -implicitDefEqProofs only [Ev.all, and_self, and_true, true_and, List.getElem?_cons_zero, List.getElem?_cons_succ, List.set_cons_zero, List.set_cons_succ, List.length_cons, List.length_nil, Option.map_some, Option.bind_some, Option.map_none, Option.bind_none, List.map_cons, List.map_nil, List.cons_append, List.nil_append, List.append_nil, Nat.reduceAdd, Nat.reduceSub, Nat.zero_add, List.replicate_succ, List.replicate_zero, if_true, if_false, reduceIte, Nat.reduceLeDiff, Nat.reduceEqDiff, Bool.not_true, Bool.not_false, decide_true, decide_false, Int.reduceLT, Int.reduceLE, Bool.false_eq_true, Bool.true_eq_false, reduceCtorEq, Bool.or_false, Bool.or_true, Bool.true_or, Bool.false_or, e1, hw, ey]
theorem called_b {p p1 p2 : List D} {r : Int} (e1 : _law_take_F [.lst p, .int 5] = .ok (.int 3) (some (.l p1))) (e2 : _law_take_F [.lst p1, .int 15] = .ok (.int r) (some (.l p2))) (r1 : 0 ≤ r) (r2 : r < 15) : ∃ x : Str, _law_called_F [.lst p] = .ok (.str x) (some (.l p2)) ∧ IsName x := by
  obtain ⟨y, hy, ey⟩ := at_str (ys := near15) r1 (by show r < 15; exact r2)
  have ey : L2.atI [D.str (Str.ofString "an"), D.str (Str.ofString "anna"), D.str (Str.ofString "bo"), D.str (Str.ofString "bobb"), D.str (Str.ofString "ze"), D.str (Str.ofString "zedd"), D.str (Str.ofString "a"), D.str (Str.ofString "z"), D.str (Str.ofString "ban"), D.str (Str.ofString "nna"), D.str (Str.ofString "me"), D.str (Str.ofString "you"), D.str (Str.ofString "any"), D.str (Str.ofString "lock"), D.str (Str.ofString "tag")] r = some (.str y) := ey
  have eq3 : eqD (.int 3) (.int 3) = some (.bl true) := rfl
  refine ⟨y, ?_, near15_ok y hy⟩
  unfold _law_called_F _law_called_b
  simp -implicitDefEqProofs only [Ev.all, and_self, and_true, true_and, List.getElem?_cons_zero, List.getElem?_cons_succ, List.set_cons_zero, List.set_cons_succ, List.length_cons, List.length_nil, Option.map_some, Option.bind_some, Option.map_none, Option.bind_none, List.map_cons, List.map_nil, List.cons_append, List.nil_append, List.append_nil, Nat.reduceAdd, Nat.reduceSub, Nat.zero_add, List.replicate_succ, List.replicate_zero, if_true, if_false, reduceIte, Nat.reduceLeDiff, Nat.reduceEqDiff, Bool.not_true, Bool.not_false, decide_true, decide_false, Int.reduceLT, Int.reduceLE, Bool.false_eq_true, Bool.true_eq_false, reduceCtorEq, Bool.or_false, Bool.or_true, Bool.true_or, Bool.false_or, e1, ey, eq3, e2]
def lettersT : Str := "abcdefghijklmnopqrstuvwxyz"
theorem letters_comp {p2 : List D} {w : Int} {k : Nat} (P2 : Pool p2) (hk : k < 8) : ∃ (cs : List Nat) (p' : List D), cmpL [4] (bName 4) trueT _law_called_x1 ((List.range (1 + (k : Int)).toNat).map fun i => D.int (0 + (i : Nat))) [] [.bor (.l p2), .im (.int w), .no, .im (.str lettersT), .no] =
      .ok (.n (.l (cs.map fun c => D.str ⟨#[c]⟩))) [.bor (.l p'), .im (.int w), .no, .im (.str lettersT), .no] ∧ cs.length = k + 1 ∧ (∀ c ∈ cs, 97 ≤ c ∧ c ≤ 122) ∧ Pool p' := by
  have hr : (1 + (k : Int)).toNat = k + 1 := by omega
  rw [hr]
  obtain ⟨xs, Γ', c1, c2, p', P', rfl⟩ := cmp_inv (vs := [4]) (b := bName 4) (tt := trueT) (elt := _law_called_x1)
    (I := fun Γ => ∃ p, Pool p ∧ Γ = [.bor (.l p), .im (.int w), .no, .im (.str lettersT), .no]) (R := fun _ d => ∃ c : Nat, (97 ≤ c ∧ c ≤ 122) ∧ d = .str ⟨#[c]⟩)
    ((List.range (k + 1)).map fun i => D.int (0 + (i : Nat))) [] [.bor (.l p2), .im (.int w), .no, .im (.str lettersT), .no] ⟨p2, P2, rfl⟩ (by rw [List.length_map, List.length_range, List.length_nil]; omega) fun d hd Γ ⟨p, P, e⟩ => by
      subst e
      obtain ⟨r, p3, e3, r1, r2, P3⟩ := take_ok P (n := 26) (by decide) (by decide)
      obtain ⟨c, hc, ec⟩ := letter_at r1 r2
      have ec : getD (.str lettersT) (.int r) = some (.str ⟨#[c]⟩) := ec
      refine ⟨[.bor (.l p), .im (.int w), .no, .im (.str lettersT), .im d], _, .d (.str ⟨#[c]⟩), [.bor (.l p3), .im (.int w), .no, .im (.str lettersT), .im d], _, _, rfl, rfl, ?_, rfl, ⟨c, hc, rfl⟩, p3, P3, rfl⟩
      simp -implicitDefEqProofs only [_law_called_x1, Ev.all, and_self, and_true, true_and, List.getElem?_cons_zero, List.getElem?_cons_succ, List.set_cons_zero, List.set_cons_succ, List.length_cons, List.length_nil, Option.map_some, Option.bind_some, Option.map_none, Option.bind_none, List.map_cons, List.map_nil, List.cons_append, List.nil_append, List.append_nil, Nat.reduceAdd, Nat.reduceSub, Nat.zero_add, List.replicate_succ, List.replicate_zero, if_true, if_false, reduceIte, Nat.reduceLeDiff, Nat.reduceEqDiff, Bool.not_true, Bool.not_false, decide_true, decide_false, Int.reduceLT, Int.reduceLE, Bool.false_eq_true, Bool.true_eq_false, reduceCtorEq, Bool.or_false, Bool.or_true, Bool.true_or, Bool.false_or, e3, ec]
  have hx : ∀ {ds xs : List D}, Paired (fun _ d => ∃ c : Nat, (97 ≤ c ∧ c ≤ 122) ∧ d = D.str ⟨#[c]⟩) ds xs → ∃ cs : List Nat, (∀ c ∈ cs, 97 ≤ c ∧ c ≤ 122) ∧ xs = cs.map fun c => D.str ⟨#[c]⟩ := by
    intro ds xs h
    induction h with
    | nil => exact ⟨[], (fun _ h => nomatch h), rfl⟩
    | cons r t ih =>
      obtain ⟨c, hc, rfl⟩ := r
      obtain ⟨cs, h1, rfl⟩ := ih
      exact ⟨c :: cs, fun z hz => by
        rcases List.mem_cons.mp hz with rfl | hz
        · exact hc
        · exact h1 z hz, rfl⟩
  obtain ⟨cs, hcs, exs⟩ := hx c2
  have hl : cs.length = k + 1 := by
    have := Paired.length c2
    rw [exs, List.length_map, List.length_map, List.length_range] at this
    exact this.symm
  exact ⟨cs, p', by rw [c1, exs]; rfl, hl, hcs, P'⟩
theorem comp_at {vs : List Nat} {it : IF} {b : BF} {tt : TF} {elt : EF} {Γ Γ1 : En} {ds : List D} {r : O VV} (h : it Γ = .ok ds Γ1) (hb : noBor Γ1 vs = true) (hc : cmpL vs b tt elt ds [] Γ1 = r) : compV vs it b tt elt Γ = r := by
  unfold compV
  rw [h]
  show (if noBor Γ1 vs = true then _ else _) = r
  rw [if_pos hb]; exact hc
theorem called_c {p p1 p2 : List D} {w : Int} {k : Nat} (e1 : _law_take_F [.lst p, .int 5] = .ok (.int w) (some (.l p1))) (hw : ¬ w < 3) (h3 : w ≠ 3) (e2 : _law_take_F [.lst p1, .int 8] = .ok (.int k) (some (.l p2))) (hk : k < 8) (P2 : Pool p2) :
    ∃ (x : Str) (p' : List D), _law_called_F [.lst p] = .ok (.str x) (some (.l p')) ∧ IsName x ∧ Pool p' := by
  obtain ⟨cs, p', c1, hl, hcs, P'⟩ := letters_comp (w := w) P2 hk
  obtain ⟨x, ex, nx⟩ := letters_name (cs := cs) (by omega) (by omega) hcs
  have eq3 : eqD (.int w) (.int 3) = some (.bl false) := by
    show some (D.bl (w == 3)) = _
    rw [beq_eq_false_iff_ne.mpr h3]
  have comp : compV [4] (rng1 (aCons (op2 addD (cE (.int 1)) (telV (callV (some 0) 2 _law_take_F [] (aCons (vE 0) (aCons (cE (.int 8)) aNil))))) aNil)) (bName 4) trueT _law_called_x1 [.bor (.l p1), .im (.int w), .no, .im (.str lettersT), .no] =
      .ok (.n (.l (cs.map fun c => D.str ⟨#[c]⟩))) [.bor (.l p'), .im (.int w), .no, .im (.str lettersT), .no] := by
    have hit : rng1 (aCons (op2 addD (cE (.int 1)) (telV (callV (some 0) 2 _law_take_F [] (aCons (vE 0) (aCons (cE (.int 8)) aNil))))) aNil) [.bor (.l p1), .im (.int w), .no, .im (.str lettersT), .no] =
        .ok ((List.range (1 + (k : Int)).toNat).map fun i => D.int (0 + (i : Nat))) [.bor (.l p2), .im (.int w), .no, .im (.str lettersT), .no] := by
      have h1 : aCons (op2 addD (cE (.int 1)) (telV (callV (some 0) 2 _law_take_F [] (aCons (vE 0) (aCons (cE (.int 8)) aNil))))) aNil [.bor (.l p1), .im (.int w), .no, .im (.str lettersT), .no] = .ok [.d (.int (1 + (k : Int)))] [.bor (.l p2), .im (.int w), .no, .im (.str lettersT), .no] := by
        simp -implicitDefEqProofs only [Ev.all, and_self, and_true, true_and, List.getElem?_cons_zero, List.getElem?_cons_succ, List.set_cons_zero, List.set_cons_succ, List.length_cons, List.length_nil, Option.map_some, Option.bind_some, Option.map_none, Option.bind_none, List.map_cons, List.map_nil, List.cons_append, List.nil_append, List.append_nil, Nat.reduceAdd, Nat.reduceSub, Nat.zero_add, List.replicate_succ, List.replicate_zero, if_true, if_false, reduceIte, Nat.reduceLeDiff, Nat.reduceEqDiff, Bool.not_true, Bool.not_false, decide_true, decide_false, Int.reduceLT, Int.reduceLE, Bool.false_eq_true, Bool.true_eq_false, reduceCtorEq, Bool.or_false, Bool.or_true, Bool.true_or, Bool.false_or, e2]
      unfold rng1
      rw [h1]
      rw [Ev.bindO, Ev.itR1 (by omega) (by omega)]
    exact comp_at hit rfl c1
  have hlt : Str.ofString "abcdefghijklmnopqrstuvwxyz" = lettersT := rfl
  refine ⟨x, p', ?_, nx, P'⟩
  unfold _law_called_F _law_called_b
  simp -implicitDefEqProofs only [Ev.all, and_self, and_true, true_and, List.getElem?_cons_zero, List.getElem?_cons_succ, List.set_cons_zero, List.set_cons_succ, List.length_cons, List.length_nil, Option.map_some, Option.bind_some, Option.map_none, Option.bind_none, List.map_cons, List.map_nil, List.cons_append, List.nil_append, List.append_nil, Nat.reduceAdd, Nat.reduceSub, Nat.zero_add, List.replicate_succ, List.replicate_zero, if_true, if_false, reduceIte, Nat.reduceLeDiff, Nat.reduceEqDiff, Bool.not_true, Bool.not_false, decide_true, decide_false, Int.reduceLT, Int.reduceLE, Bool.false_eq_true, Bool.true_eq_false, reduceCtorEq, Bool.or_false, Bool.or_true, Bool.true_or, Bool.false_or, e1, hw, eq3, hlt, comp, ex]
theorem called_ok {p : List D} (h : Pool p) : ∃ (x : Str) (p' : List D), _law_called_F [.lst p] = .ok (.str x) (some (.l p')) ∧ IsName x ∧ Pool p' := by
  obtain ⟨w, p1, e1, w1, w2, P1⟩ := take_ok h (n := 5) (by decide) (by decide)
  by_cases hw : w < 3
  · obtain ⟨x, h1, h2⟩ := called_a e1 w1 hw
    exact ⟨x, p1, h1, h2, P1⟩
  · by_cases h3 : w = 3
    · subst h3
      obtain ⟨r, p2, e2, r1, r2, P2⟩ := take_ok P1 (n := 15) (by decide) (by decide)
      obtain ⟨x, h1, h2⟩ := called_b e1 e2 r1 r2
      exact ⟨x, p2, h1, h2, P2⟩
    · obtain ⟨m, p2, e2, m1, m2, P2⟩ := take_ok P1 (n := 8) (by decide) (by decide)
      obtain ⟨k, rfl⟩ := Int.eq_ofNat_of_zero_le m1
      exact called_c e1 hw h3 e2 (by omega) P2
end PL

/-! plain law PL9 -/
set_option Elab.async false
set_option linter.all false
set_option maxRecDepth 100000
set_option maxHeartbeats 4000000
namespace PL
open PySem PySem.Spec PyProof.Rows L2 FL PF
theorem kd_at {r : Int} (h1 : 0 ≤ r) (h2 : r < 2) : ∃ k, L2.atI [D.str (Str.ofString "lock"), D.str (Str.ofString "tag")] r = some (.str (kd k)) := by
  obtain ⟨j, rfl⟩ := Int.eq_ofNat_of_zero_le h1
  have : j = 0 ∨ j = 1 := by omega
  rcases this with rfl | rfl
  · exact ⟨true, rfl⟩
  · exact ⟨false, rfl⟩
theorem boxed_ok {p : List D} (h : Pool p) {ns : List Str} (hn : ∀ x ∈ ns, IsName x) (h0 : 0 < ns.length) (h5 : ns.length ≤ 1000) {m : Nat} (hm : m ≤ 1000) :
    ∃ (b : Box) (p' : List D), _law_boxed_F [.lst p, .lst (ns.map D.str), .int m] = .ok (.tup (bx b)) (some (.l p')) ∧ b.length ≤ m ∧ (∀ q ∈ b, q.2 ∈ ns) ∧ Pool p' := by
  obtain ⟨n, p1, e1, n1, n2, P1⟩ := take_ok h (n := (m : Int) + 1) (by omega) (by omega)
  obtain ⟨j, rfl⟩ := Int.eq_ofNat_of_zero_le n1
  obtain ⟨xs, Γ', c1, c2, p', P', rfl⟩ := cmp_inv (vs := [4]) (b := bName 4) (tt := trueT) (elt := _law_boxed_x1)
    (I := fun Γ => ∃ p, Pool p ∧ Γ = [.bor (.l p), .im (.lst (ns.map D.str)), .im (.int m), .im (.int j), .no]) (R := fun _ d => ∃ q : Bool × Str, q.2 ∈ ns ∧ d = lay q)
    ((List.range (j : Int).toNat).map fun i => D.int (0 + (i : Nat))) [] [.bor (.l p1), .im (.lst (ns.map D.str)), .im (.int m), .im (.int j), .no] ⟨p1, P1, rfl⟩ (by rw [List.length_map, List.length_range, List.length_nil]; omega) fun d hd Γ ⟨p, P, e⟩ => by
      subst e
      obtain ⟨r, p2, e2, r1, r2, P2⟩ := take_ok P (n := 2) (by decide) (by decide)
      obtain ⟨k, ek⟩ := kd_at r1 r2
      obtain ⟨t, p3, e3, t1, t2, P3⟩ := take_ok P2 (n := (ns.length : Int)) (by omega) (by omega)
      obtain ⟨y, hy, ey⟩ := at_str (ys := ns) t1 t2
      have el : ((ns.map D.str).length : Int) = (ns.length : Int) := by rw [List.length_map]
      refine ⟨[.bor (.l p), .im (.lst (ns.map D.str)), .im (.int m), .im (.int j), .im d], _, .d (lay (k, y)), [.bor (.l p3), .im (.lst (ns.map D.str)), .im (.int m), .im (.int j), .im d], _, _, rfl, rfl, ?_, rfl, ⟨(k, y), hy, rfl⟩, p3, P3, rfl⟩
      simp -implicitDefEqProofs only [_law_boxed_x1, Ev.all, and_self, and_true, true_and, List.getElem?_cons_zero, List.getElem?_cons_succ, List.set_cons_zero, List.set_cons_succ, List.length_cons, List.length_nil, Option.map_some, Option.bind_some, Option.map_none, Option.bind_none, List.map_cons, List.map_nil, List.cons_append, List.nil_append, List.append_nil, Nat.reduceAdd, Nat.reduceSub, Nat.zero_add, List.replicate_succ, List.replicate_zero, if_true, if_false, reduceIte, Nat.reduceLeDiff, Nat.reduceEqDiff, Bool.not_true, Bool.not_false, decide_true, decide_false, Int.reduceLT, Int.reduceLE, Bool.false_eq_true, Bool.true_eq_false, reduceCtorEq, Bool.or_false, Bool.or_true, Bool.true_or, Bool.false_or, e2, ek, el, e3, ey, lay]
  obtain ⟨b, hb, exs⟩ : ∃ b : Box, (∀ q ∈ b, q.2 ∈ ns) ∧ xs = bx b := by
    have hx : ∀ {ds xs : List D}, Paired (fun _ d => ∃ q : Bool × Str, q.2 ∈ ns ∧ d = lay q) ds xs → ∃ b : Box, (∀ q ∈ b, q.2 ∈ ns) ∧ xs = bx b := by
      intro ds xs h
      induction h with
      | nil => exact ⟨[], (fun _ h => nomatch h), rfl⟩
      | cons r t ih =>
        obtain ⟨q, hq, rfl⟩ := r
        obtain ⟨b, h1, rfl⟩ := ih
        exact ⟨q :: b, fun z hz => by
          rcases List.mem_cons.mp hz with rfl | hz
          · exact hq
          · exact h1 z hz, rfl⟩
    exact hx c2
  have hl : b.length = j := by
    have := Paired.length c2
    rw [exs, List.length_map, List.length_range, bx_length] at this
    omega
  refine ⟨b, p', ?_, by omega, hb, P'⟩
  rw [exs, List.nil_append] at c1
  have hit : rng1 (aCons (vE 3) aNil) [.bor (.l p1), .im (.lst (ns.map D.str)), .im (.int m), .im (.int j), .no] = .ok ((List.range (j : Int).toNat).map fun i => D.int (0 + (i : Nat))) [.bor (.l p1), .im (.lst (ns.map D.str)), .im (.int m), .im (.int j), .no] := by
    have h1 : aCons (vE 3) aNil [.bor (.l p1), .im (.lst (ns.map D.str)), .im (.int m), .im (.int j), .no] = .ok [.d (.int j)] [.bor (.l p1), .im (.lst (ns.map D.str)), .im (.int m), .im (.int j), .no] := by
      simp -implicitDefEqProofs only [Ev.all, and_self, and_true, true_and, List.getElem?_cons_zero, List.getElem?_cons_succ, List.set_cons_zero, List.set_cons_succ, List.length_cons, List.length_nil, Option.map_some, Option.bind_some, Option.map_none, Option.bind_none, List.map_cons, List.map_nil, List.cons_append, List.nil_append, List.append_nil, Nat.reduceAdd, Nat.reduceSub, Nat.zero_add, List.replicate_succ, List.replicate_zero, if_true, if_false, reduceIte, Nat.reduceLeDiff, Nat.reduceEqDiff, Bool.not_true, Bool.not_false, decide_true, decide_false, Int.reduceLT, Int.reduceLE, Bool.false_eq_true, Bool.true_eq_false, reduceCtorEq, Bool.or_false, Bool.or_true, Bool.true_or, Bool.false_or]
    unfold rng1
    rw [h1, Ev.bindO, Ev.itR1 (by omega) (by omega)]
  have comp := comp_at hit rfl c1
  unfold _law_boxed_F _law_boxed_b
  simp -implicitDefEqProofs only [Ev.all, and_self, and_true, true_and, List.getElem?_cons_zero, List.getElem?_cons_succ, List.set_cons_zero, List.set_cons_succ, List.length_cons, List.length_nil, Option.map_some, Option.bind_some, Option.map_none, Option.bind_none, List.map_cons, List.map_nil, List.cons_append, List.nil_append, List.append_nil, Nat.reduceAdd, Nat.reduceSub, Nat.zero_add, List.replicate_succ, List.replicate_zero, if_true, if_false, reduceIte, Nat.reduceLeDiff, Nat.reduceEqDiff, Bool.not_true, Bool.not_false, decide_true, decide_false, Int.reduceLT, Int.reduceLE, Bool.false_eq_true, Bool.true_eq_false, reduceCtorEq, Bool.or_false, Bool.or_true, Bool.true_or, Bool.false_or, e1, comp]
end PL

/-! plain law PL10 -/
set_option Elab.async false
set_option linter.all false
set_option maxRecDepth 100000
set_option maxHeartbeats 4000000
namespace PL
open PySem PySem.Spec PyProof.Rows L2 FL PF
theorem Sm_name {x : Str} (h : IsName x) : Sm (.str x) 0 82 := Sm.str (m := 8) h.ok (by have := h.2.1; omega)
theorem Sm_lay {p : Bool × Str} (h : IsName p.2) : Sm (lay p) 1 171 := by
  refine Sm.tup (k := 0) (n := 82) fun d hd => ?_
  rcases List.mem_cons.mp hd with rfl | hd
  · cases p.1
    · exact (Sm.str (m := 8) (by decide +kernel) (by decide +kernel))
    · exact (Sm.str (m := 8) (by decide +kernel) (by decide +kernel))
  · rcases List.mem_cons.mp hd with rfl | hd
    · exact Sm_name h
    · cases hd
theorem Sm_box {b : Box} (h : ∀ p ∈ b, IsName p.2) : Sm (.tup (bx b)) 2 (b.length * 173 + 3) := by
  have := Sm.tup (ds := bx b) (k := 1) (n := 171) fun d hd => by
    obtain ⟨p, hp, rfl⟩ := List.mem_map.mp hd
    exact Sm_lay (h p hp)
  rw [bx_length] at this
  exact this
theorem Sm_rs {o : Option Box} (h : ∀ b, o = some b → (∀ p ∈ b, IsName p.2) ∧ b.length ≤ 100) : Sm (rs o) 2 17303 := by
  cases o with
  | none => exact Sm.non.mono (by omega) (by omega)
  | some b =>
    obtain ⟨h1, h2⟩ := h b rfl
    exact (Sm_box h1).mono (Nat.le_refl _) (by omega)
theorem Sm_list {ds : List D} (h : ∀ d ∈ ds, Sm d 2 17303) (hl : ds.length ≤ 100) : ∃ z : Str, reprD (.lst ds) = some (.str z) :=
  (Sm.lst h).shows (by omega) (by have : ds.length * 17305 ≤ 100 * 17305 := Nat.mul_le_mul_right _ hl; omega)
theorem cut3 (ns : List Int) : (cutL ns none (some 3)).length ≤ 3 := by
  unfold cutL
  rw [List.length_take]
  have : HT.sIx ns.length ns.length (some 3) ≤ 3 := by
    unfold HT.sIx
    simp
    omega
  omega
theorem pow17 : powD (.int 10) (.int 17) = some (.int 100000000000000000) := rfl
theorem stock_ok (ns : List Int) (k : Nat) (hk : k ≤ 1000) : ∃ p, _law_stock_F [.scr ns, .int k] = .nw (.l p) none ∧ Pool p := by
  obtain ⟨cell, hcell⟩ : ∃ cell : Int, ifE (tstE (op2 ltD (vE 1) (opN (one lenD) (aCons (vE 0) aNil)))) (op2 getD (vE 0) (vE 1)) (cE (.int 0)) [.im (.scr ns), .im (.int k), .no, .no, .no] = .ok (.d (.int cell)) [.im (.scr ns), .im (.int k), .no, .no, .no] := by
    by_cases h : (k : Int) < (ns.length : Int)
    · have hk : k < ns.length := by omega
      refine ⟨ns[k], ?_⟩
      have e : (L2.atI ns (k : Int)).map D.int = some (.int ns[k]) := by rw [Ev.atI, List.getElem?_eq_getElem hk]; rfl
      simp -implicitDefEqProofs only [Ev.all, and_self, and_true, true_and, List.getElem?_cons_zero, List.getElem?_cons_succ, List.set_cons_zero, List.set_cons_succ, List.length_cons, List.length_nil, Option.map_some, Option.bind_some, Option.map_none, Option.bind_none, List.map_cons, List.map_nil, List.cons_append, List.nil_append, List.append_nil, Nat.reduceAdd, Nat.reduceSub, Nat.zero_add, List.replicate_succ, List.replicate_zero, if_true, if_false, reduceIte, Nat.reduceLeDiff, Nat.reduceEqDiff, Bool.not_true, Bool.not_false, decide_true, decide_false, Int.reduceLT, Int.reduceLE, Bool.false_eq_true, Bool.true_eq_false, reduceCtorEq, Bool.or_false, Bool.or_true, Bool.true_or, Bool.false_or, h, e]
    · exact ⟨0, by simp -implicitDefEqProofs only [Ev.all, and_self, and_true, true_and, List.getElem?_cons_zero, List.getElem?_cons_succ, List.set_cons_zero, List.set_cons_succ, List.length_cons, List.length_nil, Option.map_some, Option.bind_some, Option.map_none, Option.bind_none, List.map_cons, List.map_nil, List.cons_append, List.nil_append, List.append_nil, Nat.reduceAdd, Nat.reduceSub, Nat.zero_add, List.replicate_succ, List.replicate_zero, if_true, if_false, reduceIte, Nat.reduceLeDiff, Nat.reduceEqDiff, Bool.not_true, Bool.not_false, decide_true, decide_false, Int.reduceLT, Int.reduceLE, Bool.false_eq_true, Bool.true_eq_false, reduceCtorEq, Bool.or_false, Bool.or_true, Bool.true_or, Bool.false_or, h]⟩
  have hcut := cut3 ns
  have hadd : addD (.lst ((cutL ns none (some 3)).map D.int)) (.lst [.int cell]) = some (.lst ((cutL ns none (some 3)).map D.int ++ [.int cell])) := by
    show (if _ then _ else _) = _
    rw [if_pos (by rw [List.length_map]; show _ + 1 ≤ 2 ^ 24; omega)]
  have hx : ∀ y : Int, 0 ≤ y % 2147483563 ∧ y % 2147483563 < 2147483563 := fun y => ⟨Int.emod_nonneg _ (by decide), Int.emod_lt_of_pos _ (by decide)⟩
  obtain ⟨Γ', l1, _, m, s4, m1, m2, s5, rfl⟩ := for_inv (b := bName 4) (body := _law_stock_x1)
    (I := fun ds Γ => (∀ d ∈ ds, ∃ i : Int, d = .int i) ∧ ∃ (m : Int) (s : Sl), 0 ≤ m ∧ m < 2147483563 ∧ s.isB = false ∧ Γ = [.im (.scr ns), .im (.int k), .im (.int cell), .im (.int m), s])
    ((cutL ns none (some 3)).map D.int ++ [.int cell]) [.im (.scr ns), .im (.int k), .im (.int cell), .im (.int (104659 + 7919 * k)), .no]
    ⟨fun d hd => by
      rcases List.mem_append.mp hd with hd | hd
      · obtain ⟨i, _, rfl⟩ := List.mem_map.mp hd
        exact ⟨i, rfl⟩
      · exact ⟨cell, List.mem_singleton.mp hd⟩, _, _, by omega, by omega, rfl, rfl⟩
    fun d ds Γ ⟨h, m, s, m1, m2, hs, e⟩ => by
      subst e
      obtain ⟨i, rfl⟩ := h d List.mem_cons_self
      have e1 : (-(2 ^ 64) < m ∧ m < 2 ^ 64) ∨ (-(2 ^ 64) < (52711 : Int) ∧ (52711 : Int) < 2 ^ 64) := .inl ⟨by omega, by omega⟩
      have e2 : decide ((0 : Int) < 2147483563) = true := rfl
      refine ⟨[.im (.scr ns), .im (.int k), .im (.int cell), .im (.int m), .im (.int i)], by simp -implicitDefEqProofs only [Ev.all, and_self, and_true, true_and, List.getElem?_cons_zero, List.getElem?_cons_succ, List.set_cons_zero, List.set_cons_succ, List.length_cons, List.length_nil, Option.map_some, Option.bind_some, Option.map_none, Option.bind_none, List.map_cons, List.map_nil, List.cons_append, List.nil_append, List.append_nil, Nat.reduceAdd, Nat.reduceSub, Nat.zero_add, List.replicate_succ, List.replicate_zero, if_true, if_false, reduceIte, Nat.reduceLeDiff, Nat.reduceEqDiff, Bool.not_true, Bool.not_false, decide_true, decide_false, Int.reduceLT, Int.reduceLE, Bool.false_eq_true, Bool.true_eq_false, reduceCtorEq, Bool.or_false, Bool.or_true, Bool.true_or, Bool.false_or, hs], _, .inl ?_, fun d hd => h d (List.mem_cons_of_mem _ hd), (m * 52711 + i) % 2147483563, .im (.int i), (hx _).1, (hx _).2, rfl, rfl⟩
      simp -implicitDefEqProofs only [_law_stock_x1, Ev.all, and_self, and_true, true_and, List.getElem?_cons_zero, List.getElem?_cons_succ, List.set_cons_zero, List.set_cons_succ, List.length_cons, List.length_nil, Option.map_some, Option.bind_some, Option.map_none, Option.bind_none, List.map_cons, List.map_nil, List.cons_append, List.nil_append, List.append_nil, Nat.reduceAdd, Nat.reduceSub, Nat.zero_add, List.replicate_succ, List.replicate_zero, if_true, if_false, reduceIte, Nat.reduceLeDiff, Nat.reduceEqDiff, Bool.not_true, Bool.not_false, decide_true, decide_false, Int.reduceLT, Int.reduceLE, Bool.false_eq_true, Bool.true_eq_false, reduceCtorEq, Bool.or_false, Bool.or_true, Bool.true_or, Bool.false_or, if_pos e1, e2]
  have hmul : mulD (.int 7919) (.int k) = some (.int (7919 * k)) := by
    rw [Ev.mulI, if_pos (.inl ⟨by decide, by decide⟩)]
  have hit : ∀ Γ, Γ = [Sl.im (.scr ns), .im (.int k), .im (.int cell), .im (.int (104659 + 7919 * k)), .no] → anyI (op2 addD (slE (vE 0) oNo (oSome (cE (.int 3)))) (lstE (aCons (vE 2) aNil))) Γ = .ok ((cutL ns none (some 3)).map D.int ++ [.int cell]) Γ := fun Γ e => by
    subst e
    have hc : cutD none (some 3) (.scr ns) = some (.lst ((cutL ns none (some 3)).map D.int)) := rfl
    simp -implicitDefEqProofs only [Ev.all, and_self, and_true, true_and, List.getElem?_cons_zero, List.getElem?_cons_succ, List.set_cons_zero, List.set_cons_succ, List.length_cons, List.length_nil, Option.map_some, Option.bind_some, Option.map_none, Option.bind_none, List.map_cons, List.map_nil, List.cons_append, List.nil_append, List.append_nil, Nat.reduceAdd, Nat.reduceSub, Nat.zero_add, List.replicate_succ, List.replicate_zero, if_true, if_false, reduceIte, Nat.reduceLeDiff, Nat.reduceEqDiff, Bool.not_true, Bool.not_false, decide_true, decide_false, Int.reduceLT, Int.reduceLE, Bool.false_eq_true, Bool.true_eq_false, reduceCtorEq, Bool.or_false, Bool.or_true, Bool.true_or, Bool.false_or, hc, hadd]
  have hfor : forS (anyI (op2 addD (slE (vE 0) oNo (oSome (cE (.int 3)))) (lstE (aCons (vE 2) aNil)))) (bName 4) _law_stock_x1 [.im (.scr ns), .im (.int k), .im (.int cell), .im (.int (104659 + 7919 * k)), .no] = .ok .nx [.im (.scr ns), .im (.int k), .im (.int cell), .im (.int m), s4] := by
    unfold forS
    rw [hit _ rfl]
    exact l1
  have main : ∃ b : Int, 0 ≤ b ∧ _law_stock_F [.scr ns, .int k] = .nw (.l [.int m, .int b, .int 0]) none := by
    unfold _law_stock_F _law_stock_b
    by_cases c1 : cell < 0
    · refine ⟨-cell, by omega, ?_⟩
      rw [Ev.runF]
      simp -implicitDefEqProofs only [Ev.startG0, and_self, and_true, true_and, List.getElem?_cons_zero, List.getElem?_cons_succ, List.set_cons_zero, List.set_cons_succ, List.length_cons, List.length_nil, Option.map_some, Option.bind_some, Option.map_none, Option.bind_none, List.map_cons, List.map_nil, List.cons_append, List.nil_append, List.append_nil, Nat.reduceAdd, Nat.reduceSub, Nat.zero_add, List.replicate_succ, List.replicate_zero, if_true, if_false, reduceIte, Nat.reduceLeDiff, Nat.reduceEqDiff, Bool.not_true, Bool.not_false, decide_true, decide_false, Int.reduceLT, Int.reduceLE, Bool.false_eq_true, Bool.true_eq_false, reduceCtorEq, Bool.or_false, Bool.or_true, Bool.true_or, Bool.false_or, Ev.seqS, Ev.seqK0, Ev.asgV, Ev.ruK1, Ev.vE', Ev.veK1, Ev.stK1, Ev.oK1, hcell, Ev.bindO, Ev.stoVe, Ev.frzd, Ev.isBz, Ev.isBs, Ev.isB0, Ev.isB1, Ev.addV, Ev.op2, Ev.cE, Ev.vE, Ev.fin2, Ev.lookd, hmul, Ev.addV2I, hfor]
      simp -implicitDefEqProofs only [Ev.all, and_self, and_true, true_and, List.getElem?_cons_zero, List.getElem?_cons_succ, List.set_cons_zero, List.set_cons_succ, List.length_cons, List.length_nil, Option.map_some, Option.bind_some, Option.map_none, Option.bind_none, List.map_cons, List.map_nil, List.cons_append, List.nil_append, List.append_nil, Nat.reduceAdd, Nat.reduceSub, Nat.zero_add, List.replicate_succ, List.replicate_zero, if_true, if_false, reduceIte, Nat.reduceLeDiff, Nat.reduceEqDiff, Bool.not_true, Bool.not_false, decide_true, decide_false, Int.reduceLT, Int.reduceLE, Bool.false_eq_true, Bool.true_eq_false, reduceCtorEq, Bool.or_false, Bool.or_true, Bool.true_or, Bool.false_or, c1]
    · by_cases c2 : 100000000000000000 < cell
      · refine ⟨cell, by omega, ?_⟩
        rw [Ev.runF]
        simp -implicitDefEqProofs only [Ev.startG0, and_self, and_true, true_and, List.getElem?_cons_zero, List.getElem?_cons_succ, List.set_cons_zero, List.set_cons_succ, List.length_cons, List.length_nil, Option.map_some, Option.bind_some, Option.map_none, Option.bind_none, List.map_cons, List.map_nil, List.cons_append, List.nil_append, List.append_nil, Nat.reduceAdd, Nat.reduceSub, Nat.zero_add, List.replicate_succ, List.replicate_zero, if_true, if_false, reduceIte, Nat.reduceLeDiff, Nat.reduceEqDiff, Bool.not_true, Bool.not_false, decide_true, decide_false, Int.reduceLT, Int.reduceLE, Bool.false_eq_true, Bool.true_eq_false, reduceCtorEq, Bool.or_false, Bool.or_true, Bool.true_or, Bool.false_or, Ev.seqS, Ev.seqK0, Ev.asgV, Ev.ruK1, Ev.vE', Ev.veK1, Ev.stK1, Ev.oK1, hcell, Ev.bindO, Ev.stoVe, Ev.frzd, Ev.isBz, Ev.isBs, Ev.isB0, Ev.isB1, Ev.addV, Ev.op2, Ev.cE, Ev.vE, Ev.fin2, Ev.lookd, hmul, Ev.addV2I, hfor]
        simp -implicitDefEqProofs only [Ev.all, and_self, and_true, true_and, List.getElem?_cons_zero, List.getElem?_cons_succ, List.set_cons_zero, List.set_cons_succ, List.length_cons, List.length_nil, Option.map_some, Option.bind_some, Option.map_none, Option.bind_none, List.map_cons, List.map_nil, List.cons_append, List.nil_append, List.append_nil, Nat.reduceAdd, Nat.reduceSub, Nat.zero_add, List.replicate_succ, List.replicate_zero, if_true, if_false, reduceIte, Nat.reduceLeDiff, Nat.reduceEqDiff, Bool.not_true, Bool.not_false, decide_true, decide_false, Int.reduceLT, Int.reduceLE, Bool.false_eq_true, Bool.true_eq_false, reduceCtorEq, Bool.or_false, Bool.or_true, Bool.true_or, Bool.false_or, c1, c2, pow17]
      · refine ⟨0, by omega, ?_⟩
        rw [Ev.runF]
        simp -implicitDefEqProofs only [Ev.startG0, and_self, and_true, true_and, List.getElem?_cons_zero, List.getElem?_cons_succ, List.set_cons_zero, List.set_cons_succ, List.length_cons, List.length_nil, Option.map_some, Option.bind_some, Option.map_none, Option.bind_none, List.map_cons, List.map_nil, List.cons_append, List.nil_append, List.append_nil, Nat.reduceAdd, Nat.reduceSub, Nat.zero_add, List.replicate_succ, List.replicate_zero, if_true, if_false, reduceIte, Nat.reduceLeDiff, Nat.reduceEqDiff, Bool.not_true, Bool.not_false, decide_true, decide_false, Int.reduceLT, Int.reduceLE, Bool.false_eq_true, Bool.true_eq_false, reduceCtorEq, Bool.or_false, Bool.or_true, Bool.true_or, Bool.false_or, Ev.seqS, Ev.seqK0, Ev.asgV, Ev.ruK1, Ev.vE', Ev.veK1, Ev.stK1, Ev.oK1, hcell, Ev.bindO, Ev.stoVe, Ev.frzd, Ev.isBz, Ev.isBs, Ev.isB0, Ev.isB1, Ev.addV, Ev.op2, Ev.cE, Ev.vE, Ev.fin2, Ev.lookd, hmul, Ev.addV2I, hfor]
        simp -implicitDefEqProofs only [Ev.all, and_self, and_true, true_and, List.getElem?_cons_zero, List.getElem?_cons_succ, List.set_cons_zero, List.set_cons_succ, List.length_cons, List.length_nil, Option.map_some, Option.bind_some, Option.map_none, Option.bind_none, List.map_cons, List.map_nil, List.cons_append, List.nil_append, List.append_nil, Nat.reduceAdd, Nat.reduceSub, Nat.zero_add, List.replicate_succ, List.replicate_zero, if_true, if_false, reduceIte, Nat.reduceLeDiff, Nat.reduceEqDiff, Bool.not_true, Bool.not_false, decide_true, decide_false, Int.reduceLT, Int.reduceLE, Bool.false_eq_true, Bool.true_eq_false, reduceCtorEq, Bool.or_false, Bool.or_true, Bool.true_or, Bool.false_or, c1, c2, pow17]
  obtain ⟨b, hb, e⟩ := main
  exact ⟨_, e, _, _, _, rfl, m1, m2, hb, Int.le_refl _⟩
theorem tail_ok {ns : List Int} {vi : Nat} {cap : Int} {f : EF} {Γ : En} (h0 : Γ[0]? = some (.im (.scr ns))) (hw : Γ.set vi .no = Γ) (c1 : 2 ≤ cap) (c2 : cap ≤ 1000)
    (hf : ∀ k : Nat, k ≤ 1000 → f (Γ.set vi (.im (.int k))) = .ok (.d (.bl true)) (Γ.set vi (.im (.int k)))) :
    ∃ xs, compV [vi] (rng1 (aCons (opN (two maxD) (aCons (cE (.int 2)) (aCons (opN (two minD) (aCons (opN (one lenD) (aCons (vE 0) aNil)) (aCons (cE (.int cap)) aNil))) aNil))) aNil)) (bName vi) trueT f Γ = .ok (.n (.l xs)) Γ ∧ allD (.lst xs) = some (.bl true) := by
  have hb : isBor Γ vi = false := by
    unfold isBor
    rw [← hw]
    by_cases h : vi < Γ.length
    · rw [List.getElem?_set_self h]
    · rw [List.getElem?_eq_none (by rw [List.length_set]; omega)]
  have hnb : noBor Γ [vi] = true := by
    unfold noBor
    rw [List.all_cons, hb]; rfl
  have hwp : wipeΓ Γ [vi] = Γ := hw
  generalize hj : (if (if cap < (ns.length : Int) then cap else (ns.length : Int)) > 2 then (if cap < (ns.length : Int) then cap else (ns.length : Int)) else 2) = j
  have hj1 : 0 ≤ j ∧ j ≤ 1000 := by
    subst hj
    split <;> split <;> omega
  have hit : rng1 (aCons (opN (two maxD) (aCons (cE (.int 2)) (aCons (opN (two minD) (aCons (opN (one lenD) (aCons (vE 0) aNil)) (aCons (cE (.int cap)) aNil))) aNil))) aNil) Γ = .ok ((List.range j.toNat).map fun i => D.int (0 + (i : Nat))) Γ := by
    have h1 : aCons (opN (two maxD) (aCons (cE (.int 2)) (aCons (opN (two minD) (aCons (opN (one lenD) (aCons (vE 0) aNil)) (aCons (cE (.int cap)) aNil))) aNil))) aNil Γ = .ok [.d (.int j)] Γ := by
      rw [← hj]
      simp -implicitDefEqProofs only [Ev.all, and_self, and_true, true_and, List.getElem?_cons_zero, List.getElem?_cons_succ, List.set_cons_zero, List.set_cons_succ, List.length_cons, List.length_nil, Option.map_some, Option.bind_some, Option.map_none, Option.bind_none, List.map_cons, List.map_nil, List.cons_append, List.nil_append, List.append_nil, Nat.reduceAdd, Nat.reduceSub, Nat.zero_add, List.replicate_succ, List.replicate_zero, if_true, if_false, reduceIte, Nat.reduceLeDiff, Nat.reduceEqDiff, Bool.not_true, Bool.not_false, decide_true, decide_false, Int.reduceLT, Int.reduceLE, Bool.false_eq_true, Bool.true_eq_false, reduceCtorEq, Bool.or_false, Bool.or_true, Bool.true_or, Bool.false_or, h0]
    unfold rng1
    rw [h1, Ev.bindO, Ev.itR1 (by omega) (by omega)]
  obtain ⟨xs, Γ', k1, k2, k3⟩ := cmp_inv (vs := [vi]) (b := bName vi) (tt := trueT) (elt := f) (I := fun Γ' => Γ' = Γ) (R := fun _ x => x = .bl true) ((List.range j.toNat).map fun i => D.int (0 + (i : Nat))) [] Γ rfl (by rw [List.length_map, List.length_range, List.length_nil]; omega) fun d hd Γ' e => by
    subst e
    obtain ⟨i, hi, rfl⟩ := List.mem_map.mp hd
    have hi := List.mem_range.mp hi
    have e0 : (0 : Int) + (i : Nat) = (i : Nat) := by omega
    refine ⟨Γ'.set vi (.im (.int i)), Γ'.set vi (.im (.int i)), .d (.bl true), Γ'.set vi (.im (.int i)), .bl true, Γ'.set vi (.im (.int i)), ?_, rfl, hf i (by omega), rfl, rfl, ?_⟩
    · rw [hwp, e0]
      show (if isBor Γ' vi = false then _ else _) = _
      rw [if_pos hb]
    · show (Γ'.set vi _).set vi .no = _
      rw [List.set_set]; exact hw
  subst k3
  have hall : allD (.lst xs) = some (.bl true) := by
    have : ∀ {ds xs : List D}, Paired (fun _ x => x = D.bl true) ds xs → bools xs = some (xs.map fun _ => true) := by
      intro ds xs h
      induction h with
      | nil => rfl
      | cons r t ih =>
        subst r
        show (bools _).map _ = _
        rw [ih]; rfl
    show (bools xs).map _ = _
    rw [this k2]
    show some (D.bl ((xs.map fun _ => true).all id)) = _
    rw [List.all_map]
    congr 2
    exact List.all_eq_true.mpr fun _ _ => rfl
  exact ⟨xs, comp_at hit hnb k1, hall⟩
end PL

/-! plain law PL11 -/
set_option Elab.async false
set_option linter.all false
set_option maxRecDepth 100000
set_option maxHeartbeats 4000000
namespace PL
open PySem PySem.Spec PyProof.Rows L2 FL PF
theorem row1 : ∀ i : Fin 8, rowT [i] = dT i := by decide +kernel
theorem run1 (i : Fin 8) (me you : Str) (b : Box) : runD [i] me you b = stp i me you b := by
  show (stp i me you b).bind (fun b => some b) = _
  cases stp i me you b <;> rfl
theorem behind1 (i : Fin 8) {me you : Str} (hm : IsName me) (hy : IsName you) {b : Box} (hb : IsBox b) : behind_F [.str (dT i), .str me, .str you, .tup (bx b)] = .ok (rs (stp i me you b)) none := by
  have := behind_ev (is := [i]) (by simp) (by simp) hm hy hb
  rw [row1, run1] at this
  exact this
theorem Sm_stp {i : Fin 8} {me you : Str} {b : Box} (hm : IsName me) (hy : IsName you) (hb : IsBox b) : Sm (rs (stp i me you b)) 2 17303 :=
  Sm_rs fun b' h => by
    obtain ⟨h1, h2⟩ := stp_all (P := IsName) h hm hy hb.2
    have := hb.1
    exact ⟨h1, by omega⟩
theorem deed_round {p0 S1 s2 so s9 s10 : Sl} {dn an z : Str} {b : Box} (i : Fin 8) (hd : IsName dn) (ha : IsName an) (hb : IsBox b) (hz : reprD (.tup (bx b)) = some (.str z)) (h9 : s9.isB = false) (h10 : s10.isB = false) :
    ∃ d9 d10 : Sl, _law_right_x1 [p0, S1, s2, .im (.str dn), .im (.str an), so, .im (.tup (bx b)), .im (.str z), .im (.str (dT i)), s9, s10] = .ok .nx [p0, S1, s2, .im (.str dn), .im (.str an), so, .im (.tup (bx b)), .im (.str z), .im (.str (dT i)), d9, d10] ∧ d9.isB = false ∧ d10.isB = false := by
  have hl : b.length ≤ 1000 := by have := hb.1; omega
  have e1 := by_deed_ev i dn an b hl hb.ok hd.ok ha.ok
  have e2 := by_deed_ev i an dn b hl hb.ok ha.ok hd.ok
  have e3 := by_deed_ev i dn dn b hl hb.ok hd.ok hd.ok
  have f1 := behind1 i hd ha hb
  have f2 := behind1 i ha hd hb
  have f3 := behind1 i hd hd hb
  obtain ⟨w, hw⟩ := Sm_list (ds := [rs (stp i dn an b), rs (stp i an dn b), rs (stp i dn dn b)]) (fun d h => by
    simp only [List.mem_cons, List.not_mem_nil, or_false] at h
    rcases h with rfl | rfl | rfl
    · exact Sm_stp hd ha hb
    · exact Sm_stp ha hd hb
    · exact Sm_stp hd hd hb) (by simp)
  refine ⟨.acc (.l [rs (stp i dn an b), rs (stp i an dn b), rs (stp i dn dn b)]), .acc (.l [rs (stp i dn an b), rs (stp i an dn b), rs (stp i dn dn b)]), ?_, rfl, rfl⟩
  simp -implicitDefEqProofs only [_law_right_x1, Ev.all, and_self, and_true, true_and, List.getElem?_cons_zero, List.getElem?_cons_succ, List.set_cons_zero, List.set_cons_succ, List.length_cons, List.length_nil, Option.map_some, Option.bind_some, Option.map_none, Option.bind_none, List.map_cons, List.map_nil, List.cons_append, List.nil_append, List.append_nil, Nat.reduceAdd, Nat.reduceSub, Nat.zero_add, List.replicate_succ, List.replicate_zero, if_true, if_false, reduceIte, Nat.reduceLeDiff, Nat.reduceEqDiff, Bool.not_true, Bool.not_false, decide_true, decide_false, Int.reduceLT, Int.reduceLE, Bool.false_eq_true, Bool.true_eq_false, reduceCtorEq, Bool.or_false, Bool.or_true, Bool.true_or, Bool.false_or, e1, e2, e3, f1, f2, f3, hw, hz, h9, h10, eq_self]
end PL

/-! plain law PL12 -/
set_option Elab.async false
set_option linter.all false
set_option maxRecDepth 100000
set_option maxHeartbeats 4000000
namespace PL
open PySem PySem.Spec PyProof.Rows L2 FL PF
def deeds8 : List D := [.str "lock me", .str "lock you", .str "unlock me", .str "tag me", .str "tag you", .str "untag me", .str "untag you", .str "untag any"]
theorem deeds8_eq : deeds8 = ([0, 1, 2, 3, 4, 5, 6, 7] : List (Fin 8)).map fun i => D.str (dT i) := rfl
theorem deeds_loop {p0 S1 s2 so : Sl} {dn an z : Str} {b : Box} (hd : IsName dn) (ha : IsName an) (hb : IsBox b) (hz : reprD (.tup (bx b)) = some (.str z)) {s8 s9 s10 : Sl} (h8 : s8.isB = false) (h9 : s9.isB = false) (h10 : s10.isB = false) :
    ∃ d8 d9 d10 : Sl, loopS (bName 8) _law_right_x1 deeds8 [p0, S1, s2, .im (.str dn), .im (.str an), so, .im (.tup (bx b)), .im (.str z), s8, s9, s10] = .ok .nx [p0, S1, s2, .im (.str dn), .im (.str an), so, .im (.tup (bx b)), .im (.str z), d8, d9, d10] ∧ d8.isB = false ∧ d9.isB = false ∧ d10.isB = false := by
  obtain ⟨Γ', l1, _, d8, d9, d10, h1, h2, h3, rfl⟩ := for_inv (b := bName 8) (body := _law_right_x1)
    (I := fun ds Γ => (∃ js : List (Fin 8), ds = js.map fun i => D.str (dT i)) ∧ ∃ d8 d9 d10 : Sl, d8.isB = false ∧ d9.isB = false ∧ d10.isB = false ∧ Γ = [p0, S1, s2, .im (.str dn), .im (.str an), so, .im (.tup (bx b)), .im (.str z), d8, d9, d10])
    deeds8 _ ⟨⟨_, deeds8_eq⟩, s8, s9, s10, h8, h9, h10, rfl⟩ fun d ds Γ ⟨⟨js, e⟩, d8, d9, d10, k8, k9, k10, eΓ⟩ => by
      cases js with
      | nil => cases e
      | cons i js =>
        cases e
        subst eΓ
        obtain ⟨e9, e10, r, r9, r10⟩ := deed_round (p0 := p0) (S1 := S1) (s2 := s2) (so := so) i hd ha hb hz k9 k10
        refine ⟨_, ?_, _, .inl r, ⟨js, rfl⟩, .im (.str (dT i)), e9, e10, rfl, r9, r10, rfl⟩
        simp -implicitDefEqProofs only [Ev.all, and_self, and_true, true_and, List.getElem?_cons_zero, List.getElem?_cons_succ, List.set_cons_zero, List.set_cons_succ, List.length_cons, List.length_nil, Option.map_some, Option.bind_some, Option.map_none, Option.bind_none, List.map_cons, List.map_nil, List.cons_append, List.nil_append, List.append_nil, Nat.reduceAdd, Nat.reduceSub, Nat.zero_add, List.replicate_succ, List.replicate_zero, if_true, if_false, reduceIte, Nat.reduceLeDiff, Nat.reduceEqDiff, Bool.not_true, Bool.not_false, decide_true, decide_false, Int.reduceLT, Int.reduceLE, Bool.false_eq_true, Bool.true_eq_false, reduceCtorEq, Bool.or_false, Bool.or_true, Bool.true_or, Bool.false_or, k8]
  exact ⟨d8, d9, d10, l1, h1, h2, h3⟩
theorem right_turn {p : List D} (P : Pool p) {S1 s2 s3 s4 s5 s6 s7 s8 s9 s10 : Sl} (h1 : S1 = .acc (.l deeds8) ∨ S1 = .im (.lst deeds8)) (h2 : s2.isB = false) (h3 : s3.isB = false) (h4 : s4.isB = false) (h5 : s5.isB = false) (h6 : s6.isB = false) (h7 : s7.isB = false) (h8 : s8.isB = false) (h9 : s9.isB = false) (h10 : s10.isB = false) :
    ∃ (p' : List D) (d3 d4 d5 d6 d7 d8 d9 d10 : Sl), _law_right_x2 [.bor (.l p), S1, s2, s3, s4, s5, s6, s7, s8, s9, s10] = .ok .nx [.bor (.l p'), .im (.lst deeds8), s2, d3, d4, d5, d6, d7, d8, d9, d10] ∧ Pool p' ∧ d3.isB = false ∧ d4.isB = false ∧ d5.isB = false ∧ d6.isB = false ∧ d7.isB = false ∧ d8.isB = false ∧ d9.isB = false ∧ d10.isB = false := by
  obtain ⟨dn, p1, e1, hd, P1⟩ := called_ok P
  obtain ⟨an, p2, e2, ha, P2⟩ := called_ok P1
  obtain ⟨on, p3, e3, ho, P3⟩ := called_ok P2
  obtain ⟨r, p4, e4, r1, r2, P4⟩ := take_ok P3 (n := 5) (by decide) (by decide)
  obtain ⟨an', han, hax⟩ : ∃ a : Str, IsName a ∧ a = (if r = 0 then dn else an) := by
    by_cases h : r = 0
    · exact ⟨dn, hd, by rw [if_pos h]⟩
    · exact ⟨an, ha, by rw [if_neg h]⟩
  obtain ⟨b, p5, e5, b1, b2, P5⟩ := boxed_ok P4 (ns := [dn, an', on, dn, an']) (by
    intro x hx
    simp only [List.mem_cons, List.not_mem_nil, or_false] at hx
    rcases hx with rfl | rfl | rfl | rfl | rfl <;> assumption) (by simp) (by simp) (m := 12) (by decide)
  have hb : IsBox b := ⟨b1, fun q hq => by
    have := b2 q hq
    simp only [List.mem_cons, List.not_mem_nil, or_false] at this
    rcases this with h | h | h | h | h <;> (rw [h]; assumption)⟩
  simp only [List.map_cons, List.map_nil] at e5
  obtain ⟨z, hz⟩ := (Sm_box hb.2).shows (by omega) (by have := hb.1; omega)
  obtain ⟨d8, d9, d10, l1, k8, k9, k10⟩ := deeds_loop (p0 := .bor (.l p5)) (S1 := .im (.lst deeds8)) (s2 := s2) (so := .im (.str on)) hd han hb hz h8 h9 h10
  refine ⟨p5, .im (.str dn), .im (.str an'), .im (.str on), .im (.tup (bx b)), .im (.str z), d8, d9, d10, ?_, P5, rfl, rfl, rfl, rfl, rfl, k8, k9, k10⟩
  have c12 : ((12 : Nat) : Int) = 12 := rfl
  rw [c12] at e5
  have h0 : eqD (.int r) (.int 0) = some (.bl (decide (r = 0))) := rfl
  by_cases h : r = 0
  · rw [if_pos h] at hax
    subst hax
    rw [decide_eq_true h] at h0
    rcases h1 with rfl | rfl
    · simp -implicitDefEqProofs only [_law_right_x2, Ev.forS, Ev.all, and_self, and_true, true_and, List.getElem?_cons_zero, List.getElem?_cons_succ, List.set_cons_zero, List.set_cons_succ, List.length_cons, List.length_nil, Option.map_some, Option.bind_some, Option.map_none, Option.bind_none, List.map_cons, List.map_nil, List.cons_append, List.nil_append, List.append_nil, Nat.reduceAdd, Nat.reduceSub, Nat.zero_add, List.replicate_succ, List.replicate_zero, if_true, if_false, reduceIte, Nat.reduceLeDiff, Nat.reduceEqDiff, Bool.not_true, Bool.not_false, decide_true, decide_false, Int.reduceLT, Int.reduceLE, Bool.false_eq_true, Bool.true_eq_false, reduceCtorEq, Bool.or_false, Bool.or_true, Bool.true_or, Bool.false_or, e1, e2, e3, e4, h0, e5, hz, l1, h2, h3, h4, h5, h6, h7, h8, h9, h10]
    · simp -implicitDefEqProofs only [_law_right_x2, Ev.forS, Ev.all, and_self, and_true, true_and, List.getElem?_cons_zero, List.getElem?_cons_succ, List.set_cons_zero, List.set_cons_succ, List.length_cons, List.length_nil, Option.map_some, Option.bind_some, Option.map_none, Option.bind_none, List.map_cons, List.map_nil, List.cons_append, List.nil_append, List.append_nil, Nat.reduceAdd, Nat.reduceSub, Nat.zero_add, List.replicate_succ, List.replicate_zero, if_true, if_false, reduceIte, Nat.reduceLeDiff, Nat.reduceEqDiff, Bool.not_true, Bool.not_false, decide_true, decide_false, Int.reduceLT, Int.reduceLE, Bool.false_eq_true, Bool.true_eq_false, reduceCtorEq, Bool.or_false, Bool.or_true, Bool.true_or, Bool.false_or, e1, e2, e3, e4, h0, e5, hz, l1, h2, h3, h4, h5, h6, h7, h8, h9, h10]
  · rw [if_neg h] at hax
    subst hax
    rw [decide_eq_false h] at h0
    rcases h1 with rfl | rfl
    · simp -implicitDefEqProofs only [_law_right_x2, Ev.forS, Ev.all, and_self, and_true, true_and, List.getElem?_cons_zero, List.getElem?_cons_succ, List.set_cons_zero, List.set_cons_succ, List.length_cons, List.length_nil, Option.map_some, Option.bind_some, Option.map_none, Option.bind_none, List.map_cons, List.map_nil, List.cons_append, List.nil_append, List.append_nil, Nat.reduceAdd, Nat.reduceSub, Nat.zero_add, List.replicate_succ, List.replicate_zero, if_true, if_false, reduceIte, Nat.reduceLeDiff, Nat.reduceEqDiff, Bool.not_true, Bool.not_false, decide_true, decide_false, Int.reduceLT, Int.reduceLE, Bool.false_eq_true, Bool.true_eq_false, reduceCtorEq, Bool.or_false, Bool.or_true, Bool.true_or, Bool.false_or, e1, e2, e3, e4, h0, e5, hz, l1, h2, h3, h4, h5, h6, h7, h8, h9, h10]
    · simp -implicitDefEqProofs only [_law_right_x2, Ev.forS, Ev.all, and_self, and_true, true_and, List.getElem?_cons_zero, List.getElem?_cons_succ, List.set_cons_zero, List.set_cons_succ, List.length_cons, List.length_nil, Option.map_some, Option.bind_some, Option.map_none, Option.bind_none, List.map_cons, List.map_nil, List.cons_append, List.nil_append, List.append_nil, Nat.reduceAdd, Nat.reduceSub, Nat.zero_add, List.replicate_succ, List.replicate_zero, if_true, if_false, reduceIte, Nat.reduceLeDiff, Nat.reduceEqDiff, Bool.not_true, Bool.not_false, decide_true, decide_false, Int.reduceLT, Int.reduceLE, Bool.false_eq_true, Bool.true_eq_false, reduceCtorEq, Bool.or_false, Bool.or_true, Bool.true_or, Bool.false_or, e1, e2, e3, e4, h0, e5, hz, l1, h2, h3, h4, h5, h6, h7, h8, h9, h10]
end PL

/-! plain law PL13 -/
set_option Elab.async false
set_option linter.all false
set_option maxRecDepth 100000
set_option maxHeartbeats 4000000
namespace PL
open PySem PySem.Spec PyProof.Rows L2 FL PF
theorem rng_c {n : Nat} (hn : n ≤ 1000000) {Γ : En} : rng1 (aCons (cE (.int (n : Int))) aNil) Γ = .ok ((List.range n).map fun i => D.int (0 + (i : Nat))) Γ := by
  unfold rng1
  have h1 : aCons (cE (.int (n : Int))) aNil Γ = .ok [.d (.int (n : Int))] Γ := rfl
  rw [h1, Ev.bindO, Ev.itR1 (by omega) (by omega)]; rfl
theorem right_k03 {p : List D} (P : Pool p) : ∃ o, _law_right_F [.lst p] = .ok (.bl true) (some (.l o)) := by
  obtain ⟨Γ', l1, p', S1, s2, s3, s4, s5, s6, s7, s8, s9, s10, P', h1, h2, h3, h4, h5, h6, h7, h8, h9, h10, rfl⟩ := for_inv (b := bName 2) (body := _law_right_x2)
    (I := fun ds Γ => ∃ (p : List D) (S1 s2 s3 s4 s5 s6 s7 s8 s9 s10 : Sl), Pool p ∧ (S1 = .acc (.l deeds8) ∨ S1 = .im (.lst deeds8)) ∧ s2.isB = false ∧ s3.isB = false ∧ s4.isB = false ∧ s5.isB = false ∧ s6.isB = false ∧ s7.isB = false ∧ s8.isB = false ∧ s9.isB = false ∧ s10.isB = false ∧ Γ = [.bor (.l p), S1, s2, s3, s4, s5, s6, s7, s8, s9, s10])
    ((List.range 3).map fun i => D.int (0 + (i : Nat))) [.bor (.l p), .acc (.l deeds8), .no, .no, .no, .no, .no, .no, .no, .no, .no] ⟨p, _, _, _, _, _, _, _, _, _, _, P, .inl rfl, rfl, rfl, rfl, rfl, rfl, rfl, rfl, rfl, rfl, rfl⟩
    fun d ds Γ ⟨p, S1, s2, s3, s4, s5, s6, s7, s8, s9, s10, P, h1, h2, h3, h4, h5, h6, h7, h8, h9, h10, e⟩ => by
      subst e
      obtain ⟨p', d3, d4, d5, d6, d7, d8, d9, d10, r, P', k3, k4, k5, k6, k7, k8, k9, k10⟩ := right_turn P h1 (s2 := .im d) rfl h3 h4 h5 h6 h7 h8 h9 h10
      exact ⟨_, by simp -implicitDefEqProofs only [Ev.all, and_self, and_true, true_and, List.getElem?_cons_zero, List.getElem?_cons_succ, List.set_cons_zero, List.set_cons_succ, List.length_cons, List.length_nil, Option.map_some, Option.bind_some, Option.map_none, Option.bind_none, List.map_cons, List.map_nil, List.cons_append, List.nil_append, List.append_nil, Nat.reduceAdd, Nat.reduceSub, Nat.zero_add, List.replicate_succ, List.replicate_zero, if_true, if_false, reduceIte, Nat.reduceLeDiff, Nat.reduceEqDiff, Bool.not_true, Bool.not_false, decide_true, decide_false, Int.reduceLT, Int.reduceLE, Bool.false_eq_true, Bool.true_eq_false, reduceCtorEq, Bool.or_false, Bool.or_true, Bool.true_or, Bool.false_or, h2], _, .inl r, p', _, _, _, _, _, _, _, _, _, _, P', .inr rfl, rfl, k3, k4, k5, k6, k7, k8, k9, k10, rfl⟩
  have hf : forS (rng1 (aCons (cE (.int 3)) aNil)) (bName 2) _law_right_x2 [.bor (.l p), .acc (.l deeds8), .no, .no, .no, .no, .no, .no, .no, .no, .no] = .ok .nx [.bor (.l p'), S1, s2, s3, s4, s5, s6, s7, s8, s9, s10] := by
    unfold forS
    rw [show rng1 (aCons (cE (.int 3)) aNil) [.bor (.l p), .acc (.l deeds8), .no, .no, .no, .no, .no, .no, .no, .no, .no] = .ok ((List.range 3).map fun i => D.int (0 + (i : Nat))) _ from rng_c (n := 3) (by decide)]
    exact l1
  refine ⟨p', ?_⟩
  simp only [deeds8] at hf
  unfold _law_right_F _law_right_b
  simp -implicitDefEqProofs only [Ev.all, and_self, and_true, true_and, List.getElem?_cons_zero, List.getElem?_cons_succ, List.set_cons_zero, List.set_cons_succ, List.length_cons, List.length_nil, Option.map_some, Option.bind_some, Option.map_none, Option.bind_none, List.map_cons, List.map_nil, List.cons_append, List.nil_append, List.append_nil, Nat.reduceAdd, Nat.reduceSub, Nat.zero_add, List.replicate_succ, List.replicate_zero, if_true, if_false, reduceIte, Nat.reduceLeDiff, Nat.reduceEqDiff, Bool.not_true, Bool.not_false, decide_true, decide_false, Int.reduceLT, Int.reduceLE, Bool.false_eq_true, Bool.true_eq_false, reduceCtorEq, Bool.or_false, Bool.or_true, Bool.true_or, Bool.false_or, hf]
theorem K03_law (ns : List Int) : law_F [.scr ns] = .ok (.bl true) none := by
  have b1 : behind_F [.str "unlock me", .str "bob", .str "ann", .tup [.tup [.str "lock", .str "bob"], .tup [.str "tag", .str "ann"]]] = .ok (.tup [.tup [.str "tag", .str "ann"]]) none := by kernel_rfl
  have b2 : behind_F [.str "unlock me", .str "ann", .str "bob", .tup [.tup [.str "lock", .str "bob"], .tup [.str "tag", .str "ann"]]] = .ok .non none := by kernel_rfl
  have b3 : behind_F [.str "untag any", .str "ann", .str "bob", .tup [.tup [.str "tag", .str "ann"]]] = .ok (.tup []) none := by kernel_rfl
  have b4 : behind_F [.str "untag me", .str "ann", .str "bob", .tup [.tup [.str "tag", .str "ann"]]] = .ok (.tup []) none := by kernel_rfl
  have b5 : behind_F [.str "untag you", .str "ann", .str "bob", .tup [.tup [.str "tag", .str "ann"]]] = .ok .non none := by kernel_rfl
  have b6 : behind_F [.str "untag any", .str "ann", .str "bob", .tup [.tup [.str "lock", .str "bob"], .tup [.str "tag", .str "ann"]]] = .ok .non none := by kernel_rfl
  have r1 : reprD (.lst [.tup [.tup [.str "tag", .str "ann"]], .non, .tup [], .tup [], .non, .non]) = some (.str "[(('tag', 'ann'),), None, (), (), None, None]") := by kernel_rfl
  obtain ⟨xs, t1, t2⟩ := tail_ok (ns := ns) (vi := 3) (cap := 8) (f := law_x1) (Γ := [.im (.scr ns), .im (.tup [.tup [.str "lock", .str "bob"], .tup [.str "tag", .str "ann"]]), .acc (.l [.tup [.tup [.str "tag", .str "ann"]], .non, .tup [], .tup [], .non, .non]), .no]) rfl rfl (by decide) (by decide) fun k hk => by
    obtain ⟨p, e1, P⟩ := stock_ok ns k hk
    obtain ⟨o, e2⟩ := right_k03 P
    simp -implicitDefEqProofs only [law_x1, Ev.all, and_self, and_true, true_and, List.getElem?_cons_zero, List.getElem?_cons_succ, List.set_cons_zero, List.set_cons_succ, List.length_cons, List.length_nil, Option.map_some, Option.bind_some, Option.map_none, Option.bind_none, List.map_cons, List.map_nil, List.cons_append, List.nil_append, List.append_nil, Nat.reduceAdd, Nat.reduceSub, Nat.zero_add, List.replicate_succ, List.replicate_zero, if_true, if_false, reduceIte, Nat.reduceLeDiff, Nat.reduceEqDiff, Bool.not_true, Bool.not_false, decide_true, decide_false, Int.reduceLT, Int.reduceLE, Bool.false_eq_true, Bool.true_eq_false, reduceCtorEq, Bool.or_false, Bool.or_true, Bool.true_or, Bool.false_or, e1, e2]
  unfold law_F law_b
  simp -implicitDefEqProofs only [Ev.all, and_self, and_true, true_and, List.getElem?_cons_zero, List.getElem?_cons_succ, List.set_cons_zero, List.set_cons_succ, List.length_cons, List.length_nil, Option.map_some, Option.bind_some, Option.map_none, Option.bind_none, List.map_cons, List.map_nil, List.cons_append, List.nil_append, List.append_nil, Nat.reduceAdd, Nat.reduceSub, Nat.zero_add, List.replicate_succ, List.replicate_zero, if_true, if_false, reduceIte, Nat.reduceLeDiff, Nat.reduceEqDiff, Bool.not_true, Bool.not_false, decide_true, decide_false, Int.reduceLT, Int.reduceLE, Bool.false_eq_true, Bool.true_eq_false, reduceCtorEq, Bool.or_false, Bool.or_true, Bool.true_or, Bool.false_or, cut1, b1, b2, b3, b4, b5, b6, r1, eq_self, t1, t2]
end PL

/-! plain law PL14 -/
set_option Elab.async false
set_option linter.all false
set_option maxRecDepth 100000
set_option maxHeartbeats 4000000
namespace PL
open PySem PySem.Spec PyProof.Rows L2 FL PF
theorem cmp_flt {vs : List Nat} {b : BF} {tt : TF} {elt : EF} {P : D → Bool} {g : D → D} {Γ : En} (hw : wipeΓ Γ vs = Γ) : ∀ {ds : List D} (acc : List D), acc.length + ds.length ≤ 16777216 →
    (∀ d ∈ ds, ∃ Γ1, b d Γ = some Γ1 ∧ tt Γ1 = .ok (P d) Γ1 ∧ elt Γ1 = .ok (.d (g d)) Γ1 ∧ wipeΓ Γ1 vs = Γ) → cmpL vs b tt elt ds acc Γ = .ok (.n (.l (acc ++ (ds.filter P).map g))) Γ
  | [], acc, _, _ => by simp [cmpL]
  | d :: ds, acc, hl, hs => by
    obtain ⟨Γ1, e1, e2, e3, e4⟩ := hs d List.mem_cons_self
    rw [List.length_cons] at hl
    have hz : acc.length < sizeLine := by show _ < 2 ^ 24; omega
    cases hp : P d with
    | false =>
      rw [hp] at e2
      have ih := cmp_flt (ds := ds) (P := P) (g := g) (elt := elt) (tt := tt) (b := b) hw acc (by omega) fun d hd => hs d (List.mem_cons_of_mem _ hd)
      rw [List.filter_cons_of_neg (by rw [hp]; decide), ← ih]
      simp only [cmpL, hw, e1, e2, e4]
    | true =>
      rw [hp] at e2
      have ih := cmp_flt (ds := ds) (P := P) (g := g) (elt := elt) (tt := tt) (b := b) hw (acc ++ [g d]) (by rw [List.length_append, List.length_singleton]; omega) fun d hd => hs d (List.mem_cons_of_mem _ hd)
      rw [List.filter_cons_of_pos hp, List.map_cons, List.append_cons, ← ih]
      simp only [cmpL, hw, e1, e2, e3, e4, Ev.frzd, if_pos hz]
theorem loop_cons {b : BF} {body : SF} {d : D} {ds : List D} {Γ Γ1 Γ2 : En} (h1 : b d Γ = some Γ1) (h2 : body Γ1 = .ok .nx Γ2) : loopS b body (d :: ds) Γ = loopS b body ds Γ2 := by
  rw [loopS, h1]
  simp only [h2]
theorem for_at {it : IF} {b : BF} {body : SF} {Γ Γ1 : En} {ds : List D} {r : O Fl} (h : it Γ = .ok ds Γ1) (hl : loopS b body ds Γ1 = r) : forS it b body Γ = r := by
  unfold forS
  rw [h, Ev.bindO]; exact hl
def NB (r : En) : Prop := ∀ s ∈ r, s.isB = false
theorem NB.nil : NB [] := fun _ h => by cases h
theorem NB.cons {s : Sl} {r : En} (h : s.isB = false) (t : NB r) : NB (s :: r) := fun x hx => by
  rcases List.mem_cons.mp hx with rfl | hx
  · exact h
  · exact t x hx
theorem NB.inv {s : Sl} {r : En} (h : NB (s :: r)) : s.isB = false ∧ NB r := ⟨h s List.mem_cons_self, fun x hx => h x (List.mem_cons_of_mem _ hx)⟩
theorem NB.rep (n : Nat) : NB (List.replicate n .no) := fun s h => by rw [List.eq_of_mem_replicate h]; rfl
/-- the def that asks: some turns, each with the pool -/
theorem right_of {m : Nat} {k : Nat} {body : SF} (hm : m ≤ 1000)
    (h : ∀ (p : List D) (d : D) (rest : En), Pool p → rest.length = k → NB rest → ∃ (p' : List D) (d' : Sl) (rest' : En), body (.bor (.l p) :: .im d :: rest) = .ok .nx (.bor (.l p') :: d' :: rest') ∧ Pool p' ∧ d'.isB = false ∧ rest'.length = k ∧ NB rest') {p : List D} (P : Pool p) :
    ∃ o, runF (some 0) (k + 2) (seqS (forS (rng1 (aCons (cE (.int (m : Int))) aNil)) (bName 1) body) (retS (cE (.bl true)))) [.lst p] = .ok (.bl true) (some (.l o)) := by
  obtain ⟨Γ', l1, p', d', rest', P', h1, h2, h3, rfl⟩ := for_inv (b := bName 1) (body := body)
    (I := fun ds Γ => ∃ (p : List D) (s1 : Sl) (rest : En), Pool p ∧ s1.isB = false ∧ rest.length = k ∧ NB rest ∧ Γ = .bor (.l p) :: s1 :: rest)
    ((List.range m).map fun i => D.int (0 + (i : Nat))) (.bor (.l p) :: .no :: List.replicate k .no) ⟨p, _, _, P, rfl, List.length_replicate, NB.rep k, rfl⟩
    fun d ds Γ ⟨p, s1, rest, P, h1, h2, h3, e⟩ => by
      subst e
      obtain ⟨p', d', rest', r, P', k1, k2, k3⟩ := h p d rest P h2 h3
      exact ⟨_, by simp -implicitDefEqProofs only [Ev.all, and_self, and_true, true_and, List.getElem?_cons_zero, List.getElem?_cons_succ, List.set_cons_zero, List.set_cons_succ, List.length_cons, List.length_nil, Option.map_some, Option.bind_some, Option.map_none, Option.bind_none, List.map_cons, List.map_nil, List.cons_append, List.nil_append, List.append_nil, Nat.reduceAdd, Nat.reduceSub, Nat.zero_add, List.replicate_succ, List.replicate_zero, if_true, if_false, reduceIte, Nat.reduceLeDiff, Nat.reduceEqDiff, Bool.not_true, Bool.not_false, decide_true, decide_false, Int.reduceLT, Int.reduceLE, Bool.false_eq_true, Bool.true_eq_false, reduceCtorEq, Bool.or_false, Bool.or_true, Bool.true_or, Bool.false_or, h1], _, .inl r, p', d', rest', P', k1, k2, k3, rfl⟩
  have hf : forS (rng1 (aCons (cE (.int (m : Int))) aNil)) (bName 1) body (.bor (.l p) :: .no :: List.replicate k .no) = .ok .nx (.bor (.l p') :: d' :: rest') := by
    unfold forS
    rw [rng_c (by omega), Ev.bindO]
    exact l1
  refine ⟨p', ?_⟩
  have hs : startG (some 0) (k + 2) [.lst p] = some (.bor (.l p) :: .no :: List.replicate k .no) := by
    rw [Ev.startG1]
    rw [show (k + 2) - [D.lst p].length = k + 1 from rfl, List.replicate_succ]
    rfl
  rw [Ev.runF, hs]
  simp -implicitDefEqProofs only [Ev.all, and_self, and_true, true_and, List.getElem?_cons_zero, List.getElem?_cons_succ, List.set_cons_zero, List.set_cons_succ, List.length_cons, List.length_nil, Option.map_some, Option.bind_some, Option.map_none, Option.bind_none, List.map_cons, List.map_nil, List.cons_append, List.nil_append, List.append_nil, Nat.reduceAdd, Nat.reduceSub, Nat.zero_add, List.replicate_succ, List.replicate_zero, if_true, if_false, reduceIte, Nat.reduceLeDiff, Nat.reduceEqDiff, Bool.not_true, Bool.not_false, decide_true, decide_false, Int.reduceLT, Int.reduceLE, Bool.false_eq_true, Bool.true_eq_false, reduceCtorEq, Bool.or_false, Bool.or_true, Bool.true_or, Bool.false_or, hf]
theorem done_rows (me you : Str) (hm : PyData.strOk me = true) (hy : PyData.strOk you = true) {is : List (Fin 8)} (h0 : is ≠ []) (b : Box) (hl : b.length + is.length ≤ 1000) (hb : BoxOk b) :
    _law_done_F [.str (rowT is), .str me, .str you, .tup (bx b)] = .ok (rs (runD is me you b)) none := by
  have hs := splitD_row h0 (by omega)
  have main : ∀ (is : List (Fin 8)) (o : Option Box) (s5 : Sl) (L : D), s5.isB = false → (∀ b, o = some b → BoxOk b ∧ b.length + is.length ≤ 1000) → ∃ s, loopS (bName 5) _law_done_x1 (is.map fun i => D.str (dT i)) [.im L, .im (.str me), .im (.str you), .im (.tup (bx b)), .im (rs o), s5] = .ok .nx [.im L, .im (.str me), .im (.str you), .im (.tup (bx b)), .im (rs (o.bind (runD is me you))), s] := by
    intro is
    induction is with
    | nil => intro o s5 L _ _; exact ⟨s5, by cases o <;> rfl⟩
    | cons i is ih =>
      intro o s5 L h5 ho
      cases o with
      | none =>
        obtain ⟨s, hs⟩ := ih none (.im (.str (dT i))) L rfl fun b h => by cases h
        refine ⟨s, ?_⟩
        rw [List.map_cons, Option.bind_none]
        rw [Option.bind_none] at hs
        exact (loop_cons (Γ1 := [.im L, .im (.str me), .im (.str you), .im (.tup (bx b)), .im (rs none), .im (.str (dT i))]) (by simp -implicitDefEqProofs only [Ev.all, and_self, and_true, true_and, List.getElem?_cons_zero, List.getElem?_cons_succ, List.set_cons_zero, List.set_cons_succ, List.length_cons, List.length_nil, Option.map_some, Option.bind_some, Option.map_none, Option.bind_none, List.map_cons, List.map_nil, List.cons_append, List.nil_append, List.append_nil, Nat.reduceAdd, Nat.reduceSub, Nat.zero_add, List.replicate_succ, List.replicate_zero, if_true, if_false, reduceIte, Nat.reduceLeDiff, Nat.reduceEqDiff, Bool.not_true, Bool.not_false, decide_true, decide_false, Int.reduceLT, Int.reduceLE, Bool.false_eq_true, Bool.true_eq_false, reduceCtorEq, Bool.or_false, Bool.or_true, Bool.true_or, Bool.false_or, h5]) (by simp -implicitDefEqProofs only [_law_done_x1, Ev.all, and_self, and_true, true_and, List.getElem?_cons_zero, List.getElem?_cons_succ, List.set_cons_zero, List.set_cons_succ, List.length_cons, List.length_nil, Option.map_some, Option.bind_some, Option.map_none, Option.bind_none, List.map_cons, List.map_nil, List.cons_append, List.nil_append, List.append_nil, Nat.reduceAdd, Nat.reduceSub, Nat.zero_add, List.replicate_succ, List.replicate_zero, if_true, if_false, reduceIte, Nat.reduceLeDiff, Nat.reduceEqDiff, Bool.not_true, Bool.not_false, decide_true, decide_false, Int.reduceLT, Int.reduceLE, Bool.false_eq_true, Bool.true_eq_false, reduceCtorEq, Bool.or_false, Bool.or_true, Bool.true_or, Bool.false_or, rs])).trans hs
      | some b1 =>
        obtain ⟨hb1, hl1⟩ := ho b1 rfl
        rw [List.length_cons] at hl1
        have e := by_deed_ev i me you b1 (by omega) hb1 hm hy
        obtain ⟨s, hs⟩ := ih (stp i me you b1) (.im (.str (dT i))) L rfl fun b2 h2 => by
          obtain ⟨k1, k2⟩ := stp_ok h2 hm hy hb1
          exact ⟨k1, by omega⟩
        have er : (some b1).bind (runD (i :: is) me you) = (stp i me you b1).bind (runD is me you) := rfl
        refine ⟨s, ?_⟩
        rw [er, List.map_cons]
        exact (loop_cons (Γ1 := [.im L, .im (.str me), .im (.str you), .im (.tup (bx b)), .im (rs (some b1)), .im (.str (dT i))]) (by simp -implicitDefEqProofs only [Ev.all, and_self, and_true, true_and, List.getElem?_cons_zero, List.getElem?_cons_succ, List.set_cons_zero, List.set_cons_succ, List.length_cons, List.length_nil, Option.map_some, Option.bind_some, Option.map_none, Option.bind_none, List.map_cons, List.map_nil, List.cons_append, List.nil_append, List.append_nil, Nat.reduceAdd, Nat.reduceSub, Nat.zero_add, List.replicate_succ, List.replicate_zero, if_true, if_false, reduceIte, Nat.reduceLeDiff, Nat.reduceEqDiff, Bool.not_true, Bool.not_false, decide_true, decide_false, Int.reduceLT, Int.reduceLE, Bool.false_eq_true, Bool.true_eq_false, reduceCtorEq, Bool.or_false, Bool.or_true, Bool.true_or, Bool.false_or, h5]) (by simp -implicitDefEqProofs only [_law_done_x1, Ev.all, and_self, and_true, true_and, List.getElem?_cons_zero, List.getElem?_cons_succ, List.set_cons_zero, List.set_cons_succ, List.length_cons, List.length_nil, Option.map_some, Option.bind_some, Option.map_none, Option.bind_none, List.map_cons, List.map_nil, List.cons_append, List.nil_append, List.append_nil, Nat.reduceAdd, Nat.reduceSub, Nat.zero_add, List.replicate_succ, List.replicate_zero, if_true, if_false, reduceIte, Nat.reduceLeDiff, Nat.reduceEqDiff, Bool.not_true, Bool.not_false, decide_true, decide_false, Int.reduceLT, Int.reduceLE, Bool.false_eq_true, Bool.true_eq_false, reduceCtorEq, Bool.or_false, Bool.or_true, Bool.true_or, Bool.false_or, rs, e])).trans hs
  obtain ⟨s, hf⟩ := main is (some b) .no (.str (rowT is)) rfl fun b' h => by cases h; exact ⟨hb, hl⟩
  simp only [rs, Option.bind_some] at hf
  have hs : splitD (.str (rowT is)) (.str "; ") = some (.lst (is.map fun i => D.str (dT i))) := hs
  unfold _law_done_F _law_done_b
  simp -implicitDefEqProofs only [Ev.forS, Ev.all, and_self, and_true, true_and, List.getElem?_cons_zero, List.getElem?_cons_succ, List.set_cons_zero, List.set_cons_succ, List.length_cons, List.length_nil, Option.map_some, Option.bind_some, Option.map_none, Option.bind_none, List.map_cons, List.map_nil, List.cons_append, List.nil_append, List.append_nil, Nat.reduceAdd, Nat.reduceSub, Nat.zero_add, List.replicate_succ, List.replicate_zero, if_true, if_false, reduceIte, Nat.reduceLeDiff, Nat.reduceEqDiff, Bool.not_true, Bool.not_false, decide_true, decide_false, Int.reduceLT, Int.reduceLE, Bool.false_eq_true, Bool.true_eq_false, reduceCtorEq, Bool.or_false, Bool.or_true, Bool.true_or, Bool.false_or, hs, hf]
  cases hr : runD is me you b <;> simp -implicitDefEqProofs only [Ev.all, and_self, and_true, true_and, List.getElem?_cons_zero, List.getElem?_cons_succ, List.set_cons_zero, List.set_cons_succ, List.length_cons, List.length_nil, Option.map_some, Option.bind_some, Option.map_none, Option.bind_none, List.map_cons, List.map_nil, List.cons_append, List.nil_append, List.append_nil, Nat.reduceAdd, Nat.reduceSub, Nat.zero_add, List.replicate_succ, List.replicate_zero, if_true, if_false, reduceIte, Nat.reduceLeDiff, Nat.reduceEqDiff, Bool.not_true, Bool.not_false, decide_true, decide_false, Int.reduceLT, Int.reduceLE, Bool.false_eq_true, Bool.true_eq_false, reduceCtorEq, Bool.or_false, Bool.or_true, Bool.true_or, Bool.false_or, rs]
end PL

/-! plain law PL15 -/
set_option Elab.async false
set_option linter.all false
set_option maxRecDepth 100000
set_option maxHeartbeats 4000000
namespace PL
open PySem PySem.Spec PyProof.Rows L2 FL PF
theorem pys_len : ∀ {ds : List D} {ps : List PyData}, D.pys ds = some ps → ps.length = ds.length
  | [], _, h => by cases h; rfl
  | d :: ds, _, h => by
    obtain ⟨p, e1, e2⟩ := Option.bind_eq_some_iff.mp (show (D.py d).bind (fun p => (D.pys ds).map fun ps => p :: ps) = some _ from h)
    obtain ⟨qs, e3, rfl⟩ := Option.map_eq_some_iff.mp e2
    rw [List.length_cons, List.length_cons, pys_len e3]
theorem eq_lst_nil {ds : List D} {k n : Nat} (h : ∀ d ∈ ds, Sm d k n) (hk : k ≤ 60) : eqB (.lst ds) (.lst []) = some ds.isEmpty := by
  obtain ⟨ps, h1, h2, _, _, h5, _, h7⟩ := shown_all h
  have hl : ps.length = ds.length := pys_len h1
  show eqP _ _ = _
  unfold eqP
  rw [show (D.lst ds).py = some (.list ps) from by show (D.pys ds).map _ = _; rw [h1]; rfl]
  have hs : SeqAt.shaped (.list ps) = true := by
    show (PyData.canLayAll0 ps && decide (PyData.depthAll ps + 1 ≤ 64)) = true
    rw [h2, decide_eq_true (by omega)]; rfl
  show (if (SeqAt.shaped (.list ps) && SeqAt.shaped (.list [])) = true then some (PyData.eqvAll ps []) else none) = _
  rw [hs, if_pos (by rfl)]
  cases ds with
  | nil => cases ps with
    | nil => rfl
    | cons _ _ => simp at hl
  | cons d r => cases ps with
    | nil => simp at hl
    | cons _ _ => rfl
theorem ne_lst_nil {ds : List D} {k n : Nat} (h : ∀ d ∈ ds, Sm d k n) (hk : k ≤ 60) : neD (.lst ds) (.lst []) = some (.bl (!ds.isEmpty)) := by
  show (eqB _ _).map _ = _
  rw [eq_lst_nil h hk]; rfl
def ddS (i : Fin 8) : D := .str (dT i)
theorem dT_ok : ∀ i : Fin 8, PyData.strOk (dT i) = true ∧ (dT i).length ≤ 9 := by decide +kernel
theorem Sm_dT (i : Fin 8) : Sm (ddS i) 0 92 := Sm.str (m := 9) (dT_ok i).1 (dT_ok i).2
theorem at_fin {is : List (Fin 8)} {r : Int} (h1 : 0 ≤ r) (h2 : r < is.length) : ∃ i, i ∈ is ∧ L2.atI (is.map ddS) r = some (ddS i) := by
  obtain ⟨x, hx, e⟩ := at_in (xs := is.map ddS) h1 (by rw [List.length_map]; exact h2)
  obtain ⟨y, hy, rfl⟩ := List.mem_map.mp hx
  exact ⟨y, hy, e⟩
def some4 : List D := [.str "lock me", .str "lock you", .str "tag me", .str "tag you"]
def take4 : List D := [.str "unlock me", .str "untag me", .str "untag you", .str "untag any"]
theorem some4_eq : some4 = ([0, 1, 3, 4] : List (Fin 8)).map ddS := rfl
theorem take4_eq : take4 = ([2, 5, 6, 7] : List (Fin 8)).map ddS := rfl
theorem both_eq : some4 ++ take4 = ([0, 1, 3, 4, 2, 5, 6, 7] : List (Fin 8)).map ddS := rfl
theorem some_deed_ok {p : List D} (P : Pool p) {d a : Str} (hd : PyData.strOk d = true) (ha : PyData.strOk a = true) {b : Box} (hb : BoxOk b) (hl : b.length ≤ 1000) :
    ∃ (i : Fin 8) (p' : List D), _law_some_deed_F [.lst p, .str d, .str a, .tup (bx b)] = .ok (ddS i) (some (.l p')) ∧ Pool p' := by
  let Q : D → Bool := fun x => match _law_by_deed_F [x, .str d, .str a, .tup (bx b)] with
    | .ok .non _ => false
    | _ => true
  have hcmp := cmp_flt (vs := [8]) (b := bName 8) (tt := _law_some_deed_x2) (elt := _law_some_deed_x1) (P := Q) (g := fun x => x)
    (Γ := [.bor (.l p), .im (.str d), .im (.str a), .im (.tup (bx b)), .acc (.l some4), .im (.lst take4), .no, .no, .no]) rfl (ds := take4) [] (by decide) fun x hx => by
      rw [take4_eq] at hx
      obtain ⟨i, _, rfl⟩ := List.mem_map.mp hx
      have e := by_deed_ev i d a b hl hb hd ha
      refine ⟨[.bor (.l p), .im (.str d), .im (.str a), .im (.tup (bx b)), .acc (.l some4), .im (.lst take4), .no, .no, .im (ddS i)], by simp -implicitDefEqProofs only [Ev.all, and_self, and_true, true_and, List.getElem?_cons_zero, List.getElem?_cons_succ, List.set_cons_zero, List.set_cons_succ, List.length_cons, List.length_nil, Option.map_some, Option.bind_some, Option.map_none, Option.bind_none, List.map_cons, List.map_nil, List.cons_append, List.nil_append, List.append_nil, Nat.reduceAdd, Nat.reduceSub, Nat.zero_add, List.replicate_succ, List.replicate_zero, if_true, if_false, reduceIte, Nat.reduceLeDiff, Nat.reduceEqDiff, Bool.not_true, Bool.not_false, decide_true, decide_false, Int.reduceLT, Int.reduceLE, Bool.false_eq_true, Bool.true_eq_false, reduceCtorEq, Bool.or_false, Bool.or_true, Bool.true_or, Bool.false_or], ?_, by simp -implicitDefEqProofs only [_law_some_deed_x1, Ev.all, and_self, and_true, true_and, List.getElem?_cons_zero, List.getElem?_cons_succ, List.set_cons_zero, List.set_cons_succ, List.length_cons, List.length_nil, Option.map_some, Option.bind_some, Option.map_none, Option.bind_none, List.map_cons, List.map_nil, List.cons_append, List.nil_append, List.append_nil, Nat.reduceAdd, Nat.reduceSub, Nat.zero_add, List.replicate_succ, List.replicate_zero, if_true, if_false, reduceIte, Nat.reduceLeDiff, Nat.reduceEqDiff, Bool.not_true, Bool.not_false, decide_true, decide_false, Int.reduceLT, Int.reduceLE, Bool.false_eq_true, Bool.true_eq_false, reduceCtorEq, Bool.or_false, Bool.or_true, Bool.true_or, Bool.false_or], rfl⟩
      show _law_some_deed_x2 _ = .ok (match _law_by_deed_F [ddS i, .str d, .str a, .tup (bx b)] with | .ok .non _ => false | _ => true) _
      unfold ddS
      rw [e]
      cases hs : stp i d a b with
      | none =>
        rw [hs] at e
        simp -implicitDefEqProofs only [_law_some_deed_x2, Ev.all, and_self, and_true, true_and, List.getElem?_cons_zero, List.getElem?_cons_succ, List.set_cons_zero, List.set_cons_succ, List.length_cons, List.length_nil, Option.map_some, Option.bind_some, Option.map_none, Option.bind_none, List.map_cons, List.map_nil, List.cons_append, List.nil_append, List.append_nil, Nat.reduceAdd, Nat.reduceSub, Nat.zero_add, List.replicate_succ, List.replicate_zero, if_true, if_false, reduceIte, Nat.reduceLeDiff, Nat.reduceEqDiff, Bool.not_true, Bool.not_false, decide_true, decide_false, Int.reduceLT, Int.reduceLE, Bool.false_eq_true, Bool.true_eq_false, reduceCtorEq, Bool.or_false, Bool.or_true, Bool.true_or, Bool.false_or, e, rs]
      | some b' =>
        rw [hs] at e
        simp -implicitDefEqProofs only [_law_some_deed_x2, Ev.all, and_self, and_true, true_and, List.getElem?_cons_zero, List.getElem?_cons_succ, List.set_cons_zero, List.set_cons_succ, List.length_cons, List.length_nil, Option.map_some, Option.bind_some, Option.map_none, Option.bind_none, List.map_cons, List.map_nil, List.cons_append, List.nil_append, List.append_nil, Nat.reduceAdd, Nat.reduceSub, Nat.zero_add, List.replicate_succ, List.replicate_zero, if_true, if_false, reduceIte, Nat.reduceLeDiff, Nat.reduceEqDiff, Bool.not_true, Bool.not_false, decide_true, decide_false, Int.reduceLT, Int.reduceLE, Bool.false_eq_true, Bool.true_eq_false, reduceCtorEq, Bool.or_false, Bool.or_true, Bool.true_or, Bool.false_or, e, rs]
  obtain ⟨fit, hfit⟩ : ∃ fit : List (Fin 8), (take4.filter Q).map (fun x => x) = fit.map ddS := by
    rw [List.map_id', take4_eq, List.filter_map]
    exact ⟨_, rfl⟩
  rw [hfit, List.nil_append] at hcmp
  have hne : neD (.lst (fit.map ddS)) (.lst []) = some (.bl (!(fit.map ddS).isEmpty)) := ne_lst_nil (k := 0) (n := 92) (fun x hx => by
    obtain ⟨i, _, rfl⟩ := List.mem_map.mp hx
    exact Sm_dT i) (by decide)
  have comp : compV [8] (anyI (vE 5)) (bName 8) _law_some_deed_x2 _law_some_deed_x1 [.bor (.l p), .im (.str d), .im (.str a), .im (.tup (bx b)), .acc (.l some4), .acc (.l take4), .no, .no, .no] =
      .ok (.n (.l (fit.map ddS))) [.bor (.l p), .im (.str d), .im (.str a), .im (.tup (bx b)), .acc (.l some4), .im (.lst take4), .no, .no, .no] :=
    comp_at rfl rfl hcmp
  simp only [some4, take4] at comp
  obtain ⟨w, p1, e1, w1, w2, P1⟩ := take_ok P (n := 9) (by decide) (by decide)
  have heq : eqD (.int w) (.int 0) = some (.bl (decide (w = 0))) := rfl
  by_cases h0 : w = 0
  · obtain ⟨r, p2, e2, r1, r2, P2⟩ := take_ok P1 (n := 8) (by decide) (by decide)
    obtain ⟨i, _, ei⟩ := at_fin (is := [0, 1, 3, 4, 2, 5, 6, 7]) r1 (by show r < 8; exact r2)
    rw [← both_eq] at ei
    simp only [some4, take4, List.cons_append, List.nil_append] at ei
    subst h0
    refine ⟨i, p2, ?_, P2⟩
    unfold _law_some_deed_F _law_some_deed_b
    simp -implicitDefEqProofs only [Ev.all, and_self, and_true, true_and, List.getElem?_cons_zero, List.getElem?_cons_succ, List.set_cons_zero, List.set_cons_succ, List.length_cons, List.length_nil, Option.map_some, Option.bind_some, Option.map_none, Option.bind_none, List.map_cons, List.map_nil, List.cons_append, List.nil_append, List.append_nil, Nat.reduceAdd, Nat.reduceSub, Nat.zero_add, List.replicate_succ, List.replicate_zero, if_true, if_false, reduceIte, Nat.reduceLeDiff, Nat.reduceEqDiff, Bool.not_true, Bool.not_false, decide_true, decide_false, Int.reduceLT, Int.reduceLE, Bool.false_eq_true, Bool.true_eq_false, reduceCtorEq, Bool.or_false, Bool.or_true, Bool.true_or, Bool.false_or, comp, e1, e2, ei]
  · by_cases h6 : w < 6
    · cases hf : fit with
      | nil =>
        rw [hf] at hne comp
        obtain ⟨r, p2, e2, r1, r2, P2⟩ := take_ok P1 (n := 4) (by decide) (by decide)
        obtain ⟨i, _, ei⟩ := at_fin (is := [0, 1, 3, 4]) r1 (by show r < 4; exact r2)
        rw [← some4_eq] at ei
        simp only [some4] at ei
        simp only [List.map_nil, List.isEmpty_nil] at hne comp
        refine ⟨i, p2, ?_, P2⟩
        unfold _law_some_deed_F _law_some_deed_b
        simp -implicitDefEqProofs only [Ev.all, and_self, and_true, true_and, List.getElem?_cons_zero, List.getElem?_cons_succ, List.set_cons_zero, List.set_cons_succ, List.length_cons, List.length_nil, Option.map_some, Option.bind_some, Option.map_none, Option.bind_none, List.map_cons, List.map_nil, List.cons_append, List.nil_append, List.append_nil, Nat.reduceAdd, Nat.reduceSub, Nat.zero_add, List.replicate_succ, List.replicate_zero, if_true, if_false, reduceIte, Nat.reduceLeDiff, Nat.reduceEqDiff, Bool.not_true, Bool.not_false, decide_true, decide_false, Int.reduceLT, Int.reduceLE, Bool.false_eq_true, Bool.true_eq_false, reduceCtorEq, Bool.or_false, Bool.or_true, Bool.true_or, Bool.false_or, comp, e1, e2, ei, h0, h6, hne]
      | cons f fs =>
        have hp : (0 : Int) < ((fit.map ddS).length : Int) := by rw [hf]; simp
        have hs : fit.length ≤ 4 := by
          have h1 : fit.length = (take4.filter Q).length := by
            have := congrArg List.length hfit
            rw [List.length_map, List.length_map] at this
            exact this.symm
          rw [h1]
          exact List.length_filter_le _ _
        obtain ⟨r, p2, e2, r1, r2, P2⟩ := take_ok P1 (n := ((fit.map ddS).length : Int)) hp (by rw [List.length_map]; omega)
        obtain ⟨i, _, ei⟩ := at_fin (is := fit) r1 (by rw [List.length_map] at r2; exact r2)
        rw [show (fit.map ddS).isEmpty = false by rw [hf]; rfl] at hne
        refine ⟨i, p2, ?_, P2⟩
        unfold _law_some_deed_F _law_some_deed_b
        simp -implicitDefEqProofs only [Ev.all, and_self, and_true, true_and, List.getElem?_cons_zero, List.getElem?_cons_succ, List.set_cons_zero, List.set_cons_succ, List.length_cons, List.length_nil, Option.map_some, Option.bind_some, Option.map_none, Option.bind_none, List.map_cons, List.map_nil, List.cons_append, List.nil_append, List.append_nil, Nat.reduceAdd, Nat.reduceSub, Nat.zero_add, List.replicate_succ, List.replicate_zero, if_true, if_false, reduceIte, Nat.reduceLeDiff, Nat.reduceEqDiff, Bool.not_true, Bool.not_false, decide_true, decide_false, Int.reduceLT, Int.reduceLE, Bool.false_eq_true, Bool.true_eq_false, reduceCtorEq, Bool.or_false, Bool.or_true, Bool.true_or, Bool.false_or, comp, e1, e2, ei, h0, h6, hne]
    · obtain ⟨r, p2, e2, r1, r2, P2⟩ := take_ok P1 (n := 4) (by decide) (by decide)
      obtain ⟨i, _, ei⟩ := at_fin (is := [0, 1, 3, 4]) r1 (by show r < 4; exact r2)
      rw [← some4_eq] at ei
      simp only [some4] at ei
      refine ⟨i, p2, ?_, P2⟩
      unfold _law_some_deed_F _law_some_deed_b
      simp -implicitDefEqProofs only [Ev.all, and_self, and_true, true_and, List.getElem?_cons_zero, List.getElem?_cons_succ, List.set_cons_zero, List.set_cons_succ, List.length_cons, List.length_nil, Option.map_some, Option.bind_some, Option.map_none, Option.bind_none, List.map_cons, List.map_nil, List.cons_append, List.nil_append, List.append_nil, Nat.reduceAdd, Nat.reduceSub, Nat.zero_add, List.replicate_succ, List.replicate_zero, if_true, if_false, reduceIte, Nat.reduceLeDiff, Nat.reduceEqDiff, Bool.not_true, Bool.not_false, decide_true, decide_false, Int.reduceLT, Int.reduceLE, Bool.false_eq_true, Bool.true_eq_false, reduceCtorEq, Bool.or_false, Bool.or_true, Bool.true_or, Bool.false_or, comp, e1, e2, ei, h0, h6]
theorem join_row {is : List (Fin 8)} (hl : is.length ≤ 1000) : joinD (.str "; ") (.lst (is.map ddS)) = some (.str (rowT is)) := by
  have e : is.map ddS = (is.map dT).map D.str := by rw [List.map_map]; rfl
  rw [e]
  show (texts _).bind _ = _
  rw [texts_map]
  have hsum : ((is.map dT).map (·.length)).sum ≤ is.length * 9 := by
    clear e hl
    induction is with
    | nil => simp
    | cons i is ih =>
      simp only [List.map_cons, List.sum_cons, List.length_cons]
      have := (dT_ok i).2
      omega
  show (if _ then some (D.str (Txt.join "; " (is.map dT))) else none) = _
  rw [if_pos]
  · rfl
  · rw [List.length_map, show (Str.ofString "; ").length = 2 by decide +kernel]; omega
theorem row_ok {p : List D} (P : Pool p) {d a : Str} (hd : PyData.strOk d = true) (ha : PyData.strOk a = true) {b : Box} (hb : BoxOk b) {m : Nat} (hl : b.length + m ≤ 1000) :
    ∃ (is : List (Fin 8)) (p' : List D), _law_row_F [.lst p, .str d, .str a, .tup (bx b), .int m] = .ok (.str (rowT is)) (some (.l p')) ∧ is.length = m ∧ Pool p' := by
  obtain ⟨Γ', l1, is, p', b', s7, s8, s9, P', hm, _, _, h7, h8, h9, rfl⟩ := for_inv (b := bName 7) (body := _law_row_x1)
    (I := fun ds Γ => ∃ (is : List (Fin 8)) (p : List D) (b' : Box) (s7 s8 s9 : Sl), Pool p ∧ is.length + ds.length = m ∧ BoxOk b' ∧ b'.length ≤ b.length + is.length ∧ s7.isB = false ∧ s8.isB = false ∧ s9.isB = false ∧
      Γ = [.bor (.l p), .im (.str d), .im (.str a), .im (.tup (bx b)), .im (.int m), .acc (.l (is.map ddS)), .im (.tup (bx b')), s7, s8, s9])
    ((List.range m).map fun i => D.int (0 + (i : Nat))) [.bor (.l p), .im (.str d), .im (.str a), .im (.tup (bx b)), .im (.int m), .acc (.l []), .im (.tup (bx b)), .no, .no, .no]
    ⟨[], p, b, _, _, _, P, by simp, hb, by simp, rfl, rfl, rfl, rfl⟩
    fun x ds Γ ⟨is, p, b', s7, s8, s9, P, hm, hb', hl', h7, h8, h9, e⟩ => by
      subst e
      rw [List.length_cons] at hm
      obtain ⟨i, p1, e1, P1⟩ := some_deed_ok P hd ha hb' (by omega)
      have e2 := by_deed_ev i d a b' (by omega) hb' hd ha
      have hz : (is.map ddS).length < sizeLine := by rw [List.length_map]; show _ < 2 ^ 24; omega
      obtain ⟨b2, hb2, hl2, e3⟩ : ∃ b2, BoxOk b2 ∧ b2.length ≤ b'.length + 1 ∧ (match stp i d a b' with | some x => x | none => b') = b2 := by
        cases hs : stp i d a b' with
        | none => exact ⟨b', hb', by omega, rfl⟩
        | some x => exact ⟨x, (stp_ok hs hd ha hb').1, (stp_ok hs hd ha hb').2, rfl⟩
      refine ⟨[.bor (.l p), .im (.str d), .im (.str a), .im (.tup (bx b)), .im (.int m), .acc (.l (is.map ddS)), .im (.tup (bx b')), .im x, s8, s9], by simp -implicitDefEqProofs only [Ev.all, and_self, and_true, true_and, List.getElem?_cons_zero, List.getElem?_cons_succ, List.set_cons_zero, List.set_cons_succ, List.length_cons, List.length_nil, Option.map_some, Option.bind_some, Option.map_none, Option.bind_none, List.map_cons, List.map_nil, List.cons_append, List.nil_append, List.append_nil, Nat.reduceAdd, Nat.reduceSub, Nat.zero_add, List.replicate_succ, List.replicate_zero, if_true, if_false, reduceIte, Nat.reduceLeDiff, Nat.reduceEqDiff, Bool.not_true, Bool.not_false, decide_true, decide_false, Int.reduceLT, Int.reduceLE, Bool.false_eq_true, Bool.true_eq_false, reduceCtorEq, Bool.or_false, Bool.or_true, Bool.true_or, Bool.false_or, h7], [.bor (.l p1), .im (.str d), .im (.str a), .im (.tup (bx b)), .im (.int m), .acc (.l ((is ++ [i]).map ddS)), .im (.tup (bx b2)), .im x, .im (ddS i), .im (rs (stp i d a b'))], .inl ?_, is ++ [i], p1, b2, .im x, .im (ddS i), .im (rs (stp i d a b')), P1, by rw [List.length_append, List.length_singleton]; omega, hb2, by rw [List.length_append, List.length_singleton]; omega, rfl, rfl, rfl, rfl⟩
      rw [List.map_append, List.map_cons, List.map_nil]
      have e2' : _law_by_deed_F [ddS i, .str d, .str a, .tup (bx b')] = _ := e2
      cases hs : stp i d a b' with
      | none =>
        rw [hs] at e2' e3
        simp only at e3
        subst e3
        simp -implicitDefEqProofs only [_law_row_x1, Ev.all, and_self, and_true, true_and, List.getElem?_cons_zero, List.getElem?_cons_succ, List.set_cons_zero, List.set_cons_succ, List.length_cons, List.length_nil, Option.map_some, Option.bind_some, Option.map_none, Option.bind_none, List.map_cons, List.map_nil, List.cons_append, List.nil_append, List.append_nil, Nat.reduceAdd, Nat.reduceSub, Nat.zero_add, List.replicate_succ, List.replicate_zero, if_true, if_false, reduceIte, Nat.reduceLeDiff, Nat.reduceEqDiff, Bool.not_true, Bool.not_false, decide_true, decide_false, Int.reduceLT, Int.reduceLE, Bool.false_eq_true, Bool.true_eq_false, reduceCtorEq, Bool.or_false, Bool.or_true, Bool.true_or, Bool.false_or, e1, e2', rs, if_pos hz, h8, h9]
      | some x =>
        rw [hs] at e2' e3
        simp only at e3
        subst e3
        simp -implicitDefEqProofs only [_law_row_x1, Ev.all, and_self, and_true, true_and, List.getElem?_cons_zero, List.getElem?_cons_succ, List.set_cons_zero, List.set_cons_succ, List.length_cons, List.length_nil, Option.map_some, Option.bind_some, Option.map_none, Option.bind_none, List.map_cons, List.map_nil, List.cons_append, List.nil_append, List.append_nil, Nat.reduceAdd, Nat.reduceSub, Nat.zero_add, List.replicate_succ, List.replicate_zero, if_true, if_false, reduceIte, Nat.reduceLeDiff, Nat.reduceEqDiff, Bool.not_true, Bool.not_false, decide_true, decide_false, Int.reduceLT, Int.reduceLE, Bool.false_eq_true, Bool.true_eq_false, reduceCtorEq, Bool.or_false, Bool.or_true, Bool.true_or, Bool.false_or, e1, e2', rs, if_pos hz, h8, h9]
  have hit : rng1 (aCons (vE 4) aNil) [.bor (.l p), .im (.str d), .im (.str a), .im (.tup (bx b)), .im (.int m), .acc (.l []), .im (.tup (bx b)), .no, .no, .no] = .ok ((List.range m).map fun i => D.int (0 + (i : Nat))) [.bor (.l p), .im (.str d), .im (.str a), .im (.tup (bx b)), .im (.int m), .acc (.l []), .im (.tup (bx b)), .no, .no, .no] := by
    have h1 : aCons (vE 4) aNil [.bor (.l p), .im (.str d), .im (.str a), .im (.tup (bx b)), .im (.int m), .acc (.l []), .im (.tup (bx b)), .no, .no, .no] = .ok [.d (.int m)] [.bor (.l p), .im (.str d), .im (.str a), .im (.tup (bx b)), .im (.int m), .acc (.l []), .im (.tup (bx b)), .no, .no, .no] := by
      simp -implicitDefEqProofs only [Ev.all, and_self, and_true, true_and, List.getElem?_cons_zero, List.getElem?_cons_succ, List.set_cons_zero, List.set_cons_succ, List.length_cons, List.length_nil, Option.map_some, Option.bind_some, Option.map_none, Option.bind_none, List.map_cons, List.map_nil, List.cons_append, List.nil_append, List.append_nil, Nat.reduceAdd, Nat.reduceSub, Nat.zero_add, List.replicate_succ, List.replicate_zero, if_true, if_false, reduceIte, Nat.reduceLeDiff, Nat.reduceEqDiff, Bool.not_true, Bool.not_false, decide_true, decide_false, Int.reduceLT, Int.reduceLE, Bool.false_eq_true, Bool.true_eq_false, reduceCtorEq, Bool.or_false, Bool.or_true, Bool.true_or, Bool.false_or]
    unfold rng1
    rw [h1, Ev.bindO, Ev.itR1 (by omega) (by omega)]; rfl
  have hf := for_at hit l1
  have hj := join_row (is := is) (by simp at hm; omega)
  refine ⟨is, p', ?_, by simpa using hm, P'⟩
  unfold _law_row_F _law_row_b
  simp -implicitDefEqProofs only [Ev.all, and_self, and_true, true_and, List.getElem?_cons_zero, List.getElem?_cons_succ, List.set_cons_zero, List.set_cons_succ, List.length_cons, List.length_nil, Option.map_some, Option.bind_some, Option.map_none, Option.bind_none, List.map_cons, List.map_nil, List.cons_append, List.nil_append, List.append_nil, Nat.reduceAdd, Nat.reduceSub, Nat.zero_add, List.replicate_succ, List.replicate_zero, if_true, if_false, reduceIte, Nat.reduceLeDiff, Nat.reduceEqDiff, Bool.not_true, Bool.not_false, decide_true, decide_false, Int.reduceLT, Int.reduceLE, Bool.false_eq_true, Bool.true_eq_false, reduceCtorEq, Bool.or_false, Bool.or_true, Bool.true_or, Bool.false_or, hf, hj]
end PL

/-! plain law PL16 -/
set_option Elab.async false
set_option linter.all false
set_option maxRecDepth 100000
set_option maxHeartbeats 4000000
namespace PL
open PySem PySem.Spec PyProof.Rows L2 FL PF
theorem Sm_run {is : List (Fin 8)} {me you : Str} {b : Box} (hm : IsName me) (hy : IsName you) (hb : ∀ p ∈ b, IsName p.2) (hl : b.length + is.length ≤ 100) : Sm (rs (runD is me you b)) 2 17303 :=
  Sm_rs fun b' h => by
    obtain ⟨h1, h2⟩ := runD_all (P := IsName) hm hy h hb
    exact ⟨h1, by omega⟩
theorem shows_run {is : List (Fin 8)} {me you : Str} {b : Box} (hm : IsName me) (hy : IsName you) (hb : ∀ p ∈ b, IsName p.2) (hl : b.length + is.length ≤ 100) : ∃ z : Str, reprD (rs (runD is me you b)) = some (.str z) :=
  (Sm_run hm hy hb hl).shows (by decide) (by decide)
theorem IsBox.names {b : Box} (h : IsBox b) : ∀ p ∈ b, IsName p.2 := h.2
theorem boxD_of {m : Nat} (hm : m ≤ 12) {ns : List Str} (hn : ∀ x ∈ ns, IsName x) {b : Box} (b1 : b.length ≤ m) (b2 : ∀ q ∈ b, q.2 ∈ ns) : IsBox b := ⟨by omega, fun q hq => hn _ (b2 q hq)⟩
theorem ne_nil_of {α : Type} {xs : List α} {n : Nat} (h : xs.length = n + 1) : xs ≠ [] := fun z => by rw [z] at h; simp at h
theorem turn_k04 (p : List D) (d : D) (rest : En) (P : Pool p) (hl : rest.length = 8) (hn : NB rest) : ∃ (p' : List D) (d' : Sl) (rest' : En), _law_right_2_x1 (.bor (.l p) :: .im d :: rest) = .ok .nx (.bor (.l p') :: d' :: rest') ∧ Pool p' ∧ d'.isB = false ∧ rest'.length = 8 ∧ NB rest' := by
  match rest, hl, hn with
  | [s2, s3, s4, s5, s6, s7, s8, s9], _, hn =>
  obtain ⟨h2, hn⟩ := hn.inv
  obtain ⟨h3, hn⟩ := hn.inv
  obtain ⟨h4, hn⟩ := hn.inv
  obtain ⟨h5, hn⟩ := hn.inv
  obtain ⟨h6, hn⟩ := hn.inv
  obtain ⟨h7, hn⟩ := hn.inv
  obtain ⟨h8, hn⟩ := hn.inv
  obtain ⟨h9, hn⟩ := hn.inv
  obtain ⟨dn, p1, e1, hd, P1⟩ := called_ok P
  obtain ⟨an, p2, e2, ha, P2⟩ := called_ok P1
  obtain ⟨on, p3, e3, ho, P3⟩ := called_ok P2
  obtain ⟨r, p4, e4, r1, r2, P4⟩ := take_ok P3 (n := 6) (by decide) (by decide)
  obtain ⟨an', han, hax⟩ : ∃ a : Str, IsName a ∧ a = (if r = 0 then dn else an) := by
    by_cases h : r = 0
    · exact ⟨dn, hd, by rw [if_pos h]⟩
    · exact ⟨an, ha, by rw [if_neg h]⟩
  have hns : ∀ x ∈ [dn, an', dn, on], IsName x := by
    intro x hx
    simp only [List.mem_cons, List.not_mem_nil, or_false] at hx
    rcases hx with rfl | rfl | rfl | rfl <;> assumption
  obtain ⟨b, p5, e5, b1, b2, P5⟩ := boxed_ok P4 hns (by simp) (by simp) (m := 12) (by decide)
  have hb : IsBox b := boxD_of (by decide) hns b1 b2
  simp only [List.map_cons, List.map_nil] at e5
  have c12 : ((12 : Nat) : Int) = 12 := rfl
  rw [c12] at e5
  obtain ⟨m, p6, e6, m1, m2, P6⟩ := take_ok P5 (n := 6) (by decide) (by decide)
  obtain ⟨mn, rfl⟩ := Int.eq_ofNat_of_zero_le m1
  have hbl := hb.1
  obtain ⟨is, p7, e7, il, P7⟩ := row_ok P6 hd.ok han.ok hb.ok (m := mn + 1) (by omega)
  have cm : ((mn + 1 : Nat) : Int) = 1 + (mn : Int) := by omega
  rw [cm] at e7
  obtain ⟨z, hz⟩ := (Sm_box hb.2).shows (by omega) (by omega)
  have hi0 : is ≠ [] := ne_nil_of il
  have hi6 : is.length ≤ 6 := by omega
  have f1 := behind_ev hi0 hi6 hd han hb
  have f2 := behind_ev hi0 hi6 han hd hb
  have f3 := behind_ev hi0 hi6 ho hd hb
  have f0 : behind_F [.str (rowT is), .str dn, .str an', .tup []] = _ := behind_ev (b := []) hi0 hi6 hd han ⟨by simp, fun _ h => by cases h⟩
  have g1 := done_rows dn an' hd.ok han.ok hi0 b (by omega) hb.ok
  have g2 := done_rows an' dn han.ok hd.ok hi0 b (by omega) hb.ok
  have g3 := done_rows on dn ho.ok hd.ok hi0 b (by omega) hb.ok
  have g0 : _law_done_F [.str (rowT is), .str dn, .str an', .tup []] = _ := done_rows dn an' hd.ok han.ok hi0 [] (by simp; omega) (fun _ h => by cases h)
  obtain ⟨w, hw⟩ := Sm_list (ds := [rs (runD is dn an' b), rs (runD is an' dn b), rs (runD is on dn b)]) (fun d h => by
    simp only [List.mem_cons, List.not_mem_nil, or_false] at h
    rcases h with rfl | rfl | rfl
    · exact Sm_run hd han hb.2 (by omega)
    · exact Sm_run han hd hb.2 (by omega)
    · exact Sm_run ho hd hb.2 (by omega)) (by simp)
  obtain ⟨w1, hw1⟩ := shows_run (is := is) hd han hb.2 (by omega)
  obtain ⟨w0, hw0⟩ := shows_run (is := is) (b := []) hd han (fun _ h => by cases h) (by simp; omega)
  have h0 : eqD (.int r) (.int 0) = some (.bl (decide (r = 0))) := rfl
  refine ⟨p7, .im d, [.im (.str dn), .im (.str an'), .im (.str on), .im (.tup (bx b)), .im (.str (rowT is)), .im (.str z), .im (rs (runD is dn an' [])), .im (rs (runD is dn an' []))], ?_, P7, rfl, rfl, ?_⟩
  · by_cases h : r = 0
    · rw [if_pos h] at hax
      subst hax
      rw [decide_eq_true h] at h0
      simp -implicitDefEqProofs only [_law_right_2_x1, Ev.all, and_self, and_true, true_and, List.getElem?_cons_zero, List.getElem?_cons_succ, List.set_cons_zero, List.set_cons_succ, List.length_cons, List.length_nil, Option.map_some, Option.bind_some, Option.map_none, Option.bind_none, List.map_cons, List.map_nil, List.cons_append, List.nil_append, List.append_nil, Nat.reduceAdd, Nat.reduceSub, Nat.zero_add, List.replicate_succ, List.replicate_zero, if_true, if_false, reduceIte, Nat.reduceLeDiff, Nat.reduceEqDiff, Bool.not_true, Bool.not_false, decide_true, decide_false, Int.reduceLT, Int.reduceLE, Bool.false_eq_true, Bool.true_eq_false, reduceCtorEq, Bool.or_false, Bool.or_true, Bool.true_or, Bool.false_or, e1, e2, e3, e4, h0, e5, e6, e7, hz, f0, f1, f2, f3, g0, g1, g2, g3, hw, hw0, hw1, h2, h3, h4, h5, h6, h7, h8, h9, eq_self]
    · rw [if_neg h] at hax
      subst hax
      rw [decide_eq_false h] at h0
      simp -implicitDefEqProofs only [_law_right_2_x1, Ev.all, and_self, and_true, true_and, List.getElem?_cons_zero, List.getElem?_cons_succ, List.set_cons_zero, List.set_cons_succ, List.length_cons, List.length_nil, Option.map_some, Option.bind_some, Option.map_none, Option.bind_none, List.map_cons, List.map_nil, List.cons_append, List.nil_append, List.append_nil, Nat.reduceAdd, Nat.reduceSub, Nat.zero_add, List.replicate_succ, List.replicate_zero, if_true, if_false, reduceIte, Nat.reduceLeDiff, Nat.reduceEqDiff, Bool.not_true, Bool.not_false, decide_true, decide_false, Int.reduceLT, Int.reduceLE, Bool.false_eq_true, Bool.true_eq_false, reduceCtorEq, Bool.or_false, Bool.or_true, Bool.true_or, Bool.false_or, e1, e2, e3, e4, h0, e5, e6, e7, hz, f0, f1, f2, f3, g0, g1, g2, g3, hw, hw0, hw1, h2, h3, h4, h5, h6, h7, h8, h9, eq_self]
  · repeat (first | exact NB.nil | refine NB.cons rfl ?_)
theorem K04_law (ns : List Int) : law_2_F [.scr ns] = .ok (.bl true) none := by
  have b1 : behind_F [.str "unlock me; untag any; lock you", .str "bob", .str "zed", .tup [.tup [.str "lock", .str "bob"], .tup [.str "tag", .str "eve"]]] = .ok (.tup [.tup [.str "lock", .str "zed"]]) none := by kernel_rfl
  have b2 : behind_F [.str "unlock me", .str "ann", .str "bob", .tup [.tup [.str "lock", .str "bob"], .tup [.str "tag", .str "eve"]]] = .ok .non none := by kernel_rfl
  have b3 : behind_F [.str "lock me; unlock me", .str "ann", .str "bob", .tup []] = .ok (.tup []) none := by kernel_rfl
  have b4 : behind_F [.str "lock you; unlock me", .str "ann", .str "bob", .tup []] = .ok .non none := by kernel_rfl
  have b5 : behind_F [.str "lock you; unlock me", .str "ann", .str "ann", .tup []] = .ok (.tup []) none := by kernel_rfl
  have b6 : behind_F [.str "tag me; untag any; untag any", .str "ann", .str "bob", .tup [.tup [.str "lock", .str "bob"], .tup [.str "tag", .str "eve"]]] = .ok .non none := by kernel_rfl
  have r1 : reprD (.lst [.tup [.tup [.str "lock", .str "zed"]], .non, .tup [], .non, .tup [], .non]) = some (.str "[(('lock', 'zed'),), None, (), None, (), None]") := by kernel_rfl
  obtain ⟨xs, t1, t2⟩ := tail_ok (ns := ns) (vi := 3) (cap := 8) (f := law_2_x1) (Γ := [.im (.scr ns), .im (.tup [.tup [.str "lock", .str "bob"], .tup [.str "tag", .str "eve"]]), .acc (.l [.tup [.tup [.str "lock", .str "zed"]], .non, .tup [], .non, .tup [], .non]), .no]) rfl rfl (by decide) (by decide) fun k hk => by
    obtain ⟨p, e1, P⟩ := stock_ok ns k hk
    obtain ⟨o, e2⟩ := right_of (m := 4) (k := 8) (by decide) turn_k04 P
    have e2 : _law_right_2_F [.lst p] = .ok (.bl true) (some (.l o)) := e2
    simp -implicitDefEqProofs only [law_2_x1, Ev.all, and_self, and_true, true_and, List.getElem?_cons_zero, List.getElem?_cons_succ, List.set_cons_zero, List.set_cons_succ, List.length_cons, List.length_nil, Option.map_some, Option.bind_some, Option.map_none, Option.bind_none, List.map_cons, List.map_nil, List.cons_append, List.nil_append, List.append_nil, Nat.reduceAdd, Nat.reduceSub, Nat.zero_add, List.replicate_succ, List.replicate_zero, if_true, if_false, reduceIte, Nat.reduceLeDiff, Nat.reduceEqDiff, Bool.not_true, Bool.not_false, decide_true, decide_false, Int.reduceLT, Int.reduceLE, Bool.false_eq_true, Bool.true_eq_false, reduceCtorEq, Bool.or_false, Bool.or_true, Bool.true_or, Bool.false_or, e1, e2]
  unfold law_2_F law_2_b
  simp -implicitDefEqProofs only [Ev.all, and_self, and_true, true_and, List.getElem?_cons_zero, List.getElem?_cons_succ, List.set_cons_zero, List.set_cons_succ, List.length_cons, List.length_nil, Option.map_some, Option.bind_some, Option.map_none, Option.bind_none, List.map_cons, List.map_nil, List.cons_append, List.nil_append, List.append_nil, Nat.reduceAdd, Nat.reduceSub, Nat.zero_add, List.replicate_succ, List.replicate_zero, if_true, if_false, reduceIte, Nat.reduceLeDiff, Nat.reduceEqDiff, Bool.not_true, Bool.not_false, decide_true, decide_false, Int.reduceLT, Int.reduceLE, Bool.false_eq_true, Bool.true_eq_false, reduceCtorEq, Bool.or_false, Bool.or_true, Bool.true_or, Bool.false_or, b1, b2, b3, b4, b5, b6, r1, eq_self, t1, t2]
end PL

/-! plain law PL17 -/
set_option Elab.async false
set_option linter.all false
set_option maxRecDepth 100000
set_option maxHeartbeats 4000000
namespace PL
open PySem PySem.Spec PyProof.Rows L2 FL PF
theorem rs_none : rs none = .non := rfl
theorem rs_some {b : Box} : rs (some b) = .tup (bx b) := rfl
theorem cut_take {α : Type} (xs : List α) (k : Nat) : cutL xs none (some (k : Int)) = xs.take k := by
  unfold cutL
  rw [HT.sIx_nat, HT.sIx_none, Nat.sub_zero, List.drop_zero]
  by_cases h : k ≤ xs.length
  · rw [Nat.min_eq_left h]
  · rw [Nat.min_eq_right (by omega), List.take_of_length_le (Nat.le_refl _), List.take_of_length_le (by omega)]
theorem cut_drop {α : Type} (xs : List α) (k : Nat) : cutL xs (some (k : Int)) none = xs.drop k := by
  unfold cutL
  rw [HT.sIx_nat, HT.sIx_none]
  by_cases h : k ≤ xs.length
  · rw [Nat.min_eq_left h, List.take_of_length_le (by rw [List.length_drop]; omega)]
  · rw [Nat.min_eq_right (by omega), Nat.sub_self, List.take_zero, List.drop_of_length_le (by omega)]
theorem bx_append (b c : Box) : bx b ++ bx c = bx (b ++ c) := (List.map_append ..).symm
theorem bx_take (b : Box) (k : Nat) : (bx b).take k = bx (b.take k) := (List.map_take ..).symm
theorem bx_drop (b : Box) (k : Nat) : (bx b).drop k = bx (b.drop k) := (List.map_drop ..).symm
theorem run_append (me you : Str) : ∀ (is js : List (Fin 8)) (b : Box), runD (is ++ js) me you b = (runD is me you b).bind (runD js me you)
  | [], js, b => rfl
  | i :: is, js, b => by
    show (stp i me you b).bind (runD (is ++ js) me you) = ((stp i me you b).bind (runD is me you)).bind (runD js me you)
    cases stp i me you b with
    | none => rfl
    | some c => exact run_append me you is js c
theorem stp_beneath {i : Fin 8} {me you : Str} {b c : Box} (u : Box) (h : stp i me you b = some c) : stp i me you (b ++ u) = some (c ++ u) := by
  have tail : ∀ k o, top1 k o b = some c → top1 k o (b ++ u) = some (c ++ u) := fun k o e => by
    cases b with
    | nil => cases e
    | cons p r =>
      obtain ⟨j, x⟩ := p
      by_cases hc : j = k ∧ x = o
      · rw [show top1 k o ((j, x) :: r) = some r from if_pos hc] at e
        cases e; exact if_pos hc
      · rw [show top1 k o ((j, x) :: r) = none from if_neg hc] at e
        cases e
  match i with
  | 0 => cases h; rfl
  | 1 => cases h; rfl
  | 2 => exact tail _ _ h
  | 3 => cases h; rfl
  | 4 => cases h; rfl
  | 5 => exact tail _ _ h
  | 6 => exact tail _ _ h
  | 7 =>
    cases b with
    | nil => cases h
    | cons p r =>
      obtain ⟨j, x⟩ := p
      cases j with
      | true => cases h
      | false => cases h; rfl
theorem run_beneath {me you : Str} (u : Box) : ∀ {is : List (Fin 8)} {b c : Box}, runD is me you b = some c → runD is me you (b ++ u) = some (c ++ u)
  | [], b, c, h => by cases h; rfl
  | i :: is, b, c, h => by
    obtain ⟨b1, h1, h2⟩ := Option.bind_eq_some_iff.mp (show (stp i me you b).bind (runD is me you) = some c from h)
    show (stp i me you (b ++ u)).bind (runD is me you) = _
    rw [stp_beneath u h1]
    exact run_beneath u h2
theorem bx_cut1 (b : Box) (k : Nat) : cutD none (some (k : Int)) (.tup (bx b)) = some (.tup (bx (b.take k))) := by
  show some (D.tup (cutL _ _ _)) = _
  rw [cut_take, bx_take]
theorem bx_cut2 (b : Box) (k : Nat) : cutD (some (k : Int)) none (.tup (bx b)) = some (.tup (bx (b.drop k))) := by
  show some (D.tup (cutL _ _ _)) = _
  rw [cut_drop, bx_drop]
theorem bx_add {b c : Box} (h : b.length + c.length ≤ 1000) : addD (.tup (bx b)) (.tup (bx c)) = some (.tup (bx (b ++ c))) := by
  rw [Ev.addT, if_pos (by rw [bx_length, bx_length]; show _ ≤ 2 ^ 24; omega), bx_append]
theorem isT (b : Box) : isB "tuple" (.tup (bx b)) = some true := rfl
theorem split_row2 {is : List (Fin 8)} (h : is ≠ []) (hl : is.length ≤ 1000) : splitD (.str (rowT is)) (.str "; ") = some (.lst (is.map ddS)) := splitD_row h hl
theorem IsBox.run {is : List (Fin 8)} {me you : Str} {b c : Box} (hb : IsBox b) (hd : IsName me) (ha : IsName you) (h : runD is me you b = some c) (hl : b.length + is.length ≤ 12) : IsBox c := by
  obtain ⟨h1, h2⟩ := runD_all (P := IsName) hd ha h hb.2
  exact ⟨by omega, h1⟩
theorem parts_ok {is : List (Fin 8)} {d a : Str} {b : Box} (hi0 : is ≠ []) (hi6 : is.length ≤ 6) (hd : IsName d) (ha : IsName a) (hb : IsBox b) (hl : b.length ≤ 7) :
    _law_parts_right_F [.str (rowT is), .str d, .str a, .tup (bx b)] = .ok (.bl true) none := by
  have f := behind_ev hi0 hi6 hd ha hb
  obtain ⟨z, hz⟩ := shows_run (is := is) hd ha hb.2 (by omega)
  have hs := split_row2 hi0 (by omega)
  obtain ⟨Γ', l1, _, s6, s7, s8, s9, s10, h6, h7, h8, h9, h10, rfl⟩ := for_inv (b := bName 6) (body := _law_parts_right_x1)
    (I := fun ds Γ => (∀ x ∈ ds, ∃ k : Nat, x = .int k ∧ 1 ≤ k ∧ k < is.length) ∧ ∃ s6 s7 s8 s9 s10 : Sl, s6.isB = false ∧ s7.isB = false ∧ s8.isB = false ∧ s9.isB = false ∧ s10.isB = false ∧
      Γ = [.im (.str (rowT is)), .im (.str d), .im (.str a), .im (.tup (bx b)), .im (.lst (is.map ddS)), .im (rs (runD is d a b)), s6, s7, s8, s9, s10])
    ((List.range ((is.length : Int) - 1).toNat).map fun n => D.int (1 + (n : Nat))) [.im (.str (rowT is)), .im (.str d), .im (.str a), .im (.tup (bx b)), .im (.lst (is.map ddS)), .im (rs (runD is d a b)), .no, .no, .no, .no, .no]
    ⟨fun x hx => by
      obtain ⟨n, hn, rfl⟩ := List.mem_map.mp hx
      have := List.mem_range.mp hn
      exact ⟨1 + n, by congr 1, by omega, by omega⟩, _, _, _, _, _, rfl, rfl, rfl, rfl, rfl, rfl⟩
    fun x ds Γ ⟨hx, s6, s7, s8, s9, s10, h6, h7, h8, h9, h10, e⟩ => by
      subst e
      obtain ⟨k, rfl, k1, k2⟩ := hx x List.mem_cons_self
      have t0 : is.take k ≠ [] := by intro z; have := congrArg List.length z; rw [List.length_take, List.length_nil] at this; omega
      have u0 : is.drop k ≠ [] := by intro z; have := congrArg List.length z; rw [List.length_drop, List.length_nil] at this; omega
      have tl : (is.take k).length = k := by rw [List.length_take]; omega
      have ul : (is.drop k).length = is.length - k := List.length_drop ..
      have j1 := join_row (is := is.take k) (by omega)
      have j2 := join_row (is := is.drop k) (by omega)
      rw [List.map_take] at j1
      rw [List.map_drop] at j2
      have r1 := is_row_ev t0 (by omega)
      have r2 := is_row_ev u0 (by omega)
      rw [decide_eq_true (by omega : (is.take k).length ≤ 6)] at r1
      rw [decide_eq_true (by omega : (is.drop k).length ≤ 6)] at r2
      have g := behind_ev t0 (by omega) hd ha hb
      have er : runD is d a b = (runD (is.take k) d a b).bind (runD (is.drop k) d a) := by rw [← run_append, List.take_append_drop]
      refine ⟨[.im (.str (rowT is)), .im (.str d), .im (.str a), .im (.tup (bx b)), .im (.lst (is.map ddS)), .im (rs (runD is d a b)), .im (.int k), s7, s8, s9, s10], by simp -implicitDefEqProofs only [Ev.all, and_self, and_true, true_and, List.getElem?_cons_zero, List.getElem?_cons_succ, List.set_cons_zero, List.set_cons_succ, List.length_cons, List.length_nil, Option.map_some, Option.bind_some, Option.map_none, Option.bind_none, List.map_cons, List.map_nil, List.cons_append, List.nil_append, List.append_nil, Nat.reduceAdd, Nat.reduceSub, Nat.zero_add, List.replicate_succ, List.replicate_zero, if_true, if_false, reduceIte, Nat.reduceLeDiff, Nat.reduceEqDiff, Bool.not_true, Bool.not_false, decide_true, decide_false, Int.reduceLT, Int.reduceLE, Bool.false_eq_true, Bool.true_eq_false, reduceCtorEq, Bool.or_false, Bool.or_true, Bool.true_or, Bool.false_or, h6],
        [.im (.str (rowT is)), .im (.str d), .im (.str a), .im (.tup (bx b)), .im (.lst (is.map ddS)), .im (rs (runD is d a b)), .im (.int k), .im (.str (rowT (is.take k))), .im (.str (rowT (is.drop k))), .im (rs (runD (is.take k) d a b)), .im (rs (runD is d a b))], .inl ?_,
        fun x h => hx x (List.mem_cons_of_mem _ h), _, _, _, _, _, rfl, rfl, rfl, rfl, rfl, rfl⟩
      cases hm : runD (is.take k) d a b with
      | none =>
        rw [hm] at g er
        rw [er] at hz ⊢
        simp only [Option.bind_none] at hz ⊢
        simp -implicitDefEqProofs only [_law_parts_right_x1, Ev.all, and_self, and_true, true_and, List.getElem?_cons_zero, List.getElem?_cons_succ, List.set_cons_zero, List.set_cons_succ, List.length_cons, List.length_nil, Option.map_some, Option.bind_some, Option.map_none, Option.bind_none, List.map_cons, List.map_nil, List.cons_append, List.nil_append, List.append_nil, Nat.reduceAdd, Nat.reduceSub, Nat.zero_add, List.replicate_succ, List.replicate_zero, if_true, if_false, reduceIte, Nat.reduceLeDiff, Nat.reduceEqDiff, Bool.not_true, Bool.not_false, decide_true, decide_false, Int.reduceLT, Int.reduceLE, Bool.false_eq_true, Bool.true_eq_false, reduceCtorEq, Bool.or_false, Bool.or_true, Bool.true_or, Bool.false_or, cut_take, cut_drop, j1, j2, r1, r2, g, rs_none, rs_some, h7, h8, h9, h10, hz, eq_self]
        simp only [rs_none, rs_some] at hz
        simp -implicitDefEqProofs only [Ev.all, and_self, and_true, true_and, List.getElem?_cons_zero, List.getElem?_cons_succ, List.set_cons_zero, List.set_cons_succ, List.length_cons, List.length_nil, Option.map_some, Option.bind_some, Option.map_none, Option.bind_none, List.map_cons, List.map_nil, List.cons_append, List.nil_append, List.append_nil, Nat.reduceAdd, Nat.reduceSub, Nat.zero_add, List.replicate_succ, List.replicate_zero, if_true, if_false, reduceIte, Nat.reduceLeDiff, Nat.reduceEqDiff, Bool.not_true, Bool.not_false, decide_true, decide_false, Int.reduceLT, Int.reduceLE, Bool.false_eq_true, Bool.true_eq_false, reduceCtorEq, Bool.or_false, Bool.or_true, Bool.true_or, Bool.false_or, hz, eq_self]
      | some c =>
        rw [hm] at g er
        have hc : IsBox c := hb.run hd ha hm (by omega)
        have g2 := behind_ev u0 (by omega) hd ha hc
        rw [show runD (is.drop k) d a c = runD is d a b from er.symm] at g2
        simp -implicitDefEqProofs only [_law_parts_right_x1, Ev.all, and_self, and_true, true_and, List.getElem?_cons_zero, List.getElem?_cons_succ, List.set_cons_zero, List.set_cons_succ, List.length_cons, List.length_nil, Option.map_some, Option.bind_some, Option.map_none, Option.bind_none, List.map_cons, List.map_nil, List.cons_append, List.nil_append, List.append_nil, Nat.reduceAdd, Nat.reduceSub, Nat.zero_add, List.replicate_succ, List.replicate_zero, if_true, if_false, reduceIte, Nat.reduceLeDiff, Nat.reduceEqDiff, Bool.not_true, Bool.not_false, decide_true, decide_false, Int.reduceLT, Int.reduceLE, Bool.false_eq_true, Bool.true_eq_false, reduceCtorEq, Bool.or_false, Bool.or_true, Bool.true_or, Bool.false_or, cut_take, cut_drop, j1, j2, r1, r2, g, g2, rs_none, rs_some, h7, h8, h9, h10, hz, isT, eq_self]
  have hlen : 0 < is.length := List.length_pos_iff.mpr hi0
  have hit : rng2 (aCons (cE (.int 1)) (aCons (opN (one lenD) (aCons (vE 4) aNil)) aNil)) [.im (.str (rowT is)), .im (.str d), .im (.str a), .im (.tup (bx b)), .im (.lst (is.map ddS)), .im (rs (runD is d a b)), .no, .no, .no, .no, .no] =
      .ok ((List.range ((is.length : Int) - 1).toNat).map fun n => D.int (1 + (n : Nat))) [.im (.str (rowT is)), .im (.str d), .im (.str a), .im (.tup (bx b)), .im (.lst (is.map ddS)), .im (rs (runD is d a b)), .no, .no, .no, .no, .no] := by
    have h1 : aCons (cE (.int 1)) (aCons (opN (one lenD) (aCons (vE 4) aNil)) aNil) [.im (.str (rowT is)), .im (.str d), .im (.str a), .im (.tup (bx b)), .im (.lst (is.map ddS)), .im (rs (runD is d a b)), .no, .no, .no, .no, .no] =
      .ok [.d (.int 1), .d (.int is.length)] [.im (.str (rowT is)), .im (.str d), .im (.str a), .im (.tup (bx b)), .im (.lst (is.map ddS)), .im (rs (runD is d a b)), .no, .no, .no, .no, .no] := by
      simp -implicitDefEqProofs only [Ev.all, and_self, and_true, true_and, List.getElem?_cons_zero, List.getElem?_cons_succ, List.set_cons_zero, List.set_cons_succ, List.length_cons, List.length_nil, Option.map_some, Option.bind_some, Option.map_none, Option.bind_none, List.map_cons, List.map_nil, List.cons_append, List.nil_append, List.append_nil, Nat.reduceAdd, Nat.reduceSub, Nat.zero_add, List.replicate_succ, List.replicate_zero, if_true, if_false, reduceIte, Nat.reduceLeDiff, Nat.reduceEqDiff, Bool.not_true, Bool.not_false, decide_true, decide_false, Int.reduceLT, Int.reduceLE, Bool.false_eq_true, Bool.true_eq_false, reduceCtorEq, Bool.or_false, Bool.or_true, Bool.true_or, Bool.false_or, List.length_map]
    unfold rng2
    rw [h1, Ev.bindO, Ev.itR2 (by omega) (by omega) (by omega) (by omega)]
  have hf := for_at hit l1
  unfold _law_parts_right_F _law_parts_right_b
  simp -implicitDefEqProofs only [Ev.all, and_self, and_true, true_and, List.getElem?_cons_zero, List.getElem?_cons_succ, List.set_cons_zero, List.set_cons_succ, List.length_cons, List.length_nil, Option.map_some, Option.bind_some, Option.map_none, Option.bind_none, List.map_cons, List.map_nil, List.cons_append, List.nil_append, List.append_nil, Nat.reduceAdd, Nat.reduceSub, Nat.zero_add, List.replicate_succ, List.replicate_zero, if_true, if_false, reduceIte, Nat.reduceLeDiff, Nat.reduceEqDiff, Bool.not_true, Bool.not_false, decide_true, decide_false, Int.reduceLT, Int.reduceLE, Bool.false_eq_true, Bool.true_eq_false, reduceCtorEq, Bool.or_false, Bool.or_true, Bool.true_or, Bool.false_or, hs, f, hf]
theorem beneath_ok {is : List (Fin 8)} {d a : Str} {b u : Box} (hi0 : is ≠ []) (hi6 : is.length ≤ 6) (hd : IsName d) (ha : IsName a) (hb : IsBox b) (hbu : IsBox (b ++ u)) :
    _law_beneath_right_F [.str (rowT is), .str d, .str a, .tup (bx b), .tup (bx u)] = .ok (.bl true) none := by
  have f := behind_ev hi0 hi6 hd ha hb
  have g := behind_ev hi0 hi6 hd ha hbu
  have hl := hbu.1
  rw [List.length_append] at hl
  have hadd := bx_add (b := b) (c := u) (by omega)
  unfold _law_beneath_right_F _law_beneath_right_b
  cases hr : runD is d a b with
  | none =>
    rw [hr] at f
    cases hq : runD is d a (b ++ u) with
    | none =>
      rw [hq] at g
      simp -implicitDefEqProofs only [Ev.all, and_self, and_true, true_and, List.getElem?_cons_zero, List.getElem?_cons_succ, List.set_cons_zero, List.set_cons_succ, List.length_cons, List.length_nil, Option.map_some, Option.bind_some, Option.map_none, Option.bind_none, List.map_cons, List.map_nil, List.cons_append, List.nil_append, List.append_nil, Nat.reduceAdd, Nat.reduceSub, Nat.zero_add, List.replicate_succ, List.replicate_zero, if_true, if_false, reduceIte, Nat.reduceLeDiff, Nat.reduceEqDiff, Bool.not_true, Bool.not_false, decide_true, decide_false, Int.reduceLT, Int.reduceLE, Bool.false_eq_true, Bool.true_eq_false, reduceCtorEq, Bool.or_false, Bool.or_true, Bool.true_or, Bool.false_or, hadd, f, g, rs_none, rs_some]
    | some c =>
      rw [hq] at g
      simp -implicitDefEqProofs only [Ev.all, and_self, and_true, true_and, List.getElem?_cons_zero, List.getElem?_cons_succ, List.set_cons_zero, List.set_cons_succ, List.length_cons, List.length_nil, Option.map_some, Option.bind_some, Option.map_none, Option.bind_none, List.map_cons, List.map_nil, List.cons_append, List.nil_append, List.append_nil, Nat.reduceAdd, Nat.reduceSub, Nat.zero_add, List.replicate_succ, List.replicate_zero, if_true, if_false, reduceIte, Nat.reduceLeDiff, Nat.reduceEqDiff, Bool.not_true, Bool.not_false, decide_true, decide_false, Int.reduceLT, Int.reduceLE, Bool.false_eq_true, Bool.true_eq_false, reduceCtorEq, Bool.or_false, Bool.or_true, Bool.true_or, Bool.false_or, hadd, f, g, rs_none, rs_some, isT]
  | some c =>
    have hq := run_beneath u hr
    rw [hr] at f
    rw [hq] at g
    obtain ⟨z, hz⟩ := shows_run (is := is) hd ha hbu.2 (by rw [List.length_append]; omega)
    rw [hq] at hz
    obtain ⟨h1, h2⟩ := runD_all (P := IsName) hd ha hr hb.2
    have hadd2 := bx_add (b := c) (c := u) (by omega)
    simp only [rs_none, rs_some] at hz
    simp -implicitDefEqProofs only [Ev.all, and_self, and_true, true_and, List.getElem?_cons_zero, List.getElem?_cons_succ, List.set_cons_zero, List.set_cons_succ, List.length_cons, List.length_nil, Option.map_some, Option.bind_some, Option.map_none, Option.bind_none, List.map_cons, List.map_nil, List.cons_append, List.nil_append, List.append_nil, Nat.reduceAdd, Nat.reduceSub, Nat.zero_add, List.replicate_succ, List.replicate_zero, if_true, if_false, reduceIte, Nat.reduceLeDiff, Nat.reduceEqDiff, Bool.not_true, Bool.not_false, decide_true, decide_false, Int.reduceLT, Int.reduceLE, Bool.false_eq_true, Bool.true_eq_false, reduceCtorEq, Bool.or_false, Bool.or_true, Bool.true_or, Bool.false_or, hadd, hadd2, f, g, rs_none, rs_some, isT, hz, eq_self]
end PL

/-! plain law PL18 -/
set_option Elab.async false
set_option linter.all false
set_option maxRecDepth 100000
set_option maxHeartbeats 4000000
namespace PL
open PySem PySem.Spec PyProof.Rows L2 FL PF
theorem eve_name : IsName (Str.ofString "eve") := by decide +kernel
theorem rng_v {n : Nat} (hn : n ≤ 1000000) {e : EF} {Γ Γ1 : En} (he : e Γ = .ok (.d (.int (n : Int))) Γ1) : rng1 (aCons e aNil) Γ = .ok ((List.range n).map fun i => D.int (0 + (i : Nat))) Γ1 := by
  have h1 : aCons e aNil Γ = .ok [.d (.int (n : Int))] Γ1 := by
    rw [Ev.aCons, he]; rfl
  unfold rng1
  rw [h1, Ev.bindO, Ev.itR1 (by omega) (by omega)]; rfl
theorem turn_k06 (p : List D) (d : D) (rest : En) (P : Pool p) (hl : rest.length = 6) (hn : NB rest) : ∃ (p' : List D) (d' : Sl) (rest' : En), _law_right_3_x2 (.bor (.l p) :: .im d :: rest) = .ok .nx (.bor (.l p') :: d' :: rest') ∧ Pool p' ∧ d'.isB = false ∧ rest'.length = 6 ∧ NB rest' := by
  match rest, hl, hn with
  | [s2, s3, s4, s5, s6, s7], _, hn =>
  obtain ⟨h2, hn⟩ := hn.inv
  obtain ⟨h3, hn⟩ := hn.inv
  obtain ⟨h4, hn⟩ := hn.inv
  obtain ⟨h5, hn⟩ := hn.inv
  obtain ⟨h6, hn⟩ := hn.inv
  obtain ⟨h7, hn⟩ := hn.inv
  obtain ⟨dn, p1, e1, hd, P1⟩ := called_ok P
  obtain ⟨an, p2, e2, ha, P2⟩ := called_ok P1
  obtain ⟨r, p4, e4, r1, r2, P4⟩ := take_ok P2 (n := 6) (by decide) (by decide)
  obtain ⟨an', han, hax⟩ : ∃ a : Str, IsName a ∧ a = (if r = 0 then dn else an) := by
    by_cases h : r = 0
    · exact ⟨dn, hd, by rw [if_pos h]⟩
    · exact ⟨an, ha, by rw [if_neg h]⟩
  have hns : ∀ x ∈ [dn, an'], IsName x := by
    intro x hx
    simp only [List.mem_cons, List.not_mem_nil, or_false] at hx
    rcases hx with rfl | rfl <;> assumption
  have hns2 : ∀ x ∈ [dn, an', Str.ofString "eve"], IsName x := by
    intro x hx
    simp only [List.mem_cons, List.not_mem_nil, or_false] at hx
    rcases hx with rfl | rfl | rfl
    · assumption
    · assumption
    · exact eve_name
  obtain ⟨b, p5, e5, b1, b2, P5⟩ := boxed_ok P4 hns (by simp) (by simp) (m := 6) (by decide)
  obtain ⟨u, p6, e6, u1, u2, P6⟩ := boxed_ok P5 hns2 (by simp) (by simp) (m := 6) (by decide)
  have hb : IsBox b := boxD_of (by decide) hns b1 b2
  have hu : IsBox u := boxD_of (by decide) hns2 u1 u2
  simp only [List.map_cons, List.map_nil] at e5 e6
  have c6 : ((6 : Nat) : Int) = 6 := rfl
  rw [c6] at e5 e6
  have hbu : IsBox (b ++ u) := ⟨by rw [List.length_append]; omega, fun p hp => by
    rcases List.mem_append.mp hp with h | h
    · exact hb.2 p h
    · exact hu.2 p h⟩
  have hbt : IsBox (b ++ u.take 1) := ⟨by rw [List.length_append, List.length_take]; omega, fun p hp => by
    rcases List.mem_append.mp hp with h | h
    · exact hb.2 p h
    · exact hu.2 p (List.mem_of_mem_take h)⟩
  obtain ⟨m, p7, e7, m1, m2, P7⟩ := take_ok P6 (n := 6) (by decide) (by decide)
  obtain ⟨mn, rfl⟩ := Int.eq_ofNat_of_zero_le m1
  have hbul := hbu.1
  obtain ⟨is, p8, e8, il, P8⟩ := row_ok P7 hd.ok han.ok hbu.ok (m := mn + 1) (by omega)
  have cm : ((mn + 1 : Nat) : Int) = 1 + (mn : Int) := by omega
  rw [cm] at e8
  have hi0 : is ≠ [] := ne_nil_of il
  have hi6 : is.length ≤ 6 := by omega
  have q1 := parts_ok hi0 hi6 hd han hbt (by rw [List.length_append, List.length_take]; omega)
  have q2 := parts_ok hi0 hi6 han hd hb (by omega)
  have a1 := bx_add (b := b) (c := u) (by omega)
  have a2 := bx_add (b := b) (c := u.take 1) (by rw [List.length_take]; omega)
  have ct : cutL (bx u) none (some 1) = bx (u.take 1) := by
    rw [← bx_take]; exact cut_take (bx u) 1
  obtain ⟨Γ', l1, _, s7', h7', rfl⟩ := for_inv (b := bName 7) (body := _law_right_3_x1)
    (I := fun ds Γ => (∀ x ∈ ds, ∃ k : Nat, x = .int k) ∧ ∃ s7 : Sl, s7.isB = false ∧ Γ = [.bor (.l p8), .im d, .im (.str dn), .im (.str an'), .im (.tup (bx b)), .im (.tup (bx u)), .im (.str (rowT is)), s7])
    ((List.range (b.length + 1)).map fun n => D.int (0 + (n : Nat))) [.bor (.l p8), .im d, .im (.str dn), .im (.str an'), .im (.tup (bx b)), .im (.tup (bx u)), .im (.str (rowT is)), s7]
    ⟨fun x hx => by
      obtain ⟨n, hn, rfl⟩ := List.mem_map.mp hx
      exact ⟨n, by rw [Int.zero_add]⟩, _, h7, rfl⟩
    fun x ds Γ ⟨hx, s7, h7, e⟩ => by
      subst e
      obtain ⟨k, rfl⟩ := hx x List.mem_cons_self
      have hk : IsBox (b.take k) := ⟨by rw [List.length_take]; omega, fun p hp => hb.2 p (List.mem_of_mem_take hp)⟩
      have ek : b.take k ++ (b.drop k ++ u) = b ++ u := by rw [← List.append_assoc, List.take_append_drop]
      have q := beneath_ok (b := b.take k) (u := b.drop k ++ u) hi0 hi6 hd han hk (by rw [ek]; exact hbu)
      have a3 := bx_add (b := b.drop k) (c := u) (by rw [List.length_drop]; omega)
      rw [← bx_drop] at a3
      rw [← bx_take] at q
      refine ⟨[.bor (.l p8), .im d, .im (.str dn), .im (.str an'), .im (.tup (bx b)), .im (.tup (bx u)), .im (.str (rowT is)), .im (.int k)], by simp -implicitDefEqProofs only [Ev.all, and_self, and_true, true_and, List.getElem?_cons_zero, List.getElem?_cons_succ, List.set_cons_zero, List.set_cons_succ, List.length_cons, List.length_nil, Option.map_some, Option.bind_some, Option.map_none, Option.bind_none, List.map_cons, List.map_nil, List.cons_append, List.nil_append, List.append_nil, Nat.reduceAdd, Nat.reduceSub, Nat.zero_add, List.replicate_succ, List.replicate_zero, if_true, if_false, reduceIte, Nat.reduceLeDiff, Nat.reduceEqDiff, Bool.not_true, Bool.not_false, decide_true, decide_false, Int.reduceLT, Int.reduceLE, Bool.false_eq_true, Bool.true_eq_false, reduceCtorEq, Bool.or_false, Bool.or_true, Bool.true_or, Bool.false_or, h7], _, .inl ?_, fun x h => hx x (List.mem_cons_of_mem _ h), .im (.int k), rfl, rfl⟩
      simp -implicitDefEqProofs only [_law_right_3_x1, Ev.all, and_self, and_true, true_and, List.getElem?_cons_zero, List.getElem?_cons_succ, List.set_cons_zero, List.set_cons_succ, List.length_cons, List.length_nil, Option.map_some, Option.bind_some, Option.map_none, Option.bind_none, List.map_cons, List.map_nil, List.cons_append, List.nil_append, List.append_nil, Nat.reduceAdd, Nat.reduceSub, Nat.zero_add, List.replicate_succ, List.replicate_zero, if_true, if_false, reduceIte, Nat.reduceLeDiff, Nat.reduceEqDiff, Bool.not_true, Bool.not_false, decide_true, decide_false, Int.reduceLT, Int.reduceLE, Bool.false_eq_true, Bool.true_eq_false, reduceCtorEq, Bool.or_false, Bool.or_true, Bool.true_or, Bool.false_or, cut_take, cut_drop, a3, q]
  have hit : rng1 (aCons (op2 addD (opN (one lenD) (aCons (vE 4) aNil)) (cE (.int 1))) aNil) [.bor (.l p8), .im d, .im (.str dn), .im (.str an'), .im (.tup (bx b)), .im (.tup (bx u)), .im (.str (rowT is)), s7] =
      .ok ((List.range (b.length + 1)).map fun n => D.int (0 + (n : Nat))) [.bor (.l p8), .im d, .im (.str dn), .im (.str an'), .im (.tup (bx b)), .im (.tup (bx u)), .im (.str (rowT is)), s7] := by
    refine rng_v (by omega) ?_
    have : ((b.length + 1 : Nat) : Int) = (b.length : Int) + 1 := by omega
    rw [this]
    simp -implicitDefEqProofs only [Ev.all, and_self, and_true, true_and, List.getElem?_cons_zero, List.getElem?_cons_succ, List.set_cons_zero, List.set_cons_succ, List.length_cons, List.length_nil, Option.map_some, Option.bind_some, Option.map_none, Option.bind_none, List.map_cons, List.map_nil, List.cons_append, List.nil_append, List.append_nil, Nat.reduceAdd, Nat.reduceSub, Nat.zero_add, List.replicate_succ, List.replicate_zero, if_true, if_false, reduceIte, Nat.reduceLeDiff, Nat.reduceEqDiff, Bool.not_true, Bool.not_false, decide_true, decide_false, Int.reduceLT, Int.reduceLE, Bool.false_eq_true, Bool.true_eq_false, reduceCtorEq, Bool.or_false, Bool.or_true, Bool.true_or, Bool.false_or, bx_length]
  have hf := for_at hit l1
  have h0 : eqD (.int r) (.int 0) = some (.bl (decide (r = 0))) := rfl
  refine ⟨p8, .im d, [.im (.str dn), .im (.str an'), .im (.tup (bx b)), .im (.tup (bx u)), .im (.str (rowT is)), s7'], ?_, P8, rfl, rfl, ?_⟩
  · by_cases h : r = 0
    · rw [if_pos h] at hax
      subst hax
      rw [decide_eq_true h] at h0
      simp -implicitDefEqProofs only [_law_right_3_x2, Ev.all, and_self, and_true, true_and, List.getElem?_cons_zero, List.getElem?_cons_succ, List.set_cons_zero, List.set_cons_succ, List.length_cons, List.length_nil, Option.map_some, Option.bind_some, Option.map_none, Option.bind_none, List.map_cons, List.map_nil, List.cons_append, List.nil_append, List.append_nil, Nat.reduceAdd, Nat.reduceSub, Nat.zero_add, List.replicate_succ, List.replicate_zero, if_true, if_false, reduceIte, Nat.reduceLeDiff, Nat.reduceEqDiff, Bool.not_true, Bool.not_false, decide_true, decide_false, Int.reduceLT, Int.reduceLE, Bool.false_eq_true, Bool.true_eq_false, reduceCtorEq, Bool.or_false, Bool.or_true, Bool.true_or, Bool.false_or, e1, e2, e4, h0, e5, e6, e7, e8, a1, a2, ct, q1, q2, hf, h2, h3, h4, h5, h6, h7]
    · rw [if_neg h] at hax
      subst hax
      rw [decide_eq_false h] at h0
      simp -implicitDefEqProofs only [_law_right_3_x2, Ev.all, and_self, and_true, true_and, List.getElem?_cons_zero, List.getElem?_cons_succ, List.set_cons_zero, List.set_cons_succ, List.length_cons, List.length_nil, Option.map_some, Option.bind_some, Option.map_none, Option.bind_none, List.map_cons, List.map_nil, List.cons_append, List.nil_append, List.append_nil, Nat.reduceAdd, Nat.reduceSub, Nat.zero_add, List.replicate_succ, List.replicate_zero, if_true, if_false, reduceIte, Nat.reduceLeDiff, Nat.reduceEqDiff, Bool.not_true, Bool.not_false, decide_true, decide_false, Int.reduceLT, Int.reduceLE, Bool.false_eq_true, Bool.true_eq_false, reduceCtorEq, Bool.or_false, Bool.or_true, Bool.true_or, Bool.false_or, e1, e2, e4, h0, e5, e6, e7, e8, a1, a2, ct, q1, q2, hf, h2, h3, h4, h5, h6, h7]
  · repeat (first | exact NB.nil | exact NB.cons h7' NB.nil | refine NB.cons rfl ?_)
theorem K06_law (ns : List Int) : law_3_F [.scr ns] = .ok (.bl true) none := by
  have b1 : behind_F [.str "untag any; unlock me; lock you", .str "ann", .str "bob", .tup [.tup [.str "tag", .str "bob"], .tup [.str "lock", .str "ann"]]] = .ok (.tup [.tup [.str "lock", .str "bob"]]) none := by kernel_rfl
  have r1 : neD (.tup [.tup [.str "lock", .str "bob"]]) (.tup [.tup [.str "lock", .str "bob"]]) = some (.bl false) := by kernel_rfl
  obtain ⟨xs, t1, t2⟩ := tail_ok (ns := ns) (vi := 2) (cap := 8) (f := law_3_x1) (Γ := [.im (.scr ns), .im (.tup [.tup [.str "tag", .str "bob"], .tup [.str "lock", .str "ann"]]), .no]) rfl rfl (by decide) (by decide) fun k hk => by
    obtain ⟨p, e1, P⟩ := stock_ok ns k hk
    obtain ⟨o, e2⟩ := right_of (m := 3) (k := 6) (by decide) turn_k06 P
    have e2 : _law_right_3_F [.lst p] = .ok (.bl true) (some (.l o)) := e2
    simp -implicitDefEqProofs only [law_3_x1, Ev.all, and_self, and_true, true_and, List.getElem?_cons_zero, List.getElem?_cons_succ, List.set_cons_zero, List.set_cons_succ, List.length_cons, List.length_nil, Option.map_some, Option.bind_some, Option.map_none, Option.bind_none, List.map_cons, List.map_nil, List.cons_append, List.nil_append, List.append_nil, Nat.reduceAdd, Nat.reduceSub, Nat.zero_add, List.replicate_succ, List.replicate_zero, if_true, if_false, reduceIte, Nat.reduceLeDiff, Nat.reduceEqDiff, Bool.not_true, Bool.not_false, decide_true, decide_false, Int.reduceLT, Int.reduceLE, Bool.false_eq_true, Bool.true_eq_false, reduceCtorEq, Bool.or_false, Bool.or_true, Bool.true_or, Bool.false_or, e1, e2]
  unfold law_3_F law_3_b
  simp -implicitDefEqProofs only [Ev.all, and_self, and_true, true_and, List.getElem?_cons_zero, List.getElem?_cons_succ, List.set_cons_zero, List.set_cons_succ, List.length_cons, List.length_nil, Option.map_some, Option.bind_some, Option.map_none, Option.bind_none, List.map_cons, List.map_nil, List.cons_append, List.nil_append, List.append_nil, Nat.reduceAdd, Nat.reduceSub, Nat.zero_add, List.replicate_succ, List.replicate_zero, if_true, if_false, reduceIte, Nat.reduceLeDiff, Nat.reduceEqDiff, Bool.not_true, Bool.not_false, decide_true, decide_false, Int.reduceLT, Int.reduceLE, Bool.false_eq_true, Bool.true_eq_false, reduceCtorEq, Bool.or_false, Bool.or_true, Bool.true_or, Bool.false_or, b1, r1, t1, t2]
end PL

/-! plain law PL19 -/
set_option Elab.async false
set_option linter.all false
set_option maxRecDepth 100000
set_option maxHeartbeats 4000000
namespace PL
open PySem PySem.Spec PyProof.Rows L2 FL PF
def sm (xs : List Str) : List D := xs.map D.str
theorem flats_sm : ∀ xs : List Str, flats (sm xs) = some (xs.map V.str)
  | [] => rfl
  | x :: xs => by
    show (some (V.str x)).bind (fun v => (flats (sm xs)).bind fun vs => some (v :: vs)) = _
    rw [flats_sm xs]; rfl
theorem inV_str (x : Str) : ∀ xs : List Str, inV (.str x) (xs.map V.str) = decide (x ∈ xs)
  | [] => rfl
  | y :: ys => by
    have ih := inV_str x ys
    unfold inV at ih ⊢
    rw [List.map_cons, List.any_cons, ih]
    rw [Bool.eq_iff_iff]
    simp only [eqV, List.mem_cons, Bool.or_eq_true, decide_eq_true_eq, beq_iff_eq]
    constructor
    · rintro (h | h)
      · exact .inl (by first | exact h | exact h.symm)
      · exact .inr h
    · rintro (h | h)
      · exact .inl (by first | exact h | exact h.symm)
      · exact .inr h
theorem in_sm (x : Str) (xs : List Str) : inD (.str x) (.lst (sm xs)) = some (.bl (decide (x ∈ xs))) := by
  show (inB (.str x) (.lst (sm xs))).map D.bl = _
  unfold inB
  dsimp only
  rw [flats_sm]
  show some (D.bl (inV (.str x) (xs.map V.str))) = _
  rw [inV_str]
theorem nin_sm (x : Str) (xs : List Str) : ninD (.str x) (.lst (sm xs)) = some (.bl (!decide (x ∈ xs))) := by
  show (inB (.str x) (.lst (sm xs))).map (fun b => D.bl !b) = _
  unfold inB
  dsimp only
  rw [flats_sm]
  show some (D.bl !(inV (.str x) (xs.map V.str))) = _
  rw [inV_str]
def at_ (ns : List Str) (x : Str) : Nat := (ns.findIdx? (· == x)).getD 0
theorem idx_sm {x : Str} {xs : List Str} (h : x ∈ xs) : idxD (.lst (sm xs)) (.str x) = some (.int (at_ xs x)) ∧ xs[at_ xs x]? = some x := by
  have e : (xs.map V.str).findIdx? (fun z => eqV z (.str x)) = xs.findIdx? (· == x) := by
    rw [List.findIdx?_map]
    rfl
  have hs : (xs.findIdx? (· == x)).isSome = true := by
    rw [List.findIdx?_isSome]
    exact List.any_eq_true.mpr ⟨x, h, beq_self_eq_true x⟩
  obtain ⟨j, hj⟩ := Option.isSome_iff_exists.mp hs
  obtain ⟨k, h1, _⟩ := List.findIdx?_eq_some_iff_getElem.mp hj
  have ea : at_ xs x = j := by unfold at_; rw [hj]; rfl
  refine ⟨?_, by rw [ea, List.getElem?_eq_getElem k, eq_of_beq h1]⟩
  unfold idxD
  dsimp only
  rw [flats_sm]
  show ((xs.map V.str).findIdx? fun z => eqV z (.str x)).map (fun j => D.int (j : Nat)) = _
  rw [e, hj, ea]; rfl
def uq : List Str → List Str → List Str
  | acc, [] => acc
  | acc, x :: xs => if x ∈ acc then uq acc xs else uq (acc ++ [x]) xs
theorem uq_mem {x : Str} : ∀ {xs acc : List Str}, x ∈ uq acc xs ↔ x ∈ acc ∨ x ∈ xs
  | [], acc => by simp [uq]
  | y :: ys, acc => by
    unfold uq
    split
    · rename_i h
      rw [uq_mem (xs := ys)]
      simp only [List.mem_cons]
      constructor
      · rintro (h | h) <;> simp [h]
      · rintro (h1 | rfl | h1)
        · exact .inl h1
        · exact .inl h
        · exact .inr h1
    · rw [uq_mem (xs := ys)]
      simp only [List.mem_append, List.mem_cons, List.not_mem_nil, or_false, or_assoc]
theorem uq_nodup : ∀ {xs acc : List Str}, acc.Nodup → (uq acc xs).Nodup
  | [], acc, h => h
  | y :: ys, acc, h => by
    unfold uq
    split
    · exact uq_nodup (xs := ys) h
    · rename_i hy
      refine uq_nodup (xs := ys) ?_
      rw [List.nodup_append]
      exact ⟨h, by simp, fun a ha b hb => by
        rw [List.mem_singleton] at hb
        subst hb
        intro z; subst z; exact hy ha⟩
theorem uq_len : ∀ {xs acc : List Str}, (uq acc xs).length ≤ acc.length + xs.length ∧ acc.length ≤ (uq acc xs).length
  | [], acc => ⟨Nat.le_refl _, Nat.le_refl _⟩
  | y :: ys, acc => by
    unfold uq
    split
    · obtain ⟨h1, h2⟩ := uq_len (xs := ys) (acc := acc)
      rw [List.length_cons]
      exact ⟨by omega, h2⟩
    · obtain ⟨h1, h2⟩ := uq_len (xs := ys) (acc := acc ++ [y])
      rw [List.length_append, List.length_singleton] at h1 h2
      rw [List.length_cons]
      exact ⟨by omega, by omega⟩
theorem uq_full : ∀ {xs acc : List Str}, acc.Nodup → (uq acc xs).length = acc.length + xs.length → (acc ++ xs).Nodup
  | [], acc, h, _ => by simpa using h
  | y :: ys, acc, h, e => by
    unfold uq at e
    split at e
    · have := (uq_len (xs := ys) (acc := acc)).1
      rw [List.length_cons] at e
      omega
    · rename_i hy
      have h2 : (acc ++ [y]).Nodup := by
        rw [List.nodup_append]
        exact ⟨h, by simp, fun a ha b hb => by
          rw [List.mem_singleton] at hb
          subst hb
          intro z; subst z; exact hy ha⟩
      have := uq_full (xs := ys) h2 (by rw [e, List.length_append, List.length_cons, List.length_singleton]; omega)
      simpa using this
theorem unlike_ok {ns : List Str} (hl : ns.length ≤ 1000) : _law_unlike_F [.lst (sm ns)] = .nw (.l (sm (uq [] ns))) none := by
  have main : ∀ (xs acc : List Str) (s : Sl), s.isB = false → acc.length + xs.length ≤ 1000 → ∃ s', s'.isB = false ∧ loopS (bName 2) _law_unlike_x1 (sm xs) [.im (.lst (sm ns)), .acc (.l (sm acc)), s] = .ok .nx [.im (.lst (sm ns)), .acc (.l (sm (uq acc xs))), s'] := by
    intro xs
    induction xs with
    | nil => intro acc s h _; exact ⟨s, h, rfl⟩
    | cons x xs ih =>
      intro acc s h hl
      rw [List.length_cons] at hl
      have hin := nin_sm x acc
      have hz : (sm acc).length < sizeLine := by unfold sm; rw [List.length_map]; show _ < 2 ^ 24; omega
      by_cases hx : x ∈ acc
      · rw [decide_eq_true hx] at hin
        obtain ⟨s', h', e⟩ := ih acc (.im (.str x)) rfl (by omega)
        refine ⟨s', h', ?_⟩
        rw [show uq acc (x :: xs) = uq acc xs from if_pos hx, ← e]
        exact loop_cons (Γ1 := [.im (.lst (sm ns)), .acc (.l (sm acc)), .im (.str x)]) (by simp -implicitDefEqProofs only [Ev.all, Ev.all2, and_self, and_true, true_and, List.getElem?_cons_zero, List.getElem?_cons_succ, List.set_cons_zero, List.set_cons_succ, List.length_cons, List.length_nil, Option.map_some, Option.bind_some, Option.map_none, Option.bind_none, List.map_cons, List.map_nil, List.cons_append, List.nil_append, List.append_nil, Nat.reduceAdd, Nat.reduceSub, Nat.zero_add, List.replicate_succ, List.replicate_zero, if_true, if_false, reduceIte, Nat.reduceLeDiff, Nat.reduceEqDiff, Bool.not_true, Bool.not_false, decide_true, decide_false, Int.reduceLT, Int.reduceLE, Bool.false_eq_true, Bool.true_eq_false, reduceCtorEq, Bool.or_false, Bool.or_true, Bool.true_or, Bool.false_or, h]) (by simp -implicitDefEqProofs only [_law_unlike_x1, Ev.all, Ev.all2, and_self, and_true, true_and, List.getElem?_cons_zero, List.getElem?_cons_succ, List.set_cons_zero, List.set_cons_succ, List.length_cons, List.length_nil, Option.map_some, Option.bind_some, Option.map_none, Option.bind_none, List.map_cons, List.map_nil, List.cons_append, List.nil_append, List.append_nil, Nat.reduceAdd, Nat.reduceSub, Nat.zero_add, List.replicate_succ, List.replicate_zero, if_true, if_false, reduceIte, Nat.reduceLeDiff, Nat.reduceEqDiff, Bool.not_true, Bool.not_false, decide_true, decide_false, Int.reduceLT, Int.reduceLE, Bool.false_eq_true, Bool.true_eq_false, reduceCtorEq, Bool.or_false, Bool.or_true, Bool.true_or, Bool.false_or, hin])
      · rw [decide_eq_false hx] at hin
        obtain ⟨s', h', e⟩ := ih (acc ++ [x]) (.im (.str x)) rfl (by rw [List.length_append, List.length_singleton]; omega)
        refine ⟨s', h', ?_⟩
        rw [show uq acc (x :: xs) = uq (acc ++ [x]) xs from if_neg hx, ← e]
        have ea : sm (acc ++ [x]) = sm acc ++ [.str x] := by unfold sm; rw [List.map_append]; rfl
        rw [ea]
        exact loop_cons (Γ1 := [.im (.lst (sm ns)), .acc (.l (sm acc)), .im (.str x)]) (by simp -implicitDefEqProofs only [Ev.all, Ev.all2, and_self, and_true, true_and, List.getElem?_cons_zero, List.getElem?_cons_succ, List.set_cons_zero, List.set_cons_succ, List.length_cons, List.length_nil, Option.map_some, Option.bind_some, Option.map_none, Option.bind_none, List.map_cons, List.map_nil, List.cons_append, List.nil_append, List.append_nil, Nat.reduceAdd, Nat.reduceSub, Nat.zero_add, List.replicate_succ, List.replicate_zero, if_true, if_false, reduceIte, Nat.reduceLeDiff, Nat.reduceEqDiff, Bool.not_true, Bool.not_false, decide_true, decide_false, Int.reduceLT, Int.reduceLE, Bool.false_eq_true, Bool.true_eq_false, reduceCtorEq, Bool.or_false, Bool.or_true, Bool.true_or, Bool.false_or, h]) (by simp -implicitDefEqProofs only [_law_unlike_x1, Ev.all, Ev.all2, and_self, and_true, true_and, List.getElem?_cons_zero, List.getElem?_cons_succ, List.set_cons_zero, List.set_cons_succ, List.length_cons, List.length_nil, Option.map_some, Option.bind_some, Option.map_none, Option.bind_none, List.map_cons, List.map_nil, List.cons_append, List.nil_append, List.append_nil, Nat.reduceAdd, Nat.reduceSub, Nat.zero_add, List.replicate_succ, List.replicate_zero, if_true, if_false, reduceIte, Nat.reduceLeDiff, Nat.reduceEqDiff, Bool.not_true, Bool.not_false, decide_true, decide_false, Int.reduceLT, Int.reduceLE, Bool.false_eq_true, Bool.true_eq_false, reduceCtorEq, Bool.or_false, Bool.or_true, Bool.true_or, Bool.false_or, hin, if_pos hz])
  obtain ⟨s', h', e⟩ := main ns [] .no rfl (by simpa using hl)
  have hf : forS (anyI (vE 0)) (bName 2) _law_unlike_x1 [.im (.lst (sm ns)), .acc (.l []), .no] = .ok .nx [.im (.lst (sm ns)), .acc (.l (sm (uq [] ns))), s'] := for_at (ds := sm ns) rfl e
  unfold _law_unlike_F _law_unlike_b
  simp -implicitDefEqProofs only [Ev.all, Ev.all2, and_self, and_true, true_and, List.getElem?_cons_zero, List.getElem?_cons_succ, List.set_cons_zero, List.set_cons_succ, List.length_cons, List.length_nil, Option.map_some, Option.bind_some, Option.map_none, Option.bind_none, List.map_cons, List.map_nil, List.cons_append, List.nil_append, List.append_nil, Nat.reduceAdd, Nat.reduceSub, Nat.zero_add, List.replicate_succ, List.replicate_zero, if_true, if_false, reduceIte, Nat.reduceLeDiff, Nat.reduceEqDiff, Bool.not_true, Bool.not_false, decide_true, decide_false, Int.reduceLT, Int.reduceLE, Bool.false_eq_true, Bool.true_eq_false, reduceCtorEq, Bool.or_false, Bool.or_true, Bool.true_or, Bool.false_or, hf]
/-- a box with its names exchanged -/
def ren (f : Str → Str) (b : Box) : Box := b.map fun p => (p.1, f p.2)
theorem ren_top {f : Str → Str} {k : Bool} {o : Str} : ∀ {b c : Box}, top1 k o b = some c → top1 k (f o) (ren f b) = some (ren f c)
  | (j, x) :: r, c, e => by
    by_cases hc : j = k ∧ x = o
    · rw [show top1 k o ((j, x) :: r) = some r from if_pos hc] at e
      cases e
      exact if_pos ⟨hc.1, by rw [hc.2]⟩
    · rw [show top1 k o ((j, x) :: r) = none from if_neg hc] at e
      cases e
theorem ren_stp {f : Str → Str} {i : Fin 8} {d a : Str} {b c : Box} (h : stp i d a b = some c) : stp i (f d) (f a) (ren f b) = some (ren f c) := by
  match i with
  | 0 => cases h; rfl
  | 1 => cases h; rfl
  | 2 => exact ren_top h
  | 3 => cases h; rfl
  | 4 => cases h; rfl
  | 5 => exact ren_top h
  | 6 => exact ren_top h
  | 7 =>
    cases b with
    | nil => cases h
    | cons p r =>
      obtain ⟨j, x⟩ := p
      cases j with
      | true => cases h
      | false => cases h; rfl
theorem ren_run {f : Str → Str} {d a : Str} : ∀ {is : List (Fin 8)} {b c : Box}, runD is d a b = some c → runD is (f d) (f a) (ren f b) = some (ren f c)
  | [], b, c, h => by cases h; rfl
  | i :: is, b, c, h => by
    obtain ⟨b1, h1, h2⟩ := Option.bind_eq_some_iff.mp (show (stp i d a b).bind (runD is d a) = some c from h)
    show (stp i (f d) (f a) (ren f b)).bind (runD is (f d) (f a)) = _
    rw [ren_stp h1]
    exact ren_run h2
theorem ren_top0 {S : List Str} {f : Str → Str} (hf : ∀ x ∈ S, ∀ y ∈ S, f x = f y → x = y) {k : Bool} {o : Str} (ho : o ∈ S) : ∀ {b : Box}, (∀ p ∈ b, p.2 ∈ S) → top1 k o b = none → top1 k (f o) (ren f b) = none
  | [], _, _ => rfl
  | (j, x) :: r, hb, e => by
    refine if_neg fun hc => ?_
    have hx := hf x (hb (j, x) List.mem_cons_self) o ho hc.2
    rw [show top1 k o ((j, x) :: r) = some r from if_pos ⟨hc.1, hx⟩] at e
    cases e
theorem ren_stp0 {S : List Str} {f : Str → Str} (hf : ∀ x ∈ S, ∀ y ∈ S, f x = f y → x = y) {i : Fin 8} {d a : Str} (hd : d ∈ S) (ha : a ∈ S) {b : Box} (hb : ∀ p ∈ b, p.2 ∈ S) (h : stp i d a b = none) : stp i (f d) (f a) (ren f b) = none := by
  match i with
  | 0 => cases h
  | 1 => cases h
  | 2 => exact ren_top0 hf hd hb h
  | 3 => cases h
  | 4 => cases h
  | 5 => exact ren_top0 hf hd hb h
  | 6 => exact ren_top0 hf ha hb h
  | 7 =>
    cases b with
    | nil => rfl
    | cons p r =>
      obtain ⟨j, x⟩ := p
      cases j with
      | true => rfl
      | false => cases h
theorem ren_run0 {S : List Str} {f : Str → Str} (hf : ∀ x ∈ S, ∀ y ∈ S, f x = f y → x = y) {d a : Str} (hd : d ∈ S) (ha : a ∈ S) : ∀ {is : List (Fin 8)} {b : Box}, (∀ p ∈ b, p.2 ∈ S) → runD is d a b = none → runD is (f d) (f a) (ren f b) = none
  | [], b, _, h => by cases h
  | i :: is, b, hb, h => by
    show (stp i (f d) (f a) (ren f b)).bind (runD is (f d) (f a)) = _
    cases hs : stp i d a b with
    | none => rw [ren_stp0 hf hd ha hb hs]; rfl
    | some c =>
      rw [ren_stp hs]
      have h : (stp i d a b).bind (runD is d a) = none := h
      rw [hs] at h
      exact ren_run0 hf hd ha (stp_all (P := fun x => x ∈ S) hs hd ha hb).1 h
def img (ns is : List Str) (x : Str) : Str := (is[at_ ns x]?).getD x
theorem img_at {ns is : List Str} {x : Str} (hx : x ∈ ns) (hl : is.length = ns.length) : L2.atI (sm is) (at_ ns x : Nat) = some (.str (img ns is x)) ∧ img ns is x ∈ is := by
  have h1 := (idx_sm hx).2
  have h2 : at_ ns x < is.length := by rw [hl]; exact (List.getElem?_eq_some_iff.mp h1).1
  have e : img ns is x = is[at_ ns x] := by unfold img; rw [List.getElem?_eq_getElem h2]; rfl
  rw [Ev.atI, e]
  refine ⟨?_, List.getElem_mem h2⟩
  unfold sm
  rw [List.getElem?_map, List.getElem?_eq_getElem h2]; rfl
theorem img_inj {ns is : List Str} (hl : is.length = ns.length) (hn : is.Nodup) : ∀ x ∈ ns, ∀ y ∈ ns, img ns is x = img ns is y → x = y := by
  intro x hx y hy e
  have h1 := (idx_sm hx).2
  have h2 := (idx_sm hy).2
  have k1 : at_ ns x < is.length := by rw [hl]; exact (List.getElem?_eq_some_iff.mp h1).1
  have k2 : at_ ns y < is.length := by rw [hl]; exact (List.getElem?_eq_some_iff.mp h2).1
  have e1 : img ns is x = is[at_ ns x] := by unfold img; rw [List.getElem?_eq_getElem k1]; rfl
  have e2 : img ns is y = is[at_ ns y] := by unfold img; rw [List.getElem?_eq_getElem k2]; rfl
  rw [e1, e2] at e
  have pw := List.pairwise_iff_getElem.mp hn
  have this : at_ ns x = at_ ns y := by
    rcases Nat.lt_trichotomy (at_ ns x) (at_ ns y) with h | h | h
    · exact absurd e (pw _ _ k1 k2 h)
    · exact h
    · exact absurd e.symm (pw _ _ k2 k1 h)
  rw [this, h2] at h1
  exact (Option.some.inj h1).symm
theorem renamed_ok {ns is : List Str} {b : Box} (hl : is.length = ns.length) (hb : ∀ p ∈ b, p.2 ∈ ns) (h1 : b.length ≤ 1000) :
    _law_renamed_F [.tup (bx b), .lst (sm ns), .lst (sm is)] = .ok (.tup (bx (ren (img ns is) b))) none := by
  have hc := cmp_map (vs := [3, 4]) (b := bSeq 2 (bCons (bName 3) (bCons (bName 4) bNil))) (elt := _law_renamed_x1) (g := fun d => match d with | .tup [.str k, .str o] => .tup [.str k, .str (img ns is o)] | _ => .non)
    (Γ := [.im (.tup (bx b)), .im (.lst (sm ns)), .im (.lst (sm is)), .no, .no]) rfl (ds := bx b) (by rw [bx_length]; omega) fun d hd => by
      obtain ⟨⟨k, o⟩, hp, rfl⟩ := List.mem_map.mp hd
      have ho : o ∈ ns := hb (k, o) hp
      have e1 := (idx_sm ho).1
      have e2 := (img_at (is := is) ho hl).1
      refine ⟨[.im (.tup (bx b)), .im (.lst (sm ns)), .im (.lst (sm is)), .im (.str (kd k)), .im (.str o)], ?_, ?_, rfl⟩
      · simp -implicitDefEqProofs only [lay, Ev.all, Ev.all2, and_self, and_true, true_and, List.getElem?_cons_zero, List.getElem?_cons_succ, List.set_cons_zero, List.set_cons_succ, List.length_cons, List.length_nil, Option.map_some, Option.bind_some, Option.map_none, Option.bind_none, List.map_cons, List.map_nil, List.cons_append, List.nil_append, List.append_nil, Nat.reduceAdd, Nat.reduceSub, Nat.zero_add, List.replicate_succ, List.replicate_zero, if_true, if_false, reduceIte, Nat.reduceLeDiff, Nat.reduceEqDiff, Bool.not_true, Bool.not_false, decide_true, decide_false, Int.reduceLT, Int.reduceLE, Bool.false_eq_true, Bool.true_eq_false, reduceCtorEq, Bool.or_false, Bool.or_true, Bool.true_or, Bool.false_or]
      · simp -implicitDefEqProofs only [lay, _law_renamed_x1, Ev.all, Ev.all2, and_self, and_true, true_and, List.getElem?_cons_zero, List.getElem?_cons_succ, List.set_cons_zero, List.set_cons_succ, List.length_cons, List.length_nil, Option.map_some, Option.bind_some, Option.map_none, Option.bind_none, List.map_cons, List.map_nil, List.cons_append, List.nil_append, List.append_nil, Nat.reduceAdd, Nat.reduceSub, Nat.zero_add, List.replicate_succ, List.replicate_zero, if_true, if_false, reduceIte, Nat.reduceLeDiff, Nat.reduceEqDiff, Bool.not_true, Bool.not_false, decide_true, decide_false, Int.reduceLT, Int.reduceLE, Bool.false_eq_true, Bool.true_eq_false, reduceCtorEq, Bool.or_false, Bool.or_true, Bool.true_or, Bool.false_or, e1, e2]
  have hm : (bx b).map (fun d => match d with | .tup [.str k, .str o] => D.tup [.str k, .str (img ns is o)] | _ => .non) = bx (ren (img ns is) b) := by
    unfold bx ren
    rw [List.map_map, List.map_map]
    rfl
  rw [hm] at hc
  have comp : compV [3, 4] (anyI (vE 0)) (bSeq 2 (bCons (bName 3) (bCons (bName 4) bNil))) trueT _law_renamed_x1 [.im (.tup (bx b)), .im (.lst (sm ns)), .im (.lst (sm is)), .no, .no] = _ := comp_at rfl rfl hc
  unfold _law_renamed_F _law_renamed_b
  simp -implicitDefEqProofs only [Ev.all, Ev.all2, and_self, and_true, true_and, List.getElem?_cons_zero, List.getElem?_cons_succ, List.set_cons_zero, List.set_cons_succ, List.length_cons, List.length_nil, Option.map_some, Option.bind_some, Option.map_none, Option.bind_none, List.map_cons, List.map_nil, List.cons_append, List.nil_append, List.append_nil, Nat.reduceAdd, Nat.reduceSub, Nat.zero_add, List.replicate_succ, List.replicate_zero, if_true, if_false, reduceIte, Nat.reduceLeDiff, Nat.reduceEqDiff, Bool.not_true, Bool.not_false, decide_true, decide_false, Int.reduceLT, Int.reduceLE, Bool.false_eq_true, Bool.true_eq_false, reduceCtorEq, Bool.or_false, Bool.or_true, Bool.true_or, Bool.false_or, comp]
theorem ren_names {ns is : List Str} {b : Box} (hl : is.length = ns.length) (hi : ∀ x ∈ is, IsName x) (hb : ∀ p ∈ b, p.2 ∈ ns) : ∀ p ∈ ren (img ns is) b, IsName p.2 := fun p hp => by
  obtain ⟨q, hq, rfl⟩ := List.mem_map.mp hp
  exact hi _ (img_at (is := is) (hb q hq) hl).2
theorem ren_len {f : Str → Str} {b : Box} : (ren f b).length = b.length := List.length_map ..
end PL

/-! plain law PL20 -/
set_option Elab.async false
set_option linter.all false
set_option maxRecDepth 100000
set_option maxHeartbeats 4000000
namespace PL
open PySem PySem.Spec PyProof.Rows L2 FL PF
theorem set_set_same {α : Type} (xs : List α) (i : Nat) (a b : α) : (xs.set i a).set i b = xs.set i b := List.set_set ..
theorem set_self {α : Type} {xs : List α} {i : Nat} {a : α} (h : xs[i]? = some a) : xs.set i a = xs := by
  refine List.ext_getElem? fun k => ?_
  by_cases e : i = k
  · subst e
    rw [List.getElem?_set_self (List.getElem?_eq_some_iff.mp h).1, h]
  · rw [List.getElem?_set_ne e]
/-- a comprehension that draws -/
theorem comp_pool {vi j : Nat} (hv : vi = j + 1) {rest : En} {s : Sl} (hj : rest[j]? = some s) (hsb : s.isB = false) {elt : EF} {R : D → D → Prop} {ds : List D} (hl : ds.length ≤ 1000000)
    (hs : ∀ d ∈ ds, ∀ p, Pool p → ∃ (x : D) (p' : List D), elt (.bor (.l p) :: rest.set j (.im d)) = .ok (.d x) (.bor (.l p') :: rest.set j (.im d)) ∧ R d x ∧ Pool p') {p : List D} (P : Pool p) :
    ∃ (xs : List D) (p' : List D) (s' : Sl), cmpL [vi] (bName vi) trueT elt ds [] (.bor (.l p) :: rest) = .ok (.n (.l xs)) (.bor (.l p') :: rest.set j s') ∧ s'.isB = false ∧ Paired R ds xs ∧ Pool p' := by
  subst hv
  have hjl : j < rest.length := (List.getElem?_eq_some_iff.mp hj).1
  obtain ⟨xs, Γ', k1, k2, p', s', P', h', rfl⟩ := cmp_inv (vs := [j + 1]) (b := bName (j + 1)) (tt := trueT) (elt := elt) (I := fun Γ => ∃ (p : List D) (s : Sl), Pool p ∧ s.isB = false ∧ Γ = .bor (.l p) :: rest.set j s) (R := R) ds [] (.bor (.l p) :: rest)
    ⟨p, s, P, hsb, by rw [set_self hj]⟩ (by rw [List.length_nil]; omega) fun d hd Γ ⟨p, s, P, hb, e⟩ => by
      subst e
      obtain ⟨x, p', e1, r, P'⟩ := hs d hd p P
      refine ⟨.bor (.l p) :: rest.set j (.im d), .bor (.l p) :: rest.set j (.im d), .d x, .bor (.l p') :: rest.set j (.im d), x, .bor (.l p') :: rest.set j (.im d), ?_, rfl, e1, rfl, r, p', .no, P', rfl, ?_⟩
      · show bName (j + 1) d (.bor (.l p) :: (rest.set j s).set j .no) = _
        rw [set_set_same]
        show (if isBor (.bor (.l p) :: rest.set j .no) (j + 1) = false then some (Sl.bor (.l p) :: (rest.set j .no).set j (.im d)) else none) = _
        rw [Ev.isBs, if_pos (by unfold isBor; rw [List.getElem?_set_self hjl]), set_set_same]
      · show Sl.bor (.l p') :: (rest.set j (.im d)).set j .no = _
        rw [set_set_same]
  exact ⟨xs, p', s', by rw [k1, List.nil_append], h', k2, P'⟩
theorem paired_sm {Q : Str → Prop} : ∀ {ds xs : List D}, Paired (fun _ x => ∃ n, Q n ∧ x = .str n) ds xs → ∃ ns : List Str, xs = sm ns ∧ (∀ n ∈ ns, Q n) ∧ ns.length = ds.length
  | _, _, .nil => ⟨[], rfl, (fun _ h => nomatch h), rfl⟩
  | _, _, .cons ⟨n, hn, e⟩ t => by
    obtain ⟨ns, rfl, h, hl⟩ := paired_sm t
    subst e
    exact ⟨n :: ns, rfl, fun m hm => by
      rcases List.mem_cons.mp hm with rfl | hm
      · exact hn
      · exact h m hm, by rw [List.length_cons, List.length_cons, hl]⟩
theorem sm_length (ns : List Str) : (sm ns).length = ns.length := List.length_map ..
theorem sm_append (a b : List Str) : sm a ++ sm b = sm (a ++ b) := (List.map_append ..).symm
theorem sm_take (a : List Str) (k : Nat) : (sm a).take k = sm (a.take k) := (List.map_take ..).symm
theorem sm_drop (a : List Str) (k : Nat) : (sm a).drop k = sm (a.drop k) := (List.map_drop ..).symm
theorem at_sm {ys : List Str} {r : Int} (h1 : 0 ≤ r) (h2 : r < ys.length) : ∃ y, y ∈ ys ∧ L2.atI (sm ys) r = some (.str y) := at_str h1 h2
theorem cut_take1 {α : Type} (xs : List α) : cutL xs none (some 1) = xs.take 1 := cut_take xs 1
theorem cut_drop1 {α : Type} (xs : List α) : cutL xs (some 1) none = xs.drop 1 := cut_drop xs 1
theorem rep_sm (x : Str) : ∀ n : Nat, (List.replicate n [D.str x]).flatten = sm (List.replicate n x)
  | 0 => rfl
  | n + 1 => by rw [List.replicate_succ, List.flatten_cons, rep_sm x n, List.replicate_succ]; rfl
theorem zed_name : IsName (Str.ofString "zed") := by decide +kernel
/-- one way to exchange the names -/
theorem images_round {p0 : Sl} {d : D} {ns is : List Str} {dn an : Str} {b : Box} {js : List (Fin 8)} {x1 x2 x3 : D} {s12 s13 s14 s15 s16 : Sl} (hn : ns.Nodup) (hl : is.length = ns.length) (hns : ∀ x ∈ ns, IsName x) (hlen : ns.length ≤ 4) (hi : ∀ x ∈ is, IsName x) (hd : dn ∈ ns) (ha : an ∈ ns) (hb : ∀ p ∈ b, p.2 ∈ ns) (hb8 : b.length ≤ 8) (hj0 : js ≠ []) (hj6 : js.length ≤ 6)
    (h12 : s12.isB = false) (h13 : s13.isB = false) (h14 : s14.isB = false) :
    _law_right_4_x1 [p0, .im d, .im (.lst (sm ns)), .im (.str dn), .im (.str an), .im (.tup (bx b)), .im (.str (rowT js)), x1 |> Sl.im, x2 |> Sl.im, x3 |> Sl.im, .im (rs (runD js dn an b)), .im (.lst (sm is)), s12, s13, s14, s15, s16] =
      .ok .nx [p0, .im d, .im (.lst (sm ns)), .im (.str dn), .im (.str an), .im (.tup (bx b)), .im (.str (rowT js)), x1 |> Sl.im, x2 |> Sl.im, x3 |> Sl.im, .im (rs (runD js dn an b)), .im (.lst (sm is)), .im (.str (img ns is dn)), .im (.str (img ns is an)), .im (rs (runD js (img ns is dn) (img ns is an) (ren (img ns is) b))), s15, s16] := by
  have i1 := (idx_sm hd).1
  have i2 := (idx_sm ha).1
  obtain ⟨j1, k1⟩ := img_at (is := is) hd hl
  obtain ⟨j2, k2⟩ := img_at (is := is) ha hl
  have r1 := renamed_ok (is := is) hl hb (by omega)
  have hbb : IsBox (ren (img ns is) b) := ⟨by rw [ren_len]; omega, ren_names hl hi hb⟩
  have f := behind_ev hj0 hj6 (hi _ k1) (hi _ k2) hbb
  cases hr : runD js dn an b with
  | none =>
    have u1 := unlike_ok (ns := is) (by omega)
    by_cases hq : (uq [] is).length = ns.length
    · have hnd : is.Nodup := by simpa using uq_full (acc := []) (xs := is) List.nodup_nil (by rw [hq, hl]; simp)
      have hz := ren_run0 (S := ns) (f := img ns is) (img_inj hl hnd) hd ha hb hr
      rw [hz] at f ⊢
      have hqi : eqD (.int ((uq [] is).length : Int)) (.int (ns.length : Int)) = some (.bl true) := by rw [hq]; show some (D.bl (_ == _)) = _; rw [beq_self_eq_true]
      simp -implicitDefEqProofs only [_law_right_4_x1, Ev.all, Ev.all2, and_self, and_true, true_and, List.getElem?_cons_zero, List.getElem?_cons_succ, List.set_cons_zero, List.set_cons_succ, List.length_cons, List.length_nil, Option.map_some, Option.bind_some, Option.map_none, Option.bind_none, List.map_cons, List.map_nil, List.cons_append, List.nil_append, List.append_nil, Nat.reduceAdd, Nat.reduceSub, Nat.zero_add, List.replicate_succ, List.replicate_zero, if_true, if_false, reduceIte, Nat.reduceLeDiff, Nat.reduceEqDiff, Bool.not_true, Bool.not_false, decide_true, decide_false, Int.reduceLT, Int.reduceLE, Bool.false_eq_true, Bool.true_eq_false, reduceCtorEq, Bool.or_false, Bool.or_true, Bool.true_or, Bool.false_or, i1, i2, j1, j2, r1, f, rs_none, u1, OD.d, sm_length, hqi, h12, h13, h14]
    · have hqi : eqD (.int ((uq [] is).length : Int)) (.int (ns.length : Int)) = some (.bl false) := by
        show some (D.bl (_ == _)) = _
        rw [beq_eq_false_iff_ne.mpr (by omega)]
      simp -implicitDefEqProofs only [_law_right_4_x1, Ev.all, Ev.all2, and_self, and_true, true_and, List.getElem?_cons_zero, List.getElem?_cons_succ, List.set_cons_zero, List.set_cons_succ, List.length_cons, List.length_nil, Option.map_some, Option.bind_some, Option.map_none, Option.bind_none, List.map_cons, List.map_nil, List.cons_append, List.nil_append, List.append_nil, Nat.reduceAdd, Nat.reduceSub, Nat.zero_add, List.replicate_succ, List.replicate_zero, if_true, if_false, reduceIte, Nat.reduceLeDiff, Nat.reduceEqDiff, Bool.not_true, Bool.not_false, decide_true, decide_false, Int.reduceLT, Int.reduceLE, Bool.false_eq_true, Bool.true_eq_false, reduceCtorEq, Bool.or_false, Bool.or_true, Bool.true_or, Bool.false_or, i1, i2, j1, j2, r1, f, rs_none, u1, OD.d, sm_length, hqi, h12, h13, h14]
  | some c =>
    have hz := ren_run (f := img ns is) hr
    obtain ⟨hc1, hc2⟩ := runD_all (P := fun x => x ∈ ns) hd ha hr hb
    have r2 := renamed_ok (is := is) hl hc1 (by omega)
    rw [hz] at f ⊢
    obtain ⟨z, hzz⟩ := shows_run (is := js) (me := img ns is dn) (you := img ns is an) (b := ren (img ns is) b) (hi _ k1) (hi _ k2) hbb.2 (by rw [ren_len]; omega)
    rw [hz] at hzz
    simp only [rs_some] at hzz f
    simp -implicitDefEqProofs only [_law_right_4_x1, Ev.all, Ev.all2, and_self, and_true, true_and, List.getElem?_cons_zero, List.getElem?_cons_succ, List.set_cons_zero, List.set_cons_succ, List.length_cons, List.length_nil, Option.map_some, Option.bind_some, Option.map_none, Option.bind_none, List.map_cons, List.map_nil, List.cons_append, List.nil_append, List.append_nil, Nat.reduceAdd, Nat.reduceSub, Nat.zero_add, List.replicate_succ, List.replicate_zero, if_true, if_false, reduceIte, Nat.reduceLeDiff, Nat.reduceEqDiff, Bool.not_true, Bool.not_false, decide_true, decide_false, Int.reduceLT, Int.reduceLE, Bool.false_eq_true, Bool.true_eq_false, reduceCtorEq, Bool.or_false, Bool.or_true, Bool.true_or, Bool.false_or, i1, i2, j1, j2, r1, r2, f, rs_some, hzz, eq_self, h12, h13, h14]
end PL

/-! plain law PL22 -/
set_option Elab.async false
set_option linter.all false
set_option maxRecDepth 100000
set_option maxHeartbeats 4000000
namespace PL
open PySem PySem.Spec PyProof.Rows L2 FL PF
theorem strOk_app {x y : Str} (hx : PyData.strOk x = true) (hy : PyData.strOk y = true) : PyData.strOk (x ++ y) = true := by
  show (x.cps ++ y.cps).all (· < 0x110000) = true
  rw [Array.all_append]
  exact Bool.and_eq_true_iff.mpr ⟨hx, hy⟩
theorem strOk_join {sep : Str} (hs : PyData.strOk sep = true) : ∀ {ts : List Str}, (∀ t ∈ ts, PyData.strOk t = true) → PyData.strOk (Str.join sep ts) = true
  | [], _ => by show PyData.strOk (Str.ofString "") = true; decide +kernel
  | [x], h => h x List.mem_cons_self
  | x :: y :: r, h => strOk_app (strOk_app (h x List.mem_cons_self) hs) (strOk_join hs fun t ht => h t (List.mem_cons_of_mem _ ht))
theorem row_strOk (is : List (Fin 8)) : PyData.strOk (rowT is) = true := by
  unfold rowT
  rw [TL.join_eq]
  exact strOk_join (by decide +kernel) fun t ht => by
    obtain ⟨i, _, rfl⟩ := List.mem_map.mp ht
    exact (dT_ok i).1
theorem join_ev {sep : Str} {ts : List Str} {n : Nat} (h : ∀ t ∈ ts, t.length ≤ n) (hl : ts.length * (n + sep.length) ≤ 1000000) : joinD (.str sep) (.lst (sm ts)) = some (.str (Str.join sep ts)) := by
  show (texts _).bind _ = _
  unfold sm
  rw [texts_map]
  have hsum : (ts.map (·.length)).sum ≤ ts.length * n := by
    clear hl
    induction ts with
    | nil => simp
    | cons t ts ih =>
      have h1 := h t List.mem_cons_self
      have h2 := ih fun t ht => h t (List.mem_cons_of_mem _ ht)
      simp only [List.map_cons, List.sum_cons, List.length_cons, Nat.succ_mul]
      omega
  rw [Nat.mul_add] at hl
  show (if _ then some (D.str (Txt.join sep ts)) else none) = _
  rw [if_pos, TL.join_eq]
  omega
def rows (js : List (List (Fin 8))) : List D := js.map fun j => D.str (rowT j)
def AnsOk (js : List (List (Fin 8))) : Prop := js.length ≤ 4 ∧ ∀ j ∈ js, j ≠ [] ∧ j.length ≤ 6
theorem rows_len (js : List (List (Fin 8))) : (rows js).length = js.length := List.length_map ..
theorem rows_sm (js : List (List (Fin 8))) : rows js = sm (js.map rowT) := by unfold rows sm; rw [List.map_map]; rfl
def bookN : List Str := ["first_row", "answer_rows", "first_box", "deeds"]
def bookV (is : List (Fin 8)) (b : Box) (js : List (List (Fin 8))) : List D := [.str (rowT is), .tup (rows js), .tup (bx b), .lst (js.map fun j => .lst (j.map ddT))]
def bookD (is : List (Fin 8)) (b : Box) (js : List (List (Fin 8))) : D := .ins "Book" bookN (bookV is b js)
theorem fl1 {a b c d : D} : fldOf "first_row" bookN [a, b, c, d] = some a := by kernel_rfl
theorem fl2 {a b c d : D} : fldOf "answer_rows" bookN [a, b, c, d] = some b := by kernel_rfl
theorem fl3 {a b c d : D} : fldOf "first_box" bookN [a, b, c, d] = some c := by kernel_rfl
theorem fl4 {a b c d : D} : fldOf "deeds" bookN [a, b, c, d] = some d := by kernel_rfl
theorem row_len6 {j : List (Fin 8)} (h : j.length ≤ 6) : (rowT j).length ≤ 66 := by have := row_len j; omega
theorem box_begun_ev {is : List (Fin 8)} (h : is ≠ []) (h6 : is.length ≤ 6) : box_begun_F [.str (rowT is)] = .ok (rs (runD is "ann" "bob" [])) none := by
  have e1 := is_row_ev h (by omega : is.length ≤ 1000)
  have e2 := deeds_of_ev h (by omega : is.length ≤ 1000)
  have e3 : done_F [.lst (is.map ddT), .str "ann", .str "bob", .tup []] = _ := done_ev "ann" "bob" (by decide +kernel) (by decide +kernel) is [] (by simp; omega) (fun _ h => by cases h)
  rw [decide_eq_true h6] at e1
  unfold box_begun_F box_begun_b
  simp -implicitDefEqProofs only [Ev.all, Ev.all2, Ev.all3, and_self, and_true, true_and, List.getElem?_cons_zero, List.getElem?_cons_succ, List.set_cons_zero, List.set_cons_succ, List.length_cons, List.length_nil, Option.map_some, Option.bind_some, Option.map_none, Option.bind_none, List.map_cons, List.map_nil, List.cons_append, List.nil_append, List.append_nil, Nat.reduceAdd, Nat.reduceSub, Nat.zero_add, List.replicate_succ, List.replicate_zero, if_true, if_false, reduceIte, Nat.reduceLeDiff, Nat.reduceEqDiff, Bool.not_true, Bool.not_false, decide_true, decide_false, Int.reduceLT, Int.reduceLE, Bool.false_eq_true, Bool.true_eq_false, reduceCtorEq, Bool.or_false, Bool.or_true, Bool.true_or, Bool.false_or, e1, e2, e3, c_WRITER, c_READER, c_LETTER]
theorem ca_loop {t : D} : ∀ (js : List (List (Fin 8))) (k : Nat) (s1 s2 : Sl), k + js.length ≤ 4 → (∀ j ∈ js, j ≠ [] ∧ j.length ≤ 6) → s1.isB = false → s2.isB = false →
    ∃ s1' s2', loopS (bSeq 2 (bCons (bName 1) (bCons (bName 2) bNil))) check_answers_x1 (enumD k (rows js)) [.im t, s1, s2] = .ok .nx [.im t, s1', s2']
  | [], k, s1, s2, _, _, _, _ => ⟨s1, s2, rfl⟩
  | j :: js, k, s1, s2, hk, hj, h1, h2 => by
    rw [List.length_cons] at hk
    obtain ⟨j0, j6⟩ := hj j List.mem_cons_self
    have e1 := is_row_ev j0 (by omega : j.length ≤ 1000)
    rw [decide_eq_true j6] at e1
    have e2 : eqD (.int (k : Int)) (.int 4) = some (.bl false) := by rw [Ev.eqI, decide_eq_false (by omega)]
    obtain ⟨s1', s2', ih⟩ := ca_loop (t := t) js (k + 1) (.im (.int (k : Nat))) (.im (.str (rowT j))) (by omega) (fun x hx => hj x (List.mem_cons_of_mem _ hx)) rfl rfl
    refine ⟨s1', s2', Eq.trans (loop_cons (Γ1 := [.im t, .im (.int (k : Nat)), .im (.str (rowT j))]) (Γ2 := [.im t, .im (.int (k : Nat)), .im (.str (rowT j))]) ?_ ?_) ih⟩
    · simp -implicitDefEqProofs only [Ev.all, Ev.all2, Ev.all3, and_self, and_true, true_and, List.getElem?_cons_zero, List.getElem?_cons_succ, List.set_cons_zero, List.set_cons_succ, List.length_cons, List.length_nil, Option.map_some, Option.bind_some, Option.map_none, Option.bind_none, List.map_cons, List.map_nil, List.cons_append, List.nil_append, List.append_nil, Nat.reduceAdd, Nat.reduceSub, Nat.zero_add, List.replicate_succ, List.replicate_zero, if_true, if_false, reduceIte, Nat.reduceLeDiff, Nat.reduceEqDiff, Bool.not_true, Bool.not_false, decide_true, decide_false, Int.reduceLT, Int.reduceLE, Bool.false_eq_true, Bool.true_eq_false, reduceCtorEq, Bool.or_false, Bool.or_true, Bool.true_or, Bool.false_or, h1, h2]
    · simp -implicitDefEqProofs only [check_answers_x1, Ev.all, Ev.all2, Ev.all3, and_self, and_true, true_and, List.getElem?_cons_zero, List.getElem?_cons_succ, List.set_cons_zero, List.set_cons_succ, List.length_cons, List.length_nil, Option.map_some, Option.bind_some, Option.map_none, Option.bind_none, List.map_cons, List.map_nil, List.cons_append, List.nil_append, List.append_nil, Nat.reduceAdd, Nat.reduceSub, Nat.zero_add, List.replicate_succ, List.replicate_zero, if_true, if_false, reduceIte, Nat.reduceLeDiff, Nat.reduceEqDiff, Bool.not_true, Bool.not_false, decide_true, decide_false, Int.reduceLT, Int.reduceLE, Bool.false_eq_true, Bool.true_eq_false, reduceCtorEq, Bool.or_false, Bool.or_true, Bool.true_or, Bool.false_or, e1, e2, c_MOST_ANSWERS]
theorem check_answers_ev {js : List (List (Fin 8))} (h : AnsOk js) : check_answers_F [.tup (rows js)] = .ok .non none := by
  obtain ⟨s1, s2, l⟩ := ca_loop (t := .tup (rows js)) js 0 .no .no (by have := h.1; omega) h.2 rfl rfl
  have hf := for_at (it := enumI (vE 0)) (Γ := [.im (.tup (rows js)), .no, .no]) (by simp -implicitDefEqProofs only [Ev.all, Ev.all2, Ev.all3, and_self, and_true, true_and, List.getElem?_cons_zero, List.getElem?_cons_succ, List.set_cons_zero, List.set_cons_succ, List.length_cons, List.length_nil, Option.map_some, Option.bind_some, Option.map_none, Option.bind_none, List.map_cons, List.map_nil, List.cons_append, List.nil_append, List.append_nil, Nat.reduceAdd, Nat.reduceSub, Nat.zero_add, List.replicate_succ, List.replicate_zero, if_true, if_false, reduceIte, Nat.reduceLeDiff, Nat.reduceEqDiff, Bool.not_true, Bool.not_false, decide_true, decide_false, Int.reduceLT, Int.reduceLE, Bool.false_eq_true, Bool.true_eq_false, reduceCtorEq, Bool.or_false, Bool.or_true, Bool.true_or, Bool.false_or]) l
  have hi : isB "tuple" (.tup (rows js)) = some true := rfl
  unfold check_answers_F check_answers_b
  simp -implicitDefEqProofs only [Ev.all, Ev.all2, Ev.all3, and_self, and_true, true_and, List.getElem?_cons_zero, List.getElem?_cons_succ, List.set_cons_zero, List.set_cons_succ, List.length_cons, List.length_nil, Option.map_some, Option.bind_some, Option.map_none, Option.bind_none, List.map_cons, List.map_nil, List.cons_append, List.nil_append, List.append_nil, Nat.reduceAdd, Nat.reduceSub, Nat.zero_add, List.replicate_succ, List.replicate_zero, if_true, if_false, reduceIte, Nat.reduceLeDiff, Nat.reduceEqDiff, Bool.not_true, Bool.not_false, decide_true, decide_false, Int.reduceLT, Int.reduceLE, Bool.false_eq_true, Bool.true_eq_false, reduceCtorEq, Bool.or_false, Bool.or_true, Bool.true_or, Bool.false_or, hf, hi]
end PL

/-! plain law PL23 -/
set_option Elab.async false
set_option linter.all false
set_option maxRecDepth 100000
set_option maxHeartbeats 4000000
namespace PL
open PySem PySem.Spec PyProof.Rows L2 FL PF
theorem cmp_gen {α : Type} {vs : List Nat} {b : BF} {tt : TF} {elt : EF} {a c : α → D} {P : α → Bool} {Γ : En} (hw : wipeΓ Γ vs = Γ) : ∀ (xs : List α) (acc : List D), acc.length + xs.length ≤ 16777216 →
    (∀ x ∈ xs, ∃ Γ1, b (a x) Γ = some Γ1 ∧ tt Γ1 = .ok (P x) Γ1 ∧ elt Γ1 = .ok (.d (c x)) Γ1 ∧ wipeΓ Γ1 vs = Γ) → cmpL vs b tt elt (xs.map a) acc Γ = .ok (.n (.l (acc ++ (xs.filter P).map c))) Γ
  | [], acc, _, _ => by simp [cmpL]
  | d :: ds, acc, hl, hs => by
    obtain ⟨Γ1, e1, e2, e3, e4⟩ := hs d List.mem_cons_self
    rw [List.length_cons] at hl
    rw [List.map_cons]
    have hz : acc.length < sizeLine := by show _ < 2 ^ 24; omega
    cases hp : P d with
    | false =>
      rw [hp] at e2
      have ih := cmp_gen (a := a) (c := c) (P := P) (elt := elt) (tt := tt) (b := b) hw ds acc (by omega) fun d hd => hs d (List.mem_cons_of_mem _ hd)
      rw [List.filter_cons_of_neg (by rw [hp]; decide), ← ih]
      simp only [cmpL, hw, e1, e2, e4]
    | true =>
      rw [hp] at e2
      have ih := cmp_gen (a := a) (c := c) (P := P) (elt := elt) (tt := tt) (b := b) hw ds (acc ++ [c d]) (by rw [List.length_append, List.length_singleton]; omega) fun d hd => hs d (List.mem_cons_of_mem _ hd)
      rw [List.filter_cons_of_pos hp, List.map_cons, List.append_cons, ← ih]
      simp only [cmpL, hw, e1, e2, e3, e4, Ev.frzd, if_pos hz]
theorem cmp_maps {α : Type} {vs : List Nat} {b : BF} {elt : EF} {a c : α → D} {Γ : En} (hw : wipeΓ Γ vs = Γ) {xs : List α} (hl : xs.length ≤ 16777216)
    (hs : ∀ x ∈ xs, ∃ Γ1, b (a x) Γ = some Γ1 ∧ elt Γ1 = .ok (.d (c x)) Γ1 ∧ wipeΓ Γ1 vs = Γ) : cmpL vs b trueT elt (xs.map a) [] Γ = .ok (.n (.l (xs.map c))) Γ := by
  have := cmp_gen (tt := trueT) (P := fun _ : α => true) (a := a) (c := c) (elt := elt) (b := b) hw xs [] (by simpa using hl) fun x hx => by
    obtain ⟨Γ1, e1, e2, e3⟩ := hs x hx
    exact ⟨Γ1, e1, rfl, e2, e3⟩
  rw [this, List.nil_append, List.filter_eq_self.mpr (fun _ _ => rfl)]
theorem pf1 {a : D} : putFD "first_row" a [] [] = ((["first_row"], [a]) : List Str × List D) := rfl
theorem pf2 {a b : D} : putFD "answer_rows" b ["first_row"] [a] = ((["first_row", "answer_rows"], [a, b]) : List Str × List D) := by kernel_rfl
theorem pf3 {a b c : D} : putFD "first_box" c ["first_row", "answer_rows"] [a, b] = ((["first_row", "answer_rows", "first_box"], [a, b, c]) : List Str × List D) := by kernel_rfl
theorem pf4 {a b c d : D} : putFD "deeds" d ["first_row", "answer_rows", "first_box"] [a, b, c] = (bookN, [a, b, c, d]) := by kernel_rfl
theorem nsl : ∀ k : Nat, k ≤ 999 → (k < 1000) = True := fun k h => eq_true (by omega)
theorem init_ev {is : List (Fin 8)} (h : is ≠ []) (h6 : is.length ≤ 6) {b : Box} (hb : runD is "ann" "bob" [] = some b) {js : List (List (Fin 8))} (hj : AnsOk js) :
    Book___init___F [.ins "Book" [] [], .str (rowT is), .tup (rows js)] = .ok .non (some (.i "Book" bookN (bookV is b js))) := by
  have e1 := box_begun_ev h h6
  rw [hb, rs_some] at e1
  have e2 := check_answers_ev hj
  have e3 : isND (.tup (bx b)) .non = some (.bl false) := rfl
  have hc := cmp_maps (vs := [4]) (b := bName 4) (elt := Book___init___x1) (a := fun j => D.str (rowT j)) (c := fun j => D.lst (j.map ddT)) (xs := js)
    (Γ := [.bor (.i "Book" ["first_row", "answer_rows", "first_box"] [.str (rowT is), .tup (rows js), .tup (bx b)]), .im (.str (rowT is)), .im (.tup (rows js)), .im (.tup (bx b)), .no]) rfl (by have := hj.1; omega) fun j m => by
      obtain ⟨j0, j6⟩ := hj.2 j m
      have e := deeds_of_ev j0 (by omega : j.length ≤ 1000)
      refine ⟨[.bor (.i "Book" ["first_row", "answer_rows", "first_box"] [.str (rowT is), .tup (rows js), .tup (bx b)]), .im (.str (rowT is)), .im (.tup (rows js)), .im (.tup (bx b)), .im (.str (rowT j))], by simp -implicitDefEqProofs only [Ev.all, Ev.all2, Ev.all3, and_self, and_true, true_and, List.getElem?_cons_zero, List.getElem?_cons_succ, List.set_cons_zero, List.set_cons_succ, List.length_cons, List.length_nil, Option.map_some, Option.bind_some, Option.map_none, Option.bind_none, List.map_cons, List.map_nil, List.cons_append, List.nil_append, List.append_nil, Nat.reduceAdd, Nat.reduceSub, Nat.zero_add, List.replicate_succ, List.replicate_zero, if_true, if_false, reduceIte, Nat.reduceLeDiff, Nat.reduceEqDiff, Bool.not_true, Bool.not_false, decide_true, decide_false, Int.reduceLT, Int.reduceLE, Bool.false_eq_true, Bool.true_eq_false, reduceCtorEq, Bool.or_false, Bool.or_true, Bool.true_or, Bool.false_or], ?_, rfl⟩
      simp -implicitDefEqProofs only [Book___init___x1, Ev.all, Ev.all2, Ev.all3, and_self, and_true, true_and, List.getElem?_cons_zero, List.getElem?_cons_succ, List.set_cons_zero, List.set_cons_succ, List.length_cons, List.length_nil, Option.map_some, Option.bind_some, Option.map_none, Option.bind_none, List.map_cons, List.map_nil, List.cons_append, List.nil_append, List.append_nil, Nat.reduceAdd, Nat.reduceSub, Nat.zero_add, List.replicate_succ, List.replicate_zero, if_true, if_false, reduceIte, Nat.reduceLeDiff, Nat.reduceEqDiff, Bool.not_true, Bool.not_false, decide_true, decide_false, Int.reduceLT, Int.reduceLE, Bool.false_eq_true, Bool.true_eq_false, reduceCtorEq, Bool.or_false, Bool.or_true, Bool.true_or, Bool.false_or, e]
  have hd : compV [4] (anyI (vE 2)) (bName 4) trueT Book___init___x1 [.bor (.i "Book" ["first_row", "answer_rows", "first_box"] [.str (rowT is), .tup (rows js), .tup (bx b)]), .im (.str (rowT is)), .im (.tup (rows js)), .im (.tup (bx b)), .no] = _ := comp_at (by simp -implicitDefEqProofs only [Ev.all, Ev.all2, Ev.all3, and_self, and_true, true_and, List.getElem?_cons_zero, List.getElem?_cons_succ, List.set_cons_zero, List.set_cons_succ, List.length_cons, List.length_nil, Option.map_some, Option.bind_some, Option.map_none, Option.bind_none, List.map_cons, List.map_nil, List.cons_append, List.nil_append, List.append_nil, Nat.reduceAdd, Nat.reduceSub, Nat.zero_add, List.replicate_succ, List.replicate_zero, if_true, if_false, reduceIte, Nat.reduceLeDiff, Nat.reduceEqDiff, Bool.not_true, Bool.not_false, decide_true, decide_false, Int.reduceLT, Int.reduceLE, Bool.false_eq_true, Bool.true_eq_false, reduceCtorEq, Bool.or_false, Bool.or_true, Bool.true_or, Bool.false_or]; rfl) rfl hc
  have n0 := nsl 0 (by decide)
  have n1 := nsl 1 (by decide)
  have n2 := nsl 2 (by decide)
  have n3 := nsl 3 (by decide)
  unfold Book___init___F Book___init___b
  simp -implicitDefEqProofs only [Ev.all, Ev.all2, Ev.all3, and_self, and_true, true_and, List.getElem?_cons_zero, List.getElem?_cons_succ, List.set_cons_zero, List.set_cons_succ, List.length_cons, List.length_nil, Option.map_some, Option.bind_some, Option.map_none, Option.bind_none, List.map_cons, List.map_nil, List.cons_append, List.nil_append, List.append_nil, Nat.reduceAdd, Nat.reduceSub, Nat.zero_add, List.replicate_succ, List.replicate_zero, if_true, if_false, reduceIte, Nat.reduceLeDiff, Nat.reduceEqDiff, Bool.not_true, Bool.not_false, decide_true, decide_false, Int.reduceLT, Int.reduceLE, Bool.false_eq_true, Bool.true_eq_false, reduceCtorEq, Bool.or_false, Bool.or_true, Bool.true_or, Bool.false_or, e1, e2, e3, pf1, pf2, pf3, pf4, eq_self, n0, n1, n2, n3, hd, bookV]
end PL

/-! plain law PL24 -/
set_option Elab.async false
set_option linter.all false
set_option maxRecDepth 100000
set_option maxHeartbeats 4000000
namespace PL
open PySem PySem.Spec PyProof.Rows L2 FL PF
theorem eq_self_D {d : D} {k n : Nat} (h : Sm d k n) (hk : k ≤ 60) : eqB d d = some true := by
  obtain ⟨p, h1, h2, h3, h4, h5, h6⟩ := h
  have hs : SeqAt.shaped p = true := Bool.and_eq_true_iff.mpr ⟨h2, decide_eq_true (by omega)⟩
  have hP : eqP d d = some true := by
    unfold eqP
    rw [h1]
    simp only [hs, Bool.and_self, if_true, SeqAt.eqv_refl p h2]
  unfold eqB
  split
  · simp
  · exact hP
theorem eqD_self {d : D} {k n : Nat} (h : Sm d k n) (hk : k ≤ 60) : eqD d d = some (.bl true) := by
  unfold eqD; rw [eq_self_D h hk]; rfl
theorem neD_self {d : D} {k n : Nat} (h : Sm d k n) (hk : k ≤ 60) : neD d d = some (.bl false) := by
  unfold neD; rw [eq_self_D h hk]; rfl
def okTs (xs : List Str) : Prop := ∀ x ∈ xs, PyData.strOk x = true
theorem pys_sm : ∀ {xs : List Str}, okTs xs → ∃ ps, D.pys (sm xs) = some ps ∧ ps = xs.map PyData.str ∧ PyData.canLayAll0 ps = true ∧ PyData.depthAll ps ≤ 0
  | [], _ => ⟨[], rfl, rfl, rfl, Nat.le_refl _⟩
  | x :: xs, h => by
    obtain ⟨ps, a, b, c, d⟩ := pys_sm (xs := xs) fun y hy => h y (List.mem_cons_of_mem _ hy)
    refine ⟨.str x :: ps, ?_, by rw [b]; rfl, ?_, ?_⟩
    · show (D.py (.str x)).bind _ = _
      show (some (PyData.str x)).bind _ = _
      show (D.pys (sm xs)).map _ = _
      rw [a]; rfl
    · simp only [PyData.canLayAll0, PyData.canLay0, h x List.mem_cons_self, c, Bool.and_self]
    · simp only [PyData.depthAll, PyData.depth]; omega
theorem eqvAll_sm : ∀ xs ys : List Str, PyData.eqvAll (xs.map PyData.str) (ys.map PyData.str) = decide (xs = ys)
  | [], [] => rfl
  | [], y :: ys => rfl
  | x :: xs, [] => rfl
  | x :: xs, y :: ys => by
    rw [List.map_cons, List.map_cons]
    simp only [PyData.eqvAll, eqvAll_sm xs ys, PyData.eqv]
    rw [Bool.eq_iff_iff]
    simp [beq_iff_eq]
theorem eqB_sm {xs ys : List Str} (hx : okTs xs) (hy : okTs ys) : eqB (.tup (sm xs)) (.tup (sm ys)) = some (decide (xs = ys)) := by
  obtain ⟨ps, a, rfl, c, d⟩ := pys_sm hx
  obtain ⟨qs, a', rfl, c', d'⟩ := pys_sm hy
  have e1 : D.py (.tup (sm xs)) = some (.tuple (xs.map PyData.str)) := by show (D.pys (sm xs)).map _ = _; rw [a]; rfl
  have e2 : D.py (.tup (sm ys)) = some (.tuple (ys.map PyData.str)) := by show (D.pys (sm ys)).map _ = _; rw [a']; rfl
  have s1 : SeqAt.shaped (.tuple (xs.map PyData.str)) = true := by
    show (PyData.canLayAll0 _ && decide (PyData.depthAll _ + 1 ≤ 64)) = true
    rw [c, decide_eq_true (by omega)]; rfl
  have s2 : SeqAt.shaped (.tuple (ys.map PyData.str)) = true := by
    show (PyData.canLayAll0 _ && decide (PyData.depthAll _ + 1 ≤ 64)) = true
    rw [c', decide_eq_true (by omega)]; rfl
  show eqP _ _ = _
  unfold eqP
  rw [e1, e2]
  simp only [s1, s2, Bool.and_self, if_true]
  show some (PyData.eqvAll _ _) = _
  rw [eqvAll_sm]
theorem rows_okTs (js : List (List (Fin 8))) : okTs (js.map rowT) := fun x hx => by
  obtain ⟨j, _, rfl⟩ := List.mem_map.mp hx
  exact row_strOk j
theorem eq_rows (js ks : List (List (Fin 8))) : eqD (.tup (rows js)) (.tup (rows ks)) = some (.bl (decide (js.map rowT = ks.map rowT))) := by
  rw [rows_sm, rows_sm]
  unfold eqD
  rw [eqB_sm (rows_okTs js) (rows_okTs ks)]; rfl
theorem ne_rows0 (js : List (List (Fin 8))) : neD (.tup (rows js)) (.tup []) = some (.bl (!js.isEmpty)) := by
  have := eqB_sm (xs := js.map rowT) (ys := []) (rows_okTs js) (fun _ h => by cases h)
  rw [← rows_sm] at this
  have e : eqB (.tup (rows js)) (.tup []) = _ := this
  unfold neD
  rw [e]
  cases js <;> rfl
def nats (cs : List Nat) : List D := cs.map fun c => D.int (c : Nat)
theorem flats_nats : ∀ cs : List Nat, flats (nats cs) = some (cs.map fun c => V.int (c : Nat))
  | [] => rfl
  | x :: xs => by
    show (some (V.int (x : Nat))).bind (fun v => (flats (nats xs)).bind fun vs => some (v :: vs)) = _
    rw [flats_nats xs]; rfl
theorem inV_nats (x : Nat) : ∀ xs : List Nat, inV (.int (x : Nat)) (xs.map fun c => V.int (c : Nat)) = decide (x ∈ xs)
  | [] => rfl
  | y :: ys => by
    have ih := inV_nats x ys
    unfold inV at ih ⊢
    rw [List.map_cons, List.any_cons, ih]
    rw [Bool.eq_iff_iff]
    simp only [eqV, List.mem_cons, Bool.or_eq_true, decide_eq_true_eq, beq_iff_eq]
    constructor
    · rintro (h | h)
      · exact .inl (by omega)
      · exact .inr h
    · rintro (h | h)
      · exact .inl (by omega)
      · exact .inr h
theorem nin_nats (x : Nat) (xs : List Nat) : ninD (.int (x : Nat)) (.tup (nats xs)) = some (.bl (!decide (x ∈ xs))) := by
  show (inB (.int (x : Nat)) (.tup (nats xs))).map (fun b => D.bl !b) = _
  unfold inB
  dsimp only
  rw [flats_nats]
  show some (D.bl !(inV (.int (x : Nat)) (xs.map fun c => V.int (c : Nat)))) = _
  rw [inV_nats]
theorem is_integer_ev (n : Int) : is_integer_F [.int n] = .ok (.bl true) none := by
  have h1 : isB "int" (.int n) = some true := rfl
  have h2 : isB "bool" (.int n) = some false := rfl
  unfold is_integer_F is_integer_b
  simp -implicitDefEqProofs only [Ev.all, Ev.all2, Ev.all3, and_self, and_true, true_and, List.getElem?_cons_zero, List.getElem?_cons_succ, List.set_cons_zero, List.set_cons_succ, List.length_cons, List.length_nil, Option.map_some, Option.bind_some, Option.map_none, Option.bind_none, List.map_cons, List.map_nil, List.cons_append, List.nil_append, List.append_nil, Nat.reduceAdd, Nat.reduceSub, Nat.zero_add, List.replicate_succ, List.replicate_zero, if_true, if_false, reduceIte, Nat.reduceLeDiff, Nat.reduceEqDiff, Bool.not_true, Bool.not_false, decide_true, decide_false, Int.reduceLT, Int.reduceLE, Bool.false_eq_true, Bool.true_eq_false, reduceCtorEq, Bool.or_false, Bool.or_true, Bool.true_or, Bool.false_or, h1, h2]
theorem is_between_ev {v l m : Int} (h1 : l ≤ v) (h2 : v ≤ m) : is_between_F [.int v, .int l, .int m] = .ok (.bl true) none := by
  have e := is_integer_ev v
  have e1 : leD (.int l) (.int v) = some (.bl true) := by rw [Ev.leI, decide_eq_true h1]
  have e2 : leD (.int v) (.int m) = some (.bl true) := by rw [Ev.leI, decide_eq_true h2]
  unfold is_between_F is_between_b
  simp -implicitDefEqProofs only [Ev.all, Ev.all2, Ev.all3, and_self, and_true, true_and, List.getElem?_cons_zero, List.getElem?_cons_succ, List.set_cons_zero, List.set_cons_succ, List.length_cons, List.length_nil, Option.map_some, Option.bind_some, Option.map_none, Option.bind_none, List.map_cons, List.map_nil, List.cons_append, List.nil_append, List.append_nil, Nat.reduceAdd, Nat.reduceSub, Nat.zero_add, List.replicate_succ, List.replicate_zero, if_true, if_false, reduceIte, Nat.reduceLeDiff, Nat.reduceEqDiff, Bool.not_true, Bool.not_false, decide_true, decide_false, Int.reduceLT, Int.reduceLE, Bool.false_eq_true, Bool.true_eq_false, reduceCtorEq, Bool.or_false, Bool.or_true, Bool.true_or, Bool.false_or, e, e1, e2]
def Inc : Nat → Nat → List Nat → Prop
  | _, _, [] => True
  | k, n, c :: cs => k ≤ c ∧ c < n ∧ Inc (c + 1) n cs
theorem ci_loop {t : D} {n : Nat} : ∀ (cs : List Nat) (k l : Nat) (s3 s4 : Sl), Inc l n cs → s3.isB = false → s4.isB = false →
    ∃ s2' s3' s4', loopS (bSeq 2 (bCons (bName 3) (bCons (bName 4) bNil))) check_indexes_x1 (enumD k (nats cs)) [.im t, .im (.int (n : Nat)), .im (.int (l : Nat)), s3, s4] = .ok .nx [.im t, .im (.int (n : Nat)), s2', s3', s4']
  | [], k, l, s3, s4, _, _, _ => ⟨_, s3, s4, rfl⟩
  | c :: cs, k, l, s3, s4, ⟨h1, h2, h3⟩, b3, b4 => by
    have e := is_between_ev (v := (c : Nat)) (l := (l : Nat)) (m := (n : Nat) - 1) (by omega) (by omega)
    obtain ⟨s2', s3', s4', ih⟩ := ci_loop (t := t) (n := n) cs (k + 1) (c + 1) (.im (.int (k : Nat))) (.im (.int (c : Nat))) h3 rfl rfl
    refine ⟨s2', s3', s4', Eq.trans (loop_cons (Γ1 := [.im t, .im (.int (n : Nat)), .im (.int (l : Nat)), .im (.int (k : Nat)), .im (.int (c : Nat))]) (Γ2 := [.im t, .im (.int (n : Nat)), .im (.int ((c + 1 : Nat) : Int)), .im (.int (k : Nat)), .im (.int (c : Nat))]) ?_ ?_) ih⟩
    · simp -implicitDefEqProofs only [Ev.all, Ev.all2, Ev.all3, and_self, and_true, true_and, List.getElem?_cons_zero, List.getElem?_cons_succ, List.set_cons_zero, List.set_cons_succ, List.length_cons, List.length_nil, Option.map_some, Option.bind_some, Option.map_none, Option.bind_none, List.map_cons, List.map_nil, List.cons_append, List.nil_append, List.append_nil, Nat.reduceAdd, Nat.reduceSub, Nat.zero_add, List.replicate_succ, List.replicate_zero, if_true, if_false, reduceIte, Nat.reduceLeDiff, Nat.reduceEqDiff, Bool.not_true, Bool.not_false, decide_true, decide_false, Int.reduceLT, Int.reduceLE, Bool.false_eq_true, Bool.true_eq_false, reduceCtorEq, Bool.or_false, Bool.or_true, Bool.true_or, Bool.false_or, b3, b4]
    · have ec : ((c + 1 : Nat) : Int) = (c : Nat) + 1 := by omega
      rw [ec]
      simp -implicitDefEqProofs only [check_indexes_x1, Ev.all, Ev.all2, Ev.all3, and_self, and_true, true_and, List.getElem?_cons_zero, List.getElem?_cons_succ, List.set_cons_zero, List.set_cons_succ, List.length_cons, List.length_nil, Option.map_some, Option.bind_some, Option.map_none, Option.bind_none, List.map_cons, List.map_nil, List.cons_append, List.nil_append, List.append_nil, Nat.reduceAdd, Nat.reduceSub, Nat.zero_add, List.replicate_succ, List.replicate_zero, if_true, if_false, reduceIte, Nat.reduceLeDiff, Nat.reduceEqDiff, Bool.not_true, Bool.not_false, decide_true, decide_false, Int.reduceLT, Int.reduceLE, Bool.false_eq_true, Bool.true_eq_false, reduceCtorEq, Bool.or_false, Bool.or_true, Bool.true_or, Bool.false_or, e]
theorem check_indexes_ev {cs : List Nat} {n : Nat} (h : Inc 0 n cs) : check_indexes_F [.tup (nats cs), .int (n : Nat)] = .ok .non none := by
  obtain ⟨s2, s3, s4, l⟩ := ci_loop (t := .tup (nats cs)) (n := n) cs 0 0 .no .no h rfl rfl
  rw [show ((0 : Nat) : Int) = 0 from rfl] at l
  have hf := for_at (it := enumI (vE 0)) (Γ := [.im (.tup (nats cs)), .im (.int (n : Nat)), .im (.int 0), .no, .no]) (by simp -implicitDefEqProofs only [Ev.all, Ev.all2, Ev.all3, and_self, and_true, true_and, List.getElem?_cons_zero, List.getElem?_cons_succ, List.set_cons_zero, List.set_cons_succ, List.length_cons, List.length_nil, Option.map_some, Option.bind_some, Option.map_none, Option.bind_none, List.map_cons, List.map_nil, List.cons_append, List.nil_append, List.append_nil, Nat.reduceAdd, Nat.reduceSub, Nat.zero_add, List.replicate_succ, List.replicate_zero, if_true, if_false, reduceIte, Nat.reduceLeDiff, Nat.reduceEqDiff, Bool.not_true, Bool.not_false, decide_true, decide_false, Int.reduceLT, Int.reduceLE, Bool.false_eq_true, Bool.true_eq_false, reduceCtorEq, Bool.or_false, Bool.or_true, Bool.true_or, Bool.false_or]) l
  have hi : isB "tuple" (.tup (nats cs)) = some true := rfl
  unfold check_indexes_F check_indexes_b
  simp -implicitDefEqProofs only [Ev.all, Ev.all2, Ev.all3, and_self, and_true, true_and, List.getElem?_cons_zero, List.getElem?_cons_succ, List.set_cons_zero, List.set_cons_succ, List.length_cons, List.length_nil, Option.map_some, Option.bind_some, Option.map_none, Option.bind_none, List.map_cons, List.map_nil, List.cons_append, List.nil_append, List.append_nil, Nat.reduceAdd, Nat.reduceSub, Nat.zero_add, List.replicate_succ, List.replicate_zero, if_true, if_false, reduceIte, Nat.reduceLeDiff, Nat.reduceEqDiff, Bool.not_true, Bool.not_false, decide_true, decide_false, Int.reduceLT, Int.reduceLE, Bool.false_eq_true, Bool.true_eq_false, reduceCtorEq, Bool.or_false, Bool.or_true, Bool.true_or, Bool.false_or, hf, hi]
end PL

/-! plain law PL25 -/
set_option Elab.async false
set_option linter.all false
set_option maxRecDepth 100000
set_option maxHeartbeats 4000000
namespace PL
open PySem PySem.Spec PyProof.Rows L2 FL PF
theorem enum_rows : ∀ (js : List (List (Fin 8))) (k : Nat), enumD k (rows js) = (js.zipIdx k).map fun p => D.tup [.int (p.2 : Nat), .str (rowT p.1)]
  | [], _ => rfl
  | j :: js, k => by
    show _ :: enumD (k + 1) (rows js) = _
    rw [enum_rows js (k + 1)]; rfl
def leftJ (cs : List Nat) (js : List (List (Fin 8))) : List (List (Fin 8)) := ((js.zipIdx).filter fun p => !decide (p.2 ∈ cs)).map (·.1)
theorem leftJ_mem {cs : List Nat} {js : List (List (Fin 8))} {j : List (Fin 8)} (h : j ∈ leftJ cs js) : j ∈ js := by
  obtain ⟨p, hp, rfl⟩ := List.mem_map.mp h
  have h1 := (List.mem_filter.mp hp).1
  have := List.mem_zipIdx' h1
  exact this.2 ▸ List.getElem_mem _
theorem leftJ_len (cs : List Nat) (js : List (List (Fin 8))) : (leftJ cs js).length ≤ js.length := by
  unfold leftJ
  rw [List.length_map]
  have := List.length_filter_le (fun p : List (Fin 8) × Nat => !decide (p.2 ∈ cs)) js.zipIdx
  rw [List.length_zipIdx] at this
  exact this
theorem AnsOk.left {js : List (List (Fin 8))} (h : AnsOk js) (cs : List Nat) : AnsOk (leftJ cs js) :=
  ⟨by have := leftJ_len cs js; have := h.1; omega, fun j hj => h.2 j (leftJ_mem hj)⟩
theorem zipIdx_range (js : List (List (Fin 8))) : js.zipIdx = (List.range js.length).map fun i => (js.getD i [], i) := by
  apply List.ext_getElem
  · simp
  · intro i h1 h2
    simp at h1
    simp [h1]
theorem leftJ_range (cs : List Nat) (js : List (List (Fin 8))) : leftJ cs js = ((List.range js.length).filter fun i => !decide (i ∈ cs)).map fun i => js.getD i [] := by
  unfold leftJ
  rw [zipIdx_range, List.filter_map, List.map_map]
  rfl
structure BookOk (is : List (Fin 8)) (b : Box) (js : List (List (Fin 8))) : Prop where
  n0 : is ≠ []
  n6 : is.length ≤ 6
  run : runD is "ann" "bob" [] = some b
  ans : AnsOk js
theorem BookOk.names {is : List (Fin 8)} {b : Box} {js : List (List (Fin 8))} (B : BookOk is b js) : (∀ p ∈ b, IsName p.2) ∧ b.length ≤ 6 := by
  obtain ⟨h1, h2⟩ := runD_all (P := IsName) (by decide +kernel) (by decide +kernel) B.run (fun _ h => by cases h)
  have := B.n6
  rw [List.length_nil] at h2
  exact ⟨h1, by omega⟩
theorem BookOk.init {is : List (Fin 8)} {b : Box} {js : List (List (Fin 8))} (B : BookOk is b js) : Book___init___F [.ins "Book" [] [], .str (rowT is), .tup (rows js)] = .ok .non (some (.i "Book" bookN (bookV is b js))) :=
  init_ev B.n0 B.n6 B.run B.ans
theorem BookOk.left {is : List (Fin 8)} {b : Box} {js : List (List (Fin 8))} (B : BookOk is b js) (cs : List Nat) : BookOk is b (leftJ cs js) := ⟨B.n0, B.n6, B.run, B.ans.left cs⟩
theorem without_ev {is : List (Fin 8)} {b : Box} {js : List (List (Fin 8))} (B : BookOk is b js) {cs : List Nat} (hc : Inc 0 js.length cs) :
    Book_without_F [bookD is b js, .tup (nats cs)] = .nw (.i "Book" bookN (bookV is b (leftJ cs js))) none := by
  have e1 := check_indexes_ev hc
  have e2 := (B.left cs).init
  have hl := B.ans.1
  have hcp := cmp_gen (vs := [2, 3]) (b := bSeq 2 (bCons (bName 2) (bCons (bName 3) bNil))) (tt := Book_without_x2) (elt := Book_without_x1) (a := fun p : List (Fin 8) × Nat => D.tup [.int (p.2 : Nat), .str (rowT p.1)]) (c := fun p => D.str (rowT p.1)) (P := fun p => !decide (p.2 ∈ cs))
    (Γ := [.im (.ins "Book" bookN [.str (rowT is), .tup (rows js), .tup (bx b), .lst (js.map fun j => .lst (j.map ddT))]), .im (.tup (nats cs)), .no, .no]) rfl js.zipIdx [] (by rw [List.length_zipIdx]; simp; omega) fun p _ => by
      have e := nin_nats p.2 cs
      refine ⟨[.im (.ins "Book" bookN [.str (rowT is), .tup (rows js), .tup (bx b), .lst (js.map fun j => .lst (j.map ddT))]), .im (.tup (nats cs)), .im (.int (p.2 : Nat)), .im (.str (rowT p.1))], by simp -implicitDefEqProofs only [Ev.all, Ev.all2, Ev.all3, and_self, and_true, true_and, List.getElem?_cons_zero, List.getElem?_cons_succ, List.set_cons_zero, List.set_cons_succ, List.length_cons, List.length_nil, Option.map_some, Option.bind_some, Option.map_none, Option.bind_none, List.map_cons, List.map_nil, List.cons_append, List.nil_append, List.append_nil, Nat.reduceAdd, Nat.reduceSub, Nat.zero_add, List.replicate_succ, List.replicate_zero, if_true, if_false, reduceIte, Nat.reduceLeDiff, Nat.reduceEqDiff, Bool.not_true, Bool.not_false, decide_true, decide_false, Int.reduceLT, Int.reduceLE, Bool.false_eq_true, Bool.true_eq_false, reduceCtorEq, Bool.or_false, Bool.or_true, Bool.true_or, Bool.false_or], ?_, ?_, rfl⟩
      · simp -implicitDefEqProofs only [Book_without_x2, Ev.all, Ev.all2, Ev.all3, and_self, and_true, true_and, List.getElem?_cons_zero, List.getElem?_cons_succ, List.set_cons_zero, List.set_cons_succ, List.length_cons, List.length_nil, Option.map_some, Option.bind_some, Option.map_none, Option.bind_none, List.map_cons, List.map_nil, List.cons_append, List.nil_append, List.append_nil, Nat.reduceAdd, Nat.reduceSub, Nat.zero_add, List.replicate_succ, List.replicate_zero, if_true, if_false, reduceIte, Nat.reduceLeDiff, Nat.reduceEqDiff, Bool.not_true, Bool.not_false, decide_true, decide_false, Int.reduceLT, Int.reduceLE, Bool.false_eq_true, Bool.true_eq_false, reduceCtorEq, Bool.or_false, Bool.or_true, Bool.true_or, Bool.false_or, e]
      · simp -implicitDefEqProofs only [Book_without_x1, Ev.all, Ev.all2, Ev.all3, and_self, and_true, true_and, List.getElem?_cons_zero, List.getElem?_cons_succ, List.set_cons_zero, List.set_cons_succ, List.length_cons, List.length_nil, Option.map_some, Option.bind_some, Option.map_none, Option.bind_none, List.map_cons, List.map_nil, List.cons_append, List.nil_append, List.append_nil, Nat.reduceAdd, Nat.reduceSub, Nat.zero_add, List.replicate_succ, List.replicate_zero, if_true, if_false, reduceIte, Nat.reduceLeDiff, Nat.reduceEqDiff, Bool.not_true, Bool.not_false, decide_true, decide_false, Int.reduceLT, Int.reduceLE, Bool.false_eq_true, Bool.true_eq_false, reduceCtorEq, Bool.or_false, Bool.or_true, Bool.true_or, Bool.false_or]
  rw [List.nil_append, show ((js.zipIdx.filter fun p => !decide (p.2 ∈ cs)).map fun p => D.str (rowT p.1)) = rows (leftJ cs js) by unfold rows leftJ; rw [List.map_map]; rfl] at hcp
  have hv := comp_at (it := enumI (fldE "Book" "answer_rows" (vE 0))) (Γ := [.im (.ins "Book" bookN [.str (rowT is), .tup (rows js), .tup (bx b), .lst (js.map fun j => .lst (j.map ddT))]), .im (.tup (nats cs)), .no, .no]) (by simp -implicitDefEqProofs only [Ev.all, Ev.all2, Ev.all3, and_self, and_true, true_and, List.getElem?_cons_zero, List.getElem?_cons_succ, List.set_cons_zero, List.set_cons_succ, List.length_cons, List.length_nil, Option.map_some, Option.bind_some, Option.map_none, Option.bind_none, List.map_cons, List.map_nil, List.cons_append, List.nil_append, List.append_nil, Nat.reduceAdd, Nat.reduceSub, Nat.zero_add, List.replicate_succ, List.replicate_zero, if_true, if_false, reduceIte, Nat.reduceLeDiff, Nat.reduceEqDiff, Bool.not_true, Bool.not_false, decide_true, decide_false, Int.reduceLT, Int.reduceLE, Bool.false_eq_true, Bool.true_eq_false, reduceCtorEq, Bool.or_false, Bool.or_true, Bool.true_or, Bool.false_or, eq_self, fl2, enum_rows]) rfl hcp
  rw [← rows_len js] at e1
  unfold Book_without_F Book_without_b
  simp -implicitDefEqProofs only [Ev.all, Ev.all2, Ev.all3, and_self, and_true, true_and, List.getElem?_cons_zero, List.getElem?_cons_succ, List.set_cons_zero, List.set_cons_succ, List.length_cons, List.length_nil, Option.map_some, Option.bind_some, Option.map_none, Option.bind_none, List.map_cons, List.map_nil, List.cons_append, List.nil_append, List.append_nil, Nat.reduceAdd, Nat.reduceSub, Nat.zero_add, List.replicate_succ, List.replicate_zero, if_true, if_false, reduceIte, Nat.reduceLeDiff, Nat.reduceEqDiff, Bool.not_true, Bool.not_false, decide_true, decide_false, Int.reduceLT, Int.reduceLE, Bool.false_eq_true, Bool.true_eq_false, reduceCtorEq, Bool.or_false, Bool.or_true, Bool.true_or, Bool.false_or, bookD, bookV, eq_self, fl1, fl2, e1, hv]
  simp -implicitDefEqProofs only [Ev.all, Ev.all2, Ev.all3, and_self, and_true, true_and, List.getElem?_cons_zero, List.getElem?_cons_succ, List.set_cons_zero, List.set_cons_succ, List.length_cons, List.length_nil, Option.map_some, Option.bind_some, Option.map_none, Option.bind_none, List.map_cons, List.map_nil, List.cons_append, List.nil_append, List.append_nil, Nat.reduceAdd, Nat.reduceSub, Nat.zero_add, List.replicate_succ, List.replicate_zero, if_true, if_false, reduceIte, Nat.reduceLeDiff, Nat.reduceEqDiff, Bool.not_true, Bool.not_false, decide_true, decide_false, Int.reduceLT, Int.reduceLE, Bool.false_eq_true, Bool.true_eq_false, reduceCtorEq, Bool.or_false, Bool.or_true, Bool.true_or, Bool.false_or, e2, bookV]
theorem book_eq_ev (is is' : List (Fin 8)) (b b' : Box) (js js' : List (List (Fin 8))) : Book___eq___F [bookD is b js, bookD is' b' js'] = .ok (.bl (decide (rowT is = rowT is') && decide (js.map rowT = js'.map rowT))) none := by
  have h1 := eq_rows js js'
  have h2 : (["Book"] : List Str).contains "Book" = true := by kernel_rfl
  have h3 : ("Book" : Str) = "Book" := rfl
  unfold Book___eq___F Book___eq___b
  cases h : decide (rowT is = rowT is') with
  | true => simp -implicitDefEqProofs only [Ev.all, Ev.all2, Ev.all3, and_self, and_true, true_and, List.getElem?_cons_zero, List.getElem?_cons_succ, List.set_cons_zero, List.set_cons_succ, List.length_cons, List.length_nil, Option.map_some, Option.bind_some, Option.map_none, Option.bind_none, List.map_cons, List.map_nil, List.cons_append, List.nil_append, List.append_nil, Nat.reduceAdd, Nat.reduceSub, Nat.zero_add, List.replicate_succ, List.replicate_zero, if_true, if_false, reduceIte, Nat.reduceLeDiff, Nat.reduceEqDiff, Bool.not_true, Bool.not_false, decide_true, decide_false, Int.reduceLT, Int.reduceLE, Bool.false_eq_true, Bool.true_eq_false, reduceCtorEq, Bool.or_false, Bool.or_true, Bool.true_or, Bool.false_or, bookD, bookV, eq_self, fl1, fl2, h1, h2, h]; try rfl
  | false => simp -implicitDefEqProofs only [Ev.all, Ev.all2, Ev.all3, and_self, and_true, true_and, List.getElem?_cons_zero, List.getElem?_cons_succ, List.set_cons_zero, List.set_cons_succ, List.length_cons, List.length_nil, Option.map_some, Option.bind_some, Option.map_none, Option.bind_none, List.map_cons, List.map_nil, List.cons_append, List.nil_append, List.append_nil, Nat.reduceAdd, Nat.reduceSub, Nat.zero_add, List.replicate_succ, List.replicate_zero, if_true, if_false, reduceIte, Nat.reduceLeDiff, Nat.reduceEqDiff, Bool.not_true, Bool.not_false, decide_true, decide_false, Int.reduceLT, Int.reduceLE, Bool.false_eq_true, Bool.true_eq_false, reduceCtorEq, Bool.or_false, Bool.or_true, Bool.true_or, Bool.false_or, bookD, bookV, eq_self, fl1, fl2, h1, h2, h]; try rfl
def bookT (is : List (Fin 8)) (js : List (List (Fin 8))) : Str := Str.join "\n" (("first " ++ rowT is) :: js.map fun j => "answer " ++ rowT j)
def manyT (n : Nat) : Str := Str.ofString s!"Book with {n} answers"
theorem many_cases {P : Nat → Prop} {n : Nat} (h : n ≤ 4) (h0 : P 0) (h1 : P 1) (h2 : P 2) (h3 : P 3) (h4 : P 4) : P n := by
  rcases (by omega : n = 0 ∨ n = 1 ∨ n = 2 ∨ n = 3 ∨ n = 4) with h | h | h | h | h <;> subst h <;> assumption
end PL

/-! plain law PL26 -/
set_option Elab.async false
set_option linter.all false
set_option maxRecDepth 100000
set_option maxHeartbeats 4000000
namespace PL
open PySem PySem.Spec PyProof.Rows L2 FL PF
def wT (n : Nat) : Str := Str.ofString s!"Book with {n}"
def nT (n : Nat) : Str := Str.ofString (toString n)
theorem fm_n {n : Nat} (h : n ≤ 4) : ∀ Γ : En, fmC (.d (.int (n : Nat))) Γ = .ok (.d (.str (nT n))) Γ :=
  many_cases (P := fun n => ∀ Γ : En, fmC (.d (.int (n : Nat))) Γ = .ok (.d (.str (nT n))) Γ) h (fun Γ => by kernel_rfl) (fun Γ => by kernel_rfl) (fun Γ => by kernel_rfl) (fun Γ => by kernel_rfl) (fun Γ => by kernel_rfl)
theorem js_a {fs : List EF} {Γ : En} : jsC fs Str.empty (.d (.str "Book with ")) Γ = jsE fs "Book with " Γ := by kernel_rfl
theorem js_b {n : Nat} (h : n ≤ 4) : ∀ (fs : List EF) (Γ : En), jsC fs "Book with " (.d (.str (nT n))) Γ = jsE fs (wT n) Γ :=
  many_cases (P := fun n => ∀ (fs : List EF) (Γ : En), jsC fs "Book with " (.d (.str (nT n))) Γ = jsE fs (wT n) Γ) h (fun fs Γ => by kernel_rfl) (fun fs Γ => by kernel_rfl) (fun fs Γ => by kernel_rfl) (fun fs Γ => by kernel_rfl) (fun fs Γ => by kernel_rfl)
theorem js_c {n : Nat} (h : n ≤ 4) : ∀ (fs : List EF) (Γ : En), jsC fs (wT n) (.d (.str " answers")) Γ = jsE fs (manyT n) Γ :=
  many_cases (P := fun n => ∀ (fs : List EF) (Γ : En), jsC fs (wT n) (.d (.str " answers")) Γ = jsE fs (manyT n) Γ) h (fun fs Γ => by kernel_rfl) (fun fs Γ => by kernel_rfl) (fun fs Γ => by kernel_rfl) (fun fs Γ => by kernel_rfl) (fun fs Γ => by kernel_rfl)
theorem str_n {n : Nat} (h : n ≤ 4) : strD (.int (n : Nat)) = some (.str (nT n)) :=
  many_cases (P := fun n => strD (.int (n : Nat)) = some (.str (nT n))) h (by kernel_rfl) (by kernel_rfl) (by kernel_rfl) (by kernel_rfl) (by kernel_rfl)
theorem add_b {n : Nat} (h : n ≤ 4) : addD (.str "Book with ") (.str (nT n)) = some (.str (wT n)) :=
  many_cases (P := fun n => addD (.str "Book with ") (.str (nT n)) = some (.str (wT n))) h (by kernel_rfl) (by kernel_rfl) (by kernel_rfl) (by kernel_rfl) (by kernel_rfl)
theorem add_c {n : Nat} (h : n ≤ 4) : addD (.str (wT n)) (.str " answers") = some (.str (manyT n)) :=
  many_cases (P := fun n => addD (.str (wT n)) (.str " answers") = some (.str (manyT n))) h (by kernel_rfl) (by kernel_rfl) (by kernel_rfl) (by kernel_rfl) (by kernel_rfl)
theorem many_ok {n : Nat} (h : n ≤ 4) : PyData.strOk (manyT n) = true ∧ (manyT n).length ≤ 20 :=
  many_cases (P := fun n => PyData.strOk (manyT n) = true ∧ (manyT n).length ≤ 20) h (by decide +kernel) (by decide +kernel) (by decide +kernel) (by decide +kernel) (by decide +kernel)
variable {is : List (Fin 8)} {b : Box} {js : List (List (Fin 8))}
theorem first_ev : Book_first_F [bookD is b js] = .ok (.str (rowT is)) none := by
  unfold Book_first_F Book_first_b
  simp -implicitDefEqProofs only [Ev.all, Ev.all2, Ev.all3, and_self, and_true, true_and, List.getElem?_cons_zero, List.getElem?_cons_succ, List.set_cons_zero, List.set_cons_succ, List.length_cons, List.length_nil, Option.map_some, Option.bind_some, Option.map_none, Option.bind_none, List.map_cons, List.map_nil, List.cons_append, List.nil_append, List.append_nil, Nat.reduceAdd, Nat.reduceSub, Nat.zero_add, List.replicate_succ, List.replicate_zero, if_true, if_false, reduceIte, Nat.reduceLeDiff, Nat.reduceEqDiff, Bool.not_true, Bool.not_false, decide_true, decide_false, Int.reduceLT, Int.reduceLE, Bool.false_eq_true, Bool.true_eq_false, reduceCtorEq, Bool.or_false, Bool.or_true, Bool.true_or, Bool.false_or, bookD, bookV, eq_self, fl1]
theorem answers_ev : Book_answers_F [bookD is b js] = .ok (.tup (rows js)) none := by
  unfold Book_answers_F Book_answers_b
  simp -implicitDefEqProofs only [Ev.all, Ev.all2, Ev.all3, and_self, and_true, true_and, List.getElem?_cons_zero, List.getElem?_cons_succ, List.set_cons_zero, List.set_cons_succ, List.length_cons, List.length_nil, Option.map_some, Option.bind_some, Option.map_none, Option.bind_none, List.map_cons, List.map_nil, List.cons_append, List.nil_append, List.append_nil, Nat.reduceAdd, Nat.reduceSub, Nat.zero_add, List.replicate_succ, List.replicate_zero, if_true, if_false, reduceIte, Nat.reduceLeDiff, Nat.reduceEqDiff, Bool.not_true, Bool.not_false, decide_true, decide_false, Int.reduceLT, Int.reduceLE, Bool.false_eq_true, Bool.true_eq_false, reduceCtorEq, Bool.or_false, Bool.or_true, Bool.true_or, Bool.false_or, bookD, bookV, eq_self, fl2]
theorem begun_ev : Book_begun_F [bookD is b js] = .ok (.tup (bx b)) none := by
  unfold Book_begun_F Book_begun_b
  simp -implicitDefEqProofs only [Ev.all, Ev.all2, Ev.all3, and_self, and_true, true_and, List.getElem?_cons_zero, List.getElem?_cons_succ, List.set_cons_zero, List.set_cons_succ, List.length_cons, List.length_nil, Option.map_some, Option.bind_some, Option.map_none, Option.bind_none, List.map_cons, List.map_nil, List.cons_append, List.nil_append, List.append_nil, Nat.reduceAdd, Nat.reduceSub, Nat.zero_add, List.replicate_succ, List.replicate_zero, if_true, if_false, reduceIte, Nat.reduceLeDiff, Nat.reduceEqDiff, Bool.not_true, Bool.not_false, decide_true, decide_false, Int.reduceLT, Int.reduceLE, Bool.false_eq_true, Bool.true_eq_false, reduceCtorEq, Bool.or_false, Bool.or_true, Bool.true_or, Bool.false_or, bookD, bookV, eq_self, fl3]
theorem book_repr_ev (h : js.length ≤ 4) : Book___repr___F [bookD is b js] = .ok (.str (manyT js.length)) none := by
  have e1 := fm_n h
  have e2 := js_b h
  have e3 := js_c h
  unfold Book___repr___F Book___repr___b
  simp -implicitDefEqProofs only [Ev.all, Ev.all2, Ev.all3, and_self, and_true, true_and, List.getElem?_cons_zero, List.getElem?_cons_succ, List.set_cons_zero, List.set_cons_succ, List.length_cons, List.length_nil, Option.map_some, Option.bind_some, Option.map_none, Option.bind_none, List.map_cons, List.map_nil, List.cons_append, List.nil_append, List.append_nil, Nat.reduceAdd, Nat.reduceSub, Nat.zero_add, List.replicate_succ, List.replicate_zero, if_true, if_false, reduceIte, Nat.reduceLeDiff, Nat.reduceEqDiff, Bool.not_true, Bool.not_false, decide_true, decide_false, Int.reduceLT, Int.reduceLE, Bool.false_eq_true, Bool.true_eq_false, reduceCtorEq, Bool.or_false, Bool.or_true, Bool.true_or, Bool.false_or, bookD, bookV, eq_self, fl2, rows_len, js_a, e1, e2, e3]
def ans_ (j : List (Fin 8)) : Str := "answer " ++ rowT j
theorem ans_len {j : List (Fin 8)} (h : j.length ≤ 6) : (ans_ j).length ≤ 73 := by
  unfold ans_
  rw [str_len_app]
  have := row_len6 h
  have : (Str.ofString "answer ").length = 7 := by decide +kernel
  omega
theorem fst_len (h : is.length ≤ 6) : ((Str.ofString "first ") ++ rowT is).length ≤ 73 := by
  rw [str_len_app]
  have := row_len6 h
  have : (Str.ofString "first ").length = 6 := by decide +kernel
  omega
theorem add_ans {j : List (Fin 8)} (h : j.length ≤ 6) : addD (.str "answer ") (.str (rowT j)) = some (.str (ans_ j)) := by
  have h1 := ans_len h
  unfold ans_ at h1
  rw [str_len_app] at h1
  rw [Ev.addS, if_pos]; rfl
  show _ ≤ 2 ^ 24; omega
theorem add_fst (h : is.length ≤ 6) : addD (.str "first ") (.str (rowT is)) = some (.str ("first " ++ rowT is)) := by
  have h1 := fst_len h
  rw [str_len_app] at h1
  rw [Ev.addS, if_pos]
  show _ ≤ 2 ^ 24; omega
theorem book_texts (B : BookOk is b js) : addD (.lst [.str ("first " ++ rowT is)]) (.lst (js.map fun j => D.str (ans_ j))) = some (.lst (sm (("first " ++ rowT is) :: js.map ans_))) := by
  have := B.ans.1
  rw [Ev.addL, if_pos]
  · unfold sm; rw [List.map_cons, List.map_map]; rfl
  · rw [List.length_map]; show _ ≤ 2 ^ 24; simp; omega
theorem book_join (B : BookOk is b js) : joinD (.str "\n") (.lst (sm (("first " ++ rowT is) :: js.map ans_))) = some (.str (bookT is js)) := by
  have := B.ans.1
  refine join_ev (n := 73) (fun t ht => ?_) ?_
  · rcases List.mem_cons.mp ht with rfl | ht
    · exact fst_len B.n6
    · obtain ⟨j, hj, rfl⟩ := List.mem_map.mp ht
      exact ans_len (B.ans.2 j hj).2
  · rw [List.length_cons, List.length_map, show (Str.ofString "\n").length = 1 by decide +kernel]; omega
theorem book_str_ev (B : BookOk is b js) : Book___str___F [bookD is b js] = .ok (.str (bookT is js)) none := by
  have hl := B.ans.1
  have e1 := add_fst B.n6
  have e2 := book_texts B
  have e3 := book_join B
  have hcp := cmp_maps (vs := [1]) (b := bName 1) (elt := Book___str___x1) (a := fun j => D.str (rowT j)) (c := fun j => D.str (ans_ j)) (xs := js)
    (Γ := [.im (.ins "Book" bookN [.str (rowT is), .tup (rows js), .tup (bx b), .lst (js.map fun j => .lst (j.map ddT))]), .no]) rfl (by omega) fun j m => by
      have e := add_ans (B.ans.2 j m).2
      refine ⟨[.im (.ins "Book" bookN [.str (rowT is), .tup (rows js), .tup (bx b), .lst (js.map fun j => .lst (j.map ddT))]), .im (.str (rowT j))], by simp -implicitDefEqProofs only [Ev.all, Ev.all2, Ev.all3, and_self, and_true, true_and, List.getElem?_cons_zero, List.getElem?_cons_succ, List.set_cons_zero, List.set_cons_succ, List.length_cons, List.length_nil, Option.map_some, Option.bind_some, Option.map_none, Option.bind_none, List.map_cons, List.map_nil, List.cons_append, List.nil_append, List.append_nil, Nat.reduceAdd, Nat.reduceSub, Nat.zero_add, List.replicate_succ, List.replicate_zero, if_true, if_false, reduceIte, Nat.reduceLeDiff, Nat.reduceEqDiff, Bool.not_true, Bool.not_false, decide_true, decide_false, Int.reduceLT, Int.reduceLE, Bool.false_eq_true, Bool.true_eq_false, reduceCtorEq, Bool.or_false, Bool.or_true, Bool.true_or, Bool.false_or], ?_, rfl⟩
      simp -implicitDefEqProofs only [Book___str___x1, Ev.all, Ev.all2, Ev.all3, and_self, and_true, true_and, List.getElem?_cons_zero, List.getElem?_cons_succ, List.set_cons_zero, List.set_cons_succ, List.length_cons, List.length_nil, Option.map_some, Option.bind_some, Option.map_none, Option.bind_none, List.map_cons, List.map_nil, List.cons_append, List.nil_append, List.append_nil, Nat.reduceAdd, Nat.reduceSub, Nat.zero_add, List.replicate_succ, List.replicate_zero, if_true, if_false, reduceIte, Nat.reduceLeDiff, Nat.reduceEqDiff, Bool.not_true, Bool.not_false, decide_true, decide_false, Int.reduceLT, Int.reduceLE, Bool.false_eq_true, Bool.true_eq_false, reduceCtorEq, Bool.or_false, Bool.or_true, Bool.true_or, Bool.false_or, c_ANSWER, e]
  have hv := comp_at (it := anyI (fldE "Book" "answer_rows" (vE 0))) (Γ := [.im (.ins "Book" bookN [.str (rowT is), .tup (rows js), .tup (bx b), .lst (js.map fun j => .lst (j.map ddT))]), .no]) (by simp -implicitDefEqProofs only [Ev.all, Ev.all2, Ev.all3, and_self, and_true, true_and, List.getElem?_cons_zero, List.getElem?_cons_succ, List.set_cons_zero, List.set_cons_succ, List.length_cons, List.length_nil, Option.map_some, Option.bind_some, Option.map_none, Option.bind_none, List.map_cons, List.map_nil, List.cons_append, List.nil_append, List.append_nil, Nat.reduceAdd, Nat.reduceSub, Nat.zero_add, List.replicate_succ, List.replicate_zero, if_true, if_false, reduceIte, Nat.reduceLeDiff, Nat.reduceEqDiff, Bool.not_true, Bool.not_false, decide_true, decide_false, Int.reduceLT, Int.reduceLE, Bool.false_eq_true, Bool.true_eq_false, reduceCtorEq, Bool.or_false, Bool.or_true, Bool.true_or, Bool.false_or, eq_self, fl2]; rfl) rfl hcp
  unfold Book___str___F Book___str___b
  simp -implicitDefEqProofs only [Ev.all, Ev.all2, Ev.all3, and_self, and_true, true_and, List.getElem?_cons_zero, List.getElem?_cons_succ, List.set_cons_zero, List.set_cons_succ, List.length_cons, List.length_nil, Option.map_some, Option.bind_some, Option.map_none, Option.bind_none, List.map_cons, List.map_nil, List.cons_append, List.nil_append, List.append_nil, Nat.reduceAdd, Nat.reduceSub, Nat.zero_add, List.replicate_succ, List.replicate_zero, if_true, if_false, reduceIte, Nat.reduceLeDiff, Nat.reduceEqDiff, Bool.not_true, Bool.not_false, decide_true, decide_false, Int.reduceLT, Int.reduceLE, Bool.false_eq_true, Bool.true_eq_false, reduceCtorEq, Bool.or_false, Bool.or_true, Bool.true_or, Bool.false_or, bookD, bookV, eq_self, fl1, c_FIRST, e1, hv, e2, e3]
theorem law_text_ev (B : BookOk is b js) : _law_text_F [.str (rowT is), .tup (rows js)] = .ok (.str (bookT is js)) none := by
  have hl := B.ans.1
  have e1 := add_fst B.n6
  have e2 := book_texts B
  have e3 := book_join B
  have hcp := cmp_maps (vs := [2]) (b := bName 2) (elt := _law_text_x1) (a := fun j => D.str (rowT j)) (c := fun j => D.str (ans_ j)) (xs := js)
    (Γ := [.im (.str (rowT is)), .im (.tup (rows js)), .no]) rfl (by omega) fun j m => by
      have e := add_ans (B.ans.2 j m).2
      refine ⟨[.im (.str (rowT is)), .im (.tup (rows js)), .im (.str (rowT j))], by simp -implicitDefEqProofs only [Ev.all, Ev.all2, Ev.all3, and_self, and_true, true_and, List.getElem?_cons_zero, List.getElem?_cons_succ, List.set_cons_zero, List.set_cons_succ, List.length_cons, List.length_nil, Option.map_some, Option.bind_some, Option.map_none, Option.bind_none, List.map_cons, List.map_nil, List.cons_append, List.nil_append, List.append_nil, Nat.reduceAdd, Nat.reduceSub, Nat.zero_add, List.replicate_succ, List.replicate_zero, if_true, if_false, reduceIte, Nat.reduceLeDiff, Nat.reduceEqDiff, Bool.not_true, Bool.not_false, decide_true, decide_false, Int.reduceLT, Int.reduceLE, Bool.false_eq_true, Bool.true_eq_false, reduceCtorEq, Bool.or_false, Bool.or_true, Bool.true_or, Bool.false_or], ?_, rfl⟩
      simp -implicitDefEqProofs only [_law_text_x1, Ev.all, Ev.all2, Ev.all3, and_self, and_true, true_and, List.getElem?_cons_zero, List.getElem?_cons_succ, List.set_cons_zero, List.set_cons_succ, List.length_cons, List.length_nil, Option.map_some, Option.bind_some, Option.map_none, Option.bind_none, List.map_cons, List.map_nil, List.cons_append, List.nil_append, List.append_nil, Nat.reduceAdd, Nat.reduceSub, Nat.zero_add, List.replicate_succ, List.replicate_zero, if_true, if_false, reduceIte, Nat.reduceLeDiff, Nat.reduceEqDiff, Bool.not_true, Bool.not_false, decide_true, decide_false, Int.reduceLT, Int.reduceLE, Bool.false_eq_true, Bool.true_eq_false, reduceCtorEq, Bool.or_false, Bool.or_true, Bool.true_or, Bool.false_or, e]
  have hv := comp_at (it := anyI (vE 1)) (Γ := [.im (.str (rowT is)), .im (.tup (rows js)), .no]) (by simp -implicitDefEqProofs only [Ev.all, Ev.all2, Ev.all3, and_self, and_true, true_and, List.getElem?_cons_zero, List.getElem?_cons_succ, List.set_cons_zero, List.set_cons_succ, List.length_cons, List.length_nil, Option.map_some, Option.bind_some, Option.map_none, Option.bind_none, List.map_cons, List.map_nil, List.cons_append, List.nil_append, List.append_nil, Nat.reduceAdd, Nat.reduceSub, Nat.zero_add, List.replicate_succ, List.replicate_zero, if_true, if_false, reduceIte, Nat.reduceLeDiff, Nat.reduceEqDiff, Bool.not_true, Bool.not_false, decide_true, decide_false, Int.reduceLT, Int.reduceLE, Bool.false_eq_true, Bool.true_eq_false, reduceCtorEq, Bool.or_false, Bool.or_true, Bool.true_or, Bool.false_or, eq_self]; rfl) rfl hcp
  unfold _law_text_F _law_text_b
  simp -implicitDefEqProofs only [Ev.all, Ev.all2, Ev.all3, and_self, and_true, true_and, List.getElem?_cons_zero, List.getElem?_cons_succ, List.set_cons_zero, List.set_cons_succ, List.length_cons, List.length_nil, Option.map_some, Option.bind_some, Option.map_none, Option.bind_none, List.map_cons, List.map_nil, List.cons_append, List.nil_append, List.append_nil, Nat.reduceAdd, Nat.reduceSub, Nat.zero_add, List.replicate_succ, List.replicate_zero, if_true, if_false, reduceIte, Nat.reduceLeDiff, Nat.reduceEqDiff, Bool.not_true, Bool.not_false, decide_true, decide_false, Int.reduceLT, Int.reduceLE, Bool.false_eq_true, Bool.true_eq_false, reduceCtorEq, Bool.or_false, Bool.or_true, Bool.true_or, Bool.false_or, e1, hv, e2, e3]
theorem Sm_row {j : List (Fin 8)} (h : j.length ≤ 6) : Sm (.str (rowT j)) 0 662 := Sm.str (m := 66) (row_strOk j) (row_len6 h)
theorem Sm_rows (h : AnsOk js) : Sm (.tup (rows js)) 1 2659 := by
  have := h.1
  refine (Sm.tup (ds := rows js) (k := 0) (n := 662) fun d hd => ?_).mono (by omega) (by rw [rows_len]; omega)
  obtain ⟨j, hj, rfl⟩ := List.mem_map.mp hd
  exact Sm_row (h.2 j hj).2
theorem text_ok (B : BookOk is b js) : PyData.strOk (bookT is js) = true ∧ (bookT is js).length ≤ 370 := by
  have hl := B.ans.1
  unfold bookT
  constructor
  · refine strOk_join (by decide +kernel) fun t ht => ?_
    rcases List.mem_cons.mp ht with rfl | ht
    · exact strOk_app (by decide +kernel) (row_strOk _)
    · obtain ⟨j, hj, rfl⟩ := List.mem_map.mp ht
      exact strOk_app (by decide +kernel) (row_strOk _)
  · have := join_le (Str.ofString "\n") (ts := ("first " ++ rowT is) :: js.map fun j => "answer " ++ rowT j) (n := 73) fun t ht => by
      rcases List.mem_cons.mp ht with rfl | ht
      · exact fst_len B.n6
      · obtain ⟨j, hj, rfl⟩ := List.mem_map.mp ht
        exact ans_len (B.ans.2 j hj).2
    rw [List.length_cons, List.length_map, show (Str.ofString "\n").length = 1 by decide +kernel] at this
    omega
theorem shown_ev (B : BookOk is b js) : ∃ z : Str, _law_shown_F [bookD is b js] = .ok (.str z) none ∧ _law_owed_F [.str (rowT is), .tup (rows js)] = .ok (.str z) none := by
  have hl := B.ans.1
  obtain ⟨nb, lb⟩ := B.names
  have hm := many_ok hl
  have ht := text_ok B
  obtain ⟨z, hz⟩ := Sm_list (ds := [.str (rowT is), .tup (rows js), .tup (bx b), .str (bookT is js), .str (manyT js.length), .bl true]) (fun d h => by
    simp only [List.mem_cons, List.not_mem_nil, or_false] at h
    rcases h with rfl | rfl | rfl | rfl | rfl | rfl
    · exact (Sm_row B.n6).mono (by decide) (by decide)
    · exact (Sm_rows B.ans).mono (by decide) (by decide)
    · exact (Sm_box nb).mono (by decide) (by omega)
    · exact (Sm.str (m := 370) ht.1 ht.2).mono (by decide) (by decide)
    · exact (Sm.str (m := 20) hm.1 hm.2).mono (by decide) (by decide)
    · exact Sm.bl.mono (by decide) (by decide)) (by simp)
  have e1 : Book_first_F [.ins "Book" bookN [.str (rowT is), .tup (rows js), .tup (bx b), .lst (js.map fun j => .lst (j.map ddT))]] = _ := first_ev (is := is) (b := b) (js := js)
  have e2 : Book_answers_F [.ins "Book" bookN [.str (rowT is), .tup (rows js), .tup (bx b), .lst (js.map fun j => .lst (j.map ddT))]] = _ := answers_ev (is := is) (b := b) (js := js)
  have e3 : Book_begun_F [.ins "Book" bookN [.str (rowT is), .tup (rows js), .tup (bx b), .lst (js.map fun j => .lst (j.map ddT))]] = _ := begun_ev (is := is) (b := b) (js := js)
  have e4 : Book___str___F [.ins "Book" bookN [.str (rowT is), .tup (rows js), .tup (bx b), .lst (js.map fun j => .lst (j.map ddT))]] = _ := book_str_ev B
  have e5 : Book___repr___F [.ins "Book" bookN [.str (rowT is), .tup (rows js), .tup (bx b), .lst (js.map fun j => .lst (j.map ddT))]] = _ := book_repr_ev (is := is) (b := b) hl
  have g0 : _law_done_F [.str (rowT is), .str "ann", .str "bob", .tup []] = _ := done_rows "ann" "bob" (by decide +kernel) (by decide +kernel) B.n0 [] (by have := B.n6; simp; omega) (fun _ h => by cases h)
  rw [B.run, rs_some] at g0
  have g1 := law_text_ev B
  have g2 := str_n hl
  have g3 := add_b hl
  have g4 := add_c hl
  refine ⟨z, ?_, ?_⟩
  · unfold _law_shown_F _law_shown_b
    simp -implicitDefEqProofs only [Ev.all, Ev.all2, Ev.all3, and_self, and_true, true_and, List.getElem?_cons_zero, List.getElem?_cons_succ, List.set_cons_zero, List.set_cons_succ, List.length_cons, List.length_nil, Option.map_some, Option.bind_some, Option.map_none, Option.bind_none, List.map_cons, List.map_nil, List.cons_append, List.nil_append, List.append_nil, Nat.reduceAdd, Nat.reduceSub, Nat.zero_add, List.replicate_succ, List.replicate_zero, if_true, if_false, reduceIte, Nat.reduceLeDiff, Nat.reduceEqDiff, Bool.not_true, Bool.not_false, decide_true, decide_false, Int.reduceLT, Int.reduceLE, Bool.false_eq_true, Bool.true_eq_false, reduceCtorEq, Bool.or_false, Bool.or_true, Bool.true_or, Bool.false_or, bookD, bookV, eq_self, e1, e2, e3, e4, e5, hz]
  · unfold _law_owed_F _law_owed_b
    simp -implicitDefEqProofs only [Ev.all, Ev.all2, Ev.all3, and_self, and_true, true_and, List.getElem?_cons_zero, List.getElem?_cons_succ, List.set_cons_zero, List.set_cons_succ, List.length_cons, List.length_nil, Option.map_some, Option.bind_some, Option.map_none, Option.bind_none, List.map_cons, List.map_nil, List.cons_append, List.nil_append, List.append_nil, Nat.reduceAdd, Nat.reduceSub, Nat.zero_add, List.replicate_succ, List.replicate_zero, if_true, if_false, reduceIte, Nat.reduceLeDiff, Nat.reduceEqDiff, Bool.not_true, Bool.not_false, decide_true, decide_false, Int.reduceLT, Int.reduceLE, Bool.false_eq_true, Bool.true_eq_false, reduceCtorEq, Bool.or_false, Bool.or_true, Bool.true_or, Bool.false_or, g0, g1, g2, g3, g4, rows_len, eq_self, hz]
end PL

/-! plain law PL27 -/
set_option Elab.async false
set_option linter.all false
set_option maxRecDepth 100000
set_option maxHeartbeats 4000000
namespace PL
open PySem PySem.Spec PyProof.Rows L2 FL PF
theorem ann_name : IsName (Str.ofString "ann") := by decide +kernel
theorem bob_name : IsName (Str.ofString "bob") := by decide +kernel
theorem rng_e {n : Nat} (hn : n ≤ 1000000) {e : EF} {i : Int} {Γ Γ1 : En} (he : e Γ = .ok (.d (.int i)) Γ1) (hi : i = n) : rng1 (aCons e aNil) Γ = .ok ((List.range n).map fun i => D.int (0 + (i : Nat))) Γ1 := by
  subst hi; exact rng_v hn he
theorem first_ok {p : List D} (P : Pool p) {m : Nat} (h1 : 1 ≤ m) (h6 : m ≤ 6) :
    ∃ (is : List (Fin 8)) (b : Box) (p' : List D), _law_first_F [.lst p, .int m] = .ok (.str (rowT is)) (some (.l p')) ∧ is ≠ [] ∧ is.length ≤ m ∧ runD is "ann" "bob" [] = some b ∧ Pool p' := by
  obtain ⟨r, p1, e1, r1, r2, P1⟩ := take_ok P (n := (m : Nat)) (by omega) (by omega)
  obtain ⟨rn, rfl⟩ := Int.eq_ofNat_of_zero_le r1
  obtain ⟨Γ', l1, is, p', b', s4, s5, s6, P', hm, hr, _, _, _, rfl⟩ := for_inv (b := bName 4) (body := _law_first_x1)
    (I := fun ds Γ => ∃ (is : List (Fin 8)) (p : List D) (b' : Box) (s4 s5 s6 : Sl), Pool p ∧ is.length + ds.length ≤ m ∧ runD is "ann" "bob" [] = some b' ∧ s4.isB = false ∧ s5.isB = false ∧ s6.isB = false ∧
      Γ = [.bor (.l p), .im (.int m), .acc (.l (is.map ddS)), .im (.tup (bx b')), s4, s5, s6])
    ((List.range (rn + 1)).map fun i => D.int (0 + (i : Nat))) [.bor (.l p1), .im (.int m), .acc (.l []), .im (.tup []), .no, .no, .no]
    ⟨[], p1, [], _, _, _, P1, by simp; omega, rfl, rfl, rfl, rfl, rfl⟩
    fun x ds Γ ⟨is, p, b', s4, s5, s6, P, hm, hr, h4, h5, h6', e⟩ => by
      subst e
      rw [List.length_cons] at hm
      obtain ⟨hn, hbl⟩ := runD_all (P := IsName) ann_name bob_name hr (fun _ h => by cases h)
      have hb' : BoxOk b' := fun q hq => (hn q hq).ok
      rw [List.length_nil] at hbl
      obtain ⟨i, p1, e1, P1⟩ := some_deed_ok P ann_name.ok bob_name.ok hb' (by omega)
      have e2 := by_deed_ev i "ann" "bob" b' (by omega) hb' ann_name.ok bob_name.ok
      have e2' : _law_by_deed_F [ddS i, .str "ann", .str "bob", .tup (bx b')] = _ := e2
      have hz : (is.map ddS).length < sizeLine := by rw [List.length_map]; show _ < 2 ^ 24; omega
      cases hs : stp i "ann" "bob" b' with
      | none =>
        rw [hs, rs_none] at e2'
        have e3 : notND .non .non = some (.bl false) := rfl
        refine ⟨[.bor (.l p), .im (.int m), .acc (.l (is.map ddS)), .im (.tup (bx b')), .im x, s5, s6], by simp -implicitDefEqProofs only [Ev.all, Ev.all2, Ev.all3, and_self, and_true, true_and, List.getElem?_cons_zero, List.getElem?_cons_succ, List.set_cons_zero, List.set_cons_succ, List.length_cons, List.length_nil, Option.map_some, Option.bind_some, Option.map_none, Option.bind_none, List.map_cons, List.map_nil, List.cons_append, List.nil_append, List.append_nil, Nat.reduceAdd, Nat.reduceSub, Nat.zero_add, List.replicate_succ, List.replicate_zero, if_true, if_false, reduceIte, Nat.reduceLeDiff, Nat.reduceEqDiff, Bool.not_true, Bool.not_false, decide_true, decide_false, Int.reduceLT, Int.reduceLE, Bool.false_eq_true, Bool.true_eq_false, reduceCtorEq, Bool.or_false, Bool.or_true, Bool.true_or, Bool.false_or, h4], [.bor (.l p1), .im (.int m), .acc (.l (is.map ddS)), .im (.tup (bx b')), .im x, .im (ddS i), .im .non], .inl ?_, is, p1, b', .im x, .im (ddS i), .im .non, P1, by omega, hr, rfl, rfl, rfl, rfl⟩
        simp -implicitDefEqProofs only [_law_first_x1, Ev.all, Ev.all2, Ev.all3, and_self, and_true, true_and, List.getElem?_cons_zero, List.getElem?_cons_succ, List.set_cons_zero, List.set_cons_succ, List.length_cons, List.length_nil, Option.map_some, Option.bind_some, Option.map_none, Option.bind_none, List.map_cons, List.map_nil, List.cons_append, List.nil_append, List.append_nil, Nat.reduceAdd, Nat.reduceSub, Nat.zero_add, List.replicate_succ, List.replicate_zero, if_true, if_false, reduceIte, Nat.reduceLeDiff, Nat.reduceEqDiff, Bool.not_true, Bool.not_false, decide_true, decide_false, Int.reduceLT, Int.reduceLE, Bool.false_eq_true, Bool.true_eq_false, reduceCtorEq, Bool.or_false, Bool.or_true, Bool.true_or, Bool.false_or, e1, e2', e3, h5, h6']
      | some y =>
        rw [hs, rs_some] at e2'
        have e3 : notND (.tup (bx y)) .non = some (.bl true) := rfl
        refine ⟨[.bor (.l p), .im (.int m), .acc (.l (is.map ddS)), .im (.tup (bx b')), .im x, s5, s6], by simp -implicitDefEqProofs only [Ev.all, Ev.all2, Ev.all3, and_self, and_true, true_and, List.getElem?_cons_zero, List.getElem?_cons_succ, List.set_cons_zero, List.set_cons_succ, List.length_cons, List.length_nil, Option.map_some, Option.bind_some, Option.map_none, Option.bind_none, List.map_cons, List.map_nil, List.cons_append, List.nil_append, List.append_nil, Nat.reduceAdd, Nat.reduceSub, Nat.zero_add, List.replicate_succ, List.replicate_zero, if_true, if_false, reduceIte, Nat.reduceLeDiff, Nat.reduceEqDiff, Bool.not_true, Bool.not_false, decide_true, decide_false, Int.reduceLT, Int.reduceLE, Bool.false_eq_true, Bool.true_eq_false, reduceCtorEq, Bool.or_false, Bool.or_true, Bool.true_or, Bool.false_or, h4], [.bor (.l p1), .im (.int m), .acc (.l ((is ++ [i]).map ddS)), .im (.tup (bx y)), .im x, .im (ddS i), .im (.tup (bx y))], .inl ?_, is ++ [i], p1, y, .im x, .im (ddS i), .im (.tup (bx y)), P1, by rw [List.length_append, List.length_singleton]; omega, ?_, rfl, rfl, rfl, rfl⟩
        · rw [List.map_append, List.map_cons, List.map_nil]
          simp -implicitDefEqProofs only [_law_first_x1, Ev.all, Ev.all2, Ev.all3, and_self, and_true, true_and, List.getElem?_cons_zero, List.getElem?_cons_succ, List.set_cons_zero, List.set_cons_succ, List.length_cons, List.length_nil, Option.map_some, Option.bind_some, Option.map_none, Option.bind_none, List.map_cons, List.map_nil, List.cons_append, List.nil_append, List.append_nil, Nat.reduceAdd, Nat.reduceSub, Nat.zero_add, List.replicate_succ, List.replicate_zero, if_true, if_false, reduceIte, Nat.reduceLeDiff, Nat.reduceEqDiff, Bool.not_true, Bool.not_false, decide_true, decide_false, Int.reduceLT, Int.reduceLE, Bool.false_eq_true, Bool.true_eq_false, reduceCtorEq, Bool.or_false, Bool.or_true, Bool.true_or, Bool.false_or, e1, e2', e3, h5, h6', if_pos hz]
        · rw [run_append, hr]
          show runD [i] "ann" "bob" b' = _
          rw [run1, hs]
  have hit := rng_e (n := rn + 1) (by omega) (e := op2 addD (cE (.int 1)) (telV (callV (some 0) 2 _law_take_F [] (aCons (vE 0) (aCons (vE 1) aNil))))) (Γ := [.bor (.l p), .im (.int m), .acc (.l []), .im (.tup []), .no, .no, .no]) (i := 1 + (rn : Nat)) (Γ1 := [.bor (.l p1), .im (.int m), .acc (.l []), .im (.tup []), .no, .no, .no]) (by simp -implicitDefEqProofs only [Ev.all, Ev.all2, Ev.all3, and_self, and_true, true_and, List.getElem?_cons_zero, List.getElem?_cons_succ, List.set_cons_zero, List.set_cons_succ, List.length_cons, List.length_nil, Option.map_some, Option.bind_some, Option.map_none, Option.bind_none, List.map_cons, List.map_nil, List.cons_append, List.nil_append, List.append_nil, Nat.reduceAdd, Nat.reduceSub, Nat.zero_add, List.replicate_succ, List.replicate_zero, if_true, if_false, reduceIte, Nat.reduceLeDiff, Nat.reduceEqDiff, Bool.not_true, Bool.not_false, decide_true, decide_false, Int.reduceLT, Int.reduceLE, Bool.false_eq_true, Bool.true_eq_false, reduceCtorEq, Bool.or_false, Bool.or_true, Bool.true_or, Bool.false_or, e1]) (by omega)
  have hf := for_at hit l1
  have hne := ne_lst_nil (ds := is.map ddS) (k := 0) (n := 92) (fun d hd => by
    obtain ⟨i, _, rfl⟩ := List.mem_map.mp hd
    exact Sm_dT i) (by decide)
  have hj := join_row (is := is) (by simp at hm; omega)
  cases is with
  | nil =>
    refine ⟨[1], [(true, "bob")], p', ?_, by simp, by simp; omega, rfl, P'⟩
    rw [row1]
    unfold _law_first_F _law_first_b
    have hne : neD (.lst []) (.lst []) = some (.bl false) := hne
    have hd : dT 1 = Str.ofString "lock you" := rfl
    rw [List.map_nil] at hf
    simp -implicitDefEqProofs only [Ev.all, Ev.all2, Ev.all3, and_self, and_true, true_and, List.getElem?_cons_zero, List.getElem?_cons_succ, List.set_cons_zero, List.set_cons_succ, List.length_cons, List.length_nil, Option.map_some, Option.bind_some, Option.map_none, Option.bind_none, List.map_cons, List.map_nil, List.cons_append, List.nil_append, List.append_nil, Nat.reduceAdd, Nat.reduceSub, Nat.zero_add, List.replicate_succ, List.replicate_zero, if_true, if_false, reduceIte, Nat.reduceLeDiff, Nat.reduceEqDiff, Bool.not_true, Bool.not_false, decide_true, decide_false, Int.reduceLT, Int.reduceLE, Bool.false_eq_true, Bool.true_eq_false, reduceCtorEq, Bool.or_false, Bool.or_true, Bool.true_or, Bool.false_or, hf, hne, hd]
  | cons i is =>
    refine ⟨i :: is, b', p', ?_, by simp, by simp at hm ⊢; omega, hr, P'⟩
    have hne : neD (.lst ((i :: is).map ddS)) (.lst []) = some (.bl true) := hne
    obtain ⟨L, hL⟩ : ∃ L, L = (i :: is).map ddS := ⟨_, rfl⟩
    rw [← hL] at hf hne hj
    unfold _law_first_F _law_first_b
    simp -implicitDefEqProofs only [Ev.all, Ev.all2, Ev.all3, and_self, and_true, true_and, List.getElem?_cons_zero, List.getElem?_cons_succ, List.set_cons_zero, List.set_cons_succ, List.length_cons, List.length_nil, Option.map_some, Option.bind_some, Option.map_none, Option.bind_none, List.map_cons, List.map_nil, List.cons_append, List.nil_append, List.append_nil, Nat.reduceAdd, Nat.reduceSub, Nat.zero_add, List.replicate_succ, List.replicate_zero, if_true, if_false, reduceIte, Nat.reduceLeDiff, Nat.reduceEqDiff, Bool.not_true, Bool.not_false, decide_true, decide_false, Int.reduceLT, Int.reduceLE, Bool.false_eq_true, Bool.true_eq_false, reduceCtorEq, Bool.or_false, Bool.or_true, Bool.true_or, Bool.false_or, hf, hne, hj]
def pairs4 : List D := [.tup [.str "bob", .str "ann"], .tup [.str "ann", .str "bob"], .tup [.str "bob", .str "zed"], .tup [.str "bob", .str "bob"]]
theorem pair_at {r : Int} (h1 : 0 ≤ r) (h2 : r < 4) : ∃ d a : Str, L2.atI pairs4 r = some (.tup [.str d, .str a]) ∧ IsName d ∧ IsName a ∧ d ∈ near3 ∧ a ∈ near3 := by
  obtain ⟨x, hx, e⟩ := at_in (xs := pairs4) h1 h2
  rw [e]
  simp only [pairs4, List.mem_cons, List.not_mem_nil, or_false] at hx
  rcases hx with rfl | rfl | rfl | rfl
  · exact ⟨_, _, rfl, bob_name, ann_name, by simp [near3], by simp [near3]⟩
  · exact ⟨_, _, rfl, ann_name, bob_name, by simp [near3], by simp [near3]⟩
  · exact ⟨_, _, rfl, bob_name, zed_name, by simp [near3], by simp [near3]⟩
  · exact ⟨_, _, rfl, bob_name, bob_name, by simp [near3], by simp [near3]⟩
theorem answers_drawn {p : List D} (P : Pool p) {lo hi : Nat} (hlh : lo ≤ hi) (h4 : hi ≤ 4) :
    ∃ (js : List (List (Fin 8))) (p' : List D), _law_answers_F [.lst p, .int lo, .int hi] = .ok (.tup (rows js)) (some (.l p')) ∧ AnsOk js ∧ lo ≤ js.length ∧ js.length ≤ hi ∧ Pool p' := by
  obtain ⟨r, p1, e1, r1, r2, P1⟩ := take_ok P (n := (hi : Nat) + 1 - (lo : Nat)) (by omega) (by omega)
  obtain ⟨rn, rfl⟩ := Int.eq_ofNat_of_zero_le r1
  obtain ⟨Γ', l1, js, p', s4, s5, s6, s7, P', hm, hj, _, _, _, _, rfl⟩ := for_inv (b := bName 4) (body := _law_answers_x1)
    (I := fun ds Γ => ∃ (js : List (List (Fin 8))) (p : List D) (s4 s5 s6 s7 : Sl), Pool p ∧ js.length + ds.length = lo + rn ∧ (∀ j ∈ js, j ≠ [] ∧ j.length ≤ 6) ∧ s4.isB = false ∧ s5.isB = false ∧ s6.isB = false ∧ s7.isB = false ∧
      Γ = [.bor (.l p), .im (.int lo), .im (.int hi), .acc (.l (rows js)), s4, s5, s6, s7])
    ((List.range (lo + rn)).map fun i => D.int (0 + (i : Nat))) [.bor (.l p1), .im (.int lo), .im (.int hi), .acc (.l []), .no, .no, .no, .no]
    ⟨[], p1, _, _, _, _, P1, by simp, (fun _ h => by cases h), rfl, rfl, rfl, rfl, rfl⟩
    fun x ds Γ ⟨js, p, s4, s5, s6, s7, P, hm, hj, h4', h5, h6, h7, e⟩ => by
      subst e
      rw [List.length_cons] at hm
      obtain ⟨r, q1, f1, t1, t2, Q1⟩ := take_ok P (n := 4) (by decide) (by decide)
      obtain ⟨d, a, f2, hd, ha, _, _⟩ := pair_at t1 t2
      obtain ⟨b, q2, f3, b1, b2, Q2⟩ := boxed_ok Q1 (ns := near3) near3_ok (by decide) (by decide) (m := 4) (by decide)
      have hb : BoxOk b := fun q hq => (near3_ok _ (b2 q hq)).ok
      have c4 : ((4 : Nat) : Int) = 4 := rfl
      simp only [near3, List.map_cons, List.map_nil, c4] at f3
      obtain ⟨m, q3, f4, m1, m2, Q3⟩ := take_ok Q2 (n := 6) (by decide) (by decide)
      obtain ⟨mn, rfl⟩ := Int.eq_ofNat_of_zero_le m1
      obtain ⟨is, q4, f5, il, Q4⟩ := row_ok Q3 hd.ok ha.ok hb (m := mn + 1) (by omega)
      have cm : ((mn + 1 : Nat) : Int) = 1 + (mn : Int) := by omega
      rw [cm] at f5
      have hz : (rows js).length < sizeLine := by rw [rows_len]; show _ < 2 ^ 24; omega
      simp only [pairs4] at f2
      refine ⟨[.bor (.l p), .im (.int lo), .im (.int hi), .acc (.l (rows js)), .im x, s5, s6, s7], by simp -implicitDefEqProofs only [Ev.all, Ev.all2, Ev.all3, and_self, and_true, true_and, List.getElem?_cons_zero, List.getElem?_cons_succ, List.set_cons_zero, List.set_cons_succ, List.length_cons, List.length_nil, Option.map_some, Option.bind_some, Option.map_none, Option.bind_none, List.map_cons, List.map_nil, List.cons_append, List.nil_append, List.append_nil, Nat.reduceAdd, Nat.reduceSub, Nat.zero_add, List.replicate_succ, List.replicate_zero, if_true, if_false, reduceIte, Nat.reduceLeDiff, Nat.reduceEqDiff, Bool.not_true, Bool.not_false, decide_true, decide_false, Int.reduceLT, Int.reduceLE, Bool.false_eq_true, Bool.true_eq_false, reduceCtorEq, Bool.or_false, Bool.or_true, Bool.true_or, Bool.false_or, h4'], [.bor (.l q4), .im (.int lo), .im (.int hi), .acc (.l (rows (js ++ [is]))), .im x, .im (.str d), .im (.str a), .im (.tup (bx b))], .inl ?_, js ++ [is], q4, .im x, .im (.str d), .im (.str a), .im (.tup (bx b)), Q4, by rw [List.length_append, List.length_singleton]; omega, ?_, rfl, rfl, rfl, rfl, rfl⟩
      · rw [show rows (js ++ [is]) = rows js ++ [.str (rowT is)] by unfold rows; rw [List.map_append]; rfl]
        simp -implicitDefEqProofs only [_law_answers_x1, Ev.all, Ev.all2, Ev.all3, and_self, and_true, true_and, List.getElem?_cons_zero, List.getElem?_cons_succ, List.set_cons_zero, List.set_cons_succ, List.length_cons, List.length_nil, Option.map_some, Option.bind_some, Option.map_none, Option.bind_none, List.map_cons, List.map_nil, List.cons_append, List.nil_append, List.append_nil, Nat.reduceAdd, Nat.reduceSub, Nat.zero_add, List.replicate_succ, List.replicate_zero, if_true, if_false, reduceIte, Nat.reduceLeDiff, Nat.reduceEqDiff, Bool.not_true, Bool.not_false, decide_true, decide_false, Int.reduceLT, Int.reduceLE, Bool.false_eq_true, Bool.true_eq_false, reduceCtorEq, Bool.or_false, Bool.or_true, Bool.true_or, Bool.false_or, f1, f2, f3, f4, f5, h5, h6, h7, if_pos hz]
      · intro j hj'
        rcases List.mem_append.mp hj' with h | h
        · exact hj j h
        · rw [List.mem_singleton.mp h]
          exact ⟨ne_nil_of il, by omega⟩
  have hit := rng_e (n := lo + rn) (by omega) (e := op2 addD (vE 1) (telV (callV (some 0) 2 _law_take_F [] (aCons (vE 0) (aCons (op2 subD (op2 addD (vE 2) (cE (.int 1))) (vE 1)) aNil))))) (Γ := [.bor (.l p), .im (.int lo), .im (.int hi), .acc (.l []), .no, .no, .no, .no]) (i := (lo : Nat) + (rn : Nat)) (Γ1 := [.bor (.l p1), .im (.int lo), .im (.int hi), .acc (.l []), .no, .no, .no, .no]) (by simp -implicitDefEqProofs only [Ev.all, Ev.all2, Ev.all3, and_self, and_true, true_and, List.getElem?_cons_zero, List.getElem?_cons_succ, List.set_cons_zero, List.set_cons_succ, List.length_cons, List.length_nil, Option.map_some, Option.bind_some, Option.map_none, Option.bind_none, List.map_cons, List.map_nil, List.cons_append, List.nil_append, List.append_nil, Nat.reduceAdd, Nat.reduceSub, Nat.zero_add, List.replicate_succ, List.replicate_zero, if_true, if_false, reduceIte, Nat.reduceLeDiff, Nat.reduceEqDiff, Bool.not_true, Bool.not_false, decide_true, decide_false, Int.reduceLT, Int.reduceLE, Bool.false_eq_true, Bool.true_eq_false, reduceCtorEq, Bool.or_false, Bool.or_true, Bool.true_or, Bool.false_or, e1]) (by omega)
  have hf := for_at hit l1
  simp at hm
  refine ⟨js, p', ?_, ⟨by omega, hj⟩, by omega, by omega, P'⟩
  unfold _law_answers_F _law_answers_b
  simp -implicitDefEqProofs only [Ev.all, Ev.all2, Ev.all3, and_self, and_true, true_and, List.getElem?_cons_zero, List.getElem?_cons_succ, List.set_cons_zero, List.set_cons_succ, List.length_cons, List.length_nil, Option.map_some, Option.bind_some, Option.map_none, Option.bind_none, List.map_cons, List.map_nil, List.cons_append, List.nil_append, List.append_nil, Nat.reduceAdd, Nat.reduceSub, Nat.zero_add, List.replicate_succ, List.replicate_zero, if_true, if_false, reduceIte, Nat.reduceLeDiff, Nat.reduceEqDiff, Bool.not_true, Bool.not_false, decide_true, decide_false, Int.reduceLT, Int.reduceLE, Bool.false_eq_true, Bool.true_eq_false, reduceCtorEq, Bool.or_false, Bool.or_true, Bool.true_or, Bool.false_or, hf]
end PL

/-! plain law PL28 -/
set_option Elab.async false
set_option linter.all false
set_option maxRecDepth 100000
set_option maxHeartbeats 4000000
namespace PL
open PySem PySem.Spec PyProof.Rows L2 FL PF
theorem rng_nats (n : Nat) : ((List.range n).map fun i => D.int (0 + (i : Nat))) = nats (List.range n) := by
  unfold nats
  exact List.map_congr_left fun i _ => by rw [Int.zero_add]
theorem Inc.down {k k' n : Nat} (h : k ≤ k') : ∀ {cs : List Nat}, Inc k' n cs → Inc k n cs
  | [], _ => trivial
  | c :: cs, ⟨h1, h2, h3⟩ => ⟨by omega, h2, h3⟩
theorem inc_range' {P : Nat → Bool} {n : Nat} : ∀ (m k : Nat), k + m ≤ n → Inc k n ((List.range' k m).filter P)
  | 0, k, _ => trivial
  | m + 1, k, h => by
    rw [List.range'_succ]
    have ih := inc_range' (P := P) (n := n) m (k + 1) (by omega)
    cases hp : P k with
    | true => rw [List.filter_cons_of_pos hp]; exact ⟨Nat.le_refl _, by omega, ih⟩
    | false => rw [List.filter_cons_of_neg (by rw [hp]; decide)]; exact ih.down (by omega)
theorem inc_filter {P : Nat → Bool} {n : Nat} : Inc 0 n ((List.range n).filter P) := by
  rw [List.range_eq_range']
  exact inc_range' n 0 (by omega)
def pw (k : Nat) : Int := (2 ^ k : Nat)
theorem pw_at {k : Nat} (h : k < 4) : L2.atI [D.int 1, D.int 2, D.int 4, D.int 8] (k : Nat) = some (.int (pw k)) := by
  rcases (by omega : k = 0 ∨ k = 1 ∨ k = 2 ∨ k = 3) with h | h | h | h <;> subst h <;> rfl
theorem pw_div {k : Nat} (h : k < 4) (c : Int) : fdivD (.int c) (.int (pw k)) = some (.int (c / pw k)) := by
  rw [Ev.fdivI, if_pos]
  rcases (by omega : k = 0 ∨ k = 1 ∨ k = 2 ∨ k = 3) with h | h | h | h <;> subst h <;> decide
def bitB (c : Int) (k : Nat) : Bool := decide (c / pw k % 2 = 1)
def chosen (n : Nat) (c : Int) : List Nat := (List.range n).filter (bitB c)
theorem at_rows {js : List (List (Fin 8))} {k : Nat} (h : k < js.length) : L2.atI (rows js) (k : Nat) = some (.str (rowT (js.getD k []))) := by
  rw [Ev.atI]
  unfold rows
  rw [List.getElem?_map, List.getElem?_eq_getElem h]
  show some (D.str (rowT js[k])) = _
  rw [List.getD_eq_getElem?_getD, List.getElem?_eq_getElem h]; rfl
theorem mod2 (i : Int) : modD (.int i) (.int 2) = some (.int (i % 2)) := rfl
theorem ne_bl (d : Bool) : neD (.bl d) (.bl d) = some (.bl false) := by cases d <;> kernel_rfl
theorem ins_without : bookN.contains "without" = false := by kernel_rfl
theorem cs_book : (["Book"] : List Str).contains "Book" = true := by kernel_rfl
variable {is : List (Fin 8)} {b : Box} {js : List (List (Fin 8))}
theorem all2T : allD (.lst [.bl true, .bl true]) = some (.bl true) := rfl
theorem turn_k12 (B : BookOk is b js) {p0 S3 s6 s7 s8 : Sl} {c : Int} (h3 : S3 = .acc (.i "Book" bookN (bookV is b js)) ∨ S3 = .im (.ins "Book" bookN (bookV is b js))) (h6 : s6.isB = false) (h7 : s7.isB = false) (h8 : s8.isB = false) :
    ∃ s6' s7' s8', _law_right_5_x6 [p0, .im (.str (rowT is)), .im (.tup (rows js)), S3, .im (.int (js.length : Nat)), .im (.int c), s6, s7, s8, .no, .no] =
      .ok .nx [p0, .im (.str (rowT is)), .im (.tup (rows js)), .im (.ins "Book" bookN (bookV is b js)), .im (.int (js.length : Nat)), .im (.int c), s6', s7', s8', .no, .no] ∧ s6'.isB = false ∧ s7'.isB = false ∧ s8'.isB = false := by
  have hl := B.ans.1
  -- the chosen
  have hc : ∀ s6 s7 s8 : Sl, compV [9] (rng1 (aCons (vE 4) aNil)) (bName 9) _law_right_5_x5 _law_right_5_x4 [p0, .im (.str (rowT is)), .im (.tup (rows js)), S3, .im (.int (js.length : Nat)), .im (.int c), s6, s7, s8, .no, .no] = .ok (.n (.l (nats (chosen js.length c)))) [p0, .im (.str (rowT is)), .im (.tup (rows js)), S3, .im (.int (js.length : Nat)), .im (.int c), s6, s7, s8, .no, .no] := fun s6 s7 s8 => by
    have h1 := cmp_gen (vs := [9]) (b := bName 9) (tt := _law_right_5_x5) (elt := _law_right_5_x4) (a := fun i : Nat => D.int (i : Nat)) (c := fun i : Nat => D.int (i : Nat)) (P := bitB c)
      (Γ := [p0, .im (.str (rowT is)), .im (.tup (rows js)), S3, .im (.int (js.length : Nat)), .im (.int c), s6, s7, s8, .no, .no]) rfl (List.range js.length) [] (by rw [List.length_range]; simp; omega) fun k hk => by
        have hk4 : k < 4 := by have := List.mem_range.mp hk; omega
        have a1 := pw_at hk4
        have a2 := pw_div hk4 c
        have a3 := mod2 (c / pw k)
        have a4 : eqD (.int (c / pw k % 2)) (.int 1) = some (.bl (bitB c k)) := Ev.eqI
        refine ⟨[p0, .im (.str (rowT is)), .im (.tup (rows js)), S3, .im (.int (js.length : Nat)), .im (.int c), s6, s7, s8, .im (.int (k : Nat)), .no], by simp -implicitDefEqProofs only [Ev.all, Ev.all2, Ev.all3, and_self, and_true, true_and, List.getElem?_cons_zero, List.getElem?_cons_succ, List.set_cons_zero, List.set_cons_succ, List.length_cons, List.length_nil, Option.map_some, Option.bind_some, Option.map_none, Option.bind_none, List.map_cons, List.map_nil, List.cons_append, List.nil_append, List.append_nil, Nat.reduceAdd, Nat.reduceSub, Nat.zero_add, List.replicate_succ, List.replicate_zero, if_true, if_false, reduceIte, Nat.reduceLeDiff, Nat.reduceEqDiff, Bool.not_true, Bool.not_false, decide_true, decide_false, Int.reduceLT, Int.reduceLE, Bool.false_eq_true, Bool.true_eq_false, reduceCtorEq, Bool.or_false, Bool.or_true, Bool.true_or, Bool.false_or], ?_, ?_, rfl⟩
        · simp -implicitDefEqProofs only [_law_right_5_x5, a1, a2, a3, a4, Ev.all, Ev.all2, Ev.all3, and_self, and_true, true_and, List.getElem?_cons_zero, List.getElem?_cons_succ, List.set_cons_zero, List.set_cons_succ, List.length_cons, List.length_nil, Option.map_some, Option.bind_some, Option.map_none, Option.bind_none, List.map_cons, List.map_nil, List.cons_append, List.nil_append, List.append_nil, Nat.reduceAdd, Nat.reduceSub, Nat.zero_add, List.replicate_succ, List.replicate_zero, if_true, if_false, reduceIte, Nat.reduceLeDiff, Nat.reduceEqDiff, Bool.not_true, Bool.not_false, decide_true, decide_false, Int.reduceLT, Int.reduceLE, Bool.false_eq_true, Bool.true_eq_false, reduceCtorEq, Bool.or_false, Bool.or_true, Bool.true_or, Bool.false_or]
        · simp -implicitDefEqProofs only [_law_right_5_x4, Ev.all, Ev.all2, Ev.all3, and_self, and_true, true_and, List.getElem?_cons_zero, List.getElem?_cons_succ, List.set_cons_zero, List.set_cons_succ, List.length_cons, List.length_nil, Option.map_some, Option.bind_some, Option.map_none, Option.bind_none, List.map_cons, List.map_nil, List.cons_append, List.nil_append, List.append_nil, Nat.reduceAdd, Nat.reduceSub, Nat.zero_add, List.replicate_succ, List.replicate_zero, if_true, if_false, reduceIte, Nat.reduceLeDiff, Nat.reduceEqDiff, Bool.not_true, Bool.not_false, decide_true, decide_false, Int.reduceLT, Int.reduceLE, Bool.false_eq_true, Bool.true_eq_false, reduceCtorEq, Bool.or_false, Bool.or_true, Bool.true_or, Bool.false_or]
    have h2 := rng_v (n := js.length) (by omega) (e := vE 4) (Γ := [p0, .im (.str (rowT is)), .im (.tup (rows js)), S3, .im (.int (js.length : Nat)), .im (.int c), s6, s7, s8, .no, .no]) (Γ1 := [p0, .im (.str (rowT is)), .im (.tup (rows js)), S3, .im (.int (js.length : Nat)), .im (.int c), s6, s7, s8, .no, .no]) (by simp -implicitDefEqProofs only [Ev.all, Ev.all2, Ev.all3, and_self, and_true, true_and, List.getElem?_cons_zero, List.getElem?_cons_succ, List.set_cons_zero, List.set_cons_succ, List.length_cons, List.length_nil, Option.map_some, Option.bind_some, Option.map_none, Option.bind_none, List.map_cons, List.map_nil, List.cons_append, List.nil_append, List.append_nil, Nat.reduceAdd, Nat.reduceSub, Nat.zero_add, List.replicate_succ, List.replicate_zero, if_true, if_false, reduceIte, Nat.reduceLeDiff, Nat.reduceEqDiff, Bool.not_true, Bool.not_false, decide_true, decide_false, Int.reduceLT, Int.reduceLE, Bool.false_eq_true, Bool.true_eq_false, reduceCtorEq, Bool.or_false, Bool.or_true, Bool.true_or, Bool.false_or])
    rw [rng_nats] at h2
    exact comp_at h2 rfl h1
  have hd : ∀ s7 s8 : Sl, compV [9] (rng1 (aCons (vE 4) aNil)) (bName 9) _law_right_5_x3 _law_right_5_x2 [p0, .im (.str (rowT is)), .im (.tup (rows js)), S3, .im (.int (js.length : Nat)), .im (.int c), .im (.tup (nats (chosen js.length c))), s7, s8, .no, .no] = .ok (.n (.l (rows (leftJ (chosen js.length c) js)))) [p0, .im (.str (rowT is)), .im (.tup (rows js)), S3, .im (.int (js.length : Nat)), .im (.int c), .im (.tup (nats (chosen js.length c))), s7, s8, .no, .no] := fun s7 s8 => by
    have h1 := cmp_gen (vs := [9]) (b := bName 9) (tt := _law_right_5_x3) (elt := _law_right_5_x2) (a := fun i : Nat => D.int (i : Nat)) (c := fun i : Nat => D.str (rowT (js.getD i []))) (P := fun i => !decide (i ∈ chosen js.length c))
      (Γ := [p0, .im (.str (rowT is)), .im (.tup (rows js)), S3, .im (.int (js.length : Nat)), .im (.int c), .im (.tup (nats (chosen js.length c))), s7, s8, .no, .no]) rfl (List.range js.length) [] (by rw [List.length_range]; simp; omega) fun k hk => by
        have a1 := nin_nats k (chosen js.length c)
        have a2 := at_rows (List.mem_range.mp hk)
        refine ⟨[p0, .im (.str (rowT is)), .im (.tup (rows js)), S3, .im (.int (js.length : Nat)), .im (.int c), .im (.tup (nats (chosen js.length c))), s7, s8, .im (.int (k : Nat)), .no], by simp -implicitDefEqProofs only [Ev.all, Ev.all2, Ev.all3, and_self, and_true, true_and, List.getElem?_cons_zero, List.getElem?_cons_succ, List.set_cons_zero, List.set_cons_succ, List.length_cons, List.length_nil, Option.map_some, Option.bind_some, Option.map_none, Option.bind_none, List.map_cons, List.map_nil, List.cons_append, List.nil_append, List.append_nil, Nat.reduceAdd, Nat.reduceSub, Nat.zero_add, List.replicate_succ, List.replicate_zero, if_true, if_false, reduceIte, Nat.reduceLeDiff, Nat.reduceEqDiff, Bool.not_true, Bool.not_false, decide_true, decide_false, Int.reduceLT, Int.reduceLE, Bool.false_eq_true, Bool.true_eq_false, reduceCtorEq, Bool.or_false, Bool.or_true, Bool.true_or, Bool.false_or], ?_, ?_, rfl⟩
        · simp -implicitDefEqProofs only [_law_right_5_x3, a1, Ev.all, Ev.all2, Ev.all3, and_self, and_true, true_and, List.getElem?_cons_zero, List.getElem?_cons_succ, List.set_cons_zero, List.set_cons_succ, List.length_cons, List.length_nil, Option.map_some, Option.bind_some, Option.map_none, Option.bind_none, List.map_cons, List.map_nil, List.cons_append, List.nil_append, List.append_nil, Nat.reduceAdd, Nat.reduceSub, Nat.zero_add, List.replicate_succ, List.replicate_zero, if_true, if_false, reduceIte, Nat.reduceLeDiff, Nat.reduceEqDiff, Bool.not_true, Bool.not_false, decide_true, decide_false, Int.reduceLT, Int.reduceLE, Bool.false_eq_true, Bool.true_eq_false, reduceCtorEq, Bool.or_false, Bool.or_true, Bool.true_or, Bool.false_or]
        · simp -implicitDefEqProofs only [_law_right_5_x2, a2, Ev.getT, Ev.all, Ev.all2, Ev.all3, and_self, and_true, true_and, List.getElem?_cons_zero, List.getElem?_cons_succ, List.set_cons_zero, List.set_cons_succ, List.length_cons, List.length_nil, Option.map_some, Option.bind_some, Option.map_none, Option.bind_none, List.map_cons, List.map_nil, List.cons_append, List.nil_append, List.append_nil, Nat.reduceAdd, Nat.reduceSub, Nat.zero_add, List.replicate_succ, List.replicate_zero, if_true, if_false, reduceIte, Nat.reduceLeDiff, Nat.reduceEqDiff, Bool.not_true, Bool.not_false, decide_true, decide_false, Int.reduceLT, Int.reduceLE, Bool.false_eq_true, Bool.true_eq_false, reduceCtorEq, Bool.or_false, Bool.or_true, Bool.true_or, Bool.false_or]
    have h2 := rng_v (n := js.length) (by omega) (e := vE 4) (Γ := [p0, .im (.str (rowT is)), .im (.tup (rows js)), S3, .im (.int (js.length : Nat)), .im (.int c), .im (.tup (nats (chosen js.length c))), s7, s8, .no, .no]) (Γ1 := [p0, .im (.str (rowT is)), .im (.tup (rows js)), S3, .im (.int (js.length : Nat)), .im (.int c), .im (.tup (nats (chosen js.length c))), s7, s8, .no, .no]) (by simp -implicitDefEqProofs only [Ev.all, Ev.all2, Ev.all3, and_self, and_true, true_and, List.getElem?_cons_zero, List.getElem?_cons_succ, List.set_cons_zero, List.set_cons_succ, List.length_cons, List.length_nil, Option.map_some, Option.bind_some, Option.map_none, Option.bind_none, List.map_cons, List.map_nil, List.cons_append, List.nil_append, List.append_nil, Nat.reduceAdd, Nat.reduceSub, Nat.zero_add, List.replicate_succ, List.replicate_zero, if_true, if_false, reduceIte, Nat.reduceLeDiff, Nat.reduceEqDiff, Bool.not_true, Bool.not_false, decide_true, decide_false, Int.reduceLT, Int.reduceLE, Bool.false_eq_true, Bool.true_eq_false, reduceCtorEq, Bool.or_false, Bool.or_true, Bool.true_or, Bool.false_or])
    rw [rng_nats] at h2
    rw [show (([] : List D) ++ ((List.range js.length).filter fun i => !decide (i ∈ chosen js.length c)).map fun i => D.str (rowT (js.getD i []))) = rows (leftJ (chosen js.length c) js) by rw [leftJ_range]; unfold rows; rw [List.map_map]; rfl] at h1
    exact comp_at h2 rfl h1
  have w := without_ev B (cs := chosen js.length c) inc_filter
  unfold bookD at w
  obtain ⟨z, z1, z2⟩ := shown_ev (B.left (chosen js.length c))
  obtain ⟨y, y1, y2⟩ := shown_ev B
  unfold bookD at z1 y1
  have hz : eqD (.str z) (.str z) = some (.bl true) := by rw [Ev.eqS, decide_eq_true rfl]
  have hy : neD (.str y) (.str y) = some (.bl false) := by rw [Ev.neS, decide_eq_true rfl]; rfl
  have he : compV [10] (anyI (vE 8)) (bName 10) trueT _law_right_5_x1 [p0, .im (.str (rowT is)), .im (.tup (rows js)), .im (.ins "Book" bookN (bookV is b js)), .im (.int (js.length : Nat)), .im (.int c), .im (.tup (nats (chosen js.length c))), .im (.tup (rows (leftJ (chosen js.length c) js))), .acc (.l [.ins "Book" bookN (bookV is b (leftJ (chosen js.length c) js)), .ins "Book" bookN (bookV is b (leftJ (chosen js.length c) js))]), .no, .no] =
      .ok (.n (.l [.bl true, .bl true])) [p0, .im (.str (rowT is)), .im (.tup (rows js)), .im (.ins "Book" bookN (bookV is b js)), .im (.int (js.length : Nat)), .im (.int c), .im (.tup (nats (chosen js.length c))), .im (.tup (rows (leftJ (chosen js.length c) js))), .im (.lst [.ins "Book" bookN (bookV is b (leftJ (chosen js.length c) js)), .ins "Book" bookN (bookV is b (leftJ (chosen js.length c) js))]), .no, .no] := by
    have h1 := cmp_map (vs := [10]) (b := bName 10) (elt := _law_right_5_x1) (g := fun _ => .bl true) (Γ := [p0, .im (.str (rowT is)), .im (.tup (rows js)), .im (.ins "Book" bookN (bookV is b js)), .im (.int (js.length : Nat)), .im (.int c), .im (.tup (nats (chosen js.length c))), .im (.tup (rows (leftJ (chosen js.length c) js))), .im (.lst [.ins "Book" bookN (bookV is b (leftJ (chosen js.length c) js)), .ins "Book" bookN (bookV is b (leftJ (chosen js.length c) js))]), .no, .no]) rfl
      (ds := [.ins "Book" bookN (bookV is b (leftJ (chosen js.length c) js)), .ins "Book" bookN (bookV is b (leftJ (chosen js.length c) js))]) (by simp) fun d hd => by
        have hd : d = .ins "Book" bookN (bookV is b (leftJ (chosen js.length c) js)) := by simpa using hd
        subst hd
        refine ⟨[p0, .im (.str (rowT is)), .im (.tup (rows js)), .im (.ins "Book" bookN (bookV is b js)), .im (.int (js.length : Nat)), .im (.int c), .im (.tup (nats (chosen js.length c))), .im (.tup (rows (leftJ (chosen js.length c) js))), .im (.lst [.ins "Book" bookN (bookV is b (leftJ (chosen js.length c) js)), .ins "Book" bookN (bookV is b (leftJ (chosen js.length c) js))]), .no, .im (.ins "Book" bookN (bookV is b (leftJ (chosen js.length c) js)))], by simp -implicitDefEqProofs only [Ev.all, Ev.all2, Ev.all3, and_self, and_true, true_and, List.getElem?_cons_zero, List.getElem?_cons_succ, List.set_cons_zero, List.set_cons_succ, List.length_cons, List.length_nil, Option.map_some, Option.bind_some, Option.map_none, Option.bind_none, List.map_cons, List.map_nil, List.cons_append, List.nil_append, List.append_nil, Nat.reduceAdd, Nat.reduceSub, Nat.zero_add, List.replicate_succ, List.replicate_zero, if_true, if_false, reduceIte, Nat.reduceLeDiff, Nat.reduceEqDiff, Bool.not_true, Bool.not_false, decide_true, decide_false, Int.reduceLT, Int.reduceLE, Bool.false_eq_true, Bool.true_eq_false, reduceCtorEq, Bool.or_false, Bool.or_true, Bool.true_or, Bool.false_or], ?_, rfl⟩
        simp -implicitDefEqProofs only [_law_right_5_x1, Ev.all, Ev.all2, Ev.all3, and_self, and_true, true_and, List.getElem?_cons_zero, List.getElem?_cons_succ, List.set_cons_zero, List.set_cons_succ, List.length_cons, List.length_nil, Option.map_some, Option.bind_some, Option.map_none, Option.bind_none, List.map_cons, List.map_nil, List.cons_append, List.nil_append, List.append_nil, Nat.reduceAdd, Nat.reduceSub, Nat.zero_add, List.replicate_succ, List.replicate_zero, if_true, if_false, reduceIte, Nat.reduceLeDiff, Nat.reduceEqDiff, Bool.not_true, Bool.not_false, decide_true, decide_false, Int.reduceLT, Int.reduceLE, Bool.false_eq_true, Bool.true_eq_false, reduceCtorEq, Bool.or_false, Bool.or_true, Bool.true_or, Bool.false_or, z1, z2, hz]
    exact comp_at (by simp -implicitDefEqProofs only [Ev.all, Ev.all2, Ev.all3, and_self, and_true, true_and, List.getElem?_cons_zero, List.getElem?_cons_succ, List.set_cons_zero, List.set_cons_succ, List.length_cons, List.length_nil, Option.map_some, Option.bind_some, Option.map_none, Option.bind_none, List.map_cons, List.map_nil, List.cons_append, List.nil_append, List.append_nil, Nat.reduceAdd, Nat.reduceSub, Nat.zero_add, List.replicate_succ, List.replicate_zero, if_true, if_false, reduceIte, Nat.reduceLeDiff, Nat.reduceEqDiff, Bool.not_true, Bool.not_false, decide_true, decide_false, Int.reduceLT, Int.reduceLE, Bool.false_eq_true, Bool.true_eq_false, reduceCtorEq, Bool.or_false, Bool.or_true, Bool.true_or, Bool.false_or]) rfl h1
  have i1 := (B.left (chosen js.length c)).init
  have q1 := book_eq_ev is is b b (leftJ (chosen js.length c) js) (leftJ (chosen js.length c) js)
  have q2 := book_eq_ev is is b b (leftJ (chosen js.length c) js) js
  unfold bookD at q1 q2
  rw [decide_eq_true rfl, decide_eq_true rfl, Bool.and_self] at q1
  rw [decide_eq_true (rfl : rowT is = rowT is), Bool.true_and] at q2
  have q3 := eq_rows (leftJ (chosen js.length c) js) js
  have q4 := ne_bl (decide ((leftJ (chosen js.length c) js).map rowT = js.map rowT))
  refine ⟨.im (.tup (nats (chosen js.length c))), .im (.tup (rows (leftJ (chosen js.length c) js))), .im (.lst [.ins "Book" bookN (bookV is b (leftJ (chosen js.length c) js)), .ins "Book" bookN (bookV is b (leftJ (chosen js.length c) js))]), ?_, rfl, rfl, rfl⟩
  rcases h3 with rfl | rfl
  · simp -implicitDefEqProofs only [_law_right_5_x6, Ev.all, Ev.all2, Ev.all3, and_self, and_true, true_and, List.getElem?_cons_zero, List.getElem?_cons_succ, List.set_cons_zero, List.set_cons_succ, List.length_cons, List.length_nil, Option.map_some, Option.bind_some, Option.map_none, Option.bind_none, List.map_cons, List.map_nil, List.cons_append, List.nil_append, List.append_nil, Nat.reduceAdd, Nat.reduceSub, Nat.zero_add, List.replicate_succ, List.replicate_zero, if_true, if_false, reduceIte, Nat.reduceLeDiff, Nat.reduceEqDiff, Bool.not_true, Bool.not_false, decide_true, decide_false, Int.reduceLT, Int.reduceLE, Bool.false_eq_true, Bool.true_eq_false, reduceCtorEq, Bool.or_false, Bool.or_true, Bool.true_or, Bool.false_or, Bool.and_self, Bool.true_and, Bool.and_true, eq_self, hc, hd, h6, h7, h8, ins_without, eq_self, w, he, all2T, Ev.getL, Ev.atI0, Ev.atI1, i1, cs_book, q1, q2, q3, q4, y1, y2, hy]
  · simp -implicitDefEqProofs only [_law_right_5_x6, Ev.all, Ev.all2, Ev.all3, and_self, and_true, true_and, List.getElem?_cons_zero, List.getElem?_cons_succ, List.set_cons_zero, List.set_cons_succ, List.length_cons, List.length_nil, Option.map_some, Option.bind_some, Option.map_none, Option.bind_none, List.map_cons, List.map_nil, List.cons_append, List.nil_append, List.append_nil, Nat.reduceAdd, Nat.reduceSub, Nat.zero_add, List.replicate_succ, List.replicate_zero, if_true, if_false, reduceIte, Nat.reduceLeDiff, Nat.reduceEqDiff, Bool.not_true, Bool.not_false, decide_true, decide_false, Int.reduceLT, Int.reduceLE, Bool.false_eq_true, Bool.true_eq_false, reduceCtorEq, Bool.or_false, Bool.or_true, Bool.true_or, Bool.false_or, Bool.and_self, Bool.true_and, Bool.and_true, eq_self, hc, hd, h6, h7, h8, ins_without, eq_self, w, he, all2T, Ev.getL, Ev.atI0, Ev.atI1, i1, cs_book, q1, q2, q3, q4, y1, y2, hy]
theorem leftJ_nil (js : List (List (Fin 8))) : leftJ [] js = js := by
  unfold leftJ
  rw [List.filter_eq_self.mpr (fun p _ => by simp), List.zipIdx_map_fst]
theorem loop_k12 (B : BookOk is b js) {p0 : Sl} : ∀ (cs : List Nat) (S3 s5 s6 s7 s8 : Sl), S3 = .acc (.i "Book" bookN (bookV is b js)) ∨ S3 = .im (.ins "Book" bookN (bookV is b js)) → s5.isB = false → s6.isB = false → s7.isB = false → s8.isB = false →
    ∃ S3' s5' s6' s7' s8', loopS (bName 5) _law_right_5_x6 (nats cs) [p0, .im (.str (rowT is)), .im (.tup (rows js)), S3, .im (.int (js.length : Nat)), s5, s6, s7, s8, .no, .no] =
      .ok .nx [p0, .im (.str (rowT is)), .im (.tup (rows js)), S3', .im (.int (js.length : Nat)), s5', s6', s7', s8', .no, .no] ∧ (S3' = .acc (.i "Book" bookN (bookV is b js)) ∨ S3' = .im (.ins "Book" bookN (bookV is b js)))
  | [], S3, s5, s6, s7, s8, h3, _, _, _, _ => ⟨S3, s5, s6, s7, s8, rfl, h3⟩
  | c :: cs, S3, s5, s6, s7, s8, h3, h5, h6, h7, h8 => by
    obtain ⟨s6', s7', s8', e, k6, k7, k8⟩ := turn_k12 B (p0 := p0) (c := (c : Nat)) h3 h6 h7 h8
    obtain ⟨S3', t5, t6, t7, t8, ih, k3⟩ := loop_k12 B (p0 := p0) cs (.im (.ins "Book" bookN (bookV is b js))) (.im (.int (c : Nat))) s6' s7' s8' (.inr rfl) rfl k6 k7 k8
    refine ⟨S3', t5, t6, t7, t8, Eq.trans (loop_cons (Γ1 := [p0, .im (.str (rowT is)), .im (.tup (rows js)), S3, .im (.int (js.length : Nat)), .im (.int (c : Nat)), s6, s7, s8, .no, .no]) ?_ e) ih, k3⟩
    simp -implicitDefEqProofs only [Ev.all, Ev.all2, Ev.all3, and_self, and_true, true_and, List.getElem?_cons_zero, List.getElem?_cons_succ, List.set_cons_zero, List.set_cons_succ, List.length_cons, List.length_nil, Option.map_some, Option.bind_some, Option.map_none, Option.bind_none, List.map_cons, List.map_nil, List.cons_append, List.nil_append, List.append_nil, Nat.reduceAdd, Nat.reduceSub, Nat.zero_add, List.replicate_succ, List.replicate_zero, if_true, if_false, reduceIte, Nat.reduceLeDiff, Nat.reduceEqDiff, Bool.not_true, Bool.not_false, decide_true, decide_false, Int.reduceLT, Int.reduceLE, Bool.false_eq_true, Bool.true_eq_false, reduceCtorEq, Bool.or_false, Bool.or_true, Bool.true_or, Bool.false_or, h5]
theorem again_ok {p : List D} (P : Pool p) (hj : AnsOk js) {s1 s3 s4 s5 s6 s7 s8 s9 s10 : Sl} :
    ∃ (js' : List (List (Fin 8))) (p' : List D), AnsOk js' ∧ Pool p' ∧ ifS (andT (tstE (op2 neD (vE 2) (tupE aNil))) (tstE (op2 eqD (telV (callV (some 0) 2 _law_take_F [] (aCons (vE 0) (aCons (cE (.int 3)) aNil)))) (cE (.int 0))))) (asgV 2 (vE' (slE (op2 addD (vE 2) (vE 2)) oNo (oSome (cE (.int 4)))))) nxS
      [.bor (.l p), s1, .im (.tup (rows js)), s3, s4, s5, s6, s7, s8, s9, s10] = .ok .nx [.bor (.l p'), s1, .im (.tup (rows js')), s3, s4, s5, s6, s7, s8, s9, s10] := by
  have e0 := ne_rows0 js
  cases he : js.isEmpty with
  | true =>
    rw [he] at e0
    exact ⟨js, p, hj, P, by simp -implicitDefEqProofs only [Ev.all, Ev.all2, Ev.all3, and_self, and_true, true_and, List.getElem?_cons_zero, List.getElem?_cons_succ, List.set_cons_zero, List.set_cons_succ, List.length_cons, List.length_nil, Option.map_some, Option.bind_some, Option.map_none, Option.bind_none, List.map_cons, List.map_nil, List.cons_append, List.nil_append, List.append_nil, Nat.reduceAdd, Nat.reduceSub, Nat.zero_add, List.replicate_succ, List.replicate_zero, if_true, if_false, reduceIte, Nat.reduceLeDiff, Nat.reduceEqDiff, Bool.not_true, Bool.not_false, decide_true, decide_false, Int.reduceLT, Int.reduceLE, Bool.false_eq_true, Bool.true_eq_false, reduceCtorEq, Bool.or_false, Bool.or_true, Bool.true_or, Bool.false_or, e0]⟩
  | false =>
    rw [he] at e0
    obtain ⟨r, p1, e1, r1, r2, P1⟩ := take_ok P (n := 3) (by decide) (by decide)
    by_cases h : r = 0
    · have e2 : eqD (.int r) (.int 0) = some (.bl true) := by rw [Ev.eqI, decide_eq_true h]
      have hl := hj.1
      have e3 : addD (.tup (rows js)) (.tup (rows js)) = some (.tup (rows (js ++ js))) := by
        rw [Ev.addT, if_pos]
        · unfold rows; rw [List.map_append]
        · rw [rows_len]; show _ ≤ 2 ^ 24; omega
      have e4 : cutD none (some 4) (.tup (rows (js ++ js))) = some (.tup (rows ((js ++ js).take 4))) := by
        rw [Ev.cutT, show cutL (rows (js ++ js)) none (some 4) = (rows (js ++ js)).take 4 from cut_take _ 4]
        unfold rows; rw [List.map_take]
      refine ⟨(js ++ js).take 4, p1, ⟨by rw [List.length_take]; omega, fun j m => ?_⟩, P1, by simp -implicitDefEqProofs only [Ev.all, Ev.all2, Ev.all3, and_self, and_true, true_and, List.getElem?_cons_zero, List.getElem?_cons_succ, List.set_cons_zero, List.set_cons_succ, List.length_cons, List.length_nil, Option.map_some, Option.bind_some, Option.map_none, Option.bind_none, List.map_cons, List.map_nil, List.cons_append, List.nil_append, List.append_nil, Nat.reduceAdd, Nat.reduceSub, Nat.zero_add, List.replicate_succ, List.replicate_zero, if_true, if_false, reduceIte, Nat.reduceLeDiff, Nat.reduceEqDiff, Bool.not_true, Bool.not_false, decide_true, decide_false, Int.reduceLT, Int.reduceLE, Bool.false_eq_true, Bool.true_eq_false, reduceCtorEq, Bool.or_false, Bool.or_true, Bool.true_or, Bool.false_or, e0, e1, e2, e3, e4]⟩
      rcases List.mem_append.mp (List.mem_of_mem_take m) with m | m <;> exact hj.2 j m
    · have e2 : eqD (.int r) (.int 0) = some (.bl false) := by rw [Ev.eqI, decide_eq_false h]
      exact ⟨js, p1, hj, P1, by simp -implicitDefEqProofs only [Ev.all, Ev.all2, Ev.all3, and_self, and_true, true_and, List.getElem?_cons_zero, List.getElem?_cons_succ, List.set_cons_zero, List.set_cons_succ, List.length_cons, List.length_nil, Option.map_some, Option.bind_some, Option.map_none, Option.bind_none, List.map_cons, List.map_nil, List.cons_append, List.nil_append, List.append_nil, Nat.reduceAdd, Nat.reduceSub, Nat.zero_add, List.replicate_succ, List.replicate_zero, if_true, if_false, reduceIte, Nat.reduceLeDiff, Nat.reduceEqDiff, Bool.not_true, Bool.not_false, decide_true, decide_false, Int.reduceLT, Int.reduceLE, Bool.false_eq_true, Bool.true_eq_false, reduceCtorEq, Bool.or_false, Bool.or_true, Bool.true_or, Bool.false_or, e0, e1, e2]⟩
theorem right_k12 {p : List D} (P : Pool p) : ∃ o, _law_right_5_F [.lst p] = .ok (.bl true) (some (.l o)) := by
  obtain ⟨is, b, p1, e1, i0, i6, hr, P1⟩ := first_ok P (m := 6) (by decide) (by decide)
  obtain ⟨js, p2, e2, hj, _, _, P2⟩ := answers_drawn P1 (lo := 0) (hi := 4) (by decide) (by decide)
  rw [show ((6 : Nat) : Int) = 6 from rfl] at e1
  rw [show ((0 : Nat) : Int) = 0 from rfl, show ((4 : Nat) : Int) = 4 from rfl] at e2
  obtain ⟨js', p3, hj', P3, e3⟩ := again_ok P2 hj (s1 := .im (.str (rowT is))) (s3 := .no) (s4 := .no) (s5 := .no) (s6 := .no) (s7 := .no) (s8 := .no) (s9 := .no) (s10 := .no)
  have B : BookOk is b js' := ⟨i0, i6, hr, hj'⟩
  have i1 := B.init
  obtain ⟨S3', t5, t6, t7, t8, l, h3⟩ := loop_k12 B (p0 := .bor (.l p3)) (List.range 16) (.acc (.i "Book" bookN (bookV is b js'))) .no .no .no .no (.inl rfl) rfl rfl rfl rfl
  have hr := rng_c (n := 16) (by decide) (Γ := [.bor (.l p3), .im (.str (rowT is)), .im (.tup (rows js')), .acc (.i "Book" bookN (bookV is b js')), .im (.int (js'.length : Nat)), .no, .no, .no, .no, .no, .no])
  rw [rng_nats, show ((16 : Nat) : Int) = 16 from rfl] at hr
  have hf := for_at hr l
  have w : Book_without_F [bookD is b js', .tup []] = _ := without_ev B (cs := []) trivial
  rw [leftJ_nil] at w
  unfold bookD at w
  have q := book_eq_ev is is b b js' js'
  unfold bookD at q
  rw [decide_eq_true rfl, decide_eq_true rfl, Bool.and_self] at q
  refine ⟨p3, ?_⟩
  unfold _law_right_5_F _law_right_5_b
  rcases h3 with rfl | rfl
  · simp -implicitDefEqProofs only [Ev.all, Ev.all2, Ev.all3, and_self, and_true, true_and, List.getElem?_cons_zero, List.getElem?_cons_succ, List.set_cons_zero, List.set_cons_succ, List.length_cons, List.length_nil, Option.map_some, Option.bind_some, Option.map_none, Option.bind_none, List.map_cons, List.map_nil, List.cons_append, List.nil_append, List.append_nil, Nat.reduceAdd, Nat.reduceSub, Nat.zero_add, List.replicate_succ, List.replicate_zero, if_true, if_false, reduceIte, Nat.reduceLeDiff, Nat.reduceEqDiff, Bool.not_true, Bool.not_false, decide_true, decide_false, Int.reduceLT, Int.reduceLE, Bool.false_eq_true, Bool.true_eq_false, reduceCtorEq, Bool.or_false, Bool.or_true, Bool.true_or, Bool.false_or, Bool.and_self, Bool.true_and, Bool.and_true, eq_self, e1, e2, ↓e3, i1, rows_len, hf, ins_without, w, cs_book, q]
  · simp -implicitDefEqProofs only [Ev.all, Ev.all2, Ev.all3, and_self, and_true, true_and, List.getElem?_cons_zero, List.getElem?_cons_succ, List.set_cons_zero, List.set_cons_succ, List.length_cons, List.length_nil, Option.map_some, Option.bind_some, Option.map_none, Option.bind_none, List.map_cons, List.map_nil, List.cons_append, List.nil_append, List.append_nil, Nat.reduceAdd, Nat.reduceSub, Nat.zero_add, List.replicate_succ, List.replicate_zero, if_true, if_false, reduceIte, Nat.reduceLeDiff, Nat.reduceEqDiff, Bool.not_true, Bool.not_false, decide_true, decide_false, Int.reduceLT, Int.reduceLE, Bool.false_eq_true, Bool.true_eq_false, reduceCtorEq, Bool.or_false, Bool.or_true, Bool.true_or, Bool.false_or, Bool.and_self, Bool.true_and, Bool.and_true, eq_self, e1, e2, ↓e3, i1, rows_len, hf, ins_without, w, cs_book, q]
end PL

/-! plain law PL29 -/
set_option Elab.async false
set_option linter.all false
set_option maxRecDepth 100000
set_option maxHeartbeats 4000000
namespace PL
open PySem PySem.Spec PyProof.Rows L2 FL PF
def k12V (xs ds : List D) : List D := [.str "tag me; lock you", .tup xs, .tup [.tup [.str "lock", .str "bob"], .tup [.str "tag", .str "ann"]], .lst ds]
def dLm : D := .lst [.tup [.str "lock", .str "me"]]
def dLy : D := .lst [.tup [.str "lock", .str "you"]]
def dTm : D := .lst [.tup [.str "tag", .str "me"]]
theorem K12_law (ns : List Int) : law_5_F [.scr ns] = .ok (.bl true) none := by
  have b0 : Book___init___F [.ins "Book" [] [], .str "tag me; lock you", .tup [.str "lock me", .str "lock you", .str "tag me", .str "lock you"]] = .ok .non (some (.i "Book" bookN (k12V [.str "lock me", .str "lock you", .str "tag me", .str "lock you"] [dLm, dLy, dTm, dLy]))) := by kernel_rfl
  have b1 : Book_without_F [.ins "Book" bookN (k12V [.str "lock me", .str "lock you", .str "tag me", .str "lock you"] [dLm, dLy, dTm, dLy]), .tup [.int 0, .int 3]] = .nw (.i "Book" bookN (k12V [.str "lock you", .str "tag me"] [dLy, dTm])) none := by kernel_rfl
  have b2 : Book_without_F [.ins "Book" bookN (k12V [.str "lock me", .str "lock you", .str "tag me", .str "lock you"] [dLm, dLy, dTm, dLy]), .tup [.int 1]] = .nw (.i "Book" bookN (k12V [.str "lock me", .str "tag me", .str "lock you"] [dLm, dTm, dLy])) none := by kernel_rfl
  have b3 : Book_without_F [.ins "Book" bookN (k12V [.str "lock me", .str "lock you", .str "tag me", .str "lock you"] [dLm, dLy, dTm, dLy]), .tup [.int 0, .int 1, .int 2, .int 3]] = .nw (.i "Book" bookN (k12V [] [])) none := by kernel_rfl
  have b4 : Book_without_F [.ins "Book" bookN (k12V [.str "lock me", .str "lock you", .str "tag me", .str "lock you"] [dLm, dLy, dTm, dLy]), .tup [.int 3]] = .nw (.i "Book" bookN (k12V [.str "lock me", .str "lock you", .str "tag me"] [dLm, dLy, dTm])) none := by kernel_rfl
  have a1 : ∀ xs ds, Book_answers_F [.ins "Book" bookN (k12V xs ds)] = .ok (.tup xs) none := fun xs ds => by kernel_rfl
  have q1 : Book___eq___F [.ins "Book" bookN (k12V [.str "lock me", .str "tag me", .str "lock you"] [dLm, dTm, dLy]), .ins "Book" bookN (k12V [.str "lock me", .str "lock you", .str "tag me"] [dLm, dLy, dTm])] = .ok (.bl false) none := by kernel_rfl
  have r1 : neD (.lst [.tup [.str "lock you", .str "tag me"], .tup [.str "lock me", .str "tag me", .str "lock you"], .tup []]) (.lst [.tup [.str "lock you", .str "tag me"], .tup [.str "lock me", .str "tag me", .str "lock you"], .tup []]) = some (.bl false) := by kernel_rfl
  obtain ⟨xs, t1, t2⟩ := tail_ok (ns := ns) (vi := 3) (cap := 6) (f := law_5_x1) (Γ := [.im (.scr ns), .im (.ins "Book" bookN (k12V [.str "lock me", .str "lock you", .str "tag me", .str "lock you"] [dLm, dLy, dTm, dLy])), .acc (.l [.tup [.str "lock you", .str "tag me"], .tup [.str "lock me", .str "tag me", .str "lock you"], .tup []]), .no]) rfl rfl (by decide) (by decide) fun k hk => by
    obtain ⟨p, e1, P⟩ := stock_ok ns k hk
    obtain ⟨o, e2⟩ := right_k12 P
    simp -implicitDefEqProofs only [law_5_x1, Ev.all, Ev.all2, Ev.all3, and_self, and_true, true_and, List.getElem?_cons_zero, List.getElem?_cons_succ, List.set_cons_zero, List.set_cons_succ, List.length_cons, List.length_nil, Option.map_some, Option.bind_some, Option.map_none, Option.bind_none, List.map_cons, List.map_nil, List.cons_append, List.nil_append, List.append_nil, Nat.reduceAdd, Nat.reduceSub, Nat.zero_add, List.replicate_succ, List.replicate_zero, if_true, if_false, reduceIte, Nat.reduceLeDiff, Nat.reduceEqDiff, Bool.not_true, Bool.not_false, decide_true, decide_false, Int.reduceLT, Int.reduceLE, Bool.false_eq_true, Bool.true_eq_false, reduceCtorEq, Bool.or_false, Bool.or_true, Bool.true_or, Bool.false_or, e1, e2]
  unfold law_5_F law_5_b
  simp -implicitDefEqProofs only [Ev.all, Ev.all2, Ev.all3, and_self, and_true, true_and, List.getElem?_cons_zero, List.getElem?_cons_succ, List.set_cons_zero, List.set_cons_succ, List.length_cons, List.length_nil, Option.map_some, Option.bind_some, Option.map_none, Option.bind_none, List.map_cons, List.map_nil, List.cons_append, List.nil_append, List.append_nil, Nat.reduceAdd, Nat.reduceSub, Nat.zero_add, List.replicate_succ, List.replicate_zero, if_true, if_false, reduceIte, Nat.reduceLeDiff, Nat.reduceEqDiff, Bool.not_true, Bool.not_false, decide_true, decide_false, Int.reduceLT, Int.reduceLE, Bool.false_eq_true, Bool.true_eq_false, reduceCtorEq, Bool.or_false, Bool.or_true, Bool.true_or, Bool.false_or, Bool.and_self, Bool.true_and, Bool.and_true, eq_self, b0, b1, b2, b3, b4, a1, q1, r1, ins_without, cs_book, t1, t2]
end PL

/-! plain law PL30 -/
set_option Elab.async false
set_option linter.all false
set_option maxRecDepth 100000
set_option maxHeartbeats 4000000
namespace PL
open PySem PySem.Spec PyProof.Rows L2 FL PF
variable {is : List (Fin 8)} {b : Box} {js : List (List (Fin 8))}
def chg (js : List (List (Fin 8))) (k : Nat) (r : List (Fin 8)) : List (List (Fin 8)) := js.take k ++ (r :: js.drop (k + 1))
theorem chg_len {k : Nat} {r : List (Fin 8)} (hk : k < js.length) : (chg js k r).length = js.length := by
  unfold chg
  rw [List.length_append, List.length_cons, List.length_take, List.length_drop]; omega
theorem chg_mem {k : Nat} {r j : List (Fin 8)} (h : j ∈ chg js k r) : j = r ∨ j ∈ js := by
  unfold chg at h
  rcases List.mem_append.mp h with h | h
  · exact .inr (List.mem_of_mem_take h)
  · rcases List.mem_cons.mp h with h | h
    · exact .inl h
    · exact .inr (List.mem_of_mem_drop h)
theorem BookOk.chg (B : BookOk is b js) {k : Nat} {r : List (Fin 8)} (hk : k < js.length) (h0 : r ≠ []) (h6 : r.length ≤ 6) : BookOk is b (chg js k r) :=
  ⟨B.n0, B.n6, B.run, by rw [AnsOk, chg_len hk]; exact ⟨B.ans.1, fun j hj => by
    rcases chg_mem hj with rfl | hj
    · exact ⟨h0, h6⟩
    · exact B.ans.2 j hj⟩⟩
theorem rows_app (a c : List (List (Fin 8))) : rows (a ++ c) = rows a ++ rows c := by unfold rows; rw [List.map_append]
theorem rows_cut1 (k : Nat) : cutL (rows js) none (some (k : Nat)) = rows (js.take k) := by
  rw [cut_take]; unfold rows; rw [List.map_take]
theorem rows_cut2 (k : Nat) : cutL (rows js) (some (k : Nat)) none = rows (js.drop k) := by
  rw [cut_drop]; unfold rows; rw [List.map_drop]
theorem rows_cut3 (k : Nat) : cutL (rows js) (some ((k : Nat) + 1)) none = rows (js.drop (k + 1)) := rows_cut2 (k + 1)
theorem chg_rows (k : Nat) (r : List (Fin 8)) : rows (js.take k) ++ (.str (rowT r) :: rows (js.drop (k + 1))) = rows (chg js k r) := by
  unfold chg; rw [rows_app]; rfl
theorem frzs_map {Γ : En} : ∀ (ds : List D) (es : List EV), frzs (ds.map EV.d ++ es) Γ = (frzs es Γ).map fun p => (ds ++ p.1, p.2)
  | [], es => by
    show frzs es Γ = _
    cases frzs es Γ <;> rfl
  | d :: ds, es => by
    show (frzs (ds.map EV.d ++ es) Γ).bind _ = _
    rw [frzs_map ds es]
    cases frzs es Γ <;> rfl
theorem changed_ev (B : BookOk is b js) {k : Nat} {r : List (Fin 8)} (hk : k < js.length) (h0 : r ≠ []) (h6 : r.length ≤ 6) :
    Book_changed_F [.ins "Book" bookN (bookV is b js), .int (k : Nat), .str (rowT r)] = .nw (.i "Book" bookN (bookV is b (chg js k r))) none := by
  have e1 := is_between_ev (v := (k : Nat)) (l := 0) (m := (js.length : Nat) - 1) (by omega) (by omega)
  have e2 := check_row_ev h0 h6
  have e3 := rows_cut1 (js := js) k
  have e4 := rows_cut3 (js := js) k
  have e5 := (B.chg hk h0 h6).init
  have hl := B.ans.1
  have hz : (chg js k r).length ≤ sizeLine := by rw [chg_len hk]; show _ ≤ 2 ^ 24; omega
  unfold Book_changed_F Book_changed_b
  have hs : ∀ (xs : List D) (Γ : En), starI (.d (.tup xs)) Γ = .ok (xs.map EV.d) Γ := fun xs Γ => rfl
  have hf : ∀ Γ : En, frzs ((rows (js.take k)).map EV.d ++ (.d (.str (rowT r)) :: (rows (js.drop (k + 1))).map EV.d)) Γ = some (rows (js.take k) ++ (.str (rowT r) :: rows (js.drop (k + 1))), Γ) := fun Γ => by
    rw [frzs_map, Ev.frzs1, Ev.frzd, Option.bind_some, Ev.frzsD, Option.bind_some, Option.map_some]
  unfold bookV at e5 ⊢
  simp -implicitDefEqProofs only [hf, Ev.all, Ev.all2, Ev.all3, and_self, and_true, true_and, List.getElem?_cons_zero, List.getElem?_cons_succ, List.set_cons_zero, List.set_cons_succ, List.length_cons, List.length_nil, Option.map_some, Option.bind_some, Option.map_none, Option.bind_none, List.map_cons, List.map_nil, List.cons_append, List.nil_append, List.append_nil, Nat.reduceAdd, Nat.reduceSub, Nat.zero_add, List.replicate_succ, List.replicate_zero, if_true, if_false, reduceIte, Nat.reduceLeDiff, Nat.reduceEqDiff, Bool.not_true, Bool.not_false, decide_true, decide_false, Int.reduceLT, Int.reduceLE, Bool.false_eq_true, Bool.true_eq_false, reduceCtorEq, Bool.or_false, Bool.or_true, Bool.true_or, Bool.false_or, Bool.and_self, Bool.true_and, Bool.and_true, eq_self, fl1, fl2, rows_len, e1, e2, e3, e4, hs, if_pos hz, chg_rows, e5]
theorem chg_back {k : Nat} (hk : k < js.length) (r : List (Fin 8)) : chg (chg js k r) k (js.getD k []) = js := by
  have hl : (js.take k).length = k := by rw [List.length_take]; omega
  unfold chg
  have e1 : (js.take k ++ (r :: js.drop (k + 1))).take k = js.take k := by
    rw [List.take_append_of_le_length (by omega), List.take_of_length_le (by omega)]
  have e2 : (js.take k ++ (r :: js.drop (k + 1))).drop (k + 1) = js.drop (k + 1) := by
    rw [List.drop_append, hl, List.drop_of_length_le (by omega), show k + 1 - k = 1 by omega]; rfl
  rw [e1, e2, List.getD_eq_getElem?_getD, List.getElem?_eq_getElem hk]
  show js.take k ++ (js[k] :: js.drop (k + 1)) = js
  rw [← List.drop_eq_getElem_cons hk, List.take_append_drop]
theorem chg_self {k : Nat} (hk : k < js.length) : chg js k (js.getD k []) = js := by
  unfold chg
  rw [List.getD_eq_getElem?_getD, List.getElem?_eq_getElem hk]
  show js.take k ++ (js[k] :: js.drop (k + 1)) = js
  rw [← List.drop_eq_getElem_cons hk, List.take_append_drop]
theorem getD_mem {k : Nat} (hk : k < js.length) : js.getD k [] ∈ js := by
  rw [List.getD_eq_getElem?_getD, List.getElem?_eq_getElem hk]
  exact List.getElem_mem hk
end PL

/-! plain law PL31 -/
set_option Elab.async false
set_option linter.all false
set_option maxRecDepth 100000
set_option maxHeartbeats 4000000
namespace PL
open PySem PySem.Spec PyProof.Rows L2 FL PF
variable {is : List (Fin 8)} {b : Box} {js : List (List (Fin 8))}
theorem ins_changed : bookN.contains "changed" = false := by kernel_rfl
theorem turn_k14 (B : BookOk is b js) {p : List D} (P : Pool p) {k : Nat} (hk : k < js.length) {S3 s5 s6 s7 s8 : Sl} (h3 : S3 = .acc (.i "Book" bookN (bookV is b js)) ∨ S3 = .im (.ins "Book" bookN (bookV is b js))) (h5 : s5.isB = false) (h6 : s6.isB = false) (h7 : s7.isB = false) (h8 : s8.isB = false) :
    ∃ p' s5' s6' s7' s8', Pool p' ∧ _law_right_6_x2 [.bor (.l p), .im (.str (rowT is)), .im (.tup (rows js)), S3, .im (.int (k : Nat)), s5, s6, s7, s8, .no] =
      .ok .nx [.bor (.l p'), .im (.str (rowT is)), .im (.tup (rows js)), .im (.ins "Book" bookN (bookV is b js)), .im (.int (k : Nat)), s5', s6', s7', s8', .no] ∧ s5'.isB = false ∧ s6'.isB = false ∧ s7'.isB = false ∧ s8'.isB = false := by
  have hl := B.ans.1
  obtain ⟨ks, p1, e1, hks, k1, k2, P1⟩ := answers_drawn P (lo := 1) (hi := 2) (by decide) (by decide)
  rw [show ((1 : Nat) : Int) = 1 from rfl, show ((2 : Nat) : Int) = 2 from rfl] at e1
  obtain ⟨r, p2, e2, r1, r2, P2⟩ := take_ok P1 (n := ((ks ++ js).length : Nat)) (by rw [List.length_append]; omega) (by rw [List.length_append]; omega)
  obtain ⟨r, rfl⟩ := Int.eq_ofNat_of_zero_le r1
  have hr : r < (ks ++ js).length := by omega
  have e3 : addD (.tup (rows ks)) (.tup (rows js)) = some (.tup (rows (ks ++ js))) := by
    rw [Ev.addT, if_pos, rows_app]
    rw [rows_len, rows_len]; show _ ≤ 2 ^ 24; omega
  have e4 := at_rows hr
  have hm := getD_mem hr
  have hru : (ks ++ js).getD r [] ≠ [] ∧ ((ks ++ js).getD r []).length ≤ 6 := by
    rcases List.mem_append.mp hm with h | h
    · exact hks.2 _ h
    · exact B.ans.2 _ h
  have B2 := B.chg hk hru.1 hru.2
  have w := changed_ev B hk hru.1 hru.2
  have hjk := B.ans.2 _ (getD_mem hk)
  have w2 := changed_ev B2 (k := k) (r := js.getD k []) (by rw [chg_len hk]; exact hk) hjk.1 hjk.2
  rw [chg_back hk] at w2
  have w3 := changed_ev B hk hjk.1 hjk.2
  rw [chg_self hk] at w3
  have c1 := rows_cut1 (js := js) k
  have c2 := rows_cut3 (js := js) k
  have c3 : addD (.tup (rows (js.take k))) (.tup [.str (rowT ((ks ++ js).getD r []))]) = some (.tup (rows (js.take k) ++ [.str (rowT ((ks ++ js).getD r []))])) := by
    rw [Ev.addT, if_pos]
    rw [rows_len, List.length_take]; show _ ≤ 2 ^ 24; simp; omega
  have c4 : addD (.tup (rows (js.take k) ++ [.str (rowT ((ks ++ js).getD r []))])) (.tup (rows (js.drop (k + 1)))) = some (.tup (rows (chg js k ((ks ++ js).getD r [])))) := by
    rw [Ev.addT, if_pos, List.append_assoc, List.singleton_append, chg_rows]
    rw [List.length_append, rows_len, rows_len, List.length_take, List.length_drop]; show _ ≤ 2 ^ 24; simp; omega
  have e5 := at_rows hk
  obtain ⟨z, z1, z2⟩ := shown_ev B2
  obtain ⟨y, y1, y2⟩ := shown_ev B
  unfold bookD at z1 y1
  have hz : eqD (.str z) (.str z) = some (.bl true) := by rw [Ev.eqS, decide_eq_true rfl]
  have hy : neD (.str y) (.str y) = some (.bl false) := by rw [Ev.neS, decide_eq_true rfl]; rfl
  have he : compV [9] (anyI (vE 8)) (bName 9) trueT _law_right_6_x1 [.bor (.l p2), .im (.str (rowT is)), .im (.tup (rows js)), .im (.ins "Book" bookN (bookV is b js)), .im (.int (k : Nat)), .im (.tup (rows (ks ++ js))), .im (.str (rowT ((ks ++ js).getD r []))), .im (.tup (rows (chg js k ((ks ++ js).getD r [])))), .acc (.l [.ins "Book" bookN (bookV is b (chg js k ((ks ++ js).getD r []))), .ins "Book" bookN (bookV is b (chg js k ((ks ++ js).getD r [])))]), .no] =
      .ok (.n (.l [.bl true, .bl true])) [.bor (.l p2), .im (.str (rowT is)), .im (.tup (rows js)), .im (.ins "Book" bookN (bookV is b js)), .im (.int (k : Nat)), .im (.tup (rows (ks ++ js))), .im (.str (rowT ((ks ++ js).getD r []))), .im (.tup (rows (chg js k ((ks ++ js).getD r [])))), .im (.lst [.ins "Book" bookN (bookV is b (chg js k ((ks ++ js).getD r []))), .ins "Book" bookN (bookV is b (chg js k ((ks ++ js).getD r [])))]), .no] := by
    have h1 := cmp_map (vs := [9]) (b := bName 9) (elt := _law_right_6_x1) (g := fun _ => .bl true) (Γ := [.bor (.l p2), .im (.str (rowT is)), .im (.tup (rows js)), .im (.ins "Book" bookN (bookV is b js)), .im (.int (k : Nat)), .im (.tup (rows (ks ++ js))), .im (.str (rowT ((ks ++ js).getD r []))), .im (.tup (rows (chg js k ((ks ++ js).getD r [])))), .im (.lst [.ins "Book" bookN (bookV is b (chg js k ((ks ++ js).getD r []))), .ins "Book" bookN (bookV is b (chg js k ((ks ++ js).getD r [])))]), .no]) rfl
      (ds := [.ins "Book" bookN (bookV is b (chg js k ((ks ++ js).getD r []))), .ins "Book" bookN (bookV is b (chg js k ((ks ++ js).getD r [])))]) (by simp) fun d hd => by
        have hd : d = .ins "Book" bookN (bookV is b (chg js k ((ks ++ js).getD r []))) := by simpa using hd
        subst hd
        refine ⟨[.bor (.l p2), .im (.str (rowT is)), .im (.tup (rows js)), .im (.ins "Book" bookN (bookV is b js)), .im (.int (k : Nat)), .im (.tup (rows (ks ++ js))), .im (.str (rowT ((ks ++ js).getD r []))), .im (.tup (rows (chg js k ((ks ++ js).getD r [])))), .im (.lst [.ins "Book" bookN (bookV is b (chg js k ((ks ++ js).getD r []))), .ins "Book" bookN (bookV is b (chg js k ((ks ++ js).getD r [])))]), .im (.ins "Book" bookN (bookV is b (chg js k ((ks ++ js).getD r []))))], by simp -implicitDefEqProofs only [Ev.all, Ev.all2, Ev.all3, and_self, and_true, true_and, List.getElem?_cons_zero, List.getElem?_cons_succ, List.set_cons_zero, List.set_cons_succ, List.length_cons, List.length_nil, Option.map_some, Option.bind_some, Option.map_none, Option.bind_none, List.map_cons, List.map_nil, List.cons_append, List.nil_append, List.append_nil, Nat.reduceAdd, Nat.reduceSub, Nat.zero_add, List.replicate_succ, List.replicate_zero, if_true, if_false, reduceIte, Nat.reduceLeDiff, Nat.reduceEqDiff, Bool.not_true, Bool.not_false, decide_true, decide_false, Int.reduceLT, Int.reduceLE, Bool.false_eq_true, Bool.true_eq_false, reduceCtorEq, Bool.or_false, Bool.or_true, Bool.true_or, Bool.false_or], ?_, rfl⟩
        simp -implicitDefEqProofs only [_law_right_6_x1, Ev.all, Ev.all2, Ev.all3, and_self, and_true, true_and, List.getElem?_cons_zero, List.getElem?_cons_succ, List.set_cons_zero, List.set_cons_succ, List.length_cons, List.length_nil, Option.map_some, Option.bind_some, Option.map_none, Option.bind_none, List.map_cons, List.map_nil, List.cons_append, List.nil_append, List.append_nil, Nat.reduceAdd, Nat.reduceSub, Nat.zero_add, List.replicate_succ, List.replicate_zero, if_true, if_false, reduceIte, Nat.reduceLeDiff, Nat.reduceEqDiff, Bool.not_true, Bool.not_false, decide_true, decide_false, Int.reduceLT, Int.reduceLE, Bool.false_eq_true, Bool.true_eq_false, reduceCtorEq, Bool.or_false, Bool.or_true, Bool.true_or, Bool.false_or, z1, z2, hz]
    exact comp_at (by simp -implicitDefEqProofs only [Ev.all, Ev.all2, Ev.all3, and_self, and_true, true_and, List.getElem?_cons_zero, List.getElem?_cons_succ, List.set_cons_zero, List.set_cons_succ, List.length_cons, List.length_nil, Option.map_some, Option.bind_some, Option.map_none, Option.bind_none, List.map_cons, List.map_nil, List.cons_append, List.nil_append, List.append_nil, Nat.reduceAdd, Nat.reduceSub, Nat.zero_add, List.replicate_succ, List.replicate_zero, if_true, if_false, reduceIte, Nat.reduceLeDiff, Nat.reduceEqDiff, Bool.not_true, Bool.not_false, decide_true, decide_false, Int.reduceLT, Int.reduceLE, Bool.false_eq_true, Bool.true_eq_false, reduceCtorEq, Bool.or_false, Bool.or_true, Bool.true_or, Bool.false_or]) rfl h1
  have i1 := B2.init
  have q1 := book_eq_ev is is b b (chg js k ((ks ++ js).getD r [])) (chg js k ((ks ++ js).getD r []))
  have q2 := book_eq_ev is is b b (chg js k ((ks ++ js).getD r [])) js
  have q5 := book_eq_ev is is b b js js
  unfold bookD at q1 q2 q5
  rw [decide_eq_true rfl, decide_eq_true rfl, Bool.and_self] at q1 q5
  rw [decide_eq_true (rfl : rowT is = rowT is), Bool.true_and] at q2
  have q3 := eq_rows (chg js k ((ks ++ js).getD r [])) js
  have q4 := ne_bl (decide ((chg js k ((ks ++ js).getD r [])).map rowT = js.map rowT))
  refine ⟨p2, .im (.tup (rows (ks ++ js))), .im (.str (rowT ((ks ++ js).getD r []))), .im (.tup (rows (chg js k ((ks ++ js).getD r [])))), .im (.lst [.ins "Book" bookN (bookV is b (chg js k ((ks ++ js).getD r []))), .ins "Book" bookN (bookV is b (chg js k ((ks ++ js).getD r [])))]), P2, ?_, rfl, rfl, rfl, rfl⟩
  rcases h3 with rfl | rfl
  · simp -implicitDefEqProofs only [_law_right_6_x2, c3, c4, Ev.all, Ev.all2, Ev.all3, and_self, and_true, true_and, List.getElem?_cons_zero, List.getElem?_cons_succ, List.set_cons_zero, List.set_cons_succ, List.length_cons, List.length_nil, Option.map_some, Option.bind_some, Option.map_none, Option.bind_none, List.map_cons, List.map_nil, List.cons_append, List.nil_append, List.append_nil, Nat.reduceAdd, Nat.reduceSub, Nat.zero_add, List.replicate_succ, List.replicate_zero, if_true, if_false, reduceIte, Nat.reduceLeDiff, Nat.reduceEqDiff, Bool.not_true, Bool.not_false, decide_true, decide_false, Int.reduceLT, Int.reduceLE, Bool.false_eq_true, Bool.true_eq_false, reduceCtorEq, Bool.or_false, Bool.or_true, Bool.true_or, Bool.false_or, Bool.and_self, Bool.true_and, Bool.and_true, eq_self, h5, h6, h7, h8, ins_changed, e1, e2, e3, e4, e5, c1, c2, rows_len, w, w2, w3, he, all2T, Ev.getL, Ev.getT, Ev.atI0, Ev.atI1, i1, cs_book, q1, q2, q3, q4, q5, y1, y2, hy]
  · simp -implicitDefEqProofs only [_law_right_6_x2, c3, c4, Ev.all, Ev.all2, Ev.all3, and_self, and_true, true_and, List.getElem?_cons_zero, List.getElem?_cons_succ, List.set_cons_zero, List.set_cons_succ, List.length_cons, List.length_nil, Option.map_some, Option.bind_some, Option.map_none, Option.bind_none, List.map_cons, List.map_nil, List.cons_append, List.nil_append, List.append_nil, Nat.reduceAdd, Nat.reduceSub, Nat.zero_add, List.replicate_succ, List.replicate_zero, if_true, if_false, reduceIte, Nat.reduceLeDiff, Nat.reduceEqDiff, Bool.not_true, Bool.not_false, decide_true, decide_false, Int.reduceLT, Int.reduceLE, Bool.false_eq_true, Bool.true_eq_false, reduceCtorEq, Bool.or_false, Bool.or_true, Bool.true_or, Bool.false_or, Bool.and_self, Bool.true_and, Bool.and_true, eq_self, h5, h6, h7, h8, ins_changed, e1, e2, e3, e4, e5, c1, c2, rows_len, w, w2, w3, he, all2T, Ev.getL, Ev.getT, Ev.atI0, Ev.atI1, i1, cs_book, q1, q2, q3, q4, q5, y1, y2, hy]
end PL

/-! plain law PL32 -/
set_option Elab.async false
set_option linter.all false
set_option maxRecDepth 100000
set_option maxHeartbeats 4000000
namespace PL
open PySem PySem.Spec PyProof.Rows L2 FL PF
variable {is : List (Fin 8)} {b : Box} {js : List (List (Fin 8))}
theorem loop_k14 (B : BookOk is b js) : ∀ (cs : List Nat) (p : List D) (S3 s4 s5 s6 s7 s8 : Sl), (∀ c ∈ cs, c < js.length) → Pool p → S3 = .acc (.i "Book" bookN (bookV is b js)) ∨ S3 = .im (.ins "Book" bookN (bookV is b js)) → s4.isB = false → s5.isB = false → s6.isB = false → s7.isB = false → s8.isB = false →
    ∃ p' S3' s4' s5' s6' s7' s8', loopS (bName 4) _law_right_6_x2 (nats cs) [.bor (.l p), .im (.str (rowT is)), .im (.tup (rows js)), S3, s4, s5, s6, s7, s8, .no] =
      .ok .nx [.bor (.l p'), .im (.str (rowT is)), .im (.tup (rows js)), S3', s4', s5', s6', s7', s8', .no]
  | [], p, S3, s4, s5, s6, s7, s8, _, _, _, _, _, _, _, _ => ⟨p, S3, s4, s5, s6, s7, s8, rfl⟩
  | c :: cs, p, S3, s4, s5, s6, s7, s8, hc, P, h3, h4, h5, h6, h7, h8 => by
    obtain ⟨p', s5', s6', s7', s8', P', e, k5, k6, k7, k8⟩ := turn_k14 B P (hc c List.mem_cons_self) h3 h5 h6 h7 h8
    obtain ⟨p2, S3', t4, t5, t6, t7, t8, ih⟩ := loop_k14 B cs p' (.im (.ins "Book" bookN (bookV is b js))) (.im (.int (c : Nat))) s5' s6' s7' s8' (fun x hx => hc x (List.mem_cons_of_mem _ hx)) P' (.inr rfl) rfl k5 k6 k7 k8
    refine ⟨p2, S3', t4, t5, t6, t7, t8, Eq.trans (loop_cons (Γ1 := [.bor (.l p), .im (.str (rowT is)), .im (.tup (rows js)), S3, .im (.int (c : Nat)), s5, s6, s7, s8, .no]) ?_ e) ih⟩
    simp -implicitDefEqProofs only [Ev.all, Ev.all2, Ev.all3, and_self, and_true, true_and, List.getElem?_cons_zero, List.getElem?_cons_succ, List.set_cons_zero, List.set_cons_succ, List.length_cons, List.length_nil, Option.map_some, Option.bind_some, Option.map_none, Option.bind_none, List.map_cons, List.map_nil, List.cons_append, List.nil_append, List.append_nil, Nat.reduceAdd, Nat.reduceSub, Nat.zero_add, List.replicate_succ, List.replicate_zero, if_true, if_false, reduceIte, Nat.reduceLeDiff, Nat.reduceEqDiff, Bool.not_true, Bool.not_false, decide_true, decide_false, Int.reduceLT, Int.reduceLE, Bool.false_eq_true, Bool.true_eq_false, reduceCtorEq, Bool.or_false, Bool.or_true, Bool.true_or, Bool.false_or, h4]
theorem right_k14 {p : List D} (P : Pool p) : ∃ o, _law_right_6_F [.lst p] = .ok (.bl true) (some (.l o)) := by
  obtain ⟨is, b, p1, e1, i0, i6, hr, P1⟩ := first_ok P (m := 6) (by decide) (by decide)
  obtain ⟨js, p2, e2, hj, _, _, P2⟩ := answers_drawn P1 (lo := 1) (hi := 4) (by decide) (by decide)
  rw [show ((6 : Nat) : Int) = 6 from rfl] at e1
  rw [show ((1 : Nat) : Int) = 1 from rfl, show ((4 : Nat) : Int) = 4 from rfl] at e2
  have hl := hj.1
  have B : BookOk is b js := ⟨i0, i6, hr, hj⟩
  have i1 := B.init
  obtain ⟨p3, S3', t4, t5, t6, t7, t8, l⟩ := loop_k14 B (List.range js.length) p2 (.acc (.i "Book" bookN (bookV is b js))) .no .no .no .no .no (fun c hc => List.mem_range.mp hc) P2 (.inl rfl) rfl rfl rfl rfl rfl
  have hr := rng_v (n := js.length) (by omega) (e := opN (one lenD) (aCons (vE 2) aNil)) (Γ := [.bor (.l p2), .im (.str (rowT is)), .im (.tup (rows js)), .acc (.i "Book" bookN (bookV is b js)), .no, .no, .no, .no, .no, .no]) (Γ1 := [.bor (.l p2), .im (.str (rowT is)), .im (.tup (rows js)), .acc (.i "Book" bookN (bookV is b js)), .no, .no, .no, .no, .no, .no]) (by simp -implicitDefEqProofs only [Ev.all, Ev.all2, Ev.all3, and_self, and_true, true_and, List.getElem?_cons_zero, List.getElem?_cons_succ, List.set_cons_zero, List.set_cons_succ, List.length_cons, List.length_nil, Option.map_some, Option.bind_some, Option.map_none, Option.bind_none, List.map_cons, List.map_nil, List.cons_append, List.nil_append, List.append_nil, Nat.reduceAdd, Nat.reduceSub, Nat.zero_add, List.replicate_succ, List.replicate_zero, if_true, if_false, reduceIte, Nat.reduceLeDiff, Nat.reduceEqDiff, Bool.not_true, Bool.not_false, decide_true, decide_false, Int.reduceLT, Int.reduceLE, Bool.false_eq_true, Bool.true_eq_false, reduceCtorEq, Bool.or_false, Bool.or_true, Bool.true_or, Bool.false_or, rows_len])
  rw [rng_nats] at hr
  have hf := for_at hr l
  refine ⟨p3, ?_⟩
  unfold _law_right_6_F _law_right_6_b
  simp -implicitDefEqProofs only [Ev.all, Ev.all2, Ev.all3, and_self, and_true, true_and, List.getElem?_cons_zero, List.getElem?_cons_succ, List.set_cons_zero, List.set_cons_succ, List.length_cons, List.length_nil, Option.map_some, Option.bind_some, Option.map_none, Option.bind_none, List.map_cons, List.map_nil, List.cons_append, List.nil_append, List.append_nil, Nat.reduceAdd, Nat.reduceSub, Nat.zero_add, List.replicate_succ, List.replicate_zero, if_true, if_false, reduceIte, Nat.reduceLeDiff, Nat.reduceEqDiff, Bool.not_true, Bool.not_false, decide_true, decide_false, Int.reduceLT, Int.reduceLE, Bool.false_eq_true, Bool.true_eq_false, reduceCtorEq, Bool.or_false, Bool.or_true, Bool.true_or, Bool.false_or, Bool.and_self, Bool.true_and, Bool.and_true, eq_self, e1, e2, i1, hf]
def k14V (xs ds : List D) : List D := [.str "lock you", .tup xs, .tup [.tup [.str "lock", .str "bob"]], .lst ds]
def dTy : D := .lst [.tup [.str "tag", .str "you"]]
theorem K14_law (ns : List Int) : law_6_F [.scr ns] = .ok (.bl true) none := by
  have b0 : Book___init___F [.ins "Book" [] [], .str "lock you", .tup [.str "tag me", .str "tag you", .str "tag me"]] = .ok .non (some (.i "Book" bookN (k14V [.str "tag me", .str "tag you", .str "tag me"] [dTm, dTy, dTm]))) := by kernel_rfl
  have b1 : Book_changed_F [.ins "Book" bookN (k14V [.str "tag me", .str "tag you", .str "tag me"] [dTm, dTy, dTm]), .int 0, .str "lock me"] = .nw (.i "Book" bookN (k14V [.str "lock me", .str "tag you", .str "tag me"] [dLm, dTy, dTm])) none := by kernel_rfl
  have b2 : Book_changed_F [.ins "Book" bookN (k14V [.str "tag me", .str "tag you", .str "tag me"] [dTm, dTy, dTm]), .int 2, .str "lock me"] = .nw (.i "Book" bookN (k14V [.str "tag me", .str "tag you", .str "lock me"] [dTm, dTy, dLm])) none := by kernel_rfl
  have a1 : ∀ xs ds, Book_answers_F [.ins "Book" bookN (k14V xs ds)] = .ok (.tup xs) none := fun xs ds => by kernel_rfl
  have r1 : neD (.lst [.tup [.str "lock me", .str "tag you", .str "tag me"], .tup [.str "tag me", .str "tag you", .str "lock me"], .tup [.str "tag me", .str "tag you", .str "tag me"]]) (.lst [.tup [.str "lock me", .str "tag you", .str "tag me"], .tup [.str "tag me", .str "tag you", .str "lock me"], .tup [.str "tag me", .str "tag you", .str "tag me"]]) = some (.bl false) := by kernel_rfl
  obtain ⟨xs, t1, t2⟩ := tail_ok (ns := ns) (vi := 3) (cap := 8) (f := law_6_x1) (Γ := [.im (.scr ns), .im (.ins "Book" bookN (k14V [.str "tag me", .str "tag you", .str "tag me"] [dTm, dTy, dTm])), .acc (.l [.tup [.str "lock me", .str "tag you", .str "tag me"], .tup [.str "tag me", .str "tag you", .str "lock me"], .tup [.str "tag me", .str "tag you", .str "tag me"]]), .no]) rfl rfl (by decide) (by decide) fun k hk => by
    obtain ⟨p, e1, P⟩ := stock_ok ns k hk
    obtain ⟨o, e2⟩ := right_k14 P
    simp -implicitDefEqProofs only [law_6_x1, Ev.all, Ev.all2, Ev.all3, and_self, and_true, true_and, List.getElem?_cons_zero, List.getElem?_cons_succ, List.set_cons_zero, List.set_cons_succ, List.length_cons, List.length_nil, Option.map_some, Option.bind_some, Option.map_none, Option.bind_none, List.map_cons, List.map_nil, List.cons_append, List.nil_append, List.append_nil, Nat.reduceAdd, Nat.reduceSub, Nat.zero_add, List.replicate_succ, List.replicate_zero, if_true, if_false, reduceIte, Nat.reduceLeDiff, Nat.reduceEqDiff, Bool.not_true, Bool.not_false, decide_true, decide_false, Int.reduceLT, Int.reduceLE, Bool.false_eq_true, Bool.true_eq_false, reduceCtorEq, Bool.or_false, Bool.or_true, Bool.true_or, Bool.false_or, e1, e2]
  unfold law_6_F law_6_b
  simp -implicitDefEqProofs only [Ev.all, Ev.all2, Ev.all3, and_self, and_true, true_and, List.getElem?_cons_zero, List.getElem?_cons_succ, List.set_cons_zero, List.set_cons_succ, List.length_cons, List.length_nil, Option.map_some, Option.bind_some, Option.map_none, Option.bind_none, List.map_cons, List.map_nil, List.cons_append, List.nil_append, List.append_nil, Nat.reduceAdd, Nat.reduceSub, Nat.zero_add, List.replicate_succ, List.replicate_zero, if_true, if_false, reduceIte, Nat.reduceLeDiff, Nat.reduceEqDiff, Bool.not_true, Bool.not_false, decide_true, decide_false, Int.reduceLT, Int.reduceLE, Bool.false_eq_true, Bool.true_eq_false, reduceCtorEq, Bool.or_false, Bool.or_true, Bool.true_or, Bool.false_or, Bool.and_self, Bool.true_and, Bool.and_true, eq_self, b0, b1, b2, a1, r1, ins_changed, t1, t2]
end PL

/-! end -/
set_option Elab.async false
set_option linter.all false
set_option maxRecDepth 100000
set_option maxHeartbeats 0
open PySem PySem.W PySem.Calls PyProof.Rows
theorem PySem.Challenge.cw_boxthieves_k14_answers_exchanged_holds : PySem.Challenge.rw_boxthieves_k14_answers_exchanged.Holds := by
  w_on; o_law
  refine HandSHeadRun.head_any (r := OpenLaw.row PySem.Challenge.rw_boxthieves_k14_answers_exchanged) (q := view (OpenLaw.row PySem.Challenge.rw_boxthieves_k14_answers_exchanged).prog [44]) (H := K14.hk) (ob := K14.ob) (M := 3000) (loose := K14.loose) (d := HandSHeadRun.topDef (OpenLaw.row PySem.Challenge.rw_boxthieves_k14_answers_exchanged).prog 44) (kwd := []) K14.ob_eq
    (by kernel_rfl) (fun s => by kernel_rfl) K14.run (by kernel_rfl) (by kernel_rfl) (by kernel_rfl) (by rfl) (by first | assumption | decide +kernel) (by decide +kernel) ⟨rfl, rfl, rfl, rfl, rfl, by decide +kernel⟩ ?hw ?hc
  case hw => w_witness2
  case hc =>
    refine FL.end_law (l := PySem.Challenge.rw_boxthieves_k14_answers_exchanged) (n := 63) (k := 8) (x := "_law_cells") rfl (by decide) (by kernel_rfl) ⟨rfl, by decide, by decide⟩ ?F
    intro w mg fa h Y G hmg0
    obtain ⟨K, KX, c, e, sx⟩ := Y
    have hmg : mg ("law" : PySem.Str) = some (.ref fa) := by
      have e : (HandSHeadRun.topDef (OpenLaw.row PySem.Challenge.rw_boxthieves_k14_answers_exchanged).prog 44).name = ("law" : PySem.Str) := by kernel_rfl
      rw [← e]
      exact hmg0
    have T : K14.TX K mg := ⟨FL.Ty.mk' ⟨h, KX, G⟩ c e sx⟩
    have ea := hmg.symm.trans T.g_law
    cases ea
    refine ⟨K, FL.fdOf K (He.ga K "law"), FL.spL K ["_law_cells"] none PF.law_6_F, KX, fun s v => ?_, fun H a ns hl hO hS => FL.law_sp (fun ns => PL.K14_law ns) H a ns hO hS, fun base _ _ => T.w_law⟩
    exact L2.FunD.bindsA (ps := ["_law_cells"]) T.f_law (fun _ _ _ _ _ _ us hl => match us, hl with | [_], _ => rfl) s [v] rfl
