import PyProof.Rows.All
import Wide.All
import OpenK.AllK
import Wide.FinOn
import HandS.ForMost
import HandS.Wide
import HandS.Evl
import HandS.WideBits
import HandS.IsInst
import HandS.TupAny
import HandS.StrMore
import HandS.Style
import HandS.Dict
import HandS.DictComp
import HandS.ListItems
import KE.SortData
import HandS.Set
import HandS.Strs
import HandS.Defaults
import HandS.TupLe
import HandS.Replace
import HandS.Conv
import KE.GoesEnum
import KE.GoesEnumKw
import KE.GoesZip
import KE.GoesMore
import HandS.Rev
import HandS.RevTup
import PyProof.StrOps
import HandS.List
import PyProof.ListStr
import HandS.Sort
import HandS.SortOrd
import HandS.SortRule
import HandS.SortInts
import HandS.Spec
import KE.KSortTup
import KE.KSortTupAny
import HandS.Call
import HandS.Words
import HandS.Ends
import KE.DatumIndex
import PyProof.ReprRoads
import KE.KRevSl
import PySem.Challenge.RW_skipcounts_k78_ranks_of_places
set_option Elab.async false
set_option linter.all false
set_option maxRecDepth 100000
set_option maxHeartbeats 4000000
/-! Data as trees over the heap; a frame's slots; one step of the frame. -/
namespace Dv
open PySem PySem.Spec PyProof.Rows L2 Evl

/-- a dict's key: an int or a text -/
abbrev KD := Int ⊕ List Nat
/-- plain data: what a value stands for; dct: a dict (keys ints and texts), dtt: one whose keys are tuples, obj: an instance of a class of the program, cls: such a class -/
inductive D where
  | non | bl (b : Bool) | int (i : Int) | str (s : List Nat) | ty (n : String)
  | lst (xs : List D) | tup (xs : List D) | fls (xs : List D)
  | dct (ks : List KD) (xs : List D) | dtt (ks : List (List KD)) (xs : List D)
  | obj (c : String) (ns : List String) (xs : List D) | cls (c : String)
abbrev D.dic : D := .dct [] []

abbrev mkS (s : List Nat) : Str := ⟨s.toArray⟩
def kk : KD → L2.Key
  | .inl i => .inl i
  | .inr s => .inr (mkS s)
def kD : KD → D
  | .inl i => .int i
  | .inr s => .str s
/-- data as a key -/
def keyOf : D → Option KD
  | .int i => some (.inl i)
  | .str s => some (.inr s)
  | _ => none
theorem keyOf_some {d : D} {k : KD} (h : keyOf d = some k) : d = kD k := by
  cases d <;> first | cases h; rfl | cases h
section
variable {κ α : Type} [DecidableEq κ]
/-- a table's look-up; a store, in its place or at the end -/
def getK (m : List (κ × α)) (k : κ) : Option α := (m.find? fun p => decide (p.1 = k)).map (·.2)
def hasK (m : List (κ × α)) (k : κ) : Bool := m.any fun p => decide (p.1 = k)
def putM (m : List (κ × α)) (k : κ) (x : α) : List (κ × α) := if hasK m k = true then m.map fun p => if p.1 = k then (p.1, x) else p else m ++ [(k, x)]
end
/-- the class of that name -/
def ClsAt (K : PySem.W.Frag) (c : String) (C : Addr) : Prop := PySem.W.nsIn K mainGlobals (Str.ofString c) = some (some (.ref C))
theorem mkS_len (s : List Nat) : (mkS s).length = s.length := by simp [mkS, Str.length]
theorem mkS_tl (s : List Nat) : (mkS s).cps.toList = s := rfl
theorem mkS_inj {s t : List Nat} (h : mkS s = mkS t) : s = t := by
  have := congrArg (fun x : Str => x.cps.toList) h
  exact this

theorem kk_inj {a b : KD} (h : kk a = kk b) : a = b := by
  cases a <;> cases b
  · injection h with h; rw [h]
  · cases h
  · cases h
  · injection h with h; rw [mkS_inj h]
mutual
def Rep (K : PySem.W.Frag) (B : Hp) : D → V → Prop
  | .non, v => v = .non
  | .bl b, v => v = .bl b
  | .int i, v => v = .int i
  | .str s, v => v = .str (mkS s)
  | .ty n, v => v = .ty n
  | .lst ds, v => ∃ a vs, v = .ref a ∧ B a = some (.lst vs) ∧ Reps K B ds vs
  | .tup ds, v => ∃ a vs, v = .ref a ∧ SqT K B a vs ∧ Reps K B ds vs
  | .fls ds, v => ∃ a vs, v = .ref a ∧ SqL K B a vs ∧ Reps K B ds vs
  | .dct ks ds, v => ∃ a o kvs, v = .ref a ∧ B a = some (.frz o (.dK kvs)) ∧ kvs.map (·.1) = ks.map kk ∧ Reps K B ds (kvs.map (·.2))
  | .dtt ks ds, v => ∃ a o kvs, v = .ref a ∧ B a = some (.frz o (.dT kvs)) ∧ kvs.map (·.1) = ks.map (·.map kk) ∧ Reps K B ds (kvs.map (·.2))
  | .obj c ns ds, v => ∃ a C dx fs, v = .ref a ∧ B a = some (.ins C dx fs) ∧ ClsAt K c C ∧ fs.map (·.1) = ns.map Str.ofString ∧ Reps K B ds (fs.map (·.2))
  | .cls c, v => ∃ C, v = .ref C ∧ ClsAt K c C
def Reps (K : PySem.W.Frag) (B : Hp) : List D → List V → Prop
  | [], vs => vs = []
  | d :: ds, vs => ∃ v r, vs = v :: r ∧ Rep K B d v ∧ Reps K B ds r
end

mutual
theorem Rep.mono {K : PySem.W.Frag} {B B' : Hp} (e : Ex B B') : ∀ (d : D) (v : V), Rep K B d v → Rep K B' d v
  | .non, v, h => h
  | .bl _, v, h => h
  | .int _, v, h => h
  | .str _, v, h => h
  | .ty _, v, h => h
  | .dct ks ds, v, h => by
    obtain ⟨a, o, kvs, h1, h2, h3, h4⟩ := h
    exact ⟨a, o, kvs, h1, e _ _ h2, h3, Reps.mono e ds _ h4⟩
  | .dtt ks ds, v, h => by
    obtain ⟨a, o, kvs, h1, h2, h3, h4⟩ := h
    exact ⟨a, o, kvs, h1, e _ _ h2, h3, Reps.mono e ds _ h4⟩
  | .obj c ns ds, v, h => by
    obtain ⟨a, C, dx, fs, h1, h2, h3, h4, h5⟩ := h
    exact ⟨a, C, dx, fs, h1, e _ _ h2, h3, h4, Reps.mono e ds _ h5⟩
  | .cls _, v, h => h
  | .lst ds, v, h => by
    obtain ⟨a, vs, h1, h2, h3⟩ := h
    exact ⟨a, vs, h1, e _ _ h2, Reps.mono e ds vs h3⟩
  | .tup ds, v, h => by
    obtain ⟨a, vs, h1, h2, h3⟩ := h
    exact ⟨a, vs, h1, ex_t e h2, Reps.mono e ds vs h3⟩
  | .fls ds, v, h => by
    obtain ⟨a, vs, h1, h2, h3⟩ := h
    exact ⟨a, vs, h1, ex_l e h2, Reps.mono e ds vs h3⟩
theorem Reps.mono {K : PySem.W.Frag} {B B' : Hp} (e : Ex B B') : ∀ (ds : List D) (vs : List V), Reps K B ds vs → Reps K B' ds vs
  | [], vs, h => h
  | d :: ds, vs, h => by
    obtain ⟨v, r, h1, h2, h3⟩ := h
    exact ⟨v, r, h1, Rep.mono e d v h2, Reps.mono e ds r h3⟩
end

section
variable {K : PySem.W.Frag} {B : Hp}
theorem Reps.length : ∀ {ds : List D} {vs : List V}, Reps K B ds vs → vs.length = ds.length
  | [], _, h => by cases h; rfl
  | d :: ds, _, h => by
    obtain ⟨v, r, rfl, _, h3⟩ := h
    show r.length + 1 = ds.length + 1
    rw [h3.length]
theorem Reps.get : ∀ {ds : List D} {vs : List V} {i : Nat} {d : D}, Reps K B ds vs → ds[i]? = some d → ∃ v, vs[i]? = some v ∧ Rep K B d v
  | [], _, _, _, _, e => by simp at e
  | d :: ds, _, 0, _, h, e => by
    obtain ⟨v, r, rfl, h2, _⟩ := h
    simp at e; subst e
    exact ⟨v, rfl, h2⟩
  | d :: ds, _, i + 1, _, h, e => by
    obtain ⟨v, r, rfl, _, h3⟩ := h
    obtain ⟨u, q1, q2⟩ := Reps.get (i := i) h3 (by simpa using e)
    exact ⟨u, by simpa using q1, q2⟩
theorem Reps.get' {ds : List D} {vs : List V} {i : Nat} {v : V} (h : Reps K B ds vs) (e : vs[i]? = some v) : ∃ d, ds[i]? = some d ∧ Rep K B d v := by
  have hl := h.length
  have hi : i < vs.length := by
    rcases Nat.lt_or_ge i vs.length with q | q
    · exact q
    · rw [List.getElem?_eq_none q] at e; cases e
  have hd : ds[i]? = some (ds[i]'(by omega)) := List.getElem?_eq_getElem (by omega)
  obtain ⟨u, q1, q2⟩ := h.get hd
  rw [e] at q1; cases q1
  exact ⟨_, hd, q2⟩
theorem Reps.append : ∀ {ds es : List D} {vs us : List V}, Reps K B ds vs → Reps K B es us → Reps K B (ds ++ es) (vs ++ us)
  | [], _, _, _, h, q => by cases h; exact q
  | d :: ds, _, _, _, h, q => by
    obtain ⟨v, r, rfl, h2, h3⟩ := h
    exact ⟨v, _, rfl, h2, h3.append q⟩
theorem Reps.set : ∀ {ds : List D} {vs : List V} {d : D} {v : V} (i : Nat), Reps K B ds vs → Rep K B d v → Reps K B (ds.set i d) (vs.set i v)
  | [], _, _, _, _, h, _ => by cases h; rfl
  | _ :: _, _, _, _, 0, h, q => by
    obtain ⟨w, r, rfl, h2, h3⟩ := h
    exact ⟨_, _, rfl, q, h3⟩
  | _ :: _, _, _, _, i + 1, h, q => by
    obtain ⟨w, r, rfl, h2, h3⟩ := h
    exact ⟨_, _, rfl, h2, h3.set i q⟩
theorem Reps.take : ∀ {ds : List D} {vs : List V} (n : Nat), Reps K B ds vs → Reps K B (ds.take n) (vs.take n)
  | _, _, 0, _ => by simp only [List.take_zero]; rfl
  | [], _, n + 1, h => by cases h; rfl
  | d :: ds, _, n + 1, h => by
    obtain ⟨v, r, rfl, h2, h3⟩ := h
    exact ⟨v, _, rfl, h2, h3.take n⟩
theorem Reps.drop : ∀ {ds : List D} {vs : List V} (n : Nat), Reps K B ds vs → Reps K B (ds.drop n) (vs.drop n)
  | _, _, 0, h => h
  | [], _, n + 1, h => by cases h; rfl
  | d :: ds, _, n + 1, h => by
    obtain ⟨v, r, rfl, h2, h3⟩ := h
    exact h3.drop n
theorem Reps.reverse : ∀ {ds : List D} {vs : List V}, Reps K B ds vs → Reps K B ds.reverse vs.reverse
  | [], _, h => by cases h; rfl
  | d :: ds, _, h => by
    obtain ⟨v, r, rfl, h2, h3⟩ := h
    rw [List.reverse_cons, List.reverse_cons]
    exact h3.reverse.append ⟨v, [], rfl, h2, rfl⟩
theorem Reps.flat {ds : List D} {vs : List V} (h : Reps K B ds vs) : ∀ n : Nat, Reps K B (List.replicate n ds).flatten (List.replicate n vs).flatten
  | 0 => rfl
  | n + 1 => by
    rw [List.replicate_succ, List.replicate_succ, List.flatten_cons, List.flatten_cons]
    exact h.append (h.flat n)
theorem Reps.one {d : D} {v : V} (h : Rep K B d v) : Reps K B [d] [v] := ⟨v, [], rfl, h, rfl⟩
theorem Reps.ints : ∀ (ns : List Int), Reps K B (ns.map D.int) (ns.map V.int)
  | [] => rfl
  | n :: ns => ⟨.int n, ns.map V.int, rfl, rfl, Reps.ints ns⟩
theorem Reps.of_ints : ∀ {ns : List Int} {vs : List V}, Reps K B (ns.map D.int) vs → vs = ns.map V.int
  | [], _, h => h
  | n :: ns, _, h => by
    obtain ⟨v, r, rfl, h2, h3⟩ := h
    have h2 : v = .int n := h2
    rw [h2, Reps.of_ints h3]; rfl
theorem Reps.of_strs : ∀ {ns : List (List Nat)} {vs : List V}, Reps K B (ns.map D.str) vs → vs = (ns.map mkS).map V.str
  | [], _, h => h
  | n :: ns, _, h => by
    obtain ⟨v, r, rfl, h2, h3⟩ := h
    have h2 : v = .str (mkS n) := h2
    rw [h2, Reps.of_strs h3]; rfl
end

/-- a local name: not told, some data, or a list that only this name has (pinned: it is also the caller's) -/
inductive Lv where
  | no | val (d : D) | own (pin : Bool) (d : D)
abbrev Lvs := List Lv

/-- what stands at an owned address -/
def OwnAt (K : PySem.W.Frag) (B : Hp) (o : Option HO) : D → Prop
  | .lst ds => ∃ vs, o = some (.lst vs) ∧ Reps K B ds vs
  | .dct ks ds => ∃ kvs, o = some (.dK kvs) ∧ kvs.map (·.1) = ks.map kk ∧ Reps K B ds (kvs.map (·.2))
  | .dtt ks ds => ∃ kvs, o = some (.dT kvs) ∧ kvs.map (·.1) = ks.map (·.map kk) ∧ Reps K B ds (kvs.map (·.2))
  | .obj c ns ds => ∃ C dx fs, o = some (.ins C dx fs) ∧ ClsAt K c C ∧ fs.map (·.1) = ns.map Str.ofString ∧ Reps K B ds (fs.map (·.2))
  | _ => False
/-- data that is locked when it is given up -/
def lk : D → Bool
  | .dct _ _ => true
  | .dtt _ _ => true
  | _ => false
theorem OwnAt.mono {K : PySem.W.Frag} {B B' : Hp} {o : Option HO} (e : Ex B B') {d : D} (h : OwnAt K B o d) : OwnAt K B' o d := by
  cases d with
  | lst ds => obtain ⟨vs, h1, h2⟩ := h; exact ⟨vs, h1, Reps.mono e _ _ h2⟩
  | dct ks ds => obtain ⟨vs, h1, h2, h3⟩ := h; exact ⟨vs, h1, h2, Reps.mono e _ _ h3⟩
  | dtt ks ds => obtain ⟨vs, h1, h2, h3⟩ := h; exact ⟨vs, h1, h2, Reps.mono e _ _ h3⟩
  | obj c ns ds => obtain ⟨C, dx, fs, h1, h2, h3, h4⟩ := h; exact ⟨C, dx, fs, h1, h2, h3, Reps.mono e _ _ h4⟩
  | _ => exact h.elim
theorem OwnAt.there {K : PySem.W.Frag} {B : Hp} {o : Option HO} {d : D} (h : OwnAt K B o d) : ∃ u, o = some u := by
  cases d with
  | lst ds => obtain ⟨vs, h1, h2⟩ := h; exact ⟨_, h1⟩
  | dct ks ds => obtain ⟨vs, h1, h2, h3⟩ := h; exact ⟨_, h1⟩
  | dtt ks ds => obtain ⟨vs, h1, h2, h3⟩ := h; exact ⟨_, h1⟩
  | obj c ns ds => obtain ⟨C, dx, fs, h1, h2⟩ := h; exact ⟨_, h1⟩
  | _ => exact h.elim
/-- .. given up: it is data from now on -/
theorem OwnAt.rep {K : PySem.W.Frag} {B : Hp} {a : Addr} {u : HO} (hn : B a = none) {d : D} (hk : lk d = false) (h : OwnAt K B (some u) d) : Rep K (upd B a u) d (.ref a) := by
  cases d with
  | lst ds =>
    obtain ⟨vs, h1, h2⟩ := h
    cases h1
    exact ⟨a, vs, rfl, upd_same, Reps.mono (Ex.new hn) _ _ h2⟩
  | obj c ns ds =>
    obtain ⟨C, dx, fs, h1, h2, h3, h4⟩ := h
    cases h1
    exact ⟨a, C, dx, fs, rfl, upd_same, h2, h3, Reps.mono (Ex.new hn) _ _ h4⟩
  | dct ks ds => cases hk
  | dtt ks ds => cases hk
  | _ => exact h.elim
theorem OwnAt.mut {K : PySem.W.Frag} {B : Hp} {u : HO} {d : D} (h : OwnAt K B (some u) d) : Mut (some u) := by
  cases d with
  | lst ds => obtain ⟨vs, h1, h2⟩ := h; cases h1; trivial
  | dct ks ds => obtain ⟨vs, h1, h2, h3⟩ := h; cases h1; trivial
  | dtt ks ds => obtain ⟨vs, h1, h2, h3⟩ := h; cases h1; trivial
  | obj c ns ds => obtain ⟨C, dx, fs, h1, h2⟩ := h; cases h1; trivial
  | _ => exact h.elim
/-- .. and locked -/
theorem OwnAt.repL {K : PySem.W.Frag} {B : Hp} {a : Addr} {u : HO} {od : Obj} (hn : B a = none) {d : D} (hk : lk d = true) (h : OwnAt K B (some u) d) : Rep K (upd B a (.frz od u)) d (.ref a) := by
  cases d with
  | dct ks ds =>
    obtain ⟨kvs, h1, h2, h3⟩ := h
    cases h1
    exact ⟨a, od, kvs, rfl, upd_same, h2, Reps.mono (Ex.new hn) _ _ h3⟩
  | dtt ks ds =>
    obtain ⟨kvs, h1, h2, h3⟩ := h
    cases h1
    exact ⟨a, od, kvs, rfl, upd_same, h2, Reps.mono (Ex.new hn) _ _ h3⟩
  | _ => cases hk

def OwnP (σ : L2.St) (env : Lvs) (p : Bool) (a : Addr) : Prop := ∃ (i : Nat) (d : D), env[i]? = some (.own p d) ∧ σ[i]? = some (some (.ref a))
def IsOwn (σ : L2.St) (env : Lvs) (a : Addr) : Prop := ∃ (i : Nat) (p : Bool) (d : D), env[i]? = some (.own p d) ∧ σ[i]? = some (some (.ref a))
theorem IsOwn.of {σ : L2.St} {env : Lvs} {p : Bool} {a : Addr} : OwnP σ env p a → IsOwn σ env a := fun ⟨i, d, h⟩ => ⟨i, p, d, h⟩

/-- where a piece of code was entered -/
structure Ent where
  B : Hp
  H : Hp
  L : Bool → Addr → Prop
  P : Nat → Option V

/-- B: the data, known and not to change. H: the heap. The slots σ stand for env. -/
structure Ok (K : PySem.W.Frag) (G : Ent) (B H : Hp) (σ : L2.St) (env : Lvs) : Prop where
  len : env.length = σ.length
  sub : Ex B H
  val : ∀ (i : Nat) (d : D), env[i]? = some (.val d) → ∃ v, σ[i]? = some (some v) ∧ Rep K B d v
  own : ∀ (i : Nat) (p : Bool) (d : D), env[i]? = some (.own p d) → ∃ a, σ[i]? = some (some (.ref a)) ∧ B a = none ∧ OwnAt K B (H a) d ∧ (G.H a = none ∨ G.L p a)
  dis : ∀ (i j : Nat) (a : Addr) (p q : Bool) (d e : D), env[i]? = some (.own p d) → env[j]? = some (.own q e) → σ[i]? = some (some (.ref a)) → σ[j]? = some (some (.ref a)) → i = j
  pin : ∀ (i : Nat) (d : D), env[i]? = some (.own true d) → ∃ v, G.P i = some v ∧ σ[i]? = some (some v)
  mono : Ex G.B B
  keep : ∀ a o, G.H a = some o → (∀ p, ¬ G.L p a) → H a = some o
  new : ∀ a o, B a = some o → (∃ u, G.B a = some u) ∨ G.H a = none ∨ ∃ p, G.L p a
  live : ∀ a, H a = none → G.H a = none

def pinsOf (σ : L2.St) (env : Lvs) (i : Nat) : Option V := match env[i]? with
  | some (.own true _) => (σ[i]?).join
  | _ => none
/-- entered here -/
def Ent.at (B H : Hp) (σ : L2.St) (env : Lvs) : Ent := ⟨B, H, OwnP σ env, pinsOf σ env⟩

section
variable {K : PySem.W.Frag} {G : Ent} {B B1 B2 H H1 H2 : Hp} {σ σ' : L2.St} {env env1 env2 : Lvs}
theorem Ok.self (h : Ok K G B H σ env) : Ok K (Ent.at B H σ env) B H σ env where
  len := h.len
  sub := h.sub
  val := h.val
  own := fun i p d e => by
    obtain ⟨a, h1, h2, h3, _⟩ := h.own i p d e
    exact ⟨a, h1, h2, h3, .inr ⟨i, d, e, h1⟩⟩
  dis := h.dis
  pin := fun i d e => by
    obtain ⟨v, _, h2⟩ := h.pin i d e
    refine ⟨v, ?_, h2⟩
    show pinsOf σ env i = some v
    unfold pinsOf
    rw [e, h2]
    rfl
  mono := Ex.refl _
  keep := fun _ _ e _ => e
  new := fun a o e => .inl ⟨o, e⟩
  live := fun _ e => e
theorem Ok.comp (h1 : Ok K G B1 H1 σ env1) (h2 : Ok K (Ent.at B1 H1 σ env1) B2 H2 σ' env2) : Ok K G B2 H2 σ' env2 where
  len := h2.len
  sub := h2.sub
  val := h2.val
  own := fun i p d e => by
    obtain ⟨a, q1, q2, q3, q4⟩ := h2.own i p d e
    refine ⟨a, q1, q2, q3, ?_⟩
    rcases q4 with q4 | ⟨j, d', e', s'⟩
    · exact .inl (h1.live a q4)
    · obtain ⟨b, r1, _, _, r4⟩ := h1.own j p d' e'
      rw [s'] at r1
      cases r1
      exact r4
  dis := h2.dis
  pin := fun i d e => by
    obtain ⟨v, q1, q2⟩ := h2.pin i d e
    have q1 : pinsOf σ env1 i = some v := q1
    unfold pinsOf at q1
    split at q1
    · rename_i d' e'
      obtain ⟨v', r1, r2⟩ := h1.pin i d' e'
      rw [r2] at q1
      have q1 : some v' = some v := q1
      cases q1
      exact ⟨_, r1, q2⟩
    · cases q1
  mono := h1.mono.trans h2.mono
  keep := fun a o e n => h2.keep a o (h1.keep a o e n) fun p ⟨i, d, q1, q2⟩ => by
    obtain ⟨b, r1, _, _, r4⟩ := h1.own i p d q1
    rw [q2] at r1
    cases r1
    rcases r4 with r4 | r4
    · rw [e] at r4; cases r4
    · exact n p r4
  new := fun a o e => by
    rcases h2.new a o e with ⟨u, q⟩ | q | ⟨p, i, d, q1, q2⟩
    · exact h1.new a u q
    · exact .inr (.inl (h1.live a q))
    · obtain ⟨b, r1, _, _, r4⟩ := h1.own i p d q1
      rw [q2] at r1
      cases r1
      exact .inr (r4.imp id fun z => ⟨p, z⟩)
  live := fun a e => h1.live a (h2.live a e)
/-- data laid new -/
theorem Ok.lay (h : Ok K G B H σ env) {p : Addr} {o : HO} (hp : H p = none) : Ok K G (upd B p o) (upd H p o) σ env where
  len := h.len
  sub := fun a u e => by
    by_cases c : a = p
    · subst c; rw [upd_same] at e; cases e; exact upd_same
    · rw [upd_ne c] at e; rw [upd_ne c]; exact h.sub a u e
  val := fun i d e => by
    obtain ⟨v, q1, q2⟩ := h.val i d e
    exact ⟨v, q1, Rep.mono (Ex.new (fresh_back h.sub hp)) _ _ q2⟩
  own := fun i q d e => by
    obtain ⟨a, q1, q2, q3, q4⟩ := h.own i q d e
    have hne : a ≠ p := fun c => by
      obtain ⟨u, hu⟩ := q3.there
      rw [c, hp] at hu; cases hu
    refine ⟨a, q1, by rw [upd_ne hne]; exact q2, ?_, q4⟩
    rw [upd_ne hne]
    exact q3.mono (Ex.new (fresh_back h.sub hp))
  dis := h.dis
  pin := h.pin
  mono := h.mono.trans (Ex.new (fresh_back h.sub hp))
  keep := fun a u e n => by
    have q := h.keep a u e n
    rw [upd_ne (ne_of_none q hp)]; exact q
  new := fun a u e => by
    by_cases c : a = p
    · subst c; exact .inr (.inl (h.live _ hp))
    · rw [upd_ne c] at e; exact h.new a u e
  live := fun a e => by
    by_cases c : a = p
    · subst c; exact h.live _ hp
    · rw [upd_ne c] at e; exact h.live a e
/-- an object laid that nobody has yet -/
theorem Ok.tmp (h : Ok K G B H σ env) {p : Addr} {o : HO} (hp : H p = none) : Ok K G B (upd H p o) σ env where
  len := h.len
  sub := fun a u e => by
    have q := h.sub a u e
    rw [upd_ne (ne_of_none q hp)]; exact q
  val := h.val
  own := fun i q d e => by
    obtain ⟨a, q1, q2, q3, q4⟩ := h.own i q d e
    have hne : a ≠ p := fun c => by
      obtain ⟨u, hu⟩ := q3.there
      rw [c, hp] at hu; cases hu
    exact ⟨a, q1, q2, by rw [upd_ne hne]; exact q3, q4⟩
  dis := h.dis
  pin := h.pin
  mono := h.mono
  keep := fun a u e n => by
    have q := h.keep a u e n
    rw [upd_ne (ne_of_none q hp)]; exact q
  new := h.new
  live := fun a e => by
    by_cases c : a = p
    · subst c; exact h.live _ hp
    · rw [upd_ne c] at e; exact h.live a e
/-- an object of nobody's changes -/
theorem Ok.tmpSet (h : Ok K G B H σ env) {p : Addr} {o : HO} (hB : B p = none) (hG : G.H p = none) (hO : ¬ IsOwn σ env p) : Ok K G B (upd H p o) σ env where
  len := h.len
  sub := fun a u e => by
    rw [upd_ne (ne_of_none e hB)]; exact h.sub a u e
  val := h.val
  own := fun i q d e => by
    obtain ⟨a, q1, q2, q3, q4⟩ := h.own i q d e
    have hne : a ≠ p := fun c => hO ⟨i, q, d, e, c ▸ q1⟩
    exact ⟨a, q1, q2, by rw [upd_ne hne]; exact q3, q4⟩
  dis := h.dis
  pin := h.pin
  mono := h.mono
  keep := fun a u e n => by
    rw [upd_ne (ne_of_none e hG)]; exact h.keep a u e n
  new := h.new
  live := fun a e => by
    by_cases c : a = p
    · subst c; exact hG
    · rw [upd_ne c] at e; exact h.live a e
/-- .. it becomes data -/
theorem Ok.give (h : Ok K G B H σ env) {p : Addr} {o : HO} (hp : H p = some o) (hB : B p = none) (hG : G.H p = none) (hO : ¬ IsOwn σ env p) : Ok K G (upd B p o) H σ env where
  len := h.len
  sub := fun a u e => by
    by_cases c : a = p
    · subst c; rw [upd_same] at e; cases e; exact hp
    · rw [upd_ne c] at e; exact h.sub a u e
  val := fun i d e => by
    obtain ⟨v, q1, q2⟩ := h.val i d e
    exact ⟨v, q1, Rep.mono (Ex.new hB) _ _ q2⟩
  own := fun i q d e => by
    obtain ⟨a, q1, q2, q3, q4⟩ := h.own i q d e
    have hne : a ≠ p := fun c => hO ⟨i, q, d, e, c ▸ q1⟩
    exact ⟨a, q1, by rw [upd_ne hne]; exact q2, q3.mono (Ex.new hB), q4⟩
  dis := h.dis
  pin := h.pin
  mono := h.mono.trans (Ex.new hB)
  keep := h.keep
  new := fun a u e => by
    by_cases c : a = p
    · subst c; exact .inr (.inl hG)
    · rw [upd_ne c] at e; exact h.new a u e
  live := h.live
theorem get_set_own {i j : Nat} {x : Lv} {p : Bool} {d : D} (h : (env.set i x)[j]? = some (.own p d)) (hx : ∀ p d, x ≠ .own p d) : j ≠ i ∧ env[j]? = some (.own p d) := by
  by_cases c : j = i
  · subst c
    by_cases hl : j < env.length
    · rw [List.getElem?_set_self hl] at h
      exact absurd (Option.some.inj h) (hx p d)
    · rw [List.getElem?_eq_none (by rw [List.length_set]; omega)] at h; cases h
  · rw [List.getElem?_set_ne (Ne.symm c)] at h
    exact ⟨c, h⟩
/-- a name takes data (or is told no more) -/
theorem Ok.store (h : Ok K G B H σ env) {i : Nat} {d : D} {v : V} (r : Rep K B d v) : Ok K G B H (σ.set i (some v)) (env.set i (.val d)) where
  len := by simp [h.len]
  sub := h.sub
  val := fun j e q => by
    by_cases c : j = i
    · subst c
      by_cases hl : j < env.length
      · rw [List.getElem?_set_self hl] at q
        cases q
        exact ⟨v, List.getElem?_set_self (h.len ▸ hl), r⟩
      · rw [List.getElem?_eq_none (by rw [List.length_set]; omega)] at q; cases q
    · rw [List.getElem?_set_ne (Ne.symm c)] at q
      rw [List.getElem?_set_ne (Ne.symm c)]
      exact h.val j e q
  own := fun j p e q => by
    obtain ⟨c, q⟩ := get_set_own q (fun _ _ z => nomatch z)
    rw [List.getElem?_set_ne (Ne.symm c)]
    exact h.own j p e q
  dis := fun j k a p q d e e1 e2 s1 s2 => by
    obtain ⟨c1, e1⟩ := get_set_own e1 (fun _ _ z => nomatch z)
    obtain ⟨c2, e2⟩ := get_set_own e2 (fun _ _ z => nomatch z)
    rw [List.getElem?_set_ne (Ne.symm c1)] at s1
    rw [List.getElem?_set_ne (Ne.symm c2)] at s2
    exact h.dis j k a p q d e e1 e2 s1 s2
  pin := fun j e q => by
    obtain ⟨c, q⟩ := get_set_own q (fun _ _ z => nomatch z)
    rw [List.getElem?_set_ne (Ne.symm c)]
    exact h.pin j e q
  mono := h.mono
  keep := h.keep
  new := h.new
  live := h.live
/-- a name takes a new object as its own -/
theorem Ok.take (h : Ok K G B H σ env) {i : Nat} {d : D} {a : Addr} (hB : B a = none) (hA : OwnAt K B (H a) d) (hG : G.H a = none) (hO : ¬ IsOwn σ env a) : Ok K G B H (σ.set i (some (.ref a))) (env.set i (.own false d)) where
  len := by simp [h.len]
  sub := h.sub
  val := fun j e q => by
    by_cases c : j = i
    · subst c
      by_cases hl : j < env.length
      · rw [List.getElem?_set_self hl] at q; cases q
      · rw [List.getElem?_eq_none (by rw [List.length_set]; omega)] at q; cases q
    · rw [List.getElem?_set_ne (Ne.symm c)] at q
      rw [List.getElem?_set_ne (Ne.symm c)]
      exact h.val j e q
  own := fun j p e q => by
    by_cases c : j = i
    · subst c
      by_cases hl : j < env.length
      · rw [List.getElem?_set_self hl] at q
        cases q
        exact ⟨a, List.getElem?_set_self (h.len ▸ hl), hB, hA, .inl hG⟩
      · rw [List.getElem?_eq_none (by rw [List.length_set]; omega)] at q; cases q
    · rw [List.getElem?_set_ne (Ne.symm c)] at q
      rw [List.getElem?_set_ne (Ne.symm c)]
      exact h.own j p e q
  dis := fun j k b p q d' e e1 e2 s1 s2 => by
    have hl : env.length = σ.length := h.len
    by_cases c1 : j = i
    · by_cases c2 : k = i
      · rw [c1, c2]
      · exfalso
        subst c1
        have hj : j < env.length := by
          rcases Nat.lt_or_ge j env.length with z | z
          · exact z
          · rw [List.getElem?_eq_none (by rw [List.length_set]; omega)] at e1; cases e1
        rw [List.getElem?_set_self (hl ▸ hj)] at s1
        cases s1
        rw [List.getElem?_set_ne (Ne.symm c2)] at e2 s2
        exact hO ⟨k, q, e, e2, s2⟩
    · by_cases c2 : k = i
      · exfalso
        subst c2
        have hj : k < env.length := by
          rcases Nat.lt_or_ge k env.length with z | z
          · exact z
          · rw [List.getElem?_eq_none (by rw [List.length_set]; omega)] at e2; cases e2
        rw [List.getElem?_set_self (hl ▸ hj)] at s2
        cases s2
        rw [List.getElem?_set_ne (Ne.symm c1)] at e1 s1
        exact hO ⟨j, p, d', e1, s1⟩
      · rw [List.getElem?_set_ne (Ne.symm c1)] at e1 s1
        rw [List.getElem?_set_ne (Ne.symm c2)] at e2 s2
        exact h.dis j k b p q d' e e1 e2 s1 s2
  pin := fun j e q => by
    by_cases c : j = i
    · subst c
      by_cases hl : j < env.length
      · rw [List.getElem?_set_self hl] at q; cases q
      · rw [List.getElem?_eq_none (by rw [List.length_set]; omega)] at q; cases q
    · rw [List.getElem?_set_ne (Ne.symm c)] at q
      rw [List.getElem?_set_ne (Ne.symm c)]
      exact h.pin j e q
  mono := h.mono
  keep := h.keep
  new := h.new
  live := h.live
/-- the own object of a name changes -/
theorem Ok.mut (h : Ok K G B H σ env) {i : Nat} {p : Bool} {d d' : D} {a : Addr} {o : HO} (e : env[i]? = some (.own p d)) (es : σ[i]? = some (some (.ref a))) (hA : OwnAt K B (some o) d') : Ok K G B (upd H a o) σ (env.set i (.own p d')) where
  len := by simp [h.len]
  sub := fun b u q => by
    obtain ⟨a', r1, r2, _, _⟩ := h.own i p d e
    rw [es] at r1; cases r1
    rw [upd_ne (ne_of_none q r2)]; exact h.sub b u q
  val := fun j x q => by
    by_cases c : j = i
    · subst c
      by_cases hl : j < env.length
      · rw [List.getElem?_set_self hl] at q; cases q
      · rw [List.getElem?_eq_none (by rw [List.length_set]; omega)] at q; cases q
    · rw [List.getElem?_set_ne (Ne.symm c)] at q
      exact h.val j x q
  own := fun j q x z => by
    obtain ⟨a', r1, r2, r3, r4⟩ := h.own i p d e
    rw [es] at r1; cases r1
    by_cases c : j = i
    · subst c
      have hl : j < env.length := by
        rcases Nat.lt_or_ge j env.length with y | y
        · exact y
        · rw [List.getElem?_eq_none y] at e; cases e
      rw [List.getElem?_set_self hl] at z
      cases z
      exact ⟨_, es, r2, by rw [upd_same]; exact hA, r4⟩
    · rw [List.getElem?_set_ne (Ne.symm c)] at z
      obtain ⟨b, s1, s2, s3, s4⟩ := h.own j q x z
      have hne : b ≠ a := fun w => c (h.dis j i b q p x d z e s1 (w ▸ es))
      exact ⟨b, s1, s2, by rw [upd_ne hne]; exact s3, s4⟩
  dis := fun j k b p1 q1 x y e1 e2 s1 s2 => by
    have f : ∀ {l : Nat} {p2 : Bool} {x : D}, (env.set i (.own p d'))[l]? = some (.own p2 x) → ∃ p2 x', env[l]? = some (.own p2 x') := fun {l p2 x} w => by
      by_cases c : l = i
      · subst c; exact ⟨p, d, e⟩
      · rw [List.getElem?_set_ne (Ne.symm c)] at w; exact ⟨_, x, w⟩
    obtain ⟨_, x', e1⟩ := f e1
    obtain ⟨_, y', e2⟩ := f e2
    exact h.dis j k b _ _ x' y' e1 e2 s1 s2
  pin := fun j x q => by
    by_cases c : j = i
    · subst c
      have hl : j < env.length := by
        rcases Nat.lt_or_ge j env.length with y | y
        · exact y
        · rw [List.getElem?_eq_none y] at e; cases e
      rw [List.getElem?_set_self hl] at q
      cases q
      exact h.pin j d e
    · rw [List.getElem?_set_ne (Ne.symm c)] at q
      exact h.pin j x q
  mono := h.mono
  keep := fun b u q n => by
    obtain ⟨a', r1, r2, r3, r4⟩ := h.own i p d e
    rw [es] at r1; cases r1
    have hne : b ≠ a := fun w => by
      subst w
      rcases r4 with r4 | r4
      · rw [q] at r4; cases r4
      · exact n p r4
    rw [upd_ne hne]; exact h.keep b u q n
  new := h.new
  live := fun b q => by
    by_cases c : b = a
    · subst c; rw [upd_same] at q; cases q
    · rw [upd_ne c] at q; exact h.live b q
/-- a name gives its own object up: it is data -/
theorem Ok.freeze (h : Ok K G B H σ env) {i : Nat} {p : Bool} {d : D} (e : env[i]? = some (.own p d)) (hk : lk d = false) : ∃ B' v, σ[i]? = some (some v) ∧ Ex B B' ∧ Rep K B' d v ∧ Ok K G B' H σ (env.set i (.val d)) := by
  obtain ⟨a, r1, r2, r3, r4⟩ := h.own i p d e
  obtain ⟨u, hu⟩ := r3.there
  rw [hu] at r3
  have rp := r3.rep r2 hk
  have hl : i < env.length := by
    rcases Nat.lt_or_ge i env.length with y | y
    · exact y
    · rw [List.getElem?_eq_none y] at e; cases e
  refine ⟨upd B a u, .ref a, r1, Ex.new r2, rp, ?_⟩
  refine ⟨by simp [h.len], fun b w q => ?_, fun j x q => ?_, fun j q x z => ?_, fun j k b p1 q1 x y e1 e2 s1 s2 => ?_, fun j x q => ?_, h.mono.trans (Ex.new r2), h.keep, fun b w q => ?_, h.live⟩
  · by_cases c : b = a
    · subst c; rw [upd_same] at q; cases q; exact hu
    · rw [upd_ne c] at q; exact h.sub b w q
  · by_cases c : j = i
    · subst c
      rw [List.getElem?_set_self hl] at q
      cases q
      exact ⟨_, r1, rp⟩
    · rw [List.getElem?_set_ne (Ne.symm c)] at q
      obtain ⟨v, q1, q2⟩ := h.val j x q
      exact ⟨v, q1, Rep.mono (Ex.new r2) _ _ q2⟩
  · obtain ⟨c, z⟩ := get_set_own z (fun _ _ z => nomatch z)
    obtain ⟨b, s1, s2, s3, s4⟩ := h.own j q x z
    have hne : b ≠ a := fun w => c (h.dis j i b q p x d z e s1 (w ▸ r1))
    exact ⟨b, s1, by rw [upd_ne hne]; exact s2, s3.mono (Ex.new r2), s4⟩
  · obtain ⟨c1, e1⟩ := get_set_own e1 (fun _ _ z => nomatch z)
    obtain ⟨c2, e2⟩ := get_set_own e2 (fun _ _ z => nomatch z)
    exact h.dis j k b _ _ x y e1 e2 s1 s2
  · obtain ⟨c, q⟩ := get_set_own q (fun _ _ z => nomatch z)
    exact h.pin j x q
  · by_cases c : b = a
    · subst c
      rcases r4 with r4 | r4
      · exact .inr (.inl r4)
      · exact .inr (.inr ⟨p, r4⟩)
    · rw [upd_ne c] at q; exact h.new b w q
/-- .. a dict, locked from now on -/
theorem Ok.lock (h : Ok K G B H σ env) {i : Nat} {p : Bool} {d : D} (e : env[i]? = some (.own p d)) (hk : lk d = true) : ∃ a u, σ[i]? = some (some (.ref a)) ∧ H a = some u ∧ Mut (some u) ∧ ∀ od, Rep K (upd B a (.frz od u)) d (.ref a) ∧ Ok K G (upd B a (.frz od u)) (upd H a (.frz od u)) σ (env.set i (.val d)) := by
  obtain ⟨a, r1, r2, r3, r4⟩ := h.own i p d e
  obtain ⟨u, hu⟩ := r3.there
  rw [hu] at r3
  have hl : i < env.length := by
    rcases Nat.lt_or_ge i env.length with y | y
    · exact y
    · rw [List.getElem?_eq_none y] at e; cases e
  refine ⟨a, u, r1, hu, r3.mut, fun od => ?_⟩
  have rp := r3.repL (od := od) r2 hk
  have hEx : Ex B (upd B a (.frz od u)) := Ex.new r2
  refine ⟨rp, ?_⟩
  refine ⟨by simp [h.len], fun b w q => ?_, fun j x q => ?_, fun j q x z => ?_, fun j k b p1 q1 x y e1 e2 s1 s2 => ?_, fun j x q => ?_, h.mono.trans hEx, fun b w q n => ?_, fun b w q => ?_, fun b q => ?_⟩
  · by_cases c : b = a
    · subst c; rw [upd_same] at q; cases q; rw [upd_same]
    · rw [upd_ne c] at q; rw [upd_ne c]; exact h.sub b w q
  · by_cases c : j = i
    · subst c
      rw [List.getElem?_set_self hl] at q
      cases q
      exact ⟨_, r1, rp⟩
    · rw [List.getElem?_set_ne (Ne.symm c)] at q
      obtain ⟨v, q1, q2⟩ := h.val j x q
      exact ⟨v, q1, Rep.mono hEx _ _ q2⟩
  · obtain ⟨c, z⟩ := get_set_own z (fun _ _ z => nomatch z)
    obtain ⟨b, s1, s2, s3, s4⟩ := h.own j q x z
    have hne : b ≠ a := fun w => c (h.dis j i b q p x d z e s1 (w ▸ r1))
    exact ⟨b, s1, by rw [upd_ne hne]; exact s2, by rw [upd_ne hne]; exact s3.mono hEx, s4⟩
  · obtain ⟨c1, e1⟩ := get_set_own e1 (fun _ _ z => nomatch z)
    obtain ⟨c2, e2⟩ := get_set_own e2 (fun _ _ z => nomatch z)
    exact h.dis j k b _ _ x y e1 e2 s1 s2
  · obtain ⟨c, q⟩ := get_set_own q (fun _ _ z => nomatch z)
    exact h.pin j x q
  · have hne : b ≠ a := fun z => by
      subst z
      rcases r4 with r4 | r4
      · rw [q] at r4; cases r4
      · exact n p r4
    rw [upd_ne hne]; exact h.keep b w q n
  · by_cases c : b = a
    · subst c
      rcases r4 with r4 | r4
      · exact .inr (.inl r4)
      · exact .inr (.inr ⟨p, r4⟩)
    · rw [upd_ne c] at q; exact h.new b w q
  · by_cases c : b = a
    · subst c; rw [upd_same] at q; cases q
    · rw [upd_ne c] at q; exact h.live b q
/-- a name is told no more -/
theorem Ok.drop (h : Ok K G B H σ env) {i : Nat} {x : Option V} : Ok K G B H (σ.set i x) (env.set i .no) where
  len := by simp [h.len]
  sub := h.sub
  val := fun j e q => by
    by_cases c : j = i
    · subst c
      by_cases hl : j < env.length
      · rw [List.getElem?_set_self hl] at q; cases q
      · rw [List.getElem?_eq_none (by rw [List.length_set]; omega)] at q; cases q
    · rw [List.getElem?_set_ne (Ne.symm c)] at q
      rw [List.getElem?_set_ne (Ne.symm c)]
      exact h.val j e q
  own := fun j p e q => by
    obtain ⟨c, q⟩ := get_set_own q (fun _ _ z => nomatch z)
    rw [List.getElem?_set_ne (Ne.symm c)]
    exact h.own j p e q
  dis := fun j k a p q d e e1 e2 s1 s2 => by
    obtain ⟨c1, e1⟩ := get_set_own e1 (fun _ _ z => nomatch z)
    obtain ⟨c2, e2⟩ := get_set_own e2 (fun _ _ z => nomatch z)
    rw [List.getElem?_set_ne (Ne.symm c1)] at s1
    rw [List.getElem?_set_ne (Ne.symm c2)] at s2
    exact h.dis j k a p q d e e1 e2 s1 s2
  pin := fun j e q => by
    obtain ⟨c, q⟩ := get_set_own q (fun _ _ z => nomatch z)
    rw [List.getElem?_set_ne (Ne.symm c)]
    exact h.pin j e q
  mono := h.mono
  keep := h.keep
  new := h.new
  live := h.live
end
end Dv
/-! Code over a frame's names as plain functions; the judgements; names, constants, operators, tests, arguments, lists, statements. -/
namespace Dv
open PySem PySem.Spec PyProof.Rows L2 Evl

/-- code over a frame's names -/
def M (α : Type) := Lvs → Option (α × Lvs)
def ret {α : Type} (a : α) : M α := fun e => some (a, e)
def bnd {α β : Type} (m : M α) (f : α → M β) : M β := fun e => match m e with
  | some (a, e') => f a e'
  | none => none
def stuck {α : Type} : M α := fun _ => none
def lft {α : Type} (o : Option α) : M α := fun e => match o with
  | some a => some (a, e)
  | none => none
theorem bnd_some {α β : Type} {m : M α} {f : α → M β} {e : Lvs} {p : β × Lvs} (h : bnd m f e = some p) : ∃ a e1, m e = some (a, e1) ∧ f a e1 = some p := by
  unfold bnd at h
  split at h
  · rename_i a e' q
    exact ⟨a, e', q, h⟩
  · cases h
theorem lft_some {α : Type} {o : Option α} {e : Lvs} {p : α × Lvs} (h : lft o e = some p) : ∃ a, o = some a ∧ p = (a, e) := by
  unfold lft at h
  split at h
  · cases h; exact ⟨_, rfl, rfl⟩
  · cases h
theorem ret_some {α : Type} {a : α} {e : Lvs} {p : α × Lvs} (h : ret a e = some p) : p = (a, e) := (Option.some.inj h).symm
def lim (n : Nat) : Bool := decide (n ≤ 16777216)
theorem lim_ok {n : Nat} (h : lim n = true) : n ≤ sizeLine := by rw [sizeLine_eq]; exact of_decide_eq_true h

theorem Ok.notOwn {K : PySem.W.Frag} {G : Ent} {B H : Hp} {σ : L2.St} {env : Lvs} (h : Ok K G B H σ env) {p : Addr} (hp : H p = none) : ¬ IsOwn σ env p := fun ⟨i, q, d, e1, e2⟩ => by
  obtain ⟨a, r1, _, r3, _⟩ := h.own i q d e1
  rw [e2] at r1
  cases r1
  obtain ⟨u, hu⟩ := r3.there
  rw [hp] at hu; cases hu
theorem own_rep {K : PySem.W.Frag} {B : Hp} {a : Addr} {u : HO} (hn : B a = some u) {ds : List D} (h : OwnAt K B (some u) (.lst ds)) : Rep K B (.lst ds) (.ref a) := by
  obtain ⟨vs, h1, h2⟩ := h
  cases h1
  exact ⟨a, vs, rfl, hn, h2⟩
/-- a thing that is locked if need be -/
def tLk (t : TE) : TE := fun σ H Q => t σ H fun v H' => Q v H' ∨ ∃ d u, v = .ref d ∧ H' d = some u ∧ Mut (some u) ∧ ∀ od, Q v (upd H' d (.frz od u))
theorem pe_lock {X : Cx} {e : Expr} {t : TE} (h : PE X e t) : PE X e (tLk t) := ⟨fun pins s σ H Q I q => thn (h.run pins s σ H _ I q) fun u s' ⟨v, H', I', r, q⟩ => by
  rcases q with q | ⟨d, w, rfl, hd, mu, q⟩
  · exact ⟨v, H', I', r, q⟩
  · obtain ⟨od, I2⟩ := I'.lock hd mu
    exact ⟨_, _, I2, r, q od⟩⟩

/-! ### the readings -/
section
variable (K : PySem.W.Frag)
def tD (m : M D) : TE := fun σ H Q => ∃ G B env d env', Ok K G B H σ env ∧ m env = some (d, env') ∧ ∀ v B' H', Ok K G B' H' σ env' → Rep K B' d v → Q v H'
def tF (m : M D) : TE := fun σ H Q => ∃ G B env d env', Ok K G B H σ env ∧ m env = some (d, env') ∧ ∀ a B' H', Ok K G B' H' σ env' → B' a = none → OwnAt K B' (H' a) d → G.H a = none → ¬ IsOwn σ env' a → Q (.ref a) H'
def tT (m : M Bool) : TT := fun σ H Q => ∃ G B env d env', Ok K G B H σ env ∧ m env = some (d, env') ∧ ∀ B' H', Ok K G B' H' σ env' → Q d H'
def tA (m : M (List D)) : TA := fun σ H Q => ∃ G B env d env', Ok K G B H σ env ∧ m env = some (d, env') ∧ ∀ vs B' H', Ok K G B' H' σ env' → Reps K B' d vs → Q vs H'
end
def PD (X : Cx) (e : Expr) (m : M D) : Prop := PE X e (tD X.K m)
def PF (X : Cx) (e : Expr) (m : M D) : Prop := PE X e (tF X.K m)
def PDT (X : Cx) (e : Expr) (m : M Bool) : Prop := PT X e (tT X.K m)
def PDW (X : Cx) (e : Expr) (m : M Bool) : Prop := PW X e (tT X.K m)
def PDA (X : Cx) (es : List Expr) (m : M (List D)) : Prop := PA X es (tA X.K m)

theorem pe_mono {X : Cx} {e : Expr} {t t' : TE} (h : PE X e t) (i : ∀ σ H Q, t' σ H Q → t σ H Q) : PE X e t' := ⟨fun pins s σ H Q I q => h.run pins s σ H Q I (i σ H Q q)⟩
theorem pt_mono {X : Cx} {e : Expr} {t t' : TT} (h : PT X e t) (i : ∀ σ H Q, t' σ H Q → t σ H Q) : PT X e t' := ⟨fun pins s σ H Q I q => h.run pins s σ H Q I (i σ H Q q)⟩
theorem pw_mono {X : Cx} {e : Expr} {t t' : TT} (h : PW X e t) (i : ∀ σ H Q, t' σ H Q → t σ H Q) : PW X e t' := ⟨fun wh pins s σ H Q I q => h.run wh pins s σ H Q I (i σ H Q q)⟩
theorem pa_mono {X : Cx} {e : List Expr} {t t' : TA} (h : PA X e t) (i : ∀ σ H Q, t' σ H Q → t σ H Q) : PA X e t' := ⟨fun pos pins s σ H Q I q => h.run pos pins s σ H Q I (i σ H Q q)⟩
theorem ps_mono {X : Cx} {e : Stmt} {t t' : TS} (h : PS X e t) (i : ∀ Z σ H, t' Z σ H → t Z σ H) : PS X e t' := ⟨fun pins s σ H Z I q => h.run pins s σ H Z I (i Z σ H q)⟩
theorem pss_mono {X : Cx} {e : List Stmt} {t t' : TS} (h : PSs X e t) (i : ∀ Z σ H, t' Z σ H → t Z σ H) : PSs X e t' := ⟨fun pins s σ H Z I q => h.run pins s σ H Z I (i Z σ H q)⟩

section
variable {K : PySem.W.Frag} {G : Ent} {B B1 B2 H H1 H2 : Hp} {σ σ' : L2.St} {env env' env1 env2 : Lvs}
theorem tD_of {m : M D} {d : D} {Q : VK} (h : Ok K G B H σ env) (e : m env = some (d, env')) (k : ∀ v B' H', Ok K G B' H' σ env' → Ok K (Ent.at B H σ env) B' H' σ env' → Rep K B' d v → Q v H') : tD K m σ H Q :=
  ⟨Ent.at B H σ env, B, env, d, env', h.self, e, fun v B' H' h' r => k v B' H' (h.comp h') h' r⟩
theorem tF_of {m : M D} {d : D} {Q : VK} (h : Ok K G B H σ env) (e : m env = some (d, env')) (k : ∀ a B' H', Ok K G B' H' σ env' → Ok K (Ent.at B H σ env) B' H' σ env' → B' a = none → OwnAt K B' (H' a) d → H a = none → ¬ IsOwn σ env' a → Q (.ref a) H') : tF K m σ H Q :=
  ⟨Ent.at B H σ env, B, env, d, env', h.self, e, fun a B' H' h' r1 r2 r3 r4 => k a B' H' (h.comp h') h' r1 r2 r3 r4⟩
theorem tT_of {m : M Bool} {d : Bool} {Q : Bool → Hp → Prop} (h : Ok K G B H σ env) (e : m env = some (d, env')) (k : ∀ B' H', Ok K G B' H' σ env' → Ok K (Ent.at B H σ env) B' H' σ env' → Q d H') : tT K m σ H Q :=
  ⟨Ent.at B H σ env, B, env, d, env', h.self, e, fun B' H' h' => k B' H' (h.comp h') h'⟩
theorem tA_of {m : M (List D)} {d : List D} {Q : List V → Hp → Prop} (h : Ok K G B H σ env) (e : m env = some (d, env')) (k : ∀ v B' H', Ok K G B' H' σ env' → Ok K (Ent.at B H σ env) B' H' σ env' → Reps K B' d v → Q v H') : tA K m σ H Q :=
  ⟨Ent.at B H σ env, B, env, d, env', h.self, e, fun v B' H' h' r => k v B' H' (h.comp h') h' r⟩
end

/-! ### names, constants -/
section
variable {X : Cx}
/-- the name in slot i, given away -/
def eVar (i : Nat) : M D := fun en => match en[i]? with
  | some (.val d) => some (d, en)
  | some (.own _ d) => some (d, en.set i (.val d))
  | _ => none
/-- the name in slot i, looked at alone -/
def ePeek (i : Nat) : M D := fun en => match en[i]? with
  | some (.val d) => some (d, en)
  | some (.own _ (.lst ds)) => some (.lst ds, en)
  | _ => none
/-- the own thing in slot i, of any kind -/
def eOwn (i : Nat) : M D := fun en => match en[i]? with
  | some (.own _ d) => some (d, en)
  | _ => none
theorem pd_var (i : Nat) {x : Str} {pos : Pos} (hN : X.N[i]? = some x := by rfl) (hv : Vis X.env.scope x := by first | exact Or.inl rfl | exact Or.inr (Or.inl rfl) | exact Or.inr (Or.inr rfl)) (hd : (x == ("__debug__" : Str)) = false := by decide)
    (hcd : (x == ("__classdict__" : Str)) = false := by decide) : PD X (.Name x pos) (eVar i) :=
  pe_mono (pe_lock (pe_var hN hv hd hcd)) fun σ H Q ⟨G, B, env, d, env', h, e, k⟩ => by
    unfold eVar at e
    split at e
    · rename_i d' q
      cases e
      obtain ⟨v, q1, q2⟩ := h.val i _ q
      exact ⟨v, q1, .inl (k v B H h q2)⟩
    · rename_i p d' q
      cases e
      cases hk : lk d with
      | false =>
        obtain ⟨B', v, q1, q2, q3, q4⟩ := h.freeze q hk
        exact ⟨v, q1, .inl (k v B' H q4 q3)⟩
      | true =>
        obtain ⟨a, u, q1, q2, q3, q4⟩ := h.lock q hk
        exact ⟨.ref a, q1, .inr ⟨a, u, rfl, q2, q3, fun od => k _ _ _ (q4 od).2 (q4 od).1⟩⟩
    · cases e
theorem peek_at {K : PySem.W.Frag} {G : Ent} {B H : Hp} {σ : L2.St} {env env' : Lvs} {i : Nat} {d : D} (h : Ok K G B H σ env) (e : ePeek i env = some (d, env')) : env' = env ∧ ∃ v B', σ[i]? = some (some v) ∧ Ex B B' ∧ Ex B' H ∧ Rep K B' d v := by
  unfold ePeek at e
  split at e
  · rename_i d' q
    cases e
    obtain ⟨v, q1, q2⟩ := h.val i _ q
    exact ⟨rfl, v, B, q1, Ex.refl B, h.sub, q2⟩
  · rename_i p ds q
    cases e
    obtain ⟨B', v, q1, q2, q3, q4⟩ := h.freeze q rfl
    exact ⟨rfl, v, B', q1, q2, q4.sub, q3⟩
  · cases e
theorem own_at {K : PySem.W.Frag} {G : Ent} {B H : Hp} {σ : L2.St} {env env' : Lvs} {i : Nat} {d : D} (h : Ok K G B H σ env) (e : eOwn i env = some (d, env')) : env' = env ∧ ∃ v, σ[i]? = some (some v) := by
  unfold eOwn at e
  split at e
  · rename_i p d' q
    cases e
    obtain ⟨a, r1, _⟩ := h.own i _ _ q
    exact ⟨rfl, _, r1⟩
  · cases e
def eC (d : D) : M D := ret d
theorem pd_c {e : Expr} {v : V} {d : D} (h : PE X e (tC v)) (r : ∀ B, Rep X.K B d v) : PD X e (eC d) :=
  pe_mono h fun σ H Q ⟨G, B, env, d', env', ok, e, k⟩ => by
    cases ret_some e
    exact k v B H ok (r B)
theorem pd_int {i : Int} {j pos} : PD X (.Constant (.int i) j pos) (eC (.int i)) := pd_c pe_int fun _ => rfl
theorem pd_bl {b j pos} : PD X (.Constant (.bool b) j pos) (eC (.bl b)) := pd_c pe_bl fun _ => rfl
theorem pd_non {j pos} : PD X (.Constant .none j pos) (eC .non) := pd_c pe_non fun _ => rfl
theorem pd_str {x : Str} {j pos} (s : List Nat) (h : x = mkS s := by decide +kernel) : PD X (.Constant (.str x) j pos) (eC (.str s)) := pd_c pe_str fun _ => by
  subst h; rfl
/-- a module's constant -/
theorem pd_glob {x : Str} {d : D} {v : V} {u : Value} {pos : Pos} (hm : X.mg x = some u) (r : RelV v u) (rd : ∀ B, Rep X.K B d v) (hg : Gl X x := by rfl) (hd : (x == ("__debug__" : Str)) = false := by decide) : PD X (.Name x pos) (eC d) := pd_c (pe_glob hg hm r hd) rd

/-! ### fresh objects -/
theorem PF.pd {e : Expr} {m : M D} (h : PF X e m) : PD X e m :=
  pe_mono (pe_lock h) fun σ H Q ⟨G, B, env, d, env', ok, e, k⟩ => ⟨G, B, env, d, env', ok, e, fun a B' H' ok' hB hA hG hO => by
    obtain ⟨u, hu⟩ := hA.there
    rw [hu] at hA
    cases hk : lk d with
    | false => exact .inl (k (.ref a) _ H' (ok'.give hu hB hG hO) (hA.rep hB hk))
    | true => exact .inr ⟨a, u, rfl, hu, hA.mut, fun od => k (.ref a) _ _ ((ok'.tmpSet hB hG hO).give upd_same hB hG hO) (hA.repL hB hk)⟩⟩

/-! ### operators by values -/
/-- the operation o, on data as f says; it may lay new objects -/
def OpD (X : Cx) (o : Value → Value → Sem Value) (f : D → D → Option D) : Prop := ∃ r : R2, OpR X o r ∧
  ∀ (G : Ent) (B H : Hp) (σ : L2.St) (env : Lvs) (x y : V) (d e z : D) (Q : VK), Ok X.K G B H σ env → Rep X.K B d x → Rep X.K B e y → f d e = some z → (∀ v B' H', Ok X.K G B' H' σ env → Rep X.K B' z v → Q v H') → r x y H Q
/-- .. it leaves the heap, and what comes is no object -/
def OpS (X : Cx) (o : Value → Value → Sem Value) (f : D → D → Option D) : Prop := ∃ r : R2, OpR X o r ∧
  ∀ (B H : Hp) (x y : V) (d e z : D) (Q : VK), Ex B H → Rep X.K B d x → Rep X.K B e y → f d e = some z → (∀ v, (∀ B, Rep X.K B z v) → Q v H) → r x y H Q
theorem OpS.d {o : Value → Value → Sem Value} {f : D → D → Option D} : OpS X o f → OpD X o f := fun ⟨r, hr, h⟩ => ⟨r, hr, fun G B H σ env x y d e z Q ok rx ry ez k => h B H x y d e z Q ok.sub rx ry ez fun v rv => k v B H ok (rv B)⟩
theorem opR_or {o : Value → Value → Sem Value} {r r' : R2} (h : OpR X o r) (h' : OpR X o r') : OpR X o (fun x y H Q => r x y H Q ∨ r' x y H Q) := by
  intro pins s σ H x y v u Q I rx ry q
  rcases q with q | q
  · exact h pins s σ H x y v u Q I rx ry q
  · exact h' pins s σ H x y v u Q I rx ry q
def orF (f g : D → D → Option D) : D → D → Option D := fun x y => match f x y with
  | some z => some z
  | none => g x y
theorem OpS.or {o : Value → Value → Sem Value} {f g : D → D → Option D} : OpS X o f → OpS X o g → OpS X o (orF f g) := fun ⟨r, hr, h⟩ ⟨r', hr', h'⟩ => ⟨_, opR_or hr hr', fun B H x y d e z Q ok rx ry ez k => by
  unfold orF at ez
  split at ez
  · rename_i q; cases ez; exact .inl (h B H x y d e _ Q ok rx ry q k)
  · exact .inr (h' B H x y d e _ Q ok rx ry ez k)⟩
theorem OpD.or {o : Value → Value → Sem Value} {f g : D → D → Option D} : OpD X o f → OpD X o g → OpD X o (orF f g) := fun ⟨r, hr, h⟩ ⟨r', hr', h'⟩ => ⟨_, opR_or hr hr', fun G B H σ env x y d e z Q ok rx ry ez k => by
  unfold orF at ez
  split at ez
  · rename_i q; cases ez; exact .inl (h G B H σ env x y d e _ Q ok rx ry q k)
  · exact .inr (h' G B H σ env x y d e _ Q ok rx ry ez k)⟩

def eOp (f : D → D → Option D) (a b : M D) : M D := bnd a fun x => bnd b fun y => lft (f x y)
/-- the left operand a name's, the right one too, looked at alone -/
def eOpL (f : D → D → Option D) (i : Nat) (b : M D) : M D := bnd (ePeek i) fun _ => bnd b fun y => bnd (ePeek i) fun x => lft (f x y)
def eOpR (f : D → D → Option D) (a : M D) (j : Nat) : M D := bnd a fun x => bnd (ePeek j) fun y => lft (f x y)
def eOpB (f : D → D → Option D) (i j : Nat) : M D := bnd (ePeek i) fun x => bnd (ePeek j) fun y => lft (f x y)
section
variable {K : PySem.W.Frag} {f : D → D → Option D} {ma mb : M D} {r : R2}
theorem op_red {X : Cx} {σ : L2.St} {H : Hp} {Q : VK} (hr : ∀ (G : Ent) (B H : Hp) (σ : L2.St) (env : Lvs) (x y : V) (d e z : D) (Q : VK), Ok X.K G B H σ env → Rep X.K B d x → Rep X.K B e y → f d e = some z → (∀ v B' H', Ok X.K G B' H' σ env → Rep X.K B' z v → Q v H') → r x y H Q)
    (h : tD X.K (eOp f ma mb) σ H Q) : tOp r (tD X.K ma) (tD X.K mb) σ H Q := by
  obtain ⟨G, B, env, d, env', ok, e, k⟩ := h
  obtain ⟨x, e1, q1, q2⟩ := bnd_some e
  obtain ⟨y, e2, q3, q4⟩ := bnd_some q2
  obtain ⟨z, q5, q6⟩ := lft_some q4
  cases q6
  exact tD_of ok q1 fun v B1 H1 ok1 _ r1 => tD_of ok1 q3 fun u B2 H2 ok2 ok2' r2 => hr G B2 H2 σ _ v u x y d Q ok2 (Rep.mono ok2'.mono _ _ r1) r2 q5 k
theorem opL_red {X : Cx} {σ : L2.St} {H : Hp} {Q : VK} {i : Nat} (hr : ∀ (B H : Hp) (x y : V) (d e z : D) (Q : VK), Ex B H → Rep X.K B d x → Rep X.K B e y → f d e = some z → (∀ v, (∀ B, Rep X.K B z v) → Q v H) → r x y H Q)
    (h : tD X.K (eOpL f i mb) σ H Q) : tOp r (tVar i) (tD X.K mb) σ H Q := by
  obtain ⟨G, B, env, d, env', ok, e, k⟩ := h
  obtain ⟨x0, e0, q0, e⟩ := bnd_some e
  obtain ⟨y, e1, q1, q2⟩ := bnd_some e
  obtain ⟨x, e2, q3, q4⟩ := bnd_some q2
  obtain ⟨z, q5, q6⟩ := lft_some q4
  cases q6
  obtain ⟨ee, v, _, sv, _⟩ := peek_at ok q0
  subst ee
  exact ⟨v, sv, tD_of ok q1 fun u B1 H1 ok1 ok1' r1 => by
    obtain ⟨ee, v', B', s1, x1, x2, r2⟩ := peek_at ok1 q3
    subst ee
    rw [sv] at s1
    cases s1
    exact hr B' H1 v u x y d Q x2 r2 (Rep.mono x1 _ _ r1) q5 fun w rw => k w B1 H1 ok1 (rw B1)⟩
theorem opR_red {X : Cx} {σ : L2.St} {H : Hp} {Q : VK} {j : Nat} (hr : ∀ (B H : Hp) (x y : V) (d e z : D) (Q : VK), Ex B H → Rep X.K B d x → Rep X.K B e y → f d e = some z → (∀ v, (∀ B, Rep X.K B z v) → Q v H) → r x y H Q)
    (h : tD X.K (eOpR f ma j) σ H Q) : tOp r (tD X.K ma) (tVar j) σ H Q := by
  obtain ⟨G, B, env, d, env', ok, e, k⟩ := h
  obtain ⟨x, e1, q1, q2⟩ := bnd_some e
  obtain ⟨y, e2, q3, q4⟩ := bnd_some q2
  obtain ⟨z, q5, q6⟩ := lft_some q4
  cases q6
  exact tD_of ok q1 fun v B1 H1 ok1 ok1' r1 => by
    obtain ⟨ee, u, B', s1, x1, x2, r2⟩ := peek_at ok1 q3
    subst ee
    exact ⟨u, s1, hr B' H1 v u x y d Q x2 (Rep.mono x1 _ _ r1) r2 q5 fun w rw => k w B1 H1 ok1 (rw B1)⟩
theorem opB_red {X : Cx} {σ : L2.St} {H : Hp} {Q : VK} {i j : Nat} (hr : ∀ (B H : Hp) (x y : V) (d e z : D) (Q : VK), Ex B H → Rep X.K B d x → Rep X.K B e y → f d e = some z → (∀ v, (∀ B, Rep X.K B z v) → Q v H) → r x y H Q)
    (h : tD X.K (eOpB f i j) σ H Q) : tOp r (tVar i) (tVar j) σ H Q := by
  obtain ⟨G, B, env, d, env', ok, e, k⟩ := h
  obtain ⟨x, e1, q1, q2⟩ := bnd_some e
  obtain ⟨y, e2, q3, q4⟩ := bnd_some q2
  obtain ⟨z, q5, q6⟩ := lft_some q4
  cases q6
  unfold ePeek at q1 q3
  -- both frozen at once
  obtain ⟨ee, v, B1, s1, x1, x2, r1⟩ := peek_at ok (show ePeek i env = some (x, e1) from q1)
  subst ee
  obtain ⟨ee3, _⟩ := peek_at ok (show ePeek j _ = some (y, env') from q3)
  subst ee3
  have two : ∃ u B2, σ[j]? = some (some u) ∧ Ex B1 B2 ∧ Ex B2 H ∧ Rep X.K B2 y u := by
    split at q3
    · rename_i d' q
      cases q3
      obtain ⟨u, t1, t2⟩ := ok.val j _ q
      exact ⟨u, B1, t1, Ex.refl _, x2, Rep.mono x1 _ _ t2⟩
    · rename_i p d' q
      cases q3
      obtain ⟨b, t1, t2, t3, t4⟩ := ok.own j _ _ q
      obtain ⟨w, hw⟩ := t3.there
      by_cases hb : B1 b = none
      · have t3' := t3.mono x1
        rw [hw] at t3'
        refine ⟨.ref b, upd B1 b w, t1, Ex.new hb, fun a o z => ?_, t3'.rep hb rfl⟩
        by_cases c : a = b
        · subst c; rw [upd_same] at z; cases z; exact hw
        · rw [upd_ne c] at z; exact x2 a o z
      · cases hc : B1 b with
        | none => exact absurd hc hb
        | some w' =>
          have e' := x2 b w' hc
          rw [hw] at e'
          cases e'
          have t3' := t3.mono x1
          rw [hw] at t3'
          exact ⟨.ref b, B1, t1, Ex.refl _, x2, own_rep hc t3'⟩
    · cases q3
  obtain ⟨u, B2, t1, y1, y2, r2⟩ := two
  exact ⟨v, s1, u, t1, hr B2 H v u x y d Q y2 (Rep.mono y1 _ _ r1) r2 q5 fun w rw => k w B H ok (rw B)⟩
end
theorem pd_op {op : Operator} {f : D → D → Option D} {a b : Expr} {ma mb : M D} {pos : Pos} (ho : OpD X (binaryOp op) f) (ha : PD X a ma) (hb : PD X b mb) : PD X (.BinOp a op b pos) (eOp f ma mb) := by
  obtain ⟨r, hr, h⟩ := ho
  exact pe_mono (pe_op hr ha hb) fun σ H Q q => op_red h q
theorem pd_opL {op : Operator} {f : D → D → Option D} {b : Expr} {mb : M D} {pos p1 : Pos} {i : Nat} {x : Str} (ho : OpS X (binaryOp op) f) (hx : PE X (.Name x p1) (tVar i)) (hb : PD X b mb) : PD X (.BinOp (.Name x p1) op b pos) (eOpL f i mb) := by
  obtain ⟨r, hr, h⟩ := ho
  exact pe_mono (pe_op hr hx hb) fun σ H Q q => opL_red h q
theorem pd_cmp {op : CmpOp} {f : D → D → Option D} {a b : Expr} {ma mb : M D} {pos : Pos} (ho : OpD X (compareOp op) f) (ha : PD X a ma) (hb : PD X b mb) (hm : behindInMarks op b = false) : PD X (.Compare a [op] [b] pos) (eOp f ma mb) := by
  obtain ⟨r, hr, h⟩ := ho
  exact pe_mono (pe_cmpR hr ha hb hm) fun σ H Q q => op_red h q
theorem pd_cmpL {op : CmpOp} {f : D → D → Option D} {b : Expr} {mb : M D} {pos p1 : Pos} {i : Nat} {x : Str} (ho : OpS X (compareOp op) f) (hx : PE X (.Name x p1) (tVar i)) (hb : PD X b mb) (hm : behindInMarks op b = false) : PD X (.Compare (.Name x p1) [op] [b] pos) (eOpL f i mb) := by
  obtain ⟨r, hr, h⟩ := ho
  exact pe_mono (pe_cmpR hr hx hb hm) fun σ H Q q => opL_red h q
theorem pd_cmpR {op : CmpOp} {f : D → D → Option D} {a : Expr} {ma : M D} {pos p1 : Pos} {j : Nat} {x : Str} (ho : OpS X (compareOp op) f) (ha : PD X a ma) (hx : PE X (.Name x p1) (tVar j)) (hm : behindInMarks op (.Name x p1) = false) : PD X (.Compare a [op] [.Name x p1] pos) (eOpR f ma j) := by
  obtain ⟨r, hr, h⟩ := ho
  exact pe_mono (pe_cmpR hr ha hx hm) fun σ H Q q => opR_red h q
theorem pd_cmpB {op : CmpOp} {f : D → D → Option D} {pos p1 p2 : Pos} {i j : Nat} {x y : Str} (ho : OpS X (compareOp op) f) (hx : PE X (.Name x p1) (tVar i)) (hy : PE X (.Name y p2) (tVar j)) (hm : behindInMarks op (.Name y p2) = false) : PD X (.Compare (.Name x p1) [op] [.Name y p2] pos) (eOpB f i j) := by
  obtain ⟨r, hr, h⟩ := ho
  exact pe_mono (pe_cmpR hr hx hy hm) fun σ H Q q => opB_red h q
/-- a comparison's answer as a test -/
def asB : D → Option Bool
  | .bl b => some b
  | _ => none
def eTest (m : M D) : M Bool := bnd m fun d => lft (asB d)
theorem asB_some {d : D} {b : Bool} (h : asB d = some b) : d = .bl b := by
  unfold asB at h
  split at h
  · cases h; rfl
  · cases h
theorem test_red {K : PySem.W.Frag} {m : M D} {t : TE} (i : ∀ σ H Q, tD K m σ H Q → t σ H Q) : ∀ σ H Q, tT K (eTest m) σ H Q → (t σ H fun x H' => ∃ k, x = .bl k ∧ Q k H') := fun σ H Q ⟨G, B, env, d, env', ok, e, k⟩ => by
  obtain ⟨y, e1, q1, q2⟩ := bnd_some e
  obtain ⟨z, q5, q6⟩ := lft_some q2
  cases q6
  cases asB_some q5
  exact i _ _ _ ⟨G, B, env, .bl d, env', ok, q1, fun v B' H' ok' r => ⟨d, r, k B' H' ok'⟩⟩
theorem pdt_cmp {op : CmpOp} {f : D → D → Option D} {a b : Expr} {ma mb : M D} {pos : Pos} (ho : OpD X (compareOp op) f) (ha : PD X a ma) (hb : PD X b mb) (hm : behindInMarks op b = false) : PDT X (.Compare a [op] [b] pos) (eTest (eOp f ma mb)) := by
  obtain ⟨r, hr, h⟩ := ho
  exact pt_mono (pt_cmpR hr ha hb hm) (test_red fun σ H Q q => op_red h q)
theorem pdt_cmpL {op : CmpOp} {f : D → D → Option D} {b : Expr} {mb : M D} {pos p1 : Pos} {i : Nat} {x : Str} (ho : OpS X (compareOp op) f) (hx : PE X (.Name x p1) (tVar i)) (hb : PD X b mb) (hm : behindInMarks op b = false) : PDT X (.Compare (.Name x p1) [op] [b] pos) (eTest (eOpL f i mb)) := by
  obtain ⟨r, hr, h⟩ := ho
  exact pt_mono (pt_cmpR hr hx hb hm) (test_red fun σ H Q q => opL_red h q)
theorem pdt_cmpR {op : CmpOp} {f : D → D → Option D} {a : Expr} {ma : M D} {pos p1 : Pos} {j : Nat} {x : Str} (ho : OpS X (compareOp op) f) (ha : PD X a ma) (hx : PE X (.Name x p1) (tVar j)) (hm : behindInMarks op (.Name x p1) = false) : PDT X (.Compare a [op] [.Name x p1] pos) (eTest (eOpR f ma j)) := by
  obtain ⟨r, hr, h⟩ := ho
  exact pt_mono (pt_cmpR hr ha hx hm) (test_red fun σ H Q q => opR_red h q)
theorem pdt_cmpB {op : CmpOp} {f : D → D → Option D} {pos p1 p2 : Pos} {i j : Nat} {x y : Str} (ho : OpS X (compareOp op) f) (hx : PE X (.Name x p1) (tVar i)) (hy : PE X (.Name y p2) (tVar j)) (hm : behindInMarks op (.Name y p2) = false) : PDT X (.Compare (.Name x p1) [op] [.Name y p2] pos) (eTest (eOpB f i j)) := by
  obtain ⟨r, hr, h⟩ := ho
  exact pt_mono (pt_cmpR hr hx hy hm) (test_red fun σ H Q q => opB_red h q)
/-- a value that is a bool, as a test -/
theorem pdt_val {e : Expr} {m : M D} (h : PD X e m) (he : ∀ whole, isTrue e X.env whole = (do let v ← whole; standAt e.pos; holding [v] (truthy v)) := by intro _; rfl) : PDT X e (eTest m) :=
  pt_mono (pt_val h he) (test_red fun σ H Q q => q)
/-- a < b < c -/
def eChain (f g : D → D → Option D) (a b c : M D) : M D := bnd a fun x => bnd b fun y => bnd (lft (f x y)) fun z => match z with
  | .bl true => bnd c fun w => lft (g y w)
  | .bl false => ret (.bl false)
  | _ => stuck

/-! ### and, or, not, if -/
def bAnd (a b : M Bool) : M Bool := bnd a fun c => if c = true then b else ret false
def bOr (a b : M Bool) : M Bool := bnd a fun c => if c = true then ret true else b
def bNot (a : M Bool) : M Bool := bnd a fun c => ret (!c)
theorem and_red {K : PySem.W.Frag} {a b : M Bool} : ∀ σ H Q, tT K (bAnd a b) σ H Q → tAnd (tT K a) (tT K b) σ H Q := fun σ H Q ⟨G, B, env, d, env', ok, e, k⟩ => by
  obtain ⟨c, e1, q1, q2⟩ := bnd_some e
  refine tT_of ok q1 fun B1 H1 ok1 _ => ?_
  cases c with
  | true => rw [if_pos rfl] at q2 ⊢; exact ⟨G, B1, e1, d, env', ok1, q2, k⟩
  | false => rw [if_neg Bool.false_ne_true] at q2 ⊢; cases ret_some q2; exact k B1 H1 ok1
theorem or_red {K : PySem.W.Frag} {a b : M Bool} : ∀ σ H Q, tT K (bOr a b) σ H Q → tOr (tT K a) (tT K b) σ H Q := fun σ H Q ⟨G, B, env, d, env', ok, e, k⟩ => by
  obtain ⟨c, e1, q1, q2⟩ := bnd_some e
  refine tT_of ok q1 fun B1 H1 ok1 _ => ?_
  cases c with
  | false => rw [if_neg Bool.false_ne_true] at q2 ⊢; exact ⟨G, B1, e1, d, env', ok1, q2, k⟩
  | true => rw [if_pos rfl] at q2 ⊢; cases ret_some q2; exact k B1 H1 ok1
theorem not_red {K : PySem.W.Frag} {a : M Bool} : ∀ σ H Q, tT K (bNot a) σ H Q → tNot (tT K a) σ H Q := fun σ H Q ⟨G, B, env, d, env', ok, e, k⟩ => by
  obtain ⟨c, e1, q1, q2⟩ := bnd_some e
  cases ret_some q2
  exact tT_of ok q1 fun B1 H1 ok1 _ => k B1 H1 ok1
theorem pdw_and1 {a : Expr} {m : M Bool} {pos : Pos} (h : PDT X a m) : PDW X (.BoolOp .And [a] pos) m := pw_and1 h
theorem pdw_or1 {a : Expr} {m : M Bool} {pos : Pos} (h : PDT X a m) : PDW X (.BoolOp .Or [a] pos) m := pw_or1 h
theorem pdw_and {a b : Expr} {rest : List Expr} {m n : M Bool} {pos : Pos} (h : PDT X a m) (q : PDW X (.BoolOp .And (b :: rest) pos) n) : PDW X (.BoolOp .And (a :: b :: rest) pos) (bAnd m n) := pw_mono (pw_and h q) and_red
theorem pdw_or {a b : Expr} {rest : List Expr} {m n : M Bool} {pos : Pos} (h : PDT X a m) (q : PDW X (.BoolOp .Or (b :: rest) pos) n) : PDW X (.BoolOp .Or (a :: b :: rest) pos) (bOr m n) := pw_mono (pw_or h q) or_red
theorem PDW.pdt {e : Expr} {m : M Bool} (h : PDW X e m) : PDT X e m := PW.pt h
theorem pdt_not {a : Expr} {m : M Bool} {pos : Pos} (h : PDT X a m) : PDT X (.UnaryOp .Not a pos) (bNot m) := pt_mono (pt_not h) not_red
/-- as values -/
def eAnd (a b : M D) : M D := bnd a fun d => match d with
  | .bl true => b
  | .bl false => ret (.bl false)
  | _ => stuck
def eOr (a b : M D) : M D := bnd a fun d => match d with
  | .bl true => ret (.bl true)
  | .bl false => b
  | _ => stuck
def eNot (a : M D) : M D := bnd a fun d => match d with
  | .bl b => ret (.bl (!b))
  | _ => stuck
theorem pd_one {op} {a : Expr} {m : M D} {pos : Pos} (h : PD X a m) : PD X (.BoolOp op [a] pos) m := pe_one h
theorem pd_and {a b : Expr} {rest : List Expr} {m n : M D} {pos : Pos} (h : PD X a m) (q : PD X (.BoolOp .And (b :: rest) pos) n) : PD X (.BoolOp .And (a :: b :: rest) pos) (eAnd m n) :=
  pe_mono (pe_and h q) fun σ H Q ⟨G, B, env, d, env', ok, e, k⟩ => by
    obtain ⟨c, e1, q1, q2⟩ := bnd_some e
    refine tD_of ok q1 fun v B1 H1 ok1 _ r1 => ?_
    split at q2
    · exact ⟨true, r1, by rw [if_pos rfl]; exact ⟨G, B1, e1, d, env', ok1, q2, k⟩⟩
    · cases ret_some q2
      exact ⟨false, r1, by rw [if_neg Bool.false_ne_true]; exact k _ B1 H1 ok1 rfl⟩
    · cases q2
theorem pd_or {a b : Expr} {rest : List Expr} {m n : M D} {pos : Pos} (h : PD X a m) (q : PD X (.BoolOp .Or (b :: rest) pos) n) : PD X (.BoolOp .Or (a :: b :: rest) pos) (eOr m n) :=
  pe_mono (pe_or h q) fun σ H Q ⟨G, B, env, d, env', ok, e, k⟩ => by
    obtain ⟨c, e1, q1, q2⟩ := bnd_some e
    refine tD_of ok q1 fun v B1 H1 ok1 _ r1 => ?_
    split at q2
    · cases ret_some q2
      exact ⟨true, r1, by rw [if_pos rfl]; exact k _ B1 H1 ok1 rfl⟩
    · exact ⟨false, r1, by rw [if_neg Bool.false_ne_true]; exact ⟨G, B1, e1, d, env', ok1, q2, k⟩⟩
    · cases q2
theorem pd_not {a : Expr} {m : M D} {pos : Pos} (h : PD X a m) : PD X (.UnaryOp .Not a pos) (eNot m) :=
  pe_mono (pe_not h) fun σ H Q ⟨G, B, env, d, env', ok, e, k⟩ => by
    obtain ⟨c, e1, q1, q2⟩ := bnd_some e
    refine tD_of ok q1 fun v B1 H1 ok1 _ r1 => ?_
    split at q2
    · cases ret_some q2
      exact ⟨_, r1, k _ B1 H1 ok1 rfl⟩
    · cases q2
def eIf (c : M Bool) (a b : M D) : M D := bnd c fun t => if t = true then a else b
theorem pd_if {c a b : Expr} {mc : M Bool} {ma mb : M D} {pos : Pos} (hc : PDT X c mc) (ha : PD X a ma) (hb : PD X b mb) : PD X (.IfExp c a b pos) (eIf mc ma mb) :=
  pe_mono (pe_ifExp hc ha hb) fun σ H Q ⟨G, B, env, d, env', ok, e, k⟩ => by
    obtain ⟨c, e1, q1, q2⟩ := bnd_some e
    refine tT_of ok q1 fun B1 H1 ok1 _ => ?_
    cases c with
    | true => rw [if_pos rfl] at q2 ⊢; exact ⟨G, B1, e1, d, env', ok1, q2, k⟩
    | false => rw [if_neg Bool.false_ne_true] at q2 ⊢; exact ⟨G, B1, e1, d, env', ok1, q2, k⟩

/-! ### argument lists, displays -/
def aCons (m : M D) (r : M (List D)) : M (List D) := bnd m fun d => bnd r fun ds => ret (d :: ds)
theorem pda_nil : PDA X [] (ret []) := pa_mono pa_nil fun σ H Q ⟨G, B, env, d, env', ok, e, k⟩ => by
  cases ret_some e
  exact k [] B H ok rfl
theorem pda_cons {e : Expr} {es : List Expr} {m : M D} {r : M (List D)} (h : PD X e m) (q : PDA X es r) (hs : starEach (e :: es) X.env = (false, eval e X.env) :: starEach es X.env := by rfl) : PDA X (e :: es) (aCons m r) :=
  pa_mono (pa_cons h q hs) fun σ H Q ⟨G, B, env, d, env', ok, e, k⟩ => by
    obtain ⟨x, e1, q1, q2⟩ := bnd_some e
    obtain ⟨xs, e2, q3, q4⟩ := bnd_some q2
    cases ret_some q4
    exact tD_of ok q1 fun v B1 H1 ok1 _ r1 => tA_of ok1 q3 fun vs B2 H2 ok2 ok2' r2 => k (v :: vs) B2 H2 ok2 ⟨v, vs, rfl, Rep.mono ok2'.mono _ _ r1, r2⟩
def eTup (m : M (List D)) : M D := bnd m fun ds => if lim ds.length = true then ret (.tup ds) else stuck
def eLst (m : M (List D)) : M D := bnd m fun ds => if lim ds.length = true then ret (.lst ds) else stuck
theorem pd_tup {es : List Expr} {m : M (List D)} {x1} {pos : Pos} (h : PDA X es m) : PD X (.Tuple es x1 pos) (eTup m) :=
  pe_mono (pe_tup h) fun σ H Q ⟨G, B, env, d, env', ok, e, k⟩ => by
    obtain ⟨ds, e1, q1, q2⟩ := bnd_some e
    split at q2
    · rename_i hl
      cases ret_some q2
      exact tA_of ok q1 fun vs B1 H1 ok1 _ r1 => ⟨by rw [r1.length]; exact lim_ok hl, fun p hp =>
        k (.ref p) _ _ (ok1.lay hp) ⟨p, vs, rfl, SqT.of upd_same, Reps.mono (Ex.new (fresh_back ok1.sub hp)) _ _ r1⟩⟩
    · cases q2
theorem pf_lst {es : List Expr} {m : M (List D)} {pos : Pos} (h : PDA X es m) : PF X (.List es pos) (eLst m) :=
  pe_mono (pe_lst h) fun σ H Q ⟨G, B, env, d, env', ok, e, k⟩ => by
    obtain ⟨ds, e1, q1, q2⟩ := bnd_some e
    split at q2
    · rename_i hl
      cases ret_some q2
      exact tA_of ok q1 fun vs B1 H1 ok1 _ r1 => ⟨by rw [r1.length]; exact lim_ok hl, fun p hp =>
        k p B1 _ (ok1.tmp hp) (fresh_back ok1.sub hp) ⟨vs, upd_same, r1⟩ (ok1.live p hp) (ok1.notOwn hp)⟩
    · cases q2

/-! ### statements -/
inductive Out where
  | nx | bk | ct | rt (d : D) | rn (d : D)
def MS := Lvs → Option (Out × Lvs)
def tS (K : PySem.W.Frag) (m : MS) : TS := fun Z σ H => ∃ G B env o env', Ok K G B H σ env ∧ m env = some (o, env') ∧ match o with
  | .nx => ∀ σ' B' H', Ok K G B' H' σ' env' → Z.nx σ' H'
  | .bk => ∀ σ' B' H', Ok K G B' H' σ' env' → Z.bk σ' H'
  | .ct => ∀ σ' B' H', Ok K G B' H' σ' env' → Z.ct σ' H'
  | .rt d => ∀ σ' v B' H', Ok K G B' H' σ' env' → Rep K B' d v → Z.rt v H'
  | .rn d => ∀ σ' a B' H', Ok K G B' H' σ' env' → B' a = none → OwnAt K B' (H' a) d → (G.H a = none ∨ G.L false a) → ¬ IsOwn σ' env' a → Z.rt (.ref a) H'
def PDS (X : Cx) (s : Stmt) (m : MS) : Prop := PS X s (tS X.K m)
def PDB (X : Cx) (s : List Stmt) (m : MS) : Prop := PSs X s (tS X.K m)

def sSeq (a b : MS) : MS := fun e => match a e with
  | some (.nx, e1) => b e1
  | r => r
def sNx : MS := fun e => some (.nx, e)
def sBk : MS := fun e => some (.bk, e)
def sCt : MS := fun e => some (.ct, e)
theorem pdb_nil : PDB X [] sNx := pss_mono pss_nil fun Z σ H ⟨G, B, env, o, env', ok, e, k⟩ => by
  cases e
  exact k σ B H ok
theorem seq_red {K : PySem.W.Frag} {a b : MS} : ∀ Z σ H, tS K (sSeq a b) Z σ H → tSeq (tS K a) (tS K b) Z σ H := fun Z σ H ⟨G, B, env, o, env', ok, e, k⟩ => by
  unfold sSeq at e
  split at e
  · rename_i e1 q
    exact ⟨G, B, env, .nx, e1, ok, q, fun σ' B' H' ok' => ⟨G, B', e1, o, env', ok', e, k⟩⟩
  · rename_i r hr
    refine ⟨G, B, env, o, env', ok, e, ?_⟩
    cases o with
    | nx => exact absurd e (hr env')
    | bk => exact k
    | ct => exact k
    | rt d => exact k
    | rn d => exact k
theorem pdb_cons {s : Stmt} {r : List Stmt} {a b : MS} (h : PDS X s a) (q : PDB X r b) : PDB X (s :: r) (sSeq a b) := pss_mono (pss_cons h q) seq_red
theorem pdb_one {s : Stmt} {a : MS} (h : PDS X s a) : PDB X [s] a := pss_one h
theorem pds_pass {pos : Pos} : PDS X (.Pass pos) sNx := ps_mono ps_pass fun Z σ H ⟨G, B, env, o, env', ok, e, k⟩ => by
  cases e
  exact k σ B H ok
theorem pds_break {pos : Pos} : PDS X (.Break pos) sBk := ps_mono ps_break fun Z σ H ⟨G, B, env, o, env', ok, e, k⟩ => by
  cases e
  exact k σ B H ok
theorem pds_continue {pos : Pos} : PDS X (.Continue pos) sCt := ps_mono ps_continue fun Z σ H ⟨G, B, env, o, env', ok, e, k⟩ => by
  cases e
  exact k σ B H ok
def sNever : MS := fun _ => none
theorem pds_never {s : Stmt} : PDS X s sNever := ps_mono ps_never fun Z σ H ⟨G, B, env, o, env', ok, e, k⟩ => by cases e
theorem pdb_never {s : List Stmt} : PDB X s sNever := pss_mono pss_never fun Z σ H ⟨G, B, env, o, env', ok, e, k⟩ => by cases e
def sIf (c : M Bool) (a b : MS) : MS := fun e => match c e with
  | some (true, e1) => a e1
  | some (false, e1) => b e1
  | none => none
theorem pds_if {c : Expr} {a b : List Stmt} {mc : M Bool} {ma mb : MS} {pos : Pos} (hc : PDT X c mc) (ha : PDB X a ma) (hb : PDB X b mb) : PDS X (.If c a b pos) (sIf mc ma mb) :=
  ps_mono (ps_if hc ha hb) fun Z σ H ⟨G, B, env, o, env', ok, e, k⟩ => by
    unfold sIf at e
    split at e
    · rename_i e1 q
      exact tT_of ok q fun B1 H1 ok1 _ => by rw [if_pos rfl]; exact ⟨G, B1, e1, o, env', ok1, e, k⟩
    · rename_i e1 q
      exact tT_of ok q fun B1 H1 ok1 _ => by rw [if_neg Bool.false_ne_true]; exact ⟨G, B1, e1, o, env', ok1, e, k⟩
    · cases e
/-- x = e -/
def sSet (i : Nat) (m : M D) : MS := fun e => match m e with
  | some (d, e1) => some (.nx, e1.set i (.val d))
  | none => none
/-- x = e, a new list that x alone has -/
def sOwn (i : Nat) (m : M D) : MS := fun e => match m e with
  | some (d, e1) => some (.nx, e1.set i (.own false d))
  | none => none
theorem set_red {K : PySem.W.Frag} {i : Nat} {m : M D} : ∀ Z σ H, tS K (sSet i m) Z σ H → tAsg (tD K m) (gName i) Z σ H := fun Z σ H ⟨G, B, env, o, env', ok, e, k⟩ => by
  unfold sSet at e
  split at e
  · rename_i d e1 q
    cases e
    exact tD_of ok q fun v B1 H1 ok1 _ r1 => k _ B1 H1 (ok1.store r1)
  · cases e
theorem own_red {K : PySem.W.Frag} {i : Nat} {m : M D} : ∀ Z σ H, tS K (sOwn i m) Z σ H → tAsg (tF K m) (gName i) Z σ H := fun Z σ H ⟨G, B, env, o, env', ok, e, k⟩ => by
  unfold sOwn at e
  split at e
  · rename_i d e1 q
    cases e
    exact tF_of ok q fun a B1 H1 ok1 _ h1 h2 h3 h4 => k _ B1 H1 (ok1.take h1 h2 (ok.live a h3) h4)
  · cases e
theorem pds_set (i : Nat) {x : Str} {e : Expr} {m : M D} {pos pos' : Pos} (h : PD X e m) (hN : X.N.Nodup) (hi : X.N[i]? = some x := by rfl) (hx : Loc X.env.scope x := by first | exact Or.inl rfl | exact Or.inr rfl) (hs : swapsWith e (some (.Name x pos')) pos.line X.env = pure false := by rfl)
    (hf : X.fn x = true ∨ X.env.scope.names.lookup x = some .local := by first | exact .inl rfl | exact .inr rfl) : PDS X (.Assign [.Name x pos'] e pos) (sSet i m) := ps_mono (ps_set hN hi hx h hs hf) set_red
theorem pds_own (i : Nat) {x : Str} {e : Expr} {m : M D} {pos pos' : Pos} (h : PF X e m) (hN : X.N.Nodup) (hi : X.N[i]? = some x := by rfl) (hx : Loc X.env.scope x := by first | exact Or.inl rfl | exact Or.inr rfl) (hs : swapsWith e (some (.Name x pos')) pos.line X.env = pure false := by rfl)
    (hf : X.fn x = true ∨ X.env.scope.names.lookup x = some .local := by first | exact .inl rfl | exact .inr rfl) : PDS X (.Assign [.Name x pos'] e pos) (sOwn i m) := ps_mono (ps_set hN hi hx h hs hf) own_red
/-- return -/
def sRet (m : M D) : MS := fun e => match m e with
  | some (d, e1) => some (.rt d, e1)
  | none => none
def sRetF (m : M D) : MS := fun e => match m e with
  | some (d, e1) => some (.rn d, e1)
  | none => none
/-- the name's own list goes to the caller -/
def sRetV (i : Nat) : MS := fun e => match e[i]? with
  | some (.own false d) => some (.rn d, e.set i .no)
  | _ => none
def sRetN : MS := fun e => some (.rt .non, e)
theorem pds_ret {e : Expr} {m : M D} {pos : Pos} (h : PD X e m) : PDS X (.Return (some e) pos) (sRet m) :=
  ps_mono (ps_ret h) fun Z σ H ⟨G, B, env, o, env', ok, e, k⟩ => by
    unfold sRet at e
    split at e
    · rename_i d e1 q
      cases e
      exact tD_of ok q fun v B1 H1 ok1 _ r1 => k σ v B1 H1 ok1 r1
    · cases e
theorem pds_retF {e : Expr} {m : M D} {pos : Pos} (h : PF X e m) : PDS X (.Return (some e) pos) (sRetF m) :=
  ps_mono (ps_ret h) fun Z σ H ⟨G, B, env, o, env', ok, e, k⟩ => by
    unfold sRetF at e
    split at e
    · rename_i d e1 q
      cases e
      exact tF_of ok q fun a B1 H1 ok1 _ h1 h2 h3 h4 => k σ a B1 H1 ok1 h1 h2 (.inl (ok.live a h3)) h4
    · cases e
theorem pds_retV (i : Nat) {x : Str} {pos p1 : Pos} (h : PE X (.Name x p1) (tVar i)) : PDS X (.Return (some (.Name x p1)) pos) (sRetV i) :=
  ps_mono (ps_ret h) fun Z σ H ⟨G, B, env, o, env', ok, e, k⟩ => by
    unfold sRetV at e
    split at e
    · rename_i d q
      cases e
      obtain ⟨a, r1, r2, r3, r4⟩ := ok.own i _ _ q
      have ok' := ok.drop (i := i) (x := some (.ref a))
      have hσ : σ.set i (some (.ref a)) = σ := by
        have hl : i < σ.length := by
          rcases Nat.lt_or_ge i σ.length with z | z
          · exact z
          · rw [List.getElem?_eq_none z] at r1; cases r1
        have hg : σ[i] = some (.ref a) := by
          rw [List.getElem?_eq_getElem hl] at r1
          exact Option.some.inj r1
        rw [← hg]; exact List.set_getElem_self hl
      rw [hσ] at ok'
      refine ⟨.ref a, r1, k σ a B H ok' r2 r3 r4 fun ⟨j, p, e, q1, q2⟩ => ?_⟩
      obtain ⟨c, q1⟩ := get_set_own q1 (fun _ _ z => nomatch z)
      exact c (ok.dis j i a _ _ _ _ q1 q q2 r1)
    · cases e
theorem pds_retN {pos : Pos} : PDS X (.Return none pos) sRetN := ps_mono ps_retN fun Z σ H ⟨G, B, env, o, env', ok, e, k⟩ => by
  cases e
  exact k σ .non B H ok rfl
/-- an expression alone -/
def sDo (m : M D) : MS := fun e => match m e with
  | some (_, e1) => some (.nx, e1)
  | none => none
theorem pds_do {e : Expr} {m : M D} {pos : Pos} (h : PD X e m) (hs : swapsWith e none pos.line X.env = pure false := by rfl) : PDS X (.Expr e pos) (sDo m) :=
  ps_mono (ps_expr h hs) fun Z σ H ⟨G, B, env, o, env', ok, e, k⟩ => by
    unfold sDo at e
    split at e
    · rename_i d e1 q
      cases e
      exact tD_of ok q fun v B1 H1 ok1 _ r1 => k σ B1 H1 ok1
    · cases e
end
end Dv
/-! Targets, loops, comprehensions, calls of defs, a def's body. -/
namespace Dv
open PySem PySem.Spec PyProof.Rows L2 Evl

section
variable {K : PySem.W.Frag} {G : Ent} {B B1 B2 H H1 H2 : Hp} {σ σ' : L2.St} {env env' env1 env2 : Lvs}
/-- an object of nobody's stays through a piece of code -/
theorem Ok.stay (h : Ok K (Ent.at B H σ env) B2 H2 σ' env') {a : Addr} {o : HO} (hH : H a = some o) (hB : B a = none) (hO : ¬ IsOwn σ env a) : H2 a = some o ∧ B2 a = none ∧ ¬ IsOwn σ' env' a := by
  have nO : ∀ p, ¬ OwnP σ env p a := fun p z => hO (.of z)
  refine ⟨h.keep a o hH nO, ?_, fun ⟨i, p, d, e1, e2⟩ => ?_⟩
  · cases q : B2 a with
    | none => rfl
    | some u =>
      rcases h.new a u q with ⟨w, z⟩ | z | ⟨p, z⟩
      · have z : B a = some w := z
        rw [hB] at z; cases z
      · have z : H a = none := z
        rw [hH] at z; cases z
      · exact absurd z (nO p)
  · obtain ⟨b, r1, _, _, r4⟩ := h.own i p d e1
    rw [e2] at r1; cases r1
    rcases r4 with z | z
    · have z : H a = none := z
      rw [hH] at z; cases z
    · exact nO p z
theorem tS_of {m : MS} {o : Out} {Z : Ends} (h : Ok K G B H σ env) (e : m env = some (o, env')) (k : match o with
  | .nx => ∀ σ' B' H', Ok K G B' H' σ' env' → Ok K (Ent.at B H σ env) B' H' σ' env' → Z.nx σ' H'
  | .bk => ∀ σ' B' H', Ok K G B' H' σ' env' → Ok K (Ent.at B H σ env) B' H' σ' env' → Z.bk σ' H'
  | .ct => ∀ σ' B' H', Ok K G B' H' σ' env' → Ok K (Ent.at B H σ env) B' H' σ' env' → Z.ct σ' H'
  | .rt d => ∀ σ' v B' H', Ok K G B' H' σ' env' → Rep K B' d v → Z.rt v H'
  | .rn d => ∀ σ' a B' H', Ok K G B' H' σ' env' → B' a = none → OwnAt K B' (H' a) d → (G.H a = none ∨ G.L false a) → ¬ IsOwn σ' env' a → Z.rt (.ref a) H') : tS K m Z σ H := by
  refine ⟨Ent.at B H σ env, B, env, o, env', h.self, e, ?_⟩
  cases o with
  | nx => exact fun σ' B' H' h' => k σ' B' H' (h.comp h') h'
  | bk => exact fun σ' B' H' h' => k σ' B' H' (h.comp h') h'
  | ct => exact fun σ' B' H' h' => k σ' B' H' (h.comp h') h'
  | rt d => exact fun σ' v B' H' h' => k σ' v B' H' (h.comp h')
  | rn d =>
    exact fun σ' a B' H' h' q1 q2 q3 q4 => k σ' a B' H' (h.comp h') q1 q2 (by
      rcases q3 with z | ⟨i, d', e1, e2⟩
      · exact .inl (h.live a z)
      · obtain ⟨b, r1, _, _, r4⟩ := h.own i _ _ e1
        rw [e2] at r1; cases r1
        exact r4) q4
/-- other slots, alike where anything is told -/
theorem Ok.swap (h : Ok K G B H σ env) (hl : σ'.length = σ.length) (hs : ∀ (i : Nat) (x : Lv), env[i]? = some x → x ≠ .no → σ'[i]? = σ[i]?) : Ok K G B H σ' env where
  len := h.len.trans hl.symm
  sub := h.sub
  val := fun i d e => by rw [hs i _ e (fun z => nomatch z)]; exact h.val i d e
  own := fun i p d e => by rw [hs i _ e (fun z => nomatch z)]; exact h.own i p d e
  dis := fun i j a p q d e e1 e2 s1 s2 => by
    rw [hs i _ e1 (fun z => nomatch z)] at s1
    rw [hs j _ e2 (fun z => nomatch z)] at s2
    exact h.dis i j a p q d e e1 e2 s1 s2
  pin := fun i d e => by rw [hs i _ e (fun z => nomatch z)]; exact h.pin i d e
  mono := h.mono
  keep := h.keep
  new := h.new
  live := h.live
end

/-! ### targets -/
def gN (i : Nat) : D → Lvs → Option Lvs := fun d e => some (e.set i (.val d))
def setAll : List Nat → List D → Lvs → Option Lvs
  | [], [], e => some e
  | i :: is, d :: ds, e => setAll is ds (e.set i (.val d))
  | _, _, _ => none
/-- names in a row -/
def gT (is : List Nat) : D → Lvs → Option Lvs
  | .tup ds, e => setAll is ds e
  | _, _ => none
/-- vs: the slots that may change -/
def tG (K : PySem.W.Frag) (vs : List Nat) (g : D → Lvs → Option Lvs) : TG := fun v σ H Q => ∃ G B env d env', Ok K G B H σ env ∧ Rep K B d v ∧ g d env = some env' ∧ ∀ σ' B' H', Ok K G B' H' σ' env' → wipe σ' vs = wipe σ vs → Q σ' H'
def tGs (K : PySem.W.Frag) (vs : List Nat) (is : List Nat) : TGs := fun us σ H Q => ∃ G B env ds env', Ok K G B H σ env ∧ Reps K B ds us ∧ setAll is ds env = some env' ∧ ∀ σ' B' H', Ok K G B' H' σ' env' → wipe σ' vs = wipe σ vs → Q σ' H'
def PDG (X : Cx) (vs : List Nat) (t : Expr) (g : D → Lvs → Option Lvs) : Prop := PG X t (tG X.K vs g)
def PDGs (X : Cx) (vs : List Nat) (t : List Expr) (is : List Nat) : Prop := PGs X t (tGs X.K vs is)
theorem pg_mono {X : Cx} {e : Expr} {t t' : TG} (h : PG X e t) (i : ∀ v σ H Q, t' v σ H Q → t v σ H Q) : PG X e t' := ⟨fun pins s σ H v u Q I r q => h.run pins s σ H v u Q I r (i v σ H Q q)⟩
theorem pgs_mono {X : Cx} {e : List Expr} {t t' : TGs} (h : PGs X e t) (i : ∀ v σ H Q, t' v σ H Q → t v σ H Q) : PGs X e t' := ⟨fun pins s σ H v u Q I r q => h.run pins s σ H v u Q I r (i v σ H Q q)⟩
theorem set_set_comm {α : Type} (l : List α) (i j : Nat) (x y : α) (h : i ≠ j) : (l.set i x).set j y = (l.set j y).set i x := List.set_comm _ _ h
theorem wipe_set {σ : L2.St} {i : Nat} {x : Option V} : ∀ {vs : List Nat}, i ∈ vs → wipe (σ.set i x) vs = wipe σ vs
  | v :: vs, h => by
    unfold wipe
    by_cases hv : i ∈ vs
    · rw [wipe_set hv]
    · rcases List.mem_cons.mp h with e | e
      · subst e
        have : ∀ (vs : List Nat), i ∉ vs → wipe (σ.set i x) vs = (wipe σ vs).set i x := by
          intro vs
          induction vs with
          | nil => intro _; rfl
          | cons w ws ih =>
            intro hn
            unfold wipe
            rw [ih fun z => hn (List.mem_cons_of_mem _ z), List.set_comm _ _ (fun z => hn (by rw [z]; exact List.mem_cons_self))]
        rw [this vs hv, List.set_set]
      · exact absurd e hv
section
variable {X : Cx}
theorem pdg_name (i : Nat) {vs : List Nat} {x : Str} {pos : Pos} (hN : X.N.Nodup) (hv : i ∈ vs := by decide) (hi : X.N[i]? = some x := by rfl) (hx : Loc X.env.scope x := by first | exact Or.inl rfl | exact Or.inr rfl)
    (hf : X.fn x = true ∨ X.env.scope.names.lookup x = some .local := by first | exact .inl rfl | exact .inr rfl) : PDG X vs (.Name x pos) (gN i) :=
  pg_mono (pg_name hN hi hx hf) fun v σ H Q ⟨G, B, env, d, env', ok, r, e, k⟩ => by
    cases e
    exact k _ B H (ok.store r) (wipe_set hv)
theorem pdgs_nil {vs : List Nat} : PDGs X vs [] [] := pgs_mono pgs_nil fun us σ H Q ⟨G, B, env, ds, env', ok, r, e, k⟩ => by
  cases ds with
  | nil => cases r; cases e; exact ⟨rfl, k σ B H ok rfl⟩
  | cons _ _ => cases e
theorem pdgs_cons (i : Nat) {vs is : List Nat} {x : Str} {pos : Pos} {es : List Expr} (h : PDGs X vs es is) (hN : X.N.Nodup) (hv : i ∈ vs := by decide) (hi : X.N[i]? = some x := by rfl) (hx : Loc X.env.scope x := by first | exact Or.inl rfl | exact Or.inr rfl)
    (hs : (assignEach (.Name x pos :: es) X.env).map (·.2) = assign (.Name x pos) X.env :: (assignEach es X.env).map (·.2) := by rfl)
    (hf : X.fn x = true ∨ X.env.scope.names.lookup x = some .local := by first | exact .inl rfl | exact .inr rfl) : PDGs X vs (.Name x pos :: es) (i :: is) :=
  pgs_mono (pgs_cons (pg_name hN hi hx hf) h hs) fun us σ H Q ⟨G, B, env, ds, env', ok, r, e, k⟩ => by
    cases ds with
    | nil => cases e
    | cons d ds =>
      obtain ⟨v, t, rfl, r1, r2⟩ := r
      exact ⟨v, t, rfl, G, B, env.set i (.val d), ds, env', ok.store r1, r2, e, fun σ' B' H' ok' hw => k σ' B' H' ok' (hw.trans (wipe_set hv))⟩
theorem pdg_tup {vs is : List Nat} {es : List Expr} {k : Nat} {pos : Pos} (h : PDGs X vs es is) (hc : X.calm = true) (hn : (assignEach es X.env).length = is.length := by rfl) (hst : (assignEach es X.env).findIdx? (·.1) = none := by rfl) : PDG X vs (.Tuple es k pos) (gT is) :=
  pg_mono (pg_tup hc h hn hst) fun v σ H Q ⟨G, B, env, d, env', ok, r, e, k⟩ => by
    cases d with
    | tup ds =>
      obtain ⟨a, us, rfl, hs, hr⟩ := r
      have hl : ∀ (is : List Nat) (ds : List D) (e e' : Lvs), setAll is ds e = some e' → is.length = ds.length := by
        intro is
        induction is with
        | nil => intro ds e e' h; cases ds with
          | nil => rfl
          | cons _ _ => cases h
        | cons i is ih => intro ds e e' h; cases ds with
          | nil => cases h
          | cons d ds => exact congrArg (· + 1) (ih ds _ e' h)
      exact ⟨a, us, rfl, ex_t ok.sub hs, by rw [hr.length]; exact (hl _ _ _ _ e).symm, G, B, env, ds, env', ok, hr, e, k⟩
    | _ => cases e

/-! ### what is walked -/
def Walks (K : PySem.W.Frag) (J : It) (B0 : Hp) (ds : List D) : Prop := ∀ (G : Ent) (B H : Hp) (σ : L2.St) (env : Lvs) (i : Nat), Ex B0 B → Ok K G B H σ env →
  (∀ d, ds[i]? = some d → J.go i H ∧ ∀ x H', J.yld i H x H' → ∃ B', Ok K G B' H' σ env ∧ Ok K (Ent.at B H σ env) B' H' σ env ∧ Rep K B' d x) ∧ (ds.length ≤ i → J.stop i H)
def tI (K : PySem.W.Frag) (m : M (List D)) : TI := fun σ H R => ∃ G B env ds env', Ok K G B H σ env ∧ m env = some (ds, env') ∧ ∀ J B' H', Ok K G B' H' σ env' → Walks K J B' ds → R J H'
def PDI (X : Cx) (tg iter : Expr) (m : M (List D)) : Prop := PI X tg iter (tI X.K m)
theorem pi_mono {tg e : Expr} {t t' : TI} (h : PI X tg e t) (i : ∀ σ H R, t' σ H R → t σ H R) : PI X tg e t' := ⟨fun pins s σ H R I q => h.run pins s σ H R I (i σ H R q)⟩
theorem pi_or {tg e : Expr} {t t' : TI} (h : PI X tg e t) (h' : PI X tg e t') : PI X tg e (fun σ H R => t σ H R ∨ t' σ H R) := ⟨fun pins s σ H R I q => q.elim (h.run pins s σ H R I) (h'.run pins s σ H R I)⟩
/-- the items of data -/
def itemsOf : D → Option (List D)
  | .lst ds => some ds
  | .fls ds => some ds
  | .tup ds => some ds
  | .str s => some (s.map fun c => .str [c])
  | .dct ks _ => some (ks.map kD)
  | _ => none
/-- .. of a sequence -/
def itmOf : D → Option (List D)
  | .lst ds => some ds
  | .fls ds => some ds
  | .tup ds => some ds
  | .str s => some (s.map fun c => .str [c])
  | _ => none
theorem walks_keys {K : PySem.W.Frag} {a : Addr} {o : Obj} {kvs : List (L2.Key × V)} {ks : List KD} {B0 : Hp} (hB : B0 a = some (.frz o (.dK kvs))) (hk : kvs.map (·.1) = ks.map kk) : Walks K (Itk a o kvs) B0 (ks.map kD) := fun G B H σ env i ex ok => by
  have hH : H a = some (.frz o (.dK kvs)) := ok.sub _ _ (ex _ _ hB)
  have hl : kvs.length = ks.length := by
    have := congrArg List.length hk
    rwa [List.length_map, List.length_map] at this
  refine ⟨fun d e => ?_, fun h => ⟨hH, by rw [List.length_map] at h; omega⟩⟩
  rw [List.getElem?_map] at e
  cases q : ks[i]? with
  | none => rw [q] at e; cases e
  | some k =>
    rw [q] at e
    cases e
    have hi := (List.getElem?_eq_some_iff.mp q).1
    refine ⟨⟨hH, by omega⟩, fun x H' y => ?_⟩
    obtain ⟨rfl, k', v, h1, rfl⟩ := y
    have h2 := congrArg (fun l => l[i]?) hk
    simp only [List.getElem?_map, q, h1, Option.map_some] at h2
    have h2 : k' = kk k := Option.some.inj h2
    subst h2
    refine ⟨B, ok, ok.self, ?_⟩
    cases k with
    | inl j => exact rfl
    | inr s => exact rfl
def iAny (m : M D) : M (List D) := bnd m fun d => lft (itemsOf d)
theorem walks_list {K : PySem.W.Frag} {a : Addr} {vs : List V} {ds : List D} {B0 : Hp} (hs : SqL K B0 a vs) (hr : Reps K B0 ds vs) : Walks K (Itl K a) B0 ds := fun G B H σ env i ex ok => by
  have hH : SqL K H a vs := ex_l (ex.trans ok.sub) hs
  refine ⟨fun d e => ?_, fun hl => ⟨vs, hH, by rw [hr.length]; exact hl⟩⟩
  obtain ⟨v, q1, q2⟩ := hr.get e
  refine ⟨⟨vs, v, hH, q1⟩, fun x H' y => ?_⟩
  obtain ⟨rfl, y⟩ := y
  have ex2 := y vs hH
  rw [q1] at ex2; cases ex2
  exact ⟨B, ok, ok.self, Rep.mono ex _ _ q2⟩
theorem walks_tup {K : PySem.W.Frag} {a : Addr} {vs : List V} {ds : List D} {B0 : Hp} (hs : SqT K B0 a vs) (hr : Reps K B0 ds vs) : Walks K (Itt K a) B0 ds := fun G B H σ env i ex ok => by
  have hH : SqT K H a vs := ex_t (ex.trans ok.sub) hs
  refine ⟨fun d e => ?_, fun hl => ⟨vs, hH, by rw [hr.length]; exact hl⟩⟩
  obtain ⟨v, q1, q2⟩ := hr.get e
  refine ⟨⟨vs, v, hH, q1⟩, fun x H' y => ?_⟩
  obtain ⟨rfl, y⟩ := y
  have ex2 := y vs hH
  rw [q1] at ex2; cases ex2
  exact ⟨B, ok, ok.self, Rep.mono ex _ _ q2⟩
theorem walks_str {K : PySem.W.Frag} {s : List Nat} {B0 : Hp} : Walks K (Its (mkS s)) B0 (s.map fun c => .str [c]) := fun G B H σ env i ex ok => by
  have hsz : (mkS s).cps.size = s.length := mkS_len s
  refine ⟨fun d e => ?_, fun hl => ?_⟩
  · rw [List.getElem?_map] at e
    cases q : s[i]? with
    | none => rw [q] at e; cases e
    | some c =>
      rw [q] at e; cases e
      have hi : i < s.length := by
        rcases Nat.lt_or_ge i s.length with z | z
        · exact z
        · rw [List.getElem?_eq_none z] at q; cases q
      refine ⟨by show i < (mkS s).cps.size; omega, fun x H' y => ?_⟩
      obtain ⟨rfl, c', y1, y2⟩ := y
      have hc : (mkS s).cps[i]? = s[i]? := by simp [mkS]
      rw [hc, q] at y1; cases y1
      exact ⟨B, ok, ok.self, y2⟩
  · show (mkS s).cps.size ≤ i
    rw [List.length_map] at hl
    omega
theorem pdi_any {tg e : Expr} {m : M D} (h : PD X e m) : PDI X tg e (iAny m) :=
  pi_mono (pi_or (pi_list h) (pi_or (pi_tup h) (pi_or (pi_str h) (pi_keys h)))) fun σ H R ⟨G, B, env, ds, env', ok, e, k⟩ => by
    obtain ⟨d, e1, q1, q2⟩ := bnd_some e
    obtain ⟨z, q5, q6⟩ := lft_some q2
    cases q6
    cases d with
    | lst ds =>
      cases q5
      exact .inl (tD_of ok q1 fun v B1 H1 ok1 _ r => by
        obtain ⟨a, vs, rfl, hs, hr⟩ := r
        exact ⟨a, rfl, ⟨vs, SqL.of (ok1.sub _ _ hs)⟩, k _ B1 H1 ok1 (walks_list (SqL.of hs) hr)⟩)
    | fls ds =>
      cases q5
      exact .inl (tD_of ok q1 fun v B1 H1 ok1 _ r => by
        obtain ⟨a, vs, rfl, hs, hr⟩ := r
        exact ⟨a, rfl, ⟨vs, ex_l ok1.sub hs⟩, k _ B1 H1 ok1 (walks_list hs hr)⟩)
    | tup ds =>
      cases q5
      exact .inr (.inl (tD_of ok q1 fun v B1 H1 ok1 _ r => by
        obtain ⟨a, vs, rfl, hs, hr⟩ := r
        exact ⟨a, rfl, ⟨vs, ex_t ok1.sub hs⟩, k _ B1 H1 ok1 (walks_tup hs hr)⟩))
    | str s =>
      cases q5
      exact .inr (.inr (.inl (tD_of ok q1 fun v B1 H1 ok1 _ r => by
        have r : v = .str (mkS s) := r
        exact ⟨mkS s, r, k _ B1 H1 ok1 walks_str⟩)))
    | dct ks vs =>
      cases q5
      exact .inr (.inr (.inr (tD_of ok q1 fun v B1 H1 ok1 _ r => by
        obtain ⟨a, o, kvs, rfl, hb, hk, _⟩ := r
        exact ⟨a, o, rfl, .inl ⟨kvs, ok1.sub _ _ hb, k _ B1 H1 ok1 (walks_keys hb hk)⟩⟩)))
    | _ => cases q5
/-- lo, lo + 1, .. -/
def rangeD (lo : Int) (n : Nat) : List D := (List.range n).map fun (j : Nat) => .int (lo + (j : Int))
def rangeC (lo c : Int) (n : Nat) : List D := (List.range n).map fun (j : Nat) => .int (lo + (j : Int) * c)
theorem walks_range {K : PySem.W.Frag} {lo : Int} {n : Nat} {B0 : Hp} : Walks K (Itr lo n) B0 (rangeD lo n) := fun G B H σ env i ex ok => by
  refine ⟨fun d e => ?_, fun hl => ?_⟩
  · unfold rangeD at e
    rw [List.getElem?_map] at e
    by_cases hi : i < n
    · rw [List.getElem?_range hi] at e
      cases e
      exact ⟨hi, fun x H' y => by obtain ⟨rfl, rfl⟩ := y; exact ⟨B, ok, ok.self, rfl⟩⟩
    · rw [List.getElem?_eq_none (by rw [List.length_range]; omega)] at e; cases e
  · unfold rangeD at hl
    rw [List.length_map, List.length_range] at hl
    exact hl
theorem walks_rangeC {K : PySem.W.Frag} {lo c : Int} {n : Nat} {B0 : Hp} : Walks K (Itc lo c n) B0 (rangeC lo c n) := fun G B H σ env i ex ok => by
  refine ⟨fun d e => ?_, fun hl => ?_⟩
  · unfold rangeC at e
    rw [List.getElem?_map] at e
    by_cases hi : i < n
    · rw [List.getElem?_range hi] at e
      cases e
      exact ⟨hi, fun x H' y => by obtain ⟨rfl, rfl⟩ := y; exact ⟨B, ok, ok.self, rfl⟩⟩
    · rw [List.getElem?_eq_none (by rw [List.length_range]; omega)] at e; cases e
  · unfold rangeC at hl
    rw [List.length_map, List.length_range] at hl
    exact hl
def small62 (i : Int) : Bool := decide (-(2 ^ 62) ≤ i) && decide (i < 2 ^ 62)
theorem small62_ok {i : Int} (h : small62 i = true) : -(2 ^ 62) ≤ i ∧ i < 2 ^ 62 := by
  unfold small62 at h
  rw [Bool.and_eq_true] at h
  exact ⟨of_decide_eq_true h.1, of_decide_eq_true h.2⟩
def range1 : List D → Option (List D)
  | [.int j] => if small62 j = true then some (rangeD 0 j.toNat) else none
  | _ => none
def range2 : List D → Option (List D)
  | [.int i, .int j] => if (small62 i && small62 j) = true then some (rangeD i (j - i).toNat) else none
  | _ => none
/-- downward by ones -/
def range3 : List D → Option (List D)
  | [.int i, .int j, .int c] => if (decide (c = -1) && small62 i && small62 j) = true then some (rangeC i (-1) (i - j).toNat) else none
  | _ => none
def iRange (f : List D → Option (List D)) (m : M (List D)) : M (List D) := bnd m fun ds => lft (f ds)
theorem reps1 {K : PySem.W.Frag} {B : Hp} {d : D} {vs : List V} (h : Reps K B [d] vs) : ∃ v, vs = [v] ∧ Rep K B d v := by
  obtain ⟨v, r, rfl, h1, h2⟩ := h
  cases h2
  exact ⟨v, rfl, h1⟩
theorem reps2 {K : PySem.W.Frag} {B : Hp} {d e : D} {vs : List V} (h : Reps K B [d, e] vs) : ∃ v u, vs = [v, u] ∧ Rep K B d v ∧ Rep K B e u := by
  obtain ⟨v, r, rfl, h1, h2⟩ := h
  obtain ⟨u, rfl, h3⟩ := reps1 h2
  exact ⟨v, u, rfl, h1, h3⟩
theorem reps3 {K : PySem.W.Frag} {B : Hp} {d e f : D} {vs : List V} (h : Reps K B [d, e, f] vs) : ∃ v u w, vs = [v, u, w] ∧ Rep K B d v ∧ Rep K B e u ∧ Rep K B f w := by
  obtain ⟨v, r, rfl, h1, h2⟩ := h
  obtain ⟨u, w, rfl, h3, h4⟩ := reps2 h2
  exact ⟨v, u, w, rfl, h1, h3, h4⟩
theorem pdi_range1 {tg a : Expr} {m : M (List D)} {p pos : Pos} (hm : X.mg "range" = none) (ha : PDA X [a] m) (hg : Gl X "range" := by rfl) (hs : starEach [a] X.env = [(false, eval a X.env)] := by rfl) : PDI X tg (.Call (.Name "range" p) [a] [] pos) (iRange range1 m) :=
  pi_mono (pi_range1 hg hm ha hs) fun σ H R ⟨G, B, env, ds, env', ok, e, k⟩ => by
    obtain ⟨xs, e1, q1, q2⟩ := bnd_some e
    obtain ⟨z, q5, q6⟩ := lft_some q2
    cases q6
    unfold range1 at q5
    split at q5
    · rename_i j
      split at q5
      · rename_i hj
        cases q5
        refine tA_of ok q1 fun vs B1 H1 ok1 _ r0 => ?_
        obtain ⟨v, rfl, r⟩ := reps1 r0
        have r : v = .int j := r
        subst r
        obtain ⟨h1, h2⟩ := small62_ok hj
        exact ⟨j, rfl, h1, h2, k _ B1 H1 ok1 walks_range⟩
      · cases q5
    · cases q5
theorem pdi_range2 {tg a b : Expr} {m : M (List D)} {p pos : Pos} (hm : X.mg "range" = none) (ha : PDA X [a, b] m) (hg : Gl X "range" := by rfl) (hs : starEach [a, b] X.env = [(false, eval a X.env), (false, eval b X.env)] := by rfl) (hs2 : starEach [b] X.env = [(false, eval b X.env)] := by rfl) :
    PDI X tg (.Call (.Name "range" p) [a, b] [] pos) (iRange range2 m) :=
  pi_mono (pi_range2 hg hm ha hs hs2) fun σ H R ⟨G, B, env, ds, env', ok, e, k⟩ => by
    obtain ⟨xs, e1, q1, q2⟩ := bnd_some e
    obtain ⟨z, q5, q6⟩ := lft_some q2
    cases q6
    unfold range2 at q5
    split at q5
    · rename_i i j
      split at q5
      · rename_i hj
        cases q5
        refine tA_of ok q1 fun vs B1 H1 ok1 _ r => ?_
        obtain ⟨v, u, rfl, r, r2⟩ := reps2 r
        have r : v = .int i := r
        have r2 : u = .int j := r2
        subst r r2
        rw [Bool.and_eq_true] at hj
        obtain ⟨h1, h2⟩ := small62_ok hj.1
        obtain ⟨h3, h4⟩ := small62_ok hj.2
        exact ⟨i, j, rfl, ⟨h1, h2, h3, h4⟩, k _ B1 H1 ok1 walks_range⟩
      · cases q5
    · cases q5
theorem pdi_range3 {tg a b c : Expr} {m : M (List D)} {p pos : Pos} (hm : X.mg "range" = none) (ha : PDA X [a, b, c] m) (hg : Gl X "range" := by rfl)
    (hs : starEach [a, b, c] X.env = [(false, eval a X.env), (false, eval b X.env), (false, eval c X.env)] := by rfl) (hs2 : starEach [b, c] X.env = [(false, eval b X.env), (false, eval c X.env)] := by rfl) (hs3 : starEach [c] X.env = [(false, eval c X.env)] := by rfl) :
    PDI X tg (.Call (.Name "range" p) [a, b, c] [] pos) (iRange range3 m) :=
  pi_mono (pi_range3 hg hm ha (by rw [hs, hs2]) (by rw [hs2]; rfl)) fun σ H R ⟨G, B, env, ds, env', ok, e, k⟩ => by
    obtain ⟨xs, e1, q1, q2⟩ := bnd_some e
    obtain ⟨z, q5, q6⟩ := lft_some q2
    cases q6
    unfold range3 at q5
    split at q5
    · rename_i i j c
      split at q5
      · rename_i hj
        cases q5
        refine tA_of ok q1 fun vs B1 H1 ok1 _ r => ?_
        obtain ⟨v, u, w, rfl, r, r2, r3⟩ := reps3 r
        have r : v = .int i := r
        have r2 : u = .int j := r2
        have r3 : w = .int c := r3
        rw [Bool.and_eq_true, Bool.and_eq_true] at hj
        obtain ⟨h1, h2⟩ := small62_ok hj.1.2
        obtain ⟨h3, h4⟩ := small62_ok hj.2
        have hc : c = -1 := of_decide_eq_true hj.1.1
        subst r r2 r3 hc
        exact ⟨i, j, -1, _, rfl, RgC.neg h1 h2 h3 h4, k _ B1 H1 ok1 walks_rangeC⟩
      · cases q5
    · cases q5

/-! ### for -/
def forL (g : D → Lvs → Option Lvs) (b : MS) : List D → MS
  | [], e => some (.nx, e)
  | d :: ds, e => match g d e with
    | some e1 => match b e1 with
      | some (.nx, e2) => forL g b ds e2
      | some (.ct, e2) => forL g b ds e2
      | some (.bk, e2) => some (.nx, e2)
      | r => r
    | none => none
def sFor (m : M (List D)) (g : D → Lvs → Option Lvs) (b : MS) : MS := fun e => match m e with
  | some (ds, e1) => forL g b ds e1
  | none => none
theorem for_red {K : PySem.W.Frag} {m : M (List D)} {vs : List Nat} {g : D → Lvs → Option Lvs} {b : MS} : ∀ Z σ H, tS K (sFor m g b) Z σ H → tFor (tI K m) (tG K vs g) (tS K b) Z σ H := fun Z σ H ⟨G, B, env, o, env', ok, e, k⟩ => by
  unfold sFor at e
  split at e
  rotate_left
  · cases e
  rename_i ds e1 q
  refine ⟨Ent.at B H σ env, B, env, ds, e1, ok.self, q, fun J B1 H1 ok1' wk => ?_⟩
  have ok1 := ok.comp ok1'
  refine ⟨fun i n σ H => ∃ B env, Ok K G B H σ env ∧ Ex B1 B ∧ n = ds.length - i ∧ i ≤ ds.length ∧ forL g b (ds.drop i) env = some (o, env'), ⟨ds.length, B1, e1, ok1, Ex.refl _, rfl, Nat.zero_le _, e⟩, fun i n σ H hW => ?_⟩
  obtain ⟨B2, en, ok2, ex2, hn, hi, he⟩ := hW
  obtain ⟨go, stop⟩ := wk G B2 H σ en i ex2 ok2
  by_cases hlt : i < ds.length
  · have hd : ds[i]? = some ds[i] := List.getElem?_eq_getElem hlt
    obtain ⟨g1, g2⟩ := go _ hd
    rw [List.drop_eq_getElem_cons hlt] at he
    unfold forL at he
    split at he
    rotate_left
    · cases he
    rename_i en1 hg
    refine .inr ⟨g1, fun σ' H' => ∃ B env, Ok K G B H' σ' env ∧ Ex B1 B ∧ forL g b (ds.drop (i + 1)) env = some (o, env'), fun σ' H' ⟨B3, en3, ok3, ex3, he3⟩ => ⟨ds.length - (i + 1), by omega, B3, en3, ok3, ex3, rfl, hlt, he3⟩, fun x H' y => ?_⟩
    obtain ⟨B3, ok3, ok3', rx⟩ := g2 x H' y
    have ex3 : Ex B1 B3 := ex2.trans ok3'.mono
    refine ⟨Ent.at B3 H' σ en, B3, en, _, en1, ok3.self, rx, hg, fun σ4 B4 H4 ok4' _ => ?_⟩
    have ok4 := ok3.comp ok4'
    have ex4 : Ex B1 B4 := ex3.trans ok4'.mono
    split at he
    · rename_i en2 hb
      exact tS_of ok4 hb fun σ' B' H' ok' ok'' => ⟨B', en2, ok', ex4.trans ok''.mono, he⟩
    · rename_i en2 hb
      exact tS_of ok4 hb fun σ' B' H' ok' ok'' => ⟨B', en2, ok', ex4.trans ok''.mono, he⟩
    · rename_i en2 hb
      cases he
      exact tS_of ok4 hb fun σ' B' H' ok' ok'' => k σ' B' H' ok'
    · rename_i r h1 h2 h3
      cases o with
      | nx => exact absurd he (h1 env')
      | ct => exact absurd he (h2 env')
      | bk => exact absurd he (h3 env')
      | rt d => exact tS_of ok4 he k
      | rn d => exact tS_of ok4 he k
  · have hi' : i = ds.length := by omega
    subst hi'
    rw [List.drop_length] at he
    cases he
    exact .inl ⟨stop (Nat.le_refl _), k σ B2 H ok2⟩
theorem pds_for {tg iter : Expr} {body : List Stmt} {m : M (List D)} {vs : List Nat} {g : D → Lvs → Option Lvs} {b : MS} {pos : Pos} (hi : PDI X tg iter m) (hg : PDG X vs tg g) (hb : PDB X body b) (hp : PassesOwn (model X.prog X.w) X.A X.env X.xe := by exact PassesOwn.never) (hc : X.calm = true := by rfl)
    (hs : ∀ x, foldedSetIterable iter X.env x = pure x := by intro _; rfl) : PDS X (.For tg iter body [] pos) (sFor m g b) := ps_mono (ps_for hp hc hi hg hb hs) for_red

/-! ### while -/
def whileL (c : M Bool) (b : MS) : Nat → MS
  | 0, _ => none
  | n + 1, e => match c e with
    | some (true, e1) => match b e1 with
      | some (.nx, e2) => whileL c b n e2
      | some (.ct, e2) => whileL c b n e2
      | some (.bk, e2) => some (.nx, e2)
      | r => r
    | some (false, e1) => some (.nx, e1)
    | none => none
theorem while_red {K : PySem.W.Frag} {n : Nat} {c : M Bool} {b : MS} : ∀ Z σ H, tS K (whileL c b n) Z σ H → tWhile (tT K c) (tS K b) Z σ H := fun Z σ H ⟨G, B, env, o, env', ok, e, k⟩ => by
  refine ⟨fun n σ H => ∃ B env, Ok K G B H σ env ∧ whileL c b n env = some (o, env'), ⟨n, B, env, ok, e⟩, fun n σ H ⟨B, env, ok, e⟩ => ?_⟩
  cases n with
  | zero => cases e
  | succ n =>
    unfold whileL at e
    split at e
    · rename_i e1 hc
      refine tT_of ok hc fun B1 H1 ok1 _ => ?_
      rw [if_pos rfl]
      refine ⟨fun σ' H' => ∃ B env, Ok K G B H' σ' env ∧ whileL c b n env = some (o, env'), fun σ' H' hN => ⟨n, Nat.lt_succ_self n, hN⟩, ?_⟩
      split at e
      · rename_i e2 hb
        exact tS_of ok1 hb fun σ' B' H' ok' _ => ⟨B', e2, ok', e⟩
      · rename_i e2 hb
        exact tS_of ok1 hb fun σ' B' H' ok' _ => ⟨B', e2, ok', e⟩
      · rename_i e2 hb
        cases e
        exact tS_of ok1 hb fun σ' B' H' ok' _ => k σ' B' H' ok'
      · rename_i r h1 h2 h3
        cases o with
        | nx => exact absurd e (h1 env')
        | ct => exact absurd e (h2 env')
        | bk => exact absurd e (h3 env')
        | rt d => exact tS_of ok1 e k
        | rn d => exact tS_of ok1 e k
    · rename_i e1 hc
      cases e
      exact tT_of ok hc fun B1 H1 ok1 _ => by rw [if_neg Bool.false_ne_true]; exact k σ B1 H1 ok1
    · cases e
theorem pds_while (n : Nat) {c : Expr} {body : List Stmt} {mc : M Bool} {b : MS} {pos : Pos} (hc : PDT X c mc) (hb : PDB X body b) (hp : PassesOwn (model X.prog X.w) X.A X.env X.xe := by exact PassesOwn.never) : PDS X (.While c body [] pos) (whileL mc b n) := ps_mono (ps_while hp hc hb) while_red

/-! ### list comprehensions -/
def wipeE : Lvs → List Nat → Lvs
  | e, [] => e
  | e, v :: vs => (wipeE e vs).set v .no
def lcL (vs : List Nat) (g : D → Lvs → Option Lvs) (t : M Bool) (f : M D) : List D → List D → M (List D)
  | [], acc, e => some (acc, e)
  | d :: ds, acc, e => match g d e with
    | some e1 => match t e1 with
      | some (true, e2) => match f e2 with
        | some (y, e3) => if lim (acc.length + 1) = true then lcL vs g t f ds (acc ++ [y]) (wipeE e3 vs) else none
        | none => none
      | some (false, e2) => lcL vs g t f ds acc (wipeE e2 vs)
      | none => none
    | none => none
def eLc (vs : List Nat) (m : M (List D)) (g : D → Lvs → Option Lvs) (t : M Bool) (f : M D) : M D := bnd m fun ds => fun e => match lcL vs g t f ds [] (wipeE e vs) with
  | some (rs, e1) => some (.lst rs, e1)
  | none => none
theorem eLc_lst {vs : List Nat} {m : M (List D)} {g : D → Lvs → Option Lvs} {t : M Bool} {f : M D} {e e' : Lvs} {d : D} (h : eLc vs m g t f e = some (d, e')) : lk d = false := by
  obtain ⟨ds, e1, _, q⟩ := bnd_some h
  split at q
  · cases q; rfl
  · cases q
section
variable {K : PySem.W.Frag} {G : Ent} {B H : Hp} {σ σ' : L2.St} {env : Lvs}
theorem Ok.wipe (h : Ok K G B H σ env) : ∀ vs : List Nat, Ok K G B H (L2.wipe σ vs) (wipeE env vs)
  | [] => h
  | v :: vs => (h.wipe vs).drop
theorem wipeE_no : ∀ {vs : List Nat} {i : Nat} {x : Lv}, (wipeE env vs)[i]? = some x → x ≠ .no → i ∉ vs
  | [], i, x, _, _ => by simp
  | v :: vs, i, x, e, hx => by
    unfold wipeE at e
    by_cases c : v = i
    · subst c
      by_cases hl : v < (wipeE env vs).length
      · rw [List.getElem?_set_self hl] at e; cases e; exact absurd rfl hx
      · rw [List.getElem?_eq_none (by rw [List.length_set]; omega)] at e; cases e
    · rw [List.getElem?_set_ne c] at e
      have := wipeE_no (vs := vs) e hx
      simp only [List.mem_cons, not_or]
      exact ⟨fun z => c z.symm, this⟩
/-- behind a block's turn the slots are the def's again -/
theorem Ok.unblk (h : Ok K G B H σ' env) {vs : List Nat} (hw : L2.wipe σ' vs = L2.wipe σ vs) : Ok K G B H σ (wipeE env vs) := by
  refine (h.wipe vs).swap ?_ fun i x e hx => ?_
  · rw [hw, wipe_length]
  · rw [hw, wipe_out (wipeE_no e hx)]
end
theorem lc_red {K : PySem.W.Frag} {m : M (List D)} {vs : List Nat} {g : D → Lvs → Option Lvs} {t : M Bool} {f : M D} : ∀ σ H Q, tF K (eLc vs m g t f) σ H Q → tLc (tI K m) (tG K vs g) (tT K t) (tD K f) vs σ H Q := fun σ H Q ⟨G, B, env, d, env', ok, e, k⟩ => by
  obtain ⟨ds, e1, q, e⟩ := bnd_some e
  split at e
  rotate_left
  · cases e
  rename_i rs e2 hl
  cases e
  refine ⟨Ent.at B H σ env, B, env, ds, e1, ok.self, q, fun J B1 H1 ok1' wk D0 hD => ?_⟩
  have ok1 := ok.comp ok1'
  have gD : G.H D0 = none := ok1.live D0 hD
  have start : Ok K G B1 (upd H1 D0 (.lst [])) σ (wipeE e1 vs) := (ok1.tmp hD).unblk rfl
  refine ⟨fun i n H => ∃ B env acc us, Ok K G B H σ env ∧ (∀ v ∈ vs, ∀ x, env[v]? = some x → x = .no) ∧ Ex B1 B ∧ n = ds.length - i ∧ i ≤ ds.length ∧ H D0 = some (.lst us) ∧ Reps K B acc us ∧ B D0 = none ∧ ¬ IsOwn σ env D0 ∧ lcL vs g t f (ds.drop i) acc env = some (rs, env'),
    ⟨ds.length, B1, wipeE e1 vs, [], [], start, fun v hv x hx => Classical.byContradiction fun c => wipeE_no hx c hv, Ex.refl _, rfl, Nat.zero_le _, upd_same, rfl, fresh_back ok1.sub hD, fun ⟨i, p, d, x1, x2⟩ => ?_, hl⟩, fun i n H hW => ?_⟩
  · obtain ⟨a, r1, r2, r3, r4⟩ := start.own i p d x1
    rw [x2] at r1; cases r1
    have hno := wipeE_no x1 (fun z => nomatch z)
    have : (e1)[i]? = some (.own p d) := by
      have : ∀ vs : List Nat, i ∉ vs → (wipeE e1 vs)[i]? = e1[i]? := by
        intro vs
        induction vs with
        | nil => intro _; rfl
        | cons w ws ih =>
          intro hn
          unfold wipeE
          rw [List.getElem?_set_ne (fun z => hn (by rw [z]; exact List.mem_cons_self)), ih fun z => hn (List.mem_cons_of_mem _ z)]
      rw [← this vs hno]; exact x1
    exact ok1.notOwn hD ⟨i, p, d, this, x2⟩
  obtain ⟨B2, en, acc, us, ok2, hno, ex2, hn, hi, hH, hR, hB, hO, he⟩ := hW
  obtain ⟨go, stop⟩ := wk G B2 H σ en i ex2 ok2
  by_cases hlt : i < ds.length
  · have hd : ds[i]? = some ds[i] := List.getElem?_eq_getElem hlt
    obtain ⟨g1, g2⟩ := go _ hd
    rw [List.drop_eq_getElem_cons hlt] at he
    unfold lcL at he
    split at he
    rotate_left
    · cases he
    rename_i en1 hg
    refine .inr ⟨g1, fun H => ∃ B env acc us, Ok K G B H σ env ∧ (∀ v ∈ vs, ∀ x, env[v]? = some x → x = .no) ∧ Ex B1 B ∧ H D0 = some (.lst us) ∧ Reps K B acc us ∧ B D0 = none ∧ ¬ IsOwn σ env D0 ∧ lcL vs g t f (ds.drop (i + 1)) acc env = some (rs, env'),
      fun H' ⟨B3, en3, acc3, us3, a1, a2, a3, a4, a5, a6, a7, a8⟩ => ⟨ds.length - (i + 1), by omega, B3, en3, acc3, us3, a1, a2, a3, rfl, hlt, a4, a5, a6, a7, a8⟩, fun x H' y => ?_⟩
    obtain ⟨B3, ok3, ok3', rx⟩ := g2 x H' y
    obtain ⟨s3, b3, o3⟩ := ok3'.stay hH hB hO
    have ex3 : Ex B1 B3 := ex2.trans ok3'.mono
    -- into the block
    have okb : Ok K G B3 H' (L2.wipe σ vs) en := by
      refine ok3.swap (wipe_length _ _) fun j x e hx => ?_
      by_cases hj : j ∈ vs
      · exact absurd (hno j hj x e) hx
      · exact wipe_out hj
    have ob : ¬ IsOwn (L2.wipe σ vs) en D0 := fun ⟨j, p, d, x1, x2⟩ => by
      by_cases hj : j ∈ vs
      · cases hno j hj _ x1
      · rw [wipe_out hj] at x2
        exact o3 ⟨j, p, d, x1, x2⟩
    refine ⟨Ent.at B3 H' (L2.wipe σ vs) en, B3, en, _, en1, okb.self, rx, hg, fun σ4 B4 H4 ok4' hw4 => ?_⟩
    have ok4 := okb.comp ok4'
    obtain ⟨s4, b4, o4⟩ := ok4'.stay s3 b3 ob
    have ex4 : Ex B1 B4 := ex3.trans ok4'.mono
    have hw4 : L2.wipe σ4 vs = L2.wipe σ vs := hw4.trans (by
      have : ∀ (us vs : List Nat), (∀ v ∈ us, v ∈ vs) → L2.wipe (L2.wipe σ us) vs = L2.wipe σ vs := by
        intro us
        induction us with
        | nil => intro vs _; rfl
        | cons w ws ih =>
          intro vs hs
          show L2.wipe ((L2.wipe σ ws).set w none) vs = _
          rw [wipe_set (hs w List.mem_cons_self)]
          exact ih vs fun v hv => hs v (List.mem_cons_of_mem _ hv)
      exact this vs vs fun _ z => z)
    refine ⟨hw4.trans rfl, ?_⟩
    split at he
    · rename_i en2 ht
      refine tT_of ok4 ht fun B5 H5 ok5 ok5' => ?_
      obtain ⟨s5, b5, o5⟩ := ok5'.stay s4 b4 o4
      rw [if_pos rfl]
      split at he
      rotate_left
      · cases he
      rename_i y en3 hf
      split at he
      rotate_left
      · cases he
      rename_i hz
      refine tD_of ok5 hf fun v B6 H6 ok6 ok6' r6 => ?_
      obtain ⟨s6, b6, o6⟩ := ok6'.stay s5 b5 o5
      have ex6 : Ex B1 B6 := (ex4.trans ok5'.mono).trans ok6'.mono
      have ru : Reps K B6 acc us := Reps.mono (((ok3'.mono.trans ok4'.mono).trans ok5'.mono).trans ok6'.mono) _ _ hR
      have hlen : us.length = acc.length := hR.length
      have hz' := lim_ok hz
      refine ⟨us, s6, by omega, B6, wipeE en3 vs, acc ++ [y], us ++ [v], (ok6.tmpSet b6 gD o6).unblk hw4, fun v hv x hx => Classical.byContradiction fun c => wipeE_no hx c hv, ex6, upd_same, ru.append (Reps.one r6), b6, fun ⟨j, p, d, x1, x2⟩ => ?_, he⟩
      have okE : Ok K G B6 H6 σ (wipeE en3 vs) := ok6.unblk hw4
      obtain ⟨a, r1, r2, r3, r4⟩ := okE.own j p d x1
      have hj := wipeE_no x1 (fun z => nomatch z)
      have h1 : en3[j]? = some (.own p d) := by
        have : ∀ vs : List Nat, j ∉ vs → (wipeE en3 vs)[j]? = en3[j]? := by
          intro vs
          induction vs with
          | nil => intro _; rfl
          | cons w ws ih =>
            intro hn
            unfold wipeE
            rw [List.getElem?_set_ne (fun z => hn (by rw [z]; exact List.mem_cons_self)), ih fun z => hn (List.mem_cons_of_mem _ z)]
        rw [← this vs hj]; exact x1
      have h2 : σ4[j]? = some (some (.ref D0)) := by
        rw [← wipe_out (σ := σ4) hj, hw4, wipe_out hj]; exact x2
      exact o6 ⟨j, p, d, h1, h2⟩
    · rename_i en2 ht
      refine tT_of ok4 ht fun B5 H5 ok5 ok5' => ?_
      obtain ⟨s5, b5, o5⟩ := ok5'.stay s4 b4 o4
      rw [if_neg Bool.false_ne_true]
      refine ⟨B5, wipeE en2 vs, acc, us, ok5.unblk hw4, fun v hv x hx => Classical.byContradiction fun c => wipeE_no hx c hv, ex4.trans ok5'.mono, s5, Reps.mono ((ok3'.mono.trans ok4'.mono).trans ok5'.mono) _ _ hR, b5, fun ⟨j, p, d, x1, x2⟩ => ?_, he⟩
      have hj := wipeE_no x1 (fun z => nomatch z)
      have h1 : en2[j]? = some (.own p d) := by
        have : ∀ vs : List Nat, j ∉ vs → (wipeE en2 vs)[j]? = en2[j]? := by
          intro vs
          induction vs with
          | nil => intro _; rfl
          | cons w ws ih =>
            intro hn
            unfold wipeE
            rw [List.getElem?_set_ne (fun z => hn (by rw [z]; exact List.mem_cons_self)), ih fun z => hn (List.mem_cons_of_mem _ z)]
        rw [← this vs hj]; exact x1
      have h2 : σ4[j]? = some (some (.ref D0)) := by
        rw [← wipe_out (σ := σ4) hj, hw4, wipe_out hj]; exact x2
      exact o5 ⟨j, p, d, h1, h2⟩
    · cases he
  · have hi' : i = ds.length := by omega
    subst hi'
    rw [List.drop_length] at he
    cases he
    exact .inl ⟨stop (Nat.le_refl _), k D0 B2 H ok2 hB (by rw [hH]; exact ⟨us, rfl, hR⟩) gD hO⟩
/-- a comprehension's block -/
abbrev Blk (X : Cx) (scope : Scope) (P : Cx → Prop) : Prop := ∀ (s : Shared) (H : Hp) (C : Addr) (cl : List (Str × Addr)) (fp : List Addr), P (X.blk s H scope (compEnvC scope cl C X.env) fp)
def bYes : M Bool := ret true
theorem yes_red {K : PySem.W.Frag} : ∀ σ H Q, tT K bYes σ H Q → tYes σ H Q := fun σ H Q ⟨G, B, env, d, env', ok, e, k⟩ => by
  cases ret_some e
  exact k B H ok
def PDTs (X : Cx) (es : List Expr) (m : M Bool) : Prop := PTs X es (tT X.K m)
theorem pts_mono {es : List Expr} {t t' : TT} (h : PTs X es t) (i : ∀ σ H Q, t' σ H Q → t σ H Q) : PTs X es t' := ⟨fun pins s σ H Q I q => h.run pins s σ H Q I (i σ H Q q)⟩
theorem pdts_nil : PDTs X [] bYes := pts_mono pts_nil yes_red
theorem pdts_one {c : Expr} {m : M Bool} (h : PDT X c m) : PDTs X [c] m := pts_one h
theorem pf_lc (own : List (Str × Nat)) {elt tg iter : Expr} {ifs : List Expr} {scope : Scope} {pos : Pos} {m : M (List D)} {g : D → Lvs → Option Lvs} {t : M Bool} {f : M D} (hN : X.N.Nodup) (hi : PDI X tg iter m) (ok : BlkOk X.N X.env.scope scope own)
    (hg : Blk X scope fun Y => PDG Y (own.map fun (x : Str × Nat) => x.2) tg g) (ht : Blk X scope fun Y => PDTs Y ifs t) (he : Blk X scope fun Y => PD Y elt f) (hc : X.calm = true := by rfl) (hs : ∀ x, foldedSetIterable iter X.env x = pure x := by intro _; rfl) :
    PF X (.ListComp elt [⟨tg, iter, ifs, 0⟩] scope pos) (eLc (own.map fun (x : Str × Nat) => x.2) m g t f) := pe_mono (pe_lc (g := tG X.K (own.map fun (x : Str × Nat) => x.2) g) (tt := tT X.K t) (te := tD X.K f) hc hN hi ok (fun s H C cl fp => hg s H C cl fp) (fun s H C cl fp => ht s H C cl fp) (fun s H C cl fp => he s H C cl fp) hs) lc_red
/-- x = [..] on one line: the name takes the list within the block -/
theorem pds_setLc (i : Nat) (own : List (Str × Nat)) {y : Str} {py : Pos} {elt tg iter : Expr} {ifs : List Expr} {scope : Scope} {pos spos : Pos} {m : M (List D)} {g : D → Lvs → Option Lvs} {t : M Bool} {f : M D} (hN : X.N.Nodup) (hi : PDI X tg iter m) (ok : BlkOk X.N X.env.scope scope own)
    (hg : Blk X scope fun Y => PDG Y (own.map fun (x : Str × Nat) => x.2) tg g) (ht : Blk X scope fun Y => PDTs Y ifs t) (he : Blk X scope fun Y => PD Y elt f) (hsw : swapsWith (.ListComp elt [⟨tg, iter, ifs, 0⟩] scope pos) (some (.Name y py)) spos.line X.env = pure true)
    (hy : X.N[i]? = some y := by rfl) (hyl : X.env.scope.names.lookup y = some .local := by rfl) (hc : X.calm = true := by rfl) (hs : ∀ x, foldedSetIterable iter X.env x = pure x := by intro _; rfl) :
    PDS X (.Assign [.Name y py] (.ListComp elt [⟨tg, iter, ifs, 0⟩] scope pos) spos) (sOwn i (eLc (own.map fun (x : Str × Nat) => x.2) m g t f)) :=
  ps_mono (ps_setLc (g := tG X.K (own.map fun (x : Str × Nat) => x.2) g) (tt := tT X.K t) (te := tD X.K f) hc hN hy hyl hsw hi ok (fun s H C cl fp => hg s H C cl fp) (fun s H C cl fp => ht s H C cl fp) (fun s H C cl fp => he s H C cl fp) hs) fun Z σ H q => lc_red σ H (fun x H1 => gName i x σ H1 Z.nx) (own_red Z σ H q)
theorem pds_setLcD (i : Nat) (own : List (Str × Nat)) {y : Str} {py : Pos} {elt tg iter : Expr} {ifs : List Expr} {scope : Scope} {pos spos : Pos} {m : M (List D)} {g : D → Lvs → Option Lvs} {t : M Bool} {f : M D} (hN : X.N.Nodup) (hi : PDI X tg iter m) (ok : BlkOk X.N X.env.scope scope own)
    (hg : Blk X scope fun Y => PDG Y (own.map fun (x : Str × Nat) => x.2) tg g) (ht : Blk X scope fun Y => PDTs Y ifs t) (he : Blk X scope fun Y => PD Y elt f) (hsw : swapsWith (.ListComp elt [⟨tg, iter, ifs, 0⟩] scope pos) (some (.Name y py)) spos.line X.env = pure true)
    (hy : X.N[i]? = some y := by rfl) (hyl : X.env.scope.names.lookup y = some .local := by rfl) (hc : X.calm = true := by rfl) (hs : ∀ x, foldedSetIterable iter X.env x = pure x := by intro _; rfl) :
    PDS X (.Assign [.Name y py] (.ListComp elt [⟨tg, iter, ifs, 0⟩] scope pos) spos) (sSet i (eLc (own.map fun (x : Str × Nat) => x.2) m g t f)) :=
  ps_mono (ps_setLc (g := tG X.K (own.map fun (x : Str × Nat) => x.2) g) (tt := tT X.K t) (te := tD X.K f) hc hN hy hyl hsw hi ok (fun s H C cl fp => hg s H C cl fp) (fun s H C cl fp => ht s H C cl fp) (fun s H C cl fp => he s H C cl fp) hs) fun Z σ H q => lc_red σ H (fun x H1 => gName i x σ H1 Z.nx) (by
    obtain ⟨G, B, env, o, env', ok, e, k⟩ := q
    unfold sSet at e
    split at e
    · rename_i d e1 q
      cases e
      exact tF_of ok q fun a B1 H1 ok1 _ h1 h2 h3 h4 => by
        obtain ⟨u, hu⟩ := h2.there
        rw [hu] at h2
        exact k _ _ H1 ((ok1.give hu h1 (ok.live a h3) h4).store (h2.rep h1 (eLc_lst q)))
    · cases e)
end
end Dv
/-! Defs: their promise, their body, their calls. -/
namespace Dv
open PySem PySem.Spec PyProof.Rows L2 Evl

/-- a def on data: the arguments to what it returns and what its lent lists are then -/
abbrev Fn := List D → Option (D × List D)
/-- arguments: ms tells which are lent -/
def Args (K : PySem.W.Frag) (B H : Hp) : List Bool → List D → List V → Prop
  | [], [], [] => True
  | false :: ms, d :: ds, v :: vs => Rep K B d v ∧ Args K B H ms ds vs
  | true :: ms, d :: ds, v :: vs => (∃ a, v = .ref a ∧ B a = none ∧ OwnAt K B (H a) d) ∧ Args K B H ms ds vs
  | _, _, _ => False
def Backs (K : PySem.W.Frag) (B H : Hp) : List Bool → List D → List V → Prop
  | [], [], [] => True
  | false :: ms, bs, _ :: vs => Backs K B H ms bs vs
  | true :: ms, b :: bs, v :: vs => (∃ a, v = .ref a ∧ B a = none ∧ OwnAt K B (H a) b) ∧ Backs K B H ms bs vs
  | _, _, _ => False
def Lent (ms : List Bool) (vs : List V) (a : Addr) : Prop := ∃ i : Nat, ms[i]? = some true ∧ vs[i]? = some (.ref a)
def Apart (ms : List Bool) (vs : List V) : Prop := ∀ (i j : Nat) (a : Addr), ms[i]? = some true → ms[j]? = some true → vs[i]? = some (.ref a) → vs[j]? = some (.ref a) → i = j
/-- what comes back -/
def RetV (K : PySem.W.Frag) (rf : Bool) (H B' H' : Hp) (r : D) (v : V) : Prop := match rf with
  | true => ∃ a, v = .ref a ∧ B' a = none ∧ OwnAt K B' (H' a) r ∧ H a = none
  | false => Rep K B' r v
/-- what has become of the heap -/
structure Step (B H B' H' : Hp) (L : Addr → Prop) : Prop where
  mono : Ex B B'
  sub : Ex B' H'
  keep : ∀ a o, H a = some o → ¬ L a → H' a = some o
  new : ∀ a o, B' a = some o → (∃ u, B a = some u) ∨ H a = none
  live : ∀ a, H' a = none → H a = none
def spF (K : PySem.W.Frag) (ms : List Bool) (rf : Bool) (F : Fn) : Sp := fun vs H Q _ => ∃ B ds r bs, Ex B H ∧ Args K B H ms ds vs ∧ Apart ms vs ∧ F ds = some (r, bs) ∧
  ∀ v B' H', Step B H B' H' (Lent ms vs) → Backs K B' H' ms bs vs → RetV K rf H B' H' r v → Q v H'

def initE : List Bool → List D → Lvs
  | true :: ms, d :: ds => .own true d :: initE ms ds
  | false :: ms, d :: ds => .val d :: initE ms ds
  | _, _ => []
def backs : List Bool → Lvs → Option (List D)
  | [], _ => some []
  | false :: ms, _ :: e => backs ms e
  | true :: ms, .own true d :: e => match backs ms e with
    | some bs => some (d :: bs)
    | none => none
  | _, _ => none
/-- a def by its body: n names -/
def runF (ms : List Bool) (n : Nat) (rf : Bool) (body : MS) : Fn := fun ds => if ds.length = ms.length then match body (initE ms ds ++ List.replicate (n - ms.length) .no) with
  | some (.rt d, e) => if rf = true then none else match backs ms e with
    | some bs => some (d, bs)
    | none => none
  | some (.rn d, e) => if rf = true then match backs ms e with
    | some bs => some (d, bs)
    | none => none else none
  | some (.nx, e) => if rf = true then none else match backs ms e with
    | some bs => some (.non, bs)
    | none => none
  | _ => none else none

section
variable {K : PySem.W.Frag} {B H B' H' : Hp}
theorem Args.lens : ∀ {ms : List Bool} {ds : List D} {vs : List V}, Args K B H ms ds vs → ds.length = ms.length ∧ vs.length = ms.length
  | [], [], [], _ => ⟨rfl, rfl⟩
  | false :: ms, d :: ds, v :: vs, h => by
    have := Args.lens h.2
    simp only [List.length_cons]; omega
  | true :: ms, d :: ds, v :: vs, h => by
    have := Args.lens h.2
    simp only [List.length_cons]; omega
  | [], _ :: _, _, h => by cases h
  | [], [], _ :: _, h => by cases h
  | true :: _, [], _, h => by cases h
  | true :: _, _ :: _, [], h => by cases h
  | false :: _, [], _, h => by cases h
  | false :: _, _ :: _, [], h => by cases h
theorem initE_len : ∀ {ms : List Bool} {ds : List D}, ds.length = ms.length → (initE ms ds).length = ms.length
  | [], [], _ => rfl
  | true :: ms, d :: ds, h => by simp only [initE, List.length_cons]; rw [initE_len (by simpa using h)]
  | false :: ms, d :: ds, h => by simp only [initE, List.length_cons]; rw [initE_len (by simpa using h)]
  | _ :: _, [], h => by cases h
  | [], _ :: _, h => by cases h
theorem initE_val : ∀ {ms : List Bool} {ds : List D} {vs : List V} {i : Nat} {d : D}, Args K B H ms ds vs → (initE ms ds)[i]? = some (.val d) → ∃ v, vs[i]? = some v ∧ Rep K B d v
  | false :: ms, d :: ds, v :: vs, 0, _, h, e => by cases e; exact ⟨v, rfl, h.1⟩
  | true :: ms, d :: ds, v :: vs, 0, _, h, e => by cases e
  | false :: ms, d :: ds, v :: vs, i + 1, _, h, e => by
    obtain ⟨u, q1, q2⟩ := initE_val (i := i) h.2 (by simpa [initE] using e)
    exact ⟨u, by simpa using q1, q2⟩
  | true :: ms, d :: ds, v :: vs, i + 1, _, h, e => by
    obtain ⟨u, q1, q2⟩ := initE_val (i := i) h.2 (by simpa [initE] using e)
    exact ⟨u, by simpa using q1, q2⟩
  | [], [], [], _, _, h, e => by simp [initE] at e
  | [], _ :: _, _, _, _, h, _ => by cases h
  | [], [], _ :: _, _, _, h, _ => by cases h
  | true :: _, [], _, _, _, h, _ => by cases h
  | true :: _, _ :: _, [], _, _, h, _ => by cases h
  | false :: _, [], _, _, _, h, _ => by cases h
  | false :: _, _ :: _, [], _, _, h, _ => by cases h
theorem initE_own : ∀ {ms : List Bool} {ds : List D} {vs : List V} {i : Nat} {p : Bool} {d : D}, Args K B H ms ds vs → (initE ms ds)[i]? = some (.own p d) → p = true ∧ ms[i]? = some true ∧ ∃ a, vs[i]? = some (.ref a) ∧ B a = none ∧ OwnAt K B (H a) d
  | false :: ms, d :: ds, v :: vs, 0, _, _, h, e => by cases e
  | true :: ms, d :: ds, v :: vs, 0, _, _, h, e => by
    cases e
    obtain ⟨⟨a, rfl, h1, h2⟩, _⟩ := h
    exact ⟨rfl, rfl, a, rfl, h1, h2⟩
  | false :: ms, d :: ds, v :: vs, i + 1, _, _, h, e => by
    obtain ⟨q0, q1, a, q2, q3⟩ := initE_own (i := i) h.2 (by simpa [initE] using e)
    exact ⟨q0, by simpa using q1, a, by simpa using q2, q3⟩
  | true :: ms, d :: ds, v :: vs, i + 1, _, _, h, e => by
    obtain ⟨q0, q1, a, q2, q3⟩ := initE_own (i := i) h.2 (by simpa [initE] using e)
    exact ⟨q0, by simpa using q1, a, by simpa using q2, q3⟩
  | [], [], [], _, _, _, h, e => by simp [initE] at e
  | [], _ :: _, _, _, _, _, h, _ => by cases h
  | [], [], _ :: _, _, _, _, h, _ => by cases h
  | true :: _, [], _, _, _, _, h, _ => by cases h
  | true :: _, _ :: _, [], _, _, _, h, _ => by cases h
  | false :: _, [], _, _, _, _, h, _ => by cases h
  | false :: _, _ :: _, [], _, _, _, h, _ => by cases h
theorem initE_lent : ∀ {ms : List Bool} {ds : List D} {vs : List V} {i : Nat} {a : Addr}, Args K B H ms ds vs → ms[i]? = some true → vs[i]? = some (.ref a) → ∃ d, (initE ms ds)[i]? = some (.own true d)
  | false :: ms, d :: ds, v :: vs, 0, _, h, e, _ => by cases e
  | true :: ms, d :: ds, v :: vs, 0, _, h, e, _ => ⟨d, rfl⟩
  | false :: ms, d :: ds, v :: vs, i + 1, _, h, e, e2 => by
    obtain ⟨d, q⟩ := initE_lent (i := i) h.2 (by simpa using e) (by simpa using e2)
    exact ⟨d, by simpa [initE] using q⟩
  | true :: ms, d :: ds, v :: vs, i + 1, _, h, e, e2 => by
    obtain ⟨d, q⟩ := initE_lent (i := i) h.2 (by simpa using e) (by simpa using e2)
    exact ⟨d, by simpa [initE] using q⟩
  | [], [], [], _, _, h, e, _ => by simp at e
  | [], _ :: _, _, _, _, h, _, _ => by cases h
  | [], [], _ :: _, _, _, h, _, _ => by cases h
  | true :: _, [], _, _, _, h, _, _ => by cases h
  | true :: _, _ :: _, [], _, _, h, _, _ => by cases h
  | false :: _, [], _, _, _, h, _, _ => by cases h
  | false :: _, _ :: _, [], _, _, h, _, _ => by cases h
/-- the lent lists at the end: by the slots -/
theorem backs_of (ms0 : List Bool) (vs0 : List V) : ∀ {ms : List Bool} {vs : List V} {e : Lvs} {bs : List D} (k : Nat) (_ : vs.length = ms.length) (_ : backs ms e = some bs) (_ : ∀ (i : Nat) (d : D) (v : V), ms[i]? = some true → vs[i]? = some v → e[i]? = some (.own true d) → ∃ a, v = .ref a ∧ B a = none ∧ OwnAt K B (H a) d), Backs K B H ms bs vs
  | [], [], e, bs, _, _, hb, _ => by cases hb; trivial
  | false :: ms, v :: vs, s :: e, bs, k, hl, hb, hk => by
    show Backs K B H ms bs vs
    exact backs_of ms0 vs0 (k + 1) (by simpa using hl) hb fun i d v h1 h2 h3 => hk (i + 1) d v (by simpa using h1) (by simpa using h2) (by simpa using h3)
  | true :: ms, v :: vs, .own true d :: e, bs, k, hl, hb, hk => by
    unfold backs at hb
    split at hb
    · rename_i bs' hb'
      cases hb
      exact ⟨hk 0 d v rfl rfl rfl, backs_of ms0 vs0 (k + 1) (by simpa using hl) hb' fun i d v h1 h2 h3 => hk (i + 1) d v (by simpa using h1) (by simpa using h2) (by simpa using h3)⟩
    · cases hb
  | true :: ms, v :: vs, .own false d :: e, bs, _, _, hb, _ => by cases hb
  | true :: ms, v :: vs, .val d :: e, bs, _, _, hb, _ => by cases hb
  | true :: ms, v :: vs, .no :: e, bs, _, _, hb, _ => by cases hb
  | true :: ms, v :: vs, [], bs, _, _, hb, _ => by cases hb
  | false :: ms, v :: vs, [], bs, _, _, hb, _ => by cases hb
  | _ :: _, [], _, _, _, hl, _, _ => by cases hl
  | [], _ :: _, _, _, _, hl, _, _ => by cases hl
end

/-- from the body's derivation: what the library's rule for a def asks -/
theorem fn_entry {P : Program} {w : World} {K : PySem.W.Frag} {mg : Str → Option Value} {base : Heap} {qual : Str} {st : Stmt} {f : Addr} {N ps : List Str} (S : FnScope N ps (defScope st)) (ms : List Bool) (rf : Bool) {body : MS} (hn : ms.length = ps.length)
    {cdv : Value} {A : Around} {outer : List Env} {s : Shared} {H : Hp} {vs : List V} {Q : VK} {E : XK} (hb : PDB (cxOf CX0 P w K mg base N qual (defScope st) f cdv A outer s H E).nox (defBody st) body) (h : spF K ms rf (runF ms N.length rf body) vs H Q E) :
    ∃ t, PSs (cxOf CX0 P w K mg base N qual (defScope st) f cdv A outer s H E).nox (defBody st) t ∧ t { nx := fun _ H' => Q .non H', rt := Q } (L2.start N vs) H := by
  have hpl : ps.length ≤ N.length := by have := congrArg List.length S.pre; rw [List.length_take] at this; omega
  obtain ⟨B, ds, r, bs, hsub, ha, hap, hF, k⟩ := h
  refine ⟨_, hb, ?_⟩
  obtain ⟨l1, l2⟩ := ha.lens
  have hle : (initE ms ds).length = ms.length := initE_len l1
  -- the entry
  have get0 : ∀ {i : Nat} {x : Lv}, (initE ms ds ++ List.replicate (N.length - ms.length) Lv.no)[i]? = some x → x ≠ .no → i < ms.length ∧ (initE ms ds)[i]? = some x := fun {i x} e hx => by
    by_cases hi : i < ms.length
    · rw [List.getElem?_append_left (by omega)] at e; exact ⟨hi, e⟩
    · rw [List.getElem?_append_right (by omega), List.getElem?_replicate] at e
      split at e
      · cases e; exact absurd rfl hx
      · cases e
  have getσ : ∀ {i : Nat} {v : V}, i < ms.length → vs[i]? = some v → (L2.start N vs)[i]? = some (some v) := fun {i v} hi e => by
    unfold L2.start
    rw [List.getElem?_append_left (by rw [List.length_map]; omega), List.getElem?_map, e]; rfl
  have backσ : ∀ {i : Nat} {v : V}, i < ms.length → (L2.start N vs)[i]? = some (some v) → vs[i]? = some v := fun {i v} hi e => by
    unfold L2.start at e
    rw [List.getElem?_append_left (by rw [List.length_map]; omega), List.getElem?_map] at e
    cases q : vs[i]? with
    | none => rw [q] at e; cases e
    | some u => rw [q] at e; cases e; rfl
  have ok0 : Ok K ⟨B, H, fun p a => p = true ∧ Lent ms vs a, fun i => ((L2.start N vs)[i]?).join⟩ B H (L2.start N vs) (initE ms ds ++ List.replicate (N.length - ms.length) Lv.no) := by
    refine ⟨?_, hsub, fun i d e => ?_, fun i p d e => ?_, fun i j a p q d e e1 e2 s1 s2 => ?_, fun i d e => ?_, Ex.refl _, fun _ _ e _ => e, fun a o e => .inl ⟨o, e⟩, fun _ e => e⟩
    · unfold L2.start
      rw [List.length_append, List.length_append, List.length_replicate, List.length_replicate, List.length_map]; omega
    · obtain ⟨hi, e⟩ := get0 e (fun z => nomatch z)
      obtain ⟨v, q1, q2⟩ := initE_val ha e
      exact ⟨v, getσ hi q1, q2⟩
    · obtain ⟨hi, e⟩ := get0 e (fun z => nomatch z)
      obtain ⟨q0, q1, a, q2, q3, q4⟩ := initE_own ha e
      exact ⟨a, getσ hi q2, q3, q4, .inr ⟨q0, i, q1, q2⟩⟩
    · obtain ⟨hi, e1⟩ := get0 e1 (fun z => nomatch z)
      obtain ⟨hj, e2⟩ := get0 e2 (fun z => nomatch z)
      obtain ⟨_, q1, b, q2, _⟩ := initE_own ha e1
      obtain ⟨_, r1, c, r2, _⟩ := initE_own ha e2
      exact hap i j a q1 r1 (backσ hi s1) (backσ hj s2)
    · obtain ⟨hi, e⟩ := get0 e (fun z => nomatch z)
      obtain ⟨_, q1, a, q2, _⟩ := initE_own ha e
      refine ⟨.ref a, ?_, getσ hi q2⟩
      show ((L2.start N vs)[i]?).join = _
      rw [getσ hi q2]; rfl
  have fin : ∀ {σ' : L2.St} {env' : Lvs} {B' H' : Hp} {bs : List D}, Ok K ⟨B, H, fun p a => p = true ∧ Lent ms vs a, fun i => ((L2.start N vs)[i]?).join⟩ B' H' σ' env' → backs ms env' = some bs → Step B H B' H' (Lent ms vs) ∧ Backs K B' H' ms bs vs := fun {σ' env' B' H' bs} ok hb => by
    have ownAt : ∀ (i : Nat) (d : D) (v : V), ms[i]? = some true → vs[i]? = some v → env'[i]? = some (.own true d) → ∃ a, v = .ref a ∧ B' a = none ∧ OwnAt K B' (H' a) d := fun i d v h1 h2 h3 => by
      obtain ⟨a, q1, q2, q3, _⟩ := ok.own i _ d h3
      obtain ⟨v', r1, r2⟩ := ok.pin i d h3
      have r1 : ((L2.start N vs)[i]?).join = some v' := r1
      have hi : i < ms.length := by
        rcases Nat.lt_or_ge i ms.length with z | z
        · exact z
        · rw [List.getElem?_eq_none z] at h1; cases h1
      rw [getσ hi h2] at r1
      have r1 : v = v' := Option.some.inj r1
      rw [q1] at r2
      cases r2
      exact ⟨a, r1, q2, q3⟩
    refine ⟨⟨ok.mono, ok.sub, fun a o e n => ok.keep a o e fun p z => n z.2, fun a o e => ?_, ok.live⟩, backs_of (K := K) (B := B') (H := H') ms vs 0 l2 hb ownAt⟩
    rcases ok.new a o e with z | z | ⟨p, _, i, z1, z2⟩
    · exact .inl z
    · exact .inr z
    · -- a lent list is not given up
      exfalso
      have : ∀ {ms : List Bool} {e : Lvs} {bs : List D} {i : Nat}, backs ms e = some bs → ms[i]? = some true → ∃ d, e[i]? = some (.own true d) := by
        intro ms
        induction ms with
        | nil => intro e bs i _ h; simp at h
        | cons m ms ih =>
          intro e bs i hb h
          cases m with
          | false =>
            cases e with
            | nil => cases hb
            | cons s e =>
              cases i with
              | zero => cases h
              | succ i =>
                obtain ⟨d, q⟩ := ih (i := i) (show backs ms e = some bs from hb) (by simpa using h)
                exact ⟨d, by simpa using q⟩
          | true =>
            cases e with
            | nil => cases hb
            | cons s e =>
              cases s with
              | own p d =>
                cases p with
                | true =>
                  cases i with
                  | zero => exact ⟨d, rfl⟩
                  | succ i =>
                    unfold backs at hb
                    split at hb
                    · rename_i bs' hb'
                      obtain ⟨d, q⟩ := ih (i := i) hb' (by simpa using h)
                      exact ⟨d, by simpa using q⟩
                    · cases hb
                | false => cases hb
              | val _ => cases hb
              | no => cases hb
      obtain ⟨d, hd⟩ := this hb z1
      obtain ⟨a', w1, w2, _⟩ := ownAt i d _ z1 z2 hd
      cases w1
      rw [e] at w2; cases w2
  unfold runF at hF
  rw [if_pos l1] at hF
  split at hF
  · rename_i d e hbody
    split at hF
    · cases hF
    · rename_i hrf
      split at hF
      · rename_i bs' hbk
        cases hF
        have hrf : rf = false := by simpa using hrf
        refine ⟨_, B, _, .rt r, e, ok0, hbody, fun σ' v B' H' ok r => ?_⟩
        obtain ⟨st, bk⟩ := fin ok hbk
        exact k v B' H' st bk (by subst hrf; exact r)
      · cases hF
  · rename_i d e hbody
    split at hF
    · rename_i hrf
      split at hF
      · rename_i bs' hbk
        cases hF
        refine ⟨_, B, _, .rn r, e, ok0, hbody, fun σ' a B' H' ok q1 q2 q3 q4 => ?_⟩
        obtain ⟨st, bk⟩ := fin ok hbk
        refine k (.ref a) B' H' st bk ?_
        subst hrf
        refine ⟨a, rfl, q1, q2, ?_⟩
        rcases q3 with z | ⟨z, _⟩
        · exact z
        · cases z
      · cases hF
    · cases hF
  · rename_i e hbody
    split at hF
    · cases hF
    · rename_i hrf
      split at hF
      · rename_i bs' hbk
        cases hF
        have hrf : rf = false := by simpa using hrf
        refine ⟨_, B, _, .nx, e, ok0, hbody, fun σ' B' H' ok => ?_⟩
        obtain ⟨st, bk⟩ := fin ok hbk
        exact k .non B' H' st bk (by subst hrf; rfl)
      · cases hF
  · cases hF

theorem spF_len {K : PySem.W.Frag} {ms : List Bool} {rf : Bool} {F : Fn} {vs : List V} {H : Hp} {Q : VK} {E : XK} (h : spF K ms rf F vs H Q E) : vs.length = ms.length := by
  obtain ⟨B, ds, r, bs, _, ha, _⟩ := h
  exact ha.lens.2
/-- THE RULE for a def -/
theorem fn_body {P : Program} {w : World} {K : PySem.W.Frag} {mg : Str → Option Value} {base : Heap} {x qual : Str} {st : Stmt} {f : Addr} {fd : FuncData} {N ps : List Str} {k : Nat} (Fn : Fun K x qual st f fd) (S : FnScope N ps (defScope st)) (ms : List Bool) (rf : Bool) {body : MS} (hn : ms.length = ps.length)
    (hb : ∀ (cdv : Value) (A : Around) (outer : List Env) (s : Shared) (H : Hp) (E : XK), Room k (A.deeper (envOfC qual (defScope st) s.heap.objs.size f cdv)) → PDB (cxOf CX0 P w K mg base N qual (defScope st) f cdv A outer s H E).nox (defBody st) body) :
    FnOk P w K mg base CX0 (k + 1) f fd ps (spF K ms rf (runF ms N.length rf body)) := by
  exact Fn.ok S (fun vs H Q E h => by rw [← hn]; exact spF_len h) fun cdv A outer s H vs Q E hr h => fn_entry S ms rf hn (hb cdv A outer s H E hr) h
/-! ### calls -/
/-- an argument: data, a name's own list lent, a new list -/
inductive Av where
  | val (d : D) | lend (i : Nat) | new (d : D)
def ArgV (K : PySem.W.Frag) (B H : Hp) (σ : L2.St) (env : Lvs) : List Av → List V → Prop
  | [], vs => vs = []
  | .val d :: r, vs => ∃ v t, vs = v :: t ∧ Rep K B d v ∧ ArgV K B H σ env r t
  | .lend i :: r, vs => ∃ v t, vs = v :: t ∧ σ[i]? = some (some v) ∧ ArgV K B H σ env r t
  | .new d :: r, vs => ∃ a t, vs = .ref a :: t ∧ B a = none ∧ OwnAt K B (H a) d ∧ ¬ IsOwn σ env a ∧ ArgV K B H σ env r t
/-- new ones among the arguments came behind the entry -/
def NewV (G : Ent) : List Av → List V → Prop
  | .new _ :: r, v :: t => (∀ a, v = .ref a → G.H a = none) ∧ NewV G r t
  | .val _ :: r, _ :: t => NewV G r t
  | .lend _ :: r, _ :: t => NewV G r t
  | _, _ => True
def tAr (K : PySem.W.Frag) (m : M (List Av)) : TA := fun σ H Q => ∃ G B env d env', Ok K G B H σ env ∧ m env = some (d, env') ∧ ∀ vs B' H', Ok K G B' H' σ env' → ArgV K B' H' σ env' d vs → NewV G d vs → Q vs H'
def PDR (X : Cx) (es : List Expr) (m : M (List Av)) : Prop := PA X es (tAr X.K m)
def rVal (m : M D) (r : M (List Av)) : M (List Av) := bnd m fun d => bnd r fun ds => ret (.val d :: ds)
def rNew (m : M D) (r : M (List Av)) : M (List Av) := bnd m fun d => bnd r fun ds => ret (.new d :: ds)
def rLend (i : Nat) (r : M (List Av)) : M (List Av) := bnd (eOwn i) fun _ => bnd r fun ds => ret (.lend i :: ds)
section
variable {K : PySem.W.Frag} {G : Ent} {B B' H H' : Hp} {σ : L2.St} {env env' : Lvs}
theorem newV_back (ok : Ok K G B H σ env) : ∀ {avs : List Av} {vs : List V}, NewV (Ent.at B H σ env) avs vs → NewV G avs vs
  | .new _ :: r, v :: t, h => ⟨fun a e => ok.live a (h.1 a e), newV_back ok (avs := r) h.2⟩
  | .val _ :: r, _ :: t, h => newV_back ok (avs := r) (vs := t) h
  | .lend _ :: r, _ :: t, h => newV_back ok (avs := r) (vs := t) h
  | [], _, _ => trivial
  | .new _ :: _, [], _ => trivial
  | .val _ :: _, [], _ => trivial
  | .lend _ :: _, [], _ => trivial
def kinds : List Bool → List Av → Bool
  | [], [] => true
  | false :: ms, .val _ :: r => kinds ms r
  | true :: ms, .lend _ :: r => kinds ms r
  | true :: ms, .new _ :: r => kinds ms r
  | _, _ => false
def dsOf (e : Lvs) : List Av → Option (List D)
  | [] => some []
  | .val d :: r => match dsOf e r with
    | some ds => some (d :: ds)
    | none => none
  | .new d :: r => match dsOf e r with
    | some ds => some (d :: ds)
    | none => none
  | .lend i :: r => match e[i]? with
    | some (.own _ d) => match dsOf e r with
      | some ds => some (d :: ds)
      | none => none
    | _ => none
def putBack : List Av → List D → Lvs → Option Lvs
  | [], [], e => some e
  | .val _ :: r, bs, e => putBack r bs e
  | .new _ :: r, _ :: bs, e => putBack r bs e
  | .lend i :: r, b :: bs, e => match e[i]? with
    | some (.own p _) => putBack r bs (e.set i (.own p b))
    | _ => none
  | _, _, _ => none
def lends : List Av → List Nat
  | [] => []
  | .lend i :: r => i :: lends r
  | .val _ :: r => lends r
  | .new _ :: r => lends r
theorem dsOf_own : ∀ {avs : List Av} {ds : List D} {s : Nat}, dsOf env avs = some ds → s ∈ lends avs → ∃ p d, env[s]? = some (.own p d)
  | .val d :: r, ds, s, h, hs => by
    unfold dsOf at h
    split at h
    · rename_i q; exact dsOf_own q hs
    · cases h
  | .new d :: r, ds, s, h, hs => by
    unfold dsOf at h
    split at h
    · rename_i q; exact dsOf_own q hs
    · cases h
  | .lend i :: r, ds, s, h, hs => by
    unfold dsOf at h
    split at h
    · rename_i p d q0
      split at h
      · rename_i q
        rcases List.mem_cons.mp (show s ∈ i :: lends r from hs) with e | e
        · subst e; exact ⟨p, d, q0⟩
        · exact dsOf_own q e
      · cases h
    · cases h
  | [], _, _, _, hs => by cases hs
theorem args_of (ok : Ok K G B H σ env) : ∀ {ms : List Bool} {avs : List Av} {ds : List D} {vs : List V}, kinds ms avs = true → dsOf env avs = some ds → ArgV K B H σ env avs vs → Args K B H ms ds vs
  | [], [], ds, vs, _, hd, ha => by cases hd; cases ha; trivial
  | false :: ms, .val d :: r, ds, vs, hk, hd, ha => by
    unfold dsOf at hd
    split at hd
    · rename_i q
      cases hd
      obtain ⟨v, t, rfl, r1, r2⟩ := ha
      exact ⟨r1, args_of ok (ms := ms) hk q r2⟩
    · cases hd
  | true :: ms, .new d :: r, ds, vs, hk, hd, ha => by
    unfold dsOf at hd
    split at hd
    · rename_i q
      cases hd
      obtain ⟨a, t, rfl, r1, r2, _, r3⟩ := ha
      exact ⟨⟨a, rfl, r1, r2⟩, args_of ok (ms := ms) hk q r3⟩
    · cases hd
  | true :: ms, .lend i :: r, ds, vs, hk, hd, ha => by
    unfold dsOf at hd
    split at hd
    · rename_i p d q0
      split at hd
      · rename_i q
        cases hd
        obtain ⟨v, t, rfl, r1, r2⟩ := ha
        obtain ⟨a, s1, s2, s3, _⟩ := ok.own i p d q0
        rw [r1] at s1
        cases s1
        exact ⟨⟨a, rfl, s2, s3⟩, args_of ok (ms := ms) hk q r2⟩
      · cases hd
    · cases hd
  | [], _ :: _, _, _, hk, _, _ => by cases hk
  | true :: _, [], _, _, hk, _, _ => by cases hk
  | false :: _, [], _, _, hk, _, _ => by cases hk
  | true :: _, .val _ :: _, _, _, hk, _, _ => by cases hk
  | false :: _, .new _ :: _, _, _, hk, _, _ => by cases hk
  | false :: _, .lend _ :: _, _, _, hk, _, _ => by cases hk
theorem lent_of : ∀ {ms : List Bool} {avs : List Av} {vs : List V} {i : Nat} {a : Addr}, kinds ms avs = true → ArgV K B H σ env avs vs → NewV G avs vs → ms[i]? = some true → vs[i]? = some (.ref a) → (∃ s ∈ lends avs, σ[s]? = some (some (.ref a))) ∨ (¬ IsOwn σ env a ∧ G.H a = none)
  | [], [], vs, i, a, _, _, _, h, _ => by simp at h
  | false :: ms, .val d :: r, vs, i, a, hk, ha, hn, h1, h2 => by
    obtain ⟨v, t, rfl, _, r2⟩ := ha
    cases i with
    | zero => cases h1
    | succ i => exact lent_of (ms := ms) (avs := r) (i := i) hk r2 hn (by simpa using h1) (by simpa using h2)
  | true :: ms, .new d :: r, vs, i, a, hk, ha, hn, h1, h2 => by
    obtain ⟨b, t, rfl, _, _, q3, r2⟩ := ha
    cases i with
    | zero => cases h2; exact .inr ⟨q3, hn.1 _ rfl⟩
    | succ i => exact lent_of (ms := ms) (avs := r) (i := i) hk r2 hn.2 (by simpa using h1) (by simpa using h2)
  | true :: ms, .lend s :: r, vs, i, a, hk, ha, hn, h1, h2 => by
    obtain ⟨v, t, rfl, r1, r2⟩ := ha
    cases i with
    | zero => cases h2; exact .inl ⟨s, List.mem_cons_self, r1⟩
    | succ i =>
      rcases lent_of (ms := ms) (avs := r) (i := i) hk r2 hn (by simpa using h1) (by simpa using h2) with ⟨s', z1, z2⟩ | z
      · exact .inl ⟨s', List.mem_cons_of_mem _ z1, z2⟩
      · exact .inr z
  | [], _ :: _, _, _, _, hk, _, _, _, _ => by cases hk
  | true :: _, [], _, _, _, hk, _, _, _, _ => by cases hk
  | false :: _, [], _, _, _, hk, _, _, _, _ => by cases hk
  | true :: _, .val _ :: _, _, _, _, hk, _, _, _, _ => by cases hk
  | false :: _, .new _ :: _, _, _, _, hk, _, _, _, _ => by cases hk
  | false :: _, .lend _ :: _, _, _, _, hk, _, _, _, _ => by cases hk
theorem putBack_ok : ∀ {ms : List Bool} {avs : List Av} {bs : List D} {vs : List V} {env env' : Lvs}, kinds ms avs = true → (∀ s v, s ∈ lends avs → σ[s]? = some v → True) → ArgV K B H σ env avs vs → Backs K B' H' ms bs vs → putBack avs bs env = some env' →
    env'.length = env.length ∧ ∀ (j : Nat) (x : Lv), env'[j]? = some x → (env[j]? = some x ∧ j ∉ lends avs) ∨ (∃ p d b a, j ∈ lends avs ∧ env[j]? = some (.own p d) ∧ x = .own p b ∧ σ[j]? = some (some (.ref a)) ∧ B' a = none ∧ OwnAt K B' (H' a) b)
  | [], [], bs, vs, env, env', _, _, ha, hb, hp => by
    cases bs with
    | nil => cases hp; exact ⟨rfl, fun j x h => .inl ⟨h, by simp [lends]⟩⟩
    | cons _ _ => cases hp
  | false :: ms, .val d :: r, bs, vs, env, env', hk, _, ha, hb, hp => by
    obtain ⟨v, t, rfl, _, r2⟩ := ha
    exact putBack_ok (ms := ms) (avs := r) hk (fun _ _ _ _ => trivial) r2 hb hp
  | true :: ms, .new d :: r, bs, vs, env, env', hk, _, ha, hb, hp => by
    obtain ⟨b, t, rfl, _, _, _, r2⟩ := ha
    cases bs with
    | nil => cases hp
    | cons b bs => exact putBack_ok (ms := ms) (avs := r) hk (fun _ _ _ _ => trivial) r2 hb.2 hp
  | true :: ms, .lend i :: r, bs, vs, env, env', hk, _, ha, hb, hp => by
    obtain ⟨v, t, rfl, r1, r2⟩ := ha
    cases bs with
    | nil => cases hp
    | cons b bs =>
      obtain ⟨⟨a, rfl, b1, b2⟩, hb2⟩ := hb
      unfold putBack at hp
      split at hp
      · rename_i p d q0
        have r2' : ArgV K B H σ (env.set i (.own p b)) r t := by
          have hO : ∀ a, IsOwn σ (env.set i (.own p b)) a → IsOwn σ env a := fun a ⟨j, p', d', e1, e2⟩ => by
            by_cases c : j = i
            · subst c; exact ⟨j, p, d, q0, e2⟩
            · rw [List.getElem?_set_ne (Ne.symm c)] at e1; exact ⟨j, p', d', e1, e2⟩
          have : ∀ {r : List Av} {t : List V}, ArgV K B H σ env r t → ArgV K B H σ (env.set i (.own p b)) r t := by
            intro r
            induction r with
            | nil => intro t h; exact h
            | cons y r ih =>
              intro t h
              cases y with
              | val _ => obtain ⟨v, t, e, h1, h2⟩ := h; exact ⟨v, t, e, h1, ih h2⟩
              | lend _ => obtain ⟨v, t, e, h1, h2⟩ := h; exact ⟨v, t, e, h1, ih h2⟩
              | new _ => obtain ⟨v, t, e, h1, h2, h3, h4⟩ := h; exact ⟨v, t, e, h1, h2, fun z => h3 (hO _ z), ih h4⟩
          exact this r2
        obtain ⟨l, f⟩ := putBack_ok (ms := ms) (avs := r) hk (fun _ _ _ _ => trivial) r2' hb2 hp
        have hi : i < env.length := by
          rcases Nat.lt_or_ge i env.length with z | z
          · exact z
          · rw [List.getElem?_eq_none z] at q0; cases q0
        refine ⟨by rw [l, List.length_set], fun j x h => ?_⟩
        rcases f j x h with ⟨z1, z2⟩ | ⟨p', d', b', a', z1, z2, z3, z4, z5, z6⟩
        · by_cases c : j = i
          · subst c
            rw [List.getElem?_set_self hi] at z1
            cases z1
            exact .inr ⟨p, d, b, a, List.mem_cons_self, q0, rfl, r1, b1, b2⟩
          · rw [List.getElem?_set_ne (Ne.symm c)] at z1
            exact .inl ⟨z1, fun z => by
              rcases List.mem_cons.mp (show j ∈ i :: lends r from z) with w | w
              · exact c w
              · exact z2 w⟩
        · by_cases c : j = i
          · subst c
            rw [List.getElem?_set_self hi] at z2
            cases z2
            exact .inr ⟨p, d, b', a', List.mem_cons_self, q0, z3, z4, z5, z6⟩
          · rw [List.getElem?_set_ne (Ne.symm c)] at z2
            exact .inr ⟨p', d', b', a', List.mem_cons_of_mem _ z1, z2, z3, z4, z5, z6⟩
      · cases hp
  | [], _ :: _, _, _, _, _, hk, _, _, _, _ => by cases hk
  | true :: _, [], _, _, _, _, hk, _, _, _, _ => by cases hk
  | false :: _, [], _, _, _, _, hk, _, _, _, _ => by cases hk
  | true :: _, .val _ :: _, _, _, _, _, hk, _, _, _, _ => by cases hk
  | false :: _, .new _ :: _, _, _, _, _, hk, _, _, _, _ => by cases hk
  | false :: _, .lend _ :: _, _, _, _, _, hk, _, _, _, _ => by cases hk
/-- at most one argument is lent -/
def one (ms : List Bool) : Bool := decide ((ms.filter id).length ≤ 1)
theorem one_apart {ms : List Bool} (h : one ms = true) (vs : List V) : Apart ms vs := by
  have key : ∀ (ms : List Bool) (i j : Nat), (ms.filter id).length ≤ 1 → ms[i]? = some true → ms[j]? = some true → i = j := by
    intro ms
    induction ms with
    | nil => intro i j _ h; simp at h
    | cons m ms ih =>
      intro i j hl h1 h2
      have none_of : ∀ (ms : List Bool), (ms.filter id).length = 0 → ∀ k : Nat, ms[k]? ≠ some true := by
        intro ms
        induction ms with
        | nil => intro _ k; simp
        | cons m ms ih2 =>
          intro h k
          cases m with
          | true => simp at h
          | false =>
            cases k with
            | zero => simp
            | succ k =>
              simp only [List.getElem?_cons_succ]
              exact ih2 (by simpa using h) k
      cases m with
      | true =>
        have h0 : (ms.filter id).length = 0 := by simpa using hl
        cases i with
        | zero =>
          cases j with
          | zero => rfl
          | succ j => exact absurd (by simpa using h2) (none_of ms h0 j)
        | succ i => exact absurd (by simpa using h1) (none_of ms h0 i)
      | false =>
        cases i with
        | zero => simp at h1
        | succ i =>
          cases j with
          | zero => simp at h2
          | succ j => rw [ih i j (by simpa using hl) (by simpa using h1) (by simpa using h2)]
  exact fun i j a h1 h2 _ _ => key ms i j (of_decide_eq_true h) h1 h2
/-- f(..) on data -/
def eCall (ms : List Bool) (F : Fn) (m : M (List Av)) : M D := bnd m fun avs => fun e => if kinds ms avs = true then match dsOf e avs with
  | some ds => match F ds with
    | some (r, bs) => match putBack avs bs e with
      | some e' => some (r, e')
      | none => none
    | none => none
  | none => none else none
theorem call_sp {ms : List Bool} {rf : Bool} {F : Fn} {avs : List Av} {vs : List V} {r : D} {Q : VK} {E : XK} (h1 : one ms = true) (ok : Ok K G B H σ env) (hk : kinds ms avs = true) (ha : ArgV K B H σ env avs vs) (hn : NewV G avs vs) {ds bs : List D} (hd : dsOf env avs = some ds) (hF : F ds = some (r, bs)) (hp : putBack avs bs env = some env')
    (k : ∀ v B' H', Ok K G B' H' σ env' → (∀ a, H a = none → ¬ IsOwn σ env' a) → RetV K rf H B' H' r v → Q v H') : spF K ms rf F vs H Q E := by
  refine ⟨B, ds, r, bs, ok.sub, args_of ok hk hd ha, one_apart h1 vs, hF, fun v B' H' st bk rv => ?_⟩
  obtain ⟨l, f⟩ := putBack_ok (σ := σ) hk (fun _ _ _ _ => trivial) ha bk hp
  -- a slot's own object is as it was, or was lent
  have was : ∀ (j : Nat) (p : Bool) (d : D), env'[j]? = some (.own p d) → ∃ d0 a, env[j]? = some (.own p d0) ∧ σ[j]? = some (some (.ref a)) ∧ B' a = none ∧ OwnAt K B' (H' a) d := fun j p d e => by
    rcases f j _ e with ⟨z1, z2⟩ | ⟨p', d', b, a, z1, z2, z3, z4, z5, z6⟩
    · obtain ⟨a, q1, q2, q3, q4⟩ := ok.own j p d z1
      obtain ⟨u, hu⟩ := q3.there
      have nl : ¬ Lent ms vs a := fun ⟨i, w1, w2⟩ => by
        rcases lent_of hk ha hn w1 w2 with ⟨s, y1, y2⟩ | ⟨y1, _⟩
        · obtain ⟨p2, d2, e2⟩ := dsOf_own hd y1
          exact z2 (ok.dis j s a _ _ _ _ z1 e2 q1 y2 ▸ y1)
        · exact y1 ⟨j, p, d, z1, q1⟩
      refine ⟨d, a, z1, q1, ?_, ?_⟩
      · cases hc : B' a with
        | none => rfl
        | some w =>
          rcases st.new a w hc with ⟨y, hy⟩ | hy
          · rw [q2] at hy; cases hy
          · rw [hu] at hy; cases hy
      · rw [st.keep a u hu nl, ← hu]; exact q3.mono st.mono
    · cases z3
      exact ⟨d', a, z2, z4, z5, z6⟩
  refine k v B' H' ⟨?_, st.sub, fun j d e => ?_, fun j p d e => ?_, fun i j a p q d e e1 e2 s1 s2 => ?_, fun j d e => ?_, ok.mono.trans st.mono, fun a o e n => ?_, fun a o e => ?_, fun a e => ok.live a (st.live a e)⟩ (fun a ha' ⟨j, p, d, e1, e2⟩ => ?_) rv
  · rw [l]; exact ok.len
  · rcases f j _ e with ⟨z1, _⟩ | ⟨_, _, _, _, _, _, z3, _⟩
    · obtain ⟨w, q1, q2⟩ := ok.val j d z1
      exact ⟨w, q1, Rep.mono st.mono _ _ q2⟩
    · cases z3
  · obtain ⟨d0, a, z1, z2, z3, z4⟩ := was j p d e
    obtain ⟨a', q1, _, _, q4⟩ := ok.own j p d0 z1
    rw [z2] at q1; cases q1
    exact ⟨a, z2, z3, z4, q4⟩
  · obtain ⟨d1, _, z1, _⟩ := was i p d e1
    obtain ⟨d2, _, z2, _⟩ := was j q e e2
    exact ok.dis i j a _ _ _ _ z1 z2 s1 s2
  · obtain ⟨d0, _, z1, _⟩ := was j true d e
    exact ok.pin j d0 z1
  · refine st.keep a o (ok.keep a o e n) fun ⟨i, w1, w2⟩ => ?_
    rcases lent_of hk ha hn w1 w2 with ⟨s, y1, y2⟩ | ⟨_, y2⟩
    · obtain ⟨p2, d2, e2⟩ := dsOf_own hd y1
      obtain ⟨b, q1, _, _, q4⟩ := ok.own s p2 d2 e2
      rw [y2] at q1; cases q1
      rcases q4 with z | z
      · rw [e] at z; cases z
      · exact n p2 z
    · rw [e] at y2; cases y2
  · rcases st.new a o e with ⟨u, z⟩ | z
    · exact ok.new a u z
    · exact .inr (.inl (ok.live a z))
  · obtain ⟨d0, b, z1, z2, _⟩ := was j p d e1
    rw [e2] at z2; cases z2
    obtain ⟨b', q1, _, q3, _⟩ := ok.own j p d0 z1
    rw [e2] at q1; cases q1
    obtain ⟨u, hu⟩ := q3.there
    rw [ha'] at hu; cases hu
end
section
variable {X : Cx}
theorem pdr_nil : PDR X [] (ret []) := pa_mono pa_nil fun σ H Q ⟨G, B, env, d, env', ok, e, k⟩ => by
  cases ret_some e
  exact k [] B H ok rfl trivial
theorem pdr_val {e : Expr} {es : List Expr} {m : M D} {r : M (List Av)} (h : PD X e m) (q : PDR X es r) (hs : starEach (e :: es) X.env = (false, eval e X.env) :: starEach es X.env := by rfl) : PDR X (e :: es) (rVal m r) :=
  pa_mono (pa_cons h q hs) fun σ H Q ⟨G, B, env, d, env', ok, e, k⟩ => by
    obtain ⟨x, e1, q1, q2⟩ := bnd_some e
    obtain ⟨xs, e2, q3, q4⟩ := bnd_some q2
    cases ret_some q4
    refine tD_of ok q1 fun v B1 H1 ok1 _ r1 => ⟨Ent.at B1 H1 σ _, B1, _, xs, _, ok1.self, q3, fun vs B2 H2 ok2' r2 n2 => ?_⟩
    exact k (v :: vs) B2 H2 (ok1.comp ok2') ⟨v, vs, rfl, Rep.mono ok2'.mono _ _ r1, r2⟩ (newV_back ok1 n2)
theorem pdr_lend (i : Nat) {x : Str} {p : Pos} {es : List Expr} {r : M (List Av)} (h : PE X (.Name x p) (tVar i)) (q : PDR X es r) (hs : starEach (.Name x p :: es) X.env = (false, eval (.Name x p) X.env) :: starEach es X.env := by rfl) : PDR X (.Name x p :: es) (rLend i r) :=
  pa_mono (pa_cons h q hs) fun σ H Q ⟨G, B, env, d, env', ok, e, k⟩ => by
    obtain ⟨x, e1, q1, q2⟩ := bnd_some e
    obtain ⟨xs, e2, q3, q4⟩ := bnd_some q2
    cases ret_some q4
    obtain ⟨ee, v, s1⟩ := own_at ok q1
    subst ee
    exact ⟨v, s1, G, B, _, xs, _, ok, q3, fun vs B2 H2 ok2 r2 n2 => k (v :: vs) B2 H2 ok2 ⟨v, vs, rfl, s1, r2⟩ n2⟩
theorem pdr_new {e : Expr} {es : List Expr} {m : M D} {r : M (List Av)} (h : PF X e m) (q : PDR X es r) (hs : starEach (e :: es) X.env = (false, eval e X.env) :: starEach es X.env := by rfl) : PDR X (e :: es) (rNew m r) :=
  pa_mono (pa_cons h q hs) fun σ H Q ⟨G, B, env, d, env', ok, e, k⟩ => by
    obtain ⟨x, e1, q1, q2⟩ := bnd_some e
    obtain ⟨xs, e2, q3, q4⟩ := bnd_some q2
    cases ret_some q4
    refine tF_of ok q1 fun a B1 H1 ok1 _ h1 h2 h3 h4 => ⟨Ent.at B1 H1 σ _, B1, _, xs, _, ok1.self, q3, fun vs B2 H2 ok2' r2 n2 => ?_⟩
    obtain ⟨u, hu⟩ := h2.there
    obtain ⟨s1, s2, s3⟩ := ok2'.stay hu h1 h4
    refine k (.ref a :: vs) B2 H2 (ok1.comp ok2') ⟨a, vs, rfl, s2, ?_, s3, r2⟩ ⟨fun b e => by cases e; exact ok.live a h3, newV_back ok1 n2⟩
    rw [s1, ← hu]; exact h2.mono ok2'.mono
variable {k : Nat} {f : Addr} {fd : FuncData} {ps : List Str} {x : Str} {p pos : Pos} {e : Expr} {es : List Expr} {ms : List Bool} {F : Fn} {m : M (List Av)}
theorem call_red {K : PySem.W.Frag} {rf : Bool} {σ : L2.St} {H : Hp} {env' : Lvs} {G : Ent} {B : Hp} {env : Lvs} {d : D} {Q : VK} {E : XK} (h1 : one ms = true) (ok : Ok K G B H σ env) (e : eCall ms F m env = some (d, env'))
    (k : ∀ H1 B1 e1, Ok K G B1 H1 σ e1 → Ok K (Ent.at B H σ env) B1 H1 σ e1 → ∀ v B' H', Ok K G B' H' σ env' → (∀ a, H1 a = none → ¬ IsOwn σ env' a) → RetV K rf H1 B' H' d v → Q v H') : tCall (spF K ms rf F) [] E (tAr K m) σ H Q := by
  obtain ⟨avs, e1, q1, q2⟩ := bnd_some e
  split at q2
  rotate_left
  · cases q2
  rename_i hk
  split at q2
  rotate_left
  · cases q2
  rename_i ds hd
  split at q2
  rotate_left
  · cases q2
  rename_i r bs hF
  split at q2
  rotate_left
  · cases q2
  rename_i e2 hp
  cases q2
  refine ⟨Ent.at B H σ env, B, env, avs, e1, ok.self, q1, fun vs B1 H1 ok1' ha hn => ?_⟩
  have ok1 := ok.comp ok1'
  show spF K ms rf F (vs ++ []) H1 Q E
  rw [List.append_nil]
  exact call_sp h1 ok1 hk ha (newV_back ok hn) hd hF hp (k H1 B1 e1 ok1 ok1')
theorem pd_call (Fo : FnOk X.prog X.w X.K X.mg X.base CX0 k f fd ps (spF X.K ms false F)) (hr : Room k X.A) (hm : X.mg x = some (.ref f)) (hk : PySem.W.keepIn X.K (.ref f) = true) (hb : Binds X.K fd ps []) (ha : PDR X (e :: es) m) (h1 : one ms = true := by rfl) (hg : Gl X x := by rfl) (hdb : (x == ("__debug__" : Str)) = false := by decide)
    (he : starEach (e :: es) X.env = (false, eval e X.env) :: starEach es X.env := by rfl) (hpl : (backTo pos (starEach es X.env)).any (·.1) = false := by rfl) : PD X (.Call (.Name x p) (e :: es) [] pos) (eCall ms F m) :=
  pe_mono (pe_call Fo hr hg hm hk hb .nil pass0 ha hdb he hpl) fun σ H Q ⟨G, B, env, d, env', ok, e, k⟩ => call_red h1 ok e fun H1 B1 e1 ok1 ok1' v B' H' ok' _ rv => k v B' H' ok' rv
theorem pf_call (Fo : FnOk X.prog X.w X.K X.mg X.base CX0 k f fd ps (spF X.K ms true F)) (hr : Room k X.A) (hm : X.mg x = some (.ref f)) (hk : PySem.W.keepIn X.K (.ref f) = true) (hb : Binds X.K fd ps []) (ha : PDR X (e :: es) m) (h1 : one ms = true := by rfl) (hg : Gl X x := by rfl) (hdb : (x == ("__debug__" : Str)) = false := by decide)
    (he : starEach (e :: es) X.env = (false, eval e X.env) :: starEach es X.env := by rfl) (hpl : (backTo pos (starEach es X.env)).any (·.1) = false := by rfl) : PF X (.Call (.Name x p) (e :: es) [] pos) (eCall ms F m) :=
  pe_mono (pe_call Fo hr hg hm hk hb .nil pass0 ha hdb he hpl) fun σ H Q ⟨G, B, env, d, env', ok, e, k⟩ => call_red h1 ok e fun H1 B1 e1 ok1 ok1' v B' H' ok' nO rv => by
    obtain ⟨a, rfl, r1, r2, r3⟩ := rv
    exact k a B' H' ok' r1 r2 (ok1.live a r3) (nO a r3)
end
end Dv
/-! Operators, comparisons, items, slices, built-in functions and methods on data. -/
namespace Dv
open PySem PySem.Spec PyProof.Rows L2 Evl

section
variable {X : Cx}
theorem OpD.sub {o : Value → Value → Sem Value} {f g : D → D → Option D} (hf : ∀ d e z, g d e = some z → f d e = some z) : OpD X o f → OpD X o g := fun ⟨r, hr, h⟩ => ⟨r, hr, fun G B H σ env x y d e z Q ok rx ry ez k => h G B H σ env x y d e z Q ok rx ry (hf d e z ez) k⟩
theorem OpS.sub {o : Value → Value → Sem Value} {f g : D → D → Option D} (hf : ∀ d e z, g d e = some z → f d e = some z) : OpS X o f → OpS X o g := fun ⟨r, hr, h⟩ => ⟨r, hr, fun B H x y d e z Q ex rx ry ez k => h B H x y d e z Q ex rx ry (hf d e z ez) k⟩
/-- an operation that lays a new list -/
def OpF (X : Cx) (o : Value → Value → Sem Value) (f : D → D → Option D) : Prop := ∃ r : R2, OpR X o r ∧
  ∀ (G : Ent) (B H : Hp) (σ : L2.St) (env : Lvs) (x y : V) (d e z : D) (Q : VK), Ok X.K G B H σ env → Rep X.K B d x → Rep X.K B e y → f d e = some z → (∀ a H', Ok X.K G B H' σ env → B a = none → OwnAt X.K B (H' a) z → H a = none → ¬ IsOwn σ env a → Q (.ref a) H') → r x y H Q
theorem OpF.d {o : Value → Value → Sem Value} {f : D → D → Option D} (hl : ∀ d e z, f d e = some z → lk z = false) : OpF X o f → OpD X o f := fun ⟨r, hr, h⟩ => ⟨r, hr, fun G B H σ env x y d e z Q ok rx ry ez k => h G B H σ env x y d e z Q ok rx ry ez fun a H' ok' hB hA hn hO => by
  obtain ⟨u, hu⟩ := hA.there
  rw [hu] at hA
  exact k (.ref a) _ H' (ok'.give hu hB (ok.live a hn) hO) (hA.rep hB (hl _ _ _ ez))⟩
theorem pf_op {op : Operator} {f : D → D → Option D} {a b : Expr} {ma mb : M D} {pos : Pos} (ho : OpF X (binaryOp op) f) (ha : PD X a ma) (hb : PD X b mb) : PF X (.BinOp a op b pos) (eOp f ma mb) := by
  obtain ⟨r, hr, hf⟩ := ho
  refine pe_mono (pe_op hr ha hb) fun σ H Q ⟨G, B, env, d, env', ok, e, k⟩ => ?_
  obtain ⟨x, e1, q1, q2⟩ := bnd_some e
  obtain ⟨y, e2, q3, q4⟩ := bnd_some q2
  obtain ⟨z, q5, q6⟩ := lft_some q4
  cases q6
  exact tD_of ok q1 fun v B1 H1 ok1 _ r1 => tD_of ok1 q3 fun u B2 H2 ok2 ok2' r2 => hf G B2 H2 σ _ v u x y d Q ok2 (Rep.mono ok2'.mono _ _ r1) r2 q5 fun a H' ok' h1 h2 h3 h4 => k a B2 H' ok' h1 h2 (ok2.live a h3) h4
/-- two ints -/
theorem opS_int {o : Value → Value → Sem Value} {C : Int → Int → Prop} {g : Int → Int → V} (h : OpR X o (rI C g)) {f : D → D → Option D} (hf : ∀ d e z, f d e = some z → ∃ i j, d = .int i ∧ e = .int j ∧ C i j ∧ ∀ B, Rep X.K B z (g i j)) : OpS X o f := ⟨_, h, fun B H x y d e z Q ex rx ry ez k => by
  obtain ⟨i, j, rfl, rfl, hc, hr⟩ := hf d e z ez
  exact ⟨i, j, rx, ry, hc, k _ hr⟩⟩
theorem opS_int0 {o : Value → Value → Sem Value} {g : Int → Int → V} (h : OpR X o (rI0 g)) {f : D → D → Option D} (hf : ∀ d e z, f d e = some z → ∃ i j, d = .int i ∧ e = .int j ∧ ∀ B, Rep X.K B z (g i j)) : OpS X o f := ⟨_, h, fun B H x y d e z Q ex rx ry ez k => by
  obtain ⟨i, j, rfl, rfl, hr⟩ := hf d e z ez
  exact ⟨i, j, rx, ry, k _ hr⟩⟩

theorem orF_l {f g : D → D → Option D} {d e z : D} (h : f d e = some z) : orF f g d e = some z := by unfold orF; rw [h]
theorem orF_r {f g : D → D → Option D} {d e z : D} (h : f d e = none) (h' : g d e = some z) : orF f g d e = some z := by unfold orF; rw [h]; exact h'
theorem cast_le {m n : Nat} {x : Int} (h : m ≤ n) (e : x = (m : Int)) : x ≤ (n : Int) := by rw [e]; exact Int.ofNat_le.mpr h
/-! ### + -/
def addI : D → D → Option D
  | .int i, .int j => some (.int (i + j))
  | _, _ => none
def addS : D → D → Option D
  | .str a, .str b => if lim (a.length + b.length) = true then some (.str (a ++ b)) else none
  | _, _ => none
def addL : D → D → Option D
  | .lst a, .lst b => if lim (a.length + b.length) = true then some (.lst (a ++ b)) else none
  | _, _ => none
def addT : D → D → Option D
  | .tup a, .tup b => if lim (a.length + b.length) = true then some (.tup (a ++ b)) else none
  | _, _ => none
theorem addL_lk : ∀ d e z, addL d e = some z → lk z = false := fun d e z h => by
  unfold addL at h
  split at h
  · split at h
    · cases h; rfl
    · cases h
  · cases h
theorem op_addI : OpS X (binaryOp .Add) addI := opS_int0 op_add fun d e z h => by
  unfold addI at h
  split at h
  · cases h; exact ⟨_, _, rfl, rfl, fun _ => rfl⟩
  · cases h
theorem mkS_app (a b : List Nat) : mkS a ++ mkS b = mkS (a ++ b) := by
  show Str.mk (a.toArray ++ b.toArray) = _
  simp [mkS]
theorem op_addS : OpS X (binaryOp .Add) addS := ⟨_, op_add_str, fun B H x y d e z Q ex rx ry ez k => by
  unfold addS at ez
  split at ez
  · rename_i a b
    split at ez
    · rename_i hl
      cases ez
      refine ⟨mkS a, mkS b, rx, ry, ?_, k _ fun _ => ?_⟩
      · rw [mkS_len, mkS_len]; exact lim_ok hl
      · show V.str (mkS a ++ mkS b) = V.str (mkS (a ++ b))
        rw [mkS_app]
    · cases ez
  · cases ez⟩
theorem op_addL : OpF X (binaryOp .Add) addL := ⟨_, op_cat, fun G B H σ env x y d e z Q ok rx ry ez k => by
  unfold addL at ez
  split at ez
  · rename_i a b
    split at ez
    · rename_i hl
      cases ez
      obtain ⟨p, vs, rfl, h1, h2⟩ := rx
      obtain ⟨q, us, rfl, h3, h4⟩ := ry
      refine ⟨p, q, vs, us, rfl, rfl, ok.sub _ _ h1, ok.sub _ _ h3, ?_, fun l hl' => ?_⟩
      · rw [h2.length, h4.length]; exact lim_ok hl
      · exact k l _ (ok.tmp hl') (fresh_back ok.sub hl') ⟨_, upd_same, h2.append h4⟩ hl' (ok.notOwn hl')
    · cases ez
  · cases ez⟩
theorem op_addT : OpD X (binaryOp .Add) addT := ⟨_, op_catA, fun G B H σ env x y d e z Q ok rx ry ez k => by
  unfold addT at ez
  split at ez
  · rename_i a b
    split at ez
    · rename_i hl
      cases ez
      obtain ⟨p, vs, rfl, h1, h2⟩ := rx
      obtain ⟨q, us, rfl, h3, h4⟩ := ry
      refine ⟨p, q, vs, us, rfl, rfl, ex_t ok.sub h1, ex_t ok.sub h3, ?_, fun e => ?_, fun _ e => ?_, fun _ _ l hl' => ?_⟩
      · rw [h2.length, h4.length]; exact lim_ok hl
      · subst e
        have : a = [] := List.length_eq_zero_iff.mp h2.length.symm
        subst this
        exact k _ B H ok ⟨q, us, rfl, h3, h4⟩
      · subst e
        have : b = [] := List.length_eq_zero_iff.mp h4.length.symm
        subst this
        exact k _ B H ok ⟨p, vs, rfl, h1, by rw [List.append_nil]; exact h2⟩
      · exact k _ _ _ (ok.lay hl') ⟨l, _, rfl, SqT.of upd_same, Reps.mono (Ex.new (fresh_back ok.sub hl')) _ _ (h2.append h4)⟩
    · cases ez
  · cases ez⟩
def addD : D → D → Option D
  | .int i, .int j => some (.int (i + j))
  | .str a, .str b => if lim (a.length + b.length) = true then some (.str (a ++ b)) else none
  | .lst a, .lst b => if lim (a.length + b.length) = true then some (.lst (a ++ b)) else none
  | .tup a, .tup b => if lim (a.length + b.length) = true then some (.tup (a ++ b)) else none
  | _, _ => none
theorem op_addD : OpD X (binaryOp .Add) addD := (op_addI.d.or (op_addS.d.or ((op_addL.d addL_lk).or op_addT))).sub fun d e z h => by
  unfold addD at h
  split at h
  · exact orF_l h
  · exact orF_r rfl (orF_l h)
  · exact orF_r rfl (orF_r rfl (orF_l h))
  · exact orF_r rfl (orF_r rfl (orF_r rfl h))
  · cases h

/-! ### -, *, //, %, ** -/
def subD : D → D → Option D
  | .int i, .int j => some (.int (i - j))
  | _, _ => none
theorem op_subD : OpS X (binaryOp .Sub) subD := opS_int0 op_sub fun d e z h => by
  unfold subD at h
  split at h
  · cases h; exact ⟨_, _, rfl, rfl, fun _ => rfl⟩
  · cases h
def mulI : D → D → Option D
  | .int i, .int j => if i.natAbs.log2 + j.natAbs.log2 < 1000000 then some (.int (i * j)) else none
  | _, _ => none
theorem op_mulI : OpS X (binaryOp .Mult) mulI := opS_int op_mulW fun d e z h => by
  unfold mulI at h
  split at h
  · split at h
    · rename_i hc
      cases h; exact ⟨_, _, rfl, rfl, hc, fun _ => rfl⟩
    · cases h
  · cases h
def small63 (k : Int) : Bool := decide (-(2 ^ 63) ≤ k) && decide (k < 2 ^ 63)
theorem small63_ok {i : Int} (h : small63 i = true) : -(2 ^ 63) ≤ i ∧ i < 2 ^ 63 := by
  unfold small63 at h
  rw [Bool.and_eq_true] at h
  exact ⟨of_decide_eq_true h.1, of_decide_eq_true h.2⟩
def mulL : D → D → Option D
  | .lst a, .int k => if (small63 k && lim (a.length * k.toNat)) = true then some (.lst (List.replicate k.toNat a).flatten) else none
  | _, _ => none
theorem mulL_lk : ∀ d e z, mulL d e = some z → lk z = false := fun d e z h => by
  unfold mulL at h
  split at h
  · split at h
    · cases h; rfl
    · cases h
  · cases h
theorem op_mulL : OpF X (binaryOp .Mult) mulL := ⟨_, op_rep, fun G B H σ env x y d e z Q ok rx ry ez k => by
  unfold mulL at ez
  split at ez
  · rename_i a n
    split at ez
    · rename_i hl
      cases ez
      rw [Bool.and_eq_true] at hl
      obtain ⟨p, vs, rfl, h1, h2⟩ := rx
      obtain ⟨b1, b2⟩ := small63_ok hl.1
      refine ⟨p, n, vs, rfl, ry, ok.sub _ _ h1, b1, b2, ?_, fun l hl' => ?_⟩
      · rw [h2.length]; exact lim_ok hl.2
      · exact k l _ (ok.tmp hl') (fresh_back ok.sub hl') ⟨_, upd_same, h2.flat _⟩ hl' (ok.notOwn hl')
    · cases ez
  · cases ez⟩
theorem rep_fold (a : Array Nat) : ∀ (n : Nat) (acc : Array Nat), (List.replicate n a).foldl (· ++ ·) acc = acc ++ (List.replicate n a.toList).flatten.toArray
  | 0, acc => by simp
  | n + 1, acc => by
    rw [List.replicate_succ, List.foldl_cons, rep_fold a n, List.replicate_succ, List.flatten_cons]
    apply Array.toList_inj.mp
    simp
/-- text * int -/
def mulS : D → D → Option D
  | .str a, .int k => if (small63 k && lim (a.length * k.toNat)) = true then some (.str (List.replicate k.toNat a).flatten) else none
  | _, _ => none
def rMulS : R2 := fun x y H Q => ∃ (a : List Nat) (k : Int), x = .str (mkS a) ∧ y = .int k ∧ small63 k = true ∧ lim (a.length * k.toNat) = true ∧ Q (.str (mkS (List.replicate k.toNat a).flatten)) H
theorem opr_mulS : OpR X (binaryOp .Mult) rMulS := by
  intro pins s σ H x y v u Q I rx ry h
  obtain ⟨a, n, rfl, rfl, h1, h2, q⟩ := h
  obtain ⟨t, rfl⟩ := rx
  obtain ⟨t', rfl⟩ := ry
  obtain ⟨b1, b2⟩ := small63_ok h1
  have hl : a.length * n.toNat ≤ 16777216 := of_decide_eq_true h2
  have hlen : (mkS a).length = a.length := mkS_len a
  refine PySem.P.mul_str ?_ (fun hn hz => ?_) (fun hn hz => ?_) ?_
  · rw [decide_eq_false (by omega), decide_eq_false (by omega)]; rfl
  · rw [hlen]
    have hn : 1 ≤ n := by omega
    have hm : (a.length : Int) * n ≤ 16777216 := by
      exact cast_le hl (by rw [Int.natCast_mul, Int.toNat_of_nonneg (by omega)])
    intro hgt
    have h3 : (2 ^ 63 - 1) / n * n ≥ 2 ^ 63 - 1 - (n - 1) := by
      have h4 := Int.emod_add_mul_ediv (2 ^ 63 - 1) n
      have h5 := Int.emod_lt_of_pos (2 ^ 63 - 1) (show 0 < n by omega)
      rw [Int.mul_comm] at h4
      omega
    have h6 : ((2 ^ 63 - 1) / n + 1) * n ≤ (a.length : Int) * n := Int.mul_le_mul_of_nonneg_right (by omega) (by omega)
    rw [Int.add_mul, Int.one_mul] at h6
    omega
  · rw [hlen]
    show decide (a.length * n.toNat > sizeLine) = false
    rw [sizeLine_eq]
    exact decide_eq_false (by omega)
  · have fin : ∀ (tk : Nat) (tt : Tok) (z : Str), z = mkS (List.replicate n.toNat a).flatten → EP X pins σ Q (.str z tt) { s with toks := tk } := fun tk tt z e => by
      subst e
      exact ⟨.str _, H, I.tok tk, ⟨tt, rfl⟩, q⟩
    by_cases c1 : n < 1
    · rw [if_pos c1]
      refine ⟨by decide, fin _ _ _ ?_⟩
      have : n.toNat = 0 := by omega
      rw [this]; rfl
    · rw [if_neg c1]
      by_cases c2 : (n == 1 || (mkS a).length == 0) = true
      · rw [if_pos c2]
        show EP X pins σ Q (.str (mkS a) t) s
        refine ⟨.str _, H, I, ⟨t, ?_⟩, q⟩
        rw [Bool.or_eq_true] at c2
        rcases c2 with c2 | c2
        · have : n = 1 := by simpa using c2
          subst this
          show Value.str (mkS a) t = Value.str (mkS (List.replicate 1 a).flatten) t
          simp
        · have : a = [] := by
            rw [hlen] at c2
            exact List.length_eq_zero_iff.mp (by simpa using c2)
          subst this
          simp
      · rw [if_neg c2]
        refine ⟨?_, fin _ _ _ ?_⟩
        · rw [rep_fold]
          show (#[] ++ (List.replicate n.toNat a).flatten.toArray).size ≤ sizeLine
          rw [sizeLine_eq]
          simp
          rw [Nat.mul_comm]; exact hl
        · rw [rep_fold]; simp [mkS]
theorem op_mulS : OpS X (binaryOp .Mult) mulS := ⟨_, opr_mulS, fun B H x y d e z Q ex rx ry ez k => by
  unfold mulS at ez
  split at ez
  · rename_i a n
    split at ez
    · rename_i hl
      cases ez
      rw [Bool.and_eq_true] at hl
      exact ⟨a, n, rx, ry, hl.1, hl.2, k _ fun _ => rfl⟩
    · cases ez
  · cases ez⟩
def mulD : D → D → Option D
  | .int i, .int j => if i.natAbs.log2 + j.natAbs.log2 < 1000000 then some (.int (i * j)) else none
  | .str a, .int k => if (small63 k && lim (a.length * k.toNat)) = true then some (.str (List.replicate k.toNat a).flatten) else none
  | .lst a, .int k => if (small63 k && lim (a.length * k.toNat)) = true then some (.lst (List.replicate k.toNat a).flatten) else none
  | _, _ => none
theorem op_mulD : OpD X (binaryOp .Mult) mulD := (op_mulI.d.or (op_mulS.d.or (op_mulL.d mulL_lk))).sub fun d e z h => by
  unfold mulD at h
  split at h
  · exact orF_l h
  · exact orF_r rfl (orF_l h)
  · exact orF_r rfl (orF_r rfl h)
  · cases h
def fdivD : D → D → Option D
  | .int i, .int j => if (decide (0 < j) && decide (j.natAbs.log2 < 9000)) = true then some (.int (i / j)) else none
  | _, _ => none
theorem op_fdivD : OpS X (binaryOp .FloorDiv) fdivD := opS_int op_fdivW fun d e z h => by
  unfold fdivD at h
  split at h
  · split at h
    · rename_i hc
      cases h
      rw [Bool.and_eq_true] at hc
      exact ⟨_, _, rfl, rfl, ⟨of_decide_eq_true hc.1, of_decide_eq_true hc.2⟩, fun _ => rfl⟩
    · cases h
  · cases h
def modD : D → D → Option D
  | .int i, .int j => if 0 < j then some (.int (i % j)) else none
  | _, _ => none
theorem op_modD : OpS X (binaryOp .Mod) modD := opS_int op_mod fun d e z h => by
  unfold modD at h
  split at h
  · split at h
    · rename_i hc
      cases h
      exact ⟨_, _, rfl, rfl, hc, fun _ => rfl⟩
    · cases h
  · cases h
def CPowW (i j : Int) : Prop := 0 ≤ j ∧ (i.natAbs.log2 + 1) * j.toNat ≤ 100000000
theorem opr_powW : OpR X (binaryOp .Pow) (rI CPowW fun i j => .int (i ^ j.toNat)) := opI fun i j _ _ _ _ _ hc q => by
  refine PyProof.Rows.pow_int hc.1 ?_ q
  have hb : Builtin.Int.intBits i ≤ i.natAbs.log2 + 1 := PyProof.Rows.intBits_le (Nat.lt_log2_self)
  have h1 : Builtin.Int.intBits i * j.toNat ≤ 100000000 := Nat.le_trans (Nat.mul_le_mul_right _ hb) hc.2
  have h2 : (Builtin.Int.intBits i : Int) * j = ((Builtin.Int.intBits i * j.toNat : Nat) : Int) := by
    rw [Int.natCast_mul, Int.toNat_of_nonneg hc.1]
  exact Int.le_trans (cast_le h1 h2) (by decide)
def powD : D → D → Option D
  | .int i, .int j => if (decide (0 ≤ j) && decide ((i.natAbs.log2 + 1) * j.toNat ≤ 100000000)) = true then some (.int (i ^ j.toNat)) else none
  | _, _ => none
theorem op_powD : OpS X (binaryOp .Pow) powD := opS_int opr_powW fun d e z h => by
  unfold powD at h
  split at h
  · split at h
    · rename_i hc
      cases h
      rw [Bool.and_eq_true] at hc
      exact ⟨_, _, rfl, rfl, ⟨of_decide_eq_true hc.1, of_decide_eq_true hc.2⟩, fun _ => rfl⟩
    · cases h
  · cases h

/-! ### comparisons -/
def intCmp (p : Int → Int → Bool) : D → D → Option D
  | .int i, .int j => some (.bl (p i j))
  | _, _ => none
theorem opS_cmp {o : Value → Value → Sem Value} {p : Int → Int → Bool} (h : OpR X o (rI0 fun i j => .bl (p i j))) : OpS X o (intCmp p) := opS_int0 h fun d e z h => by
  unfold intCmp at h
  split at h
  · cases h; exact ⟨_, _, rfl, rfl, fun _ => rfl⟩
  · cases h
def strCmp (p : List Nat → List Nat → Bool) : D → D → Option D
  | .str i, .str j => some (.bl (p i j))
  | _, _ => none
theorem opS_scmp {o : Value → Value → Sem Value} {p : List Nat → List Nat → Bool} (h : OpR X o (fun x y H Q => ∃ i j, x = .str i ∧ y = .str j ∧ Q (.bl (p i.cps.toList j.cps.toList)) H)) : OpS X o (strCmp p) := ⟨_, h, fun B H x y d e z Q ex rx ry ez k => by
  unfold strCmp at ez
  split at ez
  · cases ez; exact ⟨_, _, rx, ry, k _ fun _ => rfl⟩
  · cases ez⟩
def ltD : D → D → Option D
  | .int i, .int j => some (.bl (decide (i < j)))
  | .str i, .str j => some (.bl (decide (i < j)))
  | _, _ => none
def leD : D → D → Option D
  | .int i, .int j => some (.bl (decide (i ≤ j)))
  | .str i, .str j => some (.bl (decide (i ≤ j)))
  | _, _ => none
def gtD : D → D → Option D
  | .int i, .int j => some (.bl (decide (j < i)))
  | .str i, .str j => some (.bl (decide (j < i)))
  | _, _ => none
def geD : D → D → Option D
  | .int i, .int j => some (.bl (decide (j ≤ i)))
  | .str i, .str j => some (.bl (decide (j ≤ i)))
  | _, _ => none
theorem or2 {f g h : D → D → Option D} (hi : ∀ d e z, h d e = some z → f d e = some z ∨ (f d e = none ∧ g d e = some z)) : ∀ d e z, h d e = some z → orF f g d e = some z := fun d e z q => by
  unfold orF
  rcases hi d e z q with q | ⟨q1, q2⟩
  · rw [q]
  · rw [q1]; exact q2
end
end Dv
/-! Comparisons, items, slices, built-in functions and methods on data. -/
namespace Dv
open PySem PySem.Spec PyProof.Rows L2 Evl

section
variable {X : Cx}
theorem op_ltD : OpS X (compareOp .Lt) ltD := ((opS_cmp (p := fun i j => decide (i < j)) op_lt).or (opS_scmp (p := fun i j => decide (i < j)) op_lt_str)).sub fun d e z h => by
  unfold ltD at h
  split at h
  · exact orF_l h
  · exact orF_r rfl h
  · cases h
theorem le_not {a b : List Nat} : decide (a ≤ b) = !decide (b < a) := by
  by_cases h : b < a
  · rw [decide_eq_true h, decide_eq_false (List.not_le.mpr h)]; rfl
  · rw [decide_eq_false h, decide_eq_true (List.not_lt.mp h)]; rfl
theorem op_leD : OpS X (compareOp .LtE) leD := ((opS_cmp (p := fun i j => decide (i ≤ j)) op_le).or (opS_scmp (p := fun i j => !decide (j < i)) op_le_str)).sub fun d e z h => by
  unfold leD at h
  split at h
  · exact orF_l h
  · rw [le_not] at h; exact orF_r rfl h
  · cases h
theorem op_gtD : OpS X (compareOp .Gt) gtD := ((opS_cmp (p := fun i j => decide (j < i)) op_gt).or (opS_scmp (p := fun i j => decide (j < i)) op_gt_str)).sub fun d e z h => by
  unfold gtD at h
  split at h
  · exact orF_l h
  · exact orF_r rfl h
  · cases h
theorem op_geD : OpS X (compareOp .GtE) geD := ((opS_cmp (p := fun i j => decide (j ≤ i)) op_ge).or (opS_scmp (p := fun i j => !decide (i < j)) op_ge_str)).sub fun d e z h => by
  unfold geD at h
  split at h
  · exact orF_l h
  · rw [le_not] at h; exact orF_r rfl h
  · cases h

/-! ### == -/
mutual
def py : D → PyData
  | .non => .none
  | .bl b => .bool b
  | .int i => .int i
  | .str s => .str (mkS s)
  | .ty _ => .none
  | .dct _ _ => .none
  | .dtt _ _ => .none
  | .obj _ _ _ => .none
  | .cls _ => .none
  | .lst ds => .list (pys ds)
  | .fls ds => .list (pys ds)
  | .tup ds => .tuple (pys ds)
def pys : List D → List PyData
  | [] => []
  | d :: ds => py d :: pys ds
end
mutual
/-- == on data -/
def eqB : D → D → Bool
  | .non, .non => true
  | .bl a, .bl b => a == b
  | .bl a, .int j => (if a then 1 else 0) == j
  | .int i, .bl b => i == (if b then 1 else 0)
  | .int i, .int j => decide (i = j)
  | .str x, .str y => decide (x = y)
  | .lst xs, .lst ys => eqBs xs ys
  | .lst xs, .fls ys => eqBs xs ys
  | .fls xs, .lst ys => eqBs xs ys
  | .fls xs, .fls ys => eqBs xs ys
  | .tup xs, .tup ys => eqBs xs ys
  | _, _ => false
def eqBs : List D → List D → Bool
  | [], [] => true
  | x :: xs, y :: ys => eqB x y && eqBs xs ys
  | _, _ => false
end
mutual
/-- may be compared -/
def okD : D → Bool
  | .non => true
  | .bl _ => true
  | .int _ => true
  | .str s => s.all (· < 0x110000)
  | .ty _ => false
  | .dct _ _ => false
  | .dtt _ _ => false
  | .obj _ _ _ => false
  | .cls _ => false
  | .lst ds => okDs ds
  | .fls ds => okDs ds
  | .tup ds => okDs ds
def okDs : List D → Bool
  | [] => true
  | d :: ds => okD d && okDs ds
end
mutual
def dep : D → Nat
  | .lst ds => deps ds + 1
  | .fls ds => deps ds + 1
  | .tup ds => deps ds + 1
  | .non => 1
  | .bl _ => 1
  | .int _ => 1
  | .str _ => 1
  | .ty _ => 1
  | .dct _ _ => 1
  | .dtt _ _ => 1
  | .obj _ _ _ => 1
  | .cls _ => 1
def deps : List D → Nat
  | [] => 0
  | d :: ds => max (dep d) (deps ds)
end
mutual
theorem eqv_py : ∀ (d e : D), okD d = true → okD e = true → PyData.eqv (py d) (py e) = eqB d e
  | .non, .non, _, _ => by simp only [py, PyData.eqv, eqB]
  | .non, .bl _, _, _ => by simp only [py, PyData.eqv, eqB]
  | .non, .int _, _, _ => by simp only [py, PyData.eqv, eqB]
  | .non, .str _, _, _ => by simp only [py, PyData.eqv, eqB]
  | .non, .lst _, _, _ => by simp only [py, PyData.eqv, eqB]
  | .non, .fls _, _, _ => by simp only [py, PyData.eqv, eqB]
  | .non, .tup _, _, _ => by simp only [py, PyData.eqv, eqB]
  | .bl _, .non, _, _ => by simp only [py, PyData.eqv, eqB]
  | .bl _, .bl _, _, _ => by simp only [py, PyData.eqv, eqB]
  | .bl _, .int _, _, _ => by simp only [py, PyData.eqv, eqB]
  | .bl _, .str _, _, _ => by simp only [py, PyData.eqv, eqB]
  | .bl _, .lst _, _, _ => by simp only [py, PyData.eqv, eqB]
  | .bl _, .fls _, _, _ => by simp only [py, PyData.eqv, eqB]
  | .bl _, .tup _, _, _ => by simp only [py, PyData.eqv, eqB]
  | .int _, .non, _, _ => by simp only [py, PyData.eqv, eqB]
  | .int _, .bl _, _, _ => by simp only [py, PyData.eqv, eqB]
  | .int i, .int j, _, _ => by
    simp only [py, PyData.eqv, eqB]
    by_cases h : i = j
    · subst h; simp
    · rw [decide_eq_false h]; exact beq_eq_false_iff_ne.mpr h
  | .int _, .str _, _, _ => by simp only [py, PyData.eqv, eqB]
  | .int _, .lst _, _, _ => by simp only [py, PyData.eqv, eqB]
  | .int _, .fls _, _, _ => by simp only [py, PyData.eqv, eqB]
  | .int _, .tup _, _, _ => by simp only [py, PyData.eqv, eqB]
  | .str _, .non, _, _ => by simp only [py, PyData.eqv, eqB]
  | .str _, .bl _, _, _ => by simp only [py, PyData.eqv, eqB]
  | .str _, .int _, _, _ => by simp only [py, PyData.eqv, eqB]
  | .str x, .str y, _, _ => by
    simp only [py, PyData.eqv, eqB]
    by_cases h : x = y
    · subst h; simp
    · rw [decide_eq_false h]; exact beq_eq_false_iff_ne.mpr fun z => h (mkS_inj z)
  | .str _, .lst _, _, _ => by simp only [py, PyData.eqv, eqB]
  | .str _, .fls _, _, _ => by simp only [py, PyData.eqv, eqB]
  | .str _, .tup _, _, _ => by simp only [py, PyData.eqv, eqB]
  | .lst _, .non, _, _ => by simp only [py, PyData.eqv, eqB]
  | .lst _, .bl _, _, _ => by simp only [py, PyData.eqv, eqB]
  | .lst _, .int _, _, _ => by simp only [py, PyData.eqv, eqB]
  | .lst _, .str _, _, _ => by simp only [py, PyData.eqv, eqB]
  | .lst xs, .lst ys, h, q => by simp only [py, PyData.eqv, eqB]; exact eqv_pys xs ys h q
  | .lst xs, .fls ys, h, q => by simp only [py, PyData.eqv, eqB]; exact eqv_pys xs ys h q
  | .lst _, .tup _, _, _ => by simp only [py, PyData.eqv, eqB]
  | .fls _, .non, _, _ => by simp only [py, PyData.eqv, eqB]
  | .fls _, .bl _, _, _ => by simp only [py, PyData.eqv, eqB]
  | .fls _, .int _, _, _ => by simp only [py, PyData.eqv, eqB]
  | .fls _, .str _, _, _ => by simp only [py, PyData.eqv, eqB]
  | .fls xs, .lst ys, h, q => by simp only [py, PyData.eqv, eqB]; exact eqv_pys xs ys h q
  | .fls xs, .fls ys, h, q => by simp only [py, PyData.eqv, eqB]; exact eqv_pys xs ys h q
  | .fls _, .tup _, _, _ => by simp only [py, PyData.eqv, eqB]
  | .tup _, .non, _, _ => by simp only [py, PyData.eqv, eqB]
  | .tup _, .bl _, _, _ => by simp only [py, PyData.eqv, eqB]
  | .tup _, .int _, _, _ => by simp only [py, PyData.eqv, eqB]
  | .tup _, .str _, _, _ => by simp only [py, PyData.eqv, eqB]
  | .tup _, .lst _, _, _ => by simp only [py, PyData.eqv, eqB]
  | .tup _, .fls _, _, _ => by simp only [py, PyData.eqv, eqB]
  | .tup xs, .tup ys, h, q => by simp only [py, PyData.eqv, eqB]; exact eqv_pys xs ys h q
  | .ty _, _, h, _ => by simp only [okD] at h; cases h
  | .dct _ _, _, h, _ => by simp only [okD] at h; cases h
  | .dtt _ _, _, h, _ => by simp only [okD] at h; cases h
  | .obj _ _ _, _, h, _ => by simp only [okD] at h; cases h
  | .cls _, _, h, _ => by simp only [okD] at h; cases h
  | .non, .ty _, _, h => by simp only [okD] at h; cases h
  | .non, .dct _ _, _, h => by simp only [okD] at h; cases h
  | .non, .dtt _ _, _, h => by simp only [okD] at h; cases h
  | .non, .obj _ _ _, _, h => by simp only [okD] at h; cases h
  | .non, .cls _, _, h => by simp only [okD] at h; cases h
  | .bl _, .ty _, _, h => by simp only [okD] at h; cases h
  | .bl _, .dct _ _, _, h => by simp only [okD] at h; cases h
  | .bl _, .dtt _ _, _, h => by simp only [okD] at h; cases h
  | .bl _, .obj _ _ _, _, h => by simp only [okD] at h; cases h
  | .bl _, .cls _, _, h => by simp only [okD] at h; cases h
  | .int _, .ty _, _, h => by simp only [okD] at h; cases h
  | .int _, .dct _ _, _, h => by simp only [okD] at h; cases h
  | .int _, .dtt _ _, _, h => by simp only [okD] at h; cases h
  | .int _, .obj _ _ _, _, h => by simp only [okD] at h; cases h
  | .int _, .cls _, _, h => by simp only [okD] at h; cases h
  | .str _, .ty _, _, h => by simp only [okD] at h; cases h
  | .str _, .dct _ _, _, h => by simp only [okD] at h; cases h
  | .str _, .dtt _ _, _, h => by simp only [okD] at h; cases h
  | .str _, .obj _ _ _, _, h => by simp only [okD] at h; cases h
  | .str _, .cls _, _, h => by simp only [okD] at h; cases h
  | .lst _, .ty _, _, h => by simp only [okD] at h; cases h
  | .lst _, .dct _ _, _, h => by simp only [okD] at h; cases h
  | .lst _, .dtt _ _, _, h => by simp only [okD] at h; cases h
  | .lst _, .obj _ _ _, _, h => by simp only [okD] at h; cases h
  | .lst _, .cls _, _, h => by simp only [okD] at h; cases h
  | .fls _, .ty _, _, h => by simp only [okD] at h; cases h
  | .fls _, .dct _ _, _, h => by simp only [okD] at h; cases h
  | .fls _, .dtt _ _, _, h => by simp only [okD] at h; cases h
  | .fls _, .obj _ _ _, _, h => by simp only [okD] at h; cases h
  | .fls _, .cls _, _, h => by simp only [okD] at h; cases h
  | .tup _, .ty _, _, h => by simp only [okD] at h; cases h
  | .tup _, .dct _ _, _, h => by simp only [okD] at h; cases h
  | .tup _, .dtt _ _, _, h => by simp only [okD] at h; cases h
  | .tup _, .obj _ _ _, _, h => by simp only [okD] at h; cases h
  | .tup _, .cls _, _, h => by simp only [okD] at h; cases h
theorem eqv_pys : ∀ (ds es : List D), okDs ds = true → okDs es = true → PyData.eqvAll (pys ds) (pys es) = eqBs ds es
  | [], [], _, _ => by simp only [pys, PyData.eqvAll, eqBs]
  | [], _ :: _, _, _ => by simp only [pys, PyData.eqvAll, eqBs]
  | _ :: _, [], _, _ => by simp only [pys, PyData.eqvAll, eqBs]
  | d :: ds, e :: es, h, q => by
    simp only [okDs, Bool.and_eq_true] at h q
    simp only [pys, PyData.eqvAll, eqBs]
    rw [eqv_py d e h.1 q.1, eqv_pys ds es h.2 q.2]
end
mutual
theorem lay_py : ∀ (d : D), okD d = true → (py d).canLay0 = true ∧ (py d).depth ≤ dep d
  | .non, _ => by simp [py, PyData.canLay0, PyData.depth, dep]
  | .bl _, _ => by simp [py, PyData.canLay0, PyData.depth, dep]
  | .int _, _ => by simp [py, PyData.canLay0, PyData.depth, dep]
  | .str s, h => by
    simp only [okD] at h
    refine ⟨?_, by simp [py, PyData.depth, dep]⟩
    simp only [py, PyData.canLay0]
    show (mkS s).cps.all (· < 0x110000) = true
    simp only [mkS, List.all_toArray]
    exact h
  | .ty _, h => by simp only [okD] at h; cases h
  | .dct _ _, h => by simp only [okD] at h; cases h
  | .dtt _ _, h => by simp only [okD] at h; cases h
  | .obj _ _ _, h => by simp only [okD] at h; cases h
  | .cls _, h => by simp only [okD] at h; cases h
  | .lst ds, h => by
    have := lay_pys ds (by simpa only [okD] using h)
    simp only [py, PyData.canLay0, PyData.depth, dep]
    exact ⟨this.1, by omega⟩
  | .fls ds, h => by
    have := lay_pys ds (by simpa only [okD] using h)
    simp only [py, PyData.canLay0, PyData.depth, dep]
    exact ⟨this.1, by omega⟩
  | .tup ds, h => by
    have := lay_pys ds (by simpa only [okD] using h)
    simp only [py, PyData.canLay0, PyData.depth, dep]
    exact ⟨this.1, by omega⟩
theorem lay_pys : ∀ (ds : List D), okDs ds = true → PyData.canLayAll0 (pys ds) = true ∧ PyData.depthAll (pys ds) ≤ deps ds
  | [], _ => by simp [pys, PyData.canLayAll0, PyData.depthAll, deps]
  | d :: ds, h => by
    simp only [okDs, Bool.and_eq_true] at h
    have h1 := lay_py d h.1
    have h2 := lay_pys ds h.2
    simp only [pys, PyData.canLayAll0, PyData.depthAll, deps, Bool.and_eq_true]
    exact ⟨⟨h1.1, h2.1⟩, by omega⟩
end
mutual
theorem dp_of {K : PySem.W.Frag} {B H : Hp} (ex : Ex B H) : ∀ (d : D) (v : V), okD d = true → Rep K B d v → Dp K H v (py d)
  | .non, _, _, h => by rw [show _ = V.non from h]; exact .non
  | .bl _, _, _, h => by rw [show _ = V.bl _ from h]; exact .bl _
  | .int _, _, _, h => by rw [show _ = V.int _ from h]; exact .int _
  | .str _, _, _, h => by rw [show _ = V.str _ from h]; exact .str _
  | .ty _, _, h, _ => by simp only [okD] at h; cases h
  | .dct _ _, _, h, _ => by simp only [okD] at h; cases h
  | .dtt _ _, _, h, _ => by simp only [okD] at h; cases h
  | .obj _ _ _, _, h, _ => by simp only [okD] at h; cases h
  | .cls _, _, h, _ => by simp only [okD] at h; cases h
  | .lst ds, _, h, r => by
    obtain ⟨a, vs, rfl, h1, h2⟩ := r
    exact .lst (SqL.of (ex _ _ h1)) (dps_of ex ds vs (by simpa only [okD] using h) h2)
  | .fls ds, _, h, r => by
    obtain ⟨a, vs, rfl, h1, h2⟩ := r
    exact .lst (ex_l ex h1) (dps_of ex ds vs (by simpa only [okD] using h) h2)
  | .tup ds, _, h, r => by
    obtain ⟨a, vs, rfl, h1, h2⟩ := r
    exact .tup (ex_t ex h1) (dps_of ex ds vs (by simpa only [okD] using h) h2)
theorem dps_of {K : PySem.W.Frag} {B H : Hp} (ex : Ex B H) : ∀ (ds : List D) (vs : List V), okDs ds = true → Reps K B ds vs → DpAll K H vs (pys ds)
  | [], _, _, h => by rw [show _ = ([] : List V) from h]; exact .nil
  | d :: ds, _, h, r => by
    simp only [okDs, Bool.and_eq_true] at h
    obtain ⟨v, t, rfl, r1, r2⟩ := r
    exact .cons (dp_of ex d v h.1 r1) (dps_of ex ds t h.2 r2)
end
@[irreducible] def shp (d : D) : Bool := okD d && decide (dep d ≤ 64)
theorem shp_ok {d : D} (h : shp d = true) : okD d = true ∧ SeqAt.shaped (py d) = true := by
  unfold shp at h
  rw [Bool.and_eq_true] at h
  have h1 := lay_py d h.1
  refine ⟨h.1, ?_⟩
  unfold SeqAt.shaped
  rw [h1.1, decide_eq_true (Nat.le_trans h1.2 (of_decide_eq_true h.2))]
  rfl
def eqG (d e : D) : Option D := if (shp d && shp e) = true then some (.bl (eqB d e)) else none
def neG (d e : D) : Option D := if (shp d && shp e) = true then some (.bl (!eqB d e)) else none
theorem op_eqG {k : Nat} (hr : Room k X.A) : OpS X (compareOp .Eq) eqG := ⟨_, op_eqD (by have := hr.un; omega), fun B H x y d e z Q ex rx ry ez k => by
  unfold eqG at ez
  split at ez
  · rename_i hs
    cases ez
    rw [Bool.and_eq_true] at hs
    obtain ⟨a1, a2⟩ := shp_ok hs.1
    obtain ⟨b1, b2⟩ := shp_ok hs.2
    refine ⟨_, _, dp_of ex d x a1 rx, dp_of ex e y b1 ry, a2, b2, ?_⟩
    rw [eqv_py d e a1 b1]
    exact k _ fun _ => rfl
  · cases ez⟩
theorem op_neG {k : Nat} (hr : Room k X.A) : OpS X (compareOp .NotEq) neG := ⟨_, op_neD (by have := hr.un; omega), fun B H x y d e z Q ex rx ry ez k => by
  unfold neG at ez
  split at ez
  · rename_i hs
    cases ez
    rw [Bool.and_eq_true] at hs
    obtain ⟨a1, a2⟩ := shp_ok hs.1
    obtain ⟨b1, b2⟩ := shp_ok hs.2
    refine ⟨_, _, dp_of ex d x a1 rx, dp_of ex e y b1 ry, a2, b2, ?_⟩
    rw [eqv_py d e a1 b1]
    exact k _ fun _ => rfl
  · cases ez⟩
def eqT : D → D → Option D
  | .str a, .str b => some (.bl (decide (a = b)))
  | _, _ => none
def neT : D → D → Option D
  | .str a, .str b => some (.bl (!decide (a = b)))
  | _, _ => none
theorem str_iff {a b : List Nat} : decide (V.str (mkS a) = V.str (mkS b)) = decide (a = b) := by
  by_cases h : a = b
  · subst h; simp
  · rw [decide_eq_false h]
    exact decide_eq_false fun z => h (mkS_inj (V.str.inj z))
theorem op_eqT : OpS X (compareOp .Eq) eqT := ⟨_, op_eq, fun B H x y d e z Q ex rx ry ez k => by
  unfold eqT at ez
  split at ez
  · cases ez
    rw [show x = _ from rx, show y = _ from ry]
    refine ⟨rfl, ?_⟩
    rw [str_iff]
    exact k _ fun _ => rfl
  · cases ez⟩
theorem op_neT : OpS X (compareOp .NotEq) neT := ⟨_, op_ne, fun B H x y d e z Q ex rx ry ez k => by
  unfold neT at ez
  split at ez
  · cases ez
    rw [show x = _ from rx, show y = _ from ry]
    refine ⟨rfl, ?_⟩
    rw [str_iff]
    exact k _ fun _ => rfl
  · cases ez⟩
def eqD : D → D → Option D
  | .int i, .int j => some (.bl (decide (i = j)))
  | .str a, .str b => some (.bl (decide (a = b)))
  | d, e => eqG d e
def neD : D → D → Option D
  | .int i, .int j => some (.bl (!decide (i = j)))
  | .str a, .str b => some (.bl (!decide (a = b)))
  | d, e => neG d e
theorem shp_int (i : Int) : shp (.int i) = true := by unfold shp; rfl
theorem eqG_int (i j : Int) : eqG (.int i) (.int j) = some (.bl (decide (i = j))) := by
  unfold eqG
  rw [shp_int, shp_int]
  unfold eqB
  rfl
theorem neG_int (i j : Int) : neG (.int i) (.int j) = some (.bl (!decide (i = j))) := by
  unfold neG
  rw [shp_int, shp_int]
  unfold eqB
  rfl
theorem op_eqq {k : Nat} (hr : Room k X.A) : OpS X (compareOp .Eq) eqD := (op_eqT.or (op_eqG hr)).sub fun d e z h => by
  unfold eqD at h
  split at h
  · exact orF_r rfl ((eqG_int _ _).trans h)
  · exact orF_l h
  · by_cases c : ∃ a b, d = .str a ∧ e = .str b
    · obtain ⟨a, b, rfl, rfl⟩ := c
      rename_i h2
      exact absurd rfl (fun z => h2 a b rfl z)
    · refine orF_r ?_ h
      unfold eqT
      split
      · exact absurd ⟨_, _, rfl, rfl⟩ c
      · rfl
theorem op_neq {k : Nat} (hr : Room k X.A) : OpS X (compareOp .NotEq) neD := (op_neT.or (op_neG hr)).sub fun d e z h => by
  unfold neD at h
  split at h
  · exact orF_r rfl ((neG_int _ _).trans h)
  · exact orF_l h
  · by_cases c : ∃ a b, d = .str a ∧ e = .str b
    · obtain ⟨a, b, rfl, rfl⟩ := c
      rename_i h2
      exact absurd rfl (fun z => h2 a b rfl z)
    · refine orF_r ?_ h
      unfold neT
      split
      · exact absurd ⟨_, _, rfl, rfl⟩ c
      · rfl

/-! ### in, is -/
def inS : D → D → Option D
  | .str [c], .str s => some (.bl (decide (c ∈ s)))
  | _, _ => none
def notInS : D → D → Option D
  | .str [c], .str s => some (.bl (!decide (c ∈ s)))
  | _, _ => none
theorem op_inS : OpS X (compareOp .In) inS := ⟨_, op_in_sign, fun B H x y d e z Q ex rx ry ez k => by
  unfold inS at ez
  split at ez
  · cases ez; exact ⟨_, _, rx, ry, k _ fun _ => rfl⟩
  · cases ez⟩
theorem op_notInS : OpS X (compareOp .NotIn) notInS := ⟨_, op_notIn_sign, fun B H x y d e z Q ex rx ry ez k => by
  unfold notInS at ez
  split at ez
  · cases ez; exact ⟨_, _, rx, ry, k _ fun _ => rfl⟩
  · cases ez⟩
def flatD : D → Bool
  | .non => true
  | .bl _ => true
  | .int _ => true
  | .str _ => true
  | _ => false
theorem flat_rep {K : PySem.W.Frag} {B : Hp} {d : D} {v : V} (h : flatD d = true) (r : Rep K B d v) : flatV v = true := by
  cases d with
  | non => rw [show v = _ from r]; rfl
  | bl _ => rw [show v = _ from r]; rfl
  | int _ => rw [show v = _ from r]; rfl
  | str _ => rw [show v = _ from r]; rfl
  | _ => cases h
theorem eqV_rep {K : PySem.W.Frag} {B : Hp} {d e : D} {v u : V} (h : flatD d = true) (h' : flatD e = true) (r : Rep K B d v) (r' : Rep K B e u) : eqV v u = eqB d e := by
  have ii : ∀ i j : Int, (i == j) = decide (i = j) := fun i j => by
    by_cases h : i = j
    · subst h; simp
    · rw [decide_eq_false h]; exact beq_eq_false_iff_ne.mpr h
  have ss : ∀ a b : List Nat, (mkS a == mkS b) = decide (a = b) := fun a b => by
    by_cases h : a = b
    · subst h; simp
    · rw [decide_eq_false h]; exact beq_eq_false_iff_ne.mpr fun z => h (mkS_inj z)
  cases d with
  | non => rw [show v = _ from r]; cases e with
    | non => rw [show u = _ from r']; simp only [eqV, eqB]
    | bl _ => rw [show u = _ from r']; simp only [eqV, eqB]
    | int _ => rw [show u = _ from r']; simp only [eqV, eqB]
    | str _ => rw [show u = _ from r']; simp only [eqV, eqB]
    | _ => cases h'
  | bl _ => rw [show v = _ from r]; cases e with
    | non => rw [show u = _ from r']; simp only [eqV, eqB]
    | bl _ => rw [show u = _ from r']; simp only [eqV, eqB]
    | int _ => rw [show u = _ from r']; simp only [eqV, eqB]
    | str _ => rw [show u = _ from r']; simp only [eqV, eqB]
    | _ => cases h'
  | int _ => rw [show v = _ from r]; cases e with
    | non => rw [show u = _ from r']; simp only [eqV, eqB]
    | bl _ => rw [show u = _ from r']; simp only [eqV, eqB]
    | int _ => rw [show u = _ from r']; simp only [eqV, eqB]; exact ii _ _
    | str _ => rw [show u = _ from r']; simp only [eqV, eqB]
    | _ => cases h'
  | str _ => rw [show v = _ from r]; cases e with
    | non => rw [show u = _ from r']; simp only [eqV, eqB]
    | bl _ => rw [show u = _ from r']; simp only [eqV, eqB]
    | int _ => rw [show u = _ from r']; simp only [eqV, eqB]
    | str _ => rw [show u = _ from r']; simp only [eqV, eqB]; exact ss _ _
    | _ => cases h'
  | _ => cases h
def anyEq (x : D) (ys : List D) : Bool := ys.any fun y => eqB y x
theorem inV_reps {K : PySem.W.Frag} {B : Hp} {x : D} {v : V} (hx : flatD x = true) (rx : Rep K B x v) : ∀ {ys : List D} {vs : List V}, ys.all flatD = true → Reps K B ys vs → inV v vs = anyEq x ys ∧ vs.all flatV = true
  | [], vs, _, h => by rw [show vs = [] from h]; exact ⟨rfl, rfl⟩
  | y :: ys, _, hf, h => by
    obtain ⟨u, t, rfl, r1, r2⟩ := h
    rw [List.all_cons, Bool.and_eq_true] at hf
    obtain ⟨a, b⟩ := inV_reps hx rx hf.2 r2
    refine ⟨?_, ?_⟩
    · show (eqV u v || inV v t) = (eqB y x || anyEq x ys)
      rw [a, eqV_rep hf.1 hx r1 rx]
    · rw [List.all_cons, flat_rep hf.1 r1, b]; rfl
def seqOf : D → Option (List D)
  | .lst ds => some ds
  | .fls ds => some ds
  | .tup ds => some ds
  | _ => none
theorem seq_rep {K : PySem.W.Frag} {B : Hp} {d : D} {v : V} {ds : List D} (h : seqOf d = some ds) (r : Rep K B d v) : ∃ a vs, v = .ref a ∧ (SqL K B a vs ∨ SqT K B a vs) ∧ Reps K B ds vs := by
  cases d with
  | lst _ => cases h; obtain ⟨a, vs, e, h1, h2⟩ := r; exact ⟨a, vs, e, .inl (SqL.of h1), h2⟩
  | fls _ => cases h; obtain ⟨a, vs, e, h1, h2⟩ := r; exact ⟨a, vs, e, .inl h1, h2⟩
  | tup _ => cases h; obtain ⟨a, vs, e, h1, h2⟩ := r; exact ⟨a, vs, e, .inr h1, h2⟩
  | _ => cases h
theorem ex_lt {K : PySem.W.Frag} {B H : Hp} {a : Addr} {vs : List V} (ex : Ex B H) : SqL K B a vs ∨ SqT K B a vs → SqL K H a vs ∨ SqT K H a vs := fun h => h.imp (ex_l ex) (ex_t ex)
def inQ (x y : D) : Option D := match seqOf y with
  | some ys => if (flatD x && ys.all flatD) = true then some (.bl (anyEq x ys)) else none
  | none => none
def notInQ (x y : D) : Option D := match seqOf y with
  | some ys => if (flatD x && ys.all flatD) = true then some (.bl (!anyEq x ys)) else none
  | none => none
theorem op_inQ : OpS X (compareOp .In) inQ := ⟨_, op_in_seq, fun B H x y d e z Q ex rx ry ez k => by
  unfold inQ at ez
  split at ez
  · rename_i ys hs
    split at ez
    · rename_i hf
      cases ez
      rw [Bool.and_eq_true] at hf
      obtain ⟨a, vs, rfl, h1, h2⟩ := seq_rep hs ry
      obtain ⟨q1, q2⟩ := inV_reps hf.1 rx hf.2 h2
      refine ⟨a, vs, rfl, ex_lt ex h1, flat_rep hf.1 rx, q2, ?_⟩
      rw [if_neg Bool.false_ne_true, q1]
      exact k _ fun _ => rfl
    · cases ez
  · cases ez⟩
theorem op_notInQ : OpS X (compareOp .NotIn) notInQ := ⟨_, op_notIn_seq, fun B H x y d e z Q ex rx ry ez k => by
  unfold notInQ at ez
  split at ez
  · rename_i ys hs
    split at ez
    · rename_i hf
      cases ez
      rw [Bool.and_eq_true] at hf
      obtain ⟨a, vs, rfl, h1, h2⟩ := seq_rep hs ry
      obtain ⟨q1, q2⟩ := inV_reps hf.1 rx hf.2 h2
      refine ⟨a, vs, rfl, ex_lt ex h1, flat_rep hf.1 rx, q2, ?_⟩
      rw [if_pos rfl, q1]
      exact k _ fun _ => rfl
    · cases ez
  · cases ez⟩
theorem op_inD : OpS X (compareOp .In) (orF inS inQ) := op_inS.or op_inQ
theorem op_notInD : OpS X (compareOp .NotIn) (orF notInS notInQ) := op_notInS.or op_notInQ
def isNon : D → Bool
  | .non => true
  | _ => false
theorem isNon_rep {K : PySem.W.Frag} {B : Hp} {d : D} {v : V} (r : Rep K B d v) : decide (v = V.non) = isNon d := by
  cases d with
  | non => rw [show v = _ from r]; rfl
  | bl _ => rw [show v = _ from r]; rfl
  | int _ => rw [show v = _ from r]; rfl
  | str _ => rw [show v = _ from r]; rfl
  | ty _ => rw [show v = _ from r]; rfl
  | dct _ _ => obtain ⟨a, _, _, rfl, _⟩ := r; rfl
  | dtt _ _ => obtain ⟨a, _, _, rfl, _⟩ := r; rfl
  | obj _ _ _ => obtain ⟨a, _, _, _, rfl, _⟩ := r; rfl
  | cls _ => obtain ⟨a, rfl, _⟩ := r; rfl
  | lst _ => obtain ⟨a, vs, rfl, _⟩ := r; rfl
  | fls _ => obtain ⟨a, vs, rfl, _⟩ := r; rfl
  | tup _ => obtain ⟨a, vs, rfl, _⟩ := r; rfl
def isN : D → D → Option D
  | d, .non => some (.bl (isNon d))
  | _, _ => none
def isntN : D → D → Option D
  | d, .non => some (.bl (!isNon d))
  | _, _ => none
theorem op_isNq : OpS X (compareOp .Is) isN := ⟨_, op_isN, fun B H x y d e z Q ex rx ry ez k => by
  unfold isN at ez
  split at ez
  · cases ez
    refine ⟨ry, ?_⟩
    rw [isNon_rep rx]
    exact k _ fun _ => rfl
  · cases ez⟩
theorem op_isntNq : OpS X (compareOp .IsNot) isntN := ⟨_, op_notN, fun B H x y d e z Q ex rx ry ez k => by
  unfold isntN at ez
  split at ez
  · cases ez
    refine ⟨ry, ?_⟩
    rw [isNon_rep rx]
    exact k _ fun _ => rfl
  · cases ez⟩
def isBq : D → D → Option D
  | .bl a, .bl b => some (.bl (decide (a = b)))
  | _, _ => none
def isntBq : D → D → Option D
  | .bl a, .bl b => some (.bl (!decide (a = b)))
  | _, _ => none
theorem op_isBq : OpS X (compareOp .Is) isBq := ⟨_, op_isBl, fun B H x y d e z Q ex rx ry ez k => by
  unfold isBq at ez
  split at ez
  · cases ez; exact ⟨_, _, rx, ry, k _ fun _ => rfl⟩
  · cases ez⟩
theorem op_isntBq : OpS X (compareOp .IsNot) isntBq := ⟨_, op_notBl, fun B H x y d e z Q ex rx ry ez k => by
  unfold isntBq at ez
  split at ez
  · cases ez; exact ⟨_, _, rx, ry, k _ fun _ => rfl⟩
  · cases ez⟩
theorem op_isD : OpS X (compareOp .Is) (orF isN isBq) := op_isNq.or op_isBq
theorem op_isntD : OpS X (compareOp .IsNot) (orF isntN isntBq) := op_isntNq.or op_isntBq
/-- a < b <= c, as a test; as a value -/
def eChn (f g : D → D → Option D) (a b c : M D) : M D := bnd a fun x => bnd b fun y => bnd (lft (f x y)) fun z => match z with
  | .bl true => bnd c fun w => lft (g y w)
  | .bl false => ret (.bl false)
  | _ => stuck
theorem chn_red {f g : D → D → Option D} {ma mb mc : M D} {r r' : R2}
    (h : ∀ (B H : Hp) (x y : V) (d e z : D) (Q : VK), Ex B H → Rep X.K B d x → Rep X.K B e y → f d e = some z → (∀ v, (∀ B, Rep X.K B z v) → Q v H) → r x y H Q)
    (h' : ∀ (B H : Hp) (x y : V) (d e z : D) (Q : VK), Ex B H → Rep X.K B d x → Rep X.K B e y → g d e = some z → (∀ v, (∀ B, Rep X.K B z v) → Q v H) → r' x y H Q) {σ : L2.St} {H : Hp} {Q : VK} (q : tD X.K (eChn f g ma mb mc) σ H Q) : tChain r r' (tD X.K ma) (tD X.K mb) (tD X.K mc) σ H Q := by
  obtain ⟨G, B, env, d, env', ok, e, k⟩ := q
  obtain ⟨x, e1, q1, e⟩ := bnd_some e
  obtain ⟨y, e2, q2, e⟩ := bnd_some e
  obtain ⟨z, e3, q3, e⟩ := bnd_some e
  obtain ⟨z', q4, q5⟩ := lft_some q3
  cases q5
  refine tD_of ok q1 fun v B1 H1 ok1 _ r1 => tD_of ok1 q2 fun u B2 H2 ok2 ok2' r2 => h B2 H2 v u x y z _ ok2.sub (Rep.mono ok2'.mono _ _ r1) r2 q4 fun w rw => ?_
  split at e
  · refine ⟨true, rw B2, ?_⟩
    rw [if_pos rfl]
    obtain ⟨w', e4, q6, q7⟩ := bnd_some e
    obtain ⟨z2, q8, q9⟩ := lft_some q7
    cases q9
    exact tD_of ok2 q6 fun t B3 H3 ok3 ok3' r3 => h' B3 H3 u t y w' d Q ok3.sub (Rep.mono ok3'.mono _ _ r2) r3 q8 fun s rs => k s B3 H3 ok3 (rs B3)
  · cases ret_some e
    refine ⟨false, rw B2, ?_⟩
    rw [if_neg Bool.false_ne_true]
    exact k _ B2 H2 ok2 rfl
  · cases e
theorem pd_chain {op op' : CmpOp} {f g : D → D → Option D} {a b c : Expr} {ma mb mc : M D} {pos : Pos} (ho : OpS X (compareOp op) f) (ho' : OpS X (compareOp op') g) (ha : PD X a ma) (hb : PD X b mb) (hc : PD X c mc) (hm : lastMarks [op, op'] [b, c] = false := by with_unfolding_all rfl) : PD X (.Compare a [op, op'] [b, c] pos) (eChn f g ma mb mc) := by
  obtain ⟨r, hr, h⟩ := ho
  obtain ⟨r', hr', h'⟩ := ho'
  exact pe_mono (pe_chain hr hr' ha hb hc hm) fun σ H Q q => chn_red h h' q
theorem pdt_chain {op op' : CmpOp} {f g : D → D → Option D} {a b c : Expr} {ma mb mc : M D} {pos : Pos} (ho : OpS X (compareOp op) f) (ho' : OpS X (compareOp op') g) (ha : PD X a ma) (hb : PD X b mb) (hc : PD X c mc) (hm : lastMarks [op, op'] [b, c] = false := by with_unfolding_all rfl) : PDT X (.Compare a [op, op'] [b, c] pos) (eTest (eChn f g ma mb mc)) := by
  obtain ⟨r, hr, h⟩ := ho
  obtain ⟨r', hr', h'⟩ := ho'
  exact pt_mono (pt_chain hr hr' ha hb hc hm) (test_red fun σ H Q q => chn_red h h' q)
/-- -a -/
def eNeg (m : M D) : M D := bnd m fun d => match d with
  | .int i => ret (.int (-i))
  | _ => stuck
theorem pd_neg {a : Expr} {m : M D} {pos : Pos} (h : PD X a m) : PD X (.UnaryOp .USub a pos) (eNeg m) :=
  pe_mono (pe_un un_neg h) fun σ H Q ⟨G, B, env, d, env', ok, e, k⟩ => by
    obtain ⟨x, e1, q1, q2⟩ := bnd_some e
    split at q2
    · cases ret_some q2
      exact tD_of ok q1 fun v B1 H1 ok1 _ r1 => ⟨_, r1, k _ B1 H1 ok1 rfl⟩
    · cases q2
end
end Dv
/-! Items, slices, built-in functions and methods on data. -/
namespace Dv
open PySem PySem.Spec PyProof.Rows L2 Evl

section
variable {X : Cx}
/-! ### tables -/
section
variable {κ α : Type} [DecidableEq κ]
theorem getK_nil (k : κ) : getK ([] : List (κ × α)) k = none := rfl
theorem getK_pos {p : κ × α} {r : List (κ × α)} {k : κ} (e : p.1 = k) : getK (p :: r) k = some p.2 := by unfold getK; rw [List.find?_cons_of_pos (by exact decide_eq_true e)]; rfl
theorem getK_neg {p : κ × α} {r : List (κ × α)} {k : κ} (e : ¬ p.1 = k) : getK (p :: r) k = getK r k := by unfold getK; rw [List.find?_cons_of_neg (by exact fun z => e (of_decide_eq_true z))]
theorem getK_has (k : κ) : ∀ m : List (κ × α), hasK m k = (getK m k).isSome
  | [] => rfl
  | p :: r => by
    unfold hasK
    rw [List.any_cons]
    by_cases e : p.1 = k
    · rw [getK_pos e, decide_eq_true e]; rfl
    · rw [getK_neg e, decide_eq_false e, Bool.false_or]; exact getK_has k r
end
theorem get_rel {K : PySem.W.Frag} {B : Hp} (k : KD) : ∀ {kvs : List (L2.Key × V)} {ks : List KD} {ds : List D}, kvs.map (·.1) = ks.map kk → Reps K B ds (kvs.map (·.2)) →
    (∃ d v, getK (ks.zip ds) k = some d ∧ valV kvs (kk k) = some v ∧ Rep K B d v) ∨ (getK (ks.zip ds) k = none ∧ valV kvs (kk k) = none)
  | [], [], ds, _, h => .inr (by cases ds <;> exact ⟨rfl, rfl⟩)
  | [], _ :: _, _, e, _ => by cases e
  | _ :: _, [], _, e, _ => by cases e
  | p :: kvs, q :: ks, ds, e, h => by
    rw [List.map_cons, List.map_cons] at e
    injection e with e1 e2
    cases ds with
    | nil => cases h
    | cons d ds =>
      obtain ⟨v, r, h1, h2, h3⟩ := h
      rw [List.map_cons] at h1
      injection h1 with h4 h5
      subst h5
      rw [List.zip_cons_cons]
      by_cases c : q = k
      · exact .inl ⟨d, p.2, getK_pos c, valV_pos (by rw [e1, c]), by rw [h4]; exact h2⟩
      · rw [getK_neg (show ¬ (q, d).1 = k from c), valV_neg (show ¬ p.1 = kk k from fun z => c (kk_inj (e1.symm.trans z)))]
        exact get_rel k e2 h3
theorem put_rel {K : PySem.W.Frag} {B : Hp} (k : KD) {x : D} {u : V} (rx : Rep K B x u) : ∀ {kvs : List (L2.Key × V)} {ks : List KD} {ds : List D}, kvs.map (·.1) = ks.map kk → Reps K B ds (kvs.map (·.2)) →
    (kvs.map fun kv => if kv.1 = kk k then (kv.1, u) else kv).map (·.1) = (((ks.zip ds).map fun p => if p.1 = k then (p.1, x) else p).map (·.1)).map kk ∧
    Reps K B (((ks.zip ds).map fun p => if p.1 = k then (p.1, x) else p).map (·.2)) ((kvs.map fun kv => if kv.1 = kk k then (kv.1, u) else kv).map (·.2))
  | [], [], ds, _, h => by cases ds <;> exact ⟨rfl, rfl⟩
  | [], _ :: _, _, e, _ => by cases e
  | _ :: _, [], _, e, _ => by cases e
  | p :: kvs, q :: ks, ds, e, h => by
    rw [List.map_cons, List.map_cons] at e
    injection e with e1 e2
    cases ds with
    | nil => cases h
    | cons d ds =>
      obtain ⟨v, r, h1, h2, h3⟩ := h
      rw [List.map_cons] at h1
      injection h1 with h4 h5
      subst h5
      obtain ⟨i1, i2⟩ := put_rel k rx e2 h3
      rw [List.zip_cons_cons]
      simp only [List.map_cons]
      by_cases c : q = k
      · rw [if_pos (show p.1 = kk k by rw [e1, c]), if_pos c]
        exact ⟨by rw [e1, i1], u, _, rfl, rx, i2⟩
      · rw [if_neg (show ¬ p.1 = kk k from fun z => c (kk_inj (e1.symm.trans z))), if_neg c]
        exact ⟨by rw [e1, i1], p.2, _, rfl, by rw [h4]; exact h2, i2⟩
theorem has_rel {K : PySem.W.Frag} {B : Hp} (k : KD) {kvs : List (L2.Key × V)} {ks : List KD} {ds : List D} (e : kvs.map (·.1) = ks.map kk) (h : Reps K B ds (kvs.map (·.2))) : (kvs.any fun kv => decide (kv.1 = kk k)) = hasK (ks.zip ds) k := by
  rw [valV_any, getK_has]
  rcases get_rel k e h with ⟨d, v, h1, h2, _⟩ | ⟨h1, h2⟩
  · rw [h1, h2]; rfl
  · rw [h1, h2]; rfl
theorem zip_fst {K : PySem.W.Frag} {B : Hp} {kvs : List (L2.Key × V)} {ks : List KD} {ds : List D} (e : kvs.map (·.1) = ks.map kk) (h : Reps K B ds (kvs.map (·.2))) : (ks.zip ds).map (·.1) = ks ∧ (ks.zip ds).map (·.2) = ds := by
  have h1 := h.length
  have h2 := congrArg List.length e
  simp only [List.length_map] at h1 h2
  exact ⟨List.map_fst_zip (by omega), List.map_snd_zip (by omega)⟩
/-- a store -/
theorem putM_rel {K : PySem.W.Frag} {B : Hp} (k : KD) {x : D} {u : V} (rx : Rep K B x u) {kvs : List (L2.Key × V)} {ks : List KD} {ds : List D} (e : kvs.map (·.1) = ks.map kk) (h : Reps K B ds (kvs.map (·.2))) :
    (putK kvs (kk k) u).map (·.1) = ((putM (ks.zip ds) k x).map (·.1)).map kk ∧ Reps K B ((putM (ks.zip ds) k x).map (·.2)) ((putK kvs (kk k) u).map (·.2)) := by
  unfold putK putM
  rw [has_rel k e h]
  cases hasK (ks.zip ds) k with
  | true => rw [if_pos rfl, if_pos rfl]; exact put_rel k rx e h
  | false =>
    rw [if_neg Bool.false_ne_true, if_neg Bool.false_ne_true]
    obtain ⟨z1, z2⟩ := zip_fst e h
    rw [List.map_append, List.map_append, List.map_append, List.map_append, z1, z2, List.map_append, e]
    exact ⟨rfl, h.append (Reps.one rx)⟩
/-- a dict of pairs -/
def dctM (m : List (KD × D)) : D := .dct (m.map (·.1)) (m.map (·.2))
theorem key_rep {K : PySem.W.Frag} {B : Hp} {d : D} {k : KD} {v : V} (h : keyOf d = some k) (r : Rep K B d v) : v = kV (kk k) := by
  rw [keyOf_some h] at r
  cases k <;> exact r
/-! ### x[i] -/
def ixD : D → D → Option D
  | .lst ds, .int i => atI ds i
  | .fls ds, .int i => atI ds i
  | .tup ds, .int i => atI ds i
  | .str s, .int i => if lim s.length = true then (match atI s i with
    | some c => some (.str [c])
    | none => none) else none
  | .dct ks ds, y => (keyOf y).bind fun k => getK (ks.zip ds) k
  | _, _ => none
def isDct : D → Bool
  | .dct _ _ => true
  | _ => false
theorem atI_reps {K : PySem.W.Frag} {B : Hp} {ds : List D} {vs : List V} {i : Int} {d : D} (h : Reps K B ds vs) (e : atI ds i = some d) : ∃ v, atI vs i = some v ∧ Rep K B d v := by
  unfold atI at e ⊢
  rw [h.length]
  cases q : ixN ds.length i with
  | none => rw [q] at e; cases e
  | some j =>
    rw [q] at e
    exact h.get e
theorem ix_red {K : PySem.W.Frag} {B H : Hp} {x y : V} {d e z : D} {Q : VK} (ex : Ex B H) (rx : Rep K B d x) (ry : Rep K B e y) (hd : isDct d = false) (ez : ixD d e = some z) (k : ∀ v, Rep K B z v → Q v H) : rIx K x y H Q := by
  unfold ixD at ez
  split at ez
  · obtain ⟨a, vs, rfl, h1, h2⟩ := rx
    obtain ⟨v, q1, q2⟩ := atI_reps h2 ez
    exact .inl ⟨a, vs, _, v, rfl, ry, SqL.of (ex _ _ h1), q1, k v q2⟩
  · obtain ⟨a, vs, rfl, h1, h2⟩ := rx
    obtain ⟨v, q1, q2⟩ := atI_reps h2 ez
    exact .inl ⟨a, vs, _, v, rfl, ry, ex_l ex h1, q1, k v q2⟩
  · obtain ⟨a, vs, rfl, h1, h2⟩ := rx
    obtain ⟨v, q1, q2⟩ := atI_reps h2 ez
    exact .inr (.inl ⟨a, vs, _, v, rfl, ry, ex_t ex h1, q1, k v q2⟩)
  · rename_i s i
    split at ez
    · rename_i hl
      split at ez
      · rename_i c hc
        cases ez
        exact .inr (.inr ⟨mkS s, i, c, rx, ry, by rw [mkS_len]; exact lim_ok hl, hc, k _ rfl⟩)
      · cases ez
    · cases ez
  · cases hd
  · cases ez
theorem pe_or {e : Expr} {t t' : TE} (h : PE X e t) (h' : PE X e t') : PE X e (fun σ H Q => t σ H Q ∨ t' σ H Q) := ⟨fun pins s σ H Q I q => q.elim (h.run pins s σ H Q I) (h'.run pins s σ H Q I)⟩
/-- a dict's item -/
theorem dget_red {K : PySem.W.Frag} {B H : Hp} {y : V} {a : Addr} {kvs : List (L2.Key × V)} {ks : List KD} {ds : List D} {e z : D} (hr : Rd H a (.dK kvs)) (hk : kvs.map (·.1) = ks.map kk) (hv : Reps K B ds (kvs.map (·.2))) (ry : Rep K B e y)
    (ez : ((keyOf e).bind fun k => getK (ks.zip ds) k) = some z) : ∃ v, DGet H a y (some v) ∧ Rep K B z v := by
  cases hq : keyOf e with
  | none => rw [hq] at ez; cases ez
  | some k =>
    rw [hq] at ez
    have ez : getK (ks.zip ds) k = some z := ez
    rw [key_rep hq ry]
    rcases get_rel k hk hv with ⟨d, v, h1, h2, h3⟩ | ⟨h1, h2⟩
    · rw [ez] at h1
      cases h1
      exact ⟨v, .inl ⟨kvs, kk k, hr, rfl, h2.symm⟩, h3⟩
    · rw [ez] at h1; cases h1
def eIx (a b : M D) : M D := bnd a fun x => bnd b fun y => lft (ixD x y)
/-- the thing in slot i, looked at alone: data, an own list, an own dict -/
def ePk (i : Nat) : M D := fun en => match en[i]? with
  | some (.val d) => some (d, en)
  | some (.own _ (.lst ds)) => some (.lst ds, en)
  | some (.own _ (.dct ks ds)) => some (.dct ks ds, en)
  | _ => none
theorem pk_at {K : PySem.W.Frag} {G : Ent} {B H : Hp} {σ : L2.St} {env env' : Lvs} {i : Nat} {d : D} (h : Ok K G B H σ env) (e : ePk i env = some (d, env')) : env' = env ∧ ∃ v, σ[i]? = some (some v) ∧
    (Rep K B d v ∨ (∃ a ds us, v = .ref a ∧ d = .lst ds ∧ H a = some (.lst us) ∧ Reps K B ds us) ∨ ∃ a ks ds kvs, v = .ref a ∧ d = .dct ks ds ∧ H a = some (.dK kvs) ∧ kvs.map (·.1) = ks.map kk ∧ Reps K B ds (kvs.map (·.2))) := by
  unfold ePk at e
  split at e
  · rename_i d' q
    cases e
    obtain ⟨v, q1, q2⟩ := h.val i _ q
    exact ⟨rfl, v, q1, .inl q2⟩
  · rename_i p ds q
    cases e
    obtain ⟨a, r1, r2, ⟨us, r3, r5⟩, r4⟩ := h.own i _ _ q
    exact ⟨rfl, _, r1, .inr (.inl ⟨a, ds, us, rfl, rfl, r3, r5⟩)⟩
  · rename_i p ks ds q
    cases e
    obtain ⟨a, r1, r2, ⟨us, r3, r5, r6⟩, r4⟩ := h.own i _ _ q
    exact ⟨rfl, _, r1, .inr (.inr ⟨a, ks, ds, us, rfl, rfl, r3, r5, r6⟩)⟩
  · cases e
def eIxV (i : Nat) (b : M D) : M D := bnd (ePk i) fun _ => bnd b fun y => bnd (ePk i) fun x => lft (ixD x y)
theorem pd_ix {a b : Expr} {ma mb : M D} {pos : Pos} (hu : X.A.units + 1 < cLine) (ha : PD X a ma) (hb : PD X b mb) (hs : PlainIx b := by exact fun _ _ => rfl) : PD X (.Subscript a b pos) (eIx ma mb) :=
  pe_mono (pe_or (pe_ix ix_seq ha hb hs) (pe_dget hu ha hb hs)) fun σ H Q ⟨G, B, env, d, env', ok, e, k⟩ => by
    obtain ⟨x, e1, q1, q2⟩ := bnd_some e
    obtain ⟨y, e2, q3, q4⟩ := bnd_some q2
    obtain ⟨z, q5, q6⟩ := lft_some q4
    cases q6
    cases hd : isDct x with
    | true =>
      cases x with
      | dct ks ds =>
        refine .inr (tD_of ok q1 fun v B1 H1 ok1 _ r1 => tD_of ok1 q3 fun u B2 H2 ok2 ok2' r2 => ?_)
        obtain ⟨a, o, kvs, rfl, hb, hk, hv⟩ := Rep.mono ok2'.mono _ _ r1
        obtain ⟨w, g1, g2⟩ := dget_red (.inr ⟨o, ok2.sub _ _ hb⟩) hk hv r2 q5
        exact ⟨a, w, rfl, g1, k w B2 H2 ok2 g2⟩
      | _ => cases hd
    | false =>
    refine .inl ?_
    exact tD_of ok q1 fun v B1 H1 ok1 _ r1 => tD_of ok1 q3 fun u B2 H2 ok2 ok2' r2 => ix_red ok2.sub (Rep.mono ok2'.mono _ _ r1) r2 hd q5 fun w rw => k w B2 H2 ok2 rw
theorem pd_ixV {i : Nat} {x : Str} {p1 : Pos} {b : Expr} {mb : M D} {pos : Pos} (hu : X.A.units + 1 < cLine) (ha : PE X (.Name x p1) (tVar i)) (hb : PD X b mb) (hs : PlainIx b := by exact fun _ _ => rfl) : PD X (.Subscript (.Name x p1) b pos) (eIxV i mb) :=
  pe_mono (pe_or (pe_ix ix_seq ha hb hs) (pe_dget hu ha hb hs)) fun σ H Q ⟨G, B, env, d, env', ok, e, k⟩ => by
    obtain ⟨x0, e0, q0, e⟩ := bnd_some e
    obtain ⟨y, e1, q1, q2⟩ := bnd_some e
    obtain ⟨x, e2, q3, q4⟩ := bnd_some q2
    obtain ⟨z, q5, q6⟩ := lft_some q4
    cases q6
    obtain ⟨ee, v, sv, _⟩ := pk_at ok q0
    subst ee
    cases hd : isDct x with
    | true =>
      cases x with
      | dct ks ds =>
        refine .inr ⟨v, sv, tD_of ok q1 fun u B1 H1 ok1 ok1' r1 => ?_⟩
        obtain ⟨ee, w, sw, alt⟩ := pk_at ok1 q3
        subst ee
        rw [sv] at sw
        cases sw
        rcases alt with r | ⟨a, us, vs, _, e1, _⟩ | ⟨a, ks', ds', kvs, rfl, e1, h1, h2, h3⟩
        · obtain ⟨a, o, kvs, rfl, hb, hk, hv⟩ := r
          obtain ⟨w, g1, g2⟩ := dget_red (.inr ⟨o, ok1.sub _ _ hb⟩) hk hv r1 q5
          exact ⟨a, w, rfl, g1, k w B1 H1 ok1 g2⟩
        · cases e1
        · cases e1
          obtain ⟨w, g1, g2⟩ := dget_red (.inl h1) h2 h3 r1 q5
          exact ⟨a, w, rfl, g1, k w B1 H1 ok1 g2⟩
      | _ => cases hd
    | false =>
      refine .inl ⟨v, sv, tD_of ok q1 fun u B1 H1 ok1 ok1' r1 => ?_⟩
      obtain ⟨ee, w, sw, alt⟩ := pk_at ok1 q3
      subst ee
      rw [sv] at sw
      cases sw
      rcases alt with r | ⟨a, ds, vs, rfl, e1, h1, h2⟩ | ⟨a, ks', ds', kvs, _, e1, _⟩
      · exact ix_red ok1.sub r r1 hd q5 fun w rw => k w B1 H1 ok1 rw
      · subst e1
        cases y with
        | int j =>
          obtain ⟨w, t1, t2⟩ := atI_reps h2 q5
          exact .inl ⟨a, vs, j, w, rfl, r1, SqL.of h1, t1, k w B1 H1 ok1 t2⟩
        | _ => cases q5
      · subst e1
        cases hd

/-! ### x[a:b] -/
def tO (K : PySem.W.Frag) (m : M (Option Int)) : TO := fun σ H Q => ∃ G B env o env', Ok K G B H σ env ∧ m env = some (o, env') ∧ ∀ B' H', Ok K G B' H' σ env' → Q o H'
def PDO (X : Cx) (e : Option Expr) (m : M (Option Int)) : Prop := PO X e (tO X.K m)
theorem po_mono {e : Option Expr} {t t' : TO} (h : PO X e t) (i : ∀ σ H Q, t' σ H Q → t σ H Q) : PO X e t' := ⟨fun pins s σ H Q I q => h.run pins s σ H Q I (i σ H Q q)⟩
def oNone : M (Option Int) := ret none
def oSome (m : M D) : M (Option Int) := bnd m fun d => match d with
  | .int i => ret (some i)
  | _ => stuck
theorem pdo_none : PDO X none oNone := po_mono po_none fun σ H Q ⟨G, B, env, d, env', ok, e, k⟩ => by
  cases ret_some e
  exact k B H ok
theorem pdo_some {e : Expr} {m : M D} (h : PD X e m) : PDO X (some e) (oSome m) := po_mono (po_some h) fun σ H Q ⟨G, B, env, d, env', ok, e, k⟩ => by
  obtain ⟨x, e1, q1, q2⟩ := bnd_some e
  split at q2
  · cases ret_some q2
    exact tD_of ok q1 fun v B1 H1 ok1 _ r1 => ⟨_, r1, k B1 H1 ok1⟩
  · cases q2
theorem tO_of {K : PySem.W.Frag} {G : Ent} {B H : Hp} {σ : L2.St} {env env' : Lvs} {m : M (Option Int)} {d : Option Int} {Q : Option Int → Hp → Prop} (h : Ok K G B H σ env) (e : m env = some (d, env')) (k : ∀ B' H', Ok K G B' H' σ env' → Ok K (Ent.at B H σ env) B' H' σ env' → Q d H') : tO K m σ H Q :=
  ⟨Ent.at B H σ env, B, env, d, env', h.self, e, fun B' H' h' => k B' H' (h.comp h') h'⟩
/-- xs[lo:hi] -/
def cut {α : Type} (xs : List α) (lo hi : Option Int) : List α := (xs.drop (HT.sIx xs.length 0 lo)).take (HT.sIx xs.length xs.length hi - HT.sIx xs.length 0 lo)
def slD (x : D) (lo hi : Option Int) : Option D := match x with
  | .lst ds => some (.lst (cut ds lo hi))
  | .fls ds => some (.lst (cut ds lo hi))
  | .tup ds => some (.tup (cut ds lo hi))
  | .str s => if lim s.length = true then some (.str (cut s lo hi)) else none
  | _ => none
theorem Reps.cut {K : PySem.W.Frag} {B : Hp} {ds : List D} {vs : List V} (h : Reps K B ds vs) (lo hi : Option Int) : Reps K B (Dv.cut ds lo hi) (cutV vs lo hi) := by
  unfold Dv.cut cutV
  rw [h.length]
  exact (h.drop _).take _
def rSl (K : PySem.W.Frag) : V → Option Int → Option Int → Hp → VK → Prop := fun x lo hi H Q => rSlL K x lo hi H Q ∨ rSlA K x lo hi H Q ∨ rSlS x lo hi H Q
theorem sl_any : SlR X (rSl X.K) := sl_list.or (sl_tupA.or sl_str)
theorem sl_red {K : PySem.W.Frag} {G : Ent} {B H : Hp} {σ : L2.St} {env : Lvs} {x : V} {d z : D} {lo hi : Option Int} {Q : VK} (ok : Ok K G B H σ env) (rx : Rep K B d x) (ez : slD d lo hi = some z) (k : ∀ v B' H', Ok K G B' H' σ env → Rep K B' z v → Q v H') : rSl K x lo hi H Q := by
  unfold slD at ez
  split at ez
  · cases ez
    obtain ⟨a, vs, rfl, h1, h2⟩ := rx
    exact .inl ⟨a, vs, rfl, SqL.of (ok.sub _ _ h1), fun p hp => k _ _ _ (ok.lay hp) ⟨p, _, rfl, upd_same, Reps.mono (Ex.new (fresh_back ok.sub hp)) _ _ (h2.cut lo hi)⟩⟩
  · cases ez
    obtain ⟨a, vs, rfl, h1, h2⟩ := rx
    exact .inl ⟨a, vs, rfl, ex_l ok.sub h1, fun p hp => k _ _ _ (ok.lay hp) ⟨p, _, rfl, upd_same, Reps.mono (Ex.new (fresh_back ok.sub hp)) _ _ (h2.cut lo hi)⟩⟩
  · rename_i ds
    cases ez
    obtain ⟨a, vs, rfl, h1, h2⟩ := rx
    refine .inr (.inl ⟨a, vs, rfl, ex_t ok.sub h1, fun ⟨e1, e2⟩ => ?_, fun _ p hp => k _ _ _ (ok.lay hp) ⟨p, _, rfl, SqT.of upd_same, Reps.mono (Ex.new (fresh_back ok.sub hp)) _ _ (h2.cut lo hi)⟩⟩)
    refine k _ B H ok ⟨a, vs, rfl, h1, ?_⟩
    have : Dv.cut ds lo hi = ds := by
      unfold Dv.cut
      rw [← h2.length, e1, e2, List.drop_zero, Nat.sub_zero]
      exact List.take_of_length_le (by rw [h2.length]; exact Nat.le_refl _)
    rw [this]; exact h2
  · rename_i s
    split at ez
    · rename_i hl
      cases ez
      refine .inr (.inr ⟨mkS s, rx, by rw [mkS_len]; exact lim_ok hl, k _ B H ok ?_⟩)
      show V.str (cutS (mkS s) lo hi) = V.str (mkS (Dv.cut s lo hi))
      unfold cutS Dv.cut
      rw [mkS_len]
    · cases ez
  · cases ez
def eSl (a : M D) (lo hi : M (Option Int)) : M D := bnd a fun x => bnd lo fun l => bnd hi fun h => lft (slD x l h)
theorem pd_slice {a : Expr} {lo hi : Option Expr} {ma : M D} {ml mh : M (Option Int)} {p2 pos : Pos} (ha : PD X a ma) (hl : PDO X lo ml) (hh : PDO X hi mh) : PD X (.Subscript a (.Slice lo hi none p2) pos) (eSl ma ml mh) :=
  pe_mono (pe_slice sl_any ha hl hh) fun σ H Q ⟨G, B, env, d, env', ok, e, k⟩ => by
    obtain ⟨x, e1, q1, e⟩ := bnd_some e
    obtain ⟨l, e2, q2, e⟩ := bnd_some e
    obtain ⟨h, e3, q3, e⟩ := bnd_some e
    obtain ⟨z, q5, q6⟩ := lft_some e
    cases q6
    exact tD_of ok q1 fun v B1 H1 ok1 _ r1 => tO_of ok1 q2 fun B2 H2 ok2 ok2' => tO_of ok2 q3 fun B3 H3 ok3 ok3' => sl_red ok3 (Rep.mono (ok2'.mono.trans ok3'.mono) _ _ r1) q5 k
/-- x[::-1] of a text -/
def revS : D → Option Int → Option D
  | .str s, some (-1) => if lim s.length = true then some (.str s.reverse) else none
  | _, _ => none
def eRev (a : M D) (st : M (Option Int)) : M D := bnd a fun x => bnd st fun l => lft (revS x l)
theorem rev_picked (s : List Nat) : (Builtin.Str.strSliceIndices none none (-1) (mkS s).length).filterMap ((mkS s).cps[·]?) = s.reverse := by
  show (sliceRange (((mkS s).cps.size : Int) - 1) (-1) (-1)).filterMap ((mkS s).cps[·]?) = s.reverse
  rw [PySem.W.krv_sliceRange, PySem.W.krv_range, List.filterMap_reverse, PySem.W.krv_all]
def tRevS (te : TE) (to : TO) : TE := fun σ H Q => te σ H fun x H1 => to σ H1 fun o H2 => ∃ s : List Nat, x = .str (mkS s) ∧ o = some (-1) ∧ lim s.length = true ∧ Q (.str (mkS s.reverse)) H2
theorem pe_revS {e st : Expr} {te : TE} {to : TO} {p3 pos : Pos} (he : PE X e te) (hst : PO X (some st) to) (hsub : ∀ o i, subscripted (.Slice none none (some st) p3) false o i = operate [o, i] (getItem o i) := by intros; rfl) : PE X (.Subscript e (.Slice none none (some st) p3) pos) (tRevS te to) := by
  refine ⟨fun pins s σ H Q I h => ?_⟩
  refine Subscript_ (thn (he.run pins s σ H _ I h) fun v s1 ⟨x, H1, I1, r1, q1⟩ => ?_)
  refine wpAny_Slice (thn (po_none.run pins s1 σ H1 (fun o H2 => o = none ∧ H2 = H1) I1 ⟨rfl, rfl⟩) fun vl s2 ⟨l, H2, I2, pl, el, e2⟩ => ?_)
  subst el e2
  refine thn (po_none.run pins s2 σ H2 (fun o H3 => o = none ∧ H3 = H2) I2 ⟨rfl, rfl⟩) fun vu s3 ⟨u, H3, I3, pu, eu, e3⟩ => ?_
  subst eu e3
  refine thn (hst.run pins s3 σ H3 _ I3 q1) fun vs s4 ⟨o, H4, I4, ps, z, ex, eo, hl, q⟩ => ?_
  subst ex eo
  obtain ⟨t, rfl⟩ := r1
  obtain ⟨l1, rfl, e1⟩ := IsPart.raw pl
  obtain ⟨u1, rfl, e2⟩ := IsPart.raw pu
  obtain ⟨o1, rfl, e3⟩ := IsPart.raw ps
  have I5 : Inv X pins σ H4 { s4 with heap := s4.heap.push { cls := .type "slice", data := .fields #[partValue l1, partValue u1, partValue o1] } } := I4.kept (t' := s4.toks) fun b ob q => Heap.get?_push_of_some _ q
  show wpAny (model X.prog X.w) X.A (subscriptTail e (.Slice none none (some st) p3) (.str (mkS z) t) (.ref s4.heap.objs.size)) (EP X pins σ Q) X.xe { s4 with heap := s4.heap.push { cls := .type "slice", data := .fields #[partValue l1, partValue u1, partValue o1] } }
  have hstep : (o1.map (·.1)).getD 1 = -1 := by rw [e3]; rfl
  refine tail_any (ops := [.str (mkS z) t, .ref s4.heap.objs.size]) (typeIs_str _ _ _) (F.slot_str_getitem.lookup) ?_ (hsub _ _)
  refine wpAny_getItem_str_slice (l := l1) (u := u1) (st := o1) ⟨_, Heap.get?_push_size _ rfl, rfl, rfl⟩ (by rw [hstep]; rfl) ?_
  have hmade : sliceMade (mkS z) t l1 u1 o1 = .str (mkS z.reverse) := by
    unfold sliceMade
    rw [hstep, if_neg (by intro h; simp at h)]
    have : slicePicked (mkS z) l1 u1 o1 = Builtin.Str.strSliceIndices none none (-1) (mkS z).length := by
      unfold slicePicked
      rw [hstep, e1, e2]
    rw [this, rev_picked]
  rw [hmade]
  refine ⟨?_, ⟨.str (mkS z.reverse), H4, I5.tok _, ⟨_, rfl⟩, q⟩⟩
  show (mkS z.reverse).length ≤ sizeLine
  rw [mkS_len, List.length_reverse]
  exact lim_ok hl
theorem pd_rev {a st : Expr} {ma : M D} {ms : M (Option Int)} {p3 pos : Pos} (ha : PD X a ma) (hst : PDO X (some st) ms) (hsub : ∀ o i, subscripted (.Slice none none (some st) p3) false o i = operate [o, i] (getItem o i) := by intros; rfl) : PD X (.Subscript a (.Slice none none (some st) p3) pos) (eRev ma ms) :=
  pe_mono (pe_revS ha hst hsub) fun σ H Q ⟨G, B, env, d, env', ok, e, k⟩ => by
    obtain ⟨x, e1, q1, e⟩ := bnd_some e
    obtain ⟨l, e2, q2, e⟩ := bnd_some e
    obtain ⟨z, q5, q6⟩ := lft_some e
    cases q6
    refine tD_of ok q1 fun v B1 H1 ok1 _ r1 => tO_of ok1 q2 fun B2 H2 ok2 ok2' => ?_
    unfold revS at q5
    split at q5
    · split at q5
      · rename_i hl
        cases q5
        exact ⟨_, r1, rfl, hl, k _ B2 H2 ok2 rfl⟩
      · cases q5
    · cases q5

/-! ### stores into a name's own list -/
/-- x[i] = e -/
def sSetIx (i : Nat) (ix v : M D) : MS := fun e => match v e with
  | some (d, e1) => match ePeek i e1 with
    | some _ => match ix e1 with
      | some (.int k, e2) => match e2[i]? with
        | some (.own p (.lst ds)) => match ixN ds.length k with
          | some j => some (.nx, e2.set i (.own p (.lst (ds.set j d))))
          | none => none
        | _ => none
      | _ => none
    | none => none
  | none => none
theorem pds_setIx {i : Nat} {x : Str} {p1 pos tpos : Pos} {ix v : Expr} {mi mv : M D} (hx : PE X (.Name x p1) (tVar i)) (hi : PD X ix mi) (hv : PD X v mv)
    (hs : swapsWithSole [.Subscript (.Name x p1) ix tpos] v pos.line X.env = pure false := by rfl) (hw : swappedStores [.Subscript (.Name x p1) ix tpos] v X.env = pure none := by rfl) (h1 : (assignEach [.Subscript (.Name x p1) ix tpos] X.env).map (·.2) = [assign (.Subscript (.Name x p1) ix tpos) X.env] := by rfl)
    (ha : ∀ v, assign (.Subscript (.Name x p1) ix tpos) X.env v = (do
      let ov ← holding [v] (eval (.Name x p1) X.env)
      let iv ← holding [v, ov] (eval ix X.env)
      standAt tpos
      holding [v, ov, iv] (setItem ov iv v)
      release [v, ov, iv] []) := by intro _; rfl) : PDS X (.Assign [.Subscript (.Name x p1) ix tpos] v pos) (sSetIx i mi mv) :=
  ps_mono (ps_asg hv (pg_sub hx hi set_list ha) hs hw h1) fun Z σ H ⟨G, B, env, o, env', ok, e, k⟩ => by
    unfold sSetIx at e
    split at e
    rotate_left
    · cases e
    rename_i d e1 q1
    split at e
    rotate_left
    · cases e
    rename_i pk q2
    split at e
    rotate_left
    · cases e
    rename_i kk e2 q3
    split at e
    rotate_left
    · cases e
    rename_i p ds q4
    split at e
    rotate_left
    · cases e
    rename_i j q5
    cases e
    refine tD_of ok q1 fun u B1 H1 ok1 _ r1 => ?_
    obtain ⟨pd, pe⟩ := pk
    obtain ⟨_, w, _, sw, _⟩ := peek_at ok1 q2
    refine ⟨w, sw, tD_of ok1 q3 fun y B2 H2 ok2 ok2' r2 => ?_⟩
    obtain ⟨a, s1, s2, s3, _⟩ := ok2.own i _ _ q4
    rw [sw] at s1; cases s1
    obtain ⟨vs, h1, h2⟩ := s3
    refine ⟨a, vs, kk, j, rfl, r2, h1, by rw [h2.length]; exact q5, k σ B2 _ (ok2.mut q4 sw ⟨_, rfl, h2.set j (Rep.mono ok2'.mono _ _ r1)⟩)⟩
/-- x.append(e) -/
def sApp (i : Nat) (m : M D) : MS := fun e => match e[i]? with
  | some (.own _ (.lst _)) => match m e with
    | some (d, e1) => match e1[i]? with
      | some (.own p (.lst ds)) => if lim (ds.length + 1) = true then some (.nx, e1.set i (.own p (.lst (ds ++ [d])))) else none
      | _ => none
    | none => none
  | _ => none
theorem pds_append {i : Nat} {x : Str} {p1 pos apos cpos : Pos} {e : Expr} {m : M D} (hx : PE X (.Name x p1) (tVar i)) (h : PD X e m) (hs : swapsWith (.Call (.Attribute (.Name x p1) "append" apos) [e] [] cpos) none pos.line X.env = pure false := by rfl)
    (hbase : attributeBase (.Name x p1) "append" X.env (eval (.Name x p1) X.env) = eval (.Name x p1) X.env := by rfl)
    (hfew : ((backTo cpos (starEach [e] X.env)).all (fun x => !x.1) && (backToKw cpos (keywordEach [] X.env)).all (fun x => x.1.isSome)
      && decide ([e].length + ([] : List Keyword).length + (if ([] : List Keyword).isEmpty then 0 else 1) < 30)) = true := by rfl)
    (hline : (apos.endLine == cpos.line) = true := by rfl) (hst : starEach [e] X.env = (false, eval e X.env) :: starEach [] X.env := by rfl) (hplain : (backTo cpos (starEach [] X.env)).any (·.1) = false := by rfl) :
    PDS X (.Expr (.Call (.Attribute (.Name x p1) "append" apos) [e] [] cpos) pos) (sApp i m) :=
  ps_mono (ps_expr (pe_bm PySem.F.plainAttrs_list PySem.F.slot_list_append PySem.F.type_list_append mt_append hx (pa_cons h pa_nil hst) hbase hfew hline hst hplain) hs) fun Z σ H ⟨G, B, env, o, env', ok, e, k⟩ => by
    unfold sApp at e
    split at e
    rotate_left
    · cases e
    rename_i p0 ds0 q0
    split at e
    rotate_left
    · cases e
    rename_i d e1 q1
    split at e
    rotate_left
    · cases e
    rename_i p ds q2
    split at e
    rotate_left
    · cases e
    rename_i hl
    cases e
    obtain ⟨a, s1, s2, ⟨vs0, s3, _⟩, _⟩ := ok.own i _ _ q0
    refine ⟨.ref a, s1, .inl ⟨rfl, vs0, SqL.of s3⟩, tD_of ok q1 fun v B1 H1 ok1 _ r1 => ?_⟩
    obtain ⟨a', t1, t2, ⟨vs, t3, t4⟩, _⟩ := ok1.own i _ _ q2
    rw [s1] at t1; cases t1
    refine ⟨a, vs, v, rfl, rfl, t3, ?_, k σ B1 _ (ok1.mut q2 s1 ⟨_, rfl, t4.append (Reps.one r1)⟩)⟩
    have := lim_ok hl
    rw [t4.length]; omega
/-- a, b = e (any targets) -/
def sAsg (m : M D) (g : D → Lvs → Option Lvs) : MS := fun e => match m e with
  | some (d, e1) => match g d e1 with
    | some e2 => some (.nx, e2)
    | none => none
  | none => none
theorem pds_asg {tg e : Expr} {m : M D} {vs : List Nat} {g : D → Lvs → Option Lvs} {pos : Pos} (he : PD X e m) (hg : PDG X vs tg g) (hs : swapsWithSole [tg] e pos.line X.env = pure false := by rfl) (hw : swappedStores [tg] e X.env = pure none := by rfl)
    (h1 : (assignEach [tg] X.env).map (·.2) = [assign tg X.env] := by rfl) : PDS X (.Assign [tg] e pos) (sAsg m g) :=
  ps_mono (ps_asg he hg hs hw h1) fun Z σ H ⟨G, B, env, o, env', ok, e, k⟩ => by
    unfold sAsg at e
    split at e
    rotate_left
    · cases e
    rename_i d e1 q1
    split at e
    rotate_left
    · cases e
    rename_i e2 q2
    cases e
    exact tD_of ok q1 fun v B1 H1 ok1 _ r1 => ⟨G, B1, e1, d, env', ok1, r1, q2, fun σ' B' H' ok' _ => k σ' B' H' ok'⟩
/-- a, b = e1, e2 with plain local names -/
def sPar (i j : Nat) (m : M (List D)) : MS := fun e => match m e with
  | some ([d1, d2], e1) => some (.nx, (e1.set i (.val d1)).set j (.val d2))
  | _ => none
theorem pds_par (i j : Nat) {x y : Str} {a b : Expr} {m : M (List D)} {px py pt pos : Pos} {kt k2 pt2} (ha : PDA X [a, b] m) (hN : X.N.Nodup) (hi : X.N[i]? = some x := by rfl) (hj : X.N[j]? = some y := by rfl) (hij : i ≠ j := by decide)
    (hx : X.env.scope.names.lookup x = some .local := by rfl) (hy : X.env.scope.names.lookup y = some .local := by rfl) (hc : X.calm = true := by rfl)
    (hw : swappedStores [.Tuple [.Name x px, .Name y py] kt pt] (.Tuple [a, b] k2 pt2) X.env = pure (some [x, y]) := by rfl)
    (hs : swapsWithSole [.Tuple [.Name x px, .Name y py] kt pt] (.Tuple [a, b] k2 pt2) pos.line X.env = pure false := by rfl) : PDS X (.Assign [.Tuple [.Name x px, .Name y py] kt pt] (.Tuple [a, b] k2 pt2) pos) (sPar i j m) :=
  ps_mono (ps_par hc hN hi hj hij hx hy ha hw hs) fun Z σ H ⟨G, B, env, o, env', ok, e, k⟩ => by
    unfold sPar at e
    split at e
    · rename_i d1 d2 e1 q1
      cases e
      refine tA_of ok q1 fun vs B1 H1 ok1 _ r0 => ?_
      obtain ⟨v, u, rfl, r1, r2⟩ := reps2 r0
      exact ⟨v, u, rfl, k _ B1 H1 ((ok1.store r1).store r2)⟩
    · cases e

/-! ### built-in functions -/
def CallD (X : Cx) (f : Value) (F : List D → Option D) : Prop := ∃ r, CallR X f r ∧ ∀ (G : Ent) (B H : Hp) (σ : L2.St) (env : Lvs) (vs : List V) (ds : List D) (z : D) (Q : VK), Ok X.K G B H σ env → Reps X.K B ds vs → F ds = some z → (∀ v B' H', Ok X.K G B' H' σ env → Rep X.K B' z v → Q v H') → r vs H Q
def eCallB (F : List D → Option D) (m : M (List D)) : M D := bnd m fun ds => lft (F ds)
theorem callB_red {F : List D → Option D} {r : List V → Hp → VK → Prop} {m : M (List D)} {σ : L2.St} {H : Hp} {Q : VK}
    (hr : ∀ (G : Ent) (B H : Hp) (σ : L2.St) (env : Lvs) (vs : List V) (ds : List D) (z : D) (Q : VK), Ok X.K G B H σ env → Reps X.K B ds vs → F ds = some z → (∀ v B' H', Ok X.K G B' H' σ env → Rep X.K B' z v → Q v H') → r vs H Q) (q : tD X.K (eCallB F m) σ H Q) : tCB r (tA X.K m) σ H Q := by
  obtain ⟨G, B, env, d, env', ok, e, k⟩ := q
  obtain ⟨ds, e1, q1, e⟩ := bnd_some e
  obtain ⟨z, q5, q6⟩ := lft_some e
  cases q6
  exact tA_of ok q1 fun vs B1 H1 ok1 _ r1 => hr G B1 H1 σ _ vs ds d Q ok1 r1 q5 k
theorem pd_callB {id : String} {x : Str} {p pos : Pos} {e : Expr} {es : List Expr} {F : List D → Option D} {m : M (List D)} (hc : CallD X (.builtin id) F) (hm : X.mg x = none) (ha : PDA X (e :: es) m) (hv : bootBuiltins x = some (.builtin id) := by decide +kernel) (hg : Gl X x := by rfl) (hn : x ≠ "__name__" := by decide) (hdb : (x == ("__debug__" : Str)) = false := by decide)
    (he : starEach (e :: es) X.env = (false, eval e X.env) :: starEach es X.env := by rfl) (hpl : (backTo pos (starEach es X.env)).any (·.1) = false := by rfl) : PD X (.Call (.Name x p) (e :: es) [] pos) (eCallB F m) := by
  obtain ⟨r, h, hr⟩ := hc
  exact pe_mono (pe_callB h hg hm hv ha hn hdb he hpl) fun σ H Q q => callB_red hr q
theorem pd_callTy {T : String} {x : Str} {p pos : Pos} {e : Expr} {es : List Expr} {F : List D → Option D} {m : M (List D)} (hc : CallD X (.type T) F) (hm : X.mg x = none) (ha : PDA X (e :: es) m) (hv : bootBuiltins x = some (.type T) := by decide +kernel) (hg : Gl X x := by rfl) (hn : x ≠ "__name__" := by decide) (hdb : (x == ("__debug__" : Str)) = false := by decide)
    (he : starEach (e :: es) X.env = (false, eval e X.env) :: starEach es X.env := by rfl) (hpl : (backTo pos (starEach es X.env)).any (·.1) = false := by rfl) : PD X (.Call (.Name x p) (e :: es) [] pos) (eCallB F m) := by
  obtain ⟨r, h, hr⟩ := hc
  exact pe_mono (pe_callTy h hg hm hv ha hn hdb he hpl) fun σ H Q q => callB_red hr q
/-- a built-in type as a value -/
theorem pd_ty (n : String) {x : Str} {pos : Pos} (hm : X.mg x = none) (hv : bootBuiltins x = some (.type n) := by decide +kernel) (hg : Gl X x := by rfl) (hn : x ≠ "__name__" := by decide) (hd : (x == ("__debug__" : Str)) = false := by decide) : PD X (.Name x pos) (eC (.ty n)) :=
  pd_c (pe_bltn (v := .ty n) hg hm hv rfl hn hd) fun _ => rfl
def lenD : List D → Option D
  | [.lst ds] => some (.int (ds.length : Nat))
  | [.fls ds] => some (.int (ds.length : Nat))
  | [.tup ds] => some (.int (ds.length : Nat))
  | [.str s] => if lim s.length = true then some (.int (s.length : Nat)) else none
  | _ => none
theorem call_lenD : CallD X (.builtin "len") lenD := ⟨_, call_len, fun G B H σ env vs ds z Q ok r0 e k => by
  unfold lenD at e
  split at e
  · cases e
    obtain ⟨v, rfl, r⟩ := reps1 r0
    obtain ⟨a, us, rfl, h1, h2⟩ := r
    exact ⟨_, us.length, rfl, .inl ⟨us, SqL.of (ok.sub _ _ h1), rfl⟩, k _ B H ok (by rw [h2.length]; rfl)⟩
  · cases e
    obtain ⟨v, rfl, r⟩ := reps1 r0
    obtain ⟨a, us, rfl, h1, h2⟩ := r
    exact ⟨_, us.length, rfl, .inl ⟨us, ex_l ok.sub h1, rfl⟩, k _ B H ok (by rw [h2.length]; rfl)⟩
  · cases e
    obtain ⟨v, rfl, r⟩ := reps1 r0
    obtain ⟨a, us, rfl, h1, h2⟩ := r
    exact ⟨_, us.length, rfl, .inr ⟨us, ex_t ok.sub h1, rfl⟩, k _ B H ok (by rw [h2.length]; rfl)⟩
  · split at e
    · rename_i s hl
      cases e
      obtain ⟨v, rfl, r⟩ := reps1 r0
      exact ⟨.str (mkS s), s.length, by rw [show v = _ from r], ⟨by rw [mkS_len]; exact lim_ok hl, (mkS_len s).symm⟩, k _ B H ok rfl⟩
    · cases e
  · cases e⟩
/-- len of a name's list, which the name keeps -/
def eLenV (i : Nat) : M D := bnd (ePeek i) fun d => lft (lenD [d])
theorem pd_lenV {i : Nat} {x : Str} {p1 p pos : Pos} (hx : PE X (.Name x p1) (tVar i)) (hm : X.mg "len" = none) (hg : Gl X "len" := by rfl)
    (he : starEach [.Name x p1] X.env = (false, eval (.Name x p1) X.env) :: starEach [] X.env := by rfl) (hpl : (backTo pos (starEach [] X.env)).any (·.1) = false := by rfl) : PD X (.Call (.Name "len" p) [.Name x p1] [] pos) (eLenV i) :=
  pe_mono (pe_callB call_len hg hm PySem.boot_len (pa_cons hx pa_nil he) (by decide) (by decide) he hpl) fun σ H Q ⟨G, B, env, d, env', ok, e, k⟩ => by
    obtain ⟨x, e1, q1, e⟩ := bnd_some e
    obtain ⟨z, q5, q6⟩ := lft_some e
    cases q6
    obtain ⟨ee, v, B', s1, x1, x2, r⟩ := peek_at ok q1
    subst ee
    refine ⟨v, s1, ?_⟩
    unfold lenD at q5
    split at q5
    · rename_i ds hd
      cases hd
      cases q5
      obtain ⟨a, us, rfl, h1, h2⟩ := r
      exact ⟨_, us.length, rfl, .inl ⟨us, SqL.of (x2 _ _ h1), rfl⟩, k _ B H ok (by rw [h2.length]; rfl)⟩
    · rename_i ds hd
      cases hd
      cases q5
      obtain ⟨a, us, rfl, h1, h2⟩ := r
      exact ⟨_, us.length, rfl, .inl ⟨us, ex_l x2 h1, rfl⟩, k _ B H ok (by rw [h2.length]; rfl)⟩
    · rename_i ds hd
      cases hd
      cases q5
      obtain ⟨a, us, rfl, h1, h2⟩ := r
      exact ⟨_, us.length, rfl, .inr ⟨us, ex_t x2 h1, rfl⟩, k _ B H ok (by rw [h2.length]; rfl)⟩
    · rename_i s hd
      cases hd
      split at q5
      · rename_i hl
        cases q5
        exact ⟨.str (mkS s), s.length, by rw [show v = _ from r], ⟨by rw [mkS_len]; exact lim_ok hl, (mkS_len s).symm⟩, k _ B H ok rfl⟩
      · cases q5
    · cases q5
def intsOf : List D → Option (List Int)
  | [] => some []
  | .int i :: ds => match intsOf ds with
    | some ns => some (i :: ns)
    | none => none
  | _ => none
theorem intsOf_ok : ∀ {ds : List D} {ns : List Int}, intsOf ds = some ns → ds = ns.map D.int
  | [], ns, h => by cases h; rfl
  | .int i :: ds, ns, h => by
    unfold intsOf at h
    split at h
    · rename_i q; cases h; rw [intsOf_ok q]; rfl
    · cases h
  | .non :: _, _, h => by cases h
  | .bl _ :: _, _, h => by cases h
  | .str _ :: _, _, h => by cases h
  | .ty _ :: _, _, h => by cases h
  | (.dct _ _) :: _, _, h => by cases h
  | (.dtt _ _) :: _, _, h => by cases h
  | (.obj _ _ _) :: _, _, h => by cases h
  | (.cls _) :: _, _, h => by cases h
  | .lst _ :: _, _, h => by cases h
  | .fls _ :: _, _, h => by cases h
  | .tup _ :: _, _, h => by cases h
def sumD : List D → Option D
  | [.lst ds] => match intsOf ds with
    | some ns => some (.int ns.sum)
    | none => none
  | [.fls ds] => match intsOf ds with
    | some ns => some (.int ns.sum)
    | none => none
  | _ => none
theorem call_sumD (hc : X.calm = true := by rfl) : CallD X (.builtin "sum") sumD := ⟨_, cr_sum hc, fun G B H σ env vs ds z Q ok r0 e k => by
  unfold sumD at e
  split at e
  · split at e
    · rename_i ns hn
      cases e
      obtain ⟨v, rfl, r⟩ := reps1 r0
      obtain ⟨a, us, rfl, h1, h2⟩ := r
      rw [intsOf_ok hn] at h2
      exact ⟨a, ns, rfl, by rw [← h2.of_ints]; exact SqL.of (ok.sub _ _ h1), k _ B H ok rfl⟩
    · cases e
  · split at e
    · rename_i ns hn
      cases e
      obtain ⟨v, rfl, r⟩ := reps1 r0
      obtain ⟨a, us, rfl, h1, h2⟩ := r
      rw [intsOf_ok hn] at h2
      exact ⟨a, ns, rfl, by rw [← h2.of_ints]; exact ex_l ok.sub h1, k _ B H ok rfl⟩
    · cases e
  · cases e⟩
def maxD : List D → Option D
  | [.int i, .int j] => some (.int (if j > i then j else i))
  | _ => none
def minD : List D → Option D
  | [.int i, .int j] => some (.int (if j < i then j else i))
  | _ => none
theorem call_maxD (hc : X.calm = true := by rfl) : CallD X (.builtin "max") maxD := ⟨_, call_max2 hc, fun G B H σ env vs ds z Q ok r0 e k => by
  unfold maxD at e
  split at e
  · cases e
    obtain ⟨v, u, rfl, r1, r2⟩ := reps2 r0
    exact ⟨_, _, by rw [show v = _ from r1, show u = _ from r2], k _ B H ok rfl⟩
  · cases e⟩
theorem call_minD (hc : X.calm = true := by rfl) : CallD X (.builtin "min") minD := ⟨_, call_min2 hc, fun G B H σ env vs ds z Q ok r0 e k => by
  unfold minD at e
  split at e
  · cases e
    obtain ⟨v, u, rfl, r1, r2⟩ := reps2 r0
    exact ⟨_, _, by rw [show v = _ from r1, show u = _ from r2], k _ B H ok rfl⟩
  · cases e⟩
def intD : List D → Option D
  | [.int i] => some (.int i)
  | [.bl b] => some (.int (if b then 1 else 0))
  | _ => none
theorem call_intD : CallD X (.type "int") intD := ⟨_, call_int1, fun G B H σ env vs ds z Q ok r0 e k => by
  unfold intD at e
  split at e
  · cases e
    obtain ⟨v, rfl, r⟩ := reps1 r0
    exact .inl ⟨_, by rw [show v = _ from r], k _ B H ok rfl⟩
  · cases e
    obtain ⟨v, rfl, r⟩ := reps1 r0
    exact .inr ⟨_, by rw [show v = _ from r], k _ B H ok rfl⟩
  · cases e⟩
/-- isinstance -/
def tyN : D → String
  | .non => "NoneType"
  | .bl _ => "bool"
  | .int _ => "int"
  | .str _ => "str"
  | .lst _ => "list"
  | .fls _ => "list"
  | .tup _ => "tuple"
  | .ty _ => "type"
  | .dct _ _ => "dict"
  | .dtt _ _ => "dict"
  | .obj _ _ _ => "object"
  | .cls _ => "type"
def isTy : D → Bool
  | .ty _ => true
  | .dtt _ _ => true
  | .obj _ _ _ => true
  | .cls _ => true
  | _ => false
def isiD : List D → Option D
  | [d, .ty n] => if isTy d = true then none else match kitB (tyN d) n with
    | some b => some (.bl b)
    | none => none
  | _ => none
theorem tyx_rep {K : PySem.W.Frag} {B H : Hp} (ex : Ex B H) {d : D} {v : V} (h : isTy d = false) (r : Rep K B d v) : TyX K H v (.type (tyN d)) := by
  cases d with
  | non => rw [show v = _ from r]; exact .base .non
  | bl _ => rw [show v = _ from r]; exact .base (.bl _)
  | int _ => rw [show v = _ from r]; exact .base (.int _)
  | str _ => rw [show v = _ from r]; exact .base (.str _)
  | ty _ => cases h
  | dct _ _ => obtain ⟨a, o, kvs, rfl, h1, _⟩ := r; exact .fDict (ex _ _ h1)
  | dtt _ _ => cases h
  | obj _ _ _ => cases h
  | cls _ => cases h
  | lst _ => obtain ⟨a, us, rfl, h1, _⟩ := r; exact .base (.lst (ex _ _ h1))
  | fls _ =>
    obtain ⟨a, us, rfl, h1, _⟩ := r
    rcases ex_l ex h1 with (h | ⟨o, h⟩) | ⟨o, its, n, h, hc, _⟩
    · exact .base (.lst h)
    · exact .base (.frz h)
    · exact .kList h hc
  | tup _ =>
    obtain ⟨a, us, rfl, h1, _⟩ := r
    rcases ex_t ex h1 with (h | ⟨o, h⟩) | ⟨o, its, n, h, hc, _⟩
    · exact .base (.tup h)
    · exact .fTuple h
    · exact .kTuple h hc
theorem call_isiD : CallD X (.builtin "isinstance") isiD := ⟨_, call_isi, fun G B H σ env vs ds z Q ok r0 e k => by
  unfold isiD at e
  split at e
  · rename_i d n
    split at e
    · cases e
    · rename_i ht
      split at e
      · rename_i b hb
        cases e
        obtain ⟨v, u, rfl, r1, r2⟩ := reps2 r0
        exact ⟨v, .ty n, .type (tyN d), .type n, b, by rw [show u = _ from r2], .ty n, tyx_rep ok.sub (by simpa using ht) r1, kit_ty hb, k _ B H ok rfl⟩
      · cases e
  · cases e⟩

/-! ### methods -/
def MethD (X : Cx) (T : String) (id : String) (F : D → List D → Option D) : Prop := ∃ r, MtR X id r ∧ ∀ (G : Ent) (B H : Hp) (σ : L2.St) (env : Lvs) (x : V) (d : D) (vs : List V) (ds : List D) (z : D) (Q : VK), Ok X.K G B H σ env → Rep X.K B d x → Reps X.K B ds vs → F d ds = some z → (∀ v B' H', Ok X.K G B' H' σ env → Rep X.K B' z v → Q v H') → r x vs H Q
def isStr : D → Bool
  | .str _ => true
  | _ => false
def eMethS (F : D → List D → Option D) (a : M D) (m : M (List D)) : M D := bnd a fun x => if isStr x = true then bnd m fun ds => lft (F x ds) else stuck
theorem pd_methS {name : Str} {id : String} {o e : Expr} {es : List Expr} {F : D → List D → Option D} {ma : M D} {m : M (List D)} {apos cpos : Pos} (hm : MethD X "str" id F) (slot : Slot "str" name id) (hty : typeOf (.builtin id) = pure (.type "method_descriptor")) (ho : PD X o ma) (ha : PDA X (e :: es) m)
    (hbase : attributeBase o name X.env (eval o X.env) = eval o X.env := by rfl)
    (hfew : ((backTo cpos (starEach (e :: es) X.env)).all (fun x => !x.1) && (backToKw cpos (keywordEach [] X.env)).all (fun x => x.1.isSome)
      && decide ((e :: es).length + ([] : List Keyword).length + (if ([] : List Keyword).isEmpty then 0 else 1) < 30)) = true := by rfl)
    (hline : (apos.endLine == cpos.line) = true := by rfl) (hs : starEach (e :: es) X.env = (false, eval e X.env) :: starEach es X.env := by rfl) (hplain : (backTo cpos (starEach es X.env)).any (·.1) = false := by rfl) :
    PD X (.Call (.Attribute o name apos) (e :: es) [] cpos) (eMethS F ma m) := by
  obtain ⟨r, h, hr⟩ := hm
  refine pe_mono (pe_bm PySem.F.plainAttrs_str slot hty h ho ha hbase hfew hline hs hplain) fun σ H Q ⟨G, B, env, d, env', ok, e, k⟩ => ?_
  obtain ⟨x, e1, q1, e⟩ := bnd_some e
  split at e
  · rename_i hS
    obtain ⟨ds, e2, q2, e⟩ := bnd_some e
    obtain ⟨z, q5, q6⟩ := lft_some e
    cases q6
    refine tD_of ok q1 fun v B1 H1 ok1 _ r1 => ⟨?_, tA_of ok1 q2 fun vs B2 H2 ok2 ok2' r2 => hr G B2 H2 σ _ v x vs ds d Q ok2 (Rep.mono ok2'.mono _ _ r1) r2 q5 k⟩
    cases x with
    | str s => rw [show v = _ from r1]; rfl
    | _ => cases hS
  · cases e
def stripL (a b : List Nat) : List Nat := (Txt.stripChars (mkS a) (mkS b)).cps.toList
def stripD : D → List D → Option D
  | .str a, [.str b] => if lim a.length = true then some (.str (stripL a b)) else none
  | _, _ => none
theorem meth_strip : MethD X "str" "str.strip" stripD := ⟨_, mt_stripChars, fun G B H σ env x d vs ds z Q ok rx rs e k => by
  unfold stripD at e
  split at e
  · rename_i a b
    split at e
    · rename_i hl
      cases e
      obtain ⟨u, rfl, r⟩ := reps1 rs
      exact ⟨mkS a, mkS b, rx, by rw [show u = _ from r], by rw [mkS_len]; exact lim_ok hl, k _ B H ok rfl⟩
    · cases e
  · cases e⟩
def strsOf : List D → Option (List (List Nat))
  | [] => some []
  | .str i :: ds => match strsOf ds with
    | some ns => some (i :: ns)
    | none => none
  | _ => none
theorem strsOf_ok : ∀ {ds : List D} {ns : List (List Nat)}, strsOf ds = some ns → ds = ns.map D.str
  | [], ns, h => by cases h; rfl
  | .str i :: ds, ns, h => by
    unfold strsOf at h
    split at h
    · rename_i q; cases h; rw [strsOf_ok q]; rfl
    · cases h
  | .non :: _, _, h => by cases h
  | .bl _ :: _, _, h => by cases h
  | .int _ :: _, _, h => by cases h
  | .ty _ :: _, _, h => by cases h
  | (.dct _ _) :: _, _, h => by cases h
  | (.dtt _ _) :: _, _, h => by cases h
  | (.obj _ _ _) :: _, _, h => by cases h
  | (.cls _) :: _, _, h => by cases h
  | .lst _ :: _, _, h => by cases h
  | .fls _ :: _, _, h => by cases h
  | .tup _ :: _, _, h => by cases h
def joinD : D → List D → Option D
  | .str a, [.lst ds] => match strsOf ds with
    | some ns => if lim ((ns.map List.length).sum + ns.length * a.length) = true then some (.str (TL.joinL a ns)) else none
    | none => none
  | _, _ => none
theorem map_mkS_len (ns : List (List Nat)) : ((ns.map mkS).map (·.length)).sum = (ns.map List.length).sum := by
  rw [List.map_map]
  exact congrArg List.sum (List.map_congr_left fun s _ => mkS_len s)
theorem meth_join : MethD X "str" "str.join" joinD := ⟨_, mt_join, fun G B H σ env x d vs ds z Q ok rx rs e k => by
  unfold joinD at e
  split at e
  · rename_i a ys
    split at e
    · rename_i ns hn
      split at e
      · rename_i hl
        cases e
        obtain ⟨u, rfl, r⟩ := reps1 rs
        obtain ⟨p, us, rfl, h1, h2⟩ := r
        rw [strsOf_ok hn] at h2
        refine ⟨mkS a, p, ns.map mkS, rx, rfl, .inl (by rw [← h2.of_strs]; exact SqL.of (ok.sub _ _ h1)), ?_, k _ B H ok ?_⟩
        · rw [map_mkS_len, List.length_map, mkS_len]
          exact of_decide_eq_true hl
        · show V.str (Txt.join (mkS a) (ns.map mkS)) = V.str (mkS (TL.joinL a ns))
          have : Txt.join (mkS a) (ns.map mkS) = mkS (TL.joinL a ns) := by
            rw [TL.join_eq]
            apply TL.ext_tl
            rw [TL.tl_join, List.map_map]
            show TL.joinL a (ns.map (TL.tl ∘ mkS)) = TL.joinL a ns
            have : ns.map (TL.tl ∘ mkS) = ns := by
              conv => rhs; rw [← List.map_id ns]
              exact List.map_congr_left fun s _ => rfl
            rw [this]
          rw [this]
      · cases e
    · cases e
  · cases e⟩
/-- n.bit_length() -/
def eBits (m : M D) : M D := bnd m fun d => match d with
  | .int i => ret (.int (Builtin.Int.intBits i : Nat))
  | _ => stuck
theorem pd_bits {o : Expr} {m : M D} {apos pos : Pos} (ho : PD X o m) (hbase : attributeBase o "bit_length" X.env (eval o X.env) = eval o X.env := by rfl) (hline : (apos.endLine == pos.line) = true := by rfl) : PD X (.Call (.Attribute o "bit_length" apos) [] [] pos) (eBits m) :=
  pe_mono (pe_bits ho hbase hline) fun σ H Q ⟨G, B, env, d, env', ok, e, k⟩ => by
    obtain ⟨x, e1, q1, e⟩ := bnd_some e
    split at e
    · cases ret_some e
      exact tD_of ok q1 fun v B1 H1 ok1 _ r1 => ⟨_, r1, k _ B1 H1 ok1 rfl⟩
    · cases e
end
end Dv
/-! Dicts: in, get, stores, items, comprehensions, displays. -/
namespace Dv
open PySem PySem.Spec PyProof.Rows L2 Evl
section
variable {X : Cx}
/-! ### in -/
/-- what a thing that was looked at is -/
abbrev Pk (K : PySem.W.Frag) (B H : Hp) (d : D) (v : V) : Prop := Rep K B d v ∨ (∃ a ds us, v = .ref a ∧ d = .lst ds ∧ H a = some (.lst us) ∧ Reps K B ds us) ∨ ∃ a ks ds kvs, v = .ref a ∧ d = .dct ks ds ∧ H a = some (.dK kvs) ∧ kvs.map (·.1) = ks.map kk ∧ Reps K B ds (kvs.map (·.2))
theorem pk_dct {K : PySem.W.Frag} {B H : Hp} {ks : List KD} {ds : List D} {v : V} (ex : Ex B H) (h : Pk K B H (.dct ks ds) v) : ∃ a kvs, v = .ref a ∧ Rd H a (.dK kvs) ∧ kvs.map (·.1) = ks.map kk ∧ Reps K B ds (kvs.map (·.2)) := by
  rcases h with r | ⟨a, us, vs, _, e1, _⟩ | ⟨a, ks', ds', kvs, rfl, e1, h1, h2, h3⟩
  · obtain ⟨a, o, kvs, rfl, hb, hk, hv⟩ := r
    exact ⟨a, kvs, rfl, .inr ⟨o, ex _ _ hb⟩, hk, hv⟩
  · cases e1
  · cases e1
    exact ⟨a, kvs, rfl, .inl h1, h2, h3⟩
def rDIn : R2 := fun y x H Q => ∃ a o, x = .ref a ∧ DGet H a y o ∧ Q (.bl o.isSome) H
def rDNotIn : R2 := fun y x H Q => ∃ a o, x = .ref a ∧ DGet H a y o ∧ Q (.bl (!o.isSome)) H
theorem op_din (hu : X.A.units + 1 < cLine) : OpR X (compareOp .In) rDIn := by
  intro pins s σ H x y v u Q I rx ry h
  obtain ⟨a, o, rfl, g, q⟩ := h
  obtain rfl : u = Value.ref a := ry
  exact d_in hu I g rx fun s3 I3 => ⟨.bl o.isSome, H, I3, rfl, q⟩
theorem op_dnotin (hu : X.A.units + 1 < cLine) : OpR X (compareOp .NotIn) rDNotIn := by
  intro pins s σ H x y v u Q I rx ry h
  obtain ⟨a, o, rfl, g, q⟩ := h
  obtain rfl : u = Value.ref a := ry
  exact d_notIn hu I g rx fun s3 I3 => ⟨.bl (!o.isSome), H, I3, rfl, q⟩
theorem dgetO {K : PySem.W.Frag} {B H : Hp} {y : V} {a : Addr} {kvs : List (L2.Key × V)} {ks : List KD} {ds : List D} {e : D} {k : KD} (hr : Rd H a (.dK kvs)) (hk : kvs.map (·.1) = ks.map kk) (hv : Reps K B ds (kvs.map (·.2))) (ry : Rep K B e y) (hq : keyOf e = some k) :
    ∃ o, DGet H a y o ∧ ((∃ d v, getK (ks.zip ds) k = some d ∧ o = some v ∧ Rep K B d v) ∨ (getK (ks.zip ds) k = none ∧ o = none)) := by
  rw [key_rep hq ry]
  refine ⟨valV kvs (kk k), .inl ⟨kvs, kk k, hr, rfl, rfl⟩, ?_⟩
  exact get_rel k hk hv
def inK : D → D → Option D
  | x, .dct ks ds => (keyOf x).map fun k => .bl (hasK (ks.zip ds) k)
  | _, _ => none
def notInK : D → D → Option D
  | x, .dct ks ds => (keyOf x).map fun k => .bl (!hasK (ks.zip ds) k)
  | _, _ => none
theorem in_red {K : PySem.W.Frag} {B H : Hp} {x y : V} {d e z : D} {Q : VK} (ex : Ex B H) (rx : Rep K B d x) (ry : Pk K B H e y) (ez : inK d e = some z) (k : ∀ v, (∀ B, Rep K B z v) → Q v H) : rDIn x y H Q := by
  unfold inK at ez
  split at ez
  · obtain ⟨a, kvs, rfl, h1, h2, h3⟩ := pk_dct ex ry
    cases hq : keyOf d with
    | none => rw [hq] at ez; cases ez
    | some q =>
      rw [hq] at ez
      cases ez
      obtain ⟨o, g, alt⟩ := dgetO h1 h2 h3 rx hq
      refine ⟨a, o, rfl, g, k _ fun _ => ?_⟩
      show Rep K _ (.bl _) (V.bl _)
      rw [getK_has]
      rcases alt with ⟨_, _, e1, rfl, _⟩ | ⟨e1, rfl⟩ <;> rw [e1] <;> exact rfl
  · cases ez
theorem notIn_red {K : PySem.W.Frag} {B H : Hp} {x y : V} {d e z : D} {Q : VK} (ex : Ex B H) (rx : Rep K B d x) (ry : Pk K B H e y) (ez : notInK d e = some z) (k : ∀ v, (∀ B, Rep K B z v) → Q v H) : rDNotIn x y H Q := by
  unfold notInK at ez
  split at ez
  · obtain ⟨a, kvs, rfl, h1, h2, h3⟩ := pk_dct ex ry
    cases hq : keyOf d with
    | none => rw [hq] at ez; cases ez
    | some q =>
      rw [hq] at ez
      cases ez
      obtain ⟨o, g, alt⟩ := dgetO h1 h2 h3 rx hq
      refine ⟨a, o, rfl, g, k _ fun _ => ?_⟩
      show Rep K _ (.bl _) (V.bl _)
      rw [getK_has]
      rcases alt with ⟨_, _, e1, rfl, _⟩ | ⟨e1, rfl⟩ <;> rw [e1] <;> exact rfl
  · cases ez
theorem opS_inK (hu : X.A.units + 1 < cLine) : OpS X (compareOp .In) inK := ⟨_, op_din hu, fun B H x y d e z Q ex rx ry ez q => in_red ex rx (.inl ry) ez q⟩
theorem opS_notInK (hu : X.A.units + 1 < cLine) : OpS X (compareOp .NotIn) notInK := ⟨_, op_dnotin hu, fun B H x y d e z Q ex rx ry ez q => notIn_red ex rx (.inl ry) ez q⟩
/-- x in d, d a name that is only looked at -/
def eInV (f : D → D → Option D) (a : M D) (j : Nat) : M D := bnd a fun x => bnd (ePk j) fun y => lft (f x y)
theorem inV_red {K : PySem.W.Frag} {ma : M D} {j : Nat} {f : D → D → Option D} {r : R2} (hr : ∀ {B H : Hp} {x y : V} {d e z : D} {Q : VK}, Ex B H → Rep K B d x → Pk K B H e y → f d e = some z → (∀ v, (∀ B, Rep K B z v) → Q v H) → r x y H Q) :
    ∀ σ H Q, tD K (eInV f ma j) σ H Q → tOp r (tD K ma) (tVar j) σ H Q := fun σ H Q ⟨G, B, env, d, env', ok, e, k⟩ => by
  obtain ⟨x, e1, q1, q2⟩ := bnd_some e
  obtain ⟨y, e2, q3, q4⟩ := bnd_some q2
  obtain ⟨z, q5, q6⟩ := lft_some q4
  cases q6
  refine tD_of ok q1 fun v B1 H1 ok1 ok1' r1 => ?_
  obtain ⟨ee, u, su, alt⟩ := pk_at ok1 q3
  subst ee
  exact ⟨u, su, hr ok1.sub r1 alt q5 fun w rw => k w B1 H1 ok1 (rw B1)⟩
theorem pd_inV {a : Expr} {ma : M D} {pos p1 : Pos} {j : Nat} {x : Str} (hu : X.A.units + 1 < cLine) (ha : PD X a ma) (hx : PE X (.Name x p1) (tVar j)) (hm : behindInMarks .In (.Name x p1) = false := by rfl) : PD X (.Compare a [.In] [.Name x p1] pos) (eInV inK ma j) :=
  pe_mono (pe_cmpR (op_din hu) ha hx hm) (inV_red fun ex rx ry ez k => in_red ex rx ry ez k)
theorem pdt_inV {a : Expr} {ma : M D} {pos p1 : Pos} {j : Nat} {x : Str} (hu : X.A.units + 1 < cLine) (ha : PD X a ma) (hx : PE X (.Name x p1) (tVar j)) (hm : behindInMarks .In (.Name x p1) = false := by rfl) : PDT X (.Compare a [.In] [.Name x p1] pos) (eTest (eInV inK ma j)) :=
  pt_mono (pt_cmpR (op_din hu) ha hx hm) (test_red (inV_red fun ex rx ry ez k => in_red ex rx ry ez k))
theorem pd_notInV {a : Expr} {ma : M D} {pos p1 : Pos} {j : Nat} {x : Str} (hu : X.A.units + 1 < cLine) (ha : PD X a ma) (hx : PE X (.Name x p1) (tVar j)) (hm : behindInMarks .NotIn (.Name x p1) = false := by rfl) : PD X (.Compare a [.NotIn] [.Name x p1] pos) (eInV notInK ma j) :=
  pe_mono (pe_cmpR (op_dnotin hu) ha hx hm) (inV_red fun ex rx ry ez k => notIn_red ex rx ry ez k)
theorem pdt_notInV {a : Expr} {ma : M D} {pos p1 : Pos} {j : Nat} {x : Str} (hu : X.A.units + 1 < cLine) (ha : PD X a ma) (hx : PE X (.Name x p1) (tVar j)) (hm : behindInMarks .NotIn (.Name x p1) = false := by rfl) : PDT X (.Compare a [.NotIn] [.Name x p1] pos) (eTest (eInV notInK ma j)) :=
  pt_mono (pt_cmpR (op_dnotin hu) ha hx hm) (test_red (inV_red fun ex rx ry ez k => notIn_red ex rx ry ez k))

def inM : D → D → Option D := orF (orF inS inQ) inK
def notInM : D → D → Option D := orF (orF notInS notInQ) notInK
theorem op_inM (hu : X.A.units + 1 < cLine) : OpS X (compareOp .In) inM := op_inD.or (opS_inK hu)
theorem op_notInM (hu : X.A.units + 1 < cLine) : OpS X (compareOp .NotIn) notInM := op_notInD.or (opS_notInK hu)
/-! ### d.get(k), d.get(k, x) -/
def get2D : D → D → D → Option D
  | .dct ks ds, y, z => (keyOf y).map fun k => (getK (ks.zip ds) k).getD z
  | _, _, _ => none
def get1D : D → D → Option D
  | .dct ks ds, y => (keyOf y).map fun k => (getK (ks.zip ds) k).getD .non
  | _, _ => none
def eGet2 (a b c : M D) : M D := bnd a fun x => bnd b fun y => bnd c fun z => lft (get2D x y z)
def eGet1 (a b : M D) : M D := bnd a fun x => bnd b fun y => lft (get1D x y)
/-- a dict in slot i -/
def ePkD (i : Nat) : M D := bnd (ePk i) fun x => if isDct x = true then ret x else stuck
theorem pkD_at {K : PySem.W.Frag} {G : Ent} {B H : Hp} {σ : L2.St} {env env' : Lvs} {i : Nat} {d : D} (h : Ok K G B H σ env) (e : ePkD i env = some (d, env')) : env' = env ∧ ∃ a, σ[i]? = some (some (.ref a)) ∧ IsD H a := by
  obtain ⟨x, e1, q1, q2⟩ := bnd_some e
  split at q2
  rotate_left
  · cases q2
  rename_i hd
  cases ret_some q2
  obtain ⟨ee, v, sv, alt⟩ := pk_at h q1
  cases d with
  | dct ks ds =>
    obtain ⟨a, kvs, rfl, h1, _⟩ := pk_dct h.sub alt
    exact ⟨ee, a, sv, .inl ⟨kvs, h1⟩⟩
  | _ => cases hd
def eGet2V (i : Nat) (b c : M D) : M D := bnd (ePkD i) fun _ => bnd b fun y => bnd c fun z => bnd (ePk i) fun x => lft (get2D x y z)
def eGet1V (i : Nat) (b : M D) : M D := bnd (ePkD i) fun _ => bnd b fun y => bnd (ePk i) fun x => lft (get1D x y)
theorem get2_some {x y z w : D} (h : get2D x y z = some w) : ∃ ks ds k, x = .dct ks ds ∧ keyOf y = some k ∧ w = (getK (ks.zip ds) k).getD z := by
  unfold get2D at h
  split at h
  · cases hq : keyOf y with
    | none => rw [hq] at h; cases h
    | some k => rw [hq] at h; cases h; exact ⟨_, _, k, rfl, rfl, rfl⟩
  · cases h
theorem get1_some {x y w : D} (h : get1D x y = some w) : ∃ ks ds k, x = .dct ks ds ∧ keyOf y = some k ∧ w = (getK (ks.zip ds) k).getD .non := by
  unfold get1D at h
  split at h
  · cases hq : keyOf y with
    | none => rw [hq] at h; cases h
    | some k => rw [hq] at h; cases h; exact ⟨_, _, k, rfl, rfl, rfl⟩
  · cases h
theorem rd_isD {H : Hp} {a : Addr} {kvs : List (L2.Key × V)} (h : Rd H a (.dK kvs)) : IsD H a := .inl ⟨kvs, h⟩
theorem getD_rep {K : PySem.W.Frag} {B : Hp} {o : Option D} {ov : Option V} {z : D} {u : V} (h : (∃ d v, o = some d ∧ ov = some v ∧ Rep K B d v) ∨ (o = none ∧ ov = none)) (r : Rep K B z u) : Rep K B (o.getD z) (ov.getD u) := by
  rcases h with ⟨d, v, rfl, rfl, r1⟩ | ⟨rfl, rfl⟩
  · exact r1
  · exact r
theorem pd_get2 {o e f : Expr} {apos cpos : Pos} {ma mb mc : M D} (hu : X.A.units + 1 < cLine) (ho : PD X o ma) (he : PD X e mb) (hf : PD X f mc) (m : M2 X o "get" apos e f cpos := by exact ⟨rfl, rfl, rfl, rfl⟩) : PD X (.Call (.Attribute o "get" apos) [e, f] [] cpos) (eGet2 ma mb mc) :=
  pe_mono (pe_dget2 hu ho he hf m) fun σ H Q ⟨G, B, env, d, env', ok, e, k⟩ => by
    obtain ⟨x, e1, q1, e⟩ := bnd_some e
    obtain ⟨y, e2, q2, e⟩ := bnd_some e
    obtain ⟨z, e3, q3, e⟩ := bnd_some e
    obtain ⟨w, q5, q6⟩ := lft_some e
    cases q6
    obtain ⟨ks, ds, key, rfl, hk, rfl⟩ := get2_some q5
    refine tD_of ok q1 fun v B1 H1 ok1 _ r1 => ?_
    obtain ⟨a, ob, kvs, rfl, hb, h2, h3⟩ := r1
    refine ⟨a, rfl, rd_isD (.inr ⟨ob, ok1.sub _ _ hb⟩), tD_of ok1 q2 fun u B2 H2 ok2 ok2' r2 => tD_of ok2 q3 fun t B3 H3 ok3 ok3' r3 => ?_⟩
    have ex := ok2'.mono.trans ok3'.mono
    obtain ⟨ov, g, alt⟩ := dgetO (K := X.K) (B := B3) (.inr ⟨ob, ok3.sub _ _ (ex _ _ hb)⟩) h2 (Reps.mono ex _ _ h3) (Rep.mono ok3'.mono _ _ r2) hk
    exact ⟨ov, g, k _ B3 H3 ok3 (getD_rep alt r3)⟩
theorem pd_get1 {o e : Expr} {apos cpos : Pos} {ma mb : M D} (hu : X.A.units + 1 < cLine) (ho : PD X o ma) (he : PD X e mb) (m : M1 X o "get" apos e cpos := by exact ⟨rfl, rfl, rfl, rfl⟩) : PD X (.Call (.Attribute o "get" apos) [e] [] cpos) (eGet1 ma mb) :=
  pe_mono (pe_dget1 hu ho he m) fun σ H Q ⟨G, B, env, d, env', ok, e, k⟩ => by
    obtain ⟨x, e1, q1, e⟩ := bnd_some e
    obtain ⟨y, e2, q2, e⟩ := bnd_some e
    obtain ⟨w, q5, q6⟩ := lft_some e
    cases q6
    obtain ⟨ks, ds, key, rfl, hk, rfl⟩ := get1_some q5
    refine tD_of ok q1 fun v B1 H1 ok1 _ r1 => ?_
    obtain ⟨a, ob, kvs, rfl, hb, h2, h3⟩ := r1
    refine ⟨a, rfl, rd_isD (.inr ⟨ob, ok1.sub _ _ hb⟩), tD_of ok1 q2 fun u B2 H2 ok2 ok2' r2 => ?_⟩
    obtain ⟨ov, g, alt⟩ := dgetO (K := X.K) (B := B2) (.inr ⟨ob, ok2.sub _ _ (ok2'.mono _ _ hb)⟩) h2 (Reps.mono ok2'.mono _ _ h3) r2 hk
    exact ⟨ov, g, k _ B2 H2 ok2 (getD_rep alt (show Rep X.K B2 .non .non from rfl))⟩
theorem pd_get2V {i : Nat} {x : Str} {p1 : Pos} {e f : Expr} {apos cpos : Pos} {mb mc : M D} (hu : X.A.units + 1 < cLine) (ho : PE X (.Name x p1) (tVar i)) (he : PD X e mb) (hf : PD X f mc) (m : M2 X (.Name x p1) "get" apos e f cpos := by exact ⟨rfl, rfl, rfl, rfl⟩) : PD X (.Call (.Attribute (.Name x p1) "get" apos) [e, f] [] cpos) (eGet2V i mb mc) :=
  pe_mono (pe_dget2 hu ho he hf m) fun σ H Q ⟨G, B, env, d, env', ok, e, k⟩ => by
    obtain ⟨x0, e0, q0, e⟩ := bnd_some e
    obtain ⟨y, e2, q2, e⟩ := bnd_some e
    obtain ⟨z, e3, q3, e⟩ := bnd_some e
    obtain ⟨x1, e4, q4, e⟩ := bnd_some e
    obtain ⟨w, q5, q6⟩ := lft_some e
    cases q6
    obtain ⟨ks, ds, key, rfl, hk, rfl⟩ := get2_some q5
    obtain ⟨ee, a, sv, hD⟩ := pkD_at ok q0
    subst ee
    refine ⟨.ref a, sv, ?_⟩
    refine ⟨a, rfl, hD, tD_of ok q2 fun u B2 H2 ok2 ok2' r2 => tD_of ok2 q3 fun t B3 H3 ok3 ok3' r3 => ?_⟩
    obtain ⟨ee, w, sw, alt⟩ := pk_at ok3 q4
    subst ee
    rw [sv] at sw
    cases sw
    obtain ⟨a', kvs, e1, h1, h2, h3⟩ := pk_dct ok3.sub alt
    cases e1
    obtain ⟨ov, g, alt⟩ := dgetO (K := X.K) (B := B3) h1 h2 h3 (Rep.mono ok3'.mono _ _ r2) hk
    exact ⟨ov, g, k _ B3 H3 ok3 (getD_rep alt r3)⟩
theorem pd_get1V {i : Nat} {x : Str} {p1 : Pos} {e : Expr} {apos cpos : Pos} {mb : M D} (hu : X.A.units + 1 < cLine) (ho : PE X (.Name x p1) (tVar i)) (he : PD X e mb) (m : M1 X (.Name x p1) "get" apos e cpos := by exact ⟨rfl, rfl, rfl, rfl⟩) : PD X (.Call (.Attribute (.Name x p1) "get" apos) [e] [] cpos) (eGet1V i mb) :=
  pe_mono (pe_dget1 hu ho he m) fun σ H Q ⟨G, B, env, d, env', ok, e, k⟩ => by
    obtain ⟨x0, e0, q0, e⟩ := bnd_some e
    obtain ⟨y, e2, q2, e⟩ := bnd_some e
    obtain ⟨x1, e4, q4, e⟩ := bnd_some e
    obtain ⟨w, q5, q6⟩ := lft_some e
    cases q6
    obtain ⟨ks, ds, key, rfl, hk, rfl⟩ := get1_some q5
    obtain ⟨ee, a, sv, hD⟩ := pkD_at ok q0
    subst ee
    refine ⟨.ref a, sv, ?_⟩
    refine ⟨a, rfl, hD, tD_of ok q2 fun u B2 H2 ok2 ok2' r2 => ?_⟩
    obtain ⟨ee, w, sw, alt⟩ := pk_at ok2 q4
    subst ee
    rw [sv] at sw
    cases sw
    obtain ⟨a', kvs, e1, h1, h2, h3⟩ := pk_dct ok2.sub alt
    cases e1
    obtain ⟨ov, g, alt⟩ := dgetO (K := X.K) (B := B2) h1 h2 h3 r2 hk
    exact ⟨ov, g, k _ B2 H2 ok2 (getD_rep alt (show Rep X.K B2 .non .non from rfl))⟩

/-! ### d[k] = x -/
def sPut (i : Nat) (key v : M D) : MS := fun e => match v e with
  | some (x, e1) => match ePkD i e1 with
    | some _ => match key e1 with
      | some (y, e2) => match e2[i]? with
        | some (.own p (.dct ks ds)) => match keyOf y with
          | some k => if lim ((ks.zip ds).length + 1) = true then some (.nx, e2.set i (.own p (dctM (putM (ks.zip ds) k x)))) else none
          | none => none
        | _ => none
      | none => none
    | none => none
  | none => none
theorem pds_put {i : Nat} {x : Str} {p1 pos tpos : Pos} {ke v : Expr} {mk mv : M D} (hu : X.A.units + 1 < cLine) (hx : PE X (.Name x p1) (tVar i)) (hk : PD X ke mk) (hv : PD X v mv) (hs : swapsWith v (some (.Subscript (.Name x p1) ke tpos)) pos.line X.env = pure false := by rfl) :
    PDS X (.Assign [.Subscript (.Name x p1) ke tpos] v pos) (sPut i mk mv) :=
  ps_mono (ps_dput hu hx hk hv hs) fun Z σ H ⟨G, B, env, o, env', ok, e, k⟩ => by
    unfold sPut at e
    split at e
    rotate_left
    · cases e
    rename_i xv e1 q1
    split at e
    rotate_left
    · cases e
    rename_i pk q2
    split at e
    rotate_left
    · cases e
    rename_i y e2 q3
    split at e
    rotate_left
    · cases e
    rename_i p ks ds q4
    split at e
    rotate_left
    · cases e
    rename_i key hkey
    split at e
    rotate_left
    · cases e
    rename_i hl
    cases e
    refine tD_of ok q1 fun u B1 H1 ok1 ok1' r1 => ?_
    obtain ⟨pd, pe⟩ := pk
    obtain ⟨ee, a, sv, hD⟩ := pkD_at ok1 q2
    refine ⟨.ref a, sv, tD_of ok1 q3 fun w B2 H2 ok2 ok2' r2 => ?_⟩
    obtain ⟨a', s1, s2, ⟨kvs, s3, s4, s5⟩, _⟩ := ok2.own i p _ q4
    rw [sv] at s1
    cases s1
    obtain ⟨z1, z2⟩ := zip_fst s4 s5
    have hlen : kvs.length = (ks.zip ds).length := by
      have h1 := congrArg List.length s4
      have h2 := congrArg List.length z1
      simp only [List.length_map] at h1 h2
      omega
    have hl' := lim_ok hl
    obtain ⟨t1, t2⟩ := putM_rel key (Rep.mono ok2'.mono _ _ r1) s4 s5
    rw [key_rep hkey r2]
    exact ⟨a, _, rfl, DPut.k (k := kk key) s3 (by omega), k _ B2 _ (ok2.mut q4 sv ⟨_, rfl, t1, t2⟩)⟩

/-! ### what is walked: items, values, keys -/
/-- the pairs as tuples -/
def itemsD : D → Option (List D)
  | .dct ks ds => some ((ks.zip ds).map fun p => .tup [kD p.1, p.2])
  | _ => none
def valuesD : D → Option (List D)
  | .dct _ ds => some ds
  | _ => none
def keysD : D → Option (List D)
  | .dct ks _ => some (ks.map kD)
  | _ => none
def iMeth (f : D → Option (List D)) (m : M D) : M (List D) := bnd m fun d => lft (f d)
theorem kD_rep {K : PySem.W.Frag} {B : Hp} (k : KD) : Rep K B (kD k) (kV (kk k)) := by cases k <;> exact rfl
/-- the i-th pair of a table -/
theorem zip_at {K : PySem.W.Frag} {B : Hp} {kvs : List (L2.Key × V)} {ks : List KD} {ds : List D} {i : Nat} {p : KD × D} (e : kvs.map (·.1) = ks.map kk) (h : Reps K B ds (kvs.map (·.2))) (hp : (ks.zip ds)[i]? = some p) : ∃ v, kvs[i]? = some (kk p.1, v) ∧ Rep K B p.2 v := by
  obtain ⟨z1, z2⟩ := zip_fst e h
  have h1 : ks[i]? = some p.1 := by rw [← z1, List.getElem?_map, hp]; rfl
  have h2 : ds[i]? = some p.2 := by rw [← z2, List.getElem?_map, hp]; rfl
  obtain ⟨v, g1, g2⟩ := h.get h2
  rw [List.getElem?_map] at g1
  have h3 := congrArg (fun l => l[i]?) e
  simp only [List.getElem?_map, h1, Option.map_some] at h3
  cases q : kvs[i]? with
  | none => rw [q] at g1; cases g1
  | some w =>
    rw [q] at g1 h3
    have e1 : w.2 = v := Option.some.inj g1
    have e2 : w.1 = kk p.1 := Option.some.inj h3
    exact ⟨v, by rw [← e1, ← e2], g2⟩
theorem zip_len {K : PySem.W.Frag} {B : Hp} {kvs : List (L2.Key × V)} {ks : List KD} {ds : List D} (e : kvs.map (·.1) = ks.map kk) (h : Reps K B ds (kvs.map (·.2))) : (ks.zip ds).length = kvs.length ∧ ks.length = kvs.length ∧ ds.length = kvs.length := by
  have h1 := h.length
  have h2 := congrArg List.length e
  simp only [List.length_map] at h1 h2
  exact ⟨by rw [List.length_zip]; omega, by omega, by omega⟩
theorem walks_items {K : PySem.W.Frag} {a : Addr} {o : Obj} {kvs : List (L2.Key × V)} {ks : List KD} {ds : List D} {B0 : Hp} (hB : B0 a = some (.frz o (.dK kvs))) (hk : kvs.map (·.1) = ks.map kk) (hv : Reps K B0 ds (kvs.map (·.2))) : Walks K (Iti a o kvs) B0 ((ks.zip ds).map fun p => .tup [kD p.1, p.2]) := fun G B H σ env i ex ok => by
  have hH : H a = some (.frz o (.dK kvs)) := ok.sub _ _ (ex _ _ hB)
  obtain ⟨l1, l2, l3⟩ := zip_len hk hv
  refine ⟨fun d e => ?_, fun h => ⟨hH, by rw [List.length_map] at h; omega⟩⟩
  rw [List.getElem?_map] at e
  cases q : (ks.zip ds)[i]? with
  | none => rw [q] at e; cases e
  | some p =>
    rw [q] at e
    cases e
    obtain ⟨v, g1, g2⟩ := zip_at hk (Reps.mono ex _ _ hv) q
    have hi := (List.getElem?_eq_some_iff.mp g1).1
    refine ⟨⟨hH, hi⟩, fun x H' y => ?_⟩
    obtain ⟨T, k', v', h1, rfl, hT, rfl⟩ := y
    rw [g1] at h1
    cases h1
    have hBT := fresh_back ok.sub hT
    exact ⟨_, ok.lay hT, ok.self.lay hT, T, _, rfl, SqT.of upd_same, kV (kk p.1), [v], rfl, kD_rep _, Reps.one (Rep.mono (Ex.new hBT) _ _ g2)⟩
theorem walks_values {K : PySem.W.Frag} {a : Addr} {o : Obj} {kvs : List (L2.Key × V)} {ds : List D} {B0 : Hp} (hB : B0 a = some (.frz o (.dK kvs))) (hv : Reps K B0 ds (kvs.map (·.2))) : Walks K (Itd a o kvs) B0 ds := fun G B H σ env i ex ok => by
  have hH : H a = some (.frz o (.dK kvs)) := ok.sub _ _ (ex _ _ hB)
  have l1 := hv.length
  rw [List.length_map] at l1
  refine ⟨fun d e => ?_, fun h => ⟨hH, by omega⟩⟩
  obtain ⟨v, g1, g2⟩ := (Reps.mono ex _ _ hv).get e
  have hi := (List.getElem?_eq_some_iff.mp e).1
  refine ⟨⟨hH, by omega⟩, fun x H' y => ?_⟩
  obtain ⟨rfl, k', h1⟩ := y
  rw [List.getElem?_map, h1] at g1
  have g1 : x = v := Option.some.inj g1
  subst g1
  exact ⟨B, ok, ok.self, g2⟩
theorem pdi_items {elts : List Expr} {kk' : Nat} {tpos apos cpos : Pos} {e : Expr} {m : M D} (h : PD X e m) (hbase : attributeBase e "items" X.env (eval e X.env) = eval e X.env := by rfl) (hline : (apos.endLine == cpos.line) = true := by rfl) :
    PDI X (.Tuple elts kk' tpos) (.Call (.Attribute e "items" apos) [] [] cpos) (iMeth itemsD m) :=
  pi_mono (pi_items h hbase hline) fun σ H R ⟨G, B, env, ds, env', ok, e, k⟩ => by
    obtain ⟨d, e1, q1, q2⟩ := bnd_some e
    obtain ⟨z, q5, q6⟩ := lft_some q2
    cases q6
    cases d with
    | dct ks vs =>
      cases q5
      refine tD_of ok q1 fun v B1 H1 ok1 _ r => ?_
      obtain ⟨a, o, kvs, rfl, hb, hk, hv⟩ := r
      exact ⟨a, o, kvs, rfl, ok1.sub _ _ hb, k _ B1 H1 ok1 (walks_items hb hk hv)⟩
    | _ => cases q5
theorem pdi_values {tg : Expr} {apos cpos : Pos} {e : Expr} {m : M D} (h : PD X e m) (hbase : attributeBase e "values" X.env (eval e X.env) = eval e X.env := by rfl) (hline : (apos.endLine == cpos.line) = true := by rfl) :
    PDI X tg (.Call (.Attribute e "values" apos) [] [] cpos) (iMeth valuesD m) :=
  pi_mono (pi_values h hbase hline) fun σ H R ⟨G, B, env, ds, env', ok, e, k⟩ => by
    obtain ⟨d, e1, q1, q2⟩ := bnd_some e
    obtain ⟨z, q5, q6⟩ := lft_some q2
    cases q6
    cases d with
    | dct ks vs =>
      cases q5
      refine tD_of ok q1 fun v B1 H1 ok1 _ r => ?_
      obtain ⟨a, o, kvs, rfl, hb, hk, hv⟩ := r
      exact ⟨a, o, kvs, rfl, ok1.sub _ _ hb, k _ B1 H1 ok1 (walks_values hb hv)⟩
    | _ => cases q5
theorem pdi_keys {tg : Expr} {apos cpos : Pos} {e : Expr} {m : M D} (h : PD X e m) (hbase : attributeBase e "keys" X.env (eval e X.env) = eval e X.env := by rfl) (hline : (apos.endLine == cpos.line) = true := by rfl) :
    PDI X tg (.Call (.Attribute e "keys" apos) [] [] cpos) (iMeth keysD m) :=
  pi_mono (pi_keysM h hbase hline) fun σ H R ⟨G, B, env, ds, env', ok, e, k⟩ => by
    obtain ⟨d, e1, q1, q2⟩ := bnd_some e
    obtain ⟨z, q5, q6⟩ := lft_some q2
    cases q6
    cases d with
    | dct ks vs =>
      cases q5
      refine tD_of ok q1 fun v B1 H1 ok1 _ r => ?_
      obtain ⟨a, o, kvs, rfl, hb, hk, hv⟩ := r
      exact ⟨a, o, kvs, rfl, ok1.sub _ _ hb, k _ B1 H1 ok1 (walks_keys hb hk)⟩
    | _ => cases q5

/-! ### dict comprehensions -/
def dcL (vs : List Nat) (g : D → Lvs → Option Lvs) (t : M Bool) (fk fv : M D) : List D → List (KD × D) → M (List (KD × D))
  | [], acc, e => some (acc, e)
  | d :: ds, acc, e => match g d e with
    | some e1 => match t e1 with
      | some (true, e2) => match fk e2 with
        | some (y, e3) => match fv e3 with
          | some (z, e4) => match keyOf y with
            | some k => if lim (acc.length + 1) = true then dcL vs g t fk fv ds (putM acc k z) (wipeE e4 vs) else none
            | none => none
          | none => none
        | none => none
      | some (false, e2) => dcL vs g t fk fv ds acc (wipeE e2 vs)
      | none => none
    | none => none
def eDc (vs : List Nat) (m : M (List D)) (g : D → Lvs → Option Lvs) (t : M Bool) (fk fv : M D) : M D := bnd m fun ds => fun e => match dcL vs g t fk fv ds [] (wipeE e vs) with
  | some (rs, e1) => some (dctM rs, e1)
  | none => none
theorem zip_self : ∀ m : List (KD × D), (m.map (·.1)).zip (m.map (·.2)) = m
  | [] => rfl
  | p :: m => by rw [List.map_cons, List.map_cons, List.zip_cons_cons, zip_self m]
theorem dc_red {K : PySem.W.Frag} {m : M (List D)} {vs : List Nat} {g : D → Lvs → Option Lvs} {t : M Bool} {fk fv : M D} : ∀ σ H Q, tF K (eDc vs m g t fk fv) σ H Q → tDc (tI K m) (tG K vs g) (tT K t) (tD K fk) (tD K fv) vs σ H Q := fun σ H Q ⟨G, B, env, d, env', ok, e, k⟩ => by
  obtain ⟨ds, e1, q, e⟩ := bnd_some e
  split at e
  rotate_left
  · cases e
  rename_i rs e2 hl
  cases e
  refine ⟨Ent.at B H σ env, B, env, ds, e1, ok.self, q, fun J B1 H1 ok1' wk D0 hD => ?_⟩
  have ok1 := ok.comp ok1'
  have gD : G.H D0 = none := ok1.live D0 hD
  have start : Ok K G B1 (upd H1 D0 (.dK [])) σ (wipeE e1 vs) := (ok1.tmp hD).unblk rfl
  refine ⟨fun i n H => ∃ B env, ∃ (acc : List (KD × D)) (us : List (L2.Key × V)), Ok K G B H σ env ∧ (∀ v ∈ vs, ∀ x, env[v]? = some x → x = .no) ∧ Ex B1 B ∧ n = ds.length - i ∧ i ≤ ds.length ∧ H D0 = some (.dK us) ∧ us.map (·.1) = (acc.map (·.1)).map kk ∧ Reps K B (acc.map (·.2)) (us.map (·.2)) ∧ B D0 = none ∧ ¬ IsOwn σ env D0 ∧ dcL vs g t fk fv (ds.drop i) acc env = some (rs, env'),
    ⟨ds.length, B1, wipeE e1 vs, [], [], start, fun v hv x hx => Classical.byContradiction fun c => wipeE_no hx c hv, Ex.refl _, rfl, Nat.zero_le _, upd_same, rfl, rfl, fresh_back ok1.sub hD, fun ⟨i, p, d, x1, x2⟩ => ?_, hl⟩, fun i n H hW => ?_⟩
  · obtain ⟨a, r1, r2, r3, r4⟩ := start.own i p d x1
    rw [x2] at r1; cases r1
    have hno := wipeE_no x1 (fun z => nomatch z)
    have : (e1)[i]? = some (.own p d) := by
      have : ∀ vs : List Nat, i ∉ vs → (wipeE e1 vs)[i]? = e1[i]? := by
        intro vs
        induction vs with
        | nil => intro _; rfl
        | cons w ws ih =>
          intro hn
          unfold wipeE
          rw [List.getElem?_set_ne (fun z => hn (by rw [z]; exact List.mem_cons_self)), ih fun z => hn (List.mem_cons_of_mem _ z)]
      rw [← this vs hno]; exact x1
    exact ok1.notOwn hD ⟨i, p, d, this, x2⟩
  obtain ⟨B2, en, acc, us, ok2, hno, ex2, hn, hi, hH, hK, hR, hB, hO, he⟩ := hW
  obtain ⟨go, stop⟩ := wk G B2 H σ en i ex2 ok2
  by_cases hlt : i < ds.length
  · have hd : ds[i]? = some ds[i] := List.getElem?_eq_getElem hlt
    obtain ⟨g1, g2⟩ := go _ hd
    rw [List.drop_eq_getElem_cons hlt] at he
    unfold dcL at he
    split at he
    rotate_left
    · cases he
    rename_i en1 hg
    refine .inr ⟨g1, fun H => ∃ B env, ∃ (acc : List (KD × D)) (us : List (L2.Key × V)), Ok K G B H σ env ∧ (∀ v ∈ vs, ∀ x, env[v]? = some x → x = .no) ∧ Ex B1 B ∧ H D0 = some (.dK us) ∧ us.map (·.1) = (acc.map (·.1)).map kk ∧ Reps K B (acc.map (·.2)) (us.map (·.2)) ∧ B D0 = none ∧ ¬ IsOwn σ env D0 ∧ dcL vs g t fk fv (ds.drop (i + 1)) acc env = some (rs, env'),
      fun H' ⟨B3, en3, acc3, us3, a1, a2, a3, a4, a5, a6, a7, a8, a9⟩ => ⟨ds.length - (i + 1), by omega, B3, en3, acc3, us3, a1, a2, a3, rfl, hlt, a4, a5, a6, a7, a8, a9⟩, fun x H' y => ?_⟩
    obtain ⟨B3, ok3, ok3', rx⟩ := g2 x H' y
    obtain ⟨s3, b3, o3⟩ := ok3'.stay hH hB hO
    have ex3 : Ex B1 B3 := ex2.trans ok3'.mono
    -- into the block
    have okb : Ok K G B3 H' (L2.wipe σ vs) en := by
      refine ok3.swap (wipe_length _ _) fun j x e hx => ?_
      by_cases hj : j ∈ vs
      · exact absurd (hno j hj x e) hx
      · exact wipe_out hj
    have ob : ¬ IsOwn (L2.wipe σ vs) en D0 := fun ⟨j, p, d, x1, x2⟩ => by
      by_cases hj : j ∈ vs
      · cases hno j hj _ x1
      · rw [wipe_out hj] at x2
        exact o3 ⟨j, p, d, x1, x2⟩
    refine ⟨Ent.at B3 H' (L2.wipe σ vs) en, B3, en, _, en1, okb.self, rx, hg, fun σ4 B4 H4 ok4' hw4 => ?_⟩
    have ok4 := okb.comp ok4'
    obtain ⟨s4, b4, o4⟩ := ok4'.stay s3 b3 ob
    have ex4 : Ex B1 B4 := ex3.trans ok4'.mono
    have hw4 : L2.wipe σ4 vs = L2.wipe σ vs := hw4.trans (by
      have : ∀ (us vs : List Nat), (∀ v ∈ us, v ∈ vs) → L2.wipe (L2.wipe σ us) vs = L2.wipe σ vs := by
        intro us
        induction us with
        | nil => intro vs _; rfl
        | cons w ws ih =>
          intro vs hs
          show L2.wipe ((L2.wipe σ ws).set w none) vs = _
          rw [wipe_set (hs w List.mem_cons_self)]
          exact ih vs fun v hv => hs v (List.mem_cons_of_mem _ hv)
      exact this vs vs fun _ z => z)
    refine ⟨hw4.trans rfl, ?_⟩
    split at he
    · rename_i en2 ht
      refine tT_of ok4 ht fun B5 H5 ok5 ok5' => ?_
      obtain ⟨s5, b5, o5⟩ := ok5'.stay s4 b4 o4
      rw [if_pos rfl]
      split at he
      rotate_left
      · cases he
      rename_i y en3 hf
      split at he
      rotate_left
      · cases he
      rename_i z en4 hf2
      split at he
      rotate_left
      · cases he
      rename_i key hkey
      split at he
      rotate_left
      · cases he
      rename_i hz
      refine tD_of ok5 hf fun v B6 H6 ok6 ok6' r6 => ?_
      obtain ⟨s6, b6, o6⟩ := ok6'.stay s5 b5 o5
      refine tD_of ok6 hf2 fun w B7 H7 ok7 ok7' r7 => ?_
      obtain ⟨s7, b7, o7⟩ := ok7'.stay s6 b6 o6
      have ex7 : Ex B1 B7 := ((ex4.trans ok5'.mono).trans ok6'.mono).trans ok7'.mono
      have ru : Reps K B7 (acc.map (·.2)) (us.map (·.2)) := Reps.mono ((((ok3'.mono.trans ok4'.mono).trans ok5'.mono).trans ok6'.mono).trans ok7'.mono) _ _ hR
      obtain ⟨l1, l2, l3⟩ := zip_len hK hR
      have hlen : us.length = acc.length := by rw [← l2, List.length_map]
      have hz' := lim_ok hz
      obtain ⟨t1, t2⟩ := putM_rel key r7 hK ru
      rw [zip_self] at t1 t2
      refine ⟨us, kk key, key_rep hkey r6, s7, by omega, B7, wipeE en4 vs, putM acc key z, putK us (kk key) w, (ok7.tmpSet b7 gD o7).unblk hw4, fun v hv x hx => Classical.byContradiction fun c => wipeE_no hx c hv, ex7, upd_same, t1, t2, b7, fun ⟨j, p, d, x1, x2⟩ => ?_, he⟩
      have okE : Ok K G B7 H7 σ (wipeE en4 vs) := ok7.unblk hw4
      obtain ⟨a, r1, r2, r3, r4⟩ := okE.own j p d x1
      have hj := wipeE_no x1 (fun z => nomatch z)
      have h1 : en4[j]? = some (.own p d) := by
        have : ∀ vs : List Nat, j ∉ vs → (wipeE en4 vs)[j]? = en4[j]? := by
          intro vs
          induction vs with
          | nil => intro _; rfl
          | cons w ws ih =>
            intro hn
            unfold wipeE
            rw [List.getElem?_set_ne (fun z => hn (by rw [z]; exact List.mem_cons_self)), ih fun z => hn (List.mem_cons_of_mem _ z)]
        rw [← this vs hj]; exact x1
      have h2 : σ4[j]? = some (some (.ref D0)) := by
        rw [← wipe_out (σ := σ4) hj, hw4, wipe_out hj]; exact x2
      exact o7 ⟨j, p, d, h1, h2⟩
    · rename_i en2 ht
      refine tT_of ok4 ht fun B5 H5 ok5 ok5' => ?_
      obtain ⟨s5, b5, o5⟩ := ok5'.stay s4 b4 o4
      rw [if_neg Bool.false_ne_true]
      refine ⟨B5, wipeE en2 vs, acc, us, ok5.unblk hw4, fun v hv x hx => Classical.byContradiction fun c => wipeE_no hx c hv, ex4.trans ok5'.mono, s5, hK, Reps.mono ((ok3'.mono.trans ok4'.mono).trans ok5'.mono) _ _ hR, b5, fun ⟨j, p, d, x1, x2⟩ => ?_, he⟩
      have hj := wipeE_no x1 (fun z => nomatch z)
      have h1 : en2[j]? = some (.own p d) := by
        have : ∀ vs : List Nat, j ∉ vs → (wipeE en2 vs)[j]? = en2[j]? := by
          intro vs
          induction vs with
          | nil => intro _; rfl
          | cons w ws ih =>
            intro hn
            unfold wipeE
            rw [List.getElem?_set_ne (fun z => hn (by rw [z]; exact List.mem_cons_self)), ih fun z => hn (List.mem_cons_of_mem _ z)]
        rw [← this vs hj]; exact x1
      have h2 : σ4[j]? = some (some (.ref D0)) := by
        rw [← wipe_out (σ := σ4) hj, hw4, wipe_out hj]; exact x2
      exact o5 ⟨j, p, d, h1, h2⟩
    · cases he
  · have hi' : i = ds.length := by omega
    subst hi'
    rw [List.drop_length] at he
    cases he
    exact .inl ⟨stop (Nat.le_refl _), k D0 B2 H ok2 hB (by rw [hH]; exact ⟨us, rfl, hK, hR⟩) gD hO⟩
theorem pf_dc (own : List (Str × Nat)) {kx vx tg iter : Expr} {ifs : List Expr} {scope : Scope} {pos : Pos} {m : M (List D)} {g : D → Lvs → Option Lvs} {t : M Bool} {fk fv : M D} (hN : X.N.Nodup) (hi : PDI X tg iter m) (ok : BlkOk X.N X.env.scope scope own)
    (hg : Blk X scope fun Y => PDG Y (own.map fun (x : Str × Nat) => x.2) tg g) (ht : Blk X scope fun Y => PDTs Y ifs t) (hk : Blk X scope fun Y => PD Y kx fk) (he : Blk X scope fun Y => PD Y vx fv) (hc : X.calm = true := by rfl) (hs : ∀ x, foldedSetIterable iter X.env x = pure x := by intro _; rfl) :
    PF X (.DictComp kx vx [⟨tg, iter, ifs, 0⟩] scope pos) (eDc (own.map fun (x : Str × Nat) => x.2) m g t fk fv) := pe_mono (pe_dc (g := tG X.K (own.map fun (x : Str × Nat) => x.2) g) (tt := tT X.K t) (tk := tD X.K fk) (tv := tD X.K fv) hc hN hi ok (fun s H C cl fp => hg s H C cl fp) (fun s H C cl fp => ht s H C cl fp) (fun s H C cl fp => hk s H C cl fp) (fun s H C cl fp => he s H C cl fp) hs) dc_red
/-- x = {..} on one line: the name takes the dict within the block -/
theorem ps_setDc {i : Nat} {y : Str} {py : Pos} {kx vx tg iter : Expr} {ifs : List Expr} {scope : Scope} {own : List (Str × Nat)} {pos spos : Pos} {wi : TI} {g : TG} {tt : TT} {tk tv : TE} (hc : X.calm = true) (hN : X.N.Nodup) (hy : X.N[i]? = some y) (hyl : X.env.scope.names.lookup y = some .local)
    (hsw : swapsWith (.DictComp kx vx [⟨tg, iter, ifs, 0⟩] scope pos) (some (.Name y py)) spos.line X.env = pure true) (hi : PI X tg iter wi) (ok : BlkOk X.N X.env.scope scope own)
    (hg : ∀ (s : Shared) (H : Hp) (C : Addr) (cl : List (Str × Addr)) (fp : List Addr), PG (X.blk s H scope (compEnvC scope cl C X.env) fp) tg g) (ht : ∀ (s : Shared) (H : Hp) (C : Addr) (cl : List (Str × Addr)) (fp : List Addr), PTs (X.blk s H scope (compEnvC scope cl C X.env) fp) ifs tt)
    (hk : ∀ (s : Shared) (H : Hp) (C : Addr) (cl : List (Str × Addr)) (fp : List Addr), PE (X.blk s H scope (compEnvC scope cl C X.env) fp) kx tk)
    (he : ∀ (s : Shared) (H : Hp) (C : Addr) (cl : List (Str × Addr)) (fp : List Addr), PE (X.blk s H scope (compEnvC scope cl C X.env) fp) vx tv) (hs : ∀ x, foldedSetIterable iter X.env x = pure x := by intro _; rfl) :
    PS X (.Assign [.Name y py] (.DictComp kx vx [⟨tg, iter, ifs, 0⟩] scope pos) spos) (tAsg (tDc wi g tt tk tv (own.map (·.2))) (gName i)) := by
  refine ⟨fun pins s σ H D I h => ?_⟩
  rw [exec_Assign_Name_used _ _ _ _ hsw]
  refine wpAny_bind (wpAny_standAt (wpAny_bind ?_))
  show wpAny _ X.A (do let _ ← comprehension (.DictComp kx vx [⟨tg, iter, ifs, 0⟩] scope pos) scope X.env (firstIterPos [⟨tg, iter, ifs, 0⟩] pos) newDict false (eval iter X.env) (some (assign (.Name y py) X.env))) _ _ s
  have h : tDc wi g tt tk tv (own.map (·.2)) σ H (fun x H1 => gName i x σ H1 D.nx) := h
  refine wpAny_bind (thn (dc_core (Qf := fun _ s' => SP X pins D .next s') hc hN I hi ok hg ht hk he hs h fun L C s' m H' I' q hn f => ?_) fun _ s' hq => wpAny_pure (wpAny_pure hq))
  show wpAny _ _ (assign (.Name y py) X.env (.ref L)) _ _ _
  refine wpAny_assign_Name (store_ok2 (v := V.ref L) I' hN hy (.inl hyl) rfl (fun s2 I2 ⟨a, sb, ha⟩ => ?_) (.inr hyl))
  obtain ⟨f0, f1, f2, f3, f4, f5⟩ := f
  have haC : C ≠ a := by
    rcases ha with z | z
    · rw [z]; exact f1
    · exact fun e => f4 y a z e.symm
  refine ⟨m, hn.sameBut sb haC, fun h3 sb3 => ?_⟩
  exact ⟨_, H', I2.turned (t' := s2.toks) (fun b o hb e => (sb3.2 b hb).trans e) f0 f1 f3 f4 f5, q⟩
theorem swD_true {kx vx : Expr} {gs : List Comprehension} {scope : Scope} {pos py : Pos} {y : Str} {l : Nat} {env : Env} (hk : env.scope.kind = .function) (hy : env.scope.names.lookup y = some .local) (hl : (py.line == pos.line) = true)
    (ha : (scope.names.any fun (n, k) => n == y && (k == .local || k == .cell)) = false) : swapsWith (.DictComp kx vx gs scope pos) (some (.Name y py)) l env = pure true := by
  have ky : env.kindOf y = some .local := hy
  have hb : env.blockKind = .function := by unfold Env.blockKind; rw [hk]; rfl
  unfold swapsWith
  simp only [hb, ky, ha, Expr.pos, hl]
  rfl
/-- x = {..}: x's own dict -/
theorem pds_setDc (i : Nat) (own : List (Str × Nat)) {y : Str} {py : Pos} {kx vx tg iter : Expr} {ifs : List Expr} {scope : Scope} {pos spos : Pos} {m : M (List D)} {g : D → Lvs → Option Lvs} {t : M Bool} {fk fv : M D} (hN : X.N.Nodup) (hi : PDI X tg iter m) (ok : BlkOk X.N X.env.scope scope own)
    (hg : Blk X scope fun Y => PDG Y (own.map fun (x : Str × Nat) => x.2) tg g) (ht : Blk X scope fun Y => PDTs Y ifs t) (hk : Blk X scope fun Y => PD Y kx fk) (he : Blk X scope fun Y => PD Y vx fv) (hsw : swapsWith (.DictComp kx vx [⟨tg, iter, ifs, 0⟩] scope pos) (some (.Name y py)) spos.line X.env = pure true)
    (hy : X.N[i]? = some y := by rfl) (hyl : X.env.scope.names.lookup y = some .local := by rfl) (hc : X.calm = true := by rfl) (hs : ∀ x, foldedSetIterable iter X.env x = pure x := by intro _; rfl) :
    PDS X (.Assign [.Name y py] (.DictComp kx vx [⟨tg, iter, ifs, 0⟩] scope pos) spos) (sOwn i (eDc (own.map fun (x : Str × Nat) => x.2) m g t fk fv)) :=
  ps_mono (ps_setDc (g := tG X.K (own.map fun (x : Str × Nat) => x.2) g) (tt := tT X.K t) (tk := tD X.K fk) (tv := tD X.K fv) hc hN hy hyl hsw hi ok (fun s H C cl fp => hg s H C cl fp) (fun s H C cl fp => ht s H C cl fp) (fun s H C cl fp => hk s H C cl fp) (fun s H C cl fp => he s H C cl fp) hs) fun Z σ H q => dc_red σ H (fun x H1 => gName i x σ H1 Z.nx) (own_red Z σ H q)
end
end Dv
/-! Displays of dicts, xs.pop(i), further methods of texts. -/
namespace Dv
open PySem PySem.Spec PyProof.Rows L2 Evl
section
variable {X : Cx}
/-! ### {k: v, ..} -/
def pPairs : List (M D × M D) → M (List (D × D))
  | [] => ret []
  | (k, v) :: r => bnd k fun x => bnd v fun y => bnd (pPairs r) fun ps => ret ((x, y) :: ps)
def keyPairs : List (D × D) → Option (List (KD × D))
  | [] => some []
  | (x, y) :: ps => match keyOf x, keyPairs ps with
    | some k, some m => some ((k, y) :: m)
    | _, _ => none
def mergeM (m : List (KD × D)) : List (KD × D) := m.foldl (fun acc p => putM acc p.1 p.2) []
def eDisp (ms : List (M D × M D)) : M D := bnd (pPairs ms) fun ps => if ps.length ≤ 15 then lft ((keyPairs ps).map fun m => dctM (mergeM m)) else stuck
def PDPs (X : Cx) (pos : Pos) (keys : List (Option Expr)) (values : List Expr) (ms : List (M D × M D)) : Prop := PPs X pos keys values (ms.map fun p => (tD X.K p.1, tD X.K p.2))
theorem pdps_nil {pos : Pos} : PDPs X pos [] [] [] := pps_nil
theorem pdps_cons {pos : Pos} {k v : Expr} {ks : List (Option Expr)} {vs : List Expr} {mk mv : M D} {ms : List (M D × M D)} (hk : PD X k mk) (hv : PD X v mv) (hr : PDPs X pos ks vs ms) : PDPs X pos (some k :: ks) (v :: vs) ((mk, mv) :: ms) := pps_cons hk hv hr
/-- pairs as values -/
def RepP (K : PySem.W.Frag) (B : Hp) : List (D × D) → List (V × V) → Prop
  | [], vs => vs = []
  | p :: ps, vs => ∃ x y r, vs = (x, y) :: r ∧ Rep K B p.1 x ∧ Rep K B p.2 y ∧ RepP K B ps r
theorem pairs_red {K : PySem.W.Frag} {σ : L2.St} : ∀ {ms : List (M D × M D)} {G : Ent} {B H : Hp} {env env' : Lvs} {ps : List (D × D)} {Q : List (V × V) → Hp → Prop}, Ok K G B H σ env → pPairs ms env = some (ps, env') →
    (∀ vs B' H', Ok K G B' H' σ env' → Ok K (Ent.at B H σ env) B' H' σ env' → RepP K B' ps vs → Q vs H') → tPairs (ms.map fun p => (tD K p.1, tD K p.2)) σ H Q
  | [], G, B, H, env, env', ps, Q, ok, e, k => by
    cases ret_some e
    exact k [] B H ok ok.self rfl
  | (mk, mv) :: ms, G, B, H, env, env', ps, Q, ok, e, k => by
    obtain ⟨x, e1, q1, e⟩ := bnd_some e
    obtain ⟨y, e2, q2, e⟩ := bnd_some e
    obtain ⟨rs, e3, q3, e⟩ := bnd_some e
    cases ret_some e
    refine tD_of ok q1 fun v B1 H1 ok1 ok1' r1 => tD_of ok1 q2 fun w B2 H2 ok2 ok2' r2 => pairs_red ok2 q3 fun vs B3 H3 ok3 ok3' r3 => ?_
    exact k _ B3 H3 ok3 ((ok1'.comp ok2').comp ok3') ⟨v, w, vs, rfl, Rep.mono (ok2'.mono.trans ok3'.mono) _ _ r1, Rep.mono ok3'.mono _ _ r2, r3⟩
theorem keyPairs_rep {K : PySem.W.Frag} {B : Hp} : ∀ {ps : List (D × D)} {vs : List (V × V)} {m : List (KD × D)}, keyPairs ps = some m → RepP K B ps vs → ∃ kvs : List (L2.Key × V), vs = kvs.map (fun kv => (kV kv.1, kv.2)) ∧ kvs.map (·.1) = (m.map (·.1)).map kk ∧ Reps K B (m.map (·.2)) (kvs.map (·.2)) ∧ kvs.length = ps.length
  | [], _, m, h, r => by
    cases h
    cases r
    exact ⟨[], rfl, rfl, rfl, rfl⟩
  | (x, y) :: ps, _, m, h, r => by
    unfold keyPairs at h
    split at h
    · rename_i k m' hk hm
      cases h
      obtain ⟨v, w, rs, rfl, r1, r2, r3⟩ := r
      obtain ⟨kvs, h1, h2, h3, h4⟩ := keyPairs_rep hm r3
      refine ⟨(kk k, w) :: kvs, ?_, ?_, ⟨w, _, rfl, r2, h3⟩, by rw [List.length_cons, List.length_cons, h4]⟩
      · rw [List.map_cons, h1, key_rep hk r1]
      · rw [List.map_cons, List.map_cons, List.map_cons, h2]
    · cases h
theorem merge_rel {K : PySem.W.Frag} {B : Hp} : ∀ {m : List (KD × D)} {kvs : List (L2.Key × V)} {acc : List (KD × D)} {us : List (L2.Key × V)}, kvs.map (·.1) = (m.map (·.1)).map kk → Reps K B (m.map (·.2)) (kvs.map (·.2)) → us.map (·.1) = (acc.map (·.1)).map kk → Reps K B (acc.map (·.2)) (us.map (·.2)) →
    (mergeK us kvs).map (·.1) = ((m.foldl (fun acc p => putM acc p.1 p.2) acc).map (·.1)).map kk ∧ Reps K B ((m.foldl (fun acc p => putM acc p.1 p.2) acc).map (·.2)) ((mergeK us kvs).map (·.2))
  | [], [], acc, us, _, _, h3, h4 => ⟨h3, h4⟩
  | [], _ :: _, _, _, h1, _, _, _ => by cases h1
  | _ :: _, [], _, _, h1, _, _, _ => by cases h1
  | p :: m, q :: kvs, acc, us, h1, h2, h3, h4 => by
    rw [List.map_cons, List.map_cons, List.map_cons] at h1
    injection h1 with g1 g2
    obtain ⟨v, r, e1, r1, r2⟩ := h2
    rw [List.map_cons] at e1
    injection e1 with e2 e3
    subst e3
    obtain ⟨t1, t2⟩ := putM_rel p.1 r1 h3 h4
    rw [zip_self] at t1 t2
    have := merge_rel g2 r2 t1 t2
    unfold mergeK at this ⊢
    rw [List.foldl_cons, List.foldl_cons, g1, e2]
    exact this
theorem pf_disp {pos : Pos} {keys : List (Option Expr)} {values : List Expr} {ms : List (M D × M D)} (h : PDPs X pos keys values ms) (hall : keys.all (·.isSome) = true := by rfl) (hl : keys.length = values.length := by rfl) (h0 : keys ≠ [] := by simp) (h15 : keys.length ≤ 15 := by decide) : PF X (.Dict keys values pos) (eDisp ms) :=
  pe_mono (pe_disp h hall hl h0 h15) fun σ H Q ⟨G, B, env, d, env', ok, e, k⟩ => by
    obtain ⟨ps, e1, q1, e⟩ := bnd_some e
    split at e
    rotate_left
    · cases e
    rename_i hl
    obtain ⟨w, q5, q6⟩ := lft_some e
    cases q6
    cases hm : keyPairs ps with
    | none => rw [hm] at q5; cases q5
    | some m =>
    rw [hm] at q5
    cases q5
    intro p hp
    refine pairs_red (ok.tmp hp) q1 fun vs B1 H1 ok1 ok1' r1 => ?_
    have hB := fresh_back ok.sub hp
    have hO : ¬ IsOwn σ env p := ok.notOwn hp
    obtain ⟨s1, s2, s3⟩ := ok1'.stay (upd_same (o := HO.dK [])) hB hO
    obtain ⟨kvs, h1, h2, h3, h4⟩ := keyPairs_rep hm r1
    refine ⟨s1, kvs, h1, by omega, ?_⟩
    have gD : G.H p = none := ok.live p hp
    obtain ⟨t1, t2⟩ := merge_rel (acc := []) (us := []) h2 h3 rfl rfl
    exact k p B1 _ (ok1.tmpSet s2 gD s3) s2 ⟨mergeK [] kvs, upd_same, t1, t2⟩ gD s3

/-! ### xs.pop(i) -/
def ePop (i : Nat) (m : M D) : M D := fun e => match e[i]? with
  | some (.own _ (.lst _)) => match m e with
    | some (.int j, e1) => match e1[i]? with
      | some (.own p (.lst ds)) => if (decide (-(2 ^ 63) ≤ j) && decide (j < 2 ^ 63)) = true then match seqIndex? j ds.length with
        | some k => match ds[k]? with
          | some x => some (x, e1.set i (.own p (.lst (ds.eraseIdx k))))
          | none => none
        | none => none
        else none
      | _ => none
    | _ => none
  | _ => none
theorem Reps.eraseIdx {K : PySem.W.Frag} {B : Hp} : ∀ {ds : List D} {vs : List V} (k : Nat), Reps K B ds vs → Reps K B (ds.eraseIdx k) (vs.eraseIdx k)
  | [], _, _, h => by cases h; rfl
  | d :: ds, _, 0, h => by
    obtain ⟨v, r, rfl, _, h3⟩ := h
    exact h3
  | d :: ds, _, k + 1, h => by
    obtain ⟨v, r, rfl, h2, h3⟩ := h
    exact ⟨v, _, rfl, h2, h3.eraseIdx k⟩
theorem pd_pop {i : Nat} {x : Str} {p1 apos cpos : Pos} {e : Expr} {m : M D} (hx : PE X (.Name x p1) (tVar i)) (h : PD X e m) (hbase : attributeBase (.Name x p1) "pop" X.env (eval (.Name x p1) X.env) = eval (.Name x p1) X.env := by rfl)
    (hfew : ((backTo cpos (starEach [e] X.env)).all (fun x => !x.1) && (backToKw cpos (keywordEach [] X.env)).all (fun x => x.1.isSome)
      && decide ([e].length + ([] : List Keyword).length + (if ([] : List Keyword).isEmpty then 0 else 1) < 30)) = true := by rfl)
    (hline : (apos.endLine == cpos.line) = true := by rfl) (hst : starEach [e] X.env = (false, eval e X.env) :: starEach [] X.env := by rfl) (hplain : (backTo cpos (starEach [] X.env)).any (·.1) = false := by rfl) :
    PD X (.Call (.Attribute (.Name x p1) "pop" apos) [e] [] cpos) (ePop i m) :=
  pe_mono (pe_bm PySem.F.plainAttrs_list PySem.F.slot_list_pop PySem.F.type_list_pop mt_popAt hx (pa_cons h pa_nil hst) hbase hfew hline hst hplain) fun σ H Q ⟨G, B, env, d, env', ok, e, k⟩ => by
    unfold ePop at e
    split at e
    rotate_left
    · cases e
    rename_i p0 ds0 q0
    split at e
    rotate_left
    · cases e
    rename_i j e1 q1
    split at e
    rotate_left
    · cases e
    rename_i p ds q2
    split at e
    rotate_left
    · cases e
    rename_i hb
    split at e
    rotate_left
    · cases e
    rename_i kk' hk
    split at e
    rotate_left
    · cases e
    rename_i z hz
    cases e
    obtain ⟨a, s1, s2, ⟨vs0, s3, _⟩, _⟩ := ok.own i _ _ q0
    refine ⟨.ref a, s1, .inl ⟨rfl, vs0, SqL.of s3⟩, tD_of ok q1 fun v B1 H1 ok1 _ r1 => ?_⟩
    obtain ⟨a', t1, t2, ⟨vs, t3, t4⟩, _⟩ := ok1.own i _ _ q2
    rw [s1] at t1; cases t1
    obtain ⟨y, g1, g2⟩ := t4.get hz
    rw [Bool.and_eq_true] at hb
    have r1 : v = .int j := r1
    subst r1
    exact ⟨a, vs, j, kk', y, rfl, rfl, t3, of_decide_eq_true hb.1, of_decide_eq_true hb.2, by rw [t4.length]; exact hk, g1, k y B1 _ (ok1.mut q2 s1 ⟨_, rfl, t4.eraseIdx kk'⟩) g2⟩

/-! ### methods of texts -/
def rfindD : D → List D → Option D
  | .str a, [.str b] => some (.int (Txt.rfind (mkS a) (mkS b)))
  | _, _ => none
def findD : D → List D → Option D
  | .str a, [.str b] => some (.int (Txt.find (mkS a) (mkS b)))
  | _, _ => none
def countD : D → List D → Option D
  | .str a, [.str b] => some (.int (Txt.count (mkS a) (mkS b)))
  | _, _ => none
def startsD : D → List D → Option D
  | .str a, [.str b] => some (.bl (Txt.startswith (mkS a) (mkS b)))
  | _, _ => none
def endsD : D → List D → Option D
  | .str a, [.str b] => some (.bl (Txt.endswith (mkS a) (mkS b)))
  | _, _ => none
theorem meth_rfind : MethD X "str" "str.rfind" rfindD := ⟨_, mt_rfind, fun G B H σ env x d vs ds z Q ok rx rs e k => by
  unfold rfindD at e
  split at e
  · cases e
    obtain ⟨v, rfl, r⟩ := reps1 rs
    exact ⟨_, _, rx, by rw [show v = _ from r], k _ B H ok rfl⟩
  · cases e⟩
theorem meth_find : MethD X "str" "str.find" findD := ⟨_, mt_find, fun G B H σ env x d vs ds z Q ok rx rs e k => by
  unfold findD at e
  split at e
  · cases e
    obtain ⟨v, rfl, r⟩ := reps1 rs
    exact ⟨_, _, rx, by rw [show v = _ from r], k _ B H ok rfl⟩
  · cases e⟩
theorem meth_count : MethD X "str" "str.count" countD := ⟨_, mt_count, fun G B H σ env x d vs ds z Q ok rx rs e k => by
  unfold countD at e
  split at e
  · cases e
    obtain ⟨v, rfl, r⟩ := reps1 rs
    exact ⟨_, _, rx, by rw [show v = _ from r], k _ B H ok rfl⟩
  · cases e⟩
theorem meth_starts : MethD X "str" "str.startswith" startsD := ⟨_, mt_startswith, fun G B H σ env x d vs ds z Q ok rx rs e k => by
  unfold startsD at e
  split at e
  · cases e
    obtain ⟨v, rfl, r⟩ := reps1 rs
    exact ⟨_, _, rx, by rw [show v = _ from r], k _ B H ok rfl⟩
  · cases e⟩
theorem meth_ends : MethD X "str" "str.endswith" endsD := ⟨_, mt_endswith, fun G B H σ env x d vs ds z Q ok rx rs e k => by
  unfold endsD at e
  split at e
  · cases e
    obtain ⟨v, rfl, r⟩ := reps1 rs
    exact ⟨_, _, rx, by rw [show v = _ from r], k _ B H ok rfl⟩
  · cases e⟩
/-! ### max, min of lists -/
theorem callR_or {f : Value} {r r' : List V → Hp → VK → Prop} (h : CallR X f r) (h' : CallR X f r') : CallR X f (fun xs H Q => r xs H Q ∨ r' xs H Q) := by
  intro pins s σ H vs us Q I rv q
  rcases q with q | q
  · exact h pins s σ H vs us Q I rv q
  · exact h' pins s σ H vs us Q I rv q
def maxI : List Int → Int
  | [] => 0
  | [x] => x
  | x :: y :: r => max x (maxI (y :: r))
def minI : List Int → Int
  | [] => 0
  | [x] => x
  | x :: y :: r => min x (minI (y :: r))
theorem maxI_ok : ∀ {l : List Int}, l ≠ [] → maxI l ∈ l ∧ ∀ y ∈ l, y ≤ maxI l
  | [], h => absurd rfl h
  | [x], _ => ⟨List.mem_cons_self, fun y hy => by rw [List.mem_singleton] at hy; rw [hy]; exact Int.le_refl _⟩
  | x :: y :: r, _ => by
    obtain ⟨h1, h2⟩ := maxI_ok (l := y :: r) (by simp)
    show max x (maxI (y :: r)) ∈ x :: y :: r ∧ ∀ z ∈ x :: y :: r, z ≤ max x (maxI (y :: r))
    refine ⟨?_, fun z hz => ?_⟩
    · rcases Int.le_total x (maxI (y :: r)) with c | c
      · rw [Int.max_eq_right c]; exact List.mem_cons_of_mem _ h1
      · rw [Int.max_eq_left c]; exact List.mem_cons_self
    · rcases List.mem_cons.mp hz with e | hz
      · rw [e]; exact Int.le_max_left _ _
      · exact Int.le_trans (h2 z hz) (Int.le_max_right _ _)
theorem minI_ok : ∀ {l : List Int}, l ≠ [] → minI l ∈ l ∧ ∀ y ∈ l, minI l ≤ y
  | [], h => absurd rfl h
  | [x], _ => ⟨List.mem_cons_self, fun y hy => by rw [List.mem_singleton] at hy; rw [hy]; exact Int.le_refl _⟩
  | x :: y :: r, _ => by
    obtain ⟨h1, h2⟩ := minI_ok (l := y :: r) (by simp)
    show min x (minI (y :: r)) ∈ x :: y :: r ∧ ∀ z ∈ x :: y :: r, min x (minI (y :: r)) ≤ z
    refine ⟨?_, fun z hz => ?_⟩
    · rcases Int.le_total x (minI (y :: r)) with c | c
      · rw [Int.min_eq_left c]; exact List.mem_cons_self
      · rw [Int.min_eq_right c]; exact List.mem_cons_of_mem _ h1
    · rcases List.mem_cons.mp hz with e | hz
      · rw [e]; exact Int.min_le_left _ _
      · exact Int.le_trans (Int.min_le_right _ _) (h2 z hz)
theorem maxI_of {l : List Int} {m : Int} (h : m ∈ l) (h2 : ∀ y ∈ l, y ≤ m) : maxI l = m := by
  obtain ⟨h3, h4⟩ := maxI_ok (l := l) fun z => by rw [z] at h; cases h
  exact Int.le_antisymm (h2 _ h3) (h4 m h)
theorem minI_of {l : List Int} {m : Int} (h : m ∈ l) (h2 : ∀ y ∈ l, m ≤ y) : minI l = m := by
  obtain ⟨h3, h4⟩ := minI_ok (l := l) fun z => by rw [z] at h; cases h
  exact Int.le_antisymm (h4 m h) (h2 _ h3)
def maxA : List D → Option D
  | [.int i, .int j] => some (.int (if j > i then j else i))
  | [.lst ds] => match intsOf ds with
    | some ns => if ns = [] then none else some (.int (maxI ns))
    | none => none
  | _ => none
def minA : List D → Option D
  | [.int i, .int j] => some (.int (if j < i then j else i))
  | [.lst ds] => match intsOf ds with
    | some ns => if ns = [] then none else some (.int (minI ns))
    | none => none
  | _ => none
theorem call_maxA (hc : X.calm = true := by rfl) : CallD X (.builtin "max") maxA := ⟨_, callR_or (call_max2 hc) (cr_max hc), fun G B H σ env vs ds z Q ok r0 e k => by
  unfold maxA at e
  split at e
  · cases e
    obtain ⟨v, u, rfl, r1, r2⟩ := reps2 r0
    exact .inl ⟨_, _, by rw [show v = _ from r1, show u = _ from r2], k _ B H ok rfl⟩
  · split at e
    rotate_left
    · cases e
    rename_i ns hn
    split at e
    · cases e
    rename_i hne
    cases e
    have hds := intsOf_ok hn
    subst hds
    obtain ⟨v, rfl, a, us, rfl, h1, h2⟩ := reps1 r0
    rw [Reps.of_ints h2] at h1
    refine .inr ⟨a, ns, rfl, SqL.of (ok.sub _ _ h1), List.length_pos_iff.mpr hne, fun m h3 h4 => k _ B H ok ?_⟩
    rw [maxI_of h3 h4]
    exact rfl
  · cases e⟩
theorem call_minA (hc : X.calm = true := by rfl) : CallD X (.builtin "min") minA := ⟨_, callR_or (call_min2 hc) (cr_min hc), fun G B H σ env vs ds z Q ok r0 e k => by
  unfold minA at e
  split at e
  · cases e
    obtain ⟨v, u, rfl, r1, r2⟩ := reps2 r0
    exact .inl ⟨_, _, by rw [show v = _ from r1, show u = _ from r2], k _ B H ok rfl⟩
  · split at e
    rotate_left
    · cases e
    rename_i ns hn
    split at e
    · cases e
    rename_i hne
    cases e
    have hds := intsOf_ok hn
    subst hds
    obtain ⟨v, rfl, a, us, rfl, h1, h2⟩ := reps1 r0
    rw [Reps.of_ints h2] at h1
    refine .inr ⟨a, ns, rfl, SqL.of (ok.sub _ _ h1), List.length_pos_iff.mpr hne, fun m h3 h4 => k _ B H ok ?_⟩
    rw [minI_of h3 h4]
    exact rfl
  · cases e⟩
end
end Dv
/-! sorted of data: ints, texts, tuples of them. -/
namespace Dv
open PySem PySem.Spec PyProof.Rows L2 Evl
/-- the order -/
def leJ (a b : D) : Bool := PySem.W.dataLe false py a b
def sortJ (ds : List D) : List D := ds.mergeSort leJ
def rSortJ (K : PySem.W.Frag) : List V → Hp → VK → Prop := fun vs H Q => ∃ (a : Addr) (us : List V) (ds : List D) (B : Hp), vs = [V.ref a] ∧ SqL K H a us ∧ Ex B H ∧ Reps K B ds us ∧ okDs ds = true ∧ deps ds ≤ 50 ∧ PySem.W.AllAlike (ds.map py) ∧ PySem.W.Sortable (ds.map py) ∧
  ∀ ys p, Reps K B (sortJ ds) ys → H p = none → Q (.ref p) (upd H p (.lst ys))
section
variable {X : Cx}
theorem each_of {K : PySem.W.Frag} {B : Hp} : ∀ {ds : List D} {us : List V} {its : List Value}, Reps K B ds us → Vals us its → PySem.W.EachIs (fun v d => d ∈ ds ∧ ∃ x, RelV x v ∧ Rep K B d x) its ds
  | [], _, its, h, r => by
    cases h
    cases r
    exact .nil
  | d :: ds, _, its, h, r => by
    obtain ⟨v, t, rfl, h1, h2⟩ := h
    cases r with
    | cons r1 r2 => exact .cons ⟨List.mem_cons_self, v, r1, h1⟩ ((each_of h2 r2).mono fun v d ⟨q, w⟩ => ⟨List.mem_cons_of_mem _ q, w⟩)
theorem each_back {K : PySem.W.Frag} {B : Hp} {S : D → Prop} : ∀ {ds : List D} {out : List Value}, PySem.W.EachIs (fun v d => S d ∧ ∃ x, RelV x v ∧ Rep K B d x) out ds → ∃ ys, Vals ys out ∧ Reps K B ds ys
  | _, _, .nil => ⟨[], .nil, rfl⟩
  | _, _, .cons ⟨_, x, r1, r2⟩ h => by
    obtain ⟨ys, h1, h2⟩ := each_back h
    exact ⟨x :: ys, .cons r1 h1, x, ys, rfl, r2, h2⟩
theorem okDs_mem : ∀ {ds : List D} {d : D}, okDs ds = true → d ∈ ds → okD d = true
  | [], _, _, h => absurd h List.not_mem_nil
  | x :: ds, d, h, hm => by
    unfold okDs at h
    rw [Bool.and_eq_true] at h
    rcases List.mem_cons.mp hm with e | hm
    · rw [e]; exact h.1
    · exact okDs_mem h.2 hm
theorem deps_mem : ∀ {ds : List D} {d : D}, d ∈ ds → dep d ≤ deps ds
  | [], _, h => absurd h List.not_mem_nil
  | x :: ds, d, hm => by
    unfold deps
    rcases List.mem_cons.mp hm with e | hm
    · rw [e]; exact Nat.le_max_left _ _
    · exact Nat.le_trans (deps_mem hm) (Nat.le_max_right _ _)
theorem cr_sortedJ {k : Nat} (hr : Room k X.A) : CallR X (.builtin "sorted") (rSortJ X.K) := by
  intro pins s σ H vs us Q I r h
  obtain ⟨a, xs, ds, B, rfl, hs, hB, hR, hok, hdep, hal, hso, q⟩ := h
  obtain ⟨its, rv, hl, hz⟩ := I.list hs
  obtain ⟨u, rfl, ru⟩ := vals1 r
  obtain rfl : u = Value.ref a := ru
  have e := each_of hR rv
  have hlen : ds.length ≤ sizeLine := by rw [← hR.length]; exact hz
  have er : PySem.W.EachIs (fun v d => ∃ as, Reads s.heap v (py d) as) its ds := e.mono fun v d ⟨hm, x, r1, r2⟩ => Dp.reads I (py d) x v (dp_of hB d x (okDs_mem hok hm) r2) r1
  refine PySem.W.sorted_data (bs := ds) (enc := py) hl.isList e er hal hso hlen (fun d hd => ?_) fun out ho eo => ?_
  · have h1 := (lay_py d (okDs_mem hok hd)).2
    have h2 := deps_mem hd
    have := hr.un
    omega
  · obtain ⟨ys, v1, v2⟩ := each_back eo
    obtain ⟨n, hn⟩ := sortedAll_at s.heap its out.toArray
    have hyl : ys.length ≤ sizeLine := by rw [v1.length, ho]; exact hlen
    refine ⟨.ref (s.heap.objs.size + 1), upd H (s.heap.objs.size + 1) (.lst ys), I.laid (t' := s.toks) (fun b o e => sortedAll_old e) (Nat.le_succ _) ⟨hyl, out, n, v1, hn⟩, rfl, q ys _ v2 (I.hok.fresh (Nat.le_succ _))⟩
/-- may be sorted: data of one kind -/
def alikeJ (ds : List D) : Bool := ds.all fun x => ds.all fun y => PySem.W.alike (py x) (py y)
def tupOne : D → Bool
  | .tup (_ :: _) => true
  | _ => false
def noTup : D → Bool
  | .tup _ => false
  | .non => false
  | _ => true
def canJ (ds : List D) : Bool := okDs ds && decide (deps ds ≤ 50) && alikeJ ds && (ds.all tupOne || ds.all noTup)
def srtJ : D → Option D
  | .lst ds => if canJ ds = true then some (.lst (sortJ ds)) else none
  | .fls ds => if canJ ds = true then some (.lst (sortJ ds)) else none
  | _ => none
theorem canJ_some {ds : List D} (h : canJ ds = true) : okDs ds = true ∧ deps ds ≤ 50 ∧ PySem.W.AllAlike (ds.map py) ∧ PySem.W.Sortable (ds.map py) := by
  unfold canJ at h
  rw [Bool.and_eq_true, Bool.and_eq_true, Bool.and_eq_true] at h
  obtain ⟨⟨⟨h1, h2⟩, h3⟩, h4⟩ := h
  refine ⟨h1, of_decide_eq_true h2, fun d hd d' hd' => ?_, ?_⟩
  · obtain ⟨x, hx, rfl⟩ := List.mem_map.mp hd
    obtain ⟨y, hy, rfl⟩ := List.mem_map.mp hd'
    unfold alikeJ at h3
    exact List.all_eq_true.mp (List.all_eq_true.mp h3 x hx) y hy
  · rw [Bool.or_eq_true] at h4
    rcases h4 with h4 | h4
    · refine .inl fun d hd => ?_
      obtain ⟨x, hx, rfl⟩ := List.mem_map.mp hd
      have := List.all_eq_true.mp h4 x hx
      cases x with
      | tup ds =>
        cases ds with
        | nil => cases this
        | cons y ds => exact ⟨py y, pys ds, by rw [py, pys]⟩
      | _ => cases this
    · refine .inr fun d hd => ?_
      obtain ⟨x, hx, rfl⟩ := List.mem_map.mp hd
      have := List.all_eq_true.mp h4 x hx
      have ok := okDs_mem h1 hx
      cases x with
      | tup ds => cases this
      | non => cases this
      | ty _ => unfold okD at ok; cases ok
      | dct _ _ => unfold okD at ok; cases ok
      | dtt _ _ => unfold okD at ok; cases ok
      | obj _ _ _ => unfold okD at ok; cases ok
      | cls _ => unfold okD at ok; cases ok
      | _ => unfold py; exact ⟨(fun z => nomatch z), fun xs z => nomatch z⟩
def eSortedJ (m : M D) : M D := bnd m fun d => lft (srtJ d)
theorem pf_sortedJ {k : Nat} {e : Expr} {m : M D} {p pos : Pos} (hr : Room k X.A) (h : PD X e m) (hm : X.mg "sorted" = none) (hg : Gl X "sorted" := by rfl) (hc : X.calm = true := by rfl) (na : starEach [e] X.env = (false, eval e X.env) :: starEach [] X.env := by rfl) :
    PF X (.Call (.Name "sorted" p) [e] [] pos) (eSortedJ m) :=
  pe_mono (pe_callB (cr_sortedJ hr) hg hm (by decide +kernel) (pa_cons h pa_nil na) (he := na)) fun σ H Q ⟨G, B, env, d, env', ok, e, k⟩ => by
    obtain ⟨x, e1, q1, q2⟩ := bnd_some e
    obtain ⟨z, q3, q4⟩ := lft_some q2
    cases q4
    unfold srtJ at q3
    split at q3
    · split at q3
      · rename_i hc2
        cases q3
        obtain ⟨c1, c2, c3, c4⟩ := canJ_some hc2
        exact tD_of ok q1 fun v B1 H1 ok1 _ r => by
          obtain ⟨a, vs, rfl, hs, hr⟩ := r
          exact ⟨a, vs, _, B1, rfl, SqL.of (ok1.sub _ _ hs), ok1.sub, hr, c1, c2, c3, c4, fun ys p hy hp => k p B1 _ (ok1.tmp hp) (fresh_back ok1.sub hp) ⟨ys, upd_same, hy⟩ (ok1.live p hp) (ok1.notOwn hp)⟩
      · cases q3
    · split at q3
      · rename_i hc2
        cases q3
        obtain ⟨c1, c2, c3, c4⟩ := canJ_some hc2
        exact tD_of ok q1 fun v B1 H1 ok1 _ r => by
          obtain ⟨a, vs, rfl, hs, hr⟩ := r
          exact ⟨a, vs, _, B1, rfl, ex_l ok1.sub hs, ok1.sub, hr, c1, c2, c3, c4, fun ys p hy hp => k p B1 _ (ok1.tmp hp) (fresh_back ok1.sub hp) ⟨ys, upd_same, hy⟩ (ok1.live p hp) (ok1.notOwn hp)⟩
      · cases q3
    · cases q3
/-! ### what it gives -/
theorem merge_map {A : Type} {f : A → D} {le : A → A → Bool} (h : ∀ a b, leJ (f a) (f b) = le a b) (xs : List A) : sortJ (xs.map f) = (xs.mergeSort le).map f := by
  unfold sortJ
  exact (List.map_mergeSort (r := le) (s := leJ) (f := f) (fun a _ b _ => (h a b).symm)).symm
theorem leJ_str (a b : List Nat) : leJ (.str a) (.str b) = decide (a ≤ b) := by
  have := congrFun (congrFun (PySem.W.dataLe_str (fun a : List Nat => mkS a)) a) b
  unfold leJ
  show PySem.W.dataLe false py (.str a) (.str b) = _
  have e : ∀ x : List Nat, py (.str x) = .str (mkS x) := fun x => by unfold py; rfl
  unfold PySem.W.dataLe at this ⊢
  unfold PySem.W.sortLe at this ⊢
  simp only [e] at this ⊢
  exact this
theorem leJ_int (a b : Int) : leJ (.int a) (.int b) = decide (a ≤ b) := by
  have := congrFun (congrFun (PySem.W.dataLe_int (fun a : Int => a)) a) b
  unfold leJ
  show PySem.W.dataLe false py (.int a) (.int b) = _
  have e : ∀ x : Int, py (.int x) = .int x := fun x => by unfold py; rfl
  unfold PySem.W.dataLe at this ⊢
  unfold PySem.W.sortLe at this ⊢
  simp only [e] at this ⊢
  exact this
theorem canJ_map {A : Type} {f : A → D} {xs : List A} (h1 : ∀ x ∈ xs, okD (f x) = true) (h2 : ∀ x ∈ xs, dep (f x) ≤ 50) (h3 : ∀ x ∈ xs, ∀ y ∈ xs, PySem.W.alike (py (f x)) (py (f y)) = true) (h4 : (∀ x ∈ xs, tupOne (f x) = true) ∨ ∀ x ∈ xs, noTup (f x) = true) : canJ (xs.map f) = true := by
  unfold canJ
  have a1 : okDs (xs.map f) = true := by
    clear h2 h3 h4
    induction xs with
    | nil => unfold List.map okDs; rfl
    | cons x xs ih =>
      rw [List.map_cons]
      unfold okDs
      rw [h1 x List.mem_cons_self, ih fun y hy => h1 y (List.mem_cons_of_mem _ hy)]
      rfl
  have a2 : deps (xs.map f) ≤ 50 := by
    clear h1 h3 h4 a1
    induction xs with
    | nil => unfold List.map deps; exact Nat.zero_le _
    | cons x xs ih =>
      rw [List.map_cons]
      unfold deps
      exact Nat.max_le.mpr ⟨h2 x List.mem_cons_self, ih fun y hy => h2 y (List.mem_cons_of_mem _ hy)⟩
  have a3 : alikeJ (xs.map f) = true := by
    unfold alikeJ
    rw [List.all_map, List.all_eq_true]
    intro x hx
    show (xs.map f).all _ = true
    rw [List.all_map, List.all_eq_true]
    intro y hy
    exact h3 x hx y hy
  have a4 : ((xs.map f).all tupOne || (xs.map f).all noTup) = true := by
    rw [List.all_map, List.all_map, Bool.or_eq_true]
    exact h4.imp (fun h => List.all_eq_true.mpr h) fun h => List.all_eq_true.mpr h
  rw [a1, decide_eq_true a2, a3, a4]
  rfl
theorem srt_strs {ns : List (List Nat)} (h : ∀ s ∈ ns, ∀ c ∈ s, c < 1114112) : srtJ (.lst (ns.map .str)) = some (.lst ((ns.mergeSort fun a b => decide (a ≤ b)).map .str)) := by
  have h1 : canJ (ns.map D.str) = true := canJ_map (fun s hs => by
      unfold okD
      rw [List.all_eq_true]
      exact fun c hc => decide_eq_true (h s hs c hc)) (fun s _ => by unfold dep; decide) (fun s _ t _ => by unfold py PySem.W.alike; rfl) (.inr fun s _ => rfl)
  show (if canJ (ns.map D.str) = true then some (D.lst (sortJ (ns.map D.str))) else none) = _
  rw [if_pos h1, merge_map leJ_str]
theorem srt_ints (ns : List Int) : srtJ (.lst (ns.map .int)) = some (.lst ((ns.mergeSort fun a b => decide (a ≤ b)).map .int)) := by
  have h1 : canJ (ns.map D.int) = true := canJ_map (fun s hs => by unfold okD; rfl) (fun s _ => by unfold dep; decide) (fun s _ t _ => by unfold py PySem.W.alike; rfl) (.inr fun s _ => rfl)
  show (if canJ (ns.map D.int) = true then some (D.lst (sortJ (ns.map D.int))) else none) = _
  rw [if_pos h1, merge_map leJ_int]
end
end Dv
/-! An expression whose value is no object: own lists may be looked at in it and are own again behind it. -/
namespace Dv
open PySem PySem.Spec PyProof.Rows L2 Evl
def scal : D → Bool
  | .non => true
  | .bl _ => true
  | .int _ => true
  | .str _ => true
  | _ => false
/-- own things of the slots ps are data for a while, other own ones are not told -/
def frzA (ps : List Nat) : Nat → Lvs → Lvs
  | _, [] => []
  | n, .own _ d :: e => (if (decide (n ∈ ps) && !lk d) = true then .val d else .no) :: frzA ps (n + 1) e
  | n, .val d :: e => .val d :: frzA ps (n + 1) e
  | n, .no :: e => .no :: frzA ps (n + 1) e
def eStill (ps : List Nat) (m : M D) : M D := fun e => match m (frzA ps 0 e) with
  | some (d, _) => if scal d = true then some (d, e) else none
  | none => none
def bStill (ps : List Nat) (m : M Bool) : M Bool := fun e => match m (frzA ps 0 e) with
  | some (b, _) => some (b, e)
  | none => none
section
variable {K : PySem.W.Frag} {G : Ent} {B B' H H2 : Hp} {σ : L2.St} {env : Lvs}
theorem Ok.grow (h : Ok K G B H σ env) (hE : Ex H H2) : Ok K G B H2 σ env where
  len := h.len
  sub := h.sub.trans hE
  val := h.val
  own := fun i p d e => by
    obtain ⟨a, h1, h2, h3, h4⟩ := h.own i p d e
    obtain ⟨u, hu⟩ := h3.there
    exact ⟨a, h1, h2, by rw [hE _ _ hu, ← hu]; exact h3, h4⟩
  dis := h.dis
  pin := h.pin
  mono := h.mono
  keep := fun a o e n => hE _ _ (h.keep a o e n)
  new := h.new
  live := fun a e => h.live a (by
    cases q : H a with
    | none => rfl
    | some u => rw [hE _ _ q] at e; cases e)
theorem Ok.forget (h : Ok K G B H σ env) (i : Nat) : Ok K G B H σ (env.set i .no) := by
  rcases Nat.lt_or_ge i σ.length with z | z
  · have ok' := h.drop (i := i) (x := σ[i])
    rwa [List.set_getElem_self z] at ok'
  · have : env.set i .no = env := List.set_eq_of_length_le (by rw [h.len]; exact z)
    rw [this]
    exact h
theorem frz_ok (ps : List Nat) : ∀ (suf pre : Lvs) {B : Hp}, Ok K G B H σ (pre ++ suf) → ∃ B', Ok K G B' H σ (pre ++ frzA ps pre.length suf)
  | [], pre, B, h => ⟨B, h⟩
  | x :: suf, pre, B, h => by
    have step : ∀ (y : Lv) (B1 : Hp), Ok K G B1 H σ (pre ++ y :: suf) → ∃ B', Ok K G B' H σ (pre ++ y :: frzA ps (pre.length + 1) suf) := fun y B1 h1 => by
      have h1 : Ok K G B1 H σ ((pre ++ [y]) ++ suf) := by rw [List.append_assoc]; exact h1
      obtain ⟨B', h2⟩ := frz_ok ps suf (pre ++ [y]) h1
      rw [List.length_append, List.append_assoc] at h2
      exact ⟨B', h2⟩
    have hs : ∀ y : Lv, (pre ++ x :: suf).set pre.length y = pre ++ y :: suf := fun y => by
      rw [List.set_append_right _ _ (Nat.le_refl _), Nat.sub_self]
      rfl
    cases x with
    | no => exact step _ B h
    | val d => exact step _ B h
    | own p d =>
      have e0 : (pre ++ Lv.own p d :: suf)[pre.length]? = some (.own p d) := by
        rw [List.getElem?_append_right (Nat.le_refl _), Nat.sub_self]
        rfl
      unfold frzA
      split
      · rename_i hc
        rw [Bool.and_eq_true] at hc
        obtain ⟨B1, v, _, _, _, h1⟩ := h.freeze e0 (by simpa using hc.2)
        rw [hs] at h1
        exact step _ B1 h1
      · have h1 := h.forget pre.length
        rw [hs] at h1
        exact step _ B h1
theorem frzA_no (ps : List Nat) : ∀ (e : Lvs) (n i : Nat) (p : Bool) (d : D), (frzA ps n e)[i]? ≠ some (.own p d)
  | [], _, i, _, _, h => by cases h
  | x :: e, n, 0, p, d, h => by
    cases x with
    | no => cases h
    | val _ => cases h
    | own _ d' =>
      unfold frzA at h
      split at h
      · cases h
      · cases h
  | x :: e, n, i + 1, p, d, h => by
    cases x with
    | no => exact frzA_no ps e (n + 1) i p d h
    | val _ => exact frzA_no ps e (n + 1) i p d h
    | own _ d' => exact frzA_no ps e (n + 1) i p d h
theorem scal_rep {d : D} {v : V} (h : scal d = true) (r : Rep K B d v) : Rep K B' d v := by
  cases d with
  | non => exact r
  | bl _ => exact r
  | int _ => exact r
  | str _ => exact r
  | _ => cases h
/-- the heap behind such a piece -/
theorem frz_keep {ps : List Nat} {e1 : Lvs} {B1 B2 : Hp} (h : Ok K (Ent.at B1 H σ (frzA ps 0 env)) B2 H2 σ e1) : Ex H H2 := fun a o e => h.keep a o e fun p ⟨i, d, q, _⟩ => frzA_no ps env 0 i p d q
theorem still_red {ps : List Nat} {m : M D} : ∀ σ H Q, tD K (eStill ps m) σ H Q → tD K m σ H Q := fun σ H Q ⟨G, B, env, d, env', ok, e, k⟩ => by
  unfold eStill at e
  split at e
  rotate_left
  · cases e
  rename_i d' e1 q
  split at e
  rotate_left
  · cases e
  rename_i hs
  cases e
  obtain ⟨B1, ok1⟩ := frz_ok ps env [] ok
  exact ⟨_, B1, _, d, e1, ok1.self, q, fun v B2 H2 ok2 r => k v B H2 (ok.grow (frz_keep ok2)) (scal_rep hs r)⟩
theorem bStill_red {ps : List Nat} {m : M Bool} : ∀ σ H Q, tT K (bStill ps m) σ H Q → tT K m σ H Q := fun σ H Q ⟨G, B, env, d, env', ok, e, k⟩ => by
  unfold bStill at e
  split at e
  rotate_left
  · cases e
  rename_i d' e1 q
  cases e
  obtain ⟨B1, ok1⟩ := frz_ok ps env [] ok
  exact ⟨_, B1, _, d, e1, ok1.self, q, fun B2 H2 ok2 => k B H2 (ok.grow (frz_keep ok2))⟩
end
section
variable {X : Cx}
theorem pd_still (ps : List Nat) {e : Expr} {m : M D} (h : PD X e m) : PD X e (eStill ps m) := pe_mono h still_red
theorem pdt_still (ps : List Nat) {e : Expr} {m : M Bool} (h : PDT X e m) : PDT X e (bStill ps m) := pt_mono h bStill_red
end
/-! ### the walk backwards -/
section
variable {e : Lvs} {Q : D → Lvs → Prop} {QB : Bool → Lvs → Prop}
def Frz (ps : List Nat) (n : Nat) (e : Lvs) (R : Lvs → Prop) : Prop := R (frzA ps n e)
theorem frz_nil {ps : List Nat} {n : Nat} {R : Lvs → Prop} (h : R []) : Frz ps n [] R := h
theorem frz_val {ps : List Nat} {n : Nat} {d : D} {R : Lvs → Prop} (h : Frz ps (n + 1) e fun e' => R (.val d :: e')) : Frz ps n (.val d :: e) R := h
theorem frz_none {ps : List Nat} {n : Nat} {R : Lvs → Prop} (h : Frz ps (n + 1) e fun e' => R (.no :: e')) : Frz ps n (.no :: e) R := h
theorem frz_out {ps : List Nat} {n : Nat} {p : Bool} {d : D} {R : Lvs → Prop} (hn : decide (n ∈ ps) = false) (h : Frz ps (n + 1) e fun e' => R (.no :: e')) : Frz ps n (.own p d :: e) R := by
  show R ((if (decide (n ∈ ps) && !lk d) = true then Lv.val d else .no) :: frzA ps (n + 1) e)
  rw [hn]
  exact h
theorem frz_in {ps : List Nat} {n : Nat} {p : Bool} {d : D} {R : Lvs → Prop} (hn : decide (n ∈ ps) = true) (hl : lk d = false) (h : Frz ps (n + 1) e fun e' => R (.val d :: e')) : Frz ps n (.own p d :: e) R := by
  show R ((if (decide (n ∈ ps) && !lk d) = true then Lv.val d else .no) :: frzA ps (n + 1) e)
  rw [hn, hl]
  exact h
end
end Dv
/-! Comprehensions with two clauses. -/
namespace Dv
open PySem PySem.Spec PyProof.Rows L2 Evl
section
variable {K : PySem.W.Frag} {G : Ent} {B B1 H H1 : Hp} {σ σ' σ4 : L2.St} {env env1 env' en : Lvs} {vs : List Nat} {D0 : Addr}
theorem wipeE_out {i : Nat} : ∀ {vs : List Nat}, i ∉ vs → (wipeE env vs)[i]? = env[i]?
  | [], _ => rfl
  | w :: ws, hn => by
    unfold wipeE
    rw [List.getElem?_set_ne (fun z => hn (by rw [z]; exact List.mem_cons_self)), wipeE_out fun z => hn (List.mem_cons_of_mem _ z)]
theorem notOwn_unblk (hw : L2.wipe σ4 vs = L2.wipe σ vs) (h : ¬ IsOwn σ4 en D0) : ¬ IsOwn σ (wipeE en vs) D0 := fun ⟨j, p, d, x1, x2⟩ => by
  have hj := wipeE_no x1 (fun z => nomatch z)
  refine h ⟨j, p, d, ?_, ?_⟩
  · rw [← wipeE_out hj]; exact x1
  · rw [← wipe_out (σ := σ4) hj, hw, wipe_out hj]; exact x2
theorem wipe_wipe : ∀ (us vs : List Nat), (∀ v ∈ us, v ∈ vs) → L2.wipe (L2.wipe σ us) vs = L2.wipe σ vs
  | [], _, _ => rfl
  | w :: ws, vs, hs => by
    show L2.wipe ((L2.wipe σ ws).set w none) vs = _
    rw [wipe_set (hs w List.mem_cons_self)]
    exact wipe_wipe ws vs fun v hv => hs v (List.mem_cons_of_mem _ hv)
/-- the loop of a clause -/
theorem lcW {J : It} {ds acc : List D} {us : List V} {g : D → Lvs → Option Lvs} {t : M Bool} {f : M D} {rs : List D} {Nx : Hp → Prop} (wk : Walks K J B1 ds) (ok1 : Ok K G B1 H1 σ env1) (hno1 : ∀ v ∈ vs, ∀ x : Lv, env1[v]? = some x → x = .no) (hD : H1 D0 = some (.lst us)) (hR : Reps K B1 acc us) (hB : B1 D0 = none) (gD : G.H D0 = none) (hO : ¬ IsOwn σ env1 D0)
    (hl : lcL vs g t f ds acc env1 = some (rs, env')) (fin : ∀ B H us', Ok K G B H σ env' → Ex B1 B → H D0 = some (.lst us') → Reps K B rs us' → B D0 = none → ¬ IsOwn σ env' D0 → Nx H) :
    ∃ W : Nat → Nat → Hp → Prop, (∃ m, W 0 m H1) ∧ ∀ i m H, W i m H →
      (J.stop i H ∧ Nx H) ∨ (J.go i H ∧ ∃ Nx1 : Hp → Prop, (∀ H', Nx1 H' → ∃ m', m' < m ∧ W (i + 1) m' H') ∧ ∀ x H', J.yld i H x H' → tG K vs g x (L2.wipe σ vs) H' fun σ2 H2 => L2.wipe σ2 vs = L2.wipe σ vs ∧ tT K t σ2 H2 fun b H3 =>
        if b = true then tD K f σ2 H3 fun y H4 => ∃ acc, H4 D0 = some (.lst acc) ∧ acc.length < sizeLine ∧ Nx1 (upd H4 D0 (.lst (acc ++ [y]))) else Nx1 H3) := by
  refine ⟨fun i n H => ∃ B env acc us, Ok K G B H σ env ∧ (∀ v ∈ vs, ∀ x : Lv, env[v]? = some x → x = .no) ∧ Ex B1 B ∧ n = ds.length - i ∧ i ≤ ds.length ∧ H D0 = some (.lst us) ∧ Reps K B acc us ∧ B D0 = none ∧ ¬ IsOwn σ env D0 ∧ lcL vs g t f (ds.drop i) acc env = some (rs, env'),
    ⟨ds.length, B1, env1, acc, us, ok1, hno1, Ex.refl _, rfl, Nat.zero_le _, hD, hR, hB, hO, hl⟩, fun i n H hW => ?_⟩
  obtain ⟨B2, en, acc, us, ok2, hno, ex2, hn, hi, hH, hR, hB, hO, he⟩ := hW
  obtain ⟨go, stop⟩ := wk G B2 H σ en i ex2 ok2
  by_cases hlt : i < ds.length
  · have hd : ds[i]? = some ds[i] := List.getElem?_eq_getElem hlt
    obtain ⟨g1, g2⟩ := go _ hd
    rw [List.drop_eq_getElem_cons hlt] at he
    unfold lcL at he
    split at he
    rotate_left
    · cases he
    rename_i en1 hg
    refine .inr ⟨g1, fun H => ∃ B env acc us, Ok K G B H σ env ∧ (∀ v ∈ vs, ∀ x : Lv, env[v]? = some x → x = .no) ∧ Ex B1 B ∧ H D0 = some (.lst us) ∧ Reps K B acc us ∧ B D0 = none ∧ ¬ IsOwn σ env D0 ∧ lcL vs g t f (ds.drop (i + 1)) acc env = some (rs, env'),
      fun H' ⟨B3, en3, acc3, us3, a1, a2, a3, a4, a5, a6, a7, a8⟩ => ⟨ds.length - (i + 1), by omega, B3, en3, acc3, us3, a1, a2, a3, rfl, hlt, a4, a5, a6, a7, a8⟩, fun x H' y => ?_⟩
    obtain ⟨B3, ok3, ok3', rx⟩ := g2 x H' y
    obtain ⟨s3, b3, o3⟩ := ok3'.stay hH hB hO
    have ex3 : Ex B1 B3 := ex2.trans ok3'.mono
    have okb : Ok K G B3 H' (L2.wipe σ vs) en := by
      refine ok3.swap (wipe_length _ _) fun j x e hx => ?_
      by_cases hj : j ∈ vs
      · exact absurd (hno j hj x e) hx
      · exact wipe_out hj
    have ob : ¬ IsOwn (L2.wipe σ vs) en D0 := fun ⟨j, p, d, x1, x2⟩ => by
      by_cases hj : j ∈ vs
      · cases hno j hj _ x1
      · rw [wipe_out hj] at x2
        exact o3 ⟨j, p, d, x1, x2⟩
    refine ⟨Ent.at B3 H' (L2.wipe σ vs) en, B3, en, _, en1, okb.self, rx, hg, fun σ4 B4 H4 ok4' hw4 => ?_⟩
    have ok4 := okb.comp ok4'
    obtain ⟨s4, b4, o4⟩ := ok4'.stay s3 b3 ob
    have ex4 : Ex B1 B4 := ex3.trans ok4'.mono
    have hw4 : L2.wipe σ4 vs = L2.wipe σ vs := hw4.trans (wipe_wipe vs vs fun _ z => z)
    refine ⟨hw4, ?_⟩
    split at he
    · rename_i en2 ht
      refine tT_of ok4 ht fun B5 H5 ok5 ok5' => ?_
      obtain ⟨s5, b5, o5⟩ := ok5'.stay s4 b4 o4
      rw [if_pos rfl]
      split at he
      rotate_left
      · cases he
      rename_i y en3 hf
      split at he
      rotate_left
      · cases he
      rename_i hz
      refine tD_of ok5 hf fun v B6 H6 ok6 ok6' r6 => ?_
      obtain ⟨s6, b6, o6⟩ := ok6'.stay s5 b5 o5
      have ex6 : Ex B1 B6 := (ex4.trans ok5'.mono).trans ok6'.mono
      have ru : Reps K B6 acc us := Reps.mono (((ok3'.mono.trans ok4'.mono).trans ok5'.mono).trans ok6'.mono) _ _ hR
      have hlen : us.length = acc.length := hR.length
      have hz' := lim_ok hz
      exact ⟨us, s6, by omega, B6, wipeE en3 vs, acc ++ [y], us ++ [v], (ok6.tmpSet b6 gD o6).unblk hw4, fun v hv x hx => Classical.byContradiction fun c => wipeE_no hx c hv, ex6, upd_same, ru.append (Reps.one r6), b6, notOwn_unblk hw4 o6, he⟩
    · rename_i en2 ht
      refine tT_of ok4 ht fun B5 H5 ok5 ok5' => ?_
      obtain ⟨s5, b5, o5⟩ := ok5'.stay s4 b4 o4
      rw [if_neg Bool.false_ne_true]
      exact ⟨B5, wipeE en2 vs, acc, us, ok5.unblk hw4, fun v hv x hx => Classical.byContradiction fun c => wipeE_no hx c hv, ex4.trans ok5'.mono, s5, Reps.mono ((ok3'.mono.trans ok4'.mono).trans ok5'.mono) _ _ hR, b5, notOwn_unblk hw4 o5, he⟩
    · cases he
  · have hi' : i = ds.length := by omega
    subst hi'
    rw [List.drop_length] at he
    cases he
    exact .inl ⟨stop (Nat.le_refl _), fin B2 H us ok2 ex2 hH hR hB hO⟩
end
/-- for .. in .. for .. in .. -/
def lc2L (vs vs1 : List Nat) (g : D → Lvs → Option Lvs) (t : M Bool) (m1 : M (List D)) (g1 : D → Lvs → Option Lvs) (t1 : M Bool) (f : M D) : List D → List D → M (List D)
  | [], acc, e => some (acc, e)
  | d :: ds, acc, e => match g d e with
    | some e1 => match t e1 with
      | some (true, e2) => match m1 e2 with
        | some (ds1, e3) => match lcL vs1 g1 t1 f ds1 acc (wipeE e3 vs1) with
          | some (acc', e4) => lc2L vs vs1 g t m1 g1 t1 f ds acc' (wipeE e4 vs)
          | none => none
        | none => none
      | some (false, e2) => lc2L vs vs1 g t m1 g1 t1 f ds acc (wipeE e2 vs)
      | none => none
    | none => none
def eLc2 (vs vs1 : List Nat) (m : M (List D)) (g : D → Lvs → Option Lvs) (t : M Bool) (m1 : M (List D)) (g1 : D → Lvs → Option Lvs) (t1 : M Bool) (f : M D) : M D := bnd m fun ds => fun e => match lc2L vs vs1 g t m1 g1 t1 f ds [] (wipeE e vs) with
  | some (rs, e1) => some (.lst rs, e1)
  | none => none
theorem eLc2_lst {vs vs1 : List Nat} {m : M (List D)} {g : D → Lvs → Option Lvs} {t : M Bool} {m1 : M (List D)} {g1 : D → Lvs → Option Lvs} {t1 : M Bool} {f : M D} {e e' : Lvs} {d : D} (h : eLc2 vs vs1 m g t m1 g1 t1 f e = some (d, e')) : lk d = false := by
  obtain ⟨ds, e1, _, q⟩ := bnd_some h
  split at q
  · cases q; rfl
  · cases q
theorem lc2_red {K : PySem.W.Frag} {m : M (List D)} {vs vs1 : List Nat} {g : D → Lvs → Option Lvs} {t : M Bool} {m1 : M (List D)} {g1 : D → Lvs → Option Lvs} {t1 : M Bool} {f : M D} : ∀ σ H Q, tF K (eLc2 vs vs1 m g t m1 g1 t1 f) σ H Q → tLc2 (tI K m) (tG K vs g) (tT K t) (tI K m1) (tG K vs1 g1) (tT K t1) (tD K f) vs vs1 σ H Q := fun σ H Q ⟨G, B, env, d, env', ok, e, k⟩ => by
  obtain ⟨ds, e1, q, e⟩ := bnd_some e
  split at e
  rotate_left
  · cases e
  rename_i rs e2 hl
  cases e
  refine ⟨Ent.at B H σ env, B, env, ds, e1, ok.self, q, fun J B1 H1 ok1' wk D0 hD => ?_⟩
  have ok1 := ok.comp ok1'
  have gD : G.H D0 = none := ok1.live D0 hD
  refine ⟨fun i n H => ∃ B env acc us, Ok K G B H σ env ∧ (∀ v ∈ vs, ∀ x : Lv, env[v]? = some x → x = .no) ∧ Ex B1 B ∧ n = ds.length - i ∧ i ≤ ds.length ∧ H D0 = some (.lst us) ∧ Reps K B acc us ∧ B D0 = none ∧ ¬ IsOwn σ env D0 ∧ lc2L vs vs1 g t m1 g1 t1 f (ds.drop i) acc env = some (rs, env'),
    ⟨ds.length, B1, wipeE e1 vs, [], [], (ok1.tmp hD).unblk rfl, fun v hv x hx => Classical.byContradiction fun c => wipeE_no hx c hv, Ex.refl _, rfl, Nat.zero_le _, upd_same, rfl, fresh_back ok1.sub hD, notOwn_unblk rfl (ok1.notOwn hD), hl⟩, fun i n H hW => ?_⟩
  obtain ⟨B2, en, acc, us, ok2, hno, ex2, hn, hi, hH, hR, hB, hO, he⟩ := hW
  obtain ⟨go, stop⟩ := wk G B2 H σ en i ex2 ok2
  by_cases hlt : i < ds.length
  · have hd : ds[i]? = some ds[i] := List.getElem?_eq_getElem hlt
    obtain ⟨go1, go2⟩ := go _ hd
    rw [List.drop_eq_getElem_cons hlt] at he
    unfold lc2L at he
    split at he
    rotate_left
    · cases he
    rename_i en1 hg
    refine .inr ⟨go1, fun H => ∃ B env acc us, Ok K G B H σ env ∧ (∀ v ∈ vs, ∀ x : Lv, env[v]? = some x → x = .no) ∧ Ex B1 B ∧ H D0 = some (.lst us) ∧ Reps K B acc us ∧ B D0 = none ∧ ¬ IsOwn σ env D0 ∧ lc2L vs vs1 g t m1 g1 t1 f (ds.drop (i + 1)) acc env = some (rs, env'),
      fun H' ⟨B3, en3, acc3, us3, a1, a2, a3, a4, a5, a6, a7, a8⟩ => ⟨ds.length - (i + 1), by omega, B3, en3, acc3, us3, a1, a2, a3, rfl, hlt, a4, a5, a6, a7, a8⟩, fun x H' y => ?_⟩
    obtain ⟨B3, ok3, ok3', rx⟩ := go2 x H' y
    obtain ⟨s3, b3, o3⟩ := ok3'.stay hH hB hO
    have ex3 : Ex B1 B3 := ex2.trans ok3'.mono
    have okb : Ok K G B3 H' (L2.wipe σ vs) en := by
      refine ok3.swap (wipe_length _ _) fun j x e hx => ?_
      by_cases hj : j ∈ vs
      · exact absurd (hno j hj x e) hx
      · exact wipe_out hj
    have ob : ¬ IsOwn (L2.wipe σ vs) en D0 := fun ⟨j, p, d, x1, x2⟩ => by
      by_cases hj : j ∈ vs
      · cases hno j hj _ x1
      · rw [wipe_out hj] at x2
        exact o3 ⟨j, p, d, x1, x2⟩
    refine ⟨Ent.at B3 H' (L2.wipe σ vs) en, B3, en, _, en1, okb.self, rx, hg, fun σ4 B4 H4 ok4' hw4 => ?_⟩
    have ok4 := okb.comp ok4'
    obtain ⟨s4, b4, o4⟩ := ok4'.stay s3 b3 ob
    have ex4 : Ex B1 B4 := ex3.trans ok4'.mono
    have hw4 : L2.wipe σ4 vs = L2.wipe σ vs := hw4.trans (wipe_wipe vs vs fun _ z => z)
    refine ⟨hw4, ?_⟩
    split at he
    · rename_i en2 ht
      refine tT_of ok4 ht fun B5 H5 ok5 ok5' => ?_
      obtain ⟨s5, b5, o5⟩ := ok5'.stay s4 b4 o4
      rw [if_pos rfl]
      split at he
      rotate_left
      · cases he
      rename_i ds1 en3 hm1
      split at he
      rotate_left
      · cases he
      rename_i acc' en4 hl1
      refine ⟨Ent.at B5 H5 σ4 en2, B5, en2, ds1, en3, ok5.self, hm1, fun J1 B6 H6 ok6' wk1 => ?_⟩
      have ok6 := ok5.comp ok6'
      obtain ⟨s6, b6, o6⟩ := ok6'.stay s5 b5 o5
      have ex6 : Ex B1 B6 := (ex4.trans ok5'.mono).trans ok6'.mono
      have ru : Reps K B6 acc us := Reps.mono (((ok3'.mono.trans ok4'.mono).trans ok5'.mono).trans ok6'.mono) _ _ hR
      exact lcW (vs := vs1) (σ := σ4) wk1 (ok6.unblk rfl) (fun v hv x hx => Classical.byContradiction fun c => wipeE_no hx c hv) s6 ru b6 gD (notOwn_unblk rfl o6) hl1 fun B7 H7 us7 ok7 ex7 s7 r7 b7 o7 =>
        ⟨B7, wipeE en4 vs, acc', us7, ok7.unblk hw4, fun v hv x hx => Classical.byContradiction fun c => wipeE_no hx c hv, ex6.trans ex7, s7, r7, b7, notOwn_unblk hw4 o7, he⟩
    · rename_i en2 ht
      refine tT_of ok4 ht fun B5 H5 ok5 ok5' => ?_
      obtain ⟨s5, b5, o5⟩ := ok5'.stay s4 b4 o4
      rw [if_neg Bool.false_ne_true]
      exact ⟨B5, wipeE en2 vs, acc, us, ok5.unblk hw4, fun v hv x hx => Classical.byContradiction fun c => wipeE_no hx c hv, ex4.trans ok5'.mono, s5, Reps.mono ((ok3'.mono.trans ok4'.mono).trans ok5'.mono) _ _ hR, b5, notOwn_unblk hw4 o5, he⟩
    · cases he
  · have hi' : i = ds.length := by omega
    subst hi'
    rw [List.drop_length] at he
    cases he
    exact .inl ⟨stop (Nat.le_refl _), k D0 B2 H ok2 hB (by rw [hH]; exact ⟨us, rfl, hR⟩) gD hO⟩
section
variable {X : Cx}
theorem pf_lc2 (own : List (Str × Nat)) (vs1 : List Nat) {elt tg iter tg1 iter1 : Expr} {ifs ifs1 : List Expr} {scope : Scope} {pos : Pos} {m m1 : M (List D)} {g g1 : D → Lvs → Option Lvs} {t t1 : M Bool} {f : M D} (hN : X.N.Nodup) (hi : PDI X tg iter m) (ok : BlkOk X.N X.env.scope scope own)
    (hg : Blk X scope fun Y => PDG Y (own.map fun (x : Str × Nat) => x.2) tg g) (ht : Blk X scope fun Y => PDTs Y ifs t) (hi1 : Blk X scope fun Y => PDI Y tg1 iter1 m1) (hg1 : Blk X scope fun Y => PDG Y vs1 tg1 g1) (ht1 : Blk X scope fun Y => PDTs Y ifs1 t1) (he : Blk X scope fun Y => PD Y elt f)
    (hv : ∀ i ∈ vs1, i ∈ own.map (·.2) := by decide) (hc : X.calm = true := by rfl) (hs : ∀ x, foldedSetIterable iter X.env x = pure x := by intro _; rfl) (hs1 : ∀ env x, foldedSetIterable iter1 env x = pure x := by intro _ _; rfl) :
    PF X (.ListComp elt [⟨tg, iter, ifs, 0⟩, ⟨tg1, iter1, ifs1, 0⟩] scope pos) (eLc2 (own.map fun (x : Str × Nat) => x.2) vs1 m g t m1 g1 t1 f) :=
  pe_mono (pe_lc2 (g := tG X.K (own.map fun (x : Str × Nat) => x.2) g) (tt := tT X.K t) (wi1 := tI X.K m1) (g1 := tG X.K vs1 g1) (tt1 := tT X.K t1) (te := tD X.K f) hc hN hi ok hv (fun s H C cl fp => hg s H C cl fp) (fun s H C cl fp => ht s H C cl fp) (fun s H C cl fp => hi1 s H C cl fp) (fun s H C cl fp => hg1 s H C cl fp) (fun s H C cl fp => ht1 s H C cl fp) (fun s H C cl fp => he s H C cl fp) hs hs1) lc2_red
theorem pds_setLc2 (i : Nat) (own : List (Str × Nat)) (vs1 : List Nat) {y : Str} {py : Pos} {elt tg iter tg1 iter1 : Expr} {ifs ifs1 : List Expr} {scope : Scope} {pos spos : Pos} {m m1 : M (List D)} {g g1 : D → Lvs → Option Lvs} {t t1 : M Bool} {f : M D} (hN : X.N.Nodup) (hi : PDI X tg iter m) (ok : BlkOk X.N X.env.scope scope own)
    (hg : Blk X scope fun Y => PDG Y (own.map fun (x : Str × Nat) => x.2) tg g) (ht : Blk X scope fun Y => PDTs Y ifs t) (hi1 : Blk X scope fun Y => PDI Y tg1 iter1 m1) (hg1 : Blk X scope fun Y => PDG Y vs1 tg1 g1) (ht1 : Blk X scope fun Y => PDTs Y ifs1 t1) (he : Blk X scope fun Y => PD Y elt f)
    (hsw : swapsWith (.ListComp elt [⟨tg, iter, ifs, 0⟩, ⟨tg1, iter1, ifs1, 0⟩] scope pos) (some (.Name y py)) spos.line X.env = pure true)
    (hy : X.N[i]? = some y := by rfl) (hyl : X.env.scope.names.lookup y = some .local := by rfl) (hv : ∀ i ∈ vs1, i ∈ own.map (·.2) := by decide) (hc : X.calm = true := by rfl) (hs : ∀ x, foldedSetIterable iter X.env x = pure x := by intro _; rfl) (hs1 : ∀ env x, foldedSetIterable iter1 env x = pure x := by intro _ _; rfl) :
    PDS X (.Assign [.Name y py] (.ListComp elt [⟨tg, iter, ifs, 0⟩, ⟨tg1, iter1, ifs1, 0⟩] scope pos) spos) (sOwn i (eLc2 (own.map fun (x : Str × Nat) => x.2) vs1 m g t m1 g1 t1 f)) :=
  ps_mono (ps_setLc2 (g := tG X.K (own.map fun (x : Str × Nat) => x.2) g) (tt := tT X.K t) (wi1 := tI X.K m1) (g1 := tG X.K vs1 g1) (tt1 := tT X.K t1) (te := tD X.K f) hc hN hy hyl hsw hi ok hv (fun s H C cl fp => hg s H C cl fp) (fun s H C cl fp => ht s H C cl fp) (fun s H C cl fp => hi1 s H C cl fp) (fun s H C cl fp => hg1 s H C cl fp) (fun s H C cl fp => ht1 s H C cl fp) (fun s H C cl fp => he s H C cl fp) hs hs1) fun Z σ H q => lc2_red σ H (fun x H1 => gName i x σ H1 Z.nx) (own_red Z σ H q)
/-- the new list becomes data at once -/
theorem own_set_red {K : PySem.W.Frag} {i : Nat} {m : M D} (hk : ∀ {e e' : Lvs} {d : D}, m e = some (d, e') → lk d = false) : ∀ Z σ H, tS K (sSet i m) Z σ H → tAsg (tF K m) (gName i) Z σ H := fun Z σ H ⟨G, B, env, o, env', ok, e, k⟩ => by
  unfold sSet at e
  split at e
  · rename_i d e1 q
    cases e
    exact tF_of ok q fun a B1 H1 ok1 _ h1 h2 h3 h4 => by
      obtain ⟨u, hu⟩ := h2.there
      rw [hu] at h2
      exact k _ _ H1 ((ok1.give hu h1 (ok.live a h3) h4).store (h2.rep h1 (hk q)))
  · cases e
theorem pds_setLc2D (i : Nat) (own : List (Str × Nat)) (vs1 : List Nat) {y : Str} {py : Pos} {elt tg iter tg1 iter1 : Expr} {ifs ifs1 : List Expr} {scope : Scope} {pos spos : Pos} {m m1 : M (List D)} {g g1 : D → Lvs → Option Lvs} {t t1 : M Bool} {f : M D} (hN : X.N.Nodup) (hi : PDI X tg iter m) (ok : BlkOk X.N X.env.scope scope own)
    (hg : Blk X scope fun Y => PDG Y (own.map fun (x : Str × Nat) => x.2) tg g) (ht : Blk X scope fun Y => PDTs Y ifs t) (hi1 : Blk X scope fun Y => PDI Y tg1 iter1 m1) (hg1 : Blk X scope fun Y => PDG Y vs1 tg1 g1) (ht1 : Blk X scope fun Y => PDTs Y ifs1 t1) (he : Blk X scope fun Y => PD Y elt f)
    (hsw : swapsWith (.ListComp elt [⟨tg, iter, ifs, 0⟩, ⟨tg1, iter1, ifs1, 0⟩] scope pos) (some (.Name y py)) spos.line X.env = pure true)
    (hy : X.N[i]? = some y := by rfl) (hyl : X.env.scope.names.lookup y = some .local := by rfl) (hv : ∀ i ∈ vs1, i ∈ own.map (·.2) := by decide) (hc : X.calm = true := by rfl) (hs : ∀ x, foldedSetIterable iter X.env x = pure x := by intro _; rfl) (hs1 : ∀ env x, foldedSetIterable iter1 env x = pure x := by intro _ _; rfl) :
    PDS X (.Assign [.Name y py] (.ListComp elt [⟨tg, iter, ifs, 0⟩, ⟨tg1, iter1, ifs1, 0⟩] scope pos) spos) (sSet i (eLc2 (own.map fun (x : Str × Nat) => x.2) vs1 m g t m1 g1 t1 f)) :=
  ps_mono (ps_setLc2 (g := tG X.K (own.map fun (x : Str × Nat) => x.2) g) (tt := tT X.K t) (wi1 := tI X.K m1) (g1 := tG X.K vs1 g1) (tt1 := tT X.K t1) (te := tD X.K f) hc hN hy hyl hsw hi ok hv (fun s H C cl fp => hg s H C cl fp) (fun s H C cl fp => ht s H C cl fp) (fun s H C cl fp => hi1 s H C cl fp) (fun s H C cl fp => hg1 s H C cl fp) (fun s H C cl fp => ht1 s H C cl fp) (fun s H C cl fp => he s H C cl fp) hs hs1) fun Z σ H q => lc2_red σ H (fun x H1 => gName i x σ H1 Z.nx) (own_set_red eLc2_lst Z σ H q)
end
end Dv
/-! len(set(text)). -/
namespace Dv
open PySem PySem.Spec PyProof.Rows L2 Evl
/-- how many unlike ones there are among the first i -/
def cntS (xs : List Str) : Nat → Nat
  | 0 => 0
  | i + 1 => if (xs.take i).any (· == xs.getD i Str.empty) then cntS xs i else cntS xs i + 1
theorem cntS_le (xs : List Str) : ∀ i, cntS xs i ≤ i
  | 0 => Nat.le_refl _
  | i + 1 => by
    have := cntS_le xs i
    unfold cntS
    split <;> omega
theorem getD_of {xs : List Str} {i : Nat} (h : i < xs.length) : xs.getD i Str.empty = xs[i] := by
  rw [List.getD_eq_getElem?_getD, List.getElem?_eq_getElem h]; rfl
section
variable {prog : Program} {w : World} {A : Around} {R : Result → Shared → Prop} {I : Addr} {fp wr : List Addr} {G : Array GenState → Array GenState → Prop} {n : Nat} {P : Nat → Value → Prop} {St : Nat → Shared → Prop}
theorem loopStrG (W : WalksS prog w A.in1 I fp wr G n P St) (S : Addr) (hSf : S ∉ fp) (xs : List Str) (hsz : xs.length = n) (hn1 : n ≤ 1000)
    (hval : ∀ i v, P i v → ∃ t, v = .str (xs.getD i Str.empty) t) :
    ∀ (k i : Nat) (s : Shared), n - i = k → i ≤ n → St i s →
      s.heap.SetOf (PySem.strKind prog w) S (fun k' => (xs.take i).any (· == k')) (cntS xs i) →
      (∀ s', Moved (S :: wr) G s s' → s'.heap.SetOf (PySem.strKind prog w) S (fun k' => (xs.take n).any (· == k')) (cntS xs n) → R (.ok (.ret .none)) s') →
      codeAny (model prog w) A (.builtin "set.update.loop" ⟨[.ref S, .ref I], []⟩) R s := by
  have hSw : S ∉ wr := fun h => hSf (W.sub _ h)
  have hsub : ∀ b ∈ wr, b ∈ S :: wr := fun b hb => List.mem_cons_of_mem _ hb
  intro k
  induction k with
  | zero =>
    intro i s hk hi hst hS hR
    have hin : i = n := by omega
    subst hin
    refine codeAny_builtin PyProof.Rows.F.entry_set_update_loop ?_
    rw [Around.under_plainId PyProof.Rows.F.plain_set_update_loop _]
    show wpAny _ A.in1 (pyNext (.ref I) >>= _) _ _ s
    refine wpAny_bind (W.done s _ _ hst fun s' hm => ?_)
    show wpAny _ A.in1 (PySem.ret Value.none) _ _ s'
    exact wpAny_pure (hR s' (hm.mono hsub) (by
      obtain ⟨o, es, ep, t, ho, rest⟩ := hS
      exact ⟨o, es, ep, t, hm.heap S _ hSw ho, rest⟩))
  | succ k ih =>
    intro i s hk hi hst hS hR
    have hlt : i < n := by omega
    refine codeAny_builtin PyProof.Rows.F.entry_set_update_loop ?_
    rw [Around.under_plainId PyProof.Rows.F.plain_set_update_loop _]
    show wpAny _ A.in1 (pyNext (.ref I) >>= _) _ _ s
    refine wpAny_bind (W.item i s _ _ hlt hst fun v s' hP hst' hm => ?_)
    obtain ⟨t, rfl⟩ := hval i v hP
    have hS' : s'.heap.SetOf (PySem.strKind prog w) S (fun k' => (xs.take i).any (· == k')) (cntS xs i) := by
      obtain ⟨o, es, ep, tb, ho, rest⟩ := hS
      exact ⟨o, es, ep, tb, hm.heap S _ hSw ho, rest⟩
    show wpAny _ A.in1 (holding [Value.str (xs.getD i Str.empty) t] (setAdd S (.str (xs.getD i Str.empty) t)) >>= _) _ _ s'
    refine wpAny_bind (wpAny_holding ?_)
    unfold setAdd
    refine wpAny_holding ?_
    refine wpAny_bind ((PySem.strKind prog w).pyHash (k := xs.getD i Str.empty) (strKind_is _ _ _ _) ?_)
    have hle := cntS_le xs i
    refine wpAny_setAddHashed_of (knd := PySem.strKind prog w) (s := { s' with toks := s'.toks + 1 }) (strKind_is _ _ _ _) rfl hS' (by unfold scanBound; omega) fun h' hsb hS2 => ?_
    have hSi : h'.SetOf (PySem.strKind prog w) S (fun k' => (xs.take (i + 1)).any (· == k')) (cntS xs (i + 1)) := by
      refine SetOf_congr hS2 (fun k' => ?_) rfl
      have hx : i < xs.length := by omega
      rw [getD_of hx, List.take_add_one, List.getElem?_eq_getElem hx, List.any_append]
      show _ = ((xs.take i).any (· == k') || ([xs[i]].any (· == k')))
      congr 1
      by_cases e : k' = xs[i]
      · subst e; simp
      · have hb : (xs[i] == k') = false := by simpa [beq_iff_eq] using (fun h' : xs[i] = k' => e h'.symm)
        simp [hb, e]
    refine wpAny_pure ⟨plainId_quiet PyProof.Rows.F.plain_set_update_loop _, ih (i + 1) _ (by omega) hlt (W.frame _ s' _ _ hst' (Nat.le_succ _) fun b hb o e => ?_) hSi fun s'' hm'' hS'' => ?_⟩
    · rw [hsb.2 b (fun h : b = S => hSf (by rw [← h]; exact hb))]; exact e
    · refine hR s'' (Moved.trans W.gtrans ((hm.mono hsub).then_heap (Nat.le_succ _) fun b o hb e => ?_) hm'') hS''
      rw [hsb.2 b (fun h : b = S => hb (by rw [h]; exact List.mem_cons_self))]; exact e
end
section
variable {prog : Program} {w : World} {A : Around} {E : Value → Shared → Prop} {s : Shared}
theorem sub_str_set' : isSubtype (.type "str") (.type "set") = pure false := by rw [isSubtype_type]; kernel_rfl
theorem sub_str_frozenset' : isSubtype (.type "str") (.type "frozenset") = pure false := by rw [isSubtype_type]; kernel_rfl
def signs (x : Str) : List Str := x.cps.toList.map fun c => ⟨#[c]⟩
set_option maxHeartbeats 6400000 in
theorem call_set_str {x : Str} {t : Tok} {Q : Value → Shared → Prop}
    (hh : A.handled = none) (hn1 : x.cps.size ≤ 1000)
    (h : ∀ (h' : Heap) (tk : Nat), h'.SetOf (PySem.strKind prog w) s.heap.objs.size (fun k' => ((signs x).take x.cps.size).any (· == k')) (cntS (signs x) x.cps.size) →
      (∀ b o, b < s.heap.objs.size → s.heap.get? b = some o → h'.get? b = some o) → Q (.ref s.heap.objs.size) { s with heap := h', toks := tk }) :
    wpAny (model prog w) A (call (.type "set") [.str x t]) Q E s := by
  obtain ⟨c, tl, hmro⟩ := PySem.F.called_set.mro
  have hmade := PySem.F.called_set.made
  have hsub := PySem.F.called_set.sub
  refine wpAny_call (codeAny_of_tree ?_)
  show wpAny _ _ (callAny (.type "set") _) _ _ _
  refine wpAny_pure ⟨Code.quiet_builtin _ (by decide +kernel), codeAny_builtin PySem.F.entry_type_call ?_⟩
  rw [Around.under_plain (weight_type_call_type "set" [.str x t] []) rfl]
  have h1 := PySem.F.called_set.notType
  have h2 := PySem.F.called_set.canCreate
  have hct := PySem.F.typeCall_set_1 (.str x t)
  repeat (any_goals (first | assumption | wp_step))
  refine codeAny_mono (code_set_new_1 (.str x t) (E := E) (Q₁ := fun obj s₁ => ∃ led : Bool, obj = .ref s.heap.objs.size ∧ s₁ = { s with heap := s.heap.push { cls := .type "set", dict := none, data := .set #[] 0 (.fresh 0 0 led) } }) fun led => ⟨led, rfl, rfl⟩) fun r s₁ hr => ?_
  cases r with
  | error e => exact hr
  | ok fl =>
    cases fl with
    | ret obj =>
      obtain ⟨led, rfl, rfl⟩ := hr
      have hS : (s.heap.push { cls := .type "set", dict := none, data := .set #[] 0 (.fresh 0 0 led) }).get? s.heap.objs.size = some { cls := .type "set", dict := none, data := .set #[] 0 (.fresh 0 0 led) } := Heap.get?_push_size _ rfl
      have hT : Shared.TypeIs { s with heap := s.heap.push { cls := .type "set", dict := none, data := .set #[] 0 (.fresh 0 0 led) } } (.ref s.heap.objs.size) "set" := ⟨_, hS, rfl⟩
      have hli := PySem.F.called_set.init.lookup
      have hbi := PySem.F.called_set.init.bind (.ref s.heap.objs.size)
      repeat (any_goals (first | assumption | wp_step))
      refine codeAny_mono (codeAny_call_builtin (R := wants (fun r s₂ => r = .none ∧ ∃ h' tk, s₂ = { s with heap := h', toks := tk } ∧
          h'.SetOf (PySem.strKind prog w) s.heap.objs.size (fun k' => ((signs x).take x.cps.size).any (· == k')) (cntS (signs x) x.cps.size) ∧
          (∀ b o, b < s.heap.objs.size → s.heap.get? b = some o → h'.get? b = some o)) E) PySem.F.called_set.init.plain PySem.F.entry_set_init (check_set_init_1 hT ?_)) fun r₂ s₂ hr₂ => ?_
      · have hsls := sub_str_set'
        have hslf := sub_str_frozenset'
        have hne : (Value.type "str" == Value.type "dict") = false := by decide
        unfold Builtin.«set.__init__» noKeywords Builtin.Frozenset.updateFrom
        generalize hPI : pyIter = PI
        wp_walk
        subst hPI
        refine PySem.wpAny_pyIter_str fun o St hW hst0 => ?_
        refine wpAny_bind (wpAny_runValue ?_)
        have hh3 : A.in1.in1.in1.handled = none := by simp [hh]
        have hSf : s.heap.objs.size ∉ [(s.heap.push { cls := .type "set", dict := none, data := .set #[] 0 (.fresh 0 0 led) }).objs.size] := by
          rw [Heap.size_push]; simp only [List.mem_singleton]
          exact Nat.ne_of_lt (Nat.lt_succ_self _)
        have hsz : (signs x).length = x.cps.size := by simp [signs]
        have hval : ∀ (i : Nat) (v : Value), SignAt x i v → ∃ t, v = .str ((signs x).getD i Str.empty) t := fun i v ⟨c, u, hc, e⟩ => by
          refine ⟨u, ?_⟩
          rw [e, List.getD_eq_getElem?_getD]
          unfold signs
          rw [List.getElem?_map, Array.getElem?_toList, hc]; rfl
        refine loopStrG ((hW _ hh3).toS) s.heap.objs.size hSf (signs x) hsz hn1 hval (x.cps.size - 0) 0 _ (by omega) (Nat.zero_le _) hst0 ?hS0 ?hR
        case hS0 =>
          have hget : ((s.heap.push { cls := .type "set", dict := none, data := .set #[] 0 (.fresh 0 0 led) }).push o).get? s.heap.objs.size
              = some { cls := .type "set", dict := none, data := .set #[] 0 (.fresh 0 0 led) } := Heap.get?_push_of_some _ hS
          exact PyProof.Rows.SetOf_congr ((PyProof.Rows.setObjOf_fresh (knd := PySem.strKind prog w) led).setOf hget (by unfold scanBound; omega)) (fun _ => rfl) rfl
        case hR =>
          intro s' hm hS'
          obtain ⟨h', g', d', tk', os'⟩ := s'
          have eg : g' = s.gens := hm.gens
          have ed : d' = s.drawn := hm.drawn
          have eo : os' = s.os := hm.os
          subst eg; subst ed; subst eo
          show wpAny _ _ _ _ _ _
          refine wpAny_pure ?_
          show wpAny _ _ (PySem.ret Value.none) _ _ _
          refine wpAny_pure ⟨rfl, h', tk', rfl, hS', fun b o hb e => ?_⟩
          have hb1 : b ≠ s.heap.objs.size := Nat.ne_of_lt hb
          have hb2 : b ≠ (s.heap.push { cls := .type "set", dict := none, data := .set #[] 0 (.fresh 0 0 led) }).objs.size := by
            rw [Heap.size_push]; exact Nat.ne_of_lt (Nat.lt_succ_of_lt hb)
          exact hm.heap b o (by simp only [List.mem_cons, List.mem_singleton, List.not_mem_nil, or_false, not_or]; exact ⟨hb1, hb2⟩) (Heap.get?_push_of_some _ (Heap.get?_push_of_some _ e))
      · cases r₂ with
        | error e => exact hr₂
        | ok fl₂ =>
          cases fl₂ with
          | ret r =>
            obtain ⟨rfl, h', tk, rfl, hS', hk'⟩ := hr₂
            repeat (any_goals (first | assumption | wp_step))
            exact h _ _ hS' hk'
          | _ => exact hr₂.elim
    | _ => exact hr.elim
end
/-- len(set(text)) -/
def tLenSetS (ta : TE) : TE := fun σ H Q => ta σ H fun x H1 => ∃ z : Str, x = .str z ∧ z.cps.size ≤ 1000 ∧ Q (.int (cntS (signs z) z.cps.size : Nat)) H1
section
variable {X : Cx}
theorem pe_lenSetS {a : Expr} {ta : TE} {p p2 q pos : Pos} (hc : X.calm = true) (hg : Gl X "len") (hm : X.mg "len" = none) (hg2 : Gl X "set") (hm2 : X.mg "set" = none) (ha : PE X a ta)
    (na : starEach [a] X.env = (false, eval a X.env) :: starEach [] X.env := by rfl) : PE X (.Call (.Name "len" p) [.Call (.Name "set" p2) [a] [] q] [] pos) (tLenSetS ta) := by
  refine ⟨fun pins s σ H Q I h => ?_⟩
  refine Call_ (ld_blt I hg hm boot_len ?_)
  refine PyProof.Rows.callWith_builtin1 (PyProof.Rows.args_cons ?_ rfl) rfl rfl
  refine Call_ (ld_blt I hg2 hm2 boot_set ?_)
  refine PyProof.Rows.callWith_type1 (PyProof.Rows.args_cons (thn (ha.run pins s σ H _ I h) fun v s1 ⟨x, H1, I1, r1, q1⟩ => PyProof.Rows.args_nil ?_) na) na rfl
  obtain ⟨z, rfl, h1, q1⟩ := q1
  obtain ⟨t, rfl⟩ := r1
  refine call_set_str (I1.ok.hd hc) h1 fun h' tk hS hk => ?_
  refine PyProof.Rows.args_nil ?_
  obtain ⟨o, es, ep, tb, ho, hex, hd, _, _, _, hf, hn⟩ := hS
  have hle := cntS_le (signs z) z.cps.size
  have I2 : Inv X pins σ H1 { s1 with heap := h', toks := tk } := I1.kept fun b o e => hk b o (Heap.lt_size e) e
  exact call_len_set ho hex hd hf (by rw [hn]; omega) ⟨.int _, H1, I2.tok _, ⟨_, by rw [hn]⟩, q1⟩
/-- how many unlike letters a text has -/
def unlike (s : List Nat) : Nat := s.eraseDups.length
def eLenSet (m : M D) : M D := bnd m fun d => match d with
  | .str s => if s.length ≤ 1000 then ret (.int (cntS (signs (mkS s)) s.length : Nat)) else stuck
  | _ => stuck
theorem pd_lenSet {a : Expr} {m : M D} {p p2 q pos : Pos} (hm : X.mg "len" = none) (hm2 : X.mg "set" = none) (ha : PD X a m) (hc : X.calm = true := by rfl) (hg : Gl X "len" := by rfl) (hg2 : Gl X "set" := by rfl)
    (na : starEach [a] X.env = (false, eval a X.env) :: starEach [] X.env := by rfl) : PD X (.Call (.Name "len" p) [.Call (.Name "set" p2) [a] [] q] [] pos) (eLenSet m) :=
  pe_mono (pe_lenSetS hc hg hm hg2 hm2 ha na) fun σ H Q ⟨G, B, env, d, env', ok, e, k⟩ => by
    obtain ⟨x, e1, q1, e⟩ := bnd_some e
    split at e
    · rename_i s
      split at e
      · rename_i hl
        cases ret_some e
        have hsz : (mkS s).cps.size = s.length := mkS_len s
        exact tD_of ok q1 fun v B1 H1 ok1 _ r1 => ⟨mkS s, r1, by rw [hsz]; exact hl, by rw [hsz]; exact k _ B1 H1 ok1 rfl⟩
      · cases e
    · cases e
end
end Dv
/-! What code on data gives, construct by construct. -/
namespace Dv
open PySem PySem.Spec PyProof.Rows L2 Evl
section
variable {α β : Type} {e e1 e2 e3 e4 : Lvs} {d x y z w : D} {ds : List D} {i : Nat} {b : Bool} {f g : D → D → Option D} {ma mb mc : M D} {mt mu : M Bool} {ml mr : M (List D)} {mo mp : M (Option Int)} {o : Out} {sa sb : MS}
theorem ev_ret {a : α} : ret a e = some (a, e) := rfl
theorem ev_C : eC d e = some (d, e) := rfl
theorem ev_var (h : e[i]? = some (.val d)) : eVar i e = some (d, e) := by unfold eVar; rw [h]
theorem ev_varO {p : Bool} (h : e[i]? = some (.own p d)) (h2 : e.set i (.val d) = e1) : eVar i e = some (d, e1) := by unfold eVar; rw [h]; subst h2; rfl
theorem ev_peek (h : e[i]? = some (.val d)) : ePeek i e = some (d, e) := by unfold ePeek; rw [h]
theorem ev_peekO {p : Bool} {ds : List D} (h : e[i]? = some (.own p (.lst ds))) : ePeek i e = some (.lst ds, e) := by unfold ePeek; rw [h]
theorem ev_bnd {m : M α} {k : α → M β} {a : α} {q : β × Lvs} (h : m e = some (a, e1)) (h2 : k a e1 = some q) : bnd m k e = some q := by unfold bnd; rw [h]; exact h2
theorem ev_lft {o : Option α} {a : α} (h : o = some a) : lft o e = some (a, e) := by unfold lft; rw [h]
theorem ev_op (ha : ma e = some (x, e1)) (hb : mb e1 = some (y, e2)) (h : f x y = some z) : eOp f ma mb e = some (z, e2) := ev_bnd ha (ev_bnd hb (ev_lft h))
theorem ev_opL {x0 : D} (h0 : ePeek i e = some (x0, e)) (hb : mb e = some (y, e1)) (ha : ePeek i e1 = some (x, e1)) (h : f x y = some z) : eOpL f i mb e = some (z, e1) := ev_bnd h0 (ev_bnd hb (ev_bnd ha (ev_lft h)))
theorem ev_opR {j : Nat} (ha : ma e = some (x, e1)) (hb : ePeek j e1 = some (y, e1)) (h : f x y = some z) : eOpR f ma j e = some (z, e1) := ev_bnd ha (ev_bnd hb (ev_lft h))
theorem ev_opB {j : Nat} (ha : ePeek i e = some (x, e)) (hb : ePeek j e = some (y, e)) (h : f x y = some z) : eOpB f i j e = some (z, e) := ev_bnd ha (ev_bnd hb (ev_lft h))
theorem ev_test (h : ma e = some (.bl b, e1)) : eTest ma e = some (b, e1) := ev_bnd h (ev_lft rfl)
theorem ev_nil : (ret [] : M (List D)) e = some ([], e) := rfl
theorem ev_cons (h : ma e = some (d, e1)) (h2 : mr e1 = some (ds, e2)) : aCons ma mr e = some (d :: ds, e2) := ev_bnd h (ev_bnd h2 rfl)
theorem ev_lst (h : ml e = some (ds, e1)) (hl : lim ds.length = true) : eLst ml e = some (.lst ds, e1) := ev_bnd h (by rw [if_pos hl]; rfl)
theorem ev_tup (h : ml e = some (ds, e1)) (hl : lim ds.length = true) : eTup ml e = some (.tup ds, e1) := ev_bnd h (by rw [if_pos hl]; rfl)
theorem ev_ix (ha : ma e = some (x, e1)) (hb : mb e1 = some (y, e2)) (h : ixD x y = some z) : eIx ma mb e = some (z, e2) := ev_bnd ha (ev_bnd hb (ev_lft h))
theorem ev_pk (h : e[i]? = some (.val d)) : ePk i e = some (d, e) := by unfold ePk; rw [h]
theorem ev_pkO {p : Bool} {ds : List D} (h : e[i]? = some (.own p (.lst ds))) : ePk i e = some (.lst ds, e) := by unfold ePk; rw [h]
theorem ev_pkD {p : Bool} {ks : List KD} {ds : List D} (h : e[i]? = some (.own p (.dct ks ds))) : ePk i e = some (.dct ks ds, e) := by unfold ePk; rw [h]
theorem ev_ixV {x0 : D} (h0 : ePk i e = some (x0, e)) (hb : mb e = some (y, e1)) (ha : ePk i e1 = some (x, e1)) (h : ixD x y = some z) : eIxV i mb e = some (z, e1) := ev_bnd h0 (ev_bnd hb (ev_bnd ha (ev_lft h)))
theorem ev_oN : oNone e = some (none, e) := rfl
theorem ev_oS {k : Int} (h : ma e = some (.int k, e1)) : oSome ma e = some (some k, e1) := ev_bnd h rfl
theorem ev_sl {l h : Option Int} (ha : ma e = some (x, e1)) (hl : mo e1 = some (l, e2)) (hh : mp e2 = some (h, e3)) (hs : slD x l h = some z) : eSl ma mo mp e = some (z, e3) := ev_bnd ha (ev_bnd hl (ev_bnd hh (ev_lft hs)))
theorem ev_rev {l : Option Int} (ha : ma e = some (x, e1)) (hl : mo e1 = some (l, e2)) (hs : revS x l = some z) : eRev ma mo e = some (z, e2) := ev_bnd ha (ev_bnd hl (ev_lft hs))
theorem ev_callB {F : List D → Option D} (h : ml e = some (ds, e1)) (h2 : F ds = some z) : eCallB F ml e = some (z, e1) := ev_bnd h (ev_lft h2)
theorem ev_lenV (h : ePeek i e = some (x, e)) (h2 : lenD [x] = some z) : eLenV i e = some (z, e) := ev_bnd h (ev_lft h2)
theorem ev_methS {F : D → List D → Option D} {s : List Nat} (h : ma e = some (.str s, e1)) (h2 : ml e1 = some (ds, e2)) (h3 : F (.str s) ds = some z) : eMethS F ma ml e = some (z, e2) := ev_bnd h (ev_bnd h2 (ev_lft h3))
theorem ev_bits {k : Int} (h : ma e = some (.int k, e1)) : eBits ma e = some (.int (Builtin.Int.intBits k : Nat), e1) := ev_bnd h rfl
theorem ev_lenSet {s : List Nat} (h : ma e = some (.str s, e1)) (hl : s.length ≤ 1000) : eLenSet ma e = some (.int (cntS (signs (mkS s)) s.length : Nat), e1) := ev_bnd h (by show (if s.length ≤ 1000 then ret (.int (cntS (signs (mkS s)) s.length : Nat)) else stuck : M D) e1 = _; rw [if_pos hl]; rfl)
theorem ev_andT (h : ma e = some (.bl true, e1)) (h2 : mb e1 = some (z, e2)) : eAnd ma mb e = some (z, e2) := ev_bnd h h2
theorem ev_andF (h : ma e = some (.bl false, e1)) : eAnd ma mb e = some (.bl false, e1) := ev_bnd h rfl
theorem ev_orF (h : ma e = some (.bl false, e1)) (h2 : mb e1 = some (z, e2)) : eOr ma mb e = some (z, e2) := ev_bnd h h2
theorem ev_orT (h : ma e = some (.bl true, e1)) : eOr ma mb e = some (.bl true, e1) := ev_bnd h rfl
theorem ev_not (h : ma e = some (.bl b, e1)) : eNot ma e = some (.bl (!b), e1) := ev_bnd h rfl
theorem ev_and2 {c : Bool} (h : ma e = some (.bl b, e)) (h2 : mb e = some (.bl c, e)) : eAnd ma mb e = some (.bl (b && c), e) := by cases b; exact ev_andF h; exact ev_andT h h2
theorem ev_or2 {c : Bool} (h : ma e = some (.bl b, e)) (h2 : mb e = some (.bl c, e)) : eOr ma mb e = some (.bl (b || c), e) := by cases b; exact ev_orF h h2; exact ev_orT h
theorem ev_bAnd2 {c : Bool} (h : mt e = some (b, e)) (h2 : mu e = some (c, e)) : bAnd mt mu e = some (b && c, e) := ev_bnd h (by cases b; rfl; exact h2)
theorem ev_bAndT (h : mt e = some (true, e1)) (h2 : mu e1 = some (b, e2)) : bAnd mt mu e = some (b, e2) := ev_bnd h h2
theorem ev_bAndF (h : mt e = some (false, e1)) : bAnd mt mu e = some (false, e1) := ev_bnd h rfl
theorem ev_bOr2 {c : Bool} (h : mt e = some (b, e)) (h2 : mu e = some (c, e)) : bOr mt mu e = some (b || c, e) := ev_bnd h (by cases b; exact h2; rfl)
theorem ev_bOrF (h : mt e = some (false, e1)) (h2 : mu e1 = some (b, e2)) : bOr mt mu e = some (b, e2) := ev_bnd h h2
theorem ev_bOrT (h : mt e = some (true, e1)) : bOr mt mu e = some (true, e1) := ev_bnd h rfl
theorem ev_bNot (h : mt e = some (b, e1)) : bNot mt e = some (!b, e1) := ev_bnd h rfl
theorem ev_eIf (h : mt e = some (b, e1)) (h2 : (if b = true then ma e1 else mb e1) = some (z, e2)) : eIf mt ma mb e = some (z, e2) := ev_bnd h (by
  cases b
  · rw [if_neg Bool.false_ne_true] at h2 ⊢; exact h2
  · rw [if_pos rfl] at h2 ⊢; exact h2)
theorem ev_eIfT (h : mt e = some (true, e1)) (h2 : ma e1 = some (z, e2)) : eIf mt ma mb e = some (z, e2) := ev_bnd h (by rw [if_pos rfl]; exact h2)
theorem ev_eIfF (h : mt e = some (false, e1)) (h2 : mb e1 = some (z, e2)) : eIf mt ma mb e = some (z, e2) := ev_bnd h (by rw [if_neg Bool.false_ne_true]; exact h2)
theorem ev_chnT {mc : M D} (ha : ma e = some (x, e1)) (hb : mb e1 = some (y, e2)) (h : f x y = some (.bl true)) (hc : mc e2 = some (w, e3)) (h2 : g y w = some z) : eChn f g ma mb mc e = some (z, e3) := ev_bnd ha (ev_bnd hb (ev_bnd (ev_lft h) (ev_bnd hc (ev_lft h2))))
theorem ev_chnF {mc : M D} (ha : ma e = some (x, e1)) (hb : mb e1 = some (y, e2)) (h : f x y = some (.bl false)) : eChn f g ma mb mc e = some (.bl false, e2) := ev_bnd ha (ev_bnd hb (ev_bnd (ev_lft h) rfl))
theorem ev_neg {k : Int} (h : ma e = some (.int k, e1)) : eNeg ma e = some (.int (-k), e1) := ev_bnd h rfl
theorem ev_iAny (h : ma e = some (d, e1)) (h2 : itemsOf d = some ds) : iAny ma e = some (ds, e1) := ev_bnd h (ev_lft h2)
theorem ev_iRange {r : List D → Option (List D)} {is : List D} (h : ml e = some (ds, e1)) (h2 : r ds = some is) : iRange r ml e = some (is, e1) := ev_bnd h (ev_lft h2)
theorem ev_rVal {avs : List Av} {m : M (List Av)} (h : ma e = some (d, e1)) (h2 : m e1 = some (avs, e2)) : rVal ma m e = some (.val d :: avs, e2) := ev_bnd h (ev_bnd h2 rfl)
theorem ev_rNew {avs : List Av} {m : M (List Av)} (h : ma e = some (d, e1)) (h2 : m e1 = some (avs, e2)) : rNew ma m e = some (.new d :: avs, e2) := ev_bnd h (ev_bnd h2 rfl)
theorem ev_eOwn {p : Bool} (h : e[i]? = some (.own p d)) : eOwn i e = some (d, e) := by unfold eOwn; rw [h]
theorem ev_rLend {avs : List Av} {m : M (List Av)} {x : D} (h : eOwn i e = some (x, e)) (h2 : m e = some (avs, e1)) : rLend i m e = some (.lend i :: avs, e1) := ev_bnd h (ev_bnd h2 rfl)
theorem ev_rNil : (ret [] : M (List Av)) e = some ([], e) := rfl
theorem ev_call {ms : List Bool} {F : Fn} {avs : List Av} {m : M (List Av)} {r : D} {bs : List D} (h : m e = some (avs, e1)) (hk : kinds ms avs = true) (hd : dsOf e1 avs = some ds) (hF : F ds = some (r, bs)) (hp : putBack avs bs e1 = some e2) : eCall ms F m e = some (r, e2) := ev_bnd h (by rw [if_pos hk, hd]; show (match F ds with | some (r, bs) => _ | none => none) = _; rw [hF]; show (match putBack avs bs e1 with | some e' => some (r, e') | none => none) = _; rw [hp])
/-! statements -/
theorem ev_seq {q : Out × Lvs} (ha : sa e = some (.nx, e1)) (hb : sb e1 = some q) : sSeq sa sb e = some q := by unfold sSeq; rw [ha]; exact hb
theorem ev_seqR (ha : sa e = some (.rt d, e1)) : sSeq sa sb e = some (.rt d, e1) := by unfold sSeq; rw [ha]
theorem ev_set (h : ma e = some (d, e1)) (h2 : e1.set i (.val d) = e2) : sSet i ma e = some (.nx, e2) := by unfold sSet; rw [h]; subst h2; rfl
theorem ev_own (h : ma e = some (d, e1)) (h2 : e1.set i (.own false d) = e2) : sOwn i ma e = some (.nx, e2) := by unfold sOwn; rw [h]; subst h2; rfl
theorem ev_rt (h : ma e = some (d, e1)) : sRet ma e = some (.rt d, e1) := by unfold sRet; rw [h]
theorem ev_rtF (h : ma e = some (d, e1)) : sRetF ma e = some (.rn d, e1) := by unfold sRetF; rw [h]
theorem ev_do (h : ma e = some (d, e1)) : sDo ma e = some (.nx, e1) := by unfold sDo; rw [h]
theorem ev_nx : sNx e = some (.nx, e) := rfl
theorem ev_ifT {q : Out × Lvs} (h : mt e = some (true, e1)) (h2 : sa e1 = some q) : sIf mt sa sb e = some q := by unfold sIf; rw [h]; exact h2
theorem ev_ifF {q : Out × Lvs} (h : mt e = some (false, e1)) (h2 : sb e1 = some q) : sIf mt sa sb e = some q := by unfold sIf; rw [h]; exact h2
theorem ev_if {q : Out × Lvs} (h : mt e = some (b, e1)) (h2 : (bif b then sa e1 else sb e1) = some q) : sIf mt sa sb e = some q := by cases b; exact ev_ifF h h2; exact ev_ifT h h2
theorem ev_for {gg : D → Lvs → Option Lvs} {q : Out × Lvs} (h : ml e = some (ds, e1)) (h2 : forL gg sb ds e1 = some q) : sFor ml gg sb e = some q := by unfold sFor; rw [h]; exact h2
theorem ev_setIx {ix v : M D} {p : Bool} {k : Int} {j : Nat} {q : D × Lvs} (hv : v e = some (d, e1)) (hp : ePeek i e1 = some q) (hi : ix e1 = some (.int k, e2)) (hs : e2[i]? = some (.own p (.lst ds))) (hj : ixN ds.length k = some j) (h2 : e2.set i (.own p (.lst (ds.set j d))) = e3) : sSetIx i ix v e = some (.nx, e3) := by
  unfold sSetIx; rw [hv]; show (match ePeek i e1 with | some _ => _ | none => none) = _; rw [hp]; show (match ix e1 with | some (.int k, e2) => _ | _ => none) = _; rw [hi]
  show (match e2[i]? with | some (.own p (.lst ds)) => _ | _ => none) = _
  rw [hs]
  show (match ixN ds.length k with | some j => _ | none => none) = _
  rw [hj]; subst h2; rfl
theorem ev_app {p p0 : Bool} {ds0 : List D} (h0 : e[i]? = some (.own p0 (.lst ds0))) (h : ma e = some (d, e1)) (hs : e1[i]? = some (.own p (.lst ds))) (hl : lim (ds.length + 1) = true) (h2 : e1.set i (.own p (.lst (ds ++ [d]))) = e2) : sApp i ma e = some (.nx, e2) := by
  unfold sApp; rw [h0]; show (match ma e with | some (d, e1) => _ | none => none) = _; rw [h]
  show (match e1[i]? with | some (.own p (.lst ds)) => _ | _ => none) = _
  rw [hs]
  show (if lim (ds.length + 1) = true then _ else _) = _
  rw [if_pos hl]; subst h2; rfl
theorem ev_par {j : Nat} {d1 d2 : D} (h : ml e = some ([d1, d2], e1)) (h2 : (e1.set i (.val d1)).set j (.val d2) = e2) : sPar i j ml e = some (.nx, e2) := by unfold sPar; rw [h]; subst h2; rfl
theorem ev_asg {gg : D → Lvs → Option Lvs} (h : ma e = some (d, e1)) (h2 : gg d e1 = some e2) : sAsg ma gg e = some (.nx, e2) := by unfold sAsg; rw [h]; show (match gg d e1 with | some e2 => _ | none => none) = _; rw [h2]
theorem ev_lc {vs : List Nat} {gg : D → Lvs → Option Lvs} {rs : List D} (h : ml e = some (ds, e1)) (hw : wipeE e1 vs = e2) (h2 : lcL vs gg mt ma ds [] e2 = some (rs, e3)) : eLc vs ml gg mt ma e = some (.lst rs, e3) := ev_bnd h (by subst hw; show (match lcL vs gg mt ma ds [] (wipeE e1 vs) with | some (rs, e1) => _ | none => none) = _; rw [h2])
theorem ev_lc2 {vs vs1 : List Nat} {gg g1 : D → Lvs → Option Lvs} {m1 : M (List D)} {rs : List D} (h : ml e = some (ds, e1)) (hw : wipeE e1 vs = e2) (h2 : lc2L vs vs1 gg mt m1 g1 mu ma ds [] e2 = some (rs, e3)) : eLc2 vs vs1 ml gg mt m1 g1 mu ma e = some (.lst rs, e3) := ev_bnd h (by subst hw; show (match lc2L vs vs1 gg mt m1 g1 mu ma ds [] (wipeE e1 vs) with | some (rs, e1) => _ | none => none) = _; rw [h2])
/-! a def's run -/
theorem ev_run {ms : List Bool} {n : Nat} {body : MS} {bs : List D} (hl : ds.length = ms.length) (he : initE ms ds ++ List.replicate (n - ms.length) .no = e) (hb : body e = some (.rt d, e1)) (hk : backs ms e1 = some bs) : runF ms n false body ds = some (d, bs) := by
  unfold runF; rw [if_pos hl, he, hb]; show (if false = true then none else match backs ms e1 with | some bs => some (d, bs) | none => none) = _; rw [if_neg Bool.false_ne_true, hk]
theorem ev_runF {ms : List Bool} {n : Nat} {body : MS} {bs : List D} (hl : ds.length = ms.length) (he : initE ms ds ++ List.replicate (n - ms.length) .no = e) (hb : body e = some (.rn d, e1)) (hk : backs ms e1 = some bs) : runF ms n true body ds = some (d, bs) := by
  unfold runF; rw [if_pos hl, he, hb]; show (if true = true then match backs ms e1 with | some bs => some (d, bs) | none => none else none) = _; rw [if_pos rfl, hk]
theorem ev_runN {ms : List Bool} {n : Nat} {body : MS} {bs : List D} (hl : ds.length = ms.length) (he : initE ms ds ++ List.replicate (n - ms.length) .no = e) (hb : body e = some (.nx, e1)) (hk : backs ms e1 = some bs) : runF ms n false body ds = some (.non, bs) := by
  unfold runF; rw [if_pos hl, he, hb]; show (if false = true then none else match backs ms e1 with | some bs => some (D.non, bs) | none => none) = _; rw [if_neg Bool.false_ne_true, hk]
/-! operations whose sizes are asked -/
theorem ev_mul {i j : Int} (h : i.natAbs.log2 + j.natAbs.log2 < 1000000) : mulD (.int i) (.int j) = some (.int (i * j)) := if_pos h
theorem ev_mulS {a : List Nat} {k : Int} (h : (small63 k && lim (a.length * k.toNat)) = true) : mulD (.str a) (.int k) = some (.str (List.replicate k.toNat a).flatten) := if_pos h
theorem ev_mulL {a : List D} {k : Int} (h : (small63 k && lim (a.length * k.toNat)) = true) : mulD (.lst a) (.int k) = some (.lst (List.replicate k.toNat a).flatten) := if_pos h
theorem ev_fdiv {i j : Int} (h : 0 < j) (h2 : j.natAbs.log2 < 9000) : fdivD (.int i) (.int j) = some (.int (i / j)) := if_pos (by rw [decide_eq_true h, decide_eq_true h2]; rfl)
theorem ev_mod {i j : Int} (h : 0 < j) : modD (.int i) (.int j) = some (.int (i % j)) := if_pos h
theorem ev_pow {i j : Int} (h : 0 ≤ j) (h2 : (i.natAbs.log2 + 1) * j.toNat ≤ 100000000) : powD (.int i) (.int j) = some (.int (i ^ j.toNat)) := if_pos (by rw [decide_eq_true h, decide_eq_true h2]; rfl)
theorem ev_addS {a b : List Nat} (h : lim (a.length + b.length) = true) : addD (.str a) (.str b) = some (.str (a ++ b)) := if_pos h
theorem ev_addL {a b : List D} (h : lim (a.length + b.length) = true) : addD (.lst a) (.lst b) = some (.lst (a ++ b)) := if_pos h
theorem ev_addT {a b : List D} (h : lim (a.length + b.length) = true) : addD (.tup a) (.tup b) = some (.tup (a ++ b)) := if_pos h
theorem ev_addLL {a b : List D} (h : lim (a.length + b.length) = true) : addL (.lst a) (.lst b) = some (.lst (a ++ b)) := if_pos h
theorem ev_mulLL {a : List D} {k : Int} (h : (small63 k && lim (a.length * k.toNat)) = true) : mulL (.lst a) (.int k) = some (.lst (List.replicate k.toNat a).flatten) := if_pos h
theorem ev_lenS {s : List Nat} (h : lim s.length = true) : lenD [.str s] = some (.int (s.length : Nat)) := if_pos h
theorem ev_slS {s : List Nat} {l h : Option Int} (hl : lim s.length = true) : slD (.str s) l h = some (.str (cut s l h)) := if_pos hl
theorem ev_revS {s : List Nat} (hl : lim s.length = true) : revS (.str s) (some (-1)) = some (.str s.reverse) := if_pos hl
theorem ev_eqG {x y : D} (h : shp x = true) (h' : shp y = true) : eqG x y = some (.bl (eqB x y)) := if_pos (by rw [h, h']; rfl)
theorem ev_neG {x y : D} (h : shp x = true) (h' : shp y = true) : neG x y = some (.bl (!eqB x y)) := if_pos (by rw [h, h']; rfl)
theorem ev_strip {a b : List Nat} (h : lim a.length = true) : stripD (.str a) [.str b] = some (.str (stripL a b)) := if_pos h
theorem lim_of {n : Nat} (h : n ≤ 16777216) : lim n = true := decide_eq_true h
theorem kit_is : kitB "int" "int" = some true := by decide +kernel
theorem kit_ib : kitB "int" "bool" = some false := by decide +kernel
theorem kit_ss : kitB "str" "str" = some true := by decide +kernel
theorem kit_bb : kitB "bool" "bool" = some true := by decide +kernel
theorem kit_bi : kitB "bool" "int" = some true := by decide +kernel
theorem ev_isi {d : D} {n : String} {b : Bool} (h : isTy d = false) (h2 : kitB (tyN d) n = some b) : isiD [d, .ty n] = some (.bl b) := by
  show (if isTy d = true then none else match kitB (tyN d) n with | some b => some (D.bl b) | none => none) = _
  rw [h, h2]; rfl
theorem set_z {a b : Lv} {l : Lvs} : (a :: l).set 0 b = b :: l := rfl
theorem set_s {a b : Lv} {l l' : Lvs} {n : Nat} (h : l.set n b = l') : (a :: l).set (n + 1) b = a :: l' := by subst h; rfl
end
/-! ### loops -/
theorem forL_inv {g : D → Lvs → Option Lvs} {b : MS} (I : Nat → Lvs → Prop) (ds : List D) (e : Lvs) (h0 : I 0 e) (step : ∀ (i : Nat) (d : D) (e : Lvs), ds[i]? = some d → I i e → ∃ e1 e2, g d e = some e1 ∧ (b e1 = some (.nx, e2) ∨ b e1 = some (.ct, e2)) ∧ I (i + 1) e2) : ∃ e', forL g b ds e = some (.nx, e') ∧ I ds.length e' := by
  suffices ∀ (k i : Nat) (e : Lvs), ds.length - i = k → i ≤ ds.length → I i e → ∃ e', forL g b (ds.drop i) e = some (.nx, e') ∧ I ds.length e' by
    have := this ds.length 0 e rfl (Nat.zero_le _) h0
    rwa [List.drop_zero] at this
  intro k
  induction k with
  | zero =>
    intro i e hk hi h
    have : i = ds.length := by omega
    subst this
    rw [List.drop_length]
    exact ⟨e, rfl, h⟩
  | succ k ih =>
    intro i e hk hi h
    have hlt : i < ds.length := by omega
    obtain ⟨e1, e2, q1, q2, q3⟩ := step i ds[i] e (List.getElem?_eq_getElem hlt) h
    obtain ⟨e', r1, r2⟩ := ih (i + 1) e2 (by omega) hlt q3
    refine ⟨e', ?_, r2⟩
    rw [List.drop_eq_getElem_cons hlt]
    unfold forL
    rw [q1]
    show (match b e1 with | some (.nx, e2) => _ | some (.ct, e2) => _ | some (.bk, e2) => _ | r => r) = _
    rcases q2 with q2 | q2
    · rw [q2]; exact r1
    · rw [q2]; exact r1
/-- the code keeps a state -/
theorem forL_fold {S : Type} {g : D → Lvs → Option Lvs} {b : MS} (enc : S → Lvs) (step : S → D → S) : ∀ (ds : List D) (s : S), (∀ d ∈ ds, ∀ s, ∃ e1, g d (enc s) = some e1 ∧ b e1 = some (.nx, enc (step s d))) → forL g b ds (enc s) = some (.nx, enc (ds.foldl step s))
  | [], s, _ => rfl
  | d :: ds, s, h => by
    obtain ⟨e1, q1, q2⟩ := h d List.mem_cons_self s
    unfold forL
    rw [q1]
    show (match b e1 with | some (.nx, e2) => _ | some (.ct, e2) => _ | some (.bk, e2) => _ | r => r) = _
    rw [q2]
    exact forL_fold enc step ds _ fun d' hd => h d' (List.mem_cons_of_mem _ hd)
/-- a comprehension that keeps all: its code keeps an invariant of the frame -/
theorem lcL_map {vs : List Nat} {g : D → Lvs → Option Lvs} {f : M D} (val : D → D) (E : Lvs) : ∀ (ds acc : List D), ds.length + acc.length ≤ 16777216 → (∀ d ∈ ds, ∃ e1 e2, g d E = some e1 ∧ f e1 = some (val d, e2) ∧ wipeE e2 vs = E) → lcL vs g bYes f ds acc E = some (acc ++ ds.map val, E)
  | [], acc, _, _ => by simp [lcL]
  | d :: ds, acc, hl, h => by
    obtain ⟨e1, e2, q1, q2, q3⟩ := h d List.mem_cons_self
    unfold lcL
    rw [q1]
    show (match f e1 with | some (y, e3) => if lim (acc.length + 1) = true then _ else none | none => none) = _
    rw [q2]
    show (if lim (acc.length + 1) = true then lcL vs g bYes f ds (acc ++ [val d]) (wipeE e2 vs) else none) = _
    rw [if_pos (lim_of (by rw [List.length_cons] at hl; omega)), q3, lcL_map val E ds _ (by rw [List.length_append, List.length_cons, List.length_nil]; rw [List.length_cons] at hl; omega) fun d' hd => h d' (List.mem_cons_of_mem _ hd)]
    simp
theorem lcL_filter {vs : List Nat} {g : D → Lvs → Option Lvs} {t : M Bool} {f : M D} (keep : D → Bool) (val : D → D) (E : Lvs) : ∀ (ds acc : List D), ds.length + acc.length ≤ 16777216 → (∀ d ∈ ds, ∃ e1 e2 e3, g d E = some e1 ∧ t e1 = some (keep d, e2) ∧ (keep d = true → f e2 = some (val d, e3) ∧ wipeE e3 vs = E) ∧ (keep d = false → wipeE e2 vs = E)) → lcL vs g t f ds acc E = some (acc ++ (ds.filter keep).map val, E)
  | [], acc, _, _ => by simp [lcL]
  | d :: ds, acc, hl, h => by
    obtain ⟨e1, e2, e3, q1, q2, q3, q4⟩ := h d List.mem_cons_self
    have hl' : ds.length + acc.length ≤ 16777216 := by rw [List.length_cons] at hl; omega
    have hl2 : ds.length + (acc ++ [val d]).length ≤ 16777216 := by rw [List.length_append, List.length_cons, List.length_nil]; rw [List.length_cons] at hl; omega
    unfold lcL
    rw [q1]
    show (match t e1 with | some (true, e2) => _ | some (false, e2) => _ | none => none) = _
    rw [q2]
    cases hk : keep d with
    | true =>
      obtain ⟨r1, r2⟩ := q3 hk
      show (match f e2 with | some (y, e3) => if lim (acc.length + 1) = true then _ else none | none => none) = _
      rw [r1]
      show (if lim (acc.length + 1) = true then lcL vs g t f ds (acc ++ [val d]) (wipeE e3 vs) else none) = _
      rw [if_pos (lim_of (by rw [List.length_cons] at hl; omega)), r2, lcL_filter keep val E ds _ hl2 fun d' hd => h d' (List.mem_cons_of_mem _ hd)]
      rw [List.filter_cons_of_pos hk]; simp
    | false =>
      show lcL vs g t f ds acc (wipeE e2 vs) = _
      rw [q4 hk, lcL_filter keep val E ds _ hl' fun d' hd => h d' (List.mem_cons_of_mem _ hd)]
      rw [List.filter_cons_of_neg (by rw [hk]; simp)]
end Dv
/-! Calls of defs with keywords alone. -/
namespace Dv
open PySem PySem.Spec PyProof.Rows L2 Evl
section
variable {X : Cx} {CX : CXT} {k n : Nat} {f : Addr} {fd : FuncData} {ps ks : List Str} {sp : Sp} {E : XK} {x : Str} {p pos : Pos} {kws : List Keyword} {tk t t' : TA} {g : List Value → List Value → List Value} {gV : List V → List V → List V}
theorem pe_callN0 (F : FnOk X.prog X.w X.K X.mg X.base CX k f fd ps sp) (hr : Room k X.A) (hg : Gl X x) (hm : X.mg x = some (.ref f)) (hk : PySem.W.keepIn X.K (.ref f) = true) (hb : KBn X.K fd ps 0 ks g gV) (hx : Passes CX X E)
    (hkw : PK X kws tk) (hall : (backToKw pos (keywordEach kws X.env)).all (·.1.isSome) = true) (hks : (backToKw pos (keywordEach kws X.env)).filterMap (·.1) = ks)
    (hpl : ((backTo pos (starEach [] X.env)).any (·.1) || (backToKw pos (keywordEach kws X.env)).any (·.1.isNone)) = false)
    (hdb : (x == ("__debug__" : Str)) = false) : PE X (.Call (.Name x p) [] kws pos) (tCallN 0 ks.length sp gV E tNil tk) := by
  refine ⟨fun pins s σ H Q I h => ?_⟩
  refine wpAny_Call_Name_kw (ld_glob I hg hm ?_ hdb)
  refine PySem.W.callWith_KW0 (h₀ := X.base) I.ok.mod.kin hk hall ?_ hpl
  refine thn (hkw.run pos pins s σ H _ I h) fun ws s2 ⟨zs, H2, I2, rz, l1, l2, q2⟩ => ⟨I2.kIn, ?_⟩
  rw [hks]
  exact run_fnN F hr hb hx I2 .nil rz l1 l2 q2
theorem vals_getD : ∀ {zs : List V} {ws : List Value} (i : Nat), Vals zs ws → RelV (zs.getD i .non) (ws.getD i .none)
  | [], [], i, _ => by rw [List.getD_nil, List.getD_nil]; rfl
  | z :: zs, w :: ws, 0, h => by cases h with | cons a _ => exact a
  | z :: zs, w :: ws, i + 1, h => by cases h with | cons _ b => exact vals_getD i b
theorem vals_perm {zs : List V} {ws : List Value} (h : Vals zs ws) : ∀ perm : List Nat, Vals (perm.map fun i => zs.getD i .non) (perm.map fun i => ws.getD i .none)
  | [] => .nil
  | i :: r => .cons (vals_getD i h) (vals_perm h r)
theorem kbn_of {K : PySem.W.Frag} {y qual : Str} {st : Stmt} (F : Fun K y qual st f fd) (perm : List Nat)
    (h : ∀ (kV doc pm : Value) (an : Option Addr) (cdv ct : Value) (ws : List Value), ws.length = ks.length → bindArgs (PySem.W.fnOf y qual (defArgs st) (defBody st) (defScope st) .none kV doc pm an cdv ct) ⟨[], ks.zip ws⟩ = pure (ps.zip (perm.map fun i => ws.getD i .none))) :
    KBn K fd ps 0 ks (fun _ ws => perm.map fun i => ws.getD i .none) (fun _ zs => perm.map fun i => zs.getD i .non) := by
  obtain ⟨oc, od, kV, doc, pm, an, cdv, ct, osl, rfl, lk, hcd⟩ := F.ex
  refine ⟨fun s us ws _ l1 l2 => ?_, fun _ r => vals_perm r perm⟩
  have : us = [] := List.eq_nil_of_length_eq_zero l1
  subst this
  exact .of_eq (h kV doc pm an cdv ct ws l2)
theorem pk_mono (h : PK X kws t) (i : ∀ σ H Q, t' σ H Q → t σ H Q) : PK X kws t' := ⟨fun pos pins s σ H Q I q => h.run pos pins s σ H Q I (i σ H Q q)⟩
/-- the keywords' values, as they are written -/
def PDK (X : Cx) (kws : List Keyword) (m : M (List D)) : Prop := PK X kws (tA X.K m)
theorem pdk_nil : PDK X [] (ret []) := pk_mono pk_nil fun σ H Q ⟨G, B, env, d, env', ok, e, k⟩ => by
  cases ret_some e
  exact k [] B H ok rfl
theorem pdk_cons {e : Expr} {m : M D} {r : M (List D)} {nm : Option Str} {kpos : Pos} (h : PD X e m) (q : PDK X kws r) : PDK X (⟨nm, e, kpos⟩ :: kws) (aCons m r) :=
  pk_mono (pk_cons h q) fun σ H Q ⟨G, B, env, d, env', ok, e, k⟩ => by
    obtain ⟨x, e1, q1, q2⟩ := bnd_some e
    obtain ⟨xs, e2, q3, q4⟩ := bnd_some q2
    cases ret_some q4
    exact tD_of ok q1 fun v B1 H1 ok1 _ r1 => tA_of ok1 q3 fun vs B2 H2 ok2 ok2' r2 => k (v :: vs) B2 H2 ok2 ⟨v, vs, rfl, Rep.mono ok2'.mono _ _ r1, r2⟩
/-- what is written, in the parameters' order -/
def rPerm (n : Nat) (perm : List Nat) (m : M (List D)) : M (List Av) := bnd m fun ds => if ds.length = n then ret (perm.map fun i => .val (ds.getD i .non)) else stuck
theorem reps_getD {K : PySem.W.Frag} {B : Hp} : ∀ {ds : List D} {vs : List V} (i : Nat), Reps K B ds vs → Rep K B (ds.getD i .non) (vs.getD i .non)
  | [], _, i, h => by cases h; rw [List.getD_nil, List.getD_nil]; rfl
  | d :: ds, _, 0, h => by obtain ⟨v, r, rfl, h2, _⟩ := h; exact h2
  | d :: ds, _, i + 1, h => by obtain ⟨v, r, rfl, _, h3⟩ := h; exact reps_getD i h3
theorem argV_perm {K : PySem.W.Frag} {B H : Hp} {σ : L2.St} {env : Lvs} {ds : List D} {vs : List V} (h : Reps K B ds vs) : ∀ perm : List Nat, ArgV K B H σ env (perm.map fun i => .val (ds.getD i .non)) (perm.map fun i => vs.getD i .non)
  | [] => rfl
  | i :: r => ⟨_, _, rfl, reps_getD i h, argV_perm h r⟩
theorem newV_perm {G : Ent} {ds : List D} {vs : List V} : ∀ perm : List Nat, NewV G (perm.map fun i => .val (ds.getD i .non)) (perm.map fun i => vs.getD i .non)
  | [] => trivial
  | _ :: r => newV_perm r
theorem callK_red {K : PySem.W.Frag} {rf : Bool} {σ : L2.St} {H : Hp} {env' : Lvs} {G : Ent} {B : Hp} {env : Lvs} {d : D} {Q : VK} {E : XK} {ms : List Bool} {F : Fn} {m : M (List D)} {perm : List Nat} (h1 : one ms = true) (ok : Ok K G B H σ env) (e : eCall ms F (rPerm n perm m) env = some (d, env'))
    (k : ∀ H1 B1 e1, Ok K G B1 H1 σ e1 → Ok K (Ent.at B H σ env) B1 H1 σ e1 → ∀ v B' H', Ok K G B' H' σ env' → (∀ a, H1 a = none → ¬ IsOwn σ env' a) → RetV K rf H1 B' H' d v → Q v H') : tCallN 0 n (spF K ms rf F) (fun _ zs => perm.map fun i => zs.getD i .non) E tNil (tA K m) σ H Q := by
  obtain ⟨avs, e1, q1, q2⟩ := bnd_some e
  obtain ⟨ws, e0, q3, q4⟩ := bnd_some q1
  split at q4
  rotate_left
  · cases q4
  rename_i hn
  cases ret_some q4
  split at q2
  rotate_left
  · cases q2
  rename_i hk
  split at q2
  rotate_left
  · cases q2
  rename_i ds hd
  split at q2
  rotate_left
  · cases q2
  rename_i r bs hF
  split at q2
  rotate_left
  · cases q2
  rename_i e2 hp
  cases q2
  refine ⟨Ent.at B H σ env, B, env, ws, e1, ok.self, q3, fun vs B1 H1 ok1' ha => ⟨rfl, by rw [ha.length, hn], ?_⟩⟩
  have ok1 := ok.comp ok1'
  exact call_sp h1 ok1 hk (argV_perm ha perm) (newV_perm perm) hd hF hp (k H1 B1 e1 ok1 ok1')
variable {ms : List Bool} {F : Fn} {m : M (List D)} {perm : List Nat}
theorem pd_callK (Fo : FnOk X.prog X.w X.K X.mg X.base CX0 k f fd ps (spF X.K ms false F)) (hr : Room k X.A) (hm : X.mg x = some (.ref f)) (hk : PySem.W.keepIn X.K (.ref f) = true) (hb : KBn X.K fd ps 0 ks (fun _ ws => perm.map fun i => ws.getD i .none) (fun _ zs => perm.map fun i => zs.getD i .non)) (ha : PDK X kws m) (h1 : one ms = true := by rfl)
    (hall : (backToKw pos (keywordEach kws X.env)).all (·.1.isSome) = true := by rfl) (hks : (backToKw pos (keywordEach kws X.env)).filterMap (·.1) = ks := by rfl) (hpl : ((backTo pos (starEach [] X.env)).any (·.1) || (backToKw pos (keywordEach kws X.env)).any (·.1.isNone)) = false := by rfl)
    (hg : Gl X x := by rfl) (hdb : (x == ("__debug__" : Str)) = false := by decide) : PD X (.Call (.Name x p) [] kws pos) (eCall ms F (rPerm ks.length perm m)) :=
  pe_mono (pe_callN0 Fo hr hg hm hk hb pass0 ha hall hks hpl hdb) fun σ H Q ⟨G, B, env, d, env', ok, e, k⟩ => callK_red h1 ok e fun H1 B1 e1 ok1 ok1' v B' H' ok' _ rv => k v B' H' ok' rv
theorem pf_callK (Fo : FnOk X.prog X.w X.K X.mg X.base CX0 k f fd ps (spF X.K ms true F)) (hr : Room k X.A) (hm : X.mg x = some (.ref f)) (hk : PySem.W.keepIn X.K (.ref f) = true) (hb : KBn X.K fd ps 0 ks (fun _ ws => perm.map fun i => ws.getD i .none) (fun _ zs => perm.map fun i => zs.getD i .non)) (ha : PDK X kws m) (h1 : one ms = true := by rfl)
    (hall : (backToKw pos (keywordEach kws X.env)).all (·.1.isSome) = true := by rfl) (hks : (backToKw pos (keywordEach kws X.env)).filterMap (·.1) = ks := by rfl) (hpl : ((backTo pos (starEach [] X.env)).any (·.1) || (backToKw pos (keywordEach kws X.env)).any (·.1.isNone)) = false := by rfl)
    (hg : Gl X x := by rfl) (hdb : (x == ("__debug__" : Str)) = false := by decide) : PF X (.Call (.Name x p) [] kws pos) (eCall ms F (rPerm ks.length perm m)) :=
  pe_mono (pe_callN0 Fo hr hg hm hk hb pass0 ha hall hks hpl hdb) fun σ H Q ⟨G, B, env, d, env', ok, e, k⟩ => callK_red h1 ok e fun H1 B1 e1 ok1 ok1' v B' H' ok' nO rv => by
    obtain ⟨a, rfl, r1, r2, r3⟩ := rv
    exact k a B' H' ok' r1 r2 (ok1.live a r3) (nO a r3)
end
end Dv
/-! More operations: pairs in order, a sign's place in a text. -/
namespace Dv
open PySem PySem.Spec PyProof.Rows L2 Evl
section
variable {X : Cx}
theorem rc_lt_str {A : Around} {s : Shared} (a b : Str) (t u : Tok) : Ob.RcOp .Lt A s (.str a t) (.str b u) (decide (a.cps.toList < b.cps.toList)) := fun _ _ _ _ h => lt_str h
def pairLt (i j : Int) (a b : List Nat) : Bool := if i = j then decide (a < b) else decide (i < j)
theorem nat_lt_self (a : List Nat) : ¬ a < a := List.lt_irrefl a
def rLtP (K : PySem.W.Frag) : R2 := fun x y H Q => ∃ (a b : Addr) (i j : Int) (s t : Str), x = .ref a ∧ y = .ref b ∧ SqT K H a [.int i, .str s] ∧ SqT K H b [.int j, .str t] ∧ Q (.bl (pairLt i j s.cps.toList t.cps.toList)) H
theorem op_ltP (hu : X.A.units < cLine) : OpR X (compareOp .Lt) (rLtP X.K) := by
  intro pins s σ H x y v u Q I rx ry h
  obtain ⟨a, b, i, j, p, q, rfl, rfl, ha, hb, hQ⟩ := h
  cases rx
  cases ry
  obtain ⟨its, r1, p1, _⟩ := I.tuple ha
  obtain ⟨its2, r2, p2, _⟩ := I.tuple hb
  obtain ⟨u1, u2, rfl, ⟨t1, rfl⟩, ⟨t2, rfl⟩⟩ : ∃ u1 u2, its = [u1, u2] ∧ RelV (.int i) u1 ∧ RelV (.str p) u2 := by
    cases r1 with
    | cons h1 r1 => cases r1 with
      | cons h2 r1 => cases r1; exact ⟨_, _, rfl, h1, h2⟩
  obtain ⟨w1, w2, rfl, ⟨t3, rfl⟩, ⟨t4, rfl⟩⟩ : ∃ u1 u2, its2 = [u1, u2] ∧ RelV (.int j) u1 ∧ RelV (.str q) u2 := by
    cases r2 with
    | cons h1 r1 => cases r1 with
      | cons h2 r1 => cases r1; exact ⟨_, _, rfl, h1, h2⟩
  have R := Ob.RcOp.tuples_lt (A := X.A) (s := s) (e := fun k => if k = 0 then i == j else p == q) (r := fun k => if k = 0 then decide (i < j) else decide (p.cps.toList < q.cps.toList)) p1 p2 hu (fun k h1 h2 => by
    match k, h1, h2 with
    | 0, _, _ => exact SeqAt.EqAt.int_int _ _ _ _
    | 1, _, _ => exact SeqAt.EqAt.str_str _ _ _ _) (fun k h1 h2 _ => by
    match k, h1, h2 with
    | 0, _, _ => exact Ob.RcOp.lt_int _ _ _ _
    | 1, _, _ => exact rc_lt_str _ _ _ _)
  have e : Ob.lexAt (fun k => if k = 0 then i == j else p == q) (fun k => if k = 0 then decide (i < j) else decide (p.cps.toList < q.cps.toList)) (decide ((2 : Nat) < 2)) 0 2 = pairLt i j p.cps.toList q.cps.toList := by
    rw [Ob.lexAt_succ, Ob.lexAt_succ, Ob.lexAt_zero]
    unfold pairLt
    by_cases hij : i = j
    · rw [if_pos (by rw [if_pos rfl, hij]; exact beq_self_eq_true j), if_pos hij]
      by_cases hpq : p = q
      · rw [if_pos (by rw [if_neg (by decide), hpq]; exact beq_self_eq_true q), hpq, decide_eq_false (nat_lt_self _)]; rfl
      · rw [if_neg (by rw [if_neg (by decide)]; exact fun z => hpq (eq_of_beq z)), if_neg (by decide)]
    · rw [if_neg (by rw [if_pos rfl]; exact fun z => hij (eq_of_beq z)), if_neg hij, if_pos rfl]
  have R' : Ob.RcOp .Lt X.A s (.ref a) (.ref b) (pairLt i j p.cps.toList q.cps.toList) := by rw [← e]; exact R
  exact R' X.prog X.w X.xe (EP X pins σ Q) ⟨.bl _, H, I, rfl, hQ⟩
def ltP : D → D → Option D
  | .tup [.int i, .str a], .tup [.int j, .str b] => some (.bl (pairLt i j a b))
  | _, _ => none
theorem opS_ltP (hu : X.A.units < cLine) : OpS X (compareOp .Lt) ltP := ⟨_, op_ltP hu, fun B H x y d e z Q ex rx ry ez k => by
  unfold ltP at ez
  split at ez
  · cases ez
    obtain ⟨a, vs, rfl, hs, hr⟩ := rx
    obtain ⟨b, us, rfl, hs2, hr2⟩ := ry
    obtain ⟨v1, _, rfl, r1, ⟨v2, _, rfl, r2, rfl⟩⟩ := hr
    obtain ⟨v3, _, rfl, r3, ⟨v4, _, rfl, r4, rfl⟩⟩ := hr2
    rw [show v1 = _ from r1, show v2 = _ from r2] at hs
    rw [show v3 = _ from r3, show v4 = _ from r4] at hs2
    exact ⟨a, b, _, _, _, _, rfl, rfl, ex_t ex hs, ex_t ex hs2, k _ fun _ => rfl⟩
  · cases ez⟩
theorem op_ltPq {k : Nat} (hr : Room k X.A) : OpS X (compareOp .Lt) ltP := opS_ltP (Nat.lt_of_succ_lt (hu_of hr))
/-! ### a.index(b) -/
def indexD : D → List D → Option D
  | .str a, [.str b] => match Builtin.Str.occurrences (mkS a) (mkS b) 0 (mkS a).length 1 with
    | i :: _ => some (.int (i : Nat))
    | [] => none
  | _, _ => none
theorem meth_index : MethD X "str" "str.index" indexD := ⟨_, mt_sindex, fun G B H σ env x d vs ds z Q ok rx rs e k => by
  unfold indexD at e
  split at e
  · rename_i a b
    split at e
    · rename_i i r hi
      cases e
      obtain ⟨u, rfl, r⟩ := reps1 rs
      exact ⟨mkS a, mkS b, i, _, rx, by rw [show u = _ from r], hi, k _ B H ok rfl⟩
    · cases e
  · cases e⟩
end
end Dv
/-! list(..), tuple(..). -/
namespace Dv
open PySem PySem.Spec PyProof.Rows L2 Evl
section
variable {X : Cx}
theorem rgV_reps {K : PySem.W.Frag} {B : Hp} (lo : Int) : ∀ l : List Nat, Reps K B (l.map fun (j : Nat) => D.int (lo + (j : Int))) (l.map fun (j : Nat) => V.int (lo + (j : Nat)))
  | [] => rfl
  | j :: l => ⟨_, _, rfl, rfl, rgV_reps lo l⟩
/-- list(range(n)) -/
theorem pf_listRg1 {e : Expr} {m : M D} {p p2 pos pos2 : Pos} (h : PD X e m) (hm : X.mg "list" = none) (hm2 : X.mg "range" = none) (hg : Gl X "list" := by rfl) (hg2 : Gl X "range" := by rfl) (hc : X.calm = true := by rfl)
    (na : starEach [.Call (.Name "range" p2) [e] [] pos2] X.env = (false, eval (.Call (.Name "range" p2) [e] [] pos2) X.env) :: starEach [] X.env := by rfl) (na2 : starEach [e] X.env = (false, eval e X.env) :: starEach [] X.env := by rfl) :
    PF X (.Call (.Name "list" p) [.Call (.Name "range" p2) [e] [] pos2] [] pos) (eLst (iRange range1 (aCons m (ret [])))) :=
  pe_mono (pe_listRg hc hg hm (prg_1 hg2 hm2 h na2) na) fun σ H Q ⟨G, B, env, d, env', ok, e, k⟩ => by
    obtain ⟨ds, e1, q1, q2⟩ := bnd_some e
    obtain ⟨as, e2, q3, q4⟩ := bnd_some q1
    obtain ⟨x, e3, q5, q6⟩ := bnd_some q3
    obtain ⟨xs, e4, q7, q8⟩ := bnd_some q6
    cases ret_some q7
    cases ret_some q8
    obtain ⟨rs, q9, q10⟩ := lft_some q4
    cases q10
    split at q2
    rotate_left
    · cases q2
    rename_i hl
    cases ret_some q2
    unfold range1 at q9
    split at q9
    rotate_left
    · cases q9
    rename_i j hx
    cases hx
    split at q9
    rotate_left
    · cases q9
    rename_i hj
    cases q9
    refine tD_of ok q5 fun v B1 H1 ok1 _ r1 => ⟨j, r1, ?_, fun q hq => ?_⟩
    · unfold small62 at hj
      rw [Bool.and_eq_true] at hj
      have h1 := of_decide_eq_true hj.1
      have h2 := of_decide_eq_true hj.2
      have h3 := lim_ok hl
      unfold rangeD at h3
      rw [List.length_map, List.length_range] at h3
      have h4 : sizeLine = 2 ^ 24 := by decide
      refine ⟨by decide, by decide, h1, h2, ?_⟩
      rw [Int.sub_zero]
      omega
    · refine k q B1 _ (ok1.tmp hq) (fresh_back ok1.sub hq) ⟨rgV 0 j, upd_same, ?_⟩ (ok1.live q hq) (ok1.notOwn hq)
      unfold rangeD rgV
      rw [Int.sub_zero]
      exact rgV_reps 0 _
/-- {} -/
theorem pf_dic {pos : Pos} : PF X (.Dict [] [] pos) (eC .dic) := pe_mono pe_dnewK fun σ H Q ⟨G, B, env, d, env', ok, e, k⟩ => by
  cases e
  exact fun p hp => k p B _ (ok.tmp hp) (fresh_back ok.sub hp) ⟨[], upd_same, rfl, rfl⟩ (ok.live p hp) (ok.notOwn hp)
theorem pd_dic {pos : Pos} : PD X (.Dict [] [] pos) (eC .dic) := pf_dic.pd
/-- .. for keys that are tuples -/
theorem pf_dicT {pos : Pos} : PF X (.Dict [] [] pos) (eC (.dtt [] [])) := pe_mono pe_dnewT fun σ H Q ⟨G, B, env, d, env', ok, e, k⟩ => by
  cases e
  exact fun p hp => k p B _ (ok.tmp hp) (fresh_back ok.sub hp) ⟨[], upd_same, rfl, rfl⟩ (ok.live p hp) (ok.notOwn hp)
/-! ### three names at once -/
def tPar3 (i j l : Nat) (ta : TA) : TS := fun D σ H => ta σ H fun vs H1 => ∃ u v w, vs = [u, v, w] ∧ D.nx (((σ.set l (some w)).set j (some v)).set i (some u)) H1
theorem ps_par3 {i j l : Nat} {x y z : Str} {a b c : Expr} {ta : TA} {px py pz pt pos : Pos} {kt k2 pt2} (hc : X.calm = true) (hN : X.N.Nodup) (hi : X.N[i]? = some x) (hj : X.N[j]? = some y) (hl : X.N[l]? = some z)
    (hx : X.env.scope.names.lookup x = some .local) (hy : X.env.scope.names.lookup y = some .local) (hz : X.env.scope.names.lookup z = some .local) (ha : PA X [a, b, c] ta)
    (hw : swappedStores [.Tuple [.Name x px, .Name y py, .Name z pz] kt pt] (.Tuple [a, b, c] k2 pt2) X.env = pure (some [x, y, z]))
    (hs : swapsWithSole [.Tuple [.Name x px, .Name y py, .Name z pz] kt pt] (.Tuple [a, b, c] k2 pt2) pos.line X.env = pure false) :
    PS X (.Assign [.Tuple [.Name x px, .Name y py, .Name z pz] kt pt] (.Tuple [a, b, c] k2 pt2) pos) (tPar3 i j l ta) := by
  refine ⟨fun pins s σ H D I h => ?_⟩
  rw [exec_Assign_arm]
  refine wpAny_bind (wpAny_standAt ?_)
  rw [hs]
  refine wpAny_bind (wpAny_pure ?_)
  rw [if_neg (by decide)]
  refine wpAny_bind (Tuple_ (thn (ha.run _ pins s σ H _ I h) fun us s1 ⟨vs, H1, I1, r1, q1⟩ => ?_))
  obtain ⟨u, v, w, e1, q1⟩ := q1
  subst e1
  obtain ⟨u1, u2, u3, rfl, ru, rv, rw'⟩ : ∃ u1 u2 u3, us = [u1, u2, u3] ∧ RelV u u1 ∧ RelV v u2 ∧ RelV w u3 := by
    cases r1 with
    | cons p q =>
      cases q with
      | cons p' q' =>
        cases q' with
        | cons p'' q'' =>
          cases q''
          exact ⟨_, _, _, rfl, p, p', p''⟩
  refine wpAny_newObj_type ?_ (by show 3 ≤ sizeLine; decide)
  have I2 : Inv X pins σ H1 { s1 with heap := s1.heap.push { cls := .type "tuple", data := .seq [u1, u2, u3].toArray } } := I1.kept (t' := s1.toks) fun b o e => Heap.get?_push_of_some _ e
  rw [hw]
  refine wpAny_bind (wpAny_pure ?_)
  show wpAny (model X.prog X.w) X.A (do rule "assign.swapped-stores"; let items ← unpackItems (.ref s1.heap.objs.size) 3 none; assignInOrder [fun v => bindName X.env z v, fun v => bindName X.env y v, fun v => bindName X.env x v] items.reverse; pure Flow.next) _ _ _
  refine wpAny_bind (wpAny_rule (wpAny_bind (unpackItems_tuple (items := #[u1, u2, u3]) (I.ok.hd hc) (IsTup.new s1.heap _) fun h' hx' => ?_)))
  have I3 := I2.kept (h' := h') (t' := s1.toks) fun b o e => hx' b o (Nat.ne_of_lt (Heap.lt_size e)) e
  show wpAny _ _ (assignInOrder [fun v => bindName X.env z v, fun v => bindName X.env y v, fun v => bindName X.env x v] [u3, u2, u1] >>= fun _ => pure Flow.next) _ _ _
  refine wpAny_bind (assignInOrder_cons (wpAny_bindName (store_ok I3 hN hl (.inl hz) rw' (fun s2 I4 => ?_) (.inr hz))))
  refine assignInOrder_cons (wpAny_bindName (store_ok I4 hN hj (.inl hy) rv (fun s3 I5 => ?_) (.inr hy)))
  refine assignInOrder_cons (wpAny_bindName (store_ok I5 hN hi (.inl hx) ru (fun s4 I6 => assignInOrder_nil (wpAny_pure ?_)) (.inr hx)))
  exact ⟨_, H1, I6, q1⟩
/-- a, b, c = e1, e2, e3 with plain local names -/
def sPar3 (i j l : Nat) (m : M (List D)) : MS := fun e => match m e with
  | some ([d1, d2, d3], e1) => some (.nx, ((e1.set l (.val d3)).set j (.val d2)).set i (.val d1))
  | _ => none
theorem pds_par3 (i j l : Nat) {x y z : Str} {a b c : Expr} {m : M (List D)} {px py pz pt pos : Pos} {kt k2 pt2} (ha : PDA X [a, b, c] m) (hN : X.N.Nodup) (hi : X.N[i]? = some x := by rfl) (hj : X.N[j]? = some y := by rfl) (hl : X.N[l]? = some z := by rfl)
    (hx : X.env.scope.names.lookup x = some .local := by rfl) (hy : X.env.scope.names.lookup y = some .local := by rfl) (hz : X.env.scope.names.lookup z = some .local := by rfl) (hc : X.calm = true := by rfl)
    (hw : swappedStores [.Tuple [.Name x px, .Name y py, .Name z pz] kt pt] (.Tuple [a, b, c] k2 pt2) X.env = pure (some [x, y, z]) := by rfl)
    (hs : swapsWithSole [.Tuple [.Name x px, .Name y py, .Name z pz] kt pt] (.Tuple [a, b, c] k2 pt2) pos.line X.env = pure false := by rfl) :
    PDS X (.Assign [.Tuple [.Name x px, .Name y py, .Name z pz] kt pt] (.Tuple [a, b, c] k2 pt2) pos) (sPar3 i j l m) :=
  ps_mono (ps_par3 hc hN hi hj hl hx hy hz ha hw hs) fun Z σ H ⟨G, B, env, o, env', ok, e, k⟩ => by
    unfold sPar3 at e
    split at e
    · rename_i d1 d2 d3 e1 q1
      cases e
      refine tA_of ok q1 fun vs B1 H1 ok1 _ r0 => ?_
      obtain ⟨u, _, rfl, r1, ⟨v, _, rfl, r2, ⟨w, _, rfl, r3, rfl⟩⟩⟩ := r0
      exact ⟨u, v, w, rfl, k _ B1 H1 (((ok1.store r3).store r2).store r1)⟩
    · cases e
theorem ev_par3 {i j l : Nat} {m : M (List D)} {e e1 e2 : Lvs} {d1 d2 d3 : D} (h : m e = some ([d1, d2, d3], e1)) (h2 : ((e1.set l (.val d3)).set j (.val d2)).set i (.val d1) = e2) : sPar3 i j l m e = some (.nx, e2) := by unfold sPar3; rw [h]; subst h2; rfl
end
end Dv
/-! enumerate and zip over lists, tuples and texts. -/
namespace Dv
open PySem PySem.Spec PyProof.Rows L2 Evl

/-- what may be drawn from -/
inductive Kd where
  | l (a : Addr) | t (a : Addr) | s (x : Str) (k : Tok)
def Kd.val : Kd → Value
  | .l a => .ref a
  | .t a => .ref a
  | .s x k => .str x k
def Kd.obj : Kd → Obj
  | .l a => { cls := .type "list_iterator", data := .fields #[.ref a, .int 0 0] }
  | .t a => { cls := .type "tuple_iterator", data := .fields #[.ref a, .int 0 0] }
  | .s x k => { cls := .type (strIterType x), data := .fields #[.str x k, .int 0 0] }
def Kd.ad : Kd → List Addr
  | .l a => [a]
  | .t a => [a]
  | .s _ _ => []
def Kd.it : Kd → Addr → Nat → Heap → Prop
  | .l a, I, i => fun h => h.IsListIter I a i
  | .t a, I, i => fun h => h.IsTupleIter I a i
  | .s x k, I, i => fun h => h.IsStrIter I (strIterType x) x k i
def signsV (x : Str) : List V := x.cps.toList.map fun c => .str ⟨#[c]⟩
def Kd.has (K : PySem.W.Frag) (H : Hp) : Kd → List V → Prop
  | .l a, xs => SqL K H a xs
  | .t a, xs => SqT K H a xs
  | .s x _, xs => xs = signsV x
theorem Kd.it_new {kd : Kd} {h : Heap} {I : Addr} (e : h.get? I = some kd.obj) : kd.it I 0 h := by
  cases kd with
  | l a => exact ⟨_, e, rfl, rfl⟩
  | t a => exact ⟨_, e, rfl, rfl⟩
  | s x k => exact ⟨_, e, rfl, rfl⟩
theorem Kd.it_at {kd : Kd} {h h' : Heap} {I : Addr} {i : Nat} (x : kd.it I i h) (e : ∀ o, h.get? I = some o → h'.get? I = some o) : kd.it I i h' := by
  cases kd with
  | l a => obtain ⟨o, ho, r⟩ := x; exact ⟨o, e o ho, r⟩
  | t a => obtain ⟨o, ho, r⟩ := x; exact ⟨o, e o ho, r⟩
  | s y k => obtain ⟨o, ho, r⟩ := x; exact ⟨o, e o ho, r⟩
theorem Kd.it_obj {kd : Kd} {h : Heap} {I : Addr} {i : Nat} (x : kd.it I i h) : ∃ o, h.get? I = some o ∧ ∀ v, o.data ≠ .cell v := by
  cases kd with
  | l a => obtain ⟨o, ho, c, d⟩ := x; exact ⟨o, ho, fun v z => by rw [d] at z; cases z⟩
  | t a => obtain ⟨o, ho, c, d⟩ := x; exact ⟨o, ho, fun v z => by rw [d] at z; cases z⟩
  | s y k => obtain ⟨o, ho, c, d⟩ := x; exact ⟨o, ho, fun v z => by rw [d] at z; cases z⟩
theorem Kd.it_lt {kd : Kd} {h : Heap} {I : Addr} {i : Nat} (x : kd.it I i h) : I < h.objs.size := by
  obtain ⟨o, ho, _⟩ := Kd.it_obj x
  exact Heap.lt_size ho
section
variable {X : Cx} {pins : List (Addr × Obj)} {σ : L2.St} {H : Hp} {s : Shared}
theorem Kd.inj (I : Inv X pins σ H s) {kd : Kd} {xs ys : List V} (h : kd.has X.K H xs) (h2 : kd.has X.K H ys) : xs = ys := by
  cases kd with
  | l a => exact I.list_inj h h2
  | t a => exact I.tuple_inj h h2
  | s x k => exact (show xs = signsV x from h).trans (show ys = signsV x from h2).symm
theorem vals_back {xs : List V} {its : List Value} (rv : Vals xs its) {i : Nat} {u : Value} (h : its[i]? = some u) : ∃ y, xs[i]? = some y ∧ RelV y u := by
  have hl := rv.length
  have hi : i < its.length := (List.getElem?_eq_some_iff.mp h).1
  have hx : xs[i]? = some (xs[i]'(by omega)) := List.getElem?_eq_getElem (by omega)
  obtain ⟨u', e, r⟩ := rv.get hx
  rw [h] at e
  cases e
  exact ⟨_, hx, r⟩
/-- how it is drawn from, as things stand -/
theorem Kd.draws (I : Inv X pins σ H s) {A : Around} (hh : A.handled = none) {kd : Kd} {xs : List V} (h : kd.has X.K H xs) (it : Addr) (hne : it ∉ kd.ad) :
    ∃ P St, Draws X.prog X.w A it (it :: kd.ad) xs.length P St ∧ (∀ i, kd.it it i s.heap → St i s.heap) ∧ (∀ i h, St i h → kd.it it i h) ∧ (∀ i u, P i u → ∃ y, xs[i]? = some y ∧ RelV y u) := by
  cases kd with
  | l a =>
    obtain ⟨its, rv, p, _⟩ := I.list h
    have hl := rv.length
    have hs : its.toArray.size = xs.length := by rw [List.size_toArray]; omega
    have D := Draws.list (prog := X.prog) (w := X.w) hh it a (fun e => hne (by rw [e]; exact List.mem_singleton.mpr rfl)) its.toArray
    rw [hs] at D
    exact ⟨_, _, D, fun i st => ⟨st, p.isList⟩, fun i h st => st.1, fun i u e => vals_back rv (by simpa using e)⟩
  | t a =>
    obtain ⟨its, rv, p, _⟩ := I.tuple h
    have hl := rv.length
    have hs : its.toArray.size = xs.length := by rw [List.size_toArray]; omega
    have D := Draws.tuple (prog := X.prog) (w := X.w) hh it a (fun e => hne (by rw [e]; exact List.mem_singleton.mpr rfl)) its.toArray
    rw [hs] at D
    exact ⟨_, _, D, fun i st => ⟨st, p⟩, fun i h st => st.1, fun i u e => vals_back rv (by simpa using e)⟩
  | s x k =>
    have h : xs = signsV x := h
    subst h
    have D := Draws.text (prog := X.prog) (w := X.w) hh it x k
    have hs : x.cps.size = (signsV x).length := by unfold signsV; rw [List.length_map]; rfl
    rw [hs] at D
    refine ⟨_, _, D, fun i st => st, fun i h st => st, fun i u e => ?_⟩
    obtain ⟨c, t, e1, rfl⟩ := e
    refine ⟨.str ⟨#[c]⟩, ?_, t, rfl⟩
    unfold signsV
    rw [List.getElem?_map, Array.getElem?_toList, e1]
    rfl
theorem Kd.begins (I : Inv X pins σ H s) {kd : Kd} {xs : List V} (h : kd.has X.K H xs) : ∃ Hh, Begins kd.val kd.obj Hh ∧ Hh s.heap ∧ ∀ a ∈ kd.ad, a < s.heap.objs.size := by
  cases kd with
  | l a =>
    obtain ⟨its, rv, p, _⟩ := I.list h
    exact ⟨_, begins_list a its.toArray, p.isList, fun b hb => by rw [List.mem_singleton.mp hb]; exact p.lt⟩
  | t a =>
    obtain ⟨its, rv, p, _⟩ := I.tuple h
    have hp : s.heap.IsTuple a its.toArray := p
    exact ⟨_, begins_tuple a its.toArray, p, fun b hb => by
      rw [List.mem_singleton.mp hb]
      obtain ⟨o, ho, _⟩ := hp
      exact Heap.lt_size ho⟩
  | s x k => exact ⟨_, begins_text x k, trivial, fun b hb => nomatch hb⟩
end
/-! ### enumerate -/
def IteD (K : PySem.W.Frag) (kd : Kd) (n : Nat) : It :=
  ⟨fun i H => i < n ∧ ∃ xs : List V, kd.has K H xs ∧ xs.length = n,
   fun i H v H' => ∃ T x, v = .ref T ∧ H T = none ∧ H' = upd H T (.tup [.int (i : Nat), x]) ∧ ∀ xs, kd.has K H xs → xs[i]? = some x,
   fun i H => n ≤ i ∧ ∃ xs : List V, kd.has K H xs ∧ xs.length = n⟩
theorem turn_enumD {P : Program} {w : World} {K : PySem.W.Frag} {elts : List Expr} {kk : Nat} {tpos : Pos} (kd : Kd) (n : Nat) (e it : Addr) (hei : e ≠ it) (hia : it ∉ kd.ad) (hea : e ∉ kd.ad) :
    Turn P w K (.Tuple elts kk tpos) (IteD K kd n) [e, it] e (fun i h => i ≤ n ∧ (∃ old, IsEnum h e it ((i : Nat) : Int) old) ∧ kd.it it i h) where
  mem := List.mem_cons_self
  obj := fun i h st b hb => by
    obtain ⟨_, ⟨old, he⟩, hi⟩ := st
    rcases List.mem_cons.mp hb with z | z
    · rw [z]; exact ⟨_, he, fun v q => nomatch q⟩
    · rw [List.mem_singleton.mp z]; exact Kd.it_obj hi
  keep := fun i h h' st k => by
    obtain ⟨h0, ⟨old, he⟩, hi⟩ := st
    exact ⟨h0, ⟨old, k e List.mem_cons_self _ he⟩, Kd.it_at hi fun o q => k it (List.mem_cons_of_mem _ (List.mem_singleton.mpr rfl)) o q⟩
  item := by
    intro X hP hw hK hc i pins s σ H E I hf st hg
    subst hP hw hK
    obtain ⟨hin, ⟨old, he⟩, hit⟩ := st
    obtain ⟨hlt, xs, hq, hxl⟩ := hg
    obtain ⟨Pd, St, Dd, d1, d2, d3⟩ := Kd.draws (A := X.A.in1) I (I.ok.hd hc) hq it hia
    rw [hxl] at Dd
    have hel : e < s.heap.objs.size := Heap.lt_size he
    have hil : it < s.heap.objs.size := Kd.it_lt hit
    have hef : e ∉ it :: kd.ad := fun z => (List.mem_cons.mp z).elim hei hea
    refine wpAny_pyNext_enum_itemD Dd he (d1 i hit) hlt hei hef fun u h' tk hP ho st' hT hsz hk => ?_
    obtain ⟨y, hy, ry⟩ := d3 i u hP
    refine ⟨_, rfl, wpAny_letOwnedTupleGo_enum (s := { s with heap := h', toks := tk + 1 }) ho fun h'' he' sb => ?_⟩
    have hT2 : h''.get? s.heap.objs.size = some { cls := .type "tuple", data := .seq #[.int i tk, u] } := (sb.2 _ (Nat.ne_of_gt hel)).trans hT
    have new : ObjOk X.prog X.w (upd H s.heap.objs.size (.tup [.int (i : Nat), y])) h'' s.heap.objs.size (.tup [.int (i : Nat), y]) :=
      ⟨by show 2 ≤ sizeLine; decide, [.int i tk, u], .cons ⟨_, rfl⟩ (.cons ry .nil), ⟨_, hT2, rfl, _, rfl⟩⟩
    have I1 : Inv X pins σ (upd H s.heap.objs.size (.tup [.int (i : Nat), y])) { s with heap := h'', toks := tk + 1 } :=
      I.turnedNew (ch := [e, it]) (fun b ob hb q => (sb.2 b fun z => hb (by rw [z]; exact List.mem_cons_self)).trans (hk b ob (fun z => hb (by rw [z]; exact List.mem_cons_self)) (fun z => hb (by rw [z]; exact List.mem_cons_of_mem _ (List.mem_singleton.mpr rfl))) q)) hf (Nat.le_refl _) new
    refine ⟨.ref s.heap.objs.size, _, I1, rfl, ⟨_, y, rfl, I.hok.fresh (Nat.le_refl _), rfl, fun ys hys => by rw [Kd.inj I hys hq]; exact hy⟩, ⟨hlt, ⟨u, ?_⟩, Kd.it_at (d2 _ _ st') fun o q => (sb.2 it (Ne.symm hei)).trans q⟩, fun b hb => ?_⟩
    · have e1 : ((i + 1 : Nat) : Int) = (i : Int) + 1 := by omega
      rw [e1]; exact he'
    · have hb' : b < s.heap.objs.size := by
        rcases List.mem_cons.mp hb with z | z
        · rw [z]; exact hel
        · rw [List.mem_singleton.mp z]; exact hil
      rw [upd_ne (Nat.ne_of_lt hb')]
      exact (hf b hb).1
  done := by
    intro X hP hw hK hc i pins s σ H E I hf st hg
    subst hP hw hK
    obtain ⟨hin, ⟨old, he⟩, hit⟩ := st
    obtain ⟨hge, xs, hq, hxl⟩ := hg
    have hin' : i = n := Nat.le_antisymm hin hge
    obtain ⟨Pd, St, Dd, d1, d2, d3⟩ := Kd.draws (A := X.A.in1) I (I.ok.hd hc) hq it hia
    obtain ⟨f0, f1, f2, f3, f4, f5⟩ := hf it (List.mem_cons_of_mem _ (List.mem_singleton.mpr rfl))
    have st := d1 i hit
    rw [hin', ← hxl] at st
    exact wpAny_pyNext_enum_endD Dd he st fun h' eb => ⟨rfl, I.turned (t' := s.toks) (fun b o hb q => eb b o hb q) f0 f1 f3 f4 f5⟩
  self := fun A i s Q E st h => by
    obtain ⟨_, ⟨_, he⟩, _⟩ := st
    exact wpAny_pyIter_enum he h
/-- a value that may be drawn from -/
def Src (K : PySem.W.Frag) (H : Hp) (v : V) (xs : List V) (R : Kd → Prop) : Prop :=
  (∃ a, v = .ref a ∧ SqL K H a xs ∧ R (.l a)) ∨ (∃ a, v = .ref a ∧ SqT K H a xs ∧ R (.t a)) ∨ ∃ x, v = .str x ∧ xs = signsV x ∧ ∀ k, R (.s x k)
theorem Src.kd {K : PySem.W.Frag} {H : Hp} {v : V} {xs : List V} {R : Kd → Prop} (h : Src K H v xs R) {u : Value} (r : RelV v u) : ∃ kd : Kd, u = kd.val ∧ kd.has K H xs ∧ R kd := by
  rcases h with ⟨a, rfl, h, q⟩ | ⟨a, rfl, h, q⟩ | ⟨x, rfl, h, q⟩
  · obtain rfl : u = Value.ref a := r
    exact ⟨.l a, rfl, h, q⟩
  · obtain rfl : u = Value.ref a := r
    exact ⟨.t a, rfl, h, q⟩
  · obtain ⟨t, rfl⟩ := r
    exact ⟨.s x t, rfl, h, q t⟩
set_option maxHeartbeats 1000000 in
theorem meets_enumB {v : Value} {o : Obj} {Hh : Heap → Prop} (B : Begins v o Hh) :
    Meets (Builtin.«enumerate.__new__» ⟨[.type "enumerate", v], []⟩) (fun _ R s => Hh s.heap ∧
      R (.ok (.ret (.ref (s.heap.push o).objs.size))) { s with heap := (s.heap.push o).push { cls := .type "enumerate", data := .fields #[.none, .bool false, .ref s.heap.objs.size, rawInt 0, .none, .none] } }) :=
  .of_wp fun prog w A R s h => by
    obtain ⟨hp, g, d, tk, os⟩ := s
    obtain ⟨h1, h⟩ := h
    have hsub := sub_enumerate
    have begin1 : ∀ {A' : Around} {E : Value → Shared → Prop} {Q : Value → Shared → Prop}, Q (.ref hp.objs.size) ⟨hp.push o, g, d, tk, os⟩ → wpAny (model prog w) A' (pyIter v) Q E ⟨hp, g, d, tk, os⟩ :=
      fun q => B.iter prog w _ _ ⟨hp, g, d, tk, os⟩ _ h1 q
    wp_walk using begin1
    refine wpAny_stack_any fun st => wpAny_pure ?_
    split
    · rename_i c _ _ _ _ _
      cases (c == Value.type "enumerate")
      · wp_walk using begin1
        exact ⟨_, rfl, h⟩
      · wp_walk using begin1
        exact ⟨_, rfl, h⟩
    · wp_walk using begin1
      exact ⟨_, rfl, h⟩
theorem call_enumB {prog : Program} {w : World} {A : Around} {E : Value → Shared → Prop} {s : Shared} {v : Value} {o : Obj} {Hh : Heap → Prop} {Q : Value → Shared → Prop} (B : Begins v o Hh) (h1 : Hh s.heap)
    (h : ∀ h', IsEnum h' (s.heap.objs.size + 1) s.heap.objs.size 0 .none → h'.get? s.heap.objs.size = some o → (∀ b o, s.heap.get? b = some o → h'.get? b = some o) → Q (.ref (s.heap.objs.size + 1)) { s with heap := h' }) :
    wpAny (model prog w) A (call (.type "enumerate") [v]) Q E s := by
  refine callType_new F.called_enumerate (by decide) (F.typeCall_enumerate_1 _) (F.newCall_enumerate_1 _) (fun obj => F.args_object_init_2 obj _) F.entry_enumerate_new (meets_enumB B) ⟨h1, ?_⟩
  have hz : (s.heap.push o).objs.size = s.heap.objs.size + 1 := Heap.size_push ..
  show _ ∧ _
  rw [hz]
  have he : IsEnum ((s.heap.push o).push { cls := .type "enumerate", data := .fields #[.none, .bool false, .ref s.heap.objs.size, rawInt 0, .none, .none] }) (s.heap.objs.size + 1) s.heap.objs.size 0 .none := by
    have := Heap.get?_push_size (s.heap.push o) (o := { cls := .type "enumerate", data := .fields #[.none, .bool false, .ref s.heap.objs.size, rawInt 0, .none, .none] }) rfl
    rw [hz] at this; exact this
  exact ⟨⟨_, he, rfl⟩, h _ he (Heap.get?_push_of_some _ (Heap.get?_push_size _ B.free)) fun b o x => Heap.get?_push_of_some _ (Heap.get?_push_of_some _ x)⟩
def iEnumD (K : PySem.W.Frag) (te : TE) : TI := fun σ H R => te σ H fun v H1 => ∃ xs, Src K H1 v xs fun kd => R (IteD K kd xs.length) H1
theorem pi_enumD {X : Cx} {e : Expr} {te : TE} {p pos tpos : Pos} {elts : List Expr} {kk : Nat} (hg : Gl X "enumerate") (hm : X.mg "enumerate" = none) (he : PE X e te) (hs : starEach [e] X.env = (false, eval e X.env) :: starEach [] X.env := by rfl) :
    PI X (.Tuple elts kk tpos) (.Call (.Name "enumerate" p) [e] [] pos) (iEnumD X.K te) := by
  refine ⟨fun pins s σ H R I h => ?_⟩
  refine Call_ (ld_blt I hg hm boot_enumerate (PyProof.Rows.callWith_type1 (args_cons (thn (he.run pins s σ H _ I h) fun u s1 ⟨v, H1, I1, r1, q1⟩ => args_nil ?_) hs) hs rfl))
  obtain ⟨xs, q⟩ := q1
  obtain ⟨kd, rfl, hq, q⟩ := q.kd r1
  obtain ⟨Hh, B, hB, hlt⟩ := Kd.begins I1 hq
  refine call_enumB B hB fun h' hen hit hk => wpAny_pyIter_enum hen ?_
  have I2 : Inv X pins σ H1 { s1 with heap := h' } := I1.kept (t' := s1.toks) hk
  refine ⟨s1.heap.objs.size + 1, [s1.heap.objs.size + 1, s1.heap.objs.size], _, _, H1, rfl, I2, turn_enumD kd xs.length (s1.heap.objs.size + 1) s1.heap.objs.size (Nat.succ_ne_self _) (fun z => Nat.lt_irrefl _ (hlt _ z)) (fun z => absurd (hlt _ z) (Nat.not_lt.mpr (Nat.le_succ _))), ⟨Nat.zero_le _, ⟨.none, hen⟩, Kd.it_new hit⟩, fun b hb => ?_, q⟩
  have hle : s1.heap.objs.size ≤ b := by
    rcases List.mem_cons.mp hb with z | z
    · rw [z]; exact Nat.le_add_right _ _
    · rw [List.mem_singleton.mp z]; exact Nat.le_refl _
  exact I1.fpOk hle (I1.hok.fresh hle)
/-- (0, first), (1, second), .. -/
def enumD (ds : List D) : List D := ds.mapIdx fun i d => .tup [.int (i : Nat), d]
theorem ok_layT {K : PySem.W.Frag} {G : Ent} {B H : Hp} {σ : L2.St} {env : Lvs} {T : Addr} {x y : V} {d e : D} (ok : Ok K G B H σ env) (hT : H T = none) (rx : Rep K B d x) (ry : Rep K B e y) :
    ∃ B', Ok K G B' (upd H T (.tup [x, y])) σ env ∧ Ok K (Ent.at B H σ env) B' (upd H T (.tup [x, y])) σ env ∧ Rep K B' (.tup [d, e]) (.ref T) := by
  have hB : B T = none := fresh_back ok.sub hT
  refine ⟨upd B T (.tup [x, y]), ok.lay hT, ok.self.lay hT, T, [x, y], rfl, SqT.of upd_same, x, [y], rfl, Rep.mono (Ex.new hB) _ _ rx, y, [], rfl, Rep.mono (Ex.new hB) _ _ ry, rfl⟩
/-- the source stands for ds -/
def Stands (K : PySem.W.Frag) (B : Hp) (kd : Kd) (ds : List D) : Prop := ∃ xs, kd.has K B xs ∧ Reps K B ds xs
theorem Kd.has_mono {K : PySem.W.Frag} {B H : Hp} {kd : Kd} {xs : List V} (ex : Ex B H) (h : kd.has K B xs) : kd.has K H xs := by
  cases kd with
  | l a => exact ex_l ex h
  | t a => exact ex_t ex h
  | s x k => exact h
theorem walks_enum {K : PySem.W.Frag} {kd : Kd} {B0 : Hp} {ds : List D} {xs : List V} (hs : kd.has K B0 xs) (hr : Reps K B0 ds xs) : Walks K (IteD K kd xs.length) B0 (enumD ds) := fun G B H σ env i ex ok => by
  have hH : kd.has K H xs := Kd.has_mono (ex.trans ok.sub) hs
  have hl := hr.length
  refine ⟨fun d e => ?_, fun h => ⟨by unfold enumD at h; rw [List.length_mapIdx] at h; omega, xs, hH, rfl⟩⟩
  unfold enumD at e
  rw [List.getElem?_mapIdx] at e
  cases q : ds[i]? with
  | none => rw [q] at e; cases e
  | some d0 =>
    rw [q] at e
    cases e
    obtain ⟨v, q1, q2⟩ := hr.get q
    have hi : i < xs.length := (List.getElem?_eq_some_iff.mp q1).1
    refine ⟨⟨hi, xs, hH, rfl⟩, fun x H' y => ?_⟩
    obtain ⟨T, y0, rfl, hT, rfl, hy⟩ := y
    have := hy xs hH
    rw [q1] at this
    cases this
    exact ok_layT ok hT (show Rep K B (.int (i : Nat)) (.int (i : Nat)) from rfl) (Rep.mono ex _ _ q2)
/-- what stands for data with items may be drawn from -/
theorem src_of {K : PySem.W.Frag} {B H : Hp} {d : D} {v : V} {ds : List D} (hd : itmOf d = some ds) (r : Rep K B d v) (sub : Ex B H) : ∃ us : List V, us.length = ds.length ∧ Reps K B ds us ∧ ∀ R : Kd → Prop, (∀ kd : Kd, kd.has K B us → R kd) → Src K H v us R := by
  cases d with
  | lst es =>
    cases hd
    obtain ⟨a, vs, rfl, hs, hr⟩ := r
    have hs : SqL K B a vs := SqL.of hs
    exact ⟨vs, hr.length, hr, fun R k => .inl ⟨a, rfl, ex_l sub hs, k (.l a) hs⟩⟩
  | fls es =>
    cases hd
    obtain ⟨a, vs, rfl, hs, hr⟩ := r
    exact ⟨vs, hr.length, hr, fun R k => .inl ⟨a, rfl, ex_l sub hs, k (.l a) hs⟩⟩
  | tup es =>
    cases hd
    obtain ⟨a, vs, rfl, hs, hr⟩ := r
    exact ⟨vs, hr.length, hr, fun R k => .inr (.inl ⟨a, rfl, ex_t sub hs, k (.t a) hs⟩)⟩
  | str s =>
    cases hd
    have r : v = .str (mkS s) := r
    have hr : ∀ s : List Nat, Reps K B (s.map fun c => D.str [c]) (s.map fun c => V.str ⟨#[c]⟩) := by
      intro s
      induction s with
      | nil => exact rfl
      | cons c s ih => exact ⟨_, _, rfl, rfl, ih⟩
    exact ⟨signsV (mkS s), by unfold signsV; rw [List.length_map, List.length_map], hr s, fun R k => .inr (.inr ⟨mkS s, r, rfl, fun t => k (.s (mkS s) t) rfl⟩)⟩
  | _ => cases hd
def iEnumM (m : M D) : M (List D) := bnd m fun d => lft ((itmOf d).map enumD)
theorem pdi_enum {X : Cx} {e : Expr} {m : M D} {p pos tpos : Pos} {elts : List Expr} {kk : Nat} (hm : X.mg "enumerate" = none) (he : PD X e m) (hg : Gl X "enumerate" := by rfl) (hs : starEach [e] X.env = (false, eval e X.env) :: starEach [] X.env := by rfl) :
    PDI X (.Tuple elts kk tpos) (.Call (.Name "enumerate" p) [e] [] pos) (iEnumM m) :=
  pi_mono (pi_enumD hg hm he hs) fun σ H R ⟨G, B, env, ds, env', ok, e, k⟩ => by
    obtain ⟨d, e1, q1, q2⟩ := bnd_some e
    obtain ⟨z, q5, q6⟩ := lft_some q2
    cases q6
    cases q : itmOf d with
    | none => rw [q] at q5; cases q5
    | some es =>
      rw [q] at q5
      cases q5
      refine tD_of ok q1 fun v B1 H1 ok1 _ r => ?_
      obtain ⟨xs, hl, hr, S⟩ := src_of q r ok1.sub
      exact ⟨xs, S _ fun kd h => k _ B1 H1 ok1 (walks_enum h hr)⟩
end Dv
/-! zip over lists, tuples and texts, strict or not. -/
namespace Dv
open PySem PySem.Spec PyProof.Rows L2 Evl
/-- a zip object -/
abbrev ZipB (b : Bool) (h : Heap) (z TI TO : Addr) (f0 : Value) : Prop :=
  h.get? z = some { cls := .type "zip", data := .fields #[f0, .bool false, .bool b, .ref TI, .ref TO] }
section
variable {prog : Program} {w : World} {A : Around} {E : Value → Shared → Prop} {s : Shared} {z TI TO i1 i2 : Addr} {fp1 fp2 : List Addr} {n1 n2 i : Nat} {P1 P2 : Nat → Value → Prop} {St1 St2 : Nat → Heap → Prop} {a1 a2 : Value}
theorem nextOrEnd_item {it : Addr} {fp : List Addr} {n i : Nat} {P : Nat → Value → Prop} {St : Nat → Heap → Prop} {Q : Option Value → Shared → Prop} (Dd : Draws prog w A it fp n P St) (hlt : i < n) (st : St i s.heap)
    (hQ : ∀ x h' tk, P i x → St (i + 1) h' → Heap.SameBut it s.heap h' → Q (some x) { s with heap := h', toks := tk }) : wpAny (model prog w) A (Builtin.SmallTypes.nextOrEnd (.ref it)) Q E s := by
  unfold Builtin.SmallTypes.nextOrEnd
  exact wpAny_bind (wpAny_attempt (Dd.item i s _ _ hlt st fun x h' tk hP st' hs => wpAny_pure (hQ x h' tk hP st' hs)))
theorem nextOrEnd_end {it : Addr} {fp : List Addr} {n : Nat} {P : Nat → Value → Prop} {St : Nat → Heap → Prop} {Q : Option Value → Shared → Prop} (Dd : Draws prog w A it fp n P St) (st : St n s.heap)
    (hQ : ∀ h', Heap.ExtBut it s.heap h' → Q none { s with heap := h' }) : wpAny (model prog w) A (Builtin.SmallTypes.nextOrEnd (.ref it)) Q E s := by
  unfold Builtin.SmallTypes.nextOrEnd
  refine wpAny_bind (wpAny_attempt (Dd.done s _ _ st fun h' e he hx => ?_))
  obtain ⟨o, ho, hc⟩ := hx
  refine wpAny_bind (wpAny_isInstance (T := "StopIteration") (b := true) ⟨o, ho, hc⟩ isSubtype_stop ?_)
  exact wpAny_pure (hQ h' he)
theorem zipS_item {Q : Value → Shared → Prop} (S : ZipSep2 z TI TO i1 i2 fp1 fp2) (D1 : Draws prog w A i1 fp1 n1 P1 St1) (D2 : Draws prog w A i2 fp2 n2 P2 St2)
    (hz : ZipB true s.heap z TI TO .none) (hTI : IsTupOf2 s.heap TI (.ref i1) (.ref i2)) (hTO : IsTupOf2 s.heap TO a1 a2) (st1 : St1 i s.heap) (st2 : St2 i s.heap) (hlt1 : i < n1) (hlt2 : i < n2)
    (hQ : ∀ x1 x2 h' tk, P1 i x1 → P2 i x2 → ZipB true h' z TI TO (rawInt s.heap.objs.size) → IsTupOf2 h' TO x1 x2 → St1 (i + 1) h' → St2 (i + 1) h' → IsTupOf2 h' s.heap.objs.size x1 x2 → h'.objs.size = s.heap.objs.size + 1 →
      (∀ c o, c ≠ z → c ≠ TO → c ≠ i1 → c ≠ i2 → s.heap.get? c = some o → h'.get? c = some o) → Q (.ref s.heap.objs.size) { s with heap := h', toks := tk }) :
    wpAny (model prog w) A (Builtin.«zip.__next__» ⟨[.ref z], []⟩) (fun fin s' => ∃ v, fin = .done (.ret v) ∧ Q v s') E s := by
  obtain ⟨hp, g, d, tk0, os⟩ := s
  show wpAny _ _ (field (.ref z) 2 >>= _) _ _ _
  refine wpAny_bind (wpAny_field hz rfl (x := .bool true) rfl ?_)
  show wpAny _ _ (field (.ref z) 3 >>= _) _ _ _
  refine wpAny_bind (wpAny_field hz rfl (x := .ref TI) rfl ?_)
  refine wpAny_bind (wpAny_seqItems hTI rfl ?_)
  show wpAny _ _ (Builtin.SmallTypes.ownedTupleIsFree (.ref z) >>= _) _ _ _
  refine wpAny_bind ?_
  unfold Builtin.SmallTypes.ownedTupleIsFree
  refine wpAny_bind (wpAny_field hz rfl (x := .none) rfl (wpAny_pure ?_))
  simp only [if_true]
  refine wpAny_bind (wpAny_rule ?_)
  refine wpAny_bind (wpAny_field hz rfl (x := .ref TO) rfl ?_)
  refine wpAny_bind (wpAny_setField_rec hz (by simp) fun g0 hz0 hs0 => ?_)
  replace hz0 : ZipB true g0 z TI TO .ellipsis := hz0
  replace hs0 : Heap.SameBut z hp g0 := hs0
  refine wpAny_bind ?_
  simp only [List.zipIdx_cons, List.zipIdx_nil, List.forIn_cons, List.forIn_nil]
  refine wpAny_bind (wpAny_bind (wpAny_onRaise ?_))
  show wpAny _ _ (Builtin.SmallTypes.nextOrEnd (.ref i1)) _ _ ⟨g0, g, d, tk0, os⟩
  refine nextOrEnd_item D1 hlt1 (D1.over st1 hs0 S.zf1) fun x1 p1 tk1 hx1 sn1 hp1 => ?_
  replace hp1 : Heap.SameBut i1 g0 p1 := hp1
  have hU1 : IsTupOf2 p1 TO a1 a2 := hp1.extBut _ _ S.Ti1 (hs0.extBut _ _ S.TOz hTO)
  refine wpAny_bind (wpAny_seqItems (s := ⟨p1, g, d, tk1, os⟩) hU1 rfl ?_)
  refine wpAny_bind (updateSeq_IsTupOf2 (s := ⟨p1, g, d, tk1, os⟩) hU1 fun g1 hT1 hs1 => ?_)
  replace hT1 : IsTupOf2 g1 TO x1 a2 := hT1
  replace hs1 : Heap.SameBut TO p1 g1 := hs1
  refine wpAny_bind (wpAny_letGo (wpAny_pure ?_))
  refine wpAny_bind (wpAny_bind (wpAny_onRaise ?_))
  show wpAny _ _ (Builtin.SmallTypes.nextOrEnd (.ref i2)) _ _ ⟨g1, g, d, tk1, os⟩
  refine nextOrEnd_item D2 hlt2 (D2.over (D2.over (D2.over st2 hs0 S.zf2) hp1 S.sep1_2) hs1 S.Tf2) fun x2 p2 tk2 hx2 sn2 hp2 => ?_
  replace hp2 : Heap.SameBut i2 g1 p2 := hp2
  have hU2 : IsTupOf2 p2 TO x1 a2 := hp2.extBut _ _ S.Ti2 hT1
  refine wpAny_bind (wpAny_seqItems (s := ⟨p2, g, d, tk2, os⟩) hU2 rfl ?_)
  refine wpAny_bind (updateSeq_IsTupOf2 (s := ⟨p2, g, d, tk2, os⟩) hU2 fun g2 hT2 hs2 => ?_)
  replace hT2 : IsTupOf2 g2 TO x1 x2 := hT2
  replace hs2 : Heap.SameBut TO p2 g2 := hs2
  refine wpAny_bind (wpAny_letGo (wpAny_pure (wpAny_pure ?_)))
  refine wpAny_bind (wpAny_seqItems (s := ⟨g2, g, d, tk2, os⟩) hT2 rfl ?_)
  refine wpAny_bind (wpAny_newTuple ?_)
  have hsz : g2.objs.size = hp.objs.size := by rw [hs2.1, hp2.1, hs1.1, hp1.1, hs0.1]
  have hzz : ZipB true g2 z TI TO .ellipsis := (hs2.extBut _ _ S.TOz.symm (hp2.extBut _ _ S.zi2 (hs1.extBut _ _ S.TOz.symm (hp1.extBut _ _ S.zi1 hz0))))
  have hkk : ∀ c o, c ≠ z → c ≠ TO → c ≠ i1 → c ≠ i2 → hp.get? c = some o → g2.get? c = some o := fun c o cz cT c1 c2 e =>
    (hs2.extBut _ _ cT (hp2.extBut _ _ c2 (hs1.extBut _ _ cT (hp1.extBut _ _ c1 (hs0.extBut _ _ cz e)))))
  have hj1 : St1 (i + 1) g2 := (D1.over (D1.over (D1.over sn1 hs1 S.Tf1) hp2 S.sep2_1) hs2 S.Tf1)
  have hj2 : St2 (i + 1) g2 := (D2.over sn2 hs2 S.Tf2)
  have hzlt : z < g2.objs.size := Heap.lt_size hzz
  show wpAny _ _ (Builtin.SmallTypes.ownedTupleHandOut (.ref z) (.ref g2.objs.size) >>= _) _ _ ⟨g2.push { cls := .type "tuple", data := .seq #[x1, x2] }, g, d, tk2, os⟩
  refine wpAny_bind ?_
  unfold Builtin.SmallTypes.ownedTupleHandOut
  have hz6 : ZipB true (g2.push { cls := .type "tuple", data := .seq #[x1, x2] }) z TI TO .ellipsis := Heap.get?_push_of_some _ hzz
  refine wpAny_bind (wpAny_setField_rec hz6 (by simp) fun h7 hz7 hs7 => ?_)
  replace hz7 : ZipB true h7 z TI TO (rawInt g2.objs.size) := hz7
  refine wpAny_setField_rec hz7 (by simp) fun h8 hz8 hs8 => ?_
  replace hz8 : ZipB true h8 z TI TO (rawInt g2.objs.size) := hz8
  replace hs7 : Heap.SameBut z (g2.push { cls := .type "tuple", data := .seq #[x1, x2] }) h7 := hs7
  replace hs8 : Heap.SameBut z h7 h8 := hs8
  have up : ∀ c o, c ≠ z → g2.get? c = some o → h8.get? c = some o := fun c o c1 e => hs8.extBut _ _ c1 (hs7.extBut _ _ c1 (Heap.get?_push_of_some _ e))
  have hT8 : IsTupOf2 h8 g2.objs.size x1 x2 := hs8.extBut _ _ (Nat.ne_of_gt hzlt) (hs7.extBut _ _ (Nat.ne_of_gt hzlt) (Heap.get?_push_size _ rfl))
  have hzs : h8.objs.size = g2.objs.size + 1 := by rw [hs8.1, hs7.1, Heap.size_push]
  rw [hsz] at hz8 hT8 hzs
  refine wpAny_pure ⟨_, rfl, ?_⟩
  show Q (.ref g2.objs.size) ⟨h8, g, d, tk2, os⟩
  rw [hsz]
  exact hQ x1 x2 h8 tk2 hx1 hx2 hz8 (up _ _ S.TOz hT2) (D1.frame _ _ _ hj1 fun b hb o e => up b o (fun q => S.zf1 (q ▸ hb)) e) (D2.frame _ _ _ hj2 fun b hb o e => up b o (fun q => S.zf2 (q ▸ hb)) e) hT8 hzs fun c o cz cT c1 c2 e => up c o cz (hkk c o cz cT c1 c2 e)
theorem zipS_end {Q : Fin → Shared → Prop} (hh : A.handled = none) (S : ZipSep2 z TI TO i1 i2 fp1 fp2) (D1 : Draws prog w A i1 fp1 n1 P1 St1) (D2 : Draws prog w A i2 fp2 n2 P2 St2)
    (hz : ZipB true s.heap z TI TO .none) (hTI : IsTupOf2 s.heap TI (.ref i1) (.ref i2)) (hTO : IsTupOf2 s.heap TO a1 a2) (st1 : St1 n1 s.heap) (st2 : St2 n2 s.heap)
    (hE : ∀ h' tk e, (∀ c o, c ≠ z → c ≠ TO → c ≠ i1 → c ≠ i2 → s.heap.get? c = some o → h'.get? c = some o) → (∃ o, h'.get? e = some o ∧ o.cls = .type "StopIteration") → E (.ref e) { s with heap := h', toks := tk }) :
    wpAny (model prog w) A (Builtin.«zip.__next__» ⟨[.ref z], []⟩) Q E s := by
  obtain ⟨hp, g, d, tk0, os⟩ := s
  show wpAny _ _ (field (.ref z) 2 >>= _) _ _ _
  refine wpAny_bind (wpAny_field hz rfl (x := .bool true) rfl ?_)
  show wpAny _ _ (field (.ref z) 3 >>= _) _ _ _
  refine wpAny_bind (wpAny_field hz rfl (x := .ref TI) rfl ?_)
  refine wpAny_bind (wpAny_seqItems hTI rfl ?_)
  show wpAny _ _ (Builtin.SmallTypes.ownedTupleIsFree (.ref z) >>= _) _ _ _
  refine wpAny_bind ?_
  unfold Builtin.SmallTypes.ownedTupleIsFree
  refine wpAny_bind (wpAny_field hz rfl (x := .none) rfl (wpAny_pure ?_))
  simp only [if_true]
  refine wpAny_bind (wpAny_rule ?_)
  refine wpAny_bind (wpAny_field hz rfl (x := .ref TO) rfl ?_)
  refine wpAny_bind (wpAny_setField_rec hz (by simp) fun g0 hz0 hs0 => ?_)
  replace hz0 : ZipB true g0 z TI TO .ellipsis := hz0
  replace hs0 : Heap.SameBut z hp g0 := hs0
  refine wpAny_bind ?_
  simp only [List.zipIdx_cons, List.zipIdx_nil, List.forIn_cons, List.forIn_nil]
  refine wpAny_bind (wpAny_bind (wpAny_onRaise ?_))
  show wpAny _ _ (Builtin.SmallTypes.nextOrEnd (.ref i1)) _ _ ⟨g0, g, d, tk0, os⟩
  refine nextOrEnd_end D1 (D1.over st1 hs0 S.zf1) fun q hq => ?_
  replace hq : Heap.ExtBut i1 g0 q := hq
  have hzq : ZipB true q z TI TO .ellipsis := hq _ _ S.zi1 hz0
  refine wpAny_bind (wpAny_setField_rec (s := ⟨q, g, d, tk0, os⟩) hzq (by simp) fun q' hzq' hq' => ?_)
  refine wpAny_bind (wpAny_bind ?_)
  wp_delta
  simp only [List.drop, List.zipIdx_cons, List.zipIdx_nil, List.forIn_cons, List.forIn_nil]
  replace hq' : Heap.SameBut z q q' := hq'
  have stq : St2 n2 q' := D2.over (D2.frame _ _ _ (D2.over st2 hs0 S.zf2) fun b hb o e => hq b o (fun x => S.sep1_2 (x ▸ hb)) e) hq' S.zf2
  refine wpAny_bind (wpAny_bind (nextOrEnd_end (s := ⟨q', g, d, tk0, os⟩) D2 stq fun r hr => ?_))
  replace hr : Heap.ExtBut i2 q' r := hr
  refine wpAny_pure ?_
  refine wpAny_pure ?_
  refine wpAny_bind (wpAny_rule ?_)
  unfold Builtin.SmallTypes.stopIteration
  simp only [newExc, newTuple]
  refine wpAny_bind (wpAny_bind (wpAny_newObj_type ?_ (by size_fits)))
  refine wpAny_bind (m := firstArgMember _ _) (wpAny_of_eq (a := Value.none) (by first | rfl | (simp only [firstArgMember]; rfl)) ?_)
  refine wpAny_newObj_type ?_ (by size_fits)
  simp only [raiseNew]
  refine wpAny_bind (wpAny_handled ?_)
  rw [hh]
  refine wpAny_bind (wpAny_pure (wpAny_throw ?_))
  refine hE _ _ _ (fun c o cz cT c1 c2 x => Heap.get?_push_of_some _ (Heap.get?_push_of_some _ (hr _ _ c2 (hq'.extBut _ _ cz (hq _ _ c1 (hs0.extBut _ _ cz x)))))) ⟨_, Heap.get?_push_size _ rfl, rfl⟩
theorem pyNext_zip {b : Bool} {Q : Option Value → Shared → Prop} {f0 : Value} (hz : ZipB b s.heap z TI TO f0)
    (h : wpAny (model prog w) A.in1 (Builtin.«zip.__next__» ⟨[.ref z], []⟩) (fun fin s' => ∃ v, fin = .done (.ret v) ∧ Q (some v) s') (fun e s' => (∃ o a, e = .ref a ∧ s'.heap.get? a = some o ∧ o.cls = .type "StopIteration") ∧ Q none s') s) : wpAny (model prog w) A (pyNext (.ref z)) Q E s := by
  have hT : s.TypeIs (.ref z) "zip" := ⟨_, hz, rfl⟩
  unfold pyNext
  refine wpAny_bind (wpAny_attempt (wpAny_callSpecial?_slot (name := Str.ofString "__next__") hT F.slot_zip_next
    (wpAny_call_entry F.slot_zip_next hT F.entry_zip_next ?_ (F.args_zip_next_1 _))))
  refine wpAny_mono h (fun fin s' ⟨v, e, q⟩ => ⟨v, e, wpAny_pure q⟩) fun e s' ⟨⟨o, a, he, ho, hc⟩, q⟩ => ?_
  subst he
  refine wpAny_bind (wpAny_isInstance (T := "StopIteration") (b := true) ⟨o, ho, hc⟩ isSubtype_stop ?_)
  exact wpAny_pure q
/-- the next pair, either way -/
theorem zipB_item {b : Bool} {Q : Option Value → Shared → Prop} (S : ZipSep2 z TI TO i1 i2 fp1 fp2) (D1 : Draws prog w A.in1 i1 fp1 n1 P1 St1) (D2 : Draws prog w A.in1 i2 fp2 n2 P2 St2)
    (hz : ZipB b s.heap z TI TO .none) (hTI : IsTupOf2 s.heap TI (.ref i1) (.ref i2)) (hTO : IsTupOf2 s.heap TO a1 a2) (st1 : St1 i s.heap) (st2 : St2 i s.heap) (hlt1 : i < n1) (hlt2 : i < n2)
    (hQ : ∀ x1 x2 h' tk, P1 i x1 → P2 i x2 → ZipB b h' z TI TO (rawInt s.heap.objs.size) → IsTupOf2 h' TO x1 x2 → St1 (i + 1) h' → St2 (i + 1) h' → IsTupOf2 h' s.heap.objs.size x1 x2 → h'.objs.size = s.heap.objs.size + 1 →
      (∀ c o, c ≠ z → c ≠ TO → c ≠ i1 → c ≠ i2 → s.heap.get? c = some o → h'.get? c = some o) → Q (some (.ref s.heap.objs.size)) { s with heap := h', toks := tk }) :
    wpAny (model prog w) A (pyNext (.ref z)) Q E s := by
  refine pyNext_zip hz ?_
  cases b
  · exact zipD2_next_item S D1 D2 hz hTI hTO st1 st2 hlt1 hlt2 hQ
  · exact zipS_item S D1 D2 hz hTI hTO st1 st2 hlt1 hlt2 hQ
theorem zipB_end {b : Bool} {Q : Option Value → Shared → Prop} (hh : A.handled = none) (S : ZipSep2 z TI TO i1 i2 fp1 fp2) (D1 : Draws prog w A.in1 i1 fp1 n1 P1 St1) (D2 : Draws prog w A.in1 i2 fp2 n2 P2 St2)
    (hz : ZipB b s.heap z TI TO .none) (hTI : IsTupOf2 s.heap TI (.ref i1) (.ref i2)) (hTO : IsTupOf2 s.heap TO a1 a2) (st1 : St1 i s.heap) (st2 : St2 i s.heap) (hle1 : i ≤ n1) (hle2 : i ≤ n2) (hend : i = n1 ∨ i = n2) (hb : b = true → n1 = n2)
    (hQ : ∀ h' tk, (∀ c o, c ≠ z → c ≠ TO → c ≠ i1 → c ≠ i2 → s.heap.get? c = some o → h'.get? c = some o) → Q none { s with heap := h', toks := tk }) :
    wpAny (model prog w) A (pyNext (.ref z)) Q E s := by
  refine pyNext_zip hz ?_
  cases b
  · exact zipD2_next_end S D1 D2 hz hTI hTO st1 st2 hle1 hle2 hend fun h' tk e hk ⟨o, ho, hc⟩ => ⟨⟨o, e, rfl, ho, hc⟩, hQ h' tk hk⟩
  · have e := hb rfl
    have e1 : i = n1 := by omega
    have e2 : i = n2 := by omega
    rw [e1] at st1
    rw [e2] at st2
    exact zipS_end hh S D1 D2 hz hTI hTO st1 st2 fun h' tk e hk ⟨o, ho, hc⟩ => ⟨⟨o, e, rfl, ho, hc⟩, hQ h' tk hk⟩
theorem pyIter_zipB {b : Bool} {f0 : Value} {Q : Value → Shared → Prop} (hz : ZipB b s.heap z TI TO f0) (h : Q (.ref z) s) : wpAny (model prog w) A (pyIter (.ref z)) Q E s := by
  have hT : s.TypeIs (.ref z) "zip" := ⟨_, hz, rfl⟩
  refine wpAny_pyIter_slot hT F.slot_zip_iter (wpAny_call_entry F.slot_zip_iter hT F.entry_zip_iter ?_ (F.args_zip_iter_1 _))
  show wpAny _ _ (PySem.ret (.ref z)) _ _ s
  exact wpAny_pure ⟨_, rfl, "zip", _, hT, F.slot_zip_next.lookup, h⟩
theorem letGo_zipB {b : Bool} {elts : List Expr} {x1 : Nat} {pos : Pos} {T : Addr} {Q : Unit → Shared → Prop} (hz : ZipB b s.heap z TI TO (rawInt T)) (hQ : ∀ h', ZipB b h' z TI TO .none → Heap.SameBut z s.heap h' → Q () { s with heap := h' }) :
    wpAny (model prog w) A (letOwnedTupleGo (.Tuple elts x1 pos) (.ref z) (.ref T)) Q E s := by
  unfold letOwnedTupleGo
  refine wpAny_bind (wpAny_load hz ?_)
  show wpAny _ _ (if (["enumerate", "zip", "dict_itemiterator", "dict_reverseitemiterator", "odict_iterator", "itertools.zip_longest", "itertools.pairwise"].contains "zip" && (#[rawInt T, .bool false, .bool b, .ref TI, .ref TO] : Array Value)[0]? == some (rawInt T)) = true then _ else _) Q E s
  rw [if_pos (by simp)]
  refine wpAny_bind (wpAny_rule ?_)
  show wpAny _ _ (setField (.ref z) 0 .none) Q E s
  exact wpAny_setField_rec hz (by simp) fun h' hz' hs' => hQ h' hz' hs'
end
/-! ### the turns of a zip -/
def ItzB (K : PySem.W.Frag) (k1 k2 : Kd) (n1 n2 : Nat) : It :=
  ⟨fun i H => i < n1 ∧ i < n2 ∧ (∃ xs : List V, k1.has K H xs ∧ xs.length = n1) ∧ ∃ ys : List V, k2.has K H ys ∧ ys.length = n2,
   fun i H v H' => ∃ T x y, v = .ref T ∧ H T = none ∧ H' = upd H T (.tup [x, y]) ∧ (∀ xs, k1.has K H xs → xs[i]? = some x) ∧ ∀ ys, k2.has K H ys → ys[i]? = some y,
   fun i H => (n1 ≤ i ∨ n2 ≤ i) ∧ (∃ xs : List V, k1.has K H xs ∧ xs.length = n1) ∧ ∃ ys : List V, k2.has K H ys ∧ ys.length = n2⟩
theorem turn_zipB {P : Program} {w : World} {K : PySem.W.Frag} {elts : List Expr} {kk : Nat} {tpos : Pos} {b : Bool} {k1 k2 : Kd} {n1 n2 : Nat} {z TI TO i1 i2 : Addr} (S : ZipSep2 z TI TO i1 i2 (i1 :: k1.ad) (i2 :: k2.ad)) (a1 : i1 ∉ k1.ad) (a2 : i2 ∉ k2.ad) (hb : b = true → n1 = n2) :
    Turn P w K (.Tuple elts kk tpos) (ItzB K k1 k2 n1 n2) [z, TI, TO, i1, i2] z (fun i h => (i ≤ n1 ∧ i ≤ n2) ∧ ZipB b h z TI TO .none ∧ IsTupOf2 h TI (.ref i1) (.ref i2) ∧ (∃ x y, IsTupOf2 h TO x y) ∧ k1.it i1 i h ∧ k2.it i2 i h) where
  mem := List.mem_cons_self
  obj := fun i h st c hc => by
    obtain ⟨_, hz, hTI, ⟨x, y, hTO⟩, h1, h2⟩ := st
    have e' : c = z ∨ c = TI ∨ c = TO ∨ c = i1 ∨ c = i2 := by simpa using hc
    rcases e' with q | q | q | q | q
    · rw [q]; exact ⟨_, hz, fun v q => nomatch q⟩
    · rw [q]; exact ⟨_, hTI, fun v q => nomatch q⟩
    · rw [q]; exact ⟨_, hTO, fun v q => nomatch q⟩
    · rw [q]; exact Kd.it_obj h1
    · rw [q]; exact Kd.it_obj h2
  keep := fun i h h' st k => by
    obtain ⟨hn, hz, hTI, ⟨x, y, hTO⟩, h1, h2⟩ := st
    exact ⟨hn, k z (by simp) _ hz, k TI (by simp) _ hTI, ⟨x, y, k TO (by simp) _ hTO⟩, Kd.it_at h1 fun o q => k i1 (by simp) o q, Kd.it_at h2 fun o q => k i2 (by simp) o q⟩
  item := by
    intro X hP hw hK hc i pins s σ H E I hf st hg
    subst hP hw hK
    obtain ⟨_, hz, hTI, ⟨x0, y0, hTO⟩, h1, h2⟩ := st
    obtain ⟨hlt1, hlt2, ⟨xs, hqx, hlx⟩, ys, hqy, hly⟩ := hg
    obtain ⟨P1, St1, D1, c1, c2, c3⟩ := Kd.draws (A := X.A.in1) I (I.ok.hd hc) hqx i1 a1
    obtain ⟨P2, St2, D2, d1, d2, d3⟩ := Kd.draws (A := X.A.in1) I (I.ok.hd hc) hqy i2 a2
    rw [hlx] at D1
    rw [hly] at D2
    have hzl : z < s.heap.objs.size := Heap.lt_size hz
    refine zipB_item S D1 D2 hz hTI hTO (c1 i h1) (d1 i h2) hlt1 hlt2 fun u1 u2 h' tk p1 p2 z' TO' s1' s2' hT hsz hk => ?_
    obtain ⟨x, hx, rx⟩ := c3 i u1 p1
    obtain ⟨y, hy, ry⟩ := d3 i u2 p2
    refine ⟨_, rfl, letGo_zipB (s := { s with heap := h', toks := tk }) z' fun h'' z'' sb => ?_⟩
    have hT2 : h''.get? s.heap.objs.size = some { cls := .type "tuple", data := .seq #[u1, u2] } := (sb.2 _ (Nat.ne_of_gt hzl)).trans hT
    have new : ObjOk X.prog X.w (upd H s.heap.objs.size (.tup [x, y])) h'' s.heap.objs.size (.tup [x, y]) :=
      ⟨by show 2 ≤ sizeLine; decide, [u1, u2], .cons rx (.cons ry .nil), ⟨_, hT2, rfl, _, rfl⟩⟩
    have I1 : Inv X pins σ (upd H s.heap.objs.size (.tup [x, y])) { s with heap := h'', toks := tk } :=
      I.turnedNew (ch := [z, TI, TO, i1, i2]) (fun c o hb q => (sb.2 c fun q' => hb (by simp [q'])).trans (hk c o (fun q' => hb (by simp [q'])) (fun q' => hb (by simp [q'])) (fun q' => hb (by simp [q'])) (fun q' => hb (by simp [q'])) q)) hf (Nat.le_refl _) new
    have hi1 : i1 ≠ z := fun e => S.zi1 e.symm
    have hi2 : i2 ≠ z := fun e => S.zi2 e.symm
    refine ⟨.ref s.heap.objs.size, _, I1, rfl, ⟨_, x, y, rfl, I.hok.fresh (Nat.le_refl _), rfl, fun l hl => by rw [Kd.inj I hl hqx]; exact hx, fun l hl => by rw [Kd.inj I hl hqy]; exact hy⟩, ⟨⟨hlt1, hlt2⟩, z'', ?_, ⟨u1, u2, ?_⟩, ?_, ?_⟩, fun c hcm => ?_⟩
    · exact (sb.2 _ S.TIz).trans (hk _ _ S.TIz S.TITO S.TIi1 S.TIi2 hTI)
    · exact (sb.2 _ S.TOz).trans TO'
    · exact Kd.it_at (c2 _ _ s1') fun o q => (sb.2 _ hi1).trans q
    · exact Kd.it_at (d2 _ _ s2') fun o q => (sb.2 _ hi2).trans q
    · have hlt : c < s.heap.objs.size := by
        have e' : c = z ∨ c = TI ∨ c = TO ∨ c = i1 ∨ c = i2 := by simpa using hcm
        rcases e' with q | q | q | q | q
        · rw [q]; exact hzl
        · rw [q]; exact Heap.lt_size hTI
        · rw [q]; exact Heap.lt_size hTO
        · rw [q]; exact Kd.it_lt h1
        · rw [q]; exact Kd.it_lt h2
      rw [upd_ne (Nat.ne_of_lt hlt)]
      exact (hf c hcm).1
  done := by
    intro X hP hw hK hc i pins s σ H E I hf st hg
    subst hP hw hK
    obtain ⟨⟨le1, le2⟩, hz, hTI, ⟨x0, y0, hTO⟩, h1, h2⟩ := st
    obtain ⟨hend, ⟨xs, hqx, hlx⟩, ys, hqy, hly⟩ := hg
    obtain ⟨P1, St1, D1, c1, c2, c3⟩ := Kd.draws (A := X.A.in1) I (I.ok.hd hc) hqx i1 a1
    obtain ⟨P2, St2, D2, d1, d2, d3⟩ := Kd.draws (A := X.A.in1) I (I.ok.hd hc) hqy i2 a2
    rw [hlx] at D1
    rw [hly] at D2
    exact zipB_end (I.ok.hd hc) S D1 D2 hz hTI hTO (c1 i h1) (d1 i h2) le1 le2 (by omega) hb fun h' tk hk => ⟨rfl, I.turnedL (t' := tk) (ch := [z, TI, TO, i1, i2]) (fun c o hb q =>
      hk c o (fun q' => hb (by simp [q'])) (fun q' => hb (by simp [q'])) (fun q' => hb (by simp [q'])) (fun q' => hb (by simp [q'])) q) hf⟩
  self := fun A i s Q E st h => pyIter_zipB st.2.1 h
/-! ### zip(v1, v2, strict=True) begins -/
theorem args_init_strict (obj a b c : Value) : argsOk "object.__init__" ⟨[obj, a, b], [(Str.ofString "strict", c)]⟩ := by unfold argsOk; kernel_rfl
theorem tc_zip_strict (a b c : Value) : checkTypeCall "zip" ⟨[a, b], [(Str.ofString "strict", c)]⟩ = pure () := by kernel_rfl
theorem nc_zip_strict (a b c : Value) : checkBuiltinCall "zip.__new__" ⟨[.type "zip", a, b], [(Str.ofString "strict", c)]⟩ = pure () := by kernel_rfl
abbrev gzS2 (h : Heap) (o1 o2 : Obj) : Heap := (gzO2 h o1 o2).push { cls := .type "zip", data := .fields #[.none, .bool false, .bool true, .ref ((h.push o1).push o2).objs.size, .ref (gzT2 h o1 o2).objs.size] }
theorem meets_zip_strict {v1 v2 : Value} {o1 o2 : Obj} {H1 H2 : Heap → Prop} (B1 : Begins v1 o1 H1) (B2 : Begins v2 o2 H2) :
    Meets (Builtin.«zip.__new__» ⟨[.type "zip", v1, v2], [(Str.ofString "strict", .bool true)]⟩) (fun _ R s => (H1 s.heap ∧ H2 s.heap) ∧
      R (.ok (.ret (.ref (gzO2 s.heap o1 o2).objs.size))) { s with heap := gzS2 s.heap o1 o2 }) :=
  .of_wp fun prog w A R s h => by
    obtain ⟨hp, g, d, tk, os⟩ := s
    obtain ⟨⟨h1, h2⟩, h⟩ := h
    have hsub := sub_zip
    have begin1 : ∀ {A' : Around} {E : Value → Shared → Prop} {Q : Value → Shared → Prop}, Q (.ref hp.objs.size) ⟨(hp.push o1), g, d, tk, os⟩ → wpAny (model prog w) A' (pyIter v1) Q E ⟨hp, g, d, tk, os⟩ :=
      fun q => B1.iter prog w _ _ ⟨hp, g, d, tk, os⟩ _ (B1.keeps _ _ h1 fun b o' e => e) q
    have begin2 : ∀ {A' : Around} {E : Value → Shared → Prop} {Q : Value → Shared → Prop}, Q (.ref (hp.push o1).objs.size) ⟨((hp.push o1).push o2), g, d, tk, os⟩ → wpAny (model prog w) A' (pyIter v2) Q E ⟨(hp.push o1), g, d, tk, os⟩ :=
      fun q => B2.iter prog w _ _ ⟨(hp.push o1), g, d, tk, os⟩ _ (B2.keeps _ _ h2 fun b o' e => (Heap.get?_push_of_some _ e)) q
    have e2 : (Str.ofString "strict" != ("strict" : Str)) = false := by decide +kernel
    wp_walk using begin1, begin2
    exact ⟨_, rfl, h⟩
theorem zip_begins_strict {prog : Program} {w : World} {A : Around} {E : Value → Shared → Prop} {s : Shared} {v1 v2 : Value} {o1 o2 : Obj} {H1 H2 : Heap → Prop} {Q : Value → Shared → Prop} (B1 : Begins v1 o1 H1) (B2 : Begins v2 o2 H2) (h1 : H1 s.heap) (h2 : H2 s.heap)
    (h : ∀ h', ZipB true h' (s.heap.objs.size + 4) (s.heap.objs.size + 2) (s.heap.objs.size + 3) .none → IsTupOf2 h' (s.heap.objs.size + 2) (.ref s.heap.objs.size) (.ref (s.heap.objs.size + 1)) →
      IsTupOf2 h' (s.heap.objs.size + 3) .none .none → h'.get? s.heap.objs.size = some o1 → h'.get? (s.heap.objs.size + 1) = some o2 → h'.objs.size = s.heap.objs.size + 5 →
      (∀ c o, s.heap.get? c = some o → h'.get? c = some o) → Q (.ref (s.heap.objs.size + 4)) { s with heap := h' }) :
    wpAny (model prog w) A (call (.type "zip") [v1, v2] [(Str.ofString "strict", .bool true)]) Q E s := by
  refine callType_newKw F.called_zip (by decide) (tc_zip_strict _ _ _) (nc_zip_strict _ _ _) (fun obj => args_init_strict obj _ _ _) F.entry_zip_new (meets_zip_strict B1 B2) ⟨⟨h1, h2⟩, ?_⟩
  have z1 : (s.heap.push o1).objs.size = s.heap.objs.size + 1 := by rw [Heap.size_push]
  have z2 : ((s.heap.push o1).push o2).objs.size = s.heap.objs.size + 2 := by rw [Heap.size_push, z1]
  have zT : (gzT2 s.heap o1 o2).objs.size = s.heap.objs.size + 3 := by rw [Heap.size_push, z2]
  have zO : (gzO2 s.heap o1 o2).objs.size = s.heap.objs.size + 4 := by rw [Heap.size_push, zT]
  have zZ : (gzS2 s.heap o1 o2).objs.size = s.heap.objs.size + 5 := by rw [Heap.size_push, zO]
  have gZ : (gzS2 s.heap o1 o2).get? (gzO2 s.heap o1 o2).objs.size = some { cls := .type "zip", data := .fields #[.none, .bool false, .bool true, .ref ((s.heap.push o1).push o2).objs.size, .ref (gzT2 s.heap o1 o2).objs.size] } := Heap.get?_push_size _ rfl
  have gO : (gzS2 s.heap o1 o2).get? (gzT2 s.heap o1 o2).objs.size = some { cls := .type "tuple", data := .seq #[.none, .none] } := Heap.get?_push_of_some _ (Heap.get?_push_size _ rfl)
  have gT : (gzS2 s.heap o1 o2).get? ((s.heap.push o1).push o2).objs.size = some { cls := .type "tuple", data := .seq #[.ref s.heap.objs.size, .ref (s.heap.push o1).objs.size] } := Heap.get?_push_of_some _ (Heap.get?_push_of_some _ (Heap.get?_push_size _ rfl))
  have g1 : (gzS2 s.heap o1 o2).get? s.heap.objs.size = some o1 := Heap.get?_push_of_some _ (Heap.get?_push_of_some _ (Heap.get?_push_of_some _ (Heap.get?_push_of_some _ (Heap.get?_push_size _ B1.free))))
  have g2 : (gzS2 s.heap o1 o2).get? (s.heap.push o1).objs.size = some o2 := Heap.get?_push_of_some _ (Heap.get?_push_of_some _ (Heap.get?_push_of_some _ (Heap.get?_push_size _ B2.free)))
  rw [zO, zT, z2] at gZ
  rw [zT] at gO
  rw [z2, z1] at gT
  rw [z1] at g2
  show _ ∧ _
  rw [zO]
  exact ⟨⟨_, gZ, rfl⟩, h _ gZ gT gO g1 g2 zZ fun c o e => Heap.get?_push_of_some _ (Heap.get?_push_of_some _ (Heap.get?_push_of_some _ (Heap.get?_push_of_some _ (Heap.get?_push_of_some _ e))))⟩
section
variable {M : Model} {A : Around} {E : Value → Shared → Prop} {s : Shared} {env : Env}
theorem callWith_typeKw {pos : Pos} {T : String} {e : Expr} {rest : List Expr} {kws : List Keyword} {Q : Value → Shared → Prop}
    (h : wpAny M A (spliced (backTo pos (starEach (e :: rest) env))) (fun vs s₁ => wpAny M A (evalAll ((backToKw pos (keywordEach kws env)).map (·.2)))
      (fun kvs s₂ => wpAny M A (call (.type T) vs (((backToKw pos (keywordEach kws env)).filterMap (·.1)).zip kvs)) Q E s₂) E s₁) E s)
    (he : backTo pos (starEach (e :: rest) env) = (false, eval e env) :: backTo pos (starEach rest env)) (hpl : (backTo pos (starEach (e :: rest) env)).any (·.1) = false)
    (hall : (backToKw pos (keywordEach kws env)).all (·.1.isSome) = true) (hkw : (backToKw pos (keywordEach kws env)).any (·.1.isNone) = false) :
    wpAny M A (callWith pos (.type T) [] (backTo pos (starEach (e :: rest) env)) (backToKw pos (keywordEach kws env))) Q E s := by
  unfold callWith
  rw [he] at h ⊢
  refine wpAny_bind (wpAny_holding (wpAny_mono (PyProof.Rows.evalArgs_kwB (f := .type T) (Q := fun a s₁ => wpAny M A (call (.type T) ([] ++ a.pos) a.kw) Q E s₁) hall h) (fun a s₁ h₁ => wpAny_bind (wpAny_standAt ?_)) fun _ _ x => x))
  rw [he] at hpl
  simp only [hpl, hkw, Bool.or_false]
  refine wpAny_bind (wpAny_pure ?_)
  exact wpAny_bind (wpAny_mono h₁ (fun r s₂ hr => wpAny_bind (wpAny_holding (wpAny_point (wpAny_pure hr)))) fun _ _ x => x)
end
def iZipB (b : Bool) (K : PySem.W.Frag) (ta : TA) : TI := fun σ H R => ta σ H fun vs H1 => ∃ v1 v2 xs ys, vs = [v1, v2] ∧ (b = true → xs.length = ys.length) ∧ Src K H1 v1 xs fun k1 => Src K H1 v2 ys fun k2 => R (ItzB K k1 k2 xs.length ys.length) H1
section
variable {X : Cx} {pins : List (Addr × Obj)} {σ : L2.St} {H : Hp} {s : Shared}
theorem pie_zip {b : Bool} {R : It → Hp → Prop} {elts : List Expr} {kk : Nat} {tpos : Pos} (I : Inv X pins σ H s) {k1 k2 : Kd} {xs ys : List V} (h1 : k1.has X.K H xs) (h2 : k2.has X.K H ys) (hb : b = true → xs.length = ys.length) (q : R (ItzB X.K k1 k2 xs.length ys.length) H) {h' : Heap}
    (l1 : ∀ a ∈ k1.ad, a < s.heap.objs.size) (l2 : ∀ a ∈ k2.ad, a < s.heap.objs.size)
    (hz : ZipB b h' (s.heap.objs.size + 4) (s.heap.objs.size + 2) (s.heap.objs.size + 3) .none) (hTI : IsTupOf2 h' (s.heap.objs.size + 2) (.ref s.heap.objs.size) (.ref (s.heap.objs.size + 1)))
    (hTO : IsTupOf2 h' (s.heap.objs.size + 3) .none .none) (g1 : h'.get? s.heap.objs.size = some k1.obj) (g2 : h'.get? (s.heap.objs.size + 1) = some k2.obj) (hk : ∀ c o, s.heap.get? c = some o → h'.get? c = some o) :
    wpAny (model X.prog X.w) X.A (pyIter (.ref (s.heap.objs.size + 4))) (PIE X pins σ (.Tuple elts kk tpos) R) X.xe { s with heap := h' } := by
  refine pyIter_zipB (s := { s with heap := h' }) hz ?_
  have I2 : Inv X pins σ H { s with heap := h' } := I.kept (t' := s.toks) hk
  refine ⟨s.heap.objs.size + 4, [s.heap.objs.size + 4, s.heap.objs.size + 2, s.heap.objs.size + 3, s.heap.objs.size, s.heap.objs.size + 1], _, _, H, rfl, I2, turn_zipB (b := b) (zip_sep2 l1 l2) (fun z => Nat.lt_irrefl _ (l1 _ z)) (fun z => absurd (l2 _ z) (Nat.not_lt.mpr (Nat.le_succ _))) hb, ⟨⟨Nat.zero_le _, Nat.zero_le _⟩, hz, hTI, ⟨_, _, hTO⟩, Kd.it_new g1, Kd.it_new g2⟩, fun c hcm => ?_, q⟩
  have e' : c = s.heap.objs.size + 4 ∨ c = s.heap.objs.size + 2 ∨ c = s.heap.objs.size + 3 ∨ c = s.heap.objs.size ∨ c = s.heap.objs.size + 1 := by simpa using hcm
  have hle : s.heap.objs.size ≤ c := by
    rcases e' with z | z | z | z | z
    · rw [z]; exact Nat.le_add_right _ _
    · rw [z]; exact Nat.le_add_right _ _
    · rw [z]; exact Nat.le_add_right _ _
    · rw [z]; exact Nat.le_refl _
    · rw [z]; exact Nat.le_add_right _ _
  exact I.fpOk hle (I.hok.fresh hle)
end
section
variable {X : Cx}
theorem pi_zipN {e e2 : Expr} {ta : TA} {p pos tpos : Pos} {elts : List Expr} {kk : Nat} (hg : Gl X "zip") (hm : X.mg "zip" = none) (ha : PA X [e, e2] ta)
    (hs : starEach [e, e2] X.env = (false, eval e X.env) :: starEach [e2] X.env) (hpl : (backTo pos (starEach [e2] X.env)).any (·.1) = false) :
    PI X (.Tuple elts kk tpos) (.Call (.Name "zip" p) [e, e2] [] pos) (iZipB false X.K ta) := by
  refine ⟨fun pins s σ H R I h => ?_⟩
  refine Call_ (ld_blt I hg hm PyProof.Rows.boot_zip (PyProof.Rows.callWith_type1 (thn (ha.run pos pins s σ H _ I h) fun us s1 ⟨vs, H1, I1, r1, q1⟩ => ?_) hs hpl))
  obtain ⟨v1, v2, xs, ys, rfl, hb, S1⟩ := q1
  cases r1 with
  | cons r rr =>
    cases rr with
    | cons r' rr =>
      cases rr
      obtain ⟨k1, rfl, h1, S2⟩ := S1.kd r
      obtain ⟨k2, rfl, h2, q⟩ := S2.kd r'
      obtain ⟨Hh1, B1, b1, l1⟩ := Kd.begins I1 h1
      obtain ⟨Hh2, B2, b2, l2⟩ := Kd.begins I1 h2
      exact zip_begins2 B1 B2 b1 b2 fun h' hz hTI hTO g1 g2 hsz hk => pie_zip (b := false) I1 h1 h2 hb q l1 l2 hz hTI hTO g1 g2 hk
theorem pi_zipS {e e2 : Expr} {ta : TA} {p pos tpos kp cp : Pos} {j : Nat} {elts : List Expr} {kk : Nat} (hg : Gl X "zip") (hm : X.mg "zip" = none) (ha : PA X [e, e2] ta)
    (he : backTo pos (starEach [e, e2] X.env) = (false, eval e X.env) :: backTo pos (starEach [e2] X.env)) (hpl : (backTo pos (starEach [e, e2] X.env)).any (·.1) = false)
    (hall : (backToKw pos (keywordEach [⟨some ("strict" : Str), .Constant (.bool true) j cp, kp⟩] X.env)).all (·.1.isSome) = true) (hnone : (backToKw pos (keywordEach [⟨some ("strict" : Str), .Constant (.bool true) j cp, kp⟩] X.env)).any (·.1.isNone) = false)
    (hks : (backToKw pos (keywordEach [⟨some ("strict" : Str), .Constant (.bool true) j cp, kp⟩] X.env)).filterMap (·.1) = [("strict" : Str)]) :
    PI X (.Tuple elts kk tpos) (.Call (.Name "zip" p) [e, e2] [⟨some ("strict" : Str), .Constant (.bool true) j cp, kp⟩] pos) (iZipB true X.K ta) := by
  refine ⟨fun pins s σ H R I h => ?_⟩
  refine wpAny_Call_Name_kw (ld_blt I hg hm PyProof.Rows.boot_zip ?_)
  refine callWith_typeKw (thn (ha.run pos pins s σ H _ I h) fun us s1 ⟨vs, H1, I1, r1, q1⟩ => thn ((pk_cons pe_bl pk_nil).run pos pins s1 σ H1 (fun zs H2 => H2 = H1 ∧ zs = [.bl true]) I1 ?_) fun ws s2 ⟨zs, H2, I2, r2, e2, ez⟩ => ?_) he hpl hall hnone
  · exact ⟨rfl, rfl⟩
  subst e2 ez
  rw [hks]
  obtain ⟨v1, v2, xs, ys, rfl, hb, S1⟩ := q1
  cases r2 with
  | cons r0 rr0 =>
    cases rr0
    obtain rfl : _ = Value.bool true := r0
    cases r1 with
    | cons r rr =>
      cases rr with
      | cons r' rr =>
        cases rr
        obtain ⟨k1, rfl, h1, S2⟩ := S1.kd r
        obtain ⟨k2, rfl, h2, q⟩ := S2.kd r'
        obtain ⟨Hh1, B1, b1, l1⟩ := Kd.begins I2 h1
        obtain ⟨Hh2, B2, b2, l2⟩ := Kd.begins I2 h2
        exact zip_begins_strict B1 B2 b1 b2 fun h' hz hTI hTO g1 g2 hsz hk => pie_zip (b := true) I2 h1 h2 hb q l1 l2 hz hTI hTO g1 g2 hk
/-- pairs of the items, as far as both go -/
def zipD (xs ys : List D) : List D := List.zipWith (fun x y => .tup [x, y]) xs ys
theorem walks_zip {K : PySem.W.Frag} {k1 k2 : Kd} {B0 : Hp} {ds es : List D} {xs ys : List V} (h1 : k1.has K B0 xs) (r1 : Reps K B0 ds xs) (h2 : k2.has K B0 ys) (r2 : Reps K B0 es ys) : Walks K (ItzB K k1 k2 xs.length ys.length) B0 (zipD ds es) := fun G B H σ env i ex ok => by
  have hH1 : k1.has K H xs := Kd.has_mono (ex.trans ok.sub) h1
  have hH2 : k2.has K H ys := Kd.has_mono (ex.trans ok.sub) h2
  have l1 := r1.length
  have l2 := r2.length
  refine ⟨fun d e => ?_, fun h => ⟨by unfold zipD at h; rw [List.length_zipWith] at h; omega, ⟨xs, hH1, rfl⟩, ys, hH2, rfl⟩⟩
  unfold zipD at e
  rw [List.getElem?_zipWith] at e
  cases q1 : ds[i]? with
  | none => rw [q1] at e; cases e
  | some d1 =>
    cases q2 : es[i]? with
    | none => rw [q1, q2] at e; cases e
    | some d2 =>
      rw [q1, q2] at e
      cases e
      obtain ⟨v1, a1, b1⟩ := r1.get q1
      obtain ⟨v2, a2, b2⟩ := r2.get q2
      have i1 : i < xs.length := (List.getElem?_eq_some_iff.mp a1).1
      have i2 : i < ys.length := (List.getElem?_eq_some_iff.mp a2).1
      refine ⟨⟨i1, i2, ⟨xs, hH1, rfl⟩, ys, hH2, rfl⟩, fun x H' y => ?_⟩
      obtain ⟨T, y1, y2, rfl, hT, rfl, hy1, hy2⟩ := y
      have e1 := hy1 xs hH1
      have e2 := hy2 ys hH2
      rw [a1] at e1
      rw [a2] at e2
      cases e1
      cases e2
      exact ok_layT ok hT (Rep.mono ex _ _ b1) (Rep.mono ex _ _ b2)
def zip2 : List D → Option (List D)
  | [a, b] => match itmOf a with
    | some xs => match itmOf b with
      | some ys => some (zipD xs ys)
      | none => none
    | none => none
  | _ => none
def zip2S : List D → Option (List D)
  | [a, b] => match itmOf a with
    | some xs => match itmOf b with
      | some ys => if xs.length = ys.length then some (zipD xs ys) else none
      | none => none
    | none => none
  | _ => none
theorem zip_red {b : Bool} {K : PySem.W.Frag} {H1 B1 : Hp} {G : Ent} {σ : L2.St} {env : Lvs} {vs : List V} {a c : D} {xs ys : List D} {R : It → Hp → Prop} (ok : Ok K G B1 H1 σ env) (r : Reps K B1 [a, c] vs) (ha : itmOf a = some xs) (hc : itmOf c = some ys) (hb : b = true → xs.length = ys.length)
    (k : ∀ J, Walks K J B1 (zipD xs ys) → R J H1) : ∃ v1 v2 us ws, vs = [v1, v2] ∧ (b = true → us.length = ws.length) ∧ Src K H1 v1 us fun k1 => Src K H1 v2 ws fun k2 => R (ItzB K k1 k2 us.length ws.length) H1 := by
  obtain ⟨v1, v2, rfl, r1, r2⟩ := reps2 r
  obtain ⟨us, e1, q1, S1⟩ := src_of (H := H1) ha r1 ok.sub
  obtain ⟨ws, e2, q2, S2⟩ := src_of (H := H1) hc r2 ok.sub
  exact ⟨v1, v2, us, ws, rfl, fun z => by rw [e1, e2]; exact hb z, S1 _ fun k1 h1 => S2 _ fun k2 h2 => k _ (walks_zip h1 q1 h2 q2)⟩
def iZipM (m : M (List D)) : M (List D) := bnd m fun ds => lft (zip2 ds)
def iZipSM (m : M (List D)) : M (List D) := bnd m fun ds => lft (zip2S ds)
theorem pdi_zip {e e2 : Expr} {m : M (List D)} {p pos tpos : Pos} {elts : List Expr} {kk : Nat} (hm : X.mg "zip" = none) (ha : PDA X [e, e2] m) (hg : Gl X "zip" := by rfl)
    (hs : starEach [e, e2] X.env = (false, eval e X.env) :: starEach [e2] X.env := by rfl) (hpl : (backTo pos (starEach [e2] X.env)).any (·.1) = false := by rfl) :
    PDI X (.Tuple elts kk tpos) (.Call (.Name "zip" p) [e, e2] [] pos) (iZipM m) :=
  pi_mono (pi_zipN hg hm ha hs hpl) fun σ H R ⟨G, B, env, ds, env', ok, e, k⟩ => by
    obtain ⟨as, e1, q1, q2⟩ := bnd_some e
    obtain ⟨z, q5, q6⟩ := lft_some q2
    cases q6
    unfold zip2 at q5
    split at q5
    rotate_left
    · cases q5
    rename_i a c
    split at q5
    rotate_left
    · cases q5
    rename_i xs hx
    split at q5
    rotate_left
    · cases q5
    rename_i ys hy
    cases q5
    exact tA_of ok q1 fun v B1 H1 ok1 _ r => zip_red (b := false) ok1 r hx hy (fun z => by cases z) fun J W => k J B1 H1 ok1 W
theorem pdi_zipS {e e2 : Expr} {m : M (List D)} {p pos tpos kp cp : Pos} {j : Nat} {elts : List Expr} {kk : Nat} (hm : X.mg "zip" = none) (ha : PDA X [e, e2] m) (hg : Gl X "zip" := by rfl)
    (he : backTo pos (starEach [e, e2] X.env) = (false, eval e X.env) :: backTo pos (starEach [e2] X.env) := by rfl) (hpl : (backTo pos (starEach [e, e2] X.env)).any (·.1) = false := by rfl)
    (hall : (backToKw pos (keywordEach [⟨some ("strict" : Str), .Constant (.bool true) j cp, kp⟩] X.env)).all (·.1.isSome) = true := by rfl) (hnone : (backToKw pos (keywordEach [⟨some ("strict" : Str), .Constant (.bool true) j cp, kp⟩] X.env)).any (·.1.isNone) = false := by rfl)
    (hks : (backToKw pos (keywordEach [⟨some ("strict" : Str), .Constant (.bool true) j cp, kp⟩] X.env)).filterMap (·.1) = [("strict" : Str)] := by rfl) :
    PDI X (.Tuple elts kk tpos) (.Call (.Name "zip" p) [e, e2] [⟨some ("strict" : Str), .Constant (.bool true) j cp, kp⟩] pos) (iZipSM m) :=
  pi_mono (pi_zipS hg hm ha he hpl hall hnone hks) fun σ H R ⟨G, B, env, ds, env', ok, e, k⟩ => by
    obtain ⟨as, e1, q1, q2⟩ := bnd_some e
    obtain ⟨z, q5, q6⟩ := lft_some q2
    cases q6
    unfold zip2S at q5
    split at q5
    rotate_left
    · cases q5
    rename_i a c
    split at q5
    rotate_left
    · cases q5
    rename_i xs hx
    split at q5
    rotate_left
    · cases q5
    rename_i ys hy
    split at q5
    rotate_left
    · cases q5
    rename_i hl
    cases q5
    exact tA_of ok q1 fun v B1 H1 ok1 _ r => zip_red (b := true) ok1 r hx hy (fun _ => hl) fun J W => k J B1 H1 ok1 W
end
end Dv
/-! reversed over lists, tuples and texts. -/
namespace Dv
open PySem PySem.Spec PyProof.Rows L2 Evl
theorem norev_str : typeLookup (.type "str") "__reversed__" = pure none := by rw [typeLookup_type, builtinLookup_eq_fast]; kernel_rfl
theorem get_str_at : typeLookup (.type "str") "__getitem__" = pure (some (.builtin "str.__getitem__")) := by rw [typeLookup_type, builtinLookup_eq_fast]; kernel_rfl
def rsObj (x : Str) (t : Tok) (i : Int) : Obj := { cls := .type "reversed", data := .fields #[.str x t, rawInt i] }
/-- reversed(text), the next place i -/
def IsRs (h : Heap) (a : Addr) (x : Str) (t : Tok) (i : Int) : Prop := ∃ o, h.get? a = some o ∧ o.cls = .type "reversed" ∧ o.data = .fields #[.str x t, rawInt i]
theorem IsRs.at {h h' : Heap} {a : Addr} {x : Str} {t : Tok} {i : Int} (y : IsRs h a x t i) (e : ∀ o, h.get? a = some o → h'.get? a = some o) : IsRs h' a x t i := let ⟨o, ho, r⟩ := y; ⟨o, e _ ho, r⟩
section
variable {prog : Program} {w : World} {A : Around} {E : Value → Shared → Prop} {s : Shared} {x : Str} {t : Tok}
theorem IsRs.typeIs {a : Addr} {i : Int} (y : IsRs s.heap a x t i) : s.TypeIs (.ref a) "reversed" := let ⟨o, ho, hc, _⟩ := y; ⟨o, ho, hc⟩
theorem code_revS {Q₁ : Value → Shared → Prop} (hx : (x.length : Int) < 2 ^ 63)
    (h : Q₁ (.ref s.heap.objs.size) { s with heap := s.heap.push (rsObj x t ((x.length : Int) - 1)), toks := s.toks + 1 + 1 }) :
    codeAny (model prog w) A (.call (.builtin "reversed.__new__") ⟨[.type "reversed", .str x t], []⟩) (wants Q₁ E) s := by
  have hT : s.TypeIs (.str x t) "str" := typeIs_str s x t
  refine codeAny_of_tree ?_
  show wpAny _ A.in1 (do checkBuiltinCall "reversed.__new__" ⟨[.type "reversed", .str x t], []⟩; again (.builtin "reversed.__new__" ⟨[.type "reversed", .str x t], []⟩)) _ _ s
  refine wpAny_bind (wpAny_of_eq (F.newCall_reversed_1 _) (wpAny_pure ⟨plainId_quiet F.plain_reversed_new _, codeAny_builtin F.entry_reversed_new ?_⟩))
  rw [Around.under_plainId F.plain_reversed_new _]
  unfold Builtin.«reversed.__new__»
  refine wpAny_bind (wpAny_of_eq (newClass_reversed _) ?_)
  try dsimp only
  refine wpAny_bind (wpAny_of_eq (a := ()) (by first | rfl | kernel_rfl) ?_)
  try dsimp only
  refine wpAny_bind (wpAny_of_eq (a := ()) (by first | rfl | kernel_rfl) ?_)
  try dsimp only
  refine wpAny_bind (wpAny_specialOf hT norev_str ?_)
  try dsimp only
  refine wpAny_bind ?_
  wp_delta
  refine wpAny_bind (wpAny_isInstance (T := "str") (U := "dict") (b := false) hT PySem.F.sub_str_dict ?_)
  try dsimp only
  try rw [if_neg Bool.false_ne_true]
  try dsimp only
  refine wpAny_bind (wpAny_specialOf hT get_str_at ?_)
  try dsimp only
  try rw [if_pos (by decide +kernel)]
  refine wpAny_pure ?_
  try dsimp only
  try rw [if_neg (by decide)]
  try dsimp only
  refine wpAny_bind (PySem.P.len_str (by omega) ?_)
  refine wpAny_bind (wpAny_of_eq (a := some ((x.length : Nat) : Int)) rfl ?_)
  try dsimp only
  refine wpAny_bind ?_
  show wpAny _ _ (newObj (.type "reversed") (.fields #[.str x t, rawInt ((x.length : Int) - 1)])) _ _ _
  refine wpAny_newObj_type ?_
  exact wpAny_pure h
theorem call_revS {Q : Value → Shared → Prop} (hx : (x.length : Int) < 2 ^ 63)
    (h : Q (.ref s.heap.objs.size) { s with heap := s.heap.push (rsObj x t ((x.length : Int) - 1)), toks := s.toks + 1 + 1 }) : wpAny (model prog w) A (call (.type "reversed") [.str x t]) Q E s := by
  refine callType_codes (Q₁ := fun obj s₁ => s₁.TypeIs obj "reversed" ∧ Q obj s₁) RT.called_rt (F.typeCall_reversed_1 _) F.entry_object_init
    (code_revS (A := A.in1) hx ⟨⟨_, Heap.get?_push_size _ rfl, rfl⟩, h⟩) fun obj s₁ h₁ => ?_
  exact ⟨h₁.1, F.args_object_init_2 obj _, object_init_meets RT.called_rt.init.lookup RT.called_rt.made (by decide) prog w A.in1 _ s₁ ⟨h₁.1, rfl, h₁.2⟩⟩
theorem next_rs_item {it : Addr} {i c : Nat} {Q : Option Value → Shared → Prop} (hit : IsRs s.heap it x t (i : Int)) (hx : x.cps[i]? = some c) (hsz : x.length ≤ sizeLine)
    (hQ : ∀ h' tk, IsRs h' it x t ((i : Int) - 1) → Heap.SameBut it s.heap h' → Q (some (.str ⟨#[c]⟩ tk)) { s with heap := h', toks := s.toks + 1 + 1 }) : wpAny (model prog w) A (pyNext (.ref it)) Q E s := by
  obtain ⟨o, ho, hc, hd⟩ := id hit
  have hi : i < x.length := (Array.getElem?_eq_some_iff.mp hx).1
  have hT : s.TypeIs (.str x t) "str" := typeIs_str s x t
  rw [sizeLine_eq] at hsz
  unfold pyNext
  refine wpAny_bind (wpAny_attempt (wpAny_callSpecial?_slot (name := Str.ofString "__next__") hit.typeIs RT.slot_rt_next
    (wpAny_call_entry RT.slot_rt_next hit.typeIs RT.entry_rt_next ?_ (RT.args_rt_next _))))
  unfold Builtin.«reversed.__next__»
  refine wpAny_bind (wpAny_of_eq (a := (Value.ref it, [])) rfl ?_)
  try dsimp only
  refine wpAny_bind (wpAny_field ho hd (x := .str x t) rfl ?_)
  try dsimp only
  refine wpAny_bind (wpAny_field ho hd (x := rawInt (i : Int)) rfl ?_)
  show wpAny _ _ (if (i : Int) < 0 then _ else _) _ _ s
  rw [if_neg (by omega)]
  try dsimp only
  refine wpAny_bind (wpAny_specialOf hT get_str_at ?_)
  try dsimp only
  try rw [if_neg (by decide)]
  try dsimp only
  refine wpAny_bind (wpAny_mkInt ?_)
  refine wpAny_bind (wpAny_attempt ?_)
  have fin : seqIndex? (i : Int) x.length = some i := seqIndex_of (by omega) (by omega)
  refine PySem.P.getItem_str (s := { s with toks := s.toks + 1 }) (by simp only [Bool.or_eq_false_iff, decide_eq_false_iff_not]; omega) (by rw [fin]; exact hx) ?_
  try dsimp only
  refine wpAny_bind (wpAny_field (s := { s with toks := s.toks + 1 + 1 }) ho hd (x := rawInt (i : Int)) rfl ?_)
  try dsimp only
  refine wpAny_bind (wpAny_setField (s := { s with toks := s.toks + 1 + 1 }) ho hd (by simp) ?_)
  first
  | refine wpAny_pure ⟨_, rfl, wpAny_pure (hQ _ _ ?_ (Heap.SameBut.update ..))⟩
  | refine wpAny_bind (wpAny_pure (wpAny_pure ⟨_, rfl, wpAny_pure (hQ _ _ ?_ (Heap.SameBut.update ..))⟩))
  exact ⟨_, Heap.get?_update_self _ ho (Obj.isFreed_of_fields (Obj.data_mapFields hd _)), (Obj.cls_mapFields ..).trans hc, by
    rw [Obj.data_mapFields hd]; simp⟩
theorem next_rs_end {it : Addr} {Q : Option Value → Shared → Prop} (hh : A.handled = none) (hit : IsRs s.heap it x t (-1))
    (hQ : ∀ h', Heap.ExtBut it s.heap h' → Q none { s with heap := h' }) : wpAny (model prog w) A (pyNext (.ref it)) Q E s := by
  obtain ⟨o, ho, hc, hd⟩ := id hit
  unfold pyNext
  refine wpAny_bind (wpAny_attempt (wpAny_callSpecial?_slot (name := Str.ofString "__next__") hit.typeIs RT.slot_rt_next
    (wpAny_call_entry RT.slot_rt_next hit.typeIs RT.entry_rt_next ?_ (RT.args_rt_next _))))
  unfold Builtin.«reversed.__next__»
  refine wpAny_bind (wpAny_of_eq (a := (Value.ref it, [])) rfl ?_)
  try dsimp only
  refine wpAny_bind (wpAny_field ho hd (x := .str x t) rfl ?_)
  try dsimp only
  refine wpAny_bind (wpAny_field ho hd (x := rawInt (-1)) rfl ?_)
  show wpAny _ _ (if (-1 : Int) < 0 then _ else _) _ _ s
  rw [if_pos (by decide)]
  try dsimp only
  refine wpAny_bind (wpAny_rule ?_)
  refine wpAny_bind ?_
  wp_delta
  refine wpAny_bind (wpAny_setField ho hd (by simp) ?_)
  have ho2 := Heap.get?_update_self (Obj.mapFields (·.setIfInBounds 1 (rawInt (-1)))) ho (Obj.isFreed_of_fields (Obj.data_mapFields hd _))
  refine wpAny_setField (s := { s with heap := s.heap.update it (Obj.mapFields (·.setIfInBounds 1 (rawInt (-1)))) }) ho2 (Obj.data_mapFields hd _) (by simp) ?_
  try dsimp only
  first
  | show wpAny _ _ (newExc (.type "StopIteration") [] >>= _) _ _ _
  | (refine wpAny_bind ?_; show wpAny _ _ (newExc (.type "StopIteration") [] >>= _) _ _ _)
  | (refine wpAny_bind ?_; wp_delta; show wpAny _ _ (newExc (.type "StopIteration") [] >>= _) _ _ _)
  refine wpAny_bind ?_
  simp only [newExc, newTuple]
  refine wpAny_bind (wpAny_newObj_type ?_ (by size_fits))
  refine wpAny_bind (m := firstArgMember _ _) (wpAny_of_eq (a := Value.none) (by first | rfl | (simp only [firstArgMember]; rfl)) ?_)
  refine wpAny_newObj_type ?_ (by size_fits)
  simp only [raiseNew]
  refine wpAny_bind (wpAny_handled ?_)
  first | rw [show A.in1.handled = none from hh] | rw [hh]
  refine wpAny_bind (wpAny_pure (wpAny_throw ?_))
  refine wpAny_bind (wpAny_isInstance (T := "StopIteration") (b := true) ⟨_, Heap.get?_push_size _ rfl, rfl⟩ isSubtype_stop ?_)
  refine wpAny_pure (hQ _ ?_)
  refine ((?_ : Heap.ExtBut it s.heap _).push _).push _
  exact fun b ob hb e => (Heap.get?_update_other _ _ (Ne.symm hb)).trans ((Heap.get?_update_other _ _ (Ne.symm hb)).trans e)
theorem iter_rs {it : Addr} {i : Int} {Q : Value → Shared → Prop} (hit : IsRs s.heap it x t i) (h : Q (.ref it) s) : wpAny (model prog w) A (pyIter (.ref it)) Q E s := by
  refine wpAny_pyIter_slot hit.typeIs RT.slot_rt_iter (wpAny_call_entry RT.slot_rt_iter hit.typeIs RT.entry_rt_iter ?_ (RT.args_rt_iter _))
  show wpAny _ _ (PySem.ret (.ref it)) _ _ s
  exact wpAny_pure ⟨_, rfl, "reversed", _, hit.typeIs, RT.slot_rt_next.lookup, h⟩
end
/-- a text's signs from its end -/
def ItvS (x : Str) : It := ⟨fun i _ => i < x.cps.size, fun i H v H' => H' = H ∧ ∃ c, x.cps[x.cps.size - 1 - i]? = some c ∧ v = .str ⟨#[c]⟩, fun i _ => x.cps.size ≤ i⟩
theorem turn_rs {P : Program} {w : World} {K : PySem.W.Frag} {tg : Expr} (it : Addr) (x : Str) (t : Tok) (hz : x.length ≤ sizeLine) :
    Turn P w K tg (ItvS x) [it] it (fun i h => i ≤ x.cps.size ∧ IsRs h it x t ((x.cps.size : Int) - 1 - (i : Nat))) where
  mem := List.mem_singleton.mpr rfl
  obj := fun i h st b hb => by
    have e := List.mem_singleton.mp hb
    subst e
    obtain ⟨_, o, e, c, d⟩ := st
    exact ⟨o, e, fun v z => by rw [d] at z; cases z⟩
  keep := fun i h h' st k => ⟨st.1, st.2.at fun o e => k it (List.mem_singleton.mpr rfl) o e⟩
  item := by
    intro X hP hw hK hc i pins s σ H E I hf st hg
    subst hP hw hK
    have hin : i < x.cps.size := hg
    obtain ⟨f0, f1, f2, f3, f4, f5⟩ := hf it (List.mem_singleton.mpr rfl)
    obtain ⟨_, hit⟩ := st
    have e1 : (x.cps.size : Int) - 1 - ((i : Nat) : Int) = ((x.cps.size - 1 - i : Nat) : Int) := by omega
    rw [e1] at hit
    have hx : x.cps[x.cps.size - 1 - i]? = some (x.cps[x.cps.size - 1 - i]'(by omega)) := Array.getElem?_eq_getElem (by omega)
    refine next_rs_item hit hx hz fun h' tk st' sb => ?_
    have e2 : ((x.cps.size - 1 - i : Nat) : Int) - 1 = (x.cps.size : Int) - 1 - ((i + 1 : Nat) : Int) := by omega
    rw [e2] at st'
    have I1 : Inv X pins σ H { s with heap := h', toks := s.toks + 1 + 1 } := I.turned (t' := s.toks + 1 + 1) (fun b o hb e => (sb.2 b hb).trans e) f0 f1 f3 f4 f5
    obtain ⟨o, e, c, d⟩ := id st'
    exact ⟨_, rfl, go_of (s := { s with heap := h', toks := s.toks + 1 + 1 }) e c d (by decide) ⟨.str ⟨#[_]⟩, H, I1, ⟨tk, rfl⟩, ⟨rfl, _, hx, rfl⟩, ⟨hin, st'⟩, fun b hb => (hf b hb).1⟩⟩
  done := by
    intro X hP hw hK hc i pins s σ H E I hf st hg
    subst hP hw hK
    obtain ⟨f0, f1, f2, f3, f4, f5⟩ := hf it (List.mem_singleton.mpr rfl)
    obtain ⟨hin, hit⟩ := st
    have hge : x.cps.size ≤ i := hg
    have e1 : (x.cps.size : Int) - 1 - ((i : Nat) : Int) = -1 := by omega
    rw [e1] at hit
    exact next_rs_end (I.ok.hd hc) hit fun h' eb => ⟨rfl, I.turned (t' := s.toks) (fun b o hb e => eb b o hb e) f0 f1 f3 f4 f5⟩
  self := fun A i s Q E st h => iter_rs st.2 h
def iRevS (te : TE) : TI := fun σ H R => te σ H fun v H1 => ∃ x, v = .str x ∧ x.length ≤ sizeLine ∧ R (ItvS x) H1
section
variable {X : Cx} {tg : Expr}
theorem pi_revS {e : Expr} {te : TE} {p pos : Pos} (hg : Gl X "reversed") (hm : X.mg "reversed" = none) (he : PE X e te) (hs : starEach [e] X.env = (false, eval e X.env) :: starEach [] X.env := by rfl) : PI X tg (.Call (.Name "reversed" p) [e] [] pos) (iRevS te) := by
  refine ⟨fun pins s σ H R I h => ?_⟩
  refine Call_ (ld_blt I hg hm PyProof.Rows.boot_reversed (PyProof.Rows.callWith_type1 (args_cons (thn (he.run pins s σ H _ I h) fun u s1 ⟨v, H1, I1, r1, q1⟩ => args_nil ?_) hs) hs rfl))
  obtain ⟨x, ev, hx, q⟩ := q1
  subst ev
  obtain ⟨t, rfl⟩ := r1
  have hn := line63
  have e1 : ((x.length : Nat) : Int) - 1 = (x.cps.size : Int) - 1 - ((0 : Nat) : Int) := by show (x.cps.size : Int) - 1 = _; omega
  refine call_revS (by omega) (iter_rs (x := x) (t := t) (i := (x.length : Int) - 1) ⟨_, Heap.get?_push_size _ rfl, rfl, rfl⟩ ?_)
  refine pi_one (tk := s1.toks + 1 + 1) I1 _ (turn_rs _ x t hx) ⟨Nat.zero_le _, ?_⟩ q
  rw [← e1]
  exact ⟨_, Heap.get?_push_size _ rfl, rfl, rfl⟩
theorem rev_at {A : Type} {xs : List A} {i : Nat} {x : A} (h : xs.reverse[i]? = some x) : i < xs.length ∧ xs[xs.length - 1 - i]? = some x := by
  have hi : i < xs.length := by
    have := (List.getElem?_eq_some_iff.mp h).1
    rwa [List.length_reverse] at this
  rw [List.getElem?_reverse hi] at h
  exact ⟨hi, h⟩
theorem walks_revL {K : PySem.W.Frag} {a : Addr} {vs : List V} {ds : List D} {B0 : Hp} (hs : SqL K B0 a vs) (hr : Reps K B0 ds vs) : Walks K (Itv K a vs.length) B0 ds.reverse := fun G B H σ env i ex ok => by
  have hH : SqL K H a vs := ex_l (ex.trans ok.sub) hs
  have hl := hr.length
  refine ⟨fun d e => ?_, fun h => by show vs.length ≤ i; rw [List.length_reverse] at h; omega⟩
  obtain ⟨hi, e⟩ := rev_at e
  obtain ⟨v, q1, q2⟩ := hr.get e
  rw [← hl] at q1 hi
  refine ⟨⟨hi, vs, v, hH, q1⟩, fun x H' y => ?_⟩
  obtain ⟨rfl, y⟩ := y
  have e2 := y vs hH
  rw [q1] at e2
  cases e2
  exact ⟨B, ok, ok.self, Rep.mono ex _ _ q2⟩
theorem walks_revT {K : PySem.W.Frag} {a : Addr} {vs : List V} {ds : List D} {B0 : Hp} (hs : SqT K B0 a vs) (hr : Reps K B0 ds vs) : Walks K (RT.ItvT K a vs.length) B0 ds.reverse := fun G B H σ env i ex ok => by
  have hH : SqT K H a vs := ex_t (ex.trans ok.sub) hs
  have hl := hr.length
  refine ⟨fun d e => ?_, fun h => by show vs.length ≤ i; rw [List.length_reverse] at h; omega⟩
  obtain ⟨hi, e⟩ := rev_at e
  obtain ⟨v, q1, q2⟩ := hr.get e
  rw [← hl] at q1 hi
  refine ⟨⟨hi, vs, v, hH, q1⟩, fun x H' y => ?_⟩
  obtain ⟨rfl, y⟩ := y
  have e2 := y vs hH
  rw [q1] at e2
  cases e2
  exact ⟨B, ok, ok.self, Rep.mono ex _ _ q2⟩
theorem walks_revS {K : PySem.W.Frag} {s : List Nat} {B0 : Hp} : Walks K (ItvS (mkS s)) B0 (s.map fun c => D.str [c]).reverse := fun G B H σ env i ex ok => by
  have hsz : (mkS s).cps.size = s.length := mkS_len s
  refine ⟨fun d e => ?_, fun h => by show (mkS s).cps.size ≤ i; rw [List.length_reverse, List.length_map] at h; omega⟩
  obtain ⟨hi, e⟩ := rev_at e
  rw [List.length_map] at hi e
  rw [List.getElem?_map] at e
  cases q : s[s.length - 1 - i]? with
  | none => rw [q] at e; cases e
  | some c =>
    rw [q] at e
    cases e
    refine ⟨by show i < (mkS s).cps.size; omega, fun x H' y => ?_⟩
    obtain ⟨rfl, c', y1, y2⟩ := y
    have hc : (mkS s).cps[(mkS s).cps.size - 1 - i]? = s[s.length - 1 - i]? := by rw [hsz]; simp [mkS]
    rw [hc, q] at y1
    cases y1
    exact ⟨B, ok, ok.self, y2⟩
def iRevM (m : M D) : M (List D) := bnd m fun d => match d with
  | .str s => if lim s.length = true then ret (s.map fun c => D.str [c]).reverse else stuck
  | .lst ds => ret ds.reverse
  | .fls ds => ret ds.reverse
  | .tup ds => ret ds.reverse
  | _ => stuck
theorem pdi_rev {e : Expr} {m : M D} {p pos : Pos} (hm : X.mg "reversed" = none) (he : PD X e m) (hg : Gl X "reversed" := by rfl) (hs : starEach [e] X.env = (false, eval e X.env) :: starEach [] X.env := by rfl) :
    PDI X tg (.Call (.Name "reversed" p) [e] [] pos) (iRevM m) :=
  pi_mono (pi_or (RT.pi_revA hg hm he hs) (pi_revS hg hm he hs)) fun σ H R ⟨G, B, env, ds, env', ok, e, k⟩ => by
    obtain ⟨d, e1, q1, q2⟩ := bnd_some e
    cases d with
    | lst es =>
      cases ret_some q2
      exact .inl (tD_of ok q1 fun v B1 H1 ok1 _ r => by
        obtain ⟨a, vs, rfl, hs, hr⟩ := r
        exact ⟨a, vs, rfl, .inl ⟨SqL.of (ok1.sub _ _ hs), k _ B1 H1 ok1 (walks_revL (SqL.of hs) hr)⟩⟩)
    | fls es =>
      cases ret_some q2
      exact .inl (tD_of ok q1 fun v B1 H1 ok1 _ r => by
        obtain ⟨a, vs, rfl, hs, hr⟩ := r
        exact ⟨a, vs, rfl, .inl ⟨ex_l ok1.sub hs, k _ B1 H1 ok1 (walks_revL hs hr)⟩⟩)
    | tup es =>
      cases ret_some q2
      exact .inl (tD_of ok q1 fun v B1 H1 ok1 _ r => by
        obtain ⟨a, vs, rfl, hs, hr⟩ := r
        exact ⟨a, vs, rfl, .inr ⟨ex_t ok1.sub hs, k _ B1 H1 ok1 (walks_revT hs hr)⟩⟩)
    | str s =>
      have q2 : (if lim s.length = true then ret (s.map fun c => D.str [c]).reverse else stuck : M (List D)) e1 = some (ds, env') := q2
      split at q2
      · rename_i hl
        cases ret_some q2
        exact .inr (tD_of ok q1 fun v B1 H1 ok1 _ r => ⟨mkS s, r, by rw [mkS_len]; exact lim_ok hl, k _ B1 H1 ok1 walks_revS⟩)
      · cases q2
    | _ => cases q2
end
end Dv
/-! list(x), tuple(x), xs.reverse(), < of tuples of ints. -/
namespace Dv
open PySem PySem.Spec PyProof.Rows L2 Evl
section
variable {X : Cx}
theorem vals_at : ∀ (vs : List V) (us : List Value), vs.length = us.length → (∀ (j : Nat) (u : Value), us[j]? = some u → ∃ v, vs[j]? = some v ∧ RelV v u) → Vals vs us
  | [], [], _, _ => .nil
  | [], _ :: _, h, _ => by simp at h
  | _ :: _, [], h, _ => by simp at h
  | v :: vs, u :: us, h, k => by
    obtain ⟨v', e, r⟩ := k 0 u rfl
    cases e
    exact .cons r (vals_at vs us (by simpa using h) fun j w hj => k (j + 1) w (by simpa using hj))
/-- list(text) -/
theorem call_list_text : X.calm = true → CallR X (.type "list") (fun xs H Q => ∃ x : Str, xs = [.str x] ∧ x.length ≤ sizeLine ∧ ∀ l, H l = none → Q (.ref l) (upd H l (.lst (x.cps.toList.map fun c => V.str ⟨#[c]⟩)))) := by
  intro hc pins s σ H xs us Q I r h
  obtain ⟨x, rfl, hz, q⟩ := h
  obtain ⟨u, rfl, rx⟩ := vals1 r
  obtain ⟨t, rfl⟩ := rx
  refine PySem.call_list_str (I.ok.hd hc) x t (fun h' tk acc c' kp e hi => ?_) hz
  have hl : (x.cps.toList.map fun c => V.str ⟨#[c]⟩).length = x.cps.size := by rw [List.length_map]; rfl
  refine ⟨.ref s.heap.objs.size, _, I.laid (t' := tk) kp (Nat.le_refl _) (show ObjOk X.prog X.w _ h' _ (.lst (x.cps.toList.map fun c => V.str ⟨#[c]⟩)) from ⟨by rw [hl]; exact hz, acc.toList, c', ?_, by rw [Array.toArray_toList]; exact e⟩), rfl, q _ (I.hok.fresh (Nat.le_refl _))⟩
  refine vals_at _ _ (by rw [hl, Array.length_toList]; exact hi.1.symm) fun j u hj => ?_
  have hs := hi.2 j u (by rw [← Array.getElem?_toList]; exact hj)
  obtain ⟨c, k, hcx, rfl⟩ := hs
  refine ⟨.str ⟨#[c]⟩, ?_, k, rfl⟩
  rw [List.getElem?_map, Array.getElem?_toList, hcx]
  rfl
/-- a new list of the items -/
def eListOf (m : M D) : M D := bnd m fun d => match d with
  | .str s => if lim s.length = true then ret (.lst (s.map fun c => .str [c])) else stuck
  | .lst ds => ret (.lst ds)
  | .fls ds => ret (.lst ds)
  | .tup ds => ret (.lst ds)
  | _ => stuck
theorem pf_list {e : Expr} {m : M D} {p pos : Pos} (h : PD X e m) (hm : X.mg "list" = none) (hg : Gl X "list" := by rfl) (hc : X.calm = true := by rfl) (na : starEach [e] X.env = (false, eval e X.env) :: starEach [] X.env := by rfl) :
    PF X (.Call (.Name "list" p) [e] [] pos) (eListOf m) :=
  pe_mono (pe_or (pe_callTy call_list_of hg hm (by decide +kernel) (pa_cons h pa_nil na) (he := na)) (pe_callTy (call_list_text hc) hg hm (by decide +kernel) (pa_cons h pa_nil na) (he := na))) fun σ H Q ⟨G, B, env, d, env', ok, e, k⟩ => by
    obtain ⟨x, e1, q1, q2⟩ := bnd_some e
    cases x with
    | lst ds =>
      cases ret_some q2
      exact .inl (tD_of ok q1 fun v B1 H1 ok1 _ r => by
        obtain ⟨a, vs, rfl, hs, hr⟩ := r
        exact ⟨a, vs, rfl, .inl (SqL.of (ok1.sub _ _ hs)), fun p hp => k p B1 _ (ok1.tmp hp) (fresh_back ok1.sub hp) ⟨vs, upd_same, hr⟩ (ok1.live p hp) (ok1.notOwn hp)⟩)
    | fls ds =>
      cases ret_some q2
      exact .inl (tD_of ok q1 fun v B1 H1 ok1 _ r => by
        obtain ⟨a, vs, rfl, hs, hr⟩ := r
        exact ⟨a, vs, rfl, .inl (ex_l ok1.sub hs), fun p hp => k p B1 _ (ok1.tmp hp) (fresh_back ok1.sub hp) ⟨vs, upd_same, hr⟩ (ok1.live p hp) (ok1.notOwn hp)⟩)
    | tup ds =>
      cases ret_some q2
      exact .inl (tD_of ok q1 fun v B1 H1 ok1 _ r => by
        obtain ⟨a, vs, rfl, hs, hr⟩ := r
        exact ⟨a, vs, rfl, .inr (ex_t ok1.sub hs), fun p hp => k p B1 _ (ok1.tmp hp) (fresh_back ok1.sub hp) ⟨vs, upd_same, hr⟩ (ok1.live p hp) (ok1.notOwn hp)⟩)
    | str s =>
      have q2 : (if lim s.length = true then ret (.lst (s.map fun c => .str [c])) else stuck : M D) e1 = some (d, env') := q2
      split at q2
      · rename_i hl
        cases ret_some q2
        have hr : ∀ (B : Hp) (s : List Nat), Reps X.K B (s.map fun c => D.str [c]) (s.map fun c => V.str ⟨#[c]⟩) := by
          intro B s
          induction s with
          | nil => exact rfl
          | cons c s ih => exact ⟨_, _, rfl, rfl, ih⟩
        exact .inr (tD_of ok q1 fun v B1 H1 ok1 _ r => ⟨mkS s, by rw [show v = _ from r], by rw [mkS_len]; exact lim_ok hl, fun p hp => k p B1 _ (ok1.tmp hp) (fresh_back ok1.sub hp) ⟨_, upd_same, hr B1 s⟩ (ok1.live p hp) (ok1.notOwn hp)⟩)
      · cases q2
    | _ => cases q2
/-- tuple(x) -/
def eTupOf (m : M D) : M D := bnd m fun d => match d with
  | .lst ds => ret (.tup ds)
  | .fls ds => ret (.tup ds)
  | .tup ds => ret (.tup ds)
  | _ => stuck
theorem pd_tuple {e : Expr} {m : M D} {p pos : Pos} (h : PD X e m) (hm : X.mg "tuple" = none) (hg : Gl X "tuple" := by rfl) (na : starEach [e] X.env = (false, eval e X.env) :: starEach [] X.env := by rfl) :
    PD X (.Call (.Name "tuple" p) [e] [] pos) (eTupOf m) :=
  pe_mono (pe_callTy call_tuple_of hg hm (by decide +kernel) (pa_cons h pa_nil na) (he := na)) fun σ H Q ⟨G, B, env, d, env', ok, e, k⟩ => by
    obtain ⟨x, e1, q1, q2⟩ := bnd_some e
    cases x with
    | lst ds =>
      cases ret_some q2
      exact tD_of ok q1 fun v B1 H1 ok1 _ r => by
        obtain ⟨a, vs, rfl, hs, hr⟩ := r
        exact ⟨a, vs, rfl, .inl ⟨SqL.of (ok1.sub _ _ hs), fun p hp => k (.ref p) _ _ (ok1.lay hp) ⟨p, vs, rfl, SqT.of upd_same, Reps.mono (Ex.new (fresh_back ok1.sub hp)) _ _ hr⟩⟩⟩
    | fls ds =>
      cases ret_some q2
      exact tD_of ok q1 fun v B1 H1 ok1 _ r => by
        obtain ⟨a, vs, rfl, hs, hr⟩ := r
        exact ⟨a, vs, rfl, .inl ⟨ex_l ok1.sub hs, fun p hp => k (.ref p) _ _ (ok1.lay hp) ⟨p, vs, rfl, SqT.of upd_same, Reps.mono (Ex.new (fresh_back ok1.sub hp)) _ _ hr⟩⟩⟩
    | tup ds =>
      cases ret_some q2
      exact tD_of ok q1 fun v B1 H1 ok1 _ r => by
        obtain ⟨a, vs, rfl, hs, hr⟩ := r
        exact ⟨a, vs, rfl, .inr ⟨ex_t ok1.sub hs, k (.ref a) B1 H1 ok1 ⟨a, vs, rfl, hs, hr⟩⟩⟩
    | _ => cases q2
/-- xs.reverse() -/
def sRevI (i : Nat) : MS := fun e => match e[i]? with
  | some (.own p (.lst ds)) => some (.nx, e.set i (.own p (.lst ds.reverse)))
  | _ => none
theorem pds_reverse {i : Nat} {x : Str} {p1 pos apos cpos : Pos} (hx : PE X (.Name x p1) (tVar i)) (hs : swapsWith (.Call (.Attribute (.Name x p1) "reverse" apos) [] [] cpos) none pos.line X.env = pure false := by rfl)
    (hbase : attributeBase (.Name x p1) "reverse" X.env (eval (.Name x p1) X.env) = eval (.Name x p1) X.env := by rfl) (hline : (apos.endLine == cpos.line) = true := by rfl) :
    PDS X (.Expr (.Call (.Attribute (.Name x p1) "reverse" apos) [] [] cpos) pos) (sRevI i) :=
  ps_mono (ps_expr (pe_bm0 PySem.F.plainAttrs_list PySem.F.slot_list_reverse PySem.F.type_list_reverse mt_reverse hx hbase (hline := hline)) hs) fun Z σ H ⟨G, B, env, o, env', ok, e, k⟩ => by
    unfold sRevI at e
    split at e
    rotate_left
    · cases e
    rename_i p ds q0
    cases e
    obtain ⟨a, s1, s2, ⟨vs, s3, s4⟩, _⟩ := ok.own i _ _ q0
    exact ⟨.ref a, s1, .inl ⟨rfl, vs, SqL.of s3⟩, a, vs, rfl, rfl, s3, k σ B _ (ok.mut q0 s1 ⟨_, rfl, s4.reverse⟩)⟩
/-- < of tuples of ints -/
def ltTI : D → D → Option D
  | .tup xs, .tup ys => match intsOf xs with
    | some ns => match intsOf ys with
      | some ms => some (.bl (HT.lexLt ns ms))
      | none => none
    | none => none
  | _, _ => none
theorem opS_ltTI {k : Nat} (hr : Room k X.A) : OpS X (compareOp .Lt) ltTI := ⟨_, op_ltT (Nat.lt_of_succ_lt (hu_of hr)), fun B H x y d e z Q ex rx ry ez k => by
  unfold ltTI at ez
  split at ez
  rotate_left
  · cases ez
  rename_i xs ys
  split at ez
  rotate_left
  · cases ez
  rename_i ns hn
  split at ez
  rotate_left
  · cases ez
  rename_i ms hm
  cases ez
  obtain ⟨a, vs, rfl, hs, hv⟩ := rx
  obtain ⟨b, us, rfl, hs2, hu⟩ := ry
  have e1 := intsOf_ok hn
  have e2 := intsOf_ok hm
  subst e1 e2
  rw [hv.of_ints] at hs
  rw [hu.of_ints] at hs2
  exact ⟨a, b, ns, ms, rfl, rfl, ex_t ex hs, ex_t ex hs2, k _ fun _ => rfl⟩⟩
end
end Dv
/-! several names at once, some of which take a new list as their own. -/
namespace Dv
open PySem PySem.Spec PyProof.Rows L2 Evl
/-- the new ones among the values; they are unlike -/
def newsV : List Av → List V → List V
  | .new _ :: r, v :: t => v :: newsV r t
  | .val _ :: r, _ :: t => newsV r t
  | .lend _ :: r, _ :: t => newsV r t
  | _, _ => []
def DistN : List Av → List V → Prop
  | .new _ :: r, v :: t => v ∉ newsV r t ∧ DistN r t
  | .val _ :: r, _ :: t => DistN r t
  | .lend _ :: r, _ :: t => DistN r t
  | _, _ => True
theorem newsV_not {G : Ent} {a : Addr} {o : HO} (ho : G.H a = some o) : ∀ {avs : List Av} {vs : List V}, NewV G avs vs → V.ref a ∉ newsV avs vs
  | [], _, _, h => by cases h
  | x :: r, [], _, h => by cases x <;> simp [newsV] at h
  | .new d :: r, v :: t, hn, h => by
    rcases List.mem_cons.mp h with e | h
    · have := hn.1 a e.symm
      rw [ho] at this
      cases this
    · exact newsV_not ho hn.2 h
  | .val d :: r, v :: t, hn, h => newsV_not (avs := r) (vs := t) ho hn h
  | .lend d :: r, v :: t, hn, h => newsV_not (avs := r) (vs := t) ho hn h
def tAn (K : PySem.W.Frag) (m : M (List Av)) : TA := fun σ H Q => ∃ G B env d env', Ok K G B H σ env ∧ m env = some (d, env') ∧ ∀ vs B' H', Ok K G B' H' σ env' → ArgV K B' H' σ env' d vs → NewV G d vs → DistN d vs → Q vs H'
def PDN (X : Cx) (es : List Expr) (m : M (List Av)) : Prop := PA X es (tAn X.K m)
section
variable {X : Cx}
theorem pdn_nil : PDN X [] (ret []) := pa_mono pa_nil fun σ H Q ⟨G, B, env, d, env', ok, e, k⟩ => by
  cases ret_some e
  exact k [] B H ok rfl trivial trivial
theorem pdn_val {e : Expr} {es : List Expr} {m : M D} {r : M (List Av)} (h : PD X e m) (q : PDN X es r) (hs : starEach (e :: es) X.env = (false, eval e X.env) :: starEach es X.env := by rfl) : PDN X (e :: es) (rVal m r) :=
  pa_mono (pa_cons h q hs) fun σ H Q ⟨G, B, env, d, env', ok, e, k⟩ => by
    obtain ⟨x, e1, q1, q2⟩ := bnd_some e
    obtain ⟨xs, e2, q3, q4⟩ := bnd_some q2
    cases ret_some q4
    refine tD_of ok q1 fun v B1 H1 ok1 _ r1 => ⟨Ent.at B1 H1 σ _, B1, _, xs, _, ok1.self, q3, fun vs B2 H2 ok2' r2 n2 d2 => ?_⟩
    exact k (v :: vs) B2 H2 (ok1.comp ok2') ⟨v, vs, rfl, Rep.mono ok2'.mono _ _ r1, r2⟩ (newV_back ok1 n2) d2
theorem pdn_new {e : Expr} {es : List Expr} {m : M D} {r : M (List Av)} (h : PF X e m) (q : PDN X es r) (hs : starEach (e :: es) X.env = (false, eval e X.env) :: starEach es X.env := by rfl) : PDN X (e :: es) (rNew m r) :=
  pa_mono (pa_cons h q hs) fun σ H Q ⟨G, B, env, d, env', ok, e, k⟩ => by
    obtain ⟨x, e1, q1, q2⟩ := bnd_some e
    obtain ⟨xs, e2, q3, q4⟩ := bnd_some q2
    cases ret_some q4
    refine tF_of ok q1 fun a B1 H1 ok1 _ h1 h2 h3 h4 => ⟨Ent.at B1 H1 σ _, B1, _, xs, _, ok1.self, q3, fun vs B2 H2 ok2' r2 n2 d2 => ?_⟩
    obtain ⟨u, hu⟩ := h2.there
    obtain ⟨s1, s2, s3⟩ := ok2'.stay hu h1 h4
    refine k (.ref a :: vs) B2 H2 (ok1.comp ok2') ⟨a, vs, rfl, s2, ?_, s3, r2⟩ ⟨fun b e => by cases e; exact ok.live a h3, newV_back ok1 n2⟩ ⟨newsV_not (G := Ent.at B1 H1 σ _) hu n2, d2⟩
    rw [s1, ← hu]; exact h2.mono ok2'.mono
end
/-- what a name takes -/
def putAv (i : Nat) : Av → Lvs → Lvs
  | .val d, e => e.set i (.val d)
  | .new d, e => e.set i (.own false d)
  | .lend _, e => e
def OneV (K : PySem.W.Frag) (G : Ent) (B H : Hp) (σ : L2.St) (env : Lvs) : Av → V → Prop
  | .val d, v => Rep K B d v
  | .new d, v => ∃ a, v = .ref a ∧ B a = none ∧ OwnAt K B (H a) d ∧ ¬ IsOwn σ env a ∧ G.H a = none
  | .lend _, _ => False
def newOne : Av → V → List V
  | .new _, v => [v]
  | _, _ => []
section
variable {K : PySem.W.Frag} {G : Ent} {B H : Hp} {σ : L2.St} {env : Lvs}
theorem Ok.putAv (ok : Ok K G B H σ env) {i : Nat} {x : Av} {v : V} (h : OneV K G B H σ env x v) : Ok K G B H (σ.set i (some v)) (Dv.putAv i x env) := by
  cases x with
  | val d => exact ok.store h
  | new d =>
    obtain ⟨a, rfl, h1, h2, h3, h4⟩ := h
    exact ok.take h1 h2 h4 h3
  | lend j => exact h.elim
theorem OneV.keep {i : Nat} {x y : Av} {v u : V} (hx : OneV K G B H σ env x v) (h : OneV K G B H σ env y u) (hd : ∀ w ∈ newOne y u, w ∉ newOne x v) : OneV K G B H (σ.set i (some v)) (Dv.putAv i x env) y u := by
  cases y with
  | val d => exact h
  | lend j => exact h
  | new d =>
    obtain ⟨a, rfl, h1, h2, h3, h4⟩ := h
    refine ⟨a, rfl, h1, h2, fun ⟨j, p, e, q1, q2⟩ => ?_, h4⟩
    have hne : v = .ref a → newOne x v = [] := fun e => by
      cases x with
      | new d' => exact absurd (show V.ref a ∈ newOne (.new d') v from List.mem_singleton.mpr e.symm) (hd _ (List.mem_singleton.mpr rfl))
      | _ => rfl
    by_cases c : j = i
    · subst c
      have hj : j < σ.length := by
        rcases Nat.lt_or_ge j σ.length with z | z
        · exact z
        · rw [List.getElem?_eq_none (by rw [List.length_set]; omega)] at q2; cases q2
      rw [List.getElem?_set_self hj] at q2
      have e2 : v = .ref a := by cases q2; rfl
      cases x with
      | val d' =>
        obtain ⟨c1, _⟩ := get_set_own q1 (fun _ _ z => nomatch z)
        exact c1 rfl
      | new d' => cases hne e2
      | lend _ => exact hx.elim
    · rw [List.getElem?_set_ne (Ne.symm c)] at q2
      cases x with
      | val d' =>
        obtain ⟨_, q1⟩ := get_set_own q1 (fun _ _ z => nomatch z)
        exact h3 ⟨j, p, e, q1, q2⟩
      | new d' =>
        have q1 : (env.set i (.own false d'))[j]? = some (.own p e) := q1
        rw [List.getElem?_set_ne (Ne.symm c)] at q1
        exact h3 ⟨j, p, e, q1, q2⟩
      | lend _ => exact hx.elim
end
def okAv : Av → Bool
  | .lend _ => false
  | _ => true
theorem oneV_of {K : PySem.W.Frag} {G : Ent} {B H : Hp} {σ : L2.St} {env : Lvs} {x : Av} {r : List Av} {vs : List V} (hx : okAv x = true) (h : ArgV K B H σ env (x :: r) vs) (n : NewV G (x :: r) vs) (d : DistN (x :: r) vs) :
    ∃ v t, vs = v :: t ∧ OneV K G B H σ env x v ∧ ArgV K B H σ env r t ∧ NewV G r t ∧ DistN r t ∧ ∀ w ∈ newOne x v, w ∉ newsV r t := by
  cases x with
  | val d' =>
    obtain ⟨v, t, rfl, h1, h2⟩ := h
    exact ⟨v, t, rfl, h1, h2, n, d, fun w hw => nomatch hw⟩
  | new d' =>
    obtain ⟨a, t, rfl, h1, h2, h3, h4⟩ := h
    exact ⟨.ref a, t, rfl, ⟨a, rfl, h1, h2, h3, n.1 a rfl⟩, h4, n.2, d.2, fun w hw => by
      rw [List.mem_singleton.mp hw]
      exact d.1⟩
  | lend j => cases hx
theorem newsV_one {x : Av} {v : V} : newsV [x] [v] = newOne x v := by cases x <;> rfl
theorem newsV_two {x y : Av} {v u : V} : newsV [x, y] [v, u] = newOne x v ++ newOne y u := by cases x <;> cases y <;> rfl
section
variable {X : Cx}
def sPar2N (i j : Nat) (m : M (List Av)) : MS := fun e => match m e with
  | some ([x, y], e1) => if (okAv x && okAv y) = true then some (.nx, putAv j y (putAv i x e1)) else none
  | _ => none
def sPar3N (i j l : Nat) (m : M (List Av)) : MS := fun e => match m e with
  | some ([x, y, z], e1) => if (okAv x && okAv y && okAv z) = true then some (.nx, putAv i x (putAv j y (putAv l z e1))) else none
  | _ => none
theorem pds_par2N (i j : Nat) {x y : Str} {a b : Expr} {m : M (List Av)} {px py pt pos : Pos} {kt k2 pt2} (ha : PDN X [a, b] m) (hN : X.N.Nodup) (hi : X.N[i]? = some x := by rfl) (hj : X.N[j]? = some y := by rfl) (hij : i ≠ j := by decide)
    (hx : X.env.scope.names.lookup x = some .local := by rfl) (hy : X.env.scope.names.lookup y = some .local := by rfl) (hc : X.calm = true := by rfl)
    (hw : swappedStores [.Tuple [.Name x px, .Name y py] kt pt] (.Tuple [a, b] k2 pt2) X.env = pure (some [x, y]) := by rfl)
    (hs : swapsWithSole [.Tuple [.Name x px, .Name y py] kt pt] (.Tuple [a, b] k2 pt2) pos.line X.env = pure false := by rfl) : PDS X (.Assign [.Tuple [.Name x px, .Name y py] kt pt] (.Tuple [a, b] k2 pt2) pos) (sPar2N i j m) :=
  ps_mono (ps_par hc hN hi hj hij hx hy ha hw hs) fun Z σ H ⟨G, B, env, o, env', ok, e, k⟩ => by
    unfold sPar2N at e
    split at e
    rotate_left
    · cases e
    rename_i u1 u2 e1 q1
    split at e
    rotate_left
    · cases e
    rename_i hk
    cases e
    rw [Bool.and_eq_true] at hk
    refine ⟨Ent.at B H σ env, B, env, _, e1, ok.self, q1, fun vs B1 H1 ok1' r n d => ?_⟩
    obtain ⟨v, t, rfl, o1, r, n, d, d1⟩ := oneV_of hk.1 r n d
    obtain ⟨v2, t2, rfl, o2, r, n, d, d2⟩ := oneV_of hk.2 r n d
    cases r
    rw [newsV_one] at d1
    exact ⟨v, v2, rfl, k _ B1 H1 (ok.comp ((ok1'.putAv o1).putAv (o1.keep o2 fun w h1 h2 => d1 w h2 h1)))⟩
theorem pds_par3N (i j l : Nat) {x y z : Str} {a b c : Expr} {m : M (List Av)} {px py pz pt pos : Pos} {kt k2 pt2} (ha : PDN X [a, b, c] m) (hN : X.N.Nodup) (hi : X.N[i]? = some x := by rfl) (hj : X.N[j]? = some y := by rfl) (hl : X.N[l]? = some z := by rfl)
    (hx : X.env.scope.names.lookup x = some .local := by rfl) (hy : X.env.scope.names.lookup y = some .local := by rfl) (hz : X.env.scope.names.lookup z = some .local := by rfl) (hc : X.calm = true := by rfl)
    (hw : swappedStores [.Tuple [.Name x px, .Name y py, .Name z pz] kt pt] (.Tuple [a, b, c] k2 pt2) X.env = pure (some [x, y, z]) := by rfl)
    (hs : swapsWithSole [.Tuple [.Name x px, .Name y py, .Name z pz] kt pt] (.Tuple [a, b, c] k2 pt2) pos.line X.env = pure false := by rfl) :
    PDS X (.Assign [.Tuple [.Name x px, .Name y py, .Name z pz] kt pt] (.Tuple [a, b, c] k2 pt2) pos) (sPar3N i j l m) :=
  ps_mono (ps_par3 hc hN hi hj hl hx hy hz ha hw hs) fun Z σ H ⟨G, B, env, o, env', ok, e, k⟩ => by
    unfold sPar3N at e
    split at e
    rotate_left
    · cases e
    rename_i u1 u2 u3 e1 q1
    split at e
    rotate_left
    · cases e
    rename_i hk
    cases e
    rw [Bool.and_eq_true, Bool.and_eq_true] at hk
    refine ⟨Ent.at B H σ env, B, env, _, e1, ok.self, q1, fun vs B1 H1 ok1' r n d => ?_⟩
    obtain ⟨v, t, rfl, o1, r, n, d, d1⟩ := oneV_of hk.1.1 r n d
    obtain ⟨v2, t2, rfl, o2, r, n, d, d2⟩ := oneV_of hk.1.2 r n d
    obtain ⟨v3, t3, rfl, o3, r, n, d, d3⟩ := oneV_of hk.2 r n d
    cases r
    rw [newsV_one] at d2
    rw [newsV_two] at d1
    have c2 := o3.keep (i := l) o2 fun w h1 h2 => d2 w h1 h2
    have c1 := o3.keep (i := l) o1 fun w h1 h2 => d1 w h1 (List.mem_append_right _ h2)
    exact ⟨v, v2, v3, rfl, k _ B1 H1 (ok.comp (((ok1'.putAv o3).putAv c2).putAv (c2.keep c1 fun w h1 h2 => d1 w h1 (List.mem_append_left _ h2))))⟩
/-! by way of a tuple: where a name is read by a comprehension -/
def Facts (K : PySem.W.Frag) (G : Ent) (B H : Hp) (σ : L2.St) (env : Lvs) : List Av → List V → Prop
  | [], [] => True
  | x :: r, v :: t => OneV K G B H σ env x v ∧ (∀ w ∈ newOne x v, w ∉ newsV r t) ∧ Facts K G B H σ env r t
  | _, _ => False
theorem facts_of {K : PySem.W.Frag} {G : Ent} {B H : Hp} {σ : L2.St} {env : Lvs} : ∀ {avs : List Av} {vs : List V}, avs.all okAv = true → ArgV K B H σ env avs vs → NewV G avs vs → DistN avs vs → Facts K G B H σ env avs vs ∧ vs.length = avs.length
  | [], vs, _, h, _, _ => by cases h; exact ⟨trivial, rfl⟩
  | x :: r, vs, hk, h, n, d => by
    rw [List.all_cons, Bool.and_eq_true] at hk
    obtain ⟨v, t, rfl, o, h, n, d, d1⟩ := oneV_of hk.1 h n d
    obtain ⟨f, l⟩ := facts_of hk.2 h n d
    exact ⟨⟨o, d1, f⟩, congrArg (· + 1) l⟩
theorem OneV.tmp {K : PySem.W.Frag} {G : Ent} {B H : Hp} {σ : L2.St} {env : Lvs} {x : Av} {v : V} {p : Addr} {o : HO} (hp : H p = none) (h : OneV K G B H σ env x v) : OneV K G B (upd H p o) σ env x v := by
  cases x with
  | val d => exact h
  | lend j => exact h
  | new d =>
    obtain ⟨a, rfl, h1, h2, h3, h4⟩ := h
    obtain ⟨u, hu⟩ := h2.there
    have hne : a ≠ p := fun e => by rw [e, hp] at hu; cases hu
    exact ⟨a, rfl, h1, by rw [upd_ne hne]; exact h2, h3, h4⟩
theorem Facts.tmp {K : PySem.W.Frag} {G : Ent} {B H : Hp} {σ : L2.St} {env : Lvs} {p : Addr} {o : HO} (hp : H p = none) : ∀ {avs : List Av} {vs : List V}, Facts K G B H σ env avs vs → Facts K G B (upd H p o) σ env avs vs
  | [], [], h => h
  | _ :: _, _ :: _, ⟨a, b, c⟩ => ⟨a.tmp hp, b, Facts.tmp hp c⟩
  | [], _ :: _, h => h
  | _ :: _, [], h => h
theorem newOne_news {y : Av} {u : V} {r : List Av} {t : List V} : newsV (y :: r) (u :: t) = newOne y u ++ newsV r t := by cases y <;> rfl
theorem Facts.keep {K : PySem.W.Frag} {G : Ent} {B H : Hp} {σ : L2.St} {env : Lvs} {i : Nat} {x : Av} {v : V} (hx : OneV K G B H σ env x v) : ∀ {avs : List Av} {vs : List V}, (∀ w ∈ newOne x v, w ∉ newsV avs vs) → Facts K G B H σ env avs vs → Facts K G B H (σ.set i (some v)) (Dv.putAv i x env) avs vs
  | [], [], _, h => h
  | y :: r, u :: t, d, ⟨a, b, c⟩ => by
    rw [newOne_news] at d
    exact ⟨hx.keep a fun w h1 h2 => d w h2 (List.mem_append_left _ h1), b, Facts.keep hx (fun w hw h => d w hw (List.mem_append_right _ h)) c⟩
  | [], _ :: _, _, h => h
  | _ :: _, [], _, h => h
def putAll : List Nat → List Av → Lvs → Lvs
  | i :: is, x :: avs, e => putAll is avs (putAv i x e)
  | _, _, e => e
def tGsN (K : PySem.W.Frag) (is : List Nat) : TGs := fun us σ H Q => ∃ G B env avs, Ok K G B H σ env ∧ Facts K G B H σ env avs us ∧ is.length = avs.length ∧ ∀ σ' B' H', Ok K G B' H' σ' (putAll is avs env) → Q σ' H'
def PDGN (X : Cx) (t : List Expr) (is : List Nat) : Prop := PGs X t (tGsN X.K is)
theorem pdgn_nil : PDGN X [] [] := pgs_mono pgs_nil fun us σ H Q ⟨G, B, env, avs, ok, f, l, k⟩ => by
  cases avs with
  | nil =>
    cases us with
    | nil => exact ⟨rfl, k σ B H ok⟩
    | cons _ _ => exact f.elim
  | cons _ _ => cases l
theorem pdgn_cons (i : Nat) {is : List Nat} {x : Str} {pos : Pos} {es : List Expr} (h : PDGN X es is) (hN : X.N.Nodup) (hi : X.N[i]? = some x := by rfl) (hx : Loc X.env.scope x := by first | exact Or.inl rfl | exact Or.inr rfl)
    (hs : (assignEach (.Name x pos :: es) X.env).map (·.2) = assign (.Name x pos) X.env :: (assignEach es X.env).map (·.2) := by rfl)
    (hf : X.fn x = true ∨ X.env.scope.names.lookup x = some .local := by first | exact .inl rfl | exact .inr rfl) : PDGN X (.Name x pos :: es) (i :: is) :=
  pgs_mono (pgs_cons (pg_name hN hi hx hf) h hs) fun us σ H Q ⟨G, B, env, avs, ok, f, l, k⟩ => by
    cases avs with
    | nil => cases l
    | cons y avs =>
      cases us with
      | nil => exact f.elim
      | cons v t =>
        obtain ⟨o, d, f⟩ := f
        exact ⟨v, t, rfl, G, B, Dv.putAv i y env, avs, ok.putAv o, f.keep o d, Nat.succ.inj l, k⟩
def sTupN (is : List Nat) (m : M (List Av)) : MS := fun e => match m e with
  | some (avs, e1) => if (avs.all okAv && decide (is.length = avs.length) && lim avs.length) = true then some (.nx, putAll is avs e1) else none
  | none => none
theorem pds_tupN {is : List Nat} {ns es : List Expr} {m : M (List Av)} {kt k2 : Nat} {pt pt2 pos : Pos} (ha : PDN X es m) (hg : PDGN X ns is) (hc : X.calm = true := by rfl) (hs : swapsWithSole [.Tuple ns kt pt] (.Tuple es k2 pt2) pos.line X.env = pure false := by rfl) (hw : swappedStores [.Tuple ns kt pt] (.Tuple es k2 pt2) X.env = pure none := by rfl)
    (h1 : (assignEach [.Tuple ns kt pt] X.env).map (·.2) = [assign (.Tuple ns kt pt) X.env] := by rfl) (hn : (assignEach ns X.env).length = is.length := by rfl) (hst : (assignEach ns X.env).findIdx? (·.1) = none := by rfl) : PDS X (.Assign [.Tuple ns kt pt] (.Tuple es k2 pt2) pos) (sTupN is m) :=
  ps_mono (ps_asg (pe_tup ha) (pg_tup hc hg hn hst) hs hw h1) fun Z σ H ⟨G, B, env, o, env', ok, e, k⟩ => by
    unfold sTupN at e
    split at e
    rotate_left
    · cases e
    rename_i avs e1 q1
    split at e
    rotate_left
    · cases e
    rename_i hk
    cases e
    rw [Bool.and_eq_true, Bool.and_eq_true] at hk
    refine ⟨Ent.at B H σ env, B, env, avs, e1, ok.self, q1, fun vs B1 H1 ok1' r n d => ?_⟩
    obtain ⟨f, l⟩ := facts_of hk.1.1 r n d
    refine ⟨by rw [l]; exact lim_ok hk.2, fun p hp => ⟨p, vs, rfl, SqT.of upd_same, ?_, Ent.at B H σ env, B1, e1, avs, ok1'.tmp hp, f.tmp hp, of_decide_eq_true hk.1.2, fun σ' B' H' ok' => k σ' B' H' (ok.comp ok')⟩⟩
    rw [l]
    exact (of_decide_eq_true hk.1.2).symm
end
end Dv
/-! sorted(list of tuples of ints), of any length. -/
namespace Dv
open PySem PySem.Spec PyProof.Rows L2 Evl
/-! ### the order -/
theorem lex_asym : ∀ x y : List Int, HT.lexLt x y = true → HT.lexLt y x = false
  | [], [], _ => rfl
  | [], _ :: _, _ => rfl
  | _ :: _, [], h => by cases h
  | x :: xs, y :: ys, h => by
    rw [HT.lexLt_cons] at h ⊢
    by_cases e : x = y
    · rw [if_pos e] at h
      rw [if_pos e.symm]
      exact lex_asym xs ys h
    · rw [if_neg e] at h
      rw [if_neg (Ne.symm e)]
      have := of_decide_eq_true h
      exact decide_eq_false (by omega)
theorem lex_ntr : ∀ x y z : List Int, HT.lexLt y x = false → HT.lexLt z y = false → HT.lexLt z x = false
  | [], [], z, _, h => h
  | [], _ :: _, [], _, _ => rfl
  | [], _ :: _, _ :: _, _, _ => rfl
  | _ :: _, [], _, h, _ => by cases h
  | _ :: _, _ :: _, [], _, h => by cases h
  | x :: xs, y :: ys, z :: zs, h1, h2 => by
    rw [HT.lexLt_cons] at h1 h2 ⊢
    by_cases e : z = x
    · rw [if_pos e]
      by_cases e1 : y = x
      · rw [if_pos e1] at h1
        rw [if_pos (e.trans e1.symm)] at h2
        exact lex_ntr xs ys zs h1 h2
      · rw [if_neg e1] at h1
        rw [if_neg (fun q => e1 (q.symm.trans e))] at h2
        have a := of_decide_eq_false h1
        have b := of_decide_eq_false h2
        omega
    · rw [if_neg e]
      refine decide_eq_false fun q => ?_
      by_cases e1 : y = x
      · rw [if_neg (fun p => e (p.trans e1))] at h2
        have b := of_decide_eq_false h2
        omega
      · rw [if_neg e1] at h1
        have a := of_decide_eq_false h1
        by_cases e2 : z = y
        · omega
        · rw [if_neg e2] at h2
          have b := of_decide_eq_false h2
          omega
theorem lex_tot : ∀ x y : List Int, HT.lexLt x y = false → HT.lexLt y x = false → x = y
  | [], [], _, _ => rfl
  | [], _ :: _, h, _ => by cases h
  | _ :: _, [], _, h => by cases h
  | x :: xs, y :: ys, h1, h2 => by
    rw [HT.lexLt_cons] at h1 h2
    by_cases e : x = y
    · rw [if_pos e] at h1
      rw [if_pos e.symm] at h2
      rw [e, lex_tot xs ys h1 h2]
    · rw [if_neg e] at h1
      rw [if_neg (Ne.symm e)] at h2
      have a := of_decide_eq_false h1
      have b := of_decide_eq_false h2
      omega
/-! ### the one sorted list -/
def SrtK (l : List (List Int)) : Prop := l.Pairwise fun x y => HT.lexLt y x = false
def insK (x : List Int) : List (List Int) → List (List Int)
  | [] => [x]
  | y :: l => if HT.lexLt y x = true then y :: insK x l else x :: y :: l
def sortK : List (List Int) → List (List Int)
  | [] => []
  | x :: l => insK x (sortK l)
theorem insK_perm (x : List Int) : ∀ l, (insK x l).Perm (x :: l)
  | [] => List.Perm.refl _
  | y :: l => by
    unfold insK
    split
    · exact ((insK_perm x l).cons y).trans (List.Perm.swap x y l)
    · exact List.Perm.refl _
theorem insK_srt (x : List Int) : ∀ l, SrtK l → SrtK (insK x l)
  | [], _ => List.pairwise_singleton _ _
  | y :: l, h => by
    unfold insK
    obtain ⟨h1, h2⟩ := List.pairwise_cons.mp h
    split
    · rename_i c
      refine List.pairwise_cons.mpr ⟨fun z hz => ?_, insK_srt x l h2⟩
      rcases List.mem_cons.mp ((insK_perm x l).mem_iff.mp hz) with e | hz
      · rw [e]
        exact lex_asym _ _ c
      · exact h1 z hz
    · rename_i c
      have c' : HT.lexLt y x = false := by cases q : HT.lexLt y x with | true => exact absurd q c | false => rfl
      refine List.pairwise_cons.mpr ⟨fun z hz => ?_, h⟩
      rcases List.mem_cons.mp hz with e | hz
      · rw [e]; exact c'
      · exact lex_ntr x y z c' (h1 z hz)
theorem sortK_perm : ∀ l, (sortK l).Perm l
  | [] => List.Perm.refl _
  | x :: l => (insK_perm x _).trans ((sortK_perm l).cons x)
theorem sortK_srt : ∀ l, SrtK (sortK l)
  | [] => List.Pairwise.nil
  | x :: l => insK_srt x _ (sortK_srt l)
theorem srtK_uniq : ∀ {l m : List (List Int)}, SrtK l → SrtK m → l.Perm m → l = m
  | [], m, _, _, h => (List.Perm.eq_nil h.symm).symm
  | x :: l, [], _, _, h => absurd h.length_eq (by simp)
  | x :: l, y :: m, hl, hm, h => by
    obtain ⟨a1, a2⟩ := List.pairwise_cons.mp hl
    obtain ⟨b1, b2⟩ := List.pairwise_cons.mp hm
    have e : x = y := by
      rcases List.mem_cons.mp (h.mem_iff.mp List.mem_cons_self) with e | hx
      · exact e
      · rcases List.mem_cons.mp (h.mem_iff.mpr List.mem_cons_self) with e | hy
        · exact e.symm
        · exact lex_tot x y (b1 x hx) (a1 y hy)
    subst e
    rw [srtK_uniq a2 b2 h.cons_inv]
theorem sortK_of {l m : List (List Int)} (h : SrtK m) (p : m.Perm l) : m = sortK l := srtK_uniq h (sortK_srt l) (p.trans (sortK_perm l).symm)
/-! ### at the heap -/
def ivs (u : List Value) : List Int := u.map SrtO.iv
/-- the ints of a tuple -/
def kvH (h : Heap) : Value → List Int
  | .ref a => match h.get? a with
    | some o => match o.data with
      | .seq xs _ => ivs xs.toList
      | _ => []
    | none => []
  | _ => []
def IsTI (h : Heap) (v : Value) (ns : List Int) : Prop := ∃ a o its n, v = .ref a ∧ h.get? a = some o ∧ o.cls = .type "tuple" ∧ o.data = .seq its n ∧ IntsAre its.toList ns
theorem IsTI.kv {h : Heap} {v : Value} {ns : List Int} (q : IsTI h v ns) : kvH h v = ns := by
  obtain ⟨a, o, its, n, rfl, ho, hc, hd, hi⟩ := q
  unfold kvH
  simp only [ho, hd]
  exact SrtO.iv_ints hi
theorem IsTI.keeps {h h' : Heap} {v : Value} {ns : List Int} (p : IsTI h v ns) (k : ∀ b o, h.get? b = some o → o.cls = .type "tuple" → h'.get? b = some o) : IsTI h' v ns := by
  obtain ⟨a, o, its, n, e, ho, hc, hd, hi⟩ := p
  exact ⟨a, o, its, n, e, k _ _ ho hc, hc, hd, hi⟩
section
variable {prog : Program} {w : World} {A : Around} {E : Value → Shared → Prop} {s : Shared}
theorem lexI {b fin : Bool} {Q : Bool → Shared → Prop} : ∀ (ps qs : List Value) (i : Nat) (ns ms : List Int),
    IntsAre ps ns → IntsAre qs ms → fin = decide (ps.length < qs.length) → Q (HT.lexLt ns ms) s → PySem.W.KatLex prog w A b fin Q (ps.zip qs) i s
  | [], [], i, _, _, .nil, .nil, hf, h => by
    subst hf
    exact PySem.W.kat_nil h
  | [], _ :: qs, i, _, _, .nil, .cons m t r, hf, h => by
    have e : fin = true := by rw [hf]; exact decide_eq_true (Nat.succ_pos _)
    subst e
    exact PySem.W.kat_nil h
  | _ :: ps, [], i, _, _, .cons m t r, .nil, hf, h => by
    have e : fin = false := by rw [hf]; exact decide_eq_false (Nat.not_lt_zero _)
    subst e
    exact PySem.W.kat_nil h
  | _ :: ps, _ :: qs, i, _, _, .cons n t (ns := ns) r, .cons m u (ns := ms) r2, hf, h => by
    have hf' : fin = decide (ps.length < qs.length) := by
      rw [hf]; simp only [List.length_cons, Nat.add_lt_add_iff_right]
    refine PySem.W.kat_cons (SeqAt.EqAt.int_int n t m u prog w _ _ ?_)
    refine PySem.W.kat_go (fun e => ?_) (fun e => ?_)
    · have e : n = m := by simpa using e
      subst e
      rw [HT.lexLt_cons, if_pos rfl] at h
      exact PySem.W.kat_yes (lexI ps qs (i + 1) ns ms r r2 hf' h)
    · have e : ¬ n = m := by simpa using e
      rw [HT.lexLt_cons, if_neg e] at h
      exact PySem.W.kat_no (oneLt_any_int h)
theorem tupI_cmp {vs : List Value} {k : Value → List Int} (hp : ∀ v ∈ vs, IsTI s.heap v (k v)) : SrtO.Cmp prog w A s (tuples' true) (fun p => p.1 ∈ vs) (SrtO.lt2 fun v u => HT.lexLt (k v) (k u)) := by
  intro p q hm hm'
  have h1 := hp _ hm
  have h2 := hp _ hm'
  show wpAny (model prog w) A (keyLt' (tuples' true) p.1 q.1) (fun r s' => s' = s ∧ r = HT.lexLt (k p.1) (k q.1)) (fun _ _ => False) s
  generalize k p.1 = x at h1 ⊢
  generalize k q.1 = y at h2 ⊢
  obtain ⟨a, o, its, n, e, ho, hc, hd, hi⟩ := h1
  obtain ⟨a', o', its', n', e', ho', hc', hd', hi'⟩ := h2
  rw [e, e']
  exact PySem.W.kat_lt ho hd ho' hd' (lexI _ _ 0 x y hi hi' (by rw [Array.length_toList, Array.length_toList]) ⟨rfl, rfl⟩)
theorem swo_kv (k : Value → List Int) : SrtO.Swo fun v u => HT.lexLt (k v) (k u) := ⟨fun x y h => lex_asym _ _ h, fun x y z h1 h2 => lex_ntr _ _ _ h1 h2⟩
theorem firstsI {h : Heap} {k : Value → List Int} : ∀ {vs : List Value}, (∀ v ∈ vs, IsTI h v (k v) ∧ k v ≠ []) → ∃ fs, PySem.W.KatTups h vs fs ∧ fs.length = vs.length ∧ ∀ f ∈ fs, ∃ x t, f = Value.int x t
  | [], _ => ⟨[], PySem.W.KatTups.nil, rfl, fun f hf => absurd hf (by simp)⟩
  | v :: vs, hp => by
    obtain ⟨fs, h1, h2, h3⟩ := firstsI fun u hu => hp u (List.mem_cons_of_mem _ hu)
    obtain ⟨⟨a, o, its, n, e, ho, hc, hd, hi⟩, hne⟩ := hp v List.mem_cons_self
    obtain ⟨x, t, hx⟩ : ∃ x t, its[0]? = some (Value.int x t) := by
      rw [← Array.getElem?_toList]
      revert hi
      generalize its.toList = l
      generalize k v = ns at hne
      intro hi
      cases hi with
      | nil => exact absurd rfl hne
      | cons n t r => exact ⟨n, t, rfl⟩
    subst e
    refine ⟨_ :: fs, PySem.W.KatTups.cons ho hc hd hx h1, by rw [List.length_cons, List.length_cons, h2], fun f hf => ?_⟩
    rcases List.mem_cons.mp hf with q | q
    · exact ⟨x, t, q⟩
    · exact h3 f q
theorem tupI_sortable {a : Addr} {vs : List Value} {k : Value → List Int} (h0 : 0 < vs.length) (hp : ∀ v ∈ vs, IsTI s.heap v (k v) ∧ k v ≠ []) (ha : ∀ o, s.heap.get? a = some o → o.cls ≠ .type "tuple") : SrtO.SortableO prog w A s a vs fun v u => HT.lexLt (k v) (k u) := by
  intro h' keep
  have hp' : ∀ v ∈ vs, IsTI h' v (k v) ∧ k v ≠ [] := fun v hm => ⟨(hp v hm).1.keeps fun b o e c => keep b o (fun z => by subst z; exact ha o e c) e, (hp v hm).2⟩
  obtain ⟨fs, h1, h2, h3⟩ := firstsI hp'
  refine ⟨tuples' true, fun Q E hq => ?_, tupI_cmp fun v hm => (hp' v hm).1⟩
  refine PySem.W.kat_kind (T := .type "int") h1 (by omega) (fun f hm => ?_) (by rfl) ?_
  · obtain ⟨x, t, rfl⟩ := h3 f hm
    exact PySem.W.Looks.now
  · have e : (Value.type "int" != Value.type "tuple") = true := by first | decide +kernel | rfl | decide
    rw [e]
    exact hq
theorem sorted_tupI {l : Addr} {vs : List Value} {k : Value → List Int} {Q : Value → Shared → Prop} (hl : s.heap.IsList l vs.toArray) (hz : vs.length ≤ sizeLine) (hp : ∀ v ∈ vs, IsTI s.heap v (k v)) (hne : 2 ≤ vs.length → ∀ v ∈ vs, k v ≠ [])
    (h : ∀ (h' : Heap) (d : Addr) (out : List Value), SrtO.Srtd (fun v u => HT.lexLt (k v) (k u)) out → SrtO.Stb (fun v u => HT.lexLt (k v) (k u)) out vs → (∀ b o, s.heap.get? b = some o → h'.get? b = some o) → s.heap.objs.size ≤ d → (∃ n, h'.get? d = some (seqObj "list" out.toArray n)) → Q (.ref d) { s with heap := h' }) :
    wpAny (model prog w) A (call (.builtin "sorted") [.ref l]) Q E s := by
  refine SrtO.sorted_ord (swo_kv k) hl hz (fun h2 h₁ a ha kk => ?_) fun out hs hb => ?_
  · refine tupI_sortable (s := { s with heap := h₁ }) (by omega) (fun v hm => ⟨(hp v hm).keeps fun b o e _ => (kk b o e).2, hne h2 v hm⟩) fun o e => ?_
    have e' : some o = some (seqObj "list" vs.toArray 0) := e.symm.trans ha
    cases e'
    intro c
    exact absurd (Value.type.inj c) (by decide)
  · exact h _ _ out hs hb (fun b o e => sortedAll_old e) (Nat.le_succ _) (sortedAll_at s.heap vs out.toArray)
end
/-! ### the rule -/
def tupD (ns : List Int) : D := .tup (ns.map .int)
def rSortTT (K : PySem.W.Frag) : List V → Hp → VK → Prop := fun vs H Q => ∃ (a : Addr) (us : List V) (ks : List (List Int)) (B : Hp), vs = [V.ref a] ∧ SqL K H a us ∧ Ex B H ∧ Reps K B (ks.map tupD) us ∧ (2 ≤ ks.length → ∀ k ∈ ks, k ≠ []) ∧
  ∀ ys p, Reps K B ((sortK ks).map tupD) ys → H p = none → Q (.ref p) (upd H p (.lst ys))
section
variable {X : Cx}
theorem reps_refs {K : PySem.W.Frag} {B : Hp} : ∀ {ks : List (List Int)} {us : List V}, Reps K B (ks.map tupD) us → ∀ u ∈ us, ∃ t, u = V.ref t
  | [], _, h, u, hu => by cases h; exact absurd hu (by simp)
  | k :: ks, _, h, u, hu => by
    obtain ⟨v, r, rfl, ⟨a, vs, rfl, _⟩, h3⟩ := h
    rcases List.mem_cons.mp hu with e | hu
    · exact ⟨a, e⟩
    · exact reps_refs h3 u hu
theorem cr_sortedTT : CallR X (.builtin "sorted") (rSortTT X.K) := by
  intro pins s σ H vs us Q I r h
  obtain ⟨a, xs, ks, B, rfl, hs, hB, hr, hne, q⟩ := h
  obtain ⟨its, rv, hl, hz⟩ := I.list hs
  obtain ⟨u, rfl, ru⟩ := vals1 r
  obtain rfl : u = Value.ref a := ru
  obtain ⟨e1, e2⟩ := refs_back rv (reps_refs hr)
  -- each item
  have key : ∀ {ks : List (List Int)} {xs : List V} {its : List Value}, xs = its.map backV → (∀ u ∈ its, ∃ a, u = Value.ref a) → Reps X.K B (ks.map tupD) xs →
      its.map (kvH s.heap) = ks ∧ ∀ v ∈ its, IsTI s.heap v (kvH s.heap v) ∧ Rep X.K B (tupD (kvH s.heap v)) (backV v) := by
    intro ks
    induction ks with
    | nil =>
      intro xs its e1 e2 hr
      cases hr
      cases its with
      | nil => exact ⟨rfl, fun v hv => absurd hv (by simp)⟩
      | cons _ _ => cases e1
    | cons k ks ih =>
      intro xs its e1 e2 hr
      obtain ⟨v, r, rfl, hv, hr3⟩ := hr
      have hv0 := hv
      obtain ⟨t, vs, rfl, ht, hi⟩ := hv
      cases its with
      | nil => cases e1
      | cons u its =>
        obtain ⟨t', rfl⟩ := e2 u List.mem_cons_self
        injection e1 with e3 e4
        have e3 : V.ref t = V.ref t' := e3
        cases e3
        obtain ⟨i1, i2⟩ := ih e4 (fun u hu => e2 u (List.mem_cons_of_mem _ hu)) hr3
        rw [Reps.of_ints hi] at ht
        obtain ⟨its2, ra, hta, _⟩ := I.tuple (ex_t hB ht)
        obtain ⟨o, ho, hc, n, hd⟩ := hta
        have hti : IsTI s.heap (.ref t) k := ⟨t, o, its2.toArray, n, rfl, ho, hc, hd, by simpa using ra.ints⟩
        have hk := hti.kv
        refine ⟨by rw [List.map_cons, hk, i1], fun v hv => ?_⟩
        rcases List.mem_cons.mp hv with e | hv
        · subst e
          rw [hk]
          exact ⟨hti, hv0⟩
        · exact i2 v hv
  obtain ⟨k1, k2⟩ := key e1 e2 hr
  have hln : its.length = ks.length := by rw [← k1, List.length_map]
  refine sorted_tupI (k := kvH s.heap) hl.isList (by rw [← rv.length]; exact hz) (fun v hv => (k2 v hv).1) (fun h2 v hv => hne (by omega) _ (by rw [← k1]; exact List.mem_map.mpr ⟨v, hv, rfl⟩)) fun h' d out h1 h2 kp hd hn => ?_
  have h3 : ∀ u ∈ out, ∃ a, u = Value.ref a := fun u hu => e2 u (h2.perm.mem_iff.mp hu)
  obtain ⟨n, hn⟩ := hn
  have hp : (out.map (kvH s.heap)).Perm ks := by
    have := h2.perm.map (kvH s.heap)
    rwa [k1] at this
  have hm : out.map (kvH s.heap) = sortK ks := sortK_of (List.pairwise_map.mpr h1) hp
  have hout : ∀ l : List Value, (∀ v ∈ l, v ∈ its) → Reps X.K B ((l.map (kvH s.heap)).map tupD) (l.map backV) := by
    intro l
    induction l with
    | nil => intro _; exact rfl
    | cons v l ih => intro hl; exact ⟨_, _, rfl, (k2 v (hl v List.mem_cons_self)).2, ih fun u hu => hl u (List.mem_cons_of_mem _ hu)⟩
  refine ⟨.ref d, upd H d (.lst (out.map backV)), I.laid (t' := s.toks) kp hd ⟨?_, out, n, L2.vals_back h3, hn⟩, rfl, q _ d ?_ (I.hok.fresh hd)⟩
  · have : (out.map backV).length = xs.length := by rw [e1, List.length_map, List.length_map, h2.perm.length_eq]
    rw [this]
    exact hz
  · rw [← hm]
    exact hout out fun v hv => h2.perm.mem_iff.mp hv
/-- the ints of tuples -/
def tupsOf : List D → Option (List (List Int))
  | [] => some []
  | .tup ds :: r => match intsOf ds with
    | some ns => match tupsOf r with
      | some ks => some (ns :: ks)
      | none => none
    | none => none
  | _ :: _ => none
theorem tupsOf_ok : ∀ {ds : List D} {ks : List (List Int)}, tupsOf ds = some ks → ds = ks.map tupD
  | [], _, h => by cases h; rfl
  | .tup ds :: r, ks, h => by
    unfold tupsOf at h
    split at h
    rotate_left
    · cases h
    rename_i ns hn
    split at h
    rotate_left
    · cases h
    rename_i ks' hk
    cases h
    rw [List.map_cons, ← tupsOf_ok hk, intsOf_ok hn]
    rfl
  | .non :: _, _, h => by cases h
  | .bl _ :: _, _, h => by cases h
  | .int _ :: _, _, h => by cases h
  | .str _ :: _, _, h => by cases h
  | .ty _ :: _, _, h => by cases h
  | .lst _ :: _, _, h => by cases h
  | .fls _ :: _, _, h => by cases h
  | (.dct _ _) :: _, _, h => by cases h
  | (.dtt _ _) :: _, _, h => by cases h
  | (.obj _ _ _) :: _, _, h => by cases h
  | (.cls _) :: _, _, h => by cases h
theorem tupsOf_map : ∀ ks : List (List Int), tupsOf (ks.map tupD) = some ks
  | [] => rfl
  | k :: ks => by
    show (match intsOf (k.map D.int) with | some ns => _ | none => none) = _
    have : ∀ k : List Int, intsOf (k.map D.int) = some k := fun k => by
      induction k with
      | nil => rfl
      | cons x k ih => show (match intsOf (k.map D.int) with | some ns => _ | none => none) = _; rw [ih]
    rw [this]
    show (match tupsOf (ks.map tupD) with | some ns => _ | none => none) = _
    rw [tupsOf_map ks]
def srtK (o : Option (List (List Int))) : Option D := match o with
  | some ks => if ks.length < 2 ∨ ks.all (fun k => !k.isEmpty) = true then some (.lst ((sortK ks).map tupD)) else none
  | none => none
def srtO (d : D) : Option D := match d with
  | .lst ds => srtK (tupsOf ds)
  | _ => none
def eSorted (m : M D) : M D := bnd m fun d => lft (srtO d)
theorem pf_sorted {e : Expr} {m : M D} {p pos : Pos} (h : PD X e m) (hm : X.mg "sorted" = none) (hg : Gl X "sorted" := by rfl) (hc : X.calm = true := by rfl) (na : starEach [e] X.env = (false, eval e X.env) :: starEach [] X.env := by rfl) :
    PF X (.Call (.Name "sorted" p) [e] [] pos) (eSorted m) :=
  pe_mono (pe_callB cr_sortedTT hg hm (by decide +kernel) (pa_cons h pa_nil na) (he := na)) fun σ H Q ⟨G, B, env, d, env', ok, e, k⟩ => by
    obtain ⟨x, e1, q1, q2⟩ := bnd_some e
    obtain ⟨z, q3, q4⟩ := lft_some q2
    cases q4
    unfold srtO at q3
    cases x with
    | lst ds =>
      dsimp only at q3
      unfold srtK at q3
      split at q3
      rotate_left
      · cases q3
      rename_i ks hk
      split at q3
      rotate_left
      · cases q3
      rename_i hc2
      cases q3
      have hds := tupsOf_ok hk
      subst hds
      exact tD_of ok q1 fun v B1 H1 ok1 _ r => by
        obtain ⟨a, vs, rfl, hs, hr⟩ := r
        refine ⟨a, vs, ks, B1, rfl, SqL.of (ok1.sub _ _ hs), ok1.sub, hr, fun h2 z hz he => ?_, fun ys p hy hp => k p B1 _ (ok1.tmp hp) (fresh_back ok1.sub hp) ⟨ys, upd_same, hy⟩ (ok1.live p hp) (ok1.notOwn hp)⟩
        rcases hc2 with c | c
        · omega
        · have := List.all_eq_true.mp c z hz
          rw [he] at this
          cases this
    | _ => cases q3
/-- a comprehension in a comprehension: the outer one's block -/
def relabelS (scope sc : Scope) : Scope :=
  { scope with names := scope.names.map fun (n, k) => if (k == .free && sc.kind == .function && sc.names.lookup n == some .cell) then (n, .cell) else (n, k) }
theorem blkIn {N : List Str} {scope sc scope2 : Scope} {own : List (Str × Nat)} {env : Env} (he : env.scope = sc) (h : blkC N (relabelS scope sc) scope2 own = true) : blkC N (relabel scope env) scope2 own = true := by
  subst he
  exact h
/-- sum of a name's list, which the name keeps -/
def eSumV (i : Nat) : M D := bnd (ePeek i) fun d => lft (sumD [d])
theorem pd_sumV {i : Nat} {x : Str} {p1 p pos : Pos} (hx : PE X (.Name x p1) (tVar i)) (hm : X.mg "sum" = none) (hg : Gl X "sum" := by rfl) (hc : X.calm = true := by rfl)
    (he : starEach [.Name x p1] X.env = (false, eval (.Name x p1) X.env) :: starEach [] X.env := by rfl) : PD X (.Call (.Name "sum" p) [.Name x p1] [] pos) (eSumV i) :=
  pe_mono (pe_callB (cr_sum hc) hg hm (by decide +kernel) (pa_cons hx pa_nil he) (he := he)) fun σ H Q ⟨G, B, env, d, env', ok, e, k⟩ => by
    obtain ⟨x, e1, q1, e⟩ := bnd_some e
    obtain ⟨z, q5, q6⟩ := lft_some e
    cases q6
    obtain ⟨ee, v, B', s1, x1, x2, r⟩ := peek_at ok q1
    subst ee
    refine ⟨v, s1, ?_⟩
    unfold sumD at q5
    split at q5
    · rename_i ds hd
      cases hd
      split at q5
      · rename_i ns hn
        cases q5
        obtain ⟨a, us, rfl, h1, h2⟩ := r
        rw [intsOf_ok hn] at h2
        exact ⟨a, ns, rfl, by rw [← h2.of_ints]; exact SqL.of (x2 _ _ h1), k _ B H ok rfl⟩
      · cases q5
    · rename_i ds hd
      cases hd
      split at q5
      · rename_i ns hn
        cases q5
        obtain ⟨a, us, rfl, h1, h2⟩ := r
        rw [intsOf_ok hn] at h2
        exact ⟨a, ns, rfl, by rw [← h2.of_ints]; exact ex_l x2 h1, k _ B H ok rfl⟩
      · cases q5
    · cases q5
end
end Dv
/-! A def's promise where nothing that shows itself is under way (guards): repr has its exact text there. -/
namespace Dv
open PySem PySem.Spec PyProof.Rows L2 Evl
/-- nothing that shows itself is under way -/
def Still (A : Around) : Prop := A.guards = some []
theorem Still.deeper {A : Around} (h : Still A) (env : Env) : Still (A.deeper env) := h
theorem Still.in1 {A : Around} (h : Still A) : Still A.in1 := h
structure FnG (P : Program) (w : World) (K : PySem.W.Frag) (mg : Str → Option Value) (base : Heap) (k : Nat) (f : Addr) (fd : FuncData) (ps : List Str) (sp : Sp) : Prop where
  len : ∀ vs H Q E, sp vs H Q E → vs.length = ps.length
  run : ∀ (A : Around) (outer : List Env) (s : Shared) (H : Hp) (args : PySem.Args) (us : List Value) (vs : List V) (Q : VK) (E : XK), Still A → Room k A → Env0 P w K mg base A outer s H → BindsTo s fd args (ps.zip us) → Vals vs us → sp vs H Q E →
    codeAny (model P w) A (.call (.ref f) args) (CR CX0 outer P w H s Q E) s
theorem FnG.mono {P : Program} {w : World} {K : PySem.W.Frag} {mg : Str → Option Value} {base : Heap} {j k : Nat} {f : Addr} {fd : FuncData} {ps : List Str} {sp : Sp} (F : FnG P w K mg base j f fd ps sp) (h : j ≤ k) : FnG P w K mg base k f fd ps sp :=
  ⟨F.len, fun A outer s H args us vs Q E hg hr => F.run A outer s H args us vs Q E hg (hr.mono h)⟩
/-- a def keeps its promise by its body -/
theorem fnG_of {P : Program} {w : World} {K : PySem.W.Frag} {mg : Str → Option Value} {base : Heap} {x qual : Str} {st : Stmt} {f : Addr} {fd : FuncData} {N ps : List Str} {k : Nat} {sp : Sp} (Fn : Fun K x qual st f fd) (S : FnScope N ps (defScope st))
    (len : ∀ vs H Q E, sp vs H Q E → vs.length = ps.length)
    (body : ∀ (cdv : Value) (A : Around) (outer : List Env) (s : Shared) (H : Hp) (vs : List V) (Q : VK) (E : XK), Still A → Room k (A.deeper (envOfC qual (defScope st) s.heap.objs.size f cdv)) → sp vs H Q E →
      ∃ t, PSs (cxOf CX0 P w K mg base N qual (defScope st) f cdv A outer s H E).nox (defBody st) t ∧ t { nx := fun _ H' => Q .non H', rt := Q } (start N vs) H) : FnG P w K mg base (k + 1) f fd ps sp := by
  obtain ⟨oc, od, kV, doc, pm, an, cdv, ct, osl, rfl, lk, hcd⟩ := Fn.ex
  refine ⟨len, fun A outer s H args us vs Q E hg hr e0 hb r h => ?_⟩
  obtain ⟨t, ht, hq⟩ := body cdv A outer s H vs Q E hg (hr.deeper _) h
  have keep : ∀ (b : Addr) (o : Obj), base.get? b = some o → s.heap.get? b = some o := fun b o e => (e0.bs b o e).1
  have there := e0.mod.kin.keeps keep
  refine codeAny_call_function hr.depth (there _ _ lk) rfl S.co S.gen rfl (PySem.W.codeRec_of there hcd) (hb _ _ _ _ ?_)
  refine wpAny_newFunctionEnv_cells S.kind (fun y hy => ?_) fun env he s1 ic => ?_
  · rcases S.par y.1 (List.of_mem_zip (show (y.1, y.2) ∈ ps.zip us from hy)).1 with q | q
    · exact .inl q
    · exact .inr ⟨q, PySem.W.cellsFrom_some _ _ _ (.inl q)⟩
  subst he
  refine ⟨(e0.mod.nolimit.keeps keep).keeps ic.toInCall.keep, codeAny_func ?_⟩
  have I := inv_start (CX := CX0) (cd := cdv) (E := E) S hr.hd e0 (len _ _ _ _ h) r ic
  refine wpAny_mono (ht.nox.run [] s1 (start N vs) H _ I hq) (fun fl s' hs => ?_) fun e s' hs => hs
  cases fl with
  | ret u =>
    obtain ⟨v, σ', H', J, rv, q⟩ := hs
    exact ⟨v, H', J.os, J.bare, J.base, J.hok, rv, q⟩
  | next =>
    obtain ⟨σ', H', J, q⟩ := hs
    exact ⟨.non, H', J.os, J.bare, J.base, J.hok, rfl, q⟩
  | brk =>
    obtain ⟨_, _, _, q⟩ := hs
    exact q.elim
  | cont =>
    obtain ⟨_, _, _, q⟩ := hs
    exact q.elim
/-- room, and nothing that shows itself under way -/
structure RoomG (k : Nat) (A : Around) : Prop where
  still : Still A
  room : Room k A
theorem RoomG.mono {j k : Nat} {A : Around} (r : RoomG k A) (h : j ≤ k) : RoomG j A := ⟨r.still, r.room.mono h⟩
theorem fn_bodyG {P : Program} {w : World} {K : PySem.W.Frag} {mg : Str → Option Value} {base : Heap} {x qual : Str} {st : Stmt} {f : Addr} {fd : FuncData} {N ps : List Str} {k : Nat} (Fn : Fun K x qual st f fd) (S : FnScope N ps (defScope st)) (ms : List Bool) (rf : Bool) {body : MS} (hn : ms.length = ps.length)
    (hb : ∀ (cdv : Value) (A : Around) (outer : List Env) (s : Shared) (H : Hp) (E : XK), RoomG k (A.deeper (envOfC qual (defScope st) s.heap.objs.size f cdv)) → PDB (cxOf CX0 P w K mg base N qual (defScope st) f cdv A outer s H E).nox (defBody st) body) :
    FnG P w K mg base (k + 1) f fd ps (spF K ms rf (runF ms N.length rf body)) :=
  fnG_of Fn S (fun vs H Q E h => by rw [← hn]; exact spF_len h) fun cdv A outer s H vs Q E hg hr h => fn_entry S ms rf hn (hb cdv A outer s H E ⟨hg.deeper _, hr⟩) h
section
variable {X : Cx} {k : Nat} {f : Addr} {fd : FuncData} {ps ks : List Str} {sp : Sp} {E : XK} {x : Str} {p pos : Pos} {e : Expr} {es : List Expr} {t tk : TA} {kws : List Keyword} {g : List Value → List Value → List Value} {gV : List V → List V → List V}
/-- a call of such a def, its values at hand -/
theorem run_G {pins : List (Addr × Obj)} {σ : L2.St} {H : Hp} {s : Shared} {Q : VK} {args : PySem.Args} {us : List Value} {vs : List V} (F : FnG X.prog X.w X.K X.mg X.base k f fd ps sp) (hr : RoomG k X.A) (hx : Passes CX0 X E)
    (I : Inv X pins σ H s) (hb : BindsTo s fd args (ps.zip us)) (r : Vals vs us) (h : sp vs H Q E) : codeAny (model X.prog X.w) X.A (.call (.ref f) args) (fun r s' => match r with | .ok (.ret u) => EP X pins σ Q u s' | .ok _ => False | .error e => X.xe e s') s :=
  codeAny_mono (F.run X.A X.stack s H args us vs Q E hr.still hr.room I.env0 hb r h) fun r s' hq => by
    cases r with
    | error e => exact hx pins σ H s e s' I hq
    | ok fl =>
      cases fl with
      | ret u => exact I.after hq
      | _ => exact hq
theorem pe_callG (F : FnG X.prog X.w X.K X.mg X.base k f fd ps sp) (hr : RoomG k X.A) (hg : Gl X x) (hm : X.mg x = some (.ref f)) (hk : PySem.W.keepIn X.K (.ref f) = true) (hb : Binds X.K fd ps []) (hx : Passes CX0 X E) (ha : PA X (e :: es) t)
    (hdb : (x == ("__debug__" : Str)) = false) (he : starEach (e :: es) X.env = (false, eval e X.env) :: starEach es X.env) (hpl : (backTo pos (starEach es X.env)).any (·.1) = false) : PE X (.Call (.Name x p) (e :: es) [] pos) (tCall sp [] E t) := by
  constructor
  intro pins s σ H Q I h
  refine wpAny_Call_Name_kw (ld_glob I hg hm ?_ hdb)
  refine PySem.W.callWith_K (h₀ := X.base) I.ok.mod.kin hk (thn (ha.run pos pins s σ H _ I h) ?_) he hpl
  intro us s1 ⟨vs, H1, I1, r, q⟩
  have q : sp vs H1 Q E := by rw [← List.append_nil vs]; exact q
  have hl : us.length = ps.length := by rw [← r.length]; exact F.len _ _ _ _ q
  have hb1 := hb s1 us I1.kIn (by rw [List.append_nil]; exact hl)
  rw [List.append_nil] at hb1
  exact ⟨I1.kIn, wpAny_call (run_G F hr hx I1 hb1 r q)⟩
theorem pe_callNG (F : FnG X.prog X.w X.K X.mg X.base k f fd ps sp) (hr : RoomG k X.A) (hg : Gl X x) (hm : X.mg x = some (.ref f)) (hk : PySem.W.keepIn X.K (.ref f) = true) (hb : KBn X.K fd ps 0 ks g gV) (hx : Passes CX0 X E)
    (hkw : PK X kws tk) (hall : (backToKw pos (keywordEach kws X.env)).all (·.1.isSome) = true) (hks : (backToKw pos (keywordEach kws X.env)).filterMap (·.1) = ks)
    (hpl : ((backTo pos (starEach [] X.env)).any (·.1) || (backToKw pos (keywordEach kws X.env)).any (·.1.isNone)) = false) (hdb : (x == ("__debug__" : Str)) = false) : PE X (.Call (.Name x p) [] kws pos) (tCallN 0 ks.length sp gV E tNil tk) := by
  constructor
  intro pins s σ H Q I h
  refine wpAny_Call_Name_kw (ld_glob I hg hm ?_ hdb)
  refine PySem.W.callWith_KW0 (h₀ := X.base) I.ok.mod.kin hk hall (thn (hkw.run pos pins s σ H _ I h) ?_) hpl
  intro ws s2 ⟨zs, H2, I2, rz, l1, l2, q2⟩
  rw [hks]
  exact ⟨I2.kIn, wpAny_call (run_G F hr hx I2 (hb.to s2 [] ws I2.kIn rfl (rz.length.symm.trans l2)) (hb.rel .nil rz) q2)⟩
end
section
variable {X : Cx} {k : Nat} {f : Addr} {fd : FuncData} {ps ks : List Str} {x : Str} {p pos : Pos} {e : Expr} {es : List Expr} {kws : List Keyword} {ms : List Bool} {F : Fn}
theorem pd_callG {m : M (List Av)} (Fo : FnG X.prog X.w X.K X.mg X.base k f fd ps (spF X.K ms false F)) (hr : RoomG k X.A) (hm : X.mg x = some (.ref f)) (hk : PySem.W.keepIn X.K (.ref f) = true) (hb : Binds X.K fd ps []) (ha : PDR X (e :: es) m) (h1 : one ms = true := by rfl) (hg : Gl X x := by rfl) (hdb : (x == ("__debug__" : Str)) = false := by decide)
    (he : starEach (e :: es) X.env = (false, eval e X.env) :: starEach es X.env := by rfl) (hpl : (backTo pos (starEach es X.env)).any (·.1) = false := by rfl) : PD X (.Call (.Name x p) (e :: es) [] pos) (eCall ms F m) :=
  pe_mono (pe_callG Fo hr hg hm hk hb pass0 ha hdb he hpl) fun σ H Q ⟨G, B, env, d, env', ok, e, k⟩ => call_red h1 ok e fun H1 B1 e1 ok1 ok1' v B' H' ok' _ rv => k v B' H' ok' rv
theorem pf_callG {m : M (List Av)} (Fo : FnG X.prog X.w X.K X.mg X.base k f fd ps (spF X.K ms true F)) (hr : RoomG k X.A) (hm : X.mg x = some (.ref f)) (hk : PySem.W.keepIn X.K (.ref f) = true) (hb : Binds X.K fd ps []) (ha : PDR X (e :: es) m) (h1 : one ms = true := by rfl) (hg : Gl X x := by rfl) (hdb : (x == ("__debug__" : Str)) = false := by decide)
    (he : starEach (e :: es) X.env = (false, eval e X.env) :: starEach es X.env := by rfl) (hpl : (backTo pos (starEach es X.env)).any (·.1) = false := by rfl) : PF X (.Call (.Name x p) (e :: es) [] pos) (eCall ms F m) :=
  pe_mono (pe_callG Fo hr hg hm hk hb pass0 ha hdb he hpl) fun σ H Q ⟨G, B, env, d, env', ok, e, k⟩ => call_red h1 ok e fun H1 B1 e1 ok1 ok1' v B' H' ok' nO rv => by
    obtain ⟨a, rfl, r1, r2, r3⟩ := rv
    exact k a B' H' ok' r1 r2 (ok1.live a r3) (nO a r3)
theorem pd_callKG {m : M (List D)} {perm : List Nat} (Fo : FnG X.prog X.w X.K X.mg X.base k f fd ps (spF X.K ms false F)) (hr : RoomG k X.A) (hm : X.mg x = some (.ref f)) (hk : PySem.W.keepIn X.K (.ref f) = true) (hb : KBn X.K fd ps 0 ks (fun _ ws => perm.map fun i => ws.getD i .none) (fun _ zs => perm.map fun i => zs.getD i .non)) (ha : PDK X kws m) (h1 : one ms = true := by rfl)
    (hall : (backToKw pos (keywordEach kws X.env)).all (·.1.isSome) = true := by rfl) (hks : (backToKw pos (keywordEach kws X.env)).filterMap (·.1) = ks := by rfl) (hpl : ((backTo pos (starEach [] X.env)).any (·.1) || (backToKw pos (keywordEach kws X.env)).any (·.1.isNone)) = false := by rfl)
    (hg : Gl X x := by rfl) (hdb : (x == ("__debug__" : Str)) = false := by decide) : PD X (.Call (.Name x p) [] kws pos) (eCall ms F (rPerm ks.length perm m)) :=
  pe_mono (pe_callNG Fo hr hg hm hk hb pass0 ha hall hks hpl hdb) fun σ H Q ⟨G, B, env, d, env', ok, e, k⟩ => callK_red h1 ok e fun H1 B1 e1 ok1 ok1' v B' H' ok' _ rv => k v B' H' ok' rv
theorem pf_callKG {m : M (List D)} {perm : List Nat} (Fo : FnG X.prog X.w X.K X.mg X.base k f fd ps (spF X.K ms true F)) (hr : RoomG k X.A) (hm : X.mg x = some (.ref f)) (hk : PySem.W.keepIn X.K (.ref f) = true) (hb : KBn X.K fd ps 0 ks (fun _ ws => perm.map fun i => ws.getD i .none) (fun _ zs => perm.map fun i => zs.getD i .non)) (ha : PDK X kws m) (h1 : one ms = true := by rfl)
    (hall : (backToKw pos (keywordEach kws X.env)).all (·.1.isSome) = true := by rfl) (hks : (backToKw pos (keywordEach kws X.env)).filterMap (·.1) = ks := by rfl) (hpl : ((backTo pos (starEach [] X.env)).any (·.1) || (backToKw pos (keywordEach kws X.env)).any (·.1.isNone)) = false := by rfl)
    (hg : Gl X x := by rfl) (hdb : (x == ("__debug__" : Str)) = false := by decide) : PF X (.Call (.Name x p) [] kws pos) (eCall ms F (rPerm ks.length perm m)) :=
  pe_mono (pe_callNG Fo hr hg hm hk hb pass0 ha hall hks hpl hdb) fun σ H Q ⟨G, B, env, d, env', ok, e, k⟩ => callK_red h1 ok e fun H1 B1 e1 ok1 ok1' v B' H' ok' nO rv => by
    obtain ⟨a, rfl, r1, r2, r3⟩ := rv
    exact k a B' H' ok' r1 r2 (ok1.live a r3) (nO a r3)
end
/-! ### the head -/
section
variable {P : Program} {w : World} {K : PySem.W.Frag} {mg mb : Str → Option Value} {k : Nat} {fa a : Addr} {fd : FuncData} {x : Str} {sp : Sp} {s : Shared} {vs : List Value} {ns : List Int}
/-- the script's own object -/
abbrev scriptO (vs : List Value) : Obj := { cls := .type "list", data := .seq vs.toArray }
open Classical in
/-- what is told at the start: the script, if the module has it not already -/
noncomputable def H0 (K : PySem.W.Frag) (a : Addr) (vs : List Value) (ns : List Int) : Hp := fun b => if b = a ∧ K.lookup a = none then some (.frz (scriptO vs) (.lst (ns.map V.int))) else none
theorem H0_some {b : Addr} {u : HO} (h : H0 K a vs ns b = some u) : b = a ∧ K.lookup a = none ∧ u = .frz (scriptO vs) (.lst (ns.map V.int)) := by
  unfold H0 at h
  split at h
  · rename_i c
    exact ⟨c.1, c.2, (Option.some.inj h).symm⟩
  · cases h
theorem H0_none {b : Addr} (h : b ≠ a ∨ K.lookup a ≠ none) : H0 K a vs ns b = none := by
  cases q : H0 K a vs ns b with
  | none => rfl
  | some u =>
    obtain ⟨h1, h2, _⟩ := H0_some q
    exact (h.elim (fun n => n h1) fun n => n h2).elim
theorem H0_list (KX : K.In s.heap) (ha : s.heap.get? a = some (scriptO vs)) (hi : IntsAre vs ns) (hl : ns.length ≤ sizeLine) : SqL K (H0 K a vs ns) a (ns.map V.int) := by
  cases q : K.lookup a with
  | none => exact .inl (.inr ⟨scriptO vs, by unfold H0; rw [if_pos ⟨rfl, q⟩]⟩)
  | some o =>
    have e := KX a o q
    rw [ha] at e
    cases e
    exact .inr ⟨_, vs.toArray, _, q, rfl, rfl, rfl, by rw [List.size_toArray, hi.length]; exact hl, by simpa using vals_of_ints hi⟩
theorem H0_ok (ha : s.heap.get? a = some (scriptO vs)) (hi : IntsAre vs ns) (hl : ns.length ≤ sizeLine) : HOk P w (H0 K a vs ns) s.heap := fun b u h => by
  obtain ⟨rfl, _, rfl⟩ := H0_some h
  exact ⟨ha, by rw [List.length_map]; exact hl, vs, _, vals_of_ints hi, ha⟩
theorem head_env (KX : K.In s.heap) (hns : s.heap.Ns mainGlobals mg) (hb : s.heap.Ns builtinsNs mb) (hbb : ∀ x : Str, x ≠ "__name__" → mb x = bootBuiltins x) (hlim : s.heap.NoLimit) (hg : s.gens = #[])
    (ha : s.heap.get? a = some (scriptO vs)) (hi : IntsAre vs ns) (hl : ns.length ≤ sizeLine) :
    K.In (hidT s.heap (H0 K a vs ns)) ∧ (hidT s.heap (H0 K a vs ns)).Ns mainGlobals mg ∧ Env0 P w K mg (hidT s.heap (H0 K a vs ns)) callerA [] s (H0 K a vs ns) := by
  have nd : ∀ {b : Addr} {m : Str → Option Value}, s.heap.Ns b m → (hidT s.heap (H0 K a vs ns)).Ns b m := fun {b m} ⟨o, es, ep, e, d, r⟩ => by
    refine ⟨o, es, ep, hidT_get e (H0_none (.inl fun z => ?_)), d, r⟩
    subst z
    rw [ha] at e
    cases e
    cases (show Data.seq vs.toArray _ = Data.dict es ep from d)
  have kin : K.In (hidT s.heap (H0 K a vs ns)) := fun b o e => hidT_get (KX b o e) (H0_none (by
    by_cases z : b = a
    · subst z
      exact .inr (by rw [e]; exact Option.some_ne_none _)
    · exact .inl z))
  obtain ⟨mc, l1, l2⟩ := hlim
  exact ⟨kin, nd hns, rfl, ⟨kin, nd hns, ⟨mb, nd hb, hbb⟩, mc, nd l1, l2⟩, fun b o e => of_hidT e, Nat.le_of_eq (hidT_size _ _), trivial, fun b z => absurd z List.not_mem_nil, H0_ok ha hi hl, .of_eq hg⟩
theorem head_call (KX : K.In s.heap) (hns : s.heap.Ns mainGlobals mg) (hb : s.heap.Ns builtinsNs mb) (hbb : ∀ x : Str, x ≠ "__name__" → mb x = bootBuiltins x) (hlim : s.heap.NoLimit) (hg : s.gens = #[])
    (ha : s.heap.get? a = some (scriptO vs)) (hi : IntsAre vs ns) (hl : ns.length ≤ sizeLine) (hr : Room k callerA)
    (F : ∀ base : Heap, K.In base → base.Ns mainGlobals mg → FnG P w K mg base k fa fd [x] sp) (hbind : ∀ (s : Shared) (u : Value), BindsTo s fd ⟨[u], []⟩ [(x, u)])
    (hsp : ∀ H : Hp, SqL K H a (ns.map V.int) → sp [.ref a] H (fun v _ => v = .bl true) fun _ _ _ => False) :
    codeAny (model P w) callerA (.call (.ref fa) ⟨[.ref a], []⟩) (fun r s' => r = .ok (.ret (.bool true)) ∧ OldK s.heap s'.heap ∧ s'.os = s.os ∧ AllBare s'.gens) s := by
  obtain ⟨kin, nk, e0⟩ := head_env (P := P) (w := w) KX hns hb hbb hlim hg ha hi hl
  refine codeAny_mono ((F _ kin nk).run callerA [] s _ ⟨[.ref a], []⟩ [.ref a] [.ref a] _ _ rfl hr e0 (hbind s (.ref a)) (.cons rfl .nil) (hsp _ (H0_list KX ha hi hl))) fun r s' h => ?_
  match r, h with
  | .ok (.ret u), ⟨v, H', os, bare, un, hok', r', q⟩ =>
    have q : v = .bl true := q
    subst q
    have r' : u = Value.bool true := r'
    refine ⟨by rw [r'], OldK.of_keep fun b o e => ?_, os, bare⟩
    cases z : H0 K a vs ns b with
    | none => exact un.keep b o e z (fun m => absurd m List.not_mem_nil) (by simp)
    | some u =>
      obtain ⟨rfl, _, rfl⟩ := H0_some z
      rw [ha] at e
      cases e
      exact (hok' _ _ (un.frzs _ _ _ z)).1
  | .ok .next, h => exact h.elim
  | .ok .brk, h => exact h.elim
  | .ok .cont, h => exact h.elim
  | .error e, h => exact h.elim
end
theorem walk_G {l : PySem.W.OpenLaw} {n k : Nat} {q : Program} {loose : List Str} {XP : (Str → Option Value) → Heap → Prop} {YP : World → Heap → Prop} {d : DefRec} {K : Params → PySem.W.Frag} {sp : World → Sp} {x : Str}
    (hn : l.most = some n) (hn2 : n ≤ sizeLine) (hdf : d.params.defaults = []) (hr : Room k callerA) (hY : ∀ (w : World) (h : Heap), YP w h → (K w.params).In h)
    (F : ∀ (w : World) (mg : Str → Option Value) (fa : Addr) (h : Heap), (K w.params).In h → h.Ns mainGlobals mg → mg d.name = some (.ref fa) →
      ∃ fd : FuncData, (∀ (s : Shared) (u : Value), BindsTo s fd ⟨[u], []⟩ [(x, u)]) ∧ ∀ base : Heap, (K w.params).In base → base.Ns mainGlobals mg → FnG l.prog w (K w.params) mg base k fa fd [x] (sp w))
    (hsp : ∀ (w : World) (H : Hp) (a : Addr) (ns : List Int), ns.length ≤ n → SqL (K w.params) H a (ns.map V.int) → sp w [.ref a] H (fun v _ => v = .bl true) fun _ _ _ => False) :
    PySem.W.WalkO q loose XP YP l.row.toRowW d [] (fun f vs => PySem.call f vs) :=
  Att.attach_call hn hdf fun w s₀ s₁ mg mb fa o pm cd doc a vs ns G Y ho hd hcd hmg hobj hints hlen hg => by
    obtain ⟨fd, hb, hF⟩ := F w mg fa _ (hY w _ Y) G.T.g hmg
    exact head_call (hY w _ Y) G.T.g G.T.b G.T.builtins G.T.nolimit hg hobj hints (Nat.le_trans hlen hn2) hr hF hb fun H hS => hsp w H a ns hlen hS
/-! ### repr -/
section
variable {X : Cx} {k : Nat}
def rRepr (K : PySem.W.Frag) : List V → Hp → VK → Prop := fun xs H Q => ∃ (x : V) (d : PyData), xs = [x] ∧ Dp K H x d ∧ d.showable = true ∧ d.hasDict = false ∧ d.depth ≤ 64 ∧ d.shown.length ≤ sizeLine ∧ Q (.str d.shown) H
theorem cr_repr (hr : RoomG k X.A) : CallR X (.builtin "repr") (rRepr X.K) := by
  intro pins s σ H xs us Q I r h
  obtain ⟨x, d, rfl, hd, hs, hn, hdp, hz, q⟩ := h
  obtain ⟨u, rfl, ru⟩ := vals1 r
  obtain ⟨as, rd⟩ := Dp.reads I d x u hd ru
  have hu := hr.room.un
  have big : ∀ a, u = .ref a → wpAny (model X.prog X.w) X.A (call (.builtin "repr") [u]) (EP X pins σ Q) X.xe s := fun a e => by
    subst e
    exact repr_of_reads' rd hs (fun e => by rw [hn] at e; cases e) hr.still (by omega) (fun _ _ e => e) (fun h' u tk hk => ⟨.str d.shown, H, I.kept hk, ⟨u, rfl⟩, q⟩) hz
  cases rd with
  | none => exact PySem.P.repr_of_none ⟨.str _, H, I.tok _, ⟨_, rfl⟩, q⟩
  | bool b => exact PySem.P.repr_of_bool ⟨.str _, H, I.tok _, ⟨_, rfl⟩, q⟩
  | int i t => exact PySem.P.repr_of_int (of_decide_eq_true hs) ⟨.str _, H, I.tok _, ⟨_, rfl⟩, q⟩
  | str x t => exact PySem.P.repr_of_str ⟨.str _, H, I.tok _, ⟨_, rfl⟩, q⟩ hz
  | list => exact big _ rfl
  | tuple => exact big _ rfl
  | dict => exact big _ rfl
/-- the text of data -/
def reprO (d : D) : Option D := if (shp d && (py d).showable && !(py d).hasDict && lim (py d).shown.length) = true then some (.str (py d).shown.cps.toList) else none
def reprD : List D → Option D
  | [d] => reprO d
  | _ => none
theorem call_reprD (hr : RoomG k X.A) : CallD X (.builtin "repr") reprD := ⟨_, cr_repr hr, fun G B H σ env vs ds z Q ok r0 e k => by
  unfold reprD at e
  split at e
  rotate_left
  · cases e
  rename_i d
  unfold reprO at e
  split at e
  rotate_left
  · cases e
  rename_i hc
  cases e
  simp only [Bool.and_eq_true] at hc
  obtain ⟨⟨⟨h1, h2⟩, h3⟩, h4⟩ := hc
  obtain ⟨v, rfl, r⟩ := reps1 r0
  have h1' := h1
  unfold shp at h1'
  rw [Bool.and_eq_true] at h1'
  exact ⟨v, py d, rfl, dp_of ok.sub d v h1'.1 r, h2, by simpa using h3, Nat.le_trans (lay_py d h1'.1).2 (of_decide_eq_true h1'.2), lim_ok h4, k _ B H ok (by
    show V.str (py d).shown = V.str (mkS (py d).shown.cps.toList)
    rfl)⟩⟩
/-- str(int) -/
def strD : List D → Option D
  | [.int i] => if i.natAbs.log2 < 1920 then some (.str (toString i : Str).cps.toList) else none
  | _ => none
theorem call_strD : CallD X (.type "str") strD := ⟨_, call_str_int, fun G B H σ env vs ds z Q ok r0 e k => by
  unfold strD at e
  split at e
  rotate_left
  · cases e
  rename_i i
  split at e
  rotate_left
  · cases e
  rename_i hi
  cases e
  obtain ⟨v, rfl, r⟩ := reps1 r0
  exact ⟨i, by rw [show v = _ from r], hi, k _ B H ok rfl⟩⟩
/-- tuple(range(n)) -/
theorem pd_tupRg1 {e : Expr} {m : M D} {p p2 pos pos2 : Pos} (h : PD X e m) (hm : X.mg "tuple" = none) (hm2 : X.mg "range" = none) (hg : Gl X "tuple" := by rfl) (hg2 : Gl X "range" := by rfl) (hc : X.calm = true := by rfl)
    (na : starEach [.Call (.Name "range" p2) [e] [] pos2] X.env = (false, eval (.Call (.Name "range" p2) [e] [] pos2) X.env) :: starEach [] X.env := by rfl) (na2 : starEach [e] X.env = (false, eval e X.env) :: starEach [] X.env := by rfl) :
    PD X (.Call (.Name "tuple" p) [.Call (.Name "range" p2) [e] [] pos2] [] pos) (eTup (iRange range1 (aCons m (ret [])))) :=
  pe_mono (pe_tupRg hc hg hm (prg_1 hg2 hm2 h na2) na) fun σ H Q ⟨G, B, env, d, env', ok, e, k⟩ => by
    obtain ⟨ds, e1, q1, q2⟩ := bnd_some e
    obtain ⟨as, e2, q3, q4⟩ := bnd_some q1
    obtain ⟨x, e3, q5, q6⟩ := bnd_some q3
    obtain ⟨xs, e4, q7, q8⟩ := bnd_some q6
    cases ret_some q7
    cases ret_some q8
    obtain ⟨rs, q9, q10⟩ := lft_some q4
    cases q10
    split at q2
    rotate_left
    · cases q2
    rename_i hl
    cases ret_some q2
    unfold range1 at q9
    split at q9
    rotate_left
    · cases q9
    rename_i j hx
    cases hx
    split at q9
    rotate_left
    · cases q9
    rename_i hj
    cases q9
    refine tD_of ok q5 fun v B1 H1 ok1 _ r1 => ⟨j, r1, ?_, fun q hq => ?_⟩
    · unfold small62 at hj
      rw [Bool.and_eq_true] at hj
      have h1 := of_decide_eq_true hj.1
      have h2 := of_decide_eq_true hj.2
      have h3 := lim_ok hl
      unfold rangeD at h3
      rw [List.length_map, List.length_range] at h3
      have h4 : sizeLine = 2 ^ 24 := by decide
      refine ⟨by decide, by decide, h1, h2, ?_⟩
      rw [Int.sub_zero]
      omega
    · refine k (.ref q) _ _ (ok1.lay hq) ⟨q, rgV 0 j, rfl, SqT.of upd_same, ?_⟩
      unfold rangeD rgV
      rw [Int.sub_zero]
      exact rgV_reps 0 _
end
end Dv
namespace Dv
open PySem PySem.Spec PyProof.Rows L2 Evl
/-! ### x[::-1] of tuples and lists -/
section
variable {prog : Program} {w : World} {A : Around} {E : Value → Shared → Prop} {s : Shared}
theorem sliceApplied_rev {sl : Addr} {vl vu vs : Value} {n : Nat} {Q : Int × Int × Nat → Shared → Prop} (hs : s.heap.IsSliceOf sl vl vu vs) (pl : IsPart vl none) (pu : IsPart vu none) (ps : IsPart vs (some (-1)))
    (h : Q ((n : Int) - 1, -1, n) s) : wpAny (model prog w) A (Builtin.Slice.sliceApplied (.ref sl) (pure (n : Int))) Q E s := by
  obtain ⟨os, hos, hcs, hds⟩ := id hs
  unfold Builtin.Slice.sliceApplied Builtin.Slice.sliceFields
  refine wpAny_bind (wpAny_bind (wpAny_field hos hds (x := vl) rfl (wpAny_bind (wpAny_field hos hds (x := vu) rfl (wpAny_bind (wpAny_field hos hds (x := vs) rfl (wpAny_pure ?_)))))))
  refine wpAny_bind (HT.slicePart_ ps ?_)
  show wpAny _ _ (if ((-1 : Int) == 0) = true then _ else _) _ _ s
  rw [if_neg (by decide)]
  refine wpAny_bind (HT.slicePart_ pl (wpAny_bind (HT.slicePart_ pu (wpAny_bind (wpAny_pure ?_)))))
  show wpAny _ _ (match Builtin.Slice.sliceAdjust none none (-1) (n : Int) with | (lo, hi) => pure (lo, (-1 : Int), Builtin.Slice.slicePlaces lo hi (-1))) _ _ s
  have e1 : Builtin.Slice.sliceAdjust none none (-1) (n : Int) = ((n : Int) - 1, -1) := rfl
  rw [e1]
  show wpAny _ _ (pure ((n : Int) - 1, (-1 : Int), Builtin.Slice.slicePlaces ((n : Int) - 1) (-1) (-1))) _ _ s
  have e2 : Builtin.Slice.slicePlaces ((n : Int) - 1) (-1) (-1) = n := by
    unfold Builtin.Slice.slicePlaces
    rw [if_neg (by decide)]
    split
    · have : ((n : Int) - 1 - -1 - 1) / (- -1) = (n : Int) - 1 := by
        rw [Int.neg_neg, Int.ediv_one]; omega
      rw [this]; omega
    · omega
  rw [e2]
  exact wpAny_pure h
theorem pick_rev (xs : List Value) : ((List.range xs.toArray.size).filterMap fun (k : Nat) => xs.toArray[(((xs.toArray.size : Nat) : Int) - 1 + (k : Int) * (-1)).toNat]?).toArray = xs.reverse.toArray := by
  congr 1
  rw [List.size_toArray]
  have e : ∀ n, n ≤ xs.length → ((List.range n).filterMap fun (k : Nat) => xs.toArray[((xs.length : Int) - 1 + (k : Int) * (-1)).toNat]?) = xs.reverse.take n := by
    intro n
    induction n with
    | zero => intro _; simp
    | succ n ih =>
      intro hn
      rw [List.range_succ, List.filterMap_append, ih (by omega), List.take_add_one]
      congr 1
      have hi : ((xs.length : Int) - 1 + (n : Int) * (-1)).toNat = xs.length - 1 - n := by omega
      have hg : xs.toArray[((xs.length : Int) - 1 + (n : Int) * (-1)).toNat]? = xs.reverse[n]? := by
        rw [hi, List.getElem?_toArray, List.getElem?_reverse (by omega)]
      simp only [List.filterMap_cons, List.filterMap_nil, hg]
      have : n < xs.reverse.length := by rw [List.length_reverse]; omega
      rw [List.getElem?_eq_getElem this]
      rfl
  rw [e xs.length (Nat.le_refl _)]
  exact List.take_of_length_le (by rw [List.length_reverse]; exact Nat.le_refl _)
theorem getItem_tuple_rev {t sl : Addr} {its : List Value} {vl vu vs : Value} {Q : Value → Shared → Prop} (ht : IsTup s.heap t its.toArray) (hs : s.heap.IsSliceOf sl vl vu vs) (pl : IsPart vl none) (pu : IsPart vu none) (ps : IsPart vs (some (-1)))
    (h : Q (.ref s.heap.objs.size) { s with heap := s.heap.push { cls := .type "tuple", data := .seq its.reverse.toArray } }) (hsz : its.length ≤ sizeLine) : wpAny (model prog w) A (getItem (.ref t) (.ref sl)) Q E s := by
  have htake : sizeOk (.seq its.reverse.toArray) := by
    show its.reverse.toArray.size ≤ sizeLine
    rw [List.size_toArray, List.length_reverse]
    exact hsz
  obtain ⟨os, hos, hcs, hds⟩ := id hs
  have hTs : s.TypeIs (.ref sl) "slice" := ⟨os, hos, hcs⟩
  unfold getItem
  try with_reducible refine wpAny_holding ?_
  first | refine wpAny_bind (wpAny_pure ?_) | skip
  refine wpAny_bind (wpAny_sequenceKey ht.typeIs (by decide) ?_)
  refine wpAny_bind (wpAny_callSpecial?_slot (name := Str.ofString "__getitem__") ht.typeIs PyProof.Rows.slot_tuple_getitem
    (wpAny_call_entry PyProof.Rows.slot_tuple_getitem ht.typeIs entry_tuple_getitem ?_ (args_tuple_getitem _ _)))
  show wpAny _ _ (Builtin.Tuple.tupleItemsOf (.ref t) >>= _) _ _ s
  refine wpAny_bind (tupleItemsOf_ ht ?_)
  refine wpAny_bind (wpAny_typeOf hTs ?_)
  rw [if_pos (by decide)]
  refine wpAny_bind (sliceApplied_rev hs pl pu ps ?_)
  show wpAny _ _ (if ((((its.toArray.size : Nat) : Int) - 1) == 0 && (-1 : Int) == 1 && its.toArray.size == its.toArray.size) = true then _ else _) _ _ s
  rw [if_neg (by simp), pick_rev]
  first
    | exact wpAny_bind (m := Builtin.Tuple.tupleExact _) (wpAny_newObj_type (wpAny_pure ⟨_, rfl, wpAny_pure h⟩) htake)
    | exact wpAny_bind (m := Builtin.Tuple.tupleExact _) (wpAny_newObj_type (wpAny_bind (wpAny_pure (wpAny_pure ⟨_, rfl, wpAny_pure h⟩))) htake)
    | exact wpAny_bind (wpAny_bind (m := Builtin.Tuple.tupleExact _) (wpAny_newObj_type (wpAny_pure (wpAny_pure ⟨_, rfl, wpAny_pure h⟩)) htake))
    | exact wpAny_bind (wpAny_bind (m := Builtin.Tuple.tupleExact _) (wpAny_newObj_type (wpAny_pure ⟨_, rfl, wpAny_pure h⟩) htake))
theorem slicePick_rev (its : List Value) : slicePick its.toArray none none (some (-1)) = its.reverse.toArray := by
  unfold slicePick
  congr 1
  show (sliceRange ((its.toArray.size : Int) - 1) (-1) (-1)).filterMap (its.toArray[·]?) = its.reverse
  rw [PySem.W.krv_sliceRange, PySem.W.krv_range, List.filterMap_reverse, PySem.W.krv_all]
end
/-! ### a tuple is no dict -/
theorem tuple_eq_declines_dict (l b : Addr) (items : Array Value) (es : Array DictEntry) (ep n : Nat) (dd dd2 : Option Addr) (sl sl2 : Array (Option Value)) :
    Meets (Builtin.«tuple.__eq__» ⟨[.ref l, .ref b], []⟩) (fun _ R s => s.heap.get? l = some { cls := .type "tuple", dict := dd, data := .seq items n, slots := sl } ∧ s.heap.get? b = some { cls := .type "dict", dict := dd2, data := .dict es ep, slots := sl2 } ∧ R (.ok (.ret .notImplemented)) s) :=
  .of_wp fun prog w A R s h => by obtain ⟨hp, g, d, tk, os⟩ := s; obtain ⟨hl, hb, h⟩ := h; have f1 := F.sub_dict_tuple; wp_walk using wpAny_loadPart' hl, wpAny_loadPart' hb; exact ⟨_, rfl, h⟩
theorem dict_eq_declines_tuple (b l : Addr) (items : Array Value) (es : Array DictEntry) (ep n : Nat) (dd dd2 : Option Addr) (sl sl2 : Array (Option Value)) :
    Meets (Builtin.«dict.__eq__» ⟨[.ref b, .ref l], []⟩) (fun _ R s => s.heap.get? b = some { cls := .type "dict", dict := dd2, data := .dict es ep, slots := sl2 } ∧ s.heap.get? l = some { cls := .type "tuple", dict := dd, data := .seq items n, slots := sl } ∧ R (.ok (.ret .notImplemented)) s) :=
  .of_wp fun prog w A R s h => by obtain ⟨hp, g, d, tk, os⟩ := s; obtain ⟨hl, hb, h⟩ := h; have f1 := F.sub_tuple_dict; wp_walk using wpAny_loadPart' hl, wpAny_loadPart' hb; exact ⟨_, rfl, h⟩
section
variable {X : Cx}
/-- x[::-1]: any sequence -/
def revA : D → Option Int → Option D
  | .str s, some (-1) => if lim s.length = true then some (.str s.reverse) else none
  | .tup ds, some (-1) => some (.tup ds.reverse)
  | .lst ds, some (-1) => some (.lst ds.reverse)
  | .fls ds, some (-1) => some (.lst ds.reverse)
  | _, _ => none
def eRevA (a : M D) (st : M (Option Int)) : M D := bnd a fun x => bnd st fun l => lft (revA x l)
def rRevQ (K : PySem.W.Frag) (x : V) (H : Hp) (Q : VK) : Prop := (∃ s : List Nat, x = .str (mkS s) ∧ lim s.length = true ∧ Q (.str (mkS s.reverse)) H) ∨
  (∃ a xs, x = .ref a ∧ SqT K H a xs ∧ ∀ p, H p = none → Q (.ref p) (upd H p (.tup xs.reverse))) ∨ (∃ a xs, x = .ref a ∧ SqL K H a xs ∧ ∀ p, H p = none → Q (.ref p) (upd H p (.lst xs.reverse)))
def tRevA (K : PySem.W.Frag) (te : TE) (to : TO) : TE := fun σ H Q => te σ H fun x H1 => to σ H1 fun o H2 => o = some (-1) ∧ rRevQ K x H2 Q
theorem vals_rev {xs : List V} {us : List Value} (h : Vals xs us) : Vals xs.reverse us.reverse := by
  induction h with
  | nil => exact .nil
  | cons r rs ih =>
    rw [List.reverse_cons, List.reverse_cons]
    exact Vals.append ih (.cons r .nil)
theorem pe_revA {e st : Expr} {te : TE} {to : TO} {p3 pos : Pos} (he : PE X e te) (hst : PO X (some st) to) (hsub : ∀ o i, subscripted (.Slice none none (some st) p3) false o i = operate [o, i] (getItem o i) := by intros; rfl) : PE X (.Subscript e (.Slice none none (some st) p3) pos) (tRevA X.K te to) := by
  refine ⟨fun pins s σ H Q I h => ?_⟩
  refine Subscript_ (thn (he.run pins s σ H _ I h) fun v s1 ⟨x, H1, I1, r1, q1⟩ => ?_)
  refine wpAny_Slice (thn (po_none.run pins s1 σ H1 (fun o H2 => o = none ∧ H2 = H1) I1 ⟨rfl, rfl⟩) fun vl s2 ⟨l, H2, I2, pl, el, e2⟩ => ?_)
  subst el e2
  refine thn (po_none.run pins s2 σ H2 (fun o H3 => o = none ∧ H3 = H2) I2 ⟨rfl, rfl⟩) fun vu s3 ⟨u, H3, I3, pu, eu, e3⟩ => ?_
  subst eu e3
  refine thn (hst.run pins s3 σ H3 _ I3 q1) fun vs s4 ⟨o, H4, I4, ps, eo, hq⟩ => ?_
  subst eo
  have I5 : Inv X pins σ H4 { s4 with heap := s4.heap.push { cls := .type "slice", data := .fields #[vl, vu, vs] } } := I4.kept (t' := s4.toks) fun b ob q => Heap.get?_push_of_some _ q
  rcases hq with ⟨z, ex, hl, q⟩ | ⟨a, xs, ex, hx, q⟩ | ⟨a, xs, ex, hx, q⟩
  · subst ex
    obtain ⟨t, rfl⟩ := r1
    obtain ⟨l1, rfl, e1⟩ := IsPart.raw pl
    obtain ⟨u1, rfl, e2⟩ := IsPart.raw pu
    obtain ⟨o1, rfl, e3⟩ := IsPart.raw ps
    show wpAny (model X.prog X.w) X.A (subscriptTail e (.Slice none none (some st) p3) (.str (mkS z) t) (.ref s4.heap.objs.size)) (EP X pins σ Q) X.xe { s4 with heap := s4.heap.push { cls := .type "slice", data := .fields #[partValue l1, partValue u1, partValue o1] } }
    have hstep : (o1.map (·.1)).getD 1 = -1 := by rw [e3]; rfl
    refine tail_any (ops := [.str (mkS z) t, .ref s4.heap.objs.size]) (typeIs_str _ _ _) (F.slot_str_getitem.lookup) ?_ (hsub _ _)
    refine wpAny_getItem_str_slice (l := l1) (u := u1) (st := o1) ⟨_, Heap.get?_push_size _ rfl, rfl, rfl⟩ (by rw [hstep]; rfl) ?_
    have hmade : sliceMade (mkS z) t l1 u1 o1 = .str (mkS z.reverse) := by
      unfold sliceMade
      rw [hstep, if_neg (by intro h; simp at h)]
      have : slicePicked (mkS z) l1 u1 o1 = Builtin.Str.strSliceIndices none none (-1) (mkS z).length := by
        unfold slicePicked
        rw [hstep, e1, e2]
      rw [this, rev_picked]
    rw [hmade]
    refine ⟨?_, ⟨.str (mkS z.reverse), H4, I5.tok _, ⟨_, rfl⟩, q⟩⟩
    show (mkS z.reverse).length ≤ sizeLine
    rw [mkS_len, List.length_reverse]
    exact lim_ok hl
  · subst ex
    cases r1
    obtain ⟨its, r, ht, hz⟩ := I5.tuple hx
    refine tail_any (ops := [.ref a, .ref s4.heap.objs.size]) ht.typeIs PyProof.Rows.slot_tuple_getitem.lookup ?_ (hsub _ _)
    refine getItem_tuple_rev ht (Heap.IsSliceOf.new ..) pl pu ps ?_ (by rw [← r.length]; exact hz)
    refine ⟨.ref _, _, I5.laid (t' := s4.toks) (o := .tup xs.reverse) (fun b ob q => Heap.get?_push_of_some _ q) (Nat.le_refl _) ?_, rfl, q _ (I5.hok.fresh (Nat.le_refl _))⟩
    exact ⟨by rw [List.length_reverse]; exact hz, _, vals_rev r, IsTup.new _ _⟩
  · subst ex
    cases r1
    obtain ⟨its, r, ht, hz⟩ := I5.list hx
    have hlen := r.length
    refine tail_any (ops := [.ref a, .ref s4.heap.objs.size]) ht.isList.typeIs slot_list_getitem.lookup ?_ (hsub _ _)
    refine wpAny_getItem_list_slice ht.isList (Heap.IsSliceOf.new ..) pl pu ps (by simp) ?_ (by rw [List.size_toArray] <;> omega)
    rw [slicePick_rev]
    refine ⟨.ref _, _, I5.laid (t' := s4.toks) (o := .lst xs.reverse) (fun b ob q => Heap.get?_push_of_some _ q) (Nat.le_refl _) ?_, rfl, q _ (I5.hok.fresh (Nat.le_refl _))⟩
    exact ⟨by rw [List.length_reverse]; exact hz, _, 0, vals_rev r, Heap.get?_push_size _ rfl⟩
theorem pd_revA {a st : Expr} {ma : M D} {ms : M (Option Int)} {p3 pos : Pos} (ha : PD X a ma) (hst : PDO X (some st) ms) (hsub : ∀ o i, subscripted (.Slice none none (some st) p3) false o i = operate [o, i] (getItem o i) := by intros; rfl) : PD X (.Subscript a (.Slice none none (some st) p3) pos) (eRevA ma ms) :=
  pe_mono (pe_revA ha hst hsub) fun σ H Q ⟨G, B, env, d, env', ok, e, k⟩ => by
    obtain ⟨x, e1, q1, e⟩ := bnd_some e
    obtain ⟨l, e2, q2, e⟩ := bnd_some e
    obtain ⟨z, q5, q6⟩ := lft_some e
    cases q6
    refine tD_of ok q1 fun v B1 H1 ok1 _ r1 => tO_of ok1 q2 fun B2 H2 ok2 ok2' => ?_
    have r2 := Rep.mono ok2'.mono _ _ r1
    unfold revA at q5
    split at q5
    · split at q5
      · rename_i hl
        cases q5
        exact ⟨rfl, .inl ⟨_, r1, hl, k _ B2 H2 ok2 rfl⟩⟩
      · cases q5
    · cases q5
      obtain ⟨a, vs, rfl, h1, h2⟩ := r2
      exact ⟨rfl, .inr (.inl ⟨a, vs, rfl, ex_t ok2.sub h1, fun p hp => k _ _ _ (ok2.lay hp) ⟨p, _, rfl, SqT.of upd_same, Reps.mono (Ex.new (fresh_back ok2.sub hp)) _ _ h2.reverse⟩⟩)⟩
    · cases q5
      obtain ⟨a, vs, rfl, h1, h2⟩ := r2
      exact ⟨rfl, .inr (.inr ⟨a, vs, rfl, SqL.of (ok2.sub _ _ h1), fun p hp => k _ _ _ (ok2.lay hp) ⟨p, _, rfl, upd_same, Reps.mono (Ex.new (fresh_back ok2.sub hp)) _ _ h2.reverse⟩⟩)⟩
    · cases q5
      obtain ⟨a, vs, rfl, h1, h2⟩ := r2
      exact ⟨rfl, .inr (.inr ⟨a, vs, rfl, ex_l ok2.sub h1, fun p hp => k _ _ _ (ok2.lay hp) ⟨p, _, rfl, upd_same, Reps.mono (Ex.new (fresh_back ok2.sub hp)) _ _ h2.reverse⟩⟩)⟩
    · cases q5

/-! ### a tuple and a dict are never equal -/
def eqXX : D → D → Option D
  | .tup _, .dct _ _ => some (.bl false)
  | _, _ => none
def eqX : D → D → Option D
  | .tup _, .dct _ _ => some (.bl false)
  | d, e => eqD d e
def rEqTD (K : PySem.W.Frag) : R2 := fun x y H Q => ∃ a b xs kvs, x = .ref a ∧ y = .ref b ∧ SqT K H a xs ∧ Rd H b (.dK kvs) ∧ Q (.bl false) H
theorem op_eqTD (hu : X.A.units < cLine) : OpR X (compareOp .Eq) (rEqTD X.K) := by
  intro pins s σ H x y v u Q I rx ry h
  obtain ⟨a, b, xs, kvs, rfl, rfl, ha, hb, q⟩ := h
  cases rx
  cases ry
  obtain ⟨its, r, ht, hz⟩ := I.tuple ha
  obtain ⟨_, _, vs, _, o, es, ep, h1, ⟨h2, h3, h4⟩, h5, _⟩ := dk_rd I.hok hb
  obtain ⟨⟨cls, dd, data, sl⟩, ho, hc, n, hd⟩ := id ht
  obtain ⟨cls2, dd2, data2, sl2⟩ := o
  simp only at hc hd h2 h3 h4 h5
  subst hc hd h2 h3 h4 h5
  have hne : a ≠ b := fun e => by
    subst e
    rw [ho] at h1
    have h1 := congrArg Obj.cls (Option.some.inj h1)
    exact absurd h1 (by simp)
  exact (PySem.SeqAt.rc_eq_decline_or (k := false) ⟨_, ho, rfl⟩ ⟨_, h1, rfl⟩ (by decide) F.sub_dict_tuple F.slot_tuple_eq F.slot_dict_eq_refl
    (fun _ hq => call_meets F.slot_tuple_eq ⟨_, ho, rfl⟩ F.entry_tuple_eq (F.args_tuple_eq_2 _ _) (tuple_eq_declines_dict a b its.toArray es ep n dd none sl #[]) ⟨ho, h1, hq⟩)
    (fun _ hq => call_meets F.slot_dict_eq_refl ⟨_, h1, rfl⟩ F.entry_dict_eq (F.args_dict_eq_2 _ _) (dict_eq_declines_tuple b a its.toArray es ep n dd none sl #[]) ⟨h1, ho, hq⟩)
    (fun _ hq => PySem.SeqAt.wpAny_isSame_ref_other' hne ho h1 (by simp) hq) (.inr hu) ⟨.bl false, H, I, rfl, q⟩)
theorem op_eqXX {k : Nat} (hr : Room k X.A) : OpS X (compareOp .Eq) eqXX := ⟨_, op_eqTD (by have := hr.un; omega), fun B H x y d e z Q ex rx ry ez q => by
  unfold eqXX at ez
  split at ez
  · cases ez
    obtain ⟨a, vs, rfl, h1, _⟩ := rx
    obtain ⟨b, o, kvs, rfl, h2, _⟩ := ry
    exact ⟨a, b, vs, kvs, rfl, rfl, ex_t ex h1, .inr ⟨o, ex _ _ h2⟩, q _ fun _ => rfl⟩
  · cases ez⟩
theorem op_eqX {k : Nat} (hr : Room k X.A) : OpS X (compareOp .Eq) eqX := ((op_eqXX hr).or (op_eqq hr)).sub fun d e z h => by
  unfold eqX at h
  split at h
  · exact orF_l h
  · rename_i h2
    refine orF_r ?_ h
    unfold eqXX
    split
    · exact absurd rfl (fun z => h2 _ _ _ rfl z)
    · rfl
end
end Dv
/-! Code on data, walked backwards from what is wanted: no frame has to be written. -/
namespace Dv
open PySem PySem.Spec PyProof.Rows L2 Evl
section
variable {α β : Type}
def Wp (m : M α) (e : Lvs) (Q : α → Lvs → Prop) : Prop := ∃ a e', m e = some (a, e') ∧ Q a e'
def Ws (m : MS) (e : Lvs) (Q : Out → Lvs → Prop) : Prop := ∃ a e', m e = some (a, e') ∧ Q a e'
/-- what an operation gives -/
def Op (o : Option α) (Q : α → Prop) : Prop := ∃ a, o = some a ∧ Q a
/-- what a def gives -/
def Ret (o : Option (D × List D)) (P : D → List D → Prop) : Prop := ∃ r bs, o = some (r, bs) ∧ P r bs
theorem Ret.mono {o : Option (D × List D)} {P Q : D → List D → Prop} (h : Ret o P) (i : ∀ r bs, P r bs → Q r bs) : Ret o Q := by
  obtain ⟨r, bs, h1, h2⟩ := h
  exact ⟨r, bs, h1, i r bs h2⟩
theorem ret_is {o : Option (D × List D)} {r : D} {bs : List D} {P : D → List D → Prop} (h : o = some (r, bs)) (q : P r bs) : Ret o P := ⟨r, bs, h, q⟩
theorem Ret.is {o : Option (D × List D)} {r : D} {bs : List D} (h : Ret o fun a b => a = r ∧ b = bs) : o = some (r, bs) := by
  obtain ⟨a, b, h1, h2, h3⟩ := h
  rw [h1, h2, h3]
theorem op_is {o : Option α} {a : α} {Q : α → Prop} (h : o = some a) (q : Q a) : Op o Q := ⟨a, h, q⟩
/-- the value is of a kind -/
def IsB (d : D) (Q : Bool → Prop) : Prop := ∃ b, d = .bl b ∧ Q b
def IsI (d : D) (Q : Int → Prop) : Prop := ∃ b, d = .int b ∧ Q b
def IsS (d : D) (Q : List Nat → Prop) : Prop := ∃ b, d = .str b ∧ Q b
theorem isB_bl {b : Bool} {Q : Bool → Prop} (h : Q b) : IsB (.bl b) Q := ⟨b, rfl, h⟩
theorem isI_int {b : Int} {Q : Int → Prop} (h : Q b) : IsI (.int b) Q := ⟨b, rfl, h⟩
theorem isS_str {b : List Nat} {Q : List Nat → Prop} (h : Q b) : IsS (.str b) Q := ⟨b, rfl, h⟩
/-- two ways -/
def Br (b : Bool) (P R : Prop) : Prop := (b = true → P) ∧ (b = false → R)
theorem br_true {P R : Prop} (h : P) : Br true P R := ⟨fun _ => h, fun q => by cases q⟩
theorem br_false {P R : Prop} (h : R) : Br false P R := ⟨fun q => Bool.noConfusion q, fun _ => h⟩
theorem br_t {b : Bool} {P R : Prop} (hb : b = true) (h : P) : Br b P R := ⟨fun _ => h, fun q => by rw [hb] at q; cases q⟩
theorem br_f {b : Bool} {P R : Prop} (hb : b = false) (h : R) : Br b P R := ⟨fun q => (by rw [hb] at q; cases q), fun _ => h⟩
theorem br_not {b : Bool} {P R : Prop} (h : Br b R P) : Br (!b) P R := ⟨fun q => h.2 (by cases b; rfl; cases q), fun q => h.1 (by cases b; cases q; rfl)⟩
theorem br_and {a b : Bool} {P R : Prop} (h : Br a (Br b P R) R) : Br (a && b) P R := by
  cases a
  · exact ⟨fun q => Bool.noConfusion q, fun _ => h.2 rfl⟩
  · exact h.1 rfl
theorem br_or {a b : Bool} {P R : Prop} (h : Br a P (Br b P R)) : Br (a || b) P R := by
  cases a
  · exact h.2 rfl
  · exact ⟨fun _ => h.1 rfl, fun q => by cases q⟩
theorem br_dec {p : Prop} [Decidable p] {P R : Prop} (h : p → P) (h2 : ¬ p → R) : Br (decide p) P R := ⟨fun q => h (of_decide_eq_true q), fun q => h2 (of_decide_eq_false q)⟩
theorem br_decT {p : Prop} [Decidable p] {P R : Prop} (hp : p) (h : P) : Br (decide p) P R := br_t (decide_eq_true hp) h
theorem br_decF {p : Prop} [Decidable p] {P R : Prop} (hp : ¬ p) (h : R) : Br (decide p) P R := br_f (decide_eq_false hp) h
theorem br_isN {P R : Prop} (h : P) : Br (isNon .non) P R := br_t rfl h
theorem br_isN_int {i : Int} {P R : Prop} (h : R) : Br (isNon (.int i)) P R := br_f rfl h
theorem br_isN_str {i : List Nat} {P R : Prop} (h : R) : Br (isNon (.str i)) P R := br_f rfl h
theorem br_isN_bl {i : Bool} {P R : Prop} (h : R) : Br (isNon (.bl i)) P R := br_f rfl h
theorem br_isN_lst {i : List D} {P R : Prop} (h : R) : Br (isNon (.lst i)) P R := br_f rfl h
theorem br_isN_tup {i : List D} {P R : Prop} (h : R) : Br (isNon (.tup i)) P R := br_f rfl h
theorem br_same {b : Bool} {P : Prop} (h : P) : Br b P P := ⟨fun _ => h, fun _ => h⟩
theorem br_case {b : Bool} {P R : Prop} (h : b = true → P) (h2 : b = false → R) : Br b P R := ⟨h, h2⟩

variable {e e1 : Lvs} {i j : Nat} {d : D} {f : D → D → Option D} {ma mb mc : M D} {mt mu : M Bool} {ml : M (List D)} {mo mp : M (Option Int)} {sa sb : MS} {Q : D → Lvs → Prop} {QB : Bool → Lvs → Prop} {QL : List D → Lvs → Prop} {QS : Out → Lvs → Prop} {QV : List Av → Lvs → Prop} {QO : Option Int → Lvs → Prop} {P : Prop}
theorem w_bnd {m : M α} {k : α → M β} {Q : β → Lvs → Prop} (h : Wp m e fun a e1 => Wp (k a) e1 Q) : Wp (bnd m k) e Q := by
  obtain ⟨a, e1, h1, b, e2, h2, h3⟩ := h
  exact ⟨b, e2, ev_bnd h1 h2, h3⟩
theorem w_ret {a : α} {Q : α → Lvs → Prop} (h : Q a e) : Wp (ret a) e Q := ⟨a, e, rfl, h⟩
theorem w_lft {o : Option α} {Q : α → Lvs → Prop} (h : Op o fun a => Q a e) : Wp (lft o) e Q := by
  obtain ⟨a, h1, h2⟩ := h
  exact ⟨a, e, ev_lft h1, h2⟩
theorem w_is {m : M α} {a : α} {Q : α → Lvs → Prop} (h : m e = some (a, e1)) (q : Q a e1) : Wp m e Q := ⟨a, e1, h, q⟩
theorem Wp.mono {m : M α} {Q R : α → Lvs → Prop} (h : Wp m e Q) (i : ∀ a e1, Q a e1 → R a e1) : Wp m e R := by
  obtain ⟨a, e1, h1, h2⟩ := h
  exact ⟨a, e1, h1, i a e1 h2⟩
theorem Ws.mono {m : MS} {Q R : Out → Lvs → Prop} (h : Ws m e Q) (i : ∀ a e1, Q a e1 → R a e1) : Ws m e R := by
  obtain ⟨a, e1, h1, h2⟩ := h
  exact ⟨a, e1, h1, i a e1 h2⟩
theorem w_C (h : Q d e) : Wp (eC d) e Q := ⟨d, e, rfl, h⟩
theorem w_var (hl : e[i]? = some (.val d)) (h : Q d e) : Wp (eVar i) e Q := ⟨d, e, ev_var hl, h⟩
theorem w_varO {p : Bool} (hl : e[i]? = some (.own p d)) (hs : e.set i (.val d) = e1) (h : Q d e1) : Wp (eVar i) e Q := ⟨d, e1, ev_varO hl hs, h⟩
theorem w_peek (hl : e[i]? = some (.val d)) (h : Q d e) : Wp (ePeek i) e Q := ⟨d, e, ev_peek hl, h⟩
theorem w_peekO {p : Bool} {ds : List D} (hl : e[i]? = some (.own p (.lst ds))) (h : Q (.lst ds) e) : Wp (ePeek i) e Q := ⟨_, e, ev_peekO hl, h⟩
theorem w_pk (hl : e[i]? = some (.val d)) (h : Q d e) : Wp (ePk i) e Q := ⟨d, e, ev_pk hl, h⟩
theorem w_pkO {p : Bool} {ds : List D} (hl : e[i]? = some (.own p (.lst ds))) (h : Q (.lst ds) e) : Wp (ePk i) e Q := ⟨_, e, ev_pkO hl, h⟩
theorem w_pkD {p : Bool} {ks : List KD} {ds : List D} (hl : e[i]? = some (.own p (.dct ks ds))) (h : Q (.dct ks ds) e) : Wp (ePk i) e Q := ⟨_, e, ev_pkD hl, h⟩
theorem w_eOwn {p : Bool} (hl : e[i]? = some (.own p d)) (h : Q d e) : Wp (eOwn i) e Q := ⟨d, e, ev_eOwn hl, h⟩
theorem w_op (h : Wp ma e fun x e1 => Wp mb e1 fun y e2 => Op (f x y) fun z => Q z e2) : Wp (eOp f ma mb) e Q := w_bnd (h.mono fun _ _ h => w_bnd (h.mono fun _ _ h => w_lft h))
theorem w_opL (h : Wp (ePeek i) e fun _ e1 => Wp mb e1 fun y e2 => Wp (ePeek i) e2 fun x e3 => Op (f x y) fun z => Q z e3) : Wp (eOpL f i mb) e Q := w_bnd (h.mono fun _ _ h => w_bnd (h.mono fun _ _ h => w_bnd (h.mono fun _ _ h => w_lft h)))
theorem w_opR (h : Wp ma e fun x e1 => Wp (ePeek j) e1 fun y e2 => Op (f x y) fun z => Q z e2) : Wp (eOpR f ma j) e Q := w_bnd (h.mono fun _ _ h => w_bnd (h.mono fun _ _ h => w_lft h))
theorem w_opB (h : Wp (ePeek i) e fun x e1 => Wp (ePeek j) e1 fun y e2 => Op (f x y) fun z => Q z e2) : Wp (eOpB f i j) e Q := w_bnd (h.mono fun _ _ h => w_bnd (h.mono fun _ _ h => w_lft h))
theorem w_test (h : Wp ma e fun d e1 => IsB d fun b => QB b e1) : Wp (eTest ma) e QB := w_bnd (h.mono fun _ _ ⟨b, h1, h2⟩ => by subst h1; exact ⟨b, _, rfl, h2⟩)
theorem w_cons (h : Wp ma e fun d e1 => Wp ml e1 fun ds e2 => QL (d :: ds) e2) : Wp (aCons ma ml) e QL := w_bnd (h.mono fun _ _ h => w_bnd (h.mono fun _ _ h => w_ret h))
def Gd (b : Bool) (P : Prop) : Prop := b = true ∧ P
theorem gd_is {b : Bool} {P : Prop} (h : b = true) (p : P) : Gd b P := ⟨h, p⟩
def Gp (b : Bool) (P : Prop) : Prop := b = true ∧ P
theorem gp_is {b : Bool} {P : Prop} (h : b = true) (p : P) : Gp b P := ⟨h, p⟩
theorem w_lst (h : Wp ml e fun ds e1 => Gd (lim ds.length) (Q (.lst ds) e1)) : Wp (eLst ml) e Q := w_bnd (h.mono fun _ _ ⟨h1, h2⟩ => by rw [if_pos h1]; exact w_ret h2)
theorem w_tup (h : Wp ml e fun ds e1 => Gd (lim ds.length) (Q (.tup ds) e1)) : Wp (eTup ml) e Q := w_bnd (h.mono fun _ _ ⟨h1, h2⟩ => by rw [if_pos h1]; exact w_ret h2)
theorem w_ix (h : Wp ma e fun x e1 => Wp mb e1 fun y e2 => Op (ixD x y) fun z => Q z e2) : Wp (eIx ma mb) e Q := w_bnd (h.mono fun _ _ h => w_bnd (h.mono fun _ _ h => w_lft h))
theorem w_ixV (h : Wp (ePk i) e fun _ e1 => Wp mb e1 fun y e2 => Wp (ePk i) e2 fun x e3 => Op (ixD x y) fun z => Q z e3) : Wp (eIxV i mb) e Q := w_bnd (h.mono fun _ _ h => w_bnd (h.mono fun _ _ h => w_bnd (h.mono fun _ _ h => w_lft h)))
theorem w_oN (h : QO none e) : Wp oNone e QO := ⟨none, e, rfl, h⟩
theorem w_oS (h : Wp ma e fun d e1 => IsI d fun k => QO (some k) e1) : Wp (oSome ma) e QO := w_bnd (h.mono fun _ _ ⟨b, h1, h2⟩ => by subst h1; exact ⟨_, _, rfl, h2⟩)
theorem w_sl (h : Wp ma e fun x e1 => Wp mo e1 fun l e2 => Wp mp e2 fun r e3 => Op (slD x l r) fun z => Q z e3) : Wp (eSl ma mo mp) e Q := w_bnd (h.mono fun _ _ h => w_bnd (h.mono fun _ _ h => w_bnd (h.mono fun _ _ h => w_lft h)))
theorem w_rev (h : Wp ma e fun x e1 => Wp mo e1 fun l e2 => Op (revS x l) fun z => Q z e2) : Wp (eRev ma mo) e Q := w_bnd (h.mono fun _ _ h => w_bnd (h.mono fun _ _ h => w_lft h))
theorem w_revA (h : Wp ma e fun x e1 => Wp mo e1 fun l e2 => Op (revA x l) fun z => Q z e2) : Wp (eRevA ma mo) e Q := w_bnd (h.mono fun _ _ h => w_bnd (h.mono fun _ _ h => w_lft h))
theorem w_callB {F : List D → Option D} (h : Wp ml e fun ds e1 => Op (F ds) fun z => Q z e1) : Wp (eCallB F ml) e Q := w_bnd (h.mono fun _ _ h => w_lft h)
theorem w_lenV (h : Wp (ePeek i) e fun x e1 => Op (lenD [x]) fun z => Q z e1) : Wp (eLenV i) e Q := w_bnd (h.mono fun _ _ h => w_lft h)
theorem w_methS {F : D → List D → Option D} (h : Wp ma e fun d e1 => IsS d fun s => Wp ml e1 fun ds e2 => Op (F (.str s) ds) fun z => Q z e2) : Wp (eMethS F ma ml) e Q := w_bnd (h.mono fun _ _ ⟨b, h1, h2⟩ => by subst h1; exact w_bnd (h2.mono fun _ _ h => w_lft h))
theorem w_bits (h : Wp ma e fun d e1 => IsI d fun k => Q (.int (Builtin.Int.intBits k : Nat)) e1) : Wp (eBits ma) e Q := w_bnd (h.mono fun _ _ ⟨b, h1, h2⟩ => by subst h1; exact ⟨_, _, rfl, h2⟩)
theorem w_neg (h : Wp ma e fun d e1 => IsI d fun k => Q (.int (-k)) e1) : Wp (eNeg ma) e Q := w_bnd (h.mono fun _ _ ⟨b, h1, h2⟩ => by subst h1; exact ⟨_, _, rfl, h2⟩)
theorem w_not (h : Wp ma e fun d e1 => IsB d fun b => Q (.bl (!b)) e1) : Wp (eNot ma) e Q := w_bnd (h.mono fun _ _ ⟨b, h1, h2⟩ => by subst h1; exact ⟨_, _, rfl, h2⟩)
theorem w_and (h : Wp ma e fun d e1 => IsB d fun b => Br b (Wp mb e1 Q) (Q (.bl false) e1)) : Wp (eAnd ma mb) e Q := w_bnd (h.mono fun _ _ ⟨b, h1, h2⟩ => by
  subst h1
  cases b
  · exact ⟨_, _, rfl, h2.2 rfl⟩
  · exact h2.1 rfl)
theorem w_or (h : Wp ma e fun d e1 => IsB d fun b => Br b (Q (.bl true) e1) (Wp mb e1 Q)) : Wp (eOr ma mb) e Q := w_bnd (h.mono fun _ _ ⟨b, h1, h2⟩ => by
  subst h1
  cases b
  · exact h2.2 rfl
  · exact ⟨_, _, rfl, h2.1 rfl⟩)
theorem w_bAnd (h : Wp mt e fun b e1 => Br b (Wp mu e1 QB) (QB false e1)) : Wp (bAnd mt mu) e QB := w_bnd (h.mono fun b _ h2 => by
  cases b
  · exact ⟨_, _, rfl, h2.2 rfl⟩
  · exact h2.1 rfl)
theorem w_bOr (h : Wp mt e fun b e1 => Br b (QB true e1) (Wp mu e1 QB)) : Wp (bOr mt mu) e QB := w_bnd (h.mono fun b _ h2 => by
  cases b
  · exact h2.2 rfl
  · exact ⟨_, _, rfl, h2.1 rfl⟩)
theorem w_bNot (h : Wp mt e fun b e1 => QB (!b) e1) : Wp (bNot mt) e QB := w_bnd (h.mono fun b _ h2 => ⟨_, _, rfl, h2⟩)
theorem w_eIf (h : Wp mt e fun b e1 => Br b (Wp ma e1 Q) (Wp mb e1 Q)) : Wp (eIf mt ma mb) e Q := w_bnd (h.mono fun b _ h2 => by
  cases b
  · exact h2.2 rfl
  · exact h2.1 rfl)
theorem w_chn {f g : D → D → Option D} (h : Wp ma e fun x e1 => Wp mb e1 fun y e2 => Op (f x y) fun z => IsB z fun b => Br b (Wp mc e2 fun w e3 => Op (g y w) fun z => Q z e3) (Q (.bl false) e2)) : Wp (eChn f g ma mb mc) e Q := w_bnd (h.mono fun _ _ h => w_bnd (h.mono fun _ _ h => by
  obtain ⟨z, h1, b, h2, h3⟩ := h
  subst h2
  refine w_bnd (w_lft ⟨_, h1, ?_⟩)
  cases b
  · exact ⟨_, _, rfl, h3.2 rfl⟩
  · exact w_bnd ((h3.1 rfl).mono fun _ _ h => w_lft h)))
theorem w_yes (h : QB true e) : Wp bYes e QB := ⟨true, e, rfl, h⟩
theorem w_iAny (h : Wp ma e fun d e1 => Op (itemsOf d) fun ds => QL ds e1) : Wp (iAny ma) e QL := w_bnd (h.mono fun _ _ h => w_lft h)
theorem w_enum (h : Wp ma e fun d e1 => Op ((itmOf d).map enumD) fun ds => QL ds e1) : Wp (iEnumM ma) e QL := w_bnd (h.mono fun _ _ h => w_lft h)
theorem w_zip (h : Wp ml e fun ds e1 => Op (zip2 ds) fun is => QL is e1) : Wp (iZipM ml) e QL := w_bnd (h.mono fun _ _ h => w_lft h)
theorem w_zipS (h : Wp ml e fun ds e1 => Op (zip2S ds) fun is => QL is e1) : Wp (iZipSM ml) e QL := w_bnd (h.mono fun _ _ h => w_lft h)
/-- the items of data, from the end; as a new list; as a tuple -/
def revO : D → Option (List D)
  | .str s => if lim s.length = true then some (s.reverse.map fun c => D.str [c]) else none
  | .lst ds => some ds.reverse
  | .fls ds => some ds.reverse
  | .tup ds => some ds.reverse
  | _ => none
def lstO : D → Option D
  | .str s => if lim s.length = true then some (.lst (s.map fun c => .str [c])) else none
  | .lst ds => some (.lst ds)
  | .fls ds => some (.lst ds)
  | .tup ds => some (.lst ds)
  | _ => none
def tupO : D → Option D
  | .lst ds => some (.tup ds)
  | .fls ds => some (.tup ds)
  | .tup ds => some (.tup ds)
  | _ => none
theorem w_revM (h : Wp ma e fun d e1 => Op (revO d) fun ds => QL ds e1) : Wp (iRevM ma) e QL := w_bnd (h.mono fun d e1 ⟨ds, h1, h2⟩ => by
  cases d with
  | str s =>
    have h1 : (if lim s.length = true then some (s.reverse.map fun c => D.str [c]) else none) = some ds := h1
    split at h1
    · rename_i hl
      cases h1
      show Wp (if lim s.length = true then ret (s.map fun c => D.str [c]).reverse else stuck) e1 QL
      rw [if_pos hl, ← List.map_reverse]
      exact w_ret h2
    · cases h1
  | lst es => cases h1; exact w_ret h2
  | fls es => cases h1; exact w_ret h2
  | tup es => cases h1; exact w_ret h2
  | _ => cases h1)
theorem w_listOf (h : Wp ma e fun d e1 => Op (lstO d) fun z => Q z e1) : Wp (eListOf ma) e Q := w_bnd (h.mono fun d e1 ⟨ds, h1, h2⟩ => by
  cases d with
  | str s =>
    have h1 : (if lim s.length = true then some (D.lst (s.map fun c => D.str [c])) else none) = some ds := h1
    split at h1
    · rename_i hl
      cases h1
      show Wp (if lim s.length = true then ret (D.lst (s.map fun c => D.str [c])) else stuck) e1 Q
      rw [if_pos hl]
      exact w_ret h2
    · cases h1
  | lst es => cases h1; exact w_ret h2
  | fls es => cases h1; exact w_ret h2
  | tup es => cases h1; exact w_ret h2
  | _ => cases h1)
theorem w_tupOf (h : Wp ma e fun d e1 => Op (tupO d) fun z => Q z e1) : Wp (eTupOf ma) e Q := w_bnd (h.mono fun d e1 ⟨ds, h1, h2⟩ => by
  cases d with
  | lst es => cases h1; exact w_ret h2
  | fls es => cases h1; exact w_ret h2
  | tup es => cases h1; exact w_ret h2
  | _ => cases h1)
theorem w_sumV (h : Wp (ePeek i) e fun x e1 => Op (sumD [x]) fun z => Q z e1) : Wp (eSumV i) e Q := w_bnd (h.mono fun _ _ h => w_lft h)
theorem w_sorted (h : Wp ma e fun d e1 => Op (srtO d) fun z => Q z e1) : Wp (eSorted ma) e Q := w_bnd (h.mono fun _ _ h => w_lft h)
theorem srt_of {ks : List (List Int)} (h : 2 ≤ ks.length → ∀ k ∈ ks, k ≠ []) : srtO (.lst (ks.map tupD)) = some (.lst ((sortK ks).map tupD)) := by
  show srtK (tupsOf (ks.map tupD)) = _
  rw [tupsOf_map]
  refine if_pos ?_
  by_cases c : ks.length < 2
  · exact .inl c
  · refine .inr (List.all_eq_true.mpr fun k hk => ?_)
    have := h (by omega) k hk
    cases k with
    | nil => exact absurd rfl this
    | cons _ _ => rfl
theorem rev_str {s : List Nat} (h : lim s.length = true) : revO (.str s) = some (s.reverse.map fun c => D.str [c]) := if_pos h
theorem lst_str {s : List Nat} (h : lim s.length = true) : lstO (.str s) = some (.lst (s.map fun c => .str [c])) := if_pos h
theorem zipS_of {a b : D} {xs ys : List D} (ha : itmOf a = some xs) (hb : itmOf b = some ys) (h : xs.length = ys.length) : zip2S [a, b] = some (zipD xs ys) := by
  show (match itmOf a with | some xs => (match itmOf b with | some ys => if xs.length = ys.length then some (zipD xs ys) else none | none => none) | none => none) = _
  rw [ha]
  show (match itmOf b with | some ys => if xs.length = ys.length then some (zipD xs ys) else none | none => none) = _
  rw [hb]
  exact if_pos h
theorem w_iRange {r : List D → Option (List D)} (h : Wp ml e fun ds e1 => Op (r ds) fun is => QL is e1) : Wp (iRange r ml) e QL := w_bnd (h.mono fun _ _ h => w_lft h)
theorem w_rVal {m : M (List Av)} (h : Wp ma e fun d e1 => Wp m e1 fun avs e2 => QV (.val d :: avs) e2) : Wp (rVal ma m) e QV := w_bnd (h.mono fun _ _ h => w_bnd (h.mono fun _ _ h => w_ret h))
theorem w_rNew {m : M (List Av)} (h : Wp ma e fun d e1 => Wp m e1 fun avs e2 => QV (.new d :: avs) e2) : Wp (rNew ma m) e QV := w_bnd (h.mono fun _ _ h => w_bnd (h.mono fun _ _ h => w_ret h))
theorem w_rLend {m : M (List Av)} (h : Wp (eOwn i) e fun _ e1 => Wp m e1 fun avs e2 => QV (.lend i :: avs) e2) : Wp (rLend i m) e QV := w_bnd (h.mono fun _ _ h => w_bnd (h.mono fun _ _ h => w_ret h))
/-- the arguments in their order -/
def Pm (ds : List D) : List Nat → (List Av → Prop) → Prop
  | [], R => R []
  | i :: p, R => ∃ d, ds[i]? = some d ∧ Pm ds p fun avs => R (.val d :: avs)
theorem pm_nil {ds : List D} {R : List Av → Prop} (h : R []) : Pm ds [] R := h
theorem pm_cons {ds : List D} {i : Nat} {p : List Nat} {d : D} {R : List Av → Prop} (h : ds[i]? = some d) (q : Pm ds p fun avs => R (.val d :: avs)) : Pm ds (i :: p) R := ⟨d, h, q⟩
theorem pm_map {ds : List D} : ∀ {p : List Nat} {R : List Av → Prop}, Pm ds p R → R (p.map fun i => .val (ds.getD i .non))
  | [], R, h => h
  | i :: p, R, ⟨d, h, q⟩ => by
    have := pm_map (p := p) (R := fun avs => R (.val d :: avs)) q
    rw [List.map_cons, List.getD_eq_getElem?_getD, h]
    exact this
theorem w_rPerm {n : Nat} {perm : List Nat} (h : Wp ml e fun ds e1 => Gp (decide (ds.length = n)) (Pm ds perm fun avs => QV avs e1)) : Wp (rPerm n perm ml) e QV := w_bnd (h.mono fun _ _ ⟨h1, h2⟩ => by rw [if_pos (of_decide_eq_true h1)]; exact w_ret (pm_map h2))
/-- the arguments are told; the def; what it has lent comes back -/
def Call (ms : List Bool) (F : Fn) (avs : List Av) (e : Lvs) (Q : D → Lvs → Prop) : Prop := kinds ms avs = true ∧ ∃ ds, dsOf e avs = some ds ∧ Ret (F ds) fun r bs => Op (putBack avs bs e) fun e2 => Q r e2
theorem w_call {ms : List Bool} {F : Fn} {m : M (List Av)} (h : Wp m e fun avs e1 => Call ms F avs e1 Q) : Wp (eCall ms F m) e Q := by
  obtain ⟨avs, e1, h1, hk, ds, hd, r, bs, hF, e2, hp, q⟩ := h
  exact ⟨r, e2, ev_call h1 hk hd hF hp, q⟩
theorem call_is {ms : List Bool} {F : Fn} {avs : List Av} {ds : List D} (hk : kinds ms avs = true) (hd : dsOf e avs = some ds) (h : Ret (F ds) fun r bs => Op (putBack avs bs e) fun e2 => Q r e2) : Call ms F avs e Q := ⟨hk, ds, hd, h⟩
theorem pb_nil {R : Lvs → Prop} (h : R e) : Op (putBack [] [] e) R := ⟨e, rfl, h⟩
theorem pb_val {avs : List Av} {bs : List D} {R : Lvs → Prop} (h : Op (putBack avs bs e) R) : Op (putBack (.val d :: avs) bs e) R := h
theorem pb_new {avs : List Av} {b : D} {bs : List D} {R : Lvs → Prop} (h : Op (putBack avs bs e) R) : Op (putBack (.new d :: avs) (b :: bs) e) R := h
theorem pb_lend {avs : List Av} {p : Bool} {b : D} {bs : List D} {R : Lvs → Prop} (hl : e[i]? = some (.own p d)) (hs : e.set i (.own p b) = e1) (h : Op (putBack avs bs e1) R) : Op (putBack (.lend i :: avs) (b :: bs) e) R := by
  obtain ⟨e2, h1, h2⟩ := h
  refine ⟨e2, ?_, h2⟩
  unfold putBack
  rw [hl]
  subst hs
  exact h1
/-! ### statements -/
/-- what comes next; what a loop's turn leads to; what a def gives -/
def Nx (P : Lvs → Prop) (Q : Out → Lvs → Prop) : Out → Lvs → Prop
  | .nx => P
  | o => Q o
def Lp (P : Lvs → Prop) (Q : Out → Lvs → Prop) : Out → Lvs → Prop
  | .nx => P
  | .ct => P
  | .bk => Q .nx
  | o => Q o
def Fi (ms : List Bool) (P : D → List D → Prop) : Out → Lvs → Prop
  | .rt d => fun e => Op (backs ms e) (P d)
  | .nx => fun e => Op (backs ms e) (P .non)
  | _ => fun _ => False
def FiF (ms : List Bool) (P : D → List D → Prop) : Out → Lvs → Prop
  | .rn d => fun e => Op (backs ms e) (P d)
  | _ => fun _ => False
section
variable {R : Lvs → Prop} {ms : List Bool} {G : D → List D → Prop}
theorem nx_nx (h : R e) : Nx R QS .nx e := h
theorem nx_bk (h : QS .bk e) : Nx R QS .bk e := h
theorem nx_ct (h : QS .ct e) : Nx R QS .ct e := h
theorem nx_rt (h : QS (.rt d) e) : Nx R QS (.rt d) e := h
theorem nx_rn (h : QS (.rn d) e) : Nx R QS (.rn d) e := h
theorem lp_nx (h : R e) : Lp R QS .nx e := h
theorem lp_ct (h : R e) : Lp R QS .ct e := h
theorem lp_bk (h : QS .nx e) : Lp R QS .bk e := h
theorem lp_rt (h : QS (.rt d) e) : Lp R QS (.rt d) e := h
theorem lp_rn (h : QS (.rn d) e) : Lp R QS (.rn d) e := h
theorem fi_rt (h : Op (backs ms e) (G d)) : Fi ms G (.rt d) e := h
theorem fi_nx (h : Op (backs ms e) (G .non)) : Fi ms G .nx e := h
theorem fi_rn (h : Op (backs ms e) (G d)) : FiF ms G (.rn d) e := h
end
theorem s_seq (h : Ws sa e (Nx (fun e1 => Ws sb e1 QS) QS)) : Ws (sSeq sa sb) e QS := by
  obtain ⟨o, e1, h1, h2⟩ := h
  unfold Ws sSeq
  rw [h1]
  cases o with
  | nx => exact h2
  | bk => exact ⟨_, _, rfl, h2⟩
  | ct => exact ⟨_, _, rfl, h2⟩
  | rt d => exact ⟨_, _, rfl, h2⟩
  | rn d => exact ⟨_, _, rfl, h2⟩
theorem s_nx (h : QS .nx e) : Ws sNx e QS := ⟨_, _, rfl, h⟩
theorem s_bk (h : QS .bk e) : Ws sBk e QS := ⟨_, _, rfl, h⟩
theorem s_ct (h : QS .ct e) : Ws sCt e QS := ⟨_, _, rfl, h⟩
theorem s_if (h : Wp mt e fun b e1 => Br b (Ws sa e1 QS) (Ws sb e1 QS)) : Ws (sIf mt sa sb) e QS := by
  obtain ⟨b, e1, h1, h2⟩ := h
  unfold Ws sIf
  rw [h1]
  cases b
  · exact h2.2 rfl
  · exact h2.1 rfl
/-- e with d in slot i -/
def Put (e : Lvs) (i : Nat) (d : Lv) (R : Lvs → Prop) : Prop := R (e.set i d)
theorem put_is {x : Lv} {R : Lvs → Prop} (hs : e.set i x = e1) (h : R e1) : Put e i x R := by subst hs; exact h
theorem s_set (h : Wp ma e fun d e1 => Put e1 i (.val d) (QS .nx)) : Ws (sSet i ma) e QS := by
  obtain ⟨d, e1, h1, h2⟩ := h
  exact ⟨_, _, ev_set h1 rfl, h2⟩
theorem s_own (h : Wp ma e fun d e1 => Put e1 i (.own false d) (QS .nx)) : Ws (sOwn i ma) e QS := by
  obtain ⟨d, e1, h1, h2⟩ := h
  exact ⟨_, _, ev_own h1 rfl, h2⟩
theorem s_rt (h : Wp ma e fun d e1 => QS (.rt d) e1) : Ws (sRet ma) e QS := by
  obtain ⟨d, e1, h1, h2⟩ := h
  exact ⟨_, _, ev_rt h1, h2⟩
theorem s_rtF (h : Wp ma e fun d e1 => QS (.rn d) e1) : Ws (sRetF ma) e QS := by
  obtain ⟨d, e1, h1, h2⟩ := h
  exact ⟨_, _, ev_rtF h1, h2⟩
theorem s_rtV (hl : e[i]? = some (.own false d)) (h : Put e i .no (QS (.rn d))) : Ws (sRetV i) e QS := ⟨_, _, by unfold sRetV; rw [hl], h⟩
theorem s_rtN (h : QS (.rt .non) e) : Ws sRetN e QS := ⟨_, _, rfl, h⟩
theorem s_do (h : Wp ma e fun _ e1 => QS .nx e1) : Ws (sDo ma) e QS := by
  obtain ⟨d, e1, h1, h2⟩ := h
  exact ⟨_, _, ev_do h1, h2⟩
def AppTo (e : Lvs) (i : Nat) (d : D) (R : Lvs → Prop) : Prop := ∃ p ds, e[i]? = some (.own p (.lst ds)) ∧ lim (ds.length + 1) = true ∧ Put e i (.own p (.lst (ds ++ [d]))) R
theorem app_is {p : Bool} {ds : List D} {R : Lvs → Prop} (h1 : e[i]? = some (.own p (.lst ds))) (h2 : lim (ds.length + 1) = true) (h : Put e i (.own p (.lst (ds ++ [d]))) R) : AppTo e i d R := ⟨p, ds, h1, h2, h⟩
theorem s_app {p0 : Bool} {ds0 : List D} (h0 : e[i]? = some (.own p0 (.lst ds0))) (h : Wp ma e fun d e1 => AppTo e1 i d (QS .nx)) : Ws (sApp i ma) e QS := by
  obtain ⟨d, e1, h1, p, ds, h2, h3, h4⟩ := h
  exact ⟨_, _, ev_app h0 h1 h2 h3 rfl, h4⟩
def SetTo (e : Lvs) (i : Nat) (k : Int) (d : D) (R : Lvs → Prop) : Prop := ∃ p ds, e[i]? = some (.own p (.lst ds)) ∧ Op (ixN ds.length k) fun j => Put e i (.own p (.lst (ds.set j d))) R
theorem setTo_is {p : Bool} {ds : List D} {k : Int} {R : Lvs → Prop} (h1 : e[i]? = some (.own p (.lst ds))) (h : Op (ixN ds.length k) fun j => Put e i (.own p (.lst (ds.set j d))) R) : SetTo e i k d R := ⟨p, ds, h1, h⟩
theorem ixN_of {n : Nat} {k : Int} (h0 : 0 ≤ k) (h : k < (n : Int)) : ixN n k = some k.toNat := by
  obtain ⟨j, rfl⟩ := Int.eq_ofNat_of_zero_le h0
  exact ixN_nat (by omega)
theorem s_revI {p : Bool} {ds : List D} (h0 : e[i]? = some (.own p (.lst ds))) (h : Put e i (.own p (.lst ds.reverse)) (QS .nx)) : Ws (sRevI i) e QS := ⟨_, _, by unfold sRevI; rw [h0], h⟩
theorem s_setIx {ix : M D} (h : Wp ma e fun d e1 => Wp (ePeek i) e1 fun _ e2 => Wp ix e2 fun x e3 => IsI x fun k => SetTo e3 i k d (QS .nx)) : Ws (sSetIx i ix ma) e QS := by
  obtain ⟨d, e1, h1, x0, e2, h2, x, e3, h3, k, h4, p, ds, h5, j, h6, h7⟩ := h
  subst h4
  have h2' := h2
  unfold ePeek at h2
  have : e2 = e1 := by
    split at h2
    · cases h2; rfl
    · cases h2; rfl
    · cases h2
  subst this
  exact ⟨_, _, ev_setIx h1 h2' h3 h5 h6 rfl, h7⟩
def Two (ds : List D) (R : D → D → Prop) : Prop := ∃ a b, ds = [a, b] ∧ R a b
theorem two_is {a b : D} {R : D → D → Prop} (h : R a b) : Two [a, b] R := ⟨a, b, rfl, h⟩
def Three (ds : List D) (R : D → D → D → Prop) : Prop := ∃ a b c, ds = [a, b, c] ∧ R a b c
theorem three_is {a b c : D} {R : D → D → D → Prop} (h : R a b c) : Three [a, b, c] R := ⟨a, b, c, rfl, h⟩
theorem s_par (h : Wp ml e fun ds e1 => Two ds fun d1 d2 => Put e1 i (.val d1) fun e2 => Put e2 j (.val d2) (QS .nx)) : Ws (sPar i j ml) e QS := by
  obtain ⟨ds, e1, h1, d1, d2, h2, h3⟩ := h
  subst h2
  exact ⟨_, _, ev_par h1 rfl, h3⟩
/-- what names take at once -/
def TwoV (avs : List Av) (R : Av → Av → Prop) : Prop := ∃ a b, avs = [a, b] ∧ (okAv a && okAv b) = true ∧ R a b
theorem twoV_is {a b : Av} {R : Av → Av → Prop} (h : (okAv a && okAv b) = true) (q : R a b) : TwoV [a, b] R := ⟨a, b, rfl, h, q⟩
def ThreeV (avs : List Av) (R : Av → Av → Av → Prop) : Prop := ∃ a b c, avs = [a, b, c] ∧ (okAv a && okAv b && okAv c) = true ∧ R a b c
theorem threeV_is {a b c : Av} {R : Av → Av → Av → Prop} (h : (okAv a && okAv b && okAv c) = true) (q : R a b c) : ThreeV [a, b, c] R := ⟨a, b, c, rfl, h, q⟩
def PutV (i : Nat) (x : Av) (e : Lvs) (R : Lvs → Prop) : Prop := R (putAv i x e)
theorem pv_val {R : Lvs → Prop} (h : Put e i (.val d) R) : PutV i (.val d) e R := h
theorem pv_new {R : Lvs → Prop} (h : Put e i (.own false d) R) : PutV i (.new d) e R := h
def PutAll (is : List Nat) (avs : List Av) (e : Lvs) (R : Lvs → Prop) : Prop := R (putAll is avs e)
theorem pa_nil' {R : Lvs → Prop} (h : R e) : PutAll [] [] e R := h
theorem pa_cons' {x : Av} {is : List Nat} {avs : List Av} {R : Lvs → Prop} (h : PutV i x e fun e1 => PutAll is avs e1 R) : PutAll (i :: is) (x :: avs) e R := h
theorem s_tupN {is : List Nat} {m : M (List Av)} (h : Wp m e fun avs e1 => Gp (avs.all okAv && decide (is.length = avs.length) && lim avs.length) (PutAll is avs e1 (QS .nx))) : Ws (sTupN is m) e QS := by
  obtain ⟨avs, e1, h1, hk, h3⟩ := h
  refine ⟨.nx, _, ?_, h3⟩
  unfold sTupN
  rw [h1]
  exact if_pos hk
theorem s_par2N {m : M (List Av)} (h : Wp m e fun avs e1 => TwoV avs fun a b => PutV i a e1 fun e2 => PutV j b e2 (QS .nx)) : Ws (sPar2N i j m) e QS := by
  obtain ⟨avs, e1, h1, a, b, rfl, hk, h3⟩ := h
  refine ⟨.nx, _, ?_, h3⟩
  unfold sPar2N
  rw [h1]
  exact if_pos hk
theorem s_par3N {l : Nat} {m : M (List Av)} (h : Wp m e fun avs e1 => ThreeV avs fun a b c => PutV l c e1 fun e2 => PutV j b e2 fun e3 => PutV i a e3 (QS .nx)) : Ws (sPar3N i j l m) e QS := by
  obtain ⟨avs, e1, h1, a, b, c, rfl, hk, h3⟩ := h
  refine ⟨.nx, _, ?_, h3⟩
  unfold sPar3N
  rw [h1]
  exact if_pos hk
theorem s_par3 {l : Nat} (h : Wp ml e fun ds e1 => Three ds fun d1 d2 d3 => Put e1 l (.val d3) fun e2 => Put e2 j (.val d2) fun e3 => Put e3 i (.val d1) (QS .nx)) : Ws (sPar3 i j l ml) e QS := by
  obtain ⟨ds, e1, h1, d1, d2, d3, h2, h3⟩ := h
  subst h2
  exact ⟨_, _, ev_par3 h1 rfl, h3⟩
/-- an item goes to the names -/
def Tg (g : D → Lvs → Option Lvs) (d : D) (e : Lvs) (R : Lvs → Prop) : Prop := ∃ e1, g d e = some e1 ∧ R e1
theorem tg_N {R : Lvs → Prop} (h : Put e i (.val d) R) : Tg (gN i) d e R := ⟨_, rfl, h⟩
def SetAll : List Nat → List D → Lvs → (Lvs → Prop) → Prop
  | [], [], e, R => R e
  | i :: is, d :: ds, e, R => Put e i (.val d) fun e1 => SetAll is ds e1 R
  | _, _, _, _ => False
theorem sa_nil {R : Lvs → Prop} (h : R e) : SetAll [] [] e R := h
theorem sa_cons {is : List Nat} {ds : List D} {R : Lvs → Prop} (h : Put e i (.val d) fun e1 => SetAll is ds e1 R) : SetAll (i :: is) (d :: ds) e R := h
theorem setAll_ok : ∀ {is : List Nat} {ds : List D} {e : Lvs} {R : Lvs → Prop}, SetAll is ds e R → ∃ e1, setAll is ds e = some e1 ∧ R e1
  | [], [], e, R, h => ⟨e, rfl, h⟩
  | i :: is, d :: ds, e, R, h => setAll_ok (is := is) (ds := ds) h
  | [], _ :: _, _, _, h => h.elim
  | _ :: _, [], _, _, h => h.elim
theorem tg_T {is : List Nat} {ds : List D} {R : Lvs → Prop} (h : SetAll is ds e R) : Tg (gT is) (.tup ds) e R := setAll_ok h
theorem s_asg {g : D → Lvs → Option Lvs} (h : Wp ma e fun d e1 => Tg g d e1 (QS .nx)) : Ws (sAsg ma g) e QS := by
  obtain ⟨d, e1, h1, e2, h2, h3⟩ := h
  exact ⟨_, _, ev_asg h1 h2, h3⟩
/-- a is b, and .. -/
def Is {α : Type} (a b : α) (P : Prop) : Prop := a = b ∧ P
theorem is_is {α : Type} {a b : α} {P : Prop} (h : a = b) (p : P) : Is a b P := ⟨h, p⟩
/-- 0, 1 .. n - 1 -/
def rangeN (n : Nat) : List D := (List.range n).map fun (j : Nat) => .int (j : Int)
theorem rangeN_eq (n : Nat) : rangeD 0 n = rangeN n := List.map_congr_left fun j _ => by rw [Int.zero_add]
theorem ev_range1I {n : Int} (h : small62 n = true) : range1 [.int n] = some (rangeN n.toNat) := by
  rw [← rangeN_eq]
  show (if small62 n = true then some (rangeD 0 n.toNat) else none) = _
  rw [if_pos h]
theorem ev_range1N {n : Nat} (h : small62 (n : Int) = true) : range1 [.int (n : Int)] = some (rangeN n) := ev_range1I h
/-! ### loops -/
theorem forL_w {g : D → Lvs → Option Lvs} {b : MS} {QS : Out → Lvs → Prop} (I : Nat → Lvs → Prop) (ds : List D)
    (step : ∀ (i : Nat) (d : D) (e : Lvs), ds[i]? = some d → I i e → Tg g d e fun e1 => Ws b e1 (Lp (I (i + 1)) QS))
    (fin : ∀ e, I ds.length e → QS .nx e) : ∀ (k i : Nat) (e : Lvs), ds.length - i = k → i ≤ ds.length → I i e → Ws (forL g b (ds.drop i)) e QS := by
  intro k
  induction k with
  | zero =>
    intro i e hk hi h
    have : i = ds.length := by omega
    subst this
    rw [List.drop_length]
    exact ⟨_, _, rfl, fin e h⟩
  | succ k ih =>
    intro i e hk hi h
    have hlt : i < ds.length := by omega
    obtain ⟨e1, q1, o, e2, q2, q3⟩ := step i ds[i] e (List.getElem?_eq_getElem hlt) h
    rw [List.drop_eq_getElem_cons hlt]
    unfold Ws forL
    rw [q1]
    show ∃ a e', (match b e1 with | some (.nx, e2) => _ | some (.ct, e2) => _ | some (.bk, e2) => _ | r => r) = some (a, e') ∧ QS a e'
    rw [q2]
    cases o with
    | nx => exact ih (i + 1) e2 (by omega) hlt q3
    | ct => exact ih (i + 1) e2 (by omega) hlt q3
    | bk => exact ⟨_, _, rfl, q3⟩
    | rt d => exact ⟨_, _, rfl, q3⟩
    | rn d => exact ⟨_, _, rfl, q3⟩
/-- what a loop over ds asks -/
def Loop (g : D → Lvs → Option Lvs) (b : MS) (ds : List D) (e : Lvs) (QS : Out → Lvs → Prop) : Prop := Ws (forL g b ds) e QS
theorem s_for {g : D → Lvs → Option Lvs} (h : Wp ml e fun ds e1 => Loop g sb ds e1 QS) : Ws (sFor ml g sb) e QS := by
  obtain ⟨ds, e1, h1, o, e2, h2, h3⟩ := h
  exact ⟨_, _, ev_for h1 h2, h3⟩
theorem loop_inv {g : D → Lvs → Option Lvs} {b : MS} {ds : List D} (I : Nat → Lvs → Prop) (h0 : I 0 e)
    (step : ∀ (i : Nat) (d : D) (e : Lvs), ds[i]? = some d → I i e → Tg g d e fun e1 => Ws b e1 (Lp (I (i + 1)) QS))
    (fin : ∀ e, I ds.length e → QS .nx e) : Loop g b ds e QS := by
  have := forL_w I ds step fin (ds.length - 0) 0 e rfl (Nat.zero_le _) h0
  rwa [List.drop_zero] at this
/-- over things of one kind -/
theorem loop_map {g : D → Lvs → Option Lvs} {b : MS} {A : Type} {xs : List A} {E : A → D} (I : Nat → Lvs → Prop) (h0 : I 0 e)
    (step : ∀ (i : Nat) (h : i < xs.length) (e : Lvs), I i e → Tg g (E xs[i]) e fun e1 => Ws b e1 (Lp (I (i + 1)) QS))
    (fin : ∀ e, I xs.length e → QS .nx e) : Loop g b (xs.map E) e QS :=
  loop_inv I h0 (fun i d e hd hI => by
    rw [List.getElem?_map] at hd
    cases q : xs[i]? with
    | none => rw [q] at hd; cases hd
    | some x =>
      rw [q] at hd
      cases hd
      obtain ⟨hi, hx⟩ := List.getElem?_eq_some_iff.mp q
      subst hx
      exact step i hi e hI) (fun e h => fin e (by rw [List.length_map] at h; exact h))
/-- with their places; two at once -/
theorem loop_enum {g : D → Lvs → Option Lvs} {b : MS} {A : Type} {xs : List A} {E : A → D} (I : Nat → Lvs → Prop) (h0 : I 0 e)
    (step : ∀ (i : Nat) (h : i < xs.length) (e : Lvs), I i e → Tg g (.tup [.int (i : Nat), E xs[i]]) e fun e1 => Ws b e1 (Lp (I (i + 1)) QS))
    (fin : ∀ e, I xs.length e → QS .nx e) : Loop g b (enumD (xs.map E)) e QS :=
  loop_inv I h0 (fun i d e hd hI => by
    unfold enumD at hd
    rw [List.getElem?_mapIdx, List.getElem?_map] at hd
    cases q : xs[i]? with
    | none => rw [q] at hd; cases hd
    | some x =>
      rw [q] at hd
      cases hd
      obtain ⟨hi, hx⟩ := List.getElem?_eq_some_iff.mp q
      subst hx
      exact step i hi e hI) (fun e h => fin e (by unfold enumD at h; rw [List.length_mapIdx, List.length_map] at h; exact h))
theorem loop_zip {g : D → Lvs → Option Lvs} {b : MS} {A A' : Type} {xs : List A} {ys : List A'} {E : A → D} {F : A' → D} (I : Nat → Lvs → Prop) (h0 : I 0 e)
    (step : ∀ (i : Nat) (h : i < xs.length) (h' : i < ys.length) (e : Lvs), I i e → Tg g (.tup [E xs[i], F ys[i]]) e fun e1 => Ws b e1 (Lp (I (i + 1)) QS))
    (fin : ∀ e, I (min xs.length ys.length) e → QS .nx e) : Loop g b (zipD (xs.map E) (ys.map F)) e QS :=
  loop_inv I h0 (fun i d e hd hI => by
    unfold zipD at hd
    rw [List.getElem?_zipWith, List.getElem?_map, List.getElem?_map] at hd
    cases q : xs[i]? with
    | none => rw [q] at hd; cases hd
    | some x =>
      cases q2 : ys[i]? with
      | none => rw [q, q2] at hd; cases hd
      | some y =>
        rw [q, q2] at hd
        cases hd
        obtain ⟨hi, hx⟩ := List.getElem?_eq_some_iff.mp q
        obtain ⟨hi2, hy⟩ := List.getElem?_eq_some_iff.mp q2
        subst hx hy
        exact step i hi hi2 e hI) (fun e h => fin e (by unfold zipD at h; rw [List.length_zipWith, List.length_map, List.length_map] at h; exact h))
/-- over numbers upward -/
theorem loop_rg {g : D → Lvs → Option Lvs} {b : MS} {lo : Int} {n : Nat} (I : Nat → Lvs → Prop) (h0 : I 0 e)
    (step : ∀ (i : Nat) (h : i < n) (e : Lvs), I i e → Tg g (.int (lo + (i : Int))) e fun e1 => Ws b e1 (Lp (I (i + 1)) QS))
    (fin : ∀ e, I n e → QS .nx e) : Loop g b (rangeD lo n) e QS := by
  refine loop_map (xs := List.range n) (E := fun (j : Nat) => D.int (lo + (j : Int))) I h0 (fun i h e hI => ?_) (fun e h => fin e (by rw [List.length_range] at h; exact h))
  rw [List.length_range] at h
  rw [List.getElem_range]
  exact step i h e hI
theorem loop_rn {g : D → Lvs → Option Lvs} {b : MS} {n : Nat} (I : Nat → Lvs → Prop) (h0 : I 0 e)
    (step : ∀ (i : Nat) (h : i < n) (e : Lvs), I i e → Tg g (.int (i : Int)) e fun e1 => Ws b e1 (Lp (I (i + 1)) QS))
    (fin : ∀ e, I n e → QS .nx e) : Loop g b (rangeN n) e QS := by
  refine loop_map (xs := List.range n) (E := fun (j : Nat) => D.int (j : Int)) I h0 (fun i h e hI => ?_) (fun e h => fin e (by rw [List.length_range] at h; exact h))
  rw [List.length_range] at h
  rw [List.getElem_range]
  exact step i h e hI
/-- .. or by steps -/
theorem loop_rgC {g : D → Lvs → Option Lvs} {b : MS} {lo c : Int} {n : Nat} (I : Nat → Lvs → Prop) (h0 : I 0 e)
    (step : ∀ (i : Nat) (h : i < n) (e : Lvs), I i e → Tg g (.int (lo + (i : Int) * c)) e fun e1 => Ws b e1 (Lp (I (i + 1)) QS))
    (fin : ∀ e, I n e → QS .nx e) : Loop g b (rangeC lo c n) e QS := by
  refine loop_map (xs := List.range n) (E := fun (j : Nat) => D.int (lo + (j : Int) * c)) I h0 (fun i h e hI => ?_) (fun e h => fin e (by rw [List.length_range] at h; exact h))
  rw [List.length_range] at h
  rw [List.getElem_range]
  exact step i h e hI
/-- a while, by a number that falls -/
theorem s_while {n : Nat} (I : Nat → Lvs → Prop) {k : Nat} (h0 : I k e) (hn : k < n)
    (step : ∀ k e, I k e → Wp mt e fun c e1 => Br c (Ws sa e1 (Lp (fun e2 => ∃ k', k' < k ∧ I k' e2) QS)) (QS .nx e1)) : Ws (whileL mt sa n) e QS := by
  induction n generalizing e k with
  | zero => omega
  | succ n ih =>
    obtain ⟨c, e1, h1, h2⟩ := step k e h0
    unfold Ws whileL
    rw [h1]
    cases c with
    | false => exact ⟨_, _, rfl, h2.2 rfl⟩
    | true =>
      obtain ⟨o, e2, h3, h4⟩ := h2.1 rfl
      show ∃ a e', (match sa e1 with | some (.nx, e2) => _ | some (.ct, e2) => _ | some (.bk, e2) => _ | r => r) = some (a, e') ∧ QS a e'
      rw [h3]
      cases o with
      | nx =>
        obtain ⟨k', h5, h6⟩ : ∃ k', k' < k ∧ I k' e2 := h4
        exact ih h6 (by omega)
      | ct =>
        obtain ⟨k', h5, h6⟩ : ∃ k', k' < k ∧ I k' e2 := h4
        exact ih h6 (by omega)
      | bk => exact ⟨_, _, rfl, h4⟩
      | rt d => exact ⟨_, _, rfl, h4⟩
      | rn d => exact ⟨_, _, rfl, h4⟩
/-! ### comprehensions -/
/-- the slots vs are emptied -/
def Wipe (e : Lvs) (vs : List Nat) (R : Lvs → Prop) : Prop := R (wipeE e vs)
theorem wipe_0 {R : Lvs → Prop} (h : R e) : Wipe e [] R := h
theorem wipe_1 {R : Lvs → Prop} {v : Nat} (h : Put e v .no R) : Wipe e [v] R := h
theorem wipe_2 {R : Lvs → Prop} {v u : Nat} (h : Put e u .no fun e1 => Put e1 v .no R) : Wipe e [v, u] R := h
theorem wipe_3 {R : Lvs → Prop} {v u w : Nat} (h : Put e w .no fun e1 => Put e1 u .no fun e2 => Put e2 v .no R) : Wipe e [v, u, w] R := h
def Comp (vs : List Nat) (g : D → Lvs → Option Lvs) (t : M Bool) (f : M D) (ds acc : List D) (e : Lvs) (Q : List D → Lvs → Prop) : Prop := Wp (lcL vs g t f ds acc) e Q
theorem w_lc {vs : List Nat} {g : D → Lvs → Option Lvs} (h : Wp ml e fun ds e1 => Wipe e1 vs fun e2 => Comp vs g mt ma ds [] e2 fun rs e3 => Q (.lst rs) e3) : Wp (eLc vs ml g mt ma) e Q := by
  obtain ⟨ds, e1, h1, rs, e3, h2, h3⟩ := h
  exact ⟨_, _, ev_lc h1 rfl h2, h3⟩
theorem comp_inv {vs : List Nat} {g : D → Lvs → Option Lvs} {t : M Bool} {f : M D} {ds : List D} {R : List D → Lvs → Prop} (I : Nat → List D → Lvs → Prop) (hl : ds.length ≤ 16777216) (h0 : I 0 [] e)
    (step : ∀ (i : Nat) (d : D) (acc : List D) (e : Lvs), ds[i]? = some d → I i acc e → Tg g d e fun e1 => Wp t e1 fun b e2 => Br b (Wp f e2 fun y e3 => Wipe e3 vs fun e4 => I (i + 1) (acc ++ [y]) e4) (Wipe e2 vs fun e4 => I (i + 1) acc e4))
    (fin : ∀ acc e, I ds.length acc e → R acc e) : Comp vs g t f ds [] e R := by
  suffices ∀ (k i : Nat) (acc : List D) (e : Lvs), ds.length - i = k → i ≤ ds.length → acc.length ≤ i → I i acc e → Wp (lcL vs g t f (ds.drop i) acc) e R by
    have := this (ds.length - 0) 0 [] e rfl (Nat.zero_le _) (Nat.le_refl _) h0
    rwa [List.drop_zero] at this
  intro k
  induction k with
  | zero =>
    intro i acc e hk hi ha h
    have : i = ds.length := by omega
    subst this
    rw [List.drop_length]
    exact ⟨_, _, rfl, fin acc e h⟩
  | succ k ih =>
    intro i acc e hk hi ha h
    have hlt : i < ds.length := by omega
    obtain ⟨e1, q1, b, e2, q2, q3⟩ := step i ds[i] acc e (List.getElem?_eq_getElem hlt) h
    rw [List.drop_eq_getElem_cons hlt]
    unfold Wp lcL
    rw [q1]
    show ∃ a e', (match t e1 with | some (true, e2) => _ | some (false, e2) => _ | none => none) = some (a, e') ∧ R a e'
    rw [q2]
    cases b with
    | true =>
      obtain ⟨y, e3, q4, q5⟩ := q3.1 rfl
      show ∃ a e', (match f e2 with | some (y, e3) => if lim (acc.length + 1) = true then _ else none | none => none) = some (a, e') ∧ R a e'
      rw [q4]
      show ∃ a e', (if lim (acc.length + 1) = true then lcL vs g t f (ds.drop (i + 1)) (acc ++ [y]) (wipeE e3 vs) else none) = some (a, e') ∧ R a e'
      rw [if_pos (lim_of (by omega))]
      exact ih (i + 1) _ _ (by omega) hlt (by rw [List.length_append]; show acc.length + 1 ≤ _; omega) q5
    | false => exact ih (i + 1) _ _ (by omega) hlt (by omega) (q3.2 rfl)
theorem comp_map {vs : List Nat} {g : D → Lvs → Option Lvs} {t : M Bool} {f : M D} {A : Type} {xs : List A} {E : A → D} {R : List D → Lvs → Prop} (I : Nat → List D → Lvs → Prop) (hl : xs.length ≤ 16777216) (h0 : I 0 [] e)
    (step : ∀ (i : Nat) (h : i < xs.length) (acc : List D) (e : Lvs), I i acc e → Tg g (E xs[i]) e fun e1 => Wp t e1 fun b e2 => Br b (Wp f e2 fun y e3 => Wipe e3 vs fun e4 => I (i + 1) (acc ++ [y]) e4) (Wipe e2 vs fun e4 => I (i + 1) acc e4))
    (fin : ∀ acc e, I xs.length acc e → R acc e) : Comp vs g t f (xs.map E) [] e R :=
  comp_inv I (by rw [List.length_map]; exact hl) h0 (fun i d acc e hd hI => by
    rw [List.getElem?_map] at hd
    cases q : xs[i]? with
    | none => rw [q] at hd; cases hd
    | some x =>
      rw [q] at hd
      cases hd
      obtain ⟨hi, hx⟩ := List.getElem?_eq_some_iff.mp q
      subst hx
      exact step i hi acc e hI) (fun acc e h => fin acc e (by rw [List.length_map] at h; exact h))
theorem comp_rg {vs : List Nat} {g : D → Lvs → Option Lvs} {t : M Bool} {f : M D} {lo : Int} {n : Nat} {R : List D → Lvs → Prop} (I : Nat → List D → Lvs → Prop) (hl : n ≤ 16777216) (h0 : I 0 [] e)
    (step : ∀ (i : Nat) (h : i < n) (acc : List D) (e : Lvs), I i acc e → Tg g (.int (lo + (i : Int))) e fun e1 => Wp t e1 fun b e2 => Br b (Wp f e2 fun y e3 => Wipe e3 vs fun e4 => I (i + 1) (acc ++ [y]) e4) (Wipe e2 vs fun e4 => I (i + 1) acc e4))
    (fin : ∀ acc e, I n acc e → R acc e) : Comp vs g t f (rangeD lo n) [] e R := by
  refine comp_map (xs := List.range n) (E := fun (j : Nat) => D.int (lo + (j : Int))) I (by rw [List.length_range]; exact hl) h0 (fun i h acc e hI => ?_) (fun acc e h => fin acc e (by rw [List.length_range] at h; exact h))
  rw [List.length_range] at h
  rw [List.getElem_range]
  exact step i h acc e hI
theorem comp_rn {vs : List Nat} {g : D → Lvs → Option Lvs} {t : M Bool} {f : M D} {n : Nat} {R : List D → Lvs → Prop} (I : Nat → List D → Lvs → Prop) (hl : n ≤ 16777216) (h0 : I 0 [] e)
    (step : ∀ (i : Nat) (h : i < n) (acc : List D) (e : Lvs), I i acc e → Tg g (.int (i : Int)) e fun e1 => Wp t e1 fun b e2 => Br b (Wp f e2 fun y e3 => Wipe e3 vs fun e4 => I (i + 1) (acc ++ [y]) e4) (Wipe e2 vs fun e4 => I (i + 1) acc e4))
    (fin : ∀ acc e, I n acc e → R acc e) : Comp vs g t f (rangeN n) [] e R := by
  refine comp_map (xs := List.range n) (E := fun (j : Nat) => D.int (j : Int)) I (by rw [List.length_range]; exact hl) h0 (fun i h acc e hI => ?_) (fun acc e h => fin acc e (by rw [List.length_range] at h; exact h))
  rw [List.length_range] at h
  rw [List.getElem_range]
  exact step i h acc e hI
/-- no state: a filter and a map; e is the frame, with the slots vs empty -/
theorem comp_pure {vs : List Nat} {g : D → Lvs → Option Lvs} {t : M Bool} {f : M D} {A : Type} {xs : List A} {E : A → D} {R : List D → Lvs → Prop} (p : A → Bool) (h : A → D) (hl : xs.length ≤ 16777216)
    (step : ∀ x ∈ xs, Tg g (E x) e fun e1 => Wp t e1 fun b e2 => Is b (p x) (Br b (Wp f e2 fun y e3 => Is y (h x) (Wipe e3 vs fun e4 => e4 = e)) (Wipe e2 vs fun e4 => e4 = e)))
    (fin : R ((xs.filter p).map h) e) : Comp vs g t f (xs.map E) [] e R := by
  refine comp_map (fun i acc e1 => e1 = e ∧ acc = ((xs.take i).filter p).map h) hl ⟨rfl, by rw [List.take_zero]; rfl⟩ (fun i hi acc e1 hI => ?_) (fun acc e1 hI => ?_)
  · obtain ⟨rfl, rfl⟩ := hI
    obtain ⟨e2, q1, b, e3, q2, q3, q4⟩ := step xs[i] (List.getElem_mem hi)
    subst q3
    refine ⟨e2, q1, _, e3, q2, fun hb => ?_, fun hb => ?_⟩
    · obtain ⟨y, e4, q5, q6, q7⟩ := q4.1 hb
      refine ⟨y, e4, q5, q7, ?_⟩
      rw [List.take_add_one, List.getElem?_eq_getElem hi, Option.toList_some, List.filter_append, List.filter_cons_of_pos hb, List.map_append, q6]
      rfl
    · refine ⟨q4.2 hb, ?_⟩
      rw [List.take_add_one, List.getElem?_eq_getElem hi, Option.toList_some, List.filter_append, List.filter_cons_of_neg (by rw [hb]; exact Bool.false_ne_true), List.filter_nil, List.append_nil]
  · obtain ⟨rfl, rfl⟩ := hI
    rw [List.take_length]
    exact fin
/-- .. all are kept -/
theorem comp_each {vs : List Nat} {g : D → Lvs → Option Lvs} {f : M D} {A : Type} {xs : List A} {E : A → D} {R : List D → Lvs → Prop} (h : A → D) (hl : xs.length ≤ 16777216)
    (step : ∀ x ∈ xs, Tg g (E x) e fun e1 => Wp f e1 fun y e3 => Is y (h x) (Wipe e3 vs fun e4 => e4 = e))
    (fin : R (xs.map h) e) : Comp vs g bYes f (xs.map E) [] e R := by
  refine comp_pure (fun _ => true) h hl (fun x hx => ?_) (by rw [List.filter_eq_self.mpr fun _ _ => rfl]; exact fin)
  obtain ⟨e1, q1, q2⟩ := step x hx
  exact ⟨e1, q1, true, e1, rfl, rfl, br_true q2⟩
theorem comp_eachN {vs : List Nat} {g : D → Lvs → Option Lvs} {f : M D} {n : Nat} {R : List D → Lvs → Prop} (h : Nat → D) (hl : n ≤ 16777216)
    (step : ∀ i, i < n → Tg g (.int (i : Int)) e fun e1 => Wp f e1 fun y e3 => Is y (h i) (Wipe e3 vs fun e4 => e4 = e))
    (fin : R ((List.range n).map h) e) : Comp vs g bYes f (rangeN n) [] e R :=
  comp_each (xs := List.range n) (E := fun (j : Nat) => D.int (j : Int)) h (by rw [List.length_range]; exact hl) (fun x hx => step x (List.mem_range.mp hx)) fin
theorem comp_pureN {vs : List Nat} {g : D → Lvs → Option Lvs} {t : M Bool} {f : M D} {n : Nat} {R : List D → Lvs → Prop} (p : Nat → Bool) (h : Nat → D) (hl : n ≤ 16777216)
    (step : ∀ i, i < n → Tg g (.int (i : Int)) e fun e1 => Wp t e1 fun b e2 => Is b (p i) (Br b (Wp f e2 fun y e3 => Is y (h i) (Wipe e3 vs fun e4 => e4 = e)) (Wipe e2 vs fun e4 => e4 = e)))
    (fin : R (((List.range n).filter p).map h) e) : Comp vs g t f (rangeN n) [] e R :=
  comp_pure (xs := List.range n) (E := fun (j : Nat) => D.int (j : Int)) p h (by rw [List.length_range]; exact hl) (fun x hx => step x (List.mem_range.mp hx)) fin
theorem comp_pureR {vs : List Nat} {g : D → Lvs → Option Lvs} {t : M Bool} {f : M D} {lo : Int} {n : Nat} {R : List D → Lvs → Prop} (p : Nat → Bool) (h : Nat → D) (hl : n ≤ 16777216)
    (step : ∀ i, i < n → Tg g (.int (lo + (i : Int))) e fun e1 => Wp t e1 fun b e2 => Is b (p i) (Br b (Wp f e2 fun y e3 => Is y (h i) (Wipe e3 vs fun e4 => e4 = e)) (Wipe e2 vs fun e4 => e4 = e)))
    (fin : R (((List.range n).filter p).map h) e) : Comp vs g t f (rangeD lo n) [] e R :=
  comp_pure (xs := List.range n) (E := fun (j : Nat) => D.int (lo + (j : Int))) p h (by rw [List.length_range]; exact hl) (fun x hx => step x (List.mem_range.mp hx)) fin
/-- two fors without a state -/
theorem w_lc2 {vs vs1 : List Nat} {g g1 : D → Lvs → Option Lvs} {m1 : M (List D)} (h : Wp ml e fun ds e1 => Wipe e1 vs fun e2 => Wp (lc2L vs vs1 g mt m1 g1 mu ma ds []) e2 fun rs e3 => Q (.lst rs) e3) : Wp (eLc2 vs vs1 ml g mt m1 g1 mu ma) e Q := by
  obtain ⟨ds, e1, h1, rs, e3, h2, h3⟩ := h
  exact ⟨_, _, ev_lc2 h1 rfl h2, h3⟩
theorem comp2_pure {vs vs1 : List Nat} {g g1 : D → Lvs → Option Lvs} {m1 : M (List D)} {A B : Type} {E : A → D} {E1 : A → B → D} (ys : A → List B) (v : A → B → D) (W : A → Lvs) : ∀ (xs : List A) (acc : List D) {R : List D → Lvs → Prop}, acc.length + (xs.flatMap ys).length ≤ 16777216 →
    (∀ x ∈ xs, Tg g (E x) e fun e1 => Wp mt e1 fun b e2 => Is b true (Wp m1 e2 fun ds e3 => Is ds ((ys x).map (E1 x)) (Wipe e3 vs1 fun e4 => e4 = W x ∧ wipeE (W x) vs = e ∧ ∀ y ∈ ys x, Tg g1 (E1 x y) (W x) fun e1 => Wp mu e1 fun b e2 => Is b true (Wp ma e2 fun d e3 => Is d (v x y) (Wipe e3 vs1 fun e4 => e4 = W x))))) →
    R (acc ++ xs.flatMap fun x => (ys x).map (v x)) e → Wp (lc2L vs vs1 g mt m1 g1 mu ma (xs.map E) acc) e R
  | [], acc, R, _, _, fin => ⟨_, _, rfl, by rw [List.flatMap_nil, List.append_nil] at fin; exact fin⟩
  | x :: xs, acc, R, hl, h, fin => by
    obtain ⟨e1, q1, b, e2, q2, rfl, ds, e3, q3, rfl, q4, q5, q6⟩ := h x List.mem_cons_self
    rw [List.flatMap_cons, List.length_append] at hl
    have inner : ∀ (zs : List B) (acc : List D), (∀ y ∈ zs, y ∈ ys x) → acc.length + zs.length ≤ 16777216 → lcL vs1 g1 mu ma (zs.map (E1 x)) acc (W x) = some (acc ++ zs.map (v x), W x) := by
      intro zs
      induction zs with
      | nil => intro acc _ _; rw [List.map_nil, List.map_nil, List.append_nil]; rfl
      | cons y zs ih =>
        intro acc hz hl
        rw [List.length_cons] at hl
        obtain ⟨e4, r1, b, e5, r2, rfl, d, e6, r3, rfl, r4⟩ := q6 y (hz y List.mem_cons_self)
        rw [List.map_cons]
        unfold lcL
        rw [r1]
        show (match mu e4 with | some (true, e2) => _ | some (false, e2) => _ | none => none) = _
        rw [r2]
        show (match ma e5 with | some (y, e3) => if lim (acc.length + 1) = true then _ else none | none => none) = _
        rw [r3]
        show (if lim (acc.length + 1) = true then lcL vs1 g1 mu ma (zs.map (E1 x)) (acc ++ [v x y]) (wipeE e6 vs1) else none) = _
        have r4 : wipeE e6 vs1 = W x := r4
        rw [if_pos (lim_of (by omega)), r4, ih _ (fun z hz' => hz z (List.mem_cons_of_mem _ hz')) (by rw [List.length_append]; show acc.length + 1 + _ ≤ _; omega), List.append_assoc]
        rfl
    have step := inner (ys x) acc (fun _ h => h) (by omega)
    have rest := comp2_pure ys v W xs (acc ++ (ys x).map (v x)) (R := R) (by rw [List.length_append, List.length_map]; omega) (fun z hz => h z (List.mem_cons_of_mem _ hz)) (by rw [List.flatMap_cons, ← List.append_assoc] at fin; exact fin)
    unfold Wp
    rw [List.map_cons]
    unfold lc2L
    rw [q1]
    show ∃ a e', (match mt e1 with | some (true, e2) => _ | some (false, e2) => _ | none => none) = some (a, e') ∧ R a e'
    rw [q2]
    show ∃ a e', (match m1 e2 with | some (ds1, e3) => _ | none => none) = some (a, e') ∧ R a e'
    rw [q3]
    show ∃ a e', (match lcL vs1 g1 mu ma ((ys x).map (E1 x)) acc (wipeE e3 vs1) with | some (acc', e4) => _ | none => none) = some (a, e') ∧ R a e'
    rw [q4, step]
    show ∃ a e', lc2L vs vs1 g mt m1 g1 mu ma (xs.map E) (acc ++ (ys x).map (v x)) (wipeE (W x) vs) = some (a, e') ∧ R a e'
    rw [q5]
    exact rest
/-! ### a def -/
theorem fn_w {ms : List Bool} {n : Nat} {body : MS} {ds : List D} {P : D → List D → Prop} (hl : ds.length = ms.length) (he : initE ms ds ++ List.replicate (n - ms.length) .no = e) (h : Ws body e (Fi ms P)) : Ret (runF ms n false body ds) P := by
  obtain ⟨o, e1, h1, h2⟩ := h
  cases o with
  | rt d =>
    obtain ⟨bs, h3, h4⟩ := h2
    exact ⟨d, bs, ev_run hl he h1 h3, h4⟩
  | nx =>
    obtain ⟨bs, h3, h4⟩ := h2
    exact ⟨_, bs, ev_runN hl he h1 h3, h4⟩
  | bk => exact h2.elim
  | ct => exact h2.elim
  | rn d => exact h2.elim
theorem fn_wF {ms : List Bool} {n : Nat} {body : MS} {ds : List D} {P : D → List D → Prop} (hl : ds.length = ms.length) (he : initE ms ds ++ List.replicate (n - ms.length) .no = e) (h : Ws body e (FiF ms P)) : Ret (runF ms n true body ds) P := by
  obtain ⟨o, e1, h1, h2⟩ := h
  cases o with
  | rn d =>
    obtain ⟨bs, h3, h4⟩ := h2
    exact ⟨d, bs, ev_runF hl he h1 h3, h4⟩
  | nx => exact h2.elim
  | bk => exact h2.elim
  | ct => exact h2.elim
  | rt d => exact h2.elim
end
/-! ### == of data -/
mutual
theorem eqB_refl : ∀ d : D, okD d = true → eqB d d = true
  | .non, _ => rfl
  | .bl b, _ => by unfold eqB; exact beq_self_eq_true b
  | .int _, _ => by unfold eqB; exact decide_eq_true rfl
  | .str _, _ => by unfold eqB; exact decide_eq_true rfl
  | .ty _, h => by unfold okD at h; cases h
  | .dct _ _, h => by unfold okD at h; cases h
  | .dtt _ _, h => by unfold okD at h; cases h
  | .obj _ _ _, h => by unfold okD at h; cases h
  | .cls _, h => by unfold okD at h; cases h
  | .lst ds, h => by unfold eqB; unfold okD at h; exact eqBs_refl ds h
  | .fls ds, h => by unfold eqB; unfold okD at h; exact eqBs_refl ds h
  | .tup ds, h => by unfold eqB; unfold okD at h; exact eqBs_refl ds h
theorem eqBs_refl : ∀ ds : List D, okDs ds = true → eqBs ds ds = true
  | [], _ => rfl
  | d :: ds, h => by
    unfold okDs at h
    rw [Bool.and_eq_true] at h
    unfold eqBs
    rw [eqB_refl d h.1, eqBs_refl ds h.2]
    rfl
end
theorem eq_self {d : D} (h : shp d = true) : eqD d d = some (.bl true) := by
  have g : eqG d d = some (.bl true) := by
    unfold eqG
    rw [h]
    unfold shp at h
    rw [Bool.and_eq_true] at h
    rw [eqB_refl d h.1]
    rfl
  cases d with
  | int i => show some (D.bl (decide (i = i))) = _; rw [decide_eq_true rfl]
  | str i => show some (D.bl (decide (i = i))) = _; rw [decide_eq_true rfl]
  | _ => exact g
theorem ne_self {d : D} (h : shp d = true) : neD d d = some (.bl false) := by
  have g : neG d d = some (.bl false) := by
    unfold neG
    rw [h]
    unfold shp at h
    rw [Bool.and_eq_true] at h
    rw [eqB_refl d h.1]
    rfl
  cases d with
  | int i => show some (D.bl (!decide (i = i))) = _; rw [decide_eq_true rfl]; rfl
  | str i => show some (D.bl (!decide (i = i))) = _; rw [decide_eq_true rfl]; rfl
  | _ => exact g
/-- flat data: of depth n -/
def Sh (n : Nat) (d : D) : Prop := okD d = true ∧ dep d ≤ n
theorem Sh.shp {n : Nat} {d : D} (h : Sh n d) (hn : n ≤ 64) : shp d = true := by
  unfold Dv.shp
  rw [h.1, decide_eq_true (Nat.le_trans h.2 hn)]
  rfl
theorem sh_int (i : Int) : Sh 1 (.int i) := ⟨rfl, by unfold dep; exact Nat.le_refl _⟩
theorem sh_bl (i : Bool) : Sh 1 (.bl i) := ⟨rfl, by unfold dep; exact Nat.le_refl _⟩
theorem sh_non : Sh 1 .non := ⟨rfl, by unfold dep; exact Nat.le_refl _⟩
theorem sh_str {s : List Nat} (h : ∀ c ∈ s, c < 1114112) : Sh 1 (.str s) := ⟨by
  unfold okD
  rw [List.all_eq_true]
  exact fun c hc => decide_eq_true (h c hc), by unfold dep; exact Nat.le_refl _⟩
theorem okDs_of : ∀ {ds : List D}, (∀ d ∈ ds, okD d = true) → okDs ds = true
  | [], _ => rfl
  | d :: ds, h => by
    unfold okDs
    rw [h d List.mem_cons_self, okDs_of fun d hd => h d (List.mem_cons_of_mem _ hd)]
    rfl
theorem deps_of {n : Nat} : ∀ {ds : List D}, (∀ d ∈ ds, dep d ≤ n) → deps ds ≤ n
  | [], _ => by unfold deps; exact Nat.zero_le _
  | d :: ds, h => by
    unfold deps
    exact Nat.max_le.mpr ⟨h d List.mem_cons_self, deps_of fun d hd => h d (List.mem_cons_of_mem _ hd)⟩
theorem sh_lst {n : Nat} {ds : List D} (h : ∀ d ∈ ds, Sh n d) : Sh (n + 1) (.lst ds) := ⟨by unfold okD; exact okDs_of fun d hd => (h d hd).1, by unfold dep; exact Nat.succ_le_succ (deps_of fun d hd => (h d hd).2)⟩
theorem sh_tup {n : Nat} {ds : List D} (h : ∀ d ∈ ds, Sh n d) : Sh (n + 1) (.tup ds) := ⟨by unfold okD; exact okDs_of fun d hd => (h d hd).1, by unfold dep; exact Nat.succ_le_succ (deps_of fun d hd => (h d hd).2)⟩
theorem Sh.mono {n m : Nat} {d : D} (h : Sh n d) (hm : n ≤ m) : Sh m d := ⟨h.1, Nat.le_trans h.2 hm⟩
theorem sh_map {A : Type} {n : Nat} {f : A → D} {xs : List A} (h : ∀ x ∈ xs, Sh n (f x)) : Sh (n + 1) (.lst (xs.map f)) := sh_lst fun d hd => by
  obtain ⟨x, hx, rfl⟩ := List.mem_map.mp hd
  exact h x hx
theorem sh_ints (xs : List Int) : Sh 2 (.lst (xs.map .int)) := sh_map fun x _ => sh_int x
theorem sh_nats (xs : List Nat) : Sh 2 (.lst (xs.map fun (x : Nat) => .int (x : Int))) := sh_map fun x _ => sh_int x
theorem sh_strs {xs : List (List Nat)} (h : ∀ s ∈ xs, ∀ c ∈ s, c < 1114112) : Sh 2 (.lst (xs.map .str)) := sh_map fun x hx => sh_str (h x hx)
theorem shp_nil : shp (.lst []) = true := (sh_lst (n := 1) (ds := []) fun d hd => absurd hd List.not_mem_nil).shp (by decide)
/-- == of lists of things that are told apart -/
theorem eqBs_map {A : Type} [DecidableEq A] {f : A → D} (hf : ∀ a b, eqB (f a) (f b) = decide (a = b)) : ∀ xs ys : List A, eqBs (xs.map f) (ys.map f) = decide (xs = ys)
  | [], [] => by rw [decide_eq_true rfl]; rfl
  | [], y :: ys => by rw [decide_eq_false (fun h => nomatch h)]; rfl
  | x :: xs, [] => by rw [decide_eq_false (fun h => nomatch h)]; rfl
  | x :: xs, y :: ys => by
    rw [List.map_cons, List.map_cons]
    unfold eqBs
    rw [hf, eqBs_map hf xs ys, ← Bool.decide_and]
    exact decide_eq_decide.mpr (by rw [List.cons.injEq])
theorem eqB_str (a b : List Nat) : eqB (.str a) (.str b) = decide (a = b) := by unfold eqB; rfl
theorem eqB_int (a b : Int) : eqB (.int a) (.int b) = decide (a = b) := by unfold eqB; rfl
theorem eq_lst {x y : List D} (h : shp (.lst x) = true) (h2 : shp (.lst y) = true) : eqD (.lst x) (.lst y) = some (.bl (eqBs x y)) := by
  show (if (shp (.lst x) && shp (.lst y)) = true then some (D.bl (eqB (.lst x) (.lst y))) else none) = _
  rw [h, h2]
  unfold eqB
  rfl
theorem ne_lst {x y : List D} (h : shp (.lst x) = true) (h2 : shp (.lst y) = true) : neD (.lst x) (.lst y) = some (.bl (!eqBs x y)) := by
  show (if (shp (.lst x) && shp (.lst y)) = true then some (D.bl (!eqB (.lst x) (.lst y))) else none) = _
  rw [h, h2]
  unfold eqB
  rfl
end Dv
/-! The walk backwards: dicts, pop, sorted. -/
namespace Dv
open PySem PySem.Spec PyProof.Rows L2 Evl
section
variable {α β : Type} {e e1 e2 e3 : Lvs} {i j : Nat} {d x y z w : D} {ds : List D} {ma mb mc : M D} {ml : M (List D)} {mt : M Bool} {sa sb : MS} {b : Bool} {Q : D → Lvs → Prop} {QL : List D → Lvs → Prop} {QS : Out → Lvs → Prop} {QB : Bool → Lvs → Prop}
def Sc (d : D) (P : Prop) : Prop := scal d = true ∧ P
theorem sc_is {P : Prop} (h : scal d = true) (p : P) : Sc d P := ⟨h, p⟩
theorem w_still {ps : List Nat} (h : Frz ps 0 e fun e0 => Wp ma e0 fun d _ => Sc d (Q d e)) : Wp (eStill ps ma) e Q := by
  obtain ⟨d, e1, h1, h2, h3⟩ := h
  refine ⟨d, e, ?_, h3⟩
  unfold eStill
  rw [h1]
  exact if_pos h2
theorem w_bstill {ps : List Nat} (h : Frz ps 0 e fun e0 => Wp mt e0 fun b _ => QB b e) : Wp (bStill ps mt) e QB := by
  obtain ⟨d, e1, h1, h3⟩ := h
  refine ⟨d, e, ?_, h3⟩
  unfold bStill
  rw [h1]
theorem w_inV {f : D → D → Option D} (h : Wp ma e fun x e1 => Wp (ePk j) e1 fun y e2 => Op (f x y) fun z => Q z e2) : Wp (eInV f ma j) e Q := w_bnd (h.mono fun _ _ h => w_bnd (h.mono fun _ _ h => w_lft h))
theorem w_get2 (h : Wp ma e fun x e1 => Wp mb e1 fun y e2 => Wp mc e2 fun z e3 => Op (get2D x y z) fun w => Q w e3) : Wp (eGet2 ma mb mc) e Q := w_bnd (h.mono fun _ _ h => w_bnd (h.mono fun _ _ h => w_bnd (h.mono fun _ _ h => w_lft h)))
theorem w_get1 (h : Wp ma e fun x e1 => Wp mb e1 fun y e2 => Op (get1D x y) fun w => Q w e2) : Wp (eGet1 ma mb) e Q := w_bnd (h.mono fun _ _ h => w_bnd (h.mono fun _ _ h => w_lft h))
/-- a dict stands in slot i, own or not -/
def InD (e : Lvs) (i : Nat) (R : List KD → List D → Prop) : Prop := ∃ ks ds, ePk i e = some (.dct ks ds, e) ∧ R ks ds
theorem inD_val {ks : List KD} {ds : List D} {R : List KD → List D → Prop} (hl : e[i]? = some (.val (.dct ks ds))) (h : R ks ds) : InD e i R := ⟨ks, ds, ev_pk hl, h⟩
theorem inD_own {p : Bool} {ks : List KD} {ds : List D} {R : List KD → List D → Prop} (hl : e[i]? = some (.own p (.dct ks ds))) (h : R ks ds) : InD e i R := ⟨ks, ds, ev_pkD hl, h⟩
theorem pkD_of {ks : List KD} {ds : List D} (h : ePk i e = some (.dct ks ds, e)) : ePkD i e = some (.dct ks ds, e) := ev_bnd h rfl
theorem w_get2V (h : InD e i fun _ _ => Wp mb e fun y e2 => Wp mc e2 fun z e3 => InD e3 i fun ks ds => Op (get2D (.dct ks ds) y z) fun w => Q w e3) : Wp (eGet2V i mb mc) e Q := by
  obtain ⟨ks, ds, h1, h⟩ := h
  refine w_bnd ⟨_, _, pkD_of h1, w_bnd (h.mono fun _ _ h => w_bnd (h.mono fun _ _ h => ?_))⟩
  obtain ⟨ks, ds, h2, h⟩ := h
  exact w_bnd ⟨_, _, h2, w_lft h⟩
theorem w_get1V (h : InD e i fun _ _ => Wp mb e fun y e2 => InD e2 i fun ks ds => Op (get1D (.dct ks ds) y) fun w => Q w e2) : Wp (eGet1V i mb) e Q := by
  obtain ⟨ks, ds, h1, h⟩ := h
  refine w_bnd ⟨_, _, pkD_of h1, w_bnd (h.mono fun _ _ h => ?_)⟩
  obtain ⟨ks, ds, h2, h⟩ := h
  exact w_bnd ⟨_, _, h2, w_lft h⟩
/-- a key -/
def IsK (d : D) (R : KD → Prop) : Prop := ∃ k, keyOf d = some k ∧ R k
theorem isK_int {n : Int} {R : KD → Prop} (h : R (.inl n)) : IsK (.int n) R := ⟨_, rfl, h⟩
theorem isK_str {s : List Nat} {R : KD → Prop} (h : R (.inr s)) : IsK (.str s) R := ⟨_, rfl, h⟩
theorem isK_key {k : KD} {R : KD → Prop} (h : R k) : IsK (kD k) R := ⟨k, by cases k <;> rfl, h⟩
theorem get2_is {ks : List KD} {ds : List D} {R : D → Prop} (h : IsK y fun k => R ((getK (ks.zip ds) k).getD z)) : Op (get2D (.dct ks ds) y z) R := by
  obtain ⟨k, h1, h2⟩ := h
  exact ⟨_, by show (keyOf y).map _ = _; rw [h1]; rfl, h2⟩
theorem get1_is {ks : List KD} {ds : List D} {R : D → Prop} (h : IsK y fun k => R ((getK (ks.zip ds) k).getD .non)) : Op (get1D (.dct ks ds) y) R := by
  obtain ⟨k, h1, h2⟩ := h
  exact ⟨_, by show (keyOf y).map _ = _; rw [h1]; rfl, h2⟩
theorem inK_is {ks : List KD} {ds : List D} {R : D → Prop} (h : IsK y fun k => R (.bl (hasK (ks.zip ds) k))) : Op (inK y (.dct ks ds)) R := by
  obtain ⟨k, h1, h2⟩ := h
  exact ⟨_, by show (keyOf y).map _ = _; rw [h1]; rfl, h2⟩
theorem notInK_is {ks : List KD} {ds : List D} {R : D → Prop} (h : IsK y fun k => R (.bl (!hasK (ks.zip ds) k))) : Op (notInK y (.dct ks ds)) R := by
  obtain ⟨k, h1, h2⟩ := h
  exact ⟨_, by show (keyOf y).map _ = _; rw [h1]; rfl, h2⟩
theorem inM_is {ks : List KD} {ds : List D} {R : D → Prop} (h : IsK y fun k => R (.bl (hasK (ks.zip ds) k))) : Op (inM y (.dct ks ds)) R := by
  have e : inM y (.dct ks ds) = inK y (.dct ks ds) := by
    have e1 : inS y (.dct ks ds) = none := by unfold inS; clear h; split <;> first | rfl | (rename_i h9; nomatch h9)
    have e2 : inQ y (.dct ks ds) = none := by unfold inQ; clear h; split <;> first | rfl | (rename_i h9; nomatch h9)
    unfold inM orF
    rw [e1, e2]
  rw [e]
  exact inK_is h
theorem notInM_is {ks : List KD} {ds : List D} {R : D → Prop} (h : IsK y fun k => R (.bl (!hasK (ks.zip ds) k))) : Op (notInM y (.dct ks ds)) R := by
  have e : notInM y (.dct ks ds) = notInK y (.dct ks ds) := by
    have e1 : notInS y (.dct ks ds) = none := by unfold notInS; clear h; split <;> first | rfl | (rename_i h9; nomatch h9)
    have e2 : notInQ y (.dct ks ds) = none := by unfold notInQ; clear h; split <;> first | rfl | (rename_i h9; nomatch h9)
    unfold notInM orF
    rw [e1, e2]
  rw [e]
  exact notInK_is h
theorem ixK_is {ks : List KD} {ds : List D} {R : D → Prop} (h : IsK y fun k => Op (getK (ks.zip ds) k) R) : Op (ixD (.dct ks ds) y) R := by
  obtain ⟨k, h1, v, h2, h3⟩ := h
  refine ⟨v, ?_, h3⟩
  show (keyOf y).bind _ = _
  rw [h1]
  exact h2
/-- d[k] = x -/
def PutK (e : Lvs) (i : Nat) (k : KD) (x : D) (R : Lvs → Prop) : Prop := ∃ p ks ds, e[i]? = some (.own p (.dct ks ds)) ∧ lim ((ks.zip ds).length + 1) = true ∧ Put e i (.own p (dctM (putM (ks.zip ds) k x))) R
theorem putK_is {p : Bool} {ks : List KD} {ds : List D} {k : KD} {R : Lvs → Prop} (h1 : e[i]? = some (.own p (.dct ks ds))) (h2 : lim ((ks.zip ds).length + 1) = true) (h : Put e i (.own p (dctM (putM (ks.zip ds) k x))) R) : PutK e i k x R := ⟨p, ks, ds, h1, h2, h⟩
theorem s_putK (h : Wp mb e fun x e1 => InD e1 i fun _ _ => Wp ma e1 fun y e2 => IsK y fun k => PutK e2 i k x (QS .nx)) : Ws (sPut i ma mb) e QS := by
  obtain ⟨x, e1, h1, ks0, ds0, h2, y, e2, h3, k, h4, p, ks, ds, h5, h6, h7⟩ := h
  refine ⟨.nx, _, ?_, h7⟩
  unfold sPut
  rw [h1]
  show (match ePkD i e1 with | some _ => _ | none => none) = _
  rw [pkD_of h2]
  show (match ma e1 with | some (y, e2) => _ | none => none) = _
  rw [h3]
  show (match e2[i]? with | some (.own p (.dct ks ds)) => _ | _ => none) = _
  rw [h5]
  show (match keyOf y with | some k => _ | none => none) = _
  rw [h4]
  show (if lim ((ks.zip ds).length + 1) = true then _ else none) = _
  rw [if_pos h6]
theorem w_iMeth {f : D → Option (List D)} (h : Wp ma e fun d e1 => Op (f d) fun ds => QL ds e1) : Wp (iMeth f ma) e QL := w_bnd (h.mono fun _ _ h => w_lft h)
theorem w_sortedJ (h : Wp ma e fun d e1 => Op (srtJ d) fun z => Q z e1) : Wp (eSortedJ ma) e Q := w_bnd (h.mono fun _ _ h => w_lft h)
/-- xs.pop(i) -/
def PopAt (e : Lvs) (i : Nat) (k : Int) (R : D → Lvs → Prop) : Prop := ∃ p ds j x, e[i]? = some (.own p (.lst ds)) ∧ (decide (-(2 ^ 63) ≤ k) && decide (k < 2 ^ 63)) = true ∧ seqIndex? k ds.length = some j ∧ ds[j]? = some x ∧ Put e i (.own p (.lst (ds.eraseIdx j))) (R x)
theorem w_pop {p0 : Bool} {ds0 : List D} (h0 : e[i]? = some (.own p0 (.lst ds0))) (h : Wp ma e fun d e1 => IsI d fun k => PopAt e1 i k Q) : Wp (ePop i ma) e Q := by
  obtain ⟨d, e1, h1, k, h2, p, ds, j, x, h3, h4, h5, h6, h7⟩ := h
  subst h2
  refine ⟨x, _, ?_, h7⟩
  unfold ePop
  rw [h0]
  show (match ma e with | some (.int j, e1) => _ | _ => none) = _
  rw [h1]
  show (match e1[i]? with | some (.own p (.lst ds)) => _ | _ => none) = _
  rw [h3]
  show (if (decide (-(2 ^ 63) ≤ k) && decide (k < 2 ^ 63)) = true then _ else none) = _
  rw [if_pos h4, h5]
  show (match ds[j]? with | some x => _ | none => none) = _
  rw [h6]
theorem seqIx_of {k : Int} {n : Nat} (h0 : 0 ≤ k) (h : k < (n : Int)) : seqIndex? k n = some k.toNat := by
  have e : (if k < 0 then k + (n : Int) else k) = k := if_neg (by omega)
  unfold seqIndex?
  simp only [e]
  rw [if_pos (by rw [decide_eq_true h0, decide_eq_true h]; rfl)]
theorem popAt_is {p : Bool} {ds : List D} {k : Int} {R : D → Lvs → Prop} (h1 : e[i]? = some (.own p (.lst ds))) (h0 : 0 ≤ k) (h2 : k < (ds.length : Int)) (h3 : ds.length ≤ 16777216) (h : ∀ hk : k.toNat < ds.length, Put e i (.own p (.lst (ds.eraseIdx k.toNat))) (R ds[k.toNat])) : PopAt e i k R := by
  have hk : k.toNat < ds.length := by omega
  exact ⟨p, ds, k.toNat, ds[k.toNat], h1, by rw [decide_eq_true (show -(2 ^ 63) ≤ k by omega), decide_eq_true (show k < 2 ^ 63 by omega)]; rfl, seqIx_of h0 h2, List.getElem?_eq_getElem hk, h hk⟩
/-! ### dict comprehensions -/
def DComp (vs : List Nat) (g : D → Lvs → Option Lvs) (t : M Bool) (fk fv : M D) (ds : List D) (acc : List (KD × D)) (e : Lvs) (Q : List (KD × D) → Lvs → Prop) : Prop := Wp (dcL vs g t fk fv ds acc) e Q
theorem w_dc {vs : List Nat} {g : D → Lvs → Option Lvs} (h : Wp ml e fun ds e1 => Wipe e1 vs fun e2 => DComp vs g mt ma mb ds [] e2 fun rs e3 => Q (dctM rs) e3) : Wp (eDc vs ml g mt ma mb) e Q := by
  obtain ⟨ds, e1, h1, rs, e3, h2, h3⟩ := h
  refine ⟨_, e3, ?_, h3⟩
  refine ev_bnd h1 ?_
  show (match dcL vs g mt ma mb ds [] (wipeE e1 vs) with | some (rs, e1) => _ | none => none) = _
  rw [h2]
theorem putM_len {κ α : Type} [DecidableEq κ] (m : List (κ × α)) (k : κ) (x : α) : (putM m k x).length ≤ m.length + 1 := by
  unfold putM
  split
  · rw [List.length_map]; omega
  · rw [List.length_append]; exact Nat.le_refl _
theorem dcomp_inv {vs : List Nat} {g : D → Lvs → Option Lvs} {t : M Bool} {fk fv : M D} {ds : List D} {R : List (KD × D) → Lvs → Prop} (I : Nat → List (KD × D) → Lvs → Prop) (hl : ds.length ≤ 16777216) (h0 : I 0 [] e)
    (step : ∀ (i : Nat) (d : D) (acc : List (KD × D)) (e : Lvs), ds[i]? = some d → I i acc e → Tg g d e fun e1 => Wp t e1 fun b e2 => Br b (Wp fk e2 fun y e3 => Wp fv e3 fun z e4 => IsK y fun k => Wipe e4 vs fun e5 => I (i + 1) (putM acc k z) e5) (Wipe e2 vs fun e4 => I (i + 1) acc e4))
    (fin : ∀ acc e, I ds.length acc e → R acc e) : DComp vs g t fk fv ds [] e R := by
  suffices ∀ (k i : Nat) (acc : List (KD × D)) (e : Lvs), ds.length - i = k → i ≤ ds.length → acc.length ≤ i → I i acc e → Wp (dcL vs g t fk fv (ds.drop i) acc) e R by
    have := this (ds.length - 0) 0 [] e rfl (Nat.zero_le _) (Nat.le_refl _) h0
    rwa [List.drop_zero] at this
  intro k
  induction k with
  | zero =>
    intro i acc e hk hi ha h
    have : i = ds.length := by omega
    subst this
    rw [List.drop_length]
    exact ⟨_, _, rfl, fin acc e h⟩
  | succ k ih =>
    intro i acc e hk hi ha h
    have hlt : i < ds.length := by omega
    obtain ⟨e1, q1, b, e2, q2, q3⟩ := step i ds[i] acc e (List.getElem?_eq_getElem hlt) h
    rw [List.drop_eq_getElem_cons hlt]
    unfold Wp dcL
    rw [q1]
    show ∃ a e', (match t e1 with | some (true, e2) => _ | some (false, e2) => _ | none => none) = some (a, e') ∧ R a e'
    rw [q2]
    cases b with
    | true =>
      obtain ⟨y, e3, q4, z, e4, q5, key, q6, q7⟩ := q3.1 rfl
      show ∃ a e', (match fk e2 with | some (y, e3) => _ | none => none) = some (a, e') ∧ R a e'
      rw [q4]
      show ∃ a e', (match fv e3 with | some (z, e4) => _ | none => none) = some (a, e') ∧ R a e'
      rw [q5]
      show ∃ a e', (match keyOf y with | some k => _ | none => none) = some (a, e') ∧ R a e'
      rw [q6]
      show ∃ a e', (if lim (acc.length + 1) = true then dcL vs g t fk fv (ds.drop (i + 1)) (putM acc key z) (wipeE e4 vs) else none) = some (a, e') ∧ R a e'
      rw [if_pos (lim_of (by omega))]
      exact ih (i + 1) _ _ (by omega) hlt (Nat.le_trans (putM_len _ _ _) (by omega)) q7
    | false => exact ih (i + 1) _ _ (by omega) hlt (by omega) (q3.2 rfl)
/-- each of xs gives a pair; no state -/
theorem dcomp_pure {vs : List Nat} {g : D → Lvs → Option Lvs} {t : M Bool} {fk fv : M D} {A : Type} {xs : List A} {E : A → D} {R : List (KD × D) → Lvs → Prop} (p : A → Bool) (key : A → KD) (val : A → D) (hl : xs.length ≤ 16777216)
    (step : ∀ x ∈ xs, Tg g (E x) e fun e1 => Wp t e1 fun b e2 => Is b (p x) (Br b (Wp fk e2 fun y e3 => Wp fv e3 fun z e4 => IsK y fun k => Is k (key x) (Is z (val x) (Wipe e4 vs fun e5 => e5 = e))) (Wipe e2 vs fun e4 => e4 = e)))
    (fin : R ((xs.filter p).foldl (fun acc x => putM acc (key x) (val x)) []) e) : DComp vs g t fk fv (xs.map E) [] e R := by
  refine dcomp_inv (fun i acc e1 => e1 = e ∧ acc = ((xs.take i).filter p).foldl (fun acc x => putM acc (key x) (val x)) []) (by rw [List.length_map]; exact hl) ⟨rfl, by rw [List.take_zero]; rfl⟩ (fun i d acc e1 hd hI => ?_) (fun acc e1 hI => ?_)
  · obtain ⟨rfl, rfl⟩ := hI
    rw [List.getElem?_map] at hd
    cases q : xs[i]? with
    | none => rw [q] at hd; cases hd
    | some x =>
    rw [q] at hd
    cases hd
    obtain ⟨e2, q1, b, e3, q2, q3, q4⟩ := step x (List.mem_of_getElem? q)
    subst q3
    refine ⟨e2, q1, _, e3, q2, fun hb => ?_, fun hb => ?_⟩
    · obtain ⟨y, e4, q5, z, e5, q6, k, q7, q8, q9, q10⟩ := q4.1 hb
      subst q8 q9
      refine ⟨y, e4, q5, _, e5, q6, _, q7, q10, ?_⟩
      rw [List.take_add_one, q, Option.toList_some, List.filter_append, List.filter_cons_of_pos hb, List.foldl_append]
      rfl
    · refine ⟨q4.2 hb, ?_⟩
      rw [List.take_add_one, q, Option.toList_some, List.filter_append, List.filter_cons_of_neg (by rw [hb]; exact Bool.false_ne_true), List.filter_nil, List.append_nil]
  · obtain ⟨rfl, rfl⟩ := hI
    rw [List.length_map, List.take_length]
    exact fin
end
section
variable {κ α β : Type} [DecidableEq κ]
theorem hasK_mem {m : List (κ × α)} {k : κ} : hasK m k = true ↔ k ∈ m.map (·.1) := by
  unfold hasK
  rw [List.any_eq_true, List.mem_map]
  exact ⟨fun ⟨p, h1, h2⟩ => ⟨p, h1, of_decide_eq_true h2⟩, fun ⟨p, h1, h2⟩ => ⟨p, h1, decide_eq_true h2⟩⟩
theorem putM_new {m : List (κ × α)} {k : κ} (h : k ∉ m.map (·.1)) (x : α) : putM m k x = m ++ [(k, x)] := by
  unfold putM
  rw [if_neg fun z => h (hasK_mem.mp z)]
/-- unlike keys: the table is the list of pairs -/
theorem fold_new {A : Type} {key : A → κ} {val : A → α} : ∀ (xs : List A) (acc : List (κ × α)), (xs.map key).Nodup → (∀ x ∈ xs, key x ∉ acc.map (·.1)) → xs.foldl (fun acc x => putM acc (key x) (val x)) acc = acc ++ xs.map fun x => (key x, val x)
  | [], acc, _, _ => (List.append_nil _).symm
  | x :: xs, acc, h, h2 => by
    rw [List.map_cons, List.nodup_cons] at h
    rw [List.foldl_cons, putM_new (h2 x List.mem_cons_self), fold_new xs _ h.2 fun y hy => ?_, List.append_assoc]
    · rfl
    · rw [List.map_append, List.mem_append]
      rintro (z | z)
      · exact h2 y (List.mem_cons_of_mem _ hy) z
      · have z : key y = key x := by simpa using z
        exact h.1 (z ▸ List.mem_map.mpr ⟨y, hy, rfl⟩)
theorem getK_put (m : List (κ × α)) (k j : κ) (x : α) : getK (putM m k x) j = if j = k then some x else getK m j := by
  have h1 : ∀ m : List (κ × α), getK (m.map fun p => if p.1 = k then (p.1, x) else p) j = (getK m j).map fun y => if j = k then x else y := by
    intro m
    induction m with
    | nil => rfl
    | cons p m ih =>
      rw [List.map_cons]
      by_cases c : p.1 = j
      · rw [getK_pos (k := j) (p := p) c]
        by_cases c2 : p.1 = k
        · rw [if_pos c2, getK_pos (k := j) (p := (p.1, x)) c, Option.map_some, if_pos (c ▸ c2)]
        · rw [if_neg c2, getK_pos (k := j) (p := p) c, Option.map_some, if_neg (c ▸ c2)]
      · rw [getK_neg (k := j) (p := p) c]
        by_cases c2 : p.1 = k
        · rw [if_pos c2, getK_neg (k := j) (p := (p.1, x)) c]
          exact ih
        · rw [if_neg c2, getK_neg (k := j) (p := p) c]
          exact ih
  have h2 : ∀ m : List (κ × α), getK m k = none → getK (m ++ [(k, x)]) j = if j = k then some x else getK m j := by
    intro m
    induction m with
    | nil =>
      intro _
      by_cases c : j = k
      · rw [if_pos c]; exact getK_pos (p := (k, x)) c.symm
      · rw [if_neg c]; exact getK_neg (p := (k, x)) (Ne.symm c)
    | cons p m ih =>
      intro hn
      by_cases c3 : p.1 = k
      · rw [getK_pos c3] at hn; cases hn
      · rw [getK_neg c3] at hn
        rw [List.cons_append]
        by_cases c : p.1 = j
        · rw [getK_pos c, if_neg (c ▸ c3), getK_pos c]
        · rw [getK_neg c, ih hn, getK_neg c]
  unfold putM
  cases hh : hasK m k with
  | true =>
    rw [if_pos rfl, h1 m]
    rw [getK_has] at hh
    by_cases c : j = k
    · subst c
      rw [if_pos rfl]
      cases g : getK m j with
      | none => rw [g] at hh; cases hh
      | some y => rw [Option.map_some, if_pos rfl]
    · rw [if_neg c]
      cases getK m j with
      | none => rfl
      | some y => rw [Option.map_some, if_neg c]
  | false =>
    rw [if_neg Bool.false_ne_true]
    rw [getK_has] at hh
    refine h2 m ?_
    cases g : getK m k with
    | none => rfl
    | some y => rw [g] at hh; cases hh
theorem getK_map {A : Type} {key : A → κ} {val : A → α} {xs : List A} {k : κ} : getK (xs.map fun x => (key x, val x)) k = (xs.find? fun x => decide (key x = k)).map val := by
  induction xs with
  | nil => rfl
  | cons x xs ih =>
    rw [List.map_cons]
    by_cases c : key x = k
    · rw [getK_pos (p := (key x, val x)) c, List.find?_cons_of_pos (by exact decide_eq_true c)]; rfl
    · rw [getK_neg (p := (key x, val x)) c, List.find?_cons_of_neg (by exact fun z => c (of_decide_eq_true z))]; exact ih
end
end Dv
namespace Dv
open PySem PySem.Spec PyProof.Rows L2 Evl
/-! ### the text -/
def topS (i : Nat) : Stmt := PySem.Challenge.pw_skipcounts_k78_ranks_of_places.main.body.getD i (.Pass ⟨0, 0, 0, 0⟩)
abbrev s_l_row : Stmt := topS 33
abbrev s_l_long_ranks : Stmt := topS 34
abbrev s_l_cell : Stmt := topS 21
abbrev s_l_generator : Stmt := topS 22
abbrev s_l_same : Stmt := topS 30
abbrev s_is_string_of : Stmt := topS 9
abbrev s_is_letters_alone : Stmt := topS 10
abbrev s_check_text : Stmt := topS 11
abbrev s_ranks_ahead : Stmt := topS 14
abbrev s_ranks_of : Stmt := topS 15
abbrev s_ranks : Stmt := topS 16
abbrev s_l_hash : Stmt := topS 19
abbrev s_l_random : Stmt := topS 20
abbrev s_l_size : Stmt := topS 24
abbrev s_l_letters : Stmt := topS 23
abbrev s_l_is_read : Stmt := topS 27
abbrev s_l_longer : Stmt := topS 28
abbrev s_l_reads : Stmt := topS 29
abbrev s_l_rank_ahead : Stmt := topS 31
abbrev s_l_ranks : Stmt := topS 32
abbrev s_l_text : Stmt := topS 25
abbrev s_l_told_right : Stmt := topS 36
abbrev s_is_whole : Stmt := topS 6
abbrev s_is_between : Stmt := topS 7
abbrev s_check_number : Stmt := topS 8
abbrev s_check_depth : Stmt := topS 13
abbrev s_can_go : Stmt := topS 17
abbrev s_l_goes : Stmt := topS 35
abbrev s_l_right : Stmt := topS 37
abbrev s_l_long_right : Stmt := topS 38
abbrev s_law : Stmt := topS 39
def k_LETTERS : List Nat := [97, 98, 99, 100, 101, 102, 103, 104, 105, 106, 107, 108, 109, 110, 111, 112, 113, 114, 115, 116, 117, 118, 119, 120, 121, 122]
/-! ### the code on data -/
def ms_l_row : List Bool := [false]
def b_l_row : MS := (sSeq (sOwn 1 (eLst (ret [])))
  (sSeq (sFor (iRange range1 (aCons (eCallB lenD (aCons (eVar 0) (ret []))) (ret []))) (gN 2) (sSeq (sSet 3 (eMethS rfindD (eSl (eVar 0) oNone (oSome (eVar 2))) (aCons (eIx (eVar 0) (eVar 2)) (ret []))))
  (sApp 1 (eIf (eTest (eOp ltD (eVar 3) (eC (.int 0)))) (eC (.int 1)) (eOp addD (eC (.int 1)) (eStill [1] (eCallB minA (aCons (eSl (eVar 1) (oSome (eVar 3)) oNone) (ret [])))))))))
  (sRet (eVar 1))))
def F_l_row : Fn := runF ms_l_row 4 false b_l_row
abbrev N_l_row : List Str := ["_law_text_here", "_law_row_here", "_law_at", "_law_last"]
def ms_l_long_ranks : List Bool := [false]
def b_l_long_ranks : MS := (sSeq (sSet 1 (eCall ms_l_row F_l_row (rVal (eRevA (eVar 0) (oSome (eNeg (eC (.int 1))))) (ret []))))
  (sRet (eLc [2, 3] (iEnumM (eCall ms_l_row F_l_row (rVal (eVar 0) (ret [])))) (gT [2, 3]) bYes (eTup (aCons (eVar 3) (aCons (eIx (eVar 1) (eOp subD (eOp subD (eCallB lenD (aCons (eVar 0) (ret []))) (eC (.int 1))) (eVar 2))) (ret [])))))))
def F_l_long_ranks : Fn := runF ms_l_long_ranks 4 false b_l_long_ranks
abbrev N_l_long_ranks : List Str := ["_law_text_here", "_law_back", "_law_at", "_law_rank"]
def ms_l_cell : List Bool := [false, false]
def b_l_cell : MS := (sSeq (sIf (eTest (eOp ltD (eVar 1) (eCallB lenD (aCons (eVar 0) (ret []))))) (sRet (eIx (eVar 0) (eVar 1))) sNx)
  (sRet (eOp modD (eCallB sumD (aCons (eSl (eVar 0) oNone (oSome (eC (.int 1)))) (ret []))) (eC (.int 1000003)))))
def F_l_cell : Fn := runF ms_l_cell 2 false b_l_cell
abbrev N_l_cell : List Str := ["_law_script", "_law_index"]
def ms_l_generator : List Bool := [false, false]
def b_l_generator : MS := (sSeq (sSet 2 (eCall ms_l_cell F_l_cell (rVal (eVar 0) (rVal (eVar 1) (ret [])))))
  (sRetF (eLst (aCons (eOp modD (eCallB intD (aCons (eCallB maxA (aCons (eOp subD (eVar 2) (eOp powD (eC (.int 10)) (eC (.int 18)))) (aCons (eC (.int 0)) (ret [])))) (ret []))) (eOp powD (eOp powD (eC (.int 10)) (eC (.int 60))) (eC (.int 10)))) (aCons (eOp modD (eCallB intD (aCons (eVar 2) (ret []))) (eC (.int 2147483647))) (aCons (eOp mulD (eC (.int 1000)) (eVar 1)) (ret [])))))))
def F_l_generator : Fn := runF ms_l_generator 3 true b_l_generator
abbrev N_l_generator : List Str := ["_law_script", "_law_index", "_law_seed"]
def ms_l_same : List Bool := [false, false]
def b_l_same : MS := (sRet (eOp eqD (eCallB reprD (aCons (eVar 0) (ret []))) (eCallB reprD (aCons (eVar 1) (ret [])))))
def F_l_same : Fn := runF ms_l_same 2 false b_l_same
abbrev N_l_same : List Str := ["_law_told", "_law_due"]
def ms_is_string_of : List Bool := [false, false]
def b_is_string_of : MS := (sRet (eAnd (eCallB isiD (aCons (eVar 0) (aCons (eC (.ty "str")) (ret [])))) (eOp eqD (eMethS stripD (eVar 0) (aCons (eVar 1) (ret []))) (eC (.str [])))))
def F_is_string_of : Fn := runF ms_is_string_of 2 false b_is_string_of
abbrev N_is_string_of : List Str := ["value", "signs"]
def ms_is_letters_alone : List Bool := [false]
def b_is_letters_alone : MS := (sRet (eCall ms_is_string_of F_is_string_of (rVal (eVar 0) (rVal (eC (.str k_LETTERS)) (ret [])))))
def F_is_letters_alone : Fn := runF ms_is_letters_alone 1 false b_is_letters_alone
abbrev N_is_letters_alone : List Str := ["value"]
def ms_check_text : List Bool := [false]
def b_check_text : MS := (sIf (bNot (eTest (eCall ms_is_letters_alone F_is_letters_alone (rVal (eVar 0) (ret []))))) sNever sNx)
def F_check_text : Fn := runF ms_check_text 1 false b_check_text
abbrev N_check_text : List Str := ["text"]
def ms_ranks_ahead : List Bool := [false]
def b_ranks_ahead : MS := (sSeq (sTupN [1, 2] (rNew (eC .dic) (rNew (eLst (ret [])) (ret []))))
  (sSeq (sFor (iAny (eVar 0)) (gN 3) (sSeq (sSet 4 (eOp addD (eGet2V 1 (eVar 3) (eC (.int 0))) (eC (.int 1))))
  (sSeq (sOwn 1 (eDc [5] (iAny (eVar 1)) (gN 5) bYes (eVar 5) (eCallB minA (aCons (eIxV 1 (eVar 5)) (aCons (eVar 4) (ret []))))))
  (sSeq (sPut 1 (eVar 3) (eVar 4))
  (sApp 2 (eVar 4))))))
  (sRetV 2)))
def F_ranks_ahead : Fn := runF ms_ranks_ahead 6 true b_ranks_ahead
abbrev N_ranks_ahead : List Str := ["text", "least", "found", "letter", "rank", "other"]
def ms_ranks_of : List Bool := [false]
def b_ranks_of : MS := (sSeq (sOwn 1 (eCall ms_ranks_ahead F_ranks_ahead (rVal (eRevA (eVar 0) (oSome (eNeg (eC (.int 1))))) (ret []))))
  (sSeq (sRevI 1)
  (sRetF (eLc [2, 3] (iZipSM (aCons (eCall ms_ranks_ahead F_ranks_ahead (rVal (eVar 0) (ret []))) (aCons (eVar 1) (ret [])))) (gT [2, 3]) bYes (eTup (aCons (eVar 2) (aCons (eVar 3) (ret []))))))))
def F_ranks_of : Fn := runF ms_ranks_of 4 true b_ranks_of
abbrev N_ranks_of : List Str := ["text", "behind", "one", "other"]
def ms_ranks : List Bool := [false]
def b_ranks : MS := (sSeq (sDo (eCall ms_check_text F_check_text (rVal (eVar 0) (ret []))))
  (sRetF (eCall ms_ranks_of F_ranks_of (rVal (eVar 0) (ret [])))))
def F_ranks : Fn := runF ms_ranks 1 true b_ranks
abbrev N_ranks : List Str := ["text"]
def ms_l_hash : List Bool := [false, false]
def b_l_hash : MS := (sSeq (sSet 2 (eOp modD (eCallB intD (aCons (eOp addD (eOp addD (eOp addD (eOp mulD (eVar 0) (eC (.int 1140671))) (eOp mulD (eOp mulD (eC (.int 27644437)) (eVar 1)) (eVar 1))) (eOp mulD (eC (.int 131)) (eVar 1))) (eC (.int 19))) (ret []))) (eC (.int 2147483629))))
  (sSeq (sSet 2 (eOp modD (eCallB intD (aCons (eOp addD (eOp addD (eOp mulD (eVar 2) (eVar 2)) (eOp mulD (eC (.int 62089)) (eVar 1))) (eC (.int 32416187))) (ret []))) (eC (.int 2147483587))))
  (sRet (eOp modD (eCallB intD (aCons (eOp mulD (eVar 2) (eC (.int 48271))) (ret []))) (eC (.int 2147483647))))))
def F_l_hash : Fn := runF ms_l_hash 3 false b_l_hash
abbrev N_l_hash : List Str := ["_law_seed", "_law_index", "_law_mixed"]
def ms_l_random : List Bool := [true, false]
def b_l_random : MS := (sSeq (sIf (eTest (eOp gtD (eIxV 0 (eC (.int 0))) (eC (.int 0)))) (sSeq (sSet 2 (eOp modD (eCallB intD (aCons (eIxV 0 (eC (.int 0))) (ret []))) (eVar 1)))
  (sSeq (sSetIx 0 (eC (.int 0)) (eOp fdivD (eIxV 0 (eC (.int 0))) (eVar 1)))
  (sRet (eVar 2)))) sNx)
  (sSeq (sSet 2 (eC (.int 0)))
  (sSeq (sFor (iRange range1 (aCons (eOp addD (eC (.int 1)) (eOp fdivD (eBits (eVar 1)) (eC (.int 30)))) (ret []))) (gN 3) (sSeq (sSetIx 0 (eC (.int 2)) (eOp addD (eIxV 0 (eC (.int 2))) (eC (.int 1))))
  (sSet 2 (eOp addD (eOp mulD (eVar 2) (eC (.int 2147483587))) (eCall ms_l_hash F_l_hash (rVal (eIxV 0 (eC (.int 1))) (rVal (eIxV 0 (eC (.int 2))) (ret []))))))))
  (sRet (eOp modD (eCallB intD (aCons (eVar 2) (ret []))) (eVar 1))))))
def F_l_random : Fn := runF ms_l_random 4 false b_l_random
abbrev N_l_random : List Str := ["_law_generator_here", "_law_bound", "_law_drawn", "_law_turn"]
def ms_l_size : List Bool := [true, false, false]
def b_l_size : MS := (sRet (eOp addD (eVar 1) (eCall ms_l_random F_l_random (rLend 0 (rVal (eOp addD (eOp subD (eVar 2) (eVar 1)) (eC (.int 1))) (ret []))))))
def F_l_size : Fn := runF ms_l_size 3 false b_l_size
abbrev N_l_size : List Str := ["_law_generator_here", "_law_least", "_law_most"]
def ms_l_letters : List Bool := [true, false, false]
def b_l_letters : MS := (sSeq (sOwn 3 (eListOf (eC (.str [97, 98, 99, 100, 101, 102, 103, 104, 105, 106, 107, 108, 109, 110, 111, 112, 113, 114, 115, 116, 117, 118, 119, 120, 121, 122]))))
  (sSeq (sSet 4 (eCall ms_l_size F_l_size (rLend 0 (rVal (eVar 1) (rVal (eVar 2) (ret []))))))
  (sRet (eMethS joinD (eC (.str [])) (aCons (eSortedJ (eLc [5] (iRange range1 (aCons (eVar 4) (ret []))) (gN 5) bYes (ePop 3 (eCall ms_l_random F_l_random (rLend 0 (rVal (eLenV 3) (ret []))))))) (ret []))))))
def F_l_letters : Fn := runF ms_l_letters 6 false b_l_letters
abbrev N_l_letters : List Str := ["_law_generator_here", "_law_least", "_law_most", "_law_left", "_law_many", "_law_turn"]
def ms_l_is_read : List Bool := [false, false]
def b_l_is_read : MS := (sSeq (sSet 2 (eC (.int 0)))
  (sSeq (sFor (iAny (eVar 1)) (gN 3) (sIf (eTest (eOp eqD (eSl (eVar 0) (oSome (eVar 2)) (oSome (eOp addD (eVar 2) (eC (.int 1))))) (eVar 3))) (sSet 2 (eOp addD (eVar 2) (eC (.int 1)))) sNx))
  (sRet (eOp eqD (eVar 2) (eCallB lenD (aCons (eVar 0) (ret [])))))))
def F_l_is_read : Fn := runF ms_l_is_read 4 false b_l_is_read
abbrev N_l_is_read : List Str := ["_law_word", "_law_text_here", "_law_at", "_law_letter"]
def ms_l_longer : List Bool := [false, false, false]
def b_l_longer : MS := (sSeq (sSet 3 (eLst (ret [])))
  (sSeq (sFor (iAny (eVar 0)) (gN 4) (sSet 3 (eOp addD (eVar 3) (eLc [5] (iAny (eVar 1)) (gN 5) (eTest (eCall ms_l_is_read F_l_is_read (rVal (eOp addD (eVar 4) (eVar 5)) (rVal (eVar 2) (ret []))))) (eOp addD (eVar 4) (eVar 5))))))
  (sRet (eVar 3))))
def F_l_longer : Fn := runF ms_l_longer 6 false b_l_longer
abbrev N_l_longer : List Str := ["_law_words", "_law_letters_here", "_law_text_here", "_law_found", "_law_word", "_law_letter"]
def ms_l_reads : List Bool := [false, false]
def b_l_reads : MS := (sSeq (sPar3 2 3 4 (aCons (eLst (aCons (eC (.str [])) (ret []))) (aCons (eLst (aCons (eC (.str [])) (ret []))) (aCons (eLc [5] (iAny (eC (.str [97, 98, 99, 100, 101, 102, 103, 104, 105, 106, 107, 108, 109, 110, 111, 112, 113, 114, 115, 116, 117, 118, 119, 120, 121, 122]))) (gN 5) (eTest (eOp inM (eVar 5) (eVar 1))) (eVar 5)) (ret [])))))
  (sSeq (sFor (iRange range1 (aCons (eCallB minA (aCons (eVar 0) (aCons (eCallB lenD (aCons (eVar 1) (ret []))) (ret [])))) (ret []))) (gN 6) (sSeq (sSet 2 (eCall ms_l_longer F_l_longer (rVal (eVar 2) (rVal (eVar 4) (rVal (eVar 1) (ret []))))))
  (sSet 3 (eOp addD (eVar 3) (eVar 2)))))
  (sRet (eVar 3))))
def F_l_reads : Fn := runF ms_l_reads 7 false b_l_reads
abbrev N_l_reads : List Str := ["_law_depth", "_law_text_here", "_law_level", "_law_found", "_law_letters_here", "_law_letter", "_law_size_here"]
def ms_l_rank_ahead : List Bool := [false, false]
def b_l_rank_ahead : MS := (sSeq (sSet 2 (eLc [3] (iAny (eCall ms_l_reads F_l_reads (rVal (eCallB lenD (aCons (eVar 0) (ret []))) (rVal (eSl (eVar 0) oNone (oSome (eOp addD (eVar 1) (eC (.int 1))))) (ret []))))) (gN 3) (eTest (eOp eqD (eSl (eVar 3) (oSome (eOp subD (eCallB lenD (aCons (eVar 3) (ret []))) (eC (.int 1)))) oNone) (eIx (eVar 0) (eVar 1)))) (eVar 3)))
  (sRet (eCallB minA (aCons (eLc [3] (iAny (eVar 2)) (gN 3) (bNot (eTest (eCall ms_l_is_read F_l_is_read (rVal (eVar 3) (rVal (eSl (eVar 0) oNone (oSome (eVar 1))) (ret [])))))) (eCallB lenD (aCons (eVar 3) (ret [])))) (ret [])))))
def F_l_rank_ahead : Fn := runF ms_l_rank_ahead 4 false b_l_rank_ahead
abbrev N_l_rank_ahead : List Str := ["_law_text_here", "_law_at", "_law_words", "_law_word"]
def ms_l_ranks : List Bool := [false]
def b_l_ranks : MS := (sSeq (sPar2N 1 2 (rNew (eLst (ret [])) (rVal (eRevA (eVar 0) (oSome (eNeg (eC (.int 1))))) (ret []))))
  (sSeq (sFor (iRange range1 (aCons (eCallB lenD (aCons (eVar 0) (ret []))) (ret []))) (gN 3) (sApp 1 (eTup (aCons (eCall ms_l_rank_ahead F_l_rank_ahead (rVal (eVar 0) (rVal (eVar 3) (ret [])))) (aCons (eCall ms_l_rank_ahead F_l_rank_ahead (rVal (eVar 2) (rVal (eOp subD (eOp subD (eCallB lenD (aCons (eVar 0) (ret []))) (eC (.int 1))) (eVar 3)) (ret [])))) (ret []))))))
  (sRet (eVar 1))))
def F_l_ranks : Fn := runF ms_l_ranks 4 false b_l_ranks
abbrev N_l_ranks : List Str := ["_law_text_here", "_law_found", "_law_back", "_law_at"]
def ms_l_text : List Bool := [true, false, false, false]
def b_l_text : MS := (sSeq (sSet 4 (eCall ms_l_size F_l_size (rLend 0 (rVal (eVar 2) (rVal (eVar 3) (ret []))))))
  (sSeq (sSet 5 (eMethS joinD (eC (.str [])) (aCons (eLc [6] (iRange range1 (aCons (eVar 4) (ret []))) (gN 6) bYes (eIx (eVar 1) (eCall ms_l_random F_l_random (rLend 0 (rVal (eCallB lenD (aCons (eVar 1) (ret []))) (ret [])))))) (ret []))))
  (sSeq (sIf (bAnd (eTest (eOp neD (eVar 5) (eC (.str [])))) (eTest (eOp eqD (eCall ms_l_random F_l_random (rLend 0 (rVal (eC (.int 4)) (ret [])))) (eC (.int 0))))) (sRet (eSl (eOp mulD (eSl (eVar 5) oNone (oSome (eCall ms_l_size F_l_size (rLend 0 (rVal (eC (.int 1)) (rVal (eC (.int 3)) (ret []))))))) (eVar 3)) oNone (oSome (eCallB lenD (aCons (eVar 5) (ret [])))))) sNx)
  (sRet (eVar 5)))))
def F_l_text : Fn := runF ms_l_text 7 false b_l_text
abbrev N_l_text : List Str := ["_law_generator_here", "_law_letters_here", "_law_least", "_law_most", "_law_many", "_law_text_here", "_law_turn"]
def ms_l_told_right : List Bool := [false, false]
def b_l_told_right : MS := (sSeq (sOwn 2 (eCall ms_ranks F_ranks (rVal (eVar 0) (ret []))))
  (sSeq (sIf (bOr (bNot (eTest (eStill [2] (eCallB isiD (aCons (eVar 2) (aCons (eC (.ty "list")) (ret []))))))) (bNot (eTest (eStill [2] (eCall ms_l_same F_l_same (rVal (eVar 2) (rVal (eVar 1) (ret [])))))))) (sRet (eC (.bl false))) sNx)
  (sSeq (sApp 2 (eTup (aCons (eC (.int 7)) (aCons (eC (.int 7)) (ret [])))))
  (sRet (eCall ms_l_same F_l_same (rVal (eCall ms_ranks F_ranks (rVal (eVar 0) (ret []))) (rVal (eVar 1) (ret []))))))))
def F_l_told_right : Fn := runF ms_l_told_right 3 false b_l_told_right
abbrev N_l_told_right : List Str := ["_law_text_here", "_law_due", "_law_told"]
def ms_is_whole : List Bool := [false]
def b_is_whole : MS := (sRet (eAnd (eCallB isiD (aCons (eVar 0) (aCons (eC (.ty "int")) (ret [])))) (eNot (eCallB isiD (aCons (eVar 0) (aCons (eC (.ty "bool")) (ret [])))))))
def F_is_whole : Fn := runF ms_is_whole 1 false b_is_whole
abbrev N_is_whole : List Str := ["value"]
def ms_is_between : List Bool := [false, false, false]
def b_is_between : MS := (sSeq (sIf (bNot (eTest (eCall ms_is_whole F_is_whole (rVal (eVar 0) (ret []))))) (sRet (eC (.bl false))) sNx)
  (sRet (eAnd (eOr (eOp (orF isN isBq) (eVar 1) (eC .non)) (eOp geD (eVar 0) (eVar 1))) (eOr (eOp (orF isN isBq) (eVar 2) (eC .non)) (eOp leD (eVar 0) (eVar 2))))))
def F_is_between : Fn := runF ms_is_between 3 false b_is_between
abbrev N_is_between : List Str := ["value", "low", "high"]
def ms_check_number : List Bool := [false, false, false]
def b_check_number : MS := (sIf (bNot (eTest (eCall ms_is_between F_is_between (rVal (eVar 0) (rVal (eVar 1) (rVal (eVar 2) (ret []))))))) sNever sNx)
def F_check_number : Fn := runF ms_check_number 3 false b_check_number
abbrev N_check_number : List Str := ["number", "low", "high"]
def ms_check_depth : List Bool := [false]
def b_check_depth : MS := (sDo (eCall ms_check_number F_check_number (rVal (eVar 0) (rVal (eC (.int 0)) (rVal (eC .non) (ret []))))))
def F_check_depth : Fn := runF ms_check_depth 1 false b_check_depth
abbrev N_check_depth : List Str := ["depth"]
def ms_can_go : List Bool := [false, false]
def b_can_go : MS := (sSeq (sDo (eCall ms_check_depth F_check_depth (rVal (eVar 0) (ret []))))
  (sSeq (sDo (eCall ms_check_text F_check_text (rVal (eVar 1) (ret []))))
  (sRetF (eLc [2, 3] (iEnumM (eCall ms_ranks_of F_ranks_of (rVal (eVar 1) (ret [])))) (gT [2, 3]) (eTest (eOp gtD (eOp addD (eIx (eVar 3) (eC (.int 0))) (eIx (eVar 3) (eC (.int 1)))) (eOp addD (eVar 0) (eC (.int 1))))) (eVar 2)))))
def F_can_go : Fn := runF ms_can_go 4 true b_can_go
abbrev N_can_go : List Str := ["depth", "text", "at", "pair"]
def ms_l_goes : List Bool := [false, false]
def b_l_goes : MS := (sSeq (sSet 2 (eCall ms_l_reads F_l_reads (rVal (eVar 0) (rVal (eVar 1) (ret [])))))
  (sRet (eLc [3] (iRange range1 (aCons (eCallB lenD (aCons (eVar 1) (ret []))) (ret []))) (gN 3) (eTest (eOp eqD (eCall ms_l_reads F_l_reads (rVal (eVar 0) (rVal (eOp addD (eSl (eVar 1) oNone (oSome (eVar 3))) (eSl (eVar 1) (oSome (eOp addD (eVar 3) (eC (.int 1)))) oNone)) (ret [])))) (eVar 2))) (eVar 3))))
def F_l_goes : Fn := runF ms_l_goes 4 false b_l_goes
abbrev N_l_goes : List Str := ["_law_depth", "_law_text_here", "_law_due", "_law_at"]
def ms_l_right : List Bool := [true]
def b_l_right : MS := (sSeq (sSet 1 (eCall ms_l_letters F_l_letters (rLend 0 (rVal (eC (.int 1)) (rVal (eC (.int 3)) (ret []))))))
  (sSeq (sPar 2 3 (aCons (eCall ms_l_text F_l_text (rLend 0 (rVal (eVar 1) (rVal (eC (.int 0)) (rVal (eC (.int 7)) (ret [])))))) (aCons (eCall ms_l_random F_l_random (rLend 0 (rVal (eC (.int 6)) (ret [])))) (ret []))))
  (sSeq (sSet 4 (eCall ms_l_ranks F_l_ranks (rVal (eVar 2) (ret []))))
  (sSeq (sIf (bNot (eTest (eCall ms_l_told_right F_l_told_right (rVal (eVar 2) (rVal (eVar 4) (ret [])))))) (sRet (eC (.bl false))) sNx)
  (sSeq (sFor (iAny (eLst (aCons (eVar 3) (aCons (eCallB lenD (aCons (eVar 2) (ret []))) (aCons (eOp powD (eC (.int 10)) (eC (.int 29))) (ret [])))))) (gN 5) (sSeq (sPar2N 6 7 (rNew (eCall ms_can_go F_can_go (rVal (eVar 5) (rVal (eVar 2) (ret [])))) (rVal (eCall ms_l_goes F_l_goes (rVal (eCallB minA (aCons (eVar 5) (aCons (eOp addD (eCallB lenD (aCons (eVar 2) (ret []))) (eC (.int 1))) (ret [])))) (rVal (eVar 2) (ret [])))) (ret []))))
  (sSeq (sIf (bOr (bNot (eTest (eStill [6] (eCallB isiD (aCons (eVar 6) (aCons (eC (.ty "list")) (ret []))))))) (bNot (eTest (eStill [6] (eCall ms_l_same F_l_same (rVal (eVar 6) (rVal (eVar 7) (ret [])))))))) (sRet (eC (.bl false))) sNx)
  (sSeq (sIf (eTest (eOp neD (eVar 7) (eLc [8, 9] (iEnumM (eVar 4)) (gT [8, 9]) (eTest (eOp gtD (eOp addD (eIx (eVar 9) (eC (.int 0))) (eIx (eVar 9) (eC (.int 1)))) (eOp addD (eVar 5) (eC (.int 1))))) (eVar 8)))) (sRet (eC (.bl false))) sNx)
  (sSeq (sApp 6 (eC (.int 0)))
  (sIf (bNot (eTest (eCall ms_l_same F_l_same (rVal (eCall ms_can_go F_can_go (rVal (eVar 5) (rVal (eVar 2) (ret [])))) (rVal (eVar 7) (ret [])))))) (sRet (eC (.bl false))) sNx))))))
  (sRet (eC (.bl true))))))))
def F_l_right : Fn := runF ms_l_right 10 false b_l_right
abbrev N_l_right : List Str := ["_law_generator_here", "_law_letters_here", "_law_text_here", "_law_depth", "_law_due", "_law_level", "_law_told", "_law_goes_here", "_law_at", "_law_pair"]
def ms_l_long_right : List Bool := [true]
def b_l_long_right : MS := (sSeq (sSet 1 (eCall ms_l_letters F_l_letters (rLend 0 (rVal (eC (.int 1)) (rVal (eC (.int 6)) (ret []))))))
  (sSeq (sSet 2 (eCall ms_l_text F_l_text (rLend 0 (rVal (eVar 1) (rVal (eC (.int 20)) (rVal (eC (.int 60)) (ret [])))))))
  (sSeq (sAsg (eTup (aCons (eCall ms_l_long_ranks F_l_long_ranks (rVal (eVar 2) (ret []))) (aCons (eCall ms_l_random F_l_random (rLend 0 (rVal (eC (.int 20)) (ret [])))) (ret [])))) (gT [3, 4]))
  (sSeq (sIf (bNot (eTest (eCall ms_l_told_right F_l_told_right (rVal (eVar 2) (rVal (eVar 3) (ret [])))))) (sRet (eC (.bl false))) sNx)
  (sRet (eCall ms_l_same F_l_same (rVal (eCall ms_can_go F_can_go (rVal (eVar 4) (rVal (eVar 2) (ret [])))) (rVal (eLc [5, 6] (iEnumM (eVar 3)) (gT [5, 6]) (eTest (eOp gtD (eOp addD (eIx (eVar 6) (eC (.int 0))) (eIx (eVar 6) (eC (.int 1)))) (eOp addD (eVar 4) (eC (.int 1))))) (eVar 5)) (ret [])))))))))
def F_l_long_right : Fn := runF ms_l_long_right 7 false b_l_long_right
abbrev N_l_long_right : List Str := ["_law_generator_here", "_law_letters_here", "_law_text_here", "_law_due", "_law_level", "_law_at", "_law_pair"]
def ms_law : List Bool := [false]
def b_law : MS := (sSeq (sFor (iRange range1 (aCons (eC (.int 2)) (ret []))) (gN 1) (sSeq (sOwn 2 (eCall ms_l_generator F_l_generator (rVal (eVar 0) (rVal (eVar 1) (ret [])))))
  (sIf (bOr (bNot (eTest (eCall ms_l_right F_l_right (rLend 2 (ret []))))) (bNot (eTest (eCall ms_l_long_right F_l_long_right (rLend 2 (ret [])))))) (sRet (eC (.bl false))) sNx)))
  (sSeq (sIf (bNot (eTest (eCall ms_l_same F_l_same (rVal (eLst (aCons (eCall ms_ranks F_ranks (rVal (eC (.str [])) (ret []))) (aCons (eCall ms_can_go F_can_go (rVal (eC (.int 0)) (rVal (eC (.str [97, 98])) (ret [])))) (aCons (eCall ms_can_go F_can_go (rVal (eC (.int 0)) (rVal (eC (.str [])) (ret [])))) (ret []))))) (rVal (eLst (aCons (eLst (ret [])) (aCons (eLst (aCons (eC (.int 0)) (aCons (eC (.int 1)) (ret [])))) (aCons (eLst (ret [])) (ret []))))) (ret [])))))) (sRet (eC (.bl false))) sNx)
  (sSeq (sSet 3 (eOp mulD (eC (.str [97, 98])) (eC (.int 150))))
  (sSeq (sSet 4 (eCall ms_l_long_ranks F_l_long_ranks (rVal (eVar 3) (ret []))))
  (sRet (eAnd (eCall ms_l_same F_l_same (rVal (eCall ms_ranks F_ranks (rVal (eVar 3) (ret []))) (rVal (eVar 4) (ret [])))) (eCall ms_l_same F_l_same (rVal (eCall ms_ranks F_ranks (rVal (eC (.str [97, 98, 98, 97])) (ret []))) (rVal (eLst (aCons (eTup (aCons (eC (.int 1)) (aCons (eC (.int 2)) (ret [])))) (aCons (eTup (aCons (eC (.int 1)) (aCons (eC (.int 2)) (ret [])))) (aCons (eTup (aCons (eC (.int 2)) (aCons (eC (.int 1)) (ret [])))) (aCons (eTup (aCons (eC (.int 2)) (aCons (eC (.int 1)) (ret [])))) (ret [])))))) (ret []))))))))))
def F_law : Fn := runF ms_law 5 false b_law
abbrev N_law : List Str := ["_law_script", "_law_index", "_law_generator_here", "_law_great", "_law_due"]
/-! ### what the top has left -/
structure Names (K : PySem.W.Frag) (mg : Str → Option Value) where
  a_l_row : Addr
  d_l_row : FuncData
  u_l_row : Fun K "_law_row" "_law_row" s_l_row a_l_row d_l_row
  m_l_row : mg "_law_row" = some (.ref a_l_row)
  b_l_row : Binds K d_l_row ["_law_text_here"] []
  a_l_long_ranks : Addr
  d_l_long_ranks : FuncData
  u_l_long_ranks : Fun K "_law_long_ranks" "_law_long_ranks" s_l_long_ranks a_l_long_ranks d_l_long_ranks
  m_l_long_ranks : mg "_law_long_ranks" = some (.ref a_l_long_ranks)
  b_l_long_ranks : Binds K d_l_long_ranks ["_law_text_here"] []
  a_l_cell : Addr
  d_l_cell : FuncData
  u_l_cell : Fun K "_law_cell" "_law_cell" s_l_cell a_l_cell d_l_cell
  m_l_cell : mg "_law_cell" = some (.ref a_l_cell)
  b_l_cell : Binds K d_l_cell ["_law_script", "_law_index"] []
  a_l_generator : Addr
  d_l_generator : FuncData
  u_l_generator : Fun K "_law_generator" "_law_generator" s_l_generator a_l_generator d_l_generator
  m_l_generator : mg "_law_generator" = some (.ref a_l_generator)
  b_l_generator : Binds K d_l_generator ["_law_script", "_law_index"] []
  a_l_same : Addr
  d_l_same : FuncData
  u_l_same : Fun K "_law_same" "_law_same" s_l_same a_l_same d_l_same
  m_l_same : mg "_law_same" = some (.ref a_l_same)
  b_l_same : Binds K d_l_same ["_law_told", "_law_due"] []
  a_is_string_of : Addr
  d_is_string_of : FuncData
  u_is_string_of : Fun K "is_string_of" "is_string_of" s_is_string_of a_is_string_of d_is_string_of
  m_is_string_of : mg "is_string_of" = some (.ref a_is_string_of)
  b_is_string_of : Binds K d_is_string_of ["value", "signs"] []
  a_is_letters_alone : Addr
  d_is_letters_alone : FuncData
  u_is_letters_alone : Fun K "is_letters_alone" "is_letters_alone" s_is_letters_alone a_is_letters_alone d_is_letters_alone
  m_is_letters_alone : mg "is_letters_alone" = some (.ref a_is_letters_alone)
  b_is_letters_alone : Binds K d_is_letters_alone ["value"] []
  a_check_text : Addr
  d_check_text : FuncData
  u_check_text : Fun K "check_text" "check_text" s_check_text a_check_text d_check_text
  m_check_text : mg "check_text" = some (.ref a_check_text)
  b_check_text : Binds K d_check_text ["text"] []
  a_ranks_ahead : Addr
  d_ranks_ahead : FuncData
  u_ranks_ahead : Fun K "ranks_ahead" "ranks_ahead" s_ranks_ahead a_ranks_ahead d_ranks_ahead
  m_ranks_ahead : mg "ranks_ahead" = some (.ref a_ranks_ahead)
  b_ranks_ahead : Binds K d_ranks_ahead ["text"] []
  a_ranks_of : Addr
  d_ranks_of : FuncData
  u_ranks_of : Fun K "ranks_of" "ranks_of" s_ranks_of a_ranks_of d_ranks_of
  m_ranks_of : mg "ranks_of" = some (.ref a_ranks_of)
  b_ranks_of : Binds K d_ranks_of ["text"] []
  a_ranks : Addr
  d_ranks : FuncData
  u_ranks : Fun K "ranks" "ranks" s_ranks a_ranks d_ranks
  m_ranks : mg "ranks" = some (.ref a_ranks)
  b_ranks : Binds K d_ranks ["text"] []
  a_l_hash : Addr
  d_l_hash : FuncData
  u_l_hash : Fun K "_law_hash" "_law_hash" s_l_hash a_l_hash d_l_hash
  m_l_hash : mg "_law_hash" = some (.ref a_l_hash)
  b_l_hash : Binds K d_l_hash ["_law_seed", "_law_index"] []
  a_l_random : Addr
  d_l_random : FuncData
  u_l_random : Fun K "_law_random" "_law_random" s_l_random a_l_random d_l_random
  m_l_random : mg "_law_random" = some (.ref a_l_random)
  b_l_random : Binds K d_l_random ["_law_generator_here", "_law_bound"] []
  a_l_size : Addr
  d_l_size : FuncData
  u_l_size : Fun K "_law_size" "_law_size" s_l_size a_l_size d_l_size
  m_l_size : mg "_law_size" = some (.ref a_l_size)
  b_l_size : Binds K d_l_size ["_law_generator_here", "_law_least", "_law_most"] []
  a_l_letters : Addr
  d_l_letters : FuncData
  u_l_letters : Fun K "_law_letters" "_law_letters" s_l_letters a_l_letters d_l_letters
  m_l_letters : mg "_law_letters" = some (.ref a_l_letters)
  b_l_letters : Binds K d_l_letters ["_law_generator_here", "_law_least", "_law_most"] []
  a_l_is_read : Addr
  d_l_is_read : FuncData
  u_l_is_read : Fun K "_law_is_read" "_law_is_read" s_l_is_read a_l_is_read d_l_is_read
  m_l_is_read : mg "_law_is_read" = some (.ref a_l_is_read)
  b_l_is_read : Binds K d_l_is_read ["_law_word", "_law_text_here"] []
  a_l_longer : Addr
  d_l_longer : FuncData
  u_l_longer : Fun K "_law_longer" "_law_longer" s_l_longer a_l_longer d_l_longer
  m_l_longer : mg "_law_longer" = some (.ref a_l_longer)
  b_l_longer : Binds K d_l_longer ["_law_words", "_law_letters_here", "_law_text_here"] []
  a_l_reads : Addr
  d_l_reads : FuncData
  u_l_reads : Fun K "_law_reads" "_law_reads" s_l_reads a_l_reads d_l_reads
  m_l_reads : mg "_law_reads" = some (.ref a_l_reads)
  b_l_reads : Binds K d_l_reads ["_law_depth", "_law_text_here"] []
  a_l_rank_ahead : Addr
  d_l_rank_ahead : FuncData
  u_l_rank_ahead : Fun K "_law_rank_ahead" "_law_rank_ahead" s_l_rank_ahead a_l_rank_ahead d_l_rank_ahead
  m_l_rank_ahead : mg "_law_rank_ahead" = some (.ref a_l_rank_ahead)
  b_l_rank_ahead : Binds K d_l_rank_ahead ["_law_text_here", "_law_at"] []
  a_l_ranks : Addr
  d_l_ranks : FuncData
  u_l_ranks : Fun K "_law_ranks" "_law_ranks" s_l_ranks a_l_ranks d_l_ranks
  m_l_ranks : mg "_law_ranks" = some (.ref a_l_ranks)
  b_l_ranks : Binds K d_l_ranks ["_law_text_here"] []
  a_l_text : Addr
  d_l_text : FuncData
  u_l_text : Fun K "_law_text" "_law_text" s_l_text a_l_text d_l_text
  m_l_text : mg "_law_text" = some (.ref a_l_text)
  b_l_text : Binds K d_l_text ["_law_generator_here", "_law_letters_here", "_law_least", "_law_most"] []
  a_l_told_right : Addr
  d_l_told_right : FuncData
  u_l_told_right : Fun K "_law_told_right" "_law_told_right" s_l_told_right a_l_told_right d_l_told_right
  m_l_told_right : mg "_law_told_right" = some (.ref a_l_told_right)
  b_l_told_right : Binds K d_l_told_right ["_law_text_here", "_law_due"] []
  a_is_whole : Addr
  d_is_whole : FuncData
  u_is_whole : Fun K "is_whole" "is_whole" s_is_whole a_is_whole d_is_whole
  m_is_whole : mg "is_whole" = some (.ref a_is_whole)
  b_is_whole : Binds K d_is_whole ["value"] []
  a_is_between : Addr
  d_is_between : FuncData
  u_is_between : Fun K "is_between" "is_between" s_is_between a_is_between d_is_between
  m_is_between : mg "is_between" = some (.ref a_is_between)
  b_is_between : Binds K d_is_between ["value", "low", "high"] []
  a_check_number : Addr
  d_check_number : FuncData
  u_check_number : Fun K "check_number" "check_number" s_check_number a_check_number d_check_number
  m_check_number : mg "check_number" = some (.ref a_check_number)
  b_check_number : Binds K d_check_number ["number", "low", "high"] []
  a_check_depth : Addr
  d_check_depth : FuncData
  u_check_depth : Fun K "check_depth" "check_depth" s_check_depth a_check_depth d_check_depth
  m_check_depth : mg "check_depth" = some (.ref a_check_depth)
  b_check_depth : Binds K d_check_depth ["depth"] []
  a_can_go : Addr
  d_can_go : FuncData
  u_can_go : Fun K "can_go" "can_go" s_can_go a_can_go d_can_go
  m_can_go : mg "can_go" = some (.ref a_can_go)
  b_can_go : Binds K d_can_go ["depth", "text"] []
  a_l_goes : Addr
  d_l_goes : FuncData
  u_l_goes : Fun K "_law_goes" "_law_goes" s_l_goes a_l_goes d_l_goes
  m_l_goes : mg "_law_goes" = some (.ref a_l_goes)
  b_l_goes : Binds K d_l_goes ["_law_depth", "_law_text_here"] []
  a_l_right : Addr
  d_l_right : FuncData
  u_l_right : Fun K "_law_right" "_law_right" s_l_right a_l_right d_l_right
  m_l_right : mg "_law_right" = some (.ref a_l_right)
  b_l_right : Binds K d_l_right ["_law_generator_here"] []
  a_l_long_right : Addr
  d_l_long_right : FuncData
  u_l_long_right : Fun K "_law_long_right" "_law_long_right" s_l_long_right a_l_long_right d_l_long_right
  m_l_long_right : mg "_law_long_right" = some (.ref a_l_long_right)
  b_l_long_right : Binds K d_l_long_right ["_law_generator_here"] []
  a_law : Addr
  d_law : FuncData
  u_law : Fun K "law" "law" s_law a_law d_law
  m_law : mg "law" = some (.ref a_law)
  b_law : Binds K d_law ["_law_script"] []
  n_len : mg "len" = none
  n_range : mg "range" = none
  n_min : mg "min" = none
  n_enumerate : mg "enumerate" = none
  n_sum : mg "sum" = none
  n_int : mg "int" = none
  n_max : mg "max" = none
  n_repr : mg "repr" = none
  n_str : mg "str" = none
  n_isinstance : mg "isinstance" = none
  n_zip : mg "zip" = none
  n_list : mg "list" = none
  n_sorted : mg "sorted" = none
  n_bool : mg "bool" = none
  t_LETTERS : Tok
  c_LETTERS : mg "LETTERS" = some (.str (mkS k_LETTERS) t_LETTERS)
/-! ### the defs keep their promises -/
section
variable {P : Program} {w : World} {K : PySem.W.Frag} {mg : Str → Option Value} {base : Heap}
set_option maxHeartbeats 4000000 in
theorem ok_l_row (T : Names K mg) : FnG P w K mg base 1 T.a_l_row T.d_l_row ["_law_text_here"] (spF K ms_l_row false F_l_row) :=
  have sc : FnScope N_l_row ["_law_text_here"] (defScope s_l_row) := ⟨rfl, rfl, rfl, by decide +kernel, rfl, by decide +kernel, by decide +kernel⟩
  fn_bodyG T.u_l_row sc ms_l_row false rfl fun cdv A outer s H E hr =>
    (pdb_cons (pds_own 1 (pf_lst pda_nil) sc.nd)
      (pdb_cons (pds_for (vs := [2]) (pdi_range1 T.n_range (pda_cons (pd_callB call_lenD T.n_len (pda_cons (pd_var 0) pda_nil)) pda_nil)) (pdg_name 2 sc.nd) (pdb_cons (pds_set 3 (pd_methS meth_rfind PySem.F.slot_str_rfind PySem.F.type_str_rfind (pd_slice (pd_var 0) pdo_none (pdo_some (pd_var 2))) (pda_cons (pd_ix (hu_of hr.room) (pd_var 0) (pd_var 2)) pda_nil)) sc.nd)
      (pdb_one (pds_append (pv 1) (pd_if (pdt_cmp op_ltD.d (pd_var 3) pd_int (nomark _)) pd_int (pd_op op_addD pd_int (pd_still [1] (pd_callB (call_minA rfl) T.n_min (pda_cons (pd_slice (pd_var 1) (pdo_some (pd_var 3)) pdo_none) pda_nil)))))))))
      (pdb_one (pds_ret (pd_var 1)))))
set_option maxHeartbeats 4000000 in
theorem ok_l_long_ranks (T : Names K mg) : FnG P w K mg base 2 T.a_l_long_ranks T.d_l_long_ranks ["_law_text_here"] (spF K ms_l_long_ranks false F_l_long_ranks) :=
  have sc : FnScope N_l_long_ranks ["_law_text_here"] (defScope s_l_long_ranks) := ⟨rfl, rfl, rfl, by decide +kernel, rfl, by decide +kernel, by decide +kernel⟩
  fn_bodyG T.u_l_long_ranks sc ms_l_long_ranks false rfl fun cdv A outer s H E hr =>
    (pdb_cons (pds_set 1 (pd_callG (ok_l_row T) (hr.mono (by decide)) T.m_l_row T.u_l_row.kp T.b_l_row (pdr_val (pd_revA (pd_var 0) (pdo_some (pd_neg pd_int))) pdr_nil)) sc.nd)
      (pdb_one (pds_ret (pf_lc [("_law_at", 2), ("_law_rank", 3)] sc.nd (pdi_enum T.n_enumerate (pd_callG (ok_l_row T) (hr.mono (by decide)) T.m_l_row T.u_l_row.kp T.b_l_row (pdr_val (pd_var 0) pdr_nil))) (blkOk_by (own := [("_law_at", 2), ("_law_rank", 3)]) (N := N_l_long_ranks) (sc := defScope s_l_long_ranks) (by decide +kernel)) (fun _ _ _ _ _ => (pdg_tup (pdgs_cons 2 (pdgs_cons 3 pdgs_nil sc.nd) sc.nd) rfl)) (fun _ _ _ _ _ => pdts_nil) (fun _ _ _ _ _ => (pd_tup (pda_cons (pd_var 3) (pda_cons (pd_ix (hu_of hr.room) (pd_var 1) (pd_op op_subD.d (pd_op op_subD.d (pd_callB call_lenD T.n_len (pda_cons (pd_var 0) pda_nil)) pd_int) (pd_var 2))) pda_nil))))).pd)))
set_option maxHeartbeats 4000000 in
theorem ok_l_cell (T : Names K mg) : FnG P w K mg base 1 T.a_l_cell T.d_l_cell ["_law_script", "_law_index"] (spF K ms_l_cell false F_l_cell) :=
  have sc : FnScope N_l_cell ["_law_script", "_law_index"] (defScope s_l_cell) := ⟨rfl, rfl, rfl, by decide +kernel, rfl, by decide +kernel, by decide +kernel⟩
  fn_bodyG T.u_l_cell sc ms_l_cell false rfl fun cdv A outer s H E hr =>
    (pdb_cons (pds_if (pdt_cmp op_ltD.d (pd_var 1) (pd_callB call_lenD T.n_len (pda_cons (pd_var 0) pda_nil)) (nomark _)) (pdb_one (pds_ret (pd_ix (hu_of hr.room) (pd_var 0) (pd_var 1)))) pdb_nil)
      (pdb_one (pds_ret (pd_op op_modD.d (pd_callB (call_sumD rfl) T.n_sum (pda_cons (pd_slice (pd_var 0) pdo_none (pdo_some pd_int)) pda_nil)) pd_int))))
set_option maxHeartbeats 4000000 in
theorem ok_l_generator (T : Names K mg) : FnG P w K mg base 2 T.a_l_generator T.d_l_generator ["_law_script", "_law_index"] (spF K ms_l_generator true F_l_generator) :=
  have sc : FnScope N_l_generator ["_law_script", "_law_index"] (defScope s_l_generator) := ⟨rfl, rfl, rfl, by decide +kernel, rfl, by decide +kernel, by decide +kernel⟩
  fn_bodyG T.u_l_generator sc ms_l_generator true rfl fun cdv A outer s H E hr =>
    (pdb_cons (pds_set 2 (pd_callG (ok_l_cell T) (hr.mono (by decide)) T.m_l_cell T.u_l_cell.kp T.b_l_cell (pdr_val (pd_var 0) (pdr_val (pd_var 1) pdr_nil))) sc.nd)
      (pdb_one (pds_retF (pf_lst (pda_cons (pd_op op_modD.d (pd_callTy call_intD T.n_int (pda_cons (pd_callB (call_maxA rfl) T.n_max (pda_cons (pd_op op_subD.d (pd_var 2) (pd_op op_powD.d pd_int pd_int)) (pda_cons pd_int pda_nil))) pda_nil)) (pd_op op_powD.d (pd_op op_powD.d pd_int pd_int) pd_int)) (pda_cons (pd_op op_modD.d (pd_callTy call_intD T.n_int (pda_cons (pd_var 2) pda_nil)) pd_int) (pda_cons (pd_op op_mulD pd_int (pd_var 1)) pda_nil)))))))
set_option maxHeartbeats 4000000 in
theorem ok_l_same (T : Names K mg) : FnG P w K mg base 1 T.a_l_same T.d_l_same ["_law_told", "_law_due"] (spF K ms_l_same false F_l_same) :=
  have sc : FnScope N_l_same ["_law_told", "_law_due"] (defScope s_l_same) := ⟨rfl, rfl, rfl, by decide +kernel, rfl, by decide +kernel, by decide +kernel⟩
  fn_bodyG T.u_l_same sc ms_l_same false rfl fun cdv A outer s H E hr =>
    (pdb_one (pds_ret (pd_cmp (op_eqq hr.room).d (pd_callB (call_reprD hr) T.n_repr (pda_cons (pd_var 0) pda_nil)) (pd_callB (call_reprD hr) T.n_repr (pda_cons (pd_var 1) pda_nil)) (nomark _))))
set_option maxHeartbeats 4000000 in
theorem ok_is_string_of (T : Names K mg) : FnG P w K mg base 1 T.a_is_string_of T.d_is_string_of ["value", "signs"] (spF K ms_is_string_of false F_is_string_of) :=
  have sc : FnScope N_is_string_of ["value", "signs"] (defScope s_is_string_of) := ⟨rfl, rfl, rfl, by decide +kernel, rfl, by decide +kernel, by decide +kernel⟩
  fn_bodyG T.u_is_string_of sc ms_is_string_of false rfl fun cdv A outer s H E hr =>
    (pdb_one (pds_ret (pd_and (pd_callB call_isiD T.n_isinstance (pda_cons (pd_var 0) (pda_cons (pd_ty "str" T.n_str) pda_nil))) (pd_one (pd_cmp (op_eqq hr.room).d (pd_methS meth_strip PySem.F.slot_str_strip PySem.F.type_str_strip (pd_var 0) (pda_cons (pd_var 1) pda_nil)) (pd_str []) (nomark _))))))
set_option maxHeartbeats 4000000 in
theorem ok_is_letters_alone (T : Names K mg) : FnG P w K mg base 2 T.a_is_letters_alone T.d_is_letters_alone ["value"] (spF K ms_is_letters_alone false F_is_letters_alone) :=
  have sc : FnScope N_is_letters_alone ["value"] (defScope s_is_letters_alone) := ⟨rfl, rfl, rfl, by decide +kernel, rfl, by decide +kernel, by decide +kernel⟩
  fn_bodyG T.u_is_letters_alone sc ms_is_letters_alone false rfl fun cdv A outer s H E hr =>
    (pdb_one (pds_ret (pd_callG (ok_is_string_of T) (hr.mono (by decide)) T.m_is_string_of T.u_is_string_of.kp T.b_is_string_of (pdr_val (pd_var 0) (pdr_val (pd_glob (d := .str k_LETTERS) (v := .str (mkS k_LETTERS)) T.c_LETTERS ⟨_, rfl⟩ (fun _ => rfl)) pdr_nil)))))
set_option maxHeartbeats 4000000 in
theorem ok_check_text (T : Names K mg) : FnG P w K mg base 3 T.a_check_text T.d_check_text ["text"] (spF K ms_check_text false F_check_text) :=
  have sc : FnScope N_check_text ["text"] (defScope s_check_text) := ⟨rfl, rfl, rfl, by decide +kernel, rfl, by decide +kernel, by decide +kernel⟩
  fn_bodyG T.u_check_text sc ms_check_text false rfl fun cdv A outer s H E hr =>
    (pdb_one (pds_if (pdt_not (pdt_val (pd_callG (ok_is_letters_alone T) (hr.mono (by decide)) T.m_is_letters_alone T.u_is_letters_alone.kp T.b_is_letters_alone (pdr_val (pd_var 0) pdr_nil)))) (pdb_one pds_never) pdb_nil))
set_option maxHeartbeats 4000000 in
theorem ok_ranks_ahead (T : Names K mg) : FnG P w K mg base 1 T.a_ranks_ahead T.d_ranks_ahead ["text"] (spF K ms_ranks_ahead true F_ranks_ahead) :=
  have sc : FnScope N_ranks_ahead ["text"] (defScope s_ranks_ahead) := ⟨rfl, rfl, rfl, by decide +kernel, rfl, by decide +kernel, by decide +kernel⟩
  fn_bodyG T.u_ranks_ahead sc ms_ranks_ahead true rfl fun cdv A outer s H E hr =>
    (pdb_cons (pds_tupN (pdn_new pf_dic (pdn_new (pf_lst pda_nil) pdn_nil)) (pdgn_cons 1 (pdgn_cons 2 pdgn_nil sc.nd) sc.nd))
      (pdb_cons (pds_for (vs := [3]) (pdi_any (pd_var 0)) (pdg_name 3 sc.nd) (pdb_cons (pds_set 4 (pd_op op_addD (pd_get2V (hu_of hr.room) (pv 1) (pd_var 3) pd_int) pd_int) sc.nd)
      (pdb_cons (pds_own 1 (pf_dc [("other", 5)] sc.nd (pdi_any (pd_var 1)) (blkOk_by (own := [("other", 5)]) (N := N_ranks_ahead) (sc := defScope s_ranks_ahead) (by decide +kernel)) (fun _ _ _ _ _ => (pdg_name 5 sc.nd)) (fun _ _ _ _ _ => pdts_nil) (fun _ _ _ _ _ => (pd_var 5)) (fun _ _ _ _ _ => (pd_callB (call_minA rfl) T.n_min (pda_cons (pd_ixV (hu_of hr.room) (pv 1) (pd_var 5)) (pda_cons (pd_var 4) pda_nil))))) sc.nd)
      (pdb_cons (pds_put (hu_of hr.room) (pv 1) (pd_var 3) (pd_var 4))
      (pdb_one (pds_append (pv 2) (pd_var 4)))))))
      (pdb_one (pds_retV 2 (pv 2)))))
set_option maxHeartbeats 4000000 in
theorem ok_ranks_of (T : Names K mg) : FnG P w K mg base 2 T.a_ranks_of T.d_ranks_of ["text"] (spF K ms_ranks_of true F_ranks_of) :=
  have sc : FnScope N_ranks_of ["text"] (defScope s_ranks_of) := ⟨rfl, rfl, rfl, by decide +kernel, rfl, by decide +kernel, by decide +kernel⟩
  fn_bodyG T.u_ranks_of sc ms_ranks_of true rfl fun cdv A outer s H E hr =>
    (pdb_cons (pds_own 1 (pf_callG (ok_ranks_ahead T) (hr.mono (by decide)) T.m_ranks_ahead T.u_ranks_ahead.kp T.b_ranks_ahead (pdr_val (pd_revA (pd_var 0) (pdo_some (pd_neg pd_int))) pdr_nil)) sc.nd)
      (pdb_cons (pds_reverse (pv 1))
      (pdb_one (pds_retF (pf_lc [("one", 2), ("other", 3)] sc.nd (pdi_zipS T.n_zip (pda_cons (pf_callG (ok_ranks_ahead T) (hr.mono (by decide)) T.m_ranks_ahead T.u_ranks_ahead.kp T.b_ranks_ahead (pdr_val (pd_var 0) pdr_nil)).pd (pda_cons (pd_var 1) pda_nil))) (blkOk_by (own := [("one", 2), ("other", 3)]) (N := N_ranks_of) (sc := defScope s_ranks_of) (by decide +kernel)) (fun _ _ _ _ _ => (pdg_tup (pdgs_cons 2 (pdgs_cons 3 pdgs_nil sc.nd) sc.nd) rfl)) (fun _ _ _ _ _ => pdts_nil) (fun _ _ _ _ _ => (pd_tup (pda_cons (pd_var 2) (pda_cons (pd_var 3) pda_nil)))))))))
set_option maxHeartbeats 4000000 in
theorem ok_ranks (T : Names K mg) : FnG P w K mg base 4 T.a_ranks T.d_ranks ["text"] (spF K ms_ranks true F_ranks) :=
  have sc : FnScope N_ranks ["text"] (defScope s_ranks) := ⟨rfl, rfl, rfl, by decide +kernel, rfl, by decide +kernel, by decide +kernel⟩
  fn_bodyG T.u_ranks sc ms_ranks true rfl fun cdv A outer s H E hr =>
    (pdb_cons (pds_do (pd_callG (ok_check_text T) (hr.mono (by decide)) T.m_check_text T.u_check_text.kp T.b_check_text (pdr_val (pd_var 0) pdr_nil)))
      (pdb_one (pds_retF (pf_callG (ok_ranks_of T) (hr.mono (by decide)) T.m_ranks_of T.u_ranks_of.kp T.b_ranks_of (pdr_val (pd_var 0) pdr_nil)))))
set_option maxHeartbeats 4000000 in
theorem ok_l_hash (T : Names K mg) : FnG P w K mg base 1 T.a_l_hash T.d_l_hash ["_law_seed", "_law_index"] (spF K ms_l_hash false F_l_hash) :=
  have sc : FnScope N_l_hash ["_law_seed", "_law_index"] (defScope s_l_hash) := ⟨rfl, rfl, rfl, by decide +kernel, rfl, by decide +kernel, by decide +kernel⟩
  fn_bodyG T.u_l_hash sc ms_l_hash false rfl fun cdv A outer s H E hr =>
    (pdb_cons (pds_set 2 (pd_op op_modD.d (pd_callTy call_intD T.n_int (pda_cons (pd_op op_addD (pd_op op_addD (pd_op op_addD (pd_op op_mulD (pd_var 0) pd_int) (pd_op op_mulD (pd_op op_mulD pd_int (pd_var 1)) (pd_var 1))) (pd_op op_mulD pd_int (pd_var 1))) pd_int) pda_nil)) pd_int) sc.nd)
      (pdb_cons (pds_set 2 (pd_op op_modD.d (pd_callTy call_intD T.n_int (pda_cons (pd_op op_addD (pd_op op_addD (pd_op op_mulD (pd_var 2) (pd_var 2)) (pd_op op_mulD pd_int (pd_var 1))) pd_int) pda_nil)) pd_int) sc.nd)
      (pdb_one (pds_ret (pd_op op_modD.d (pd_callTy call_intD T.n_int (pda_cons (pd_op op_mulD (pd_var 2) pd_int) pda_nil)) pd_int)))))
set_option maxHeartbeats 4000000 in
theorem ok_l_random (T : Names K mg) : FnG P w K mg base 2 T.a_l_random T.d_l_random ["_law_generator_here", "_law_bound"] (spF K ms_l_random false F_l_random) :=
  have sc : FnScope N_l_random ["_law_generator_here", "_law_bound"] (defScope s_l_random) := ⟨rfl, rfl, rfl, by decide +kernel, rfl, by decide +kernel, by decide +kernel⟩
  fn_bodyG T.u_l_random sc ms_l_random false rfl fun cdv A outer s H E hr =>
    (pdb_cons (pds_if (pdt_cmp op_gtD.d (pd_ixV (hu_of hr.room) (pv 0) pd_int) pd_int (nomark _)) (pdb_cons (pds_set 2 (pd_op op_modD.d (pd_callTy call_intD T.n_int (pda_cons (pd_ixV (hu_of hr.room) (pv 0) pd_int) pda_nil)) (pd_var 1)) sc.nd)
      (pdb_cons (pds_setIx (pv 0) pd_int (pd_op op_fdivD.d (pd_ixV (hu_of hr.room) (pv 0) pd_int) (pd_var 1)))
      (pdb_one (pds_ret (pd_var 2))))) pdb_nil)
      (pdb_cons (pds_set 2 pd_int sc.nd)
      (pdb_cons (pds_for (vs := [3]) (pdi_range1 T.n_range (pda_cons (pd_op op_addD pd_int (pd_op op_fdivD.d (pd_bits (pd_var 1)) pd_int)) pda_nil)) (pdg_name 3 sc.nd) (pdb_cons (pds_setIx (pv 0) pd_int (pd_op op_addD (pd_ixV (hu_of hr.room) (pv 0) pd_int) pd_int))
      (pdb_one (pds_set 2 (pd_op op_addD (pd_op op_mulD (pd_var 2) pd_int) (pd_callG (ok_l_hash T) (hr.mono (by decide)) T.m_l_hash T.u_l_hash.kp T.b_l_hash (pdr_val (pd_ixV (hu_of hr.room) (pv 0) pd_int) (pdr_val (pd_ixV (hu_of hr.room) (pv 0) pd_int) pdr_nil)))) sc.nd))))
      (pdb_one (pds_ret (pd_op op_modD.d (pd_callTy call_intD T.n_int (pda_cons (pd_var 2) pda_nil)) (pd_var 1)))))))
set_option maxHeartbeats 4000000 in
theorem ok_l_size (T : Names K mg) : FnG P w K mg base 3 T.a_l_size T.d_l_size ["_law_generator_here", "_law_least", "_law_most"] (spF K ms_l_size false F_l_size) :=
  have sc : FnScope N_l_size ["_law_generator_here", "_law_least", "_law_most"] (defScope s_l_size) := ⟨rfl, rfl, rfl, by decide +kernel, rfl, by decide +kernel, by decide +kernel⟩
  fn_bodyG T.u_l_size sc ms_l_size false rfl fun cdv A outer s H E hr =>
    (pdb_one (pds_ret (pd_op op_addD (pd_var 1) (pd_callG (ok_l_random T) (hr.mono (by decide)) T.m_l_random T.u_l_random.kp T.b_l_random (pdr_lend 0 (pv 0) (pdr_val (pd_op op_addD (pd_op op_subD.d (pd_var 2) (pd_var 1)) pd_int) pdr_nil))))))
set_option maxHeartbeats 4000000 in
theorem ok_l_letters (T : Names K mg) : FnG P w K mg base 4 T.a_l_letters T.d_l_letters ["_law_generator_here", "_law_least", "_law_most"] (spF K ms_l_letters false F_l_letters) :=
  have sc : FnScope N_l_letters ["_law_generator_here", "_law_least", "_law_most"] (defScope s_l_letters) := ⟨rfl, rfl, rfl, by decide +kernel, rfl, by decide +kernel, by decide +kernel⟩
  fn_bodyG T.u_l_letters sc ms_l_letters false rfl fun cdv A outer s H E hr =>
    (pdb_cons (pds_own 3 (pf_list (pd_str [97, 98, 99, 100, 101, 102, 103, 104, 105, 106, 107, 108, 109, 110, 111, 112, 113, 114, 115, 116, 117, 118, 119, 120, 121, 122]) T.n_list) sc.nd)
      (pdb_cons (pds_set 4 (pd_callG (ok_l_size T) (hr.mono (by decide)) T.m_l_size T.u_l_size.kp T.b_l_size (pdr_lend 0 (pv 0) (pdr_val (pd_var 1) (pdr_val (pd_var 2) pdr_nil)))) sc.nd)
      (pdb_one (pds_ret (pd_methS meth_join PySem.F.slot_str_join PySem.F.type_str_join (pd_str []) (pda_cons (pf_sortedJ hr.room (pf_lc [("_law_turn", 5)] sc.nd (pdi_range1 T.n_range (pda_cons (pd_var 4) pda_nil)) (blkOk_by (own := [("_law_turn", 5)]) (N := N_l_letters) (sc := defScope s_l_letters) (by decide +kernel)) (fun _ _ _ _ _ => (pdg_name 5 sc.nd)) (fun _ _ _ _ _ => pdts_nil) (fun _ _ _ _ _ => (pd_pop (pv 3) (pd_callG (ok_l_random T) (hr.mono (by decide)) T.m_l_random T.u_l_random.kp T.b_l_random (pdr_lend 0 (pv 0) (pdr_val (pd_lenV (pv 3) T.n_len) pdr_nil)))))).pd T.n_sorted).pd pda_nil))))))
set_option maxHeartbeats 4000000 in
theorem ok_l_is_read (T : Names K mg) : FnG P w K mg base 1 T.a_l_is_read T.d_l_is_read ["_law_word", "_law_text_here"] (spF K ms_l_is_read false F_l_is_read) :=
  have sc : FnScope N_l_is_read ["_law_word", "_law_text_here"] (defScope s_l_is_read) := ⟨rfl, rfl, rfl, by decide +kernel, rfl, by decide +kernel, by decide +kernel⟩
  fn_bodyG T.u_l_is_read sc ms_l_is_read false rfl fun cdv A outer s H E hr =>
    (pdb_cons (pds_set 2 pd_int sc.nd)
      (pdb_cons (pds_for (vs := [3]) (pdi_any (pd_var 1)) (pdg_name 3 sc.nd) (pdb_one (pds_if (pdt_cmp (op_eqq hr.room).d (pd_slice (pd_var 0) (pdo_some (pd_var 2)) (pdo_some (pd_op op_addD (pd_var 2) pd_int))) (pd_var 3) (nomark _)) (pdb_one (pds_set 2 (pd_op op_addD (pd_var 2) pd_int) sc.nd)) pdb_nil)))
      (pdb_one (pds_ret (pd_cmp (op_eqq hr.room).d (pd_var 2) (pd_callB call_lenD T.n_len (pda_cons (pd_var 0) pda_nil)) (nomark _))))))
set_option maxHeartbeats 4000000 in
theorem ok_l_longer (T : Names K mg) : FnG P w K mg base 2 T.a_l_longer T.d_l_longer ["_law_words", "_law_letters_here", "_law_text_here"] (spF K ms_l_longer false F_l_longer) :=
  have sc : FnScope N_l_longer ["_law_words", "_law_letters_here", "_law_text_here"] (defScope s_l_longer) := ⟨rfl, rfl, rfl, by decide +kernel, rfl, by decide +kernel, by decide +kernel⟩
  fn_bodyG T.u_l_longer sc ms_l_longer false rfl fun cdv A outer s H E hr =>
    (pdb_cons (pds_set 3 (pf_lst pda_nil).pd sc.nd)
      (pdb_cons (pds_for (vs := [4]) (pdi_any (pd_var 0)) (pdg_name 4 sc.nd) (pdb_one (pds_set 3 (pd_op op_addD (pd_var 3) (pf_lc [("_law_letter", 5)] sc.nd (pdi_any (pd_var 1)) (blkOk_by (own := [("_law_letter", 5)]) (N := N_l_longer) (sc := defScope s_l_longer) (by decide +kernel)) (fun _ _ _ _ _ => (pdg_name 5 sc.nd)) (fun _ _ _ _ _ => (pdts_one (pdt_val (pd_callG (ok_l_is_read T) (hr.mono (by decide)) T.m_l_is_read T.u_l_is_read.kp T.b_l_is_read (pdr_val (pd_op op_addD (pd_var 4) (pd_var 5)) (pdr_val (pd_var 2) pdr_nil)))))) (fun _ _ _ _ _ => (pd_op op_addD (pd_var 4) (pd_var 5)))).pd) sc.nd)))
      (pdb_one (pds_ret (pd_var 3)))))
set_option maxHeartbeats 4000000 in
theorem ok_l_reads (T : Names K mg) : FnG P w K mg base 3 T.a_l_reads T.d_l_reads ["_law_depth", "_law_text_here"] (spF K ms_l_reads false F_l_reads) :=
  have sc : FnScope N_l_reads ["_law_depth", "_law_text_here"] (defScope s_l_reads) := ⟨rfl, rfl, rfl, by decide +kernel, rfl, by decide +kernel, by decide +kernel⟩
  fn_bodyG T.u_l_reads sc ms_l_reads false rfl fun cdv A outer s H E hr =>
    (pdb_cons (pds_par3 2 3 4 (pda_cons (pf_lst (pda_cons (pd_str []) pda_nil)).pd (pda_cons (pf_lst (pda_cons (pd_str []) pda_nil)).pd (pda_cons (pf_lc [("_law_letter", 5)] sc.nd (pdi_any (pd_str [97, 98, 99, 100, 101, 102, 103, 104, 105, 106, 107, 108, 109, 110, 111, 112, 113, 114, 115, 116, 117, 118, 119, 120, 121, 122])) (blkOk_by (own := [("_law_letter", 5)]) (N := N_l_reads) (sc := defScope s_l_reads) (by decide +kernel)) (fun _ _ _ _ _ => (pdg_name 5 sc.nd)) (fun _ _ _ _ _ => (pdts_one (pdt_cmp (op_inM (hu_of hr.room)).d (pd_var 5) (pd_var 1) (by rfl)))) (fun _ _ _ _ _ => (pd_var 5))).pd pda_nil))) sc.nd)
      (pdb_cons (pds_for (vs := [6]) (pdi_range1 T.n_range (pda_cons (pd_callB (call_minA rfl) T.n_min (pda_cons (pd_var 0) (pda_cons (pd_callB call_lenD T.n_len (pda_cons (pd_var 1) pda_nil)) pda_nil))) pda_nil)) (pdg_name 6 sc.nd) (pdb_cons (pds_set 2 (pd_callG (ok_l_longer T) (hr.mono (by decide)) T.m_l_longer T.u_l_longer.kp T.b_l_longer (pdr_val (pd_var 2) (pdr_val (pd_var 4) (pdr_val (pd_var 1) pdr_nil)))) sc.nd)
      (pdb_one (pds_set 3 (pd_op op_addD (pd_var 3) (pd_var 2)) sc.nd))))
      (pdb_one (pds_ret (pd_var 3)))))
set_option maxHeartbeats 4000000 in
theorem ok_l_rank_ahead (T : Names K mg) : FnG P w K mg base 4 T.a_l_rank_ahead T.d_l_rank_ahead ["_law_text_here", "_law_at"] (spF K ms_l_rank_ahead false F_l_rank_ahead) :=
  have sc : FnScope N_l_rank_ahead ["_law_text_here", "_law_at"] (defScope s_l_rank_ahead) := ⟨rfl, rfl, rfl, by decide +kernel, rfl, by decide +kernel, by decide +kernel⟩
  fn_bodyG T.u_l_rank_ahead sc ms_l_rank_ahead false rfl fun cdv A outer s H E hr =>
    (pdb_cons (pds_setLcD 2 [("_law_word", 3)] sc.nd (pdi_any (pd_callG (ok_l_reads T) (hr.mono (by decide)) T.m_l_reads T.u_l_reads.kp T.b_l_reads (pdr_val (pd_callB call_lenD T.n_len (pda_cons (pd_var 0) pda_nil)) (pdr_val (pd_slice (pd_var 0) pdo_none (pdo_some (pd_op op_addD (pd_var 1) pd_int))) pdr_nil)))) (blkOk_by (own := [("_law_word", 3)]) (N := N_l_rank_ahead) (sc := defScope s_l_rank_ahead) (by decide +kernel)) (fun _ _ _ _ _ => (pdg_name 3 sc.nd)) (fun _ _ _ _ _ => (pdts_one (pdt_cmp (op_eqq hr.room).d (pd_slice (pd_var 3) (pdo_some (pd_op op_subD.d (pd_callB call_lenD T.n_len (pda_cons (pd_var 3) pda_nil)) pd_int)) pdo_none) (pd_ix (hu_of hr.room) (pd_var 0) (pd_var 1)) (nomark _)))) (fun _ _ _ _ _ => (pd_var 3)) (sw_true rfl rfl rfl (by decide +kernel)))
      (pdb_one (pds_ret (pd_callB (call_minA rfl) T.n_min (pda_cons (pf_lc [("_law_word", 3)] sc.nd (pdi_any (pd_var 2)) (blkOk_by (own := [("_law_word", 3)]) (N := N_l_rank_ahead) (sc := defScope s_l_rank_ahead) (by decide +kernel)) (fun _ _ _ _ _ => (pdg_name 3 sc.nd)) (fun _ _ _ _ _ => (pdts_one (pdt_not (pdt_val (pd_callG (ok_l_is_read T) (hr.mono (by decide)) T.m_l_is_read T.u_l_is_read.kp T.b_l_is_read (pdr_val (pd_var 3) (pdr_val (pd_slice (pd_var 0) pdo_none (pdo_some (pd_var 1))) pdr_nil))))))) (fun _ _ _ _ _ => (pd_callB call_lenD T.n_len (pda_cons (pd_var 3) pda_nil)))).pd pda_nil)))))
set_option maxHeartbeats 4000000 in
theorem ok_l_ranks (T : Names K mg) : FnG P w K mg base 5 T.a_l_ranks T.d_l_ranks ["_law_text_here"] (spF K ms_l_ranks false F_l_ranks) :=
  have sc : FnScope N_l_ranks ["_law_text_here"] (defScope s_l_ranks) := ⟨rfl, rfl, rfl, by decide +kernel, rfl, by decide +kernel, by decide +kernel⟩
  fn_bodyG T.u_l_ranks sc ms_l_ranks false rfl fun cdv A outer s H E hr =>
    (pdb_cons (pds_par2N 1 2 (pdn_new (pf_lst pda_nil) (pdn_val (pd_revA (pd_var 0) (pdo_some (pd_neg pd_int))) pdn_nil)) sc.nd)
      (pdb_cons (pds_for (vs := [3]) (pdi_range1 T.n_range (pda_cons (pd_callB call_lenD T.n_len (pda_cons (pd_var 0) pda_nil)) pda_nil)) (pdg_name 3 sc.nd) (pdb_one (pds_append (pv 1) (pd_tup (pda_cons (pd_callG (ok_l_rank_ahead T) (hr.mono (by decide)) T.m_l_rank_ahead T.u_l_rank_ahead.kp T.b_l_rank_ahead (pdr_val (pd_var 0) (pdr_val (pd_var 3) pdr_nil))) (pda_cons (pd_callG (ok_l_rank_ahead T) (hr.mono (by decide)) T.m_l_rank_ahead T.u_l_rank_ahead.kp T.b_l_rank_ahead (pdr_val (pd_var 2) (pdr_val (pd_op op_subD.d (pd_op op_subD.d (pd_callB call_lenD T.n_len (pda_cons (pd_var 0) pda_nil)) pd_int) (pd_var 3)) pdr_nil))) pda_nil))))))
      (pdb_one (pds_ret (pd_var 1)))))
set_option maxHeartbeats 4000000 in
theorem ok_l_text (T : Names K mg) : FnG P w K mg base 4 T.a_l_text T.d_l_text ["_law_generator_here", "_law_letters_here", "_law_least", "_law_most"] (spF K ms_l_text false F_l_text) :=
  have sc : FnScope N_l_text ["_law_generator_here", "_law_letters_here", "_law_least", "_law_most"] (defScope s_l_text) := ⟨rfl, rfl, rfl, by decide +kernel, rfl, by decide +kernel, by decide +kernel⟩
  fn_bodyG T.u_l_text sc ms_l_text false rfl fun cdv A outer s H E hr =>
    (pdb_cons (pds_set 4 (pd_callG (ok_l_size T) (hr.mono (by decide)) T.m_l_size T.u_l_size.kp T.b_l_size (pdr_lend 0 (pv 0) (pdr_val (pd_var 2) (pdr_val (pd_var 3) pdr_nil)))) sc.nd)
      (pdb_cons (pds_set 5 (pd_methS meth_join PySem.F.slot_str_join PySem.F.type_str_join (pd_str []) (pda_cons (pf_lc [("_law_turn", 6)] sc.nd (pdi_range1 T.n_range (pda_cons (pd_var 4) pda_nil)) (blkOk_by (own := [("_law_turn", 6)]) (N := N_l_text) (sc := defScope s_l_text) (by decide +kernel)) (fun _ _ _ _ _ => (pdg_name 6 sc.nd)) (fun _ _ _ _ _ => pdts_nil) (fun _ _ _ _ _ => (pd_ix (hu_of hr.room) (pd_var 1) (pd_callG (ok_l_random T) (hr.mono (by decide)) T.m_l_random T.u_l_random.kp T.b_l_random (pdr_lend 0 (pv 0) (pdr_val (pd_callB call_lenD T.n_len (pda_cons (pd_var 1) pda_nil)) pdr_nil)))))).pd pda_nil)) sc.nd)
      (pdb_cons (pds_if (PDW.pdt (pdw_and (pdt_cmp (op_neq hr.room).d (pd_var 5) (pd_str []) (nomark _)) (pdw_and1 (pdt_cmp (op_eqq hr.room).d (pd_callG (ok_l_random T) (hr.mono (by decide)) T.m_l_random T.u_l_random.kp T.b_l_random (pdr_lend 0 (pv 0) (pdr_val pd_int pdr_nil))) pd_int (nomark _))))) (pdb_one (pds_ret (pd_slice (pd_op op_mulD (pd_slice (pd_var 5) pdo_none (pdo_some (pd_callG (ok_l_size T) (hr.mono (by decide)) T.m_l_size T.u_l_size.kp T.b_l_size (pdr_lend 0 (pv 0) (pdr_val pd_int (pdr_val pd_int pdr_nil)))))) (pd_var 3)) pdo_none (pdo_some (pd_callB call_lenD T.n_len (pda_cons (pd_var 5) pda_nil)))))) pdb_nil)
      (pdb_one (pds_ret (pd_var 5))))))
set_option maxHeartbeats 4000000 in
theorem ok_l_told_right (T : Names K mg) : FnG P w K mg base 5 T.a_l_told_right T.d_l_told_right ["_law_text_here", "_law_due"] (spF K ms_l_told_right false F_l_told_right) :=
  have sc : FnScope N_l_told_right ["_law_text_here", "_law_due"] (defScope s_l_told_right) := ⟨rfl, rfl, rfl, by decide +kernel, rfl, by decide +kernel, by decide +kernel⟩
  fn_bodyG T.u_l_told_right sc ms_l_told_right false rfl fun cdv A outer s H E hr =>
    (pdb_cons (pds_own 2 (pf_callG (ok_ranks T) (hr.mono (by decide)) T.m_ranks T.u_ranks.kp T.b_ranks (pdr_val (pd_var 0) pdr_nil)) sc.nd)
      (pdb_cons (pds_if (PDW.pdt (pdw_or (pdt_not (pdt_val (pd_still [2] (pd_callB call_isiD T.n_isinstance (pda_cons (pd_var 2) (pda_cons (pd_ty "list" T.n_list) pda_nil)))))) (pdw_or1 (pdt_not (pdt_val (pd_still [2] (pd_callG (ok_l_same T) (hr.mono (by decide)) T.m_l_same T.u_l_same.kp T.b_l_same (pdr_val (pd_var 2) (pdr_val (pd_var 1) pdr_nil))))))))) (pdb_one (pds_ret pd_bl)) pdb_nil)
      (pdb_cons (pds_append (pv 2) (pd_tup (pda_cons pd_int (pda_cons pd_int pda_nil))))
      (pdb_one (pds_ret (pd_callG (ok_l_same T) (hr.mono (by decide)) T.m_l_same T.u_l_same.kp T.b_l_same (pdr_val (pf_callG (ok_ranks T) (hr.mono (by decide)) T.m_ranks T.u_ranks.kp T.b_ranks (pdr_val (pd_var 0) pdr_nil)).pd (pdr_val (pd_var 1) pdr_nil))))))))
set_option maxHeartbeats 4000000 in
theorem ok_is_whole (T : Names K mg) : FnG P w K mg base 1 T.a_is_whole T.d_is_whole ["value"] (spF K ms_is_whole false F_is_whole) :=
  have sc : FnScope N_is_whole ["value"] (defScope s_is_whole) := ⟨rfl, rfl, rfl, by decide +kernel, rfl, by decide +kernel, by decide +kernel⟩
  fn_bodyG T.u_is_whole sc ms_is_whole false rfl fun cdv A outer s H E hr =>
    (pdb_one (pds_ret (pd_and (pd_callB call_isiD T.n_isinstance (pda_cons (pd_var 0) (pda_cons (pd_ty "int" T.n_int) pda_nil))) (pd_one (pd_not (pd_callB call_isiD T.n_isinstance (pda_cons (pd_var 0) (pda_cons (pd_ty "bool" T.n_bool) pda_nil))))))))
set_option maxHeartbeats 4000000 in
theorem ok_is_between (T : Names K mg) : FnG P w K mg base 2 T.a_is_between T.d_is_between ["value", "low", "high"] (spF K ms_is_between false F_is_between) :=
  have sc : FnScope N_is_between ["value", "low", "high"] (defScope s_is_between) := ⟨rfl, rfl, rfl, by decide +kernel, rfl, by decide +kernel, by decide +kernel⟩
  fn_bodyG T.u_is_between sc ms_is_between false rfl fun cdv A outer s H E hr =>
    (pdb_cons (pds_if (pdt_not (pdt_val (pd_callG (ok_is_whole T) (hr.mono (by decide)) T.m_is_whole T.u_is_whole.kp T.b_is_whole (pdr_val (pd_var 0) pdr_nil)))) (pdb_one (pds_ret pd_bl)) pdb_nil)
      (pdb_one (pds_ret (pd_and (pd_or (pd_cmp op_isD.d (pd_var 1) pd_non (nomark _)) (pd_one (pd_cmp op_geD.d (pd_var 0) (pd_var 1) (nomark _)))) (pd_one (pd_or (pd_cmp op_isD.d (pd_var 2) pd_non (nomark _)) (pd_one (pd_cmp op_leD.d (pd_var 0) (pd_var 2) (nomark _)))))))))
set_option maxHeartbeats 4000000 in
theorem ok_check_number (T : Names K mg) : FnG P w K mg base 3 T.a_check_number T.d_check_number ["number", "low", "high"] (spF K ms_check_number false F_check_number) :=
  have sc : FnScope N_check_number ["number", "low", "high"] (defScope s_check_number) := ⟨rfl, rfl, rfl, by decide +kernel, rfl, by decide +kernel, by decide +kernel⟩
  fn_bodyG T.u_check_number sc ms_check_number false rfl fun cdv A outer s H E hr =>
    (pdb_one (pds_if (pdt_not (pdt_val (pd_callG (ok_is_between T) (hr.mono (by decide)) T.m_is_between T.u_is_between.kp T.b_is_between (pdr_val (pd_var 0) (pdr_val (pd_var 1) (pdr_val (pd_var 2) pdr_nil)))))) (pdb_one pds_never) pdb_nil))
set_option maxHeartbeats 4000000 in
theorem ok_check_depth (T : Names K mg) : FnG P w K mg base 4 T.a_check_depth T.d_check_depth ["depth"] (spF K ms_check_depth false F_check_depth) :=
  have sc : FnScope N_check_depth ["depth"] (defScope s_check_depth) := ⟨rfl, rfl, rfl, by decide +kernel, rfl, by decide +kernel, by decide +kernel⟩
  fn_bodyG T.u_check_depth sc ms_check_depth false rfl fun cdv A outer s H E hr =>
    (pdb_one (pds_do (pd_callG (ok_check_number T) (hr.mono (by decide)) T.m_check_number T.u_check_number.kp T.b_check_number (pdr_val (pd_var 0) (pdr_val pd_int (pdr_val pd_non pdr_nil))))))
set_option maxHeartbeats 4000000 in
theorem ok_can_go (T : Names K mg) : FnG P w K mg base 5 T.a_can_go T.d_can_go ["depth", "text"] (spF K ms_can_go true F_can_go) :=
  have sc : FnScope N_can_go ["depth", "text"] (defScope s_can_go) := ⟨rfl, rfl, rfl, by decide +kernel, rfl, by decide +kernel, by decide +kernel⟩
  fn_bodyG T.u_can_go sc ms_can_go true rfl fun cdv A outer s H E hr =>
    (pdb_cons (pds_do (pd_callG (ok_check_depth T) (hr.mono (by decide)) T.m_check_depth T.u_check_depth.kp T.b_check_depth (pdr_val (pd_var 0) pdr_nil)))
      (pdb_cons (pds_do (pd_callG (ok_check_text T) (hr.mono (by decide)) T.m_check_text T.u_check_text.kp T.b_check_text (pdr_val (pd_var 1) pdr_nil)))
      (pdb_one (pds_retF (pf_lc [("at", 2), ("pair", 3)] sc.nd (pdi_enum T.n_enumerate (pf_callG (ok_ranks_of T) (hr.mono (by decide)) T.m_ranks_of T.u_ranks_of.kp T.b_ranks_of (pdr_val (pd_var 1) pdr_nil)).pd) (blkOk_by (own := [("at", 2), ("pair", 3)]) (N := N_can_go) (sc := defScope s_can_go) (by decide +kernel)) (fun _ _ _ _ _ => (pdg_tup (pdgs_cons 2 (pdgs_cons 3 pdgs_nil sc.nd) sc.nd) rfl)) (fun _ _ _ _ _ => (pdts_one (pdt_cmp op_gtD.d (pd_op op_addD (pd_ix (hu_of hr.room) (pd_var 3) pd_int) (pd_ix (hu_of hr.room) (pd_var 3) pd_int)) (pd_op op_addD (pd_var 0) pd_int) (nomark _)))) (fun _ _ _ _ _ => (pd_var 2)))))))
set_option maxHeartbeats 4000000 in
theorem ok_l_goes (T : Names K mg) : FnG P w K mg base 4 T.a_l_goes T.d_l_goes ["_law_depth", "_law_text_here"] (spF K ms_l_goes false F_l_goes) :=
  have sc : FnScope N_l_goes ["_law_depth", "_law_text_here"] (defScope s_l_goes) := ⟨rfl, rfl, rfl, by decide +kernel, rfl, by decide +kernel, by decide +kernel⟩
  fn_bodyG T.u_l_goes sc ms_l_goes false rfl fun cdv A outer s H E hr =>
    (pdb_cons (pds_set 2 (pd_callG (ok_l_reads T) (hr.mono (by decide)) T.m_l_reads T.u_l_reads.kp T.b_l_reads (pdr_val (pd_var 0) (pdr_val (pd_var 1) pdr_nil))) sc.nd)
      (pdb_one (pds_ret (pf_lc [("_law_at", 3)] sc.nd (pdi_range1 T.n_range (pda_cons (pd_callB call_lenD T.n_len (pda_cons (pd_var 1) pda_nil)) pda_nil)) (blkOk_by (own := [("_law_at", 3)]) (N := N_l_goes) (sc := defScope s_l_goes) (by decide +kernel)) (fun _ _ _ _ _ => (pdg_name 3 sc.nd)) (fun _ _ _ _ _ => (pdts_one (pdt_cmp (op_eqq hr.room).d (pd_callG (ok_l_reads T) (hr.mono (by decide)) T.m_l_reads T.u_l_reads.kp T.b_l_reads (pdr_val (pd_var 0) (pdr_val (pd_op op_addD (pd_slice (pd_var 1) pdo_none (pdo_some (pd_var 3))) (pd_slice (pd_var 1) (pdo_some (pd_op op_addD (pd_var 3) pd_int)) pdo_none)) pdr_nil))) (pd_var 2) (nomark _)))) (fun _ _ _ _ _ => (pd_var 3))).pd)))
set_option maxHeartbeats 4000000 in
theorem ok_l_right (T : Names K mg) : FnG P w K mg base 6 T.a_l_right T.d_l_right ["_law_generator_here"] (spF K ms_l_right false F_l_right) :=
  have sc : FnScope N_l_right ["_law_generator_here"] (defScope s_l_right) := ⟨rfl, rfl, rfl, by decide +kernel, rfl, by decide +kernel, by decide +kernel⟩
  fn_bodyG T.u_l_right sc ms_l_right false rfl fun cdv A outer s H E hr =>
    (pdb_cons (pds_set 1 (pd_callG (ok_l_letters T) (hr.mono (by decide)) T.m_l_letters T.u_l_letters.kp T.b_l_letters (pdr_lend 0 (pv 0) (pdr_val pd_int (pdr_val pd_int pdr_nil)))) sc.nd)
      (pdb_cons (pds_par 2 3 (pda_cons (pd_callG (ok_l_text T) (hr.mono (by decide)) T.m_l_text T.u_l_text.kp T.b_l_text (pdr_lend 0 (pv 0) (pdr_val (pd_var 1) (pdr_val pd_int (pdr_val pd_int pdr_nil))))) (pda_cons (pd_callG (ok_l_random T) (hr.mono (by decide)) T.m_l_random T.u_l_random.kp T.b_l_random (pdr_lend 0 (pv 0) (pdr_val pd_int pdr_nil))) pda_nil)) sc.nd)
      (pdb_cons (pds_set 4 (pd_callG (ok_l_ranks T) (hr.mono (by decide)) T.m_l_ranks T.u_l_ranks.kp T.b_l_ranks (pdr_val (pd_var 2) pdr_nil)) sc.nd)
      (pdb_cons (pds_if (pdt_not (pdt_val (pd_callG (ok_l_told_right T) (hr.mono (by decide)) T.m_l_told_right T.u_l_told_right.kp T.b_l_told_right (pdr_val (pd_var 2) (pdr_val (pd_var 4) pdr_nil))))) (pdb_one (pds_ret pd_bl)) pdb_nil)
      (pdb_cons (pds_for (vs := [5]) (pdi_any (pf_lst (pda_cons (pd_var 3) (pda_cons (pd_callB call_lenD T.n_len (pda_cons (pd_var 2) pda_nil)) (pda_cons (pd_op op_powD.d pd_int pd_int) pda_nil)))).pd) (pdg_name 5 sc.nd) (pdb_cons (pds_par2N 6 7 (pdn_new (pf_callG (ok_can_go T) (hr.mono (by decide)) T.m_can_go T.u_can_go.kp T.b_can_go (pdr_val (pd_var 5) (pdr_val (pd_var 2) pdr_nil))) (pdn_val (pd_callG (ok_l_goes T) (hr.mono (by decide)) T.m_l_goes T.u_l_goes.kp T.b_l_goes (pdr_val (pd_callB (call_minA rfl) T.n_min (pda_cons (pd_var 5) (pda_cons (pd_op op_addD (pd_callB call_lenD T.n_len (pda_cons (pd_var 2) pda_nil)) pd_int) pda_nil))) (pdr_val (pd_var 2) pdr_nil))) pdn_nil)) sc.nd)
      (pdb_cons (pds_if (PDW.pdt (pdw_or (pdt_not (pdt_val (pd_still [6] (pd_callB call_isiD T.n_isinstance (pda_cons (pd_var 6) (pda_cons (pd_ty "list" T.n_list) pda_nil)))))) (pdw_or1 (pdt_not (pdt_val (pd_still [6] (pd_callG (ok_l_same T) (hr.mono (by decide)) T.m_l_same T.u_l_same.kp T.b_l_same (pdr_val (pd_var 6) (pdr_val (pd_var 7) pdr_nil))))))))) (pdb_one (pds_ret pd_bl)) pdb_nil)
      (pdb_cons (pds_if (pdt_cmp (op_neq hr.room).d (pd_var 7) (pf_lc [("_law_at", 8), ("_law_pair", 9)] sc.nd (pdi_enum T.n_enumerate (pd_var 4)) (blkOk_by (own := [("_law_at", 8), ("_law_pair", 9)]) (N := N_l_right) (sc := defScope s_l_right) (by decide +kernel)) (fun _ _ _ _ _ => (pdg_tup (pdgs_cons 8 (pdgs_cons 9 pdgs_nil sc.nd) sc.nd) rfl)) (fun _ _ _ _ _ => (pdts_one (pdt_cmp op_gtD.d (pd_op op_addD (pd_ix (hu_of hr.room) (pd_var 9) pd_int) (pd_ix (hu_of hr.room) (pd_var 9) pd_int)) (pd_op op_addD (pd_var 5) pd_int) (nomark _)))) (fun _ _ _ _ _ => (pd_var 8))).pd (nomark _)) (pdb_one (pds_ret pd_bl)) pdb_nil)
      (pdb_cons (pds_append (pv 6) pd_int)
      (pdb_one (pds_if (pdt_not (pdt_val (pd_callG (ok_l_same T) (hr.mono (by decide)) T.m_l_same T.u_l_same.kp T.b_l_same (pdr_val (pf_callG (ok_can_go T) (hr.mono (by decide)) T.m_can_go T.u_can_go.kp T.b_can_go (pdr_val (pd_var 5) (pdr_val (pd_var 2) pdr_nil))).pd (pdr_val (pd_var 7) pdr_nil))))) (pdb_one (pds_ret pd_bl)) pdb_nil)))))))
      (pdb_one (pds_ret pd_bl)))))))
set_option maxHeartbeats 4000000 in
theorem ok_l_long_right (T : Names K mg) : FnG P w K mg base 6 T.a_l_long_right T.d_l_long_right ["_law_generator_here"] (spF K ms_l_long_right false F_l_long_right) :=
  have sc : FnScope N_l_long_right ["_law_generator_here"] (defScope s_l_long_right) := ⟨rfl, rfl, rfl, by decide +kernel, rfl, by decide +kernel, by decide +kernel⟩
  fn_bodyG T.u_l_long_right sc ms_l_long_right false rfl fun cdv A outer s H E hr =>
    (pdb_cons (pds_set 1 (pd_callG (ok_l_letters T) (hr.mono (by decide)) T.m_l_letters T.u_l_letters.kp T.b_l_letters (pdr_lend 0 (pv 0) (pdr_val pd_int (pdr_val pd_int pdr_nil)))) sc.nd)
      (pdb_cons (pds_set 2 (pd_callG (ok_l_text T) (hr.mono (by decide)) T.m_l_text T.u_l_text.kp T.b_l_text (pdr_lend 0 (pv 0) (pdr_val (pd_var 1) (pdr_val pd_int (pdr_val pd_int pdr_nil))))) sc.nd)
      (pdb_cons (pds_asg (vs := [3, 4]) (pd_tup (pda_cons (pd_callG (ok_l_long_ranks T) (hr.mono (by decide)) T.m_l_long_ranks T.u_l_long_ranks.kp T.b_l_long_ranks (pdr_val (pd_var 2) pdr_nil)) (pda_cons (pd_callG (ok_l_random T) (hr.mono (by decide)) T.m_l_random T.u_l_random.kp T.b_l_random (pdr_lend 0 (pv 0) (pdr_val pd_int pdr_nil))) pda_nil))) (pdg_tup (pdgs_cons 3 (pdgs_cons 4 pdgs_nil sc.nd) sc.nd) rfl))
      (pdb_cons (pds_if (pdt_not (pdt_val (pd_callG (ok_l_told_right T) (hr.mono (by decide)) T.m_l_told_right T.u_l_told_right.kp T.b_l_told_right (pdr_val (pd_var 2) (pdr_val (pd_var 3) pdr_nil))))) (pdb_one (pds_ret pd_bl)) pdb_nil)
      (pdb_one (pds_ret (pd_callG (ok_l_same T) (hr.mono (by decide)) T.m_l_same T.u_l_same.kp T.b_l_same (pdr_val (pf_callG (ok_can_go T) (hr.mono (by decide)) T.m_can_go T.u_can_go.kp T.b_can_go (pdr_val (pd_var 4) (pdr_val (pd_var 2) pdr_nil))).pd (pdr_val (pf_lc [("_law_at", 5), ("_law_pair", 6)] sc.nd (pdi_enum T.n_enumerate (pd_var 3)) (blkOk_by (own := [("_law_at", 5), ("_law_pair", 6)]) (N := N_l_long_right) (sc := defScope s_l_long_right) (by decide +kernel)) (fun _ _ _ _ _ => (pdg_tup (pdgs_cons 5 (pdgs_cons 6 pdgs_nil sc.nd) sc.nd) rfl)) (fun _ _ _ _ _ => (pdts_one (pdt_cmp op_gtD.d (pd_op op_addD (pd_ix (hu_of hr.room) (pd_var 6) pd_int) (pd_ix (hu_of hr.room) (pd_var 6) pd_int)) (pd_op op_addD (pd_var 4) pd_int) (nomark _)))) (fun _ _ _ _ _ => (pd_var 5))).pd pdr_nil)))))))))
set_option maxHeartbeats 4000000 in
theorem ok_law (T : Names K mg) : FnG P w K mg base 7 T.a_law T.d_law ["_law_script"] (spF K ms_law false F_law) :=
  have sc : FnScope N_law ["_law_script"] (defScope s_law) := ⟨rfl, rfl, rfl, by decide +kernel, rfl, by decide +kernel, by decide +kernel⟩
  fn_bodyG T.u_law sc ms_law false rfl fun cdv A outer s H E hr =>
    (pdb_cons (pds_for (vs := [1]) (pdi_range1 T.n_range (pda_cons pd_int pda_nil)) (pdg_name 1 sc.nd) (pdb_cons (pds_own 2 (pf_callG (ok_l_generator T) (hr.mono (by decide)) T.m_l_generator T.u_l_generator.kp T.b_l_generator (pdr_val (pd_var 0) (pdr_val (pd_var 1) pdr_nil))) sc.nd)
      (pdb_one (pds_if (PDW.pdt (pdw_or (pdt_not (pdt_val (pd_callG (ok_l_right T) (hr.mono (by decide)) T.m_l_right T.u_l_right.kp T.b_l_right (pdr_lend 2 (pv 2) pdr_nil)))) (pdw_or1 (pdt_not (pdt_val (pd_callG (ok_l_long_right T) (hr.mono (by decide)) T.m_l_long_right T.u_l_long_right.kp T.b_l_long_right (pdr_lend 2 (pv 2) pdr_nil))))))) (pdb_one (pds_ret pd_bl)) pdb_nil))))
      (pdb_cons (pds_if (pdt_not (pdt_val (pd_callG (ok_l_same T) (hr.mono (by decide)) T.m_l_same T.u_l_same.kp T.b_l_same (pdr_val (pf_lst (pda_cons (pf_callG (ok_ranks T) (hr.mono (by decide)) T.m_ranks T.u_ranks.kp T.b_ranks (pdr_val (pd_str []) pdr_nil)).pd (pda_cons (pf_callG (ok_can_go T) (hr.mono (by decide)) T.m_can_go T.u_can_go.kp T.b_can_go (pdr_val pd_int (pdr_val (pd_str [97, 98]) pdr_nil))).pd (pda_cons (pf_callG (ok_can_go T) (hr.mono (by decide)) T.m_can_go T.u_can_go.kp T.b_can_go (pdr_val pd_int (pdr_val (pd_str []) pdr_nil))).pd pda_nil)))).pd (pdr_val (pf_lst (pda_cons (pf_lst pda_nil).pd (pda_cons (pf_lst (pda_cons pd_int (pda_cons pd_int pda_nil))).pd (pda_cons (pf_lst pda_nil).pd pda_nil)))).pd pdr_nil))))) (pdb_one (pds_ret pd_bl)) pdb_nil)
      (pdb_cons (pds_set 3 (pd_op op_mulD (pd_str [97, 98]) pd_int) sc.nd)
      (pdb_cons (pds_set 4 (pd_callG (ok_l_long_ranks T) (hr.mono (by decide)) T.m_l_long_ranks T.u_l_long_ranks.kp T.b_l_long_ranks (pdr_val (pd_var 3) pdr_nil)) sc.nd)
      (pdb_one (pds_ret (pd_and (pd_callG (ok_l_same T) (hr.mono (by decide)) T.m_l_same T.u_l_same.kp T.b_l_same (pdr_val (pf_callG (ok_ranks T) (hr.mono (by decide)) T.m_ranks T.u_ranks.kp T.b_ranks (pdr_val (pd_var 3) pdr_nil)).pd (pdr_val (pd_var 4) pdr_nil))) (pd_one (pd_callG (ok_l_same T) (hr.mono (by decide)) T.m_l_same T.u_l_same.kp T.b_l_same (pdr_val (pf_callG (ok_ranks T) (hr.mono (by decide)) T.m_ranks T.u_ranks.kp T.b_ranks (pdr_val (pd_str [97, 98, 98, 97]) pdr_nil)).pd (pdr_val (pf_lst (pda_cons (pd_tup (pda_cons pd_int (pda_cons pd_int pda_nil))) (pda_cons (pd_tup (pda_cons pd_int (pda_cons pd_int pda_nil))) (pda_cons (pd_tup (pda_cons pd_int (pda_cons pd_int pda_nil))) (pda_cons (pd_tup (pda_cons pd_int (pda_cons pd_int pda_nil))) pda_nil))))).pd pdr_nil)))))))))))
end
theorem wp_l_row {x0 : D} {P : D → List D → Prop} (h : Ws b_l_row [.val x0, .no, .no, .no] (Fi ms_l_row P)) : Ret (F_l_row [x0]) P := fn_w rfl rfl h
theorem run_l_row {x0 : D} {r : D} {e : Lvs} {bs : List D} (h : b_l_row [.val x0, .no, .no, .no] = some (.rt r, e)) (hk : backs ms_l_row e = some bs) : F_l_row [x0] = some (r, bs) := ev_run rfl rfl h hk
theorem runN_l_row {x0 : D} {e : Lvs} {bs : List D} (h : b_l_row [.val x0, .no, .no, .no] = some (.nx, e)) (hk : backs ms_l_row e = some bs) : F_l_row [x0] = some (.non, bs) := ev_runN rfl rfl h hk
theorem wp_l_long_ranks {x0 : D} {P : D → List D → Prop} (h : Ws b_l_long_ranks [.val x0, .no, .no, .no] (Fi ms_l_long_ranks P)) : Ret (F_l_long_ranks [x0]) P := fn_w rfl rfl h
theorem run_l_long_ranks {x0 : D} {r : D} {e : Lvs} {bs : List D} (h : b_l_long_ranks [.val x0, .no, .no, .no] = some (.rt r, e)) (hk : backs ms_l_long_ranks e = some bs) : F_l_long_ranks [x0] = some (r, bs) := ev_run rfl rfl h hk
theorem runN_l_long_ranks {x0 : D} {e : Lvs} {bs : List D} (h : b_l_long_ranks [.val x0, .no, .no, .no] = some (.nx, e)) (hk : backs ms_l_long_ranks e = some bs) : F_l_long_ranks [x0] = some (.non, bs) := ev_runN rfl rfl h hk
theorem wp_l_cell {x0 x1 : D} {P : D → List D → Prop} (h : Ws b_l_cell [.val x0, .val x1] (Fi ms_l_cell P)) : Ret (F_l_cell [x0, x1]) P := fn_w rfl rfl h
theorem run_l_cell {x0 x1 : D} {r : D} {e : Lvs} {bs : List D} (h : b_l_cell [.val x0, .val x1] = some (.rt r, e)) (hk : backs ms_l_cell e = some bs) : F_l_cell [x0, x1] = some (r, bs) := ev_run rfl rfl h hk
theorem runN_l_cell {x0 x1 : D} {e : Lvs} {bs : List D} (h : b_l_cell [.val x0, .val x1] = some (.nx, e)) (hk : backs ms_l_cell e = some bs) : F_l_cell [x0, x1] = some (.non, bs) := ev_runN rfl rfl h hk
theorem wp_l_generator {x0 x1 : D} {P : D → List D → Prop} (h : Ws b_l_generator [.val x0, .val x1, .no] (FiF ms_l_generator P)) : Ret (F_l_generator [x0, x1]) P := fn_wF rfl rfl h
theorem run_l_generator {x0 x1 : D} {r : D} {e : Lvs} {bs : List D} (h : b_l_generator [.val x0, .val x1, .no] = some (.rn r, e)) (hk : backs ms_l_generator e = some bs) : F_l_generator [x0, x1] = some (r, bs) := ev_runF rfl rfl h hk
theorem wp_l_same {x0 x1 : D} {P : D → List D → Prop} (h : Ws b_l_same [.val x0, .val x1] (Fi ms_l_same P)) : Ret (F_l_same [x0, x1]) P := fn_w rfl rfl h
theorem run_l_same {x0 x1 : D} {r : D} {e : Lvs} {bs : List D} (h : b_l_same [.val x0, .val x1] = some (.rt r, e)) (hk : backs ms_l_same e = some bs) : F_l_same [x0, x1] = some (r, bs) := ev_run rfl rfl h hk
theorem runN_l_same {x0 x1 : D} {e : Lvs} {bs : List D} (h : b_l_same [.val x0, .val x1] = some (.nx, e)) (hk : backs ms_l_same e = some bs) : F_l_same [x0, x1] = some (.non, bs) := ev_runN rfl rfl h hk
theorem wp_is_string_of {x0 x1 : D} {P : D → List D → Prop} (h : Ws b_is_string_of [.val x0, .val x1] (Fi ms_is_string_of P)) : Ret (F_is_string_of [x0, x1]) P := fn_w rfl rfl h
theorem run_is_string_of {x0 x1 : D} {r : D} {e : Lvs} {bs : List D} (h : b_is_string_of [.val x0, .val x1] = some (.rt r, e)) (hk : backs ms_is_string_of e = some bs) : F_is_string_of [x0, x1] = some (r, bs) := ev_run rfl rfl h hk
theorem runN_is_string_of {x0 x1 : D} {e : Lvs} {bs : List D} (h : b_is_string_of [.val x0, .val x1] = some (.nx, e)) (hk : backs ms_is_string_of e = some bs) : F_is_string_of [x0, x1] = some (.non, bs) := ev_runN rfl rfl h hk
theorem wp_is_letters_alone {x0 : D} {P : D → List D → Prop} (h : Ws b_is_letters_alone [.val x0] (Fi ms_is_letters_alone P)) : Ret (F_is_letters_alone [x0]) P := fn_w rfl rfl h
theorem run_is_letters_alone {x0 : D} {r : D} {e : Lvs} {bs : List D} (h : b_is_letters_alone [.val x0] = some (.rt r, e)) (hk : backs ms_is_letters_alone e = some bs) : F_is_letters_alone [x0] = some (r, bs) := ev_run rfl rfl h hk
theorem runN_is_letters_alone {x0 : D} {e : Lvs} {bs : List D} (h : b_is_letters_alone [.val x0] = some (.nx, e)) (hk : backs ms_is_letters_alone e = some bs) : F_is_letters_alone [x0] = some (.non, bs) := ev_runN rfl rfl h hk
theorem wp_check_text {x0 : D} {P : D → List D → Prop} (h : Ws b_check_text [.val x0] (Fi ms_check_text P)) : Ret (F_check_text [x0]) P := fn_w rfl rfl h
theorem run_check_text {x0 : D} {r : D} {e : Lvs} {bs : List D} (h : b_check_text [.val x0] = some (.rt r, e)) (hk : backs ms_check_text e = some bs) : F_check_text [x0] = some (r, bs) := ev_run rfl rfl h hk
theorem runN_check_text {x0 : D} {e : Lvs} {bs : List D} (h : b_check_text [.val x0] = some (.nx, e)) (hk : backs ms_check_text e = some bs) : F_check_text [x0] = some (.non, bs) := ev_runN rfl rfl h hk
theorem wp_ranks_ahead {x0 : D} {P : D → List D → Prop} (h : Ws b_ranks_ahead [.val x0, .no, .no, .no, .no, .no] (FiF ms_ranks_ahead P)) : Ret (F_ranks_ahead [x0]) P := fn_wF rfl rfl h
theorem run_ranks_ahead {x0 : D} {r : D} {e : Lvs} {bs : List D} (h : b_ranks_ahead [.val x0, .no, .no, .no, .no, .no] = some (.rn r, e)) (hk : backs ms_ranks_ahead e = some bs) : F_ranks_ahead [x0] = some (r, bs) := ev_runF rfl rfl h hk
theorem wp_ranks_of {x0 : D} {P : D → List D → Prop} (h : Ws b_ranks_of [.val x0, .no, .no, .no] (FiF ms_ranks_of P)) : Ret (F_ranks_of [x0]) P := fn_wF rfl rfl h
theorem run_ranks_of {x0 : D} {r : D} {e : Lvs} {bs : List D} (h : b_ranks_of [.val x0, .no, .no, .no] = some (.rn r, e)) (hk : backs ms_ranks_of e = some bs) : F_ranks_of [x0] = some (r, bs) := ev_runF rfl rfl h hk
theorem wp_ranks {x0 : D} {P : D → List D → Prop} (h : Ws b_ranks [.val x0] (FiF ms_ranks P)) : Ret (F_ranks [x0]) P := fn_wF rfl rfl h
theorem run_ranks {x0 : D} {r : D} {e : Lvs} {bs : List D} (h : b_ranks [.val x0] = some (.rn r, e)) (hk : backs ms_ranks e = some bs) : F_ranks [x0] = some (r, bs) := ev_runF rfl rfl h hk
theorem wp_l_hash {x0 x1 : D} {P : D → List D → Prop} (h : Ws b_l_hash [.val x0, .val x1, .no] (Fi ms_l_hash P)) : Ret (F_l_hash [x0, x1]) P := fn_w rfl rfl h
theorem run_l_hash {x0 x1 : D} {r : D} {e : Lvs} {bs : List D} (h : b_l_hash [.val x0, .val x1, .no] = some (.rt r, e)) (hk : backs ms_l_hash e = some bs) : F_l_hash [x0, x1] = some (r, bs) := ev_run rfl rfl h hk
theorem runN_l_hash {x0 x1 : D} {e : Lvs} {bs : List D} (h : b_l_hash [.val x0, .val x1, .no] = some (.nx, e)) (hk : backs ms_l_hash e = some bs) : F_l_hash [x0, x1] = some (.non, bs) := ev_runN rfl rfl h hk
theorem wp_l_random {x0 x1 : D} {P : D → List D → Prop} (h : Ws b_l_random [.own true x0, .val x1, .no, .no] (Fi ms_l_random P)) : Ret (F_l_random [x0, x1]) P := fn_w rfl rfl h
theorem run_l_random {x0 x1 : D} {r : D} {e : Lvs} {bs : List D} (h : b_l_random [.own true x0, .val x1, .no, .no] = some (.rt r, e)) (hk : backs ms_l_random e = some bs) : F_l_random [x0, x1] = some (r, bs) := ev_run rfl rfl h hk
theorem runN_l_random {x0 x1 : D} {e : Lvs} {bs : List D} (h : b_l_random [.own true x0, .val x1, .no, .no] = some (.nx, e)) (hk : backs ms_l_random e = some bs) : F_l_random [x0, x1] = some (.non, bs) := ev_runN rfl rfl h hk
theorem wp_l_size {x0 x1 x2 : D} {P : D → List D → Prop} (h : Ws b_l_size [.own true x0, .val x1, .val x2] (Fi ms_l_size P)) : Ret (F_l_size [x0, x1, x2]) P := fn_w rfl rfl h
theorem run_l_size {x0 x1 x2 : D} {r : D} {e : Lvs} {bs : List D} (h : b_l_size [.own true x0, .val x1, .val x2] = some (.rt r, e)) (hk : backs ms_l_size e = some bs) : F_l_size [x0, x1, x2] = some (r, bs) := ev_run rfl rfl h hk
theorem runN_l_size {x0 x1 x2 : D} {e : Lvs} {bs : List D} (h : b_l_size [.own true x0, .val x1, .val x2] = some (.nx, e)) (hk : backs ms_l_size e = some bs) : F_l_size [x0, x1, x2] = some (.non, bs) := ev_runN rfl rfl h hk
theorem wp_l_letters {x0 x1 x2 : D} {P : D → List D → Prop} (h : Ws b_l_letters [.own true x0, .val x1, .val x2, .no, .no, .no] (Fi ms_l_letters P)) : Ret (F_l_letters [x0, x1, x2]) P := fn_w rfl rfl h
theorem run_l_letters {x0 x1 x2 : D} {r : D} {e : Lvs} {bs : List D} (h : b_l_letters [.own true x0, .val x1, .val x2, .no, .no, .no] = some (.rt r, e)) (hk : backs ms_l_letters e = some bs) : F_l_letters [x0, x1, x2] = some (r, bs) := ev_run rfl rfl h hk
theorem runN_l_letters {x0 x1 x2 : D} {e : Lvs} {bs : List D} (h : b_l_letters [.own true x0, .val x1, .val x2, .no, .no, .no] = some (.nx, e)) (hk : backs ms_l_letters e = some bs) : F_l_letters [x0, x1, x2] = some (.non, bs) := ev_runN rfl rfl h hk
theorem wp_l_is_read {x0 x1 : D} {P : D → List D → Prop} (h : Ws b_l_is_read [.val x0, .val x1, .no, .no] (Fi ms_l_is_read P)) : Ret (F_l_is_read [x0, x1]) P := fn_w rfl rfl h
theorem run_l_is_read {x0 x1 : D} {r : D} {e : Lvs} {bs : List D} (h : b_l_is_read [.val x0, .val x1, .no, .no] = some (.rt r, e)) (hk : backs ms_l_is_read e = some bs) : F_l_is_read [x0, x1] = some (r, bs) := ev_run rfl rfl h hk
theorem runN_l_is_read {x0 x1 : D} {e : Lvs} {bs : List D} (h : b_l_is_read [.val x0, .val x1, .no, .no] = some (.nx, e)) (hk : backs ms_l_is_read e = some bs) : F_l_is_read [x0, x1] = some (.non, bs) := ev_runN rfl rfl h hk
theorem wp_l_longer {x0 x1 x2 : D} {P : D → List D → Prop} (h : Ws b_l_longer [.val x0, .val x1, .val x2, .no, .no, .no] (Fi ms_l_longer P)) : Ret (F_l_longer [x0, x1, x2]) P := fn_w rfl rfl h
theorem run_l_longer {x0 x1 x2 : D} {r : D} {e : Lvs} {bs : List D} (h : b_l_longer [.val x0, .val x1, .val x2, .no, .no, .no] = some (.rt r, e)) (hk : backs ms_l_longer e = some bs) : F_l_longer [x0, x1, x2] = some (r, bs) := ev_run rfl rfl h hk
theorem runN_l_longer {x0 x1 x2 : D} {e : Lvs} {bs : List D} (h : b_l_longer [.val x0, .val x1, .val x2, .no, .no, .no] = some (.nx, e)) (hk : backs ms_l_longer e = some bs) : F_l_longer [x0, x1, x2] = some (.non, bs) := ev_runN rfl rfl h hk
theorem wp_l_reads {x0 x1 : D} {P : D → List D → Prop} (h : Ws b_l_reads [.val x0, .val x1, .no, .no, .no, .no, .no] (Fi ms_l_reads P)) : Ret (F_l_reads [x0, x1]) P := fn_w rfl rfl h
theorem run_l_reads {x0 x1 : D} {r : D} {e : Lvs} {bs : List D} (h : b_l_reads [.val x0, .val x1, .no, .no, .no, .no, .no] = some (.rt r, e)) (hk : backs ms_l_reads e = some bs) : F_l_reads [x0, x1] = some (r, bs) := ev_run rfl rfl h hk
theorem runN_l_reads {x0 x1 : D} {e : Lvs} {bs : List D} (h : b_l_reads [.val x0, .val x1, .no, .no, .no, .no, .no] = some (.nx, e)) (hk : backs ms_l_reads e = some bs) : F_l_reads [x0, x1] = some (.non, bs) := ev_runN rfl rfl h hk
theorem wp_l_rank_ahead {x0 x1 : D} {P : D → List D → Prop} (h : Ws b_l_rank_ahead [.val x0, .val x1, .no, .no] (Fi ms_l_rank_ahead P)) : Ret (F_l_rank_ahead [x0, x1]) P := fn_w rfl rfl h
theorem run_l_rank_ahead {x0 x1 : D} {r : D} {e : Lvs} {bs : List D} (h : b_l_rank_ahead [.val x0, .val x1, .no, .no] = some (.rt r, e)) (hk : backs ms_l_rank_ahead e = some bs) : F_l_rank_ahead [x0, x1] = some (r, bs) := ev_run rfl rfl h hk
theorem runN_l_rank_ahead {x0 x1 : D} {e : Lvs} {bs : List D} (h : b_l_rank_ahead [.val x0, .val x1, .no, .no] = some (.nx, e)) (hk : backs ms_l_rank_ahead e = some bs) : F_l_rank_ahead [x0, x1] = some (.non, bs) := ev_runN rfl rfl h hk
theorem wp_l_ranks {x0 : D} {P : D → List D → Prop} (h : Ws b_l_ranks [.val x0, .no, .no, .no] (Fi ms_l_ranks P)) : Ret (F_l_ranks [x0]) P := fn_w rfl rfl h
theorem run_l_ranks {x0 : D} {r : D} {e : Lvs} {bs : List D} (h : b_l_ranks [.val x0, .no, .no, .no] = some (.rt r, e)) (hk : backs ms_l_ranks e = some bs) : F_l_ranks [x0] = some (r, bs) := ev_run rfl rfl h hk
theorem runN_l_ranks {x0 : D} {e : Lvs} {bs : List D} (h : b_l_ranks [.val x0, .no, .no, .no] = some (.nx, e)) (hk : backs ms_l_ranks e = some bs) : F_l_ranks [x0] = some (.non, bs) := ev_runN rfl rfl h hk
theorem wp_l_text {x0 x1 x2 x3 : D} {P : D → List D → Prop} (h : Ws b_l_text [.own true x0, .val x1, .val x2, .val x3, .no, .no, .no] (Fi ms_l_text P)) : Ret (F_l_text [x0, x1, x2, x3]) P := fn_w rfl rfl h
theorem run_l_text {x0 x1 x2 x3 : D} {r : D} {e : Lvs} {bs : List D} (h : b_l_text [.own true x0, .val x1, .val x2, .val x3, .no, .no, .no] = some (.rt r, e)) (hk : backs ms_l_text e = some bs) : F_l_text [x0, x1, x2, x3] = some (r, bs) := ev_run rfl rfl h hk
theorem runN_l_text {x0 x1 x2 x3 : D} {e : Lvs} {bs : List D} (h : b_l_text [.own true x0, .val x1, .val x2, .val x3, .no, .no, .no] = some (.nx, e)) (hk : backs ms_l_text e = some bs) : F_l_text [x0, x1, x2, x3] = some (.non, bs) := ev_runN rfl rfl h hk
theorem wp_l_told_right {x0 x1 : D} {P : D → List D → Prop} (h : Ws b_l_told_right [.val x0, .val x1, .no] (Fi ms_l_told_right P)) : Ret (F_l_told_right [x0, x1]) P := fn_w rfl rfl h
theorem run_l_told_right {x0 x1 : D} {r : D} {e : Lvs} {bs : List D} (h : b_l_told_right [.val x0, .val x1, .no] = some (.rt r, e)) (hk : backs ms_l_told_right e = some bs) : F_l_told_right [x0, x1] = some (r, bs) := ev_run rfl rfl h hk
theorem runN_l_told_right {x0 x1 : D} {e : Lvs} {bs : List D} (h : b_l_told_right [.val x0, .val x1, .no] = some (.nx, e)) (hk : backs ms_l_told_right e = some bs) : F_l_told_right [x0, x1] = some (.non, bs) := ev_runN rfl rfl h hk
theorem wp_is_whole {x0 : D} {P : D → List D → Prop} (h : Ws b_is_whole [.val x0] (Fi ms_is_whole P)) : Ret (F_is_whole [x0]) P := fn_w rfl rfl h
theorem run_is_whole {x0 : D} {r : D} {e : Lvs} {bs : List D} (h : b_is_whole [.val x0] = some (.rt r, e)) (hk : backs ms_is_whole e = some bs) : F_is_whole [x0] = some (r, bs) := ev_run rfl rfl h hk
theorem runN_is_whole {x0 : D} {e : Lvs} {bs : List D} (h : b_is_whole [.val x0] = some (.nx, e)) (hk : backs ms_is_whole e = some bs) : F_is_whole [x0] = some (.non, bs) := ev_runN rfl rfl h hk
theorem wp_is_between {x0 x1 x2 : D} {P : D → List D → Prop} (h : Ws b_is_between [.val x0, .val x1, .val x2] (Fi ms_is_between P)) : Ret (F_is_between [x0, x1, x2]) P := fn_w rfl rfl h
theorem run_is_between {x0 x1 x2 : D} {r : D} {e : Lvs} {bs : List D} (h : b_is_between [.val x0, .val x1, .val x2] = some (.rt r, e)) (hk : backs ms_is_between e = some bs) : F_is_between [x0, x1, x2] = some (r, bs) := ev_run rfl rfl h hk
theorem runN_is_between {x0 x1 x2 : D} {e : Lvs} {bs : List D} (h : b_is_between [.val x0, .val x1, .val x2] = some (.nx, e)) (hk : backs ms_is_between e = some bs) : F_is_between [x0, x1, x2] = some (.non, bs) := ev_runN rfl rfl h hk
theorem wp_check_number {x0 x1 x2 : D} {P : D → List D → Prop} (h : Ws b_check_number [.val x0, .val x1, .val x2] (Fi ms_check_number P)) : Ret (F_check_number [x0, x1, x2]) P := fn_w rfl rfl h
theorem run_check_number {x0 x1 x2 : D} {r : D} {e : Lvs} {bs : List D} (h : b_check_number [.val x0, .val x1, .val x2] = some (.rt r, e)) (hk : backs ms_check_number e = some bs) : F_check_number [x0, x1, x2] = some (r, bs) := ev_run rfl rfl h hk
theorem runN_check_number {x0 x1 x2 : D} {e : Lvs} {bs : List D} (h : b_check_number [.val x0, .val x1, .val x2] = some (.nx, e)) (hk : backs ms_check_number e = some bs) : F_check_number [x0, x1, x2] = some (.non, bs) := ev_runN rfl rfl h hk
theorem wp_check_depth {x0 : D} {P : D → List D → Prop} (h : Ws b_check_depth [.val x0] (Fi ms_check_depth P)) : Ret (F_check_depth [x0]) P := fn_w rfl rfl h
theorem run_check_depth {x0 : D} {r : D} {e : Lvs} {bs : List D} (h : b_check_depth [.val x0] = some (.rt r, e)) (hk : backs ms_check_depth e = some bs) : F_check_depth [x0] = some (r, bs) := ev_run rfl rfl h hk
theorem runN_check_depth {x0 : D} {e : Lvs} {bs : List D} (h : b_check_depth [.val x0] = some (.nx, e)) (hk : backs ms_check_depth e = some bs) : F_check_depth [x0] = some (.non, bs) := ev_runN rfl rfl h hk
theorem wp_can_go {x0 x1 : D} {P : D → List D → Prop} (h : Ws b_can_go [.val x0, .val x1, .no, .no] (FiF ms_can_go P)) : Ret (F_can_go [x0, x1]) P := fn_wF rfl rfl h
theorem run_can_go {x0 x1 : D} {r : D} {e : Lvs} {bs : List D} (h : b_can_go [.val x0, .val x1, .no, .no] = some (.rn r, e)) (hk : backs ms_can_go e = some bs) : F_can_go [x0, x1] = some (r, bs) := ev_runF rfl rfl h hk
theorem wp_l_goes {x0 x1 : D} {P : D → List D → Prop} (h : Ws b_l_goes [.val x0, .val x1, .no, .no] (Fi ms_l_goes P)) : Ret (F_l_goes [x0, x1]) P := fn_w rfl rfl h
theorem run_l_goes {x0 x1 : D} {r : D} {e : Lvs} {bs : List D} (h : b_l_goes [.val x0, .val x1, .no, .no] = some (.rt r, e)) (hk : backs ms_l_goes e = some bs) : F_l_goes [x0, x1] = some (r, bs) := ev_run rfl rfl h hk
theorem runN_l_goes {x0 x1 : D} {e : Lvs} {bs : List D} (h : b_l_goes [.val x0, .val x1, .no, .no] = some (.nx, e)) (hk : backs ms_l_goes e = some bs) : F_l_goes [x0, x1] = some (.non, bs) := ev_runN rfl rfl h hk
theorem wp_l_right {x0 : D} {P : D → List D → Prop} (h : Ws b_l_right [.own true x0, .no, .no, .no, .no, .no, .no, .no, .no, .no] (Fi ms_l_right P)) : Ret (F_l_right [x0]) P := fn_w rfl rfl h
theorem run_l_right {x0 : D} {r : D} {e : Lvs} {bs : List D} (h : b_l_right [.own true x0, .no, .no, .no, .no, .no, .no, .no, .no, .no] = some (.rt r, e)) (hk : backs ms_l_right e = some bs) : F_l_right [x0] = some (r, bs) := ev_run rfl rfl h hk
theorem runN_l_right {x0 : D} {e : Lvs} {bs : List D} (h : b_l_right [.own true x0, .no, .no, .no, .no, .no, .no, .no, .no, .no] = some (.nx, e)) (hk : backs ms_l_right e = some bs) : F_l_right [x0] = some (.non, bs) := ev_runN rfl rfl h hk
theorem wp_l_long_right {x0 : D} {P : D → List D → Prop} (h : Ws b_l_long_right [.own true x0, .no, .no, .no, .no, .no, .no] (Fi ms_l_long_right P)) : Ret (F_l_long_right [x0]) P := fn_w rfl rfl h
theorem run_l_long_right {x0 : D} {r : D} {e : Lvs} {bs : List D} (h : b_l_long_right [.own true x0, .no, .no, .no, .no, .no, .no] = some (.rt r, e)) (hk : backs ms_l_long_right e = some bs) : F_l_long_right [x0] = some (r, bs) := ev_run rfl rfl h hk
theorem runN_l_long_right {x0 : D} {e : Lvs} {bs : List D} (h : b_l_long_right [.own true x0, .no, .no, .no, .no, .no, .no] = some (.nx, e)) (hk : backs ms_l_long_right e = some bs) : F_l_long_right [x0] = some (.non, bs) := ev_runN rfl rfl h hk
theorem wp_law {x0 : D} {P : D → List D → Prop} (h : Ws b_law [.val x0, .no, .no, .no, .no] (Fi ms_law P)) : Ret (F_law [x0]) P := fn_w rfl rfl h
theorem run_law {x0 : D} {r : D} {e : Lvs} {bs : List D} (h : b_law [.val x0, .no, .no, .no, .no] = some (.rt r, e)) (hk : backs ms_law e = some bs) : F_law [x0] = some (r, bs) := ev_run rfl rfl h hk
theorem runN_law {x0 : D} {e : Lvs} {bs : List D} (h : b_law [.val x0, .no, .no, .no, .no] = some (.nx, e)) (hk : backs ms_law e = some bs) : F_law [x0] = some (.non, bs) := ev_runN rfl rfl h hk
/-! ### running code -/
theorem ev_range1 {n : Int} (h : small62 n = true) : range1 [.int n] = some (rangeD 0 n.toNat) := if_pos h
theorem ev_range2 {m n : Int} (h : (small62 m && small62 n) = true) : range2 [.int m, .int n] = some (rangeD m (n - m).toNat) := if_pos h
theorem ev_range3 {m n : Int} (h : (small62 m && small62 n) = true) : range3 [.int m, .int n, .int (-1)] = some (rangeC m (-1) (m - n).toNat) := if_pos (by rw [Bool.and_assoc, h]; rfl)
theorem small62_of {n : Int} (h : -(2 ^ 62) ≤ n) (h2 : n < 2 ^ 62) : small62 n = true := by unfold small62; rw [decide_eq_true h, decide_eq_true h2]; rfl
theorem small63_of {n : Int} (h : -(2 ^ 63) ≤ n) (h2 : n < 2 ^ 63) : small63 n = true := by unfold small63; rw [decide_eq_true h, decide_eq_true h2]; rfl
theorem and_of {a b : Bool} (h : a = true) (h2 : b = true) : (a && b) = true := by rw [h, h2]; rfl
theorem ev_fi {mt : M Bool} {sa sb : MS} {e e1 : Lvs} {b : Bool} {q : Out × Lvs} (h : mt e = some (b, e1)) (hb : b = false) (h2 : sb e1 = some q) : sIf mt sa sb e = some q := ev_ifF (hb ▸ h) h2
theorem ev_ti {mt : M Bool} {sa sb : MS} {e e1 : Lvs} {b : Bool} {q : Out × Lvs} (h : mt e = some (b, e1)) (hb : b = true) (h2 : sa e1 = some q) : sIf mt sa sb e = some q := ev_ifT (hb ▸ h) h2
theorem log2_of {x a : Nat} (h0 : 0 < a) (h : x < 2 ^ a) : x.log2 < a := PySem.Flt.log2_lt_of h0 h
theorem ev_mulB {i j : Int} {a b : Nat} (hi : i.natAbs < 2 ^ a) (hj : j.natAbs < 2 ^ b) (ha : 0 < a) (hb : 0 < b) (h : a + b ≤ 1000000) : mulD (.int i) (.int j) = some (.int (i * j)) := ev_mul (by
  have h1 := log2_of ha hi
  have h2 := log2_of hb hj
  omega)
theorem ev_mul64 {i j : Int} (hi : i.natAbs < 18446744073709551616) (hj : j.natAbs < 18446744073709551616) : mulD (.int i) (.int j) = some (.int (i * j)) := ev_mulB (a := 64) (b := 64) hi hj (by decide) (by decide) (by decide)
theorem ev_revN {s : List Nat} {k : Int} (hk : k = -1) (hl : lim s.length = true) : revS (.str s) (some k) = some (.str s.reverse) := by subst hk; exact ev_revS hl
theorem ev_fdiv64 {i j : Int} (h : 0 < j) (h2 : j.natAbs < 18446744073709551616) : fdivD (.int i) (.int j) = some (.int (i / j)) := ev_fdiv h (Nat.lt_trans (log2_of (a := 64) (by decide) h2) (by decide))
theorem op_mul_of {i j : Int} {Q : D → Prop} (a b : Nat) (hi : i.natAbs < 2 ^ a) (hj : j.natAbs < 2 ^ b) (h : (decide (0 < a) && decide (0 < b) && decide (a + b ≤ 1000000)) = true) (q : Q (.int (i * j))) : Op (mulD (.int i) (.int j)) Q := by
  rw [Bool.and_eq_true, Bool.and_eq_true] at h
  exact op_is (ev_mulB hi hj (of_decide_eq_true h.1.1) (of_decide_eq_true h.1.2) (of_decide_eq_true h.2)) q
theorem lt_pow {i : Int} (n k : Nat) (h : i.natAbs < k) (hk : k ≤ 2 ^ n) : i.natAbs < 2 ^ n := Nat.lt_of_lt_of_le h hk
theorem ev_revA1 {s : List Nat} {k : Int} (hk : k = -1) (hl : lim s.length = true) : revA (.str s) (some k) = some (.str s.reverse) := by subst hk; exact if_pos hl
/-- side conditions -/
local macro_rules | `(tactic| walk_at "side") => `(tactic| first | with_reducible assumption | with_reducible rfl | (with_reducible refine lim_of ?_; first | with_reducible assumption | omega | (simp only [List.length_append, List.length_map, List.length_cons, List.length_nil, List.length_replicate, List.length_reverse, List.length_take, List.length_drop, List.length_range]; omega) | (simp only [List.length_append, List.length_map, List.length_cons, List.length_nil, List.length_replicate, List.length_reverse, List.length_take, List.length_drop, List.length_range] at *; omega)) | (with_reducible refine small62_of ?_ ?_ <;> (first | omega | (simp only [List.length_append, List.length_map, List.length_cons, List.length_nil, List.length_replicate, List.length_reverse, List.length_take, List.length_drop, List.length_range]; omega) | (simp only [List.length_append, List.length_map, List.length_cons, List.length_nil, List.length_replicate, List.length_reverse, List.length_take, List.length_drop, List.length_range] at *; omega))) | (with_reducible refine and_of ?_ ?_ <;> walk_at "side") | (with_reducible refine small63_of ?_ ?_ <;> omega) | omega)
/-- a look at a slot; a slot's store -/
local macro_rules | `(tactic| walk_at "look") => `(tactic| exact rfl)
local macro_rules | `(tactic| walk_at "put") => `(tactic| first | with_reducible exact set_z | (apply set_s; (focus walk_at "put")))
/-- operations -/
local macro_rules | `(tactic| walk_at "op") => `(tactic| first
  | ((with_reducible refine ev_mul64 ?_ ?_) <;> first | (simp only [Int.natAbs_natCast]; omega) | omega)
  | (with_reducible refine ev_mul ?_); walk_at "side"
  | ((with_reducible refine ev_fdiv64 ?_ ?_) <;> omega)
  | (with_reducible refine ev_fdiv ?_ ?_) <;> walk_at "side"
  | (with_reducible refine ev_mod ?_); walk_at "side"
  | (with_reducible refine ev_pow ?_ ?_) <;> walk_at "side"
  | (with_reducible refine ev_addS ?_); walk_at "side"
  | (with_reducible refine ev_addL ?_); walk_at "side"
  | (with_reducible refine ev_addLL ?_); walk_at "side"
  | (with_reducible refine ev_addT ?_); walk_at "side"
  | (with_reducible refine ev_mulS ?_); walk_at "side"
  | (with_reducible refine ev_mulL ?_); walk_at "side"
  | (with_reducible refine ev_mulLL ?_); walk_at "side"
  | (with_reducible refine ev_lenS ?_); walk_at "side"
  | (with_reducible refine ev_slS ?_); walk_at "side"
  | ((with_reducible refine ev_revN ?_ ?_); (focus exact rfl); (focus walk_at "side"))
  | ((with_reducible refine ev_revA1 ?_ ?_); (focus exact rfl); (focus walk_at "side"))
  | (with_reducible refine ev_strip ?_); walk_at "side"
  | (with_reducible refine rev_str ?_); walk_at "side"
  | (with_reducible refine lst_str ?_); walk_at "side"
  | (with_reducible refine ev_range1N ?_); walk_at "side"
  | (with_reducible refine ev_range1 ?_); walk_at "side"
  | (with_reducible refine ev_range2 ?_); walk_at "side"
  | (with_reducible refine ev_range3 ?_); walk_at "side"
  | (with_reducible refine ev_isi (by rfl) ?_); (first | exact kit_is | exact kit_ib | exact kit_ss | exact kit_bb | exact kit_bi)
  | with_reducible assumption
  | exact rfl)
/-- a call of a def: its own lemmas stand in front -/
local macro_rules | `(tactic| walk_at "call") => `(tactic| with_reducible assumption)
local macro_rules | `(tactic| walk_at "ev") => `(tactic| first
  | with_reducible exact ev_C
  | with_reducible exact ev_ret
  | with_reducible exact ev_oN
  | with_reducible exact ev_nx
  | ((with_reducible apply ev_var); (focus walk_at "look"))
  | ((with_reducible apply ev_varO); (focus walk_at "look"); (focus walk_at "put"))
  | ((with_reducible apply ev_peek); (focus walk_at "look"))
  | ((with_reducible apply ev_peekO); (focus walk_at "look"))
  | ((with_reducible apply ev_eOwn); (focus walk_at "look"))
  | ((with_reducible apply ev_pk); (focus walk_at "look"))
  | ((with_reducible apply ev_pkO); (focus walk_at "look"))
  | ((with_reducible apply ev_pkD); (focus walk_at "look"))
  | ((with_reducible apply ev_op); (focus walk_at "ev"); (focus walk_at "ev"); (focus walk_at "op"))
  | ((with_reducible apply ev_cons); (focus walk_at "ev"); (focus walk_at "ev"))
  | ((with_reducible apply ev_callB); (focus walk_at "ev"); (focus walk_at "op"))
  | ((with_reducible apply ev_call); (focus walk_at "ev"); (focus exact rfl); (focus exact rfl); (focus walk_at "call"); (focus exact rfl))
  | ((with_reducible apply ev_rVal); (focus walk_at "ev"); (focus walk_at "ev"))
  | ((with_reducible apply ev_rLend); (focus walk_at "ev"); (focus walk_at "ev"))
  | ((with_reducible apply ev_rNew); (focus walk_at "ev"); (focus walk_at "ev"))
  | ((with_reducible apply ev_test); (focus walk_at "ev"))
  | ((with_reducible apply ev_lst); (focus walk_at "ev"); (focus walk_at "side"))
  | ((with_reducible apply ev_tup); (focus walk_at "ev"); (focus walk_at "side"))
  | ((with_reducible apply ev_ix); (focus walk_at "ev"); (focus walk_at "ev"); (focus walk_at "op"))
  | ((with_reducible apply ev_ixV); (focus walk_at "ev"); (focus walk_at "ev"); (focus walk_at "ev"); (focus walk_at "op"))
  | ((with_reducible apply ev_oS); (focus walk_at "ev"))
  | ((with_reducible apply ev_sl); (focus walk_at "ev"); (focus walk_at "ev"); (focus walk_at "ev"); (focus walk_at "op"))
  | ((with_reducible apply ev_rev); (focus walk_at "ev"); (focus walk_at "ev"); (focus walk_at "op"))
  | ((with_reducible apply ev_lenV); (focus walk_at "ev"); (focus walk_at "op"))
  | ((with_reducible apply ev_methS); (focus walk_at "ev"); (focus walk_at "ev"); (focus walk_at "op"))
  | ((with_reducible apply ev_bits); (focus walk_at "ev"))
  | ((with_reducible apply ev_opL); (focus walk_at "ev"); (focus walk_at "ev"); (focus walk_at "ev"); (focus walk_at "op"))
  | ((with_reducible apply ev_opR); (focus walk_at "ev"); (focus walk_at "ev"); (focus walk_at "op"))
  | ((with_reducible apply ev_opB); (focus walk_at "ev"); (focus walk_at "ev"); (focus walk_at "op"))
  | ((with_reducible apply ev_and2); (focus walk_at "ev"); (focus walk_at "ev"))
  | ((with_reducible apply ev_or2); (focus walk_at "ev"); (focus walk_at "ev"))
  | ((with_reducible apply ev_bAnd2); (focus walk_at "ev"); (focus walk_at "ev"))
  | ((with_reducible apply ev_bOr2); (focus walk_at "ev"); (focus walk_at "ev"))
  | ((with_reducible apply ev_not); (focus walk_at "ev"))
  | ((with_reducible apply ev_bNot); (focus walk_at "ev"))
  | ((with_reducible apply ev_neg); (focus walk_at "ev"))
  | ((with_reducible apply ev_iAny); (focus walk_at "ev"); (focus walk_at "op"))
  | ((with_reducible apply ev_iRange); (focus walk_at "ev"); (focus walk_at "op"))
  | ((with_reducible apply ev_set); (focus walk_at "ev"); (focus walk_at "put"))
  | ((with_reducible apply ev_own); (focus walk_at "ev"); (focus walk_at "put"))
  | ((with_reducible apply ev_rt); (focus walk_at "ev"))
  | ((with_reducible apply ev_rtF); (focus walk_at "ev"))
  | ((with_reducible apply ev_do); (focus walk_at "ev"))
  | ((with_reducible apply ev_seqR); (focus walk_at "ev"))
  | ((with_reducible apply ev_seq); (focus walk_at "ev"); (focus walk_at "ev")))
/-- statement by statement as far as it goes -/
local macro_rules | `(tactic| walk_at "go") => `(tactic| first
  | ((with_reducible apply ev_seq); (focus walk_at "ev"); walk_at "go")
  | walk_at "ev"
  | skip)
/-! ### the walk, backwards -/
local macro_rules | `(tactic| walk_at "bool") => `(tactic| first | with_reducible assumption | exact rfl | omega | (simp only [List.length_append, List.length_map, List.length_cons, List.length_nil, List.length_replicate, List.length_reverse, List.length_take, List.length_drop] at *; omega))
local macro_rules | `(tactic| walk_at "yes") => `(tactic| first | with_reducible rfl | with_reducible assumption | omega)
local macro_rules | `(tactic| walk_at "no") => `(tactic| first | with_reducible assumption | omega)
local macro_rules | `(tactic| walk_at "v1") => `(tactic| first
  | with_reducible refine w_C ?_
  | ((with_reducible apply w_var); (focus walk_at "look"))
  | ((with_reducible apply w_varO); (focus walk_at "look"); (focus walk_at "put"))
  | with_reducible refine w_op ?_
  | with_reducible refine ixK_is ?_
  | with_reducible refine get2_is ?_
  | with_reducible refine get1_is ?_
  | with_reducible refine inK_is ?_
  | with_reducible refine notInK_is ?_
  | with_reducible refine inM_is ?_
  | with_reducible refine notInM_is ?_
  | with_reducible refine isK_int ?_
  | with_reducible refine isK_str ?_
  | with_reducible refine isK_key ?_
  | ((with_reducible refine op_is (eq_self ?_) ?_); (focus with_reducible assumption))
  | ((with_reducible refine op_is (ne_self ?_) ?_); (focus with_reducible assumption))
  | ((with_reducible apply op_is); (focus walk_at "op"))
  | with_reducible refine w_cons ?_
  | with_reducible refine w_ret ?_
  | with_reducible refine w_rVal ?_
  | with_reducible refine nx_nx ?_
  | with_reducible refine s_seq ?_
  | with_reducible refine s_set ?_
  | ((with_reducible apply put_is); (focus walk_at "put"))
  | with_reducible refine w_test ?_
  | with_reducible refine isB_bl ?_
  | with_reducible refine isI_int ?_
  | with_reducible refine isS_str ?_
  | with_reducible refine w_callB ?_
  | with_reducible refine w_call ?_
  | ((with_reducible apply call_is); (focus exact rfl); (focus exact rfl))
  | ((with_reducible apply ret_is); (focus walk_at "call"))
  | with_reducible refine pb_nil ?_
  | with_reducible refine pb_val ?_
  | with_reducible refine pm_nil ?_
  | ((with_reducible apply pm_cons); (focus exact rfl))
  | with_reducible refine pb_new ?_
  | ((with_reducible apply pb_lend); (focus walk_at "look"); (focus walk_at "put"))
  | with_reducible refine w_ix ?_
  | with_reducible refine w_ixV ?_
  | ((with_reducible apply w_peek); (focus walk_at "look"))
  | ((with_reducible apply w_peekO); (focus walk_at "look"))
  | ((with_reducible apply w_eOwn); (focus walk_at "look"))
  | ((with_reducible apply w_pk); (focus walk_at "look"))
  | ((with_reducible apply w_pkO); (focus walk_at "look"))
  | ((with_reducible apply w_pkD); (focus walk_at "look"))
  | with_reducible refine w_opL ?_
  | with_reducible refine w_opR ?_
  | with_reducible refine w_opB ?_
  | with_reducible refine w_oN ?_
  | with_reducible refine w_oS ?_
  | with_reducible refine w_sl ?_
  | with_reducible refine w_rev ?_
  | with_reducible refine w_revA ?_
  | with_reducible refine w_lenV ?_
  | with_reducible refine w_methS ?_
  | with_reducible refine w_bits ?_
  | with_reducible refine w_neg ?_
  | with_reducible refine w_not ?_
  | with_reducible refine w_and ?_
  | with_reducible refine w_or ?_
  | with_reducible refine w_bAnd ?_
  | with_reducible refine w_bOr ?_
  | with_reducible refine w_bNot ?_
  | with_reducible refine w_eIf ?_
  | with_reducible refine w_chn ?_
  | with_reducible refine w_iAny ?_
  | with_reducible refine w_yes ?_
  | with_reducible refine w_iRange ?_
  | with_reducible refine w_enum ?_
  | with_reducible refine w_zip ?_
  | with_reducible refine w_zipS ?_
  | with_reducible refine w_revM ?_
  | with_reducible refine w_listOf ?_
  | with_reducible refine w_tupOf ?_
  | with_reducible refine w_sorted ?_
  | with_reducible refine w_sumV ?_
  | with_reducible refine w_still ?_
  | with_reducible refine w_bstill ?_
  | with_reducible refine frz_val ?_
  | with_reducible refine frz_none ?_
  | with_reducible refine frz_nil ?_
  | ((with_reducible refine frz_out ?_ ?_); (focus decide))
  | ((with_reducible refine frz_in ?_ ?_ ?_); (focus decide); (focus exact rfl))
  | ((with_reducible refine sc_is ?_ ?_); (focus exact rfl))
  | with_reducible refine w_sortedJ ?_
  | with_reducible refine w_iMeth ?_
  | with_reducible refine w_inV ?_
  | with_reducible refine w_get2 ?_
  | with_reducible refine w_get1 ?_
  | with_reducible refine w_get2V ?_
  | with_reducible refine w_get1V ?_
  | ((with_reducible apply inD_val); (focus walk_at "look"))
  | ((with_reducible apply inD_own); (focus walk_at "look"))
  | with_reducible refine w_dc ?_
  | with_reducible refine s_putK ?_
  | ((with_reducible apply putK_is); (focus walk_at "look"); (focus walk_at "side"))
  | ((with_reducible apply w_pop); (focus walk_at "look"))
  | ((with_reducible apply s_revI); (focus walk_at "look"))
  | with_reducible refine w_rNew ?_
  | with_reducible refine w_rLend ?_
  | with_reducible refine w_lc ?_
  | with_reducible refine w_lc2 ?_
  | with_reducible refine w_rPerm ?_
  | with_reducible refine w_lst ?_
  | with_reducible refine w_tup ?_
  | ((with_reducible refine gp_is ?_ ?_); (focus exact rfl))
  | ((with_reducible refine gd_is ?_ ?_); (focus walk_at "side"))
  | ((with_reducible refine is_is ?_ ?_); (focus with_reducible rfl))
  | with_reducible refine wipe_1 ?_
  | with_reducible refine wipe_2 ?_
  | with_reducible refine s_nx ?_
  | with_reducible refine s_if ?_
  | with_reducible refine s_rt ?_
  | with_reducible refine s_rtF ?_
  | ((with_reducible apply s_rtV); (focus walk_at "look"))
  | with_reducible refine s_rtN ?_
  | with_reducible refine s_own ?_
  | with_reducible refine s_do ?_
  | with_reducible refine s_for ?_
  | with_reducible refine s_bk ?_
  | with_reducible refine s_ct ?_
  | with_reducible refine s_asg ?_
  | with_reducible refine tg_N ?_
  | with_reducible refine tg_T ?_
  | with_reducible refine sa_cons ?_
  | with_reducible refine sa_nil ?_
  | with_reducible refine nx_rt ?_
  | with_reducible refine nx_rn ?_
  | with_reducible refine nx_bk ?_
  | with_reducible refine nx_ct ?_
  | with_reducible refine lp_nx ?_
  | with_reducible refine lp_ct ?_
  | with_reducible refine lp_bk ?_
  | with_reducible refine lp_rt ?_
  | with_reducible refine lp_rn ?_
  | with_reducible refine fi_rt ?_
  | with_reducible refine fi_nx ?_
  | with_reducible refine fi_rn ?_
  | ((with_reducible apply s_app); (focus walk_at "look"))
  | ((with_reducible apply app_is); (focus walk_at "look"); (focus walk_at "side"))
  | with_reducible refine s_setIx ?_
  | ((with_reducible apply setTo_is); (focus walk_at "look"))
  | with_reducible refine s_par2N ?_
  | with_reducible refine s_tupN ?_
  | with_reducible refine pa_cons' ?_
  | with_reducible refine pa_nil' ?_
  | with_reducible refine s_par3N ?_
  | ((with_reducible refine twoV_is ?_ ?_); (focus exact rfl))
  | ((with_reducible refine threeV_is ?_ ?_); (focus exact rfl))
  | with_reducible refine pv_val ?_
  | with_reducible refine pv_new ?_
  | with_reducible refine two_is ?_
  | with_reducible refine three_is ?_
  | ((with_reducible refine s_par ?_))
  | ((with_reducible refine s_par3 ?_))
  | with_reducible refine br_true ?_
  | with_reducible refine br_false ?_
  | with_reducible refine br_not ?_
  | with_reducible refine br_isN ?_
  | with_reducible refine br_isN_int ?_
  | with_reducible refine br_isN_str ?_
  | with_reducible refine br_isN_bl ?_
  | with_reducible refine br_isN_lst ?_
  | with_reducible refine br_isN_tup ?_
  | with_reducible refine br_and ?_
  | with_reducible refine br_or ?_
  | ((with_reducible refine br_decT ?_ ?_); (focus walk_at "yes"))
  | ((with_reducible refine br_decF ?_ ?_); (focus walk_at "no"))
  | with_reducible exact ⟨rfl, rfl⟩
  | with_reducible rfl
  | with_reducible exact ⟨_, rfl⟩
  | with_reducible exact ⟨_, _, rfl⟩
  | with_reducible exact ⟨_, _, _, rfl⟩)
local macro_rules | `(tactic| walk_at "vc") => `(tactic| repeat walk_at "v1")
/-! ### more of comprehensions, joins, cuts, sums -/
theorem lcL_inv {vs : List Nat} {g : D → Lvs → Option Lvs} {f : M D} (I : List D → Lvs → Prop) (ds : List D) (e : Lvs) (hl : ds.length ≤ 16777216) (h0 : I [] e) (step : ∀ (i : Nat) (d : D) (acc : List D) (e : Lvs), ds[i]? = some d → acc.length = i → I acc e → ∃ e1 y e2, g d e = some e1 ∧ f e1 = some (y, e2) ∧ I (acc ++ [y]) (wipeE e2 vs)) : ∃ rs e', lcL vs g bYes f ds [] e = some (rs, e') ∧ rs.length = ds.length ∧ I rs e' := by
  suffices ∀ (k i : Nat) (acc : List D) (e : Lvs), ds.length - i = k → i ≤ ds.length → acc.length = i → I acc e → ∃ rs e', lcL vs g bYes f (ds.drop i) acc e = some (rs, e') ∧ rs.length = ds.length ∧ I rs e' by
    have := this ds.length 0 [] e rfl (Nat.zero_le _) rfl h0
    rwa [List.drop_zero] at this
  intro k
  induction k with
  | zero =>
    intro i acc e hk hi ha h
    have : i = ds.length := by omega
    subst this
    rw [List.drop_length]
    exact ⟨acc, e, rfl, ha, h⟩
  | succ k ih =>
    intro i acc e hk hi ha h
    have hlt : i < ds.length := by omega
    obtain ⟨e1, y, e2, q1, q2, q3⟩ := step i ds[i] acc e (List.getElem?_eq_getElem hlt) ha h
    obtain ⟨rs, e', r1, r2⟩ := ih (i + 1) (acc ++ [y]) _ (by omega) hlt (by rw [List.length_append, ha]; rfl) q3
    refine ⟨rs, e', ?_, r2⟩
    rw [List.drop_eq_getElem_cons hlt]
    unfold lcL
    rw [q1]
    show (match f e1 with | some (y, e3) => if lim (acc.length + 1) = true then _ else none | none => none) = _
    rw [q2]
    show (if lim (acc.length + 1) = true then lcL vs g bYes f (ds.drop (i + 1)) (acc ++ [y]) (wipeE e2 vs) else none) = _
    rw [if_pos (lim_of (by omega))]
    exact r1
theorem strsOf_map : ∀ ns : List (List Nat), strsOf (ns.map D.str) = some ns
  | [] => rfl
  | i :: ns => by rw [List.map_cons]; unfold strsOf; rw [strsOf_map ns]
theorem intsOf_map : ∀ ns : List Int, intsOf (ns.map D.int) = some ns
  | [] => rfl
  | i :: ns => by rw [List.map_cons]; unfold intsOf; rw [intsOf_map ns]
theorem joinL_nil : ∀ ns : List (List Nat), TL.joinL [] ns = ns.flatten
  | [] => rfl
  | [p] => by show p = p ++ []; rw [List.append_nil]
  | p :: q :: r => by show p ++ ([] ++ TL.joinL [] (q :: r)) = _; rw [joinL_nil (q :: r)]; rfl
theorem ev_join0 {ns : List (List Nat)} (h : ns.flatten.length ≤ 16777216) : joinD (.str []) [.lst (ns.map D.str)] = some (.str ns.flatten) := by
  show (match strsOf (ns.map D.str) with | some ns => if lim ((ns.map List.length).sum + ns.length * ([] : List Nat).length) = true then some (D.str (TL.joinL [] ns)) else none | none => none) = _
  rw [strsOf_map]
  show (if lim ((ns.map List.length).sum + ns.length * ([] : List Nat).length) = true then some (D.str (TL.joinL [] ns)) else none) = _
  rw [if_pos, joinL_nil]
  rw [List.length_flatten] at h
  exact lim_of (by show _ + ns.length * 0 ≤ _; omega)
theorem flat_one : ∀ s : List Nat, (s.map fun c => [c]).flatten = s
  | [] => rfl
  | c :: s => by rw [List.map_cons, List.flatten_cons, flat_one s]; rfl
theorem ev_join1 {s : List Nat} (h : s.length ≤ 16777216) : joinD (.str []) [.lst (s.map fun c => D.str [c])] = some (.str s) := by
  have := ev_join0 (ns := s.map fun c => [c]) (by rw [flat_one]; exact h)
  rw [flat_one, List.map_map] at this
  exact this
theorem cut_to {α : Type} (xs : List α) (k : Nat) : cut xs none (some (k : Int)) = xs.take k := by
  unfold Dv.cut
  rw [HT.sIx_none, HT.sIx_nat, List.drop_zero, Nat.sub_zero]
  by_cases h : k ≤ xs.length
  · rw [Nat.min_eq_left h]
  · rw [Nat.min_eq_right (by omega), List.take_length, List.take_of_length_le (by omega)]
theorem cut_from {α : Type} (xs : List α) (k : Nat) : cut xs (some (k : Int)) none = xs.drop k := by
  unfold Dv.cut
  rw [HT.sIx_none, HT.sIx_nat]
  by_cases h : k ≤ xs.length
  · rw [Nat.min_eq_left h, List.take_of_length_le (by rw [List.length_drop]; omega)]
  · rw [Nat.min_eq_right (by omega), List.drop_length, List.drop_of_length_le (by omega), List.take_nil]
theorem sum_nat (f : Nat → Nat) : ∀ l : List Nat, (l.map fun k => ((f k : Nat) : Int)).sum = ((l.map f).sum : Nat)
  | [] => rfl
  | k :: l => by rw [List.map_cons, List.sum_cons, List.map_cons, List.sum_cons, sum_nat f l]; omega
theorem ev_sum {ns : List Int} : sumD [.lst (ns.map D.int)] = some (.int ns.sum) := by
  show (match intsOf (ns.map D.int) with | some ns => some (D.int ns.sum) | none => none) = _
  rw [intsOf_map]

/-! ### the generator -/
def hashV (s i : Int) : Int := ((((s * 1140671 + 27644437 * i * i + 131 * i + 19) % 2147483629) * ((s * 1140671 + 27644437 * i * i + 131 * i + 19) % 2147483629) + 62089 * i + 32416187) % 2147483587 * 48271) % 2147483647
theorem hash_ok {s i : Int} (hs0 : 0 ≤ s) (hs : s < 2147483648) (hi0 : 0 ≤ i) (hi : i ≤ 1000000000) : F_l_hash [.int s, .int i] = some (.int (hashV s i), []) := by
  apply run_l_hash
  · unfold b_l_hash
    walk_at "ev"
  · exact rfl
theorem hashV_ok (s i : Int) : 0 ≤ hashV s i ∧ hashV s i < 2147483647 := by unfold hashV; omega
/-- a generator of the law's, that was asked at most k times -/
def GOk (k : Nat) (g : D) : Prop := ∃ a s i : Int, g = .lst [.int a, .int s, .int i] ∧ 0 ≤ s ∧ s < 2147483648 ∧ 0 ≤ i ∧ i ≤ k
theorem GOk.mono {k l : Nat} {g : D} (h : GOk k g) (hl : k ≤ l) : GOk l g := by
  obtain ⟨a, s, i, h1, h2, h3, h4, h5⟩ := h
  exact ⟨a, s, i, h1, h2, h3, h4, by omega⟩
theorem gt_T {i j : Int} (h : j < i) : gtD (.int i) (.int j) = some (.bl true) := by show some (D.bl (decide (j < i))) = _; rw [decide_eq_true h]
theorem gt_F {i j : Int} (h : ¬ j < i) : gtD (.int i) (.int j) = some (.bl false) := by show some (D.bl (decide (j < i))) = _; rw [decide_eq_false h]
theorem drawn_lt {x h : Int} {j : Nat} (hx : x.natAbs < 2 ^ (32 * (j + 1))) (h0 : 0 ≤ h) (h1 : h < 2147483647) : (x * 2147483587 + h).natAbs < 2 ^ (32 * (j + 1 + 1)) := by
  have e : 2 ^ (32 * (j + 1 + 1)) = 2 ^ (32 * (j + 1)) * 4294967296 := by
    rw [show 32 * (j + 1 + 1) = 32 * (j + 1) + 32 by omega, Nat.pow_add]
  rw [e]
  generalize 2 ^ (32 * (j + 1)) = p at hx
  omega
theorem random_ex {k : Nat} {g : D} {n : Int} (hg : GOk k g) (hk : k ≤ 900000000) (hn : 0 < n) (hn2 : n.natAbs < 2 ^ 3000) : ∃ r g', F_l_random [g, .int n] = some (.int r, [g']) ∧ 0 ≤ r ∧ r < n ∧ GOk (k + 101) g' := by
  obtain ⟨a, s, i, rfl, hs0, hs, hi0, hi⟩ := hg
  have ln : n.natAbs.log2 < 3000 := log2_of (by decide) hn2
  by_cases ha : 0 < a
  · refine ⟨a % n, .lst [.int (a / n), .int s, .int i], ?_, Int.emod_nonneg _ (by omega), Int.emod_lt_of_pos _ hn, ⟨a / n, s, i, rfl, hs0, hs, hi0, by omega⟩⟩
    apply run_l_random
    · unfold b_l_random
      apply ev_seqR
      apply ev_ifT
      · apply ev_test
        apply ev_op
        · walk_at "ev"
        · walk_at "ev"
        · exact gt_T ha
      · apply ev_seq
        · walk_at "ev"
        apply ev_seq
        · apply ev_setIx
          · apply ev_op
            · walk_at "ev"
            · walk_at "ev"
            · exact ev_fdiv hn (by omega)
          · walk_at "ev"
          · walk_at "ev"
          · exact rfl
          · exact rfl
          · walk_at "put"
        · walk_at "ev"
    · exact rfl
  · have hb : Builtin.Int.intBits n ≤ 3000 := PyProof.Rows.intBits_le hn2
    obtain ⟨e', h1, h2⟩ := forL_inv (g := gN 3) (b := sSeq (sSetIx 0 (eC (.int 2)) (eOp addD (eIxV 0 (eC (.int 2))) (eC (.int 1)))) (sSet 2 (eOp addD (eOp mulD (eVar 2) (eC (.int 2147483587))) (eCall ms_l_hash F_l_hash (rVal (eIxV 0 (eC (.int 1))) (rVal (eIxV 0 (eC (.int 2))) (ret [])))))))
      (fun (j : Nat) e => ∃ (x : Int) (v : Lv), e = [.own true (.lst [.int a, .int s, .int (i + (j : Int))]), .val (.int n), .val (.int x), v] ∧ x.natAbs < 2 ^ (32 * (j + 1)) ∧ 0 ≤ x) (rangeD 0 (1 + (Builtin.Int.intBits n : Int) / 30).toNat)
      [.own true (.lst [.int a, .int s, .int i]), .val (.int n), .val (.int 0), .no] ⟨0, .no, by simp, by decide, by decide⟩ (fun j d e hj hI => by
        obtain ⟨x, v, rfl, hx, hx0⟩ := hI
        have hjl : j < 101 := by
          unfold rangeD at hj
          rw [List.getElem?_map] at hj
          by_cases hc : j < (1 + (Builtin.Int.intBits n : Int) / 30).toNat
          · omega
          · rw [List.getElem?_eq_none (by rw [List.length_range]; omega)] at hj; cases hj
        have hh := hashV_ok s (i + (j : Int) + 1)
        refine ⟨_, [.own true (.lst [.int a, .int s, .int (i + (j : Int) + 1)]), .val (.int n), .val (.int (x * 2147483587 + hashV s (i + (j : Int) + 1))), .val d], rfl, .inl ?_, ⟨x * 2147483587 + hashV s (i + (j : Int) + 1), .val d, ?_, drawn_lt hx hh.1 hh.2, by omega⟩⟩
        · apply ev_seq
          · apply ev_setIx
            · walk_at "ev"
            · walk_at "ev"
            · walk_at "ev"
            · exact rfl
            · exact rfl
            · walk_at "put"
          · apply ev_set
            · apply ev_op
              · apply ev_op
                · walk_at "ev"
                · walk_at "ev"
                · exact ev_mulB (a := 32 * (j + 1)) (b := 32) hx (by decide) (by omega) (by decide) (by omega)
              · apply ev_call
                · walk_at "ev"
                · exact rfl
                · exact rfl
                · exact hash_ok hs0 hs (by omega) (by omega)
                · exact rfl
              · walk_at "op"
            · walk_at "put"
        · rw [show ((j + 1 : Nat) : Int) = (j : Int) + 1 by omega, ← Int.add_assoc])
    obtain ⟨x, v, rfl, hx, hx0⟩ := h2
    refine ⟨x % n, .lst [.int a, .int s, .int (i + ((rangeD 0 (1 + (Builtin.Int.intBits n : Int) / 30).toNat).length : Int))], ?_, Int.emod_nonneg _ (by omega), Int.emod_lt_of_pos _ hn, ⟨a, s, _, rfl, hs0, hs, by omega, ?_⟩⟩
    · apply run_l_random
      · unfold b_l_random
        apply ev_seq
        · apply ev_ifF
          · apply ev_test
            apply ev_op
            · walk_at "ev"
            · walk_at "ev"
            · exact gt_F ha
          · walk_at "ev"
        apply ev_seq
        · walk_at "ev"
        apply ev_seq
        · apply ev_for
          · apply ev_iRange
            · walk_at "ev"
            · exact ev_range1 (small62_of (by omega) (by omega))
          · exact h1
        · walk_at "ev"
      · exact rfl
    · unfold rangeD
      rw [List.length_map, List.length_range]
      omega
def rv (g : D) (n : Int) : Int := match F_l_random [g, .int n] with
  | some (.int r, _) => r
  | _ => 0
def rg (g : D) (n : Int) : D := match F_l_random [g, .int n] with
  | some (_, [g']) => g'
  | _ => g
theorem random_ok {k : Nat} {g : D} {n : Int} (hg : GOk k g) (hk : k ≤ 900000000) (hn : 0 < n) (hn2 : n.natAbs < 2 ^ 3000) : F_l_random [g, .int n] = some (.int (rv g n), [rg g n]) ∧ 0 ≤ rv g n ∧ rv g n < n ∧ GOk (k + 101) (rg g n) := by
  obtain ⟨r, g', h, h1, h2, h3⟩ := random_ex hg hk hn hn2
  have e1 : rv g n = r := by unfold rv; rw [h]
  have e2 : rg g n = g' := by unfold rg; rw [h]
  rw [e1, e2]
  exact ⟨h, h1, h2, h3⟩
/-! ### what the laws share: letters, texts, alphabets, seeds -/
theorem stripL_all {a b : List Nat} (h : ∀ c ∈ a, c ∈ b) : stripL a b = [] := by
  have hall : ∀ (a : List Nat) (p : Nat → Bool), (∀ c ∈ a, p c = true) → (a.takeWhile p).length = a.length := by
    intro a p
    induction a with
    | nil => intro _; rfl
    | cons x a ih =>
      intro h
      rw [List.takeWhile_cons_of_pos (h x List.mem_cons_self), List.length_cons, List.length_cons, ih fun c hc => h c (List.mem_cons_of_mem _ hc)]
  have e : Txt.stripChars (mkS a) (mkS b) = W.stripped (mkS b).cps.contains true true (mkS a) := PySem.W.stripBy_eq _ _ _ _
  show (Txt.stripChars (mkS a) (mkS b)).cps.toList = []
  rw [e]
  unfold W.stripped
  have h1 : ((mkS a).cps.toList.takeWhile (mkS b).cps.contains).length = a.length := hall a _ fun c hc => by
    rw [Array.contains_iff_mem, Array.mem_toList_iff.symm]
    exact h c hc
  show ((mkS a).cps.extract ((mkS a).cps.toList.takeWhile (mkS b).cps.contains).length _).toList = []
  rw [h1, Array.toList_extract]
  show List.extract a a.length _ = []
  unfold List.extract
  rw [List.drop_length, List.take_nil]
def Az (s : List Nat) : Prop := ∀ c ∈ s, c ∈ k_LETTERS
theorem Az.app {s t : List Nat} (h : Az s) (h2 : Az t) : Az (s ++ t) := fun c hc => (List.mem_append.mp hc).elim (h c) (h2 c)
theorem is_string_ok {s k : List Nat} (h : ∀ c ∈ s, c ∈ k) (hl : s.length ≤ 1000) : F_is_string_of [.str s, .str k] = some (.bl true, []) := by
  apply run_is_string_of
  · unfold b_is_string_of
    apply ev_rt
    apply ev_andT
    · walk_at "ev"
    · apply ev_op
      · apply ev_methS
        · walk_at "ev"
        · walk_at "ev"
        · exact ev_strip (lim_of (by omega))
      · walk_at "ev"
      · rw [stripL_all h]; exact rfl
  · exact rfl
local macro_rules | `(tactic| walk_at "call") => `(tactic| ((with_reducible refine is_string_ok ?_ ?_) <;> first | assumption | omega))
theorem alone_ok {s : List Nat} (h : Az s) (hl : s.length ≤ 1000) : F_is_letters_alone [.str s] = some (.bl true, []) := by
  apply run_is_letters_alone
  · unfold b_is_letters_alone
    walk_at "ev"
  · exact rfl
local macro_rules | `(tactic| walk_at "call") => `(tactic| ((with_reducible refine alone_ok ?_ ?_) <;> first | assumption | omega))
theorem check_text_ok {s : List Nat} (h : Az s) (hl : s.length ≤ 1000) : F_check_text [.str s] = some (.non, []) := by
  apply runN_check_text
  · unfold b_check_text
    apply ev_fi
    · walk_at "ev"
    · exact rfl
    · walk_at "ev"
  · exact rfl
local macro_rules | `(tactic| walk_at "call") => `(tactic| ((with_reducible refine check_text_ok ?_ ?_) <;> first | assumption | omega))
theorem rangeC_at {lo c : Int} {n j : Nat} {d : D} (h : (rangeC lo c n)[j]? = some d) : j < n ∧ d = .int (lo + (j : Int) * c) := by
  unfold rangeC at h
  rw [List.getElem?_map] at h
  by_cases hj : j < n
  · rw [List.getElem?_range hj] at h
    cases h
    exact ⟨hj, rfl⟩
  · rw [List.getElem?_eq_none (by rw [List.length_range]; omega)] at h
    cases h
theorem rangeD_at {lo : Int} {n j : Nat} {d : D} (h : (rangeD lo n)[j]? = some d) : j < n ∧ d = .int (lo + (j : Int)) := by
  unfold rangeD at h
  rw [List.getElem?_map] at h
  by_cases hj : j < n
  · rw [List.getElem?_range hj] at h
    cases h
    exact ⟨hj, rfl⟩
  · rw [List.getElem?_eq_none (by rw [List.length_range]; omega)] at h
    cases h
theorem rangeC_len (lo c : Int) (n : Nat) : (rangeC lo c n).length = n := by unfold rangeC; rw [List.length_map, List.length_range]
theorem rangeD_len (lo : Int) (n : Nat) : (rangeD lo n).length = n := by unfold rangeD; rw [List.length_map, List.length_range]
theorem ix_str {s : List Nat} {i : Int} {k c : Nat} (hi : i = (k : Int)) (hl : s.length ≤ 16777216) (h : s[k]? = some c) : ixD (.str s) (.int i) = some (.str [c]) := by
  subst hi
  show (if lim s.length = true then (match atI s (k : Int) with | some c => some (D.str [c]) | none => none) else none) = _
  rw [if_pos (lim_of hl), atI_nat h]
theorem str_items (s : List Nat) : itemsOf (.str s) = some (s.map fun c => .str [c]) := rfl
theorem map_at {s : List Nat} {j : Nat} {d : D} (h : (s.map fun c => D.str [c])[j]? = some d) : ∃ c, s[j]? = some c ∧ d = .str [c] := by
  rw [List.getElem?_map] at h
  cases q : s[j]? with
  | none => rw [q] at h; cases h
  | some c => rw [q] at h; cases h; exact ⟨c, rfl, rfl⟩
theorem eq_str {a b : List Nat} : eqD (.str a) (.str b) = some (.bl (decide (a = b))) := rfl
theorem eq_int {a b : Int} : eqD (.int a) (.int b) = some (.bl (decide (a = b))) := rfl
theorem ne_str {a b : List Nat} : neD (.str a) (.str b) = some (.bl (!decide (a = b))) := rfl
theorem ne_int {a b : Int} : neD (.int a) (.int b) = some (.bl (!decide (a = b))) := rfl
theorem az_nil : Az [] := fun _ h => nomatch h
theorem Az.take {s : List Nat} (h : Az s) (k : Nat) : Az (s.take k) := fun c hc => h c (List.mem_of_mem_take hc)
theorem Az.drop {s : List Nat} (h : Az s) (k : Nat) : Az (s.drop k) := fun c hc => h c (List.mem_of_mem_drop hc)
theorem az_at {s : List Nat} {k c : Nat} (h : Az s) (hc : s[k]? = some c) : Az [c] := fun x hx => by
  rw [List.mem_singleton] at hx
  subst hx
  exact h _ (List.mem_of_getElem? hc)
theorem az_letters : Az k_LETTERS := fun _ h => h
theorem cell_ok (ns : List Int) (k : Nat) (hk : k ≤ 1000) : ∃ c, F_l_cell [.fls (ns.map .int), .int (k : Int)] = some (.int c, []) := by
  by_cases h : k < ns.length
  · refine ⟨ns[k], ?_⟩
    apply run_l_cell
    · unfold b_l_cell
      apply ev_seqR
      apply ev_ti
      · apply ev_test
        apply ev_op
        · walk_at "ev"
        · walk_at "ev"
        · exact rfl
      · exact decide_eq_true (by rw [List.length_map]; omega)
      · apply ev_rt
        apply ev_ix
        · walk_at "ev"
        · walk_at "ev"
        · show atI (ns.map D.int) (k : Int) = _
          rw [atI_nat (v := D.int ns[k]) (by rw [List.getElem?_map, List.getElem?_eq_getElem h]; rfl)]
    · exact rfl
  · refine ⟨(ns.take 1).sum % 1000003, ?_⟩
    apply run_l_cell
    · unfold b_l_cell
      apply ev_seq
      · apply ev_fi
        · apply ev_test
          apply ev_op
          · walk_at "ev"
          · walk_at "ev"
          · exact rfl
        · exact decide_eq_false (by rw [List.length_map]; omega)
        · walk_at "ev"
      · apply ev_rt
        apply ev_op
        · apply ev_callB
          · apply ev_cons
            · apply ev_sl
              · walk_at "ev"
              · walk_at "ev"
              · walk_at "ev"
              · show some (D.lst (cut (ns.map D.int) none (some ((1 : Nat) : Int)))) = _
                rw [cut_to, ← List.map_take]
            · walk_at "ev"
          · exact ev_sum
        · walk_at "ev"
        · exact ev_mod (by decide)
    · exact rfl
theorem generator_ok (ns : List Int) (k : Nat) (hk : k ≤ 1000) : ∃ g, F_l_generator [.fls (ns.map .int), .int (k : Int)] = some (g, []) ∧ GOk (1000 * k) g := by
  obtain ⟨c, hc⟩ := cell_ok ns k hk
  refine ⟨.lst [.int ((if 0 > c - 10 ^ 18 then 0 else c - 10 ^ 18) % (10 ^ 60) ^ 10), .int (c % 2147483647), .int (1000 * (k : Int))], ?_, _, _, _, rfl, by omega, by omega, by omega, by omega⟩
  apply run_l_generator
  · unfold b_l_generator
    apply ev_seq
    · walk_at "ev"
    · apply ev_rtF
      apply ev_lst
      · apply ev_cons
        · apply ev_op
          · apply ev_callB
            · apply ev_cons
              · apply ev_callB
                · apply ev_cons
                  · apply ev_op
                    · walk_at "ev"
                    · apply ev_op
                      · walk_at "ev"
                      · walk_at "ev"
                      · exact ev_pow (by decide) (by decide +kernel)
                    · exact rfl
                  · walk_at "ev"
                · exact rfl
              · walk_at "ev"
            · exact rfl
          · apply ev_op
            · apply ev_op
              · walk_at "ev"
              · walk_at "ev"
              · exact ev_pow (by decide) (by decide +kernel)
            · walk_at "ev"
            · exact ev_pow (by decide) (by decide +kernel)
          · exact ev_mod (by decide +kernel)
        · walk_at "ev"
      · exact rfl
  · exact rfl
theorem letters_at {i c : Nat} (h : k_LETTERS[i]? = some c) : c = 97 + i := by
  have hi : i < 26 := (List.getElem?_eq_some_iff.mp h).1
  have : ∀ j, j < 26 → k_LETTERS[j]? = some (97 + j) := by decide
  rw [this i hi] at h
  cases h
  rfl
/-- an alphabet -/
structure Alph (L : List Nat) : Prop where
  az : Az L
  asc : L.Pairwise (· < ·)
  pos : 0 < L.length
  le4 : L.length ≤ 4
theorem not_ge {a b : Nat} (h : a < b) : geD (.str [a]) (.str [b]) = some (.bl false) := by
  show some (D.bl (decide ([b] ≤ [a]))) = _
  rw [decide_eq_false (List.not_le.mpr (by rw [List.cons_lt_cons_iff]; exact .inl h))]
/-! ### strings of other signs, other values; bounds; order -/
theorem tw_lt {p : Nat → Bool} : ∀ {l : List Nat}, (∃ c ∈ l, p c = false) → (l.takeWhile p).length < l.length
  | [], ⟨_, h, _⟩ => nomatch h
  | x :: l, ⟨c, h, hp⟩ => by
    by_cases hx : p x = true
    · rw [List.takeWhile_cons_of_pos hx, List.length_cons, List.length_cons]
      rcases List.mem_cons.mp h with rfl | h
      · rw [hx] at hp; cases hp
      · have := tw_lt (p := p) ⟨c, h, hp⟩
        omega
    · rw [List.takeWhile_cons_of_neg hx, List.length_cons, List.length_nil]
      omega
theorem stripL_some {a b : List Nat} (h : ∃ c ∈ a, c ∉ b) : stripL a b ≠ [] := by
  obtain ⟨c, hc, hb⟩ := h
  have e : Txt.stripChars (mkS a) (mkS b) = W.stripped (mkS b).cps.contains true true (mkS a) := PySem.W.stripBy_eq _ _ _ _
  show (Txt.stripChars (mkS a) (mkS b)).cps.toList ≠ []
  rw [e]
  have hp : (mkS b).cps.contains c = false := by
    rw [Bool.eq_false_iff]
    intro h
    rw [Array.contains_iff_mem, Array.mem_toList_iff.symm] at h
    exact hb h
  generalize (mkS b).cps.contains = p at hp
  show ((mkS a).cps.extract (a.takeWhile p).length ((mkS a).length - ((a.drop (a.takeWhile p).length).reverse.takeWhile p).length)).toList ≠ []
  rw [Array.toList_extract, mkS_len]
  have hd : c ∈ a.drop (a.takeWhile p).length := by
    have h1 : c ∈ a.takeWhile p ++ a.dropWhile p := by rw [List.takeWhile_append_dropWhile]; exact hc
    have h2 : a.drop (a.takeWhile p).length = a.dropWhile p := by
      have := congrArg (List.drop (a.takeWhile p).length) (List.takeWhile_append_dropWhile (p := p) (l := a))
      rw [List.drop_left] at this
      exact this.symm
    rw [h2]
    rcases List.mem_append.mp h1 with h1 | h1
    · have := List.all_takeWhile (p := p) (l := a)
      rw [List.all_eq_true] at this
      rw [this c h1] at hp
      cases hp
    · exact h1
  have h1 := tw_lt (p := p) (l := a) ⟨c, hc, hp⟩
  have h2 := tw_lt (p := p) (l := (a.drop (a.takeWhile p).length).reverse) ⟨c, List.mem_reverse.mpr hd, hp⟩
  rw [List.length_reverse, List.length_drop] at h2
  show (a.drop (a.takeWhile p).length).take _ ≠ []
  intro h
  have := congrArg List.length h
  rw [List.length_take, List.length_drop, List.length_nil] at this
  omega
theorem kit_ns : kitB "NoneType" "str" = some false := by decide +kernel
theorem kit_bs : kitB "bool" "str" = some false := by decide +kernel
theorem kit_is' : kitB "int" "str" = some false := by decide +kernel
theorem kit_ls : kitB "list" "str" = some false := by decide +kernel
theorem kit_ts : kitB "tuple" "str" = some false := by decide +kernel
theorem kit_ds : kitB "dict" "str" = some false := by decide +kernel
theorem isi_str : ∀ {d : D}, isStr d = false → isTy d = false → isiD [d, .ty "str"] = some (.bl false)
  | .non, _, _ => ev_isi rfl kit_ns
  | .bl _, _, _ => ev_isi rfl kit_bs
  | .int _, _, _ => ev_isi rfl kit_is'
  | .lst _, _, _ => ev_isi rfl kit_ls
  | .fls _, _, _ => ev_isi rfl kit_ls
  | .tup _, _, _ => ev_isi rfl kit_ts
  | .dct _ _, _, _ => ev_isi rfl kit_ds
  | .dtt _ _, _, h => nomatch h
  | .obj _ _ _, _, h => nomatch h
  | .cls _, _, h => nomatch h
  | .str _, h, _ => nomatch h
  | .ty _, _, h => nomatch h
/-- no text of these signs -/
def Odd (k : List Nat) (d : D) : Prop := (isStr d = false ∧ isTy d = false) ∨ ∃ s, d = .str s ∧ s.length ≤ 1000 ∧ ∃ c ∈ s, c ∉ k
theorem is_string_F {k : List Nat} {d : D} (h : Odd k d) : F_is_string_of [d, .str k] = some (.bl false, []) := by
  refine Ret.is (wp_is_string_of ?_)
  unfold b_is_string_of
  rcases h with ⟨h, h2⟩ | ⟨s, rfl, hl, hs⟩
  · walk_at "vc"
    refine op_is (isi_str h h2) ?_
    walk_at "vc"
  · walk_at "vc"
    rw [decide_eq_false (stripL_some hs)]
    exact ⟨rfl, rfl⟩
theorem alone_F {d : D} (h : Odd k_LETTERS d) : F_is_letters_alone [d] = some (.bl false, []) := by
  have := is_string_F h
  refine Ret.is (wp_is_letters_alone ?_)
  unfold b_is_letters_alone
  walk_at "vc"
theorem is_whole_ok (i : Int) : F_is_whole [.int i] = some (.bl true, []) := by
  refine Ret.is (wp_is_whole ?_)
  unfold b_is_whole
  walk_at "vc"
/-- a bound that may be None -/
def Lo (d : D) (i : Int) : Prop := d = .non ∨ ∃ a, d = .int a ∧ a ≤ i
def Hi (d : D) (i : Int) : Prop := d = .non ∨ ∃ a, d = .int a ∧ i ≤ a
theorem is_between_ok {i : Int} {lo hi : D} (hl : Lo lo i) (hh : Hi hi i) : F_is_between [.int i, lo, hi] = some (.bl true, []) := by
  have h1 := is_whole_ok i
  refine Ret.is (wp_is_between ?_)
  unfold b_is_between
  rcases hl with rfl | ⟨a, rfl, ha⟩ <;> rcases hh with rfl | ⟨b, rfl, hb⟩ <;> (walk_at "vc"; try simp [*])
theorem check_number_ok {i : Int} {lo hi : D} (hl : Lo lo i) (hh : Hi hi i) : F_check_number [.int i, lo, hi] = some (.non, []) := by
  have h1 := is_between_ok hl hh
  refine Ret.is (wp_check_number ?_)
  unfold b_check_number
  walk_at "vc"
theorem az_lt {s : List Nat} (h : Az s) : ∀ c ∈ s, c < 1114112 := fun c hc => by
  have : ∀ d ∈ k_LETTERS, d < 1114112 := by decide
  exact this c (h c hc)

/-! ### the law's draws, for the walk backwards -/
theorem random_w {k : Nat} {g : D} {n : Int} {P : D → List D → Prop} (hg : GOk k g) (hk : k ≤ 900000000) (hn : 0 < n) (hn2 : n.natAbs < 2 ^ 3000) (h : ∀ (r : Nat) (g' : D), (r : Int) < n → GOk (k + 101) g' → P (.int (r : Int)) [g']) : Ret (F_l_random [g, .int n]) P := by
  obtain ⟨r1, r2, r3, r4⟩ := random_ok hg hk hn hn2
  obtain ⟨r, hr⟩ := Int.eq_ofNat_of_zero_le r2
  rw [hr] at r1 r3
  exact ⟨_, _, r1, h r _ r3 r4⟩
theorem generator_w {ns : List Int} {k : Nat} {P : D → List D → Prop} (hk : k ≤ 1000) (h : ∀ g, GOk (1000 * k) g → P g []) : Ret (F_l_generator [.fls (ns.map .int), .int (k : Int)]) P := by
  obtain ⟨g, h1, h2⟩ := generator_ok ns k hk
  exact ⟨_, _, h1, h g h2⟩
/-! ### repr of data: when it has a text -/
mutual
theorem short_of : ∀ d : D, okD d = true → (py d).showable = true → (py d).leavesShort 1921 = true
  | .non, _, _ => by unfold py PyData.leavesShort; rfl
  | .bl _, _, _ => by unfold py PyData.leavesShort; rfl
  | .int i, _, h => by
    unfold py PyData.showable at h
    unfold py PyData.leavesShort
    rw [decide_eq_true_eq]
    rw [PyData.shown_int]
    exact int_text_len_1921 (of_decide_eq_true h)
  | .str s, h, _ => by
    unfold okD at h
    unfold py PyData.leavesShort
    rw [List.all_eq_true] at h ⊢
    intro c hc
    have := of_decide_eq_true (h c hc)
    exact decide_eq_true (by omega)
  | .ty _, h, _ => by unfold okD at h; cases h
  | .dct _ _, h, _ => by unfold okD at h; cases h
  | .dtt _ _, h, _ => by unfold okD at h; cases h
  | .obj _ _ _, h, _ => by unfold okD at h; cases h
  | .cls _, h, _ => by unfold okD at h; cases h
  | .lst ds, h, h2 => by
    unfold okD at h
    unfold py PyData.showable at h2
    unfold py PyData.leavesShort
    exact shorts_of ds h h2
  | .fls ds, h, h2 => by
    unfold okD at h
    unfold py PyData.showable at h2
    unfold py PyData.leavesShort
    exact shorts_of ds h h2
  | .tup ds, h, h2 => by
    unfold okD at h
    unfold py PyData.showable at h2
    unfold py PyData.leavesShort
    exact shorts_of ds h h2
theorem shorts_of : ∀ ds : List D, okDs ds = true → PyData.showableAll (pys ds) = true → PyData.leavesShortAll 1921 (pys ds) = true
  | [], _, _ => by unfold pys PyData.leavesShortAll; rfl
  | d :: ds, h, h2 => by
    unfold okDs at h
    unfold pys PyData.showableAll at h2
    unfold pys PyData.leavesShortAll
    rw [Bool.and_eq_true] at h h2 ⊢
    exact ⟨short_of d h.1 h2.1, shorts_of ds h.2 h2.2⟩
end
/-- data whose text is short enough -/
structure Wr (n : Nat) (d : D) : Prop where
  ok : okD d = true
  dep : dep d ≤ 64
  sh : (py d).showable = true
  bulk : (py d).bulk ≤ n
theorem Wr.repr {n : Nat} {d : D} (h : Wr n d) (hn : n ≤ 8000) : reprO d = some (.str (py d).shown.cps.toList) := by
  unfold reprO
  have h1 : shp d = true := Sh.shp ⟨h.ok, h.dep⟩ (Nat.le_refl _)
  have h2 : (py d).hasDict = false := PyData.hasDict_of_canLay (py d) (lay_py d h.ok).1
  have h3 := PyData.shown_le_bulk 1921 (by decide) (py d) (short_of d h.ok h.sh)
  have h4 := h.bulk
  have h5 : (1921 + 2) * (py d).bulk ≤ 1923 * 8000 := Nat.mul_le_mul_left _ (Nat.le_trans h4 hn)
  have h6 : lim (py d).shown.length = true := lim_of (by omega)
  rw [h1, h2, h.sh, h6]
  rfl

/-! ### draws of the later laws: letters, sizes, texts -/
theorem size_w {k : Nat} {g : D} {lo hi : Int} {P : D → List D → Prop} (hg : GOk k g) (hk : k ≤ 800000000) (h0 : 0 ≤ lo) (h1 : lo ≤ hi) (h2 : hi ≤ 1000) (h : ∀ (r : Nat) (g' : D), lo ≤ (r : Int) → (r : Int) ≤ hi → GOk (k + 101) g' → P (.int (r : Int)) [g']) : Ret (F_l_size [g, .int lo, .int hi]) P := by
  refine wp_l_size ?_
  unfold b_l_size
  walk_at "vc"
  refine random_w hg (by omega) (by omega) (by omega) fun r g' hr hg' => ?_
  walk_at "vc"
  have e : lo + (r : Int) = ((lo.toNat + r : Nat) : Int) := by omega
  rw [e]
  exact h _ g' (by omega) (by omega) hg'
/-- letters of an alphabet drawn by popping -/
theorem erase_perm : ∀ {l : List Nat} {r : Nat} (hr : r < l.length), (l[r] :: l.eraseIdx r).Perm l
  | [], _, h => absurd h (Nat.not_lt_zero _)
  | x :: l, 0, _ => List.Perm.refl _
  | x :: l, r + 1, h => by
    have h : r < l.length := Nat.lt_of_succ_lt_succ h
    exact (List.Perm.swap x l[r] (l.eraseIdx r)).trans ((erase_perm h).cons x)
theorem erase_map {A B : Type} (f : A → B) : ∀ (l : List A) (r : Nat), (l.map f).eraseIdx r = (l.eraseIdx r).map f
  | [], _ => rfl
  | x :: l, 0 => rfl
  | x :: l, r + 1 => by
    show f x :: (l.map f).eraseIdx r = _
    rw [erase_map f l r]
    rfl
theorem pop_perm {left ps : List Nat} {r : Nat} (hr : r < left.length) : (left.eraseIdx r ++ (ps ++ [left[r]])).Perm (left ++ ps) := by
  have h1 : (left[r] :: left.eraseIdx r).Perm left := erase_perm hr
  refine (List.perm_append_comm.append_left _).trans ?_
  show (left.eraseIdx r ++ (left[r] :: ps)).Perm (left ++ ps)
  refine List.perm_middle.trans ?_
  show ((left[r] :: left.eraseIdx r) ++ ps).Perm (left ++ ps)
  exact h1.append_right ps
theorem popAt_map {A : Type} {e : Lvs} {i : Nat} {p : Bool} {f : A → D} {left : List A} {r : Nat} {R : D → Lvs → Prop} (h1 : e[i]? = some (.own p (.lst (left.map f)))) (h2 : r < left.length) (h3 : left.length ≤ 16777216) (h : Put e i (.own p (.lst ((left.eraseIdx r).map f))) (R (f left[r]))) : PopAt e i (r : Int) R := by
  have hl : (left.map f).length = left.length := List.length_map f
  refine popAt_is h1 (by omega) (by omega) (by omega) fun hk => ?_
  show Put e i (.own p (.lst ((left.map f).eraseIdx r))) (R ((left.map f)[r]'(by omega)))
  rw [erase_map, List.getElem_map]
  exact h
theorem leJ_sign (a b : Nat) : leJ (.str [a]) (.str [b]) = decide (a ≤ b) := by
  rw [leJ_str]
  refine decide_eq_decide.mpr ?_
  rw [← List.not_lt]
  constructor
  · intro h
    refine Nat.le_of_not_lt fun c => h ?_
    exact List.Lex.rel c
  · intro h c
    cases c with
    | rel c => exact absurd h (Nat.not_le_of_lt c)
    | cons c => cases c
theorem srt_signs {ps : List Nat} (h : ∀ c ∈ ps, c < 1114112) : srtJ (.lst (ps.map fun c => .str [c])) = some (.lst ((ps.mergeSort fun a b => decide (a ≤ b)).map fun c => .str [c])) := by
  have h1 : canJ (ps.map fun c => D.str [c]) = true := canJ_map (fun s hs => by
      unfold okD
      rw [List.all_eq_true]
      intro c hc
      rw [List.mem_singleton] at hc
      rw [hc]
      exact decide_eq_true (h s hs)) (fun s _ => by unfold dep; decide) (fun s _ t _ => by unfold py PySem.W.alike; rfl) (.inr fun s _ => rfl)
  show (if canJ (ps.map fun c => D.str [c]) = true then some (D.lst (sortJ (ps.map fun c => D.str [c]))) else none) = _
  rw [if_pos h1, merge_map leJ_sign]
theorem merge_lt {ps : List Nat} (h : ps.Nodup) : (ps.mergeSort fun a b => decide (a ≤ b)).Pairwise (· < ·) := by
  have h1 := List.pairwise_mergeSort (le := fun a b => decide (a ≤ b)) (fun a b c => by simpa using Nat.le_trans) (fun a b => by simpa using Nat.le_total a b) ps
  have h2 : (ps.mergeSort fun a b => decide (a ≤ b)).Nodup := (List.mergeSort_perm ps _).nodup_iff.mpr h
  refine (h1.and h2).imp fun {a b} ⟨x, y⟩ => ?_
  have x : a ≤ b := of_decide_eq_true x
  exact Nat.lt_of_le_of_ne x y
theorem letters_w {k : Nat} {g : D} {lo hi : Int} {P : D → List D → Prop} (hg : GOk k g) (hk : k ≤ 700000000) (h0 : 0 ≤ lo) (h1 : lo ≤ hi) (h2 : hi ≤ 20) (h : ∀ (L : List Nat) (g' : D), Az L → L.Pairwise (· < ·) → lo ≤ (L.length : Int) → (L.length : Int) ≤ hi → GOk (k + 3000) g' → P (.str L) [g']) : Ret (F_l_letters [g, .int lo, .int hi]) P := by
  refine wp_l_letters ?_
  unfold b_l_letters
  walk_at "vc"
  refine size_w hg (by omega) h0 h1 (by omega) fun m g1 hm1 hm2 hg1 => ?_
  walk_at "vc"
  rw [show (List.map (fun c => D.str [c]) [97, 98, 99, 100, 101, 102, 103, 104, 105, 106, 107, 108, 109, 110, 111, 112, 113, 114, 115, 116, 117, 118, 119, 120, 121, 122]) = k_LETTERS.map fun c => D.str [c] from rfl]
  refine comp_rn (fun j acc e => ∃ (left ps : List Nat) (g' : D), e = [.own true g', .val (.int lo), .val (.int hi), .own false (.lst (left.map fun c => .str [c])), .val (.int (m : Int)), .no] ∧ acc = ps.map (fun c => .str [c]) ∧ (left ++ ps).Nodup ∧ (∀ c ∈ left ++ ps, c ∈ k_LETTERS) ∧ left.length + j = 26 ∧ ps.length = j ∧ GOk (k + 101 + 101 * j) g') (by omega) ⟨k_LETTERS, [], g1, rfl, rfl, by decide, by simp, rfl, rfl, hg1⟩ ?_ ?_
  · rintro j hj acc e ⟨left, ps, g2, rfl, rfl, hn, hz, hl, hp, hg2⟩
    walk_at "vc"
    refine random_w hg2 (by omega) (by rw [List.length_map]; omega) (by rw [List.length_map]; omega) fun r g3 hr hg3 => ?_
    rw [List.length_map] at hr
    walk_at "vc"
    simp only [List.set_cons_zero]
    have hr2 : r < left.length := by omega
    refine popAt_map rfl hr2 (by omega) ?_
    have hp2 := pop_perm (ps := ps) hr2
    walk_at "vc"
    refine ⟨left.eraseIdx r, ps ++ [left[r]], g3, rfl, by rw [List.map_append]; rfl, hp2.nodup_iff.mpr hn, fun c hc => hz c (hp2.mem_iff.mp hc), by rw [List.length_eraseIdx_of_lt hr2]; omega, by rw [List.length_append, hp]; rfl, hg3.mono (by omega)⟩
  · rintro acc e ⟨left, ps, g2, rfl, rfl, hn, hz, hl, hp, hg2⟩
    have hn2 : ps.Nodup := (List.nodup_append.mp hn).2.1
    have hA : Az ps := fun c hc => hz c (List.mem_append_right _ hc)
    have hp3 := List.mergeSort_perm ps fun a b => decide (a ≤ b)
    have hlen : (ps.mergeSort fun a b => decide (a ≤ b)).length = m := by rw [hp3.length_eq, hp]
    have hA2 : Az (ps.mergeSort fun a b => decide (a ≤ b)) := fun c hc => hA c (hp3.mem_iff.mp hc)
    have hlt := merge_lt hn2
    walk_at "vc"
    refine op_is (srt_signs (az_lt hA)) ?_
    generalize (ps.mergeSort fun a b => decide (a ≤ b)) = L at hlen hA2 hlt ⊢
    walk_at "vc"
    refine op_is (ev_join1 (by omega)) ?_
    walk_at "vc"
    exact h L g2 hA2 hlt (by omega) (by omega) (hg2.mono (by omega))

/-! ### ranks, in plain -/
/-- R: a text turned about; the least length of a word read in the text that is not with the letter o behind it -/
def mR : List Nat → Nat → Nat
  | [], _ => 0
  | a :: R, o => if o = a then mR R a + 1 else min (mR R o) (mR R a + 1)
theorem mR_eq (a o : Nat) (R : List Nat) : mR (a :: R) o = if o = a then mR R a + 1 else min (mR R o) (mR R a + 1) := rfl
theorem mR_same (a : Nat) (R : List Nat) : mR (a :: R) a = mR R a + 1 := by rw [mR_eq, if_pos rfl]
theorem mR_ne {a o : Nat} (R : List Nat) (h : ¬ o = a) : mR (a :: R) o = min (mR R o) (mR R a + 1) := by rw [mR_eq, if_neg h]
theorem mR_0 : ∀ {R : List Nat} {o : Nat}, o ∉ R → mR R o = 0
  | [], _, _ => rfl
  | a :: R, o, h => by
    rw [mR_ne R fun (z : o = a) => h (by rw [z]; exact List.mem_cons_self), mR_0 fun z => h (List.mem_cons_of_mem _ z)]
    exact Nat.zero_min _
theorem mR_le : ∀ (R : List Nat) (o : Nat), mR R o ≤ R.length
  | [], _ => Nat.le_refl _
  | a :: R, o => by
    have h1 := mR_le R a
    have h2 := mR_le R o
    rw [List.length_cons]
    by_cases c : o = a
    · rw [c, mR_same]; omega
    · rw [mR_ne R c]; omega
/-- turned about: no word that is read, but not with o ahead, is shorter -/
theorem mR_least : ∀ (R : List Nat) (o : Nat) (w : List Nat), w.Sublist R → ¬ (o :: w).Sublist R → mR R o ≤ w.length
  | [], _, _, _, _ => Nat.zero_le _
  | a :: R, o, w, h, hn => by
    by_cases c : o = a
    · subst c
      rw [mR_same]
      -- w is not read in R
      have hw : ¬ w.Sublist R := fun z => hn (z.cons_cons o)
      cases h with
      | cons _ h => exact absurd h hw
      | cons_cons _ h => exact Nat.succ_le_succ (mR_least R o _ h hw)
    · rw [mR_ne R c]
      have hn2 : ¬ (o :: w).Sublist R := fun z => hn (z.cons a)
      by_cases hw : w.Sublist R
      · exact Nat.le_trans (Nat.min_le_left _ _) (mR_least R o w hw hn2)
      · refine Nat.le_trans (Nat.min_le_right _ _) ?_
        cases h with
        | cons _ h => exact absurd h hw
        | cons_cons _ h => exact Nat.succ_le_succ (mR_least R a _ h hw)
theorem mR_word : ∀ (R : List Nat) (o : Nat), ∃ w : List Nat, w.length = mR R o ∧ w.Sublist R ∧ ¬ (o :: w).Sublist R
  | [], o => ⟨[], rfl, List.Sublist.refl _, fun h => by cases h⟩
  | a :: R, o => by
    by_cases c : o = a
    · subst c
      obtain ⟨w, h1, h2, h3⟩ := mR_word R o
      refine ⟨o :: w, by rw [mR_same, List.length_cons, h1], h2.cons_cons o, fun h => ?_⟩
      cases h with
      | cons _ h => exact h3 ((List.sublist_cons_self o (o :: w)).trans h)
      | cons_cons _ h => exact h3 h
    · by_cases hm : mR R o ≤ mR R a + 1
      · obtain ⟨w, h1, h2, h3⟩ := mR_word R o
        refine ⟨w, by rw [mR_ne R c, h1, Nat.min_eq_left hm], h2.cons a, fun h => ?_⟩
        cases h with
        | cons _ h => exact h3 h
        | cons_cons _ h => exact c rfl
      · obtain ⟨w, h1, h2, h3⟩ := mR_word R a
        refine ⟨a :: w, by rw [mR_ne R c, List.length_cons, h1, Nat.min_eq_right (by omega)], h2.cons_cons a, fun h => ?_⟩
        cases h with
        | cons _ h => exact h3 ((List.sublist_cons_self o (a :: w)).trans h)
        | cons_cons _ h => exact c rfl
/-- the words that want the letter a between A and B -/
theorem wants_letter (A B : List Nat) (a d : Nat) : (∀ w : List Nat, w.length ≤ d → w.Sublist (A ++ a :: B) → w.Sublist (A ++ B)) ↔ d + 1 < (mR A.reverse a + 1) + (mR B a + 1) := by
  constructor
  · intro h
    refine Nat.lt_of_not_le fun hle => ?_
    obtain ⟨u, u1, u2, u3⟩ := mR_word A.reverse a
    obtain ⟨v, v1, v2, v3⟩ := mR_word B a
    have u2' : u.reverse.Sublist A := by have := u2.reverse; rwa [List.reverse_reverse] at this
    have u3' : ¬ (u.reverse ++ [a]).Sublist A := fun z => u3 (by
      have := z.reverse
      rwa [List.reverse_append, List.reverse_reverse] at this)
    have := h (u.reverse ++ a :: v) (by rw [List.length_append, List.length_reverse, List.length_cons]; omega) (u2'.append (v2.cons_cons a))
    obtain ⟨x, y, e, hx, hy⟩ := List.sublist_append_iff.mp this
    rcases List.append_eq_append_iff.mp e with ⟨z, e1, e2⟩ | ⟨z, e1, e2⟩
    · -- x = u.reverse ++ z, a :: v = z ++ y
      cases z with
      | nil =>
        rw [List.nil_append] at e2
        exact v3 (e2 ▸ hy)
      | cons b z =>
        rw [List.cons_append] at e2
        injection e2 with e3 e4
        subst e3
        refine u3' (List.Sublist.trans ?_ hx)
        rw [e1]
        exact (List.Sublist.refl _).append (by
          show ([a] : List Nat).Sublist (a :: z)
          exact (List.nil_sublist z).cons_cons a)
    · -- u.reverse = x ++ z, y = z ++ a :: v
      refine v3 (List.Sublist.trans ?_ hy)
      rw [e2]
      exact List.sublist_append_right z (a :: v)
  · intro h w hw hs
    refine Classical.byContradiction fun hn => ?_
    obtain ⟨x, y, e, hx, hy⟩ := List.sublist_append_iff.mp hs
    subst e
    cases hy with
    | cons _ hy => exact hn (hx.append hy)
    | cons_cons _ hy =>
      rename_i v
      have l1 : mR B a ≤ v.length := mR_least B a v hy fun z => hn (hx.append z)
      have l2 : mR A.reverse a ≤ x.reverse.length := mR_least A.reverse a x.reverse hx.reverse fun z => hn (by
        have := z.reverse
        rw [List.reverse_reverse, List.reverse_cons, List.reverse_reverse] at this
        have := this.append hy
        rwa [List.append_assoc] at this)
      rw [List.length_reverse] at l2
      rw [List.length_append, List.length_cons] at hw
      omega
/-- the first ranks -/
def rks : List Nat → List Nat → List Nat
  | _, [] => []
  | R, a :: t => (mR R a + 1) :: rks (a :: R) t
theorem rks_len : ∀ (t R : List Nat), (rks R t).length = t.length
  | [], _ => rfl
  | a :: t, R => congrArg Nat.succ (rks_len t (a :: R))
theorem rks_at : ∀ (t R : List Nat) (p a : Nat), t[p]? = some a → (rks R t)[p]? = some (mR ((t.take p).reverse ++ R) a + 1)
  | [], _, _, _, h => by simp at h
  | b :: t, R, 0, a, h => by
    have h : b = a := by simpa using h
    subst h
    rfl
  | b :: t, R, p + 1, a, h => by
    have h : t[p]? = some a := by simpa using h
    have := rks_at t (b :: R) p a h
    show (rks (b :: R) t)[p]? = _
    rw [this, List.take_succ_cons, List.reverse_cons, List.append_assoc]
    rfl
theorem rks_app : ∀ (s t R : List Nat), rks R (s ++ t) = rks R s ++ rks (s.reverse ++ R) t
  | [], _, _ => rfl
  | a :: s, t, R => by
    show (mR R a + 1) :: rks (a :: R) (s ++ t) = _
    rw [rks_app s t (a :: R), List.reverse_cons, List.append_assoc]
    rfl

/-! ### the table of letters; first ranks -/
def ky (c : Nat) : KD := .inr [c]
def ad (cs : List Nat) (a : Nat) : List Nat := if a ∈ cs then cs else cs ++ [a]
theorem ad_mem {cs : List Nat} {a c : Nat} : c ∈ ad cs a ↔ c = a ∨ c ∈ cs := by
  unfold ad
  by_cases h : a ∈ cs
  · rw [if_pos h]
    exact ⟨.inr, fun z => z.elim (fun z => z ▸ h) id⟩
  · rw [if_neg h, List.mem_append, List.mem_singleton]
    exact Or.comm
theorem ad_nodup {cs : List Nat} {a : Nat} (h : cs.Nodup) : (ad cs a).Nodup := by
  unfold ad
  by_cases c : a ∈ cs
  · rw [if_pos c]; exact h
  · rw [if_neg c]
    refine List.nodup_append.mpr ⟨h, List.pairwise_singleton _ _, fun x hx y hy z => ?_⟩
    rw [List.mem_singleton] at hy
    exact c (hy ▸ z ▸ hx)
theorem ad_len (cs : List Nat) (a : Nat) : (ad cs a).length ≤ cs.length + 1 := by
  unfold ad
  by_cases c : a ∈ cs
  · rw [if_pos c]; omega
  · rw [if_neg c, List.length_append]; exact Nat.le_refl _
theorem ky_inj {a b : Nat} : ky a = .inr [b] ↔ a = b := by
  unfold ky
  constructor
  · intro h
    injection h with h
    injection h
  · rintro rfl; rfl
theorem tb_zip (cs : List Nat) (g : Nat → D) : (cs.map ky).zip (cs.map g) = cs.map fun c => (ky c, g c) := List.zip_map'
theorem tb_get (g : Nat → D) (a : Nat) : ∀ cs : List Nat, getK (cs.map fun c => (ky c, g c)) (.inr [a]) = if a ∈ cs then some (g a) else none
  | [] => rfl
  | c :: cs => by
    rw [List.map_cons]
    by_cases h : c = a
    · rw [getK_pos (p := (ky c, g c)) (ky_inj.mpr h), if_pos (by rw [h]; exact List.mem_cons_self), h]
    · rw [getK_neg (p := (ky c, g c)) (fun z => h (ky_inj.mp z)), tb_get g a cs]
      by_cases h2 : a ∈ cs
      · rw [if_pos h2, if_pos (List.mem_cons_of_mem _ h2)]
      · rw [if_neg h2, if_neg fun z => (List.mem_cons.mp z).elim (fun z => h z.symm) h2]
theorem tb_put (g : Nat → D) (cs : List Nat) (a : Nat) (x : D) : putM (cs.map fun c => (ky c, g c)) (.inr [a]) x = (ad cs a).map fun c => (ky c, if c = a then x else g c) := by
  unfold putM ad
  rw [getK_has, tb_get]
  by_cases h : a ∈ cs
  · rw [if_pos h, if_pos h, Option.isSome_some, if_pos rfl, List.map_map]
    refine List.map_congr_left fun c _ => ?_
    show (if ky c = .inr [a] then (ky c, x) else (ky c, g c)) = _
    by_cases z : c = a
    · rw [if_pos (ky_inj.mpr z), if_pos z]
    · rw [if_neg (fun q => z (ky_inj.mp q)), if_neg z]
  · rw [if_neg h, if_neg h, Option.isSome_none, if_neg Bool.false_ne_true, List.map_append]
    refine congr (congrArg HAppend.hAppend (List.map_congr_left fun c hc => ?_)) ?_
    · rw [if_neg fun (z : c = a) => h (z ▸ hc)]
    · show _ = [(ky a, if a = a then x else g a)]
      rw [if_pos rfl]
      rfl
theorem tb_dct (g : Nat → D) (cs : List Nat) : dctM (cs.map fun c => (ky c, g c)) = .dct (cs.map ky) (cs.map g) := by
  unfold dctM
  rw [List.map_map, List.map_map]
  rfl
theorem min_nat (a b : Nat) : minA [.int (a : Nat), .int ((b : Nat) + 1)] = some (.int (min a (b + 1) : Nat)) := by
  show some (D.int (if ((b : Nat) : Int) + 1 < (a : Nat) then ((b : Nat) : Int) + 1 else (a : Nat))) = _
  by_cases h : b + 1 < a
  · rw [if_pos (by omega), Nat.min_eq_right (by omega)]; rfl
  · rw [if_neg (by omega), Nat.min_eq_left (by omega)]
theorem mR_step {cs R : List Nat} {a : Nat} : ((ad cs a).map fun c => if c = a then D.int (mR R a + 1 : Nat) else D.int (min (mR R c) (mR R a + 1) : Nat)) = (ad cs a).map fun c => .int (mR (a :: R) c : Nat) := List.map_congr_left fun c _ => by
  rw [mR_eq]
  by_cases z : c = a
  · rw [if_pos z, if_pos z]
  · rw [if_neg z, if_neg z]
theorem rks_snoc (t R : List Nat) (a : Nat) : rks R (t ++ [a]) = rks R t ++ [mR (t.reverse ++ R) a + 1] := by rw [rks_app]; rfl
theorem ranks_ahead_ok {t : List Nat} (ht : t.length ≤ 1000) : F_ranks_ahead [.str t] = some (.lst ((rks [] t).map fun n => .int (n : Nat)), []) := by
  refine Ret.is (wp_ranks_ahead ?_)
  unfold b_ranks_ahead
  walk_at "vc"
  refine loop_map (xs := t) (E := fun c => .str [c]) (fun j e => ∃ (cs : List Nat) (v3 v4 : Lv), e = [.val (.str t), .own false (.dct (cs.map ky) (cs.map fun c => .int (mR (t.take j).reverse c : Nat))), .own false (.lst ((rks [] (t.take j)).map fun n => .int (n : Nat))), v3, v4, .no] ∧ cs.Nodup ∧ cs.length ≤ j ∧ ∀ c, c ∈ cs ↔ c ∈ (t.take j).reverse) ⟨[], .no, .no, rfl, List.nodup_nil, Nat.le_refl _, fun c => by simp⟩ ?_ ?_
  · rintro j hj e ⟨cs, v3, v4, rfl, hn, hl, hm⟩
    have hR : (t.take (j + 1)).reverse = t[j] :: (t.take j).reverse := by
      rw [List.take_add_one, List.getElem?_eq_getElem hj, Option.toList_some, List.reverse_append]
      rfl
    have hS : rks [] (t.take (j + 1)) = rks [] (t.take j) ++ [mR (t.take j).reverse t[j] + 1] := by
      rw [List.take_add_one, List.getElem?_eq_getElem hj, Option.toList_some, rks_snoc, List.append_nil]
    rw [hR, hS]
    have hrl : (rks [] (t.take j)).length ≤ 1000 := by
      rw [rks_len, List.length_take]
      omega
    generalize (t.take j).reverse = R at hm ⊢
    generalize rks [] (t.take j) = S at hrl ⊢
    generalize t[j] = a
    walk_at "vc"
    rw [tb_zip, tb_get]
    have hg : (if a ∈ cs then some (D.int (mR R a : Nat)) else none).getD (D.int 0) = .int (mR R a : Nat) := by
      by_cases h : a ∈ cs
      · rw [if_pos h]; rfl
      · rw [if_neg h, mR_0 fun z => h ((hm a).mpr z)]; rfl
    rw [hg]
    walk_at "vc"
    rw [List.map_map]
    refine dcomp_pure (fun _ => true) ky (fun c => .int (min (mR R c) (mR R a + 1) : Nat)) (by omega) (fun c hc => ?_) ?_
    · show Tg (gN 5) (.str [c]) _ _
      walk_at "vc"
      rw [tb_zip, tb_get, if_pos hc]
      walk_at "vc"
      refine is_is rfl (is_is (Option.some.inj (min_nat _ _)) ?_)
      walk_at "vc"
    · rw [List.filter_eq_self.mpr fun _ _ => rfl, fold_new cs [] ((List.pairwise_map.mpr (hn.imp fun {x y} h z => h (ky_inj.mp z)))) (fun _ _ h => nomatch h), List.nil_append, tb_dct]
      walk_at "vc"
      refine putK_is rfl (lim_of (by rw [List.length_zip, List.length_map, List.length_map]; omega)) ?_
      rw [tb_zip, tb_put, tb_dct, show (D.int ((mR R a : Int) + 1)) = D.int (mR R a + 1 : Nat) from rfl, mR_step]
      walk_at "vc"
      have hl2 := ad_len cs a
      exact ⟨ad cs a, _, _, by rw [List.map_append]; rfl, ad_nodup hn, by omega, fun c => by rw [ad_mem, List.mem_cons, hm c]⟩
  · rintro e ⟨cs, v3, v4, rfl, hn, hl, hm⟩
    walk_at "vc"
    rw [List.take_length]
    exact ⟨rfl, rfl⟩

/-- the ranks of all places -/
def prs (t : List Nat) : List (Nat × Nat) := (rks [] t).zip (rks [] t.reverse).reverse
def ofP (p : Nat × Nat) : D := .tup [.int (p.1 : Nat), .int (p.2 : Nat)]
theorem prs_len (t : List Nat) : (prs t).length = t.length := by
  unfold prs
  rw [List.length_zip, rks_len, List.length_reverse, rks_len, List.length_reverse, Nat.min_self]
theorem zipD_nat : ∀ xs ys : List Nat, zipD (xs.map fun n => .int (n : Nat)) (ys.map fun n => .int (n : Nat)) = (xs.zip ys).map ofP
  | [], _ => rfl
  | _ :: _, [] => rfl
  | x :: xs, y :: ys => congrArg (D.tup [.int (x : Nat), .int (y : Nat)] :: ·) (zipD_nat xs ys)
theorem ranks_of_ok {t : List Nat} (ht : t.length ≤ 1000) : F_ranks_of [.str t] = some (.lst ((prs t).map ofP), []) := by
  have h1 := ranks_ahead_ok (t := t.reverse) (by rw [List.length_reverse]; exact ht)
  have h2 := ranks_ahead_ok ht
  refine Ret.is (wp_ranks_of ?_)
  unfold b_ranks_of
  walk_at "vc"
  refine op_is (zipS_of (xs := (rks [] t).map fun n => .int (n : Nat)) (ys := ((rks [] t.reverse).map fun n => .int (n : Nat)).reverse) rfl rfl (by rw [List.length_map, List.length_reverse, List.length_map, rks_len, rks_len, List.length_reverse])) ?_
  walk_at "vc"
  rw [← List.map_reverse, zipD_nat]
  show Comp _ _ _ _ ((prs t).map ofP) _ _ _
  refine comp_each (h := ofP) (by rw [prs_len]; omega) (fun p hp => ?_) ?_
  · unfold ofP
    walk_at "vc"
  · walk_at "vc"
theorem ranks_ok {t : List Nat} (hz : Az t) (ht : t.length ≤ 1000) : F_ranks [.str t] = some (.lst ((prs t).map ofP), []) := by
  have h1 := check_text_ok hz ht
  have h2 := ranks_of_ok ht
  refine Ret.is (wp_ranks ?_)
  unfold b_ranks
  walk_at "vc"
theorem check_depth_ok {n : Int} (h : 0 ≤ n) : F_check_depth [.int n] = some (.non, []) := by
  have h1 : F_check_number [.int n, .int 0, .non] = some (.non, []) := check_number_ok (.inr ⟨0, rfl, h⟩) (.inl rfl)
  refine Ret.is (wp_check_depth ?_)
  unfold b_check_depth
  walk_at "vc"
/-- enumerate -/
theorem enum_as {A : Type} (E : A → D) (xs : List A) : enumD (xs.map E) = xs.zipIdx.map fun q => .tup [.int (q.2 : Nat), E q.1] := by
  unfold enumD
  rw [List.mapIdx_eq_zipIdx_map, List.zipIdx_map, List.map_map]
  rfl
theorem zipIdx_range {A : Type} (z : A) (xs : List A) : xs.zipIdx = (List.range xs.length).map fun i => (xs.getD i z, i) := by
  apply List.ext_getElem?
  intro i
  rw [List.getElem?_zipIdx, List.getElem?_map]
  by_cases h : i < xs.length
  · rw [List.getElem?_range h, List.getElem?_eq_getElem h, Nat.zero_add, Option.map_some, Option.map_some, List.getD_eq_getElem?_getD, List.getElem?_eq_getElem h]
    rfl
  · rw [List.getElem?_eq_none (by omega), List.getElem?_eq_none (by rw [List.length_range]; omega)]
    rfl
/-- the places whose letter can go -/
def gos (d : Int) (ps : List (Nat × Nat)) : List Nat := (ps.zipIdx.filter fun q => decide ((q.1.1 : Int) + (q.1.2 : Nat) > d + 1)).map fun q => q.2
theorem gos_range (d : Int) (ps : List (Nat × Nat)) : gos d ps = (List.range ps.length).filter fun i => decide (((ps.getD i (0, 0)).1 : Int) + ((ps.getD i (0, 0)).2 : Nat) > d + 1) := by
  unfold gos
  rw [zipIdx_range (0, 0), List.filter_map, List.map_map]
  exact List.map_id _
def ofN (i : Nat) : D := .int (i : Nat)
theorem can_go_ok {t : List Nat} {d : Int} (hd : 0 ≤ d) (hz : Az t) (ht : t.length ≤ 1000) : F_can_go [.int d, .str t] = some (.lst ((gos d (prs t)).map ofN), []) := by
  have h0 := check_depth_ok hd
  have h1 := check_text_ok hz ht
  have h2 := ranks_of_ok ht
  have hl := prs_len t
  refine Ret.is (wp_can_go ?_)
  unfold b_can_go
  walk_at "vc"
  rw [enum_as]
  refine comp_pure (fun q => decide ((q.1.1 : Int) + (q.1.2 : Nat) > d + 1)) (fun q => .int (q.2 : Nat)) (by rw [List.length_zipIdx]; omega) (fun q hq => ?_) ?_
  · unfold ofP
    walk_at "vc"
    refine br_dec (fun c => ?_) fun c => ?_
    · walk_at "vc"
    · walk_at "vc"
  · unfold gos
    rw [List.map_map]
    walk_at "vc"

/-! ### words read in a text -/
def st1 : List Nat → Nat → List Nat
  | [], _ => []
  | x :: w, c => if x = c then w else x :: w
def gr (w t : List Nat) : List Nat := t.foldl st1 w
theorem gr_nil : ∀ t : List Nat, gr [] t = []
  | [] => rfl
  | _ :: t => gr_nil t
theorem gr_sub : ∀ (t w : List Nat), gr w t = [] ↔ w.Sublist t
  | [], w => by
    show w = [] ↔ _
    rw [List.sublist_nil]
  | c :: t, [] => ⟨fun _ => List.nil_sublist _, fun _ => gr_nil _⟩
  | c :: t, x :: w => by
    show gr (if x = c then w else x :: w) t = [] ↔ _
    by_cases h : x = c
    · rw [if_pos h, gr_sub t w, h, List.cons_sublist_cons]
    · rw [if_neg h, gr_sub t (x :: w)]
      refine ⟨fun z => z.cons c, fun z => ?_⟩
      cases z with
      | cons _ z => exact z
      | cons_cons _ z => exact absurd rfl h
theorem gr_snoc (w t : List Nat) (c : Nat) : gr w (t ++ [c]) = st1 (gr w t) c := by unfold gr; rw [List.foldl_append]; rfl
theorem cut_mid {A : Type} (xs : List A) {k : Nat} (h : k ≤ xs.length) : cut xs (some (k : Int)) (some ((k : Int) + 1)) = (xs.drop k).take 1 := by
  unfold Dv.cut
  rw [HT.sIx_nat, show ((k : Int) + 1) = ((k + 1 : Nat) : Int) from rfl, HT.sIx_nat, Nat.min_eq_left h]
  by_cases c : k + 1 ≤ xs.length
  · rw [Nat.min_eq_left c, Nat.add_sub_cancel_left]
  · rw [Nat.min_eq_right (by omega), List.drop_of_length_le (show xs.length ≤ k by omega), List.take_nil, List.take_nil]
theorem is_read_ok {w t : List Nat} (hw : w.length ≤ 1000) (ht : t.length ≤ 1000) : F_l_is_read [.str w, .str t] = some (.bl (decide (w.Sublist t)), []) := by
  refine Ret.is (wp_l_is_read ?_)
  unfold b_l_is_read
  walk_at "vc"
  refine loop_map (xs := t) (E := fun c => .str [c]) (fun j e => ∃ (k : Nat) (v3 : Lv), e = [.val (.str w), .val (.str t), .val (.int (k : Nat)), v3] ∧ k ≤ w.length ∧ gr w (t.take j) = w.drop k) ⟨0, .no, rfl, Nat.zero_le _, rfl⟩ ?_ ?_
  · rintro j hj e ⟨k, v3, rfl, hk, hg⟩
    have hg2 : gr w (t.take (j + 1)) = st1 (w.drop k) t[j] := by
      rw [List.take_add_one, List.getElem?_eq_getElem hj, Option.toList_some, gr_snoc, hg]
    rw [hg2]
    generalize t[j] = c
    walk_at "vc"
    rw [cut_mid _ hk]
    by_cases h0 : k < w.length
    · rw [List.drop_eq_getElem_cons h0]
      show Br (decide ([w[k]] = [c])) _ _
      refine br_dec (fun h => ?_) fun h => ?_
      · have h : w[k] = c := by injection h
        walk_at "vc"
        refine ⟨k + 1, _, rfl, h0, ?_⟩
        show (if w[k] = c then w.drop (k + 1) else _) = _
        rw [if_pos h]
      · have h : ¬ w[k] = c := fun z => h (by rw [z])
        walk_at "vc"
        refine ⟨k, _, rfl, hk, ?_⟩
        show (if w[k] = c then w.drop (k + 1) else w[k] :: w.drop (k + 1)) = _
        rw [if_neg h, List.drop_eq_getElem_cons h0]
    · rw [List.drop_of_length_le (by omega)]
      show Br (decide (([] : List Nat) = [c])) _ _
      refine br_dec (fun h => nomatch h) fun h => ?_
      walk_at "vc"
      exact ⟨k, _, rfl, hk, by rw [List.drop_of_length_le (by omega)]; rfl⟩
  · rintro e ⟨k, v3, rfl, hk, hg⟩
    rw [List.take_length] at hg
    walk_at "vc"
    refine ⟨congrArg D.bl (decide_eq_decide.mpr ?_), rfl⟩
    rw [← gr_sub, hg, List.drop_eq_nil_iff]
    omega
def Wk : Nat → List (List Nat)
  | 0 => [[]]
  | k + 1 => (Wk k).flatMap fun w => k_LETTERS.map fun c => w ++ [c]
theorem wk_mem : ∀ {k : Nat} {w : List Nat}, w ∈ Wk k ↔ w.length = k ∧ Az w
  | 0, w => by
    show w ∈ [[]] ↔ _
    rw [List.mem_singleton]
    exact ⟨fun h => by rw [h]; exact ⟨rfl, az_nil⟩, fun h => List.eq_nil_of_length_eq_zero h.1⟩
  | k + 1, w => by
    show w ∈ (Wk k).flatMap _ ↔ _
    rw [List.mem_flatMap]
    constructor
    · rintro ⟨v, h1, h2⟩
      obtain ⟨c, h3, rfl⟩ := List.mem_map.mp h2
      obtain ⟨h4, h5⟩ := wk_mem.mp h1
      exact ⟨by rw [List.length_append, h4]; rfl, h5.app fun x hx => by rw [List.mem_singleton] at hx; rw [hx]; exact h3⟩
    · rintro ⟨h1, h2⟩
      have hne : w ≠ [] := fun z => by rw [z] at h1; cases h1
      refine ⟨w.dropLast, wk_mem.mpr ⟨by rw [List.length_dropLast, h1]; rfl, fun c hc => h2 c (List.dropLast_subset _ hc)⟩, List.mem_map.mpr ⟨w.getLast hne, h2 _ (List.getLast_mem hne), List.dropLast_concat_getLast hne⟩⟩
def lv (t : List Nat) (k : Nat) : List (List Nat) := (Wk k).filter fun w => decide (w.Sublist t)
def lets (t : List Nat) : List Nat := k_LETTERS.filter fun c => decide (c ∈ t)
def ext1 (t w : List Nat) : List (List Nat) := ((lets t).filter fun c => decide ((w ++ [c]).Sublist t)).map fun c => w ++ [c]
theorem lv_mem {t w : List Nat} {k : Nat} : w ∈ lv t k ↔ w.length = k ∧ Az w ∧ w.Sublist t := by
  unfold lv
  rw [List.mem_filter, wk_mem, decide_eq_true_iff, and_assoc]
theorem flat_filter {A B : Type} (p : A → Bool) (g : A → List B) : ∀ l : List A, (∀ x ∈ l, p x = false → g x = []) → (l.filter p).flatMap g = l.flatMap g
  | [], _ => rfl
  | x :: l, h => by
    have ih := flat_filter p g l fun y hy => h y (List.mem_cons_of_mem _ hy)
    by_cases c : p x = true
    · rw [List.filter_cons_of_pos c, List.flatMap_cons, List.flatMap_cons, ih]
    · rw [List.filter_cons_of_neg c, List.flatMap_cons, ih, h x List.mem_cons_self (by simpa using c)]
      rfl
theorem filter_flat {A B : Type} (p : B → Bool) (g : A → List B) : ∀ l : List A, (l.flatMap g).filter p = l.flatMap fun x => (g x).filter p
  | [] => rfl
  | x :: l => by rw [List.flatMap_cons, List.flatMap_cons, List.filter_append, filter_flat p g l]
theorem lv_succ (t : List Nat) (k : Nat) : lv t (k + 1) = (lv t k).flatMap (ext1 t) := by
  have h1 : ∀ w, ((k_LETTERS.map fun c => w ++ [c]).filter fun w => decide (w.Sublist t)) = ext1 t w := fun w => by
    unfold ext1 lets
    rw [List.filter_map, List.filter_filter]
    refine congrArg _ (List.filter_congr fun c hc => ?_)
    show decide _ = (decide _ && decide _)
    rw [← Bool.decide_and]
    refine decide_eq_decide.mpr ⟨fun h => ⟨h, ?_⟩, fun h => h.1⟩
    exact h.subset (List.mem_append_right _ (List.mem_singleton_self c))
  show ((Wk k).flatMap _).filter _ = _
  rw [filter_flat]
  simp only [h1]
  unfold lv
  refine (flat_filter _ _ _ fun w _ hw => ?_).symm
  have hw : ¬ w.Sublist t := of_decide_eq_false hw
  unfold ext1
  rw [List.map_eq_nil_iff, List.filter_eq_nil_iff]
  intro c _ h
  exact hw ((List.sublist_append_left w [c]).trans (of_decide_eq_true h))
theorem sub_len {A : Type} [DecidableEq A] : ∀ {l t : List A}, l.Nodup → (∀ x ∈ l, x ∈ t) → l.length ≤ t.length
  | [], _, _, _ => Nat.zero_le _
  | x :: l, t, h, h2 => by
    rw [List.nodup_cons] at h
    have hx := h2 x List.mem_cons_self
    have := sub_len (t := t.erase x) h.2 fun y hy => (List.mem_erase_of_ne (fun (z : y = x) => h.1 (z ▸ hy))).mpr (h2 y (List.mem_cons_of_mem _ hy))
    rw [List.length_erase_of_mem hx] at this
    have := List.length_pos_of_mem hx
    rw [List.length_cons]
    omega
theorem lets_len (t : List Nat) : (lets t).length ≤ t.length := sub_len ((by decide : k_LETTERS.Nodup).filter _) fun c hc => of_decide_eq_true (List.mem_filter.mp hc).2
theorem flat_len {A B : Type} {n : Nat} (g : A → List B) (h : ∀ x, (g x).length ≤ n) : ∀ l : List A, (l.flatMap g).length ≤ l.length * n
  | [] => Nat.zero_le _
  | x :: l => by
    rw [List.flatMap_cons, List.length_append, List.length_cons, Nat.succ_mul]
    have := flat_len g h l
    have := h x
    omega
theorem ext1_len (t w : List Nat) : (ext1 t w).length ≤ t.length := by
  unfold ext1
  rw [List.length_map]
  exact Nat.le_trans (List.length_filter_le _ _) (lets_len t)
theorem lv_len (t : List Nat) : ∀ k, (lv t k).length ≤ t.length ^ k
  | 0 => by unfold lv Wk; exact Nat.le_trans (List.length_filter_le _ _) (Nat.le_refl 1)
  | k + 1 => by
    rw [lv_succ, Nat.pow_succ]
    exact Nat.le_trans (flat_len _ (ext1_len t) _) (Nat.mul_le_mul_right _ (lv_len t k))
theorem lv_zero (t : List Nat) : lv t 0 = [[]] := by
  unfold lv Wk
  exact List.filter_eq_self.mpr fun w hw => by
    rw [List.mem_singleton] at hw
    rw [hw]
    exact decide_eq_true (List.nil_sublist t)
theorem lv_none {t : List Nat} {k : Nat} (h : t.length < k) : lv t k = [] := by
  refine List.eq_nil_iff_forall_not_mem.mpr fun w hw => ?_
  obtain ⟨h1, _, h2⟩ := lv_mem.mp hw
  have := h2.length_le
  omega
/-- all words of at most d letters that are read in t -/
def rd (t : List Nat) (d : Nat) : List (List Nat) := (List.range (d + 1)).flatMap (lv t)
theorem rd_succ (t : List Nat) (d : Nat) : rd t (d + 1) = rd t d ++ lv t (d + 1) := by
  unfold rd
  rw [List.range_succ, List.flatMap_append, List.flatMap_singleton]
theorem rd_zero (t : List Nat) : rd t 0 = [[]] := by
  unfold rd
  show (lv t 0) ++ [] = _
  rw [List.append_nil, lv_zero]
theorem rd_mem {t w : List Nat} {d : Nat} : w ∈ rd t d ↔ w.length ≤ d ∧ Az w ∧ w.Sublist t := by
  unfold rd
  rw [List.mem_flatMap]
  constructor
  · rintro ⟨k, h1, h2⟩
    obtain ⟨h3, h4⟩ := lv_mem.mp h2
    rw [List.mem_range] at h1
    exact ⟨by omega, h4⟩
  · rintro ⟨h1, h2⟩
    exact ⟨w.length, List.mem_range.mpr (by omega), lv_mem.mpr ⟨rfl, h2⟩⟩
theorem rd_long (t : List Nat) : ∀ n, rd t (t.length + n) = rd t t.length
  | 0 => rfl
  | n + 1 => by rw [← Nat.add_assoc, rd_succ, lv_none (by omega), List.append_nil, rd_long t n]
theorem rd_min (t : List Nat) (d : Nat) : rd t (min d t.length) = rd t d := by
  by_cases h : d ≤ t.length
  · rw [Nat.min_eq_left h]
  · rw [Nat.min_eq_right (by omega), show d = t.length + (d - t.length) by omega, rd_long]
theorem rd_len {t : List Nat} (ht : t.length ≤ 7) : ∀ d, d ≤ 7 → (rd t d).length ≤ 8 ^ d
  | 0, _ => by rw [rd_zero]; exact Nat.le_refl 1
  | d + 1, h => by
    rw [rd_succ, List.length_append]
    have h1 := rd_len ht d (by omega)
    have h2 : (lv t (d + 1)).length ≤ 7 ^ (d + 1) := Nat.le_trans (lv_len t (d + 1)) (Nat.pow_le_pow_left ht _)
    have h3 : 7 ^ d ≤ 8 ^ d := Nat.pow_le_pow_left (by omega) _
    rw [Nat.pow_succ] at h2 ⊢
    omega
theorem rd_eq {t s : List Nat} {d : Nat} (hs : Az s) (ht : Az t) : rd t d = rd s d ↔ ∀ w : List Nat, w.length ≤ d → (w.Sublist t ↔ w.Sublist s) := by
  constructor
  · intro h w hw
    constructor
    · intro h1
      exact (rd_mem.mp (h ▸ rd_mem.mpr ⟨hw, fun c hc => ht c (h1.subset hc), h1⟩)).2.2
    · intro h1
      exact (rd_mem.mp (h.symm ▸ rd_mem.mpr ⟨hw, fun c hc => hs c (h1.subset hc), h1⟩)).2.2
  · intro h
    unfold rd
    have : ∀ k ∈ List.range (d + 1), lv t k = lv s k := fun k hk => List.filter_congr fun w hw => decide_eq_decide.mpr (h w (by rw [(wk_mem.mp hw).1]; have := List.mem_range.mp hk; omega))
    rw [List.flatMap_def, List.flatMap_def, List.map_congr_left this]

theorem ofW_len {ws : List (List Nat)} (h : ws.length ≤ 16777216) : (ws.map D.str).length ≤ 16777216 := by rw [List.length_map]; exact h
theorem longer_ok {t : List Nat} {k : Nat} (ht : t.length ≤ 7) (hk : k < 7) : F_l_longer [.lst ((lv t k).map .str), .lst ((lets t).map fun c => .str [c]), .str t] = some (.lst ((lv t (k + 1)).map .str), []) := by
  have hl0 : (lv t k).length ≤ 8 ^ 7 := Nat.le_trans (lv_len t k) (Nat.le_trans (Nat.pow_le_pow_left (show t.length ≤ 8 by omega) _) (Nat.pow_le_pow_right (by omega) (by omega)))
  have hl1 : (lv t (k + 1)).length ≤ 8 ^ 7 := Nat.le_trans (lv_len t (k + 1)) (Nat.le_trans (Nat.pow_le_pow_left (show t.length ≤ 8 by omega) _) (Nat.pow_le_pow_right (by omega) (by omega)))
  have hL := lets_len t
  refine Ret.is (wp_l_longer ?_)
  unfold b_l_longer
  walk_at "vc"
  refine loop_map (xs := lv t k) (E := D.str) (fun j e => ∃ v4, e = [.val (.lst ((lv t k).map .str)), .val (.lst ((lets t).map fun c => .str [c])), .val (.str t), .val (.lst ((((lv t k).take j).flatMap (ext1 t)).map .str)), v4, .no]) ⟨.no, rfl⟩ ?_ ?_
  · rintro j hj e ⟨v4, rfl⟩
    have hw : ((lv t k)[j]).length = k := (lv_mem.mp (List.getElem_mem hj)).1
    have hf : ((lv t k).take (j + 1)).flatMap (ext1 t) = ((lv t k).take j).flatMap (ext1 t) ++ ext1 t (lv t k)[j] := by
      rw [List.take_add_one, List.getElem?_eq_getElem hj, Option.toList_some, List.flatMap_append, List.flatMap_singleton]
    have hfl : (((lv t k).take (j + 1)).flatMap (ext1 t)).length ≤ 8 ^ 7 := by
      refine Nat.le_trans ?_ hl1
      rw [lv_succ]
      conv => rhs; rw [← List.take_append_drop (j + 1) (lv t k)]
      rw [List.flatMap_append, List.length_append]
      omega
    rw [hf] at hfl ⊢
    generalize ((lv t k).take j).flatMap (ext1 t) = acc at hfl ⊢
    generalize (lv t k)[j] = w at hw hfl ⊢
    walk_at "vc"
    refine comp_pure (fun c => decide ((w ++ [c]).Sublist t)) (fun c => .str (w ++ [c])) (by omega) (fun c hc => ?_) ?_
    · have h1 := is_read_ok (w := w ++ [c]) (t := t) (by rw [List.length_append]; show _ + 1 ≤ _; omega) (by omega)
      walk_at "vc"
      refine br_dec (fun h => ?_) fun h => ?_
      · walk_at "vc"
      · walk_at "vc"
    · have he : ((lets t).filter fun c => decide ((w ++ [c]).Sublist t)).map (fun c => D.str (w ++ [c])) = (ext1 t w).map D.str := by
        unfold ext1
        rw [List.map_map]
        rfl
      rw [he]
      rw [List.length_append] at hfl
      refine op_is (ev_addL (lim_of (by rw [List.length_map, List.length_map]; omega))) ?_
      walk_at "vc"
      exact ⟨_, by rw [List.map_append]⟩
  · rintro e ⟨v4, rfl⟩
    walk_at "vc"
    rw [List.take_length, lv_succ]
    exact ⟨rfl, rfl⟩
theorem min_int {d : Int} {n : Nat} (h : 0 ≤ d) : minA [.int d, .int (n : Nat)] = some (.int (min d.toNat n : Nat)) := by
  show some (D.int (if ((n : Nat) : Int) < d then ((n : Nat) : Int) else d)) = _
  by_cases c : ((n : Nat) : Int) < d
  · rw [if_pos c, Nat.min_eq_right (by omega)]
  · rw [if_neg c, Nat.min_eq_left (by omega), Int.toNat_of_nonneg h]
theorem in_sign {c : Nat} {s : List Nat} : inM (.str [c]) (.str s) = some (.bl (decide (c ∈ s))) := rfl
theorem reads_ok {t : List Nat} {d : Int} (hd : 0 ≤ d) (ht : t.length ≤ 7) : F_l_reads [.int d, .str t] = some (.lst ((rd t d.toNat).map .str), []) := by
  refine Ret.is (wp_l_reads ?_)
  unfold b_l_reads
  walk_at "vc"
  refine comp_pure (xs := k_LETTERS) (E := fun c => .str [c]) (fun c => decide (c ∈ t)) (fun c => .str [c]) (by decide) (fun c hc => ?_) ?_
  · walk_at "vc"
    refine br_dec (fun h => ?_) fun h => ?_
    · walk_at "vc"
    · walk_at "vc"
  · repeat (first | with_reducible refine op_is (min_int hd) ?_ | walk_at "v1")
    have hm : min d.toNat t.length ≤ t.length := Nat.min_le_right _ _
    rw [← rd_min]
    generalize min d.toNat t.length = m at hm
    refine loop_rn (fun j e => ∃ v6, e = [.val (.int d), .val (.str t), .val (.lst ((lv t j).map .str)), .val (.lst ((rd t j).map .str)), .val (.lst ((lets t).map fun c => .str [c])), .no, v6]) ⟨.no, ?_⟩ ?_ ?_
    · rw [lv_zero, rd_zero]
      rfl
    · rintro j hj e ⟨v6, rfl⟩
      have h1 := longer_ok (t := t) (k := j) ht (by omega)
      have h2 := rd_len ht (j + 1) (by omega)
      have h3 : 8 ^ (j + 1) ≤ 8 ^ 7 := Nat.pow_le_pow_right (by omega) (by omega)
      rw [rd_succ, List.length_append] at h2
      walk_at "vc"
      exact ⟨_, by rw [rd_succ, List.map_append]⟩
    · rintro e ⟨v6, rfl⟩
      walk_at "vc"
theorem min_lens {l : List Nat} {m : Nat} (h : m ∈ l) (h2 : ∀ y ∈ l, m ≤ y) : minA [.lst (l.map fun n => .int (n : Nat))] = some (.int (m : Nat)) := by
  have e : l.map (fun n => D.int (n : Nat)) = (l.map fun n => ((n : Nat) : Int)).map D.int := by rw [List.map_map]; rfl
  rw [e]
  show (match intsOf ((l.map fun n => ((n : Nat) : Int)).map D.int) with | some ns => if ns = [] then none else some (D.int (minI ns)) | none => none) = _
  rw [intsOf_map]
  show (if (l.map fun n => ((n : Nat) : Int)) = [] then none else some (D.int (minI (l.map fun n => ((n : Nat) : Int))))) = _
  rw [if_neg fun z => by rw [List.map_eq_nil_iff] at z; rw [z] at h; exact absurd h List.not_mem_nil, minI_of (m := (m : Int)) (List.mem_map.mpr ⟨m, h, rfl⟩) fun y hy => by
    obtain ⟨x, hx, rfl⟩ := List.mem_map.mp hy
    exact Int.ofNat_le.mpr (h2 x hx)]
theorem cut_last {w : List Nat} {c : Nat} : (cut w (some ((w.length : Nat) - 1 : Int)) none = [c]) ↔ ∃ v, w = v ++ [c] := by
  constructor
  · intro h
    cases w with
    | nil => nomatch (show ([] : List Nat) = [c] from h)
    | cons x w =>
      rw [show (((x :: w).length : Nat) - 1 : Int) = ((w.length : Nat) : Int) by rw [List.length_cons]; omega, cut_from] at h
      exact ⟨(x :: w).take w.length, by rw [← h, List.take_append_drop]⟩
  · rintro ⟨v, rfl⟩
    rw [show (((v ++ [c]).length : Nat) - 1 : Int) = ((v.length : Nat) : Int) by rw [List.length_append]; show ((v.length + 1 : Nat) : Int) - 1 = _; omega, cut_from, List.drop_left]
theorem take_snoc {t : List Nat} {i : Nat} (h : i < t.length) : t.take (i + 1) = t.take i ++ [t[i]] := by
  rw [List.take_add_one, List.getElem?_eq_getElem h, Option.toList_some]
theorem rank_ahead_ok {t : List Nat} {i : Nat} (hz : Az t) (ht : t.length ≤ 7) (hi : i < t.length) : F_l_rank_ahead [.str t, .int (i : Nat)] = some (.int (mR (t.take i).reverse t[i] + 1 : Nat), []) := by
  have hlt : (t.take (i + 1)).length ≤ 7 := by rw [List.length_take]; omega
  have h1 := reads_ok (t := t.take (i + 1)) (d := (t.length : Nat)) (by omega) hlt
  rw [Int.toNat_natCast] at h1
  have hlen : (rd (t.take (i + 1)) t.length).length ≤ 8 ^ 7 := Nat.le_trans (rd_len hlt _ ht) (Nat.pow_le_pow_right (by omega) ht)
  refine Ret.is (wp_l_rank_ahead ?_)
  unfold b_l_rank_ahead
  walk_at "vc"
  rw [show ((i : Int) + 1) = ((i + 1 : Nat) : Int) from rfl, cut_to]
  walk_at "vc"
  refine comp_pure (E := D.str) (fun w => decide (cut w (some ((w.length : Nat) - 1 : Int)) none = [t[i]])) (fun w => .str w) (by omega) (fun w hw => ?_) ?_
  · have hwl := (rd_mem.mp hw).1
    walk_at "vc"
    refine op_is (ix_str (k := i) rfl (by omega) (List.getElem?_eq_getElem hi)) ?_
    walk_at "vc"
    refine br_dec (fun h => ?_) fun h => ?_
    · walk_at "vc"
    · walk_at "vc"
  · walk_at "vc"
    refine comp_pure (E := D.str) (fun w => !decide (w.Sublist (t.take i))) (fun w => .int (w.length : Nat)) (Nat.le_trans (List.length_filter_le _ _) (by omega)) (fun w hw => ?_) ?_
    · have hwl := (rd_mem.mp (List.mem_filter.mp hw).1).1
      have h2 := is_read_ok (w := w) (t := t.take i) (by omega) (by rw [List.length_take]; omega)
      walk_at "vc"
      rw [cut_to]
      walk_at "vc"
      refine br_dec (fun h => ?_) fun h => ?_
      · walk_at "vc"
      · walk_at "vc"
    · walk_at "vc"
      generalize hX : ((rd (t.take (i + 1)) t.length).filter fun w => decide (cut w (some ((w.length : Nat) - 1 : Int)) none = [t[i]])).filter (fun w => !decide (w.Sublist (t.take i))) = X
      have hmem : ∀ w, w ∈ X ↔ w.length ≤ t.length ∧ Az w ∧ w.Sublist (t.take i ++ [t[i]]) ∧ (∃ v, w = v ++ [t[i]]) ∧ ¬ w.Sublist (t.take i) := fun w => by
        rw [← hX, List.mem_filter, List.mem_filter, rd_mem, take_snoc hi, decide_eq_true_iff, cut_last, Bool.not_eq_true', decide_eq_false_iff_not]
        simp only [and_assoc]
      have hmin : minA [.lst (X.map fun w => .int (w.length : Nat))] = some (.int (mR (t.take i).reverse t[i] + 1 : Nat)) := by
        have := min_lens (l := X.map List.length) (m := mR (t.take i).reverse t[i] + 1) ?_ ?_
        · rw [List.map_map] at this
          exact this
        · obtain ⟨u, u1, u2, u3⟩ := mR_word (t.take i).reverse t[i]
          have hu : (u.reverse ++ [t[i]]).Sublist (t.take i ++ [t[i]]) := by
            refine List.Sublist.append ?_ (List.Sublist.refl _)
            have := u2.reverse
            rwa [List.reverse_reverse] at this
          refine List.mem_map.mpr ⟨u.reverse ++ [t[i]], (hmem _).mpr ⟨?_, fun c hc => ?_, hu, ⟨_, rfl⟩, fun h => u3 ?_⟩, by rw [List.length_append, List.length_reverse, u1]; rfl⟩
          · have := hu.length_le
            rw [← take_snoc hi, List.length_take] at this
            omega
          · have := hu.subset hc
            rw [← take_snoc hi] at this
            exact hz c (List.mem_of_mem_take this)
          · have := h.reverse
            rwa [List.reverse_append, List.reverse_reverse] at this
        · intro y hy
          obtain ⟨w, hw, rfl⟩ := List.mem_map.mp hy
          obtain ⟨_, _, h3, ⟨v, rfl⟩, h5⟩ := (hmem _).mp hw
          have h3 := h3.reverse
          rw [List.reverse_append, List.reverse_append] at h3
          have h3 : v.reverse.Sublist (t.take i).reverse := List.cons_sublist_cons.mp h3
          have := mR_least _ t[i] _ h3 fun z => h5 (by
            have := z.reverse
            rwa [List.reverse_reverse, List.reverse_cons, List.reverse_reverse] at this)
          rw [List.length_reverse] at this
          rw [List.length_append]
          exact Nat.succ_le_succ this
      refine op_is hmin ?_
      walk_at "vc"
theorem rks_getD {t : List Nat} {i : Nat} (h : i < t.length) : (rks [] t)[i]? = some (mR (t.take i).reverse t[i] + 1) := by
  have := rks_at t [] i t[i] (List.getElem?_eq_getElem h)
  rwa [List.append_nil] at this
theorem prs_at {t : List Nat} {i : Nat} (h : i < t.length) : (prs t)[i]? = some (mR (t.take i).reverse t[i] + 1, mR (t.drop (i + 1)) t[i] + 1) := by
  have h2 : t.length - 1 - i < t.reverse.length := by rw [List.length_reverse]; omega
  have h3 := rks_getD (t := t.reverse) h2
  have h4 : t.reverse[t.length - 1 - i] = t[i] := by
    rw [List.getElem_reverse]
    congr 1
    omega
  rw [h4] at h3
  have h5 : (t.reverse.take (t.length - 1 - i)).reverse = t.drop (i + 1) := by
    rw [List.take_reverse, List.reverse_reverse]
    congr 1
    omega
  rw [h5] at h3
  unfold prs
  rw [List.getElem?_zip_eq_some]
  refine ⟨rks_getD h, ?_⟩
  rw [List.getElem?_reverse (by rw [rks_len, List.length_reverse]; exact h), rks_len, List.length_reverse]
  exact h3
theorem prs_take {t : List Nat} {i : Nat} (h : i < t.length) : (prs t).take (i + 1) = (prs t).take i ++ [(mR (t.take i).reverse t[i] + 1, mR (t.drop (i + 1)) t[i] + 1)] := by
  rw [List.take_add_one, prs_at h]
  rfl
theorem l_ranks_ok {t : List Nat} (hz : Az t) (ht : t.length ≤ 7) : F_l_ranks [.str t] = some (.lst ((prs t).map ofP), []) := by
  have hl := prs_len t
  refine Ret.is (wp_l_ranks ?_)
  unfold b_l_ranks
  walk_at "vc"
  refine loop_rn (fun j e => ∃ v3, e = [.val (.str t), .own false (.lst (((prs t).take j).map ofP)), .val (.str t.reverse), v3]) ⟨.no, rfl⟩ ?_ ?_
  · rintro j hj e ⟨v3, rfl⟩
    have h1 := rank_ahead_ok hz ht hj
    have h2 := rank_ahead_ok (t := t.reverse) (i := t.length - 1 - j) (fun c hc => hz c (List.mem_reverse.mp hc)) (by rw [List.length_reverse]; exact ht) (by rw [List.length_reverse]; omega)
    have h4 : t.reverse[t.length - 1 - j]'(by rw [List.length_reverse]; omega) = t[j] := by
      rw [List.getElem_reverse]
      congr 1
      omega
    have h5 : (t.reverse.take (t.length - 1 - j)).reverse = t.drop (j + 1) := by
      rw [List.take_reverse, List.reverse_reverse]
      congr 1
      omega
    rw [h4, h5] at h2
    have e1 : ((t.length : Nat) : Int) - 1 - (j : Nat) = ((t.length - 1 - j : Nat) : Int) := by omega
    rw [prs_take hj]
    walk_at "vc"
    rw [e1]
    walk_at "vc"
    exact ⟨_, by rw [List.map_append]; rfl⟩
  · rintro e ⟨v3, rfl⟩
    walk_at "vc"
    rw [← hl, List.take_length]
    exact ⟨rfl, rfl⟩

theorem eqBs_str : ∀ xs ys : List (List Nat), eqBs (xs.map .str) (ys.map .str) = decide (xs = ys)
  | [], [] => by unfold eqBs; rfl
  | [], _ :: _ => by unfold eqBs; rfl
  | _ :: _, [] => by unfold eqBs; rfl
  | x :: xs, y :: ys => by
    rw [List.map_cons, List.map_cons]
    unfold eqBs
    rw [eqBs_str xs ys]
    unfold eqB
    rw [← Bool.decide_and]
    exact decide_eq_decide.mpr ⟨fun ⟨a, b⟩ => by rw [a, b], fun h => by injection h with a b; exact ⟨a, b⟩⟩
theorem shp_rd (t : List Nat) (d : Nat) : shp (.lst ((rd t d).map .str)) = true := (sh_strs fun s hs c hc => az_lt (rd_mem.mp hs).2.1 c hc).shp (by decide)
theorem goes_eq {t : List Nat} {i : Nat} {d dm : Int} (hz : Az t) (hi : i < t.length) (hd : 0 ≤ d) (hD : dm = if d < (t.length : Nat) + 1 then d else (t.length : Nat) + 1) : rd (t.take i ++ t.drop (i + 1)) dm.toNat = rd t dm.toNat ↔ ((((prs t).getD i (0, 0)).1 : Nat) : Int) + (((prs t).getD i (0, 0)).2 : Nat) > d + 1 := by
  have ht : t = t.take i ++ t[i] :: t.drop (i + 1) := by rw [← List.drop_eq_getElem_cons hi, List.take_append_drop]
  have hp : (prs t).getD i (0, 0) = (mR (t.take i).reverse t[i] + 1, mR (t.drop (i + 1)) t[i] + 1) := by
    rw [List.getD_eq_getElem?_getD, prs_at hi]
    rfl
  rw [hp, rd_eq hz fun c hc => (List.mem_append.mp hc).elim (fun h => hz c (List.mem_of_mem_take h)) fun h => hz c (List.mem_of_mem_drop h)]
  have h1 := wants_letter (t.take i) (t.drop (i + 1)) t[i] dm.toNat
  rw [← ht] at h1
  have h2 : (∀ w : List Nat, w.length ≤ dm.toNat → (w.Sublist (t.take i ++ t.drop (i + 1)) ↔ w.Sublist t)) ↔ ∀ w : List Nat, w.length ≤ dm.toNat → w.Sublist t → w.Sublist (t.take i ++ t.drop (i + 1)) := by
    refine ⟨fun h w hw => (h w hw).mpr, fun h w hw => ⟨fun h3 => ?_, h w hw⟩⟩
    refine h3.trans ?_
    conv => rhs; rw [ht]
    exact (List.Sublist.refl _).append (List.sublist_cons_self _ _)
  rw [h2, h1]
  have h3 := mR_le (t.take i).reverse t[i]
  have h4 := mR_le (t.drop (i + 1)) t[i]
  rw [List.length_reverse, List.length_take] at h3
  rw [List.length_drop] at h4
  generalize mR (t.take i).reverse t[i] = x at h3 ⊢
  generalize mR (t.drop (i + 1)) t[i] = y at h4 ⊢
  show _ ↔ ((x + 1 : Nat) : Int) + ((y + 1 : Nat) : Int) > d + 1
  by_cases c : d < (t.length : Nat) + 1
  · rw [if_pos c] at hD
    omega
  · rw [if_neg c] at hD
    omega
theorem goes_ok {t : List Nat} {d dm : Int} (hz : Az t) (ht : t.length ≤ 7) (hd : 0 ≤ d) (hD : dm = if d < (t.length : Nat) + 1 then d else (t.length : Nat) + 1) : F_l_goes [.int dm, .str t] = some (.lst ((gos d (prs t)).map ofN), []) := by
  have hD0 : 0 ≤ dm := by
    by_cases c : d < (t.length : Nat) + 1
    · rw [if_pos c] at hD; omega
    · rw [if_neg c] at hD; omega
  have h1 := reads_ok hD0 ht
  refine Ret.is (wp_l_goes ?_)
  unfold b_l_goes
  walk_at "vc"
  refine comp_pureN (fun i => decide (rd (t.take i ++ t.drop (i + 1)) dm.toNat = rd t dm.toNat)) ofN (by omega) (fun i hi => ?_) ?_
  · have hl : (t.take i ++ t.drop (i + 1)).length ≤ 7 := by rw [List.length_append, List.length_take, List.length_drop]; omega
    have h2 := reads_ok hD0 hl
    walk_at "vc"
    rw [cut_to, show ((i : Int) + 1) = ((i + 1 : Nat) : Int) from rfl, cut_from]
    walk_at "vc"
    refine op_is (eq_lst (shp_rd _ _) (shp_rd _ _)) ?_
    rw [eqBs_str]
    walk_at "vc"
    refine br_dec (fun h => ?_) fun h => ?_
    · walk_at "vc"
      refine is_is rfl ?_
      walk_at "vc"
    · walk_at "vc"
  · walk_at "vc"
    refine ⟨?_, rfl⟩
    rw [gos_range, prs_len]
    refine congrArg (fun l : List Nat => D.lst (l.map ofN)) (List.filter_congr fun i hi => decide_eq_decide.mpr (goes_eq hz (List.mem_range.mp hi) hd hD))
/-! ### texts of small data -/
structure Wq (n m : Nat) (d : D) : Prop where
  sh : Sh n d
  sw : (py d).showable = true
  bulk : (py d).bulk ≤ m
theorem wq_int {i : Int} (h : i.natAbs < 2 ^ 64) : Wq 1 0 (.int i) := ⟨sh_int i, by
  unfold py PyData.showable
  exact decide_eq_true (Nat.lt_trans (log2_of (a := 64) (by decide) h) (by decide)), by
  unfold py PyData.bulk
  exact Nat.le_refl _⟩
theorem wqs {n m : Nat} : ∀ {ds : List D}, (∀ d ∈ ds, Wq n m d) → PyData.showableAll (pys ds) = true ∧ PyData.bulkAll (pys ds) ≤ ds.length * (m + 1)
  | [], _ => ⟨by unfold pys PyData.showableAll; rfl, by unfold pys PyData.bulkAll; exact Nat.zero_le _⟩
  | d :: ds, h => by
    obtain ⟨h1, h2⟩ := wqs fun x hx => h x (List.mem_cons_of_mem _ hx)
    have h3 := h d List.mem_cons_self
    refine ⟨by unfold pys PyData.showableAll; rw [h3.sw, h1]; rfl, ?_⟩
    unfold pys PyData.bulkAll
    have h4 := h3.bulk
    rw [List.length_cons, Nat.succ_mul]
    omega
theorem wq_lst {n m k : Nat} {ds : List D} (h : ∀ d ∈ ds, Wq n m d) (hk : ds.length * (m + 1) ≤ k) : Wq (n + 1) k (.lst ds) := ⟨sh_lst fun d hd => (h d hd).sh, by
  unfold py PyData.showable
  exact (wqs h).1, by
  unfold py PyData.bulk
  exact Nat.le_trans (wqs h).2 hk⟩
theorem wq_tup {n m k : Nat} {ds : List D} (h : ∀ d ∈ ds, Wq n m d) (hk : ds.length * (m + 1) ≤ k) : Wq (n + 1) k (.tup ds) := ⟨sh_tup fun d hd => (h d hd).sh, by
  unfold py PyData.showable
  exact (wqs h).1, by
  unfold py PyData.bulk
  exact Nat.le_trans (wqs h).2 hk⟩
theorem Wq.mono {n m n2 m2 : Nat} {d : D} (h : Wq n m d) (hn : n ≤ n2) (hm : m ≤ m2) : Wq n2 m2 d := ⟨h.sh.mono hn, h.sw, Nat.le_trans h.bulk hm⟩
theorem wq_ofN {i : Nat} (h : i ≤ 100000) : Wq 1 0 (ofN i) := wq_int (by rw [Int.natAbs_natCast]; exact Nat.lt_of_le_of_lt h (by decide))
theorem wq_ofP {p : Nat × Nat} (h1 : p.1 ≤ 100000) (h2 : p.2 ≤ 100000) : Wq 2 2 (ofP p) := wq_tup (n := 1) (m := 0) (fun d hd => by
  rcases List.mem_cons.mp hd with rfl | hd
  · exact wq_ofN h1
  · rw [List.mem_singleton] at hd
    rw [hd]
    exact wq_ofN h2) (Nat.le_refl _)
theorem rks_le : ∀ (t R : List Nat), ∀ x ∈ rks R t, x ≤ R.length + t.length
  | [], _, _, h => nomatch h
  | a :: t, R, x, h => by
    rcases List.mem_cons.mp h with rfl | h
    · have := mR_le R a
      rw [List.length_cons]
      omega
    · have := rks_le t (a :: R) x h
      rw [List.length_cons] at this ⊢
      omega
theorem wq_prs {t : List Nat} (ht : t.length ≤ 1000) : Wq 10 3000 (.lst ((prs t).map ofP)) := (wq_lst (n := 2) (m := 2) (k := 3000) (fun d hd => by
  obtain ⟨p, hp, rfl⟩ := List.mem_map.mp hd
  obtain ⟨h1, h2⟩ := List.of_mem_zip (a := p.1) (b := p.2) hp
  have h1 := rks_le _ _ _ h1
  have h2 := rks_le _ _ _ (List.mem_reverse.mp h2)
  rw [List.length_nil] at h1 h2
  rw [List.length_reverse] at h2
  exact wq_ofP (by omega) (by omega)) (by rw [List.length_map, prs_len]; omega)).mono (by decide) (Nat.le_refl _)
theorem gos_lt {d : Int} {ps : List (Nat × Nat)} {i : Nat} (h : i ∈ gos d ps) : i < ps.length := by
  rw [gos_range] at h
  exact List.mem_range.mp (List.mem_filter.mp h).1
theorem gos_len (d : Int) (ps : List (Nat × Nat)) : (gos d ps).length ≤ ps.length := by
  rw [gos_range]
  exact Nat.le_trans (List.length_filter_le _ _) (by rw [List.length_range]; exact Nat.le_refl _)
theorem wq_gos {t : List Nat} {d : Int} (ht : t.length ≤ 1000) : Wq 10 3000 (.lst ((gos d (prs t)).map ofN)) := (wq_lst (n := 1) (m := 0) (k := 3000) (fun x hx => by
  obtain ⟨i, hi, rfl⟩ := List.mem_map.mp hx
  have := gos_lt hi
  rw [prs_len] at this
  exact wq_ofN (by omega)) (by
    have := gos_len d (prs t)
    rw [prs_len] at this
    rw [List.length_map]
    omega)).mono (by decide) (Nat.le_refl _)
theorem Wq.repr {d : D} (h : Wq 10 3000 d) : reprD [d] = some (.str (py d).shown.cps.toList) := Wr.repr (n := 3000) ⟨h.sh.1, Nat.le_trans h.sh.2 (by decide), h.sw, h.bulk⟩ (by decide)
theorem l_same_ok {d : D} (h : Wq 10 3000 d) : F_l_same [d, d] = some (.bl true, []) := by
  have h1 := h.repr
  refine Ret.is (wp_l_same ?_)
  unfold b_l_same
  walk_at "vc"
  exact ⟨congrArg D.bl (decide_eq_true rfl), rfl⟩
theorem told_ok {t : List Nat} (hz : Az t) (ht : t.length ≤ 1000) : F_l_told_right [.str t, .lst ((prs t).map ofP)] = some (.bl true, []) := by
  have h1 := ranks_ok hz ht
  have h2 := l_same_ok (wq_prs ht)
  have h3 := prs_len t
  refine Ret.is (wp_l_told_right ?_)
  unfold b_l_told_right
  walk_at "vc"

/-! ### the last place of a sign; rows of ranks -/
theorem at_one (a : List Nat) (c i : Nat) : StrLaws.At (mkS a) (mkS [c]) (mkS a).length i ↔ a[i]? = some c := StrLaws.subAt_one (mkS a) c i
theorem rfind_law (a : List Nat) (c : Nat) : (Txt.rfind (mkS a) (mkS [c]) = -1 ∧ c ∉ a) ∨ ∃ p q, a = p ++ c :: q ∧ c ∉ q ∧ Txt.rfind (mkS a) (mkS [c]) = (p.length : Nat) := by
  rcases rfind_whole (mkS a) (mkS [c]) with ⟨h0, h1⟩ | ⟨i, h0, h1, h2⟩
  · refine .inl ⟨h0, fun h => ?_⟩
    obtain ⟨i, hi⟩ := List.getElem?_of_mem h
    exact h1 i ((at_one a c i).mpr hi)
  · refine .inr ⟨a.take i, a.drop (i + 1), ?_, fun h => ?_, ?_⟩
    · have h1 := (at_one a c i).mp h1
      obtain ⟨hi, h3⟩ := List.getElem?_eq_some_iff.mp h1
      rw [← h3, ← List.drop_eq_getElem_cons hi, List.take_append_drop]
    · obtain ⟨j, hj⟩ := List.getElem?_of_mem h
      rw [List.getElem?_drop] at hj
      exact h2 (i + 1 + j) (by omega) ((at_one a c _).mpr hj)
    · have h1 := (at_one a c i).mp h1
      obtain ⟨hi, h3⟩ := List.getElem?_eq_some_iff.mp h1
      rw [h0, List.length_take, Nat.min_eq_left (by omega)]
def Least (m : Nat) (l : List Nat) : Prop := m ∈ l ∧ ∀ y ∈ l, m ≤ y
theorem least_snoc {m x : Nat} {l : List Nat} (h : Least m l) : Least (min m x) (l ++ [x]) := by
  refine ⟨?_, fun y hy => ?_⟩
  · rcases Nat.le_total m x with c | c
    · rw [Nat.min_eq_left c]; exact List.mem_append_left _ h.1
    · rw [Nat.min_eq_right c]; exact List.mem_append_right _ (List.mem_singleton_self _)
  · rcases List.mem_append.mp hy with h1 | h1
    · exact Nat.le_trans (Nat.min_le_left _ _) (h.2 y h1)
    · rw [List.mem_singleton] at h1
      rw [h1]
      exact Nat.min_le_right _ _
theorem snoc_ind {P : List Nat → Prop} (h0 : P []) (h : ∀ l x, P l → P (l ++ [x])) (l : List Nat) : P l := by
  have : ∀ r : List Nat, P r.reverse := fun r => by
    induction r with
    | nil => exact h0
    | cons x r ih => rw [List.reverse_cons]; exact h _ _ ih
  have := this l.reverse
  rwa [List.reverse_reverse] at this
theorem row_least (o : Nat) (R : List Nat) (q : List Nat) : o ∉ q → Least (mR (q.reverse ++ o :: R) o) (rks R (o :: q)) := by
  refine snoc_ind (P := fun q => o ∉ q → Least (mR (q.reverse ++ o :: R) o) (rks R (o :: q))) (fun _ => ?_) (fun q b ih h => ?_) q
  · show Least (mR (o :: R) o) [mR R o + 1]
    rw [mR_same]
    exact ⟨List.mem_singleton_self _, fun y hy => by rw [List.mem_singleton] at hy; rw [hy]; exact Nat.le_refl _⟩
  · have hb : ¬ o = b := fun z => h (z ▸ List.mem_append_right _ (List.mem_singleton_self _))
    have ih := ih fun z => h (List.mem_append_left _ z)
    rw [List.reverse_append]
    show Least (mR (b :: (q.reverse ++ o :: R)) o) (rks R ((o :: q) ++ [b]))
    rw [mR_ne _ hb, rks_snoc, List.reverse_cons, List.append_assoc]
    exact least_snoc ih
theorem rks_drop (p s R : List Nat) : (rks R (p ++ s)).drop p.length = rks (p.reverse ++ R) s := by
  rw [rks_app]
  have := rks_len p R
  rw [← this, List.drop_left]
/-- the row of first ranks by the law's own way -/
theorem l_row_ok {t : List Nat} (ht : t.length ≤ 1000) : F_l_row [.str t] = some (.lst ((rks [] t).map ofN), []) := by
  refine Ret.is (wp_l_row ?_)
  unfold b_l_row
  walk_at "vc"
  refine loop_rn (fun j e => ∃ v2 v3, e = [.val (.str t), .own false (.lst ((rks [] (t.take j)).map ofN)), v2, v3]) ⟨.no, .no, rfl⟩ ?_ ?_
  · rintro j hj e ⟨v2, v3, rfl⟩
    have hS := rks_len (t.take j) []
    rw [List.length_take] at hS
    rw [take_snoc hj, rks_snoc, List.append_nil]
    walk_at "vc"
    rw [cut_to]
    refine op_is (ix_str (k := j) rfl (by omega) (List.getElem?_eq_getElem hj)) ?_
    have hr : ∀ i, Txt.rfind (mkS (t.take j)) (mkS [t[j]]) = i → rfindD (.str (t.take j)) [.str [t[j]]] = some (.int i) := fun i h => by rw [← h]; rfl
    have hTl : (t.take j).length ≤ 1000 := by rw [List.length_take]; omega
    rcases rfind_law (t.take j) t[j] with ⟨h1, h2⟩ | ⟨p, q, h1, h2, h3⟩
    · have h0 : mR (t.take j).reverse t[j] = 0 := mR_0 fun z => h2 (List.mem_reverse.mp z)
      rw [h0]
      generalize t[j] = o at *
      generalize t.take j = T at *
      repeat (first | with_reducible refine op_is (hr _ h1) ?_ | walk_at "v1")
      exact ⟨_, _, by rw [List.map_append]; rfl⟩
    · have h0 := row_least t[j] p.reverse q h2
      rw [h1, List.reverse_append, List.reverse_cons, List.append_assoc]
      rw [h1] at hr hTl hS
      rw [h1] at h3
      generalize t[j] = o at *
      repeat (first | with_reducible refine op_is (hr _ h3) ?_ | walk_at "v1")
      rw [cut_from, ← List.map_drop, rks_drop, List.append_nil]
      refine op_is (min_lens h0.1 h0.2) ?_
      walk_at "vc"
      exact ⟨_, _, by rw [List.map_append, Nat.add_comm]; rfl⟩
  · rintro e ⟨v2, v3, rfl⟩
    walk_at "vc"
    rw [List.take_length]
    exact ⟨rfl, rfl⟩
theorem getD_at {xs : List Nat} {k : Nat} (h : k < xs.length) : xs[k]? = some (xs.getD k 0) := by rw [List.getD_eq_getElem?_getD, List.getElem?_eq_getElem h]; rfl
theorem ix_ofN {xs : List Nat} {i : Int} {k : Nat} (hi : i = (k : Int)) (h : k < xs.length) : ixD (.lst (xs.map ofN)) (.int i) = some (ofN (xs.getD k 0)) := by
  subst hi
  show atI (xs.map ofN) (k : Int) = _
  rw [atI_nat (v := ofN (xs.getD k 0)) (by rw [List.getElem?_map, List.getElem?_eq_getElem h, List.getD_eq_getElem?_getD, List.getElem?_eq_getElem h]; rfl)]
theorem prs_range (t : List Nat) : prs t = (List.range t.length).map fun i => ((rks [] t).getD i 0, (rks [] t.reverse).getD (t.length - 1 - i) 0) := by
  apply List.ext_getElem?
  intro i
  by_cases h : i < t.length
  · have h1 : i < (rks [] t).length := by rw [rks_len]; exact h
    have h2 : t.length - 1 - i < (rks [] t.reverse).length := by rw [rks_len, List.length_reverse]; omega
    rw [List.getElem?_map, List.getElem?_range h]
    unfold prs
    rw [Option.map_some, List.getElem?_zip_eq_some]
    refine ⟨getD_at h1, ?_⟩
    rw [List.getElem?_reverse (by rw [rks_len, List.length_reverse]; exact h), rks_len, List.length_reverse]
    exact getD_at h2
  · rw [List.getElem?_eq_none (by rw [prs_len]; omega), List.getElem?_eq_none (by rw [List.length_map, List.length_range]; omega)]
theorem long_ranks_ok {t : List Nat} (ht : t.length ≤ 1000) : F_l_long_ranks [.str t] = some (.lst ((prs t).map ofP), []) := by
  have h1 := l_row_ok ht
  have h2 := l_row_ok (t := t.reverse) (by rw [List.length_reverse]; exact ht)
  have he : enumD ((rks [] t).map ofN) = (List.range t.length).map fun i => .tup [.int (i : Nat), .int (((rks [] t).getD i 0 : Nat))] := by
    rw [enum_as, zipIdx_range 0, List.map_map, rks_len]
    rfl
  refine Ret.is (wp_l_long_ranks ?_)
  unfold b_l_long_ranks
  walk_at "vc"
  rw [he]
  refine comp_each (xs := List.range t.length) (fun i => ofP ((rks [] t).getD i 0, (rks [] t.reverse).getD (t.length - 1 - i) 0)) (by rw [List.length_range]; omega) (fun i hi => ?_) ?_
  · have hi := List.mem_range.mp hi
    walk_at "vc"
    refine op_is (ix_ofN (k := t.length - 1 - i) (by omega) (by rw [rks_len, List.length_reverse]; omega)) ?_
    walk_at "vc"
    exact is_is rfl (by walk_at "vc")
  · walk_at "vc"
    refine ⟨?_, rfl⟩
    rw [prs_range, List.map_map]
    rfl

/-! ### the law's texts -/
theorem text78_w {k : Nat} {g : D} {L : List Nat} {lo hi : Int} {P : D → List D → Prop} (hg : GOk k g) (hk : k ≤ 700000000) (h0 : 0 ≤ lo) (h1 : lo ≤ hi) (h2 : hi ≤ 100) (hL0 : 0 < L.length) (hL2 : L.length ≤ 26) (h : ∀ (s : List Nat) (g' : D), (∀ c ∈ s, c ∈ L) → (s.length : Int) ≤ hi → GOk (k + 11000) g' → P (.str s) [g']) : Ret (F_l_text [g, .str L, .int lo, .int hi]) P := by
  refine wp_l_text ?_
  unfold b_l_text
  walk_at "vc"
  refine size_w hg (by omega) h0 h1 (by omega) fun m g1 hm1 hm2 hg1 => ?_
  walk_at "vc"
  refine comp_rn (fun j acc e => ∃ (s : List Nat) (g' : D), e = [.own true g', .val (.str L), .val (.int lo), .val (.int hi), .val (.int (m : Nat)), .no, .no] ∧ acc = s.map (fun c => .str [c]) ∧ (∀ c ∈ s, c ∈ L) ∧ s.length = j ∧ GOk (k + 101 + 101 * j) g') (by omega) ⟨[], g1, rfl, rfl, fun _ h => (nomatch h), rfl, hg1⟩ ?_ ?_
  · rintro j hj acc e ⟨s, g1, rfl, rfl, h1, h2, h3⟩
    walk_at "vc"
    refine random_w h3 (by omega) (by omega) (by
      rw [Int.natAbs_natCast]
      exact Nat.lt_of_le_of_lt hL2 (by decide +kernel)) fun r g2 hr hg2 => ?_
    walk_at "vc"
    refine op_is (ix_str (k := r) rfl (by omega) (List.getElem?_eq_getElem (by omega))) ?_
    walk_at "vc"
    refine ⟨s ++ [L[r]], g2, rfl, by rw [List.map_append]; rfl, ?_, by rw [List.length_append, h2]; rfl, hg2.mono (by omega)⟩
    intro c hc
    rcases List.mem_append.mp hc with h | h
    · exact h1 c h
    · rw [List.mem_singleton] at h
      subst h
      exact List.getElem_mem _
  · rintro acc e ⟨s, g2, rfl, rfl, h3, h4, h5⟩
    walk_at "vc"
    refine op_is (ev_join1 (by omega)) ?_
    walk_at "vc"
    refine br_dec (fun c => ?_) fun c => ?_
    · walk_at "vc"
      exact h s g2 h3 (by omega) (h5.mono (by omega))
    · walk_at "vc"
      refine random_w h5 (by omega) (by omega) (by decide +kernel) fun r g3 hr hg3 => ?_
      walk_at "vc"
      refine br_dec (fun c2 => ?_) fun c2 => ?_
      · walk_at "vc"
        refine size_w hg3 (by omega) (by omega) (by omega) (by omega) fun n g4 hn1 hn2 hg4 => ?_
        walk_at "vc"
        have hc : (cut s none (some (n : Int))).length ≤ 3 := by rw [cut_to, List.length_take]; omega
        have hb : (cut s none (some (n : Int))).length * hi.toNat ≤ 3 * 100 := Nat.mul_le_mul hc (by omega)
        refine op_is (ev_mulS (and_of (small63_of (by omega) (by omega)) (lim_of (by omega)))) ?_
        have hf : (List.replicate hi.toNat (cut s none (some (n : Int)))).flatten.length ≤ 300 := by
          rw [List.length_flatten, List.map_replicate, List.sum_replicate_nat, Nat.mul_comm]
          exact hb
        have hm2 : ∀ x ∈ (List.replicate hi.toNat (cut s none (some (n : Int)))).flatten, x ∈ L := fun x hx => by
          obtain ⟨l, hl, hx⟩ := List.mem_flatten.mp hx
          rw [List.eq_of_mem_replicate hl, cut_to] at hx
          exact h3 x (List.mem_of_mem_take hx)
        generalize (List.replicate hi.toNat (cut s none (some (n : Int)))).flatten = w at hf hm2 ⊢
        walk_at "vc"
        rw [cut_to]
        exact h _ g4 (fun x hx => hm2 x (List.mem_of_mem_take hx)) (by rw [List.length_take]; omega) (hg4.mono (by omega))
      · walk_at "vc"
        exact h s g3 h3 (by omega) (hg3.mono (by omega))

theorem gos_map {d : Int} {ps : List (Nat × Nat)} : ((ps.zipIdx.filter fun q => decide ((q.1.1 : Int) + (q.1.2 : Nat) > d + 1)).map fun q => D.int (q.2 : Nat)) = (gos d ps).map ofN := by
  unfold gos
  rw [List.map_map]
  rfl
theorem right_w {k : Nat} {g : D} {P : D → List D → Prop} (hg : GOk k g) (hk : k ≤ 600000000) (h : ∀ g', GOk (k + 20000) g' → P (.bl true) [g']) : Ret (F_l_right [g]) P := by
  refine wp_l_right ?_
  unfold b_l_right
  walk_at "vc"
  refine letters_w hg (by omega) (by omega) (by omega) (by omega) fun L g1 hL hLp hL1 hL2 hg1 => ?_
  walk_at "vc"
  refine text78_w hg1 (by omega) (by omega) (by omega) (by omega) (by omega) (by omega) fun t g2 ht htl hg2 => ?_
  walk_at "vc"
  refine random_w hg2 (by omega) (by omega) (by decide +kernel) fun r g3 hr hg3 => ?_
  have hz : Az t := fun c hc => hL c (ht c hc)
  have ht7 : t.length ≤ 7 := by omega
  have h1 := l_ranks_ok hz ht7
  have h2 := told_ok hz (show t.length ≤ 1000 by omega)
  have hpl := prs_len t
  walk_at "vc"
  have hv : ∀ x ∈ ([(r : Int), (t.length : Int), 10 ^ Int.toNat 29] : List Int), 0 ≤ x := fun x hx => by
    rcases List.mem_cons.mp hx with rfl | hx
    · omega
    rcases List.mem_cons.mp hx with rfl | hx
    · omega
    rw [List.mem_singleton] at hx
    rw [hx]
    decide +kernel
  refine loop_map (xs := [(r : Int), (t.length : Int), 10 ^ Int.toNat 29]) (E := D.int) (fun j e => ∃ v5 v6 v7, e = [.own true g3, .val (.str L), .val (.str t), .val (.int (r : Nat)), .val (.lst ((prs t).map ofP)), v5, v6, v7, .no, .no]) ⟨_, _, _, rfl⟩ ?_ ?_
  · rintro j hj e ⟨v5, v6, v7, rfl⟩
    have hd := hv _ (List.getElem_mem hj)
    generalize ([(r : Int), (t.length : Int), 10 ^ Int.toNat 29] : List Int)[j] = d at hd
    have h3 := can_go_ok hd hz (show t.length ≤ 1000 by omega)
    have hmin : minA [.int d, .int ((t.length : Nat) + 1)] = some (.int (if d < (t.length : Nat) + 1 then d else (t.length : Nat) + 1)) := by
      show some (D.int (if ((t.length : Nat) : Int) + 1 < d then ((t.length : Nat) : Int) + 1 else d)) = _
      by_cases c : d < ((t.length : Nat) : Int) + 1
      · rw [if_pos c, if_neg (by omega)]
      · rw [if_neg c]
        by_cases c2 : ((t.length : Nat) : Int) + 1 < d
        · rw [if_pos c2]
        · rw [if_neg c2, show d = (t.length : Nat) + 1 by omega]
    have h4 := goes_ok hz ht7 hd rfl
    have h5 := l_same_ok (wq_gos (t := t) (d := d) (by omega))
    have hsh : shp (.lst ((gos d (prs t)).map ofN)) = true := (wq_gos (t := t) (d := d) (by omega)).sh.shp (by decide)
    have hgl : (gos d (prs t)).length ≤ 7 := by have := gos_len d (prs t); omega
    repeat (first | with_reducible refine op_is hmin ?_ | walk_at "v1")
    rw [enum_as]
    refine comp_pure (fun q => decide ((q.1.1 : Int) + (q.1.2 : Nat) > d + 1)) (fun q => .int (q.2 : Nat)) (by rw [List.length_zipIdx]; omega) (fun q hq => ?_) ?_
    · unfold ofP
      walk_at "vc"
      refine br_dec (fun c => ?_) fun c => ?_
      · walk_at "vc"
      · walk_at "vc"
    · rw [gos_map]
      walk_at "vc"
  · rintro e ⟨v5, v6, v7, rfl⟩
    walk_at "vc"
    exact h g3 (hg3.mono (by omega))
theorem long_right_w {k : Nat} {g : D} {P : D → List D → Prop} (hg : GOk k g) (hk : k ≤ 600000000) (h : ∀ g', GOk (k + 20000) g' → P (.bl true) [g']) : Ret (F_l_long_right [g]) P := by
  refine wp_l_long_right ?_
  unfold b_l_long_right
  walk_at "vc"
  refine letters_w hg (by omega) (by omega) (by omega) (by omega) fun L g1 hL hLp hL1 hL2 hg1 => ?_
  walk_at "vc"
  refine text78_w hg1 (by omega) (by omega) (by omega) (by omega) (by omega) (by omega) fun t g2 ht htl hg2 => ?_
  have hz : Az t := fun c hc => hL c (ht c hc)
  have htl : t.length ≤ 1000 := by omega
  have h1 := long_ranks_ok htl
  have h2 := told_ok hz htl
  have hpl := prs_len t
  walk_at "vc"
  refine random_w hg2 (by omega) (by omega) (by decide +kernel) fun r g3 hr hg3 => ?_
  have h3 := can_go_ok (d := (r : Int)) (by omega) hz htl
  have h5 := l_same_ok (wq_gos (t := t) (d := (r : Int)) htl)
  have hgl := gos_len (r : Int) (prs t)
  walk_at "vc"
  rw [enum_as]
  refine comp_pure (fun q => decide ((q.1.1 : Int) + (q.1.2 : Nat) > (r : Int) + 1)) (fun q => .int (q.2 : Nat)) (by rw [List.length_zipIdx]; omega) (fun q hq => ?_) ?_
  · unfold ofP
    walk_at "vc"
    refine br_dec (fun c => ?_) fun c => ?_
    · walk_at "vc"
    · walk_at "vc"
  · rw [gos_map]
    walk_at "vc"
    exact h g3 (hg3.mono (by omega))
theorem law_true (ns : List Int) (hl : ns.length ≤ 63) : F_law [.fls (ns.map .int)] = some (.bl true, []) := by
  refine Ret.is (wp_law ?_)
  unfold b_law
  walk_at "vc"
  have hz0 : Az [] := az_nil
  have hz1 : Az [97, 98] := show ∀ c ∈ [97, 98], c ∈ k_LETTERS by decide
  have hz2 : Az [97, 98, 98, 97] := show ∀ c ∈ [97, 98, 98, 97], c ∈ k_LETTERS by decide
  have c1 := ranks_ok hz0 (by decide)
  have c2 := can_go_ok (d := 0) (by decide) hz1 (by decide)
  have c3 := can_go_ok (d := 0) (by decide) hz0 (by decide)
  have c4 := ranks_ok hz2 (by decide)
  rw [show (prs []).map ofP = [] from rfl] at c1
  rw [show (gos 0 (prs [97, 98])).map ofN = [.int 0, .int 1] from congrArg (List.map ofN) (show gos 0 (prs [97, 98]) = [0, 1] by decide)] at c2
  rw [show (gos 0 (prs [])).map ofN = [] from congrArg (List.map ofN) (show gos 0 (prs []) = [] by decide)] at c3
  have w4 := wq_prs (t := [97, 98, 98, 97]) (by decide)
  rw [show (prs [97, 98, 98, 97]).map ofP = [.tup [.int 1, .int 2], .tup [.int 1, .int 2], .tup [.int 2, .int 1], .tup [.int 2, .int 1]] from congrArg (List.map ofP) (show prs [97, 98, 98, 97] = [(1, 2), (1, 2), (2, 1), (2, 1)] by decide)] at c4 w4
  have s4 := l_same_ok w4
  have s1 : F_l_same [.lst [.lst [], .lst [.int 0, .int 1], .lst []], .lst [.lst [], .lst [.int 0, .int 1], .lst []]] = some (.bl true, []) := l_same_ok ((wq_lst (n := 2) (m := 2) (k := 9) (fun d hd => by
    have h0 : Wq 2 2 (.lst []) := wq_lst (n := 1) (m := 0) (fun d hd => nomatch hd) (by decide)
    rcases List.mem_cons.mp hd with rfl | hd
    · exact h0
    rcases List.mem_cons.mp hd with rfl | hd
    · exact wq_lst (n := 1) (m := 0) (fun d hd => by
        rcases List.mem_cons.mp hd with rfl | hd
        · exact wq_int (by decide)
        · rw [List.mem_singleton] at hd
          rw [hd]
          exact wq_int (by decide)) (by decide)
    · rw [List.mem_singleton] at hd
      rw [hd]
      exact h0) (by decide)).mono (by decide) (by decide))
  rw [show rangeD 0 (Int.toNat 2) = rangeN 2 from rangeN_eq 2]
  refine loop_rn (fun i e => ∃ v1 v2, e = [.val (.fls (ns.map .int)), v1, v2, .no, .no]) ⟨.no, .no, rfl⟩ ?_ ?_
  · rintro i hi e ⟨v1, v2, rfl⟩
    walk_at "vc"
    refine generator_w (by omega) fun g hg => ?_
    walk_at "vc"
    refine right_w hg (by omega) fun g1 hg1 => ?_
    walk_at "vc"
    refine long_right_w hg1 (by omega) fun g2 hg2 => ?_
    walk_at "vc"
  · rintro e ⟨v1, v2, rfl⟩
    walk_at "vc"
    have hT : (List.replicate (Int.toNat 150) [97, 98]).flatten.length = 300 := by decide +kernel
    have hzT : Az (List.replicate (Int.toNat 150) [97, 98]).flatten := fun c hc => by
      obtain ⟨l, h1, h2⟩ := List.mem_flatten.mp hc
      rw [List.eq_of_mem_replicate h1] at h2
      exact hz1 c h2
    generalize (List.replicate (Int.toNat 150) [97, 98]).flatten = T at hT hzT ⊢
    have t1 := long_ranks_ok (t := T) (by omega)
    have t2 := ranks_ok hzT (show T.length ≤ 1000 by omega)
    have t3 := l_same_ok (wq_prs (t := T) (by omega))
    walk_at "vc"
theorem all_mk {l : PySem.W.OpenLaw} {w : World} {K : PySem.W.Frag} {h : Heap} {mg : Str → Option Value} {fa : Addr} (X : K.In h) (G : h.Ns mainGlobals mg) (hfa : mg "law" = some (.ref fa))
    {f1 : Addr} {oc1 kV1 dc1 pm1 cd1 ct1 : Value} {od1 an1 : Option Addr} {sl1 : Array (Option Value)}
    (a1 : PySem.W.nsIn K mainGlobals "_law_row" = some (some (.ref f1))) (l1 : K.lookup f1 = some ⟨oc1, od1, .func (PySem.W.fnOf "_law_row" "_law_row" (defArgs s_l_row) (defBody s_l_row) (defScope s_l_row) .none kV1 dc1 pm1 an1 cd1 ct1), sl1⟩) (c1 : PySem.W.codeIn K cd1 "_law_row" = true) (k1 : PySem.W.keepIn K (.ref f1) = true)
    {f2 : Addr} {oc2 kV2 dc2 pm2 cd2 ct2 : Value} {od2 an2 : Option Addr} {sl2 : Array (Option Value)}
    (a2 : PySem.W.nsIn K mainGlobals "_law_long_ranks" = some (some (.ref f2))) (l2 : K.lookup f2 = some ⟨oc2, od2, .func (PySem.W.fnOf "_law_long_ranks" "_law_long_ranks" (defArgs s_l_long_ranks) (defBody s_l_long_ranks) (defScope s_l_long_ranks) .none kV2 dc2 pm2 an2 cd2 ct2), sl2⟩) (c2 : PySem.W.codeIn K cd2 "_law_long_ranks" = true) (k2 : PySem.W.keepIn K (.ref f2) = true)
    {f3 : Addr} {oc3 kV3 dc3 pm3 cd3 ct3 : Value} {od3 an3 : Option Addr} {sl3 : Array (Option Value)}
    (a3 : PySem.W.nsIn K mainGlobals "_law_cell" = some (some (.ref f3))) (l3 : K.lookup f3 = some ⟨oc3, od3, .func (PySem.W.fnOf "_law_cell" "_law_cell" (defArgs s_l_cell) (defBody s_l_cell) (defScope s_l_cell) .none kV3 dc3 pm3 an3 cd3 ct3), sl3⟩) (c3 : PySem.W.codeIn K cd3 "_law_cell" = true) (k3 : PySem.W.keepIn K (.ref f3) = true)
    {f4 : Addr} {oc4 kV4 dc4 pm4 cd4 ct4 : Value} {od4 an4 : Option Addr} {sl4 : Array (Option Value)}
    (a4 : PySem.W.nsIn K mainGlobals "_law_generator" = some (some (.ref f4))) (l4 : K.lookup f4 = some ⟨oc4, od4, .func (PySem.W.fnOf "_law_generator" "_law_generator" (defArgs s_l_generator) (defBody s_l_generator) (defScope s_l_generator) .none kV4 dc4 pm4 an4 cd4 ct4), sl4⟩) (c4 : PySem.W.codeIn K cd4 "_law_generator" = true) (k4 : PySem.W.keepIn K (.ref f4) = true)
    {f5 : Addr} {oc5 kV5 dc5 pm5 cd5 ct5 : Value} {od5 an5 : Option Addr} {sl5 : Array (Option Value)}
    (a5 : PySem.W.nsIn K mainGlobals "_law_same" = some (some (.ref f5))) (l5 : K.lookup f5 = some ⟨oc5, od5, .func (PySem.W.fnOf "_law_same" "_law_same" (defArgs s_l_same) (defBody s_l_same) (defScope s_l_same) .none kV5 dc5 pm5 an5 cd5 ct5), sl5⟩) (c5 : PySem.W.codeIn K cd5 "_law_same" = true) (k5 : PySem.W.keepIn K (.ref f5) = true)
    {f6 : Addr} {oc6 kV6 dc6 pm6 cd6 ct6 : Value} {od6 an6 : Option Addr} {sl6 : Array (Option Value)}
    (a6 : PySem.W.nsIn K mainGlobals "is_string_of" = some (some (.ref f6))) (l6 : K.lookup f6 = some ⟨oc6, od6, .func (PySem.W.fnOf "is_string_of" "is_string_of" (defArgs s_is_string_of) (defBody s_is_string_of) (defScope s_is_string_of) .none kV6 dc6 pm6 an6 cd6 ct6), sl6⟩) (c6 : PySem.W.codeIn K cd6 "is_string_of" = true) (k6 : PySem.W.keepIn K (.ref f6) = true)
    {f7 : Addr} {oc7 kV7 dc7 pm7 cd7 ct7 : Value} {od7 an7 : Option Addr} {sl7 : Array (Option Value)}
    (a7 : PySem.W.nsIn K mainGlobals "is_letters_alone" = some (some (.ref f7))) (l7 : K.lookup f7 = some ⟨oc7, od7, .func (PySem.W.fnOf "is_letters_alone" "is_letters_alone" (defArgs s_is_letters_alone) (defBody s_is_letters_alone) (defScope s_is_letters_alone) .none kV7 dc7 pm7 an7 cd7 ct7), sl7⟩) (c7 : PySem.W.codeIn K cd7 "is_letters_alone" = true) (k7 : PySem.W.keepIn K (.ref f7) = true)
    {f8 : Addr} {oc8 kV8 dc8 pm8 cd8 ct8 : Value} {od8 an8 : Option Addr} {sl8 : Array (Option Value)}
    (a8 : PySem.W.nsIn K mainGlobals "check_text" = some (some (.ref f8))) (l8 : K.lookup f8 = some ⟨oc8, od8, .func (PySem.W.fnOf "check_text" "check_text" (defArgs s_check_text) (defBody s_check_text) (defScope s_check_text) .none kV8 dc8 pm8 an8 cd8 ct8), sl8⟩) (c8 : PySem.W.codeIn K cd8 "check_text" = true) (k8 : PySem.W.keepIn K (.ref f8) = true)
    {f9 : Addr} {oc9 kV9 dc9 pm9 cd9 ct9 : Value} {od9 an9 : Option Addr} {sl9 : Array (Option Value)}
    (a9 : PySem.W.nsIn K mainGlobals "ranks_ahead" = some (some (.ref f9))) (l9 : K.lookup f9 = some ⟨oc9, od9, .func (PySem.W.fnOf "ranks_ahead" "ranks_ahead" (defArgs s_ranks_ahead) (defBody s_ranks_ahead) (defScope s_ranks_ahead) .none kV9 dc9 pm9 an9 cd9 ct9), sl9⟩) (c9 : PySem.W.codeIn K cd9 "ranks_ahead" = true) (k9 : PySem.W.keepIn K (.ref f9) = true)
    {f10 : Addr} {oc10 kV10 dc10 pm10 cd10 ct10 : Value} {od10 an10 : Option Addr} {sl10 : Array (Option Value)}
    (a10 : PySem.W.nsIn K mainGlobals "ranks_of" = some (some (.ref f10))) (l10 : K.lookup f10 = some ⟨oc10, od10, .func (PySem.W.fnOf "ranks_of" "ranks_of" (defArgs s_ranks_of) (defBody s_ranks_of) (defScope s_ranks_of) .none kV10 dc10 pm10 an10 cd10 ct10), sl10⟩) (c10 : PySem.W.codeIn K cd10 "ranks_of" = true) (k10 : PySem.W.keepIn K (.ref f10) = true)
    {f11 : Addr} {oc11 kV11 dc11 pm11 cd11 ct11 : Value} {od11 an11 : Option Addr} {sl11 : Array (Option Value)}
    (a11 : PySem.W.nsIn K mainGlobals "ranks" = some (some (.ref f11))) (l11 : K.lookup f11 = some ⟨oc11, od11, .func (PySem.W.fnOf "ranks" "ranks" (defArgs s_ranks) (defBody s_ranks) (defScope s_ranks) .none kV11 dc11 pm11 an11 cd11 ct11), sl11⟩) (c11 : PySem.W.codeIn K cd11 "ranks" = true) (k11 : PySem.W.keepIn K (.ref f11) = true)
    {f12 : Addr} {oc12 kV12 dc12 pm12 cd12 ct12 : Value} {od12 an12 : Option Addr} {sl12 : Array (Option Value)}
    (a12 : PySem.W.nsIn K mainGlobals "_law_hash" = some (some (.ref f12))) (l12 : K.lookup f12 = some ⟨oc12, od12, .func (PySem.W.fnOf "_law_hash" "_law_hash" (defArgs s_l_hash) (defBody s_l_hash) (defScope s_l_hash) .none kV12 dc12 pm12 an12 cd12 ct12), sl12⟩) (c12 : PySem.W.codeIn K cd12 "_law_hash" = true) (k12 : PySem.W.keepIn K (.ref f12) = true)
    {f13 : Addr} {oc13 kV13 dc13 pm13 cd13 ct13 : Value} {od13 an13 : Option Addr} {sl13 : Array (Option Value)}
    (a13 : PySem.W.nsIn K mainGlobals "_law_random" = some (some (.ref f13))) (l13 : K.lookup f13 = some ⟨oc13, od13, .func (PySem.W.fnOf "_law_random" "_law_random" (defArgs s_l_random) (defBody s_l_random) (defScope s_l_random) .none kV13 dc13 pm13 an13 cd13 ct13), sl13⟩) (c13 : PySem.W.codeIn K cd13 "_law_random" = true) (k13 : PySem.W.keepIn K (.ref f13) = true)
    {f14 : Addr} {oc14 kV14 dc14 pm14 cd14 ct14 : Value} {od14 an14 : Option Addr} {sl14 : Array (Option Value)}
    (a14 : PySem.W.nsIn K mainGlobals "_law_size" = some (some (.ref f14))) (l14 : K.lookup f14 = some ⟨oc14, od14, .func (PySem.W.fnOf "_law_size" "_law_size" (defArgs s_l_size) (defBody s_l_size) (defScope s_l_size) .none kV14 dc14 pm14 an14 cd14 ct14), sl14⟩) (c14 : PySem.W.codeIn K cd14 "_law_size" = true) (k14 : PySem.W.keepIn K (.ref f14) = true)
    {f15 : Addr} {oc15 kV15 dc15 pm15 cd15 ct15 : Value} {od15 an15 : Option Addr} {sl15 : Array (Option Value)}
    (a15 : PySem.W.nsIn K mainGlobals "_law_letters" = some (some (.ref f15))) (l15 : K.lookup f15 = some ⟨oc15, od15, .func (PySem.W.fnOf "_law_letters" "_law_letters" (defArgs s_l_letters) (defBody s_l_letters) (defScope s_l_letters) .none kV15 dc15 pm15 an15 cd15 ct15), sl15⟩) (c15 : PySem.W.codeIn K cd15 "_law_letters" = true) (k15 : PySem.W.keepIn K (.ref f15) = true)
    {f16 : Addr} {oc16 kV16 dc16 pm16 cd16 ct16 : Value} {od16 an16 : Option Addr} {sl16 : Array (Option Value)}
    (a16 : PySem.W.nsIn K mainGlobals "_law_is_read" = some (some (.ref f16))) (l16 : K.lookup f16 = some ⟨oc16, od16, .func (PySem.W.fnOf "_law_is_read" "_law_is_read" (defArgs s_l_is_read) (defBody s_l_is_read) (defScope s_l_is_read) .none kV16 dc16 pm16 an16 cd16 ct16), sl16⟩) (c16 : PySem.W.codeIn K cd16 "_law_is_read" = true) (k16 : PySem.W.keepIn K (.ref f16) = true)
    {f17 : Addr} {oc17 kV17 dc17 pm17 cd17 ct17 : Value} {od17 an17 : Option Addr} {sl17 : Array (Option Value)}
    (a17 : PySem.W.nsIn K mainGlobals "_law_longer" = some (some (.ref f17))) (l17 : K.lookup f17 = some ⟨oc17, od17, .func (PySem.W.fnOf "_law_longer" "_law_longer" (defArgs s_l_longer) (defBody s_l_longer) (defScope s_l_longer) .none kV17 dc17 pm17 an17 cd17 ct17), sl17⟩) (c17 : PySem.W.codeIn K cd17 "_law_longer" = true) (k17 : PySem.W.keepIn K (.ref f17) = true)
    {f18 : Addr} {oc18 kV18 dc18 pm18 cd18 ct18 : Value} {od18 an18 : Option Addr} {sl18 : Array (Option Value)}
    (a18 : PySem.W.nsIn K mainGlobals "_law_reads" = some (some (.ref f18))) (l18 : K.lookup f18 = some ⟨oc18, od18, .func (PySem.W.fnOf "_law_reads" "_law_reads" (defArgs s_l_reads) (defBody s_l_reads) (defScope s_l_reads) .none kV18 dc18 pm18 an18 cd18 ct18), sl18⟩) (c18 : PySem.W.codeIn K cd18 "_law_reads" = true) (k18 : PySem.W.keepIn K (.ref f18) = true)
    {f19 : Addr} {oc19 kV19 dc19 pm19 cd19 ct19 : Value} {od19 an19 : Option Addr} {sl19 : Array (Option Value)}
    (a19 : PySem.W.nsIn K mainGlobals "_law_rank_ahead" = some (some (.ref f19))) (l19 : K.lookup f19 = some ⟨oc19, od19, .func (PySem.W.fnOf "_law_rank_ahead" "_law_rank_ahead" (defArgs s_l_rank_ahead) (defBody s_l_rank_ahead) (defScope s_l_rank_ahead) .none kV19 dc19 pm19 an19 cd19 ct19), sl19⟩) (c19 : PySem.W.codeIn K cd19 "_law_rank_ahead" = true) (k19 : PySem.W.keepIn K (.ref f19) = true)
    {f20 : Addr} {oc20 kV20 dc20 pm20 cd20 ct20 : Value} {od20 an20 : Option Addr} {sl20 : Array (Option Value)}
    (a20 : PySem.W.nsIn K mainGlobals "_law_ranks" = some (some (.ref f20))) (l20 : K.lookup f20 = some ⟨oc20, od20, .func (PySem.W.fnOf "_law_ranks" "_law_ranks" (defArgs s_l_ranks) (defBody s_l_ranks) (defScope s_l_ranks) .none kV20 dc20 pm20 an20 cd20 ct20), sl20⟩) (c20 : PySem.W.codeIn K cd20 "_law_ranks" = true) (k20 : PySem.W.keepIn K (.ref f20) = true)
    {f21 : Addr} {oc21 kV21 dc21 pm21 cd21 ct21 : Value} {od21 an21 : Option Addr} {sl21 : Array (Option Value)}
    (a21 : PySem.W.nsIn K mainGlobals "_law_text" = some (some (.ref f21))) (l21 : K.lookup f21 = some ⟨oc21, od21, .func (PySem.W.fnOf "_law_text" "_law_text" (defArgs s_l_text) (defBody s_l_text) (defScope s_l_text) .none kV21 dc21 pm21 an21 cd21 ct21), sl21⟩) (c21 : PySem.W.codeIn K cd21 "_law_text" = true) (k21 : PySem.W.keepIn K (.ref f21) = true)
    {f22 : Addr} {oc22 kV22 dc22 pm22 cd22 ct22 : Value} {od22 an22 : Option Addr} {sl22 : Array (Option Value)}
    (a22 : PySem.W.nsIn K mainGlobals "_law_told_right" = some (some (.ref f22))) (l22 : K.lookup f22 = some ⟨oc22, od22, .func (PySem.W.fnOf "_law_told_right" "_law_told_right" (defArgs s_l_told_right) (defBody s_l_told_right) (defScope s_l_told_right) .none kV22 dc22 pm22 an22 cd22 ct22), sl22⟩) (c22 : PySem.W.codeIn K cd22 "_law_told_right" = true) (k22 : PySem.W.keepIn K (.ref f22) = true)
    {f23 : Addr} {oc23 kV23 dc23 pm23 cd23 ct23 : Value} {od23 an23 : Option Addr} {sl23 : Array (Option Value)}
    (a23 : PySem.W.nsIn K mainGlobals "is_whole" = some (some (.ref f23))) (l23 : K.lookup f23 = some ⟨oc23, od23, .func (PySem.W.fnOf "is_whole" "is_whole" (defArgs s_is_whole) (defBody s_is_whole) (defScope s_is_whole) .none kV23 dc23 pm23 an23 cd23 ct23), sl23⟩) (c23 : PySem.W.codeIn K cd23 "is_whole" = true) (k23 : PySem.W.keepIn K (.ref f23) = true)
    {f24 : Addr} {oc24 kV24 dc24 pm24 cd24 ct24 : Value} {od24 an24 : Option Addr} {sl24 : Array (Option Value)}
    (a24 : PySem.W.nsIn K mainGlobals "is_between" = some (some (.ref f24))) (l24 : K.lookup f24 = some ⟨oc24, od24, .func (PySem.W.fnOf "is_between" "is_between" (defArgs s_is_between) (defBody s_is_between) (defScope s_is_between) .none kV24 dc24 pm24 an24 cd24 ct24), sl24⟩) (c24 : PySem.W.codeIn K cd24 "is_between" = true) (k24 : PySem.W.keepIn K (.ref f24) = true)
    {f25 : Addr} {oc25 kV25 dc25 pm25 cd25 ct25 : Value} {od25 an25 : Option Addr} {sl25 : Array (Option Value)}
    (a25 : PySem.W.nsIn K mainGlobals "check_number" = some (some (.ref f25))) (l25 : K.lookup f25 = some ⟨oc25, od25, .func (PySem.W.fnOf "check_number" "check_number" (defArgs s_check_number) (defBody s_check_number) (defScope s_check_number) .none kV25 dc25 pm25 an25 cd25 ct25), sl25⟩) (c25 : PySem.W.codeIn K cd25 "check_number" = true) (k25 : PySem.W.keepIn K (.ref f25) = true)
    {f26 : Addr} {oc26 kV26 dc26 pm26 cd26 ct26 : Value} {od26 an26 : Option Addr} {sl26 : Array (Option Value)}
    (a26 : PySem.W.nsIn K mainGlobals "check_depth" = some (some (.ref f26))) (l26 : K.lookup f26 = some ⟨oc26, od26, .func (PySem.W.fnOf "check_depth" "check_depth" (defArgs s_check_depth) (defBody s_check_depth) (defScope s_check_depth) .none kV26 dc26 pm26 an26 cd26 ct26), sl26⟩) (c26 : PySem.W.codeIn K cd26 "check_depth" = true) (k26 : PySem.W.keepIn K (.ref f26) = true)
    {f27 : Addr} {oc27 kV27 dc27 pm27 cd27 ct27 : Value} {od27 an27 : Option Addr} {sl27 : Array (Option Value)}
    (a27 : PySem.W.nsIn K mainGlobals "can_go" = some (some (.ref f27))) (l27 : K.lookup f27 = some ⟨oc27, od27, .func (PySem.W.fnOf "can_go" "can_go" (defArgs s_can_go) (defBody s_can_go) (defScope s_can_go) .none kV27 dc27 pm27 an27 cd27 ct27), sl27⟩) (c27 : PySem.W.codeIn K cd27 "can_go" = true) (k27 : PySem.W.keepIn K (.ref f27) = true)
    {f28 : Addr} {oc28 kV28 dc28 pm28 cd28 ct28 : Value} {od28 an28 : Option Addr} {sl28 : Array (Option Value)}
    (a28 : PySem.W.nsIn K mainGlobals "_law_goes" = some (some (.ref f28))) (l28 : K.lookup f28 = some ⟨oc28, od28, .func (PySem.W.fnOf "_law_goes" "_law_goes" (defArgs s_l_goes) (defBody s_l_goes) (defScope s_l_goes) .none kV28 dc28 pm28 an28 cd28 ct28), sl28⟩) (c28 : PySem.W.codeIn K cd28 "_law_goes" = true) (k28 : PySem.W.keepIn K (.ref f28) = true)
    {f29 : Addr} {oc29 kV29 dc29 pm29 cd29 ct29 : Value} {od29 an29 : Option Addr} {sl29 : Array (Option Value)}
    (a29 : PySem.W.nsIn K mainGlobals "_law_right" = some (some (.ref f29))) (l29 : K.lookup f29 = some ⟨oc29, od29, .func (PySem.W.fnOf "_law_right" "_law_right" (defArgs s_l_right) (defBody s_l_right) (defScope s_l_right) .none kV29 dc29 pm29 an29 cd29 ct29), sl29⟩) (c29 : PySem.W.codeIn K cd29 "_law_right" = true) (k29 : PySem.W.keepIn K (.ref f29) = true)
    {f30 : Addr} {oc30 kV30 dc30 pm30 cd30 ct30 : Value} {od30 an30 : Option Addr} {sl30 : Array (Option Value)}
    (a30 : PySem.W.nsIn K mainGlobals "_law_long_right" = some (some (.ref f30))) (l30 : K.lookup f30 = some ⟨oc30, od30, .func (PySem.W.fnOf "_law_long_right" "_law_long_right" (defArgs s_l_long_right) (defBody s_l_long_right) (defScope s_l_long_right) .none kV30 dc30 pm30 an30 cd30 ct30), sl30⟩) (c30 : PySem.W.codeIn K cd30 "_law_long_right" = true) (k30 : PySem.W.keepIn K (.ref f30) = true)
    {f31 : Addr} {oc31 kV31 dc31 pm31 cd31 ct31 : Value} {od31 an31 : Option Addr} {sl31 : Array (Option Value)}
    (a31 : PySem.W.nsIn K mainGlobals "law" = some (some (.ref f31))) (l31 : K.lookup f31 = some ⟨oc31, od31, .func (PySem.W.fnOf "law" "law" (defArgs s_law) (defBody s_law) (defScope s_law) .none kV31 dc31 pm31 an31 cd31 ct31), sl31⟩) (c31 : PySem.W.codeIn K cd31 "law" = true) (k31 : PySem.W.keepIn K (.ref f31) = true)
    (z_len : PySem.W.nsIn K mainGlobals "len" = some none)
    (z_range : PySem.W.nsIn K mainGlobals "range" = some none)
    (z_min : PySem.W.nsIn K mainGlobals "min" = some none)
    (z_enumerate : PySem.W.nsIn K mainGlobals "enumerate" = some none)
    (z_sum : PySem.W.nsIn K mainGlobals "sum" = some none)
    (z_int : PySem.W.nsIn K mainGlobals "int" = some none)
    (z_max : PySem.W.nsIn K mainGlobals "max" = some none)
    (z_repr : PySem.W.nsIn K mainGlobals "repr" = some none)
    (z_str : PySem.W.nsIn K mainGlobals "str" = some none)
    (z_isinstance : PySem.W.nsIn K mainGlobals "isinstance" = some none)
    (z_zip : PySem.W.nsIn K mainGlobals "zip" = some none)
    (z_list : PySem.W.nsIn K mainGlobals "list" = some none)
    (z_sorted : PySem.W.nsIn K mainGlobals "sorted" = some none)
    (z_bool : PySem.W.nsIn K mainGlobals "bool" = some none)
    {t_LETTERS : Tok} (y_LETTERS : PySem.W.nsIn K mainGlobals "LETTERS" = some (some (.str (mkS k_LETTERS) t_LETTERS)))
    : ∃ fd : FuncData, (∀ (s : Shared) (v : Value), BindsTo s fd ⟨[v], []⟩ [("_law_script", v)]) ∧ ∀ base : Heap, K.In base → base.Ns mainGlobals mg → FnG l.prog w K mg base 7 fa fd ["_law_script"] (spF K ms_law false F_law) := by
  have e := hfa.symm.trans (PySem.W.mg_of X G a31)
  cases e
  have F1 := fun_mk (st := s_l_row) l1 c1 k1
  have b1 := F1.binds (ps := ["_law_text_here"]) fun _ _ _ _ _ _ us hl => match us, hl with | [_], _ => rfl
  have F2 := fun_mk (st := s_l_long_ranks) l2 c2 k2
  have b2 := F2.binds (ps := ["_law_text_here"]) fun _ _ _ _ _ _ us hl => match us, hl with | [_], _ => rfl
  have F3 := fun_mk (st := s_l_cell) l3 c3 k3
  have b3 := F3.binds (ps := ["_law_script", "_law_index"]) fun _ _ _ _ _ _ us hl => match us, hl with | [_, _], _ => rfl
  have F4 := fun_mk (st := s_l_generator) l4 c4 k4
  have b4 := F4.binds (ps := ["_law_script", "_law_index"]) fun _ _ _ _ _ _ us hl => match us, hl with | [_, _], _ => rfl
  have F5 := fun_mk (st := s_l_same) l5 c5 k5
  have b5 := F5.binds (ps := ["_law_told", "_law_due"]) fun _ _ _ _ _ _ us hl => match us, hl with | [_, _], _ => rfl
  have F6 := fun_mk (st := s_is_string_of) l6 c6 k6
  have b6 := F6.binds (ps := ["value", "signs"]) fun _ _ _ _ _ _ us hl => match us, hl with | [_, _], _ => rfl
  have F7 := fun_mk (st := s_is_letters_alone) l7 c7 k7
  have b7 := F7.binds (ps := ["value"]) fun _ _ _ _ _ _ us hl => match us, hl with | [_], _ => rfl
  have F8 := fun_mk (st := s_check_text) l8 c8 k8
  have b8 := F8.binds (ps := ["text"]) fun _ _ _ _ _ _ us hl => match us, hl with | [_], _ => rfl
  have F9 := fun_mk (st := s_ranks_ahead) l9 c9 k9
  have b9 := F9.binds (ps := ["text"]) fun _ _ _ _ _ _ us hl => match us, hl with | [_], _ => rfl
  have F10 := fun_mk (st := s_ranks_of) l10 c10 k10
  have b10 := F10.binds (ps := ["text"]) fun _ _ _ _ _ _ us hl => match us, hl with | [_], _ => rfl
  have F11 := fun_mk (st := s_ranks) l11 c11 k11
  have b11 := F11.binds (ps := ["text"]) fun _ _ _ _ _ _ us hl => match us, hl with | [_], _ => rfl
  have F12 := fun_mk (st := s_l_hash) l12 c12 k12
  have b12 := F12.binds (ps := ["_law_seed", "_law_index"]) fun _ _ _ _ _ _ us hl => match us, hl with | [_, _], _ => rfl
  have F13 := fun_mk (st := s_l_random) l13 c13 k13
  have b13 := F13.binds (ps := ["_law_generator_here", "_law_bound"]) fun _ _ _ _ _ _ us hl => match us, hl with | [_, _], _ => rfl
  have F14 := fun_mk (st := s_l_size) l14 c14 k14
  have b14 := F14.binds (ps := ["_law_generator_here", "_law_least", "_law_most"]) fun _ _ _ _ _ _ us hl => match us, hl with | [_, _, _], _ => rfl
  have F15 := fun_mk (st := s_l_letters) l15 c15 k15
  have b15 := F15.binds (ps := ["_law_generator_here", "_law_least", "_law_most"]) fun _ _ _ _ _ _ us hl => match us, hl with | [_, _, _], _ => rfl
  have F16 := fun_mk (st := s_l_is_read) l16 c16 k16
  have b16 := F16.binds (ps := ["_law_word", "_law_text_here"]) fun _ _ _ _ _ _ us hl => match us, hl with | [_, _], _ => rfl
  have F17 := fun_mk (st := s_l_longer) l17 c17 k17
  have b17 := F17.binds (ps := ["_law_words", "_law_letters_here", "_law_text_here"]) fun _ _ _ _ _ _ us hl => match us, hl with | [_, _, _], _ => rfl
  have F18 := fun_mk (st := s_l_reads) l18 c18 k18
  have b18 := F18.binds (ps := ["_law_depth", "_law_text_here"]) fun _ _ _ _ _ _ us hl => match us, hl with | [_, _], _ => rfl
  have F19 := fun_mk (st := s_l_rank_ahead) l19 c19 k19
  have b19 := F19.binds (ps := ["_law_text_here", "_law_at"]) fun _ _ _ _ _ _ us hl => match us, hl with | [_, _], _ => rfl
  have F20 := fun_mk (st := s_l_ranks) l20 c20 k20
  have b20 := F20.binds (ps := ["_law_text_here"]) fun _ _ _ _ _ _ us hl => match us, hl with | [_], _ => rfl
  have F21 := fun_mk (st := s_l_text) l21 c21 k21
  have b21 := F21.binds (ps := ["_law_generator_here", "_law_letters_here", "_law_least", "_law_most"]) fun _ _ _ _ _ _ us hl => match us, hl with | [_, _, _, _], _ => rfl
  have F22 := fun_mk (st := s_l_told_right) l22 c22 k22
  have b22 := F22.binds (ps := ["_law_text_here", "_law_due"]) fun _ _ _ _ _ _ us hl => match us, hl with | [_, _], _ => rfl
  have F23 := fun_mk (st := s_is_whole) l23 c23 k23
  have b23 := F23.binds (ps := ["value"]) fun _ _ _ _ _ _ us hl => match us, hl with | [_], _ => rfl
  have F24 := fun_mk (st := s_is_between) l24 c24 k24
  have b24 := F24.binds (ps := ["value", "low", "high"]) fun _ _ _ _ _ _ us hl => match us, hl with | [_, _, _], _ => rfl
  have F25 := fun_mk (st := s_check_number) l25 c25 k25
  have b25 := F25.binds (ps := ["number", "low", "high"]) fun _ _ _ _ _ _ us hl => match us, hl with | [_, _, _], _ => rfl
  have F26 := fun_mk (st := s_check_depth) l26 c26 k26
  have b26 := F26.binds (ps := ["depth"]) fun _ _ _ _ _ _ us hl => match us, hl with | [_], _ => rfl
  have F27 := fun_mk (st := s_can_go) l27 c27 k27
  have b27 := F27.binds (ps := ["depth", "text"]) fun _ _ _ _ _ _ us hl => match us, hl with | [_, _], _ => rfl
  have F28 := fun_mk (st := s_l_goes) l28 c28 k28
  have b28 := F28.binds (ps := ["_law_depth", "_law_text_here"]) fun _ _ _ _ _ _ us hl => match us, hl with | [_, _], _ => rfl
  have F29 := fun_mk (st := s_l_right) l29 c29 k29
  have b29 := F29.binds (ps := ["_law_generator_here"]) fun _ _ _ _ _ _ us hl => match us, hl with | [_], _ => rfl
  have F30 := fun_mk (st := s_l_long_right) l30 c30 k30
  have b30 := F30.binds (ps := ["_law_generator_here"]) fun _ _ _ _ _ _ us hl => match us, hl with | [_], _ => rfl
  have F31 := fun_mk (st := s_law) l31 c31 k31
  have b31 := F31.binds (ps := ["_law_script"]) fun _ _ _ _ _ _ us hl => match us, hl with | [_], _ => rfl
  let T : Names K mg := ⟨_, _, F1, PySem.W.mg_of X G a1, b1,
    _, _, F2, PySem.W.mg_of X G a2, b2,
    _, _, F3, PySem.W.mg_of X G a3, b3,
    _, _, F4, PySem.W.mg_of X G a4, b4,
    _, _, F5, PySem.W.mg_of X G a5, b5,
    _, _, F6, PySem.W.mg_of X G a6, b6,
    _, _, F7, PySem.W.mg_of X G a7, b7,
    _, _, F8, PySem.W.mg_of X G a8, b8,
    _, _, F9, PySem.W.mg_of X G a9, b9,
    _, _, F10, PySem.W.mg_of X G a10, b10,
    _, _, F11, PySem.W.mg_of X G a11, b11,
    _, _, F12, PySem.W.mg_of X G a12, b12,
    _, _, F13, PySem.W.mg_of X G a13, b13,
    _, _, F14, PySem.W.mg_of X G a14, b14,
    _, _, F15, PySem.W.mg_of X G a15, b15,
    _, _, F16, PySem.W.mg_of X G a16, b16,
    _, _, F17, PySem.W.mg_of X G a17, b17,
    _, _, F18, PySem.W.mg_of X G a18, b18,
    _, _, F19, PySem.W.mg_of X G a19, b19,
    _, _, F20, PySem.W.mg_of X G a20, b20,
    _, _, F21, PySem.W.mg_of X G a21, b21,
    _, _, F22, PySem.W.mg_of X G a22, b22,
    _, _, F23, PySem.W.mg_of X G a23, b23,
    _, _, F24, PySem.W.mg_of X G a24, b24,
    _, _, F25, PySem.W.mg_of X G a25, b25,
    _, _, F26, PySem.W.mg_of X G a26, b26,
    _, _, F27, PySem.W.mg_of X G a27, b27,
    _, _, F28, PySem.W.mg_of X G a28, b28,
    _, _, F29, PySem.W.mg_of X G a29, b29,
    _, _, F30, PySem.W.mg_of X G a30, b30,
    _, _, F31, PySem.W.mg_of X G a31, b31,
    PySem.W.mg_none_of X G z_len,
    PySem.W.mg_none_of X G z_range,
    PySem.W.mg_none_of X G z_min,
    PySem.W.mg_none_of X G z_enumerate,
    PySem.W.mg_none_of X G z_sum,
    PySem.W.mg_none_of X G z_int,
    PySem.W.mg_none_of X G z_max,
    PySem.W.mg_none_of X G z_repr,
    PySem.W.mg_none_of X G z_str,
    PySem.W.mg_none_of X G z_isinstance,
    PySem.W.mg_none_of X G z_zip,
    PySem.W.mg_none_of X G z_list,
    PySem.W.mg_none_of X G z_sorted,
    PySem.W.mg_none_of X G z_bool,
    _, PySem.W.mg_of X G y_LETTERS⟩
  exact ⟨T.d_law, fun s v => .of_eq rfl, fun base _ _ => ok_law T⟩
/-- the law's own promise, from what its code gives -/
theorem law_sp {K : PySem.W.Frag} {H : Hp} {a : Addr} {ns : List Int} (hl : ns.length ≤ 63) (hS : SqL K H a (ns.map V.int)) (ht : F_law [.fls (ns.map D.int)] = some (.bl true, [])) : spF K ms_law false F_law [.ref a] H (fun v _ => v = .bl true) fun _ _ _ => False :=
  ⟨H, [.fls (ns.map D.int)], .bl true, [], Ex.refl H, ⟨⟨a, ns.map V.int, rfl, hS, Reps.ints ns⟩, trivial⟩, one_apart rfl _, ht, fun _ _ _ _ _ rv => rv⟩
end Dv
open PySem PySem.W PyProof.Rows
set_option maxHeartbeats 0 in
theorem PySem.Challenge.cw_skipcounts_k78_ranks_of_places_holds : PySem.Challenge.rw_skipcounts_k78_ranks_of_places.Holds := by
  w_on; o_law; k_head; (case hw => w_witness2)
  k_fill
  refine Dv.walk_G (l := PySem.Challenge.rw_skipcounts_k78_ranks_of_places) (n := 63) (k := 7) (x := "_law_script") (sp := fun w => Dv.spF _ Dv.ms_law false Dv.F_law) rfl (by decide) rfl ⟨rfl, by decide, by decide⟩ (fun w h Y => PySem.W.kIn_of Y) ?F (fun _ _ a ns hl hS => Dv.law_sp hl hS (Dv.law_true ns hl))
  case F =>
    intro w mg fa h KX G hmg
    refine' Dv.all_mk KX G hmg ?a1 ?l1 ?c1 ?k1 ?a2 ?l2 ?c2 ?k2 ?a3 ?l3 ?c3 ?k3 ?a4 ?l4 ?c4 ?k4 ?a5 ?l5 ?c5 ?k5 ?a6 ?l6 ?c6 ?k6 ?a7 ?l7 ?c7 ?k7 ?a8 ?l8 ?c8 ?k8 ?a9 ?l9 ?c9 ?k9 ?a10 ?l10 ?c10 ?k10 ?a11 ?l11 ?c11 ?k11 ?a12 ?l12 ?c12 ?k12 ?a13 ?l13 ?c13 ?k13 ?a14 ?l14 ?c14 ?k14 ?a15 ?l15 ?c15 ?k15 ?a16 ?l16 ?c16 ?k16 ?a17 ?l17 ?c17 ?k17 ?a18 ?l18 ?c18 ?k18 ?a19 ?l19 ?c19 ?k19 ?a20 ?l20 ?c20 ?k20 ?a21 ?l21 ?c21 ?k21 ?a22 ?l22 ?c22 ?k22 ?a23 ?l23 ?c23 ?k23 ?a24 ?l24 ?c24 ?k24 ?a25 ?l25 ?c25 ?k25 ?a26 ?l26 ?c26 ?k26 ?a27 ?l27 ?c27 ?k27 ?a28 ?l28 ?c28 ?k28 ?a29 ?l29 ?c29 ?k29 ?a30 ?l30 ?c30 ?k30 ?a31 ?l31 ?c31 ?k31 ?z_len ?z_range ?z_min ?z_enumerate ?z_sum ?z_int ?z_max ?z_repr ?z_str ?z_isinstance ?z_zip ?z_list ?z_sorted ?z_bool ?y_LETTERS
    (case a1 => k_is)
    (case l1 => k_is)
    (case c1 => k_is)
    (case k1 => k_is)
    (case a2 => k_is)
    (case l2 => k_is)
    (case c2 => k_is)
    (case k2 => k_is)
    (case a3 => k_is)
    (case l3 => k_is)
    (case c3 => k_is)
    (case k3 => k_is)
    (case a4 => k_is)
    (case l4 => k_is)
    (case c4 => k_is)
    (case k4 => k_is)
    (case a5 => k_is)
    (case l5 => k_is)
    (case c5 => k_is)
    (case k5 => k_is)
    (case a6 => k_is)
    (case l6 => k_is)
    (case c6 => k_is)
    (case k6 => k_is)
    (case a7 => k_is)
    (case l7 => k_is)
    (case c7 => k_is)
    (case k7 => k_is)
    (case a8 => k_is)
    (case l8 => k_is)
    (case c8 => k_is)
    (case k8 => k_is)
    (case a9 => k_is)
    (case l9 => k_is)
    (case c9 => k_is)
    (case k9 => k_is)
    (case a10 => k_is)
    (case l10 => k_is)
    (case c10 => k_is)
    (case k10 => k_is)
    (case a11 => k_is)
    (case l11 => k_is)
    (case c11 => k_is)
    (case k11 => k_is)
    (case a12 => k_is)
    (case l12 => k_is)
    (case c12 => k_is)
    (case k12 => k_is)
    (case a13 => k_is)
    (case l13 => k_is)
    (case c13 => k_is)
    (case k13 => k_is)
    (case a14 => k_is)
    (case l14 => k_is)
    (case c14 => k_is)
    (case k14 => k_is)
    (case a15 => k_is)
    (case l15 => k_is)
    (case c15 => k_is)
    (case k15 => k_is)
    (case a16 => k_is)
    (case l16 => k_is)
    (case c16 => k_is)
    (case k16 => k_is)
    (case a17 => k_is)
    (case l17 => k_is)
    (case c17 => k_is)
    (case k17 => k_is)
    (case a18 => k_is)
    (case l18 => k_is)
    (case c18 => k_is)
    (case k18 => k_is)
    (case a19 => k_is)
    (case l19 => k_is)
    (case c19 => k_is)
    (case k19 => k_is)
    (case a20 => k_is)
    (case l20 => k_is)
    (case c20 => k_is)
    (case k20 => k_is)
    (case a21 => k_is)
    (case l21 => k_is)
    (case c21 => k_is)
    (case k21 => k_is)
    (case a22 => k_is)
    (case l22 => k_is)
    (case c22 => k_is)
    (case k22 => k_is)
    (case a23 => k_is)
    (case l23 => k_is)
    (case c23 => k_is)
    (case k23 => k_is)
    (case a24 => k_is)
    (case l24 => k_is)
    (case c24 => k_is)
    (case k24 => k_is)
    (case a25 => k_is)
    (case l25 => k_is)
    (case c25 => k_is)
    (case k25 => k_is)
    (case a26 => k_is)
    (case l26 => k_is)
    (case c26 => k_is)
    (case k26 => k_is)
    (case a27 => k_is)
    (case l27 => k_is)
    (case c27 => k_is)
    (case k27 => k_is)
    (case a28 => k_is)
    (case l28 => k_is)
    (case c28 => k_is)
    (case k28 => k_is)
    (case a29 => k_is)
    (case l29 => k_is)
    (case c29 => k_is)
    (case k29 => k_is)
    (case a30 => k_is)
    (case l30 => k_is)
    (case c30 => k_is)
    (case k30 => k_is)
    (case a31 => k_is)
    (case l31 => k_is)
    (case c31 => k_is)
    (case k31 => k_is)
    (case z_len => k_is)
    (case z_range => k_is)
    (case z_min => k_is)
    (case z_enumerate => k_is)
    (case z_sum => k_is)
    (case z_int => k_is)
    (case z_max => k_is)
    (case z_repr => k_is)
    (case z_str => k_is)
    (case z_isinstance => k_is)
    (case z_zip => k_is)
    (case z_list => k_is)
    (case z_sorted => k_is)
    (case z_bool => k_is)
    (case y_LETTERS => k_is)
