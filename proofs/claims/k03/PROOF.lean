import PyProof.Rows.All
import Wide.All
import OpenK.AllK
import Wide.FinOn
import HandS.ForMost
import HandS.Wide
import HandS.Evl
import HandS.WideBits
import HandS.IsInst
import HandS.TupAny
import HandS.StrMore
import HandS.Style
import HandS.Set
import HandS.Strs
import HandS.Defaults
import HandS.TupLe
import HandS.Replace
import HandS.Conv
import KE.GoesEnum
import KE.GoesEnumKw
import KE.GoesZip
import KE.GoesMore
import HandS.Rev
import HandS.RevTup
import PyProof.StrOps
import HandS.List
import PyProof.ListStr
import HandS.Sort
import HandS.SortOrd
import HandS.SortRule
import HandS.SortInts
import HandS.Spec
import KE.KSortTup
import KE.KSortTupAny
import HandS.Call
import HandS.Words
import HandS.Ends
import KE.DatumIndex
import PyProof.ReprRoads
import PySem.Challenge.RW_skipcounts_k03_great_counts
set_option Elab.async false
set_option linter.all false
set_option maxRecDepth 100000
set_option maxHeartbeats 4000000
/-! Data as trees over the heap; a frame's slots; one step of the frame. -/
namespace Dv
open PySem PySem.Spec PyProof.Rows L2 Evl

/-- plain data: what a value stands for -/
inductive D where
  | non | bl (b : Bool) | int (i : Int) | str (s : List Nat) | ty (n : String)
  | lst (xs : List D) | tup (xs : List D) | fls (xs : List D)
  | dic

abbrev mkS (s : List Nat) : Str := ⟨s.toArray⟩
theorem mkS_len (s : List Nat) : (mkS s).length = s.length := by simp [mkS, Str.length]
theorem mkS_tl (s : List Nat) : (mkS s).cps.toList = s := rfl
theorem mkS_inj {s t : List Nat} (h : mkS s = mkS t) : s = t := by
  have := congrArg (fun x : Str => x.cps.toList) h
  exact this

mutual
def Rep (K : PySem.W.Frag) (B : Hp) : D → V → Prop
  | .non, v => v = .non
  | .bl b, v => v = .bl b
  | .int i, v => v = .int i
  | .str s, v => v = .str (mkS s)
  | .ty n, v => v = .ty n
  | .lst ds, v => ∃ a vs, v = .ref a ∧ B a = some (.lst vs) ∧ Reps K B ds vs
  | .tup ds, v => ∃ a vs, v = .ref a ∧ SqT K B a vs ∧ Reps K B ds vs
  | .fls ds, v => ∃ a vs, v = .ref a ∧ SqL K B a vs ∧ Reps K B ds vs
  | .dic, v => ∃ a, v = .ref a ∧ B a = some (.dK [])
def Reps (K : PySem.W.Frag) (B : Hp) : List D → List V → Prop
  | [], vs => vs = []
  | d :: ds, vs => ∃ v r, vs = v :: r ∧ Rep K B d v ∧ Reps K B ds r
end

mutual
theorem Rep.mono {K : PySem.W.Frag} {B B' : Hp} (e : Ex B B') : ∀ (d : D) (v : V), Rep K B d v → Rep K B' d v
  | .non, v, h => h
  | .bl _, v, h => h
  | .int _, v, h => h
  | .str _, v, h => h
  | .ty _, v, h => h
  | .dic, v, h => by
    obtain ⟨a, h1, h2⟩ := h
    exact ⟨a, h1, e _ _ h2⟩
  | .lst ds, v, h => by
    obtain ⟨a, vs, h1, h2, h3⟩ := h
    exact ⟨a, vs, h1, e _ _ h2, Reps.mono e ds vs h3⟩
  | .tup ds, v, h => by
    obtain ⟨a, vs, h1, h2, h3⟩ := h
    exact ⟨a, vs, h1, ex_t e h2, Reps.mono e ds vs h3⟩
  | .fls ds, v, h => by
    obtain ⟨a, vs, h1, h2, h3⟩ := h
    exact ⟨a, vs, h1, ex_l e h2, Reps.mono e ds vs h3⟩
theorem Reps.mono {K : PySem.W.Frag} {B B' : Hp} (e : Ex B B') : ∀ (ds : List D) (vs : List V), Reps K B ds vs → Reps K B' ds vs
  | [], vs, h => h
  | d :: ds, vs, h => by
    obtain ⟨v, r, h1, h2, h3⟩ := h
    exact ⟨v, r, h1, Rep.mono e d v h2, Reps.mono e ds r h3⟩
end

section
variable {K : PySem.W.Frag} {B : Hp}
theorem Reps.length : ∀ {ds : List D} {vs : List V}, Reps K B ds vs → vs.length = ds.length
  | [], _, h => by cases h; rfl
  | d :: ds, _, h => by
    obtain ⟨v, r, rfl, _, h3⟩ := h
    show r.length + 1 = ds.length + 1
    rw [h3.length]
theorem Reps.get : ∀ {ds : List D} {vs : List V} {i : Nat} {d : D}, Reps K B ds vs → ds[i]? = some d → ∃ v, vs[i]? = some v ∧ Rep K B d v
  | [], _, _, _, _, e => by simp at e
  | d :: ds, _, 0, _, h, e => by
    obtain ⟨v, r, rfl, h2, _⟩ := h
    simp at e; subst e
    exact ⟨v, rfl, h2⟩
  | d :: ds, _, i + 1, _, h, e => by
    obtain ⟨v, r, rfl, _, h3⟩ := h
    obtain ⟨u, q1, q2⟩ := Reps.get (i := i) h3 (by simpa using e)
    exact ⟨u, by simpa using q1, q2⟩
theorem Reps.get' {ds : List D} {vs : List V} {i : Nat} {v : V} (h : Reps K B ds vs) (e : vs[i]? = some v) : ∃ d, ds[i]? = some d ∧ Rep K B d v := by
  have hl := h.length
  have hi : i < vs.length := by
    rcases Nat.lt_or_ge i vs.length with q | q
    · exact q
    · rw [List.getElem?_eq_none q] at e; cases e
  have hd : ds[i]? = some (ds[i]'(by omega)) := List.getElem?_eq_getElem (by omega)
  obtain ⟨u, q1, q2⟩ := h.get hd
  rw [e] at q1; cases q1
  exact ⟨_, hd, q2⟩
theorem Reps.append : ∀ {ds es : List D} {vs us : List V}, Reps K B ds vs → Reps K B es us → Reps K B (ds ++ es) (vs ++ us)
  | [], _, _, _, h, q => by cases h; exact q
  | d :: ds, _, _, _, h, q => by
    obtain ⟨v, r, rfl, h2, h3⟩ := h
    exact ⟨v, _, rfl, h2, h3.append q⟩
theorem Reps.set : ∀ {ds : List D} {vs : List V} {d : D} {v : V} (i : Nat), Reps K B ds vs → Rep K B d v → Reps K B (ds.set i d) (vs.set i v)
  | [], _, _, _, _, h, _ => by cases h; rfl
  | _ :: _, _, _, _, 0, h, q => by
    obtain ⟨w, r, rfl, h2, h3⟩ := h
    exact ⟨_, _, rfl, q, h3⟩
  | _ :: _, _, _, _, i + 1, h, q => by
    obtain ⟨w, r, rfl, h2, h3⟩ := h
    exact ⟨_, _, rfl, h2, h3.set i q⟩
theorem Reps.take : ∀ {ds : List D} {vs : List V} (n : Nat), Reps K B ds vs → Reps K B (ds.take n) (vs.take n)
  | _, _, 0, _ => by simp only [List.take_zero]; rfl
  | [], _, n + 1, h => by cases h; rfl
  | d :: ds, _, n + 1, h => by
    obtain ⟨v, r, rfl, h2, h3⟩ := h
    exact ⟨v, _, rfl, h2, h3.take n⟩
theorem Reps.drop : ∀ {ds : List D} {vs : List V} (n : Nat), Reps K B ds vs → Reps K B (ds.drop n) (vs.drop n)
  | _, _, 0, h => h
  | [], _, n + 1, h => by cases h; rfl
  | d :: ds, _, n + 1, h => by
    obtain ⟨v, r, rfl, h2, h3⟩ := h
    exact h3.drop n
theorem Reps.reverse : ∀ {ds : List D} {vs : List V}, Reps K B ds vs → Reps K B ds.reverse vs.reverse
  | [], _, h => by cases h; rfl
  | d :: ds, _, h => by
    obtain ⟨v, r, rfl, h2, h3⟩ := h
    rw [List.reverse_cons, List.reverse_cons]
    exact h3.reverse.append ⟨v, [], rfl, h2, rfl⟩
theorem Reps.flat {ds : List D} {vs : List V} (h : Reps K B ds vs) : ∀ n : Nat, Reps K B (List.replicate n ds).flatten (List.replicate n vs).flatten
  | 0 => rfl
  | n + 1 => by
    rw [List.replicate_succ, List.replicate_succ, List.flatten_cons, List.flatten_cons]
    exact h.append (h.flat n)
theorem Reps.one {d : D} {v : V} (h : Rep K B d v) : Reps K B [d] [v] := ⟨v, [], rfl, h, rfl⟩
theorem Reps.ints : ∀ (ns : List Int), Reps K B (ns.map D.int) (ns.map V.int)
  | [] => rfl
  | n :: ns => ⟨.int n, ns.map V.int, rfl, rfl, Reps.ints ns⟩
theorem Reps.of_ints : ∀ {ns : List Int} {vs : List V}, Reps K B (ns.map D.int) vs → vs = ns.map V.int
  | [], _, h => h
  | n :: ns, _, h => by
    obtain ⟨v, r, rfl, h2, h3⟩ := h
    have h2 : v = .int n := h2
    rw [h2, Reps.of_ints h3]; rfl
theorem Reps.of_strs : ∀ {ns : List (List Nat)} {vs : List V}, Reps K B (ns.map D.str) vs → vs = (ns.map mkS).map V.str
  | [], _, h => h
  | n :: ns, _, h => by
    obtain ⟨v, r, rfl, h2, h3⟩ := h
    have h2 : v = .str (mkS n) := h2
    rw [h2, Reps.of_strs h3]; rfl
end

/-- a local name: not told, some data, or a list that only this name has (pinned: it is also the caller's) -/
inductive Lv where
  | no | val (d : D) | own (pin : Bool) (d : D)
abbrev Lvs := List Lv

/-- what stands at an owned address -/
def OwnAt (K : PySem.W.Frag) (B : Hp) (o : Option HO) : D → Prop
  | .lst ds => ∃ vs, o = some (.lst vs) ∧ Reps K B ds vs
  | _ => False
theorem OwnAt.mono {K : PySem.W.Frag} {B B' : Hp} {o : Option HO} (e : Ex B B') : ∀ {d : D}, OwnAt K B o d → OwnAt K B' o d
  | .lst ds, ⟨vs, h1, h2⟩ => ⟨vs, h1, Reps.mono e _ _ h2⟩
  | .non, h => h.elim
  | .bl _, h => h.elim
  | .int _, h => h.elim
  | .str _, h => h.elim
  | .ty _, h => h.elim
  | .dic, h => h.elim
  | .tup _, h => h.elim
  | .fls _, h => h.elim
theorem OwnAt.there {K : PySem.W.Frag} {B : Hp} {o : Option HO} : ∀ {d : D}, OwnAt K B o d → ∃ u, o = some u
  | .lst ds, ⟨vs, h1, h2⟩ => ⟨_, h1⟩
  | .non, h => h.elim
  | .bl _, h => h.elim
  | .int _, h => h.elim
  | .str _, h => h.elim
  | .ty _, h => h.elim
  | .dic, h => h.elim
  | .tup _, h => h.elim
  | .fls _, h => h.elim
/-- .. given up: it is data from now on -/
theorem OwnAt.rep {K : PySem.W.Frag} {B : Hp} {a : Addr} {u : HO} (hn : B a = none) : ∀ {d : D}, OwnAt K B (some u) d → Rep K (upd B a u) d (.ref a)
  | .lst ds, ⟨vs, h1, h2⟩ => by
    cases h1
    exact ⟨a, vs, rfl, upd_same, Reps.mono (Ex.new hn) _ _ h2⟩
  | .non, h => h.elim
  | .bl _, h => h.elim
  | .int _, h => h.elim
  | .str _, h => h.elim
  | .ty _, h => h.elim
  | .dic, h => h.elim
  | .tup _, h => h.elim
  | .fls _, h => h.elim

def OwnP (σ : L2.St) (env : Lvs) (p : Bool) (a : Addr) : Prop := ∃ (i : Nat) (d : D), env[i]? = some (.own p d) ∧ σ[i]? = some (some (.ref a))
def IsOwn (σ : L2.St) (env : Lvs) (a : Addr) : Prop := ∃ (i : Nat) (p : Bool) (d : D), env[i]? = some (.own p d) ∧ σ[i]? = some (some (.ref a))
theorem IsOwn.of {σ : L2.St} {env : Lvs} {p : Bool} {a : Addr} : OwnP σ env p a → IsOwn σ env a := fun ⟨i, d, h⟩ => ⟨i, p, d, h⟩

/-- where a piece of code was entered -/
structure Ent where
  B : Hp
  H : Hp
  L : Bool → Addr → Prop
  P : Nat → Option V

/-- B: the data, known and not to change. H: the heap. The slots σ stand for env. -/
structure Ok (K : PySem.W.Frag) (G : Ent) (B H : Hp) (σ : L2.St) (env : Lvs) : Prop where
  len : env.length = σ.length
  sub : Ex B H
  val : ∀ (i : Nat) (d : D), env[i]? = some (.val d) → ∃ v, σ[i]? = some (some v) ∧ Rep K B d v
  own : ∀ (i : Nat) (p : Bool) (d : D), env[i]? = some (.own p d) → ∃ a, σ[i]? = some (some (.ref a)) ∧ B a = none ∧ OwnAt K B (H a) d ∧ (G.H a = none ∨ G.L p a)
  dis : ∀ (i j : Nat) (a : Addr) (p q : Bool) (d e : D), env[i]? = some (.own p d) → env[j]? = some (.own q e) → σ[i]? = some (some (.ref a)) → σ[j]? = some (some (.ref a)) → i = j
  pin : ∀ (i : Nat) (d : D), env[i]? = some (.own true d) → ∃ v, G.P i = some v ∧ σ[i]? = some (some v)
  mono : Ex G.B B
  keep : ∀ a o, G.H a = some o → (∀ p, ¬ G.L p a) → H a = some o
  new : ∀ a o, B a = some o → (∃ u, G.B a = some u) ∨ G.H a = none ∨ ∃ p, G.L p a
  live : ∀ a, H a = none → G.H a = none

def pinsOf (σ : L2.St) (env : Lvs) (i : Nat) : Option V := match env[i]? with
  | some (.own true _) => (σ[i]?).join
  | _ => none
/-- entered here -/
def Ent.at (B H : Hp) (σ : L2.St) (env : Lvs) : Ent := ⟨B, H, OwnP σ env, pinsOf σ env⟩

section
variable {K : PySem.W.Frag} {G : Ent} {B B1 B2 H H1 H2 : Hp} {σ σ' : L2.St} {env env1 env2 : Lvs}
theorem Ok.self (h : Ok K G B H σ env) : Ok K (Ent.at B H σ env) B H σ env where
  len := h.len
  sub := h.sub
  val := h.val
  own := fun i p d e => by
    obtain ⟨a, h1, h2, h3, _⟩ := h.own i p d e
    exact ⟨a, h1, h2, h3, .inr ⟨i, d, e, h1⟩⟩
  dis := h.dis
  pin := fun i d e => by
    obtain ⟨v, _, h2⟩ := h.pin i d e
    refine ⟨v, ?_, h2⟩
    show pinsOf σ env i = some v
    unfold pinsOf
    rw [e, h2]
    rfl
  mono := Ex.refl _
  keep := fun _ _ e _ => e
  new := fun a o e => .inl ⟨o, e⟩
  live := fun _ e => e
theorem Ok.comp (h1 : Ok K G B1 H1 σ env1) (h2 : Ok K (Ent.at B1 H1 σ env1) B2 H2 σ' env2) : Ok K G B2 H2 σ' env2 where
  len := h2.len
  sub := h2.sub
  val := h2.val
  own := fun i p d e => by
    obtain ⟨a, q1, q2, q3, q4⟩ := h2.own i p d e
    refine ⟨a, q1, q2, q3, ?_⟩
    rcases q4 with q4 | ⟨j, d', e', s'⟩
    · exact .inl (h1.live a q4)
    · obtain ⟨b, r1, _, _, r4⟩ := h1.own j p d' e'
      rw [s'] at r1
      cases r1
      exact r4
  dis := h2.dis
  pin := fun i d e => by
    obtain ⟨v, q1, q2⟩ := h2.pin i d e
    have q1 : pinsOf σ env1 i = some v := q1
    unfold pinsOf at q1
    split at q1
    · rename_i d' e'
      obtain ⟨v', r1, r2⟩ := h1.pin i d' e'
      rw [r2] at q1
      have q1 : some v' = some v := q1
      cases q1
      exact ⟨_, r1, q2⟩
    · cases q1
  mono := h1.mono.trans h2.mono
  keep := fun a o e n => h2.keep a o (h1.keep a o e n) fun p ⟨i, d, q1, q2⟩ => by
    obtain ⟨b, r1, _, _, r4⟩ := h1.own i p d q1
    rw [q2] at r1
    cases r1
    rcases r4 with r4 | r4
    · rw [e] at r4; cases r4
    · exact n p r4
  new := fun a o e => by
    rcases h2.new a o e with ⟨u, q⟩ | q | ⟨p, i, d, q1, q2⟩
    · exact h1.new a u q
    · exact .inr (.inl (h1.live a q))
    · obtain ⟨b, r1, _, _, r4⟩ := h1.own i p d q1
      rw [q2] at r1
      cases r1
      exact .inr (r4.imp id fun z => ⟨p, z⟩)
  live := fun a e => h1.live a (h2.live a e)
/-- data laid new -/
theorem Ok.lay (h : Ok K G B H σ env) {p : Addr} {o : HO} (hp : H p = none) : Ok K G (upd B p o) (upd H p o) σ env where
  len := h.len
  sub := fun a u e => by
    by_cases c : a = p
    · subst c; rw [upd_same] at e; cases e; exact upd_same
    · rw [upd_ne c] at e; rw [upd_ne c]; exact h.sub a u e
  val := fun i d e => by
    obtain ⟨v, q1, q2⟩ := h.val i d e
    exact ⟨v, q1, Rep.mono (Ex.new (fresh_back h.sub hp)) _ _ q2⟩
  own := fun i q d e => by
    obtain ⟨a, q1, q2, q3, q4⟩ := h.own i q d e
    have hne : a ≠ p := fun c => by
      obtain ⟨u, hu⟩ := q3.there
      rw [c, hp] at hu; cases hu
    refine ⟨a, q1, by rw [upd_ne hne]; exact q2, ?_, q4⟩
    rw [upd_ne hne]
    exact q3.mono (Ex.new (fresh_back h.sub hp))
  dis := h.dis
  pin := h.pin
  mono := h.mono.trans (Ex.new (fresh_back h.sub hp))
  keep := fun a u e n => by
    have q := h.keep a u e n
    rw [upd_ne (ne_of_none q hp)]; exact q
  new := fun a u e => by
    by_cases c : a = p
    · subst c; exact .inr (.inl (h.live _ hp))
    · rw [upd_ne c] at e; exact h.new a u e
  live := fun a e => by
    by_cases c : a = p
    · subst c; exact h.live _ hp
    · rw [upd_ne c] at e; exact h.live a e
/-- an object laid that nobody has yet -/
theorem Ok.tmp (h : Ok K G B H σ env) {p : Addr} {o : HO} (hp : H p = none) : Ok K G B (upd H p o) σ env where
  len := h.len
  sub := fun a u e => by
    have q := h.sub a u e
    rw [upd_ne (ne_of_none q hp)]; exact q
  val := h.val
  own := fun i q d e => by
    obtain ⟨a, q1, q2, q3, q4⟩ := h.own i q d e
    have hne : a ≠ p := fun c => by
      obtain ⟨u, hu⟩ := q3.there
      rw [c, hp] at hu; cases hu
    exact ⟨a, q1, q2, by rw [upd_ne hne]; exact q3, q4⟩
  dis := h.dis
  pin := h.pin
  mono := h.mono
  keep := fun a u e n => by
    have q := h.keep a u e n
    rw [upd_ne (ne_of_none q hp)]; exact q
  new := h.new
  live := fun a e => by
    by_cases c : a = p
    · subst c; exact h.live _ hp
    · rw [upd_ne c] at e; exact h.live a e
/-- an object of nobody's changes -/
theorem Ok.tmpSet (h : Ok K G B H σ env) {p : Addr} {o : HO} (hB : B p = none) (hG : G.H p = none) (hO : ¬ IsOwn σ env p) : Ok K G B (upd H p o) σ env where
  len := h.len
  sub := fun a u e => by
    rw [upd_ne (ne_of_none e hB)]; exact h.sub a u e
  val := h.val
  own := fun i q d e => by
    obtain ⟨a, q1, q2, q3, q4⟩ := h.own i q d e
    have hne : a ≠ p := fun c => hO ⟨i, q, d, e, c ▸ q1⟩
    exact ⟨a, q1, q2, by rw [upd_ne hne]; exact q3, q4⟩
  dis := h.dis
  pin := h.pin
  mono := h.mono
  keep := fun a u e n => by
    rw [upd_ne (ne_of_none e hG)]; exact h.keep a u e n
  new := h.new
  live := fun a e => by
    by_cases c : a = p
    · subst c; exact hG
    · rw [upd_ne c] at e; exact h.live a e
/-- .. it becomes data -/
theorem Ok.give (h : Ok K G B H σ env) {p : Addr} {o : HO} (hp : H p = some o) (hB : B p = none) (hG : G.H p = none) (hO : ¬ IsOwn σ env p) : Ok K G (upd B p o) H σ env where
  len := h.len
  sub := fun a u e => by
    by_cases c : a = p
    · subst c; rw [upd_same] at e; cases e; exact hp
    · rw [upd_ne c] at e; exact h.sub a u e
  val := fun i d e => by
    obtain ⟨v, q1, q2⟩ := h.val i d e
    exact ⟨v, q1, Rep.mono (Ex.new hB) _ _ q2⟩
  own := fun i q d e => by
    obtain ⟨a, q1, q2, q3, q4⟩ := h.own i q d e
    have hne : a ≠ p := fun c => hO ⟨i, q, d, e, c ▸ q1⟩
    exact ⟨a, q1, by rw [upd_ne hne]; exact q2, q3.mono (Ex.new hB), q4⟩
  dis := h.dis
  pin := h.pin
  mono := h.mono.trans (Ex.new hB)
  keep := h.keep
  new := fun a u e => by
    by_cases c : a = p
    · subst c; exact .inr (.inl hG)
    · rw [upd_ne c] at e; exact h.new a u e
  live := h.live
theorem get_set_own {i j : Nat} {x : Lv} {p : Bool} {d : D} (h : (env.set i x)[j]? = some (.own p d)) (hx : ∀ p d, x ≠ .own p d) : j ≠ i ∧ env[j]? = some (.own p d) := by
  by_cases c : j = i
  · subst c
    by_cases hl : j < env.length
    · rw [List.getElem?_set_self hl] at h
      exact absurd (Option.some.inj h) (hx p d)
    · rw [List.getElem?_eq_none (by rw [List.length_set]; omega)] at h; cases h
  · rw [List.getElem?_set_ne (Ne.symm c)] at h
    exact ⟨c, h⟩
/-- a name takes data (or is told no more) -/
theorem Ok.store (h : Ok K G B H σ env) {i : Nat} {d : D} {v : V} (r : Rep K B d v) : Ok K G B H (σ.set i (some v)) (env.set i (.val d)) where
  len := by simp [h.len]
  sub := h.sub
  val := fun j e q => by
    by_cases c : j = i
    · subst c
      by_cases hl : j < env.length
      · rw [List.getElem?_set_self hl] at q
        cases q
        exact ⟨v, List.getElem?_set_self (h.len ▸ hl), r⟩
      · rw [List.getElem?_eq_none (by rw [List.length_set]; omega)] at q; cases q
    · rw [List.getElem?_set_ne (Ne.symm c)] at q
      rw [List.getElem?_set_ne (Ne.symm c)]
      exact h.val j e q
  own := fun j p e q => by
    obtain ⟨c, q⟩ := get_set_own q (fun _ _ z => nomatch z)
    rw [List.getElem?_set_ne (Ne.symm c)]
    exact h.own j p e q
  dis := fun j k a p q d e e1 e2 s1 s2 => by
    obtain ⟨c1, e1⟩ := get_set_own e1 (fun _ _ z => nomatch z)
    obtain ⟨c2, e2⟩ := get_set_own e2 (fun _ _ z => nomatch z)
    rw [List.getElem?_set_ne (Ne.symm c1)] at s1
    rw [List.getElem?_set_ne (Ne.symm c2)] at s2
    exact h.dis j k a p q d e e1 e2 s1 s2
  pin := fun j e q => by
    obtain ⟨c, q⟩ := get_set_own q (fun _ _ z => nomatch z)
    rw [List.getElem?_set_ne (Ne.symm c)]
    exact h.pin j e q
  mono := h.mono
  keep := h.keep
  new := h.new
  live := h.live
/-- a name takes a new object as its own -/
theorem Ok.take (h : Ok K G B H σ env) {i : Nat} {d : D} {a : Addr} (hB : B a = none) (hA : OwnAt K B (H a) d) (hG : G.H a = none) (hO : ¬ IsOwn σ env a) : Ok K G B H (σ.set i (some (.ref a))) (env.set i (.own false d)) where
  len := by simp [h.len]
  sub := h.sub
  val := fun j e q => by
    by_cases c : j = i
    · subst c
      by_cases hl : j < env.length
      · rw [List.getElem?_set_self hl] at q; cases q
      · rw [List.getElem?_eq_none (by rw [List.length_set]; omega)] at q; cases q
    · rw [List.getElem?_set_ne (Ne.symm c)] at q
      rw [List.getElem?_set_ne (Ne.symm c)]
      exact h.val j e q
  own := fun j p e q => by
    by_cases c : j = i
    · subst c
      by_cases hl : j < env.length
      · rw [List.getElem?_set_self hl] at q
        cases q
        exact ⟨a, List.getElem?_set_self (h.len ▸ hl), hB, hA, .inl hG⟩
      · rw [List.getElem?_eq_none (by rw [List.length_set]; omega)] at q; cases q
    · rw [List.getElem?_set_ne (Ne.symm c)] at q
      rw [List.getElem?_set_ne (Ne.symm c)]
      exact h.own j p e q
  dis := fun j k b p q d' e e1 e2 s1 s2 => by
    have hl : env.length = σ.length := h.len
    by_cases c1 : j = i
    · by_cases c2 : k = i
      · rw [c1, c2]
      · exfalso
        subst c1
        have hj : j < env.length := by
          rcases Nat.lt_or_ge j env.length with z | z
          · exact z
          · rw [List.getElem?_eq_none (by rw [List.length_set]; omega)] at e1; cases e1
        rw [List.getElem?_set_self (hl ▸ hj)] at s1
        cases s1
        rw [List.getElem?_set_ne (Ne.symm c2)] at e2 s2
        exact hO ⟨k, q, e, e2, s2⟩
    · by_cases c2 : k = i
      · exfalso
        subst c2
        have hj : k < env.length := by
          rcases Nat.lt_or_ge k env.length with z | z
          · exact z
          · rw [List.getElem?_eq_none (by rw [List.length_set]; omega)] at e2; cases e2
        rw [List.getElem?_set_self (hl ▸ hj)] at s2
        cases s2
        rw [List.getElem?_set_ne (Ne.symm c1)] at e1 s1
        exact hO ⟨j, p, d', e1, s1⟩
      · rw [List.getElem?_set_ne (Ne.symm c1)] at e1 s1
        rw [List.getElem?_set_ne (Ne.symm c2)] at e2 s2
        exact h.dis j k b p q d' e e1 e2 s1 s2
  pin := fun j e q => by
    by_cases c : j = i
    · subst c
      by_cases hl : j < env.length
      · rw [List.getElem?_set_self hl] at q; cases q
      · rw [List.getElem?_eq_none (by rw [List.length_set]; omega)] at q; cases q
    · rw [List.getElem?_set_ne (Ne.symm c)] at q
      rw [List.getElem?_set_ne (Ne.symm c)]
      exact h.pin j e q
  mono := h.mono
  keep := h.keep
  new := h.new
  live := h.live
/-- the own object of a name changes -/
theorem Ok.mut (h : Ok K G B H σ env) {i : Nat} {p : Bool} {d d' : D} {a : Addr} {o : HO} (e : env[i]? = some (.own p d)) (es : σ[i]? = some (some (.ref a))) (hA : OwnAt K B (some o) d') : Ok K G B (upd H a o) σ (env.set i (.own p d')) where
  len := by simp [h.len]
  sub := fun b u q => by
    obtain ⟨a', r1, r2, _, _⟩ := h.own i p d e
    rw [es] at r1; cases r1
    rw [upd_ne (ne_of_none q r2)]; exact h.sub b u q
  val := fun j x q => by
    by_cases c : j = i
    · subst c
      by_cases hl : j < env.length
      · rw [List.getElem?_set_self hl] at q; cases q
      · rw [List.getElem?_eq_none (by rw [List.length_set]; omega)] at q; cases q
    · rw [List.getElem?_set_ne (Ne.symm c)] at q
      exact h.val j x q
  own := fun j q x z => by
    obtain ⟨a', r1, r2, r3, r4⟩ := h.own i p d e
    rw [es] at r1; cases r1
    by_cases c : j = i
    · subst c
      have hl : j < env.length := by
        rcases Nat.lt_or_ge j env.length with y | y
        · exact y
        · rw [List.getElem?_eq_none y] at e; cases e
      rw [List.getElem?_set_self hl] at z
      cases z
      exact ⟨_, es, r2, by rw [upd_same]; exact hA, r4⟩
    · rw [List.getElem?_set_ne (Ne.symm c)] at z
      obtain ⟨b, s1, s2, s3, s4⟩ := h.own j q x z
      have hne : b ≠ a := fun w => c (h.dis j i b q p x d z e s1 (w ▸ es))
      exact ⟨b, s1, s2, by rw [upd_ne hne]; exact s3, s4⟩
  dis := fun j k b p1 q1 x y e1 e2 s1 s2 => by
    have f : ∀ {l : Nat} {p2 : Bool} {x : D}, (env.set i (.own p d'))[l]? = some (.own p2 x) → ∃ p2 x', env[l]? = some (.own p2 x') := fun {l p2 x} w => by
      by_cases c : l = i
      · subst c; exact ⟨p, d, e⟩
      · rw [List.getElem?_set_ne (Ne.symm c)] at w; exact ⟨_, x, w⟩
    obtain ⟨_, x', e1⟩ := f e1
    obtain ⟨_, y', e2⟩ := f e2
    exact h.dis j k b _ _ x' y' e1 e2 s1 s2
  pin := fun j x q => by
    by_cases c : j = i
    · subst c
      have hl : j < env.length := by
        rcases Nat.lt_or_ge j env.length with y | y
        · exact y
        · rw [List.getElem?_eq_none y] at e; cases e
      rw [List.getElem?_set_self hl] at q
      cases q
      exact h.pin j d e
    · rw [List.getElem?_set_ne (Ne.symm c)] at q
      exact h.pin j x q
  mono := h.mono
  keep := fun b u q n => by
    obtain ⟨a', r1, r2, r3, r4⟩ := h.own i p d e
    rw [es] at r1; cases r1
    have hne : b ≠ a := fun w => by
      subst w
      rcases r4 with r4 | r4
      · rw [q] at r4; cases r4
      · exact n p r4
    rw [upd_ne hne]; exact h.keep b u q n
  new := h.new
  live := fun b q => by
    by_cases c : b = a
    · subst c; rw [upd_same] at q; cases q
    · rw [upd_ne c] at q; exact h.live b q
/-- a name gives its own object up: it is data -/
theorem Ok.freeze (h : Ok K G B H σ env) {i : Nat} {p : Bool} {d : D} (e : env[i]? = some (.own p d)) : ∃ B' v, σ[i]? = some (some v) ∧ Ex B B' ∧ Rep K B' d v ∧ Ok K G B' H σ (env.set i (.val d)) := by
  obtain ⟨a, r1, r2, r3, r4⟩ := h.own i p d e
  obtain ⟨u, hu⟩ := r3.there
  rw [hu] at r3
  have rp := r3.rep r2
  have hl : i < env.length := by
    rcases Nat.lt_or_ge i env.length with y | y
    · exact y
    · rw [List.getElem?_eq_none y] at e; cases e
  refine ⟨upd B a u, .ref a, r1, Ex.new r2, rp, ?_⟩
  refine ⟨by simp [h.len], fun b w q => ?_, fun j x q => ?_, fun j q x z => ?_, fun j k b p1 q1 x y e1 e2 s1 s2 => ?_, fun j x q => ?_, h.mono.trans (Ex.new r2), h.keep, fun b w q => ?_, h.live⟩
  · by_cases c : b = a
    · subst c; rw [upd_same] at q; cases q; exact hu
    · rw [upd_ne c] at q; exact h.sub b w q
  · by_cases c : j = i
    · subst c
      rw [List.getElem?_set_self hl] at q
      cases q
      exact ⟨_, r1, rp⟩
    · rw [List.getElem?_set_ne (Ne.symm c)] at q
      obtain ⟨v, q1, q2⟩ := h.val j x q
      exact ⟨v, q1, Rep.mono (Ex.new r2) _ _ q2⟩
  · obtain ⟨c, z⟩ := get_set_own z (fun _ _ z => nomatch z)
    obtain ⟨b, s1, s2, s3, s4⟩ := h.own j q x z
    have hne : b ≠ a := fun w => c (h.dis j i b q p x d z e s1 (w ▸ r1))
    exact ⟨b, s1, by rw [upd_ne hne]; exact s2, s3.mono (Ex.new r2), s4⟩
  · obtain ⟨c1, e1⟩ := get_set_own e1 (fun _ _ z => nomatch z)
    obtain ⟨c2, e2⟩ := get_set_own e2 (fun _ _ z => nomatch z)
    exact h.dis j k b _ _ x y e1 e2 s1 s2
  · obtain ⟨c, q⟩ := get_set_own q (fun _ _ z => nomatch z)
    exact h.pin j x q
  · by_cases c : b = a
    · subst c
      rcases r4 with r4 | r4
      · exact .inr (.inl r4)
      · exact .inr (.inr ⟨p, r4⟩)
    · rw [upd_ne c] at q; exact h.new b w q
/-- a name is told no more -/
theorem Ok.drop (h : Ok K G B H σ env) {i : Nat} {x : Option V} : Ok K G B H (σ.set i x) (env.set i .no) where
  len := by simp [h.len]
  sub := h.sub
  val := fun j e q => by
    by_cases c : j = i
    · subst c
      by_cases hl : j < env.length
      · rw [List.getElem?_set_self hl] at q; cases q
      · rw [List.getElem?_eq_none (by rw [List.length_set]; omega)] at q; cases q
    · rw [List.getElem?_set_ne (Ne.symm c)] at q
      rw [List.getElem?_set_ne (Ne.symm c)]
      exact h.val j e q
  own := fun j p e q => by
    obtain ⟨c, q⟩ := get_set_own q (fun _ _ z => nomatch z)
    rw [List.getElem?_set_ne (Ne.symm c)]
    exact h.own j p e q
  dis := fun j k a p q d e e1 e2 s1 s2 => by
    obtain ⟨c1, e1⟩ := get_set_own e1 (fun _ _ z => nomatch z)
    obtain ⟨c2, e2⟩ := get_set_own e2 (fun _ _ z => nomatch z)
    rw [List.getElem?_set_ne (Ne.symm c1)] at s1
    rw [List.getElem?_set_ne (Ne.symm c2)] at s2
    exact h.dis j k a p q d e e1 e2 s1 s2
  pin := fun j e q => by
    obtain ⟨c, q⟩ := get_set_own q (fun _ _ z => nomatch z)
    rw [List.getElem?_set_ne (Ne.symm c)]
    exact h.pin j e q
  mono := h.mono
  keep := h.keep
  new := h.new
  live := h.live
end
end Dv
/-! Code over a frame's names as plain functions; the judgements; names, constants, operators, tests, arguments, lists, statements. -/
namespace Dv
open PySem PySem.Spec PyProof.Rows L2 Evl

/-- code over a frame's names -/
def M (α : Type) := Lvs → Option (α × Lvs)
def ret {α : Type} (a : α) : M α := fun e => some (a, e)
def bnd {α β : Type} (m : M α) (f : α → M β) : M β := fun e => match m e with
  | some (a, e') => f a e'
  | none => none
def stuck {α : Type} : M α := fun _ => none
def lft {α : Type} (o : Option α) : M α := fun e => match o with
  | some a => some (a, e)
  | none => none
theorem bnd_some {α β : Type} {m : M α} {f : α → M β} {e : Lvs} {p : β × Lvs} (h : bnd m f e = some p) : ∃ a e1, m e = some (a, e1) ∧ f a e1 = some p := by
  unfold bnd at h
  split at h
  · rename_i a e' q
    exact ⟨a, e', q, h⟩
  · cases h
theorem lft_some {α : Type} {o : Option α} {e : Lvs} {p : α × Lvs} (h : lft o e = some p) : ∃ a, o = some a ∧ p = (a, e) := by
  unfold lft at h
  split at h
  · cases h; exact ⟨_, rfl, rfl⟩
  · cases h
theorem ret_some {α : Type} {a : α} {e : Lvs} {p : α × Lvs} (h : ret a e = some p) : p = (a, e) := (Option.some.inj h).symm
def lim (n : Nat) : Bool := decide (n ≤ 16777216)
theorem lim_ok {n : Nat} (h : lim n = true) : n ≤ sizeLine := by rw [sizeLine_eq]; exact of_decide_eq_true h

theorem Ok.notOwn {K : PySem.W.Frag} {G : Ent} {B H : Hp} {σ : L2.St} {env : Lvs} (h : Ok K G B H σ env) {p : Addr} (hp : H p = none) : ¬ IsOwn σ env p := fun ⟨i, q, d, e1, e2⟩ => by
  obtain ⟨a, r1, _, r3, _⟩ := h.own i q d e1
  rw [e2] at r1
  cases r1
  obtain ⟨u, hu⟩ := r3.there
  rw [hp] at hu; cases hu
theorem own_rep {K : PySem.W.Frag} {B : Hp} {a : Addr} {u : HO} (hn : B a = some u) : ∀ {d : D}, OwnAt K B (some u) d → Rep K B d (.ref a)
  | .lst ds, ⟨vs, h1, h2⟩ => by
    cases h1
    exact ⟨a, vs, rfl, hn, h2⟩
  | .non, h => h.elim
  | .bl _, h => h.elim
  | .int _, h => h.elim
  | .str _, h => h.elim
  | .ty _, h => h.elim
  | .dic, h => h.elim
  | .tup _, h => h.elim
  | .fls _, h => h.elim

/-! ### the readings -/
section
variable (K : PySem.W.Frag)
def tD (m : M D) : TE := fun σ H Q => ∃ G B env d env', Ok K G B H σ env ∧ m env = some (d, env') ∧ ∀ v B' H', Ok K G B' H' σ env' → Rep K B' d v → Q v H'
def tF (m : M D) : TE := fun σ H Q => ∃ G B env d env', Ok K G B H σ env ∧ m env = some (d, env') ∧ ∀ a B' H', Ok K G B' H' σ env' → B' a = none → OwnAt K B' (H' a) d → G.H a = none → ¬ IsOwn σ env' a → Q (.ref a) H'
def tT (m : M Bool) : TT := fun σ H Q => ∃ G B env d env', Ok K G B H σ env ∧ m env = some (d, env') ∧ ∀ B' H', Ok K G B' H' σ env' → Q d H'
def tA (m : M (List D)) : TA := fun σ H Q => ∃ G B env d env', Ok K G B H σ env ∧ m env = some (d, env') ∧ ∀ vs B' H', Ok K G B' H' σ env' → Reps K B' d vs → Q vs H'
end
def PD (X : Cx) (e : Expr) (m : M D) : Prop := PE X e (tD X.K m)
def PF (X : Cx) (e : Expr) (m : M D) : Prop := PE X e (tF X.K m)
def PDT (X : Cx) (e : Expr) (m : M Bool) : Prop := PT X e (tT X.K m)
def PDW (X : Cx) (e : Expr) (m : M Bool) : Prop := PW X e (tT X.K m)
def PDA (X : Cx) (es : List Expr) (m : M (List D)) : Prop := PA X es (tA X.K m)

theorem pe_mono {X : Cx} {e : Expr} {t t' : TE} (h : PE X e t) (i : ∀ σ H Q, t' σ H Q → t σ H Q) : PE X e t' := ⟨fun pins s σ H Q I q => h.run pins s σ H Q I (i σ H Q q)⟩
theorem pt_mono {X : Cx} {e : Expr} {t t' : TT} (h : PT X e t) (i : ∀ σ H Q, t' σ H Q → t σ H Q) : PT X e t' := ⟨fun pins s σ H Q I q => h.run pins s σ H Q I (i σ H Q q)⟩
theorem pw_mono {X : Cx} {e : Expr} {t t' : TT} (h : PW X e t) (i : ∀ σ H Q, t' σ H Q → t σ H Q) : PW X e t' := ⟨fun wh pins s σ H Q I q => h.run wh pins s σ H Q I (i σ H Q q)⟩
theorem pa_mono {X : Cx} {e : List Expr} {t t' : TA} (h : PA X e t) (i : ∀ σ H Q, t' σ H Q → t σ H Q) : PA X e t' := ⟨fun pos pins s σ H Q I q => h.run pos pins s σ H Q I (i σ H Q q)⟩
theorem ps_mono {X : Cx} {e : Stmt} {t t' : TS} (h : PS X e t) (i : ∀ Z σ H, t' Z σ H → t Z σ H) : PS X e t' := ⟨fun pins s σ H Z I q => h.run pins s σ H Z I (i Z σ H q)⟩
theorem pss_mono {X : Cx} {e : List Stmt} {t t' : TS} (h : PSs X e t) (i : ∀ Z σ H, t' Z σ H → t Z σ H) : PSs X e t' := ⟨fun pins s σ H Z I q => h.run pins s σ H Z I (i Z σ H q)⟩

section
variable {K : PySem.W.Frag} {G : Ent} {B B1 B2 H H1 H2 : Hp} {σ σ' : L2.St} {env env' env1 env2 : Lvs}
theorem tD_of {m : M D} {d : D} {Q : VK} (h : Ok K G B H σ env) (e : m env = some (d, env')) (k : ∀ v B' H', Ok K G B' H' σ env' → Ok K (Ent.at B H σ env) B' H' σ env' → Rep K B' d v → Q v H') : tD K m σ H Q :=
  ⟨Ent.at B H σ env, B, env, d, env', h.self, e, fun v B' H' h' r => k v B' H' (h.comp h') h' r⟩
theorem tF_of {m : M D} {d : D} {Q : VK} (h : Ok K G B H σ env) (e : m env = some (d, env')) (k : ∀ a B' H', Ok K G B' H' σ env' → Ok K (Ent.at B H σ env) B' H' σ env' → B' a = none → OwnAt K B' (H' a) d → H a = none → ¬ IsOwn σ env' a → Q (.ref a) H') : tF K m σ H Q :=
  ⟨Ent.at B H σ env, B, env, d, env', h.self, e, fun a B' H' h' r1 r2 r3 r4 => k a B' H' (h.comp h') h' r1 r2 r3 r4⟩
theorem tT_of {m : M Bool} {d : Bool} {Q : Bool → Hp → Prop} (h : Ok K G B H σ env) (e : m env = some (d, env')) (k : ∀ B' H', Ok K G B' H' σ env' → Ok K (Ent.at B H σ env) B' H' σ env' → Q d H') : tT K m σ H Q :=
  ⟨Ent.at B H σ env, B, env, d, env', h.self, e, fun B' H' h' => k B' H' (h.comp h') h'⟩
theorem tA_of {m : M (List D)} {d : List D} {Q : List V → Hp → Prop} (h : Ok K G B H σ env) (e : m env = some (d, env')) (k : ∀ v B' H', Ok K G B' H' σ env' → Ok K (Ent.at B H σ env) B' H' σ env' → Reps K B' d v → Q v H') : tA K m σ H Q :=
  ⟨Ent.at B H σ env, B, env, d, env', h.self, e, fun v B' H' h' r => k v B' H' (h.comp h') h' r⟩
end

/-! ### names, constants -/
section
variable {X : Cx}
/-- the name in slot i, given away -/
def eVar (i : Nat) : M D := fun en => match en[i]? with
  | some (.val d) => some (d, en)
  | some (.own _ d) => some (d, en.set i (.val d))
  | _ => none
/-- the name in slot i, looked at alone -/
def ePeek (i : Nat) : M D := fun en => match en[i]? with
  | some (.val d) => some (d, en)
  | some (.own _ d) => some (d, en)
  | _ => none
theorem pd_var (i : Nat) {x : Str} {pos : Pos} (hN : X.N[i]? = some x := by rfl) (hv : Vis X.env.scope x := by first | exact Or.inl rfl | exact Or.inr (Or.inl rfl) | exact Or.inr (Or.inr rfl)) (hd : (x == ("__debug__" : Str)) = false := by decide)
    (hcd : (x == ("__classdict__" : Str)) = false := by decide) : PD X (.Name x pos) (eVar i) :=
  pe_mono (pe_var hN hv hd hcd) fun σ H Q ⟨G, B, env, d, env', h, e, k⟩ => by
    unfold eVar at e
    split at e
    · rename_i d' q
      cases e
      obtain ⟨v, q1, q2⟩ := h.val i _ q
      exact ⟨v, q1, k v B H h q2⟩
    · rename_i p d' q
      cases e
      obtain ⟨B', v, q1, q2, q3, q4⟩ := h.freeze q
      exact ⟨v, q1, k v B' H q4 q3⟩
    · cases e
theorem peek_at {K : PySem.W.Frag} {G : Ent} {B H : Hp} {σ : L2.St} {env env' : Lvs} {i : Nat} {d : D} (h : Ok K G B H σ env) (e : ePeek i env = some (d, env')) : env' = env ∧ ∃ v B', σ[i]? = some (some v) ∧ Ex B B' ∧ Ex B' H ∧ Rep K B' d v := by
  unfold ePeek at e
  split at e
  · rename_i d' q
    cases e
    obtain ⟨v, q1, q2⟩ := h.val i _ q
    exact ⟨rfl, v, B, q1, Ex.refl B, h.sub, q2⟩
  · rename_i p d' q
    cases e
    obtain ⟨B', v, q1, q2, q3, q4⟩ := h.freeze q
    exact ⟨rfl, v, B', q1, q2, q4.sub, q3⟩
  · cases e
def eC (d : D) : M D := ret d
theorem pd_c {e : Expr} {v : V} {d : D} (h : PE X e (tC v)) (r : ∀ B, Rep X.K B d v) : PD X e (eC d) :=
  pe_mono h fun σ H Q ⟨G, B, env, d', env', ok, e, k⟩ => by
    cases ret_some e
    exact k v B H ok (r B)
theorem pd_int {i : Int} {j pos} : PD X (.Constant (.int i) j pos) (eC (.int i)) := pd_c pe_int fun _ => rfl
theorem pd_bl {b j pos} : PD X (.Constant (.bool b) j pos) (eC (.bl b)) := pd_c pe_bl fun _ => rfl
theorem pd_non {j pos} : PD X (.Constant .none j pos) (eC .non) := pd_c pe_non fun _ => rfl
theorem pd_str {x : Str} {j pos} (s : List Nat) (h : x = mkS s := by decide +kernel) : PD X (.Constant (.str x) j pos) (eC (.str s)) := pd_c pe_str fun _ => by
  subst h; rfl
/-- a module's constant -/
theorem pd_glob {x : Str} {d : D} {v : V} {u : Value} {pos : Pos} (hm : X.mg x = some u) (r : RelV v u) (rd : ∀ B, Rep X.K B d v) (hg : Gl X x := by rfl) (hd : (x == ("__debug__" : Str)) = false := by decide) : PD X (.Name x pos) (eC d) := pd_c (pe_glob hg hm r hd) rd

/-! ### fresh objects -/
theorem PF.pd {e : Expr} {m : M D} (h : PF X e m) : PD X e m :=
  pe_mono h fun σ H Q ⟨G, B, env, d, env', ok, e, k⟩ => ⟨G, B, env, d, env', ok, e, fun a B' H' ok' hB hA hG hO => by
    obtain ⟨u, hu⟩ := hA.there
    rw [hu] at hA
    exact k (.ref a) _ H' (ok'.give hu hB hG hO) (hA.rep hB)⟩

/-! ### operators by values -/
/-- the operation o, on data as f says; it may lay new objects -/
def OpD (X : Cx) (o : Value → Value → Sem Value) (f : D → D → Option D) : Prop := ∃ r : R2, OpR X o r ∧
  ∀ (G : Ent) (B H : Hp) (σ : L2.St) (env : Lvs) (x y : V) (d e z : D) (Q : VK), Ok X.K G B H σ env → Rep X.K B d x → Rep X.K B e y → f d e = some z → (∀ v B' H', Ok X.K G B' H' σ env → Rep X.K B' z v → Q v H') → r x y H Q
/-- .. it leaves the heap, and what comes is no object -/
def OpS (X : Cx) (o : Value → Value → Sem Value) (f : D → D → Option D) : Prop := ∃ r : R2, OpR X o r ∧
  ∀ (B H : Hp) (x y : V) (d e z : D) (Q : VK), Ex B H → Rep X.K B d x → Rep X.K B e y → f d e = some z → (∀ v, (∀ B, Rep X.K B z v) → Q v H) → r x y H Q
theorem OpS.d {o : Value → Value → Sem Value} {f : D → D → Option D} : OpS X o f → OpD X o f := fun ⟨r, hr, h⟩ => ⟨r, hr, fun G B H σ env x y d e z Q ok rx ry ez k => h B H x y d e z Q ok.sub rx ry ez fun v rv => k v B H ok (rv B)⟩
theorem opR_or {o : Value → Value → Sem Value} {r r' : R2} (h : OpR X o r) (h' : OpR X o r') : OpR X o (fun x y H Q => r x y H Q ∨ r' x y H Q) := by
  intro pins s σ H x y v u Q I rx ry q
  rcases q with q | q
  · exact h pins s σ H x y v u Q I rx ry q
  · exact h' pins s σ H x y v u Q I rx ry q
def orF (f g : D → D → Option D) : D → D → Option D := fun x y => match f x y with
  | some z => some z
  | none => g x y
theorem OpS.or {o : Value → Value → Sem Value} {f g : D → D → Option D} : OpS X o f → OpS X o g → OpS X o (orF f g) := fun ⟨r, hr, h⟩ ⟨r', hr', h'⟩ => ⟨_, opR_or hr hr', fun B H x y d e z Q ok rx ry ez k => by
  unfold orF at ez
  split at ez
  · rename_i q; cases ez; exact .inl (h B H x y d e _ Q ok rx ry q k)
  · exact .inr (h' B H x y d e _ Q ok rx ry ez k)⟩
theorem OpD.or {o : Value → Value → Sem Value} {f g : D → D → Option D} : OpD X o f → OpD X o g → OpD X o (orF f g) := fun ⟨r, hr, h⟩ ⟨r', hr', h'⟩ => ⟨_, opR_or hr hr', fun G B H σ env x y d e z Q ok rx ry ez k => by
  unfold orF at ez
  split at ez
  · rename_i q; cases ez; exact .inl (h G B H σ env x y d e _ Q ok rx ry q k)
  · exact .inr (h' G B H σ env x y d e _ Q ok rx ry ez k)⟩

def eOp (f : D → D → Option D) (a b : M D) : M D := bnd a fun x => bnd b fun y => lft (f x y)
/-- the left operand a name's, the right one too, looked at alone -/
def eOpL (f : D → D → Option D) (i : Nat) (b : M D) : M D := bnd (ePeek i) fun _ => bnd b fun y => bnd (ePeek i) fun x => lft (f x y)
def eOpR (f : D → D → Option D) (a : M D) (j : Nat) : M D := bnd a fun x => bnd (ePeek j) fun y => lft (f x y)
def eOpB (f : D → D → Option D) (i j : Nat) : M D := bnd (ePeek i) fun x => bnd (ePeek j) fun y => lft (f x y)
section
variable {K : PySem.W.Frag} {f : D → D → Option D} {ma mb : M D} {r : R2}
theorem op_red {X : Cx} {σ : L2.St} {H : Hp} {Q : VK} (hr : ∀ (G : Ent) (B H : Hp) (σ : L2.St) (env : Lvs) (x y : V) (d e z : D) (Q : VK), Ok X.K G B H σ env → Rep X.K B d x → Rep X.K B e y → f d e = some z → (∀ v B' H', Ok X.K G B' H' σ env → Rep X.K B' z v → Q v H') → r x y H Q)
    (h : tD X.K (eOp f ma mb) σ H Q) : tOp r (tD X.K ma) (tD X.K mb) σ H Q := by
  obtain ⟨G, B, env, d, env', ok, e, k⟩ := h
  obtain ⟨x, e1, q1, q2⟩ := bnd_some e
  obtain ⟨y, e2, q3, q4⟩ := bnd_some q2
  obtain ⟨z, q5, q6⟩ := lft_some q4
  cases q6
  exact tD_of ok q1 fun v B1 H1 ok1 _ r1 => tD_of ok1 q3 fun u B2 H2 ok2 ok2' r2 => hr G B2 H2 σ _ v u x y d Q ok2 (Rep.mono ok2'.mono _ _ r1) r2 q5 k
theorem opL_red {X : Cx} {σ : L2.St} {H : Hp} {Q : VK} {i : Nat} (hr : ∀ (B H : Hp) (x y : V) (d e z : D) (Q : VK), Ex B H → Rep X.K B d x → Rep X.K B e y → f d e = some z → (∀ v, (∀ B, Rep X.K B z v) → Q v H) → r x y H Q)
    (h : tD X.K (eOpL f i mb) σ H Q) : tOp r (tVar i) (tD X.K mb) σ H Q := by
  obtain ⟨G, B, env, d, env', ok, e, k⟩ := h
  obtain ⟨x0, e0, q0, e⟩ := bnd_some e
  obtain ⟨y, e1, q1, q2⟩ := bnd_some e
  obtain ⟨x, e2, q3, q4⟩ := bnd_some q2
  obtain ⟨z, q5, q6⟩ := lft_some q4
  cases q6
  obtain ⟨ee, v, _, sv, _⟩ := peek_at ok q0
  subst ee
  exact ⟨v, sv, tD_of ok q1 fun u B1 H1 ok1 ok1' r1 => by
    obtain ⟨ee, v', B', s1, x1, x2, r2⟩ := peek_at ok1 q3
    subst ee
    rw [sv] at s1
    cases s1
    exact hr B' H1 v u x y d Q x2 r2 (Rep.mono x1 _ _ r1) q5 fun w rw => k w B1 H1 ok1 (rw B1)⟩
theorem opR_red {X : Cx} {σ : L2.St} {H : Hp} {Q : VK} {j : Nat} (hr : ∀ (B H : Hp) (x y : V) (d e z : D) (Q : VK), Ex B H → Rep X.K B d x → Rep X.K B e y → f d e = some z → (∀ v, (∀ B, Rep X.K B z v) → Q v H) → r x y H Q)
    (h : tD X.K (eOpR f ma j) σ H Q) : tOp r (tD X.K ma) (tVar j) σ H Q := by
  obtain ⟨G, B, env, d, env', ok, e, k⟩ := h
  obtain ⟨x, e1, q1, q2⟩ := bnd_some e
  obtain ⟨y, e2, q3, q4⟩ := bnd_some q2
  obtain ⟨z, q5, q6⟩ := lft_some q4
  cases q6
  exact tD_of ok q1 fun v B1 H1 ok1 ok1' r1 => by
    obtain ⟨ee, u, B', s1, x1, x2, r2⟩ := peek_at ok1 q3
    subst ee
    exact ⟨u, s1, hr B' H1 v u x y d Q x2 (Rep.mono x1 _ _ r1) r2 q5 fun w rw => k w B1 H1 ok1 (rw B1)⟩
theorem opB_red {X : Cx} {σ : L2.St} {H : Hp} {Q : VK} {i j : Nat} (hr : ∀ (B H : Hp) (x y : V) (d e z : D) (Q : VK), Ex B H → Rep X.K B d x → Rep X.K B e y → f d e = some z → (∀ v, (∀ B, Rep X.K B z v) → Q v H) → r x y H Q)
    (h : tD X.K (eOpB f i j) σ H Q) : tOp r (tVar i) (tVar j) σ H Q := by
  obtain ⟨G, B, env, d, env', ok, e, k⟩ := h
  obtain ⟨x, e1, q1, q2⟩ := bnd_some e
  obtain ⟨y, e2, q3, q4⟩ := bnd_some q2
  obtain ⟨z, q5, q6⟩ := lft_some q4
  cases q6
  unfold ePeek at q1 q3
  -- both frozen at once
  obtain ⟨ee, v, B1, s1, x1, x2, r1⟩ := peek_at ok (show ePeek i env = some (x, e1) from q1)
  subst ee
  obtain ⟨ee3, _⟩ := peek_at ok (show ePeek j _ = some (y, env') from q3)
  subst ee3
  have two : ∃ u B2, σ[j]? = some (some u) ∧ Ex B1 B2 ∧ Ex B2 H ∧ Rep X.K B2 y u := by
    split at q3
    · rename_i d' q
      cases q3
      obtain ⟨u, t1, t2⟩ := ok.val j _ q
      exact ⟨u, B1, t1, Ex.refl _, x2, Rep.mono x1 _ _ t2⟩
    · rename_i p d' q
      cases q3
      obtain ⟨b, t1, t2, t3, t4⟩ := ok.own j _ _ q
      obtain ⟨w, hw⟩ := t3.there
      by_cases hb : B1 b = none
      · have t3' := t3.mono x1
        rw [hw] at t3'
        refine ⟨.ref b, upd B1 b w, t1, Ex.new hb, fun a o z => ?_, t3'.rep hb⟩
        by_cases c : a = b
        · subst c; rw [upd_same] at z; cases z; exact hw
        · rw [upd_ne c] at z; exact x2 a o z
      · cases hc : B1 b with
        | none => exact absurd hc hb
        | some w' =>
          have e' := x2 b w' hc
          rw [hw] at e'
          cases e'
          have t3' := t3.mono x1
          rw [hw] at t3'
          exact ⟨.ref b, B1, t1, Ex.refl _, x2, own_rep hc t3'⟩
    · cases q3
  obtain ⟨u, B2, t1, y1, y2, r2⟩ := two
  exact ⟨v, s1, u, t1, hr B2 H v u x y d Q y2 (Rep.mono y1 _ _ r1) r2 q5 fun w rw => k w B H ok (rw B)⟩
end
theorem pd_op {op : Operator} {f : D → D → Option D} {a b : Expr} {ma mb : M D} {pos : Pos} (ho : OpD X (binaryOp op) f) (ha : PD X a ma) (hb : PD X b mb) : PD X (.BinOp a op b pos) (eOp f ma mb) := by
  obtain ⟨r, hr, h⟩ := ho
  exact pe_mono (pe_op hr ha hb) fun σ H Q q => op_red h q
theorem pd_opL {op : Operator} {f : D → D → Option D} {b : Expr} {mb : M D} {pos p1 : Pos} {i : Nat} {x : Str} (ho : OpS X (binaryOp op) f) (hx : PE X (.Name x p1) (tVar i)) (hb : PD X b mb) : PD X (.BinOp (.Name x p1) op b pos) (eOpL f i mb) := by
  obtain ⟨r, hr, h⟩ := ho
  exact pe_mono (pe_op hr hx hb) fun σ H Q q => opL_red h q
theorem pd_cmp {op : CmpOp} {f : D → D → Option D} {a b : Expr} {ma mb : M D} {pos : Pos} (ho : OpD X (compareOp op) f) (ha : PD X a ma) (hb : PD X b mb) (hm : behindInMarks op b = false) : PD X (.Compare a [op] [b] pos) (eOp f ma mb) := by
  obtain ⟨r, hr, h⟩ := ho
  exact pe_mono (pe_cmpR hr ha hb hm) fun σ H Q q => op_red h q
theorem pd_cmpL {op : CmpOp} {f : D → D → Option D} {b : Expr} {mb : M D} {pos p1 : Pos} {i : Nat} {x : Str} (ho : OpS X (compareOp op) f) (hx : PE X (.Name x p1) (tVar i)) (hb : PD X b mb) (hm : behindInMarks op b = false) : PD X (.Compare (.Name x p1) [op] [b] pos) (eOpL f i mb) := by
  obtain ⟨r, hr, h⟩ := ho
  exact pe_mono (pe_cmpR hr hx hb hm) fun σ H Q q => opL_red h q
theorem pd_cmpR {op : CmpOp} {f : D → D → Option D} {a : Expr} {ma : M D} {pos p1 : Pos} {j : Nat} {x : Str} (ho : OpS X (compareOp op) f) (ha : PD X a ma) (hx : PE X (.Name x p1) (tVar j)) (hm : behindInMarks op (.Name x p1) = false) : PD X (.Compare a [op] [.Name x p1] pos) (eOpR f ma j) := by
  obtain ⟨r, hr, h⟩ := ho
  exact pe_mono (pe_cmpR hr ha hx hm) fun σ H Q q => opR_red h q
theorem pd_cmpB {op : CmpOp} {f : D → D → Option D} {pos p1 p2 : Pos} {i j : Nat} {x y : Str} (ho : OpS X (compareOp op) f) (hx : PE X (.Name x p1) (tVar i)) (hy : PE X (.Name y p2) (tVar j)) (hm : behindInMarks op (.Name y p2) = false) : PD X (.Compare (.Name x p1) [op] [.Name y p2] pos) (eOpB f i j) := by
  obtain ⟨r, hr, h⟩ := ho
  exact pe_mono (pe_cmpR hr hx hy hm) fun σ H Q q => opB_red h q
/-- a comparison's answer as a test -/
def asB : D → Option Bool
  | .bl b => some b
  | _ => none
def eTest (m : M D) : M Bool := bnd m fun d => lft (asB d)
theorem asB_some {d : D} {b : Bool} (h : asB d = some b) : d = .bl b := by
  unfold asB at h
  split at h
  · cases h; rfl
  · cases h
theorem test_red {K : PySem.W.Frag} {m : M D} {t : TE} (i : ∀ σ H Q, tD K m σ H Q → t σ H Q) : ∀ σ H Q, tT K (eTest m) σ H Q → (t σ H fun x H' => ∃ k, x = .bl k ∧ Q k H') := fun σ H Q ⟨G, B, env, d, env', ok, e, k⟩ => by
  obtain ⟨y, e1, q1, q2⟩ := bnd_some e
  obtain ⟨z, q5, q6⟩ := lft_some q2
  cases q6
  cases asB_some q5
  exact i _ _ _ ⟨G, B, env, .bl d, env', ok, q1, fun v B' H' ok' r => ⟨d, r, k B' H' ok'⟩⟩
theorem pdt_cmp {op : CmpOp} {f : D → D → Option D} {a b : Expr} {ma mb : M D} {pos : Pos} (ho : OpD X (compareOp op) f) (ha : PD X a ma) (hb : PD X b mb) (hm : behindInMarks op b = false) : PDT X (.Compare a [op] [b] pos) (eTest (eOp f ma mb)) := by
  obtain ⟨r, hr, h⟩ := ho
  exact pt_mono (pt_cmpR hr ha hb hm) (test_red fun σ H Q q => op_red h q)
theorem pdt_cmpL {op : CmpOp} {f : D → D → Option D} {b : Expr} {mb : M D} {pos p1 : Pos} {i : Nat} {x : Str} (ho : OpS X (compareOp op) f) (hx : PE X (.Name x p1) (tVar i)) (hb : PD X b mb) (hm : behindInMarks op b = false) : PDT X (.Compare (.Name x p1) [op] [b] pos) (eTest (eOpL f i mb)) := by
  obtain ⟨r, hr, h⟩ := ho
  exact pt_mono (pt_cmpR hr hx hb hm) (test_red fun σ H Q q => opL_red h q)
theorem pdt_cmpR {op : CmpOp} {f : D → D → Option D} {a : Expr} {ma : M D} {pos p1 : Pos} {j : Nat} {x : Str} (ho : OpS X (compareOp op) f) (ha : PD X a ma) (hx : PE X (.Name x p1) (tVar j)) (hm : behindInMarks op (.Name x p1) = false) : PDT X (.Compare a [op] [.Name x p1] pos) (eTest (eOpR f ma j)) := by
  obtain ⟨r, hr, h⟩ := ho
  exact pt_mono (pt_cmpR hr ha hx hm) (test_red fun σ H Q q => opR_red h q)
theorem pdt_cmpB {op : CmpOp} {f : D → D → Option D} {pos p1 p2 : Pos} {i j : Nat} {x y : Str} (ho : OpS X (compareOp op) f) (hx : PE X (.Name x p1) (tVar i)) (hy : PE X (.Name y p2) (tVar j)) (hm : behindInMarks op (.Name y p2) = false) : PDT X (.Compare (.Name x p1) [op] [.Name y p2] pos) (eTest (eOpB f i j)) := by
  obtain ⟨r, hr, h⟩ := ho
  exact pt_mono (pt_cmpR hr hx hy hm) (test_red fun σ H Q q => opB_red h q)
/-- a value that is a bool, as a test -/
theorem pdt_val {e : Expr} {m : M D} (h : PD X e m) (he : ∀ whole, isTrue e X.env whole = (do let v ← whole; standAt e.pos; holding [v] (truthy v)) := by intro _; rfl) : PDT X e (eTest m) :=
  pt_mono (pt_val h he) (test_red fun σ H Q q => q)
/-- a < b < c -/
def eChain (f g : D → D → Option D) (a b c : M D) : M D := bnd a fun x => bnd b fun y => bnd (lft (f x y)) fun z => match z with
  | .bl true => bnd c fun w => lft (g y w)
  | .bl false => ret (.bl false)
  | _ => stuck

/-! ### and, or, not, if -/
def bAnd (a b : M Bool) : M Bool := bnd a fun c => if c = true then b else ret false
def bOr (a b : M Bool) : M Bool := bnd a fun c => if c = true then ret true else b
def bNot (a : M Bool) : M Bool := bnd a fun c => ret (!c)
theorem and_red {K : PySem.W.Frag} {a b : M Bool} : ∀ σ H Q, tT K (bAnd a b) σ H Q → tAnd (tT K a) (tT K b) σ H Q := fun σ H Q ⟨G, B, env, d, env', ok, e, k⟩ => by
  obtain ⟨c, e1, q1, q2⟩ := bnd_some e
  refine tT_of ok q1 fun B1 H1 ok1 _ => ?_
  cases c with
  | true => rw [if_pos rfl] at q2 ⊢; exact ⟨G, B1, e1, d, env', ok1, q2, k⟩
  | false => rw [if_neg Bool.false_ne_true] at q2 ⊢; cases ret_some q2; exact k B1 H1 ok1
theorem or_red {K : PySem.W.Frag} {a b : M Bool} : ∀ σ H Q, tT K (bOr a b) σ H Q → tOr (tT K a) (tT K b) σ H Q := fun σ H Q ⟨G, B, env, d, env', ok, e, k⟩ => by
  obtain ⟨c, e1, q1, q2⟩ := bnd_some e
  refine tT_of ok q1 fun B1 H1 ok1 _ => ?_
  cases c with
  | false => rw [if_neg Bool.false_ne_true] at q2 ⊢; exact ⟨G, B1, e1, d, env', ok1, q2, k⟩
  | true => rw [if_pos rfl] at q2 ⊢; cases ret_some q2; exact k B1 H1 ok1
theorem not_red {K : PySem.W.Frag} {a : M Bool} : ∀ σ H Q, tT K (bNot a) σ H Q → tNot (tT K a) σ H Q := fun σ H Q ⟨G, B, env, d, env', ok, e, k⟩ => by
  obtain ⟨c, e1, q1, q2⟩ := bnd_some e
  cases ret_some q2
  exact tT_of ok q1 fun B1 H1 ok1 _ => k B1 H1 ok1
theorem pdw_and1 {a : Expr} {m : M Bool} {pos : Pos} (h : PDT X a m) : PDW X (.BoolOp .And [a] pos) m := pw_and1 h
theorem pdw_or1 {a : Expr} {m : M Bool} {pos : Pos} (h : PDT X a m) : PDW X (.BoolOp .Or [a] pos) m := pw_or1 h
theorem pdw_and {a b : Expr} {rest : List Expr} {m n : M Bool} {pos : Pos} (h : PDT X a m) (q : PDW X (.BoolOp .And (b :: rest) pos) n) : PDW X (.BoolOp .And (a :: b :: rest) pos) (bAnd m n) := pw_mono (pw_and h q) and_red
theorem pdw_or {a b : Expr} {rest : List Expr} {m n : M Bool} {pos : Pos} (h : PDT X a m) (q : PDW X (.BoolOp .Or (b :: rest) pos) n) : PDW X (.BoolOp .Or (a :: b :: rest) pos) (bOr m n) := pw_mono (pw_or h q) or_red
theorem PDW.pdt {e : Expr} {m : M Bool} (h : PDW X e m) : PDT X e m := PW.pt h
theorem pdt_not {a : Expr} {m : M Bool} {pos : Pos} (h : PDT X a m) : PDT X (.UnaryOp .Not a pos) (bNot m) := pt_mono (pt_not h) not_red
/-- as values -/
def eAnd (a b : M D) : M D := bnd a fun d => match d with
  | .bl true => b
  | .bl false => ret (.bl false)
  | _ => stuck
def eOr (a b : M D) : M D := bnd a fun d => match d with
  | .bl true => ret (.bl true)
  | .bl false => b
  | _ => stuck
def eNot (a : M D) : M D := bnd a fun d => match d with
  | .bl b => ret (.bl (!b))
  | _ => stuck
theorem pd_one {op} {a : Expr} {m : M D} {pos : Pos} (h : PD X a m) : PD X (.BoolOp op [a] pos) m := pe_one h
theorem pd_and {a b : Expr} {rest : List Expr} {m n : M D} {pos : Pos} (h : PD X a m) (q : PD X (.BoolOp .And (b :: rest) pos) n) : PD X (.BoolOp .And (a :: b :: rest) pos) (eAnd m n) :=
  pe_mono (pe_and h q) fun σ H Q ⟨G, B, env, d, env', ok, e, k⟩ => by
    obtain ⟨c, e1, q1, q2⟩ := bnd_some e
    refine tD_of ok q1 fun v B1 H1 ok1 _ r1 => ?_
    split at q2
    · exact ⟨true, r1, by rw [if_pos rfl]; exact ⟨G, B1, e1, d, env', ok1, q2, k⟩⟩
    · cases ret_some q2
      exact ⟨false, r1, by rw [if_neg Bool.false_ne_true]; exact k _ B1 H1 ok1 rfl⟩
    · cases q2
theorem pd_or {a b : Expr} {rest : List Expr} {m n : M D} {pos : Pos} (h : PD X a m) (q : PD X (.BoolOp .Or (b :: rest) pos) n) : PD X (.BoolOp .Or (a :: b :: rest) pos) (eOr m n) :=
  pe_mono (pe_or h q) fun σ H Q ⟨G, B, env, d, env', ok, e, k⟩ => by
    obtain ⟨c, e1, q1, q2⟩ := bnd_some e
    refine tD_of ok q1 fun v B1 H1 ok1 _ r1 => ?_
    split at q2
    · cases ret_some q2
      exact ⟨true, r1, by rw [if_pos rfl]; exact k _ B1 H1 ok1 rfl⟩
    · exact ⟨false, r1, by rw [if_neg Bool.false_ne_true]; exact ⟨G, B1, e1, d, env', ok1, q2, k⟩⟩
    · cases q2
theorem pd_not {a : Expr} {m : M D} {pos : Pos} (h : PD X a m) : PD X (.UnaryOp .Not a pos) (eNot m) :=
  pe_mono (pe_not h) fun σ H Q ⟨G, B, env, d, env', ok, e, k⟩ => by
    obtain ⟨c, e1, q1, q2⟩ := bnd_some e
    refine tD_of ok q1 fun v B1 H1 ok1 _ r1 => ?_
    split at q2
    · cases ret_some q2
      exact ⟨_, r1, k _ B1 H1 ok1 rfl⟩
    · cases q2
def eIf (c : M Bool) (a b : M D) : M D := bnd c fun t => if t = true then a else b
theorem pd_if {c a b : Expr} {mc : M Bool} {ma mb : M D} {pos : Pos} (hc : PDT X c mc) (ha : PD X a ma) (hb : PD X b mb) : PD X (.IfExp c a b pos) (eIf mc ma mb) :=
  pe_mono (pe_ifExp hc ha hb) fun σ H Q ⟨G, B, env, d, env', ok, e, k⟩ => by
    obtain ⟨c, e1, q1, q2⟩ := bnd_some e
    refine tT_of ok q1 fun B1 H1 ok1 _ => ?_
    cases c with
    | true => rw [if_pos rfl] at q2 ⊢; exact ⟨G, B1, e1, d, env', ok1, q2, k⟩
    | false => rw [if_neg Bool.false_ne_true] at q2 ⊢; exact ⟨G, B1, e1, d, env', ok1, q2, k⟩

/-! ### argument lists, displays -/
def aCons (m : M D) (r : M (List D)) : M (List D) := bnd m fun d => bnd r fun ds => ret (d :: ds)
theorem pda_nil : PDA X [] (ret []) := pa_mono pa_nil fun σ H Q ⟨G, B, env, d, env', ok, e, k⟩ => by
  cases ret_some e
  exact k [] B H ok rfl
theorem pda_cons {e : Expr} {es : List Expr} {m : M D} {r : M (List D)} (h : PD X e m) (q : PDA X es r) (hs : starEach (e :: es) X.env = (false, eval e X.env) :: starEach es X.env := by rfl) : PDA X (e :: es) (aCons m r) :=
  pa_mono (pa_cons h q hs) fun σ H Q ⟨G, B, env, d, env', ok, e, k⟩ => by
    obtain ⟨x, e1, q1, q2⟩ := bnd_some e
    obtain ⟨xs, e2, q3, q4⟩ := bnd_some q2
    cases ret_some q4
    exact tD_of ok q1 fun v B1 H1 ok1 _ r1 => tA_of ok1 q3 fun vs B2 H2 ok2 ok2' r2 => k (v :: vs) B2 H2 ok2 ⟨v, vs, rfl, Rep.mono ok2'.mono _ _ r1, r2⟩
def eTup (m : M (List D)) : M D := bnd m fun ds => if lim ds.length = true then ret (.tup ds) else stuck
def eLst (m : M (List D)) : M D := bnd m fun ds => if lim ds.length = true then ret (.lst ds) else stuck
theorem pd_tup {es : List Expr} {m : M (List D)} {x1} {pos : Pos} (h : PDA X es m) : PD X (.Tuple es x1 pos) (eTup m) :=
  pe_mono (pe_tup h) fun σ H Q ⟨G, B, env, d, env', ok, e, k⟩ => by
    obtain ⟨ds, e1, q1, q2⟩ := bnd_some e
    split at q2
    · rename_i hl
      cases ret_some q2
      exact tA_of ok q1 fun vs B1 H1 ok1 _ r1 => ⟨by rw [r1.length]; exact lim_ok hl, fun p hp =>
        k (.ref p) _ _ (ok1.lay hp) ⟨p, vs, rfl, SqT.of upd_same, Reps.mono (Ex.new (fresh_back ok1.sub hp)) _ _ r1⟩⟩
    · cases q2
theorem pf_lst {es : List Expr} {m : M (List D)} {pos : Pos} (h : PDA X es m) : PF X (.List es pos) (eLst m) :=
  pe_mono (pe_lst h) fun σ H Q ⟨G, B, env, d, env', ok, e, k⟩ => by
    obtain ⟨ds, e1, q1, q2⟩ := bnd_some e
    split at q2
    · rename_i hl
      cases ret_some q2
      exact tA_of ok q1 fun vs B1 H1 ok1 _ r1 => ⟨by rw [r1.length]; exact lim_ok hl, fun p hp =>
        k p B1 _ (ok1.tmp hp) (fresh_back ok1.sub hp) ⟨vs, upd_same, r1⟩ (ok1.live p hp) (ok1.notOwn hp)⟩
    · cases q2

/-! ### statements -/
inductive Out where
  | nx | bk | ct | rt (d : D) | rn (d : D)
def MS := Lvs → Option (Out × Lvs)
def tS (K : PySem.W.Frag) (m : MS) : TS := fun Z σ H => ∃ G B env o env', Ok K G B H σ env ∧ m env = some (o, env') ∧ match o with
  | .nx => ∀ σ' B' H', Ok K G B' H' σ' env' → Z.nx σ' H'
  | .bk => ∀ σ' B' H', Ok K G B' H' σ' env' → Z.bk σ' H'
  | .ct => ∀ σ' B' H', Ok K G B' H' σ' env' → Z.ct σ' H'
  | .rt d => ∀ σ' v B' H', Ok K G B' H' σ' env' → Rep K B' d v → Z.rt v H'
  | .rn d => ∀ σ' a B' H', Ok K G B' H' σ' env' → B' a = none → OwnAt K B' (H' a) d → (G.H a = none ∨ G.L false a) → ¬ IsOwn σ' env' a → Z.rt (.ref a) H'
def PDS (X : Cx) (s : Stmt) (m : MS) : Prop := PS X s (tS X.K m)
def PDB (X : Cx) (s : List Stmt) (m : MS) : Prop := PSs X s (tS X.K m)

def sSeq (a b : MS) : MS := fun e => match a e with
  | some (.nx, e1) => b e1
  | r => r
def sNx : MS := fun e => some (.nx, e)
def sBk : MS := fun e => some (.bk, e)
def sCt : MS := fun e => some (.ct, e)
theorem pdb_nil : PDB X [] sNx := pss_mono pss_nil fun Z σ H ⟨G, B, env, o, env', ok, e, k⟩ => by
  cases e
  exact k σ B H ok
theorem seq_red {K : PySem.W.Frag} {a b : MS} : ∀ Z σ H, tS K (sSeq a b) Z σ H → tSeq (tS K a) (tS K b) Z σ H := fun Z σ H ⟨G, B, env, o, env', ok, e, k⟩ => by
  unfold sSeq at e
  split at e
  · rename_i e1 q
    exact ⟨G, B, env, .nx, e1, ok, q, fun σ' B' H' ok' => ⟨G, B', e1, o, env', ok', e, k⟩⟩
  · rename_i r hr
    refine ⟨G, B, env, o, env', ok, e, ?_⟩
    cases o with
    | nx => exact absurd e (hr env')
    | bk => exact k
    | ct => exact k
    | rt d => exact k
    | rn d => exact k
theorem pdb_cons {s : Stmt} {r : List Stmt} {a b : MS} (h : PDS X s a) (q : PDB X r b) : PDB X (s :: r) (sSeq a b) := pss_mono (pss_cons h q) seq_red
theorem pdb_one {s : Stmt} {a : MS} (h : PDS X s a) : PDB X [s] a := pss_one h
theorem pds_pass {pos : Pos} : PDS X (.Pass pos) sNx := ps_mono ps_pass fun Z σ H ⟨G, B, env, o, env', ok, e, k⟩ => by
  cases e
  exact k σ B H ok
theorem pds_break {pos : Pos} : PDS X (.Break pos) sBk := ps_mono ps_break fun Z σ H ⟨G, B, env, o, env', ok, e, k⟩ => by
  cases e
  exact k σ B H ok
theorem pds_continue {pos : Pos} : PDS X (.Continue pos) sCt := ps_mono ps_continue fun Z σ H ⟨G, B, env, o, env', ok, e, k⟩ => by
  cases e
  exact k σ B H ok
def sNever : MS := fun _ => none
theorem pds_never {s : Stmt} : PDS X s sNever := ps_mono ps_never fun Z σ H ⟨G, B, env, o, env', ok, e, k⟩ => by cases e
theorem pdb_never {s : List Stmt} : PDB X s sNever := pss_mono pss_never fun Z σ H ⟨G, B, env, o, env', ok, e, k⟩ => by cases e
def sIf (c : M Bool) (a b : MS) : MS := fun e => match c e with
  | some (true, e1) => a e1
  | some (false, e1) => b e1
  | none => none
theorem pds_if {c : Expr} {a b : List Stmt} {mc : M Bool} {ma mb : MS} {pos : Pos} (hc : PDT X c mc) (ha : PDB X a ma) (hb : PDB X b mb) : PDS X (.If c a b pos) (sIf mc ma mb) :=
  ps_mono (ps_if hc ha hb) fun Z σ H ⟨G, B, env, o, env', ok, e, k⟩ => by
    unfold sIf at e
    split at e
    · rename_i e1 q
      exact tT_of ok q fun B1 H1 ok1 _ => by rw [if_pos rfl]; exact ⟨G, B1, e1, o, env', ok1, e, k⟩
    · rename_i e1 q
      exact tT_of ok q fun B1 H1 ok1 _ => by rw [if_neg Bool.false_ne_true]; exact ⟨G, B1, e1, o, env', ok1, e, k⟩
    · cases e
/-- x = e -/
def sSet (i : Nat) (m : M D) : MS := fun e => match m e with
  | some (d, e1) => some (.nx, e1.set i (.val d))
  | none => none
/-- x = e, a new list that x alone has -/
def sOwn (i : Nat) (m : M D) : MS := fun e => match m e with
  | some (d, e1) => some (.nx, e1.set i (.own false d))
  | none => none
theorem set_red {K : PySem.W.Frag} {i : Nat} {m : M D} : ∀ Z σ H, tS K (sSet i m) Z σ H → tAsg (tD K m) (gName i) Z σ H := fun Z σ H ⟨G, B, env, o, env', ok, e, k⟩ => by
  unfold sSet at e
  split at e
  · rename_i d e1 q
    cases e
    exact tD_of ok q fun v B1 H1 ok1 _ r1 => k _ B1 H1 (ok1.store r1)
  · cases e
theorem own_red {K : PySem.W.Frag} {i : Nat} {m : M D} : ∀ Z σ H, tS K (sOwn i m) Z σ H → tAsg (tF K m) (gName i) Z σ H := fun Z σ H ⟨G, B, env, o, env', ok, e, k⟩ => by
  unfold sOwn at e
  split at e
  · rename_i d e1 q
    cases e
    exact tF_of ok q fun a B1 H1 ok1 _ h1 h2 h3 h4 => k _ B1 H1 (ok1.take h1 h2 (ok.live a h3) h4)
  · cases e
theorem pds_set (i : Nat) {x : Str} {e : Expr} {m : M D} {pos pos' : Pos} (h : PD X e m) (hN : X.N.Nodup) (hi : X.N[i]? = some x := by rfl) (hx : Loc X.env.scope x := by first | exact Or.inl rfl | exact Or.inr rfl) (hs : swapsWith e (some (.Name x pos')) pos.line X.env = pure false := by rfl)
    (hf : X.fn x = true ∨ X.env.scope.names.lookup x = some .local := by first | exact .inl rfl | exact .inr rfl) : PDS X (.Assign [.Name x pos'] e pos) (sSet i m) := ps_mono (ps_set hN hi hx h hs hf) set_red
theorem pds_own (i : Nat) {x : Str} {e : Expr} {m : M D} {pos pos' : Pos} (h : PF X e m) (hN : X.N.Nodup) (hi : X.N[i]? = some x := by rfl) (hx : Loc X.env.scope x := by first | exact Or.inl rfl | exact Or.inr rfl) (hs : swapsWith e (some (.Name x pos')) pos.line X.env = pure false := by rfl)
    (hf : X.fn x = true ∨ X.env.scope.names.lookup x = some .local := by first | exact .inl rfl | exact .inr rfl) : PDS X (.Assign [.Name x pos'] e pos) (sOwn i m) := ps_mono (ps_set hN hi hx h hs hf) own_red
/-- return -/
def sRet (m : M D) : MS := fun e => match m e with
  | some (d, e1) => some (.rt d, e1)
  | none => none
def sRetF (m : M D) : MS := fun e => match m e with
  | some (d, e1) => some (.rn d, e1)
  | none => none
/-- the name's own list goes to the caller -/
def sRetV (i : Nat) : MS := fun e => match e[i]? with
  | some (.own false d) => some (.rn d, e.set i .no)
  | _ => none
def sRetN : MS := fun e => some (.rt .non, e)
theorem pds_ret {e : Expr} {m : M D} {pos : Pos} (h : PD X e m) : PDS X (.Return (some e) pos) (sRet m) :=
  ps_mono (ps_ret h) fun Z σ H ⟨G, B, env, o, env', ok, e, k⟩ => by
    unfold sRet at e
    split at e
    · rename_i d e1 q
      cases e
      exact tD_of ok q fun v B1 H1 ok1 _ r1 => k σ v B1 H1 ok1 r1
    · cases e
theorem pds_retF {e : Expr} {m : M D} {pos : Pos} (h : PF X e m) : PDS X (.Return (some e) pos) (sRetF m) :=
  ps_mono (ps_ret h) fun Z σ H ⟨G, B, env, o, env', ok, e, k⟩ => by
    unfold sRetF at e
    split at e
    · rename_i d e1 q
      cases e
      exact tF_of ok q fun a B1 H1 ok1 _ h1 h2 h3 h4 => k σ a B1 H1 ok1 h1 h2 (.inl (ok.live a h3)) h4
    · cases e
theorem pds_retV (i : Nat) {x : Str} {pos p1 : Pos} (h : PE X (.Name x p1) (tVar i)) : PDS X (.Return (some (.Name x p1)) pos) (sRetV i) :=
  ps_mono (ps_ret h) fun Z σ H ⟨G, B, env, o, env', ok, e, k⟩ => by
    unfold sRetV at e
    split at e
    · rename_i d q
      cases e
      obtain ⟨a, r1, r2, r3, r4⟩ := ok.own i _ _ q
      have ok' := ok.drop (i := i) (x := some (.ref a))
      have hσ : σ.set i (some (.ref a)) = σ := by
        have hl : i < σ.length := by
          rcases Nat.lt_or_ge i σ.length with z | z
          · exact z
          · rw [List.getElem?_eq_none z] at r1; cases r1
        have hg : σ[i] = some (.ref a) := by
          rw [List.getElem?_eq_getElem hl] at r1
          exact Option.some.inj r1
        rw [← hg]; exact List.set_getElem_self hl
      rw [hσ] at ok'
      refine ⟨.ref a, r1, k σ a B H ok' r2 r3 r4 fun ⟨j, p, e, q1, q2⟩ => ?_⟩
      obtain ⟨c, q1⟩ := get_set_own q1 (fun _ _ z => nomatch z)
      exact c (ok.dis j i a _ _ _ _ q1 q q2 r1)
    · cases e
theorem pds_retN {pos : Pos} : PDS X (.Return none pos) sRetN := ps_mono ps_retN fun Z σ H ⟨G, B, env, o, env', ok, e, k⟩ => by
  cases e
  exact k σ .non B H ok rfl
/-- an expression alone -/
def sDo (m : M D) : MS := fun e => match m e with
  | some (_, e1) => some (.nx, e1)
  | none => none
theorem pds_do {e : Expr} {m : M D} {pos : Pos} (h : PD X e m) (hs : swapsWith e none pos.line X.env = pure false := by rfl) : PDS X (.Expr e pos) (sDo m) :=
  ps_mono (ps_expr h hs) fun Z σ H ⟨G, B, env, o, env', ok, e, k⟩ => by
    unfold sDo at e
    split at e
    · rename_i d e1 q
      cases e
      exact tD_of ok q fun v B1 H1 ok1 _ r1 => k σ B1 H1 ok1
    · cases e
end
end Dv
/-! Targets, loops, comprehensions, calls of defs, a def's body. -/
namespace Dv
open PySem PySem.Spec PyProof.Rows L2 Evl

section
variable {K : PySem.W.Frag} {G : Ent} {B B1 B2 H H1 H2 : Hp} {σ σ' : L2.St} {env env' env1 env2 : Lvs}
/-- an object of nobody's stays through a piece of code -/
theorem Ok.stay (h : Ok K (Ent.at B H σ env) B2 H2 σ' env') {a : Addr} {o : HO} (hH : H a = some o) (hB : B a = none) (hO : ¬ IsOwn σ env a) : H2 a = some o ∧ B2 a = none ∧ ¬ IsOwn σ' env' a := by
  have nO : ∀ p, ¬ OwnP σ env p a := fun p z => hO (.of z)
  refine ⟨h.keep a o hH nO, ?_, fun ⟨i, p, d, e1, e2⟩ => ?_⟩
  · cases q : B2 a with
    | none => rfl
    | some u =>
      rcases h.new a u q with ⟨w, z⟩ | z | ⟨p, z⟩
      · have z : B a = some w := z
        rw [hB] at z; cases z
      · have z : H a = none := z
        rw [hH] at z; cases z
      · exact absurd z (nO p)
  · obtain ⟨b, r1, _, _, r4⟩ := h.own i p d e1
    rw [e2] at r1; cases r1
    rcases r4 with z | z
    · have z : H a = none := z
      rw [hH] at z; cases z
    · exact nO p z
theorem tS_of {m : MS} {o : Out} {Z : Ends} (h : Ok K G B H σ env) (e : m env = some (o, env')) (k : match o with
  | .nx => ∀ σ' B' H', Ok K G B' H' σ' env' → Ok K (Ent.at B H σ env) B' H' σ' env' → Z.nx σ' H'
  | .bk => ∀ σ' B' H', Ok K G B' H' σ' env' → Ok K (Ent.at B H σ env) B' H' σ' env' → Z.bk σ' H'
  | .ct => ∀ σ' B' H', Ok K G B' H' σ' env' → Ok K (Ent.at B H σ env) B' H' σ' env' → Z.ct σ' H'
  | .rt d => ∀ σ' v B' H', Ok K G B' H' σ' env' → Rep K B' d v → Z.rt v H'
  | .rn d => ∀ σ' a B' H', Ok K G B' H' σ' env' → B' a = none → OwnAt K B' (H' a) d → (G.H a = none ∨ G.L false a) → ¬ IsOwn σ' env' a → Z.rt (.ref a) H') : tS K m Z σ H := by
  refine ⟨Ent.at B H σ env, B, env, o, env', h.self, e, ?_⟩
  cases o with
  | nx => exact fun σ' B' H' h' => k σ' B' H' (h.comp h') h'
  | bk => exact fun σ' B' H' h' => k σ' B' H' (h.comp h') h'
  | ct => exact fun σ' B' H' h' => k σ' B' H' (h.comp h') h'
  | rt d => exact fun σ' v B' H' h' => k σ' v B' H' (h.comp h')
  | rn d =>
    exact fun σ' a B' H' h' q1 q2 q3 q4 => k σ' a B' H' (h.comp h') q1 q2 (by
      rcases q3 with z | ⟨i, d', e1, e2⟩
      · exact .inl (h.live a z)
      · obtain ⟨b, r1, _, _, r4⟩ := h.own i _ _ e1
        rw [e2] at r1; cases r1
        exact r4) q4
/-- other slots, alike where anything is told -/
theorem Ok.swap (h : Ok K G B H σ env) (hl : σ'.length = σ.length) (hs : ∀ (i : Nat) (x : Lv), env[i]? = some x → x ≠ .no → σ'[i]? = σ[i]?) : Ok K G B H σ' env where
  len := h.len.trans hl.symm
  sub := h.sub
  val := fun i d e => by rw [hs i _ e (fun z => nomatch z)]; exact h.val i d e
  own := fun i p d e => by rw [hs i _ e (fun z => nomatch z)]; exact h.own i p d e
  dis := fun i j a p q d e e1 e2 s1 s2 => by
    rw [hs i _ e1 (fun z => nomatch z)] at s1
    rw [hs j _ e2 (fun z => nomatch z)] at s2
    exact h.dis i j a p q d e e1 e2 s1 s2
  pin := fun i d e => by rw [hs i _ e (fun z => nomatch z)]; exact h.pin i d e
  mono := h.mono
  keep := h.keep
  new := h.new
  live := h.live
end

/-! ### targets -/
def gN (i : Nat) : D → Lvs → Option Lvs := fun d e => some (e.set i (.val d))
def setAll : List Nat → List D → Lvs → Option Lvs
  | [], [], e => some e
  | i :: is, d :: ds, e => setAll is ds (e.set i (.val d))
  | _, _, _ => none
/-- names in a row -/
def gT (is : List Nat) : D → Lvs → Option Lvs
  | .tup ds, e => setAll is ds e
  | _, _ => none
/-- vs: the slots that may change -/
def tG (K : PySem.W.Frag) (vs : List Nat) (g : D → Lvs → Option Lvs) : TG := fun v σ H Q => ∃ G B env d env', Ok K G B H σ env ∧ Rep K B d v ∧ g d env = some env' ∧ ∀ σ' B' H', Ok K G B' H' σ' env' → wipe σ' vs = wipe σ vs → Q σ' H'
def tGs (K : PySem.W.Frag) (vs : List Nat) (is : List Nat) : TGs := fun us σ H Q => ∃ G B env ds env', Ok K G B H σ env ∧ Reps K B ds us ∧ setAll is ds env = some env' ∧ ∀ σ' B' H', Ok K G B' H' σ' env' → wipe σ' vs = wipe σ vs → Q σ' H'
def PDG (X : Cx) (vs : List Nat) (t : Expr) (g : D → Lvs → Option Lvs) : Prop := PG X t (tG X.K vs g)
def PDGs (X : Cx) (vs : List Nat) (t : List Expr) (is : List Nat) : Prop := PGs X t (tGs X.K vs is)
theorem pg_mono {X : Cx} {e : Expr} {t t' : TG} (h : PG X e t) (i : ∀ v σ H Q, t' v σ H Q → t v σ H Q) : PG X e t' := ⟨fun pins s σ H v u Q I r q => h.run pins s σ H v u Q I r (i v σ H Q q)⟩
theorem pgs_mono {X : Cx} {e : List Expr} {t t' : TGs} (h : PGs X e t) (i : ∀ v σ H Q, t' v σ H Q → t v σ H Q) : PGs X e t' := ⟨fun pins s σ H v u Q I r q => h.run pins s σ H v u Q I r (i v σ H Q q)⟩
theorem set_set_comm {α : Type} (l : List α) (i j : Nat) (x y : α) (h : i ≠ j) : (l.set i x).set j y = (l.set j y).set i x := List.set_comm _ _ h
theorem wipe_set {σ : L2.St} {i : Nat} {x : Option V} : ∀ {vs : List Nat}, i ∈ vs → wipe (σ.set i x) vs = wipe σ vs
  | v :: vs, h => by
    unfold wipe
    by_cases hv : i ∈ vs
    · rw [wipe_set hv]
    · rcases List.mem_cons.mp h with e | e
      · subst e
        have : ∀ (vs : List Nat), i ∉ vs → wipe (σ.set i x) vs = (wipe σ vs).set i x := by
          intro vs
          induction vs with
          | nil => intro _; rfl
          | cons w ws ih =>
            intro hn
            unfold wipe
            rw [ih fun z => hn (List.mem_cons_of_mem _ z), List.set_comm _ _ (fun z => hn (by rw [z]; exact List.mem_cons_self))]
        rw [this vs hv, List.set_set]
      · exact absurd e hv
section
variable {X : Cx}
theorem pdg_name (i : Nat) {vs : List Nat} {x : Str} {pos : Pos} (hN : X.N.Nodup) (hv : i ∈ vs := by decide) (hi : X.N[i]? = some x := by rfl) (hx : Loc X.env.scope x := by first | exact Or.inl rfl | exact Or.inr rfl)
    (hf : X.fn x = true ∨ X.env.scope.names.lookup x = some .local := by first | exact .inl rfl | exact .inr rfl) : PDG X vs (.Name x pos) (gN i) :=
  pg_mono (pg_name hN hi hx hf) fun v σ H Q ⟨G, B, env, d, env', ok, r, e, k⟩ => by
    cases e
    exact k _ B H (ok.store r) (wipe_set hv)
theorem pdgs_nil {vs : List Nat} : PDGs X vs [] [] := pgs_mono pgs_nil fun us σ H Q ⟨G, B, env, ds, env', ok, r, e, k⟩ => by
  cases ds with
  | nil => cases r; cases e; exact ⟨rfl, k σ B H ok rfl⟩
  | cons _ _ => cases e
theorem pdgs_cons (i : Nat) {vs is : List Nat} {x : Str} {pos : Pos} {es : List Expr} (h : PDGs X vs es is) (hN : X.N.Nodup) (hv : i ∈ vs := by decide) (hi : X.N[i]? = some x := by rfl) (hx : Loc X.env.scope x := by first | exact Or.inl rfl | exact Or.inr rfl)
    (hs : (assignEach (.Name x pos :: es) X.env).map (·.2) = assign (.Name x pos) X.env :: (assignEach es X.env).map (·.2) := by rfl)
    (hf : X.fn x = true ∨ X.env.scope.names.lookup x = some .local := by first | exact .inl rfl | exact .inr rfl) : PDGs X vs (.Name x pos :: es) (i :: is) :=
  pgs_mono (pgs_cons (pg_name hN hi hx hf) h hs) fun us σ H Q ⟨G, B, env, ds, env', ok, r, e, k⟩ => by
    cases ds with
    | nil => cases e
    | cons d ds =>
      obtain ⟨v, t, rfl, r1, r2⟩ := r
      exact ⟨v, t, rfl, G, B, env.set i (.val d), ds, env', ok.store r1, r2, e, fun σ' B' H' ok' hw => k σ' B' H' ok' (hw.trans (wipe_set hv))⟩
theorem pdg_tup {vs is : List Nat} {es : List Expr} {k : Nat} {pos : Pos} (h : PDGs X vs es is) (hc : X.calm = true) (hn : (assignEach es X.env).length = is.length := by rfl) (hst : (assignEach es X.env).findIdx? (·.1) = none := by rfl) : PDG X vs (.Tuple es k pos) (gT is) :=
  pg_mono (pg_tup hc h hn hst) fun v σ H Q ⟨G, B, env, d, env', ok, r, e, k⟩ => by
    cases d with
    | tup ds =>
      obtain ⟨a, us, rfl, hs, hr⟩ := r
      have hl : ∀ (is : List Nat) (ds : List D) (e e' : Lvs), setAll is ds e = some e' → is.length = ds.length := by
        intro is
        induction is with
        | nil => intro ds e e' h; cases ds with
          | nil => rfl
          | cons _ _ => cases h
        | cons i is ih => intro ds e e' h; cases ds with
          | nil => cases h
          | cons d ds => exact congrArg (· + 1) (ih ds _ e' h)
      exact ⟨a, us, rfl, ex_t ok.sub hs, by rw [hr.length]; exact (hl _ _ _ _ e).symm, G, B, env, ds, env', ok, hr, e, k⟩
    | _ => cases e

/-! ### what is walked -/
def Walks (K : PySem.W.Frag) (J : It) (B0 : Hp) (ds : List D) : Prop := ∀ (G : Ent) (B H : Hp) (σ : L2.St) (env : Lvs) (i : Nat), Ex B0 B → Ok K G B H σ env →
  (∀ d, ds[i]? = some d → J.go i H ∧ ∀ x H', J.yld i H x H' → ∃ B', Ok K G B' H' σ env ∧ Ok K (Ent.at B H σ env) B' H' σ env ∧ Rep K B' d x) ∧ (ds.length ≤ i → J.stop i H)
def tI (K : PySem.W.Frag) (m : M (List D)) : TI := fun σ H R => ∃ G B env ds env', Ok K G B H σ env ∧ m env = some (ds, env') ∧ ∀ J B' H', Ok K G B' H' σ env' → Walks K J B' ds → R J H'
def PDI (X : Cx) (tg iter : Expr) (m : M (List D)) : Prop := PI X tg iter (tI X.K m)
theorem pi_mono {tg e : Expr} {t t' : TI} (h : PI X tg e t) (i : ∀ σ H R, t' σ H R → t σ H R) : PI X tg e t' := ⟨fun pins s σ H R I q => h.run pins s σ H R I (i σ H R q)⟩
theorem pi_or {tg e : Expr} {t t' : TI} (h : PI X tg e t) (h' : PI X tg e t') : PI X tg e (fun σ H R => t σ H R ∨ t' σ H R) := ⟨fun pins s σ H R I q => q.elim (h.run pins s σ H R I) (h'.run pins s σ H R I)⟩
/-- the items of data -/
def itemsOf : D → Option (List D)
  | .lst ds => some ds
  | .fls ds => some ds
  | .tup ds => some ds
  | .str s => some (s.map fun c => .str [c])
  | _ => none
def iAny (m : M D) : M (List D) := bnd m fun d => lft (itemsOf d)
theorem walks_list {K : PySem.W.Frag} {a : Addr} {vs : List V} {ds : List D} {B0 : Hp} (hs : SqL K B0 a vs) (hr : Reps K B0 ds vs) : Walks K (Itl K a) B0 ds := fun G B H σ env i ex ok => by
  have hH : SqL K H a vs := ex_l (ex.trans ok.sub) hs
  refine ⟨fun d e => ?_, fun hl => ⟨vs, hH, by rw [hr.length]; exact hl⟩⟩
  obtain ⟨v, q1, q2⟩ := hr.get e
  refine ⟨⟨vs, v, hH, q1⟩, fun x H' y => ?_⟩
  obtain ⟨rfl, y⟩ := y
  have ex2 := y vs hH
  rw [q1] at ex2; cases ex2
  exact ⟨B, ok, ok.self, Rep.mono ex _ _ q2⟩
theorem walks_tup {K : PySem.W.Frag} {a : Addr} {vs : List V} {ds : List D} {B0 : Hp} (hs : SqT K B0 a vs) (hr : Reps K B0 ds vs) : Walks K (Itt K a) B0 ds := fun G B H σ env i ex ok => by
  have hH : SqT K H a vs := ex_t (ex.trans ok.sub) hs
  refine ⟨fun d e => ?_, fun hl => ⟨vs, hH, by rw [hr.length]; exact hl⟩⟩
  obtain ⟨v, q1, q2⟩ := hr.get e
  refine ⟨⟨vs, v, hH, q1⟩, fun x H' y => ?_⟩
  obtain ⟨rfl, y⟩ := y
  have ex2 := y vs hH
  rw [q1] at ex2; cases ex2
  exact ⟨B, ok, ok.self, Rep.mono ex _ _ q2⟩
theorem walks_str {K : PySem.W.Frag} {s : List Nat} {B0 : Hp} : Walks K (Its (mkS s)) B0 (s.map fun c => .str [c]) := fun G B H σ env i ex ok => by
  have hsz : (mkS s).cps.size = s.length := mkS_len s
  refine ⟨fun d e => ?_, fun hl => ?_⟩
  · rw [List.getElem?_map] at e
    cases q : s[i]? with
    | none => rw [q] at e; cases e
    | some c =>
      rw [q] at e; cases e
      have hi : i < s.length := by
        rcases Nat.lt_or_ge i s.length with z | z
        · exact z
        · rw [List.getElem?_eq_none z] at q; cases q
      refine ⟨by show i < (mkS s).cps.size; omega, fun x H' y => ?_⟩
      obtain ⟨rfl, c', y1, y2⟩ := y
      have hc : (mkS s).cps[i]? = s[i]? := by simp [mkS]
      rw [hc, q] at y1; cases y1
      exact ⟨B, ok, ok.self, y2⟩
  · show (mkS s).cps.size ≤ i
    rw [List.length_map] at hl
    omega
theorem pdi_any {tg e : Expr} {m : M D} (h : PD X e m) : PDI X tg e (iAny m) :=
  pi_mono (pi_or (pi_list h) (pi_or (pi_tup h) (pi_str h))) fun σ H R ⟨G, B, env, ds, env', ok, e, k⟩ => by
    obtain ⟨d, e1, q1, q2⟩ := bnd_some e
    obtain ⟨z, q5, q6⟩ := lft_some q2
    cases q6
    cases d with
    | lst ds =>
      cases q5
      exact .inl (tD_of ok q1 fun v B1 H1 ok1 _ r => by
        obtain ⟨a, vs, rfl, hs, hr⟩ := r
        exact ⟨a, rfl, ⟨vs, SqL.of (ok1.sub _ _ hs)⟩, k _ B1 H1 ok1 (walks_list (SqL.of hs) hr)⟩)
    | fls ds =>
      cases q5
      exact .inl (tD_of ok q1 fun v B1 H1 ok1 _ r => by
        obtain ⟨a, vs, rfl, hs, hr⟩ := r
        exact ⟨a, rfl, ⟨vs, ex_l ok1.sub hs⟩, k _ B1 H1 ok1 (walks_list hs hr)⟩)
    | tup ds =>
      cases q5
      exact .inr (.inl (tD_of ok q1 fun v B1 H1 ok1 _ r => by
        obtain ⟨a, vs, rfl, hs, hr⟩ := r
        exact ⟨a, rfl, ⟨vs, ex_t ok1.sub hs⟩, k _ B1 H1 ok1 (walks_tup hs hr)⟩))
    | str s =>
      cases q5
      exact .inr (.inr (tD_of ok q1 fun v B1 H1 ok1 _ r => by
        have r : v = .str (mkS s) := r
        exact ⟨mkS s, r, k _ B1 H1 ok1 walks_str⟩))
    | _ => cases q5
/-- lo, lo + 1, .. -/
def rangeD (lo : Int) (n : Nat) : List D := (List.range n).map fun (j : Nat) => .int (lo + (j : Int))
def rangeC (lo c : Int) (n : Nat) : List D := (List.range n).map fun (j : Nat) => .int (lo + (j : Int) * c)
theorem walks_range {K : PySem.W.Frag} {lo : Int} {n : Nat} {B0 : Hp} : Walks K (Itr lo n) B0 (rangeD lo n) := fun G B H σ env i ex ok => by
  refine ⟨fun d e => ?_, fun hl => ?_⟩
  · unfold rangeD at e
    rw [List.getElem?_map] at e
    by_cases hi : i < n
    · rw [List.getElem?_range hi] at e
      cases e
      exact ⟨hi, fun x H' y => by obtain ⟨rfl, rfl⟩ := y; exact ⟨B, ok, ok.self, rfl⟩⟩
    · rw [List.getElem?_eq_none (by rw [List.length_range]; omega)] at e; cases e
  · unfold rangeD at hl
    rw [List.length_map, List.length_range] at hl
    exact hl
theorem walks_rangeC {K : PySem.W.Frag} {lo c : Int} {n : Nat} {B0 : Hp} : Walks K (Itc lo c n) B0 (rangeC lo c n) := fun G B H σ env i ex ok => by
  refine ⟨fun d e => ?_, fun hl => ?_⟩
  · unfold rangeC at e
    rw [List.getElem?_map] at e
    by_cases hi : i < n
    · rw [List.getElem?_range hi] at e
      cases e
      exact ⟨hi, fun x H' y => by obtain ⟨rfl, rfl⟩ := y; exact ⟨B, ok, ok.self, rfl⟩⟩
    · rw [List.getElem?_eq_none (by rw [List.length_range]; omega)] at e; cases e
  · unfold rangeC at hl
    rw [List.length_map, List.length_range] at hl
    exact hl
def small62 (i : Int) : Bool := decide (-(2 ^ 62) ≤ i) && decide (i < 2 ^ 62)
theorem small62_ok {i : Int} (h : small62 i = true) : -(2 ^ 62) ≤ i ∧ i < 2 ^ 62 := by
  unfold small62 at h
  rw [Bool.and_eq_true] at h
  exact ⟨of_decide_eq_true h.1, of_decide_eq_true h.2⟩
def range1 : List D → Option (List D)
  | [.int j] => if small62 j = true then some (rangeD 0 j.toNat) else none
  | _ => none
def range2 : List D → Option (List D)
  | [.int i, .int j] => if (small62 i && small62 j) = true then some (rangeD i (j - i).toNat) else none
  | _ => none
/-- downward by ones -/
def range3 : List D → Option (List D)
  | [.int i, .int j, .int c] => if (decide (c = -1) && small62 i && small62 j) = true then some (rangeC i (-1) (i - j).toNat) else none
  | _ => none
def iRange (f : List D → Option (List D)) (m : M (List D)) : M (List D) := bnd m fun ds => lft (f ds)
theorem reps1 {K : PySem.W.Frag} {B : Hp} {d : D} {vs : List V} (h : Reps K B [d] vs) : ∃ v, vs = [v] ∧ Rep K B d v := by
  obtain ⟨v, r, rfl, h1, h2⟩ := h
  cases h2
  exact ⟨v, rfl, h1⟩
theorem reps2 {K : PySem.W.Frag} {B : Hp} {d e : D} {vs : List V} (h : Reps K B [d, e] vs) : ∃ v u, vs = [v, u] ∧ Rep K B d v ∧ Rep K B e u := by
  obtain ⟨v, r, rfl, h1, h2⟩ := h
  obtain ⟨u, rfl, h3⟩ := reps1 h2
  exact ⟨v, u, rfl, h1, h3⟩
theorem reps3 {K : PySem.W.Frag} {B : Hp} {d e f : D} {vs : List V} (h : Reps K B [d, e, f] vs) : ∃ v u w, vs = [v, u, w] ∧ Rep K B d v ∧ Rep K B e u ∧ Rep K B f w := by
  obtain ⟨v, r, rfl, h1, h2⟩ := h
  obtain ⟨u, w, rfl, h3, h4⟩ := reps2 h2
  exact ⟨v, u, w, rfl, h1, h3, h4⟩
theorem pdi_range1 {tg a : Expr} {m : M (List D)} {p pos : Pos} (hm : X.mg "range" = none) (ha : PDA X [a] m) (hg : Gl X "range" := by rfl) (hs : starEach [a] X.env = [(false, eval a X.env)] := by rfl) : PDI X tg (.Call (.Name "range" p) [a] [] pos) (iRange range1 m) :=
  pi_mono (pi_range1 hg hm ha hs) fun σ H R ⟨G, B, env, ds, env', ok, e, k⟩ => by
    obtain ⟨xs, e1, q1, q2⟩ := bnd_some e
    obtain ⟨z, q5, q6⟩ := lft_some q2
    cases q6
    unfold range1 at q5
    split at q5
    · rename_i j
      split at q5
      · rename_i hj
        cases q5
        refine tA_of ok q1 fun vs B1 H1 ok1 _ r0 => ?_
        obtain ⟨v, rfl, r⟩ := reps1 r0
        have r : v = .int j := r
        subst r
        obtain ⟨h1, h2⟩ := small62_ok hj
        exact ⟨j, rfl, h1, h2, k _ B1 H1 ok1 walks_range⟩
      · cases q5
    · cases q5
theorem pdi_range2 {tg a b : Expr} {m : M (List D)} {p pos : Pos} (hm : X.mg "range" = none) (ha : PDA X [a, b] m) (hg : Gl X "range" := by rfl) (hs : starEach [a, b] X.env = [(false, eval a X.env), (false, eval b X.env)] := by rfl) (hs2 : starEach [b] X.env = [(false, eval b X.env)] := by rfl) :
    PDI X tg (.Call (.Name "range" p) [a, b] [] pos) (iRange range2 m) :=
  pi_mono (pi_range2 hg hm ha hs hs2) fun σ H R ⟨G, B, env, ds, env', ok, e, k⟩ => by
    obtain ⟨xs, e1, q1, q2⟩ := bnd_some e
    obtain ⟨z, q5, q6⟩ := lft_some q2
    cases q6
    unfold range2 at q5
    split at q5
    · rename_i i j
      split at q5
      · rename_i hj
        cases q5
        refine tA_of ok q1 fun vs B1 H1 ok1 _ r => ?_
        obtain ⟨v, u, rfl, r, r2⟩ := reps2 r
        have r : v = .int i := r
        have r2 : u = .int j := r2
        subst r r2
        rw [Bool.and_eq_true] at hj
        obtain ⟨h1, h2⟩ := small62_ok hj.1
        obtain ⟨h3, h4⟩ := small62_ok hj.2
        exact ⟨i, j, rfl, ⟨h1, h2, h3, h4⟩, k _ B1 H1 ok1 walks_range⟩
      · cases q5
    · cases q5
theorem pdi_range3 {tg a b c : Expr} {m : M (List D)} {p pos : Pos} (hm : X.mg "range" = none) (ha : PDA X [a, b, c] m) (hg : Gl X "range" := by rfl)
    (hs : starEach [a, b, c] X.env = [(false, eval a X.env), (false, eval b X.env), (false, eval c X.env)] := by rfl) (hs2 : starEach [b, c] X.env = [(false, eval b X.env), (false, eval c X.env)] := by rfl) (hs3 : starEach [c] X.env = [(false, eval c X.env)] := by rfl) :
    PDI X tg (.Call (.Name "range" p) [a, b, c] [] pos) (iRange range3 m) :=
  pi_mono (pi_range3 hg hm ha (by rw [hs, hs2]) (by rw [hs2]; rfl)) fun σ H R ⟨G, B, env, ds, env', ok, e, k⟩ => by
    obtain ⟨xs, e1, q1, q2⟩ := bnd_some e
    obtain ⟨z, q5, q6⟩ := lft_some q2
    cases q6
    unfold range3 at q5
    split at q5
    · rename_i i j c
      split at q5
      · rename_i hj
        cases q5
        refine tA_of ok q1 fun vs B1 H1 ok1 _ r => ?_
        obtain ⟨v, u, w, rfl, r, r2, r3⟩ := reps3 r
        have r : v = .int i := r
        have r2 : u = .int j := r2
        have r3 : w = .int c := r3
        rw [Bool.and_eq_true, Bool.and_eq_true] at hj
        obtain ⟨h1, h2⟩ := small62_ok hj.1.2
        obtain ⟨h3, h4⟩ := small62_ok hj.2
        have hc : c = -1 := of_decide_eq_true hj.1.1
        subst r r2 r3 hc
        exact ⟨i, j, -1, _, rfl, RgC.neg h1 h2 h3 h4, k _ B1 H1 ok1 walks_rangeC⟩
      · cases q5
    · cases q5

/-! ### for -/
def forL (g : D → Lvs → Option Lvs) (b : MS) : List D → MS
  | [], e => some (.nx, e)
  | d :: ds, e => match g d e with
    | some e1 => match b e1 with
      | some (.nx, e2) => forL g b ds e2
      | some (.ct, e2) => forL g b ds e2
      | some (.bk, e2) => some (.nx, e2)
      | r => r
    | none => none
def sFor (m : M (List D)) (g : D → Lvs → Option Lvs) (b : MS) : MS := fun e => match m e with
  | some (ds, e1) => forL g b ds e1
  | none => none
theorem for_red {K : PySem.W.Frag} {m : M (List D)} {vs : List Nat} {g : D → Lvs → Option Lvs} {b : MS} : ∀ Z σ H, tS K (sFor m g b) Z σ H → tFor (tI K m) (tG K vs g) (tS K b) Z σ H := fun Z σ H ⟨G, B, env, o, env', ok, e, k⟩ => by
  unfold sFor at e
  split at e
  rotate_left
  · cases e
  rename_i ds e1 q
  refine ⟨Ent.at B H σ env, B, env, ds, e1, ok.self, q, fun J B1 H1 ok1' wk => ?_⟩
  have ok1 := ok.comp ok1'
  refine ⟨fun i n σ H => ∃ B env, Ok K G B H σ env ∧ Ex B1 B ∧ n = ds.length - i ∧ i ≤ ds.length ∧ forL g b (ds.drop i) env = some (o, env'), ⟨ds.length, B1, e1, ok1, Ex.refl _, rfl, Nat.zero_le _, e⟩, fun i n σ H hW => ?_⟩
  obtain ⟨B2, en, ok2, ex2, hn, hi, he⟩ := hW
  obtain ⟨go, stop⟩ := wk G B2 H σ en i ex2 ok2
  by_cases hlt : i < ds.length
  · have hd : ds[i]? = some ds[i] := List.getElem?_eq_getElem hlt
    obtain ⟨g1, g2⟩ := go _ hd
    rw [List.drop_eq_getElem_cons hlt] at he
    unfold forL at he
    split at he
    rotate_left
    · cases he
    rename_i en1 hg
    refine .inr ⟨g1, fun σ' H' => ∃ B env, Ok K G B H' σ' env ∧ Ex B1 B ∧ forL g b (ds.drop (i + 1)) env = some (o, env'), fun σ' H' ⟨B3, en3, ok3, ex3, he3⟩ => ⟨ds.length - (i + 1), by omega, B3, en3, ok3, ex3, rfl, hlt, he3⟩, fun x H' y => ?_⟩
    obtain ⟨B3, ok3, ok3', rx⟩ := g2 x H' y
    have ex3 : Ex B1 B3 := ex2.trans ok3'.mono
    refine ⟨Ent.at B3 H' σ en, B3, en, _, en1, ok3.self, rx, hg, fun σ4 B4 H4 ok4' _ => ?_⟩
    have ok4 := ok3.comp ok4'
    have ex4 : Ex B1 B4 := ex3.trans ok4'.mono
    split at he
    · rename_i en2 hb
      exact tS_of ok4 hb fun σ' B' H' ok' ok'' => ⟨B', en2, ok', ex4.trans ok''.mono, he⟩
    · rename_i en2 hb
      exact tS_of ok4 hb fun σ' B' H' ok' ok'' => ⟨B', en2, ok', ex4.trans ok''.mono, he⟩
    · rename_i en2 hb
      cases he
      exact tS_of ok4 hb fun σ' B' H' ok' ok'' => k σ' B' H' ok'
    · rename_i r h1 h2 h3
      cases o with
      | nx => exact absurd he (h1 env')
      | ct => exact absurd he (h2 env')
      | bk => exact absurd he (h3 env')
      | rt d => exact tS_of ok4 he k
      | rn d => exact tS_of ok4 he k
  · have hi' : i = ds.length := by omega
    subst hi'
    rw [List.drop_length] at he
    cases he
    exact .inl ⟨stop (Nat.le_refl _), k σ B2 H ok2⟩
theorem pds_for {tg iter : Expr} {body : List Stmt} {m : M (List D)} {vs : List Nat} {g : D → Lvs → Option Lvs} {b : MS} {pos : Pos} (hi : PDI X tg iter m) (hg : PDG X vs tg g) (hb : PDB X body b) (hp : PassesOwn (model X.prog X.w) X.A X.env X.xe := by exact PassesOwn.never) (hc : X.calm = true := by rfl)
    (hs : ∀ x, foldedSetIterable iter X.env x = pure x := by intro _; rfl) : PDS X (.For tg iter body [] pos) (sFor m g b) := ps_mono (ps_for hp hc hi hg hb hs) for_red

/-! ### while -/
def whileL (c : M Bool) (b : MS) : Nat → MS
  | 0, _ => none
  | n + 1, e => match c e with
    | some (true, e1) => match b e1 with
      | some (.nx, e2) => whileL c b n e2
      | some (.ct, e2) => whileL c b n e2
      | some (.bk, e2) => some (.nx, e2)
      | r => r
    | some (false, e1) => some (.nx, e1)
    | none => none
theorem while_red {K : PySem.W.Frag} {n : Nat} {c : M Bool} {b : MS} : ∀ Z σ H, tS K (whileL c b n) Z σ H → tWhile (tT K c) (tS K b) Z σ H := fun Z σ H ⟨G, B, env, o, env', ok, e, k⟩ => by
  refine ⟨fun n σ H => ∃ B env, Ok K G B H σ env ∧ whileL c b n env = some (o, env'), ⟨n, B, env, ok, e⟩, fun n σ H ⟨B, env, ok, e⟩ => ?_⟩
  cases n with
  | zero => cases e
  | succ n =>
    unfold whileL at e
    split at e
    · rename_i e1 hc
      refine tT_of ok hc fun B1 H1 ok1 _ => ?_
      rw [if_pos rfl]
      refine ⟨fun σ' H' => ∃ B env, Ok K G B H' σ' env ∧ whileL c b n env = some (o, env'), fun σ' H' hN => ⟨n, Nat.lt_succ_self n, hN⟩, ?_⟩
      split at e
      · rename_i e2 hb
        exact tS_of ok1 hb fun σ' B' H' ok' _ => ⟨B', e2, ok', e⟩
      · rename_i e2 hb
        exact tS_of ok1 hb fun σ' B' H' ok' _ => ⟨B', e2, ok', e⟩
      · rename_i e2 hb
        cases e
        exact tS_of ok1 hb fun σ' B' H' ok' _ => k σ' B' H' ok'
      · rename_i r h1 h2 h3
        cases o with
        | nx => exact absurd e (h1 env')
        | ct => exact absurd e (h2 env')
        | bk => exact absurd e (h3 env')
        | rt d => exact tS_of ok1 e k
        | rn d => exact tS_of ok1 e k
    · rename_i e1 hc
      cases e
      exact tT_of ok hc fun B1 H1 ok1 _ => by rw [if_neg Bool.false_ne_true]; exact k σ B1 H1 ok1
    · cases e
theorem pds_while (n : Nat) {c : Expr} {body : List Stmt} {mc : M Bool} {b : MS} {pos : Pos} (hc : PDT X c mc) (hb : PDB X body b) (hp : PassesOwn (model X.prog X.w) X.A X.env X.xe := by exact PassesOwn.never) : PDS X (.While c body [] pos) (whileL mc b n) := ps_mono (ps_while hp hc hb) while_red

/-! ### list comprehensions -/
def wipeE : Lvs → List Nat → Lvs
  | e, [] => e
  | e, v :: vs => (wipeE e vs).set v .no
def lcL (vs : List Nat) (g : D → Lvs → Option Lvs) (t : M Bool) (f : M D) : List D → List D → M (List D)
  | [], acc, e => some (acc, e)
  | d :: ds, acc, e => match g d e with
    | some e1 => match t e1 with
      | some (true, e2) => match f e2 with
        | some (y, e3) => if lim (acc.length + 1) = true then lcL vs g t f ds (acc ++ [y]) (wipeE e3 vs) else none
        | none => none
      | some (false, e2) => lcL vs g t f ds acc (wipeE e2 vs)
      | none => none
    | none => none
def eLc (vs : List Nat) (m : M (List D)) (g : D → Lvs → Option Lvs) (t : M Bool) (f : M D) : M D := bnd m fun ds => fun e => match lcL vs g t f ds [] (wipeE e vs) with
  | some (rs, e1) => some (.lst rs, e1)
  | none => none
section
variable {K : PySem.W.Frag} {G : Ent} {B H : Hp} {σ σ' : L2.St} {env : Lvs}
theorem Ok.wipe (h : Ok K G B H σ env) : ∀ vs : List Nat, Ok K G B H (L2.wipe σ vs) (wipeE env vs)
  | [] => h
  | v :: vs => (h.wipe vs).drop
theorem wipeE_no : ∀ {vs : List Nat} {i : Nat} {x : Lv}, (wipeE env vs)[i]? = some x → x ≠ .no → i ∉ vs
  | [], i, x, _, _ => by simp
  | v :: vs, i, x, e, hx => by
    unfold wipeE at e
    by_cases c : v = i
    · subst c
      by_cases hl : v < (wipeE env vs).length
      · rw [List.getElem?_set_self hl] at e; cases e; exact absurd rfl hx
      · rw [List.getElem?_eq_none (by rw [List.length_set]; omega)] at e; cases e
    · rw [List.getElem?_set_ne c] at e
      have := wipeE_no (vs := vs) e hx
      simp only [List.mem_cons, not_or]
      exact ⟨fun z => c z.symm, this⟩
/-- behind a block's turn the slots are the def's again -/
theorem Ok.unblk (h : Ok K G B H σ' env) {vs : List Nat} (hw : L2.wipe σ' vs = L2.wipe σ vs) : Ok K G B H σ (wipeE env vs) := by
  refine (h.wipe vs).swap ?_ fun i x e hx => ?_
  · rw [hw, wipe_length]
  · rw [hw, wipe_out (wipeE_no e hx)]
end
theorem lc_red {K : PySem.W.Frag} {m : M (List D)} {vs : List Nat} {g : D → Lvs → Option Lvs} {t : M Bool} {f : M D} : ∀ σ H Q, tF K (eLc vs m g t f) σ H Q → tLc (tI K m) (tG K vs g) (tT K t) (tD K f) vs σ H Q := fun σ H Q ⟨G, B, env, d, env', ok, e, k⟩ => by
  obtain ⟨ds, e1, q, e⟩ := bnd_some e
  split at e
  rotate_left
  · cases e
  rename_i rs e2 hl
  cases e
  refine ⟨Ent.at B H σ env, B, env, ds, e1, ok.self, q, fun J B1 H1 ok1' wk D0 hD => ?_⟩
  have ok1 := ok.comp ok1'
  have gD : G.H D0 = none := ok1.live D0 hD
  have start : Ok K G B1 (upd H1 D0 (.lst [])) σ (wipeE e1 vs) := (ok1.tmp hD).unblk rfl
  refine ⟨fun i n H => ∃ B env acc us, Ok K G B H σ env ∧ (∀ v ∈ vs, ∀ x, env[v]? = some x → x = .no) ∧ Ex B1 B ∧ n = ds.length - i ∧ i ≤ ds.length ∧ H D0 = some (.lst us) ∧ Reps K B acc us ∧ B D0 = none ∧ ¬ IsOwn σ env D0 ∧ lcL vs g t f (ds.drop i) acc env = some (rs, env'),
    ⟨ds.length, B1, wipeE e1 vs, [], [], start, fun v hv x hx => Classical.byContradiction fun c => wipeE_no hx c hv, Ex.refl _, rfl, Nat.zero_le _, upd_same, rfl, fresh_back ok1.sub hD, fun ⟨i, p, d, x1, x2⟩ => ?_, hl⟩, fun i n H hW => ?_⟩
  · obtain ⟨a, r1, r2, r3, r4⟩ := start.own i p d x1
    rw [x2] at r1; cases r1
    have hno := wipeE_no x1 (fun z => nomatch z)
    have : (e1)[i]? = some (.own p d) := by
      have : ∀ vs : List Nat, i ∉ vs → (wipeE e1 vs)[i]? = e1[i]? := by
        intro vs
        induction vs with
        | nil => intro _; rfl
        | cons w ws ih =>
          intro hn
          unfold wipeE
          rw [List.getElem?_set_ne (fun z => hn (by rw [z]; exact List.mem_cons_self)), ih fun z => hn (List.mem_cons_of_mem _ z)]
      rw [← this vs hno]; exact x1
    exact ok1.notOwn hD ⟨i, p, d, this, x2⟩
  obtain ⟨B2, en, acc, us, ok2, hno, ex2, hn, hi, hH, hR, hB, hO, he⟩ := hW
  obtain ⟨go, stop⟩ := wk G B2 H σ en i ex2 ok2
  by_cases hlt : i < ds.length
  · have hd : ds[i]? = some ds[i] := List.getElem?_eq_getElem hlt
    obtain ⟨g1, g2⟩ := go _ hd
    rw [List.drop_eq_getElem_cons hlt] at he
    unfold lcL at he
    split at he
    rotate_left
    · cases he
    rename_i en1 hg
    refine .inr ⟨g1, fun H => ∃ B env acc us, Ok K G B H σ env ∧ (∀ v ∈ vs, ∀ x, env[v]? = some x → x = .no) ∧ Ex B1 B ∧ H D0 = some (.lst us) ∧ Reps K B acc us ∧ B D0 = none ∧ ¬ IsOwn σ env D0 ∧ lcL vs g t f (ds.drop (i + 1)) acc env = some (rs, env'),
      fun H' ⟨B3, en3, acc3, us3, a1, a2, a3, a4, a5, a6, a7, a8⟩ => ⟨ds.length - (i + 1), by omega, B3, en3, acc3, us3, a1, a2, a3, rfl, hlt, a4, a5, a6, a7, a8⟩, fun x H' y => ?_⟩
    obtain ⟨B3, ok3, ok3', rx⟩ := g2 x H' y
    obtain ⟨s3, b3, o3⟩ := ok3'.stay hH hB hO
    have ex3 : Ex B1 B3 := ex2.trans ok3'.mono
    -- into the block
    have okb : Ok K G B3 H' (L2.wipe σ vs) en := by
      refine ok3.swap (wipe_length _ _) fun j x e hx => ?_
      by_cases hj : j ∈ vs
      · exact absurd (hno j hj x e) hx
      · exact wipe_out hj
    have ob : ¬ IsOwn (L2.wipe σ vs) en D0 := fun ⟨j, p, d, x1, x2⟩ => by
      by_cases hj : j ∈ vs
      · cases hno j hj _ x1
      · rw [wipe_out hj] at x2
        exact o3 ⟨j, p, d, x1, x2⟩
    refine ⟨Ent.at B3 H' (L2.wipe σ vs) en, B3, en, _, en1, okb.self, rx, hg, fun σ4 B4 H4 ok4' hw4 => ?_⟩
    have ok4 := okb.comp ok4'
    obtain ⟨s4, b4, o4⟩ := ok4'.stay s3 b3 ob
    have ex4 : Ex B1 B4 := ex3.trans ok4'.mono
    have hw4 : L2.wipe σ4 vs = L2.wipe σ vs := hw4.trans (by
      have : ∀ (us vs : List Nat), (∀ v ∈ us, v ∈ vs) → L2.wipe (L2.wipe σ us) vs = L2.wipe σ vs := by
        intro us
        induction us with
        | nil => intro vs _; rfl
        | cons w ws ih =>
          intro vs hs
          show L2.wipe ((L2.wipe σ ws).set w none) vs = _
          rw [wipe_set (hs w List.mem_cons_self)]
          exact ih vs fun v hv => hs v (List.mem_cons_of_mem _ hv)
      exact this vs vs fun _ z => z)
    refine ⟨hw4.trans rfl, ?_⟩
    split at he
    · rename_i en2 ht
      refine tT_of ok4 ht fun B5 H5 ok5 ok5' => ?_
      obtain ⟨s5, b5, o5⟩ := ok5'.stay s4 b4 o4
      rw [if_pos rfl]
      split at he
      rotate_left
      · cases he
      rename_i y en3 hf
      split at he
      rotate_left
      · cases he
      rename_i hz
      refine tD_of ok5 hf fun v B6 H6 ok6 ok6' r6 => ?_
      obtain ⟨s6, b6, o6⟩ := ok6'.stay s5 b5 o5
      have ex6 : Ex B1 B6 := (ex4.trans ok5'.mono).trans ok6'.mono
      have ru : Reps K B6 acc us := Reps.mono (((ok3'.mono.trans ok4'.mono).trans ok5'.mono).trans ok6'.mono) _ _ hR
      have hlen : us.length = acc.length := hR.length
      have hz' := lim_ok hz
      refine ⟨us, s6, by omega, B6, wipeE en3 vs, acc ++ [y], us ++ [v], (ok6.tmpSet b6 gD o6).unblk hw4, fun v hv x hx => Classical.byContradiction fun c => wipeE_no hx c hv, ex6, upd_same, ru.append (Reps.one r6), b6, fun ⟨j, p, d, x1, x2⟩ => ?_, he⟩
      have okE : Ok K G B6 H6 σ (wipeE en3 vs) := ok6.unblk hw4
      obtain ⟨a, r1, r2, r3, r4⟩ := okE.own j p d x1
      have hj := wipeE_no x1 (fun z => nomatch z)
      have h1 : en3[j]? = some (.own p d) := by
        have : ∀ vs : List Nat, j ∉ vs → (wipeE en3 vs)[j]? = en3[j]? := by
          intro vs
          induction vs with
          | nil => intro _; rfl
          | cons w ws ih =>
            intro hn
            unfold wipeE
            rw [List.getElem?_set_ne (fun z => hn (by rw [z]; exact List.mem_cons_self)), ih fun z => hn (List.mem_cons_of_mem _ z)]
        rw [← this vs hj]; exact x1
      have h2 : σ4[j]? = some (some (.ref D0)) := by
        rw [← wipe_out (σ := σ4) hj, hw4, wipe_out hj]; exact x2
      exact o6 ⟨j, p, d, h1, h2⟩
    · rename_i en2 ht
      refine tT_of ok4 ht fun B5 H5 ok5 ok5' => ?_
      obtain ⟨s5, b5, o5⟩ := ok5'.stay s4 b4 o4
      rw [if_neg Bool.false_ne_true]
      refine ⟨B5, wipeE en2 vs, acc, us, ok5.unblk hw4, fun v hv x hx => Classical.byContradiction fun c => wipeE_no hx c hv, ex4.trans ok5'.mono, s5, Reps.mono ((ok3'.mono.trans ok4'.mono).trans ok5'.mono) _ _ hR, b5, fun ⟨j, p, d, x1, x2⟩ => ?_, he⟩
      have hj := wipeE_no x1 (fun z => nomatch z)
      have h1 : en2[j]? = some (.own p d) := by
        have : ∀ vs : List Nat, j ∉ vs → (wipeE en2 vs)[j]? = en2[j]? := by
          intro vs
          induction vs with
          | nil => intro _; rfl
          | cons w ws ih =>
            intro hn
            unfold wipeE
            rw [List.getElem?_set_ne (fun z => hn (by rw [z]; exact List.mem_cons_self)), ih fun z => hn (List.mem_cons_of_mem _ z)]
        rw [← this vs hj]; exact x1
      have h2 : σ4[j]? = some (some (.ref D0)) := by
        rw [← wipe_out (σ := σ4) hj, hw4, wipe_out hj]; exact x2
      exact o5 ⟨j, p, d, h1, h2⟩
    · cases he
  · have hi' : i = ds.length := by omega
    subst hi'
    rw [List.drop_length] at he
    cases he
    exact .inl ⟨stop (Nat.le_refl _), k D0 B2 H ok2 hB (by rw [hH]; exact ⟨us, rfl, hR⟩) gD hO⟩
/-- a comprehension's block -/
abbrev Blk (X : Cx) (scope : Scope) (P : Cx → Prop) : Prop := ∀ (s : Shared) (H : Hp) (C : Addr) (cl : List (Str × Addr)) (fp : List Addr), P (X.blk s H scope (compEnvC scope cl C X.env) fp)
def bYes : M Bool := ret true
theorem yes_red {K : PySem.W.Frag} : ∀ σ H Q, tT K bYes σ H Q → tYes σ H Q := fun σ H Q ⟨G, B, env, d, env', ok, e, k⟩ => by
  cases ret_some e
  exact k B H ok
def PDTs (X : Cx) (es : List Expr) (m : M Bool) : Prop := PTs X es (tT X.K m)
theorem pts_mono {es : List Expr} {t t' : TT} (h : PTs X es t) (i : ∀ σ H Q, t' σ H Q → t σ H Q) : PTs X es t' := ⟨fun pins s σ H Q I q => h.run pins s σ H Q I (i σ H Q q)⟩
theorem pdts_nil : PDTs X [] bYes := pts_mono pts_nil yes_red
theorem pdts_one {c : Expr} {m : M Bool} (h : PDT X c m) : PDTs X [c] m := pts_one h
theorem pf_lc (own : List (Str × Nat)) {elt tg iter : Expr} {ifs : List Expr} {scope : Scope} {pos : Pos} {m : M (List D)} {g : D → Lvs → Option Lvs} {t : M Bool} {f : M D} (hN : X.N.Nodup) (hi : PDI X tg iter m) (ok : BlkOk X.N X.env.scope scope own)
    (hg : Blk X scope fun Y => PDG Y (own.map fun (x : Str × Nat) => x.2) tg g) (ht : Blk X scope fun Y => PDTs Y ifs t) (he : Blk X scope fun Y => PD Y elt f) (hc : X.calm = true := by rfl) (hs : ∀ x, foldedSetIterable iter X.env x = pure x := by intro _; rfl) :
    PF X (.ListComp elt [⟨tg, iter, ifs, 0⟩] scope pos) (eLc (own.map fun (x : Str × Nat) => x.2) m g t f) := pe_mono (pe_lc (g := tG X.K (own.map fun (x : Str × Nat) => x.2) g) (tt := tT X.K t) (te := tD X.K f) hc hN hi ok (fun s H C cl fp => hg s H C cl fp) (fun s H C cl fp => ht s H C cl fp) (fun s H C cl fp => he s H C cl fp) hs) lc_red
/-- x = [..] on one line: the name takes the list within the block -/
theorem pds_setLc (i : Nat) (own : List (Str × Nat)) {y : Str} {py : Pos} {elt tg iter : Expr} {ifs : List Expr} {scope : Scope} {pos spos : Pos} {m : M (List D)} {g : D → Lvs → Option Lvs} {t : M Bool} {f : M D} (hN : X.N.Nodup) (hi : PDI X tg iter m) (ok : BlkOk X.N X.env.scope scope own)
    (hg : Blk X scope fun Y => PDG Y (own.map fun (x : Str × Nat) => x.2) tg g) (ht : Blk X scope fun Y => PDTs Y ifs t) (he : Blk X scope fun Y => PD Y elt f) (hsw : swapsWith (.ListComp elt [⟨tg, iter, ifs, 0⟩] scope pos) (some (.Name y py)) spos.line X.env = pure true)
    (hy : X.N[i]? = some y := by rfl) (hyl : X.env.scope.names.lookup y = some .local := by rfl) (hc : X.calm = true := by rfl) (hs : ∀ x, foldedSetIterable iter X.env x = pure x := by intro _; rfl) :
    PDS X (.Assign [.Name y py] (.ListComp elt [⟨tg, iter, ifs, 0⟩] scope pos) spos) (sOwn i (eLc (own.map fun (x : Str × Nat) => x.2) m g t f)) :=
  ps_mono (ps_setLc (g := tG X.K (own.map fun (x : Str × Nat) => x.2) g) (tt := tT X.K t) (te := tD X.K f) hc hN hy hyl hsw hi ok (fun s H C cl fp => hg s H C cl fp) (fun s H C cl fp => ht s H C cl fp) (fun s H C cl fp => he s H C cl fp) hs) fun Z σ H q => lc_red σ H (fun x H1 => gName i x σ H1 Z.nx) (own_red Z σ H q)
theorem pds_setLcD (i : Nat) (own : List (Str × Nat)) {y : Str} {py : Pos} {elt tg iter : Expr} {ifs : List Expr} {scope : Scope} {pos spos : Pos} {m : M (List D)} {g : D → Lvs → Option Lvs} {t : M Bool} {f : M D} (hN : X.N.Nodup) (hi : PDI X tg iter m) (ok : BlkOk X.N X.env.scope scope own)
    (hg : Blk X scope fun Y => PDG Y (own.map fun (x : Str × Nat) => x.2) tg g) (ht : Blk X scope fun Y => PDTs Y ifs t) (he : Blk X scope fun Y => PD Y elt f) (hsw : swapsWith (.ListComp elt [⟨tg, iter, ifs, 0⟩] scope pos) (some (.Name y py)) spos.line X.env = pure true)
    (hy : X.N[i]? = some y := by rfl) (hyl : X.env.scope.names.lookup y = some .local := by rfl) (hc : X.calm = true := by rfl) (hs : ∀ x, foldedSetIterable iter X.env x = pure x := by intro _; rfl) :
    PDS X (.Assign [.Name y py] (.ListComp elt [⟨tg, iter, ifs, 0⟩] scope pos) spos) (sSet i (eLc (own.map fun (x : Str × Nat) => x.2) m g t f)) :=
  ps_mono (ps_setLc (g := tG X.K (own.map fun (x : Str × Nat) => x.2) g) (tt := tT X.K t) (te := tD X.K f) hc hN hy hyl hsw hi ok (fun s H C cl fp => hg s H C cl fp) (fun s H C cl fp => ht s H C cl fp) (fun s H C cl fp => he s H C cl fp) hs) fun Z σ H q => lc_red σ H (fun x H1 => gName i x σ H1 Z.nx) (by
    obtain ⟨G, B, env, o, env', ok, e, k⟩ := q
    unfold sSet at e
    split at e
    · rename_i d e1 q
      cases e
      exact tF_of ok q fun a B1 H1 ok1 _ h1 h2 h3 h4 => by
        obtain ⟨u, hu⟩ := h2.there
        rw [hu] at h2
        exact k _ _ H1 ((ok1.give hu h1 (ok.live a h3) h4).store (h2.rep h1))
    · cases e)
end
end Dv
/-! Defs: their promise, their body, their calls. -/
namespace Dv
open PySem PySem.Spec PyProof.Rows L2 Evl

/-- a def on data: the arguments to what it returns and what its lent lists are then -/
abbrev Fn := List D → Option (D × List D)
/-- arguments: ms tells which are lent -/
def Args (K : PySem.W.Frag) (B H : Hp) : List Bool → List D → List V → Prop
  | [], [], [] => True
  | false :: ms, d :: ds, v :: vs => Rep K B d v ∧ Args K B H ms ds vs
  | true :: ms, d :: ds, v :: vs => (∃ a, v = .ref a ∧ B a = none ∧ OwnAt K B (H a) d) ∧ Args K B H ms ds vs
  | _, _, _ => False
def Backs (K : PySem.W.Frag) (B H : Hp) : List Bool → List D → List V → Prop
  | [], [], [] => True
  | false :: ms, bs, _ :: vs => Backs K B H ms bs vs
  | true :: ms, b :: bs, v :: vs => (∃ a, v = .ref a ∧ B a = none ∧ OwnAt K B (H a) b) ∧ Backs K B H ms bs vs
  | _, _, _ => False
def Lent (ms : List Bool) (vs : List V) (a : Addr) : Prop := ∃ i : Nat, ms[i]? = some true ∧ vs[i]? = some (.ref a)
def Apart (ms : List Bool) (vs : List V) : Prop := ∀ (i j : Nat) (a : Addr), ms[i]? = some true → ms[j]? = some true → vs[i]? = some (.ref a) → vs[j]? = some (.ref a) → i = j
/-- what comes back -/
def RetV (K : PySem.W.Frag) (rf : Bool) (H B' H' : Hp) (r : D) (v : V) : Prop := match rf with
  | true => ∃ a, v = .ref a ∧ B' a = none ∧ OwnAt K B' (H' a) r ∧ H a = none
  | false => Rep K B' r v
/-- what has become of the heap -/
structure Step (B H B' H' : Hp) (L : Addr → Prop) : Prop where
  mono : Ex B B'
  sub : Ex B' H'
  keep : ∀ a o, H a = some o → ¬ L a → H' a = some o
  new : ∀ a o, B' a = some o → (∃ u, B a = some u) ∨ H a = none
  live : ∀ a, H' a = none → H a = none
def spF (K : PySem.W.Frag) (ms : List Bool) (rf : Bool) (F : Fn) : Sp := fun vs H Q _ => ∃ B ds r bs, Ex B H ∧ Args K B H ms ds vs ∧ Apart ms vs ∧ F ds = some (r, bs) ∧
  ∀ v B' H', Step B H B' H' (Lent ms vs) → Backs K B' H' ms bs vs → RetV K rf H B' H' r v → Q v H'

def initE : List Bool → List D → Lvs
  | true :: ms, d :: ds => .own true d :: initE ms ds
  | false :: ms, d :: ds => .val d :: initE ms ds
  | _, _ => []
def backs : List Bool → Lvs → Option (List D)
  | [], _ => some []
  | false :: ms, _ :: e => backs ms e
  | true :: ms, .own true d :: e => match backs ms e with
    | some bs => some (d :: bs)
    | none => none
  | _, _ => none
/-- a def by its body: n names -/
def runF (ms : List Bool) (n : Nat) (rf : Bool) (body : MS) : Fn := fun ds => if ds.length = ms.length then match body (initE ms ds ++ List.replicate (n - ms.length) .no) with
  | some (.rt d, e) => if rf = true then none else match backs ms e with
    | some bs => some (d, bs)
    | none => none
  | some (.rn d, e) => if rf = true then match backs ms e with
    | some bs => some (d, bs)
    | none => none else none
  | some (.nx, e) => if rf = true then none else match backs ms e with
    | some bs => some (.non, bs)
    | none => none
  | _ => none else none

section
variable {K : PySem.W.Frag} {B H B' H' : Hp}
theorem Args.lens : ∀ {ms : List Bool} {ds : List D} {vs : List V}, Args K B H ms ds vs → ds.length = ms.length ∧ vs.length = ms.length
  | [], [], [], _ => ⟨rfl, rfl⟩
  | false :: ms, d :: ds, v :: vs, h => by
    have := Args.lens h.2
    simp only [List.length_cons]; omega
  | true :: ms, d :: ds, v :: vs, h => by
    have := Args.lens h.2
    simp only [List.length_cons]; omega
  | [], _ :: _, _, h => by cases h
  | [], [], _ :: _, h => by cases h
  | true :: _, [], _, h => by cases h
  | true :: _, _ :: _, [], h => by cases h
  | false :: _, [], _, h => by cases h
  | false :: _, _ :: _, [], h => by cases h
theorem initE_len : ∀ {ms : List Bool} {ds : List D}, ds.length = ms.length → (initE ms ds).length = ms.length
  | [], [], _ => rfl
  | true :: ms, d :: ds, h => by simp only [initE, List.length_cons]; rw [initE_len (by simpa using h)]
  | false :: ms, d :: ds, h => by simp only [initE, List.length_cons]; rw [initE_len (by simpa using h)]
  | _ :: _, [], h => by cases h
  | [], _ :: _, h => by cases h
theorem initE_val : ∀ {ms : List Bool} {ds : List D} {vs : List V} {i : Nat} {d : D}, Args K B H ms ds vs → (initE ms ds)[i]? = some (.val d) → ∃ v, vs[i]? = some v ∧ Rep K B d v
  | false :: ms, d :: ds, v :: vs, 0, _, h, e => by cases e; exact ⟨v, rfl, h.1⟩
  | true :: ms, d :: ds, v :: vs, 0, _, h, e => by cases e
  | false :: ms, d :: ds, v :: vs, i + 1, _, h, e => by
    obtain ⟨u, q1, q2⟩ := initE_val (i := i) h.2 (by simpa [initE] using e)
    exact ⟨u, by simpa using q1, q2⟩
  | true :: ms, d :: ds, v :: vs, i + 1, _, h, e => by
    obtain ⟨u, q1, q2⟩ := initE_val (i := i) h.2 (by simpa [initE] using e)
    exact ⟨u, by simpa using q1, q2⟩
  | [], [], [], _, _, h, e => by simp [initE] at e
  | [], _ :: _, _, _, _, h, _ => by cases h
  | [], [], _ :: _, _, _, h, _ => by cases h
  | true :: _, [], _, _, _, h, _ => by cases h
  | true :: _, _ :: _, [], _, _, h, _ => by cases h
  | false :: _, [], _, _, _, h, _ => by cases h
  | false :: _, _ :: _, [], _, _, h, _ => by cases h
theorem initE_own : ∀ {ms : List Bool} {ds : List D} {vs : List V} {i : Nat} {p : Bool} {d : D}, Args K B H ms ds vs → (initE ms ds)[i]? = some (.own p d) → p = true ∧ ms[i]? = some true ∧ ∃ a, vs[i]? = some (.ref a) ∧ B a = none ∧ OwnAt K B (H a) d
  | false :: ms, d :: ds, v :: vs, 0, _, _, h, e => by cases e
  | true :: ms, d :: ds, v :: vs, 0, _, _, h, e => by
    cases e
    obtain ⟨⟨a, rfl, h1, h2⟩, _⟩ := h
    exact ⟨rfl, rfl, a, rfl, h1, h2⟩
  | false :: ms, d :: ds, v :: vs, i + 1, _, _, h, e => by
    obtain ⟨q0, q1, a, q2, q3⟩ := initE_own (i := i) h.2 (by simpa [initE] using e)
    exact ⟨q0, by simpa using q1, a, by simpa using q2, q3⟩
  | true :: ms, d :: ds, v :: vs, i + 1, _, _, h, e => by
    obtain ⟨q0, q1, a, q2, q3⟩ := initE_own (i := i) h.2 (by simpa [initE] using e)
    exact ⟨q0, by simpa using q1, a, by simpa using q2, q3⟩
  | [], [], [], _, _, _, h, e => by simp [initE] at e
  | [], _ :: _, _, _, _, _, h, _ => by cases h
  | [], [], _ :: _, _, _, _, h, _ => by cases h
  | true :: _, [], _, _, _, _, h, _ => by cases h
  | true :: _, _ :: _, [], _, _, _, h, _ => by cases h
  | false :: _, [], _, _, _, _, h, _ => by cases h
  | false :: _, _ :: _, [], _, _, _, h, _ => by cases h
theorem initE_lent : ∀ {ms : List Bool} {ds : List D} {vs : List V} {i : Nat} {a : Addr}, Args K B H ms ds vs → ms[i]? = some true → vs[i]? = some (.ref a) → ∃ d, (initE ms ds)[i]? = some (.own true d)
  | false :: ms, d :: ds, v :: vs, 0, _, h, e, _ => by cases e
  | true :: ms, d :: ds, v :: vs, 0, _, h, e, _ => ⟨d, rfl⟩
  | false :: ms, d :: ds, v :: vs, i + 1, _, h, e, e2 => by
    obtain ⟨d, q⟩ := initE_lent (i := i) h.2 (by simpa using e) (by simpa using e2)
    exact ⟨d, by simpa [initE] using q⟩
  | true :: ms, d :: ds, v :: vs, i + 1, _, h, e, e2 => by
    obtain ⟨d, q⟩ := initE_lent (i := i) h.2 (by simpa using e) (by simpa using e2)
    exact ⟨d, by simpa [initE] using q⟩
  | [], [], [], _, _, h, e, _ => by simp at e
  | [], _ :: _, _, _, _, h, _, _ => by cases h
  | [], [], _ :: _, _, _, h, _, _ => by cases h
  | true :: _, [], _, _, _, h, _, _ => by cases h
  | true :: _, _ :: _, [], _, _, h, _, _ => by cases h
  | false :: _, [], _, _, _, h, _, _ => by cases h
  | false :: _, _ :: _, [], _, _, h, _, _ => by cases h
/-- the lent lists at the end: by the slots -/
theorem backs_of (ms0 : List Bool) (vs0 : List V) : ∀ {ms : List Bool} {vs : List V} {e : Lvs} {bs : List D} (k : Nat) (_ : vs.length = ms.length) (_ : backs ms e = some bs) (_ : ∀ (i : Nat) (d : D) (v : V), ms[i]? = some true → vs[i]? = some v → e[i]? = some (.own true d) → ∃ a, v = .ref a ∧ B a = none ∧ OwnAt K B (H a) d), Backs K B H ms bs vs
  | [], [], e, bs, _, _, hb, _ => by cases hb; trivial
  | false :: ms, v :: vs, s :: e, bs, k, hl, hb, hk => by
    show Backs K B H ms bs vs
    exact backs_of ms0 vs0 (k + 1) (by simpa using hl) hb fun i d v h1 h2 h3 => hk (i + 1) d v (by simpa using h1) (by simpa using h2) (by simpa using h3)
  | true :: ms, v :: vs, .own true d :: e, bs, k, hl, hb, hk => by
    unfold backs at hb
    split at hb
    · rename_i bs' hb'
      cases hb
      exact ⟨hk 0 d v rfl rfl rfl, backs_of ms0 vs0 (k + 1) (by simpa using hl) hb' fun i d v h1 h2 h3 => hk (i + 1) d v (by simpa using h1) (by simpa using h2) (by simpa using h3)⟩
    · cases hb
  | true :: ms, v :: vs, .own false d :: e, bs, _, _, hb, _ => by cases hb
  | true :: ms, v :: vs, .val d :: e, bs, _, _, hb, _ => by cases hb
  | true :: ms, v :: vs, .no :: e, bs, _, _, hb, _ => by cases hb
  | true :: ms, v :: vs, [], bs, _, _, hb, _ => by cases hb
  | false :: ms, v :: vs, [], bs, _, _, hb, _ => by cases hb
  | _ :: _, [], _, _, _, hl, _, _ => by cases hl
  | [], _ :: _, _, _, _, hl, _, _ => by cases hl
end

/-- from the body's derivation: what the library's rule for a def asks -/
theorem fn_entry {P : Program} {w : World} {K : PySem.W.Frag} {mg : Str → Option Value} {base : Heap} {qual : Str} {st : Stmt} {f : Addr} {N ps : List Str} (S : FnScope N ps (defScope st)) (ms : List Bool) (rf : Bool) {body : MS} (hn : ms.length = ps.length)
    {cdv : Value} {A : Around} {outer : List Env} {s : Shared} {H : Hp} {vs : List V} {Q : VK} {E : XK} (hb : PDB (cxOf CX0 P w K mg base N qual (defScope st) f cdv A outer s H E).nox (defBody st) body) (h : spF K ms rf (runF ms N.length rf body) vs H Q E) :
    ∃ t, PSs (cxOf CX0 P w K mg base N qual (defScope st) f cdv A outer s H E).nox (defBody st) t ∧ t { nx := fun _ H' => Q .non H', rt := Q } (L2.start N vs) H := by
  have hpl : ps.length ≤ N.length := by have := congrArg List.length S.pre; rw [List.length_take] at this; omega
  obtain ⟨B, ds, r, bs, hsub, ha, hap, hF, k⟩ := h
  refine ⟨_, hb, ?_⟩
  obtain ⟨l1, l2⟩ := ha.lens
  have hle : (initE ms ds).length = ms.length := initE_len l1
  -- the entry
  have get0 : ∀ {i : Nat} {x : Lv}, (initE ms ds ++ List.replicate (N.length - ms.length) Lv.no)[i]? = some x → x ≠ .no → i < ms.length ∧ (initE ms ds)[i]? = some x := fun {i x} e hx => by
    by_cases hi : i < ms.length
    · rw [List.getElem?_append_left (by omega)] at e; exact ⟨hi, e⟩
    · rw [List.getElem?_append_right (by omega), List.getElem?_replicate] at e
      split at e
      · cases e; exact absurd rfl hx
      · cases e
  have getσ : ∀ {i : Nat} {v : V}, i < ms.length → vs[i]? = some v → (L2.start N vs)[i]? = some (some v) := fun {i v} hi e => by
    unfold L2.start
    rw [List.getElem?_append_left (by rw [List.length_map]; omega), List.getElem?_map, e]; rfl
  have backσ : ∀ {i : Nat} {v : V}, i < ms.length → (L2.start N vs)[i]? = some (some v) → vs[i]? = some v := fun {i v} hi e => by
    unfold L2.start at e
    rw [List.getElem?_append_left (by rw [List.length_map]; omega), List.getElem?_map] at e
    cases q : vs[i]? with
    | none => rw [q] at e; cases e
    | some u => rw [q] at e; cases e; rfl
  have ok0 : Ok K ⟨B, H, fun p a => p = true ∧ Lent ms vs a, fun i => ((L2.start N vs)[i]?).join⟩ B H (L2.start N vs) (initE ms ds ++ List.replicate (N.length - ms.length) Lv.no) := by
    refine ⟨?_, hsub, fun i d e => ?_, fun i p d e => ?_, fun i j a p q d e e1 e2 s1 s2 => ?_, fun i d e => ?_, Ex.refl _, fun _ _ e _ => e, fun a o e => .inl ⟨o, e⟩, fun _ e => e⟩
    · unfold L2.start
      rw [List.length_append, List.length_append, List.length_replicate, List.length_replicate, List.length_map]; omega
    · obtain ⟨hi, e⟩ := get0 e (fun z => nomatch z)
      obtain ⟨v, q1, q2⟩ := initE_val ha e
      exact ⟨v, getσ hi q1, q2⟩
    · obtain ⟨hi, e⟩ := get0 e (fun z => nomatch z)
      obtain ⟨q0, q1, a, q2, q3, q4⟩ := initE_own ha e
      exact ⟨a, getσ hi q2, q3, q4, .inr ⟨q0, i, q1, q2⟩⟩
    · obtain ⟨hi, e1⟩ := get0 e1 (fun z => nomatch z)
      obtain ⟨hj, e2⟩ := get0 e2 (fun z => nomatch z)
      obtain ⟨_, q1, b, q2, _⟩ := initE_own ha e1
      obtain ⟨_, r1, c, r2, _⟩ := initE_own ha e2
      exact hap i j a q1 r1 (backσ hi s1) (backσ hj s2)
    · obtain ⟨hi, e⟩ := get0 e (fun z => nomatch z)
      obtain ⟨_, q1, a, q2, _⟩ := initE_own ha e
      refine ⟨.ref a, ?_, getσ hi q2⟩
      show ((L2.start N vs)[i]?).join = _
      rw [getσ hi q2]; rfl
  have fin : ∀ {σ' : L2.St} {env' : Lvs} {B' H' : Hp} {bs : List D}, Ok K ⟨B, H, fun p a => p = true ∧ Lent ms vs a, fun i => ((L2.start N vs)[i]?).join⟩ B' H' σ' env' → backs ms env' = some bs → Step B H B' H' (Lent ms vs) ∧ Backs K B' H' ms bs vs := fun {σ' env' B' H' bs} ok hb => by
    have ownAt : ∀ (i : Nat) (d : D) (v : V), ms[i]? = some true → vs[i]? = some v → env'[i]? = some (.own true d) → ∃ a, v = .ref a ∧ B' a = none ∧ OwnAt K B' (H' a) d := fun i d v h1 h2 h3 => by
      obtain ⟨a, q1, q2, q3, _⟩ := ok.own i _ d h3
      obtain ⟨v', r1, r2⟩ := ok.pin i d h3
      have r1 : ((L2.start N vs)[i]?).join = some v' := r1
      have hi : i < ms.length := by
        rcases Nat.lt_or_ge i ms.length with z | z
        · exact z
        · rw [List.getElem?_eq_none z] at h1; cases h1
      rw [getσ hi h2] at r1
      have r1 : v = v' := Option.some.inj r1
      rw [q1] at r2
      cases r2
      exact ⟨a, r1, q2, q3⟩
    refine ⟨⟨ok.mono, ok.sub, fun a o e n => ok.keep a o e fun p z => n z.2, fun a o e => ?_, ok.live⟩, backs_of (K := K) (B := B') (H := H') ms vs 0 l2 hb ownAt⟩
    rcases ok.new a o e with z | z | ⟨p, _, i, z1, z2⟩
    · exact .inl z
    · exact .inr z
    · -- a lent list is not given up
      exfalso
      have : ∀ {ms : List Bool} {e : Lvs} {bs : List D} {i : Nat}, backs ms e = some bs → ms[i]? = some true → ∃ d, e[i]? = some (.own true d) := by
        intro ms
        induction ms with
        | nil => intro e bs i _ h; simp at h
        | cons m ms ih =>
          intro e bs i hb h
          cases m with
          | false =>
            cases e with
            | nil => cases hb
            | cons s e =>
              cases i with
              | zero => cases h
              | succ i =>
                obtain ⟨d, q⟩ := ih (i := i) (show backs ms e = some bs from hb) (by simpa using h)
                exact ⟨d, by simpa using q⟩
          | true =>
            cases e with
            | nil => cases hb
            | cons s e =>
              cases s with
              | own p d =>
                cases p with
                | true =>
                  cases i with
                  | zero => exact ⟨d, rfl⟩
                  | succ i =>
                    unfold backs at hb
                    split at hb
                    · rename_i bs' hb'
                      obtain ⟨d, q⟩ := ih (i := i) hb' (by simpa using h)
                      exact ⟨d, by simpa using q⟩
                    · cases hb
                | false => cases hb
              | val _ => cases hb
              | no => cases hb
      obtain ⟨d, hd⟩ := this hb z1
      obtain ⟨a', w1, w2, _⟩ := ownAt i d _ z1 z2 hd
      cases w1
      rw [e] at w2; cases w2
  unfold runF at hF
  rw [if_pos l1] at hF
  split at hF
  · rename_i d e hbody
    split at hF
    · cases hF
    · rename_i hrf
      split at hF
      · rename_i bs' hbk
        cases hF
        have hrf : rf = false := by simpa using hrf
        refine ⟨_, B, _, .rt r, e, ok0, hbody, fun σ' v B' H' ok r => ?_⟩
        obtain ⟨st, bk⟩ := fin ok hbk
        exact k v B' H' st bk (by subst hrf; exact r)
      · cases hF
  · rename_i d e hbody
    split at hF
    · rename_i hrf
      split at hF
      · rename_i bs' hbk
        cases hF
        refine ⟨_, B, _, .rn r, e, ok0, hbody, fun σ' a B' H' ok q1 q2 q3 q4 => ?_⟩
        obtain ⟨st, bk⟩ := fin ok hbk
        refine k (.ref a) B' H' st bk ?_
        subst hrf
        refine ⟨a, rfl, q1, q2, ?_⟩
        rcases q3 with z | ⟨z, _⟩
        · exact z
        · cases z
      · cases hF
    · cases hF
  · rename_i e hbody
    split at hF
    · cases hF
    · rename_i hrf
      split at hF
      · rename_i bs' hbk
        cases hF
        have hrf : rf = false := by simpa using hrf
        refine ⟨_, B, _, .nx, e, ok0, hbody, fun σ' B' H' ok => ?_⟩
        obtain ⟨st, bk⟩ := fin ok hbk
        exact k .non B' H' st bk (by subst hrf; rfl)
      · cases hF
  · cases hF

theorem spF_len {K : PySem.W.Frag} {ms : List Bool} {rf : Bool} {F : Fn} {vs : List V} {H : Hp} {Q : VK} {E : XK} (h : spF K ms rf F vs H Q E) : vs.length = ms.length := by
  obtain ⟨B, ds, r, bs, _, ha, _⟩ := h
  exact ha.lens.2
/-- THE RULE for a def -/
theorem fn_body {P : Program} {w : World} {K : PySem.W.Frag} {mg : Str → Option Value} {base : Heap} {x qual : Str} {st : Stmt} {f : Addr} {fd : FuncData} {N ps : List Str} {k : Nat} (Fn : Fun K x qual st f fd) (S : FnScope N ps (defScope st)) (ms : List Bool) (rf : Bool) {body : MS} (hn : ms.length = ps.length)
    (hb : ∀ (cdv : Value) (A : Around) (outer : List Env) (s : Shared) (H : Hp) (E : XK), Room k (A.deeper (envOfC qual (defScope st) s.heap.objs.size f cdv)) → PDB (cxOf CX0 P w K mg base N qual (defScope st) f cdv A outer s H E).nox (defBody st) body) :
    FnOk P w K mg base CX0 (k + 1) f fd ps (spF K ms rf (runF ms N.length rf body)) := by
  exact Fn.ok S (fun vs H Q E h => by rw [← hn]; exact spF_len h) fun cdv A outer s H vs Q E hr h => fn_entry S ms rf hn (hb cdv A outer s H E hr) h
/-! ### calls -/
/-- an argument: data, a name's own list lent, a new list -/
inductive Av where
  | val (d : D) | lend (i : Nat) | new (d : D)
def ArgV (K : PySem.W.Frag) (B H : Hp) (σ : L2.St) (env : Lvs) : List Av → List V → Prop
  | [], vs => vs = []
  | .val d :: r, vs => ∃ v t, vs = v :: t ∧ Rep K B d v ∧ ArgV K B H σ env r t
  | .lend i :: r, vs => ∃ v t, vs = v :: t ∧ σ[i]? = some (some v) ∧ ArgV K B H σ env r t
  | .new d :: r, vs => ∃ a t, vs = .ref a :: t ∧ B a = none ∧ OwnAt K B (H a) d ∧ ¬ IsOwn σ env a ∧ ArgV K B H σ env r t
/-- new ones among the arguments came behind the entry -/
def NewV (G : Ent) : List Av → List V → Prop
  | .new _ :: r, v :: t => (∀ a, v = .ref a → G.H a = none) ∧ NewV G r t
  | .val _ :: r, _ :: t => NewV G r t
  | .lend _ :: r, _ :: t => NewV G r t
  | _, _ => True
def tAr (K : PySem.W.Frag) (m : M (List Av)) : TA := fun σ H Q => ∃ G B env d env', Ok K G B H σ env ∧ m env = some (d, env') ∧ ∀ vs B' H', Ok K G B' H' σ env' → ArgV K B' H' σ env' d vs → NewV G d vs → Q vs H'
def PDR (X : Cx) (es : List Expr) (m : M (List Av)) : Prop := PA X es (tAr X.K m)
def rVal (m : M D) (r : M (List Av)) : M (List Av) := bnd m fun d => bnd r fun ds => ret (.val d :: ds)
def rNew (m : M D) (r : M (List Av)) : M (List Av) := bnd m fun d => bnd r fun ds => ret (.new d :: ds)
def rLend (i : Nat) (r : M (List Av)) : M (List Av) := bnd (ePeek i) fun _ => bnd r fun ds => ret (.lend i :: ds)
section
variable {K : PySem.W.Frag} {G : Ent} {B B' H H' : Hp} {σ : L2.St} {env env' : Lvs}
theorem newV_back (ok : Ok K G B H σ env) : ∀ {avs : List Av} {vs : List V}, NewV (Ent.at B H σ env) avs vs → NewV G avs vs
  | .new _ :: r, v :: t, h => ⟨fun a e => ok.live a (h.1 a e), newV_back ok (avs := r) h.2⟩
  | .val _ :: r, _ :: t, h => newV_back ok (avs := r) (vs := t) h
  | .lend _ :: r, _ :: t, h => newV_back ok (avs := r) (vs := t) h
  | [], _, _ => trivial
  | .new _ :: _, [], _ => trivial
  | .val _ :: _, [], _ => trivial
  | .lend _ :: _, [], _ => trivial
def kinds : List Bool → List Av → Bool
  | [], [] => true
  | false :: ms, .val _ :: r => kinds ms r
  | true :: ms, .lend _ :: r => kinds ms r
  | true :: ms, .new _ :: r => kinds ms r
  | _, _ => false
def dsOf (e : Lvs) : List Av → Option (List D)
  | [] => some []
  | .val d :: r => match dsOf e r with
    | some ds => some (d :: ds)
    | none => none
  | .new d :: r => match dsOf e r with
    | some ds => some (d :: ds)
    | none => none
  | .lend i :: r => match e[i]? with
    | some (.own _ d) => match dsOf e r with
      | some ds => some (d :: ds)
      | none => none
    | _ => none
def putBack : List Av → List D → Lvs → Option Lvs
  | [], [], e => some e
  | .val _ :: r, bs, e => putBack r bs e
  | .new _ :: r, _ :: bs, e => putBack r bs e
  | .lend i :: r, b :: bs, e => match e[i]? with
    | some (.own p _) => putBack r bs (e.set i (.own p b))
    | _ => none
  | _, _, _ => none
def lends : List Av → List Nat
  | [] => []
  | .lend i :: r => i :: lends r
  | .val _ :: r => lends r
  | .new _ :: r => lends r
theorem dsOf_own : ∀ {avs : List Av} {ds : List D} {s : Nat}, dsOf env avs = some ds → s ∈ lends avs → ∃ p d, env[s]? = some (.own p d)
  | .val d :: r, ds, s, h, hs => by
    unfold dsOf at h
    split at h
    · rename_i q; exact dsOf_own q hs
    · cases h
  | .new d :: r, ds, s, h, hs => by
    unfold dsOf at h
    split at h
    · rename_i q; exact dsOf_own q hs
    · cases h
  | .lend i :: r, ds, s, h, hs => by
    unfold dsOf at h
    split at h
    · rename_i p d q0
      split at h
      · rename_i q
        rcases List.mem_cons.mp (show s ∈ i :: lends r from hs) with e | e
        · subst e; exact ⟨p, d, q0⟩
        · exact dsOf_own q e
      · cases h
    · cases h
  | [], _, _, _, hs => by cases hs
theorem args_of (ok : Ok K G B H σ env) : ∀ {ms : List Bool} {avs : List Av} {ds : List D} {vs : List V}, kinds ms avs = true → dsOf env avs = some ds → ArgV K B H σ env avs vs → Args K B H ms ds vs
  | [], [], ds, vs, _, hd, ha => by cases hd; cases ha; trivial
  | false :: ms, .val d :: r, ds, vs, hk, hd, ha => by
    unfold dsOf at hd
    split at hd
    · rename_i q
      cases hd
      obtain ⟨v, t, rfl, r1, r2⟩ := ha
      exact ⟨r1, args_of ok (ms := ms) hk q r2⟩
    · cases hd
  | true :: ms, .new d :: r, ds, vs, hk, hd, ha => by
    unfold dsOf at hd
    split at hd
    · rename_i q
      cases hd
      obtain ⟨a, t, rfl, r1, r2, _, r3⟩ := ha
      exact ⟨⟨a, rfl, r1, r2⟩, args_of ok (ms := ms) hk q r3⟩
    · cases hd
  | true :: ms, .lend i :: r, ds, vs, hk, hd, ha => by
    unfold dsOf at hd
    split at hd
    · rename_i p d q0
      split at hd
      · rename_i q
        cases hd
        obtain ⟨v, t, rfl, r1, r2⟩ := ha
        obtain ⟨a, s1, s2, s3, _⟩ := ok.own i p d q0
        rw [r1] at s1
        cases s1
        exact ⟨⟨a, rfl, s2, s3⟩, args_of ok (ms := ms) hk q r2⟩
      · cases hd
    · cases hd
  | [], _ :: _, _, _, hk, _, _ => by cases hk
  | true :: _, [], _, _, hk, _, _ => by cases hk
  | false :: _, [], _, _, hk, _, _ => by cases hk
  | true :: _, .val _ :: _, _, _, hk, _, _ => by cases hk
  | false :: _, .new _ :: _, _, _, hk, _, _ => by cases hk
  | false :: _, .lend _ :: _, _, _, hk, _, _ => by cases hk
theorem lent_of : ∀ {ms : List Bool} {avs : List Av} {vs : List V} {i : Nat} {a : Addr}, kinds ms avs = true → ArgV K B H σ env avs vs → NewV G avs vs → ms[i]? = some true → vs[i]? = some (.ref a) → (∃ s ∈ lends avs, σ[s]? = some (some (.ref a))) ∨ (¬ IsOwn σ env a ∧ G.H a = none)
  | [], [], vs, i, a, _, _, _, h, _ => by simp at h
  | false :: ms, .val d :: r, vs, i, a, hk, ha, hn, h1, h2 => by
    obtain ⟨v, t, rfl, _, r2⟩ := ha
    cases i with
    | zero => cases h1
    | succ i => exact lent_of (ms := ms) (avs := r) (i := i) hk r2 hn (by simpa using h1) (by simpa using h2)
  | true :: ms, .new d :: r, vs, i, a, hk, ha, hn, h1, h2 => by
    obtain ⟨b, t, rfl, _, _, q3, r2⟩ := ha
    cases i with
    | zero => cases h2; exact .inr ⟨q3, hn.1 _ rfl⟩
    | succ i => exact lent_of (ms := ms) (avs := r) (i := i) hk r2 hn.2 (by simpa using h1) (by simpa using h2)
  | true :: ms, .lend s :: r, vs, i, a, hk, ha, hn, h1, h2 => by
    obtain ⟨v, t, rfl, r1, r2⟩ := ha
    cases i with
    | zero => cases h2; exact .inl ⟨s, List.mem_cons_self, r1⟩
    | succ i =>
      rcases lent_of (ms := ms) (avs := r) (i := i) hk r2 hn (by simpa using h1) (by simpa using h2) with ⟨s', z1, z2⟩ | z
      · exact .inl ⟨s', List.mem_cons_of_mem _ z1, z2⟩
      · exact .inr z
  | [], _ :: _, _, _, _, hk, _, _, _, _ => by cases hk
  | true :: _, [], _, _, _, hk, _, _, _, _ => by cases hk
  | false :: _, [], _, _, _, hk, _, _, _, _ => by cases hk
  | true :: _, .val _ :: _, _, _, _, hk, _, _, _, _ => by cases hk
  | false :: _, .new _ :: _, _, _, _, hk, _, _, _, _ => by cases hk
  | false :: _, .lend _ :: _, _, _, _, hk, _, _, _, _ => by cases hk
theorem putBack_ok : ∀ {ms : List Bool} {avs : List Av} {bs : List D} {vs : List V} {env env' : Lvs}, kinds ms avs = true → (∀ s v, s ∈ lends avs → σ[s]? = some v → True) → ArgV K B H σ env avs vs → Backs K B' H' ms bs vs → putBack avs bs env = some env' →
    env'.length = env.length ∧ ∀ (j : Nat) (x : Lv), env'[j]? = some x → (env[j]? = some x ∧ j ∉ lends avs) ∨ (∃ p d b a, j ∈ lends avs ∧ env[j]? = some (.own p d) ∧ x = .own p b ∧ σ[j]? = some (some (.ref a)) ∧ B' a = none ∧ OwnAt K B' (H' a) b)
  | [], [], bs, vs, env, env', _, _, ha, hb, hp => by
    cases bs with
    | nil => cases hp; exact ⟨rfl, fun j x h => .inl ⟨h, by simp [lends]⟩⟩
    | cons _ _ => cases hp
  | false :: ms, .val d :: r, bs, vs, env, env', hk, _, ha, hb, hp => by
    obtain ⟨v, t, rfl, _, r2⟩ := ha
    exact putBack_ok (ms := ms) (avs := r) hk (fun _ _ _ _ => trivial) r2 hb hp
  | true :: ms, .new d :: r, bs, vs, env, env', hk, _, ha, hb, hp => by
    obtain ⟨b, t, rfl, _, _, _, r2⟩ := ha
    cases bs with
    | nil => cases hp
    | cons b bs => exact putBack_ok (ms := ms) (avs := r) hk (fun _ _ _ _ => trivial) r2 hb.2 hp
  | true :: ms, .lend i :: r, bs, vs, env, env', hk, _, ha, hb, hp => by
    obtain ⟨v, t, rfl, r1, r2⟩ := ha
    cases bs with
    | nil => cases hp
    | cons b bs =>
      obtain ⟨⟨a, rfl, b1, b2⟩, hb2⟩ := hb
      unfold putBack at hp
      split at hp
      · rename_i p d q0
        have r2' : ArgV K B H σ (env.set i (.own p b)) r t := by
          have hO : ∀ a, IsOwn σ (env.set i (.own p b)) a → IsOwn σ env a := fun a ⟨j, p', d', e1, e2⟩ => by
            by_cases c : j = i
            · subst c; exact ⟨j, p, d, q0, e2⟩
            · rw [List.getElem?_set_ne (Ne.symm c)] at e1; exact ⟨j, p', d', e1, e2⟩
          have : ∀ {r : List Av} {t : List V}, ArgV K B H σ env r t → ArgV K B H σ (env.set i (.own p b)) r t := by
            intro r
            induction r with
            | nil => intro t h; exact h
            | cons y r ih =>
              intro t h
              cases y with
              | val _ => obtain ⟨v, t, e, h1, h2⟩ := h; exact ⟨v, t, e, h1, ih h2⟩
              | lend _ => obtain ⟨v, t, e, h1, h2⟩ := h; exact ⟨v, t, e, h1, ih h2⟩
              | new _ => obtain ⟨v, t, e, h1, h2, h3, h4⟩ := h; exact ⟨v, t, e, h1, h2, fun z => h3 (hO _ z), ih h4⟩
          exact this r2
        obtain ⟨l, f⟩ := putBack_ok (ms := ms) (avs := r) hk (fun _ _ _ _ => trivial) r2' hb2 hp
        have hi : i < env.length := by
          rcases Nat.lt_or_ge i env.length with z | z
          · exact z
          · rw [List.getElem?_eq_none z] at q0; cases q0
        refine ⟨by rw [l, List.length_set], fun j x h => ?_⟩
        rcases f j x h with ⟨z1, z2⟩ | ⟨p', d', b', a', z1, z2, z3, z4, z5, z6⟩
        · by_cases c : j = i
          · subst c
            rw [List.getElem?_set_self hi] at z1
            cases z1
            exact .inr ⟨p, d, b, a, List.mem_cons_self, q0, rfl, r1, b1, b2⟩
          · rw [List.getElem?_set_ne (Ne.symm c)] at z1
            exact .inl ⟨z1, fun z => by
              rcases List.mem_cons.mp (show j ∈ i :: lends r from z) with w | w
              · exact c w
              · exact z2 w⟩
        · by_cases c : j = i
          · subst c
            rw [List.getElem?_set_self hi] at z2
            cases z2
            exact .inr ⟨p, d, b', a', List.mem_cons_self, q0, z3, z4, z5, z6⟩
          · rw [List.getElem?_set_ne (Ne.symm c)] at z2
            exact .inr ⟨p', d', b', a', List.mem_cons_of_mem _ z1, z2, z3, z4, z5, z6⟩
      · cases hp
  | [], _ :: _, _, _, _, _, hk, _, _, _, _ => by cases hk
  | true :: _, [], _, _, _, _, hk, _, _, _, _ => by cases hk
  | false :: _, [], _, _, _, _, hk, _, _, _, _ => by cases hk
  | true :: _, .val _ :: _, _, _, _, _, hk, _, _, _, _ => by cases hk
  | false :: _, .new _ :: _, _, _, _, _, hk, _, _, _, _ => by cases hk
  | false :: _, .lend _ :: _, _, _, _, _, hk, _, _, _, _ => by cases hk
/-- at most one argument is lent -/
def one (ms : List Bool) : Bool := decide ((ms.filter id).length ≤ 1)
theorem one_apart {ms : List Bool} (h : one ms = true) (vs : List V) : Apart ms vs := by
  have key : ∀ (ms : List Bool) (i j : Nat), (ms.filter id).length ≤ 1 → ms[i]? = some true → ms[j]? = some true → i = j := by
    intro ms
    induction ms with
    | nil => intro i j _ h; simp at h
    | cons m ms ih =>
      intro i j hl h1 h2
      have none_of : ∀ (ms : List Bool), (ms.filter id).length = 0 → ∀ k : Nat, ms[k]? ≠ some true := by
        intro ms
        induction ms with
        | nil => intro _ k; simp
        | cons m ms ih2 =>
          intro h k
          cases m with
          | true => simp at h
          | false =>
            cases k with
            | zero => simp
            | succ k =>
              simp only [List.getElem?_cons_succ]
              exact ih2 (by simpa using h) k
      cases m with
      | true =>
        have h0 : (ms.filter id).length = 0 := by simpa using hl
        cases i with
        | zero =>
          cases j with
          | zero => rfl
          | succ j => exact absurd (by simpa using h2) (none_of ms h0 j)
        | succ i => exact absurd (by simpa using h1) (none_of ms h0 i)
      | false =>
        cases i with
        | zero => simp at h1
        | succ i =>
          cases j with
          | zero => simp at h2
          | succ j => rw [ih i j (by simpa using hl) (by simpa using h1) (by simpa using h2)]
  exact fun i j a h1 h2 _ _ => key ms i j (of_decide_eq_true h) h1 h2
/-- f(..) on data -/
def eCall (ms : List Bool) (F : Fn) (m : M (List Av)) : M D := bnd m fun avs => fun e => if kinds ms avs = true then match dsOf e avs with
  | some ds => match F ds with
    | some (r, bs) => match putBack avs bs e with
      | some e' => some (r, e')
      | none => none
    | none => none
  | none => none else none
theorem call_sp {ms : List Bool} {rf : Bool} {F : Fn} {avs : List Av} {vs : List V} {r : D} {Q : VK} {E : XK} (h1 : one ms = true) (ok : Ok K G B H σ env) (hk : kinds ms avs = true) (ha : ArgV K B H σ env avs vs) (hn : NewV G avs vs) {ds bs : List D} (hd : dsOf env avs = some ds) (hF : F ds = some (r, bs)) (hp : putBack avs bs env = some env')
    (k : ∀ v B' H', Ok K G B' H' σ env' → (∀ a, H a = none → ¬ IsOwn σ env' a) → RetV K rf H B' H' r v → Q v H') : spF K ms rf F vs H Q E := by
  refine ⟨B, ds, r, bs, ok.sub, args_of ok hk hd ha, one_apart h1 vs, hF, fun v B' H' st bk rv => ?_⟩
  obtain ⟨l, f⟩ := putBack_ok (σ := σ) hk (fun _ _ _ _ => trivial) ha bk hp
  -- a slot's own object is as it was, or was lent
  have was : ∀ (j : Nat) (p : Bool) (d : D), env'[j]? = some (.own p d) → ∃ d0 a, env[j]? = some (.own p d0) ∧ σ[j]? = some (some (.ref a)) ∧ B' a = none ∧ OwnAt K B' (H' a) d := fun j p d e => by
    rcases f j _ e with ⟨z1, z2⟩ | ⟨p', d', b, a, z1, z2, z3, z4, z5, z6⟩
    · obtain ⟨a, q1, q2, q3, q4⟩ := ok.own j p d z1
      obtain ⟨u, hu⟩ := q3.there
      have nl : ¬ Lent ms vs a := fun ⟨i, w1, w2⟩ => by
        rcases lent_of hk ha hn w1 w2 with ⟨s, y1, y2⟩ | ⟨y1, _⟩
        · obtain ⟨p2, d2, e2⟩ := dsOf_own hd y1
          exact z2 (ok.dis j s a _ _ _ _ z1 e2 q1 y2 ▸ y1)
        · exact y1 ⟨j, p, d, z1, q1⟩
      refine ⟨d, a, z1, q1, ?_, ?_⟩
      · cases hc : B' a with
        | none => rfl
        | some w =>
          rcases st.new a w hc with ⟨y, hy⟩ | hy
          · rw [q2] at hy; cases hy
          · rw [hu] at hy; cases hy
      · rw [st.keep a u hu nl, ← hu]; exact q3.mono st.mono
    · cases z3
      exact ⟨d', a, z2, z4, z5, z6⟩
  refine k v B' H' ⟨?_, st.sub, fun j d e => ?_, fun j p d e => ?_, fun i j a p q d e e1 e2 s1 s2 => ?_, fun j d e => ?_, ok.mono.trans st.mono, fun a o e n => ?_, fun a o e => ?_, fun a e => ok.live a (st.live a e)⟩ (fun a ha' ⟨j, p, d, e1, e2⟩ => ?_) rv
  · rw [l]; exact ok.len
  · rcases f j _ e with ⟨z1, _⟩ | ⟨_, _, _, _, _, _, z3, _⟩
    · obtain ⟨w, q1, q2⟩ := ok.val j d z1
      exact ⟨w, q1, Rep.mono st.mono _ _ q2⟩
    · cases z3
  · obtain ⟨d0, a, z1, z2, z3, z4⟩ := was j p d e
    obtain ⟨a', q1, _, _, q4⟩ := ok.own j p d0 z1
    rw [z2] at q1; cases q1
    exact ⟨a, z2, z3, z4, q4⟩
  · obtain ⟨d1, _, z1, _⟩ := was i p d e1
    obtain ⟨d2, _, z2, _⟩ := was j q e e2
    exact ok.dis i j a _ _ _ _ z1 z2 s1 s2
  · obtain ⟨d0, _, z1, _⟩ := was j true d e
    exact ok.pin j d0 z1
  · refine st.keep a o (ok.keep a o e n) fun ⟨i, w1, w2⟩ => ?_
    rcases lent_of hk ha hn w1 w2 with ⟨s, y1, y2⟩ | ⟨_, y2⟩
    · obtain ⟨p2, d2, e2⟩ := dsOf_own hd y1
      obtain ⟨b, q1, _, _, q4⟩ := ok.own s p2 d2 e2
      rw [y2] at q1; cases q1
      rcases q4 with z | z
      · rw [e] at z; cases z
      · exact n p2 z
    · rw [e] at y2; cases y2
  · rcases st.new a o e with ⟨u, z⟩ | z
    · exact ok.new a u z
    · exact .inr (.inl (ok.live a z))
  · obtain ⟨d0, b, z1, z2, _⟩ := was j p d e1
    rw [e2] at z2; cases z2
    obtain ⟨b', q1, _, q3, _⟩ := ok.own j p d0 z1
    rw [e2] at q1; cases q1
    obtain ⟨u, hu⟩ := q3.there
    rw [ha'] at hu; cases hu
end
section
variable {X : Cx}
theorem pdr_nil : PDR X [] (ret []) := pa_mono pa_nil fun σ H Q ⟨G, B, env, d, env', ok, e, k⟩ => by
  cases ret_some e
  exact k [] B H ok rfl trivial
theorem pdr_val {e : Expr} {es : List Expr} {m : M D} {r : M (List Av)} (h : PD X e m) (q : PDR X es r) (hs : starEach (e :: es) X.env = (false, eval e X.env) :: starEach es X.env := by rfl) : PDR X (e :: es) (rVal m r) :=
  pa_mono (pa_cons h q hs) fun σ H Q ⟨G, B, env, d, env', ok, e, k⟩ => by
    obtain ⟨x, e1, q1, q2⟩ := bnd_some e
    obtain ⟨xs, e2, q3, q4⟩ := bnd_some q2
    cases ret_some q4
    refine tD_of ok q1 fun v B1 H1 ok1 _ r1 => ⟨Ent.at B1 H1 σ _, B1, _, xs, _, ok1.self, q3, fun vs B2 H2 ok2' r2 n2 => ?_⟩
    exact k (v :: vs) B2 H2 (ok1.comp ok2') ⟨v, vs, rfl, Rep.mono ok2'.mono _ _ r1, r2⟩ (newV_back ok1 n2)
theorem pdr_lend (i : Nat) {x : Str} {p : Pos} {es : List Expr} {r : M (List Av)} (h : PE X (.Name x p) (tVar i)) (q : PDR X es r) (hs : starEach (.Name x p :: es) X.env = (false, eval (.Name x p) X.env) :: starEach es X.env := by rfl) : PDR X (.Name x p :: es) (rLend i r) :=
  pa_mono (pa_cons h q hs) fun σ H Q ⟨G, B, env, d, env', ok, e, k⟩ => by
    obtain ⟨x, e1, q1, q2⟩ := bnd_some e
    obtain ⟨xs, e2, q3, q4⟩ := bnd_some q2
    cases ret_some q4
    obtain ⟨ee, v, B', s1, _⟩ := peek_at ok q1
    subst ee
    exact ⟨v, s1, G, B, _, xs, _, ok, q3, fun vs B2 H2 ok2 r2 n2 => k (v :: vs) B2 H2 ok2 ⟨v, vs, rfl, s1, r2⟩ n2⟩
theorem pdr_new {e : Expr} {es : List Expr} {m : M D} {r : M (List Av)} (h : PF X e m) (q : PDR X es r) (hs : starEach (e :: es) X.env = (false, eval e X.env) :: starEach es X.env := by rfl) : PDR X (e :: es) (rNew m r) :=
  pa_mono (pa_cons h q hs) fun σ H Q ⟨G, B, env, d, env', ok, e, k⟩ => by
    obtain ⟨x, e1, q1, q2⟩ := bnd_some e
    obtain ⟨xs, e2, q3, q4⟩ := bnd_some q2
    cases ret_some q4
    refine tF_of ok q1 fun a B1 H1 ok1 _ h1 h2 h3 h4 => ⟨Ent.at B1 H1 σ _, B1, _, xs, _, ok1.self, q3, fun vs B2 H2 ok2' r2 n2 => ?_⟩
    obtain ⟨u, hu⟩ := h2.there
    obtain ⟨s1, s2, s3⟩ := ok2'.stay hu h1 h4
    refine k (.ref a :: vs) B2 H2 (ok1.comp ok2') ⟨a, vs, rfl, s2, ?_, s3, r2⟩ ⟨fun b e => by cases e; exact ok.live a h3, newV_back ok1 n2⟩
    rw [s1, ← hu]; exact h2.mono ok2'.mono
variable {k : Nat} {f : Addr} {fd : FuncData} {ps : List Str} {x : Str} {p pos : Pos} {e : Expr} {es : List Expr} {ms : List Bool} {F : Fn} {m : M (List Av)}
theorem call_red {K : PySem.W.Frag} {rf : Bool} {σ : L2.St} {H : Hp} {env' : Lvs} {G : Ent} {B : Hp} {env : Lvs} {d : D} {Q : VK} {E : XK} (h1 : one ms = true) (ok : Ok K G B H σ env) (e : eCall ms F m env = some (d, env'))
    (k : ∀ H1 B1 e1, Ok K G B1 H1 σ e1 → Ok K (Ent.at B H σ env) B1 H1 σ e1 → ∀ v B' H', Ok K G B' H' σ env' → (∀ a, H1 a = none → ¬ IsOwn σ env' a) → RetV K rf H1 B' H' d v → Q v H') : tCall (spF K ms rf F) [] E (tAr K m) σ H Q := by
  obtain ⟨avs, e1, q1, q2⟩ := bnd_some e
  split at q2
  rotate_left
  · cases q2
  rename_i hk
  split at q2
  rotate_left
  · cases q2
  rename_i ds hd
  split at q2
  rotate_left
  · cases q2
  rename_i r bs hF
  split at q2
  rotate_left
  · cases q2
  rename_i e2 hp
  cases q2
  refine ⟨Ent.at B H σ env, B, env, avs, e1, ok.self, q1, fun vs B1 H1 ok1' ha hn => ?_⟩
  have ok1 := ok.comp ok1'
  show spF K ms rf F (vs ++ []) H1 Q E
  rw [List.append_nil]
  exact call_sp h1 ok1 hk ha (newV_back ok hn) hd hF hp (k H1 B1 e1 ok1 ok1')
theorem pd_call (Fo : FnOk X.prog X.w X.K X.mg X.base CX0 k f fd ps (spF X.K ms false F)) (hr : Room k X.A) (hm : X.mg x = some (.ref f)) (hk : PySem.W.keepIn X.K (.ref f) = true) (hb : Binds X.K fd ps []) (ha : PDR X (e :: es) m) (h1 : one ms = true := by rfl) (hg : Gl X x := by rfl) (hdb : (x == ("__debug__" : Str)) = false := by decide)
    (he : starEach (e :: es) X.env = (false, eval e X.env) :: starEach es X.env := by rfl) (hpl : (backTo pos (starEach es X.env)).any (·.1) = false := by rfl) : PD X (.Call (.Name x p) (e :: es) [] pos) (eCall ms F m) :=
  pe_mono (pe_call Fo hr hg hm hk hb .nil pass0 ha hdb he hpl) fun σ H Q ⟨G, B, env, d, env', ok, e, k⟩ => call_red h1 ok e fun H1 B1 e1 ok1 ok1' v B' H' ok' _ rv => k v B' H' ok' rv
theorem pf_call (Fo : FnOk X.prog X.w X.K X.mg X.base CX0 k f fd ps (spF X.K ms true F)) (hr : Room k X.A) (hm : X.mg x = some (.ref f)) (hk : PySem.W.keepIn X.K (.ref f) = true) (hb : Binds X.K fd ps []) (ha : PDR X (e :: es) m) (h1 : one ms = true := by rfl) (hg : Gl X x := by rfl) (hdb : (x == ("__debug__" : Str)) = false := by decide)
    (he : starEach (e :: es) X.env = (false, eval e X.env) :: starEach es X.env := by rfl) (hpl : (backTo pos (starEach es X.env)).any (·.1) = false := by rfl) : PF X (.Call (.Name x p) (e :: es) [] pos) (eCall ms F m) :=
  pe_mono (pe_call Fo hr hg hm hk hb .nil pass0 ha hdb he hpl) fun σ H Q ⟨G, B, env, d, env', ok, e, k⟩ => call_red h1 ok e fun H1 B1 e1 ok1 ok1' v B' H' ok' nO rv => by
    obtain ⟨a, rfl, r1, r2, r3⟩ := rv
    exact k a B' H' ok' r1 r2 (ok1.live a r3) (nO a r3)
end
end Dv
/-! Operators, comparisons, items, slices, built-in functions and methods on data. -/
namespace Dv
open PySem PySem.Spec PyProof.Rows L2 Evl

section
variable {X : Cx}
theorem OpD.sub {o : Value → Value → Sem Value} {f g : D → D → Option D} (hf : ∀ d e z, g d e = some z → f d e = some z) : OpD X o f → OpD X o g := fun ⟨r, hr, h⟩ => ⟨r, hr, fun G B H σ env x y d e z Q ok rx ry ez k => h G B H σ env x y d e z Q ok rx ry (hf d e z ez) k⟩
theorem OpS.sub {o : Value → Value → Sem Value} {f g : D → D → Option D} (hf : ∀ d e z, g d e = some z → f d e = some z) : OpS X o f → OpS X o g := fun ⟨r, hr, h⟩ => ⟨r, hr, fun B H x y d e z Q ex rx ry ez k => h B H x y d e z Q ex rx ry (hf d e z ez) k⟩
/-- an operation that lays a new list -/
def OpF (X : Cx) (o : Value → Value → Sem Value) (f : D → D → Option D) : Prop := ∃ r : R2, OpR X o r ∧
  ∀ (G : Ent) (B H : Hp) (σ : L2.St) (env : Lvs) (x y : V) (d e z : D) (Q : VK), Ok X.K G B H σ env → Rep X.K B d x → Rep X.K B e y → f d e = some z → (∀ a H', Ok X.K G B H' σ env → B a = none → OwnAt X.K B (H' a) z → H a = none → ¬ IsOwn σ env a → Q (.ref a) H') → r x y H Q
theorem OpF.d {o : Value → Value → Sem Value} {f : D → D → Option D} : OpF X o f → OpD X o f := fun ⟨r, hr, h⟩ => ⟨r, hr, fun G B H σ env x y d e z Q ok rx ry ez k => h G B H σ env x y d e z Q ok rx ry ez fun a H' ok' hB hA hn hO => by
  obtain ⟨u, hu⟩ := hA.there
  rw [hu] at hA
  exact k (.ref a) _ H' (ok'.give hu hB (ok.live a hn) hO) (hA.rep hB)⟩
theorem pf_op {op : Operator} {f : D → D → Option D} {a b : Expr} {ma mb : M D} {pos : Pos} (ho : OpF X (binaryOp op) f) (ha : PD X a ma) (hb : PD X b mb) : PF X (.BinOp a op b pos) (eOp f ma mb) := by
  obtain ⟨r, hr, hf⟩ := ho
  refine pe_mono (pe_op hr ha hb) fun σ H Q ⟨G, B, env, d, env', ok, e, k⟩ => ?_
  obtain ⟨x, e1, q1, q2⟩ := bnd_some e
  obtain ⟨y, e2, q3, q4⟩ := bnd_some q2
  obtain ⟨z, q5, q6⟩ := lft_some q4
  cases q6
  exact tD_of ok q1 fun v B1 H1 ok1 _ r1 => tD_of ok1 q3 fun u B2 H2 ok2 ok2' r2 => hf G B2 H2 σ _ v u x y d Q ok2 (Rep.mono ok2'.mono _ _ r1) r2 q5 fun a H' ok' h1 h2 h3 h4 => k a B2 H' ok' h1 h2 (ok2.live a h3) h4
/-- two ints -/
theorem opS_int {o : Value → Value → Sem Value} {C : Int → Int → Prop} {g : Int → Int → V} (h : OpR X o (rI C g)) {f : D → D → Option D} (hf : ∀ d e z, f d e = some z → ∃ i j, d = .int i ∧ e = .int j ∧ C i j ∧ ∀ B, Rep X.K B z (g i j)) : OpS X o f := ⟨_, h, fun B H x y d e z Q ex rx ry ez k => by
  obtain ⟨i, j, rfl, rfl, hc, hr⟩ := hf d e z ez
  exact ⟨i, j, rx, ry, hc, k _ hr⟩⟩
theorem opS_int0 {o : Value → Value → Sem Value} {g : Int → Int → V} (h : OpR X o (rI0 g)) {f : D → D → Option D} (hf : ∀ d e z, f d e = some z → ∃ i j, d = .int i ∧ e = .int j ∧ ∀ B, Rep X.K B z (g i j)) : OpS X o f := ⟨_, h, fun B H x y d e z Q ex rx ry ez k => by
  obtain ⟨i, j, rfl, rfl, hr⟩ := hf d e z ez
  exact ⟨i, j, rx, ry, k _ hr⟩⟩

theorem orF_l {f g : D → D → Option D} {d e z : D} (h : f d e = some z) : orF f g d e = some z := by unfold orF; rw [h]
theorem orF_r {f g : D → D → Option D} {d e z : D} (h : f d e = none) (h' : g d e = some z) : orF f g d e = some z := by unfold orF; rw [h]; exact h'
theorem cast_le {m n : Nat} {x : Int} (h : m ≤ n) (e : x = (m : Int)) : x ≤ (n : Int) := by rw [e]; exact Int.ofNat_le.mpr h
/-! ### + -/
def addI : D → D → Option D
  | .int i, .int j => some (.int (i + j))
  | _, _ => none
def addS : D → D → Option D
  | .str a, .str b => if lim (a.length + b.length) = true then some (.str (a ++ b)) else none
  | _, _ => none
def addL : D → D → Option D
  | .lst a, .lst b => if lim (a.length + b.length) = true then some (.lst (a ++ b)) else none
  | _, _ => none
def addT : D → D → Option D
  | .tup a, .tup b => if lim (a.length + b.length) = true then some (.tup (a ++ b)) else none
  | _, _ => none
theorem op_addI : OpS X (binaryOp .Add) addI := opS_int0 op_add fun d e z h => by
  unfold addI at h
  split at h
  · cases h; exact ⟨_, _, rfl, rfl, fun _ => rfl⟩
  · cases h
theorem mkS_app (a b : List Nat) : mkS a ++ mkS b = mkS (a ++ b) := by
  show Str.mk (a.toArray ++ b.toArray) = _
  simp [mkS]
theorem op_addS : OpS X (binaryOp .Add) addS := ⟨_, op_add_str, fun B H x y d e z Q ex rx ry ez k => by
  unfold addS at ez
  split at ez
  · rename_i a b
    split at ez
    · rename_i hl
      cases ez
      refine ⟨mkS a, mkS b, rx, ry, ?_, k _ fun _ => ?_⟩
      · rw [mkS_len, mkS_len]; exact lim_ok hl
      · show V.str (mkS a ++ mkS b) = V.str (mkS (a ++ b))
        rw [mkS_app]
    · cases ez
  · cases ez⟩
theorem op_addL : OpF X (binaryOp .Add) addL := ⟨_, op_cat, fun G B H σ env x y d e z Q ok rx ry ez k => by
  unfold addL at ez
  split at ez
  · rename_i a b
    split at ez
    · rename_i hl
      cases ez
      obtain ⟨p, vs, rfl, h1, h2⟩ := rx
      obtain ⟨q, us, rfl, h3, h4⟩ := ry
      refine ⟨p, q, vs, us, rfl, rfl, ok.sub _ _ h1, ok.sub _ _ h3, ?_, fun l hl' => ?_⟩
      · rw [h2.length, h4.length]; exact lim_ok hl
      · exact k l _ (ok.tmp hl') (fresh_back ok.sub hl') ⟨_, upd_same, h2.append h4⟩ hl' (ok.notOwn hl')
    · cases ez
  · cases ez⟩
theorem op_addT : OpD X (binaryOp .Add) addT := ⟨_, op_catA, fun G B H σ env x y d e z Q ok rx ry ez k => by
  unfold addT at ez
  split at ez
  · rename_i a b
    split at ez
    · rename_i hl
      cases ez
      obtain ⟨p, vs, rfl, h1, h2⟩ := rx
      obtain ⟨q, us, rfl, h3, h4⟩ := ry
      refine ⟨p, q, vs, us, rfl, rfl, ex_t ok.sub h1, ex_t ok.sub h3, ?_, fun e => ?_, fun _ e => ?_, fun _ _ l hl' => ?_⟩
      · rw [h2.length, h4.length]; exact lim_ok hl
      · subst e
        have : a = [] := List.length_eq_zero_iff.mp h2.length.symm
        subst this
        exact k _ B H ok ⟨q, us, rfl, h3, h4⟩
      · subst e
        have : b = [] := List.length_eq_zero_iff.mp h4.length.symm
        subst this
        exact k _ B H ok ⟨p, vs, rfl, h1, by rw [List.append_nil]; exact h2⟩
      · exact k _ _ _ (ok.lay hl') ⟨l, _, rfl, SqT.of upd_same, Reps.mono (Ex.new (fresh_back ok.sub hl')) _ _ (h2.append h4)⟩
    · cases ez
  · cases ez⟩
def addD : D → D → Option D
  | .int i, .int j => some (.int (i + j))
  | .str a, .str b => if lim (a.length + b.length) = true then some (.str (a ++ b)) else none
  | .lst a, .lst b => if lim (a.length + b.length) = true then some (.lst (a ++ b)) else none
  | .tup a, .tup b => if lim (a.length + b.length) = true then some (.tup (a ++ b)) else none
  | _, _ => none
theorem op_addD : OpD X (binaryOp .Add) addD := (op_addI.d.or (op_addS.d.or (op_addL.d.or op_addT))).sub fun d e z h => by
  unfold addD at h
  split at h
  · exact orF_l h
  · exact orF_r rfl (orF_l h)
  · exact orF_r rfl (orF_r rfl (orF_l h))
  · exact orF_r rfl (orF_r rfl (orF_r rfl h))
  · cases h

/-! ### -, *, //, %, ** -/
def subD : D → D → Option D
  | .int i, .int j => some (.int (i - j))
  | _, _ => none
theorem op_subD : OpS X (binaryOp .Sub) subD := opS_int0 op_sub fun d e z h => by
  unfold subD at h
  split at h
  · cases h; exact ⟨_, _, rfl, rfl, fun _ => rfl⟩
  · cases h
def mulI : D → D → Option D
  | .int i, .int j => if i.natAbs.log2 + j.natAbs.log2 < 1000000 then some (.int (i * j)) else none
  | _, _ => none
theorem op_mulI : OpS X (binaryOp .Mult) mulI := opS_int op_mulW fun d e z h => by
  unfold mulI at h
  split at h
  · split at h
    · rename_i hc
      cases h; exact ⟨_, _, rfl, rfl, hc, fun _ => rfl⟩
    · cases h
  · cases h
def small63 (k : Int) : Bool := decide (-(2 ^ 63) ≤ k) && decide (k < 2 ^ 63)
theorem small63_ok {i : Int} (h : small63 i = true) : -(2 ^ 63) ≤ i ∧ i < 2 ^ 63 := by
  unfold small63 at h
  rw [Bool.and_eq_true] at h
  exact ⟨of_decide_eq_true h.1, of_decide_eq_true h.2⟩
def mulL : D → D → Option D
  | .lst a, .int k => if (small63 k && lim (a.length * k.toNat)) = true then some (.lst (List.replicate k.toNat a).flatten) else none
  | _, _ => none
theorem op_mulL : OpF X (binaryOp .Mult) mulL := ⟨_, op_rep, fun G B H σ env x y d e z Q ok rx ry ez k => by
  unfold mulL at ez
  split at ez
  · rename_i a n
    split at ez
    · rename_i hl
      cases ez
      rw [Bool.and_eq_true] at hl
      obtain ⟨p, vs, rfl, h1, h2⟩ := rx
      obtain ⟨b1, b2⟩ := small63_ok hl.1
      refine ⟨p, n, vs, rfl, ry, ok.sub _ _ h1, b1, b2, ?_, fun l hl' => ?_⟩
      · rw [h2.length]; exact lim_ok hl.2
      · exact k l _ (ok.tmp hl') (fresh_back ok.sub hl') ⟨_, upd_same, h2.flat _⟩ hl' (ok.notOwn hl')
    · cases ez
  · cases ez⟩
theorem rep_fold (a : Array Nat) : ∀ (n : Nat) (acc : Array Nat), (List.replicate n a).foldl (· ++ ·) acc = acc ++ (List.replicate n a.toList).flatten.toArray
  | 0, acc => by simp
  | n + 1, acc => by
    rw [List.replicate_succ, List.foldl_cons, rep_fold a n, List.replicate_succ, List.flatten_cons]
    apply Array.toList_inj.mp
    simp
/-- text * int -/
def mulS : D → D → Option D
  | .str a, .int k => if (small63 k && lim (a.length * k.toNat)) = true then some (.str (List.replicate k.toNat a).flatten) else none
  | _, _ => none
def rMulS : R2 := fun x y H Q => ∃ (a : List Nat) (k : Int), x = .str (mkS a) ∧ y = .int k ∧ small63 k = true ∧ lim (a.length * k.toNat) = true ∧ Q (.str (mkS (List.replicate k.toNat a).flatten)) H
theorem opr_mulS : OpR X (binaryOp .Mult) rMulS := by
  intro pins s σ H x y v u Q I rx ry h
  obtain ⟨a, n, rfl, rfl, h1, h2, q⟩ := h
  obtain ⟨t, rfl⟩ := rx
  obtain ⟨t', rfl⟩ := ry
  obtain ⟨b1, b2⟩ := small63_ok h1
  have hl : a.length * n.toNat ≤ 16777216 := of_decide_eq_true h2
  have hlen : (mkS a).length = a.length := mkS_len a
  refine PySem.P.mul_str ?_ (fun hn hz => ?_) (fun hn hz => ?_) ?_
  · rw [decide_eq_false (by omega), decide_eq_false (by omega)]; rfl
  · rw [hlen]
    have hn : 1 ≤ n := by omega
    have hm : (a.length : Int) * n ≤ 16777216 := by
      exact cast_le hl (by rw [Int.natCast_mul, Int.toNat_of_nonneg (by omega)])
    intro hgt
    have h3 : (2 ^ 63 - 1) / n * n ≥ 2 ^ 63 - 1 - (n - 1) := by
      have h4 := Int.emod_add_mul_ediv (2 ^ 63 - 1) n
      have h5 := Int.emod_lt_of_pos (2 ^ 63 - 1) (show 0 < n by omega)
      rw [Int.mul_comm] at h4
      omega
    have h6 : ((2 ^ 63 - 1) / n + 1) * n ≤ (a.length : Int) * n := Int.mul_le_mul_of_nonneg_right (by omega) (by omega)
    rw [Int.add_mul, Int.one_mul] at h6
    omega
  · rw [hlen]
    show decide (a.length * n.toNat > sizeLine) = false
    rw [sizeLine_eq]
    exact decide_eq_false (by omega)
  · have fin : ∀ (tk : Nat) (tt : Tok) (z : Str), z = mkS (List.replicate n.toNat a).flatten → EP X pins σ Q (.str z tt) { s with toks := tk } := fun tk tt z e => by
      subst e
      exact ⟨.str _, H, I.tok tk, ⟨tt, rfl⟩, q⟩
    by_cases c1 : n < 1
    · rw [if_pos c1]
      refine ⟨by decide, fin _ _ _ ?_⟩
      have : n.toNat = 0 := by omega
      rw [this]; rfl
    · rw [if_neg c1]
      by_cases c2 : (n == 1 || (mkS a).length == 0) = true
      · rw [if_pos c2]
        show EP X pins σ Q (.str (mkS a) t) s
        refine ⟨.str _, H, I, ⟨t, ?_⟩, q⟩
        rw [Bool.or_eq_true] at c2
        rcases c2 with c2 | c2
        · have : n = 1 := by simpa using c2
          subst this
          show Value.str (mkS a) t = Value.str (mkS (List.replicate 1 a).flatten) t
          simp
        · have : a = [] := by
            rw [hlen] at c2
            exact List.length_eq_zero_iff.mp (by simpa using c2)
          subst this
          simp
      · rw [if_neg c2]
        refine ⟨?_, fin _ _ _ ?_⟩
        · rw [rep_fold]
          show (#[] ++ (List.replicate n.toNat a).flatten.toArray).size ≤ sizeLine
          rw [sizeLine_eq]
          simp
          rw [Nat.mul_comm]; exact hl
        · rw [rep_fold]; simp [mkS]
theorem op_mulS : OpS X (binaryOp .Mult) mulS := ⟨_, opr_mulS, fun B H x y d e z Q ex rx ry ez k => by
  unfold mulS at ez
  split at ez
  · rename_i a n
    split at ez
    · rename_i hl
      cases ez
      rw [Bool.and_eq_true] at hl
      exact ⟨a, n, rx, ry, hl.1, hl.2, k _ fun _ => rfl⟩
    · cases ez
  · cases ez⟩
def mulD : D → D → Option D
  | .int i, .int j => if i.natAbs.log2 + j.natAbs.log2 < 1000000 then some (.int (i * j)) else none
  | .str a, .int k => if (small63 k && lim (a.length * k.toNat)) = true then some (.str (List.replicate k.toNat a).flatten) else none
  | .lst a, .int k => if (small63 k && lim (a.length * k.toNat)) = true then some (.lst (List.replicate k.toNat a).flatten) else none
  | _, _ => none
theorem op_mulD : OpD X (binaryOp .Mult) mulD := (op_mulI.d.or (op_mulS.d.or op_mulL.d)).sub fun d e z h => by
  unfold mulD at h
  split at h
  · exact orF_l h
  · exact orF_r rfl (orF_l h)
  · exact orF_r rfl (orF_r rfl h)
  · cases h
def fdivD : D → D → Option D
  | .int i, .int j => if (decide (0 < j) && decide (j.natAbs.log2 < 9000)) = true then some (.int (i / j)) else none
  | _, _ => none
theorem op_fdivD : OpS X (binaryOp .FloorDiv) fdivD := opS_int op_fdivW fun d e z h => by
  unfold fdivD at h
  split at h
  · split at h
    · rename_i hc
      cases h
      rw [Bool.and_eq_true] at hc
      exact ⟨_, _, rfl, rfl, ⟨of_decide_eq_true hc.1, of_decide_eq_true hc.2⟩, fun _ => rfl⟩
    · cases h
  · cases h
def modD : D → D → Option D
  | .int i, .int j => if 0 < j then some (.int (i % j)) else none
  | _, _ => none
theorem op_modD : OpS X (binaryOp .Mod) modD := opS_int op_mod fun d e z h => by
  unfold modD at h
  split at h
  · split at h
    · rename_i hc
      cases h
      exact ⟨_, _, rfl, rfl, hc, fun _ => rfl⟩
    · cases h
  · cases h
def CPowW (i j : Int) : Prop := 0 ≤ j ∧ (i.natAbs.log2 + 1) * j.toNat ≤ 100000000
theorem opr_powW : OpR X (binaryOp .Pow) (rI CPowW fun i j => .int (i ^ j.toNat)) := opI fun i j _ _ _ _ _ hc q => by
  refine PyProof.Rows.pow_int hc.1 ?_ q
  have hb : Builtin.Int.intBits i ≤ i.natAbs.log2 + 1 := PyProof.Rows.intBits_le (Nat.lt_log2_self)
  have h1 : Builtin.Int.intBits i * j.toNat ≤ 100000000 := Nat.le_trans (Nat.mul_le_mul_right _ hb) hc.2
  have h2 : (Builtin.Int.intBits i : Int) * j = ((Builtin.Int.intBits i * j.toNat : Nat) : Int) := by
    rw [Int.natCast_mul, Int.toNat_of_nonneg hc.1]
  exact Int.le_trans (cast_le h1 h2) (by decide)
def powD : D → D → Option D
  | .int i, .int j => if (decide (0 ≤ j) && decide ((i.natAbs.log2 + 1) * j.toNat ≤ 100000000)) = true then some (.int (i ^ j.toNat)) else none
  | _, _ => none
theorem op_powD : OpS X (binaryOp .Pow) powD := opS_int opr_powW fun d e z h => by
  unfold powD at h
  split at h
  · split at h
    · rename_i hc
      cases h
      rw [Bool.and_eq_true] at hc
      exact ⟨_, _, rfl, rfl, ⟨of_decide_eq_true hc.1, of_decide_eq_true hc.2⟩, fun _ => rfl⟩
    · cases h
  · cases h

/-! ### comparisons -/
def intCmp (p : Int → Int → Bool) : D → D → Option D
  | .int i, .int j => some (.bl (p i j))
  | _, _ => none
theorem opS_cmp {o : Value → Value → Sem Value} {p : Int → Int → Bool} (h : OpR X o (rI0 fun i j => .bl (p i j))) : OpS X o (intCmp p) := opS_int0 h fun d e z h => by
  unfold intCmp at h
  split at h
  · cases h; exact ⟨_, _, rfl, rfl, fun _ => rfl⟩
  · cases h
def strCmp (p : List Nat → List Nat → Bool) : D → D → Option D
  | .str i, .str j => some (.bl (p i j))
  | _, _ => none
theorem opS_scmp {o : Value → Value → Sem Value} {p : List Nat → List Nat → Bool} (h : OpR X o (fun x y H Q => ∃ i j, x = .str i ∧ y = .str j ∧ Q (.bl (p i.cps.toList j.cps.toList)) H)) : OpS X o (strCmp p) := ⟨_, h, fun B H x y d e z Q ex rx ry ez k => by
  unfold strCmp at ez
  split at ez
  · cases ez; exact ⟨_, _, rx, ry, k _ fun _ => rfl⟩
  · cases ez⟩
def ltD : D → D → Option D
  | .int i, .int j => some (.bl (decide (i < j)))
  | .str i, .str j => some (.bl (decide (i < j)))
  | _, _ => none
def leD : D → D → Option D
  | .int i, .int j => some (.bl (decide (i ≤ j)))
  | .str i, .str j => some (.bl (decide (i ≤ j)))
  | _, _ => none
def gtD : D → D → Option D
  | .int i, .int j => some (.bl (decide (j < i)))
  | .str i, .str j => some (.bl (decide (j < i)))
  | _, _ => none
def geD : D → D → Option D
  | .int i, .int j => some (.bl (decide (j ≤ i)))
  | .str i, .str j => some (.bl (decide (j ≤ i)))
  | _, _ => none
theorem or2 {f g h : D → D → Option D} (hi : ∀ d e z, h d e = some z → f d e = some z ∨ (f d e = none ∧ g d e = some z)) : ∀ d e z, h d e = some z → orF f g d e = some z := fun d e z q => by
  unfold orF
  rcases hi d e z q with q | ⟨q1, q2⟩
  · rw [q]
  · rw [q1]; exact q2
end
end Dv
/-! Comparisons, items, slices, built-in functions and methods on data. -/
namespace Dv
open PySem PySem.Spec PyProof.Rows L2 Evl

section
variable {X : Cx}
theorem op_ltD : OpS X (compareOp .Lt) ltD := ((opS_cmp (p := fun i j => decide (i < j)) op_lt).or (opS_scmp (p := fun i j => decide (i < j)) op_lt_str)).sub fun d e z h => by
  unfold ltD at h
  split at h
  · exact orF_l h
  · exact orF_r rfl h
  · cases h
theorem le_not {a b : List Nat} : decide (a ≤ b) = !decide (b < a) := by
  by_cases h : b < a
  · rw [decide_eq_true h, decide_eq_false (List.not_le.mpr h)]; rfl
  · rw [decide_eq_false h, decide_eq_true (List.not_lt.mp h)]; rfl
theorem op_leD : OpS X (compareOp .LtE) leD := ((opS_cmp (p := fun i j => decide (i ≤ j)) op_le).or (opS_scmp (p := fun i j => !decide (j < i)) op_le_str)).sub fun d e z h => by
  unfold leD at h
  split at h
  · exact orF_l h
  · rw [le_not] at h; exact orF_r rfl h
  · cases h
theorem op_gtD : OpS X (compareOp .Gt) gtD := ((opS_cmp (p := fun i j => decide (j < i)) op_gt).or (opS_scmp (p := fun i j => decide (j < i)) op_gt_str)).sub fun d e z h => by
  unfold gtD at h
  split at h
  · exact orF_l h
  · exact orF_r rfl h
  · cases h
theorem op_geD : OpS X (compareOp .GtE) geD := ((opS_cmp (p := fun i j => decide (j ≤ i)) op_ge).or (opS_scmp (p := fun i j => !decide (i < j)) op_ge_str)).sub fun d e z h => by
  unfold geD at h
  split at h
  · exact orF_l h
  · rw [le_not] at h; exact orF_r rfl h
  · cases h

/-! ### == -/
mutual
def py : D → PyData
  | .non => .none
  | .bl b => .bool b
  | .int i => .int i
  | .str s => .str (mkS s)
  | .ty _ => .none
  | .dic => .none
  | .lst ds => .list (pys ds)
  | .fls ds => .list (pys ds)
  | .tup ds => .tuple (pys ds)
def pys : List D → List PyData
  | [] => []
  | d :: ds => py d :: pys ds
end
mutual
/-- == on data -/
def eqB : D → D → Bool
  | .non, .non => true
  | .bl a, .bl b => a == b
  | .bl a, .int j => (if a then 1 else 0) == j
  | .int i, .bl b => i == (if b then 1 else 0)
  | .int i, .int j => decide (i = j)
  | .str x, .str y => decide (x = y)
  | .lst xs, .lst ys => eqBs xs ys
  | .lst xs, .fls ys => eqBs xs ys
  | .fls xs, .lst ys => eqBs xs ys
  | .fls xs, .fls ys => eqBs xs ys
  | .tup xs, .tup ys => eqBs xs ys
  | _, _ => false
def eqBs : List D → List D → Bool
  | [], [] => true
  | x :: xs, y :: ys => eqB x y && eqBs xs ys
  | _, _ => false
end
mutual
/-- may be compared -/
def okD : D → Bool
  | .non => true
  | .bl _ => true
  | .int _ => true
  | .str s => s.all (· < 0x110000)
  | .ty _ => false
  | .dic => false
  | .lst ds => okDs ds
  | .fls ds => okDs ds
  | .tup ds => okDs ds
def okDs : List D → Bool
  | [] => true
  | d :: ds => okD d && okDs ds
end
mutual
def dep : D → Nat
  | .lst ds => deps ds + 1
  | .fls ds => deps ds + 1
  | .tup ds => deps ds + 1
  | .non => 1
  | .bl _ => 1
  | .int _ => 1
  | .str _ => 1
  | .ty _ => 1
  | .dic => 1
def deps : List D → Nat
  | [] => 0
  | d :: ds => max (dep d) (deps ds)
end
mutual
theorem eqv_py : ∀ (d e : D), okD d = true → okD e = true → PyData.eqv (py d) (py e) = eqB d e
  | .non, .non, _, _ => by simp only [py, PyData.eqv, eqB]
  | .non, .bl _, _, _ => by simp only [py, PyData.eqv, eqB]
  | .non, .int _, _, _ => by simp only [py, PyData.eqv, eqB]
  | .non, .str _, _, _ => by simp only [py, PyData.eqv, eqB]
  | .non, .lst _, _, _ => by simp only [py, PyData.eqv, eqB]
  | .non, .fls _, _, _ => by simp only [py, PyData.eqv, eqB]
  | .non, .tup _, _, _ => by simp only [py, PyData.eqv, eqB]
  | .bl _, .non, _, _ => by simp only [py, PyData.eqv, eqB]
  | .bl _, .bl _, _, _ => by simp only [py, PyData.eqv, eqB]
  | .bl _, .int _, _, _ => by simp only [py, PyData.eqv, eqB]
  | .bl _, .str _, _, _ => by simp only [py, PyData.eqv, eqB]
  | .bl _, .lst _, _, _ => by simp only [py, PyData.eqv, eqB]
  | .bl _, .fls _, _, _ => by simp only [py, PyData.eqv, eqB]
  | .bl _, .tup _, _, _ => by simp only [py, PyData.eqv, eqB]
  | .int _, .non, _, _ => by simp only [py, PyData.eqv, eqB]
  | .int _, .bl _, _, _ => by simp only [py, PyData.eqv, eqB]
  | .int i, .int j, _, _ => by
    simp only [py, PyData.eqv, eqB]
    by_cases h : i = j
    · subst h; simp
    · rw [decide_eq_false h]; exact beq_eq_false_iff_ne.mpr h
  | .int _, .str _, _, _ => by simp only [py, PyData.eqv, eqB]
  | .int _, .lst _, _, _ => by simp only [py, PyData.eqv, eqB]
  | .int _, .fls _, _, _ => by simp only [py, PyData.eqv, eqB]
  | .int _, .tup _, _, _ => by simp only [py, PyData.eqv, eqB]
  | .str _, .non, _, _ => by simp only [py, PyData.eqv, eqB]
  | .str _, .bl _, _, _ => by simp only [py, PyData.eqv, eqB]
  | .str _, .int _, _, _ => by simp only [py, PyData.eqv, eqB]
  | .str x, .str y, _, _ => by
    simp only [py, PyData.eqv, eqB]
    by_cases h : x = y
    · subst h; simp
    · rw [decide_eq_false h]; exact beq_eq_false_iff_ne.mpr fun z => h (mkS_inj z)
  | .str _, .lst _, _, _ => by simp only [py, PyData.eqv, eqB]
  | .str _, .fls _, _, _ => by simp only [py, PyData.eqv, eqB]
  | .str _, .tup _, _, _ => by simp only [py, PyData.eqv, eqB]
  | .lst _, .non, _, _ => by simp only [py, PyData.eqv, eqB]
  | .lst _, .bl _, _, _ => by simp only [py, PyData.eqv, eqB]
  | .lst _, .int _, _, _ => by simp only [py, PyData.eqv, eqB]
  | .lst _, .str _, _, _ => by simp only [py, PyData.eqv, eqB]
  | .lst xs, .lst ys, h, q => by simp only [py, PyData.eqv, eqB]; exact eqv_pys xs ys h q
  | .lst xs, .fls ys, h, q => by simp only [py, PyData.eqv, eqB]; exact eqv_pys xs ys h q
  | .lst _, .tup _, _, _ => by simp only [py, PyData.eqv, eqB]
  | .fls _, .non, _, _ => by simp only [py, PyData.eqv, eqB]
  | .fls _, .bl _, _, _ => by simp only [py, PyData.eqv, eqB]
  | .fls _, .int _, _, _ => by simp only [py, PyData.eqv, eqB]
  | .fls _, .str _, _, _ => by simp only [py, PyData.eqv, eqB]
  | .fls xs, .lst ys, h, q => by simp only [py, PyData.eqv, eqB]; exact eqv_pys xs ys h q
  | .fls xs, .fls ys, h, q => by simp only [py, PyData.eqv, eqB]; exact eqv_pys xs ys h q
  | .fls _, .tup _, _, _ => by simp only [py, PyData.eqv, eqB]
  | .tup _, .non, _, _ => by simp only [py, PyData.eqv, eqB]
  | .tup _, .bl _, _, _ => by simp only [py, PyData.eqv, eqB]
  | .tup _, .int _, _, _ => by simp only [py, PyData.eqv, eqB]
  | .tup _, .str _, _, _ => by simp only [py, PyData.eqv, eqB]
  | .tup _, .lst _, _, _ => by simp only [py, PyData.eqv, eqB]
  | .tup _, .fls _, _, _ => by simp only [py, PyData.eqv, eqB]
  | .tup xs, .tup ys, h, q => by simp only [py, PyData.eqv, eqB]; exact eqv_pys xs ys h q
  | .ty _, _, h, _ => by simp only [okD] at h; cases h
  | .dic, _, h, _ => by simp only [okD] at h; cases h
  | .non, .ty _, _, h => by simp only [okD] at h; cases h
  | .non, .dic, _, h => by simp only [okD] at h; cases h
  | .bl _, .ty _, _, h => by simp only [okD] at h; cases h
  | .bl _, .dic, _, h => by simp only [okD] at h; cases h
  | .int _, .ty _, _, h => by simp only [okD] at h; cases h
  | .int _, .dic, _, h => by simp only [okD] at h; cases h
  | .str _, .ty _, _, h => by simp only [okD] at h; cases h
  | .str _, .dic, _, h => by simp only [okD] at h; cases h
  | .lst _, .ty _, _, h => by simp only [okD] at h; cases h
  | .lst _, .dic, _, h => by simp only [okD] at h; cases h
  | .fls _, .ty _, _, h => by simp only [okD] at h; cases h
  | .fls _, .dic, _, h => by simp only [okD] at h; cases h
  | .tup _, .ty _, _, h => by simp only [okD] at h; cases h
  | .tup _, .dic, _, h => by simp only [okD] at h; cases h
theorem eqv_pys : ∀ (ds es : List D), okDs ds = true → okDs es = true → PyData.eqvAll (pys ds) (pys es) = eqBs ds es
  | [], [], _, _ => by simp only [pys, PyData.eqvAll, eqBs]
  | [], _ :: _, _, _ => by simp only [pys, PyData.eqvAll, eqBs]
  | _ :: _, [], _, _ => by simp only [pys, PyData.eqvAll, eqBs]
  | d :: ds, e :: es, h, q => by
    simp only [okDs, Bool.and_eq_true] at h q
    simp only [pys, PyData.eqvAll, eqBs]
    rw [eqv_py d e h.1 q.1, eqv_pys ds es h.2 q.2]
end
mutual
theorem lay_py : ∀ (d : D), okD d = true → (py d).canLay0 = true ∧ (py d).depth ≤ dep d
  | .non, _ => by simp [py, PyData.canLay0, PyData.depth, dep]
  | .bl _, _ => by simp [py, PyData.canLay0, PyData.depth, dep]
  | .int _, _ => by simp [py, PyData.canLay0, PyData.depth, dep]
  | .str s, h => by
    simp only [okD] at h
    refine ⟨?_, by simp [py, PyData.depth, dep]⟩
    simp only [py, PyData.canLay0]
    show (mkS s).cps.all (· < 0x110000) = true
    simp only [mkS, List.all_toArray]
    exact h
  | .ty _, h => by simp only [okD] at h; cases h
  | .dic, h => by simp only [okD] at h; cases h
  | .lst ds, h => by
    have := lay_pys ds (by simpa only [okD] using h)
    simp only [py, PyData.canLay0, PyData.depth, dep]
    exact ⟨this.1, by omega⟩
  | .fls ds, h => by
    have := lay_pys ds (by simpa only [okD] using h)
    simp only [py, PyData.canLay0, PyData.depth, dep]
    exact ⟨this.1, by omega⟩
  | .tup ds, h => by
    have := lay_pys ds (by simpa only [okD] using h)
    simp only [py, PyData.canLay0, PyData.depth, dep]
    exact ⟨this.1, by omega⟩
theorem lay_pys : ∀ (ds : List D), okDs ds = true → PyData.canLayAll0 (pys ds) = true ∧ PyData.depthAll (pys ds) ≤ deps ds
  | [], _ => by simp [pys, PyData.canLayAll0, PyData.depthAll, deps]
  | d :: ds, h => by
    simp only [okDs, Bool.and_eq_true] at h
    have h1 := lay_py d h.1
    have h2 := lay_pys ds h.2
    simp only [pys, PyData.canLayAll0, PyData.depthAll, deps, Bool.and_eq_true]
    exact ⟨⟨h1.1, h2.1⟩, by omega⟩
end
mutual
theorem dp_of {K : PySem.W.Frag} {B H : Hp} (ex : Ex B H) : ∀ (d : D) (v : V), okD d = true → Rep K B d v → Dp K H v (py d)
  | .non, _, _, h => by rw [show _ = V.non from h]; exact .non
  | .bl _, _, _, h => by rw [show _ = V.bl _ from h]; exact .bl _
  | .int _, _, _, h => by rw [show _ = V.int _ from h]; exact .int _
  | .str _, _, _, h => by rw [show _ = V.str _ from h]; exact .str _
  | .ty _, _, h, _ => by simp only [okD] at h; cases h
  | .dic, _, h, _ => by simp only [okD] at h; cases h
  | .lst ds, _, h, r => by
    obtain ⟨a, vs, rfl, h1, h2⟩ := r
    exact .lst (SqL.of (ex _ _ h1)) (dps_of ex ds vs (by simpa only [okD] using h) h2)
  | .fls ds, _, h, r => by
    obtain ⟨a, vs, rfl, h1, h2⟩ := r
    exact .lst (ex_l ex h1) (dps_of ex ds vs (by simpa only [okD] using h) h2)
  | .tup ds, _, h, r => by
    obtain ⟨a, vs, rfl, h1, h2⟩ := r
    exact .tup (ex_t ex h1) (dps_of ex ds vs (by simpa only [okD] using h) h2)
theorem dps_of {K : PySem.W.Frag} {B H : Hp} (ex : Ex B H) : ∀ (ds : List D) (vs : List V), okDs ds = true → Reps K B ds vs → DpAll K H vs (pys ds)
  | [], _, _, h => by rw [show _ = ([] : List V) from h]; exact .nil
  | d :: ds, _, h, r => by
    simp only [okDs, Bool.and_eq_true] at h
    obtain ⟨v, t, rfl, r1, r2⟩ := r
    exact .cons (dp_of ex d v h.1 r1) (dps_of ex ds t h.2 r2)
end
@[irreducible] def shp (d : D) : Bool := okD d && decide (dep d ≤ 64)
theorem shp_ok {d : D} (h : shp d = true) : okD d = true ∧ SeqAt.shaped (py d) = true := by
  unfold shp at h
  rw [Bool.and_eq_true] at h
  have h1 := lay_py d h.1
  refine ⟨h.1, ?_⟩
  unfold SeqAt.shaped
  rw [h1.1, decide_eq_true (Nat.le_trans h1.2 (of_decide_eq_true h.2))]
  rfl
def eqG (d e : D) : Option D := if (shp d && shp e) = true then some (.bl (eqB d e)) else none
def neG (d e : D) : Option D := if (shp d && shp e) = true then some (.bl (!eqB d e)) else none
theorem op_eqG {k : Nat} (hr : Room k X.A) : OpS X (compareOp .Eq) eqG := ⟨_, op_eqD (by have := hr.un; omega), fun B H x y d e z Q ex rx ry ez k => by
  unfold eqG at ez
  split at ez
  · rename_i hs
    cases ez
    rw [Bool.and_eq_true] at hs
    obtain ⟨a1, a2⟩ := shp_ok hs.1
    obtain ⟨b1, b2⟩ := shp_ok hs.2
    refine ⟨_, _, dp_of ex d x a1 rx, dp_of ex e y b1 ry, a2, b2, ?_⟩
    rw [eqv_py d e a1 b1]
    exact k _ fun _ => rfl
  · cases ez⟩
theorem op_neG {k : Nat} (hr : Room k X.A) : OpS X (compareOp .NotEq) neG := ⟨_, op_neD (by have := hr.un; omega), fun B H x y d e z Q ex rx ry ez k => by
  unfold neG at ez
  split at ez
  · rename_i hs
    cases ez
    rw [Bool.and_eq_true] at hs
    obtain ⟨a1, a2⟩ := shp_ok hs.1
    obtain ⟨b1, b2⟩ := shp_ok hs.2
    refine ⟨_, _, dp_of ex d x a1 rx, dp_of ex e y b1 ry, a2, b2, ?_⟩
    rw [eqv_py d e a1 b1]
    exact k _ fun _ => rfl
  · cases ez⟩
def eqT : D → D → Option D
  | .str a, .str b => some (.bl (decide (a = b)))
  | _, _ => none
def neT : D → D → Option D
  | .str a, .str b => some (.bl (!decide (a = b)))
  | _, _ => none
theorem str_iff {a b : List Nat} : decide (V.str (mkS a) = V.str (mkS b)) = decide (a = b) := by
  by_cases h : a = b
  · subst h; simp
  · rw [decide_eq_false h]
    exact decide_eq_false fun z => h (mkS_inj (V.str.inj z))
theorem op_eqT : OpS X (compareOp .Eq) eqT := ⟨_, op_eq, fun B H x y d e z Q ex rx ry ez k => by
  unfold eqT at ez
  split at ez
  · cases ez
    rw [show x = _ from rx, show y = _ from ry]
    refine ⟨rfl, ?_⟩
    rw [str_iff]
    exact k _ fun _ => rfl
  · cases ez⟩
theorem op_neT : OpS X (compareOp .NotEq) neT := ⟨_, op_ne, fun B H x y d e z Q ex rx ry ez k => by
  unfold neT at ez
  split at ez
  · cases ez
    rw [show x = _ from rx, show y = _ from ry]
    refine ⟨rfl, ?_⟩
    rw [str_iff]
    exact k _ fun _ => rfl
  · cases ez⟩
def eqD : D → D → Option D
  | .int i, .int j => some (.bl (decide (i = j)))
  | .str a, .str b => some (.bl (decide (a = b)))
  | d, e => eqG d e
def neD : D → D → Option D
  | .int i, .int j => some (.bl (!decide (i = j)))
  | .str a, .str b => some (.bl (!decide (a = b)))
  | d, e => neG d e
theorem shp_int (i : Int) : shp (.int i) = true := by unfold shp; rfl
theorem eqG_int (i j : Int) : eqG (.int i) (.int j) = some (.bl (decide (i = j))) := by
  unfold eqG
  rw [shp_int, shp_int]
  unfold eqB
  rfl
theorem neG_int (i j : Int) : neG (.int i) (.int j) = some (.bl (!decide (i = j))) := by
  unfold neG
  rw [shp_int, shp_int]
  unfold eqB
  rfl
theorem op_eqq {k : Nat} (hr : Room k X.A) : OpS X (compareOp .Eq) eqD := (op_eqT.or (op_eqG hr)).sub fun d e z h => by
  unfold eqD at h
  split at h
  · exact orF_r rfl ((eqG_int _ _).trans h)
  · exact orF_l h
  · by_cases c : ∃ a b, d = .str a ∧ e = .str b
    · obtain ⟨a, b, rfl, rfl⟩ := c
      rename_i h2
      exact absurd rfl (fun z => h2 a b rfl z)
    · refine orF_r ?_ h
      unfold eqT
      split
      · exact absurd ⟨_, _, rfl, rfl⟩ c
      · rfl
theorem op_neq {k : Nat} (hr : Room k X.A) : OpS X (compareOp .NotEq) neD := (op_neT.or (op_neG hr)).sub fun d e z h => by
  unfold neD at h
  split at h
  · exact orF_r rfl ((neG_int _ _).trans h)
  · exact orF_l h
  · by_cases c : ∃ a b, d = .str a ∧ e = .str b
    · obtain ⟨a, b, rfl, rfl⟩ := c
      rename_i h2
      exact absurd rfl (fun z => h2 a b rfl z)
    · refine orF_r ?_ h
      unfold neT
      split
      · exact absurd ⟨_, _, rfl, rfl⟩ c
      · rfl

/-! ### in, is -/
def inS : D → D → Option D
  | .str [c], .str s => some (.bl (decide (c ∈ s)))
  | _, _ => none
def notInS : D → D → Option D
  | .str [c], .str s => some (.bl (!decide (c ∈ s)))
  | _, _ => none
theorem op_inS : OpS X (compareOp .In) inS := ⟨_, op_in_sign, fun B H x y d e z Q ex rx ry ez k => by
  unfold inS at ez
  split at ez
  · cases ez; exact ⟨_, _, rx, ry, k _ fun _ => rfl⟩
  · cases ez⟩
theorem op_notInS : OpS X (compareOp .NotIn) notInS := ⟨_, op_notIn_sign, fun B H x y d e z Q ex rx ry ez k => by
  unfold notInS at ez
  split at ez
  · cases ez; exact ⟨_, _, rx, ry, k _ fun _ => rfl⟩
  · cases ez⟩
def flatD : D → Bool
  | .non => true
  | .bl _ => true
  | .int _ => true
  | .str _ => true
  | _ => false
theorem flat_rep {K : PySem.W.Frag} {B : Hp} {d : D} {v : V} (h : flatD d = true) (r : Rep K B d v) : flatV v = true := by
  cases d with
  | non => rw [show v = _ from r]; rfl
  | bl _ => rw [show v = _ from r]; rfl
  | int _ => rw [show v = _ from r]; rfl
  | str _ => rw [show v = _ from r]; rfl
  | _ => cases h
theorem eqV_rep {K : PySem.W.Frag} {B : Hp} {d e : D} {v u : V} (h : flatD d = true) (h' : flatD e = true) (r : Rep K B d v) (r' : Rep K B e u) : eqV v u = eqB d e := by
  have ii : ∀ i j : Int, (i == j) = decide (i = j) := fun i j => by
    by_cases h : i = j
    · subst h; simp
    · rw [decide_eq_false h]; exact beq_eq_false_iff_ne.mpr h
  have ss : ∀ a b : List Nat, (mkS a == mkS b) = decide (a = b) := fun a b => by
    by_cases h : a = b
    · subst h; simp
    · rw [decide_eq_false h]; exact beq_eq_false_iff_ne.mpr fun z => h (mkS_inj z)
  cases d with
  | non => rw [show v = _ from r]; cases e with
    | non => rw [show u = _ from r']; simp only [eqV, eqB]
    | bl _ => rw [show u = _ from r']; simp only [eqV, eqB]
    | int _ => rw [show u = _ from r']; simp only [eqV, eqB]
    | str _ => rw [show u = _ from r']; simp only [eqV, eqB]
    | _ => cases h'
  | bl _ => rw [show v = _ from r]; cases e with
    | non => rw [show u = _ from r']; simp only [eqV, eqB]
    | bl _ => rw [show u = _ from r']; simp only [eqV, eqB]
    | int _ => rw [show u = _ from r']; simp only [eqV, eqB]
    | str _ => rw [show u = _ from r']; simp only [eqV, eqB]
    | _ => cases h'
  | int _ => rw [show v = _ from r]; cases e with
    | non => rw [show u = _ from r']; simp only [eqV, eqB]
    | bl _ => rw [show u = _ from r']; simp only [eqV, eqB]
    | int _ => rw [show u = _ from r']; simp only [eqV, eqB]; exact ii _ _
    | str _ => rw [show u = _ from r']; simp only [eqV, eqB]
    | _ => cases h'
  | str _ => rw [show v = _ from r]; cases e with
    | non => rw [show u = _ from r']; simp only [eqV, eqB]
    | bl _ => rw [show u = _ from r']; simp only [eqV, eqB]
    | int _ => rw [show u = _ from r']; simp only [eqV, eqB]
    | str _ => rw [show u = _ from r']; simp only [eqV, eqB]; exact ss _ _
    | _ => cases h'
  | _ => cases h
def anyEq (x : D) (ys : List D) : Bool := ys.any fun y => eqB y x
theorem inV_reps {K : PySem.W.Frag} {B : Hp} {x : D} {v : V} (hx : flatD x = true) (rx : Rep K B x v) : ∀ {ys : List D} {vs : List V}, ys.all flatD = true → Reps K B ys vs → inV v vs = anyEq x ys ∧ vs.all flatV = true
  | [], vs, _, h => by rw [show vs = [] from h]; exact ⟨rfl, rfl⟩
  | y :: ys, _, hf, h => by
    obtain ⟨u, t, rfl, r1, r2⟩ := h
    rw [List.all_cons, Bool.and_eq_true] at hf
    obtain ⟨a, b⟩ := inV_reps hx rx hf.2 r2
    refine ⟨?_, ?_⟩
    · show (eqV u v || inV v t) = (eqB y x || anyEq x ys)
      rw [a, eqV_rep hf.1 hx r1 rx]
    · rw [List.all_cons, flat_rep hf.1 r1, b]; rfl
def seqOf : D → Option (List D)
  | .lst ds => some ds
  | .fls ds => some ds
  | .tup ds => some ds
  | _ => none
theorem seq_rep {K : PySem.W.Frag} {B : Hp} {d : D} {v : V} {ds : List D} (h : seqOf d = some ds) (r : Rep K B d v) : ∃ a vs, v = .ref a ∧ (SqL K B a vs ∨ SqT K B a vs) ∧ Reps K B ds vs := by
  cases d with
  | lst _ => cases h; obtain ⟨a, vs, e, h1, h2⟩ := r; exact ⟨a, vs, e, .inl (SqL.of h1), h2⟩
  | fls _ => cases h; obtain ⟨a, vs, e, h1, h2⟩ := r; exact ⟨a, vs, e, .inl h1, h2⟩
  | tup _ => cases h; obtain ⟨a, vs, e, h1, h2⟩ := r; exact ⟨a, vs, e, .inr h1, h2⟩
  | _ => cases h
theorem ex_lt {K : PySem.W.Frag} {B H : Hp} {a : Addr} {vs : List V} (ex : Ex B H) : SqL K B a vs ∨ SqT K B a vs → SqL K H a vs ∨ SqT K H a vs := fun h => h.imp (ex_l ex) (ex_t ex)
def inQ (x y : D) : Option D := match seqOf y with
  | some ys => if (flatD x && ys.all flatD) = true then some (.bl (anyEq x ys)) else none
  | none => none
def notInQ (x y : D) : Option D := match seqOf y with
  | some ys => if (flatD x && ys.all flatD) = true then some (.bl (!anyEq x ys)) else none
  | none => none
theorem op_inQ : OpS X (compareOp .In) inQ := ⟨_, op_in_seq, fun B H x y d e z Q ex rx ry ez k => by
  unfold inQ at ez
  split at ez
  · rename_i ys hs
    split at ez
    · rename_i hf
      cases ez
      rw [Bool.and_eq_true] at hf
      obtain ⟨a, vs, rfl, h1, h2⟩ := seq_rep hs ry
      obtain ⟨q1, q2⟩ := inV_reps hf.1 rx hf.2 h2
      refine ⟨a, vs, rfl, ex_lt ex h1, flat_rep hf.1 rx, q2, ?_⟩
      rw [if_neg Bool.false_ne_true, q1]
      exact k _ fun _ => rfl
    · cases ez
  · cases ez⟩
theorem op_notInQ : OpS X (compareOp .NotIn) notInQ := ⟨_, op_notIn_seq, fun B H x y d e z Q ex rx ry ez k => by
  unfold notInQ at ez
  split at ez
  · rename_i ys hs
    split at ez
    · rename_i hf
      cases ez
      rw [Bool.and_eq_true] at hf
      obtain ⟨a, vs, rfl, h1, h2⟩ := seq_rep hs ry
      obtain ⟨q1, q2⟩ := inV_reps hf.1 rx hf.2 h2
      refine ⟨a, vs, rfl, ex_lt ex h1, flat_rep hf.1 rx, q2, ?_⟩
      rw [if_pos rfl, q1]
      exact k _ fun _ => rfl
    · cases ez
  · cases ez⟩
theorem op_inD : OpS X (compareOp .In) (orF inS inQ) := op_inS.or op_inQ
theorem op_notInD : OpS X (compareOp .NotIn) (orF notInS notInQ) := op_notInS.or op_notInQ
def isNon : D → Bool
  | .non => true
  | _ => false
theorem isNon_rep {K : PySem.W.Frag} {B : Hp} {d : D} {v : V} (r : Rep K B d v) : decide (v = V.non) = isNon d := by
  cases d with
  | non => rw [show v = _ from r]; rfl
  | bl _ => rw [show v = _ from r]; rfl
  | int _ => rw [show v = _ from r]; rfl
  | str _ => rw [show v = _ from r]; rfl
  | ty _ => rw [show v = _ from r]; rfl
  | dic => obtain ⟨a, rfl, _⟩ := r; rfl
  | lst _ => obtain ⟨a, vs, rfl, _⟩ := r; rfl
  | fls _ => obtain ⟨a, vs, rfl, _⟩ := r; rfl
  | tup _ => obtain ⟨a, vs, rfl, _⟩ := r; rfl
def isN : D → D → Option D
  | d, .non => some (.bl (isNon d))
  | _, _ => none
def isntN : D → D → Option D
  | d, .non => some (.bl (!isNon d))
  | _, _ => none
theorem op_isNq : OpS X (compareOp .Is) isN := ⟨_, op_isN, fun B H x y d e z Q ex rx ry ez k => by
  unfold isN at ez
  split at ez
  · cases ez
    refine ⟨ry, ?_⟩
    rw [isNon_rep rx]
    exact k _ fun _ => rfl
  · cases ez⟩
theorem op_isntNq : OpS X (compareOp .IsNot) isntN := ⟨_, op_notN, fun B H x y d e z Q ex rx ry ez k => by
  unfold isntN at ez
  split at ez
  · cases ez
    refine ⟨ry, ?_⟩
    rw [isNon_rep rx]
    exact k _ fun _ => rfl
  · cases ez⟩
def isBq : D → D → Option D
  | .bl a, .bl b => some (.bl (decide (a = b)))
  | _, _ => none
def isntBq : D → D → Option D
  | .bl a, .bl b => some (.bl (!decide (a = b)))
  | _, _ => none
theorem op_isBq : OpS X (compareOp .Is) isBq := ⟨_, op_isBl, fun B H x y d e z Q ex rx ry ez k => by
  unfold isBq at ez
  split at ez
  · cases ez; exact ⟨_, _, rx, ry, k _ fun _ => rfl⟩
  · cases ez⟩
theorem op_isntBq : OpS X (compareOp .IsNot) isntBq := ⟨_, op_notBl, fun B H x y d e z Q ex rx ry ez k => by
  unfold isntBq at ez
  split at ez
  · cases ez; exact ⟨_, _, rx, ry, k _ fun _ => rfl⟩
  · cases ez⟩
theorem op_isD : OpS X (compareOp .Is) (orF isN isBq) := op_isNq.or op_isBq
theorem op_isntD : OpS X (compareOp .IsNot) (orF isntN isntBq) := op_isntNq.or op_isntBq
/-- a < b <= c, as a test; as a value -/
def eChn (f g : D → D → Option D) (a b c : M D) : M D := bnd a fun x => bnd b fun y => bnd (lft (f x y)) fun z => match z with
  | .bl true => bnd c fun w => lft (g y w)
  | .bl false => ret (.bl false)
  | _ => stuck
theorem chn_red {f g : D → D → Option D} {ma mb mc : M D} {r r' : R2}
    (h : ∀ (B H : Hp) (x y : V) (d e z : D) (Q : VK), Ex B H → Rep X.K B d x → Rep X.K B e y → f d e = some z → (∀ v, (∀ B, Rep X.K B z v) → Q v H) → r x y H Q)
    (h' : ∀ (B H : Hp) (x y : V) (d e z : D) (Q : VK), Ex B H → Rep X.K B d x → Rep X.K B e y → g d e = some z → (∀ v, (∀ B, Rep X.K B z v) → Q v H) → r' x y H Q) {σ : L2.St} {H : Hp} {Q : VK} (q : tD X.K (eChn f g ma mb mc) σ H Q) : tChain r r' (tD X.K ma) (tD X.K mb) (tD X.K mc) σ H Q := by
  obtain ⟨G, B, env, d, env', ok, e, k⟩ := q
  obtain ⟨x, e1, q1, e⟩ := bnd_some e
  obtain ⟨y, e2, q2, e⟩ := bnd_some e
  obtain ⟨z, e3, q3, e⟩ := bnd_some e
  obtain ⟨z', q4, q5⟩ := lft_some q3
  cases q5
  refine tD_of ok q1 fun v B1 H1 ok1 _ r1 => tD_of ok1 q2 fun u B2 H2 ok2 ok2' r2 => h B2 H2 v u x y z _ ok2.sub (Rep.mono ok2'.mono _ _ r1) r2 q4 fun w rw => ?_
  split at e
  · refine ⟨true, rw B2, ?_⟩
    rw [if_pos rfl]
    obtain ⟨w', e4, q6, q7⟩ := bnd_some e
    obtain ⟨z2, q8, q9⟩ := lft_some q7
    cases q9
    exact tD_of ok2 q6 fun t B3 H3 ok3 ok3' r3 => h' B3 H3 u t y w' d Q ok3.sub (Rep.mono ok3'.mono _ _ r2) r3 q8 fun s rs => k s B3 H3 ok3 (rs B3)
  · cases ret_some e
    refine ⟨false, rw B2, ?_⟩
    rw [if_neg Bool.false_ne_true]
    exact k _ B2 H2 ok2 rfl
  · cases e
theorem pd_chain {op op' : CmpOp} {f g : D → D → Option D} {a b c : Expr} {ma mb mc : M D} {pos : Pos} (ho : OpS X (compareOp op) f) (ho' : OpS X (compareOp op') g) (ha : PD X a ma) (hb : PD X b mb) (hc : PD X c mc) (hm : lastMarks [op, op'] [b, c] = false := by with_unfolding_all rfl) : PD X (.Compare a [op, op'] [b, c] pos) (eChn f g ma mb mc) := by
  obtain ⟨r, hr, h⟩ := ho
  obtain ⟨r', hr', h'⟩ := ho'
  exact pe_mono (pe_chain hr hr' ha hb hc hm) fun σ H Q q => chn_red h h' q
theorem pdt_chain {op op' : CmpOp} {f g : D → D → Option D} {a b c : Expr} {ma mb mc : M D} {pos : Pos} (ho : OpS X (compareOp op) f) (ho' : OpS X (compareOp op') g) (ha : PD X a ma) (hb : PD X b mb) (hc : PD X c mc) (hm : lastMarks [op, op'] [b, c] = false := by with_unfolding_all rfl) : PDT X (.Compare a [op, op'] [b, c] pos) (eTest (eChn f g ma mb mc)) := by
  obtain ⟨r, hr, h⟩ := ho
  obtain ⟨r', hr', h'⟩ := ho'
  exact pt_mono (pt_chain hr hr' ha hb hc hm) (test_red fun σ H Q q => chn_red h h' q)
/-- -a -/
def eNeg (m : M D) : M D := bnd m fun d => match d with
  | .int i => ret (.int (-i))
  | _ => stuck
theorem pd_neg {a : Expr} {m : M D} {pos : Pos} (h : PD X a m) : PD X (.UnaryOp .USub a pos) (eNeg m) :=
  pe_mono (pe_un un_neg h) fun σ H Q ⟨G, B, env, d, env', ok, e, k⟩ => by
    obtain ⟨x, e1, q1, q2⟩ := bnd_some e
    split at q2
    · cases ret_some q2
      exact tD_of ok q1 fun v B1 H1 ok1 _ r1 => ⟨_, r1, k _ B1 H1 ok1 rfl⟩
    · cases q2
end
end Dv
/-! Items, slices, built-in functions and methods on data. -/
namespace Dv
open PySem PySem.Spec PyProof.Rows L2 Evl

section
variable {X : Cx}
/-! ### x[i] -/
def ixD : D → D → Option D
  | .lst ds, .int i => atI ds i
  | .fls ds, .int i => atI ds i
  | .tup ds, .int i => atI ds i
  | .str s, .int i => if lim s.length = true then (match atI s i with
    | some c => some (.str [c])
    | none => none) else none
  | _, _ => none
theorem atI_reps {K : PySem.W.Frag} {B : Hp} {ds : List D} {vs : List V} {i : Int} {d : D} (h : Reps K B ds vs) (e : atI ds i = some d) : ∃ v, atI vs i = some v ∧ Rep K B d v := by
  unfold atI at e ⊢
  rw [h.length]
  cases q : ixN ds.length i with
  | none => rw [q] at e; cases e
  | some j =>
    rw [q] at e
    exact h.get e
theorem ix_red {K : PySem.W.Frag} {B H : Hp} {x y : V} {d e z : D} {Q : VK} (ex : Ex B H) (rx : Rep K B d x) (ry : Rep K B e y) (ez : ixD d e = some z) (k : ∀ v, Rep K B z v → Q v H) : rIx K x y H Q := by
  unfold ixD at ez
  split at ez
  · obtain ⟨a, vs, rfl, h1, h2⟩ := rx
    obtain ⟨v, q1, q2⟩ := atI_reps h2 ez
    exact .inl ⟨a, vs, _, v, rfl, ry, SqL.of (ex _ _ h1), q1, k v q2⟩
  · obtain ⟨a, vs, rfl, h1, h2⟩ := rx
    obtain ⟨v, q1, q2⟩ := atI_reps h2 ez
    exact .inl ⟨a, vs, _, v, rfl, ry, ex_l ex h1, q1, k v q2⟩
  · obtain ⟨a, vs, rfl, h1, h2⟩ := rx
    obtain ⟨v, q1, q2⟩ := atI_reps h2 ez
    exact .inr (.inl ⟨a, vs, _, v, rfl, ry, ex_t ex h1, q1, k v q2⟩)
  · rename_i s i
    split at ez
    · rename_i hl
      split at ez
      · rename_i c hc
        cases ez
        exact .inr (.inr ⟨mkS s, i, c, rx, ry, by rw [mkS_len]; exact lim_ok hl, hc, k _ rfl⟩)
      · cases ez
    · cases ez
  · cases ez
def eIx (a b : M D) : M D := bnd a fun x => bnd b fun y => lft (ixD x y)
def eIxV (i : Nat) (b : M D) : M D := bnd (ePeek i) fun _ => bnd b fun y => bnd (ePeek i) fun x => lft (ixD x y)
theorem pd_ix {a b : Expr} {ma mb : M D} {pos : Pos} (ha : PD X a ma) (hb : PD X b mb) (hs : PlainIx b := by exact fun _ _ => rfl) : PD X (.Subscript a b pos) (eIx ma mb) :=
  pe_mono (pe_ix ix_seq ha hb hs) fun σ H Q ⟨G, B, env, d, env', ok, e, k⟩ => by
    obtain ⟨x, e1, q1, q2⟩ := bnd_some e
    obtain ⟨y, e2, q3, q4⟩ := bnd_some q2
    obtain ⟨z, q5, q6⟩ := lft_some q4
    cases q6
    exact tD_of ok q1 fun v B1 H1 ok1 _ r1 => tD_of ok1 q3 fun u B2 H2 ok2 ok2' r2 => ix_red ok2.sub (Rep.mono ok2'.mono _ _ r1) r2 q5 fun w rw => k w B2 H2 ok2 rw
theorem pd_ixV {i : Nat} {x : Str} {p1 : Pos} {b : Expr} {mb : M D} {pos : Pos} (ha : PE X (.Name x p1) (tVar i)) (hb : PD X b mb) (hs : PlainIx b := by exact fun _ _ => rfl) : PD X (.Subscript (.Name x p1) b pos) (eIxV i mb) :=
  pe_mono (pe_ix ix_seq ha hb hs) fun σ H Q ⟨G, B, env, d, env', ok, e, k⟩ => by
    obtain ⟨x0, e0, q0, e⟩ := bnd_some e
    obtain ⟨y, e1, q1, q2⟩ := bnd_some e
    obtain ⟨x, e2, q3, q4⟩ := bnd_some q2
    obtain ⟨z, q5, q6⟩ := lft_some q4
    cases q6
    obtain ⟨ee, v, _, sv, _⟩ := peek_at ok q0
    subst ee
    refine ⟨v, sv, tD_of ok q1 fun u B1 H1 ok1 ok1' r1 => ?_⟩
    unfold ePeek at q3
    split at q3
    · rename_i d' q
      cases q3
      obtain ⟨w, s1, s2⟩ := ok1.val i _ q
      rw [sv] at s1; cases s1
      exact ix_red ok1.sub s2 r1 q5 fun w rw => k w B1 H1 ok1 rw
    · rename_i p d' q
      cases q3
      obtain ⟨a, s1, s2, s3, _⟩ := ok1.own i _ _ q
      rw [sv] at s1; cases s1
      cases x with
      | lst ds =>
        obtain ⟨vs, h1, h2⟩ := s3
        cases y with
        | int j =>
          obtain ⟨w, t1, t2⟩ := atI_reps h2 q5
          exact .inl ⟨a, vs, j, w, rfl, r1, SqL.of h1, t1, k w B1 H1 ok1 t2⟩
        | _ => cases q5
      | _ => exact s3.elim
    · cases q3

/-! ### x[a:b] -/
def tO (K : PySem.W.Frag) (m : M (Option Int)) : TO := fun σ H Q => ∃ G B env o env', Ok K G B H σ env ∧ m env = some (o, env') ∧ ∀ B' H', Ok K G B' H' σ env' → Q o H'
def PDO (X : Cx) (e : Option Expr) (m : M (Option Int)) : Prop := PO X e (tO X.K m)
theorem po_mono {e : Option Expr} {t t' : TO} (h : PO X e t) (i : ∀ σ H Q, t' σ H Q → t σ H Q) : PO X e t' := ⟨fun pins s σ H Q I q => h.run pins s σ H Q I (i σ H Q q)⟩
def oNone : M (Option Int) := ret none
def oSome (m : M D) : M (Option Int) := bnd m fun d => match d with
  | .int i => ret (some i)
  | _ => stuck
theorem pdo_none : PDO X none oNone := po_mono po_none fun σ H Q ⟨G, B, env, d, env', ok, e, k⟩ => by
  cases ret_some e
  exact k B H ok
theorem pdo_some {e : Expr} {m : M D} (h : PD X e m) : PDO X (some e) (oSome m) := po_mono (po_some h) fun σ H Q ⟨G, B, env, d, env', ok, e, k⟩ => by
  obtain ⟨x, e1, q1, q2⟩ := bnd_some e
  split at q2
  · cases ret_some q2
    exact tD_of ok q1 fun v B1 H1 ok1 _ r1 => ⟨_, r1, k B1 H1 ok1⟩
  · cases q2
theorem tO_of {K : PySem.W.Frag} {G : Ent} {B H : Hp} {σ : L2.St} {env env' : Lvs} {m : M (Option Int)} {d : Option Int} {Q : Option Int → Hp → Prop} (h : Ok K G B H σ env) (e : m env = some (d, env')) (k : ∀ B' H', Ok K G B' H' σ env' → Ok K (Ent.at B H σ env) B' H' σ env' → Q d H') : tO K m σ H Q :=
  ⟨Ent.at B H σ env, B, env, d, env', h.self, e, fun B' H' h' => k B' H' (h.comp h') h'⟩
/-- xs[lo:hi] -/
def cut {α : Type} (xs : List α) (lo hi : Option Int) : List α := (xs.drop (HT.sIx xs.length 0 lo)).take (HT.sIx xs.length xs.length hi - HT.sIx xs.length 0 lo)
def slD (x : D) (lo hi : Option Int) : Option D := match x with
  | .lst ds => some (.lst (cut ds lo hi))
  | .fls ds => some (.lst (cut ds lo hi))
  | .tup ds => some (.tup (cut ds lo hi))
  | .str s => if lim s.length = true then some (.str (cut s lo hi)) else none
  | _ => none
theorem Reps.cut {K : PySem.W.Frag} {B : Hp} {ds : List D} {vs : List V} (h : Reps K B ds vs) (lo hi : Option Int) : Reps K B (Dv.cut ds lo hi) (cutV vs lo hi) := by
  unfold Dv.cut cutV
  rw [h.length]
  exact (h.drop _).take _
def rSl (K : PySem.W.Frag) : V → Option Int → Option Int → Hp → VK → Prop := fun x lo hi H Q => rSlL K x lo hi H Q ∨ rSlA K x lo hi H Q ∨ rSlS x lo hi H Q
theorem sl_any : SlR X (rSl X.K) := sl_list.or (sl_tupA.or sl_str)
theorem sl_red {K : PySem.W.Frag} {G : Ent} {B H : Hp} {σ : L2.St} {env : Lvs} {x : V} {d z : D} {lo hi : Option Int} {Q : VK} (ok : Ok K G B H σ env) (rx : Rep K B d x) (ez : slD d lo hi = some z) (k : ∀ v B' H', Ok K G B' H' σ env → Rep K B' z v → Q v H') : rSl K x lo hi H Q := by
  unfold slD at ez
  split at ez
  · cases ez
    obtain ⟨a, vs, rfl, h1, h2⟩ := rx
    exact .inl ⟨a, vs, rfl, SqL.of (ok.sub _ _ h1), fun p hp => k _ _ _ (ok.lay hp) ⟨p, _, rfl, upd_same, Reps.mono (Ex.new (fresh_back ok.sub hp)) _ _ (h2.cut lo hi)⟩⟩
  · cases ez
    obtain ⟨a, vs, rfl, h1, h2⟩ := rx
    exact .inl ⟨a, vs, rfl, ex_l ok.sub h1, fun p hp => k _ _ _ (ok.lay hp) ⟨p, _, rfl, upd_same, Reps.mono (Ex.new (fresh_back ok.sub hp)) _ _ (h2.cut lo hi)⟩⟩
  · rename_i ds
    cases ez
    obtain ⟨a, vs, rfl, h1, h2⟩ := rx
    refine .inr (.inl ⟨a, vs, rfl, ex_t ok.sub h1, fun ⟨e1, e2⟩ => ?_, fun _ p hp => k _ _ _ (ok.lay hp) ⟨p, _, rfl, SqT.of upd_same, Reps.mono (Ex.new (fresh_back ok.sub hp)) _ _ (h2.cut lo hi)⟩⟩)
    refine k _ B H ok ⟨a, vs, rfl, h1, ?_⟩
    have : Dv.cut ds lo hi = ds := by
      unfold Dv.cut
      rw [← h2.length, e1, e2, List.drop_zero, Nat.sub_zero]
      exact List.take_of_length_le (by rw [h2.length]; exact Nat.le_refl _)
    rw [this]; exact h2
  · rename_i s
    split at ez
    · rename_i hl
      cases ez
      refine .inr (.inr ⟨mkS s, rx, by rw [mkS_len]; exact lim_ok hl, k _ B H ok ?_⟩)
      show V.str (cutS (mkS s) lo hi) = V.str (mkS (Dv.cut s lo hi))
      unfold cutS Dv.cut
      rw [mkS_len]
    · cases ez
  · cases ez
def eSl (a : M D) (lo hi : M (Option Int)) : M D := bnd a fun x => bnd lo fun l => bnd hi fun h => lft (slD x l h)
theorem pd_slice {a : Expr} {lo hi : Option Expr} {ma : M D} {ml mh : M (Option Int)} {p2 pos : Pos} (ha : PD X a ma) (hl : PDO X lo ml) (hh : PDO X hi mh) : PD X (.Subscript a (.Slice lo hi none p2) pos) (eSl ma ml mh) :=
  pe_mono (pe_slice sl_any ha hl hh) fun σ H Q ⟨G, B, env, d, env', ok, e, k⟩ => by
    obtain ⟨x, e1, q1, e⟩ := bnd_some e
    obtain ⟨l, e2, q2, e⟩ := bnd_some e
    obtain ⟨h, e3, q3, e⟩ := bnd_some e
    obtain ⟨z, q5, q6⟩ := lft_some e
    cases q6
    exact tD_of ok q1 fun v B1 H1 ok1 _ r1 => tO_of ok1 q2 fun B2 H2 ok2 ok2' => tO_of ok2 q3 fun B3 H3 ok3 ok3' => sl_red ok3 (Rep.mono (ok2'.mono.trans ok3'.mono) _ _ r1) q5 k
/-- x[::-1] of a text -/
def revS : D → Option Int → Option D
  | .str s, some (-1) => if lim s.length = true then some (.str s.reverse) else none
  | _, _ => none
def eRev (a : M D) (st : M (Option Int)) : M D := bnd a fun x => bnd st fun l => lft (revS x l)
theorem rev_picked (s : List Nat) : (Builtin.Str.strSliceIndices none none (-1) (mkS s).length).filterMap ((mkS s).cps[·]?) = s.reverse := by
  show (sliceRange (((mkS s).cps.size : Int) - 1) (-1) (-1)).filterMap ((mkS s).cps[·]?) = s.reverse
  rw [PySem.W.krv_sliceRange, PySem.W.krv_range, List.filterMap_reverse, PySem.W.krv_all]
def tRevS (te : TE) (to : TO) : TE := fun σ H Q => te σ H fun x H1 => to σ H1 fun o H2 => ∃ s : List Nat, x = .str (mkS s) ∧ o = some (-1) ∧ lim s.length = true ∧ Q (.str (mkS s.reverse)) H2
theorem pe_revS {e st : Expr} {te : TE} {to : TO} {p3 pos : Pos} (he : PE X e te) (hst : PO X (some st) to) (hsub : ∀ o i, subscripted (.Slice none none (some st) p3) false o i = operate [o, i] (getItem o i) := by intros; rfl) : PE X (.Subscript e (.Slice none none (some st) p3) pos) (tRevS te to) := by
  refine ⟨fun pins s σ H Q I h => ?_⟩
  refine Subscript_ (thn (he.run pins s σ H _ I h) fun v s1 ⟨x, H1, I1, r1, q1⟩ => ?_)
  refine wpAny_Slice (thn (po_none.run pins s1 σ H1 (fun o H2 => o = none ∧ H2 = H1) I1 ⟨rfl, rfl⟩) fun vl s2 ⟨l, H2, I2, pl, el, e2⟩ => ?_)
  subst el e2
  refine thn (po_none.run pins s2 σ H2 (fun o H3 => o = none ∧ H3 = H2) I2 ⟨rfl, rfl⟩) fun vu s3 ⟨u, H3, I3, pu, eu, e3⟩ => ?_
  subst eu e3
  refine thn (hst.run pins s3 σ H3 _ I3 q1) fun vs s4 ⟨o, H4, I4, ps, z, ex, eo, hl, q⟩ => ?_
  subst ex eo
  obtain ⟨t, rfl⟩ := r1
  obtain ⟨l1, rfl, e1⟩ := IsPart.raw pl
  obtain ⟨u1, rfl, e2⟩ := IsPart.raw pu
  obtain ⟨o1, rfl, e3⟩ := IsPart.raw ps
  have I5 : Inv X pins σ H4 { s4 with heap := s4.heap.push { cls := .type "slice", data := .fields #[partValue l1, partValue u1, partValue o1] } } := I4.kept (t' := s4.toks) fun b ob q => Heap.get?_push_of_some _ q
  show wpAny (model X.prog X.w) X.A (subscriptTail e (.Slice none none (some st) p3) (.str (mkS z) t) (.ref s4.heap.objs.size)) (EP X pins σ Q) X.xe { s4 with heap := s4.heap.push { cls := .type "slice", data := .fields #[partValue l1, partValue u1, partValue o1] } }
  have hstep : (o1.map (·.1)).getD 1 = -1 := by rw [e3]; rfl
  refine tail_any (ops := [.str (mkS z) t, .ref s4.heap.objs.size]) (typeIs_str _ _ _) (F.slot_str_getitem.lookup) ?_ (hsub _ _)
  refine wpAny_getItem_str_slice (l := l1) (u := u1) (st := o1) ⟨_, Heap.get?_push_size _ rfl, rfl, rfl⟩ (by rw [hstep]; rfl) ?_
  have hmade : sliceMade (mkS z) t l1 u1 o1 = .str (mkS z.reverse) := by
    unfold sliceMade
    rw [hstep, if_neg (by intro h; simp at h)]
    have : slicePicked (mkS z) l1 u1 o1 = Builtin.Str.strSliceIndices none none (-1) (mkS z).length := by
      unfold slicePicked
      rw [hstep, e1, e2]
    rw [this, rev_picked]
  rw [hmade]
  refine ⟨?_, ⟨.str (mkS z.reverse), H4, I5.tok _, ⟨_, rfl⟩, q⟩⟩
  show (mkS z.reverse).length ≤ sizeLine
  rw [mkS_len, List.length_reverse]
  exact lim_ok hl
theorem pd_rev {a st : Expr} {ma : M D} {ms : M (Option Int)} {p3 pos : Pos} (ha : PD X a ma) (hst : PDO X (some st) ms) (hsub : ∀ o i, subscripted (.Slice none none (some st) p3) false o i = operate [o, i] (getItem o i) := by intros; rfl) : PD X (.Subscript a (.Slice none none (some st) p3) pos) (eRev ma ms) :=
  pe_mono (pe_revS ha hst hsub) fun σ H Q ⟨G, B, env, d, env', ok, e, k⟩ => by
    obtain ⟨x, e1, q1, e⟩ := bnd_some e
    obtain ⟨l, e2, q2, e⟩ := bnd_some e
    obtain ⟨z, q5, q6⟩ := lft_some e
    cases q6
    refine tD_of ok q1 fun v B1 H1 ok1 _ r1 => tO_of ok1 q2 fun B2 H2 ok2 ok2' => ?_
    unfold revS at q5
    split at q5
    · split at q5
      · rename_i hl
        cases q5
        exact ⟨_, r1, rfl, hl, k _ B2 H2 ok2 rfl⟩
      · cases q5
    · cases q5

/-! ### stores into a name's own list -/
/-- x[i] = e -/
def sSetIx (i : Nat) (ix v : M D) : MS := fun e => match v e with
  | some (d, e1) => match ePeek i e1 with
    | some _ => match ix e1 with
      | some (.int k, e2) => match e2[i]? with
        | some (.own p (.lst ds)) => match ixN ds.length k with
          | some j => some (.nx, e2.set i (.own p (.lst (ds.set j d))))
          | none => none
        | _ => none
      | _ => none
    | none => none
  | none => none
theorem pds_setIx {i : Nat} {x : Str} {p1 pos tpos : Pos} {ix v : Expr} {mi mv : M D} (hx : PE X (.Name x p1) (tVar i)) (hi : PD X ix mi) (hv : PD X v mv)
    (hs : swapsWithSole [.Subscript (.Name x p1) ix tpos] v pos.line X.env = pure false := by rfl) (hw : swappedStores [.Subscript (.Name x p1) ix tpos] v X.env = pure none := by rfl) (h1 : (assignEach [.Subscript (.Name x p1) ix tpos] X.env).map (·.2) = [assign (.Subscript (.Name x p1) ix tpos) X.env] := by rfl)
    (ha : ∀ v, assign (.Subscript (.Name x p1) ix tpos) X.env v = (do
      let ov ← holding [v] (eval (.Name x p1) X.env)
      let iv ← holding [v, ov] (eval ix X.env)
      standAt tpos
      holding [v, ov, iv] (setItem ov iv v)
      release [v, ov, iv] []) := by intro _; rfl) : PDS X (.Assign [.Subscript (.Name x p1) ix tpos] v pos) (sSetIx i mi mv) :=
  ps_mono (ps_asg hv (pg_sub hx hi set_list ha) hs hw h1) fun Z σ H ⟨G, B, env, o, env', ok, e, k⟩ => by
    unfold sSetIx at e
    split at e
    rotate_left
    · cases e
    rename_i d e1 q1
    split at e
    rotate_left
    · cases e
    rename_i pk q2
    split at e
    rotate_left
    · cases e
    rename_i kk e2 q3
    split at e
    rotate_left
    · cases e
    rename_i p ds q4
    split at e
    rotate_left
    · cases e
    rename_i j q5
    cases e
    refine tD_of ok q1 fun u B1 H1 ok1 _ r1 => ?_
    obtain ⟨pd, pe⟩ := pk
    obtain ⟨_, w, _, sw, _⟩ := peek_at ok1 q2
    refine ⟨w, sw, tD_of ok1 q3 fun y B2 H2 ok2 ok2' r2 => ?_⟩
    obtain ⟨a, s1, s2, s3, _⟩ := ok2.own i _ _ q4
    rw [sw] at s1; cases s1
    obtain ⟨vs, h1, h2⟩ := s3
    refine ⟨a, vs, kk, j, rfl, r2, h1, by rw [h2.length]; exact q5, k σ B2 _ (ok2.mut q4 sw ⟨_, rfl, h2.set j (Rep.mono ok2'.mono _ _ r1)⟩)⟩
/-- x.append(e) -/
def sApp (i : Nat) (m : M D) : MS := fun e => match e[i]? with
  | some (.own _ (.lst _)) => match m e with
    | some (d, e1) => match e1[i]? with
      | some (.own p (.lst ds)) => if lim (ds.length + 1) = true then some (.nx, e1.set i (.own p (.lst (ds ++ [d])))) else none
      | _ => none
    | none => none
  | _ => none
theorem pds_append {i : Nat} {x : Str} {p1 pos apos cpos : Pos} {e : Expr} {m : M D} (hx : PE X (.Name x p1) (tVar i)) (h : PD X e m) (hs : swapsWith (.Call (.Attribute (.Name x p1) "append" apos) [e] [] cpos) none pos.line X.env = pure false := by rfl)
    (hbase : attributeBase (.Name x p1) "append" X.env (eval (.Name x p1) X.env) = eval (.Name x p1) X.env := by rfl)
    (hfew : ((backTo cpos (starEach [e] X.env)).all (fun x => !x.1) && (backToKw cpos (keywordEach [] X.env)).all (fun x => x.1.isSome)
      && decide ([e].length + ([] : List Keyword).length + (if ([] : List Keyword).isEmpty then 0 else 1) < 30)) = true := by rfl)
    (hline : (apos.endLine == cpos.line) = true := by rfl) (hst : starEach [e] X.env = (false, eval e X.env) :: starEach [] X.env := by rfl) (hplain : (backTo cpos (starEach [] X.env)).any (·.1) = false := by rfl) :
    PDS X (.Expr (.Call (.Attribute (.Name x p1) "append" apos) [e] [] cpos) pos) (sApp i m) :=
  ps_mono (ps_expr (pe_bm PySem.F.plainAttrs_list PySem.F.slot_list_append PySem.F.type_list_append mt_append hx (pa_cons h pa_nil hst) hbase hfew hline hst hplain) hs) fun Z σ H ⟨G, B, env, o, env', ok, e, k⟩ => by
    unfold sApp at e
    split at e
    rotate_left
    · cases e
    rename_i p0 ds0 q0
    split at e
    rotate_left
    · cases e
    rename_i d e1 q1
    split at e
    rotate_left
    · cases e
    rename_i p ds q2
    split at e
    rotate_left
    · cases e
    rename_i hl
    cases e
    obtain ⟨a, s1, s2, ⟨vs0, s3, _⟩, _⟩ := ok.own i _ _ q0
    refine ⟨.ref a, s1, .inl ⟨rfl, vs0, SqL.of s3⟩, tD_of ok q1 fun v B1 H1 ok1 _ r1 => ?_⟩
    obtain ⟨a', t1, t2, ⟨vs, t3, t4⟩, _⟩ := ok1.own i _ _ q2
    rw [s1] at t1; cases t1
    refine ⟨a, vs, v, rfl, rfl, t3, ?_, k σ B1 _ (ok1.mut q2 s1 ⟨_, rfl, t4.append (Reps.one r1)⟩)⟩
    have := lim_ok hl
    rw [t4.length]; omega
/-- a, b = e (any targets) -/
def sAsg (m : M D) (g : D → Lvs → Option Lvs) : MS := fun e => match m e with
  | some (d, e1) => match g d e1 with
    | some e2 => some (.nx, e2)
    | none => none
  | none => none
theorem pds_asg {tg e : Expr} {m : M D} {vs : List Nat} {g : D → Lvs → Option Lvs} {pos : Pos} (he : PD X e m) (hg : PDG X vs tg g) (hs : swapsWithSole [tg] e pos.line X.env = pure false := by rfl) (hw : swappedStores [tg] e X.env = pure none := by rfl)
    (h1 : (assignEach [tg] X.env).map (·.2) = [assign tg X.env] := by rfl) : PDS X (.Assign [tg] e pos) (sAsg m g) :=
  ps_mono (ps_asg he hg hs hw h1) fun Z σ H ⟨G, B, env, o, env', ok, e, k⟩ => by
    unfold sAsg at e
    split at e
    rotate_left
    · cases e
    rename_i d e1 q1
    split at e
    rotate_left
    · cases e
    rename_i e2 q2
    cases e
    exact tD_of ok q1 fun v B1 H1 ok1 _ r1 => ⟨G, B1, e1, d, env', ok1, r1, q2, fun σ' B' H' ok' _ => k σ' B' H' ok'⟩
/-- a, b = e1, e2 with plain local names -/
def sPar (i j : Nat) (m : M (List D)) : MS := fun e => match m e with
  | some ([d1, d2], e1) => some (.nx, (e1.set i (.val d1)).set j (.val d2))
  | _ => none
theorem pds_par (i j : Nat) {x y : Str} {a b : Expr} {m : M (List D)} {px py pt pos : Pos} {kt k2 pt2} (ha : PDA X [a, b] m) (hN : X.N.Nodup) (hi : X.N[i]? = some x := by rfl) (hj : X.N[j]? = some y := by rfl) (hij : i ≠ j := by decide)
    (hx : X.env.scope.names.lookup x = some .local := by rfl) (hy : X.env.scope.names.lookup y = some .local := by rfl) (hc : X.calm = true := by rfl)
    (hw : swappedStores [.Tuple [.Name x px, .Name y py] kt pt] (.Tuple [a, b] k2 pt2) X.env = pure (some [x, y]) := by rfl)
    (hs : swapsWithSole [.Tuple [.Name x px, .Name y py] kt pt] (.Tuple [a, b] k2 pt2) pos.line X.env = pure false := by rfl) : PDS X (.Assign [.Tuple [.Name x px, .Name y py] kt pt] (.Tuple [a, b] k2 pt2) pos) (sPar i j m) :=
  ps_mono (ps_par hc hN hi hj hij hx hy ha hw hs) fun Z σ H ⟨G, B, env, o, env', ok, e, k⟩ => by
    unfold sPar at e
    split at e
    · rename_i d1 d2 e1 q1
      cases e
      refine tA_of ok q1 fun vs B1 H1 ok1 _ r0 => ?_
      obtain ⟨v, u, rfl, r1, r2⟩ := reps2 r0
      exact ⟨v, u, rfl, k _ B1 H1 ((ok1.store r1).store r2)⟩
    · cases e

/-! ### built-in functions -/
def CallD (X : Cx) (f : Value) (F : List D → Option D) : Prop := ∃ r, CallR X f r ∧ ∀ (G : Ent) (B H : Hp) (σ : L2.St) (env : Lvs) (vs : List V) (ds : List D) (z : D) (Q : VK), Ok X.K G B H σ env → Reps X.K B ds vs → F ds = some z → (∀ v B' H', Ok X.K G B' H' σ env → Rep X.K B' z v → Q v H') → r vs H Q
def eCallB (F : List D → Option D) (m : M (List D)) : M D := bnd m fun ds => lft (F ds)
theorem callB_red {F : List D → Option D} {r : List V → Hp → VK → Prop} {m : M (List D)} {σ : L2.St} {H : Hp} {Q : VK}
    (hr : ∀ (G : Ent) (B H : Hp) (σ : L2.St) (env : Lvs) (vs : List V) (ds : List D) (z : D) (Q : VK), Ok X.K G B H σ env → Reps X.K B ds vs → F ds = some z → (∀ v B' H', Ok X.K G B' H' σ env → Rep X.K B' z v → Q v H') → r vs H Q) (q : tD X.K (eCallB F m) σ H Q) : tCB r (tA X.K m) σ H Q := by
  obtain ⟨G, B, env, d, env', ok, e, k⟩ := q
  obtain ⟨ds, e1, q1, e⟩ := bnd_some e
  obtain ⟨z, q5, q6⟩ := lft_some e
  cases q6
  exact tA_of ok q1 fun vs B1 H1 ok1 _ r1 => hr G B1 H1 σ _ vs ds d Q ok1 r1 q5 k
theorem pd_callB {id : String} {x : Str} {p pos : Pos} {e : Expr} {es : List Expr} {F : List D → Option D} {m : M (List D)} (hc : CallD X (.builtin id) F) (hm : X.mg x = none) (ha : PDA X (e :: es) m) (hv : bootBuiltins x = some (.builtin id) := by decide +kernel) (hg : Gl X x := by rfl) (hn : x ≠ "__name__" := by decide) (hdb : (x == ("__debug__" : Str)) = false := by decide)
    (he : starEach (e :: es) X.env = (false, eval e X.env) :: starEach es X.env := by rfl) (hpl : (backTo pos (starEach es X.env)).any (·.1) = false := by rfl) : PD X (.Call (.Name x p) (e :: es) [] pos) (eCallB F m) := by
  obtain ⟨r, h, hr⟩ := hc
  exact pe_mono (pe_callB h hg hm hv ha hn hdb he hpl) fun σ H Q q => callB_red hr q
theorem pd_callTy {T : String} {x : Str} {p pos : Pos} {e : Expr} {es : List Expr} {F : List D → Option D} {m : M (List D)} (hc : CallD X (.type T) F) (hm : X.mg x = none) (ha : PDA X (e :: es) m) (hv : bootBuiltins x = some (.type T) := by decide +kernel) (hg : Gl X x := by rfl) (hn : x ≠ "__name__" := by decide) (hdb : (x == ("__debug__" : Str)) = false := by decide)
    (he : starEach (e :: es) X.env = (false, eval e X.env) :: starEach es X.env := by rfl) (hpl : (backTo pos (starEach es X.env)).any (·.1) = false := by rfl) : PD X (.Call (.Name x p) (e :: es) [] pos) (eCallB F m) := by
  obtain ⟨r, h, hr⟩ := hc
  exact pe_mono (pe_callTy h hg hm hv ha hn hdb he hpl) fun σ H Q q => callB_red hr q
/-- a built-in type as a value -/
theorem pd_ty (n : String) {x : Str} {pos : Pos} (hm : X.mg x = none) (hv : bootBuiltins x = some (.type n) := by decide +kernel) (hg : Gl X x := by rfl) (hn : x ≠ "__name__" := by decide) (hd : (x == ("__debug__" : Str)) = false := by decide) : PD X (.Name x pos) (eC (.ty n)) :=
  pd_c (pe_bltn (v := .ty n) hg hm hv rfl hn hd) fun _ => rfl
def lenD : List D → Option D
  | [.lst ds] => some (.int (ds.length : Nat))
  | [.fls ds] => some (.int (ds.length : Nat))
  | [.tup ds] => some (.int (ds.length : Nat))
  | [.str s] => if lim s.length = true then some (.int (s.length : Nat)) else none
  | _ => none
theorem call_lenD : CallD X (.builtin "len") lenD := ⟨_, call_len, fun G B H σ env vs ds z Q ok r0 e k => by
  unfold lenD at e
  split at e
  · cases e
    obtain ⟨v, rfl, r⟩ := reps1 r0
    obtain ⟨a, us, rfl, h1, h2⟩ := r
    exact ⟨_, us.length, rfl, .inl ⟨us, SqL.of (ok.sub _ _ h1), rfl⟩, k _ B H ok (by rw [h2.length]; rfl)⟩
  · cases e
    obtain ⟨v, rfl, r⟩ := reps1 r0
    obtain ⟨a, us, rfl, h1, h2⟩ := r
    exact ⟨_, us.length, rfl, .inl ⟨us, ex_l ok.sub h1, rfl⟩, k _ B H ok (by rw [h2.length]; rfl)⟩
  · cases e
    obtain ⟨v, rfl, r⟩ := reps1 r0
    obtain ⟨a, us, rfl, h1, h2⟩ := r
    exact ⟨_, us.length, rfl, .inr ⟨us, ex_t ok.sub h1, rfl⟩, k _ B H ok (by rw [h2.length]; rfl)⟩
  · split at e
    · rename_i s hl
      cases e
      obtain ⟨v, rfl, r⟩ := reps1 r0
      exact ⟨.str (mkS s), s.length, by rw [show v = _ from r], ⟨by rw [mkS_len]; exact lim_ok hl, (mkS_len s).symm⟩, k _ B H ok rfl⟩
    · cases e
  · cases e⟩
/-- len of a name's list, which the name keeps -/
def eLenV (i : Nat) : M D := bnd (ePeek i) fun d => lft (lenD [d])
theorem pd_lenV {i : Nat} {x : Str} {p1 p pos : Pos} (hx : PE X (.Name x p1) (tVar i)) (hm : X.mg "len" = none) (hg : Gl X "len" := by rfl)
    (he : starEach [.Name x p1] X.env = (false, eval (.Name x p1) X.env) :: starEach [] X.env := by rfl) (hpl : (backTo pos (starEach [] X.env)).any (·.1) = false := by rfl) : PD X (.Call (.Name "len" p) [.Name x p1] [] pos) (eLenV i) :=
  pe_mono (pe_callB call_len hg hm PySem.boot_len (pa_cons hx pa_nil he) (by decide) (by decide) he hpl) fun σ H Q ⟨G, B, env, d, env', ok, e, k⟩ => by
    obtain ⟨x, e1, q1, e⟩ := bnd_some e
    obtain ⟨z, q5, q6⟩ := lft_some e
    cases q6
    obtain ⟨ee, v, B', s1, x1, x2, r⟩ := peek_at ok q1
    subst ee
    refine ⟨v, s1, ?_⟩
    unfold lenD at q5
    split at q5
    · rename_i ds hd
      cases hd
      cases q5
      obtain ⟨a, us, rfl, h1, h2⟩ := r
      exact ⟨_, us.length, rfl, .inl ⟨us, SqL.of (x2 _ _ h1), rfl⟩, k _ B H ok (by rw [h2.length]; rfl)⟩
    · rename_i ds hd
      cases hd
      cases q5
      obtain ⟨a, us, rfl, h1, h2⟩ := r
      exact ⟨_, us.length, rfl, .inl ⟨us, ex_l x2 h1, rfl⟩, k _ B H ok (by rw [h2.length]; rfl)⟩
    · rename_i ds hd
      cases hd
      cases q5
      obtain ⟨a, us, rfl, h1, h2⟩ := r
      exact ⟨_, us.length, rfl, .inr ⟨us, ex_t x2 h1, rfl⟩, k _ B H ok (by rw [h2.length]; rfl)⟩
    · rename_i s hd
      cases hd
      split at q5
      · rename_i hl
        cases q5
        exact ⟨.str (mkS s), s.length, by rw [show v = _ from r], ⟨by rw [mkS_len]; exact lim_ok hl, (mkS_len s).symm⟩, k _ B H ok rfl⟩
      · cases q5
    · cases q5
def intsOf : List D → Option (List Int)
  | [] => some []
  | .int i :: ds => match intsOf ds with
    | some ns => some (i :: ns)
    | none => none
  | _ => none
theorem intsOf_ok : ∀ {ds : List D} {ns : List Int}, intsOf ds = some ns → ds = ns.map D.int
  | [], ns, h => by cases h; rfl
  | .int i :: ds, ns, h => by
    unfold intsOf at h
    split at h
    · rename_i q; cases h; rw [intsOf_ok q]; rfl
    · cases h
  | .non :: _, _, h => by cases h
  | .bl _ :: _, _, h => by cases h
  | .str _ :: _, _, h => by cases h
  | .ty _ :: _, _, h => by cases h
  | .dic :: _, _, h => by cases h
  | .lst _ :: _, _, h => by cases h
  | .fls _ :: _, _, h => by cases h
  | .tup _ :: _, _, h => by cases h
def sumD : List D → Option D
  | [.lst ds] => match intsOf ds with
    | some ns => some (.int ns.sum)
    | none => none
  | [.fls ds] => match intsOf ds with
    | some ns => some (.int ns.sum)
    | none => none
  | _ => none
theorem call_sumD (hc : X.calm = true := by rfl) : CallD X (.builtin "sum") sumD := ⟨_, cr_sum hc, fun G B H σ env vs ds z Q ok r0 e k => by
  unfold sumD at e
  split at e
  · split at e
    · rename_i ns hn
      cases e
      obtain ⟨v, rfl, r⟩ := reps1 r0
      obtain ⟨a, us, rfl, h1, h2⟩ := r
      rw [intsOf_ok hn] at h2
      exact ⟨a, ns, rfl, by rw [← h2.of_ints]; exact SqL.of (ok.sub _ _ h1), k _ B H ok rfl⟩
    · cases e
  · split at e
    · rename_i ns hn
      cases e
      obtain ⟨v, rfl, r⟩ := reps1 r0
      obtain ⟨a, us, rfl, h1, h2⟩ := r
      rw [intsOf_ok hn] at h2
      exact ⟨a, ns, rfl, by rw [← h2.of_ints]; exact ex_l ok.sub h1, k _ B H ok rfl⟩
    · cases e
  · cases e⟩
def maxD : List D → Option D
  | [.int i, .int j] => some (.int (if j > i then j else i))
  | _ => none
def minD : List D → Option D
  | [.int i, .int j] => some (.int (if j < i then j else i))
  | _ => none
theorem call_maxD (hc : X.calm = true := by rfl) : CallD X (.builtin "max") maxD := ⟨_, call_max2 hc, fun G B H σ env vs ds z Q ok r0 e k => by
  unfold maxD at e
  split at e
  · cases e
    obtain ⟨v, u, rfl, r1, r2⟩ := reps2 r0
    exact ⟨_, _, by rw [show v = _ from r1, show u = _ from r2], k _ B H ok rfl⟩
  · cases e⟩
theorem call_minD (hc : X.calm = true := by rfl) : CallD X (.builtin "min") minD := ⟨_, call_min2 hc, fun G B H σ env vs ds z Q ok r0 e k => by
  unfold minD at e
  split at e
  · cases e
    obtain ⟨v, u, rfl, r1, r2⟩ := reps2 r0
    exact ⟨_, _, by rw [show v = _ from r1, show u = _ from r2], k _ B H ok rfl⟩
  · cases e⟩
def intD : List D → Option D
  | [.int i] => some (.int i)
  | [.bl b] => some (.int (if b then 1 else 0))
  | _ => none
theorem call_intD : CallD X (.type "int") intD := ⟨_, call_int1, fun G B H σ env vs ds z Q ok r0 e k => by
  unfold intD at e
  split at e
  · cases e
    obtain ⟨v, rfl, r⟩ := reps1 r0
    exact .inl ⟨_, by rw [show v = _ from r], k _ B H ok rfl⟩
  · cases e
    obtain ⟨v, rfl, r⟩ := reps1 r0
    exact .inr ⟨_, by rw [show v = _ from r], k _ B H ok rfl⟩
  · cases e⟩
/-- isinstance -/
def tyN : D → String
  | .non => "NoneType"
  | .bl _ => "bool"
  | .int _ => "int"
  | .str _ => "str"
  | .lst _ => "list"
  | .fls _ => "list"
  | .tup _ => "tuple"
  | .ty _ => "type"
  | .dic => "dict"
def isTy : D → Bool
  | .ty _ => true
  | _ => false
def isiD : List D → Option D
  | [d, .ty n] => if isTy d = true then none else match kitB (tyN d) n with
    | some b => some (.bl b)
    | none => none
  | _ => none
theorem tyx_rep {K : PySem.W.Frag} {B H : Hp} (ex : Ex B H) {d : D} {v : V} (h : isTy d = false) (r : Rep K B d v) : TyX K H v (.type (tyN d)) := by
  cases d with
  | non => rw [show v = _ from r]; exact .base .non
  | bl _ => rw [show v = _ from r]; exact .base (.bl _)
  | int _ => rw [show v = _ from r]; exact .base (.int _)
  | str _ => rw [show v = _ from r]; exact .base (.str _)
  | ty _ => cases h
  | dic => obtain ⟨a, rfl, h1⟩ := r; exact .base (.dK (ex _ _ h1))
  | lst _ => obtain ⟨a, us, rfl, h1, _⟩ := r; exact .base (.lst (ex _ _ h1))
  | fls _ =>
    obtain ⟨a, us, rfl, h1, _⟩ := r
    rcases ex_l ex h1 with (h | ⟨o, h⟩) | ⟨o, its, n, h, hc, _⟩
    · exact .base (.lst h)
    · exact .base (.frz h)
    · exact .kList h hc
  | tup _ =>
    obtain ⟨a, us, rfl, h1, _⟩ := r
    rcases ex_t ex h1 with (h | ⟨o, h⟩) | ⟨o, its, n, h, hc, _⟩
    · exact .base (.tup h)
    · exact .fTuple h
    · exact .kTuple h hc
theorem call_isiD : CallD X (.builtin "isinstance") isiD := ⟨_, call_isi, fun G B H σ env vs ds z Q ok r0 e k => by
  unfold isiD at e
  split at e
  · rename_i d n
    split at e
    · cases e
    · rename_i ht
      split at e
      · rename_i b hb
        cases e
        obtain ⟨v, u, rfl, r1, r2⟩ := reps2 r0
        exact ⟨v, .ty n, .type (tyN d), .type n, b, by rw [show u = _ from r2], .ty n, tyx_rep ok.sub (by simpa using ht) r1, kit_ty hb, k _ B H ok rfl⟩
      · cases e
  · cases e⟩

/-! ### methods -/
def MethD (X : Cx) (T : String) (id : String) (F : D → List D → Option D) : Prop := ∃ r, MtR X id r ∧ ∀ (G : Ent) (B H : Hp) (σ : L2.St) (env : Lvs) (x : V) (d : D) (vs : List V) (ds : List D) (z : D) (Q : VK), Ok X.K G B H σ env → Rep X.K B d x → Reps X.K B ds vs → F d ds = some z → (∀ v B' H', Ok X.K G B' H' σ env → Rep X.K B' z v → Q v H') → r x vs H Q
def isStr : D → Bool
  | .str _ => true
  | _ => false
def eMethS (F : D → List D → Option D) (a : M D) (m : M (List D)) : M D := bnd a fun x => if isStr x = true then bnd m fun ds => lft (F x ds) else stuck
theorem pd_methS {name : Str} {id : String} {o e : Expr} {es : List Expr} {F : D → List D → Option D} {ma : M D} {m : M (List D)} {apos cpos : Pos} (hm : MethD X "str" id F) (slot : Slot "str" name id) (hty : typeOf (.builtin id) = pure (.type "method_descriptor")) (ho : PD X o ma) (ha : PDA X (e :: es) m)
    (hbase : attributeBase o name X.env (eval o X.env) = eval o X.env := by rfl)
    (hfew : ((backTo cpos (starEach (e :: es) X.env)).all (fun x => !x.1) && (backToKw cpos (keywordEach [] X.env)).all (fun x => x.1.isSome)
      && decide ((e :: es).length + ([] : List Keyword).length + (if ([] : List Keyword).isEmpty then 0 else 1) < 30)) = true := by rfl)
    (hline : (apos.endLine == cpos.line) = true := by rfl) (hs : starEach (e :: es) X.env = (false, eval e X.env) :: starEach es X.env := by rfl) (hplain : (backTo cpos (starEach es X.env)).any (·.1) = false := by rfl) :
    PD X (.Call (.Attribute o name apos) (e :: es) [] cpos) (eMethS F ma m) := by
  obtain ⟨r, h, hr⟩ := hm
  refine pe_mono (pe_bm PySem.F.plainAttrs_str slot hty h ho ha hbase hfew hline hs hplain) fun σ H Q ⟨G, B, env, d, env', ok, e, k⟩ => ?_
  obtain ⟨x, e1, q1, e⟩ := bnd_some e
  split at e
  · rename_i hS
    obtain ⟨ds, e2, q2, e⟩ := bnd_some e
    obtain ⟨z, q5, q6⟩ := lft_some e
    cases q6
    refine tD_of ok q1 fun v B1 H1 ok1 _ r1 => ⟨?_, tA_of ok1 q2 fun vs B2 H2 ok2 ok2' r2 => hr G B2 H2 σ _ v x vs ds d Q ok2 (Rep.mono ok2'.mono _ _ r1) r2 q5 k⟩
    cases x with
    | str s => rw [show v = _ from r1]; rfl
    | _ => cases hS
  · cases e
def stripL (a b : List Nat) : List Nat := (Txt.stripChars (mkS a) (mkS b)).cps.toList
def stripD : D → List D → Option D
  | .str a, [.str b] => if lim a.length = true then some (.str (stripL a b)) else none
  | _, _ => none
theorem meth_strip : MethD X "str" "str.strip" stripD := ⟨_, mt_stripChars, fun G B H σ env x d vs ds z Q ok rx rs e k => by
  unfold stripD at e
  split at e
  · rename_i a b
    split at e
    · rename_i hl
      cases e
      obtain ⟨u, rfl, r⟩ := reps1 rs
      exact ⟨mkS a, mkS b, rx, by rw [show u = _ from r], by rw [mkS_len]; exact lim_ok hl, k _ B H ok rfl⟩
    · cases e
  · cases e⟩
def strsOf : List D → Option (List (List Nat))
  | [] => some []
  | .str i :: ds => match strsOf ds with
    | some ns => some (i :: ns)
    | none => none
  | _ => none
theorem strsOf_ok : ∀ {ds : List D} {ns : List (List Nat)}, strsOf ds = some ns → ds = ns.map D.str
  | [], ns, h => by cases h; rfl
  | .str i :: ds, ns, h => by
    unfold strsOf at h
    split at h
    · rename_i q; cases h; rw [strsOf_ok q]; rfl
    · cases h
  | .non :: _, _, h => by cases h
  | .bl _ :: _, _, h => by cases h
  | .int _ :: _, _, h => by cases h
  | .ty _ :: _, _, h => by cases h
  | .dic :: _, _, h => by cases h
  | .lst _ :: _, _, h => by cases h
  | .fls _ :: _, _, h => by cases h
  | .tup _ :: _, _, h => by cases h
def joinD : D → List D → Option D
  | .str a, [.lst ds] => match strsOf ds with
    | some ns => if lim ((ns.map List.length).sum + ns.length * a.length) = true then some (.str (TL.joinL a ns)) else none
    | none => none
  | _, _ => none
theorem map_mkS_len (ns : List (List Nat)) : ((ns.map mkS).map (·.length)).sum = (ns.map List.length).sum := by
  rw [List.map_map]
  exact congrArg List.sum (List.map_congr_left fun s _ => mkS_len s)
theorem meth_join : MethD X "str" "str.join" joinD := ⟨_, mt_join, fun G B H σ env x d vs ds z Q ok rx rs e k => by
  unfold joinD at e
  split at e
  · rename_i a ys
    split at e
    · rename_i ns hn
      split at e
      · rename_i hl
        cases e
        obtain ⟨u, rfl, r⟩ := reps1 rs
        obtain ⟨p, us, rfl, h1, h2⟩ := r
        rw [strsOf_ok hn] at h2
        refine ⟨mkS a, p, ns.map mkS, rx, rfl, .inl (by rw [← h2.of_strs]; exact SqL.of (ok.sub _ _ h1)), ?_, k _ B H ok ?_⟩
        · rw [map_mkS_len, List.length_map, mkS_len]
          exact of_decide_eq_true hl
        · show V.str (Txt.join (mkS a) (ns.map mkS)) = V.str (mkS (TL.joinL a ns))
          have : Txt.join (mkS a) (ns.map mkS) = mkS (TL.joinL a ns) := by
            rw [TL.join_eq]
            apply TL.ext_tl
            rw [TL.tl_join, List.map_map]
            show TL.joinL a (ns.map (TL.tl ∘ mkS)) = TL.joinL a ns
            have : ns.map (TL.tl ∘ mkS) = ns := by
              conv => rhs; rw [← List.map_id ns]
              exact List.map_congr_left fun s _ => rfl
            rw [this]
          rw [this]
      · cases e
    · cases e
  · cases e⟩
/-- n.bit_length() -/
def eBits (m : M D) : M D := bnd m fun d => match d with
  | .int i => ret (.int (Builtin.Int.intBits i : Nat))
  | _ => stuck
theorem pd_bits {o : Expr} {m : M D} {apos pos : Pos} (ho : PD X o m) (hbase : attributeBase o "bit_length" X.env (eval o X.env) = eval o X.env := by rfl) (hline : (apos.endLine == pos.line) = true := by rfl) : PD X (.Call (.Attribute o "bit_length" apos) [] [] pos) (eBits m) :=
  pe_mono (pe_bits ho hbase hline) fun σ H Q ⟨G, B, env, d, env', ok, e, k⟩ => by
    obtain ⟨x, e1, q1, e⟩ := bnd_some e
    split at e
    · cases ret_some e
      exact tD_of ok q1 fun v B1 H1 ok1 _ r1 => ⟨_, r1, k _ B1 H1 ok1 rfl⟩
    · cases e
end
end Dv
/-! Comprehensions with two clauses. -/
namespace Dv
open PySem PySem.Spec PyProof.Rows L2 Evl
section
variable {K : PySem.W.Frag} {G : Ent} {B B1 H H1 : Hp} {σ σ' σ4 : L2.St} {env env1 env' en : Lvs} {vs : List Nat} {D0 : Addr}
theorem wipeE_out {i : Nat} : ∀ {vs : List Nat}, i ∉ vs → (wipeE env vs)[i]? = env[i]?
  | [], _ => rfl
  | w :: ws, hn => by
    unfold wipeE
    rw [List.getElem?_set_ne (fun z => hn (by rw [z]; exact List.mem_cons_self)), wipeE_out fun z => hn (List.mem_cons_of_mem _ z)]
theorem notOwn_unblk (hw : L2.wipe σ4 vs = L2.wipe σ vs) (h : ¬ IsOwn σ4 en D0) : ¬ IsOwn σ (wipeE en vs) D0 := fun ⟨j, p, d, x1, x2⟩ => by
  have hj := wipeE_no x1 (fun z => nomatch z)
  refine h ⟨j, p, d, ?_, ?_⟩
  · rw [← wipeE_out hj]; exact x1
  · rw [← wipe_out (σ := σ4) hj, hw, wipe_out hj]; exact x2
theorem wipe_wipe : ∀ (us vs : List Nat), (∀ v ∈ us, v ∈ vs) → L2.wipe (L2.wipe σ us) vs = L2.wipe σ vs
  | [], _, _ => rfl
  | w :: ws, vs, hs => by
    show L2.wipe ((L2.wipe σ ws).set w none) vs = _
    rw [wipe_set (hs w List.mem_cons_self)]
    exact wipe_wipe ws vs fun v hv => hs v (List.mem_cons_of_mem _ hv)
/-- the loop of a clause -/
theorem lcW {J : It} {ds acc : List D} {us : List V} {g : D → Lvs → Option Lvs} {t : M Bool} {f : M D} {rs : List D} {Nx : Hp → Prop} (wk : Walks K J B1 ds) (ok1 : Ok K G B1 H1 σ env1) (hno1 : ∀ v ∈ vs, ∀ x : Lv, env1[v]? = some x → x = .no) (hD : H1 D0 = some (.lst us)) (hR : Reps K B1 acc us) (hB : B1 D0 = none) (gD : G.H D0 = none) (hO : ¬ IsOwn σ env1 D0)
    (hl : lcL vs g t f ds acc env1 = some (rs, env')) (fin : ∀ B H us', Ok K G B H σ env' → Ex B1 B → H D0 = some (.lst us') → Reps K B rs us' → B D0 = none → ¬ IsOwn σ env' D0 → Nx H) :
    ∃ W : Nat → Nat → Hp → Prop, (∃ m, W 0 m H1) ∧ ∀ i m H, W i m H →
      (J.stop i H ∧ Nx H) ∨ (J.go i H ∧ ∃ Nx1 : Hp → Prop, (∀ H', Nx1 H' → ∃ m', m' < m ∧ W (i + 1) m' H') ∧ ∀ x H', J.yld i H x H' → tG K vs g x (L2.wipe σ vs) H' fun σ2 H2 => L2.wipe σ2 vs = L2.wipe σ vs ∧ tT K t σ2 H2 fun b H3 =>
        if b = true then tD K f σ2 H3 fun y H4 => ∃ acc, H4 D0 = some (.lst acc) ∧ acc.length < sizeLine ∧ Nx1 (upd H4 D0 (.lst (acc ++ [y]))) else Nx1 H3) := by
  refine ⟨fun i n H => ∃ B env acc us, Ok K G B H σ env ∧ (∀ v ∈ vs, ∀ x : Lv, env[v]? = some x → x = .no) ∧ Ex B1 B ∧ n = ds.length - i ∧ i ≤ ds.length ∧ H D0 = some (.lst us) ∧ Reps K B acc us ∧ B D0 = none ∧ ¬ IsOwn σ env D0 ∧ lcL vs g t f (ds.drop i) acc env = some (rs, env'),
    ⟨ds.length, B1, env1, acc, us, ok1, hno1, Ex.refl _, rfl, Nat.zero_le _, hD, hR, hB, hO, hl⟩, fun i n H hW => ?_⟩
  obtain ⟨B2, en, acc, us, ok2, hno, ex2, hn, hi, hH, hR, hB, hO, he⟩ := hW
  obtain ⟨go, stop⟩ := wk G B2 H σ en i ex2 ok2
  by_cases hlt : i < ds.length
  · have hd : ds[i]? = some ds[i] := List.getElem?_eq_getElem hlt
    obtain ⟨g1, g2⟩ := go _ hd
    rw [List.drop_eq_getElem_cons hlt] at he
    unfold lcL at he
    split at he
    rotate_left
    · cases he
    rename_i en1 hg
    refine .inr ⟨g1, fun H => ∃ B env acc us, Ok K G B H σ env ∧ (∀ v ∈ vs, ∀ x : Lv, env[v]? = some x → x = .no) ∧ Ex B1 B ∧ H D0 = some (.lst us) ∧ Reps K B acc us ∧ B D0 = none ∧ ¬ IsOwn σ env D0 ∧ lcL vs g t f (ds.drop (i + 1)) acc env = some (rs, env'),
      fun H' ⟨B3, en3, acc3, us3, a1, a2, a3, a4, a5, a6, a7, a8⟩ => ⟨ds.length - (i + 1), by omega, B3, en3, acc3, us3, a1, a2, a3, rfl, hlt, a4, a5, a6, a7, a8⟩, fun x H' y => ?_⟩
    obtain ⟨B3, ok3, ok3', rx⟩ := g2 x H' y
    obtain ⟨s3, b3, o3⟩ := ok3'.stay hH hB hO
    have ex3 : Ex B1 B3 := ex2.trans ok3'.mono
    have okb : Ok K G B3 H' (L2.wipe σ vs) en := by
      refine ok3.swap (wipe_length _ _) fun j x e hx => ?_
      by_cases hj : j ∈ vs
      · exact absurd (hno j hj x e) hx
      · exact wipe_out hj
    have ob : ¬ IsOwn (L2.wipe σ vs) en D0 := fun ⟨j, p, d, x1, x2⟩ => by
      by_cases hj : j ∈ vs
      · cases hno j hj _ x1
      · rw [wipe_out hj] at x2
        exact o3 ⟨j, p, d, x1, x2⟩
    refine ⟨Ent.at B3 H' (L2.wipe σ vs) en, B3, en, _, en1, okb.self, rx, hg, fun σ4 B4 H4 ok4' hw4 => ?_⟩
    have ok4 := okb.comp ok4'
    obtain ⟨s4, b4, o4⟩ := ok4'.stay s3 b3 ob
    have ex4 : Ex B1 B4 := ex3.trans ok4'.mono
    have hw4 : L2.wipe σ4 vs = L2.wipe σ vs := hw4.trans (wipe_wipe vs vs fun _ z => z)
    refine ⟨hw4, ?_⟩
    split at he
    · rename_i en2 ht
      refine tT_of ok4 ht fun B5 H5 ok5 ok5' => ?_
      obtain ⟨s5, b5, o5⟩ := ok5'.stay s4 b4 o4
      rw [if_pos rfl]
      split at he
      rotate_left
      · cases he
      rename_i y en3 hf
      split at he
      rotate_left
      · cases he
      rename_i hz
      refine tD_of ok5 hf fun v B6 H6 ok6 ok6' r6 => ?_
      obtain ⟨s6, b6, o6⟩ := ok6'.stay s5 b5 o5
      have ex6 : Ex B1 B6 := (ex4.trans ok5'.mono).trans ok6'.mono
      have ru : Reps K B6 acc us := Reps.mono (((ok3'.mono.trans ok4'.mono).trans ok5'.mono).trans ok6'.mono) _ _ hR
      have hlen : us.length = acc.length := hR.length
      have hz' := lim_ok hz
      exact ⟨us, s6, by omega, B6, wipeE en3 vs, acc ++ [y], us ++ [v], (ok6.tmpSet b6 gD o6).unblk hw4, fun v hv x hx => Classical.byContradiction fun c => wipeE_no hx c hv, ex6, upd_same, ru.append (Reps.one r6), b6, notOwn_unblk hw4 o6, he⟩
    · rename_i en2 ht
      refine tT_of ok4 ht fun B5 H5 ok5 ok5' => ?_
      obtain ⟨s5, b5, o5⟩ := ok5'.stay s4 b4 o4
      rw [if_neg Bool.false_ne_true]
      exact ⟨B5, wipeE en2 vs, acc, us, ok5.unblk hw4, fun v hv x hx => Classical.byContradiction fun c => wipeE_no hx c hv, ex4.trans ok5'.mono, s5, Reps.mono ((ok3'.mono.trans ok4'.mono).trans ok5'.mono) _ _ hR, b5, notOwn_unblk hw4 o5, he⟩
    · cases he
  · have hi' : i = ds.length := by omega
    subst hi'
    rw [List.drop_length] at he
    cases he
    exact .inl ⟨stop (Nat.le_refl _), fin B2 H us ok2 ex2 hH hR hB hO⟩
end
/-- for .. in .. for .. in .. -/
def lc2L (vs vs1 : List Nat) (g : D → Lvs → Option Lvs) (t : M Bool) (m1 : M (List D)) (g1 : D → Lvs → Option Lvs) (t1 : M Bool) (f : M D) : List D → List D → M (List D)
  | [], acc, e => some (acc, e)
  | d :: ds, acc, e => match g d e with
    | some e1 => match t e1 with
      | some (true, e2) => match m1 e2 with
        | some (ds1, e3) => match lcL vs1 g1 t1 f ds1 acc (wipeE e3 vs1) with
          | some (acc', e4) => lc2L vs vs1 g t m1 g1 t1 f ds acc' (wipeE e4 vs)
          | none => none
        | none => none
      | some (false, e2) => lc2L vs vs1 g t m1 g1 t1 f ds acc (wipeE e2 vs)
      | none => none
    | none => none
def eLc2 (vs vs1 : List Nat) (m : M (List D)) (g : D → Lvs → Option Lvs) (t : M Bool) (m1 : M (List D)) (g1 : D → Lvs → Option Lvs) (t1 : M Bool) (f : M D) : M D := bnd m fun ds => fun e => match lc2L vs vs1 g t m1 g1 t1 f ds [] (wipeE e vs) with
  | some (rs, e1) => some (.lst rs, e1)
  | none => none
theorem lc2_red {K : PySem.W.Frag} {m : M (List D)} {vs vs1 : List Nat} {g : D → Lvs → Option Lvs} {t : M Bool} {m1 : M (List D)} {g1 : D → Lvs → Option Lvs} {t1 : M Bool} {f : M D} : ∀ σ H Q, tF K (eLc2 vs vs1 m g t m1 g1 t1 f) σ H Q → tLc2 (tI K m) (tG K vs g) (tT K t) (tI K m1) (tG K vs1 g1) (tT K t1) (tD K f) vs vs1 σ H Q := fun σ H Q ⟨G, B, env, d, env', ok, e, k⟩ => by
  obtain ⟨ds, e1, q, e⟩ := bnd_some e
  split at e
  rotate_left
  · cases e
  rename_i rs e2 hl
  cases e
  refine ⟨Ent.at B H σ env, B, env, ds, e1, ok.self, q, fun J B1 H1 ok1' wk D0 hD => ?_⟩
  have ok1 := ok.comp ok1'
  have gD : G.H D0 = none := ok1.live D0 hD
  refine ⟨fun i n H => ∃ B env acc us, Ok K G B H σ env ∧ (∀ v ∈ vs, ∀ x : Lv, env[v]? = some x → x = .no) ∧ Ex B1 B ∧ n = ds.length - i ∧ i ≤ ds.length ∧ H D0 = some (.lst us) ∧ Reps K B acc us ∧ B D0 = none ∧ ¬ IsOwn σ env D0 ∧ lc2L vs vs1 g t m1 g1 t1 f (ds.drop i) acc env = some (rs, env'),
    ⟨ds.length, B1, wipeE e1 vs, [], [], (ok1.tmp hD).unblk rfl, fun v hv x hx => Classical.byContradiction fun c => wipeE_no hx c hv, Ex.refl _, rfl, Nat.zero_le _, upd_same, rfl, fresh_back ok1.sub hD, notOwn_unblk rfl (ok1.notOwn hD), hl⟩, fun i n H hW => ?_⟩
  obtain ⟨B2, en, acc, us, ok2, hno, ex2, hn, hi, hH, hR, hB, hO, he⟩ := hW
  obtain ⟨go, stop⟩ := wk G B2 H σ en i ex2 ok2
  by_cases hlt : i < ds.length
  · have hd : ds[i]? = some ds[i] := List.getElem?_eq_getElem hlt
    obtain ⟨go1, go2⟩ := go _ hd
    rw [List.drop_eq_getElem_cons hlt] at he
    unfold lc2L at he
    split at he
    rotate_left
    · cases he
    rename_i en1 hg
    refine .inr ⟨go1, fun H => ∃ B env acc us, Ok K G B H σ env ∧ (∀ v ∈ vs, ∀ x : Lv, env[v]? = some x → x = .no) ∧ Ex B1 B ∧ H D0 = some (.lst us) ∧ Reps K B acc us ∧ B D0 = none ∧ ¬ IsOwn σ env D0 ∧ lc2L vs vs1 g t m1 g1 t1 f (ds.drop (i + 1)) acc env = some (rs, env'),
      fun H' ⟨B3, en3, acc3, us3, a1, a2, a3, a4, a5, a6, a7, a8⟩ => ⟨ds.length - (i + 1), by omega, B3, en3, acc3, us3, a1, a2, a3, rfl, hlt, a4, a5, a6, a7, a8⟩, fun x H' y => ?_⟩
    obtain ⟨B3, ok3, ok3', rx⟩ := go2 x H' y
    obtain ⟨s3, b3, o3⟩ := ok3'.stay hH hB hO
    have ex3 : Ex B1 B3 := ex2.trans ok3'.mono
    have okb : Ok K G B3 H' (L2.wipe σ vs) en := by
      refine ok3.swap (wipe_length _ _) fun j x e hx => ?_
      by_cases hj : j ∈ vs
      · exact absurd (hno j hj x e) hx
      · exact wipe_out hj
    have ob : ¬ IsOwn (L2.wipe σ vs) en D0 := fun ⟨j, p, d, x1, x2⟩ => by
      by_cases hj : j ∈ vs
      · cases hno j hj _ x1
      · rw [wipe_out hj] at x2
        exact o3 ⟨j, p, d, x1, x2⟩
    refine ⟨Ent.at B3 H' (L2.wipe σ vs) en, B3, en, _, en1, okb.self, rx, hg, fun σ4 B4 H4 ok4' hw4 => ?_⟩
    have ok4 := okb.comp ok4'
    obtain ⟨s4, b4, o4⟩ := ok4'.stay s3 b3 ob
    have ex4 : Ex B1 B4 := ex3.trans ok4'.mono
    have hw4 : L2.wipe σ4 vs = L2.wipe σ vs := hw4.trans (wipe_wipe vs vs fun _ z => z)
    refine ⟨hw4, ?_⟩
    split at he
    · rename_i en2 ht
      refine tT_of ok4 ht fun B5 H5 ok5 ok5' => ?_
      obtain ⟨s5, b5, o5⟩ := ok5'.stay s4 b4 o4
      rw [if_pos rfl]
      split at he
      rotate_left
      · cases he
      rename_i ds1 en3 hm1
      split at he
      rotate_left
      · cases he
      rename_i acc' en4 hl1
      refine ⟨Ent.at B5 H5 σ4 en2, B5, en2, ds1, en3, ok5.self, hm1, fun J1 B6 H6 ok6' wk1 => ?_⟩
      have ok6 := ok5.comp ok6'
      obtain ⟨s6, b6, o6⟩ := ok6'.stay s5 b5 o5
      have ex6 : Ex B1 B6 := (ex4.trans ok5'.mono).trans ok6'.mono
      have ru : Reps K B6 acc us := Reps.mono (((ok3'.mono.trans ok4'.mono).trans ok5'.mono).trans ok6'.mono) _ _ hR
      exact lcW (vs := vs1) (σ := σ4) wk1 (ok6.unblk rfl) (fun v hv x hx => Classical.byContradiction fun c => wipeE_no hx c hv) s6 ru b6 gD (notOwn_unblk rfl o6) hl1 fun B7 H7 us7 ok7 ex7 s7 r7 b7 o7 =>
        ⟨B7, wipeE en4 vs, acc', us7, ok7.unblk hw4, fun v hv x hx => Classical.byContradiction fun c => wipeE_no hx c hv, ex6.trans ex7, s7, r7, b7, notOwn_unblk hw4 o7, he⟩
    · rename_i en2 ht
      refine tT_of ok4 ht fun B5 H5 ok5 ok5' => ?_
      obtain ⟨s5, b5, o5⟩ := ok5'.stay s4 b4 o4
      rw [if_neg Bool.false_ne_true]
      exact ⟨B5, wipeE en2 vs, acc, us, ok5.unblk hw4, fun v hv x hx => Classical.byContradiction fun c => wipeE_no hx c hv, ex4.trans ok5'.mono, s5, Reps.mono ((ok3'.mono.trans ok4'.mono).trans ok5'.mono) _ _ hR, b5, notOwn_unblk hw4 o5, he⟩
    · cases he
  · have hi' : i = ds.length := by omega
    subst hi'
    rw [List.drop_length] at he
    cases he
    exact .inl ⟨stop (Nat.le_refl _), k D0 B2 H ok2 hB (by rw [hH]; exact ⟨us, rfl, hR⟩) gD hO⟩
section
variable {X : Cx}
theorem pf_lc2 (own : List (Str × Nat)) (vs1 : List Nat) {elt tg iter tg1 iter1 : Expr} {ifs ifs1 : List Expr} {scope : Scope} {pos : Pos} {m m1 : M (List D)} {g g1 : D → Lvs → Option Lvs} {t t1 : M Bool} {f : M D} (hN : X.N.Nodup) (hi : PDI X tg iter m) (ok : BlkOk X.N X.env.scope scope own)
    (hg : Blk X scope fun Y => PDG Y (own.map fun (x : Str × Nat) => x.2) tg g) (ht : Blk X scope fun Y => PDTs Y ifs t) (hi1 : Blk X scope fun Y => PDI Y tg1 iter1 m1) (hg1 : Blk X scope fun Y => PDG Y vs1 tg1 g1) (ht1 : Blk X scope fun Y => PDTs Y ifs1 t1) (he : Blk X scope fun Y => PD Y elt f)
    (hv : ∀ i ∈ vs1, i ∈ own.map (·.2) := by decide) (hc : X.calm = true := by rfl) (hs : ∀ x, foldedSetIterable iter X.env x = pure x := by intro _; rfl) (hs1 : ∀ env x, foldedSetIterable iter1 env x = pure x := by intro _ _; rfl) :
    PF X (.ListComp elt [⟨tg, iter, ifs, 0⟩, ⟨tg1, iter1, ifs1, 0⟩] scope pos) (eLc2 (own.map fun (x : Str × Nat) => x.2) vs1 m g t m1 g1 t1 f) :=
  pe_mono (pe_lc2 (g := tG X.K (own.map fun (x : Str × Nat) => x.2) g) (tt := tT X.K t) (wi1 := tI X.K m1) (g1 := tG X.K vs1 g1) (tt1 := tT X.K t1) (te := tD X.K f) hc hN hi ok hv (fun s H C cl fp => hg s H C cl fp) (fun s H C cl fp => ht s H C cl fp) (fun s H C cl fp => hi1 s H C cl fp) (fun s H C cl fp => hg1 s H C cl fp) (fun s H C cl fp => ht1 s H C cl fp) (fun s H C cl fp => he s H C cl fp) hs hs1) lc2_red
theorem pds_setLc2 (i : Nat) (own : List (Str × Nat)) (vs1 : List Nat) {y : Str} {py : Pos} {elt tg iter tg1 iter1 : Expr} {ifs ifs1 : List Expr} {scope : Scope} {pos spos : Pos} {m m1 : M (List D)} {g g1 : D → Lvs → Option Lvs} {t t1 : M Bool} {f : M D} (hN : X.N.Nodup) (hi : PDI X tg iter m) (ok : BlkOk X.N X.env.scope scope own)
    (hg : Blk X scope fun Y => PDG Y (own.map fun (x : Str × Nat) => x.2) tg g) (ht : Blk X scope fun Y => PDTs Y ifs t) (hi1 : Blk X scope fun Y => PDI Y tg1 iter1 m1) (hg1 : Blk X scope fun Y => PDG Y vs1 tg1 g1) (ht1 : Blk X scope fun Y => PDTs Y ifs1 t1) (he : Blk X scope fun Y => PD Y elt f)
    (hsw : swapsWith (.ListComp elt [⟨tg, iter, ifs, 0⟩, ⟨tg1, iter1, ifs1, 0⟩] scope pos) (some (.Name y py)) spos.line X.env = pure true)
    (hy : X.N[i]? = some y := by rfl) (hyl : X.env.scope.names.lookup y = some .local := by rfl) (hv : ∀ i ∈ vs1, i ∈ own.map (·.2) := by decide) (hc : X.calm = true := by rfl) (hs : ∀ x, foldedSetIterable iter X.env x = pure x := by intro _; rfl) (hs1 : ∀ env x, foldedSetIterable iter1 env x = pure x := by intro _ _; rfl) :
    PDS X (.Assign [.Name y py] (.ListComp elt [⟨tg, iter, ifs, 0⟩, ⟨tg1, iter1, ifs1, 0⟩] scope pos) spos) (sOwn i (eLc2 (own.map fun (x : Str × Nat) => x.2) vs1 m g t m1 g1 t1 f)) :=
  ps_mono (ps_setLc2 (g := tG X.K (own.map fun (x : Str × Nat) => x.2) g) (tt := tT X.K t) (wi1 := tI X.K m1) (g1 := tG X.K vs1 g1) (tt1 := tT X.K t1) (te := tD X.K f) hc hN hy hyl hsw hi ok hv (fun s H C cl fp => hg s H C cl fp) (fun s H C cl fp => ht s H C cl fp) (fun s H C cl fp => hi1 s H C cl fp) (fun s H C cl fp => hg1 s H C cl fp) (fun s H C cl fp => ht1 s H C cl fp) (fun s H C cl fp => he s H C cl fp) hs hs1) fun Z σ H q => lc2_red σ H (fun x H1 => gName i x σ H1 Z.nx) (own_red Z σ H q)
/-- the new list becomes data at once -/
theorem own_set_red {K : PySem.W.Frag} {i : Nat} {m : M D} : ∀ Z σ H, tS K (sSet i m) Z σ H → tAsg (tF K m) (gName i) Z σ H := fun Z σ H ⟨G, B, env, o, env', ok, e, k⟩ => by
  unfold sSet at e
  split at e
  · rename_i d e1 q
    cases e
    exact tF_of ok q fun a B1 H1 ok1 _ h1 h2 h3 h4 => by
      obtain ⟨u, hu⟩ := h2.there
      rw [hu] at h2
      exact k _ _ H1 ((ok1.give hu h1 (ok.live a h3) h4).store (h2.rep h1))
  · cases e
theorem pds_setLc2D (i : Nat) (own : List (Str × Nat)) (vs1 : List Nat) {y : Str} {py : Pos} {elt tg iter tg1 iter1 : Expr} {ifs ifs1 : List Expr} {scope : Scope} {pos spos : Pos} {m m1 : M (List D)} {g g1 : D → Lvs → Option Lvs} {t t1 : M Bool} {f : M D} (hN : X.N.Nodup) (hi : PDI X tg iter m) (ok : BlkOk X.N X.env.scope scope own)
    (hg : Blk X scope fun Y => PDG Y (own.map fun (x : Str × Nat) => x.2) tg g) (ht : Blk X scope fun Y => PDTs Y ifs t) (hi1 : Blk X scope fun Y => PDI Y tg1 iter1 m1) (hg1 : Blk X scope fun Y => PDG Y vs1 tg1 g1) (ht1 : Blk X scope fun Y => PDTs Y ifs1 t1) (he : Blk X scope fun Y => PD Y elt f)
    (hsw : swapsWith (.ListComp elt [⟨tg, iter, ifs, 0⟩, ⟨tg1, iter1, ifs1, 0⟩] scope pos) (some (.Name y py)) spos.line X.env = pure true)
    (hy : X.N[i]? = some y := by rfl) (hyl : X.env.scope.names.lookup y = some .local := by rfl) (hv : ∀ i ∈ vs1, i ∈ own.map (·.2) := by decide) (hc : X.calm = true := by rfl) (hs : ∀ x, foldedSetIterable iter X.env x = pure x := by intro _; rfl) (hs1 : ∀ env x, foldedSetIterable iter1 env x = pure x := by intro _ _; rfl) :
    PDS X (.Assign [.Name y py] (.ListComp elt [⟨tg, iter, ifs, 0⟩, ⟨tg1, iter1, ifs1, 0⟩] scope pos) spos) (sSet i (eLc2 (own.map fun (x : Str × Nat) => x.2) vs1 m g t m1 g1 t1 f)) :=
  ps_mono (ps_setLc2 (g := tG X.K (own.map fun (x : Str × Nat) => x.2) g) (tt := tT X.K t) (wi1 := tI X.K m1) (g1 := tG X.K vs1 g1) (tt1 := tT X.K t1) (te := tD X.K f) hc hN hy hyl hsw hi ok hv (fun s H C cl fp => hg s H C cl fp) (fun s H C cl fp => ht s H C cl fp) (fun s H C cl fp => hi1 s H C cl fp) (fun s H C cl fp => hg1 s H C cl fp) (fun s H C cl fp => ht1 s H C cl fp) (fun s H C cl fp => he s H C cl fp) hs hs1) fun Z σ H q => lc2_red σ H (fun x H1 => gName i x σ H1 Z.nx) (own_set_red Z σ H q)
end
end Dv
/-! len(set(text)). -/
namespace Dv
open PySem PySem.Spec PyProof.Rows L2 Evl
/-- how many unlike ones there are among the first i -/
def cntS (xs : List Str) : Nat → Nat
  | 0 => 0
  | i + 1 => if (xs.take i).any (· == xs.getD i Str.empty) then cntS xs i else cntS xs i + 1
theorem cntS_le (xs : List Str) : ∀ i, cntS xs i ≤ i
  | 0 => Nat.le_refl _
  | i + 1 => by
    have := cntS_le xs i
    unfold cntS
    split <;> omega
theorem getD_of {xs : List Str} {i : Nat} (h : i < xs.length) : xs.getD i Str.empty = xs[i] := by
  rw [List.getD_eq_getElem?_getD, List.getElem?_eq_getElem h]; rfl
section
variable {prog : Program} {w : World} {A : Around} {R : Result → Shared → Prop} {I : Addr} {fp wr : List Addr} {G : Array GenState → Array GenState → Prop} {n : Nat} {P : Nat → Value → Prop} {St : Nat → Shared → Prop}
theorem loopStrG (W : WalksS prog w A.in1 I fp wr G n P St) (S : Addr) (hSf : S ∉ fp) (xs : List Str) (hsz : xs.length = n) (hn1 : n ≤ 1000)
    (hval : ∀ i v, P i v → ∃ t, v = .str (xs.getD i Str.empty) t) :
    ∀ (k i : Nat) (s : Shared), n - i = k → i ≤ n → St i s →
      s.heap.SetOf (PySem.strKind prog w) S (fun k' => (xs.take i).any (· == k')) (cntS xs i) →
      (∀ s', Moved (S :: wr) G s s' → s'.heap.SetOf (PySem.strKind prog w) S (fun k' => (xs.take n).any (· == k')) (cntS xs n) → R (.ok (.ret .none)) s') →
      codeAny (model prog w) A (.builtin "set.update.loop" ⟨[.ref S, .ref I], []⟩) R s := by
  have hSw : S ∉ wr := fun h => hSf (W.sub _ h)
  have hsub : ∀ b ∈ wr, b ∈ S :: wr := fun b hb => List.mem_cons_of_mem _ hb
  intro k
  induction k with
  | zero =>
    intro i s hk hi hst hS hR
    have hin : i = n := by omega
    subst hin
    refine codeAny_builtin PyProof.Rows.F.entry_set_update_loop ?_
    rw [Around.under_plainId PyProof.Rows.F.plain_set_update_loop _]
    show wpAny _ A.in1 (pyNext (.ref I) >>= _) _ _ s
    refine wpAny_bind (W.done s _ _ hst fun s' hm => ?_)
    show wpAny _ A.in1 (PySem.ret Value.none) _ _ s'
    exact wpAny_pure (hR s' (hm.mono hsub) (by
      obtain ⟨o, es, ep, t, ho, rest⟩ := hS
      exact ⟨o, es, ep, t, hm.heap S _ hSw ho, rest⟩))
  | succ k ih =>
    intro i s hk hi hst hS hR
    have hlt : i < n := by omega
    refine codeAny_builtin PyProof.Rows.F.entry_set_update_loop ?_
    rw [Around.under_plainId PyProof.Rows.F.plain_set_update_loop _]
    show wpAny _ A.in1 (pyNext (.ref I) >>= _) _ _ s
    refine wpAny_bind (W.item i s _ _ hlt hst fun v s' hP hst' hm => ?_)
    obtain ⟨t, rfl⟩ := hval i v hP
    have hS' : s'.heap.SetOf (PySem.strKind prog w) S (fun k' => (xs.take i).any (· == k')) (cntS xs i) := by
      obtain ⟨o, es, ep, tb, ho, rest⟩ := hS
      exact ⟨o, es, ep, tb, hm.heap S _ hSw ho, rest⟩
    show wpAny _ A.in1 (holding [Value.str (xs.getD i Str.empty) t] (setAdd S (.str (xs.getD i Str.empty) t)) >>= _) _ _ s'
    refine wpAny_bind (wpAny_holding ?_)
    unfold setAdd
    refine wpAny_holding ?_
    refine wpAny_bind ((PySem.strKind prog w).pyHash (k := xs.getD i Str.empty) (strKind_is _ _ _ _) ?_)
    have hle := cntS_le xs i
    refine wpAny_setAddHashed_of (knd := PySem.strKind prog w) (s := { s' with toks := s'.toks + 1 }) (strKind_is _ _ _ _) rfl hS' (by unfold scanBound; omega) fun h' hsb hS2 => ?_
    have hSi : h'.SetOf (PySem.strKind prog w) S (fun k' => (xs.take (i + 1)).any (· == k')) (cntS xs (i + 1)) := by
      refine SetOf_congr hS2 (fun k' => ?_) rfl
      have hx : i < xs.length := by omega
      rw [getD_of hx, List.take_add_one, List.getElem?_eq_getElem hx, List.any_append]
      show _ = ((xs.take i).any (· == k') || ([xs[i]].any (· == k')))
      congr 1
      by_cases e : k' = xs[i]
      · subst e; simp
      · have hb : (xs[i] == k') = false := by simpa [beq_iff_eq] using (fun h' : xs[i] = k' => e h'.symm)
        simp [hb, e]
    refine wpAny_pure ⟨plainId_quiet PyProof.Rows.F.plain_set_update_loop _, ih (i + 1) _ (by omega) hlt (W.frame _ s' _ _ hst' (Nat.le_succ _) fun b hb o e => ?_) hSi fun s'' hm'' hS'' => ?_⟩
    · rw [hsb.2 b (fun h : b = S => hSf (by rw [← h]; exact hb))]; exact e
    · refine hR s'' (Moved.trans W.gtrans ((hm.mono hsub).then_heap (Nat.le_succ _) fun b o hb e => ?_) hm'') hS''
      rw [hsb.2 b (fun h : b = S => hb (by rw [h]; exact List.mem_cons_self))]; exact e
end
section
variable {prog : Program} {w : World} {A : Around} {E : Value → Shared → Prop} {s : Shared}
theorem sub_str_set' : isSubtype (.type "str") (.type "set") = pure false := by rw [isSubtype_type]; kernel_rfl
theorem sub_str_frozenset' : isSubtype (.type "str") (.type "frozenset") = pure false := by rw [isSubtype_type]; kernel_rfl
def signs (x : Str) : List Str := x.cps.toList.map fun c => ⟨#[c]⟩
set_option maxHeartbeats 6400000 in
theorem call_set_str {x : Str} {t : Tok} {Q : Value → Shared → Prop}
    (hh : A.handled = none) (hn1 : x.cps.size ≤ 1000)
    (h : ∀ (h' : Heap) (tk : Nat), h'.SetOf (PySem.strKind prog w) s.heap.objs.size (fun k' => ((signs x).take x.cps.size).any (· == k')) (cntS (signs x) x.cps.size) →
      (∀ b o, b < s.heap.objs.size → s.heap.get? b = some o → h'.get? b = some o) → Q (.ref s.heap.objs.size) { s with heap := h', toks := tk }) :
    wpAny (model prog w) A (call (.type "set") [.str x t]) Q E s := by
  obtain ⟨c, tl, hmro⟩ := PySem.F.called_set.mro
  have hmade := PySem.F.called_set.made
  have hsub := PySem.F.called_set.sub
  refine wpAny_call (codeAny_of_tree ?_)
  show wpAny _ _ (callAny (.type "set") _) _ _ _
  refine wpAny_pure ⟨Code.quiet_builtin _ (by decide +kernel), codeAny_builtin PySem.F.entry_type_call ?_⟩
  rw [Around.under_plain (weight_type_call_type "set" [.str x t] []) rfl]
  have h1 := PySem.F.called_set.notType
  have h2 := PySem.F.called_set.canCreate
  have hct := PySem.F.typeCall_set_1 (.str x t)
  repeat (any_goals (first | assumption | wp_step))
  refine codeAny_mono (code_set_new_1 (.str x t) (E := E) (Q₁ := fun obj s₁ => ∃ led : Bool, obj = .ref s.heap.objs.size ∧ s₁ = { s with heap := s.heap.push { cls := .type "set", dict := none, data := .set #[] 0 (.fresh 0 0 led) } }) fun led => ⟨led, rfl, rfl⟩) fun r s₁ hr => ?_
  cases r with
  | error e => exact hr
  | ok fl =>
    cases fl with
    | ret obj =>
      obtain ⟨led, rfl, rfl⟩ := hr
      have hS : (s.heap.push { cls := .type "set", dict := none, data := .set #[] 0 (.fresh 0 0 led) }).get? s.heap.objs.size = some { cls := .type "set", dict := none, data := .set #[] 0 (.fresh 0 0 led) } := Heap.get?_push_size _ rfl
      have hT : Shared.TypeIs { s with heap := s.heap.push { cls := .type "set", dict := none, data := .set #[] 0 (.fresh 0 0 led) } } (.ref s.heap.objs.size) "set" := ⟨_, hS, rfl⟩
      have hli := PySem.F.called_set.init.lookup
      have hbi := PySem.F.called_set.init.bind (.ref s.heap.objs.size)
      repeat (any_goals (first | assumption | wp_step))
      refine codeAny_mono (codeAny_call_builtin (R := wants (fun r s₂ => r = .none ∧ ∃ h' tk, s₂ = { s with heap := h', toks := tk } ∧
          h'.SetOf (PySem.strKind prog w) s.heap.objs.size (fun k' => ((signs x).take x.cps.size).any (· == k')) (cntS (signs x) x.cps.size) ∧
          (∀ b o, b < s.heap.objs.size → s.heap.get? b = some o → h'.get? b = some o)) E) PySem.F.called_set.init.plain PySem.F.entry_set_init (check_set_init_1 hT ?_)) fun r₂ s₂ hr₂ => ?_
      · have hsls := sub_str_set'
        have hslf := sub_str_frozenset'
        have hne : (Value.type "str" == Value.type "dict") = false := by decide
        unfold Builtin.«set.__init__» noKeywords Builtin.Frozenset.updateFrom
        generalize hPI : pyIter = PI
        wp_walk
        subst hPI
        refine PySem.wpAny_pyIter_str fun o St hW hst0 => ?_
        refine wpAny_bind (wpAny_runValue ?_)
        have hh3 : A.in1.in1.in1.handled = none := by simp [hh]
        have hSf : s.heap.objs.size ∉ [(s.heap.push { cls := .type "set", dict := none, data := .set #[] 0 (.fresh 0 0 led) }).objs.size] := by
          rw [Heap.size_push]; simp only [List.mem_singleton]
          exact Nat.ne_of_lt (Nat.lt_succ_self _)
        have hsz : (signs x).length = x.cps.size := by simp [signs]
        have hval : ∀ (i : Nat) (v : Value), SignAt x i v → ∃ t, v = .str ((signs x).getD i Str.empty) t := fun i v ⟨c, u, hc, e⟩ => by
          refine ⟨u, ?_⟩
          rw [e, List.getD_eq_getElem?_getD]
          unfold signs
          rw [List.getElem?_map, Array.getElem?_toList, hc]; rfl
        refine loopStrG ((hW _ hh3).toS) s.heap.objs.size hSf (signs x) hsz hn1 hval (x.cps.size - 0) 0 _ (by omega) (Nat.zero_le _) hst0 ?hS0 ?hR
        case hS0 =>
          have hget : ((s.heap.push { cls := .type "set", dict := none, data := .set #[] 0 (.fresh 0 0 led) }).push o).get? s.heap.objs.size
              = some { cls := .type "set", dict := none, data := .set #[] 0 (.fresh 0 0 led) } := Heap.get?_push_of_some _ hS
          exact PyProof.Rows.SetOf_congr ((PyProof.Rows.setObjOf_fresh (knd := PySem.strKind prog w) led).setOf hget (by unfold scanBound; omega)) (fun _ => rfl) rfl
        case hR =>
          intro s' hm hS'
          obtain ⟨h', g', d', tk', os'⟩ := s'
          have eg : g' = s.gens := hm.gens
          have ed : d' = s.drawn := hm.drawn
          have eo : os' = s.os := hm.os
          subst eg; subst ed; subst eo
          show wpAny _ _ _ _ _ _
          refine wpAny_pure ?_
          show wpAny _ _ (PySem.ret Value.none) _ _ _
          refine wpAny_pure ⟨rfl, h', tk', rfl, hS', fun b o hb e => ?_⟩
          have hb1 : b ≠ s.heap.objs.size := Nat.ne_of_lt hb
          have hb2 : b ≠ (s.heap.push { cls := .type "set", dict := none, data := .set #[] 0 (.fresh 0 0 led) }).objs.size := by
            rw [Heap.size_push]; exact Nat.ne_of_lt (Nat.lt_succ_of_lt hb)
          exact hm.heap b o (by simp only [List.mem_cons, List.mem_singleton, List.not_mem_nil, or_false, not_or]; exact ⟨hb1, hb2⟩) (Heap.get?_push_of_some _ (Heap.get?_push_of_some _ e))
      · cases r₂ with
        | error e => exact hr₂
        | ok fl₂ =>
          cases fl₂ with
          | ret r =>
            obtain ⟨rfl, h', tk, rfl, hS', hk'⟩ := hr₂
            repeat (any_goals (first | assumption | wp_step))
            exact h _ _ hS' hk'
          | _ => exact hr₂.elim
    | _ => exact hr.elim
end
/-- len(set(text)) -/
def tLenSetS (ta : TE) : TE := fun σ H Q => ta σ H fun x H1 => ∃ z : Str, x = .str z ∧ z.cps.size ≤ 1000 ∧ Q (.int (cntS (signs z) z.cps.size : Nat)) H1
section
variable {X : Cx}
theorem pe_lenSetS {a : Expr} {ta : TE} {p p2 q pos : Pos} (hc : X.calm = true) (hg : Gl X "len") (hm : X.mg "len" = none) (hg2 : Gl X "set") (hm2 : X.mg "set" = none) (ha : PE X a ta)
    (na : starEach [a] X.env = (false, eval a X.env) :: starEach [] X.env := by rfl) : PE X (.Call (.Name "len" p) [.Call (.Name "set" p2) [a] [] q] [] pos) (tLenSetS ta) := by
  refine ⟨fun pins s σ H Q I h => ?_⟩
  refine Call_ (ld_blt I hg hm boot_len ?_)
  refine PyProof.Rows.callWith_builtin1 (PyProof.Rows.args_cons ?_ rfl) rfl rfl
  refine Call_ (ld_blt I hg2 hm2 boot_set ?_)
  refine PyProof.Rows.callWith_type1 (PyProof.Rows.args_cons (thn (ha.run pins s σ H _ I h) fun v s1 ⟨x, H1, I1, r1, q1⟩ => PyProof.Rows.args_nil ?_) na) na rfl
  obtain ⟨z, rfl, h1, q1⟩ := q1
  obtain ⟨t, rfl⟩ := r1
  refine call_set_str (I1.ok.hd hc) h1 fun h' tk hS hk => ?_
  refine PyProof.Rows.args_nil ?_
  obtain ⟨o, es, ep, tb, ho, hex, hd, _, _, _, hf, hn⟩ := hS
  have hle := cntS_le (signs z) z.cps.size
  have I2 : Inv X pins σ H1 { s1 with heap := h', toks := tk } := I1.kept fun b o e => hk b o (Heap.lt_size e) e
  exact call_len_set ho hex hd hf (by rw [hn]; omega) ⟨.int _, H1, I2.tok _, ⟨_, by rw [hn]⟩, q1⟩
/-- how many unlike letters a text has -/
def unlike (s : List Nat) : Nat := s.eraseDups.length
def eLenSet (m : M D) : M D := bnd m fun d => match d with
  | .str s => if s.length ≤ 1000 then ret (.int (cntS (signs (mkS s)) s.length : Nat)) else stuck
  | _ => stuck
theorem pd_lenSet {a : Expr} {m : M D} {p p2 q pos : Pos} (hm : X.mg "len" = none) (hm2 : X.mg "set" = none) (ha : PD X a m) (hc : X.calm = true := by rfl) (hg : Gl X "len" := by rfl) (hg2 : Gl X "set" := by rfl)
    (na : starEach [a] X.env = (false, eval a X.env) :: starEach [] X.env := by rfl) : PD X (.Call (.Name "len" p) [.Call (.Name "set" p2) [a] [] q] [] pos) (eLenSet m) :=
  pe_mono (pe_lenSetS hc hg hm hg2 hm2 ha na) fun σ H Q ⟨G, B, env, d, env', ok, e, k⟩ => by
    obtain ⟨x, e1, q1, e⟩ := bnd_some e
    split at e
    · rename_i s
      split at e
      · rename_i hl
        cases ret_some e
        have hsz : (mkS s).cps.size = s.length := mkS_len s
        exact tD_of ok q1 fun v B1 H1 ok1 _ r1 => ⟨mkS s, r1, by rw [hsz]; exact hl, by rw [hsz]; exact k _ B1 H1 ok1 rfl⟩
      · cases e
    · cases e
end
end Dv
/-! What code on data gives, construct by construct. -/
namespace Dv
open PySem PySem.Spec PyProof.Rows L2 Evl
section
variable {α β : Type} {e e1 e2 e3 e4 : Lvs} {d x y z w : D} {ds : List D} {i : Nat} {b : Bool} {f g : D → D → Option D} {ma mb mc : M D} {mt mu : M Bool} {ml mr : M (List D)} {mo mp : M (Option Int)} {o : Out} {sa sb : MS}
theorem ev_ret {a : α} : ret a e = some (a, e) := rfl
theorem ev_C : eC d e = some (d, e) := rfl
theorem ev_var (h : e[i]? = some (.val d)) : eVar i e = some (d, e) := by unfold eVar; rw [h]
theorem ev_varO {p : Bool} (h : e[i]? = some (.own p d)) (h2 : e.set i (.val d) = e1) : eVar i e = some (d, e1) := by unfold eVar; rw [h]; subst h2; rfl
theorem ev_peek (h : e[i]? = some (.val d)) : ePeek i e = some (d, e) := by unfold ePeek; rw [h]
theorem ev_peekO {p : Bool} (h : e[i]? = some (.own p d)) : ePeek i e = some (d, e) := by unfold ePeek; rw [h]
theorem ev_bnd {m : M α} {k : α → M β} {a : α} {q : β × Lvs} (h : m e = some (a, e1)) (h2 : k a e1 = some q) : bnd m k e = some q := by unfold bnd; rw [h]; exact h2
theorem ev_lft {o : Option α} {a : α} (h : o = some a) : lft o e = some (a, e) := by unfold lft; rw [h]
theorem ev_op (ha : ma e = some (x, e1)) (hb : mb e1 = some (y, e2)) (h : f x y = some z) : eOp f ma mb e = some (z, e2) := ev_bnd ha (ev_bnd hb (ev_lft h))
theorem ev_opL {x0 : D} (h0 : ePeek i e = some (x0, e)) (hb : mb e = some (y, e1)) (ha : ePeek i e1 = some (x, e1)) (h : f x y = some z) : eOpL f i mb e = some (z, e1) := ev_bnd h0 (ev_bnd hb (ev_bnd ha (ev_lft h)))
theorem ev_opR {j : Nat} (ha : ma e = some (x, e1)) (hb : ePeek j e1 = some (y, e1)) (h : f x y = some z) : eOpR f ma j e = some (z, e1) := ev_bnd ha (ev_bnd hb (ev_lft h))
theorem ev_opB {j : Nat} (ha : ePeek i e = some (x, e)) (hb : ePeek j e = some (y, e)) (h : f x y = some z) : eOpB f i j e = some (z, e) := ev_bnd ha (ev_bnd hb (ev_lft h))
theorem ev_test (h : ma e = some (.bl b, e1)) : eTest ma e = some (b, e1) := ev_bnd h (ev_lft rfl)
theorem ev_nil : (ret [] : M (List D)) e = some ([], e) := rfl
theorem ev_cons (h : ma e = some (d, e1)) (h2 : mr e1 = some (ds, e2)) : aCons ma mr e = some (d :: ds, e2) := ev_bnd h (ev_bnd h2 rfl)
theorem ev_lst (h : ml e = some (ds, e1)) (hl : lim ds.length = true) : eLst ml e = some (.lst ds, e1) := ev_bnd h (by rw [if_pos hl]; rfl)
theorem ev_tup (h : ml e = some (ds, e1)) (hl : lim ds.length = true) : eTup ml e = some (.tup ds, e1) := ev_bnd h (by rw [if_pos hl]; rfl)
theorem ev_ix (ha : ma e = some (x, e1)) (hb : mb e1 = some (y, e2)) (h : ixD x y = some z) : eIx ma mb e = some (z, e2) := ev_bnd ha (ev_bnd hb (ev_lft h))
theorem ev_ixV {x0 : D} (h0 : ePeek i e = some (x0, e)) (hb : mb e = some (y, e1)) (ha : ePeek i e1 = some (x, e1)) (h : ixD x y = some z) : eIxV i mb e = some (z, e1) := ev_bnd h0 (ev_bnd hb (ev_bnd ha (ev_lft h)))
theorem ev_oN : oNone e = some (none, e) := rfl
theorem ev_oS {k : Int} (h : ma e = some (.int k, e1)) : oSome ma e = some (some k, e1) := ev_bnd h rfl
theorem ev_sl {l h : Option Int} (ha : ma e = some (x, e1)) (hl : mo e1 = some (l, e2)) (hh : mp e2 = some (h, e3)) (hs : slD x l h = some z) : eSl ma mo mp e = some (z, e3) := ev_bnd ha (ev_bnd hl (ev_bnd hh (ev_lft hs)))
theorem ev_rev {l : Option Int} (ha : ma e = some (x, e1)) (hl : mo e1 = some (l, e2)) (hs : revS x l = some z) : eRev ma mo e = some (z, e2) := ev_bnd ha (ev_bnd hl (ev_lft hs))
theorem ev_callB {F : List D → Option D} (h : ml e = some (ds, e1)) (h2 : F ds = some z) : eCallB F ml e = some (z, e1) := ev_bnd h (ev_lft h2)
theorem ev_lenV (h : ePeek i e = some (x, e)) (h2 : lenD [x] = some z) : eLenV i e = some (z, e) := ev_bnd h (ev_lft h2)
theorem ev_methS {F : D → List D → Option D} {s : List Nat} (h : ma e = some (.str s, e1)) (h2 : ml e1 = some (ds, e2)) (h3 : F (.str s) ds = some z) : eMethS F ma ml e = some (z, e2) := ev_bnd h (ev_bnd h2 (ev_lft h3))
theorem ev_bits {k : Int} (h : ma e = some (.int k, e1)) : eBits ma e = some (.int (Builtin.Int.intBits k : Nat), e1) := ev_bnd h rfl
theorem ev_lenSet {s : List Nat} (h : ma e = some (.str s, e1)) (hl : s.length ≤ 1000) : eLenSet ma e = some (.int (cntS (signs (mkS s)) s.length : Nat), e1) := ev_bnd h (by show (if s.length ≤ 1000 then ret (.int (cntS (signs (mkS s)) s.length : Nat)) else stuck : M D) e1 = _; rw [if_pos hl]; rfl)
theorem ev_andT (h : ma e = some (.bl true, e1)) (h2 : mb e1 = some (z, e2)) : eAnd ma mb e = some (z, e2) := ev_bnd h h2
theorem ev_andF (h : ma e = some (.bl false, e1)) : eAnd ma mb e = some (.bl false, e1) := ev_bnd h rfl
theorem ev_orF (h : ma e = some (.bl false, e1)) (h2 : mb e1 = some (z, e2)) : eOr ma mb e = some (z, e2) := ev_bnd h h2
theorem ev_orT (h : ma e = some (.bl true, e1)) : eOr ma mb e = some (.bl true, e1) := ev_bnd h rfl
theorem ev_not (h : ma e = some (.bl b, e1)) : eNot ma e = some (.bl (!b), e1) := ev_bnd h rfl
theorem ev_and2 {c : Bool} (h : ma e = some (.bl b, e)) (h2 : mb e = some (.bl c, e)) : eAnd ma mb e = some (.bl (b && c), e) := by cases b; exact ev_andF h; exact ev_andT h h2
theorem ev_or2 {c : Bool} (h : ma e = some (.bl b, e)) (h2 : mb e = some (.bl c, e)) : eOr ma mb e = some (.bl (b || c), e) := by cases b; exact ev_orF h h2; exact ev_orT h
theorem ev_bAnd2 {c : Bool} (h : mt e = some (b, e)) (h2 : mu e = some (c, e)) : bAnd mt mu e = some (b && c, e) := ev_bnd h (by cases b; rfl; exact h2)
theorem ev_bAndT (h : mt e = some (true, e1)) (h2 : mu e1 = some (b, e2)) : bAnd mt mu e = some (b, e2) := ev_bnd h h2
theorem ev_bAndF (h : mt e = some (false, e1)) : bAnd mt mu e = some (false, e1) := ev_bnd h rfl
theorem ev_bOr2 {c : Bool} (h : mt e = some (b, e)) (h2 : mu e = some (c, e)) : bOr mt mu e = some (b || c, e) := ev_bnd h (by cases b; exact h2; rfl)
theorem ev_bOrF (h : mt e = some (false, e1)) (h2 : mu e1 = some (b, e2)) : bOr mt mu e = some (b, e2) := ev_bnd h h2
theorem ev_bOrT (h : mt e = some (true, e1)) : bOr mt mu e = some (true, e1) := ev_bnd h rfl
theorem ev_bNot (h : mt e = some (b, e1)) : bNot mt e = some (!b, e1) := ev_bnd h rfl
theorem ev_eIf (h : mt e = some (b, e1)) (h2 : (if b = true then ma e1 else mb e1) = some (z, e2)) : eIf mt ma mb e = some (z, e2) := ev_bnd h (by
  cases b
  · rw [if_neg Bool.false_ne_true] at h2 ⊢; exact h2
  · rw [if_pos rfl] at h2 ⊢; exact h2)
theorem ev_eIfT (h : mt e = some (true, e1)) (h2 : ma e1 = some (z, e2)) : eIf mt ma mb e = some (z, e2) := ev_bnd h (by rw [if_pos rfl]; exact h2)
theorem ev_eIfF (h : mt e = some (false, e1)) (h2 : mb e1 = some (z, e2)) : eIf mt ma mb e = some (z, e2) := ev_bnd h (by rw [if_neg Bool.false_ne_true]; exact h2)
theorem ev_chnT {mc : M D} (ha : ma e = some (x, e1)) (hb : mb e1 = some (y, e2)) (h : f x y = some (.bl true)) (hc : mc e2 = some (w, e3)) (h2 : g y w = some z) : eChn f g ma mb mc e = some (z, e3) := ev_bnd ha (ev_bnd hb (ev_bnd (ev_lft h) (ev_bnd hc (ev_lft h2))))
theorem ev_chnF {mc : M D} (ha : ma e = some (x, e1)) (hb : mb e1 = some (y, e2)) (h : f x y = some (.bl false)) : eChn f g ma mb mc e = some (.bl false, e2) := ev_bnd ha (ev_bnd hb (ev_bnd (ev_lft h) rfl))
theorem ev_neg {k : Int} (h : ma e = some (.int k, e1)) : eNeg ma e = some (.int (-k), e1) := ev_bnd h rfl
theorem ev_iAny (h : ma e = some (d, e1)) (h2 : itemsOf d = some ds) : iAny ma e = some (ds, e1) := ev_bnd h (ev_lft h2)
theorem ev_iRange {r : List D → Option (List D)} {is : List D} (h : ml e = some (ds, e1)) (h2 : r ds = some is) : iRange r ml e = some (is, e1) := ev_bnd h (ev_lft h2)
theorem ev_rVal {avs : List Av} {m : M (List Av)} (h : ma e = some (d, e1)) (h2 : m e1 = some (avs, e2)) : rVal ma m e = some (.val d :: avs, e2) := ev_bnd h (ev_bnd h2 rfl)
theorem ev_rNew {avs : List Av} {m : M (List Av)} (h : ma e = some (d, e1)) (h2 : m e1 = some (avs, e2)) : rNew ma m e = some (.new d :: avs, e2) := ev_bnd h (ev_bnd h2 rfl)
theorem ev_rLend {avs : List Av} {m : M (List Av)} {x : D} (h : ePeek i e = some (x, e)) (h2 : m e = some (avs, e1)) : rLend i m e = some (.lend i :: avs, e1) := ev_bnd h (ev_bnd h2 rfl)
theorem ev_rNil : (ret [] : M (List Av)) e = some ([], e) := rfl
theorem ev_call {ms : List Bool} {F : Fn} {avs : List Av} {m : M (List Av)} {r : D} {bs : List D} (h : m e = some (avs, e1)) (hk : kinds ms avs = true) (hd : dsOf e1 avs = some ds) (hF : F ds = some (r, bs)) (hp : putBack avs bs e1 = some e2) : eCall ms F m e = some (r, e2) := ev_bnd h (by rw [if_pos hk, hd]; show (match F ds with | some (r, bs) => _ | none => none) = _; rw [hF]; show (match putBack avs bs e1 with | some e' => some (r, e') | none => none) = _; rw [hp])
/-! statements -/
theorem ev_seq {q : Out × Lvs} (ha : sa e = some (.nx, e1)) (hb : sb e1 = some q) : sSeq sa sb e = some q := by unfold sSeq; rw [ha]; exact hb
theorem ev_seqR (ha : sa e = some (.rt d, e1)) : sSeq sa sb e = some (.rt d, e1) := by unfold sSeq; rw [ha]
theorem ev_set (h : ma e = some (d, e1)) (h2 : e1.set i (.val d) = e2) : sSet i ma e = some (.nx, e2) := by unfold sSet; rw [h]; subst h2; rfl
theorem ev_own (h : ma e = some (d, e1)) (h2 : e1.set i (.own false d) = e2) : sOwn i ma e = some (.nx, e2) := by unfold sOwn; rw [h]; subst h2; rfl
theorem ev_rt (h : ma e = some (d, e1)) : sRet ma e = some (.rt d, e1) := by unfold sRet; rw [h]
theorem ev_rtF (h : ma e = some (d, e1)) : sRetF ma e = some (.rn d, e1) := by unfold sRetF; rw [h]
theorem ev_do (h : ma e = some (d, e1)) : sDo ma e = some (.nx, e1) := by unfold sDo; rw [h]
theorem ev_nx : sNx e = some (.nx, e) := rfl
theorem ev_ifT {q : Out × Lvs} (h : mt e = some (true, e1)) (h2 : sa e1 = some q) : sIf mt sa sb e = some q := by unfold sIf; rw [h]; exact h2
theorem ev_ifF {q : Out × Lvs} (h : mt e = some (false, e1)) (h2 : sb e1 = some q) : sIf mt sa sb e = some q := by unfold sIf; rw [h]; exact h2
theorem ev_if {q : Out × Lvs} (h : mt e = some (b, e1)) (h2 : (bif b then sa e1 else sb e1) = some q) : sIf mt sa sb e = some q := by cases b; exact ev_ifF h h2; exact ev_ifT h h2
theorem ev_for {gg : D → Lvs → Option Lvs} {q : Out × Lvs} (h : ml e = some (ds, e1)) (h2 : forL gg sb ds e1 = some q) : sFor ml gg sb e = some q := by unfold sFor; rw [h]; exact h2
theorem ev_setIx {ix v : M D} {p : Bool} {k : Int} {j : Nat} {q : D × Lvs} (hv : v e = some (d, e1)) (hp : ePeek i e1 = some q) (hi : ix e1 = some (.int k, e2)) (hs : e2[i]? = some (.own p (.lst ds))) (hj : ixN ds.length k = some j) (h2 : e2.set i (.own p (.lst (ds.set j d))) = e3) : sSetIx i ix v e = some (.nx, e3) := by
  unfold sSetIx; rw [hv]; show (match ePeek i e1 with | some _ => _ | none => none) = _; rw [hp]; show (match ix e1 with | some (.int k, e2) => _ | _ => none) = _; rw [hi]
  show (match e2[i]? with | some (.own p (.lst ds)) => _ | _ => none) = _
  rw [hs]
  show (match ixN ds.length k with | some j => _ | none => none) = _
  rw [hj]; subst h2; rfl
theorem ev_app {p p0 : Bool} {ds0 : List D} (h0 : e[i]? = some (.own p0 (.lst ds0))) (h : ma e = some (d, e1)) (hs : e1[i]? = some (.own p (.lst ds))) (hl : lim (ds.length + 1) = true) (h2 : e1.set i (.own p (.lst (ds ++ [d]))) = e2) : sApp i ma e = some (.nx, e2) := by
  unfold sApp; rw [h0]; show (match ma e with | some (d, e1) => _ | none => none) = _; rw [h]
  show (match e1[i]? with | some (.own p (.lst ds)) => _ | _ => none) = _
  rw [hs]
  show (if lim (ds.length + 1) = true then _ else _) = _
  rw [if_pos hl]; subst h2; rfl
theorem ev_par {j : Nat} {d1 d2 : D} (h : ml e = some ([d1, d2], e1)) (h2 : (e1.set i (.val d1)).set j (.val d2) = e2) : sPar i j ml e = some (.nx, e2) := by unfold sPar; rw [h]; subst h2; rfl
theorem ev_asg {gg : D → Lvs → Option Lvs} (h : ma e = some (d, e1)) (h2 : gg d e1 = some e2) : sAsg ma gg e = some (.nx, e2) := by unfold sAsg; rw [h]; show (match gg d e1 with | some e2 => _ | none => none) = _; rw [h2]
theorem ev_lc {vs : List Nat} {gg : D → Lvs → Option Lvs} {rs : List D} (h : ml e = some (ds, e1)) (hw : wipeE e1 vs = e2) (h2 : lcL vs gg mt ma ds [] e2 = some (rs, e3)) : eLc vs ml gg mt ma e = some (.lst rs, e3) := ev_bnd h (by subst hw; show (match lcL vs gg mt ma ds [] (wipeE e1 vs) with | some (rs, e1) => _ | none => none) = _; rw [h2])
theorem ev_lc2 {vs vs1 : List Nat} {gg g1 : D → Lvs → Option Lvs} {m1 : M (List D)} {rs : List D} (h : ml e = some (ds, e1)) (hw : wipeE e1 vs = e2) (h2 : lc2L vs vs1 gg mt m1 g1 mu ma ds [] e2 = some (rs, e3)) : eLc2 vs vs1 ml gg mt m1 g1 mu ma e = some (.lst rs, e3) := ev_bnd h (by subst hw; show (match lc2L vs vs1 gg mt m1 g1 mu ma ds [] (wipeE e1 vs) with | some (rs, e1) => _ | none => none) = _; rw [h2])
/-! a def's run -/
theorem ev_run {ms : List Bool} {n : Nat} {body : MS} {bs : List D} (hl : ds.length = ms.length) (he : initE ms ds ++ List.replicate (n - ms.length) .no = e) (hb : body e = some (.rt d, e1)) (hk : backs ms e1 = some bs) : runF ms n false body ds = some (d, bs) := by
  unfold runF; rw [if_pos hl, he, hb]; show (if false = true then none else match backs ms e1 with | some bs => some (d, bs) | none => none) = _; rw [if_neg Bool.false_ne_true, hk]
theorem ev_runF {ms : List Bool} {n : Nat} {body : MS} {bs : List D} (hl : ds.length = ms.length) (he : initE ms ds ++ List.replicate (n - ms.length) .no = e) (hb : body e = some (.rn d, e1)) (hk : backs ms e1 = some bs) : runF ms n true body ds = some (d, bs) := by
  unfold runF; rw [if_pos hl, he, hb]; show (if true = true then match backs ms e1 with | some bs => some (d, bs) | none => none else none) = _; rw [if_pos rfl, hk]
theorem ev_runN {ms : List Bool} {n : Nat} {body : MS} {bs : List D} (hl : ds.length = ms.length) (he : initE ms ds ++ List.replicate (n - ms.length) .no = e) (hb : body e = some (.nx, e1)) (hk : backs ms e1 = some bs) : runF ms n false body ds = some (.non, bs) := by
  unfold runF; rw [if_pos hl, he, hb]; show (if false = true then none else match backs ms e1 with | some bs => some (D.non, bs) | none => none) = _; rw [if_neg Bool.false_ne_true, hk]
/-! operations whose sizes are asked -/
theorem ev_mul {i j : Int} (h : i.natAbs.log2 + j.natAbs.log2 < 1000000) : mulD (.int i) (.int j) = some (.int (i * j)) := if_pos h
theorem ev_mulS {a : List Nat} {k : Int} (h : (small63 k && lim (a.length * k.toNat)) = true) : mulD (.str a) (.int k) = some (.str (List.replicate k.toNat a).flatten) := if_pos h
theorem ev_mulL {a : List D} {k : Int} (h : (small63 k && lim (a.length * k.toNat)) = true) : mulD (.lst a) (.int k) = some (.lst (List.replicate k.toNat a).flatten) := if_pos h
theorem ev_fdiv {i j : Int} (h : 0 < j) (h2 : j.natAbs.log2 < 9000) : fdivD (.int i) (.int j) = some (.int (i / j)) := if_pos (by rw [decide_eq_true h, decide_eq_true h2]; rfl)
theorem ev_mod {i j : Int} (h : 0 < j) : modD (.int i) (.int j) = some (.int (i % j)) := if_pos h
theorem ev_pow {i j : Int} (h : 0 ≤ j) (h2 : (i.natAbs.log2 + 1) * j.toNat ≤ 100000000) : powD (.int i) (.int j) = some (.int (i ^ j.toNat)) := if_pos (by rw [decide_eq_true h, decide_eq_true h2]; rfl)
theorem ev_addS {a b : List Nat} (h : lim (a.length + b.length) = true) : addD (.str a) (.str b) = some (.str (a ++ b)) := if_pos h
theorem ev_addL {a b : List D} (h : lim (a.length + b.length) = true) : addD (.lst a) (.lst b) = some (.lst (a ++ b)) := if_pos h
theorem ev_addT {a b : List D} (h : lim (a.length + b.length) = true) : addD (.tup a) (.tup b) = some (.tup (a ++ b)) := if_pos h
theorem ev_addLL {a b : List D} (h : lim (a.length + b.length) = true) : addL (.lst a) (.lst b) = some (.lst (a ++ b)) := if_pos h
theorem ev_mulLL {a : List D} {k : Int} (h : (small63 k && lim (a.length * k.toNat)) = true) : mulL (.lst a) (.int k) = some (.lst (List.replicate k.toNat a).flatten) := if_pos h
theorem ev_lenS {s : List Nat} (h : lim s.length = true) : lenD [.str s] = some (.int (s.length : Nat)) := if_pos h
theorem ev_slS {s : List Nat} {l h : Option Int} (hl : lim s.length = true) : slD (.str s) l h = some (.str (cut s l h)) := if_pos hl
theorem ev_revS {s : List Nat} (hl : lim s.length = true) : revS (.str s) (some (-1)) = some (.str s.reverse) := if_pos hl
theorem ev_eqG {x y : D} (h : shp x = true) (h' : shp y = true) : eqG x y = some (.bl (eqB x y)) := if_pos (by rw [h, h']; rfl)
theorem ev_neG {x y : D} (h : shp x = true) (h' : shp y = true) : neG x y = some (.bl (!eqB x y)) := if_pos (by rw [h, h']; rfl)
theorem ev_strip {a b : List Nat} (h : lim a.length = true) : stripD (.str a) [.str b] = some (.str (stripL a b)) := if_pos h
theorem lim_of {n : Nat} (h : n ≤ 16777216) : lim n = true := decide_eq_true h
theorem kit_is : kitB "int" "int" = some true := by decide +kernel
theorem kit_ib : kitB "int" "bool" = some false := by decide +kernel
theorem kit_ss : kitB "str" "str" = some true := by decide +kernel
theorem kit_bb : kitB "bool" "bool" = some true := by decide +kernel
theorem kit_bi : kitB "bool" "int" = some true := by decide +kernel
theorem ev_isi {d : D} {n : String} {b : Bool} (h : isTy d = false) (h2 : kitB (tyN d) n = some b) : isiD [d, .ty n] = some (.bl b) := by
  show (if isTy d = true then none else match kitB (tyN d) n with | some b => some (D.bl b) | none => none) = _
  rw [h, h2]; rfl
theorem set_z {a b : Lv} {l : Lvs} : (a :: l).set 0 b = b :: l := rfl
theorem set_s {a b : Lv} {l l' : Lvs} {n : Nat} (h : l.set n b = l') : (a :: l).set (n + 1) b = a :: l' := by subst h; rfl
end
/-! ### loops -/
theorem forL_inv {g : D → Lvs → Option Lvs} {b : MS} (I : Nat → Lvs → Prop) (ds : List D) (e : Lvs) (h0 : I 0 e) (step : ∀ (i : Nat) (d : D) (e : Lvs), ds[i]? = some d → I i e → ∃ e1 e2, g d e = some e1 ∧ (b e1 = some (.nx, e2) ∨ b e1 = some (.ct, e2)) ∧ I (i + 1) e2) : ∃ e', forL g b ds e = some (.nx, e') ∧ I ds.length e' := by
  suffices ∀ (k i : Nat) (e : Lvs), ds.length - i = k → i ≤ ds.length → I i e → ∃ e', forL g b (ds.drop i) e = some (.nx, e') ∧ I ds.length e' by
    have := this ds.length 0 e rfl (Nat.zero_le _) h0
    rwa [List.drop_zero] at this
  intro k
  induction k with
  | zero =>
    intro i e hk hi h
    have : i = ds.length := by omega
    subst this
    rw [List.drop_length]
    exact ⟨e, rfl, h⟩
  | succ k ih =>
    intro i e hk hi h
    have hlt : i < ds.length := by omega
    obtain ⟨e1, e2, q1, q2, q3⟩ := step i ds[i] e (List.getElem?_eq_getElem hlt) h
    obtain ⟨e', r1, r2⟩ := ih (i + 1) e2 (by omega) hlt q3
    refine ⟨e', ?_, r2⟩
    rw [List.drop_eq_getElem_cons hlt]
    unfold forL
    rw [q1]
    show (match b e1 with | some (.nx, e2) => _ | some (.ct, e2) => _ | some (.bk, e2) => _ | r => r) = _
    rcases q2 with q2 | q2
    · rw [q2]; exact r1
    · rw [q2]; exact r1
/-- the code keeps a state -/
theorem forL_fold {S : Type} {g : D → Lvs → Option Lvs} {b : MS} (enc : S → Lvs) (step : S → D → S) : ∀ (ds : List D) (s : S), (∀ d ∈ ds, ∀ s, ∃ e1, g d (enc s) = some e1 ∧ b e1 = some (.nx, enc (step s d))) → forL g b ds (enc s) = some (.nx, enc (ds.foldl step s))
  | [], s, _ => rfl
  | d :: ds, s, h => by
    obtain ⟨e1, q1, q2⟩ := h d List.mem_cons_self s
    unfold forL
    rw [q1]
    show (match b e1 with | some (.nx, e2) => _ | some (.ct, e2) => _ | some (.bk, e2) => _ | r => r) = _
    rw [q2]
    exact forL_fold enc step ds _ fun d' hd => h d' (List.mem_cons_of_mem _ hd)
/-- a comprehension that keeps all: its code keeps an invariant of the frame -/
theorem lcL_map {vs : List Nat} {g : D → Lvs → Option Lvs} {f : M D} (val : D → D) (E : Lvs) : ∀ (ds acc : List D), ds.length + acc.length ≤ 16777216 → (∀ d ∈ ds, ∃ e1 e2, g d E = some e1 ∧ f e1 = some (val d, e2) ∧ wipeE e2 vs = E) → lcL vs g bYes f ds acc E = some (acc ++ ds.map val, E)
  | [], acc, _, _ => by simp [lcL]
  | d :: ds, acc, hl, h => by
    obtain ⟨e1, e2, q1, q2, q3⟩ := h d List.mem_cons_self
    unfold lcL
    rw [q1]
    show (match f e1 with | some (y, e3) => if lim (acc.length + 1) = true then _ else none | none => none) = _
    rw [q2]
    show (if lim (acc.length + 1) = true then lcL vs g bYes f ds (acc ++ [val d]) (wipeE e2 vs) else none) = _
    rw [if_pos (lim_of (by rw [List.length_cons] at hl; omega)), q3, lcL_map val E ds _ (by rw [List.length_append, List.length_cons, List.length_nil]; rw [List.length_cons] at hl; omega) fun d' hd => h d' (List.mem_cons_of_mem _ hd)]
    simp
theorem lcL_filter {vs : List Nat} {g : D → Lvs → Option Lvs} {t : M Bool} {f : M D} (keep : D → Bool) (val : D → D) (E : Lvs) : ∀ (ds acc : List D), ds.length + acc.length ≤ 16777216 → (∀ d ∈ ds, ∃ e1 e2 e3, g d E = some e1 ∧ t e1 = some (keep d, e2) ∧ (keep d = true → f e2 = some (val d, e3) ∧ wipeE e3 vs = E) ∧ (keep d = false → wipeE e2 vs = E)) → lcL vs g t f ds acc E = some (acc ++ (ds.filter keep).map val, E)
  | [], acc, _, _ => by simp [lcL]
  | d :: ds, acc, hl, h => by
    obtain ⟨e1, e2, e3, q1, q2, q3, q4⟩ := h d List.mem_cons_self
    have hl' : ds.length + acc.length ≤ 16777216 := by rw [List.length_cons] at hl; omega
    have hl2 : ds.length + (acc ++ [val d]).length ≤ 16777216 := by rw [List.length_append, List.length_cons, List.length_nil]; rw [List.length_cons] at hl; omega
    unfold lcL
    rw [q1]
    show (match t e1 with | some (true, e2) => _ | some (false, e2) => _ | none => none) = _
    rw [q2]
    cases hk : keep d with
    | true =>
      obtain ⟨r1, r2⟩ := q3 hk
      show (match f e2 with | some (y, e3) => if lim (acc.length + 1) = true then _ else none | none => none) = _
      rw [r1]
      show (if lim (acc.length + 1) = true then lcL vs g t f ds (acc ++ [val d]) (wipeE e3 vs) else none) = _
      rw [if_pos (lim_of (by rw [List.length_cons] at hl; omega)), r2, lcL_filter keep val E ds _ hl2 fun d' hd => h d' (List.mem_cons_of_mem _ hd)]
      rw [List.filter_cons_of_pos hk]; simp
    | false =>
      show lcL vs g t f ds acc (wipeE e2 vs) = _
      rw [q4 hk, lcL_filter keep val E ds _ hl' fun d' hd => h d' (List.mem_cons_of_mem _ hd)]
      rw [List.filter_cons_of_neg (by rw [hk]; simp)]
end Dv
/-! Calls of defs with keywords alone. -/
namespace Dv
open PySem PySem.Spec PyProof.Rows L2 Evl
section
variable {X : Cx} {CX : CXT} {k n : Nat} {f : Addr} {fd : FuncData} {ps ks : List Str} {sp : Sp} {E : XK} {x : Str} {p pos : Pos} {kws : List Keyword} {tk t t' : TA} {g : List Value → List Value → List Value} {gV : List V → List V → List V}
theorem pe_callN0 (F : FnOk X.prog X.w X.K X.mg X.base CX k f fd ps sp) (hr : Room k X.A) (hg : Gl X x) (hm : X.mg x = some (.ref f)) (hk : PySem.W.keepIn X.K (.ref f) = true) (hb : KBn X.K fd ps 0 ks g gV) (hx : Passes CX X E)
    (hkw : PK X kws tk) (hall : (backToKw pos (keywordEach kws X.env)).all (·.1.isSome) = true) (hks : (backToKw pos (keywordEach kws X.env)).filterMap (·.1) = ks)
    (hpl : ((backTo pos (starEach [] X.env)).any (·.1) || (backToKw pos (keywordEach kws X.env)).any (·.1.isNone)) = false)
    (hdb : (x == ("__debug__" : Str)) = false) : PE X (.Call (.Name x p) [] kws pos) (tCallN 0 ks.length sp gV E tNil tk) := by
  refine ⟨fun pins s σ H Q I h => ?_⟩
  refine wpAny_Call_Name_kw (ld_glob I hg hm ?_ hdb)
  refine PySem.W.callWith_KW0 (h₀ := X.base) I.ok.mod.kin hk hall ?_ hpl
  refine thn (hkw.run pos pins s σ H _ I h) fun ws s2 ⟨zs, H2, I2, rz, l1, l2, q2⟩ => ⟨I2.kIn, ?_⟩
  rw [hks]
  exact run_fnN F hr hb hx I2 .nil rz l1 l2 q2
theorem vals_getD : ∀ {zs : List V} {ws : List Value} (i : Nat), Vals zs ws → RelV (zs.getD i .non) (ws.getD i .none)
  | [], [], i, _ => by rw [List.getD_nil, List.getD_nil]; rfl
  | z :: zs, w :: ws, 0, h => by cases h with | cons a _ => exact a
  | z :: zs, w :: ws, i + 1, h => by cases h with | cons _ b => exact vals_getD i b
theorem vals_perm {zs : List V} {ws : List Value} (h : Vals zs ws) : ∀ perm : List Nat, Vals (perm.map fun i => zs.getD i .non) (perm.map fun i => ws.getD i .none)
  | [] => .nil
  | i :: r => .cons (vals_getD i h) (vals_perm h r)
theorem kbn_of {K : PySem.W.Frag} {y qual : Str} {st : Stmt} (F : Fun K y qual st f fd) (perm : List Nat)
    (h : ∀ (kV doc pm : Value) (an : Option Addr) (cdv ct : Value) (ws : List Value), ws.length = ks.length → bindArgs (PySem.W.fnOf y qual (defArgs st) (defBody st) (defScope st) .none kV doc pm an cdv ct) ⟨[], ks.zip ws⟩ = pure (ps.zip (perm.map fun i => ws.getD i .none))) :
    KBn K fd ps 0 ks (fun _ ws => perm.map fun i => ws.getD i .none) (fun _ zs => perm.map fun i => zs.getD i .non) := by
  obtain ⟨oc, od, kV, doc, pm, an, cdv, ct, osl, rfl, lk, hcd⟩ := F.ex
  refine ⟨fun s us ws _ l1 l2 => ?_, fun _ r => vals_perm r perm⟩
  have : us = [] := List.eq_nil_of_length_eq_zero l1
  subst this
  exact .of_eq (h kV doc pm an cdv ct ws l2)
theorem pk_mono (h : PK X kws t) (i : ∀ σ H Q, t' σ H Q → t σ H Q) : PK X kws t' := ⟨fun pos pins s σ H Q I q => h.run pos pins s σ H Q I (i σ H Q q)⟩
/-- the keywords' values, as they are written -/
def PDK (X : Cx) (kws : List Keyword) (m : M (List D)) : Prop := PK X kws (tA X.K m)
theorem pdk_nil : PDK X [] (ret []) := pk_mono pk_nil fun σ H Q ⟨G, B, env, d, env', ok, e, k⟩ => by
  cases ret_some e
  exact k [] B H ok rfl
theorem pdk_cons {e : Expr} {m : M D} {r : M (List D)} {nm : Option Str} {kpos : Pos} (h : PD X e m) (q : PDK X kws r) : PDK X (⟨nm, e, kpos⟩ :: kws) (aCons m r) :=
  pk_mono (pk_cons h q) fun σ H Q ⟨G, B, env, d, env', ok, e, k⟩ => by
    obtain ⟨x, e1, q1, q2⟩ := bnd_some e
    obtain ⟨xs, e2, q3, q4⟩ := bnd_some q2
    cases ret_some q4
    exact tD_of ok q1 fun v B1 H1 ok1 _ r1 => tA_of ok1 q3 fun vs B2 H2 ok2 ok2' r2 => k (v :: vs) B2 H2 ok2 ⟨v, vs, rfl, Rep.mono ok2'.mono _ _ r1, r2⟩
/-- what is written, in the parameters' order -/
def rPerm (n : Nat) (perm : List Nat) (m : M (List D)) : M (List Av) := bnd m fun ds => if ds.length = n then ret (perm.map fun i => .val (ds.getD i .non)) else stuck
theorem reps_getD {K : PySem.W.Frag} {B : Hp} : ∀ {ds : List D} {vs : List V} (i : Nat), Reps K B ds vs → Rep K B (ds.getD i .non) (vs.getD i .non)
  | [], _, i, h => by cases h; rw [List.getD_nil, List.getD_nil]; rfl
  | d :: ds, _, 0, h => by obtain ⟨v, r, rfl, h2, _⟩ := h; exact h2
  | d :: ds, _, i + 1, h => by obtain ⟨v, r, rfl, _, h3⟩ := h; exact reps_getD i h3
theorem argV_perm {K : PySem.W.Frag} {B H : Hp} {σ : L2.St} {env : Lvs} {ds : List D} {vs : List V} (h : Reps K B ds vs) : ∀ perm : List Nat, ArgV K B H σ env (perm.map fun i => .val (ds.getD i .non)) (perm.map fun i => vs.getD i .non)
  | [] => rfl
  | i :: r => ⟨_, _, rfl, reps_getD i h, argV_perm h r⟩
theorem newV_perm {G : Ent} {ds : List D} {vs : List V} : ∀ perm : List Nat, NewV G (perm.map fun i => .val (ds.getD i .non)) (perm.map fun i => vs.getD i .non)
  | [] => trivial
  | _ :: r => newV_perm r
theorem callK_red {K : PySem.W.Frag} {rf : Bool} {σ : L2.St} {H : Hp} {env' : Lvs} {G : Ent} {B : Hp} {env : Lvs} {d : D} {Q : VK} {E : XK} {ms : List Bool} {F : Fn} {m : M (List D)} {perm : List Nat} (h1 : one ms = true) (ok : Ok K G B H σ env) (e : eCall ms F (rPerm n perm m) env = some (d, env'))
    (k : ∀ H1 B1 e1, Ok K G B1 H1 σ e1 → Ok K (Ent.at B H σ env) B1 H1 σ e1 → ∀ v B' H', Ok K G B' H' σ env' → (∀ a, H1 a = none → ¬ IsOwn σ env' a) → RetV K rf H1 B' H' d v → Q v H') : tCallN 0 n (spF K ms rf F) (fun _ zs => perm.map fun i => zs.getD i .non) E tNil (tA K m) σ H Q := by
  obtain ⟨avs, e1, q1, q2⟩ := bnd_some e
  obtain ⟨ws, e0, q3, q4⟩ := bnd_some q1
  split at q4
  rotate_left
  · cases q4
  rename_i hn
  cases ret_some q4
  split at q2
  rotate_left
  · cases q2
  rename_i hk
  split at q2
  rotate_left
  · cases q2
  rename_i ds hd
  split at q2
  rotate_left
  · cases q2
  rename_i r bs hF
  split at q2
  rotate_left
  · cases q2
  rename_i e2 hp
  cases q2
  refine ⟨Ent.at B H σ env, B, env, ws, e1, ok.self, q3, fun vs B1 H1 ok1' ha => ⟨rfl, by rw [ha.length, hn], ?_⟩⟩
  have ok1 := ok.comp ok1'
  exact call_sp h1 ok1 hk (argV_perm ha perm) (newV_perm perm) hd hF hp (k H1 B1 e1 ok1 ok1')
variable {ms : List Bool} {F : Fn} {m : M (List D)} {perm : List Nat}
theorem pd_callK (Fo : FnOk X.prog X.w X.K X.mg X.base CX0 k f fd ps (spF X.K ms false F)) (hr : Room k X.A) (hm : X.mg x = some (.ref f)) (hk : PySem.W.keepIn X.K (.ref f) = true) (hb : KBn X.K fd ps 0 ks (fun _ ws => perm.map fun i => ws.getD i .none) (fun _ zs => perm.map fun i => zs.getD i .non)) (ha : PDK X kws m) (h1 : one ms = true := by rfl)
    (hall : (backToKw pos (keywordEach kws X.env)).all (·.1.isSome) = true := by rfl) (hks : (backToKw pos (keywordEach kws X.env)).filterMap (·.1) = ks := by rfl) (hpl : ((backTo pos (starEach [] X.env)).any (·.1) || (backToKw pos (keywordEach kws X.env)).any (·.1.isNone)) = false := by rfl)
    (hg : Gl X x := by rfl) (hdb : (x == ("__debug__" : Str)) = false := by decide) : PD X (.Call (.Name x p) [] kws pos) (eCall ms F (rPerm ks.length perm m)) :=
  pe_mono (pe_callN0 Fo hr hg hm hk hb pass0 ha hall hks hpl hdb) fun σ H Q ⟨G, B, env, d, env', ok, e, k⟩ => callK_red h1 ok e fun H1 B1 e1 ok1 ok1' v B' H' ok' _ rv => k v B' H' ok' rv
theorem pf_callK (Fo : FnOk X.prog X.w X.K X.mg X.base CX0 k f fd ps (spF X.K ms true F)) (hr : Room k X.A) (hm : X.mg x = some (.ref f)) (hk : PySem.W.keepIn X.K (.ref f) = true) (hb : KBn X.K fd ps 0 ks (fun _ ws => perm.map fun i => ws.getD i .none) (fun _ zs => perm.map fun i => zs.getD i .non)) (ha : PDK X kws m) (h1 : one ms = true := by rfl)
    (hall : (backToKw pos (keywordEach kws X.env)).all (·.1.isSome) = true := by rfl) (hks : (backToKw pos (keywordEach kws X.env)).filterMap (·.1) = ks := by rfl) (hpl : ((backTo pos (starEach [] X.env)).any (·.1) || (backToKw pos (keywordEach kws X.env)).any (·.1.isNone)) = false := by rfl)
    (hg : Gl X x := by rfl) (hdb : (x == ("__debug__" : Str)) = false := by decide) : PF X (.Call (.Name x p) [] kws pos) (eCall ms F (rPerm ks.length perm m)) :=
  pe_mono (pe_callN0 Fo hr hg hm hk hb pass0 ha hall hks hpl hdb) fun σ H Q ⟨G, B, env, d, env', ok, e, k⟩ => callK_red h1 ok e fun H1 B1 e1 ok1 ok1' v B' H' ok' nO rv => by
    obtain ⟨a, rfl, r1, r2, r3⟩ := rv
    exact k a B' H' ok' r1 r2 (ok1.live a r3) (nO a r3)
end
end Dv
/-! More operations: pairs in order, a sign's place in a text. -/
namespace Dv
open PySem PySem.Spec PyProof.Rows L2 Evl
section
variable {X : Cx}
theorem rc_lt_str {A : Around} {s : Shared} (a b : Str) (t u : Tok) : Ob.RcOp .Lt A s (.str a t) (.str b u) (decide (a.cps.toList < b.cps.toList)) := fun _ _ _ _ h => lt_str h
def pairLt (i j : Int) (a b : List Nat) : Bool := if i = j then decide (a < b) else decide (i < j)
theorem nat_lt_self (a : List Nat) : ¬ a < a := List.lt_irrefl a
def rLtP (K : PySem.W.Frag) : R2 := fun x y H Q => ∃ (a b : Addr) (i j : Int) (s t : Str), x = .ref a ∧ y = .ref b ∧ SqT K H a [.int i, .str s] ∧ SqT K H b [.int j, .str t] ∧ Q (.bl (pairLt i j s.cps.toList t.cps.toList)) H
theorem op_ltP (hu : X.A.units < cLine) : OpR X (compareOp .Lt) (rLtP X.K) := by
  intro pins s σ H x y v u Q I rx ry h
  obtain ⟨a, b, i, j, p, q, rfl, rfl, ha, hb, hQ⟩ := h
  cases rx
  cases ry
  obtain ⟨its, r1, p1, _⟩ := I.tuple ha
  obtain ⟨its2, r2, p2, _⟩ := I.tuple hb
  obtain ⟨u1, u2, rfl, ⟨t1, rfl⟩, ⟨t2, rfl⟩⟩ : ∃ u1 u2, its = [u1, u2] ∧ RelV (.int i) u1 ∧ RelV (.str p) u2 := by
    cases r1 with
    | cons h1 r1 => cases r1 with
      | cons h2 r1 => cases r1; exact ⟨_, _, rfl, h1, h2⟩
  obtain ⟨w1, w2, rfl, ⟨t3, rfl⟩, ⟨t4, rfl⟩⟩ : ∃ u1 u2, its2 = [u1, u2] ∧ RelV (.int j) u1 ∧ RelV (.str q) u2 := by
    cases r2 with
    | cons h1 r1 => cases r1 with
      | cons h2 r1 => cases r1; exact ⟨_, _, rfl, h1, h2⟩
  have R := Ob.RcOp.tuples_lt (A := X.A) (s := s) (e := fun k => if k = 0 then i == j else p == q) (r := fun k => if k = 0 then decide (i < j) else decide (p.cps.toList < q.cps.toList)) p1 p2 hu (fun k h1 h2 => by
    match k, h1, h2 with
    | 0, _, _ => exact SeqAt.EqAt.int_int _ _ _ _
    | 1, _, _ => exact SeqAt.EqAt.str_str _ _ _ _) (fun k h1 h2 _ => by
    match k, h1, h2 with
    | 0, _, _ => exact Ob.RcOp.lt_int _ _ _ _
    | 1, _, _ => exact rc_lt_str _ _ _ _)
  have e : Ob.lexAt (fun k => if k = 0 then i == j else p == q) (fun k => if k = 0 then decide (i < j) else decide (p.cps.toList < q.cps.toList)) (decide ((2 : Nat) < 2)) 0 2 = pairLt i j p.cps.toList q.cps.toList := by
    rw [Ob.lexAt_succ, Ob.lexAt_succ, Ob.lexAt_zero]
    unfold pairLt
    by_cases hij : i = j
    · rw [if_pos (by rw [if_pos rfl, hij]; exact beq_self_eq_true j), if_pos hij]
      by_cases hpq : p = q
      · rw [if_pos (by rw [if_neg (by decide), hpq]; exact beq_self_eq_true q), hpq, decide_eq_false (nat_lt_self _)]; rfl
      · rw [if_neg (by rw [if_neg (by decide)]; exact fun z => hpq (eq_of_beq z)), if_neg (by decide)]
    · rw [if_neg (by rw [if_pos rfl]; exact fun z => hij (eq_of_beq z)), if_neg hij, if_pos rfl]
  have R' : Ob.RcOp .Lt X.A s (.ref a) (.ref b) (pairLt i j p.cps.toList q.cps.toList) := by rw [← e]; exact R
  exact R' X.prog X.w X.xe (EP X pins σ Q) ⟨.bl _, H, I, rfl, hQ⟩
def ltP : D → D → Option D
  | .tup [.int i, .str a], .tup [.int j, .str b] => some (.bl (pairLt i j a b))
  | _, _ => none
theorem opS_ltP (hu : X.A.units < cLine) : OpS X (compareOp .Lt) ltP := ⟨_, op_ltP hu, fun B H x y d e z Q ex rx ry ez k => by
  unfold ltP at ez
  split at ez
  · cases ez
    obtain ⟨a, vs, rfl, hs, hr⟩ := rx
    obtain ⟨b, us, rfl, hs2, hr2⟩ := ry
    obtain ⟨v1, _, rfl, r1, ⟨v2, _, rfl, r2, rfl⟩⟩ := hr
    obtain ⟨v3, _, rfl, r3, ⟨v4, _, rfl, r4, rfl⟩⟩ := hr2
    rw [show v1 = _ from r1, show v2 = _ from r2] at hs
    rw [show v3 = _ from r3, show v4 = _ from r4] at hs2
    exact ⟨a, b, _, _, _, _, rfl, rfl, ex_t ex hs, ex_t ex hs2, k _ fun _ => rfl⟩
  · cases ez⟩
theorem op_ltPq {k : Nat} (hr : Room k X.A) : OpS X (compareOp .Lt) ltP := opS_ltP (Nat.lt_of_succ_lt (hu_of hr))
/-! ### a.index(b) -/
def indexD : D → List D → Option D
  | .str a, [.str b] => match Builtin.Str.occurrences (mkS a) (mkS b) 0 (mkS a).length 1 with
    | i :: _ => some (.int (i : Nat))
    | [] => none
  | _, _ => none
theorem meth_index : MethD X "str" "str.index" indexD := ⟨_, mt_sindex, fun G B H σ env x d vs ds z Q ok rx rs e k => by
  unfold indexD at e
  split at e
  · rename_i a b
    split at e
    · rename_i i r hi
      cases e
      obtain ⟨u, rfl, r⟩ := reps1 rs
      exact ⟨mkS a, mkS b, i, _, rx, by rw [show u = _ from r], hi, k _ B H ok rfl⟩
    · cases e
  · cases e⟩
end
end Dv
/-! list(..), tuple(..). -/
namespace Dv
open PySem PySem.Spec PyProof.Rows L2 Evl
section
variable {X : Cx}
theorem rgV_reps {K : PySem.W.Frag} {B : Hp} (lo : Int) : ∀ l : List Nat, Reps K B (l.map fun (j : Nat) => D.int (lo + (j : Int))) (l.map fun (j : Nat) => V.int (lo + (j : Nat)))
  | [] => rfl
  | j :: l => ⟨_, _, rfl, rfl, rgV_reps lo l⟩
/-- list(range(n)) -/
theorem pf_listRg1 {e : Expr} {m : M D} {p p2 pos pos2 : Pos} (h : PD X e m) (hm : X.mg "list" = none) (hm2 : X.mg "range" = none) (hg : Gl X "list" := by rfl) (hg2 : Gl X "range" := by rfl) (hc : X.calm = true := by rfl)
    (na : starEach [.Call (.Name "range" p2) [e] [] pos2] X.env = (false, eval (.Call (.Name "range" p2) [e] [] pos2) X.env) :: starEach [] X.env := by rfl) (na2 : starEach [e] X.env = (false, eval e X.env) :: starEach [] X.env := by rfl) :
    PF X (.Call (.Name "list" p) [.Call (.Name "range" p2) [e] [] pos2] [] pos) (eLst (iRange range1 (aCons m (ret [])))) :=
  pe_mono (pe_listRg hc hg hm (prg_1 hg2 hm2 h na2) na) fun σ H Q ⟨G, B, env, d, env', ok, e, k⟩ => by
    obtain ⟨ds, e1, q1, q2⟩ := bnd_some e
    obtain ⟨as, e2, q3, q4⟩ := bnd_some q1
    obtain ⟨x, e3, q5, q6⟩ := bnd_some q3
    obtain ⟨xs, e4, q7, q8⟩ := bnd_some q6
    cases ret_some q7
    cases ret_some q8
    obtain ⟨rs, q9, q10⟩ := lft_some q4
    cases q10
    split at q2
    rotate_left
    · cases q2
    rename_i hl
    cases ret_some q2
    unfold range1 at q9
    split at q9
    rotate_left
    · cases q9
    rename_i j hx
    cases hx
    split at q9
    rotate_left
    · cases q9
    rename_i hj
    cases q9
    refine tD_of ok q5 fun v B1 H1 ok1 _ r1 => ⟨j, r1, ?_, fun q hq => ?_⟩
    · unfold small62 at hj
      rw [Bool.and_eq_true] at hj
      have h1 := of_decide_eq_true hj.1
      have h2 := of_decide_eq_true hj.2
      have h3 := lim_ok hl
      unfold rangeD at h3
      rw [List.length_map, List.length_range] at h3
      have h4 : sizeLine = 2 ^ 24 := by decide
      refine ⟨by decide, by decide, h1, h2, ?_⟩
      rw [Int.sub_zero]
      omega
    · refine k q B1 _ (ok1.tmp hq) (fresh_back ok1.sub hq) ⟨rgV 0 j, upd_same, ?_⟩ (ok1.live q hq) (ok1.notOwn hq)
      unfold rangeD rgV
      rw [Int.sub_zero]
      exact rgV_reps 0 _
/-- {} -/
theorem pd_dic {pos : Pos} : PD X (.Dict [] [] pos) (eC .dic) := pe_mono pe_dnewK fun σ H Q ⟨G, B, env, d, env', ok, e, k⟩ => by
  cases e
  exact fun p hp => k (.ref p) _ _ (ok.lay hp) ⟨p, rfl, upd_same⟩
/-! ### three names at once -/
def tPar3 (i j l : Nat) (ta : TA) : TS := fun D σ H => ta σ H fun vs H1 => ∃ u v w, vs = [u, v, w] ∧ D.nx (((σ.set l (some w)).set j (some v)).set i (some u)) H1
theorem ps_par3 {i j l : Nat} {x y z : Str} {a b c : Expr} {ta : TA} {px py pz pt pos : Pos} {kt k2 pt2} (hc : X.calm = true) (hN : X.N.Nodup) (hi : X.N[i]? = some x) (hj : X.N[j]? = some y) (hl : X.N[l]? = some z)
    (hx : X.env.scope.names.lookup x = some .local) (hy : X.env.scope.names.lookup y = some .local) (hz : X.env.scope.names.lookup z = some .local) (ha : PA X [a, b, c] ta)
    (hw : swappedStores [.Tuple [.Name x px, .Name y py, .Name z pz] kt pt] (.Tuple [a, b, c] k2 pt2) X.env = pure (some [x, y, z]))
    (hs : swapsWithSole [.Tuple [.Name x px, .Name y py, .Name z pz] kt pt] (.Tuple [a, b, c] k2 pt2) pos.line X.env = pure false) :
    PS X (.Assign [.Tuple [.Name x px, .Name y py, .Name z pz] kt pt] (.Tuple [a, b, c] k2 pt2) pos) (tPar3 i j l ta) := by
  refine ⟨fun pins s σ H D I h => ?_⟩
  rw [exec_Assign_arm]
  refine wpAny_bind (wpAny_standAt ?_)
  rw [hs]
  refine wpAny_bind (wpAny_pure ?_)
  rw [if_neg (by decide)]
  refine wpAny_bind (Tuple_ (thn (ha.run _ pins s σ H _ I h) fun us s1 ⟨vs, H1, I1, r1, q1⟩ => ?_))
  obtain ⟨u, v, w, e1, q1⟩ := q1
  subst e1
  obtain ⟨u1, u2, u3, rfl, ru, rv, rw'⟩ : ∃ u1 u2 u3, us = [u1, u2, u3] ∧ RelV u u1 ∧ RelV v u2 ∧ RelV w u3 := by
    cases r1 with
    | cons p q =>
      cases q with
      | cons p' q' =>
        cases q' with
        | cons p'' q'' =>
          cases q''
          exact ⟨_, _, _, rfl, p, p', p''⟩
  refine wpAny_newObj_type ?_ (by show 3 ≤ sizeLine; decide)
  have I2 : Inv X pins σ H1 { s1 with heap := s1.heap.push { cls := .type "tuple", data := .seq [u1, u2, u3].toArray } } := I1.kept (t' := s1.toks) fun b o e => Heap.get?_push_of_some _ e
  rw [hw]
  refine wpAny_bind (wpAny_pure ?_)
  show wpAny (model X.prog X.w) X.A (do rule "assign.swapped-stores"; let items ← unpackItems (.ref s1.heap.objs.size) 3 none; assignInOrder [fun v => bindName X.env z v, fun v => bindName X.env y v, fun v => bindName X.env x v] items.reverse; pure Flow.next) _ _ _
  refine wpAny_bind (wpAny_rule (wpAny_bind (unpackItems_tuple (items := #[u1, u2, u3]) (I.ok.hd hc) (IsTup.new s1.heap _) fun h' hx' => ?_)))
  have I3 := I2.kept (h' := h') (t' := s1.toks) fun b o e => hx' b o (Nat.ne_of_lt (Heap.lt_size e)) e
  show wpAny _ _ (assignInOrder [fun v => bindName X.env z v, fun v => bindName X.env y v, fun v => bindName X.env x v] [u3, u2, u1] >>= fun _ => pure Flow.next) _ _ _
  refine wpAny_bind (assignInOrder_cons (wpAny_bindName (store_ok I3 hN hl (.inl hz) rw' (fun s2 I4 => ?_) (.inr hz))))
  refine assignInOrder_cons (wpAny_bindName (store_ok I4 hN hj (.inl hy) rv (fun s3 I5 => ?_) (.inr hy)))
  refine assignInOrder_cons (wpAny_bindName (store_ok I5 hN hi (.inl hx) ru (fun s4 I6 => assignInOrder_nil (wpAny_pure ?_)) (.inr hx)))
  exact ⟨_, H1, I6, q1⟩
/-- a, b, c = e1, e2, e3 with plain local names -/
def sPar3 (i j l : Nat) (m : M (List D)) : MS := fun e => match m e with
  | some ([d1, d2, d3], e1) => some (.nx, ((e1.set l (.val d3)).set j (.val d2)).set i (.val d1))
  | _ => none
theorem pds_par3 (i j l : Nat) {x y z : Str} {a b c : Expr} {m : M (List D)} {px py pz pt pos : Pos} {kt k2 pt2} (ha : PDA X [a, b, c] m) (hN : X.N.Nodup) (hi : X.N[i]? = some x := by rfl) (hj : X.N[j]? = some y := by rfl) (hl : X.N[l]? = some z := by rfl)
    (hx : X.env.scope.names.lookup x = some .local := by rfl) (hy : X.env.scope.names.lookup y = some .local := by rfl) (hz : X.env.scope.names.lookup z = some .local := by rfl) (hc : X.calm = true := by rfl)
    (hw : swappedStores [.Tuple [.Name x px, .Name y py, .Name z pz] kt pt] (.Tuple [a, b, c] k2 pt2) X.env = pure (some [x, y, z]) := by rfl)
    (hs : swapsWithSole [.Tuple [.Name x px, .Name y py, .Name z pz] kt pt] (.Tuple [a, b, c] k2 pt2) pos.line X.env = pure false := by rfl) :
    PDS X (.Assign [.Tuple [.Name x px, .Name y py, .Name z pz] kt pt] (.Tuple [a, b, c] k2 pt2) pos) (sPar3 i j l m) :=
  ps_mono (ps_par3 hc hN hi hj hl hx hy hz ha hw hs) fun Z σ H ⟨G, B, env, o, env', ok, e, k⟩ => by
    unfold sPar3 at e
    split at e
    · rename_i d1 d2 d3 e1 q1
      cases e
      refine tA_of ok q1 fun vs B1 H1 ok1 _ r0 => ?_
      obtain ⟨u, _, rfl, r1, ⟨v, _, rfl, r2, ⟨w, _, rfl, r3, rfl⟩⟩⟩ := r0
      exact ⟨u, v, w, rfl, k _ B1 H1 (((ok1.store r3).store r2).store r1)⟩
    · cases e
theorem ev_par3 {i j l : Nat} {m : M (List D)} {e e1 e2 : Lvs} {d1 d2 d3 : D} (h : m e = some ([d1, d2, d3], e1)) (h2 : ((e1.set l (.val d3)).set j (.val d2)).set i (.val d1) = e2) : sPar3 i j l m e = some (.nx, e2) := by unfold sPar3; rw [h]; subst h2; rfl
end
end Dv
/-! enumerate and zip over lists, tuples and texts. -/
namespace Dv
open PySem PySem.Spec PyProof.Rows L2 Evl

/-- what may be drawn from -/
inductive Kd where
  | l (a : Addr) | t (a : Addr) | s (x : Str) (k : Tok)
def Kd.val : Kd → Value
  | .l a => .ref a
  | .t a => .ref a
  | .s x k => .str x k
def Kd.obj : Kd → Obj
  | .l a => { cls := .type "list_iterator", data := .fields #[.ref a, .int 0 0] }
  | .t a => { cls := .type "tuple_iterator", data := .fields #[.ref a, .int 0 0] }
  | .s x k => { cls := .type (strIterType x), data := .fields #[.str x k, .int 0 0] }
def Kd.ad : Kd → List Addr
  | .l a => [a]
  | .t a => [a]
  | .s _ _ => []
def Kd.it : Kd → Addr → Nat → Heap → Prop
  | .l a, I, i => fun h => h.IsListIter I a i
  | .t a, I, i => fun h => h.IsTupleIter I a i
  | .s x k, I, i => fun h => h.IsStrIter I (strIterType x) x k i
def signsV (x : Str) : List V := x.cps.toList.map fun c => .str ⟨#[c]⟩
def Kd.has (K : PySem.W.Frag) (H : Hp) : Kd → List V → Prop
  | .l a, xs => SqL K H a xs
  | .t a, xs => SqT K H a xs
  | .s x _, xs => xs = signsV x
theorem Kd.it_new {kd : Kd} {h : Heap} {I : Addr} (e : h.get? I = some kd.obj) : kd.it I 0 h := by
  cases kd with
  | l a => exact ⟨_, e, rfl, rfl⟩
  | t a => exact ⟨_, e, rfl, rfl⟩
  | s x k => exact ⟨_, e, rfl, rfl⟩
theorem Kd.it_at {kd : Kd} {h h' : Heap} {I : Addr} {i : Nat} (x : kd.it I i h) (e : ∀ o, h.get? I = some o → h'.get? I = some o) : kd.it I i h' := by
  cases kd with
  | l a => obtain ⟨o, ho, r⟩ := x; exact ⟨o, e o ho, r⟩
  | t a => obtain ⟨o, ho, r⟩ := x; exact ⟨o, e o ho, r⟩
  | s y k => obtain ⟨o, ho, r⟩ := x; exact ⟨o, e o ho, r⟩
theorem Kd.it_obj {kd : Kd} {h : Heap} {I : Addr} {i : Nat} (x : kd.it I i h) : ∃ o, h.get? I = some o ∧ ∀ v, o.data ≠ .cell v := by
  cases kd with
  | l a => obtain ⟨o, ho, c, d⟩ := x; exact ⟨o, ho, fun v z => by rw [d] at z; cases z⟩
  | t a => obtain ⟨o, ho, c, d⟩ := x; exact ⟨o, ho, fun v z => by rw [d] at z; cases z⟩
  | s y k => obtain ⟨o, ho, c, d⟩ := x; exact ⟨o, ho, fun v z => by rw [d] at z; cases z⟩
theorem Kd.it_lt {kd : Kd} {h : Heap} {I : Addr} {i : Nat} (x : kd.it I i h) : I < h.objs.size := by
  obtain ⟨o, ho, _⟩ := Kd.it_obj x
  exact Heap.lt_size ho
section
variable {X : Cx} {pins : List (Addr × Obj)} {σ : L2.St} {H : Hp} {s : Shared}
theorem Kd.inj (I : Inv X pins σ H s) {kd : Kd} {xs ys : List V} (h : kd.has X.K H xs) (h2 : kd.has X.K H ys) : xs = ys := by
  cases kd with
  | l a => exact I.list_inj h h2
  | t a => exact I.tuple_inj h h2
  | s x k => exact (show xs = signsV x from h).trans (show ys = signsV x from h2).symm
theorem vals_back {xs : List V} {its : List Value} (rv : Vals xs its) {i : Nat} {u : Value} (h : its[i]? = some u) : ∃ y, xs[i]? = some y ∧ RelV y u := by
  have hl := rv.length
  have hi : i < its.length := (List.getElem?_eq_some_iff.mp h).1
  have hx : xs[i]? = some (xs[i]'(by omega)) := List.getElem?_eq_getElem (by omega)
  obtain ⟨u', e, r⟩ := rv.get hx
  rw [h] at e
  cases e
  exact ⟨_, hx, r⟩
/-- how it is drawn from, as things stand -/
theorem Kd.draws (I : Inv X pins σ H s) {A : Around} (hh : A.handled = none) {kd : Kd} {xs : List V} (h : kd.has X.K H xs) (it : Addr) (hne : it ∉ kd.ad) :
    ∃ P St, Draws X.prog X.w A it (it :: kd.ad) xs.length P St ∧ (∀ i, kd.it it i s.heap → St i s.heap) ∧ (∀ i h, St i h → kd.it it i h) ∧ (∀ i u, P i u → ∃ y, xs[i]? = some y ∧ RelV y u) := by
  cases kd with
  | l a =>
    obtain ⟨its, rv, p, _⟩ := I.list h
    have hl := rv.length
    have hs : its.toArray.size = xs.length := by rw [List.size_toArray]; omega
    have D := Draws.list (prog := X.prog) (w := X.w) hh it a (fun e => hne (by rw [e]; exact List.mem_singleton.mpr rfl)) its.toArray
    rw [hs] at D
    exact ⟨_, _, D, fun i st => ⟨st, p.isList⟩, fun i h st => st.1, fun i u e => vals_back rv (by simpa using e)⟩
  | t a =>
    obtain ⟨its, rv, p, _⟩ := I.tuple h
    have hl := rv.length
    have hs : its.toArray.size = xs.length := by rw [List.size_toArray]; omega
    have D := Draws.tuple (prog := X.prog) (w := X.w) hh it a (fun e => hne (by rw [e]; exact List.mem_singleton.mpr rfl)) its.toArray
    rw [hs] at D
    exact ⟨_, _, D, fun i st => ⟨st, p⟩, fun i h st => st.1, fun i u e => vals_back rv (by simpa using e)⟩
  | s x k =>
    have h : xs = signsV x := h
    subst h
    have D := Draws.text (prog := X.prog) (w := X.w) hh it x k
    have hs : x.cps.size = (signsV x).length := by unfold signsV; rw [List.length_map]; rfl
    rw [hs] at D
    refine ⟨_, _, D, fun i st => st, fun i h st => st, fun i u e => ?_⟩
    obtain ⟨c, t, e1, rfl⟩ := e
    refine ⟨.str ⟨#[c]⟩, ?_, t, rfl⟩
    unfold signsV
    rw [List.getElem?_map, Array.getElem?_toList, e1]
    rfl
theorem Kd.begins (I : Inv X pins σ H s) {kd : Kd} {xs : List V} (h : kd.has X.K H xs) : ∃ Hh, Begins kd.val kd.obj Hh ∧ Hh s.heap ∧ ∀ a ∈ kd.ad, a < s.heap.objs.size := by
  cases kd with
  | l a =>
    obtain ⟨its, rv, p, _⟩ := I.list h
    exact ⟨_, begins_list a its.toArray, p.isList, fun b hb => by rw [List.mem_singleton.mp hb]; exact p.lt⟩
  | t a =>
    obtain ⟨its, rv, p, _⟩ := I.tuple h
    have hp : s.heap.IsTuple a its.toArray := p
    exact ⟨_, begins_tuple a its.toArray, p, fun b hb => by
      rw [List.mem_singleton.mp hb]
      obtain ⟨o, ho, _⟩ := hp
      exact Heap.lt_size ho⟩
  | s x k => exact ⟨_, begins_text x k, trivial, fun b hb => nomatch hb⟩
end
/-! ### enumerate -/
def IteD (K : PySem.W.Frag) (kd : Kd) (n : Nat) : It :=
  ⟨fun i H => i < n ∧ ∃ xs : List V, kd.has K H xs ∧ xs.length = n,
   fun i H v H' => ∃ T x, v = .ref T ∧ H T = none ∧ H' = upd H T (.tup [.int (i : Nat), x]) ∧ ∀ xs, kd.has K H xs → xs[i]? = some x,
   fun i H => n ≤ i ∧ ∃ xs : List V, kd.has K H xs ∧ xs.length = n⟩
theorem turn_enumD {P : Program} {w : World} {K : PySem.W.Frag} {elts : List Expr} {kk : Nat} {tpos : Pos} (kd : Kd) (n : Nat) (e it : Addr) (hei : e ≠ it) (hia : it ∉ kd.ad) (hea : e ∉ kd.ad) :
    Turn P w K (.Tuple elts kk tpos) (IteD K kd n) [e, it] e (fun i h => i ≤ n ∧ (∃ old, IsEnum h e it ((i : Nat) : Int) old) ∧ kd.it it i h) where
  mem := List.mem_cons_self
  obj := fun i h st b hb => by
    obtain ⟨_, ⟨old, he⟩, hi⟩ := st
    rcases List.mem_cons.mp hb with z | z
    · rw [z]; exact ⟨_, he, fun v q => nomatch q⟩
    · rw [List.mem_singleton.mp z]; exact Kd.it_obj hi
  keep := fun i h h' st k => by
    obtain ⟨h0, ⟨old, he⟩, hi⟩ := st
    exact ⟨h0, ⟨old, k e List.mem_cons_self _ he⟩, Kd.it_at hi fun o q => k it (List.mem_cons_of_mem _ (List.mem_singleton.mpr rfl)) o q⟩
  item := by
    intro X hP hw hK hc i pins s σ H E I hf st hg
    subst hP hw hK
    obtain ⟨hin, ⟨old, he⟩, hit⟩ := st
    obtain ⟨hlt, xs, hq, hxl⟩ := hg
    obtain ⟨Pd, St, Dd, d1, d2, d3⟩ := Kd.draws (A := X.A.in1) I (I.ok.hd hc) hq it hia
    rw [hxl] at Dd
    have hel : e < s.heap.objs.size := Heap.lt_size he
    have hil : it < s.heap.objs.size := Kd.it_lt hit
    have hef : e ∉ it :: kd.ad := fun z => (List.mem_cons.mp z).elim hei hea
    refine wpAny_pyNext_enum_itemD Dd he (d1 i hit) hlt hei hef fun u h' tk hP ho st' hT hsz hk => ?_
    obtain ⟨y, hy, ry⟩ := d3 i u hP
    refine ⟨_, rfl, wpAny_letOwnedTupleGo_enum (s := { s with heap := h', toks := tk + 1 }) ho fun h'' he' sb => ?_⟩
    have hT2 : h''.get? s.heap.objs.size = some { cls := .type "tuple", data := .seq #[.int i tk, u] } := (sb.2 _ (Nat.ne_of_gt hel)).trans hT
    have new : ObjOk X.prog X.w (upd H s.heap.objs.size (.tup [.int (i : Nat), y])) h'' s.heap.objs.size (.tup [.int (i : Nat), y]) :=
      ⟨by show 2 ≤ sizeLine; decide, [.int i tk, u], .cons ⟨_, rfl⟩ (.cons ry .nil), ⟨_, hT2, rfl, _, rfl⟩⟩
    have I1 : Inv X pins σ (upd H s.heap.objs.size (.tup [.int (i : Nat), y])) { s with heap := h'', toks := tk + 1 } :=
      I.turnedNew (ch := [e, it]) (fun b ob hb q => (sb.2 b fun z => hb (by rw [z]; exact List.mem_cons_self)).trans (hk b ob (fun z => hb (by rw [z]; exact List.mem_cons_self)) (fun z => hb (by rw [z]; exact List.mem_cons_of_mem _ (List.mem_singleton.mpr rfl))) q)) hf (Nat.le_refl _) new
    refine ⟨.ref s.heap.objs.size, _, I1, rfl, ⟨_, y, rfl, I.hok.fresh (Nat.le_refl _), rfl, fun ys hys => by rw [Kd.inj I hys hq]; exact hy⟩, ⟨hlt, ⟨u, ?_⟩, Kd.it_at (d2 _ _ st') fun o q => (sb.2 it (Ne.symm hei)).trans q⟩, fun b hb => ?_⟩
    · have e1 : ((i + 1 : Nat) : Int) = (i : Int) + 1 := by omega
      rw [e1]; exact he'
    · have hb' : b < s.heap.objs.size := by
        rcases List.mem_cons.mp hb with z | z
        · rw [z]; exact hel
        · rw [List.mem_singleton.mp z]; exact hil
      rw [upd_ne (Nat.ne_of_lt hb')]
      exact (hf b hb).1
  done := by
    intro X hP hw hK hc i pins s σ H E I hf st hg
    subst hP hw hK
    obtain ⟨hin, ⟨old, he⟩, hit⟩ := st
    obtain ⟨hge, xs, hq, hxl⟩ := hg
    have hin' : i = n := Nat.le_antisymm hin hge
    obtain ⟨Pd, St, Dd, d1, d2, d3⟩ := Kd.draws (A := X.A.in1) I (I.ok.hd hc) hq it hia
    obtain ⟨f0, f1, f2, f3, f4, f5⟩ := hf it (List.mem_cons_of_mem _ (List.mem_singleton.mpr rfl))
    have st := d1 i hit
    rw [hin', ← hxl] at st
    exact wpAny_pyNext_enum_endD Dd he st fun h' eb => ⟨rfl, I.turned (t' := s.toks) (fun b o hb q => eb b o hb q) f0 f1 f3 f4 f5⟩
  self := fun A i s Q E st h => by
    obtain ⟨_, ⟨_, he⟩, _⟩ := st
    exact wpAny_pyIter_enum he h
/-- a value that may be drawn from -/
def Src (K : PySem.W.Frag) (H : Hp) (v : V) (xs : List V) (R : Kd → Prop) : Prop :=
  (∃ a, v = .ref a ∧ SqL K H a xs ∧ R (.l a)) ∨ (∃ a, v = .ref a ∧ SqT K H a xs ∧ R (.t a)) ∨ ∃ x, v = .str x ∧ xs = signsV x ∧ ∀ k, R (.s x k)
theorem Src.kd {K : PySem.W.Frag} {H : Hp} {v : V} {xs : List V} {R : Kd → Prop} (h : Src K H v xs R) {u : Value} (r : RelV v u) : ∃ kd : Kd, u = kd.val ∧ kd.has K H xs ∧ R kd := by
  rcases h with ⟨a, rfl, h, q⟩ | ⟨a, rfl, h, q⟩ | ⟨x, rfl, h, q⟩
  · obtain rfl : u = Value.ref a := r
    exact ⟨.l a, rfl, h, q⟩
  · obtain rfl : u = Value.ref a := r
    exact ⟨.t a, rfl, h, q⟩
  · obtain ⟨t, rfl⟩ := r
    exact ⟨.s x t, rfl, h, q t⟩
set_option maxHeartbeats 1000000 in
theorem meets_enumB {v : Value} {o : Obj} {Hh : Heap → Prop} (B : Begins v o Hh) :
    Meets (Builtin.«enumerate.__new__» ⟨[.type "enumerate", v], []⟩) (fun _ R s => Hh s.heap ∧
      R (.ok (.ret (.ref (s.heap.push o).objs.size))) { s with heap := (s.heap.push o).push { cls := .type "enumerate", data := .fields #[.none, .bool false, .ref s.heap.objs.size, rawInt 0, .none, .none] } }) :=
  .of_wp fun prog w A R s h => by
    obtain ⟨hp, g, d, tk, os⟩ := s
    obtain ⟨h1, h⟩ := h
    have hsub := sub_enumerate
    have begin1 : ∀ {A' : Around} {E : Value → Shared → Prop} {Q : Value → Shared → Prop}, Q (.ref hp.objs.size) ⟨hp.push o, g, d, tk, os⟩ → wpAny (model prog w) A' (pyIter v) Q E ⟨hp, g, d, tk, os⟩ :=
      fun q => B.iter prog w _ _ ⟨hp, g, d, tk, os⟩ _ h1 q
    wp_walk using begin1
    refine wpAny_stack_any fun st => wpAny_pure ?_
    split
    · rename_i c _ _ _ _ _
      cases (c == Value.type "enumerate")
      · wp_walk using begin1
        exact ⟨_, rfl, h⟩
      · wp_walk using begin1
        exact ⟨_, rfl, h⟩
    · wp_walk using begin1
      exact ⟨_, rfl, h⟩
theorem call_enumB {prog : Program} {w : World} {A : Around} {E : Value → Shared → Prop} {s : Shared} {v : Value} {o : Obj} {Hh : Heap → Prop} {Q : Value → Shared → Prop} (B : Begins v o Hh) (h1 : Hh s.heap)
    (h : ∀ h', IsEnum h' (s.heap.objs.size + 1) s.heap.objs.size 0 .none → h'.get? s.heap.objs.size = some o → (∀ b o, s.heap.get? b = some o → h'.get? b = some o) → Q (.ref (s.heap.objs.size + 1)) { s with heap := h' }) :
    wpAny (model prog w) A (call (.type "enumerate") [v]) Q E s := by
  refine callType_new F.called_enumerate (by decide) (F.typeCall_enumerate_1 _) (F.newCall_enumerate_1 _) (fun obj => F.args_object_init_2 obj _) F.entry_enumerate_new (meets_enumB B) ⟨h1, ?_⟩
  have hz : (s.heap.push o).objs.size = s.heap.objs.size + 1 := Heap.size_push ..
  show _ ∧ _
  rw [hz]
  have he : IsEnum ((s.heap.push o).push { cls := .type "enumerate", data := .fields #[.none, .bool false, .ref s.heap.objs.size, rawInt 0, .none, .none] }) (s.heap.objs.size + 1) s.heap.objs.size 0 .none := by
    have := Heap.get?_push_size (s.heap.push o) (o := { cls := .type "enumerate", data := .fields #[.none, .bool false, .ref s.heap.objs.size, rawInt 0, .none, .none] }) rfl
    rw [hz] at this; exact this
  exact ⟨⟨_, he, rfl⟩, h _ he (Heap.get?_push_of_some _ (Heap.get?_push_size _ B.free)) fun b o x => Heap.get?_push_of_some _ (Heap.get?_push_of_some _ x)⟩
def iEnumD (K : PySem.W.Frag) (te : TE) : TI := fun σ H R => te σ H fun v H1 => ∃ xs, Src K H1 v xs fun kd => R (IteD K kd xs.length) H1
theorem pi_enumD {X : Cx} {e : Expr} {te : TE} {p pos tpos : Pos} {elts : List Expr} {kk : Nat} (hg : Gl X "enumerate") (hm : X.mg "enumerate" = none) (he : PE X e te) (hs : starEach [e] X.env = (false, eval e X.env) :: starEach [] X.env := by rfl) :
    PI X (.Tuple elts kk tpos) (.Call (.Name "enumerate" p) [e] [] pos) (iEnumD X.K te) := by
  refine ⟨fun pins s σ H R I h => ?_⟩
  refine Call_ (ld_blt I hg hm boot_enumerate (PyProof.Rows.callWith_type1 (args_cons (thn (he.run pins s σ H _ I h) fun u s1 ⟨v, H1, I1, r1, q1⟩ => args_nil ?_) hs) hs rfl))
  obtain ⟨xs, q⟩ := q1
  obtain ⟨kd, rfl, hq, q⟩ := q.kd r1
  obtain ⟨Hh, B, hB, hlt⟩ := Kd.begins I1 hq
  refine call_enumB B hB fun h' hen hit hk => wpAny_pyIter_enum hen ?_
  have I2 : Inv X pins σ H1 { s1 with heap := h' } := I1.kept (t' := s1.toks) hk
  refine ⟨s1.heap.objs.size + 1, [s1.heap.objs.size + 1, s1.heap.objs.size], _, _, H1, rfl, I2, turn_enumD kd xs.length (s1.heap.objs.size + 1) s1.heap.objs.size (Nat.succ_ne_self _) (fun z => Nat.lt_irrefl _ (hlt _ z)) (fun z => absurd (hlt _ z) (Nat.not_lt.mpr (Nat.le_succ _))), ⟨Nat.zero_le _, ⟨.none, hen⟩, Kd.it_new hit⟩, fun b hb => ?_, q⟩
  have hle : s1.heap.objs.size ≤ b := by
    rcases List.mem_cons.mp hb with z | z
    · rw [z]; exact Nat.le_add_right _ _
    · rw [List.mem_singleton.mp z]; exact Nat.le_refl _
  exact I1.fpOk hle (I1.hok.fresh hle)
/-- (0, first), (1, second), .. -/
def enumD (ds : List D) : List D := ds.mapIdx fun i d => .tup [.int (i : Nat), d]
theorem ok_layT {K : PySem.W.Frag} {G : Ent} {B H : Hp} {σ : L2.St} {env : Lvs} {T : Addr} {x y : V} {d e : D} (ok : Ok K G B H σ env) (hT : H T = none) (rx : Rep K B d x) (ry : Rep K B e y) :
    ∃ B', Ok K G B' (upd H T (.tup [x, y])) σ env ∧ Ok K (Ent.at B H σ env) B' (upd H T (.tup [x, y])) σ env ∧ Rep K B' (.tup [d, e]) (.ref T) := by
  have hB : B T = none := fresh_back ok.sub hT
  refine ⟨upd B T (.tup [x, y]), ok.lay hT, ok.self.lay hT, T, [x, y], rfl, SqT.of upd_same, x, [y], rfl, Rep.mono (Ex.new hB) _ _ rx, y, [], rfl, Rep.mono (Ex.new hB) _ _ ry, rfl⟩
/-- the source stands for ds -/
def Stands (K : PySem.W.Frag) (B : Hp) (kd : Kd) (ds : List D) : Prop := ∃ xs, kd.has K B xs ∧ Reps K B ds xs
theorem Kd.has_mono {K : PySem.W.Frag} {B H : Hp} {kd : Kd} {xs : List V} (ex : Ex B H) (h : kd.has K B xs) : kd.has K H xs := by
  cases kd with
  | l a => exact ex_l ex h
  | t a => exact ex_t ex h
  | s x k => exact h
theorem walks_enum {K : PySem.W.Frag} {kd : Kd} {B0 : Hp} {ds : List D} {xs : List V} (hs : kd.has K B0 xs) (hr : Reps K B0 ds xs) : Walks K (IteD K kd xs.length) B0 (enumD ds) := fun G B H σ env i ex ok => by
  have hH : kd.has K H xs := Kd.has_mono (ex.trans ok.sub) hs
  have hl := hr.length
  refine ⟨fun d e => ?_, fun h => ⟨by unfold enumD at h; rw [List.length_mapIdx] at h; omega, xs, hH, rfl⟩⟩
  unfold enumD at e
  rw [List.getElem?_mapIdx] at e
  cases q : ds[i]? with
  | none => rw [q] at e; cases e
  | some d0 =>
    rw [q] at e
    cases e
    obtain ⟨v, q1, q2⟩ := hr.get q
    have hi : i < xs.length := (List.getElem?_eq_some_iff.mp q1).1
    refine ⟨⟨hi, xs, hH, rfl⟩, fun x H' y => ?_⟩
    obtain ⟨T, y0, rfl, hT, rfl, hy⟩ := y
    have := hy xs hH
    rw [q1] at this
    cases this
    exact ok_layT ok hT (show Rep K B (.int (i : Nat)) (.int (i : Nat)) from rfl) (Rep.mono ex _ _ q2)
/-- what stands for data with items may be drawn from -/
theorem src_of {K : PySem.W.Frag} {B H : Hp} {d : D} {v : V} {ds : List D} (hd : itemsOf d = some ds) (r : Rep K B d v) (sub : Ex B H) : ∃ us : List V, us.length = ds.length ∧ Reps K B ds us ∧ ∀ R : Kd → Prop, (∀ kd : Kd, kd.has K B us → R kd) → Src K H v us R := by
  cases d with
  | lst es =>
    cases hd
    obtain ⟨a, vs, rfl, hs, hr⟩ := r
    have hs : SqL K B a vs := SqL.of hs
    exact ⟨vs, hr.length, hr, fun R k => .inl ⟨a, rfl, ex_l sub hs, k (.l a) hs⟩⟩
  | fls es =>
    cases hd
    obtain ⟨a, vs, rfl, hs, hr⟩ := r
    exact ⟨vs, hr.length, hr, fun R k => .inl ⟨a, rfl, ex_l sub hs, k (.l a) hs⟩⟩
  | tup es =>
    cases hd
    obtain ⟨a, vs, rfl, hs, hr⟩ := r
    exact ⟨vs, hr.length, hr, fun R k => .inr (.inl ⟨a, rfl, ex_t sub hs, k (.t a) hs⟩)⟩
  | str s =>
    cases hd
    have r : v = .str (mkS s) := r
    have hr : ∀ s : List Nat, Reps K B (s.map fun c => D.str [c]) (s.map fun c => V.str ⟨#[c]⟩) := by
      intro s
      induction s with
      | nil => exact rfl
      | cons c s ih => exact ⟨_, _, rfl, rfl, ih⟩
    exact ⟨signsV (mkS s), by unfold signsV; rw [List.length_map, List.length_map], hr s, fun R k => .inr (.inr ⟨mkS s, r, rfl, fun t => k (.s (mkS s) t) rfl⟩)⟩
  | _ => cases hd
def iEnumM (m : M D) : M (List D) := bnd m fun d => lft ((itemsOf d).map enumD)
theorem pdi_enum {X : Cx} {e : Expr} {m : M D} {p pos tpos : Pos} {elts : List Expr} {kk : Nat} (hm : X.mg "enumerate" = none) (he : PD X e m) (hg : Gl X "enumerate" := by rfl) (hs : starEach [e] X.env = (false, eval e X.env) :: starEach [] X.env := by rfl) :
    PDI X (.Tuple elts kk tpos) (.Call (.Name "enumerate" p) [e] [] pos) (iEnumM m) :=
  pi_mono (pi_enumD hg hm he hs) fun σ H R ⟨G, B, env, ds, env', ok, e, k⟩ => by
    obtain ⟨d, e1, q1, q2⟩ := bnd_some e
    obtain ⟨z, q5, q6⟩ := lft_some q2
    cases q6
    cases q : itemsOf d with
    | none => rw [q] at q5; cases q5
    | some es =>
      rw [q] at q5
      cases q5
      refine tD_of ok q1 fun v B1 H1 ok1 _ r => ?_
      obtain ⟨xs, hl, hr, S⟩ := src_of q r ok1.sub
      exact ⟨xs, S _ fun kd h => k _ B1 H1 ok1 (walks_enum h hr)⟩
end Dv
/-! zip over lists, tuples and texts, strict or not. -/
namespace Dv
open PySem PySem.Spec PyProof.Rows L2 Evl
/-- a zip object -/
abbrev ZipB (b : Bool) (h : Heap) (z TI TO : Addr) (f0 : Value) : Prop :=
  h.get? z = some { cls := .type "zip", data := .fields #[f0, .bool false, .bool b, .ref TI, .ref TO] }
section
variable {prog : Program} {w : World} {A : Around} {E : Value → Shared → Prop} {s : Shared} {z TI TO i1 i2 : Addr} {fp1 fp2 : List Addr} {n1 n2 i : Nat} {P1 P2 : Nat → Value → Prop} {St1 St2 : Nat → Heap → Prop} {a1 a2 : Value}
theorem nextOrEnd_item {it : Addr} {fp : List Addr} {n i : Nat} {P : Nat → Value → Prop} {St : Nat → Heap → Prop} {Q : Option Value → Shared → Prop} (Dd : Draws prog w A it fp n P St) (hlt : i < n) (st : St i s.heap)
    (hQ : ∀ x h' tk, P i x → St (i + 1) h' → Heap.SameBut it s.heap h' → Q (some x) { s with heap := h', toks := tk }) : wpAny (model prog w) A (Builtin.SmallTypes.nextOrEnd (.ref it)) Q E s := by
  unfold Builtin.SmallTypes.nextOrEnd
  exact wpAny_bind (wpAny_attempt (Dd.item i s _ _ hlt st fun x h' tk hP st' hs => wpAny_pure (hQ x h' tk hP st' hs)))
theorem nextOrEnd_end {it : Addr} {fp : List Addr} {n : Nat} {P : Nat → Value → Prop} {St : Nat → Heap → Prop} {Q : Option Value → Shared → Prop} (Dd : Draws prog w A it fp n P St) (st : St n s.heap)
    (hQ : ∀ h', Heap.ExtBut it s.heap h' → Q none { s with heap := h' }) : wpAny (model prog w) A (Builtin.SmallTypes.nextOrEnd (.ref it)) Q E s := by
  unfold Builtin.SmallTypes.nextOrEnd
  refine wpAny_bind (wpAny_attempt (Dd.done s _ _ st fun h' e he hx => ?_))
  obtain ⟨o, ho, hc⟩ := hx
  refine wpAny_bind (wpAny_isInstance (T := "StopIteration") (b := true) ⟨o, ho, hc⟩ isSubtype_stop ?_)
  exact wpAny_pure (hQ h' he)
theorem zipS_item {Q : Value → Shared → Prop} (S : ZipSep2 z TI TO i1 i2 fp1 fp2) (D1 : Draws prog w A i1 fp1 n1 P1 St1) (D2 : Draws prog w A i2 fp2 n2 P2 St2)
    (hz : ZipB true s.heap z TI TO .none) (hTI : IsTupOf2 s.heap TI (.ref i1) (.ref i2)) (hTO : IsTupOf2 s.heap TO a1 a2) (st1 : St1 i s.heap) (st2 : St2 i s.heap) (hlt1 : i < n1) (hlt2 : i < n2)
    (hQ : ∀ x1 x2 h' tk, P1 i x1 → P2 i x2 → ZipB true h' z TI TO (rawInt s.heap.objs.size) → IsTupOf2 h' TO x1 x2 → St1 (i + 1) h' → St2 (i + 1) h' → IsTupOf2 h' s.heap.objs.size x1 x2 → h'.objs.size = s.heap.objs.size + 1 →
      (∀ c o, c ≠ z → c ≠ TO → c ≠ i1 → c ≠ i2 → s.heap.get? c = some o → h'.get? c = some o) → Q (.ref s.heap.objs.size) { s with heap := h', toks := tk }) :
    wpAny (model prog w) A (Builtin.«zip.__next__» ⟨[.ref z], []⟩) (fun fin s' => ∃ v, fin = .done (.ret v) ∧ Q v s') E s := by
  obtain ⟨hp, g, d, tk0, os⟩ := s
  show wpAny _ _ (field (.ref z) 2 >>= _) _ _ _
  refine wpAny_bind (wpAny_field hz rfl (x := .bool true) rfl ?_)
  show wpAny _ _ (field (.ref z) 3 >>= _) _ _ _
  refine wpAny_bind (wpAny_field hz rfl (x := .ref TI) rfl ?_)
  refine wpAny_bind (wpAny_seqItems hTI rfl ?_)
  show wpAny _ _ (Builtin.SmallTypes.ownedTupleIsFree (.ref z) >>= _) _ _ _
  refine wpAny_bind ?_
  unfold Builtin.SmallTypes.ownedTupleIsFree
  refine wpAny_bind (wpAny_field hz rfl (x := .none) rfl (wpAny_pure ?_))
  simp only [if_true]
  refine wpAny_bind (wpAny_rule ?_)
  refine wpAny_bind (wpAny_field hz rfl (x := .ref TO) rfl ?_)
  refine wpAny_bind (wpAny_setField_rec hz (by simp) fun g0 hz0 hs0 => ?_)
  replace hz0 : ZipB true g0 z TI TO .ellipsis := hz0
  replace hs0 : Heap.SameBut z hp g0 := hs0
  refine wpAny_bind ?_
  simp only [List.zipIdx_cons, List.zipIdx_nil, List.forIn_cons, List.forIn_nil]
  refine wpAny_bind (wpAny_bind (wpAny_onRaise ?_))
  show wpAny _ _ (Builtin.SmallTypes.nextOrEnd (.ref i1)) _ _ ⟨g0, g, d, tk0, os⟩
  refine nextOrEnd_item D1 hlt1 (D1.over st1 hs0 S.zf1) fun x1 p1 tk1 hx1 sn1 hp1 => ?_
  replace hp1 : Heap.SameBut i1 g0 p1 := hp1
  have hU1 : IsTupOf2 p1 TO a1 a2 := hp1.extBut _ _ S.Ti1 (hs0.extBut _ _ S.TOz hTO)
  refine wpAny_bind (wpAny_seqItems (s := ⟨p1, g, d, tk1, os⟩) hU1 rfl ?_)
  refine wpAny_bind (updateSeq_IsTupOf2 (s := ⟨p1, g, d, tk1, os⟩) hU1 fun g1 hT1 hs1 => ?_)
  replace hT1 : IsTupOf2 g1 TO x1 a2 := hT1
  replace hs1 : Heap.SameBut TO p1 g1 := hs1
  refine wpAny_bind (wpAny_letGo (wpAny_pure ?_))
  refine wpAny_bind (wpAny_bind (wpAny_onRaise ?_))
  show wpAny _ _ (Builtin.SmallTypes.nextOrEnd (.ref i2)) _ _ ⟨g1, g, d, tk1, os⟩
  refine nextOrEnd_item D2 hlt2 (D2.over (D2.over (D2.over st2 hs0 S.zf2) hp1 S.sep1_2) hs1 S.Tf2) fun x2 p2 tk2 hx2 sn2 hp2 => ?_
  replace hp2 : Heap.SameBut i2 g1 p2 := hp2
  have hU2 : IsTupOf2 p2 TO x1 a2 := hp2.extBut _ _ S.Ti2 hT1
  refine wpAny_bind (wpAny_seqItems (s := ⟨p2, g, d, tk2, os⟩) hU2 rfl ?_)
  refine wpAny_bind (updateSeq_IsTupOf2 (s := ⟨p2, g, d, tk2, os⟩) hU2 fun g2 hT2 hs2 => ?_)
  replace hT2 : IsTupOf2 g2 TO x1 x2 := hT2
  replace hs2 : Heap.SameBut TO p2 g2 := hs2
  refine wpAny_bind (wpAny_letGo (wpAny_pure (wpAny_pure ?_)))
  refine wpAny_bind (wpAny_seqItems (s := ⟨g2, g, d, tk2, os⟩) hT2 rfl ?_)
  refine wpAny_bind (wpAny_newTuple ?_)
  have hsz : g2.objs.size = hp.objs.size := by rw [hs2.1, hp2.1, hs1.1, hp1.1, hs0.1]
  have hzz : ZipB true g2 z TI TO .ellipsis := (hs2.extBut _ _ S.TOz.symm (hp2.extBut _ _ S.zi2 (hs1.extBut _ _ S.TOz.symm (hp1.extBut _ _ S.zi1 hz0))))
  have hkk : ∀ c o, c ≠ z → c ≠ TO → c ≠ i1 → c ≠ i2 → hp.get? c = some o → g2.get? c = some o := fun c o cz cT c1 c2 e =>
    (hs2.extBut _ _ cT (hp2.extBut _ _ c2 (hs1.extBut _ _ cT (hp1.extBut _ _ c1 (hs0.extBut _ _ cz e)))))
  have hj1 : St1 (i + 1) g2 := (D1.over (D1.over (D1.over sn1 hs1 S.Tf1) hp2 S.sep2_1) hs2 S.Tf1)
  have hj2 : St2 (i + 1) g2 := (D2.over sn2 hs2 S.Tf2)
  have hzlt : z < g2.objs.size := Heap.lt_size hzz
  show wpAny _ _ (Builtin.SmallTypes.ownedTupleHandOut (.ref z) (.ref g2.objs.size) >>= _) _ _ ⟨g2.push { cls := .type "tuple", data := .seq #[x1, x2] }, g, d, tk2, os⟩
  refine wpAny_bind ?_
  unfold Builtin.SmallTypes.ownedTupleHandOut
  have hz6 : ZipB true (g2.push { cls := .type "tuple", data := .seq #[x1, x2] }) z TI TO .ellipsis := Heap.get?_push_of_some _ hzz
  refine wpAny_bind (wpAny_setField_rec hz6 (by simp) fun h7 hz7 hs7 => ?_)
  replace hz7 : ZipB true h7 z TI TO (rawInt g2.objs.size) := hz7
  refine wpAny_setField_rec hz7 (by simp) fun h8 hz8 hs8 => ?_
  replace hz8 : ZipB true h8 z TI TO (rawInt g2.objs.size) := hz8
  replace hs7 : Heap.SameBut z (g2.push { cls := .type "tuple", data := .seq #[x1, x2] }) h7 := hs7
  replace hs8 : Heap.SameBut z h7 h8 := hs8
  have up : ∀ c o, c ≠ z → g2.get? c = some o → h8.get? c = some o := fun c o c1 e => hs8.extBut _ _ c1 (hs7.extBut _ _ c1 (Heap.get?_push_of_some _ e))
  have hT8 : IsTupOf2 h8 g2.objs.size x1 x2 := hs8.extBut _ _ (Nat.ne_of_gt hzlt) (hs7.extBut _ _ (Nat.ne_of_gt hzlt) (Heap.get?_push_size _ rfl))
  have hzs : h8.objs.size = g2.objs.size + 1 := by rw [hs8.1, hs7.1, Heap.size_push]
  rw [hsz] at hz8 hT8 hzs
  refine wpAny_pure ⟨_, rfl, ?_⟩
  show Q (.ref g2.objs.size) ⟨h8, g, d, tk2, os⟩
  rw [hsz]
  exact hQ x1 x2 h8 tk2 hx1 hx2 hz8 (up _ _ S.TOz hT2) (D1.frame _ _ _ hj1 fun b hb o e => up b o (fun q => S.zf1 (q ▸ hb)) e) (D2.frame _ _ _ hj2 fun b hb o e => up b o (fun q => S.zf2 (q ▸ hb)) e) hT8 hzs fun c o cz cT c1 c2 e => up c o cz (hkk c o cz cT c1 c2 e)
theorem zipS_end {Q : Fin → Shared → Prop} (hh : A.handled = none) (S : ZipSep2 z TI TO i1 i2 fp1 fp2) (D1 : Draws prog w A i1 fp1 n1 P1 St1) (D2 : Draws prog w A i2 fp2 n2 P2 St2)
    (hz : ZipB true s.heap z TI TO .none) (hTI : IsTupOf2 s.heap TI (.ref i1) (.ref i2)) (hTO : IsTupOf2 s.heap TO a1 a2) (st1 : St1 n1 s.heap) (st2 : St2 n2 s.heap)
    (hE : ∀ h' tk e, (∀ c o, c ≠ z → c ≠ TO → c ≠ i1 → c ≠ i2 → s.heap.get? c = some o → h'.get? c = some o) → (∃ o, h'.get? e = some o ∧ o.cls = .type "StopIteration") → E (.ref e) { s with heap := h', toks := tk }) :
    wpAny (model prog w) A (Builtin.«zip.__next__» ⟨[.ref z], []⟩) Q E s := by
  obtain ⟨hp, g, d, tk0, os⟩ := s
  show wpAny _ _ (field (.ref z) 2 >>= _) _ _ _
  refine wpAny_bind (wpAny_field hz rfl (x := .bool true) rfl ?_)
  show wpAny _ _ (field (.ref z) 3 >>= _) _ _ _
  refine wpAny_bind (wpAny_field hz rfl (x := .ref TI) rfl ?_)
  refine wpAny_bind (wpAny_seqItems hTI rfl ?_)
  show wpAny _ _ (Builtin.SmallTypes.ownedTupleIsFree (.ref z) >>= _) _ _ _
  refine wpAny_bind ?_
  unfold Builtin.SmallTypes.ownedTupleIsFree
  refine wpAny_bind (wpAny_field hz rfl (x := .none) rfl (wpAny_pure ?_))
  simp only [if_true]
  refine wpAny_bind (wpAny_rule ?_)
  refine wpAny_bind (wpAny_field hz rfl (x := .ref TO) rfl ?_)
  refine wpAny_bind (wpAny_setField_rec hz (by simp) fun g0 hz0 hs0 => ?_)
  replace hz0 : ZipB true g0 z TI TO .ellipsis := hz0
  replace hs0 : Heap.SameBut z hp g0 := hs0
  refine wpAny_bind ?_
  simp only [List.zipIdx_cons, List.zipIdx_nil, List.forIn_cons, List.forIn_nil]
  refine wpAny_bind (wpAny_bind (wpAny_onRaise ?_))
  show wpAny _ _ (Builtin.SmallTypes.nextOrEnd (.ref i1)) _ _ ⟨g0, g, d, tk0, os⟩
  refine nextOrEnd_end D1 (D1.over st1 hs0 S.zf1) fun q hq => ?_
  replace hq : Heap.ExtBut i1 g0 q := hq
  have hzq : ZipB true q z TI TO .ellipsis := hq _ _ S.zi1 hz0
  refine wpAny_bind (wpAny_setField_rec (s := ⟨q, g, d, tk0, os⟩) hzq (by simp) fun q' hzq' hq' => ?_)
  refine wpAny_bind (wpAny_bind ?_)
  wp_delta
  simp only [List.drop, List.zipIdx_cons, List.zipIdx_nil, List.forIn_cons, List.forIn_nil]
  replace hq' : Heap.SameBut z q q' := hq'
  have stq : St2 n2 q' := D2.over (D2.frame _ _ _ (D2.over st2 hs0 S.zf2) fun b hb o e => hq b o (fun x => S.sep1_2 (x ▸ hb)) e) hq' S.zf2
  refine wpAny_bind (wpAny_bind (nextOrEnd_end (s := ⟨q', g, d, tk0, os⟩) D2 stq fun r hr => ?_))
  replace hr : Heap.ExtBut i2 q' r := hr
  refine wpAny_pure ?_
  refine wpAny_pure ?_
  refine wpAny_bind (wpAny_rule ?_)
  unfold Builtin.SmallTypes.stopIteration
  simp only [newExc, newTuple]
  refine wpAny_bind (wpAny_bind (wpAny_newObj_type ?_ (by size_fits)))
  refine wpAny_bind (m := firstArgMember _ _) (wpAny_of_eq (a := Value.none) (by first | rfl | (simp only [firstArgMember]; rfl)) ?_)
  refine wpAny_newObj_type ?_ (by size_fits)
  simp only [raiseNew]
  refine wpAny_bind (wpAny_handled ?_)
  rw [hh]
  refine wpAny_bind (wpAny_pure (wpAny_throw ?_))
  refine hE _ _ _ (fun c o cz cT c1 c2 x => Heap.get?_push_of_some _ (Heap.get?_push_of_some _ (hr _ _ c2 (hq'.extBut _ _ cz (hq _ _ c1 (hs0.extBut _ _ cz x)))))) ⟨_, Heap.get?_push_size _ rfl, rfl⟩
theorem pyNext_zip {b : Bool} {Q : Option Value → Shared → Prop} {f0 : Value} (hz : ZipB b s.heap z TI TO f0)
    (h : wpAny (model prog w) A.in1 (Builtin.«zip.__next__» ⟨[.ref z], []⟩) (fun fin s' => ∃ v, fin = .done (.ret v) ∧ Q (some v) s') (fun e s' => (∃ o a, e = .ref a ∧ s'.heap.get? a = some o ∧ o.cls = .type "StopIteration") ∧ Q none s') s) : wpAny (model prog w) A (pyNext (.ref z)) Q E s := by
  have hT : s.TypeIs (.ref z) "zip" := ⟨_, hz, rfl⟩
  unfold pyNext
  refine wpAny_bind (wpAny_attempt (wpAny_callSpecial?_slot (name := Str.ofString "__next__") hT F.slot_zip_next
    (wpAny_call_entry F.slot_zip_next hT F.entry_zip_next ?_ (F.args_zip_next_1 _))))
  refine wpAny_mono h (fun fin s' ⟨v, e, q⟩ => ⟨v, e, wpAny_pure q⟩) fun e s' ⟨⟨o, a, he, ho, hc⟩, q⟩ => ?_
  subst he
  refine wpAny_bind (wpAny_isInstance (T := "StopIteration") (b := true) ⟨o, ho, hc⟩ isSubtype_stop ?_)
  exact wpAny_pure q
/-- the next pair, either way -/
theorem zipB_item {b : Bool} {Q : Option Value → Shared → Prop} (S : ZipSep2 z TI TO i1 i2 fp1 fp2) (D1 : Draws prog w A.in1 i1 fp1 n1 P1 St1) (D2 : Draws prog w A.in1 i2 fp2 n2 P2 St2)
    (hz : ZipB b s.heap z TI TO .none) (hTI : IsTupOf2 s.heap TI (.ref i1) (.ref i2)) (hTO : IsTupOf2 s.heap TO a1 a2) (st1 : St1 i s.heap) (st2 : St2 i s.heap) (hlt1 : i < n1) (hlt2 : i < n2)
    (hQ : ∀ x1 x2 h' tk, P1 i x1 → P2 i x2 → ZipB b h' z TI TO (rawInt s.heap.objs.size) → IsTupOf2 h' TO x1 x2 → St1 (i + 1) h' → St2 (i + 1) h' → IsTupOf2 h' s.heap.objs.size x1 x2 → h'.objs.size = s.heap.objs.size + 1 →
      (∀ c o, c ≠ z → c ≠ TO → c ≠ i1 → c ≠ i2 → s.heap.get? c = some o → h'.get? c = some o) → Q (some (.ref s.heap.objs.size)) { s with heap := h', toks := tk }) :
    wpAny (model prog w) A (pyNext (.ref z)) Q E s := by
  refine pyNext_zip hz ?_
  cases b
  · exact zipD2_next_item S D1 D2 hz hTI hTO st1 st2 hlt1 hlt2 hQ
  · exact zipS_item S D1 D2 hz hTI hTO st1 st2 hlt1 hlt2 hQ
theorem zipB_end {b : Bool} {Q : Option Value → Shared → Prop} (hh : A.handled = none) (S : ZipSep2 z TI TO i1 i2 fp1 fp2) (D1 : Draws prog w A.in1 i1 fp1 n1 P1 St1) (D2 : Draws prog w A.in1 i2 fp2 n2 P2 St2)
    (hz : ZipB b s.heap z TI TO .none) (hTI : IsTupOf2 s.heap TI (.ref i1) (.ref i2)) (hTO : IsTupOf2 s.heap TO a1 a2) (st1 : St1 i s.heap) (st2 : St2 i s.heap) (hle1 : i ≤ n1) (hle2 : i ≤ n2) (hend : i = n1 ∨ i = n2) (hb : b = true → n1 = n2)
    (hQ : ∀ h' tk, (∀ c o, c ≠ z → c ≠ TO → c ≠ i1 → c ≠ i2 → s.heap.get? c = some o → h'.get? c = some o) → Q none { s with heap := h', toks := tk }) :
    wpAny (model prog w) A (pyNext (.ref z)) Q E s := by
  refine pyNext_zip hz ?_
  cases b
  · exact zipD2_next_end S D1 D2 hz hTI hTO st1 st2 hle1 hle2 hend fun h' tk e hk ⟨o, ho, hc⟩ => ⟨⟨o, e, rfl, ho, hc⟩, hQ h' tk hk⟩
  · have e := hb rfl
    have e1 : i = n1 := by omega
    have e2 : i = n2 := by omega
    rw [e1] at st1
    rw [e2] at st2
    exact zipS_end hh S D1 D2 hz hTI hTO st1 st2 fun h' tk e hk ⟨o, ho, hc⟩ => ⟨⟨o, e, rfl, ho, hc⟩, hQ h' tk hk⟩
theorem pyIter_zipB {b : Bool} {f0 : Value} {Q : Value → Shared → Prop} (hz : ZipB b s.heap z TI TO f0) (h : Q (.ref z) s) : wpAny (model prog w) A (pyIter (.ref z)) Q E s := by
  have hT : s.TypeIs (.ref z) "zip" := ⟨_, hz, rfl⟩
  refine wpAny_pyIter_slot hT F.slot_zip_iter (wpAny_call_entry F.slot_zip_iter hT F.entry_zip_iter ?_ (F.args_zip_iter_1 _))
  show wpAny _ _ (PySem.ret (.ref z)) _ _ s
  exact wpAny_pure ⟨_, rfl, "zip", _, hT, F.slot_zip_next.lookup, h⟩
theorem letGo_zipB {b : Bool} {elts : List Expr} {x1 : Nat} {pos : Pos} {T : Addr} {Q : Unit → Shared → Prop} (hz : ZipB b s.heap z TI TO (rawInt T)) (hQ : ∀ h', ZipB b h' z TI TO .none → Heap.SameBut z s.heap h' → Q () { s with heap := h' }) :
    wpAny (model prog w) A (letOwnedTupleGo (.Tuple elts x1 pos) (.ref z) (.ref T)) Q E s := by
  unfold letOwnedTupleGo
  refine wpAny_bind (wpAny_load hz ?_)
  show wpAny _ _ (if (["enumerate", "zip", "dict_itemiterator", "dict_reverseitemiterator", "odict_iterator", "itertools.zip_longest", "itertools.pairwise"].contains "zip" && (#[rawInt T, .bool false, .bool b, .ref TI, .ref TO] : Array Value)[0]? == some (rawInt T)) = true then _ else _) Q E s
  rw [if_pos (by simp)]
  refine wpAny_bind (wpAny_rule ?_)
  show wpAny _ _ (setField (.ref z) 0 .none) Q E s
  exact wpAny_setField_rec hz (by simp) fun h' hz' hs' => hQ h' hz' hs'
end
/-! ### the turns of a zip -/
def ItzB (K : PySem.W.Frag) (k1 k2 : Kd) (n1 n2 : Nat) : It :=
  ⟨fun i H => i < n1 ∧ i < n2 ∧ (∃ xs : List V, k1.has K H xs ∧ xs.length = n1) ∧ ∃ ys : List V, k2.has K H ys ∧ ys.length = n2,
   fun i H v H' => ∃ T x y, v = .ref T ∧ H T = none ∧ H' = upd H T (.tup [x, y]) ∧ (∀ xs, k1.has K H xs → xs[i]? = some x) ∧ ∀ ys, k2.has K H ys → ys[i]? = some y,
   fun i H => (n1 ≤ i ∨ n2 ≤ i) ∧ (∃ xs : List V, k1.has K H xs ∧ xs.length = n1) ∧ ∃ ys : List V, k2.has K H ys ∧ ys.length = n2⟩
theorem turn_zipB {P : Program} {w : World} {K : PySem.W.Frag} {elts : List Expr} {kk : Nat} {tpos : Pos} {b : Bool} {k1 k2 : Kd} {n1 n2 : Nat} {z TI TO i1 i2 : Addr} (S : ZipSep2 z TI TO i1 i2 (i1 :: k1.ad) (i2 :: k2.ad)) (a1 : i1 ∉ k1.ad) (a2 : i2 ∉ k2.ad) (hb : b = true → n1 = n2) :
    Turn P w K (.Tuple elts kk tpos) (ItzB K k1 k2 n1 n2) [z, TI, TO, i1, i2] z (fun i h => (i ≤ n1 ∧ i ≤ n2) ∧ ZipB b h z TI TO .none ∧ IsTupOf2 h TI (.ref i1) (.ref i2) ∧ (∃ x y, IsTupOf2 h TO x y) ∧ k1.it i1 i h ∧ k2.it i2 i h) where
  mem := List.mem_cons_self
  obj := fun i h st c hc => by
    obtain ⟨_, hz, hTI, ⟨x, y, hTO⟩, h1, h2⟩ := st
    have e' : c = z ∨ c = TI ∨ c = TO ∨ c = i1 ∨ c = i2 := by simpa using hc
    rcases e' with q | q | q | q | q
    · rw [q]; exact ⟨_, hz, fun v q => nomatch q⟩
    · rw [q]; exact ⟨_, hTI, fun v q => nomatch q⟩
    · rw [q]; exact ⟨_, hTO, fun v q => nomatch q⟩
    · rw [q]; exact Kd.it_obj h1
    · rw [q]; exact Kd.it_obj h2
  keep := fun i h h' st k => by
    obtain ⟨hn, hz, hTI, ⟨x, y, hTO⟩, h1, h2⟩ := st
    exact ⟨hn, k z (by simp) _ hz, k TI (by simp) _ hTI, ⟨x, y, k TO (by simp) _ hTO⟩, Kd.it_at h1 fun o q => k i1 (by simp) o q, Kd.it_at h2 fun o q => k i2 (by simp) o q⟩
  item := by
    intro X hP hw hK hc i pins s σ H E I hf st hg
    subst hP hw hK
    obtain ⟨_, hz, hTI, ⟨x0, y0, hTO⟩, h1, h2⟩ := st
    obtain ⟨hlt1, hlt2, ⟨xs, hqx, hlx⟩, ys, hqy, hly⟩ := hg
    obtain ⟨P1, St1, D1, c1, c2, c3⟩ := Kd.draws (A := X.A.in1) I (I.ok.hd hc) hqx i1 a1
    obtain ⟨P2, St2, D2, d1, d2, d3⟩ := Kd.draws (A := X.A.in1) I (I.ok.hd hc) hqy i2 a2
    rw [hlx] at D1
    rw [hly] at D2
    have hzl : z < s.heap.objs.size := Heap.lt_size hz
    refine zipB_item S D1 D2 hz hTI hTO (c1 i h1) (d1 i h2) hlt1 hlt2 fun u1 u2 h' tk p1 p2 z' TO' s1' s2' hT hsz hk => ?_
    obtain ⟨x, hx, rx⟩ := c3 i u1 p1
    obtain ⟨y, hy, ry⟩ := d3 i u2 p2
    refine ⟨_, rfl, letGo_zipB (s := { s with heap := h', toks := tk }) z' fun h'' z'' sb => ?_⟩
    have hT2 : h''.get? s.heap.objs.size = some { cls := .type "tuple", data := .seq #[u1, u2] } := (sb.2 _ (Nat.ne_of_gt hzl)).trans hT
    have new : ObjOk X.prog X.w (upd H s.heap.objs.size (.tup [x, y])) h'' s.heap.objs.size (.tup [x, y]) :=
      ⟨by show 2 ≤ sizeLine; decide, [u1, u2], .cons rx (.cons ry .nil), ⟨_, hT2, rfl, _, rfl⟩⟩
    have I1 : Inv X pins σ (upd H s.heap.objs.size (.tup [x, y])) { s with heap := h'', toks := tk } :=
      I.turnedNew (ch := [z, TI, TO, i1, i2]) (fun c o hb q => (sb.2 c fun q' => hb (by simp [q'])).trans (hk c o (fun q' => hb (by simp [q'])) (fun q' => hb (by simp [q'])) (fun q' => hb (by simp [q'])) (fun q' => hb (by simp [q'])) q)) hf (Nat.le_refl _) new
    have hi1 : i1 ≠ z := fun e => S.zi1 e.symm
    have hi2 : i2 ≠ z := fun e => S.zi2 e.symm
    refine ⟨.ref s.heap.objs.size, _, I1, rfl, ⟨_, x, y, rfl, I.hok.fresh (Nat.le_refl _), rfl, fun l hl => by rw [Kd.inj I hl hqx]; exact hx, fun l hl => by rw [Kd.inj I hl hqy]; exact hy⟩, ⟨⟨hlt1, hlt2⟩, z'', ?_, ⟨u1, u2, ?_⟩, ?_, ?_⟩, fun c hcm => ?_⟩
    · exact (sb.2 _ S.TIz).trans (hk _ _ S.TIz S.TITO S.TIi1 S.TIi2 hTI)
    · exact (sb.2 _ S.TOz).trans TO'
    · exact Kd.it_at (c2 _ _ s1') fun o q => (sb.2 _ hi1).trans q
    · exact Kd.it_at (d2 _ _ s2') fun o q => (sb.2 _ hi2).trans q
    · have hlt : c < s.heap.objs.size := by
        have e' : c = z ∨ c = TI ∨ c = TO ∨ c = i1 ∨ c = i2 := by simpa using hcm
        rcases e' with q | q | q | q | q
        · rw [q]; exact hzl
        · rw [q]; exact Heap.lt_size hTI
        · rw [q]; exact Heap.lt_size hTO
        · rw [q]; exact Kd.it_lt h1
        · rw [q]; exact Kd.it_lt h2
      rw [upd_ne (Nat.ne_of_lt hlt)]
      exact (hf c hcm).1
  done := by
    intro X hP hw hK hc i pins s σ H E I hf st hg
    subst hP hw hK
    obtain ⟨⟨le1, le2⟩, hz, hTI, ⟨x0, y0, hTO⟩, h1, h2⟩ := st
    obtain ⟨hend, ⟨xs, hqx, hlx⟩, ys, hqy, hly⟩ := hg
    obtain ⟨P1, St1, D1, c1, c2, c3⟩ := Kd.draws (A := X.A.in1) I (I.ok.hd hc) hqx i1 a1
    obtain ⟨P2, St2, D2, d1, d2, d3⟩ := Kd.draws (A := X.A.in1) I (I.ok.hd hc) hqy i2 a2
    rw [hlx] at D1
    rw [hly] at D2
    exact zipB_end (I.ok.hd hc) S D1 D2 hz hTI hTO (c1 i h1) (d1 i h2) le1 le2 (by omega) hb fun h' tk hk => ⟨rfl, I.turnedL (t' := tk) (ch := [z, TI, TO, i1, i2]) (fun c o hb q =>
      hk c o (fun q' => hb (by simp [q'])) (fun q' => hb (by simp [q'])) (fun q' => hb (by simp [q'])) (fun q' => hb (by simp [q'])) q) hf⟩
  self := fun A i s Q E st h => pyIter_zipB st.2.1 h
/-! ### zip(v1, v2, strict=True) begins -/
theorem args_init_strict (obj a b c : Value) : argsOk "object.__init__" ⟨[obj, a, b], [(Str.ofString "strict", c)]⟩ := by unfold argsOk; kernel_rfl
theorem tc_zip_strict (a b c : Value) : checkTypeCall "zip" ⟨[a, b], [(Str.ofString "strict", c)]⟩ = pure () := by kernel_rfl
theorem nc_zip_strict (a b c : Value) : checkBuiltinCall "zip.__new__" ⟨[.type "zip", a, b], [(Str.ofString "strict", c)]⟩ = pure () := by kernel_rfl
abbrev gzS2 (h : Heap) (o1 o2 : Obj) : Heap := (gzO2 h o1 o2).push { cls := .type "zip", data := .fields #[.none, .bool false, .bool true, .ref ((h.push o1).push o2).objs.size, .ref (gzT2 h o1 o2).objs.size] }
theorem meets_zip_strict {v1 v2 : Value} {o1 o2 : Obj} {H1 H2 : Heap → Prop} (B1 : Begins v1 o1 H1) (B2 : Begins v2 o2 H2) :
    Meets (Builtin.«zip.__new__» ⟨[.type "zip", v1, v2], [(Str.ofString "strict", .bool true)]⟩) (fun _ R s => (H1 s.heap ∧ H2 s.heap) ∧
      R (.ok (.ret (.ref (gzO2 s.heap o1 o2).objs.size))) { s with heap := gzS2 s.heap o1 o2 }) :=
  .of_wp fun prog w A R s h => by
    obtain ⟨hp, g, d, tk, os⟩ := s
    obtain ⟨⟨h1, h2⟩, h⟩ := h
    have hsub := sub_zip
    have begin1 : ∀ {A' : Around} {E : Value → Shared → Prop} {Q : Value → Shared → Prop}, Q (.ref hp.objs.size) ⟨(hp.push o1), g, d, tk, os⟩ → wpAny (model prog w) A' (pyIter v1) Q E ⟨hp, g, d, tk, os⟩ :=
      fun q => B1.iter prog w _ _ ⟨hp, g, d, tk, os⟩ _ (B1.keeps _ _ h1 fun b o' e => e) q
    have begin2 : ∀ {A' : Around} {E : Value → Shared → Prop} {Q : Value → Shared → Prop}, Q (.ref (hp.push o1).objs.size) ⟨((hp.push o1).push o2), g, d, tk, os⟩ → wpAny (model prog w) A' (pyIter v2) Q E ⟨(hp.push o1), g, d, tk, os⟩ :=
      fun q => B2.iter prog w _ _ ⟨(hp.push o1), g, d, tk, os⟩ _ (B2.keeps _ _ h2 fun b o' e => (Heap.get?_push_of_some _ e)) q
    have e2 : (Str.ofString "strict" != ("strict" : Str)) = false := by decide +kernel
    wp_walk using begin1, begin2
    exact ⟨_, rfl, h⟩
theorem zip_begins_strict {prog : Program} {w : World} {A : Around} {E : Value → Shared → Prop} {s : Shared} {v1 v2 : Value} {o1 o2 : Obj} {H1 H2 : Heap → Prop} {Q : Value → Shared → Prop} (B1 : Begins v1 o1 H1) (B2 : Begins v2 o2 H2) (h1 : H1 s.heap) (h2 : H2 s.heap)
    (h : ∀ h', ZipB true h' (s.heap.objs.size + 4) (s.heap.objs.size + 2) (s.heap.objs.size + 3) .none → IsTupOf2 h' (s.heap.objs.size + 2) (.ref s.heap.objs.size) (.ref (s.heap.objs.size + 1)) →
      IsTupOf2 h' (s.heap.objs.size + 3) .none .none → h'.get? s.heap.objs.size = some o1 → h'.get? (s.heap.objs.size + 1) = some o2 → h'.objs.size = s.heap.objs.size + 5 →
      (∀ c o, s.heap.get? c = some o → h'.get? c = some o) → Q (.ref (s.heap.objs.size + 4)) { s with heap := h' }) :
    wpAny (model prog w) A (call (.type "zip") [v1, v2] [(Str.ofString "strict", .bool true)]) Q E s := by
  refine callType_newKw F.called_zip (by decide) (tc_zip_strict _ _ _) (nc_zip_strict _ _ _) (fun obj => args_init_strict obj _ _ _) F.entry_zip_new (meets_zip_strict B1 B2) ⟨⟨h1, h2⟩, ?_⟩
  have z1 : (s.heap.push o1).objs.size = s.heap.objs.size + 1 := by rw [Heap.size_push]
  have z2 : ((s.heap.push o1).push o2).objs.size = s.heap.objs.size + 2 := by rw [Heap.size_push, z1]
  have zT : (gzT2 s.heap o1 o2).objs.size = s.heap.objs.size + 3 := by rw [Heap.size_push, z2]
  have zO : (gzO2 s.heap o1 o2).objs.size = s.heap.objs.size + 4 := by rw [Heap.size_push, zT]
  have zZ : (gzS2 s.heap o1 o2).objs.size = s.heap.objs.size + 5 := by rw [Heap.size_push, zO]
  have gZ : (gzS2 s.heap o1 o2).get? (gzO2 s.heap o1 o2).objs.size = some { cls := .type "zip", data := .fields #[.none, .bool false, .bool true, .ref ((s.heap.push o1).push o2).objs.size, .ref (gzT2 s.heap o1 o2).objs.size] } := Heap.get?_push_size _ rfl
  have gO : (gzS2 s.heap o1 o2).get? (gzT2 s.heap o1 o2).objs.size = some { cls := .type "tuple", data := .seq #[.none, .none] } := Heap.get?_push_of_some _ (Heap.get?_push_size _ rfl)
  have gT : (gzS2 s.heap o1 o2).get? ((s.heap.push o1).push o2).objs.size = some { cls := .type "tuple", data := .seq #[.ref s.heap.objs.size, .ref (s.heap.push o1).objs.size] } := Heap.get?_push_of_some _ (Heap.get?_push_of_some _ (Heap.get?_push_size _ rfl))
  have g1 : (gzS2 s.heap o1 o2).get? s.heap.objs.size = some o1 := Heap.get?_push_of_some _ (Heap.get?_push_of_some _ (Heap.get?_push_of_some _ (Heap.get?_push_of_some _ (Heap.get?_push_size _ B1.free))))
  have g2 : (gzS2 s.heap o1 o2).get? (s.heap.push o1).objs.size = some o2 := Heap.get?_push_of_some _ (Heap.get?_push_of_some _ (Heap.get?_push_of_some _ (Heap.get?_push_size _ B2.free)))
  rw [zO, zT, z2] at gZ
  rw [zT] at gO
  rw [z2, z1] at gT
  rw [z1] at g2
  show _ ∧ _
  rw [zO]
  exact ⟨⟨_, gZ, rfl⟩, h _ gZ gT gO g1 g2 zZ fun c o e => Heap.get?_push_of_some _ (Heap.get?_push_of_some _ (Heap.get?_push_of_some _ (Heap.get?_push_of_some _ (Heap.get?_push_of_some _ e))))⟩
section
variable {M : Model} {A : Around} {E : Value → Shared → Prop} {s : Shared} {env : Env}
theorem callWith_typeKw {pos : Pos} {T : String} {e : Expr} {rest : List Expr} {kws : List Keyword} {Q : Value → Shared → Prop}
    (h : wpAny M A (spliced (backTo pos (starEach (e :: rest) env))) (fun vs s₁ => wpAny M A (evalAll ((backToKw pos (keywordEach kws env)).map (·.2)))
      (fun kvs s₂ => wpAny M A (call (.type T) vs (((backToKw pos (keywordEach kws env)).filterMap (·.1)).zip kvs)) Q E s₂) E s₁) E s)
    (he : backTo pos (starEach (e :: rest) env) = (false, eval e env) :: backTo pos (starEach rest env)) (hpl : (backTo pos (starEach (e :: rest) env)).any (·.1) = false)
    (hall : (backToKw pos (keywordEach kws env)).all (·.1.isSome) = true) (hkw : (backToKw pos (keywordEach kws env)).any (·.1.isNone) = false) :
    wpAny M A (callWith pos (.type T) [] (backTo pos (starEach (e :: rest) env)) (backToKw pos (keywordEach kws env))) Q E s := by
  unfold callWith
  rw [he] at h ⊢
  refine wpAny_bind (wpAny_holding (wpAny_mono (PyProof.Rows.evalArgs_kwB (f := .type T) (Q := fun a s₁ => wpAny M A (call (.type T) ([] ++ a.pos) a.kw) Q E s₁) hall h) (fun a s₁ h₁ => wpAny_bind (wpAny_standAt ?_)) fun _ _ x => x))
  rw [he] at hpl
  simp only [hpl, hkw, Bool.or_false]
  refine wpAny_bind (wpAny_pure ?_)
  exact wpAny_bind (wpAny_mono h₁ (fun r s₂ hr => wpAny_bind (wpAny_holding (wpAny_point (wpAny_pure hr)))) fun _ _ x => x)
end
def iZipB (b : Bool) (K : PySem.W.Frag) (ta : TA) : TI := fun σ H R => ta σ H fun vs H1 => ∃ v1 v2 xs ys, vs = [v1, v2] ∧ (b = true → xs.length = ys.length) ∧ Src K H1 v1 xs fun k1 => Src K H1 v2 ys fun k2 => R (ItzB K k1 k2 xs.length ys.length) H1
section
variable {X : Cx} {pins : List (Addr × Obj)} {σ : L2.St} {H : Hp} {s : Shared}
theorem pie_zip {b : Bool} {R : It → Hp → Prop} {elts : List Expr} {kk : Nat} {tpos : Pos} (I : Inv X pins σ H s) {k1 k2 : Kd} {xs ys : List V} (h1 : k1.has X.K H xs) (h2 : k2.has X.K H ys) (hb : b = true → xs.length = ys.length) (q : R (ItzB X.K k1 k2 xs.length ys.length) H) {h' : Heap}
    (l1 : ∀ a ∈ k1.ad, a < s.heap.objs.size) (l2 : ∀ a ∈ k2.ad, a < s.heap.objs.size)
    (hz : ZipB b h' (s.heap.objs.size + 4) (s.heap.objs.size + 2) (s.heap.objs.size + 3) .none) (hTI : IsTupOf2 h' (s.heap.objs.size + 2) (.ref s.heap.objs.size) (.ref (s.heap.objs.size + 1)))
    (hTO : IsTupOf2 h' (s.heap.objs.size + 3) .none .none) (g1 : h'.get? s.heap.objs.size = some k1.obj) (g2 : h'.get? (s.heap.objs.size + 1) = some k2.obj) (hk : ∀ c o, s.heap.get? c = some o → h'.get? c = some o) :
    wpAny (model X.prog X.w) X.A (pyIter (.ref (s.heap.objs.size + 4))) (PIE X pins σ (.Tuple elts kk tpos) R) X.xe { s with heap := h' } := by
  refine pyIter_zipB (s := { s with heap := h' }) hz ?_
  have I2 : Inv X pins σ H { s with heap := h' } := I.kept (t' := s.toks) hk
  refine ⟨s.heap.objs.size + 4, [s.heap.objs.size + 4, s.heap.objs.size + 2, s.heap.objs.size + 3, s.heap.objs.size, s.heap.objs.size + 1], _, _, H, rfl, I2, turn_zipB (b := b) (zip_sep2 l1 l2) (fun z => Nat.lt_irrefl _ (l1 _ z)) (fun z => absurd (l2 _ z) (Nat.not_lt.mpr (Nat.le_succ _))) hb, ⟨⟨Nat.zero_le _, Nat.zero_le _⟩, hz, hTI, ⟨_, _, hTO⟩, Kd.it_new g1, Kd.it_new g2⟩, fun c hcm => ?_, q⟩
  have e' : c = s.heap.objs.size + 4 ∨ c = s.heap.objs.size + 2 ∨ c = s.heap.objs.size + 3 ∨ c = s.heap.objs.size ∨ c = s.heap.objs.size + 1 := by simpa using hcm
  have hle : s.heap.objs.size ≤ c := by
    rcases e' with z | z | z | z | z
    · rw [z]; exact Nat.le_add_right _ _
    · rw [z]; exact Nat.le_add_right _ _
    · rw [z]; exact Nat.le_add_right _ _
    · rw [z]; exact Nat.le_refl _
    · rw [z]; exact Nat.le_add_right _ _
  exact I.fpOk hle (I.hok.fresh hle)
end
section
variable {X : Cx}
theorem pi_zipN {e e2 : Expr} {ta : TA} {p pos tpos : Pos} {elts : List Expr} {kk : Nat} (hg : Gl X "zip") (hm : X.mg "zip" = none) (ha : PA X [e, e2] ta)
    (hs : starEach [e, e2] X.env = (false, eval e X.env) :: starEach [e2] X.env) (hpl : (backTo pos (starEach [e2] X.env)).any (·.1) = false) :
    PI X (.Tuple elts kk tpos) (.Call (.Name "zip" p) [e, e2] [] pos) (iZipB false X.K ta) := by
  refine ⟨fun pins s σ H R I h => ?_⟩
  refine Call_ (ld_blt I hg hm PyProof.Rows.boot_zip (PyProof.Rows.callWith_type1 (thn (ha.run pos pins s σ H _ I h) fun us s1 ⟨vs, H1, I1, r1, q1⟩ => ?_) hs hpl))
  obtain ⟨v1, v2, xs, ys, rfl, hb, S1⟩ := q1
  cases r1 with
  | cons r rr =>
    cases rr with
    | cons r' rr =>
      cases rr
      obtain ⟨k1, rfl, h1, S2⟩ := S1.kd r
      obtain ⟨k2, rfl, h2, q⟩ := S2.kd r'
      obtain ⟨Hh1, B1, b1, l1⟩ := Kd.begins I1 h1
      obtain ⟨Hh2, B2, b2, l2⟩ := Kd.begins I1 h2
      exact zip_begins2 B1 B2 b1 b2 fun h' hz hTI hTO g1 g2 hsz hk => pie_zip (b := false) I1 h1 h2 hb q l1 l2 hz hTI hTO g1 g2 hk
theorem pi_zipS {e e2 : Expr} {ta : TA} {p pos tpos kp cp : Pos} {j : Nat} {elts : List Expr} {kk : Nat} (hg : Gl X "zip") (hm : X.mg "zip" = none) (ha : PA X [e, e2] ta)
    (he : backTo pos (starEach [e, e2] X.env) = (false, eval e X.env) :: backTo pos (starEach [e2] X.env)) (hpl : (backTo pos (starEach [e, e2] X.env)).any (·.1) = false)
    (hall : (backToKw pos (keywordEach [⟨some ("strict" : Str), .Constant (.bool true) j cp, kp⟩] X.env)).all (·.1.isSome) = true) (hnone : (backToKw pos (keywordEach [⟨some ("strict" : Str), .Constant (.bool true) j cp, kp⟩] X.env)).any (·.1.isNone) = false)
    (hks : (backToKw pos (keywordEach [⟨some ("strict" : Str), .Constant (.bool true) j cp, kp⟩] X.env)).filterMap (·.1) = [("strict" : Str)]) :
    PI X (.Tuple elts kk tpos) (.Call (.Name "zip" p) [e, e2] [⟨some ("strict" : Str), .Constant (.bool true) j cp, kp⟩] pos) (iZipB true X.K ta) := by
  refine ⟨fun pins s σ H R I h => ?_⟩
  refine wpAny_Call_Name_kw (ld_blt I hg hm PyProof.Rows.boot_zip ?_)
  refine callWith_typeKw (thn (ha.run pos pins s σ H _ I h) fun us s1 ⟨vs, H1, I1, r1, q1⟩ => thn ((pk_cons pe_bl pk_nil).run pos pins s1 σ H1 (fun zs H2 => H2 = H1 ∧ zs = [.bl true]) I1 ?_) fun ws s2 ⟨zs, H2, I2, r2, e2, ez⟩ => ?_) he hpl hall hnone
  · exact ⟨rfl, rfl⟩
  subst e2 ez
  rw [hks]
  obtain ⟨v1, v2, xs, ys, rfl, hb, S1⟩ := q1
  cases r2 with
  | cons r0 rr0 =>
    cases rr0
    obtain rfl : _ = Value.bool true := r0
    cases r1 with
    | cons r rr =>
      cases rr with
      | cons r' rr =>
        cases rr
        obtain ⟨k1, rfl, h1, S2⟩ := S1.kd r
        obtain ⟨k2, rfl, h2, q⟩ := S2.kd r'
        obtain ⟨Hh1, B1, b1, l1⟩ := Kd.begins I2 h1
        obtain ⟨Hh2, B2, b2, l2⟩ := Kd.begins I2 h2
        exact zip_begins_strict B1 B2 b1 b2 fun h' hz hTI hTO g1 g2 hsz hk => pie_zip (b := true) I2 h1 h2 hb q l1 l2 hz hTI hTO g1 g2 hk
/-- pairs of the items, as far as both go -/
def zipD (xs ys : List D) : List D := List.zipWith (fun x y => .tup [x, y]) xs ys
theorem walks_zip {K : PySem.W.Frag} {k1 k2 : Kd} {B0 : Hp} {ds es : List D} {xs ys : List V} (h1 : k1.has K B0 xs) (r1 : Reps K B0 ds xs) (h2 : k2.has K B0 ys) (r2 : Reps K B0 es ys) : Walks K (ItzB K k1 k2 xs.length ys.length) B0 (zipD ds es) := fun G B H σ env i ex ok => by
  have hH1 : k1.has K H xs := Kd.has_mono (ex.trans ok.sub) h1
  have hH2 : k2.has K H ys := Kd.has_mono (ex.trans ok.sub) h2
  have l1 := r1.length
  have l2 := r2.length
  refine ⟨fun d e => ?_, fun h => ⟨by unfold zipD at h; rw [List.length_zipWith] at h; omega, ⟨xs, hH1, rfl⟩, ys, hH2, rfl⟩⟩
  unfold zipD at e
  rw [List.getElem?_zipWith] at e
  cases q1 : ds[i]? with
  | none => rw [q1] at e; cases e
  | some d1 =>
    cases q2 : es[i]? with
    | none => rw [q1, q2] at e; cases e
    | some d2 =>
      rw [q1, q2] at e
      cases e
      obtain ⟨v1, a1, b1⟩ := r1.get q1
      obtain ⟨v2, a2, b2⟩ := r2.get q2
      have i1 : i < xs.length := (List.getElem?_eq_some_iff.mp a1).1
      have i2 : i < ys.length := (List.getElem?_eq_some_iff.mp a2).1
      refine ⟨⟨i1, i2, ⟨xs, hH1, rfl⟩, ys, hH2, rfl⟩, fun x H' y => ?_⟩
      obtain ⟨T, y1, y2, rfl, hT, rfl, hy1, hy2⟩ := y
      have e1 := hy1 xs hH1
      have e2 := hy2 ys hH2
      rw [a1] at e1
      rw [a2] at e2
      cases e1
      cases e2
      exact ok_layT ok hT (Rep.mono ex _ _ b1) (Rep.mono ex _ _ b2)
def zip2 : List D → Option (List D)
  | [a, b] => match itemsOf a with
    | some xs => match itemsOf b with
      | some ys => some (zipD xs ys)
      | none => none
    | none => none
  | _ => none
def zip2S : List D → Option (List D)
  | [a, b] => match itemsOf a with
    | some xs => match itemsOf b with
      | some ys => if xs.length = ys.length then some (zipD xs ys) else none
      | none => none
    | none => none
  | _ => none
theorem zip_red {b : Bool} {K : PySem.W.Frag} {H1 B1 : Hp} {G : Ent} {σ : L2.St} {env : Lvs} {vs : List V} {a c : D} {xs ys : List D} {R : It → Hp → Prop} (ok : Ok K G B1 H1 σ env) (r : Reps K B1 [a, c] vs) (ha : itemsOf a = some xs) (hc : itemsOf c = some ys) (hb : b = true → xs.length = ys.length)
    (k : ∀ J, Walks K J B1 (zipD xs ys) → R J H1) : ∃ v1 v2 us ws, vs = [v1, v2] ∧ (b = true → us.length = ws.length) ∧ Src K H1 v1 us fun k1 => Src K H1 v2 ws fun k2 => R (ItzB K k1 k2 us.length ws.length) H1 := by
  obtain ⟨v1, v2, rfl, r1, r2⟩ := reps2 r
  obtain ⟨us, e1, q1, S1⟩ := src_of (H := H1) ha r1 ok.sub
  obtain ⟨ws, e2, q2, S2⟩ := src_of (H := H1) hc r2 ok.sub
  exact ⟨v1, v2, us, ws, rfl, fun z => by rw [e1, e2]; exact hb z, S1 _ fun k1 h1 => S2 _ fun k2 h2 => k _ (walks_zip h1 q1 h2 q2)⟩
def iZipM (m : M (List D)) : M (List D) := bnd m fun ds => lft (zip2 ds)
def iZipSM (m : M (List D)) : M (List D) := bnd m fun ds => lft (zip2S ds)
theorem pdi_zip {e e2 : Expr} {m : M (List D)} {p pos tpos : Pos} {elts : List Expr} {kk : Nat} (hm : X.mg "zip" = none) (ha : PDA X [e, e2] m) (hg : Gl X "zip" := by rfl)
    (hs : starEach [e, e2] X.env = (false, eval e X.env) :: starEach [e2] X.env := by rfl) (hpl : (backTo pos (starEach [e2] X.env)).any (·.1) = false := by rfl) :
    PDI X (.Tuple elts kk tpos) (.Call (.Name "zip" p) [e, e2] [] pos) (iZipM m) :=
  pi_mono (pi_zipN hg hm ha hs hpl) fun σ H R ⟨G, B, env, ds, env', ok, e, k⟩ => by
    obtain ⟨as, e1, q1, q2⟩ := bnd_some e
    obtain ⟨z, q5, q6⟩ := lft_some q2
    cases q6
    unfold zip2 at q5
    split at q5
    rotate_left
    · cases q5
    rename_i a c
    split at q5
    rotate_left
    · cases q5
    rename_i xs hx
    split at q5
    rotate_left
    · cases q5
    rename_i ys hy
    cases q5
    exact tA_of ok q1 fun v B1 H1 ok1 _ r => zip_red (b := false) ok1 r hx hy (fun z => by cases z) fun J W => k J B1 H1 ok1 W
theorem pdi_zipS {e e2 : Expr} {m : M (List D)} {p pos tpos kp cp : Pos} {j : Nat} {elts : List Expr} {kk : Nat} (hm : X.mg "zip" = none) (ha : PDA X [e, e2] m) (hg : Gl X "zip" := by rfl)
    (he : backTo pos (starEach [e, e2] X.env) = (false, eval e X.env) :: backTo pos (starEach [e2] X.env) := by rfl) (hpl : (backTo pos (starEach [e, e2] X.env)).any (·.1) = false := by rfl)
    (hall : (backToKw pos (keywordEach [⟨some ("strict" : Str), .Constant (.bool true) j cp, kp⟩] X.env)).all (·.1.isSome) = true := by rfl) (hnone : (backToKw pos (keywordEach [⟨some ("strict" : Str), .Constant (.bool true) j cp, kp⟩] X.env)).any (·.1.isNone) = false := by rfl)
    (hks : (backToKw pos (keywordEach [⟨some ("strict" : Str), .Constant (.bool true) j cp, kp⟩] X.env)).filterMap (·.1) = [("strict" : Str)] := by rfl) :
    PDI X (.Tuple elts kk tpos) (.Call (.Name "zip" p) [e, e2] [⟨some ("strict" : Str), .Constant (.bool true) j cp, kp⟩] pos) (iZipSM m) :=
  pi_mono (pi_zipS hg hm ha he hpl hall hnone hks) fun σ H R ⟨G, B, env, ds, env', ok, e, k⟩ => by
    obtain ⟨as, e1, q1, q2⟩ := bnd_some e
    obtain ⟨z, q5, q6⟩ := lft_some q2
    cases q6
    unfold zip2S at q5
    split at q5
    rotate_left
    · cases q5
    rename_i a c
    split at q5
    rotate_left
    · cases q5
    rename_i xs hx
    split at q5
    rotate_left
    · cases q5
    rename_i ys hy
    split at q5
    rotate_left
    · cases q5
    rename_i hl
    cases q5
    exact tA_of ok q1 fun v B1 H1 ok1 _ r => zip_red (b := true) ok1 r hx hy (fun _ => hl) fun J W => k J B1 H1 ok1 W
end
end Dv
/-! reversed over lists, tuples and texts. -/
namespace Dv
open PySem PySem.Spec PyProof.Rows L2 Evl
theorem norev_str : typeLookup (.type "str") "__reversed__" = pure none := by rw [typeLookup_type, builtinLookup_eq_fast]; kernel_rfl
theorem get_str_at : typeLookup (.type "str") "__getitem__" = pure (some (.builtin "str.__getitem__")) := by rw [typeLookup_type, builtinLookup_eq_fast]; kernel_rfl
def rsObj (x : Str) (t : Tok) (i : Int) : Obj := { cls := .type "reversed", data := .fields #[.str x t, rawInt i] }
/-- reversed(text), the next place i -/
def IsRs (h : Heap) (a : Addr) (x : Str) (t : Tok) (i : Int) : Prop := ∃ o, h.get? a = some o ∧ o.cls = .type "reversed" ∧ o.data = .fields #[.str x t, rawInt i]
theorem IsRs.at {h h' : Heap} {a : Addr} {x : Str} {t : Tok} {i : Int} (y : IsRs h a x t i) (e : ∀ o, h.get? a = some o → h'.get? a = some o) : IsRs h' a x t i := let ⟨o, ho, r⟩ := y; ⟨o, e _ ho, r⟩
section
variable {prog : Program} {w : World} {A : Around} {E : Value → Shared → Prop} {s : Shared} {x : Str} {t : Tok}
theorem IsRs.typeIs {a : Addr} {i : Int} (y : IsRs s.heap a x t i) : s.TypeIs (.ref a) "reversed" := let ⟨o, ho, hc, _⟩ := y; ⟨o, ho, hc⟩
theorem code_revS {Q₁ : Value → Shared → Prop} (hx : (x.length : Int) < 2 ^ 63)
    (h : Q₁ (.ref s.heap.objs.size) { s with heap := s.heap.push (rsObj x t ((x.length : Int) - 1)), toks := s.toks + 1 + 1 }) :
    codeAny (model prog w) A (.call (.builtin "reversed.__new__") ⟨[.type "reversed", .str x t], []⟩) (wants Q₁ E) s := by
  have hT : s.TypeIs (.str x t) "str" := typeIs_str s x t
  refine codeAny_of_tree ?_
  show wpAny _ A.in1 (do checkBuiltinCall "reversed.__new__" ⟨[.type "reversed", .str x t], []⟩; again (.builtin "reversed.__new__" ⟨[.type "reversed", .str x t], []⟩)) _ _ s
  refine wpAny_bind (wpAny_of_eq (F.newCall_reversed_1 _) (wpAny_pure ⟨plainId_quiet F.plain_reversed_new _, codeAny_builtin F.entry_reversed_new ?_⟩))
  rw [Around.under_plainId F.plain_reversed_new _]
  unfold Builtin.«reversed.__new__»
  refine wpAny_bind (wpAny_of_eq (newClass_reversed _) ?_)
  try dsimp only
  refine wpAny_bind (wpAny_of_eq (a := ()) (by first | rfl | kernel_rfl) ?_)
  try dsimp only
  refine wpAny_bind (wpAny_of_eq (a := ()) (by first | rfl | kernel_rfl) ?_)
  try dsimp only
  refine wpAny_bind (wpAny_specialOf hT norev_str ?_)
  try dsimp only
  refine wpAny_bind ?_
  wp_delta
  refine wpAny_bind (wpAny_isInstance (T := "str") (U := "dict") (b := false) hT PySem.F.sub_str_dict ?_)
  try dsimp only
  try rw [if_neg Bool.false_ne_true]
  try dsimp only
  refine wpAny_bind (wpAny_specialOf hT get_str_at ?_)
  try dsimp only
  try rw [if_pos (by decide +kernel)]
  refine wpAny_pure ?_
  try dsimp only
  try rw [if_neg (by decide)]
  try dsimp only
  refine wpAny_bind (PySem.P.len_str (by omega) ?_)
  refine wpAny_bind (wpAny_of_eq (a := some ((x.length : Nat) : Int)) rfl ?_)
  try dsimp only
  refine wpAny_bind ?_
  show wpAny _ _ (newObj (.type "reversed") (.fields #[.str x t, rawInt ((x.length : Int) - 1)])) _ _ _
  refine wpAny_newObj_type ?_
  exact wpAny_pure h
theorem call_revS {Q : Value → Shared → Prop} (hx : (x.length : Int) < 2 ^ 63)
    (h : Q (.ref s.heap.objs.size) { s with heap := s.heap.push (rsObj x t ((x.length : Int) - 1)), toks := s.toks + 1 + 1 }) : wpAny (model prog w) A (call (.type "reversed") [.str x t]) Q E s := by
  refine callType_codes (Q₁ := fun obj s₁ => s₁.TypeIs obj "reversed" ∧ Q obj s₁) RT.called_rt (F.typeCall_reversed_1 _) F.entry_object_init
    (code_revS (A := A.in1) hx ⟨⟨_, Heap.get?_push_size _ rfl, rfl⟩, h⟩) fun obj s₁ h₁ => ?_
  exact ⟨h₁.1, F.args_object_init_2 obj _, object_init_meets RT.called_rt.init.lookup RT.called_rt.made (by decide) prog w A.in1 _ s₁ ⟨h₁.1, rfl, h₁.2⟩⟩
theorem next_rs_item {it : Addr} {i c : Nat} {Q : Option Value → Shared → Prop} (hit : IsRs s.heap it x t (i : Int)) (hx : x.cps[i]? = some c) (hsz : x.length ≤ sizeLine)
    (hQ : ∀ h' tk, IsRs h' it x t ((i : Int) - 1) → Heap.SameBut it s.heap h' → Q (some (.str ⟨#[c]⟩ tk)) { s with heap := h', toks := s.toks + 1 + 1 }) : wpAny (model prog w) A (pyNext (.ref it)) Q E s := by
  obtain ⟨o, ho, hc, hd⟩ := id hit
  have hi : i < x.length := (Array.getElem?_eq_some_iff.mp hx).1
  have hT : s.TypeIs (.str x t) "str" := typeIs_str s x t
  rw [sizeLine_eq] at hsz
  unfold pyNext
  refine wpAny_bind (wpAny_attempt (wpAny_callSpecial?_slot (name := Str.ofString "__next__") hit.typeIs RT.slot_rt_next
    (wpAny_call_entry RT.slot_rt_next hit.typeIs RT.entry_rt_next ?_ (RT.args_rt_next _))))
  unfold Builtin.«reversed.__next__»
  refine wpAny_bind (wpAny_of_eq (a := (Value.ref it, [])) rfl ?_)
  try dsimp only
  refine wpAny_bind (wpAny_field ho hd (x := .str x t) rfl ?_)
  try dsimp only
  refine wpAny_bind (wpAny_field ho hd (x := rawInt (i : Int)) rfl ?_)
  show wpAny _ _ (if (i : Int) < 0 then _ else _) _ _ s
  rw [if_neg (by omega)]
  try dsimp only
  refine wpAny_bind (wpAny_specialOf hT get_str_at ?_)
  try dsimp only
  try rw [if_neg (by decide)]
  try dsimp only
  refine wpAny_bind (wpAny_mkInt ?_)
  refine wpAny_bind (wpAny_attempt ?_)
  have fin : seqIndex? (i : Int) x.length = some i := seqIndex_of (by omega) (by omega)
  refine PySem.P.getItem_str (s := { s with toks := s.toks + 1 }) (by simp only [Bool.or_eq_false_iff, decide_eq_false_iff_not]; omega) (by rw [fin]; exact hx) ?_
  try dsimp only
  refine wpAny_bind (wpAny_field (s := { s with toks := s.toks + 1 + 1 }) ho hd (x := rawInt (i : Int)) rfl ?_)
  try dsimp only
  refine wpAny_bind (wpAny_setField (s := { s with toks := s.toks + 1 + 1 }) ho hd (by simp) ?_)
  first
  | refine wpAny_pure ⟨_, rfl, wpAny_pure (hQ _ _ ?_ (Heap.SameBut.update ..))⟩
  | refine wpAny_bind (wpAny_pure (wpAny_pure ⟨_, rfl, wpAny_pure (hQ _ _ ?_ (Heap.SameBut.update ..))⟩))
  exact ⟨_, Heap.get?_update_self _ ho (Obj.isFreed_of_fields (Obj.data_mapFields hd _)), (Obj.cls_mapFields ..).trans hc, by
    rw [Obj.data_mapFields hd]; simp⟩
theorem next_rs_end {it : Addr} {Q : Option Value → Shared → Prop} (hh : A.handled = none) (hit : IsRs s.heap it x t (-1))
    (hQ : ∀ h', Heap.ExtBut it s.heap h' → Q none { s with heap := h' }) : wpAny (model prog w) A (pyNext (.ref it)) Q E s := by
  obtain ⟨o, ho, hc, hd⟩ := id hit
  unfold pyNext
  refine wpAny_bind (wpAny_attempt (wpAny_callSpecial?_slot (name := Str.ofString "__next__") hit.typeIs RT.slot_rt_next
    (wpAny_call_entry RT.slot_rt_next hit.typeIs RT.entry_rt_next ?_ (RT.args_rt_next _))))
  unfold Builtin.«reversed.__next__»
  refine wpAny_bind (wpAny_of_eq (a := (Value.ref it, [])) rfl ?_)
  try dsimp only
  refine wpAny_bind (wpAny_field ho hd (x := .str x t) rfl ?_)
  try dsimp only
  refine wpAny_bind (wpAny_field ho hd (x := rawInt (-1)) rfl ?_)
  show wpAny _ _ (if (-1 : Int) < 0 then _ else _) _ _ s
  rw [if_pos (by decide)]
  try dsimp only
  refine wpAny_bind (wpAny_rule ?_)
  refine wpAny_bind ?_
  wp_delta
  refine wpAny_bind (wpAny_setField ho hd (by simp) ?_)
  have ho2 := Heap.get?_update_self (Obj.mapFields (·.setIfInBounds 1 (rawInt (-1)))) ho (Obj.isFreed_of_fields (Obj.data_mapFields hd _))
  refine wpAny_setField (s := { s with heap := s.heap.update it (Obj.mapFields (·.setIfInBounds 1 (rawInt (-1)))) }) ho2 (Obj.data_mapFields hd _) (by simp) ?_
  try dsimp only
  first
  | show wpAny _ _ (newExc (.type "StopIteration") [] >>= _) _ _ _
  | (refine wpAny_bind ?_; show wpAny _ _ (newExc (.type "StopIteration") [] >>= _) _ _ _)
  | (refine wpAny_bind ?_; wp_delta; show wpAny _ _ (newExc (.type "StopIteration") [] >>= _) _ _ _)
  refine wpAny_bind ?_
  simp only [newExc, newTuple]
  refine wpAny_bind (wpAny_newObj_type ?_ (by size_fits))
  refine wpAny_bind (m := firstArgMember _ _) (wpAny_of_eq (a := Value.none) (by first | rfl | (simp only [firstArgMember]; rfl)) ?_)
  refine wpAny_newObj_type ?_ (by size_fits)
  simp only [raiseNew]
  refine wpAny_bind (wpAny_handled ?_)
  first | rw [show A.in1.handled = none from hh] | rw [hh]
  refine wpAny_bind (wpAny_pure (wpAny_throw ?_))
  refine wpAny_bind (wpAny_isInstance (T := "StopIteration") (b := true) ⟨_, Heap.get?_push_size _ rfl, rfl⟩ isSubtype_stop ?_)
  refine wpAny_pure (hQ _ ?_)
  refine ((?_ : Heap.ExtBut it s.heap _).push _).push _
  exact fun b ob hb e => (Heap.get?_update_other _ _ (Ne.symm hb)).trans ((Heap.get?_update_other _ _ (Ne.symm hb)).trans e)
theorem iter_rs {it : Addr} {i : Int} {Q : Value → Shared → Prop} (hit : IsRs s.heap it x t i) (h : Q (.ref it) s) : wpAny (model prog w) A (pyIter (.ref it)) Q E s := by
  refine wpAny_pyIter_slot hit.typeIs RT.slot_rt_iter (wpAny_call_entry RT.slot_rt_iter hit.typeIs RT.entry_rt_iter ?_ (RT.args_rt_iter _))
  show wpAny _ _ (PySem.ret (.ref it)) _ _ s
  exact wpAny_pure ⟨_, rfl, "reversed", _, hit.typeIs, RT.slot_rt_next.lookup, h⟩
end
/-- a text's signs from its end -/
def ItvS (x : Str) : It := ⟨fun i _ => i < x.cps.size, fun i H v H' => H' = H ∧ ∃ c, x.cps[x.cps.size - 1 - i]? = some c ∧ v = .str ⟨#[c]⟩, fun i _ => x.cps.size ≤ i⟩
theorem turn_rs {P : Program} {w : World} {K : PySem.W.Frag} {tg : Expr} (it : Addr) (x : Str) (t : Tok) (hz : x.length ≤ sizeLine) :
    Turn P w K tg (ItvS x) [it] it (fun i h => i ≤ x.cps.size ∧ IsRs h it x t ((x.cps.size : Int) - 1 - (i : Nat))) where
  mem := List.mem_singleton.mpr rfl
  obj := fun i h st b hb => by
    have e := List.mem_singleton.mp hb
    subst e
    obtain ⟨_, o, e, c, d⟩ := st
    exact ⟨o, e, fun v z => by rw [d] at z; cases z⟩
  keep := fun i h h' st k => ⟨st.1, st.2.at fun o e => k it (List.mem_singleton.mpr rfl) o e⟩
  item := by
    intro X hP hw hK hc i pins s σ H E I hf st hg
    subst hP hw hK
    have hin : i < x.cps.size := hg
    obtain ⟨f0, f1, f2, f3, f4, f5⟩ := hf it (List.mem_singleton.mpr rfl)
    obtain ⟨_, hit⟩ := st
    have e1 : (x.cps.size : Int) - 1 - ((i : Nat) : Int) = ((x.cps.size - 1 - i : Nat) : Int) := by omega
    rw [e1] at hit
    have hx : x.cps[x.cps.size - 1 - i]? = some (x.cps[x.cps.size - 1 - i]'(by omega)) := Array.getElem?_eq_getElem (by omega)
    refine next_rs_item hit hx hz fun h' tk st' sb => ?_
    have e2 : ((x.cps.size - 1 - i : Nat) : Int) - 1 = (x.cps.size : Int) - 1 - ((i + 1 : Nat) : Int) := by omega
    rw [e2] at st'
    have I1 : Inv X pins σ H { s with heap := h', toks := s.toks + 1 + 1 } := I.turned (t' := s.toks + 1 + 1) (fun b o hb e => (sb.2 b hb).trans e) f0 f1 f3 f4 f5
    obtain ⟨o, e, c, d⟩ := id st'
    exact ⟨_, rfl, go_of (s := { s with heap := h', toks := s.toks + 1 + 1 }) e c d (by decide) ⟨.str ⟨#[_]⟩, H, I1, ⟨tk, rfl⟩, ⟨rfl, _, hx, rfl⟩, ⟨hin, st'⟩, fun b hb => (hf b hb).1⟩⟩
  done := by
    intro X hP hw hK hc i pins s σ H E I hf st hg
    subst hP hw hK
    obtain ⟨f0, f1, f2, f3, f4, f5⟩ := hf it (List.mem_singleton.mpr rfl)
    obtain ⟨hin, hit⟩ := st
    have hge : x.cps.size ≤ i := hg
    have e1 : (x.cps.size : Int) - 1 - ((i : Nat) : Int) = -1 := by omega
    rw [e1] at hit
    exact next_rs_end (I.ok.hd hc) hit fun h' eb => ⟨rfl, I.turned (t' := s.toks) (fun b o hb e => eb b o hb e) f0 f1 f3 f4 f5⟩
  self := fun A i s Q E st h => iter_rs st.2 h
def iRevS (te : TE) : TI := fun σ H R => te σ H fun v H1 => ∃ x, v = .str x ∧ x.length ≤ sizeLine ∧ R (ItvS x) H1
section
variable {X : Cx} {tg : Expr}
theorem pi_revS {e : Expr} {te : TE} {p pos : Pos} (hg : Gl X "reversed") (hm : X.mg "reversed" = none) (he : PE X e te) (hs : starEach [e] X.env = (false, eval e X.env) :: starEach [] X.env := by rfl) : PI X tg (.Call (.Name "reversed" p) [e] [] pos) (iRevS te) := by
  refine ⟨fun pins s σ H R I h => ?_⟩
  refine Call_ (ld_blt I hg hm PyProof.Rows.boot_reversed (PyProof.Rows.callWith_type1 (args_cons (thn (he.run pins s σ H _ I h) fun u s1 ⟨v, H1, I1, r1, q1⟩ => args_nil ?_) hs) hs rfl))
  obtain ⟨x, ev, hx, q⟩ := q1
  subst ev
  obtain ⟨t, rfl⟩ := r1
  have hn := line63
  have e1 : ((x.length : Nat) : Int) - 1 = (x.cps.size : Int) - 1 - ((0 : Nat) : Int) := by show (x.cps.size : Int) - 1 = _; omega
  refine call_revS (by omega) (iter_rs (x := x) (t := t) (i := (x.length : Int) - 1) ⟨_, Heap.get?_push_size _ rfl, rfl, rfl⟩ ?_)
  refine pi_one (tk := s1.toks + 1 + 1) I1 _ (turn_rs _ x t hx) ⟨Nat.zero_le _, ?_⟩ q
  rw [← e1]
  exact ⟨_, Heap.get?_push_size _ rfl, rfl, rfl⟩
theorem rev_at {A : Type} {xs : List A} {i : Nat} {x : A} (h : xs.reverse[i]? = some x) : i < xs.length ∧ xs[xs.length - 1 - i]? = some x := by
  have hi : i < xs.length := by
    have := (List.getElem?_eq_some_iff.mp h).1
    rwa [List.length_reverse] at this
  rw [List.getElem?_reverse hi] at h
  exact ⟨hi, h⟩
theorem walks_revL {K : PySem.W.Frag} {a : Addr} {vs : List V} {ds : List D} {B0 : Hp} (hs : SqL K B0 a vs) (hr : Reps K B0 ds vs) : Walks K (Itv K a vs.length) B0 ds.reverse := fun G B H σ env i ex ok => by
  have hH : SqL K H a vs := ex_l (ex.trans ok.sub) hs
  have hl := hr.length
  refine ⟨fun d e => ?_, fun h => by show vs.length ≤ i; rw [List.length_reverse] at h; omega⟩
  obtain ⟨hi, e⟩ := rev_at e
  obtain ⟨v, q1, q2⟩ := hr.get e
  rw [← hl] at q1 hi
  refine ⟨⟨hi, vs, v, hH, q1⟩, fun x H' y => ?_⟩
  obtain ⟨rfl, y⟩ := y
  have e2 := y vs hH
  rw [q1] at e2
  cases e2
  exact ⟨B, ok, ok.self, Rep.mono ex _ _ q2⟩
theorem walks_revT {K : PySem.W.Frag} {a : Addr} {vs : List V} {ds : List D} {B0 : Hp} (hs : SqT K B0 a vs) (hr : Reps K B0 ds vs) : Walks K (RT.ItvT K a vs.length) B0 ds.reverse := fun G B H σ env i ex ok => by
  have hH : SqT K H a vs := ex_t (ex.trans ok.sub) hs
  have hl := hr.length
  refine ⟨fun d e => ?_, fun h => by show vs.length ≤ i; rw [List.length_reverse] at h; omega⟩
  obtain ⟨hi, e⟩ := rev_at e
  obtain ⟨v, q1, q2⟩ := hr.get e
  rw [← hl] at q1 hi
  refine ⟨⟨hi, vs, v, hH, q1⟩, fun x H' y => ?_⟩
  obtain ⟨rfl, y⟩ := y
  have e2 := y vs hH
  rw [q1] at e2
  cases e2
  exact ⟨B, ok, ok.self, Rep.mono ex _ _ q2⟩
theorem walks_revS {K : PySem.W.Frag} {s : List Nat} {B0 : Hp} : Walks K (ItvS (mkS s)) B0 (s.map fun c => D.str [c]).reverse := fun G B H σ env i ex ok => by
  have hsz : (mkS s).cps.size = s.length := mkS_len s
  refine ⟨fun d e => ?_, fun h => by show (mkS s).cps.size ≤ i; rw [List.length_reverse, List.length_map] at h; omega⟩
  obtain ⟨hi, e⟩ := rev_at e
  rw [List.length_map] at hi e
  rw [List.getElem?_map] at e
  cases q : s[s.length - 1 - i]? with
  | none => rw [q] at e; cases e
  | some c =>
    rw [q] at e
    cases e
    refine ⟨by show i < (mkS s).cps.size; omega, fun x H' y => ?_⟩
    obtain ⟨rfl, c', y1, y2⟩ := y
    have hc : (mkS s).cps[(mkS s).cps.size - 1 - i]? = s[s.length - 1 - i]? := by rw [hsz]; simp [mkS]
    rw [hc, q] at y1
    cases y1
    exact ⟨B, ok, ok.self, y2⟩
def iRevM (m : M D) : M (List D) := bnd m fun d => match d with
  | .str s => if lim s.length = true then ret (s.map fun c => D.str [c]).reverse else stuck
  | .lst ds => ret ds.reverse
  | .fls ds => ret ds.reverse
  | .tup ds => ret ds.reverse
  | _ => stuck
theorem pdi_rev {e : Expr} {m : M D} {p pos : Pos} (hm : X.mg "reversed" = none) (he : PD X e m) (hg : Gl X "reversed" := by rfl) (hs : starEach [e] X.env = (false, eval e X.env) :: starEach [] X.env := by rfl) :
    PDI X tg (.Call (.Name "reversed" p) [e] [] pos) (iRevM m) :=
  pi_mono (pi_or (RT.pi_revA hg hm he hs) (pi_revS hg hm he hs)) fun σ H R ⟨G, B, env, ds, env', ok, e, k⟩ => by
    obtain ⟨d, e1, q1, q2⟩ := bnd_some e
    cases d with
    | lst es =>
      cases ret_some q2
      exact .inl (tD_of ok q1 fun v B1 H1 ok1 _ r => by
        obtain ⟨a, vs, rfl, hs, hr⟩ := r
        exact ⟨a, vs, rfl, .inl ⟨SqL.of (ok1.sub _ _ hs), k _ B1 H1 ok1 (walks_revL (SqL.of hs) hr)⟩⟩)
    | fls es =>
      cases ret_some q2
      exact .inl (tD_of ok q1 fun v B1 H1 ok1 _ r => by
        obtain ⟨a, vs, rfl, hs, hr⟩ := r
        exact ⟨a, vs, rfl, .inl ⟨ex_l ok1.sub hs, k _ B1 H1 ok1 (walks_revL hs hr)⟩⟩)
    | tup es =>
      cases ret_some q2
      exact .inl (tD_of ok q1 fun v B1 H1 ok1 _ r => by
        obtain ⟨a, vs, rfl, hs, hr⟩ := r
        exact ⟨a, vs, rfl, .inr ⟨ex_t ok1.sub hs, k _ B1 H1 ok1 (walks_revT hs hr)⟩⟩)
    | str s =>
      have q2 : (if lim s.length = true then ret (s.map fun c => D.str [c]).reverse else stuck : M (List D)) e1 = some (ds, env') := q2
      split at q2
      · rename_i hl
        cases ret_some q2
        exact .inr (tD_of ok q1 fun v B1 H1 ok1 _ r => ⟨mkS s, r, by rw [mkS_len]; exact lim_ok hl, k _ B1 H1 ok1 walks_revS⟩)
      · cases q2
    | _ => cases q2
end
end Dv
/-! list(x), tuple(x), xs.reverse(), < of tuples of ints. -/
namespace Dv
open PySem PySem.Spec PyProof.Rows L2 Evl
section
variable {X : Cx}
theorem vals_at : ∀ (vs : List V) (us : List Value), vs.length = us.length → (∀ (j : Nat) (u : Value), us[j]? = some u → ∃ v, vs[j]? = some v ∧ RelV v u) → Vals vs us
  | [], [], _, _ => .nil
  | [], _ :: _, h, _ => by simp at h
  | _ :: _, [], h, _ => by simp at h
  | v :: vs, u :: us, h, k => by
    obtain ⟨v', e, r⟩ := k 0 u rfl
    cases e
    exact .cons r (vals_at vs us (by simpa using h) fun j w hj => k (j + 1) w (by simpa using hj))
/-- list(text) -/
theorem call_list_text : X.calm = true → CallR X (.type "list") (fun xs H Q => ∃ x : Str, xs = [.str x] ∧ x.length ≤ sizeLine ∧ ∀ l, H l = none → Q (.ref l) (upd H l (.lst (x.cps.toList.map fun c => V.str ⟨#[c]⟩)))) := by
  intro hc pins s σ H xs us Q I r h
  obtain ⟨x, rfl, hz, q⟩ := h
  obtain ⟨u, rfl, rx⟩ := vals1 r
  obtain ⟨t, rfl⟩ := rx
  refine PySem.call_list_str (I.ok.hd hc) x t (fun h' tk acc c' kp e hi => ?_) hz
  have hl : (x.cps.toList.map fun c => V.str ⟨#[c]⟩).length = x.cps.size := by rw [List.length_map]; rfl
  refine ⟨.ref s.heap.objs.size, _, I.laid (t' := tk) kp (Nat.le_refl _) (show ObjOk X.prog X.w _ h' _ (.lst (x.cps.toList.map fun c => V.str ⟨#[c]⟩)) from ⟨by rw [hl]; exact hz, acc.toList, c', ?_, by rw [Array.toArray_toList]; exact e⟩), rfl, q _ (I.hok.fresh (Nat.le_refl _))⟩
  refine vals_at _ _ (by rw [hl, Array.length_toList]; exact hi.1.symm) fun j u hj => ?_
  have hs := hi.2 j u (by rw [← Array.getElem?_toList]; exact hj)
  obtain ⟨c, k, hcx, rfl⟩ := hs
  refine ⟨.str ⟨#[c]⟩, ?_, k, rfl⟩
  rw [List.getElem?_map, Array.getElem?_toList, hcx]
  rfl
/-- a new list of the items -/
def eListOf (m : M D) : M D := bnd m fun d => match d with
  | .str s => if lim s.length = true then ret (.lst (s.map fun c => .str [c])) else stuck
  | .lst ds => ret (.lst ds)
  | .fls ds => ret (.lst ds)
  | .tup ds => ret (.lst ds)
  | _ => stuck
theorem pe_or {e : Expr} {t t' : TE} (h : PE X e t) (h' : PE X e t') : PE X e (fun σ H Q => t σ H Q ∨ t' σ H Q) := ⟨fun pins s σ H Q I q => q.elim (h.run pins s σ H Q I) (h'.run pins s σ H Q I)⟩
theorem pf_list {e : Expr} {m : M D} {p pos : Pos} (h : PD X e m) (hm : X.mg "list" = none) (hg : Gl X "list" := by rfl) (hc : X.calm = true := by rfl) (na : starEach [e] X.env = (false, eval e X.env) :: starEach [] X.env := by rfl) :
    PF X (.Call (.Name "list" p) [e] [] pos) (eListOf m) :=
  pe_mono (pe_or (pe_callTy call_list_of hg hm (by decide +kernel) (pa_cons h pa_nil na) (he := na)) (pe_callTy (call_list_text hc) hg hm (by decide +kernel) (pa_cons h pa_nil na) (he := na))) fun σ H Q ⟨G, B, env, d, env', ok, e, k⟩ => by
    obtain ⟨x, e1, q1, q2⟩ := bnd_some e
    cases x with
    | lst ds =>
      cases ret_some q2
      exact .inl (tD_of ok q1 fun v B1 H1 ok1 _ r => by
        obtain ⟨a, vs, rfl, hs, hr⟩ := r
        exact ⟨a, vs, rfl, .inl (SqL.of (ok1.sub _ _ hs)), fun p hp => k p B1 _ (ok1.tmp hp) (fresh_back ok1.sub hp) ⟨vs, upd_same, hr⟩ (ok1.live p hp) (ok1.notOwn hp)⟩)
    | fls ds =>
      cases ret_some q2
      exact .inl (tD_of ok q1 fun v B1 H1 ok1 _ r => by
        obtain ⟨a, vs, rfl, hs, hr⟩ := r
        exact ⟨a, vs, rfl, .inl (ex_l ok1.sub hs), fun p hp => k p B1 _ (ok1.tmp hp) (fresh_back ok1.sub hp) ⟨vs, upd_same, hr⟩ (ok1.live p hp) (ok1.notOwn hp)⟩)
    | tup ds =>
      cases ret_some q2
      exact .inl (tD_of ok q1 fun v B1 H1 ok1 _ r => by
        obtain ⟨a, vs, rfl, hs, hr⟩ := r
        exact ⟨a, vs, rfl, .inr (ex_t ok1.sub hs), fun p hp => k p B1 _ (ok1.tmp hp) (fresh_back ok1.sub hp) ⟨vs, upd_same, hr⟩ (ok1.live p hp) (ok1.notOwn hp)⟩)
    | str s =>
      have q2 : (if lim s.length = true then ret (.lst (s.map fun c => .str [c])) else stuck : M D) e1 = some (d, env') := q2
      split at q2
      · rename_i hl
        cases ret_some q2
        have hr : ∀ (B : Hp) (s : List Nat), Reps X.K B (s.map fun c => D.str [c]) (s.map fun c => V.str ⟨#[c]⟩) := by
          intro B s
          induction s with
          | nil => exact rfl
          | cons c s ih => exact ⟨_, _, rfl, rfl, ih⟩
        exact .inr (tD_of ok q1 fun v B1 H1 ok1 _ r => ⟨mkS s, by rw [show v = _ from r], by rw [mkS_len]; exact lim_ok hl, fun p hp => k p B1 _ (ok1.tmp hp) (fresh_back ok1.sub hp) ⟨_, upd_same, hr B1 s⟩ (ok1.live p hp) (ok1.notOwn hp)⟩)
      · cases q2
    | _ => cases q2
/-- tuple(x) -/
def eTupOf (m : M D) : M D := bnd m fun d => match d with
  | .lst ds => ret (.tup ds)
  | .fls ds => ret (.tup ds)
  | .tup ds => ret (.tup ds)
  | _ => stuck
theorem pd_tuple {e : Expr} {m : M D} {p pos : Pos} (h : PD X e m) (hm : X.mg "tuple" = none) (hg : Gl X "tuple" := by rfl) (na : starEach [e] X.env = (false, eval e X.env) :: starEach [] X.env := by rfl) :
    PD X (.Call (.Name "tuple" p) [e] [] pos) (eTupOf m) :=
  pe_mono (pe_callTy call_tuple_of hg hm (by decide +kernel) (pa_cons h pa_nil na) (he := na)) fun σ H Q ⟨G, B, env, d, env', ok, e, k⟩ => by
    obtain ⟨x, e1, q1, q2⟩ := bnd_some e
    cases x with
    | lst ds =>
      cases ret_some q2
      exact tD_of ok q1 fun v B1 H1 ok1 _ r => by
        obtain ⟨a, vs, rfl, hs, hr⟩ := r
        exact ⟨a, vs, rfl, .inl ⟨SqL.of (ok1.sub _ _ hs), fun p hp => k (.ref p) _ _ (ok1.lay hp) ⟨p, vs, rfl, SqT.of upd_same, Reps.mono (Ex.new (fresh_back ok1.sub hp)) _ _ hr⟩⟩⟩
    | fls ds =>
      cases ret_some q2
      exact tD_of ok q1 fun v B1 H1 ok1 _ r => by
        obtain ⟨a, vs, rfl, hs, hr⟩ := r
        exact ⟨a, vs, rfl, .inl ⟨ex_l ok1.sub hs, fun p hp => k (.ref p) _ _ (ok1.lay hp) ⟨p, vs, rfl, SqT.of upd_same, Reps.mono (Ex.new (fresh_back ok1.sub hp)) _ _ hr⟩⟩⟩
    | tup ds =>
      cases ret_some q2
      exact tD_of ok q1 fun v B1 H1 ok1 _ r => by
        obtain ⟨a, vs, rfl, hs, hr⟩ := r
        exact ⟨a, vs, rfl, .inr ⟨ex_t ok1.sub hs, k (.ref a) B1 H1 ok1 ⟨a, vs, rfl, hs, hr⟩⟩⟩
    | _ => cases q2
/-- xs.reverse() -/
def sRevI (i : Nat) : MS := fun e => match e[i]? with
  | some (.own p (.lst ds)) => some (.nx, e.set i (.own p (.lst ds.reverse)))
  | _ => none
theorem pds_reverse {i : Nat} {x : Str} {p1 pos apos cpos : Pos} (hx : PE X (.Name x p1) (tVar i)) (hs : swapsWith (.Call (.Attribute (.Name x p1) "reverse" apos) [] [] cpos) none pos.line X.env = pure false := by rfl)
    (hbase : attributeBase (.Name x p1) "reverse" X.env (eval (.Name x p1) X.env) = eval (.Name x p1) X.env := by rfl) (hline : (apos.endLine == cpos.line) = true := by rfl) :
    PDS X (.Expr (.Call (.Attribute (.Name x p1) "reverse" apos) [] [] cpos) pos) (sRevI i) :=
  ps_mono (ps_expr (pe_bm0 PySem.F.plainAttrs_list PySem.F.slot_list_reverse PySem.F.type_list_reverse mt_reverse hx hbase (hline := hline)) hs) fun Z σ H ⟨G, B, env, o, env', ok, e, k⟩ => by
    unfold sRevI at e
    split at e
    rotate_left
    · cases e
    rename_i p ds q0
    cases e
    obtain ⟨a, s1, s2, ⟨vs, s3, s4⟩, _⟩ := ok.own i _ _ q0
    exact ⟨.ref a, s1, .inl ⟨rfl, vs, SqL.of s3⟩, a, vs, rfl, rfl, s3, k σ B _ (ok.mut q0 s1 ⟨_, rfl, s4.reverse⟩)⟩
/-- < of tuples of ints -/
def ltTI : D → D → Option D
  | .tup xs, .tup ys => match intsOf xs with
    | some ns => match intsOf ys with
      | some ms => some (.bl (HT.lexLt ns ms))
      | none => none
    | none => none
  | _, _ => none
theorem opS_ltTI {k : Nat} (hr : Room k X.A) : OpS X (compareOp .Lt) ltTI := ⟨_, op_ltT (Nat.lt_of_succ_lt (hu_of hr)), fun B H x y d e z Q ex rx ry ez k => by
  unfold ltTI at ez
  split at ez
  rotate_left
  · cases ez
  rename_i xs ys
  split at ez
  rotate_left
  · cases ez
  rename_i ns hn
  split at ez
  rotate_left
  · cases ez
  rename_i ms hm
  cases ez
  obtain ⟨a, vs, rfl, hs, hv⟩ := rx
  obtain ⟨b, us, rfl, hs2, hu⟩ := ry
  have e1 := intsOf_ok hn
  have e2 := intsOf_ok hm
  subst e1 e2
  rw [hv.of_ints] at hs
  rw [hu.of_ints] at hs2
  exact ⟨a, b, ns, ms, rfl, rfl, ex_t ex hs, ex_t ex hs2, k _ fun _ => rfl⟩⟩
end
end Dv
/-! several names at once, some of which take a new list as their own. -/
namespace Dv
open PySem PySem.Spec PyProof.Rows L2 Evl
/-- the new ones among the values; they are unlike -/
def newsV : List Av → List V → List V
  | .new _ :: r, v :: t => v :: newsV r t
  | .val _ :: r, _ :: t => newsV r t
  | .lend _ :: r, _ :: t => newsV r t
  | _, _ => []
def DistN : List Av → List V → Prop
  | .new _ :: r, v :: t => v ∉ newsV r t ∧ DistN r t
  | .val _ :: r, _ :: t => DistN r t
  | .lend _ :: r, _ :: t => DistN r t
  | _, _ => True
theorem newsV_not {G : Ent} {a : Addr} {o : HO} (ho : G.H a = some o) : ∀ {avs : List Av} {vs : List V}, NewV G avs vs → V.ref a ∉ newsV avs vs
  | [], _, _, h => by cases h
  | x :: r, [], _, h => by cases x <;> simp [newsV] at h
  | .new d :: r, v :: t, hn, h => by
    rcases List.mem_cons.mp h with e | h
    · have := hn.1 a e.symm
      rw [ho] at this
      cases this
    · exact newsV_not ho hn.2 h
  | .val d :: r, v :: t, hn, h => newsV_not (avs := r) (vs := t) ho hn h
  | .lend d :: r, v :: t, hn, h => newsV_not (avs := r) (vs := t) ho hn h
def tAn (K : PySem.W.Frag) (m : M (List Av)) : TA := fun σ H Q => ∃ G B env d env', Ok K G B H σ env ∧ m env = some (d, env') ∧ ∀ vs B' H', Ok K G B' H' σ env' → ArgV K B' H' σ env' d vs → NewV G d vs → DistN d vs → Q vs H'
def PDN (X : Cx) (es : List Expr) (m : M (List Av)) : Prop := PA X es (tAn X.K m)
section
variable {X : Cx}
theorem pdn_nil : PDN X [] (ret []) := pa_mono pa_nil fun σ H Q ⟨G, B, env, d, env', ok, e, k⟩ => by
  cases ret_some e
  exact k [] B H ok rfl trivial trivial
theorem pdn_val {e : Expr} {es : List Expr} {m : M D} {r : M (List Av)} (h : PD X e m) (q : PDN X es r) (hs : starEach (e :: es) X.env = (false, eval e X.env) :: starEach es X.env := by rfl) : PDN X (e :: es) (rVal m r) :=
  pa_mono (pa_cons h q hs) fun σ H Q ⟨G, B, env, d, env', ok, e, k⟩ => by
    obtain ⟨x, e1, q1, q2⟩ := bnd_some e
    obtain ⟨xs, e2, q3, q4⟩ := bnd_some q2
    cases ret_some q4
    refine tD_of ok q1 fun v B1 H1 ok1 _ r1 => ⟨Ent.at B1 H1 σ _, B1, _, xs, _, ok1.self, q3, fun vs B2 H2 ok2' r2 n2 d2 => ?_⟩
    exact k (v :: vs) B2 H2 (ok1.comp ok2') ⟨v, vs, rfl, Rep.mono ok2'.mono _ _ r1, r2⟩ (newV_back ok1 n2) d2
theorem pdn_new {e : Expr} {es : List Expr} {m : M D} {r : M (List Av)} (h : PF X e m) (q : PDN X es r) (hs : starEach (e :: es) X.env = (false, eval e X.env) :: starEach es X.env := by rfl) : PDN X (e :: es) (rNew m r) :=
  pa_mono (pa_cons h q hs) fun σ H Q ⟨G, B, env, d, env', ok, e, k⟩ => by
    obtain ⟨x, e1, q1, q2⟩ := bnd_some e
    obtain ⟨xs, e2, q3, q4⟩ := bnd_some q2
    cases ret_some q4
    refine tF_of ok q1 fun a B1 H1 ok1 _ h1 h2 h3 h4 => ⟨Ent.at B1 H1 σ _, B1, _, xs, _, ok1.self, q3, fun vs B2 H2 ok2' r2 n2 d2 => ?_⟩
    obtain ⟨u, hu⟩ := h2.there
    obtain ⟨s1, s2, s3⟩ := ok2'.stay hu h1 h4
    refine k (.ref a :: vs) B2 H2 (ok1.comp ok2') ⟨a, vs, rfl, s2, ?_, s3, r2⟩ ⟨fun b e => by cases e; exact ok.live a h3, newV_back ok1 n2⟩ ⟨newsV_not (G := Ent.at B1 H1 σ _) hu n2, d2⟩
    rw [s1, ← hu]; exact h2.mono ok2'.mono
end
/-- what a name takes -/
def putAv (i : Nat) : Av → Lvs → Lvs
  | .val d, e => e.set i (.val d)
  | .new d, e => e.set i (.own false d)
  | .lend _, e => e
def OneV (K : PySem.W.Frag) (G : Ent) (B H : Hp) (σ : L2.St) (env : Lvs) : Av → V → Prop
  | .val d, v => Rep K B d v
  | .new d, v => ∃ a, v = .ref a ∧ B a = none ∧ OwnAt K B (H a) d ∧ ¬ IsOwn σ env a ∧ G.H a = none
  | .lend _, _ => False
def newOne : Av → V → List V
  | .new _, v => [v]
  | _, _ => []
section
variable {K : PySem.W.Frag} {G : Ent} {B H : Hp} {σ : L2.St} {env : Lvs}
theorem Ok.putAv (ok : Ok K G B H σ env) {i : Nat} {x : Av} {v : V} (h : OneV K G B H σ env x v) : Ok K G B H (σ.set i (some v)) (Dv.putAv i x env) := by
  cases x with
  | val d => exact ok.store h
  | new d =>
    obtain ⟨a, rfl, h1, h2, h3, h4⟩ := h
    exact ok.take h1 h2 h4 h3
  | lend j => exact h.elim
theorem OneV.keep {i : Nat} {x y : Av} {v u : V} (hx : OneV K G B H σ env x v) (h : OneV K G B H σ env y u) (hd : ∀ w ∈ newOne y u, w ∉ newOne x v) : OneV K G B H (σ.set i (some v)) (Dv.putAv i x env) y u := by
  cases y with
  | val d => exact h
  | lend j => exact h
  | new d =>
    obtain ⟨a, rfl, h1, h2, h3, h4⟩ := h
    refine ⟨a, rfl, h1, h2, fun ⟨j, p, e, q1, q2⟩ => ?_, h4⟩
    have hne : v = .ref a → newOne x v = [] := fun e => by
      cases x with
      | new d' => exact absurd (show V.ref a ∈ newOne (.new d') v from List.mem_singleton.mpr e.symm) (hd _ (List.mem_singleton.mpr rfl))
      | _ => rfl
    by_cases c : j = i
    · subst c
      have hj : j < σ.length := by
        rcases Nat.lt_or_ge j σ.length with z | z
        · exact z
        · rw [List.getElem?_eq_none (by rw [List.length_set]; omega)] at q2; cases q2
      rw [List.getElem?_set_self hj] at q2
      have e2 : v = .ref a := by cases q2; rfl
      cases x with
      | val d' =>
        obtain ⟨c1, _⟩ := get_set_own q1 (fun _ _ z => nomatch z)
        exact c1 rfl
      | new d' => cases hne e2
      | lend _ => exact hx.elim
    · rw [List.getElem?_set_ne (Ne.symm c)] at q2
      cases x with
      | val d' =>
        obtain ⟨_, q1⟩ := get_set_own q1 (fun _ _ z => nomatch z)
        exact h3 ⟨j, p, e, q1, q2⟩
      | new d' =>
        have q1 : (env.set i (.own false d'))[j]? = some (.own p e) := q1
        rw [List.getElem?_set_ne (Ne.symm c)] at q1
        exact h3 ⟨j, p, e, q1, q2⟩
      | lend _ => exact hx.elim
end
def okAv : Av → Bool
  | .lend _ => false
  | _ => true
theorem oneV_of {K : PySem.W.Frag} {G : Ent} {B H : Hp} {σ : L2.St} {env : Lvs} {x : Av} {r : List Av} {vs : List V} (hx : okAv x = true) (h : ArgV K B H σ env (x :: r) vs) (n : NewV G (x :: r) vs) (d : DistN (x :: r) vs) :
    ∃ v t, vs = v :: t ∧ OneV K G B H σ env x v ∧ ArgV K B H σ env r t ∧ NewV G r t ∧ DistN r t ∧ ∀ w ∈ newOne x v, w ∉ newsV r t := by
  cases x with
  | val d' =>
    obtain ⟨v, t, rfl, h1, h2⟩ := h
    exact ⟨v, t, rfl, h1, h2, n, d, fun w hw => nomatch hw⟩
  | new d' =>
    obtain ⟨a, t, rfl, h1, h2, h3, h4⟩ := h
    exact ⟨.ref a, t, rfl, ⟨a, rfl, h1, h2, h3, n.1 a rfl⟩, h4, n.2, d.2, fun w hw => by
      rw [List.mem_singleton.mp hw]
      exact d.1⟩
  | lend j => cases hx
theorem newsV_one {x : Av} {v : V} : newsV [x] [v] = newOne x v := by cases x <;> rfl
theorem newsV_two {x y : Av} {v u : V} : newsV [x, y] [v, u] = newOne x v ++ newOne y u := by cases x <;> cases y <;> rfl
section
variable {X : Cx}
def sPar2N (i j : Nat) (m : M (List Av)) : MS := fun e => match m e with
  | some ([x, y], e1) => if (okAv x && okAv y) = true then some (.nx, putAv j y (putAv i x e1)) else none
  | _ => none
def sPar3N (i j l : Nat) (m : M (List Av)) : MS := fun e => match m e with
  | some ([x, y, z], e1) => if (okAv x && okAv y && okAv z) = true then some (.nx, putAv i x (putAv j y (putAv l z e1))) else none
  | _ => none
theorem pds_par2N (i j : Nat) {x y : Str} {a b : Expr} {m : M (List Av)} {px py pt pos : Pos} {kt k2 pt2} (ha : PDN X [a, b] m) (hN : X.N.Nodup) (hi : X.N[i]? = some x := by rfl) (hj : X.N[j]? = some y := by rfl) (hij : i ≠ j := by decide)
    (hx : X.env.scope.names.lookup x = some .local := by rfl) (hy : X.env.scope.names.lookup y = some .local := by rfl) (hc : X.calm = true := by rfl)
    (hw : swappedStores [.Tuple [.Name x px, .Name y py] kt pt] (.Tuple [a, b] k2 pt2) X.env = pure (some [x, y]) := by rfl)
    (hs : swapsWithSole [.Tuple [.Name x px, .Name y py] kt pt] (.Tuple [a, b] k2 pt2) pos.line X.env = pure false := by rfl) : PDS X (.Assign [.Tuple [.Name x px, .Name y py] kt pt] (.Tuple [a, b] k2 pt2) pos) (sPar2N i j m) :=
  ps_mono (ps_par hc hN hi hj hij hx hy ha hw hs) fun Z σ H ⟨G, B, env, o, env', ok, e, k⟩ => by
    unfold sPar2N at e
    split at e
    rotate_left
    · cases e
    rename_i u1 u2 e1 q1
    split at e
    rotate_left
    · cases e
    rename_i hk
    cases e
    rw [Bool.and_eq_true] at hk
    refine ⟨Ent.at B H σ env, B, env, _, e1, ok.self, q1, fun vs B1 H1 ok1' r n d => ?_⟩
    obtain ⟨v, t, rfl, o1, r, n, d, d1⟩ := oneV_of hk.1 r n d
    obtain ⟨v2, t2, rfl, o2, r, n, d, d2⟩ := oneV_of hk.2 r n d
    cases r
    rw [newsV_one] at d1
    exact ⟨v, v2, rfl, k _ B1 H1 (ok.comp ((ok1'.putAv o1).putAv (o1.keep o2 fun w h1 h2 => d1 w h2 h1)))⟩
theorem pds_par3N (i j l : Nat) {x y z : Str} {a b c : Expr} {m : M (List Av)} {px py pz pt pos : Pos} {kt k2 pt2} (ha : PDN X [a, b, c] m) (hN : X.N.Nodup) (hi : X.N[i]? = some x := by rfl) (hj : X.N[j]? = some y := by rfl) (hl : X.N[l]? = some z := by rfl)
    (hx : X.env.scope.names.lookup x = some .local := by rfl) (hy : X.env.scope.names.lookup y = some .local := by rfl) (hz : X.env.scope.names.lookup z = some .local := by rfl) (hc : X.calm = true := by rfl)
    (hw : swappedStores [.Tuple [.Name x px, .Name y py, .Name z pz] kt pt] (.Tuple [a, b, c] k2 pt2) X.env = pure (some [x, y, z]) := by rfl)
    (hs : swapsWithSole [.Tuple [.Name x px, .Name y py, .Name z pz] kt pt] (.Tuple [a, b, c] k2 pt2) pos.line X.env = pure false := by rfl) :
    PDS X (.Assign [.Tuple [.Name x px, .Name y py, .Name z pz] kt pt] (.Tuple [a, b, c] k2 pt2) pos) (sPar3N i j l m) :=
  ps_mono (ps_par3 hc hN hi hj hl hx hy hz ha hw hs) fun Z σ H ⟨G, B, env, o, env', ok, e, k⟩ => by
    unfold sPar3N at e
    split at e
    rotate_left
    · cases e
    rename_i u1 u2 u3 e1 q1
    split at e
    rotate_left
    · cases e
    rename_i hk
    cases e
    rw [Bool.and_eq_true, Bool.and_eq_true] at hk
    refine ⟨Ent.at B H σ env, B, env, _, e1, ok.self, q1, fun vs B1 H1 ok1' r n d => ?_⟩
    obtain ⟨v, t, rfl, o1, r, n, d, d1⟩ := oneV_of hk.1.1 r n d
    obtain ⟨v2, t2, rfl, o2, r, n, d, d2⟩ := oneV_of hk.1.2 r n d
    obtain ⟨v3, t3, rfl, o3, r, n, d, d3⟩ := oneV_of hk.2 r n d
    cases r
    rw [newsV_one] at d2
    rw [newsV_two] at d1
    have c2 := o3.keep (i := l) o2 fun w h1 h2 => d2 w h1 h2
    have c1 := o3.keep (i := l) o1 fun w h1 h2 => d1 w h1 (List.mem_append_right _ h2)
    exact ⟨v, v2, v3, rfl, k _ B1 H1 (ok.comp (((ok1'.putAv o3).putAv c2).putAv (c2.keep c1 fun w h1 h2 => d1 w h1 (List.mem_append_left _ h2))))⟩
/-! by way of a tuple: where a name is read by a comprehension -/
def Facts (K : PySem.W.Frag) (G : Ent) (B H : Hp) (σ : L2.St) (env : Lvs) : List Av → List V → Prop
  | [], [] => True
  | x :: r, v :: t => OneV K G B H σ env x v ∧ (∀ w ∈ newOne x v, w ∉ newsV r t) ∧ Facts K G B H σ env r t
  | _, _ => False
theorem facts_of {K : PySem.W.Frag} {G : Ent} {B H : Hp} {σ : L2.St} {env : Lvs} : ∀ {avs : List Av} {vs : List V}, avs.all okAv = true → ArgV K B H σ env avs vs → NewV G avs vs → DistN avs vs → Facts K G B H σ env avs vs ∧ vs.length = avs.length
  | [], vs, _, h, _, _ => by cases h; exact ⟨trivial, rfl⟩
  | x :: r, vs, hk, h, n, d => by
    rw [List.all_cons, Bool.and_eq_true] at hk
    obtain ⟨v, t, rfl, o, h, n, d, d1⟩ := oneV_of hk.1 h n d
    obtain ⟨f, l⟩ := facts_of hk.2 h n d
    exact ⟨⟨o, d1, f⟩, congrArg (· + 1) l⟩
theorem OneV.tmp {K : PySem.W.Frag} {G : Ent} {B H : Hp} {σ : L2.St} {env : Lvs} {x : Av} {v : V} {p : Addr} {o : HO} (hp : H p = none) (h : OneV K G B H σ env x v) : OneV K G B (upd H p o) σ env x v := by
  cases x with
  | val d => exact h
  | lend j => exact h
  | new d =>
    obtain ⟨a, rfl, h1, h2, h3, h4⟩ := h
    obtain ⟨u, hu⟩ := h2.there
    have hne : a ≠ p := fun e => by rw [e, hp] at hu; cases hu
    exact ⟨a, rfl, h1, by rw [upd_ne hne]; exact h2, h3, h4⟩
theorem Facts.tmp {K : PySem.W.Frag} {G : Ent} {B H : Hp} {σ : L2.St} {env : Lvs} {p : Addr} {o : HO} (hp : H p = none) : ∀ {avs : List Av} {vs : List V}, Facts K G B H σ env avs vs → Facts K G B (upd H p o) σ env avs vs
  | [], [], h => h
  | _ :: _, _ :: _, ⟨a, b, c⟩ => ⟨a.tmp hp, b, Facts.tmp hp c⟩
  | [], _ :: _, h => h
  | _ :: _, [], h => h
theorem newOne_news {y : Av} {u : V} {r : List Av} {t : List V} : newsV (y :: r) (u :: t) = newOne y u ++ newsV r t := by cases y <;> rfl
theorem Facts.keep {K : PySem.W.Frag} {G : Ent} {B H : Hp} {σ : L2.St} {env : Lvs} {i : Nat} {x : Av} {v : V} (hx : OneV K G B H σ env x v) : ∀ {avs : List Av} {vs : List V}, (∀ w ∈ newOne x v, w ∉ newsV avs vs) → Facts K G B H σ env avs vs → Facts K G B H (σ.set i (some v)) (Dv.putAv i x env) avs vs
  | [], [], _, h => h
  | y :: r, u :: t, d, ⟨a, b, c⟩ => by
    rw [newOne_news] at d
    exact ⟨hx.keep a fun w h1 h2 => d w h2 (List.mem_append_left _ h1), b, Facts.keep hx (fun w hw h => d w hw (List.mem_append_right _ h)) c⟩
  | [], _ :: _, _, h => h
  | _ :: _, [], _, h => h
def putAll : List Nat → List Av → Lvs → Lvs
  | i :: is, x :: avs, e => putAll is avs (putAv i x e)
  | _, _, e => e
def tGsN (K : PySem.W.Frag) (is : List Nat) : TGs := fun us σ H Q => ∃ G B env avs, Ok K G B H σ env ∧ Facts K G B H σ env avs us ∧ is.length = avs.length ∧ ∀ σ' B' H', Ok K G B' H' σ' (putAll is avs env) → Q σ' H'
def PDGN (X : Cx) (t : List Expr) (is : List Nat) : Prop := PGs X t (tGsN X.K is)
theorem pdgn_nil : PDGN X [] [] := pgs_mono pgs_nil fun us σ H Q ⟨G, B, env, avs, ok, f, l, k⟩ => by
  cases avs with
  | nil =>
    cases us with
    | nil => exact ⟨rfl, k σ B H ok⟩
    | cons _ _ => exact f.elim
  | cons _ _ => cases l
theorem pdgn_cons (i : Nat) {is : List Nat} {x : Str} {pos : Pos} {es : List Expr} (h : PDGN X es is) (hN : X.N.Nodup) (hi : X.N[i]? = some x := by rfl) (hx : Loc X.env.scope x := by first | exact Or.inl rfl | exact Or.inr rfl)
    (hs : (assignEach (.Name x pos :: es) X.env).map (·.2) = assign (.Name x pos) X.env :: (assignEach es X.env).map (·.2) := by rfl)
    (hf : X.fn x = true ∨ X.env.scope.names.lookup x = some .local := by first | exact .inl rfl | exact .inr rfl) : PDGN X (.Name x pos :: es) (i :: is) :=
  pgs_mono (pgs_cons (pg_name hN hi hx hf) h hs) fun us σ H Q ⟨G, B, env, avs, ok, f, l, k⟩ => by
    cases avs with
    | nil => cases l
    | cons y avs =>
      cases us with
      | nil => exact f.elim
      | cons v t =>
        obtain ⟨o, d, f⟩ := f
        exact ⟨v, t, rfl, G, B, Dv.putAv i y env, avs, ok.putAv o, f.keep o d, Nat.succ.inj l, k⟩
def sTupN (is : List Nat) (m : M (List Av)) : MS := fun e => match m e with
  | some (avs, e1) => if (avs.all okAv && decide (is.length = avs.length) && lim avs.length) = true then some (.nx, putAll is avs e1) else none
  | none => none
theorem pds_tupN {is : List Nat} {ns es : List Expr} {m : M (List Av)} {kt k2 : Nat} {pt pt2 pos : Pos} (ha : PDN X es m) (hg : PDGN X ns is) (hc : X.calm = true := by rfl) (hs : swapsWithSole [.Tuple ns kt pt] (.Tuple es k2 pt2) pos.line X.env = pure false := by rfl) (hw : swappedStores [.Tuple ns kt pt] (.Tuple es k2 pt2) X.env = pure none := by rfl)
    (h1 : (assignEach [.Tuple ns kt pt] X.env).map (·.2) = [assign (.Tuple ns kt pt) X.env] := by rfl) (hn : (assignEach ns X.env).length = is.length := by rfl) (hst : (assignEach ns X.env).findIdx? (·.1) = none := by rfl) : PDS X (.Assign [.Tuple ns kt pt] (.Tuple es k2 pt2) pos) (sTupN is m) :=
  ps_mono (ps_asg (pe_tup ha) (pg_tup hc hg hn hst) hs hw h1) fun Z σ H ⟨G, B, env, o, env', ok, e, k⟩ => by
    unfold sTupN at e
    split at e
    rotate_left
    · cases e
    rename_i avs e1 q1
    split at e
    rotate_left
    · cases e
    rename_i hk
    cases e
    rw [Bool.and_eq_true, Bool.and_eq_true] at hk
    refine ⟨Ent.at B H σ env, B, env, avs, e1, ok.self, q1, fun vs B1 H1 ok1' r n d => ?_⟩
    obtain ⟨f, l⟩ := facts_of hk.1.1 r n d
    refine ⟨by rw [l]; exact lim_ok hk.2, fun p hp => ⟨p, vs, rfl, SqT.of upd_same, ?_, Ent.at B H σ env, B1, e1, avs, ok1'.tmp hp, f.tmp hp, of_decide_eq_true hk.1.2, fun σ' B' H' ok' => k σ' B' H' (ok.comp ok')⟩⟩
    rw [l]
    exact (of_decide_eq_true hk.1.2).symm
end
end Dv
/-! sorted(list of tuples of ints), of any length. -/
namespace Dv
open PySem PySem.Spec PyProof.Rows L2 Evl
/-! ### the order -/
theorem lex_asym : ∀ x y : List Int, HT.lexLt x y = true → HT.lexLt y x = false
  | [], [], _ => rfl
  | [], _ :: _, _ => rfl
  | _ :: _, [], h => by cases h
  | x :: xs, y :: ys, h => by
    rw [HT.lexLt_cons] at h ⊢
    by_cases e : x = y
    · rw [if_pos e] at h
      rw [if_pos e.symm]
      exact lex_asym xs ys h
    · rw [if_neg e] at h
      rw [if_neg (Ne.symm e)]
      have := of_decide_eq_true h
      exact decide_eq_false (by omega)
theorem lex_ntr : ∀ x y z : List Int, HT.lexLt y x = false → HT.lexLt z y = false → HT.lexLt z x = false
  | [], [], z, _, h => h
  | [], _ :: _, [], _, _ => rfl
  | [], _ :: _, _ :: _, _, _ => rfl
  | _ :: _, [], _, h, _ => by cases h
  | _ :: _, _ :: _, [], _, h => by cases h
  | x :: xs, y :: ys, z :: zs, h1, h2 => by
    rw [HT.lexLt_cons] at h1 h2 ⊢
    by_cases e : z = x
    · rw [if_pos e]
      by_cases e1 : y = x
      · rw [if_pos e1] at h1
        rw [if_pos (e.trans e1.symm)] at h2
        exact lex_ntr xs ys zs h1 h2
      · rw [if_neg e1] at h1
        rw [if_neg (fun q => e1 (q.symm.trans e))] at h2
        have a := of_decide_eq_false h1
        have b := of_decide_eq_false h2
        omega
    · rw [if_neg e]
      refine decide_eq_false fun q => ?_
      by_cases e1 : y = x
      · rw [if_neg (fun p => e (p.trans e1))] at h2
        have b := of_decide_eq_false h2
        omega
      · rw [if_neg e1] at h1
        have a := of_decide_eq_false h1
        by_cases e2 : z = y
        · omega
        · rw [if_neg e2] at h2
          have b := of_decide_eq_false h2
          omega
theorem lex_tot : ∀ x y : List Int, HT.lexLt x y = false → HT.lexLt y x = false → x = y
  | [], [], _, _ => rfl
  | [], _ :: _, h, _ => by cases h
  | _ :: _, [], _, h => by cases h
  | x :: xs, y :: ys, h1, h2 => by
    rw [HT.lexLt_cons] at h1 h2
    by_cases e : x = y
    · rw [if_pos e] at h1
      rw [if_pos e.symm] at h2
      rw [e, lex_tot xs ys h1 h2]
    · rw [if_neg e] at h1
      rw [if_neg (Ne.symm e)] at h2
      have a := of_decide_eq_false h1
      have b := of_decide_eq_false h2
      omega
/-! ### the one sorted list -/
def SrtK (l : List (List Int)) : Prop := l.Pairwise fun x y => HT.lexLt y x = false
def insK (x : List Int) : List (List Int) → List (List Int)
  | [] => [x]
  | y :: l => if HT.lexLt y x = true then y :: insK x l else x :: y :: l
def sortK : List (List Int) → List (List Int)
  | [] => []
  | x :: l => insK x (sortK l)
theorem insK_perm (x : List Int) : ∀ l, (insK x l).Perm (x :: l)
  | [] => List.Perm.refl _
  | y :: l => by
    unfold insK
    split
    · exact ((insK_perm x l).cons y).trans (List.Perm.swap x y l)
    · exact List.Perm.refl _
theorem insK_srt (x : List Int) : ∀ l, SrtK l → SrtK (insK x l)
  | [], _ => List.pairwise_singleton _ _
  | y :: l, h => by
    unfold insK
    obtain ⟨h1, h2⟩ := List.pairwise_cons.mp h
    split
    · rename_i c
      refine List.pairwise_cons.mpr ⟨fun z hz => ?_, insK_srt x l h2⟩
      rcases List.mem_cons.mp ((insK_perm x l).mem_iff.mp hz) with e | hz
      · rw [e]
        exact lex_asym _ _ c
      · exact h1 z hz
    · rename_i c
      have c' : HT.lexLt y x = false := by cases q : HT.lexLt y x with | true => exact absurd q c | false => rfl
      refine List.pairwise_cons.mpr ⟨fun z hz => ?_, h⟩
      rcases List.mem_cons.mp hz with e | hz
      · rw [e]; exact c'
      · exact lex_ntr x y z c' (h1 z hz)
theorem sortK_perm : ∀ l, (sortK l).Perm l
  | [] => List.Perm.refl _
  | x :: l => (insK_perm x _).trans ((sortK_perm l).cons x)
theorem sortK_srt : ∀ l, SrtK (sortK l)
  | [] => List.Pairwise.nil
  | x :: l => insK_srt x _ (sortK_srt l)
theorem srtK_uniq : ∀ {l m : List (List Int)}, SrtK l → SrtK m → l.Perm m → l = m
  | [], m, _, _, h => (List.Perm.eq_nil h.symm).symm
  | x :: l, [], _, _, h => absurd h.length_eq (by simp)
  | x :: l, y :: m, hl, hm, h => by
    obtain ⟨a1, a2⟩ := List.pairwise_cons.mp hl
    obtain ⟨b1, b2⟩ := List.pairwise_cons.mp hm
    have e : x = y := by
      rcases List.mem_cons.mp (h.mem_iff.mp List.mem_cons_self) with e | hx
      · exact e
      · rcases List.mem_cons.mp (h.mem_iff.mpr List.mem_cons_self) with e | hy
        · exact e.symm
        · exact lex_tot x y (b1 x hx) (a1 y hy)
    subst e
    rw [srtK_uniq a2 b2 h.cons_inv]
theorem sortK_of {l m : List (List Int)} (h : SrtK m) (p : m.Perm l) : m = sortK l := srtK_uniq h (sortK_srt l) (p.trans (sortK_perm l).symm)
/-! ### at the heap -/
def ivs (u : List Value) : List Int := u.map SrtO.iv
/-- the ints of a tuple -/
def kvH (h : Heap) : Value → List Int
  | .ref a => match h.get? a with
    | some o => match o.data with
      | .seq xs _ => ivs xs.toList
      | _ => []
    | none => []
  | _ => []
def IsTI (h : Heap) (v : Value) (ns : List Int) : Prop := ∃ a o its n, v = .ref a ∧ h.get? a = some o ∧ o.cls = .type "tuple" ∧ o.data = .seq its n ∧ IntsAre its.toList ns
theorem IsTI.kv {h : Heap} {v : Value} {ns : List Int} (q : IsTI h v ns) : kvH h v = ns := by
  obtain ⟨a, o, its, n, rfl, ho, hc, hd, hi⟩ := q
  unfold kvH
  simp only [ho, hd]
  exact SrtO.iv_ints hi
theorem IsTI.keeps {h h' : Heap} {v : Value} {ns : List Int} (p : IsTI h v ns) (k : ∀ b o, h.get? b = some o → o.cls = .type "tuple" → h'.get? b = some o) : IsTI h' v ns := by
  obtain ⟨a, o, its, n, e, ho, hc, hd, hi⟩ := p
  exact ⟨a, o, its, n, e, k _ _ ho hc, hc, hd, hi⟩
section
variable {prog : Program} {w : World} {A : Around} {E : Value → Shared → Prop} {s : Shared}
theorem lexI {b fin : Bool} {Q : Bool → Shared → Prop} : ∀ (ps qs : List Value) (i : Nat) (ns ms : List Int),
    IntsAre ps ns → IntsAre qs ms → fin = decide (ps.length < qs.length) → Q (HT.lexLt ns ms) s → PySem.W.KatLex prog w A b fin Q (ps.zip qs) i s
  | [], [], i, _, _, .nil, .nil, hf, h => by
    subst hf
    exact PySem.W.kat_nil h
  | [], _ :: qs, i, _, _, .nil, .cons m t r, hf, h => by
    have e : fin = true := by rw [hf]; exact decide_eq_true (Nat.succ_pos _)
    subst e
    exact PySem.W.kat_nil h
  | _ :: ps, [], i, _, _, .cons m t r, .nil, hf, h => by
    have e : fin = false := by rw [hf]; exact decide_eq_false (Nat.not_lt_zero _)
    subst e
    exact PySem.W.kat_nil h
  | _ :: ps, _ :: qs, i, _, _, .cons n t (ns := ns) r, .cons m u (ns := ms) r2, hf, h => by
    have hf' : fin = decide (ps.length < qs.length) := by
      rw [hf]; simp only [List.length_cons, Nat.add_lt_add_iff_right]
    refine PySem.W.kat_cons (SeqAt.EqAt.int_int n t m u prog w _ _ ?_)
    refine PySem.W.kat_go (fun e => ?_) (fun e => ?_)
    · have e : n = m := by simpa using e
      subst e
      rw [HT.lexLt_cons, if_pos rfl] at h
      exact PySem.W.kat_yes (lexI ps qs (i + 1) ns ms r r2 hf' h)
    · have e : ¬ n = m := by simpa using e
      rw [HT.lexLt_cons, if_neg e] at h
      exact PySem.W.kat_no (oneLt_any_int h)
theorem tupI_cmp {vs : List Value} {k : Value → List Int} (hp : ∀ v ∈ vs, IsTI s.heap v (k v)) : SrtO.Cmp prog w A s (tuples' true) (fun p => p.1 ∈ vs) (SrtO.lt2 fun v u => HT.lexLt (k v) (k u)) := by
  intro p q hm hm'
  have h1 := hp _ hm
  have h2 := hp _ hm'
  show wpAny (model prog w) A (keyLt' (tuples' true) p.1 q.1) (fun r s' => s' = s ∧ r = HT.lexLt (k p.1) (k q.1)) (fun _ _ => False) s
  generalize k p.1 = x at h1 ⊢
  generalize k q.1 = y at h2 ⊢
  obtain ⟨a, o, its, n, e, ho, hc, hd, hi⟩ := h1
  obtain ⟨a', o', its', n', e', ho', hc', hd', hi'⟩ := h2
  rw [e, e']
  exact PySem.W.kat_lt ho hd ho' hd' (lexI _ _ 0 x y hi hi' (by rw [Array.length_toList, Array.length_toList]) ⟨rfl, rfl⟩)
theorem swo_kv (k : Value → List Int) : SrtO.Swo fun v u => HT.lexLt (k v) (k u) := ⟨fun x y h => lex_asym _ _ h, fun x y z h1 h2 => lex_ntr _ _ _ h1 h2⟩
theorem firstsI {h : Heap} {k : Value → List Int} : ∀ {vs : List Value}, (∀ v ∈ vs, IsTI h v (k v) ∧ k v ≠ []) → ∃ fs, PySem.W.KatTups h vs fs ∧ fs.length = vs.length ∧ ∀ f ∈ fs, ∃ x t, f = Value.int x t
  | [], _ => ⟨[], PySem.W.KatTups.nil, rfl, fun f hf => absurd hf (by simp)⟩
  | v :: vs, hp => by
    obtain ⟨fs, h1, h2, h3⟩ := firstsI fun u hu => hp u (List.mem_cons_of_mem _ hu)
    obtain ⟨⟨a, o, its, n, e, ho, hc, hd, hi⟩, hne⟩ := hp v List.mem_cons_self
    obtain ⟨x, t, hx⟩ : ∃ x t, its[0]? = some (Value.int x t) := by
      rw [← Array.getElem?_toList]
      revert hi
      generalize its.toList = l
      generalize k v = ns at hne
      intro hi
      cases hi with
      | nil => exact absurd rfl hne
      | cons n t r => exact ⟨n, t, rfl⟩
    subst e
    refine ⟨_ :: fs, PySem.W.KatTups.cons ho hc hd hx h1, by rw [List.length_cons, List.length_cons, h2], fun f hf => ?_⟩
    rcases List.mem_cons.mp hf with q | q
    · exact ⟨x, t, q⟩
    · exact h3 f q
theorem tupI_sortable {a : Addr} {vs : List Value} {k : Value → List Int} (h0 : 0 < vs.length) (hp : ∀ v ∈ vs, IsTI s.heap v (k v) ∧ k v ≠ []) (ha : ∀ o, s.heap.get? a = some o → o.cls ≠ .type "tuple") : SrtO.SortableO prog w A s a vs fun v u => HT.lexLt (k v) (k u) := by
  intro h' keep
  have hp' : ∀ v ∈ vs, IsTI h' v (k v) ∧ k v ≠ [] := fun v hm => ⟨(hp v hm).1.keeps fun b o e c => keep b o (fun z => by subst z; exact ha o e c) e, (hp v hm).2⟩
  obtain ⟨fs, h1, h2, h3⟩ := firstsI hp'
  refine ⟨tuples' true, fun Q E hq => ?_, tupI_cmp fun v hm => (hp' v hm).1⟩
  refine PySem.W.kat_kind (T := .type "int") h1 (by omega) (fun f hm => ?_) (by rfl) ?_
  · obtain ⟨x, t, rfl⟩ := h3 f hm
    exact PySem.W.Looks.now
  · have e : (Value.type "int" != Value.type "tuple") = true := by first | decide +kernel | rfl | decide
    rw [e]
    exact hq
theorem sorted_tupI {l : Addr} {vs : List Value} {k : Value → List Int} {Q : Value → Shared → Prop} (hl : s.heap.IsList l vs.toArray) (hz : vs.length ≤ sizeLine) (hp : ∀ v ∈ vs, IsTI s.heap v (k v)) (hne : 2 ≤ vs.length → ∀ v ∈ vs, k v ≠ [])
    (h : ∀ (h' : Heap) (d : Addr) (out : List Value), SrtO.Srtd (fun v u => HT.lexLt (k v) (k u)) out → SrtO.Stb (fun v u => HT.lexLt (k v) (k u)) out vs → (∀ b o, s.heap.get? b = some o → h'.get? b = some o) → s.heap.objs.size ≤ d → (∃ n, h'.get? d = some (seqObj "list" out.toArray n)) → Q (.ref d) { s with heap := h' }) :
    wpAny (model prog w) A (call (.builtin "sorted") [.ref l]) Q E s := by
  refine SrtO.sorted_ord (swo_kv k) hl hz (fun h2 h₁ a ha kk => ?_) fun out hs hb => ?_
  · refine tupI_sortable (s := { s with heap := h₁ }) (by omega) (fun v hm => ⟨(hp v hm).keeps fun b o e _ => (kk b o e).2, hne h2 v hm⟩) fun o e => ?_
    have e' : some o = some (seqObj "list" vs.toArray 0) := e.symm.trans ha
    cases e'
    intro c
    exact absurd (Value.type.inj c) (by decide)
  · exact h _ _ out hs hb (fun b o e => sortedAll_old e) (Nat.le_succ _) (sortedAll_at s.heap vs out.toArray)
end
/-! ### the rule -/
def tupD (ns : List Int) : D := .tup (ns.map .int)
def rSortTT (K : PySem.W.Frag) : List V → Hp → VK → Prop := fun vs H Q => ∃ (a : Addr) (us : List V) (ks : List (List Int)) (B : Hp), vs = [V.ref a] ∧ SqL K H a us ∧ Ex B H ∧ Reps K B (ks.map tupD) us ∧ (2 ≤ ks.length → ∀ k ∈ ks, k ≠ []) ∧
  ∀ ys p, Reps K B ((sortK ks).map tupD) ys → H p = none → Q (.ref p) (upd H p (.lst ys))
section
variable {X : Cx}
theorem reps_refs {K : PySem.W.Frag} {B : Hp} : ∀ {ks : List (List Int)} {us : List V}, Reps K B (ks.map tupD) us → ∀ u ∈ us, ∃ t, u = V.ref t
  | [], _, h, u, hu => by cases h; exact absurd hu (by simp)
  | k :: ks, _, h, u, hu => by
    obtain ⟨v, r, rfl, ⟨a, vs, rfl, _⟩, h3⟩ := h
    rcases List.mem_cons.mp hu with e | hu
    · exact ⟨a, e⟩
    · exact reps_refs h3 u hu
theorem cr_sortedTT : CallR X (.builtin "sorted") (rSortTT X.K) := by
  intro pins s σ H vs us Q I r h
  obtain ⟨a, xs, ks, B, rfl, hs, hB, hr, hne, q⟩ := h
  obtain ⟨its, rv, hl, hz⟩ := I.list hs
  obtain ⟨u, rfl, ru⟩ := vals1 r
  obtain rfl : u = Value.ref a := ru
  obtain ⟨e1, e2⟩ := refs_back rv (reps_refs hr)
  -- each item
  have key : ∀ {ks : List (List Int)} {xs : List V} {its : List Value}, xs = its.map backV → (∀ u ∈ its, ∃ a, u = Value.ref a) → Reps X.K B (ks.map tupD) xs →
      its.map (kvH s.heap) = ks ∧ ∀ v ∈ its, IsTI s.heap v (kvH s.heap v) ∧ Rep X.K B (tupD (kvH s.heap v)) (backV v) := by
    intro ks
    induction ks with
    | nil =>
      intro xs its e1 e2 hr
      cases hr
      cases its with
      | nil => exact ⟨rfl, fun v hv => absurd hv (by simp)⟩
      | cons _ _ => cases e1
    | cons k ks ih =>
      intro xs its e1 e2 hr
      obtain ⟨v, r, rfl, hv, hr3⟩ := hr
      have hv0 := hv
      obtain ⟨t, vs, rfl, ht, hi⟩ := hv
      cases its with
      | nil => cases e1
      | cons u its =>
        obtain ⟨t', rfl⟩ := e2 u List.mem_cons_self
        injection e1 with e3 e4
        have e3 : V.ref t = V.ref t' := e3
        cases e3
        obtain ⟨i1, i2⟩ := ih e4 (fun u hu => e2 u (List.mem_cons_of_mem _ hu)) hr3
        rw [Reps.of_ints hi] at ht
        obtain ⟨its2, ra, hta, _⟩ := I.tuple (ex_t hB ht)
        obtain ⟨o, ho, hc, n, hd⟩ := hta
        have hti : IsTI s.heap (.ref t) k := ⟨t, o, its2.toArray, n, rfl, ho, hc, hd, by simpa using ra.ints⟩
        have hk := hti.kv
        refine ⟨by rw [List.map_cons, hk, i1], fun v hv => ?_⟩
        rcases List.mem_cons.mp hv with e | hv
        · subst e
          rw [hk]
          exact ⟨hti, hv0⟩
        · exact i2 v hv
  obtain ⟨k1, k2⟩ := key e1 e2 hr
  have hln : its.length = ks.length := by rw [← k1, List.length_map]
  refine sorted_tupI (k := kvH s.heap) hl.isList (by rw [← rv.length]; exact hz) (fun v hv => (k2 v hv).1) (fun h2 v hv => hne (by omega) _ (by rw [← k1]; exact List.mem_map.mpr ⟨v, hv, rfl⟩)) fun h' d out h1 h2 kp hd hn => ?_
  have h3 : ∀ u ∈ out, ∃ a, u = Value.ref a := fun u hu => e2 u (h2.perm.mem_iff.mp hu)
  obtain ⟨n, hn⟩ := hn
  have hp : (out.map (kvH s.heap)).Perm ks := by
    have := h2.perm.map (kvH s.heap)
    rwa [k1] at this
  have hm : out.map (kvH s.heap) = sortK ks := sortK_of (List.pairwise_map.mpr h1) hp
  have hout : ∀ l : List Value, (∀ v ∈ l, v ∈ its) → Reps X.K B ((l.map (kvH s.heap)).map tupD) (l.map backV) := by
    intro l
    induction l with
    | nil => intro _; exact rfl
    | cons v l ih => intro hl; exact ⟨_, _, rfl, (k2 v (hl v List.mem_cons_self)).2, ih fun u hu => hl u (List.mem_cons_of_mem _ hu)⟩
  refine ⟨.ref d, upd H d (.lst (out.map backV)), I.laid (t' := s.toks) kp hd ⟨?_, out, n, L2.vals_back h3, hn⟩, rfl, q _ d ?_ (I.hok.fresh hd)⟩
  · have : (out.map backV).length = xs.length := by rw [e1, List.length_map, List.length_map, h2.perm.length_eq]
    rw [this]
    exact hz
  · rw [← hm]
    exact hout out fun v hv => h2.perm.mem_iff.mp hv
/-- the ints of tuples -/
def tupsOf : List D → Option (List (List Int))
  | [] => some []
  | .tup ds :: r => match intsOf ds with
    | some ns => match tupsOf r with
      | some ks => some (ns :: ks)
      | none => none
    | none => none
  | _ :: _ => none
theorem tupsOf_ok : ∀ {ds : List D} {ks : List (List Int)}, tupsOf ds = some ks → ds = ks.map tupD
  | [], _, h => by cases h; rfl
  | .tup ds :: r, ks, h => by
    unfold tupsOf at h
    split at h
    rotate_left
    · cases h
    rename_i ns hn
    split at h
    rotate_left
    · cases h
    rename_i ks' hk
    cases h
    rw [List.map_cons, ← tupsOf_ok hk, intsOf_ok hn]
    rfl
  | .non :: _, _, h => by cases h
  | .bl _ :: _, _, h => by cases h
  | .int _ :: _, _, h => by cases h
  | .str _ :: _, _, h => by cases h
  | .ty _ :: _, _, h => by cases h
  | .lst _ :: _, _, h => by cases h
  | .fls _ :: _, _, h => by cases h
  | .dic :: _, _, h => by cases h
theorem tupsOf_map : ∀ ks : List (List Int), tupsOf (ks.map tupD) = some ks
  | [] => rfl
  | k :: ks => by
    show (match intsOf (k.map D.int) with | some ns => _ | none => none) = _
    have : ∀ k : List Int, intsOf (k.map D.int) = some k := fun k => by
      induction k with
      | nil => rfl
      | cons x k ih => show (match intsOf (k.map D.int) with | some ns => _ | none => none) = _; rw [ih]
    rw [this]
    show (match tupsOf (ks.map tupD) with | some ns => _ | none => none) = _
    rw [tupsOf_map ks]
def srtK (o : Option (List (List Int))) : Option D := match o with
  | some ks => if ks.length < 2 ∨ ks.all (fun k => !k.isEmpty) = true then some (.lst ((sortK ks).map tupD)) else none
  | none => none
def srtO (d : D) : Option D := match d with
  | .lst ds => srtK (tupsOf ds)
  | _ => none
def eSorted (m : M D) : M D := bnd m fun d => lft (srtO d)
theorem pf_sorted {e : Expr} {m : M D} {p pos : Pos} (h : PD X e m) (hm : X.mg "sorted" = none) (hg : Gl X "sorted" := by rfl) (hc : X.calm = true := by rfl) (na : starEach [e] X.env = (false, eval e X.env) :: starEach [] X.env := by rfl) :
    PF X (.Call (.Name "sorted" p) [e] [] pos) (eSorted m) :=
  pe_mono (pe_callB cr_sortedTT hg hm (by decide +kernel) (pa_cons h pa_nil na) (he := na)) fun σ H Q ⟨G, B, env, d, env', ok, e, k⟩ => by
    obtain ⟨x, e1, q1, q2⟩ := bnd_some e
    obtain ⟨z, q3, q4⟩ := lft_some q2
    cases q4
    unfold srtO at q3
    cases x with
    | lst ds =>
      dsimp only at q3
      unfold srtK at q3
      split at q3
      rotate_left
      · cases q3
      rename_i ks hk
      split at q3
      rotate_left
      · cases q3
      rename_i hc2
      cases q3
      have hds := tupsOf_ok hk
      subst hds
      exact tD_of ok q1 fun v B1 H1 ok1 _ r => by
        obtain ⟨a, vs, rfl, hs, hr⟩ := r
        refine ⟨a, vs, ks, B1, rfl, SqL.of (ok1.sub _ _ hs), ok1.sub, hr, fun h2 z hz he => ?_, fun ys p hy hp => k p B1 _ (ok1.tmp hp) (fresh_back ok1.sub hp) ⟨ys, upd_same, hy⟩ (ok1.live p hp) (ok1.notOwn hp)⟩
        rcases hc2 with c | c
        · omega
        · have := List.all_eq_true.mp c z hz
          rw [he] at this
          cases this
    | _ => cases q3
/-- a comprehension in a comprehension: the outer one's block -/
def relabelS (scope sc : Scope) : Scope :=
  { scope with names := scope.names.map fun (n, k) => if (k == .free && sc.kind == .function && sc.names.lookup n == some .cell) then (n, .cell) else (n, k) }
theorem blkIn {N : List Str} {scope sc scope2 : Scope} {own : List (Str × Nat)} {env : Env} (he : env.scope = sc) (h : blkC N (relabelS scope sc) scope2 own = true) : blkC N (relabel scope env) scope2 own = true := by
  subst he
  exact h
/-- sum of a name's list, which the name keeps -/
def eSumV (i : Nat) : M D := bnd (ePeek i) fun d => lft (sumD [d])
theorem pd_sumV {i : Nat} {x : Str} {p1 p pos : Pos} (hx : PE X (.Name x p1) (tVar i)) (hm : X.mg "sum" = none) (hg : Gl X "sum" := by rfl) (hc : X.calm = true := by rfl)
    (he : starEach [.Name x p1] X.env = (false, eval (.Name x p1) X.env) :: starEach [] X.env := by rfl) : PD X (.Call (.Name "sum" p) [.Name x p1] [] pos) (eSumV i) :=
  pe_mono (pe_callB (cr_sum hc) hg hm (by decide +kernel) (pa_cons hx pa_nil he) (he := he)) fun σ H Q ⟨G, B, env, d, env', ok, e, k⟩ => by
    obtain ⟨x, e1, q1, e⟩ := bnd_some e
    obtain ⟨z, q5, q6⟩ := lft_some e
    cases q6
    obtain ⟨ee, v, B', s1, x1, x2, r⟩ := peek_at ok q1
    subst ee
    refine ⟨v, s1, ?_⟩
    unfold sumD at q5
    split at q5
    · rename_i ds hd
      cases hd
      split at q5
      · rename_i ns hn
        cases q5
        obtain ⟨a, us, rfl, h1, h2⟩ := r
        rw [intsOf_ok hn] at h2
        exact ⟨a, ns, rfl, by rw [← h2.of_ints]; exact SqL.of (x2 _ _ h1), k _ B H ok rfl⟩
      · cases q5
    · rename_i ds hd
      cases hd
      split at q5
      · rename_i ns hn
        cases q5
        obtain ⟨a, us, rfl, h1, h2⟩ := r
        rw [intsOf_ok hn] at h2
        exact ⟨a, ns, rfl, by rw [← h2.of_ints]; exact ex_l x2 h1, k _ B H ok rfl⟩
      · cases q5
    · cases q5
end
end Dv
/-! A def's promise where nothing that shows itself is under way (guards): repr has its exact text there. -/
namespace Dv
open PySem PySem.Spec PyProof.Rows L2 Evl
/-- nothing that shows itself is under way -/
def Still (A : Around) : Prop := A.guards = some []
theorem Still.deeper {A : Around} (h : Still A) (env : Env) : Still (A.deeper env) := h
theorem Still.in1 {A : Around} (h : Still A) : Still A.in1 := h
structure FnG (P : Program) (w : World) (K : PySem.W.Frag) (mg : Str → Option Value) (base : Heap) (k : Nat) (f : Addr) (fd : FuncData) (ps : List Str) (sp : Sp) : Prop where
  len : ∀ vs H Q E, sp vs H Q E → vs.length = ps.length
  run : ∀ (A : Around) (outer : List Env) (s : Shared) (H : Hp) (args : PySem.Args) (us : List Value) (vs : List V) (Q : VK) (E : XK), Still A → Room k A → Env0 P w K mg base A outer s H → BindsTo s fd args (ps.zip us) → Vals vs us → sp vs H Q E →
    codeAny (model P w) A (.call (.ref f) args) (CR CX0 outer P w H s Q E) s
theorem FnG.mono {P : Program} {w : World} {K : PySem.W.Frag} {mg : Str → Option Value} {base : Heap} {j k : Nat} {f : Addr} {fd : FuncData} {ps : List Str} {sp : Sp} (F : FnG P w K mg base j f fd ps sp) (h : j ≤ k) : FnG P w K mg base k f fd ps sp :=
  ⟨F.len, fun A outer s H args us vs Q E hg hr => F.run A outer s H args us vs Q E hg (hr.mono h)⟩
/-- a def keeps its promise by its body -/
theorem fnG_of {P : Program} {w : World} {K : PySem.W.Frag} {mg : Str → Option Value} {base : Heap} {x qual : Str} {st : Stmt} {f : Addr} {fd : FuncData} {N ps : List Str} {k : Nat} {sp : Sp} (Fn : Fun K x qual st f fd) (S : FnScope N ps (defScope st))
    (len : ∀ vs H Q E, sp vs H Q E → vs.length = ps.length)
    (body : ∀ (cdv : Value) (A : Around) (outer : List Env) (s : Shared) (H : Hp) (vs : List V) (Q : VK) (E : XK), Still A → Room k (A.deeper (envOfC qual (defScope st) s.heap.objs.size f cdv)) → sp vs H Q E →
      ∃ t, PSs (cxOf CX0 P w K mg base N qual (defScope st) f cdv A outer s H E).nox (defBody st) t ∧ t { nx := fun _ H' => Q .non H', rt := Q } (start N vs) H) : FnG P w K mg base (k + 1) f fd ps sp := by
  obtain ⟨oc, od, kV, doc, pm, an, cdv, ct, osl, rfl, lk, hcd⟩ := Fn.ex
  refine ⟨len, fun A outer s H args us vs Q E hg hr e0 hb r h => ?_⟩
  obtain ⟨t, ht, hq⟩ := body cdv A outer s H vs Q E hg (hr.deeper _) h
  have keep : ∀ (b : Addr) (o : Obj), base.get? b = some o → s.heap.get? b = some o := fun b o e => (e0.bs b o e).1
  have there := e0.mod.kin.keeps keep
  refine codeAny_call_function hr.depth (there _ _ lk) rfl S.co S.gen rfl (PySem.W.codeRec_of there hcd) (hb _ _ _ _ ?_)
  refine wpAny_newFunctionEnv_cells S.kind (fun y hy => ?_) fun env he s1 ic => ?_
  · rcases S.par y.1 (List.of_mem_zip (show (y.1, y.2) ∈ ps.zip us from hy)).1 with q | q
    · exact .inl q
    · exact .inr ⟨q, PySem.W.cellsFrom_some _ _ _ (.inl q)⟩
  subst he
  refine ⟨(e0.mod.nolimit.keeps keep).keeps ic.toInCall.keep, codeAny_func ?_⟩
  have I := inv_start (CX := CX0) (cd := cdv) (E := E) S hr.hd e0 (len _ _ _ _ h) r ic
  refine wpAny_mono (ht.nox.run [] s1 (start N vs) H _ I hq) (fun fl s' hs => ?_) fun e s' hs => hs
  cases fl with
  | ret u =>
    obtain ⟨v, σ', H', J, rv, q⟩ := hs
    exact ⟨v, H', J.os, J.bare, J.base, J.hok, rv, q⟩
  | next =>
    obtain ⟨σ', H', J, q⟩ := hs
    exact ⟨.non, H', J.os, J.bare, J.base, J.hok, rfl, q⟩
  | brk =>
    obtain ⟨_, _, _, q⟩ := hs
    exact q.elim
  | cont =>
    obtain ⟨_, _, _, q⟩ := hs
    exact q.elim
/-- room, and nothing that shows itself under way -/
structure RoomG (k : Nat) (A : Around) : Prop where
  still : Still A
  room : Room k A
theorem RoomG.mono {j k : Nat} {A : Around} (r : RoomG k A) (h : j ≤ k) : RoomG j A := ⟨r.still, r.room.mono h⟩
theorem fn_bodyG {P : Program} {w : World} {K : PySem.W.Frag} {mg : Str → Option Value} {base : Heap} {x qual : Str} {st : Stmt} {f : Addr} {fd : FuncData} {N ps : List Str} {k : Nat} (Fn : Fun K x qual st f fd) (S : FnScope N ps (defScope st)) (ms : List Bool) (rf : Bool) {body : MS} (hn : ms.length = ps.length)
    (hb : ∀ (cdv : Value) (A : Around) (outer : List Env) (s : Shared) (H : Hp) (E : XK), RoomG k (A.deeper (envOfC qual (defScope st) s.heap.objs.size f cdv)) → PDB (cxOf CX0 P w K mg base N qual (defScope st) f cdv A outer s H E).nox (defBody st) body) :
    FnG P w K mg base (k + 1) f fd ps (spF K ms rf (runF ms N.length rf body)) :=
  fnG_of Fn S (fun vs H Q E h => by rw [← hn]; exact spF_len h) fun cdv A outer s H vs Q E hg hr h => fn_entry S ms rf hn (hb cdv A outer s H E ⟨hg.deeper _, hr⟩) h
section
variable {X : Cx} {k : Nat} {f : Addr} {fd : FuncData} {ps ks : List Str} {sp : Sp} {E : XK} {x : Str} {p pos : Pos} {e : Expr} {es : List Expr} {t tk : TA} {kws : List Keyword} {g : List Value → List Value → List Value} {gV : List V → List V → List V}
/-- a call of such a def, its values at hand -/
theorem run_G {pins : List (Addr × Obj)} {σ : L2.St} {H : Hp} {s : Shared} {Q : VK} {args : PySem.Args} {us : List Value} {vs : List V} (F : FnG X.prog X.w X.K X.mg X.base k f fd ps sp) (hr : RoomG k X.A) (hx : Passes CX0 X E)
    (I : Inv X pins σ H s) (hb : BindsTo s fd args (ps.zip us)) (r : Vals vs us) (h : sp vs H Q E) : codeAny (model X.prog X.w) X.A (.call (.ref f) args) (fun r s' => match r with | .ok (.ret u) => EP X pins σ Q u s' | .ok _ => False | .error e => X.xe e s') s :=
  codeAny_mono (F.run X.A X.stack s H args us vs Q E hr.still hr.room I.env0 hb r h) fun r s' hq => by
    cases r with
    | error e => exact hx pins σ H s e s' I hq
    | ok fl =>
      cases fl with
      | ret u => exact I.after hq
      | _ => exact hq
theorem pe_callG (F : FnG X.prog X.w X.K X.mg X.base k f fd ps sp) (hr : RoomG k X.A) (hg : Gl X x) (hm : X.mg x = some (.ref f)) (hk : PySem.W.keepIn X.K (.ref f) = true) (hb : Binds X.K fd ps []) (hx : Passes CX0 X E) (ha : PA X (e :: es) t)
    (hdb : (x == ("__debug__" : Str)) = false) (he : starEach (e :: es) X.env = (false, eval e X.env) :: starEach es X.env) (hpl : (backTo pos (starEach es X.env)).any (·.1) = false) : PE X (.Call (.Name x p) (e :: es) [] pos) (tCall sp [] E t) := by
  constructor
  intro pins s σ H Q I h
  refine wpAny_Call_Name_kw (ld_glob I hg hm ?_ hdb)
  refine PySem.W.callWith_K (h₀ := X.base) I.ok.mod.kin hk (thn (ha.run pos pins s σ H _ I h) ?_) he hpl
  intro us s1 ⟨vs, H1, I1, r, q⟩
  have q : sp vs H1 Q E := by rw [← List.append_nil vs]; exact q
  have hl : us.length = ps.length := by rw [← r.length]; exact F.len _ _ _ _ q
  have hb1 := hb s1 us I1.kIn (by rw [List.append_nil]; exact hl)
  rw [List.append_nil] at hb1
  exact ⟨I1.kIn, wpAny_call (run_G F hr hx I1 hb1 r q)⟩
theorem pe_callNG (F : FnG X.prog X.w X.K X.mg X.base k f fd ps sp) (hr : RoomG k X.A) (hg : Gl X x) (hm : X.mg x = some (.ref f)) (hk : PySem.W.keepIn X.K (.ref f) = true) (hb : KBn X.K fd ps 0 ks g gV) (hx : Passes CX0 X E)
    (hkw : PK X kws tk) (hall : (backToKw pos (keywordEach kws X.env)).all (·.1.isSome) = true) (hks : (backToKw pos (keywordEach kws X.env)).filterMap (·.1) = ks)
    (hpl : ((backTo pos (starEach [] X.env)).any (·.1) || (backToKw pos (keywordEach kws X.env)).any (·.1.isNone)) = false) (hdb : (x == ("__debug__" : Str)) = false) : PE X (.Call (.Name x p) [] kws pos) (tCallN 0 ks.length sp gV E tNil tk) := by
  constructor
  intro pins s σ H Q I h
  refine wpAny_Call_Name_kw (ld_glob I hg hm ?_ hdb)
  refine PySem.W.callWith_KW0 (h₀ := X.base) I.ok.mod.kin hk hall (thn (hkw.run pos pins s σ H _ I h) ?_) hpl
  intro ws s2 ⟨zs, H2, I2, rz, l1, l2, q2⟩
  rw [hks]
  exact ⟨I2.kIn, wpAny_call (run_G F hr hx I2 (hb.to s2 [] ws I2.kIn rfl (rz.length.symm.trans l2)) (hb.rel .nil rz) q2)⟩
end
section
variable {X : Cx} {k : Nat} {f : Addr} {fd : FuncData} {ps ks : List Str} {x : Str} {p pos : Pos} {e : Expr} {es : List Expr} {kws : List Keyword} {ms : List Bool} {F : Fn}
theorem pd_callG {m : M (List Av)} (Fo : FnG X.prog X.w X.K X.mg X.base k f fd ps (spF X.K ms false F)) (hr : RoomG k X.A) (hm : X.mg x = some (.ref f)) (hk : PySem.W.keepIn X.K (.ref f) = true) (hb : Binds X.K fd ps []) (ha : PDR X (e :: es) m) (h1 : one ms = true := by rfl) (hg : Gl X x := by rfl) (hdb : (x == ("__debug__" : Str)) = false := by decide)
    (he : starEach (e :: es) X.env = (false, eval e X.env) :: starEach es X.env := by rfl) (hpl : (backTo pos (starEach es X.env)).any (·.1) = false := by rfl) : PD X (.Call (.Name x p) (e :: es) [] pos) (eCall ms F m) :=
  pe_mono (pe_callG Fo hr hg hm hk hb pass0 ha hdb he hpl) fun σ H Q ⟨G, B, env, d, env', ok, e, k⟩ => call_red h1 ok e fun H1 B1 e1 ok1 ok1' v B' H' ok' _ rv => k v B' H' ok' rv
theorem pf_callG {m : M (List Av)} (Fo : FnG X.prog X.w X.K X.mg X.base k f fd ps (spF X.K ms true F)) (hr : RoomG k X.A) (hm : X.mg x = some (.ref f)) (hk : PySem.W.keepIn X.K (.ref f) = true) (hb : Binds X.K fd ps []) (ha : PDR X (e :: es) m) (h1 : one ms = true := by rfl) (hg : Gl X x := by rfl) (hdb : (x == ("__debug__" : Str)) = false := by decide)
    (he : starEach (e :: es) X.env = (false, eval e X.env) :: starEach es X.env := by rfl) (hpl : (backTo pos (starEach es X.env)).any (·.1) = false := by rfl) : PF X (.Call (.Name x p) (e :: es) [] pos) (eCall ms F m) :=
  pe_mono (pe_callG Fo hr hg hm hk hb pass0 ha hdb he hpl) fun σ H Q ⟨G, B, env, d, env', ok, e, k⟩ => call_red h1 ok e fun H1 B1 e1 ok1 ok1' v B' H' ok' nO rv => by
    obtain ⟨a, rfl, r1, r2, r3⟩ := rv
    exact k a B' H' ok' r1 r2 (ok1.live a r3) (nO a r3)
theorem pd_callKG {m : M (List D)} {perm : List Nat} (Fo : FnG X.prog X.w X.K X.mg X.base k f fd ps (spF X.K ms false F)) (hr : RoomG k X.A) (hm : X.mg x = some (.ref f)) (hk : PySem.W.keepIn X.K (.ref f) = true) (hb : KBn X.K fd ps 0 ks (fun _ ws => perm.map fun i => ws.getD i .none) (fun _ zs => perm.map fun i => zs.getD i .non)) (ha : PDK X kws m) (h1 : one ms = true := by rfl)
    (hall : (backToKw pos (keywordEach kws X.env)).all (·.1.isSome) = true := by rfl) (hks : (backToKw pos (keywordEach kws X.env)).filterMap (·.1) = ks := by rfl) (hpl : ((backTo pos (starEach [] X.env)).any (·.1) || (backToKw pos (keywordEach kws X.env)).any (·.1.isNone)) = false := by rfl)
    (hg : Gl X x := by rfl) (hdb : (x == ("__debug__" : Str)) = false := by decide) : PD X (.Call (.Name x p) [] kws pos) (eCall ms F (rPerm ks.length perm m)) :=
  pe_mono (pe_callNG Fo hr hg hm hk hb pass0 ha hall hks hpl hdb) fun σ H Q ⟨G, B, env, d, env', ok, e, k⟩ => callK_red h1 ok e fun H1 B1 e1 ok1 ok1' v B' H' ok' _ rv => k v B' H' ok' rv
theorem pf_callKG {m : M (List D)} {perm : List Nat} (Fo : FnG X.prog X.w X.K X.mg X.base k f fd ps (spF X.K ms true F)) (hr : RoomG k X.A) (hm : X.mg x = some (.ref f)) (hk : PySem.W.keepIn X.K (.ref f) = true) (hb : KBn X.K fd ps 0 ks (fun _ ws => perm.map fun i => ws.getD i .none) (fun _ zs => perm.map fun i => zs.getD i .non)) (ha : PDK X kws m) (h1 : one ms = true := by rfl)
    (hall : (backToKw pos (keywordEach kws X.env)).all (·.1.isSome) = true := by rfl) (hks : (backToKw pos (keywordEach kws X.env)).filterMap (·.1) = ks := by rfl) (hpl : ((backTo pos (starEach [] X.env)).any (·.1) || (backToKw pos (keywordEach kws X.env)).any (·.1.isNone)) = false := by rfl)
    (hg : Gl X x := by rfl) (hdb : (x == ("__debug__" : Str)) = false := by decide) : PF X (.Call (.Name x p) [] kws pos) (eCall ms F (rPerm ks.length perm m)) :=
  pe_mono (pe_callNG Fo hr hg hm hk hb pass0 ha hall hks hpl hdb) fun σ H Q ⟨G, B, env, d, env', ok, e, k⟩ => callK_red h1 ok e fun H1 B1 e1 ok1 ok1' v B' H' ok' nO rv => by
    obtain ⟨a, rfl, r1, r2, r3⟩ := rv
    exact k a B' H' ok' r1 r2 (ok1.live a r3) (nO a r3)
end
/-! ### the head -/
section
variable {P : Program} {w : World} {K : PySem.W.Frag} {mg mb : Str → Option Value} {k : Nat} {fa a : Addr} {fd : FuncData} {x : Str} {sp : Sp} {s : Shared} {vs : List Value} {ns : List Int}
/-- the script's own object -/
abbrev scriptO (vs : List Value) : Obj := { cls := .type "list", data := .seq vs.toArray }
open Classical in
/-- what is told at the start: the script, if the module has it not already -/
noncomputable def H0 (K : PySem.W.Frag) (a : Addr) (vs : List Value) (ns : List Int) : Hp := fun b => if b = a ∧ K.lookup a = none then some (.frz (scriptO vs) (.lst (ns.map V.int))) else none
theorem H0_some {b : Addr} {u : HO} (h : H0 K a vs ns b = some u) : b = a ∧ K.lookup a = none ∧ u = .frz (scriptO vs) (.lst (ns.map V.int)) := by
  unfold H0 at h
  split at h
  · rename_i c
    exact ⟨c.1, c.2, (Option.some.inj h).symm⟩
  · cases h
theorem H0_none {b : Addr} (h : b ≠ a ∨ K.lookup a ≠ none) : H0 K a vs ns b = none := by
  cases q : H0 K a vs ns b with
  | none => rfl
  | some u =>
    obtain ⟨h1, h2, _⟩ := H0_some q
    exact (h.elim (fun n => n h1) fun n => n h2).elim
theorem H0_list (KX : K.In s.heap) (ha : s.heap.get? a = some (scriptO vs)) (hi : IntsAre vs ns) (hl : ns.length ≤ sizeLine) : SqL K (H0 K a vs ns) a (ns.map V.int) := by
  cases q : K.lookup a with
  | none => exact .inl (.inr ⟨scriptO vs, by unfold H0; rw [if_pos ⟨rfl, q⟩]⟩)
  | some o =>
    have e := KX a o q
    rw [ha] at e
    cases e
    exact .inr ⟨_, vs.toArray, _, q, rfl, rfl, rfl, by rw [List.size_toArray, hi.length]; exact hl, by simpa using vals_of_ints hi⟩
theorem H0_ok (ha : s.heap.get? a = some (scriptO vs)) (hi : IntsAre vs ns) (hl : ns.length ≤ sizeLine) : HOk P w (H0 K a vs ns) s.heap := fun b u h => by
  obtain ⟨rfl, _, rfl⟩ := H0_some h
  exact ⟨ha, by rw [List.length_map]; exact hl, vs, _, vals_of_ints hi, ha⟩
theorem head_env (KX : K.In s.heap) (hns : s.heap.Ns mainGlobals mg) (hb : s.heap.Ns builtinsNs mb) (hbb : ∀ x : Str, x ≠ "__name__" → mb x = bootBuiltins x) (hlim : s.heap.NoLimit) (hg : s.gens = #[])
    (ha : s.heap.get? a = some (scriptO vs)) (hi : IntsAre vs ns) (hl : ns.length ≤ sizeLine) :
    K.In (hidT s.heap (H0 K a vs ns)) ∧ (hidT s.heap (H0 K a vs ns)).Ns mainGlobals mg ∧ Env0 P w K mg (hidT s.heap (H0 K a vs ns)) callerA [] s (H0 K a vs ns) := by
  have nd : ∀ {b : Addr} {m : Str → Option Value}, s.heap.Ns b m → (hidT s.heap (H0 K a vs ns)).Ns b m := fun {b m} ⟨o, es, ep, e, d, r⟩ => by
    refine ⟨o, es, ep, hidT_get e (H0_none (.inl fun z => ?_)), d, r⟩
    subst z
    rw [ha] at e
    cases e
    cases (show Data.seq vs.toArray _ = Data.dict es ep from d)
  have kin : K.In (hidT s.heap (H0 K a vs ns)) := fun b o e => hidT_get (KX b o e) (H0_none (by
    by_cases z : b = a
    · subst z
      exact .inr (by rw [e]; exact Option.some_ne_none _)
    · exact .inl z))
  obtain ⟨mc, l1, l2⟩ := hlim
  exact ⟨kin, nd hns, rfl, ⟨kin, nd hns, ⟨mb, nd hb, hbb⟩, mc, nd l1, l2⟩, fun b o e => of_hidT e, Nat.le_of_eq (hidT_size _ _), trivial, fun b z => absurd z List.not_mem_nil, H0_ok ha hi hl, .of_eq hg⟩
theorem head_call (KX : K.In s.heap) (hns : s.heap.Ns mainGlobals mg) (hb : s.heap.Ns builtinsNs mb) (hbb : ∀ x : Str, x ≠ "__name__" → mb x = bootBuiltins x) (hlim : s.heap.NoLimit) (hg : s.gens = #[])
    (ha : s.heap.get? a = some (scriptO vs)) (hi : IntsAre vs ns) (hl : ns.length ≤ sizeLine) (hr : Room k callerA)
    (F : ∀ base : Heap, K.In base → base.Ns mainGlobals mg → FnG P w K mg base k fa fd [x] sp) (hbind : ∀ (s : Shared) (u : Value), BindsTo s fd ⟨[u], []⟩ [(x, u)])
    (hsp : ∀ H : Hp, SqL K H a (ns.map V.int) → sp [.ref a] H (fun v _ => v = .bl true) fun _ _ _ => False) :
    codeAny (model P w) callerA (.call (.ref fa) ⟨[.ref a], []⟩) (fun r s' => r = .ok (.ret (.bool true)) ∧ OldK s.heap s'.heap ∧ s'.os = s.os ∧ AllBare s'.gens) s := by
  obtain ⟨kin, nk, e0⟩ := head_env (P := P) (w := w) KX hns hb hbb hlim hg ha hi hl
  refine codeAny_mono ((F _ kin nk).run callerA [] s _ ⟨[.ref a], []⟩ [.ref a] [.ref a] _ _ rfl hr e0 (hbind s (.ref a)) (.cons rfl .nil) (hsp _ (H0_list KX ha hi hl))) fun r s' h => ?_
  match r, h with
  | .ok (.ret u), ⟨v, H', os, bare, un, hok', r', q⟩ =>
    have q : v = .bl true := q
    subst q
    have r' : u = Value.bool true := r'
    refine ⟨by rw [r'], OldK.of_keep fun b o e => ?_, os, bare⟩
    cases z : H0 K a vs ns b with
    | none => exact un.keep b o e z (fun m => absurd m List.not_mem_nil) (by simp)
    | some u =>
      obtain ⟨rfl, _, rfl⟩ := H0_some z
      rw [ha] at e
      cases e
      exact (hok' _ _ (un.frzs _ _ _ z)).1
  | .ok .next, h => exact h.elim
  | .ok .brk, h => exact h.elim
  | .ok .cont, h => exact h.elim
  | .error e, h => exact h.elim
end
theorem walk_G {l : PySem.W.OpenLaw} {n k : Nat} {q : Program} {loose : List Str} {XP : (Str → Option Value) → Heap → Prop} {YP : World → Heap → Prop} {d : DefRec} {K : Params → PySem.W.Frag} {sp : World → Sp} {x : Str}
    (hn : l.most = some n) (hn2 : n ≤ sizeLine) (hdf : d.params.defaults = []) (hr : Room k callerA) (hY : ∀ (w : World) (h : Heap), YP w h → (K w.params).In h)
    (F : ∀ (w : World) (mg : Str → Option Value) (fa : Addr) (h : Heap), (K w.params).In h → h.Ns mainGlobals mg → mg d.name = some (.ref fa) →
      ∃ fd : FuncData, (∀ (s : Shared) (u : Value), BindsTo s fd ⟨[u], []⟩ [(x, u)]) ∧ ∀ base : Heap, (K w.params).In base → base.Ns mainGlobals mg → FnG l.prog w (K w.params) mg base k fa fd [x] (sp w))
    (hsp : ∀ (w : World) (H : Hp) (a : Addr) (ns : List Int), ns.length ≤ n → SqL (K w.params) H a (ns.map V.int) → sp w [.ref a] H (fun v _ => v = .bl true) fun _ _ _ => False) :
    PySem.W.WalkO q loose XP YP l.row.toRowW d [] (fun f vs => PySem.call f vs) :=
  Att.attach_call hn hdf fun w s₀ s₁ mg mb fa o pm cd doc a vs ns G Y ho hd hcd hmg hobj hints hlen hg => by
    obtain ⟨fd, hb, hF⟩ := F w mg fa _ (hY w _ Y) G.T.g hmg
    exact head_call (hY w _ Y) G.T.g G.T.b G.T.builtins G.T.nolimit hg hobj hints (Nat.le_trans hlen hn2) hr hF hb fun H hS => hsp w H a ns hlen hS
/-! ### repr -/
section
variable {X : Cx} {k : Nat}
def rRepr (K : PySem.W.Frag) : List V → Hp → VK → Prop := fun xs H Q => ∃ (x : V) (d : PyData), xs = [x] ∧ Dp K H x d ∧ d.showable = true ∧ d.hasDict = false ∧ d.depth ≤ 64 ∧ d.shown.length ≤ sizeLine ∧ Q (.str d.shown) H
theorem cr_repr (hr : RoomG k X.A) : CallR X (.builtin "repr") (rRepr X.K) := by
  intro pins s σ H xs us Q I r h
  obtain ⟨x, d, rfl, hd, hs, hn, hdp, hz, q⟩ := h
  obtain ⟨u, rfl, ru⟩ := vals1 r
  obtain ⟨as, rd⟩ := Dp.reads I d x u hd ru
  have hu := hr.room.un
  have big : ∀ a, u = .ref a → wpAny (model X.prog X.w) X.A (call (.builtin "repr") [u]) (EP X pins σ Q) X.xe s := fun a e => by
    subst e
    exact repr_of_reads' rd hs (fun e => by rw [hn] at e; cases e) hr.still (by omega) (fun _ _ e => e) (fun h' u tk hk => ⟨.str d.shown, H, I.kept hk, ⟨u, rfl⟩, q⟩) hz
  cases rd with
  | none => exact PySem.P.repr_of_none ⟨.str _, H, I.tok _, ⟨_, rfl⟩, q⟩
  | bool b => exact PySem.P.repr_of_bool ⟨.str _, H, I.tok _, ⟨_, rfl⟩, q⟩
  | int i t => exact PySem.P.repr_of_int (of_decide_eq_true hs) ⟨.str _, H, I.tok _, ⟨_, rfl⟩, q⟩
  | str x t => exact PySem.P.repr_of_str ⟨.str _, H, I.tok _, ⟨_, rfl⟩, q⟩ hz
  | list => exact big _ rfl
  | tuple => exact big _ rfl
  | dict => exact big _ rfl
/-- the text of data -/
def reprO (d : D) : Option D := if (shp d && (py d).showable && !(py d).hasDict && lim (py d).shown.length) = true then some (.str (py d).shown.cps.toList) else none
def reprD : List D → Option D
  | [d] => reprO d
  | _ => none
theorem call_reprD (hr : RoomG k X.A) : CallD X (.builtin "repr") reprD := ⟨_, cr_repr hr, fun G B H σ env vs ds z Q ok r0 e k => by
  unfold reprD at e
  split at e
  rotate_left
  · cases e
  rename_i d
  unfold reprO at e
  split at e
  rotate_left
  · cases e
  rename_i hc
  cases e
  simp only [Bool.and_eq_true] at hc
  obtain ⟨⟨⟨h1, h2⟩, h3⟩, h4⟩ := hc
  obtain ⟨v, rfl, r⟩ := reps1 r0
  have h1' := h1
  unfold shp at h1'
  rw [Bool.and_eq_true] at h1'
  exact ⟨v, py d, rfl, dp_of ok.sub d v h1'.1 r, h2, by simpa using h3, Nat.le_trans (lay_py d h1'.1).2 (of_decide_eq_true h1'.2), lim_ok h4, k _ B H ok (by
    show V.str (py d).shown = V.str (mkS (py d).shown.cps.toList)
    rfl)⟩⟩
/-- str(int) -/
def strD : List D → Option D
  | [.int i] => if i.natAbs.log2 < 1920 then some (.str (toString i : Str).cps.toList) else none
  | _ => none
theorem call_strD : CallD X (.type "str") strD := ⟨_, call_str_int, fun G B H σ env vs ds z Q ok r0 e k => by
  unfold strD at e
  split at e
  rotate_left
  · cases e
  rename_i i
  split at e
  rotate_left
  · cases e
  rename_i hi
  cases e
  obtain ⟨v, rfl, r⟩ := reps1 r0
  exact ⟨i, by rw [show v = _ from r], hi, k _ B H ok rfl⟩⟩
/-- tuple(range(n)) -/
theorem pd_tupRg1 {e : Expr} {m : M D} {p p2 pos pos2 : Pos} (h : PD X e m) (hm : X.mg "tuple" = none) (hm2 : X.mg "range" = none) (hg : Gl X "tuple" := by rfl) (hg2 : Gl X "range" := by rfl) (hc : X.calm = true := by rfl)
    (na : starEach [.Call (.Name "range" p2) [e] [] pos2] X.env = (false, eval (.Call (.Name "range" p2) [e] [] pos2) X.env) :: starEach [] X.env := by rfl) (na2 : starEach [e] X.env = (false, eval e X.env) :: starEach [] X.env := by rfl) :
    PD X (.Call (.Name "tuple" p) [.Call (.Name "range" p2) [e] [] pos2] [] pos) (eTup (iRange range1 (aCons m (ret [])))) :=
  pe_mono (pe_tupRg hc hg hm (prg_1 hg2 hm2 h na2) na) fun σ H Q ⟨G, B, env, d, env', ok, e, k⟩ => by
    obtain ⟨ds, e1, q1, q2⟩ := bnd_some e
    obtain ⟨as, e2, q3, q4⟩ := bnd_some q1
    obtain ⟨x, e3, q5, q6⟩ := bnd_some q3
    obtain ⟨xs, e4, q7, q8⟩ := bnd_some q6
    cases ret_some q7
    cases ret_some q8
    obtain ⟨rs, q9, q10⟩ := lft_some q4
    cases q10
    split at q2
    rotate_left
    · cases q2
    rename_i hl
    cases ret_some q2
    unfold range1 at q9
    split at q9
    rotate_left
    · cases q9
    rename_i j hx
    cases hx
    split at q9
    rotate_left
    · cases q9
    rename_i hj
    cases q9
    refine tD_of ok q5 fun v B1 H1 ok1 _ r1 => ⟨j, r1, ?_, fun q hq => ?_⟩
    · unfold small62 at hj
      rw [Bool.and_eq_true] at hj
      have h1 := of_decide_eq_true hj.1
      have h2 := of_decide_eq_true hj.2
      have h3 := lim_ok hl
      unfold rangeD at h3
      rw [List.length_map, List.length_range] at h3
      have h4 : sizeLine = 2 ^ 24 := by decide
      refine ⟨by decide, by decide, h1, h2, ?_⟩
      rw [Int.sub_zero]
      omega
    · refine k (.ref q) _ _ (ok1.lay hq) ⟨q, rgV 0 j, rfl, SqT.of upd_same, ?_⟩
      unfold rangeD rgV
      rw [Int.sub_zero]
      exact rgV_reps 0 _
end
end Dv
/-! Code on data, walked backwards from what is wanted: no frame has to be written. -/
namespace Dv
open PySem PySem.Spec PyProof.Rows L2 Evl
section
variable {α β : Type}
def Wp (m : M α) (e : Lvs) (Q : α → Lvs → Prop) : Prop := ∃ a e', m e = some (a, e') ∧ Q a e'
def Ws (m : MS) (e : Lvs) (Q : Out → Lvs → Prop) : Prop := ∃ a e', m e = some (a, e') ∧ Q a e'
/-- what an operation gives -/
def Op (o : Option α) (Q : α → Prop) : Prop := ∃ a, o = some a ∧ Q a
/-- what a def gives -/
def Ret (o : Option (D × List D)) (P : D → List D → Prop) : Prop := ∃ r bs, o = some (r, bs) ∧ P r bs
theorem Ret.mono {o : Option (D × List D)} {P Q : D → List D → Prop} (h : Ret o P) (i : ∀ r bs, P r bs → Q r bs) : Ret o Q := by
  obtain ⟨r, bs, h1, h2⟩ := h
  exact ⟨r, bs, h1, i r bs h2⟩
theorem ret_is {o : Option (D × List D)} {r : D} {bs : List D} {P : D → List D → Prop} (h : o = some (r, bs)) (q : P r bs) : Ret o P := ⟨r, bs, h, q⟩
theorem Ret.is {o : Option (D × List D)} {r : D} {bs : List D} (h : Ret o fun a b => a = r ∧ b = bs) : o = some (r, bs) := by
  obtain ⟨a, b, h1, h2, h3⟩ := h
  rw [h1, h2, h3]
theorem op_is {o : Option α} {a : α} {Q : α → Prop} (h : o = some a) (q : Q a) : Op o Q := ⟨a, h, q⟩
/-- the value is of a kind -/
def IsB (d : D) (Q : Bool → Prop) : Prop := ∃ b, d = .bl b ∧ Q b
def IsI (d : D) (Q : Int → Prop) : Prop := ∃ b, d = .int b ∧ Q b
def IsS (d : D) (Q : List Nat → Prop) : Prop := ∃ b, d = .str b ∧ Q b
theorem isB_bl {b : Bool} {Q : Bool → Prop} (h : Q b) : IsB (.bl b) Q := ⟨b, rfl, h⟩
theorem isI_int {b : Int} {Q : Int → Prop} (h : Q b) : IsI (.int b) Q := ⟨b, rfl, h⟩
theorem isS_str {b : List Nat} {Q : List Nat → Prop} (h : Q b) : IsS (.str b) Q := ⟨b, rfl, h⟩
/-- two ways -/
def Br (b : Bool) (P R : Prop) : Prop := (b = true → P) ∧ (b = false → R)
theorem br_true {P R : Prop} (h : P) : Br true P R := ⟨fun _ => h, fun q => by cases q⟩
theorem br_false {P R : Prop} (h : R) : Br false P R := ⟨fun q => Bool.noConfusion q, fun _ => h⟩
theorem br_t {b : Bool} {P R : Prop} (hb : b = true) (h : P) : Br b P R := ⟨fun _ => h, fun q => by rw [hb] at q; cases q⟩
theorem br_f {b : Bool} {P R : Prop} (hb : b = false) (h : R) : Br b P R := ⟨fun q => (by rw [hb] at q; cases q), fun _ => h⟩
theorem br_not {b : Bool} {P R : Prop} (h : Br b R P) : Br (!b) P R := ⟨fun q => h.2 (by cases b; rfl; cases q), fun q => h.1 (by cases b; cases q; rfl)⟩
theorem br_and {a b : Bool} {P R : Prop} (h : Br a (Br b P R) R) : Br (a && b) P R := by
  cases a
  · exact ⟨fun q => Bool.noConfusion q, fun _ => h.2 rfl⟩
  · exact h.1 rfl
theorem br_or {a b : Bool} {P R : Prop} (h : Br a P (Br b P R)) : Br (a || b) P R := by
  cases a
  · exact h.2 rfl
  · exact ⟨fun _ => h.1 rfl, fun q => by cases q⟩
theorem br_dec {p : Prop} [Decidable p] {P R : Prop} (h : p → P) (h2 : ¬ p → R) : Br (decide p) P R := ⟨fun q => h (of_decide_eq_true q), fun q => h2 (of_decide_eq_false q)⟩
theorem br_decT {p : Prop} [Decidable p] {P R : Prop} (hp : p) (h : P) : Br (decide p) P R := br_t (decide_eq_true hp) h
theorem br_decF {p : Prop} [Decidable p] {P R : Prop} (hp : ¬ p) (h : R) : Br (decide p) P R := br_f (decide_eq_false hp) h
theorem br_isN {P R : Prop} (h : P) : Br (isNon .non) P R := br_t rfl h
theorem br_isN_int {i : Int} {P R : Prop} (h : R) : Br (isNon (.int i)) P R := br_f rfl h
theorem br_isN_str {i : List Nat} {P R : Prop} (h : R) : Br (isNon (.str i)) P R := br_f rfl h
theorem br_isN_bl {i : Bool} {P R : Prop} (h : R) : Br (isNon (.bl i)) P R := br_f rfl h
theorem br_isN_lst {i : List D} {P R : Prop} (h : R) : Br (isNon (.lst i)) P R := br_f rfl h
theorem br_isN_tup {i : List D} {P R : Prop} (h : R) : Br (isNon (.tup i)) P R := br_f rfl h
theorem br_same {b : Bool} {P : Prop} (h : P) : Br b P P := ⟨fun _ => h, fun _ => h⟩
theorem br_case {b : Bool} {P R : Prop} (h : b = true → P) (h2 : b = false → R) : Br b P R := ⟨h, h2⟩

variable {e e1 : Lvs} {i j : Nat} {d : D} {f : D → D → Option D} {ma mb mc : M D} {mt mu : M Bool} {ml : M (List D)} {mo mp : M (Option Int)} {sa sb : MS} {Q : D → Lvs → Prop} {QB : Bool → Lvs → Prop} {QL : List D → Lvs → Prop} {QS : Out → Lvs → Prop} {QV : List Av → Lvs → Prop} {QO : Option Int → Lvs → Prop} {P : Prop}
theorem w_bnd {m : M α} {k : α → M β} {Q : β → Lvs → Prop} (h : Wp m e fun a e1 => Wp (k a) e1 Q) : Wp (bnd m k) e Q := by
  obtain ⟨a, e1, h1, b, e2, h2, h3⟩ := h
  exact ⟨b, e2, ev_bnd h1 h2, h3⟩
theorem w_ret {a : α} {Q : α → Lvs → Prop} (h : Q a e) : Wp (ret a) e Q := ⟨a, e, rfl, h⟩
theorem w_lft {o : Option α} {Q : α → Lvs → Prop} (h : Op o fun a => Q a e) : Wp (lft o) e Q := by
  obtain ⟨a, h1, h2⟩ := h
  exact ⟨a, e, ev_lft h1, h2⟩
theorem w_is {m : M α} {a : α} {Q : α → Lvs → Prop} (h : m e = some (a, e1)) (q : Q a e1) : Wp m e Q := ⟨a, e1, h, q⟩
theorem Wp.mono {m : M α} {Q R : α → Lvs → Prop} (h : Wp m e Q) (i : ∀ a e1, Q a e1 → R a e1) : Wp m e R := by
  obtain ⟨a, e1, h1, h2⟩ := h
  exact ⟨a, e1, h1, i a e1 h2⟩
theorem Ws.mono {m : MS} {Q R : Out → Lvs → Prop} (h : Ws m e Q) (i : ∀ a e1, Q a e1 → R a e1) : Ws m e R := by
  obtain ⟨a, e1, h1, h2⟩ := h
  exact ⟨a, e1, h1, i a e1 h2⟩
theorem w_C (h : Q d e) : Wp (eC d) e Q := ⟨d, e, rfl, h⟩
theorem w_var (hl : e[i]? = some (.val d)) (h : Q d e) : Wp (eVar i) e Q := ⟨d, e, ev_var hl, h⟩
theorem w_varO {p : Bool} (hl : e[i]? = some (.own p d)) (hs : e.set i (.val d) = e1) (h : Q d e1) : Wp (eVar i) e Q := ⟨d, e1, ev_varO hl hs, h⟩
theorem w_peek (hl : e[i]? = some (.val d)) (h : Q d e) : Wp (ePeek i) e Q := ⟨d, e, ev_peek hl, h⟩
theorem w_peekO {p : Bool} (hl : e[i]? = some (.own p d)) (h : Q d e) : Wp (ePeek i) e Q := ⟨d, e, ev_peekO hl, h⟩
theorem w_op (h : Wp ma e fun x e1 => Wp mb e1 fun y e2 => Op (f x y) fun z => Q z e2) : Wp (eOp f ma mb) e Q := w_bnd (h.mono fun _ _ h => w_bnd (h.mono fun _ _ h => w_lft h))
theorem w_opL (h : Wp (ePeek i) e fun _ e1 => Wp mb e1 fun y e2 => Wp (ePeek i) e2 fun x e3 => Op (f x y) fun z => Q z e3) : Wp (eOpL f i mb) e Q := w_bnd (h.mono fun _ _ h => w_bnd (h.mono fun _ _ h => w_bnd (h.mono fun _ _ h => w_lft h)))
theorem w_opR (h : Wp ma e fun x e1 => Wp (ePeek j) e1 fun y e2 => Op (f x y) fun z => Q z e2) : Wp (eOpR f ma j) e Q := w_bnd (h.mono fun _ _ h => w_bnd (h.mono fun _ _ h => w_lft h))
theorem w_opB (h : Wp (ePeek i) e fun x e1 => Wp (ePeek j) e1 fun y e2 => Op (f x y) fun z => Q z e2) : Wp (eOpB f i j) e Q := w_bnd (h.mono fun _ _ h => w_bnd (h.mono fun _ _ h => w_lft h))
theorem w_test (h : Wp ma e fun d e1 => IsB d fun b => QB b e1) : Wp (eTest ma) e QB := w_bnd (h.mono fun _ _ ⟨b, h1, h2⟩ => by subst h1; exact ⟨b, _, rfl, h2⟩)
theorem w_cons (h : Wp ma e fun d e1 => Wp ml e1 fun ds e2 => QL (d :: ds) e2) : Wp (aCons ma ml) e QL := w_bnd (h.mono fun _ _ h => w_bnd (h.mono fun _ _ h => w_ret h))
def Gd (b : Bool) (P : Prop) : Prop := b = true ∧ P
theorem gd_is {b : Bool} {P : Prop} (h : b = true) (p : P) : Gd b P := ⟨h, p⟩
def Gp (b : Bool) (P : Prop) : Prop := b = true ∧ P
theorem gp_is {b : Bool} {P : Prop} (h : b = true) (p : P) : Gp b P := ⟨h, p⟩
theorem w_lst (h : Wp ml e fun ds e1 => Gd (lim ds.length) (Q (.lst ds) e1)) : Wp (eLst ml) e Q := w_bnd (h.mono fun _ _ ⟨h1, h2⟩ => by rw [if_pos h1]; exact w_ret h2)
theorem w_tup (h : Wp ml e fun ds e1 => Gd (lim ds.length) (Q (.tup ds) e1)) : Wp (eTup ml) e Q := w_bnd (h.mono fun _ _ ⟨h1, h2⟩ => by rw [if_pos h1]; exact w_ret h2)
theorem w_ix (h : Wp ma e fun x e1 => Wp mb e1 fun y e2 => Op (ixD x y) fun z => Q z e2) : Wp (eIx ma mb) e Q := w_bnd (h.mono fun _ _ h => w_bnd (h.mono fun _ _ h => w_lft h))
theorem w_ixV (h : Wp (ePeek i) e fun _ e1 => Wp mb e1 fun y e2 => Wp (ePeek i) e2 fun x e3 => Op (ixD x y) fun z => Q z e3) : Wp (eIxV i mb) e Q := w_bnd (h.mono fun _ _ h => w_bnd (h.mono fun _ _ h => w_bnd (h.mono fun _ _ h => w_lft h)))
theorem w_oN (h : QO none e) : Wp oNone e QO := ⟨none, e, rfl, h⟩
theorem w_oS (h : Wp ma e fun d e1 => IsI d fun k => QO (some k) e1) : Wp (oSome ma) e QO := w_bnd (h.mono fun _ _ ⟨b, h1, h2⟩ => by subst h1; exact ⟨_, _, rfl, h2⟩)
theorem w_sl (h : Wp ma e fun x e1 => Wp mo e1 fun l e2 => Wp mp e2 fun r e3 => Op (slD x l r) fun z => Q z e3) : Wp (eSl ma mo mp) e Q := w_bnd (h.mono fun _ _ h => w_bnd (h.mono fun _ _ h => w_bnd (h.mono fun _ _ h => w_lft h)))
theorem w_rev (h : Wp ma e fun x e1 => Wp mo e1 fun l e2 => Op (revS x l) fun z => Q z e2) : Wp (eRev ma mo) e Q := w_bnd (h.mono fun _ _ h => w_bnd (h.mono fun _ _ h => w_lft h))
theorem w_callB {F : List D → Option D} (h : Wp ml e fun ds e1 => Op (F ds) fun z => Q z e1) : Wp (eCallB F ml) e Q := w_bnd (h.mono fun _ _ h => w_lft h)
theorem w_lenV (h : Wp (ePeek i) e fun x e1 => Op (lenD [x]) fun z => Q z e1) : Wp (eLenV i) e Q := w_bnd (h.mono fun _ _ h => w_lft h)
theorem w_methS {F : D → List D → Option D} (h : Wp ma e fun d e1 => IsS d fun s => Wp ml e1 fun ds e2 => Op (F (.str s) ds) fun z => Q z e2) : Wp (eMethS F ma ml) e Q := w_bnd (h.mono fun _ _ ⟨b, h1, h2⟩ => by subst h1; exact w_bnd (h2.mono fun _ _ h => w_lft h))
theorem w_bits (h : Wp ma e fun d e1 => IsI d fun k => Q (.int (Builtin.Int.intBits k : Nat)) e1) : Wp (eBits ma) e Q := w_bnd (h.mono fun _ _ ⟨b, h1, h2⟩ => by subst h1; exact ⟨_, _, rfl, h2⟩)
theorem w_neg (h : Wp ma e fun d e1 => IsI d fun k => Q (.int (-k)) e1) : Wp (eNeg ma) e Q := w_bnd (h.mono fun _ _ ⟨b, h1, h2⟩ => by subst h1; exact ⟨_, _, rfl, h2⟩)
theorem w_not (h : Wp ma e fun d e1 => IsB d fun b => Q (.bl (!b)) e1) : Wp (eNot ma) e Q := w_bnd (h.mono fun _ _ ⟨b, h1, h2⟩ => by subst h1; exact ⟨_, _, rfl, h2⟩)
theorem w_and (h : Wp ma e fun d e1 => IsB d fun b => Br b (Wp mb e1 Q) (Q (.bl false) e1)) : Wp (eAnd ma mb) e Q := w_bnd (h.mono fun _ _ ⟨b, h1, h2⟩ => by
  subst h1
  cases b
  · exact ⟨_, _, rfl, h2.2 rfl⟩
  · exact h2.1 rfl)
theorem w_or (h : Wp ma e fun d e1 => IsB d fun b => Br b (Q (.bl true) e1) (Wp mb e1 Q)) : Wp (eOr ma mb) e Q := w_bnd (h.mono fun _ _ ⟨b, h1, h2⟩ => by
  subst h1
  cases b
  · exact h2.2 rfl
  · exact ⟨_, _, rfl, h2.1 rfl⟩)
theorem w_bAnd (h : Wp mt e fun b e1 => Br b (Wp mu e1 QB) (QB false e1)) : Wp (bAnd mt mu) e QB := w_bnd (h.mono fun b _ h2 => by
  cases b
  · exact ⟨_, _, rfl, h2.2 rfl⟩
  · exact h2.1 rfl)
theorem w_bOr (h : Wp mt e fun b e1 => Br b (QB true e1) (Wp mu e1 QB)) : Wp (bOr mt mu) e QB := w_bnd (h.mono fun b _ h2 => by
  cases b
  · exact h2.2 rfl
  · exact ⟨_, _, rfl, h2.1 rfl⟩)
theorem w_bNot (h : Wp mt e fun b e1 => QB (!b) e1) : Wp (bNot mt) e QB := w_bnd (h.mono fun b _ h2 => ⟨_, _, rfl, h2⟩)
theorem w_eIf (h : Wp mt e fun b e1 => Br b (Wp ma e1 Q) (Wp mb e1 Q)) : Wp (eIf mt ma mb) e Q := w_bnd (h.mono fun b _ h2 => by
  cases b
  · exact h2.2 rfl
  · exact h2.1 rfl)
theorem w_chn {f g : D → D → Option D} (h : Wp ma e fun x e1 => Wp mb e1 fun y e2 => Op (f x y) fun z => IsB z fun b => Br b (Wp mc e2 fun w e3 => Op (g y w) fun z => Q z e3) (Q (.bl false) e2)) : Wp (eChn f g ma mb mc) e Q := w_bnd (h.mono fun _ _ h => w_bnd (h.mono fun _ _ h => by
  obtain ⟨z, h1, b, h2, h3⟩ := h
  subst h2
  refine w_bnd (w_lft ⟨_, h1, ?_⟩)
  cases b
  · exact ⟨_, _, rfl, h3.2 rfl⟩
  · exact w_bnd ((h3.1 rfl).mono fun _ _ h => w_lft h)))
theorem w_yes (h : QB true e) : Wp bYes e QB := ⟨true, e, rfl, h⟩
theorem w_iAny (h : Wp ma e fun d e1 => Op (itemsOf d) fun ds => QL ds e1) : Wp (iAny ma) e QL := w_bnd (h.mono fun _ _ h => w_lft h)
theorem w_enum (h : Wp ma e fun d e1 => Op ((itemsOf d).map enumD) fun ds => QL ds e1) : Wp (iEnumM ma) e QL := w_bnd (h.mono fun _ _ h => w_lft h)
theorem w_zip (h : Wp ml e fun ds e1 => Op (zip2 ds) fun is => QL is e1) : Wp (iZipM ml) e QL := w_bnd (h.mono fun _ _ h => w_lft h)
theorem w_zipS (h : Wp ml e fun ds e1 => Op (zip2S ds) fun is => QL is e1) : Wp (iZipSM ml) e QL := w_bnd (h.mono fun _ _ h => w_lft h)
/-- the items of data, from the end; as a new list; as a tuple -/
def revO : D → Option (List D)
  | .str s => if lim s.length = true then some (s.reverse.map fun c => D.str [c]) else none
  | .lst ds => some ds.reverse
  | .fls ds => some ds.reverse
  | .tup ds => some ds.reverse
  | _ => none
def lstO : D → Option D
  | .str s => if lim s.length = true then some (.lst (s.map fun c => .str [c])) else none
  | .lst ds => some (.lst ds)
  | .fls ds => some (.lst ds)
  | .tup ds => some (.lst ds)
  | _ => none
def tupO : D → Option D
  | .lst ds => some (.tup ds)
  | .fls ds => some (.tup ds)
  | .tup ds => some (.tup ds)
  | _ => none
theorem w_revM (h : Wp ma e fun d e1 => Op (revO d) fun ds => QL ds e1) : Wp (iRevM ma) e QL := w_bnd (h.mono fun d e1 ⟨ds, h1, h2⟩ => by
  cases d with
  | str s =>
    have h1 : (if lim s.length = true then some (s.reverse.map fun c => D.str [c]) else none) = some ds := h1
    split at h1
    · rename_i hl
      cases h1
      show Wp (if lim s.length = true then ret (s.map fun c => D.str [c]).reverse else stuck) e1 QL
      rw [if_pos hl, ← List.map_reverse]
      exact w_ret h2
    · cases h1
  | lst es => cases h1; exact w_ret h2
  | fls es => cases h1; exact w_ret h2
  | tup es => cases h1; exact w_ret h2
  | _ => cases h1)
theorem w_listOf (h : Wp ma e fun d e1 => Op (lstO d) fun z => Q z e1) : Wp (eListOf ma) e Q := w_bnd (h.mono fun d e1 ⟨ds, h1, h2⟩ => by
  cases d with
  | str s =>
    have h1 : (if lim s.length = true then some (D.lst (s.map fun c => D.str [c])) else none) = some ds := h1
    split at h1
    · rename_i hl
      cases h1
      show Wp (if lim s.length = true then ret (D.lst (s.map fun c => D.str [c])) else stuck) e1 Q
      rw [if_pos hl]
      exact w_ret h2
    · cases h1
  | lst es => cases h1; exact w_ret h2
  | fls es => cases h1; exact w_ret h2
  | tup es => cases h1; exact w_ret h2
  | _ => cases h1)
theorem w_tupOf (h : Wp ma e fun d e1 => Op (tupO d) fun z => Q z e1) : Wp (eTupOf ma) e Q := w_bnd (h.mono fun d e1 ⟨ds, h1, h2⟩ => by
  cases d with
  | lst es => cases h1; exact w_ret h2
  | fls es => cases h1; exact w_ret h2
  | tup es => cases h1; exact w_ret h2
  | _ => cases h1)
theorem w_sumV (h : Wp (ePeek i) e fun x e1 => Op (sumD [x]) fun z => Q z e1) : Wp (eSumV i) e Q := w_bnd (h.mono fun _ _ h => w_lft h)
theorem w_sorted (h : Wp ma e fun d e1 => Op (srtO d) fun z => Q z e1) : Wp (eSorted ma) e Q := w_bnd (h.mono fun _ _ h => w_lft h)
theorem srt_of {ks : List (List Int)} (h : 2 ≤ ks.length → ∀ k ∈ ks, k ≠ []) : srtO (.lst (ks.map tupD)) = some (.lst ((sortK ks).map tupD)) := by
  show srtK (tupsOf (ks.map tupD)) = _
  rw [tupsOf_map]
  refine if_pos ?_
  by_cases c : ks.length < 2
  · exact .inl c
  · refine .inr (List.all_eq_true.mpr fun k hk => ?_)
    have := h (by omega) k hk
    cases k with
    | nil => exact absurd rfl this
    | cons _ _ => rfl
theorem rev_str {s : List Nat} (h : lim s.length = true) : revO (.str s) = some (s.reverse.map fun c => D.str [c]) := if_pos h
theorem lst_str {s : List Nat} (h : lim s.length = true) : lstO (.str s) = some (.lst (s.map fun c => .str [c])) := if_pos h
theorem zipS_of {a b : D} {xs ys : List D} (ha : itemsOf a = some xs) (hb : itemsOf b = some ys) (h : xs.length = ys.length) : zip2S [a, b] = some (zipD xs ys) := by
  show (match itemsOf a with | some xs => (match itemsOf b with | some ys => if xs.length = ys.length then some (zipD xs ys) else none | none => none) | none => none) = _
  rw [ha]
  show (match itemsOf b with | some ys => if xs.length = ys.length then some (zipD xs ys) else none | none => none) = _
  rw [hb]
  exact if_pos h
theorem w_iRange {r : List D → Option (List D)} (h : Wp ml e fun ds e1 => Op (r ds) fun is => QL is e1) : Wp (iRange r ml) e QL := w_bnd (h.mono fun _ _ h => w_lft h)
theorem w_rVal {m : M (List Av)} (h : Wp ma e fun d e1 => Wp m e1 fun avs e2 => QV (.val d :: avs) e2) : Wp (rVal ma m) e QV := w_bnd (h.mono fun _ _ h => w_bnd (h.mono fun _ _ h => w_ret h))
theorem w_rNew {m : M (List Av)} (h : Wp ma e fun d e1 => Wp m e1 fun avs e2 => QV (.new d :: avs) e2) : Wp (rNew ma m) e QV := w_bnd (h.mono fun _ _ h => w_bnd (h.mono fun _ _ h => w_ret h))
theorem w_rLend {m : M (List Av)} (h : Wp (ePeek i) e fun _ e1 => Wp m e1 fun avs e2 => QV (.lend i :: avs) e2) : Wp (rLend i m) e QV := w_bnd (h.mono fun _ _ h => w_bnd (h.mono fun _ _ h => w_ret h))
/-- the arguments in their order -/
def Pm (ds : List D) : List Nat → (List Av → Prop) → Prop
  | [], R => R []
  | i :: p, R => ∃ d, ds[i]? = some d ∧ Pm ds p fun avs => R (.val d :: avs)
theorem pm_nil {ds : List D} {R : List Av → Prop} (h : R []) : Pm ds [] R := h
theorem pm_cons {ds : List D} {i : Nat} {p : List Nat} {d : D} {R : List Av → Prop} (h : ds[i]? = some d) (q : Pm ds p fun avs => R (.val d :: avs)) : Pm ds (i :: p) R := ⟨d, h, q⟩
theorem pm_map {ds : List D} : ∀ {p : List Nat} {R : List Av → Prop}, Pm ds p R → R (p.map fun i => .val (ds.getD i .non))
  | [], R, h => h
  | i :: p, R, ⟨d, h, q⟩ => by
    have := pm_map (p := p) (R := fun avs => R (.val d :: avs)) q
    rw [List.map_cons, List.getD_eq_getElem?_getD, h]
    exact this
theorem w_rPerm {n : Nat} {perm : List Nat} (h : Wp ml e fun ds e1 => Gp (decide (ds.length = n)) (Pm ds perm fun avs => QV avs e1)) : Wp (rPerm n perm ml) e QV := w_bnd (h.mono fun _ _ ⟨h1, h2⟩ => by rw [if_pos (of_decide_eq_true h1)]; exact w_ret (pm_map h2))
/-- the arguments are told; the def; what it has lent comes back -/
def Call (ms : List Bool) (F : Fn) (avs : List Av) (e : Lvs) (Q : D → Lvs → Prop) : Prop := kinds ms avs = true ∧ ∃ ds, dsOf e avs = some ds ∧ Ret (F ds) fun r bs => Op (putBack avs bs e) fun e2 => Q r e2
theorem w_call {ms : List Bool} {F : Fn} {m : M (List Av)} (h : Wp m e fun avs e1 => Call ms F avs e1 Q) : Wp (eCall ms F m) e Q := by
  obtain ⟨avs, e1, h1, hk, ds, hd, r, bs, hF, e2, hp, q⟩ := h
  exact ⟨r, e2, ev_call h1 hk hd hF hp, q⟩
theorem call_is {ms : List Bool} {F : Fn} {avs : List Av} {ds : List D} (hk : kinds ms avs = true) (hd : dsOf e avs = some ds) (h : Ret (F ds) fun r bs => Op (putBack avs bs e) fun e2 => Q r e2) : Call ms F avs e Q := ⟨hk, ds, hd, h⟩
theorem pb_nil {R : Lvs → Prop} (h : R e) : Op (putBack [] [] e) R := ⟨e, rfl, h⟩
theorem pb_val {avs : List Av} {bs : List D} {R : Lvs → Prop} (h : Op (putBack avs bs e) R) : Op (putBack (.val d :: avs) bs e) R := h
theorem pb_new {avs : List Av} {b : D} {bs : List D} {R : Lvs → Prop} (h : Op (putBack avs bs e) R) : Op (putBack (.new d :: avs) (b :: bs) e) R := h
theorem pb_lend {avs : List Av} {p : Bool} {b : D} {bs : List D} {R : Lvs → Prop} (hl : e[i]? = some (.own p d)) (hs : e.set i (.own p b) = e1) (h : Op (putBack avs bs e1) R) : Op (putBack (.lend i :: avs) (b :: bs) e) R := by
  obtain ⟨e2, h1, h2⟩ := h
  refine ⟨e2, ?_, h2⟩
  unfold putBack
  rw [hl]
  subst hs
  exact h1
/-! ### statements -/
/-- what comes next; what a loop's turn leads to; what a def gives -/
def Nx (P : Lvs → Prop) (Q : Out → Lvs → Prop) : Out → Lvs → Prop
  | .nx => P
  | o => Q o
def Lp (P : Lvs → Prop) (Q : Out → Lvs → Prop) : Out → Lvs → Prop
  | .nx => P
  | .ct => P
  | .bk => Q .nx
  | o => Q o
def Fi (ms : List Bool) (P : D → List D → Prop) : Out → Lvs → Prop
  | .rt d => fun e => Op (backs ms e) (P d)
  | .nx => fun e => Op (backs ms e) (P .non)
  | _ => fun _ => False
def FiF (ms : List Bool) (P : D → List D → Prop) : Out → Lvs → Prop
  | .rn d => fun e => Op (backs ms e) (P d)
  | _ => fun _ => False
section
variable {R : Lvs → Prop} {ms : List Bool} {G : D → List D → Prop}
theorem nx_nx (h : R e) : Nx R QS .nx e := h
theorem nx_bk (h : QS .bk e) : Nx R QS .bk e := h
theorem nx_ct (h : QS .ct e) : Nx R QS .ct e := h
theorem nx_rt (h : QS (.rt d) e) : Nx R QS (.rt d) e := h
theorem nx_rn (h : QS (.rn d) e) : Nx R QS (.rn d) e := h
theorem lp_nx (h : R e) : Lp R QS .nx e := h
theorem lp_ct (h : R e) : Lp R QS .ct e := h
theorem lp_bk (h : QS .nx e) : Lp R QS .bk e := h
theorem lp_rt (h : QS (.rt d) e) : Lp R QS (.rt d) e := h
theorem lp_rn (h : QS (.rn d) e) : Lp R QS (.rn d) e := h
theorem fi_rt (h : Op (backs ms e) (G d)) : Fi ms G (.rt d) e := h
theorem fi_nx (h : Op (backs ms e) (G .non)) : Fi ms G .nx e := h
theorem fi_rn (h : Op (backs ms e) (G d)) : FiF ms G (.rn d) e := h
end
theorem s_seq (h : Ws sa e (Nx (fun e1 => Ws sb e1 QS) QS)) : Ws (sSeq sa sb) e QS := by
  obtain ⟨o, e1, h1, h2⟩ := h
  unfold Ws sSeq
  rw [h1]
  cases o with
  | nx => exact h2
  | bk => exact ⟨_, _, rfl, h2⟩
  | ct => exact ⟨_, _, rfl, h2⟩
  | rt d => exact ⟨_, _, rfl, h2⟩
  | rn d => exact ⟨_, _, rfl, h2⟩
theorem s_nx (h : QS .nx e) : Ws sNx e QS := ⟨_, _, rfl, h⟩
theorem s_bk (h : QS .bk e) : Ws sBk e QS := ⟨_, _, rfl, h⟩
theorem s_ct (h : QS .ct e) : Ws sCt e QS := ⟨_, _, rfl, h⟩
theorem s_if (h : Wp mt e fun b e1 => Br b (Ws sa e1 QS) (Ws sb e1 QS)) : Ws (sIf mt sa sb) e QS := by
  obtain ⟨b, e1, h1, h2⟩ := h
  unfold Ws sIf
  rw [h1]
  cases b
  · exact h2.2 rfl
  · exact h2.1 rfl
/-- e with d in slot i -/
def Put (e : Lvs) (i : Nat) (d : Lv) (R : Lvs → Prop) : Prop := R (e.set i d)
theorem put_is {x : Lv} {R : Lvs → Prop} (hs : e.set i x = e1) (h : R e1) : Put e i x R := by subst hs; exact h
theorem s_set (h : Wp ma e fun d e1 => Put e1 i (.val d) (QS .nx)) : Ws (sSet i ma) e QS := by
  obtain ⟨d, e1, h1, h2⟩ := h
  exact ⟨_, _, ev_set h1 rfl, h2⟩
theorem s_own (h : Wp ma e fun d e1 => Put e1 i (.own false d) (QS .nx)) : Ws (sOwn i ma) e QS := by
  obtain ⟨d, e1, h1, h2⟩ := h
  exact ⟨_, _, ev_own h1 rfl, h2⟩
theorem s_rt (h : Wp ma e fun d e1 => QS (.rt d) e1) : Ws (sRet ma) e QS := by
  obtain ⟨d, e1, h1, h2⟩ := h
  exact ⟨_, _, ev_rt h1, h2⟩
theorem s_rtF (h : Wp ma e fun d e1 => QS (.rn d) e1) : Ws (sRetF ma) e QS := by
  obtain ⟨d, e1, h1, h2⟩ := h
  exact ⟨_, _, ev_rtF h1, h2⟩
theorem s_rtV (hl : e[i]? = some (.own false d)) (h : Put e i .no (QS (.rn d))) : Ws (sRetV i) e QS := ⟨_, _, by unfold sRetV; rw [hl], h⟩
theorem s_rtN (h : QS (.rt .non) e) : Ws sRetN e QS := ⟨_, _, rfl, h⟩
theorem s_do (h : Wp ma e fun _ e1 => QS .nx e1) : Ws (sDo ma) e QS := by
  obtain ⟨d, e1, h1, h2⟩ := h
  exact ⟨_, _, ev_do h1, h2⟩
def AppTo (e : Lvs) (i : Nat) (d : D) (R : Lvs → Prop) : Prop := ∃ p ds, e[i]? = some (.own p (.lst ds)) ∧ lim (ds.length + 1) = true ∧ Put e i (.own p (.lst (ds ++ [d]))) R
theorem app_is {p : Bool} {ds : List D} {R : Lvs → Prop} (h1 : e[i]? = some (.own p (.lst ds))) (h2 : lim (ds.length + 1) = true) (h : Put e i (.own p (.lst (ds ++ [d]))) R) : AppTo e i d R := ⟨p, ds, h1, h2, h⟩
theorem s_app {p0 : Bool} {ds0 : List D} (h0 : e[i]? = some (.own p0 (.lst ds0))) (h : Wp ma e fun d e1 => AppTo e1 i d (QS .nx)) : Ws (sApp i ma) e QS := by
  obtain ⟨d, e1, h1, p, ds, h2, h3, h4⟩ := h
  exact ⟨_, _, ev_app h0 h1 h2 h3 rfl, h4⟩
def SetTo (e : Lvs) (i : Nat) (k : Int) (d : D) (R : Lvs → Prop) : Prop := ∃ p ds, e[i]? = some (.own p (.lst ds)) ∧ Op (ixN ds.length k) fun j => Put e i (.own p (.lst (ds.set j d))) R
theorem setTo_is {p : Bool} {ds : List D} {k : Int} {R : Lvs → Prop} (h1 : e[i]? = some (.own p (.lst ds))) (h : Op (ixN ds.length k) fun j => Put e i (.own p (.lst (ds.set j d))) R) : SetTo e i k d R := ⟨p, ds, h1, h⟩
theorem ixN_of {n : Nat} {k : Int} (h0 : 0 ≤ k) (h : k < (n : Int)) : ixN n k = some k.toNat := by
  obtain ⟨j, rfl⟩ := Int.eq_ofNat_of_zero_le h0
  exact ixN_nat (by omega)
theorem s_revI {p : Bool} {ds : List D} (h0 : e[i]? = some (.own p (.lst ds))) (h : Put e i (.own p (.lst ds.reverse)) (QS .nx)) : Ws (sRevI i) e QS := ⟨_, _, by unfold sRevI; rw [h0], h⟩
theorem s_setIx {ix : M D} (h : Wp ma e fun d e1 => Wp (ePeek i) e1 fun _ e2 => Wp ix e2 fun x e3 => IsI x fun k => SetTo e3 i k d (QS .nx)) : Ws (sSetIx i ix ma) e QS := by
  obtain ⟨d, e1, h1, x0, e2, h2, x, e3, h3, k, h4, p, ds, h5, j, h6, h7⟩ := h
  subst h4
  have h2' := h2
  unfold ePeek at h2
  have : e2 = e1 := by
    split at h2
    · cases h2; rfl
    · cases h2; rfl
    · cases h2
  subst this
  exact ⟨_, _, ev_setIx h1 h2' h3 h5 h6 rfl, h7⟩
def Two (ds : List D) (R : D → D → Prop) : Prop := ∃ a b, ds = [a, b] ∧ R a b
theorem two_is {a b : D} {R : D → D → Prop} (h : R a b) : Two [a, b] R := ⟨a, b, rfl, h⟩
def Three (ds : List D) (R : D → D → D → Prop) : Prop := ∃ a b c, ds = [a, b, c] ∧ R a b c
theorem three_is {a b c : D} {R : D → D → D → Prop} (h : R a b c) : Three [a, b, c] R := ⟨a, b, c, rfl, h⟩
theorem s_par (h : Wp ml e fun ds e1 => Two ds fun d1 d2 => Put e1 i (.val d1) fun e2 => Put e2 j (.val d2) (QS .nx)) : Ws (sPar i j ml) e QS := by
  obtain ⟨ds, e1, h1, d1, d2, h2, h3⟩ := h
  subst h2
  exact ⟨_, _, ev_par h1 rfl, h3⟩
/-- what names take at once -/
def TwoV (avs : List Av) (R : Av → Av → Prop) : Prop := ∃ a b, avs = [a, b] ∧ (okAv a && okAv b) = true ∧ R a b
theorem twoV_is {a b : Av} {R : Av → Av → Prop} (h : (okAv a && okAv b) = true) (q : R a b) : TwoV [a, b] R := ⟨a, b, rfl, h, q⟩
def ThreeV (avs : List Av) (R : Av → Av → Av → Prop) : Prop := ∃ a b c, avs = [a, b, c] ∧ (okAv a && okAv b && okAv c) = true ∧ R a b c
theorem threeV_is {a b c : Av} {R : Av → Av → Av → Prop} (h : (okAv a && okAv b && okAv c) = true) (q : R a b c) : ThreeV [a, b, c] R := ⟨a, b, c, rfl, h, q⟩
def PutV (i : Nat) (x : Av) (e : Lvs) (R : Lvs → Prop) : Prop := R (putAv i x e)
theorem pv_val {R : Lvs → Prop} (h : Put e i (.val d) R) : PutV i (.val d) e R := h
theorem pv_new {R : Lvs → Prop} (h : Put e i (.own false d) R) : PutV i (.new d) e R := h
def PutAll (is : List Nat) (avs : List Av) (e : Lvs) (R : Lvs → Prop) : Prop := R (putAll is avs e)
theorem pa_nil' {R : Lvs → Prop} (h : R e) : PutAll [] [] e R := h
theorem pa_cons' {x : Av} {is : List Nat} {avs : List Av} {R : Lvs → Prop} (h : PutV i x e fun e1 => PutAll is avs e1 R) : PutAll (i :: is) (x :: avs) e R := h
theorem s_tupN {is : List Nat} {m : M (List Av)} (h : Wp m e fun avs e1 => Gp (avs.all okAv && decide (is.length = avs.length) && lim avs.length) (PutAll is avs e1 (QS .nx))) : Ws (sTupN is m) e QS := by
  obtain ⟨avs, e1, h1, hk, h3⟩ := h
  refine ⟨.nx, _, ?_, h3⟩
  unfold sTupN
  rw [h1]
  exact if_pos hk
theorem s_par2N {m : M (List Av)} (h : Wp m e fun avs e1 => TwoV avs fun a b => PutV i a e1 fun e2 => PutV j b e2 (QS .nx)) : Ws (sPar2N i j m) e QS := by
  obtain ⟨avs, e1, h1, a, b, rfl, hk, h3⟩ := h
  refine ⟨.nx, _, ?_, h3⟩
  unfold sPar2N
  rw [h1]
  exact if_pos hk
theorem s_par3N {l : Nat} {m : M (List Av)} (h : Wp m e fun avs e1 => ThreeV avs fun a b c => PutV l c e1 fun e2 => PutV j b e2 fun e3 => PutV i a e3 (QS .nx)) : Ws (sPar3N i j l m) e QS := by
  obtain ⟨avs, e1, h1, a, b, c, rfl, hk, h3⟩ := h
  refine ⟨.nx, _, ?_, h3⟩
  unfold sPar3N
  rw [h1]
  exact if_pos hk
theorem s_par3 {l : Nat} (h : Wp ml e fun ds e1 => Three ds fun d1 d2 d3 => Put e1 l (.val d3) fun e2 => Put e2 j (.val d2) fun e3 => Put e3 i (.val d1) (QS .nx)) : Ws (sPar3 i j l ml) e QS := by
  obtain ⟨ds, e1, h1, d1, d2, d3, h2, h3⟩ := h
  subst h2
  exact ⟨_, _, ev_par3 h1 rfl, h3⟩
/-- an item goes to the names -/
def Tg (g : D → Lvs → Option Lvs) (d : D) (e : Lvs) (R : Lvs → Prop) : Prop := ∃ e1, g d e = some e1 ∧ R e1
theorem tg_N {R : Lvs → Prop} (h : Put e i (.val d) R) : Tg (gN i) d e R := ⟨_, rfl, h⟩
def SetAll : List Nat → List D → Lvs → (Lvs → Prop) → Prop
  | [], [], e, R => R e
  | i :: is, d :: ds, e, R => Put e i (.val d) fun e1 => SetAll is ds e1 R
  | _, _, _, _ => False
theorem sa_nil {R : Lvs → Prop} (h : R e) : SetAll [] [] e R := h
theorem sa_cons {is : List Nat} {ds : List D} {R : Lvs → Prop} (h : Put e i (.val d) fun e1 => SetAll is ds e1 R) : SetAll (i :: is) (d :: ds) e R := h
theorem setAll_ok : ∀ {is : List Nat} {ds : List D} {e : Lvs} {R : Lvs → Prop}, SetAll is ds e R → ∃ e1, setAll is ds e = some e1 ∧ R e1
  | [], [], e, R, h => ⟨e, rfl, h⟩
  | i :: is, d :: ds, e, R, h => setAll_ok (is := is) (ds := ds) h
  | [], _ :: _, _, _, h => h.elim
  | _ :: _, [], _, _, h => h.elim
theorem tg_T {is : List Nat} {ds : List D} {R : Lvs → Prop} (h : SetAll is ds e R) : Tg (gT is) (.tup ds) e R := setAll_ok h
theorem s_asg {g : D → Lvs → Option Lvs} (h : Wp ma e fun d e1 => Tg g d e1 (QS .nx)) : Ws (sAsg ma g) e QS := by
  obtain ⟨d, e1, h1, e2, h2, h3⟩ := h
  exact ⟨_, _, ev_asg h1 h2, h3⟩
/-- a is b, and .. -/
def Is {α : Type} (a b : α) (P : Prop) : Prop := a = b ∧ P
theorem is_is {α : Type} {a b : α} {P : Prop} (h : a = b) (p : P) : Is a b P := ⟨h, p⟩
/-- 0, 1 .. n - 1 -/
def rangeN (n : Nat) : List D := (List.range n).map fun (j : Nat) => .int (j : Int)
theorem rangeN_eq (n : Nat) : rangeD 0 n = rangeN n := List.map_congr_left fun j _ => by rw [Int.zero_add]
theorem ev_range1I {n : Int} (h : small62 n = true) : range1 [.int n] = some (rangeN n.toNat) := by
  rw [← rangeN_eq]
  show (if small62 n = true then some (rangeD 0 n.toNat) else none) = _
  rw [if_pos h]
theorem ev_range1N {n : Nat} (h : small62 (n : Int) = true) : range1 [.int (n : Int)] = some (rangeN n) := ev_range1I h
/-! ### loops -/
theorem forL_w {g : D → Lvs → Option Lvs} {b : MS} {QS : Out → Lvs → Prop} (I : Nat → Lvs → Prop) (ds : List D)
    (step : ∀ (i : Nat) (d : D) (e : Lvs), ds[i]? = some d → I i e → Tg g d e fun e1 => Ws b e1 (Lp (I (i + 1)) QS))
    (fin : ∀ e, I ds.length e → QS .nx e) : ∀ (k i : Nat) (e : Lvs), ds.length - i = k → i ≤ ds.length → I i e → Ws (forL g b (ds.drop i)) e QS := by
  intro k
  induction k with
  | zero =>
    intro i e hk hi h
    have : i = ds.length := by omega
    subst this
    rw [List.drop_length]
    exact ⟨_, _, rfl, fin e h⟩
  | succ k ih =>
    intro i e hk hi h
    have hlt : i < ds.length := by omega
    obtain ⟨e1, q1, o, e2, q2, q3⟩ := step i ds[i] e (List.getElem?_eq_getElem hlt) h
    rw [List.drop_eq_getElem_cons hlt]
    unfold Ws forL
    rw [q1]
    show ∃ a e', (match b e1 with | some (.nx, e2) => _ | some (.ct, e2) => _ | some (.bk, e2) => _ | r => r) = some (a, e') ∧ QS a e'
    rw [q2]
    cases o with
    | nx => exact ih (i + 1) e2 (by omega) hlt q3
    | ct => exact ih (i + 1) e2 (by omega) hlt q3
    | bk => exact ⟨_, _, rfl, q3⟩
    | rt d => exact ⟨_, _, rfl, q3⟩
    | rn d => exact ⟨_, _, rfl, q3⟩
/-- what a loop over ds asks -/
def Loop (g : D → Lvs → Option Lvs) (b : MS) (ds : List D) (e : Lvs) (QS : Out → Lvs → Prop) : Prop := Ws (forL g b ds) e QS
theorem s_for {g : D → Lvs → Option Lvs} (h : Wp ml e fun ds e1 => Loop g sb ds e1 QS) : Ws (sFor ml g sb) e QS := by
  obtain ⟨ds, e1, h1, o, e2, h2, h3⟩ := h
  exact ⟨_, _, ev_for h1 h2, h3⟩
theorem loop_inv {g : D → Lvs → Option Lvs} {b : MS} {ds : List D} (I : Nat → Lvs → Prop) (h0 : I 0 e)
    (step : ∀ (i : Nat) (d : D) (e : Lvs), ds[i]? = some d → I i e → Tg g d e fun e1 => Ws b e1 (Lp (I (i + 1)) QS))
    (fin : ∀ e, I ds.length e → QS .nx e) : Loop g b ds e QS := by
  have := forL_w I ds step fin (ds.length - 0) 0 e rfl (Nat.zero_le _) h0
  rwa [List.drop_zero] at this
/-- over things of one kind -/
theorem loop_map {g : D → Lvs → Option Lvs} {b : MS} {A : Type} {xs : List A} {E : A → D} (I : Nat → Lvs → Prop) (h0 : I 0 e)
    (step : ∀ (i : Nat) (h : i < xs.length) (e : Lvs), I i e → Tg g (E xs[i]) e fun e1 => Ws b e1 (Lp (I (i + 1)) QS))
    (fin : ∀ e, I xs.length e → QS .nx e) : Loop g b (xs.map E) e QS :=
  loop_inv I h0 (fun i d e hd hI => by
    rw [List.getElem?_map] at hd
    cases q : xs[i]? with
    | none => rw [q] at hd; cases hd
    | some x =>
      rw [q] at hd
      cases hd
      obtain ⟨hi, hx⟩ := List.getElem?_eq_some_iff.mp q
      subst hx
      exact step i hi e hI) (fun e h => fin e (by rw [List.length_map] at h; exact h))
/-- with their places; two at once -/
theorem loop_enum {g : D → Lvs → Option Lvs} {b : MS} {A : Type} {xs : List A} {E : A → D} (I : Nat → Lvs → Prop) (h0 : I 0 e)
    (step : ∀ (i : Nat) (h : i < xs.length) (e : Lvs), I i e → Tg g (.tup [.int (i : Nat), E xs[i]]) e fun e1 => Ws b e1 (Lp (I (i + 1)) QS))
    (fin : ∀ e, I xs.length e → QS .nx e) : Loop g b (enumD (xs.map E)) e QS :=
  loop_inv I h0 (fun i d e hd hI => by
    unfold enumD at hd
    rw [List.getElem?_mapIdx, List.getElem?_map] at hd
    cases q : xs[i]? with
    | none => rw [q] at hd; cases hd
    | some x =>
      rw [q] at hd
      cases hd
      obtain ⟨hi, hx⟩ := List.getElem?_eq_some_iff.mp q
      subst hx
      exact step i hi e hI) (fun e h => fin e (by unfold enumD at h; rw [List.length_mapIdx, List.length_map] at h; exact h))
theorem loop_zip {g : D → Lvs → Option Lvs} {b : MS} {A A' : Type} {xs : List A} {ys : List A'} {E : A → D} {F : A' → D} (I : Nat → Lvs → Prop) (h0 : I 0 e)
    (step : ∀ (i : Nat) (h : i < xs.length) (h' : i < ys.length) (e : Lvs), I i e → Tg g (.tup [E xs[i], F ys[i]]) e fun e1 => Ws b e1 (Lp (I (i + 1)) QS))
    (fin : ∀ e, I (min xs.length ys.length) e → QS .nx e) : Loop g b (zipD (xs.map E) (ys.map F)) e QS :=
  loop_inv I h0 (fun i d e hd hI => by
    unfold zipD at hd
    rw [List.getElem?_zipWith, List.getElem?_map, List.getElem?_map] at hd
    cases q : xs[i]? with
    | none => rw [q] at hd; cases hd
    | some x =>
      cases q2 : ys[i]? with
      | none => rw [q, q2] at hd; cases hd
      | some y =>
        rw [q, q2] at hd
        cases hd
        obtain ⟨hi, hx⟩ := List.getElem?_eq_some_iff.mp q
        obtain ⟨hi2, hy⟩ := List.getElem?_eq_some_iff.mp q2
        subst hx hy
        exact step i hi hi2 e hI) (fun e h => fin e (by unfold zipD at h; rw [List.length_zipWith, List.length_map, List.length_map] at h; exact h))
/-- over numbers upward -/
theorem loop_rg {g : D → Lvs → Option Lvs} {b : MS} {lo : Int} {n : Nat} (I : Nat → Lvs → Prop) (h0 : I 0 e)
    (step : ∀ (i : Nat) (h : i < n) (e : Lvs), I i e → Tg g (.int (lo + (i : Int))) e fun e1 => Ws b e1 (Lp (I (i + 1)) QS))
    (fin : ∀ e, I n e → QS .nx e) : Loop g b (rangeD lo n) e QS := by
  refine loop_map (xs := List.range n) (E := fun (j : Nat) => D.int (lo + (j : Int))) I h0 (fun i h e hI => ?_) (fun e h => fin e (by rw [List.length_range] at h; exact h))
  rw [List.length_range] at h
  rw [List.getElem_range]
  exact step i h e hI
theorem loop_rn {g : D → Lvs → Option Lvs} {b : MS} {n : Nat} (I : Nat → Lvs → Prop) (h0 : I 0 e)
    (step : ∀ (i : Nat) (h : i < n) (e : Lvs), I i e → Tg g (.int (i : Int)) e fun e1 => Ws b e1 (Lp (I (i + 1)) QS))
    (fin : ∀ e, I n e → QS .nx e) : Loop g b (rangeN n) e QS := by
  refine loop_map (xs := List.range n) (E := fun (j : Nat) => D.int (j : Int)) I h0 (fun i h e hI => ?_) (fun e h => fin e (by rw [List.length_range] at h; exact h))
  rw [List.length_range] at h
  rw [List.getElem_range]
  exact step i h e hI
/-- .. or by steps -/
theorem loop_rgC {g : D → Lvs → Option Lvs} {b : MS} {lo c : Int} {n : Nat} (I : Nat → Lvs → Prop) (h0 : I 0 e)
    (step : ∀ (i : Nat) (h : i < n) (e : Lvs), I i e → Tg g (.int (lo + (i : Int) * c)) e fun e1 => Ws b e1 (Lp (I (i + 1)) QS))
    (fin : ∀ e, I n e → QS .nx e) : Loop g b (rangeC lo c n) e QS := by
  refine loop_map (xs := List.range n) (E := fun (j : Nat) => D.int (lo + (j : Int) * c)) I h0 (fun i h e hI => ?_) (fun e h => fin e (by rw [List.length_range] at h; exact h))
  rw [List.length_range] at h
  rw [List.getElem_range]
  exact step i h e hI
/-- a while, by a number that falls -/
theorem s_while {n : Nat} (I : Nat → Lvs → Prop) {k : Nat} (h0 : I k e) (hn : k < n)
    (step : ∀ k e, I k e → Wp mt e fun c e1 => Br c (Ws sa e1 (Lp (fun e2 => ∃ k', k' < k ∧ I k' e2) QS)) (QS .nx e1)) : Ws (whileL mt sa n) e QS := by
  induction n generalizing e k with
  | zero => omega
  | succ n ih =>
    obtain ⟨c, e1, h1, h2⟩ := step k e h0
    unfold Ws whileL
    rw [h1]
    cases c with
    | false => exact ⟨_, _, rfl, h2.2 rfl⟩
    | true =>
      obtain ⟨o, e2, h3, h4⟩ := h2.1 rfl
      show ∃ a e', (match sa e1 with | some (.nx, e2) => _ | some (.ct, e2) => _ | some (.bk, e2) => _ | r => r) = some (a, e') ∧ QS a e'
      rw [h3]
      cases o with
      | nx =>
        obtain ⟨k', h5, h6⟩ : ∃ k', k' < k ∧ I k' e2 := h4
        exact ih h6 (by omega)
      | ct =>
        obtain ⟨k', h5, h6⟩ : ∃ k', k' < k ∧ I k' e2 := h4
        exact ih h6 (by omega)
      | bk => exact ⟨_, _, rfl, h4⟩
      | rt d => exact ⟨_, _, rfl, h4⟩
      | rn d => exact ⟨_, _, rfl, h4⟩
/-! ### comprehensions -/
/-- the slots vs are emptied -/
def Wipe (e : Lvs) (vs : List Nat) (R : Lvs → Prop) : Prop := R (wipeE e vs)
theorem wipe_0 {R : Lvs → Prop} (h : R e) : Wipe e [] R := h
theorem wipe_1 {R : Lvs → Prop} {v : Nat} (h : Put e v .no R) : Wipe e [v] R := h
theorem wipe_2 {R : Lvs → Prop} {v u : Nat} (h : Put e u .no fun e1 => Put e1 v .no R) : Wipe e [v, u] R := h
theorem wipe_3 {R : Lvs → Prop} {v u w : Nat} (h : Put e w .no fun e1 => Put e1 u .no fun e2 => Put e2 v .no R) : Wipe e [v, u, w] R := h
def Comp (vs : List Nat) (g : D → Lvs → Option Lvs) (t : M Bool) (f : M D) (ds acc : List D) (e : Lvs) (Q : List D → Lvs → Prop) : Prop := Wp (lcL vs g t f ds acc) e Q
theorem w_lc {vs : List Nat} {g : D → Lvs → Option Lvs} (h : Wp ml e fun ds e1 => Wipe e1 vs fun e2 => Comp vs g mt ma ds [] e2 fun rs e3 => Q (.lst rs) e3) : Wp (eLc vs ml g mt ma) e Q := by
  obtain ⟨ds, e1, h1, rs, e3, h2, h3⟩ := h
  exact ⟨_, _, ev_lc h1 rfl h2, h3⟩
theorem comp_inv {vs : List Nat} {g : D → Lvs → Option Lvs} {t : M Bool} {f : M D} {ds : List D} {R : List D → Lvs → Prop} (I : Nat → List D → Lvs → Prop) (hl : ds.length ≤ 16777216) (h0 : I 0 [] e)
    (step : ∀ (i : Nat) (d : D) (acc : List D) (e : Lvs), ds[i]? = some d → I i acc e → Tg g d e fun e1 => Wp t e1 fun b e2 => Br b (Wp f e2 fun y e3 => Wipe e3 vs fun e4 => I (i + 1) (acc ++ [y]) e4) (Wipe e2 vs fun e4 => I (i + 1) acc e4))
    (fin : ∀ acc e, I ds.length acc e → R acc e) : Comp vs g t f ds [] e R := by
  suffices ∀ (k i : Nat) (acc : List D) (e : Lvs), ds.length - i = k → i ≤ ds.length → acc.length ≤ i → I i acc e → Wp (lcL vs g t f (ds.drop i) acc) e R by
    have := this (ds.length - 0) 0 [] e rfl (Nat.zero_le _) (Nat.le_refl _) h0
    rwa [List.drop_zero] at this
  intro k
  induction k with
  | zero =>
    intro i acc e hk hi ha h
    have : i = ds.length := by omega
    subst this
    rw [List.drop_length]
    exact ⟨_, _, rfl, fin acc e h⟩
  | succ k ih =>
    intro i acc e hk hi ha h
    have hlt : i < ds.length := by omega
    obtain ⟨e1, q1, b, e2, q2, q3⟩ := step i ds[i] acc e (List.getElem?_eq_getElem hlt) h
    rw [List.drop_eq_getElem_cons hlt]
    unfold Wp lcL
    rw [q1]
    show ∃ a e', (match t e1 with | some (true, e2) => _ | some (false, e2) => _ | none => none) = some (a, e') ∧ R a e'
    rw [q2]
    cases b with
    | true =>
      obtain ⟨y, e3, q4, q5⟩ := q3.1 rfl
      show ∃ a e', (match f e2 with | some (y, e3) => if lim (acc.length + 1) = true then _ else none | none => none) = some (a, e') ∧ R a e'
      rw [q4]
      show ∃ a e', (if lim (acc.length + 1) = true then lcL vs g t f (ds.drop (i + 1)) (acc ++ [y]) (wipeE e3 vs) else none) = some (a, e') ∧ R a e'
      rw [if_pos (lim_of (by omega))]
      exact ih (i + 1) _ _ (by omega) hlt (by rw [List.length_append]; show acc.length + 1 ≤ _; omega) q5
    | false => exact ih (i + 1) _ _ (by omega) hlt (by omega) (q3.2 rfl)
theorem comp_map {vs : List Nat} {g : D → Lvs → Option Lvs} {t : M Bool} {f : M D} {A : Type} {xs : List A} {E : A → D} {R : List D → Lvs → Prop} (I : Nat → List D → Lvs → Prop) (hl : xs.length ≤ 16777216) (h0 : I 0 [] e)
    (step : ∀ (i : Nat) (h : i < xs.length) (acc : List D) (e : Lvs), I i acc e → Tg g (E xs[i]) e fun e1 => Wp t e1 fun b e2 => Br b (Wp f e2 fun y e3 => Wipe e3 vs fun e4 => I (i + 1) (acc ++ [y]) e4) (Wipe e2 vs fun e4 => I (i + 1) acc e4))
    (fin : ∀ acc e, I xs.length acc e → R acc e) : Comp vs g t f (xs.map E) [] e R :=
  comp_inv I (by rw [List.length_map]; exact hl) h0 (fun i d acc e hd hI => by
    rw [List.getElem?_map] at hd
    cases q : xs[i]? with
    | none => rw [q] at hd; cases hd
    | some x =>
      rw [q] at hd
      cases hd
      obtain ⟨hi, hx⟩ := List.getElem?_eq_some_iff.mp q
      subst hx
      exact step i hi acc e hI) (fun acc e h => fin acc e (by rw [List.length_map] at h; exact h))
theorem comp_rg {vs : List Nat} {g : D → Lvs → Option Lvs} {t : M Bool} {f : M D} {lo : Int} {n : Nat} {R : List D → Lvs → Prop} (I : Nat → List D → Lvs → Prop) (hl : n ≤ 16777216) (h0 : I 0 [] e)
    (step : ∀ (i : Nat) (h : i < n) (acc : List D) (e : Lvs), I i acc e → Tg g (.int (lo + (i : Int))) e fun e1 => Wp t e1 fun b e2 => Br b (Wp f e2 fun y e3 => Wipe e3 vs fun e4 => I (i + 1) (acc ++ [y]) e4) (Wipe e2 vs fun e4 => I (i + 1) acc e4))
    (fin : ∀ acc e, I n acc e → R acc e) : Comp vs g t f (rangeD lo n) [] e R := by
  refine comp_map (xs := List.range n) (E := fun (j : Nat) => D.int (lo + (j : Int))) I (by rw [List.length_range]; exact hl) h0 (fun i h acc e hI => ?_) (fun acc e h => fin acc e (by rw [List.length_range] at h; exact h))
  rw [List.length_range] at h
  rw [List.getElem_range]
  exact step i h acc e hI
theorem comp_rn {vs : List Nat} {g : D → Lvs → Option Lvs} {t : M Bool} {f : M D} {n : Nat} {R : List D → Lvs → Prop} (I : Nat → List D → Lvs → Prop) (hl : n ≤ 16777216) (h0 : I 0 [] e)
    (step : ∀ (i : Nat) (h : i < n) (acc : List D) (e : Lvs), I i acc e → Tg g (.int (i : Int)) e fun e1 => Wp t e1 fun b e2 => Br b (Wp f e2 fun y e3 => Wipe e3 vs fun e4 => I (i + 1) (acc ++ [y]) e4) (Wipe e2 vs fun e4 => I (i + 1) acc e4))
    (fin : ∀ acc e, I n acc e → R acc e) : Comp vs g t f (rangeN n) [] e R := by
  refine comp_map (xs := List.range n) (E := fun (j : Nat) => D.int (j : Int)) I (by rw [List.length_range]; exact hl) h0 (fun i h acc e hI => ?_) (fun acc e h => fin acc e (by rw [List.length_range] at h; exact h))
  rw [List.length_range] at h
  rw [List.getElem_range]
  exact step i h acc e hI
/-- no state: a filter and a map; e is the frame, with the slots vs empty -/
theorem comp_pure {vs : List Nat} {g : D → Lvs → Option Lvs} {t : M Bool} {f : M D} {A : Type} {xs : List A} {E : A → D} {R : List D → Lvs → Prop} (p : A → Bool) (h : A → D) (hl : xs.length ≤ 16777216)
    (step : ∀ x ∈ xs, Tg g (E x) e fun e1 => Wp t e1 fun b e2 => Is b (p x) (Br b (Wp f e2 fun y e3 => Is y (h x) (Wipe e3 vs fun e4 => e4 = e)) (Wipe e2 vs fun e4 => e4 = e)))
    (fin : R ((xs.filter p).map h) e) : Comp vs g t f (xs.map E) [] e R := by
  refine comp_map (fun i acc e1 => e1 = e ∧ acc = ((xs.take i).filter p).map h) hl ⟨rfl, by rw [List.take_zero]; rfl⟩ (fun i hi acc e1 hI => ?_) (fun acc e1 hI => ?_)
  · obtain ⟨rfl, rfl⟩ := hI
    obtain ⟨e2, q1, b, e3, q2, q3, q4⟩ := step xs[i] (List.getElem_mem hi)
    subst q3
    refine ⟨e2, q1, _, e3, q2, fun hb => ?_, fun hb => ?_⟩
    · obtain ⟨y, e4, q5, q6, q7⟩ := q4.1 hb
      refine ⟨y, e4, q5, q7, ?_⟩
      rw [List.take_add_one, List.getElem?_eq_getElem hi, Option.toList_some, List.filter_append, List.filter_cons_of_pos hb, List.map_append, q6]
      rfl
    · refine ⟨q4.2 hb, ?_⟩
      rw [List.take_add_one, List.getElem?_eq_getElem hi, Option.toList_some, List.filter_append, List.filter_cons_of_neg (by rw [hb]; exact Bool.false_ne_true), List.filter_nil, List.append_nil]
  · obtain ⟨rfl, rfl⟩ := hI
    rw [List.take_length]
    exact fin
/-- .. all are kept -/
theorem comp_each {vs : List Nat} {g : D → Lvs → Option Lvs} {f : M D} {A : Type} {xs : List A} {E : A → D} {R : List D → Lvs → Prop} (h : A → D) (hl : xs.length ≤ 16777216)
    (step : ∀ x ∈ xs, Tg g (E x) e fun e1 => Wp f e1 fun y e3 => Is y (h x) (Wipe e3 vs fun e4 => e4 = e))
    (fin : R (xs.map h) e) : Comp vs g bYes f (xs.map E) [] e R := by
  refine comp_pure (fun _ => true) h hl (fun x hx => ?_) (by rw [List.filter_eq_self.mpr fun _ _ => rfl]; exact fin)
  obtain ⟨e1, q1, q2⟩ := step x hx
  exact ⟨e1, q1, true, e1, rfl, rfl, br_true q2⟩
theorem comp_eachN {vs : List Nat} {g : D → Lvs → Option Lvs} {f : M D} {n : Nat} {R : List D → Lvs → Prop} (h : Nat → D) (hl : n ≤ 16777216)
    (step : ∀ i, i < n → Tg g (.int (i : Int)) e fun e1 => Wp f e1 fun y e3 => Is y (h i) (Wipe e3 vs fun e4 => e4 = e))
    (fin : R ((List.range n).map h) e) : Comp vs g bYes f (rangeN n) [] e R :=
  comp_each (xs := List.range n) (E := fun (j : Nat) => D.int (j : Int)) h (by rw [List.length_range]; exact hl) (fun x hx => step x (List.mem_range.mp hx)) fin
theorem comp_pureN {vs : List Nat} {g : D → Lvs → Option Lvs} {t : M Bool} {f : M D} {n : Nat} {R : List D → Lvs → Prop} (p : Nat → Bool) (h : Nat → D) (hl : n ≤ 16777216)
    (step : ∀ i, i < n → Tg g (.int (i : Int)) e fun e1 => Wp t e1 fun b e2 => Is b (p i) (Br b (Wp f e2 fun y e3 => Is y (h i) (Wipe e3 vs fun e4 => e4 = e)) (Wipe e2 vs fun e4 => e4 = e)))
    (fin : R (((List.range n).filter p).map h) e) : Comp vs g t f (rangeN n) [] e R :=
  comp_pure (xs := List.range n) (E := fun (j : Nat) => D.int (j : Int)) p h (by rw [List.length_range]; exact hl) (fun x hx => step x (List.mem_range.mp hx)) fin
theorem comp_pureR {vs : List Nat} {g : D → Lvs → Option Lvs} {t : M Bool} {f : M D} {lo : Int} {n : Nat} {R : List D → Lvs → Prop} (p : Nat → Bool) (h : Nat → D) (hl : n ≤ 16777216)
    (step : ∀ i, i < n → Tg g (.int (lo + (i : Int))) e fun e1 => Wp t e1 fun b e2 => Is b (p i) (Br b (Wp f e2 fun y e3 => Is y (h i) (Wipe e3 vs fun e4 => e4 = e)) (Wipe e2 vs fun e4 => e4 = e)))
    (fin : R (((List.range n).filter p).map h) e) : Comp vs g t f (rangeD lo n) [] e R :=
  comp_pure (xs := List.range n) (E := fun (j : Nat) => D.int (lo + (j : Int))) p h (by rw [List.length_range]; exact hl) (fun x hx => step x (List.mem_range.mp hx)) fin
/-- two fors without a state -/
theorem w_lc2 {vs vs1 : List Nat} {g g1 : D → Lvs → Option Lvs} {m1 : M (List D)} (h : Wp ml e fun ds e1 => Wipe e1 vs fun e2 => Wp (lc2L vs vs1 g mt m1 g1 mu ma ds []) e2 fun rs e3 => Q (.lst rs) e3) : Wp (eLc2 vs vs1 ml g mt m1 g1 mu ma) e Q := by
  obtain ⟨ds, e1, h1, rs, e3, h2, h3⟩ := h
  exact ⟨_, _, ev_lc2 h1 rfl h2, h3⟩
theorem comp2_pure {vs vs1 : List Nat} {g g1 : D → Lvs → Option Lvs} {m1 : M (List D)} {A B : Type} {E : A → D} {E1 : A → B → D} (ys : A → List B) (v : A → B → D) (W : A → Lvs) : ∀ (xs : List A) (acc : List D) {R : List D → Lvs → Prop}, acc.length + (xs.flatMap ys).length ≤ 16777216 →
    (∀ x ∈ xs, Tg g (E x) e fun e1 => Wp mt e1 fun b e2 => Is b true (Wp m1 e2 fun ds e3 => Is ds ((ys x).map (E1 x)) (Wipe e3 vs1 fun e4 => e4 = W x ∧ wipeE (W x) vs = e ∧ ∀ y ∈ ys x, Tg g1 (E1 x y) (W x) fun e1 => Wp mu e1 fun b e2 => Is b true (Wp ma e2 fun d e3 => Is d (v x y) (Wipe e3 vs1 fun e4 => e4 = W x))))) →
    R (acc ++ xs.flatMap fun x => (ys x).map (v x)) e → Wp (lc2L vs vs1 g mt m1 g1 mu ma (xs.map E) acc) e R
  | [], acc, R, _, _, fin => ⟨_, _, rfl, by rw [List.flatMap_nil, List.append_nil] at fin; exact fin⟩
  | x :: xs, acc, R, hl, h, fin => by
    obtain ⟨e1, q1, b, e2, q2, rfl, ds, e3, q3, rfl, q4, q5, q6⟩ := h x List.mem_cons_self
    rw [List.flatMap_cons, List.length_append] at hl
    have inner : ∀ (zs : List B) (acc : List D), (∀ y ∈ zs, y ∈ ys x) → acc.length + zs.length ≤ 16777216 → lcL vs1 g1 mu ma (zs.map (E1 x)) acc (W x) = some (acc ++ zs.map (v x), W x) := by
      intro zs
      induction zs with
      | nil => intro acc _ _; rw [List.map_nil, List.map_nil, List.append_nil]; rfl
      | cons y zs ih =>
        intro acc hz hl
        rw [List.length_cons] at hl
        obtain ⟨e4, r1, b, e5, r2, rfl, d, e6, r3, rfl, r4⟩ := q6 y (hz y List.mem_cons_self)
        rw [List.map_cons]
        unfold lcL
        rw [r1]
        show (match mu e4 with | some (true, e2) => _ | some (false, e2) => _ | none => none) = _
        rw [r2]
        show (match ma e5 with | some (y, e3) => if lim (acc.length + 1) = true then _ else none | none => none) = _
        rw [r3]
        show (if lim (acc.length + 1) = true then lcL vs1 g1 mu ma (zs.map (E1 x)) (acc ++ [v x y]) (wipeE e6 vs1) else none) = _
        have r4 : wipeE e6 vs1 = W x := r4
        rw [if_pos (lim_of (by omega)), r4, ih _ (fun z hz' => hz z (List.mem_cons_of_mem _ hz')) (by rw [List.length_append]; show acc.length + 1 + _ ≤ _; omega), List.append_assoc]
        rfl
    have step := inner (ys x) acc (fun _ h => h) (by omega)
    have rest := comp2_pure ys v W xs (acc ++ (ys x).map (v x)) (R := R) (by rw [List.length_append, List.length_map]; omega) (fun z hz => h z (List.mem_cons_of_mem _ hz)) (by rw [List.flatMap_cons, ← List.append_assoc] at fin; exact fin)
    unfold Wp
    rw [List.map_cons]
    unfold lc2L
    rw [q1]
    show ∃ a e', (match mt e1 with | some (true, e2) => _ | some (false, e2) => _ | none => none) = some (a, e') ∧ R a e'
    rw [q2]
    show ∃ a e', (match m1 e2 with | some (ds1, e3) => _ | none => none) = some (a, e') ∧ R a e'
    rw [q3]
    show ∃ a e', (match lcL vs1 g1 mu ma ((ys x).map (E1 x)) acc (wipeE e3 vs1) with | some (acc', e4) => _ | none => none) = some (a, e') ∧ R a e'
    rw [q4, step]
    show ∃ a e', lc2L vs vs1 g mt m1 g1 mu ma (xs.map E) (acc ++ (ys x).map (v x)) (wipeE (W x) vs) = some (a, e') ∧ R a e'
    rw [q5]
    exact rest
/-! ### a def -/
theorem fn_w {ms : List Bool} {n : Nat} {body : MS} {ds : List D} {P : D → List D → Prop} (hl : ds.length = ms.length) (he : initE ms ds ++ List.replicate (n - ms.length) .no = e) (h : Ws body e (Fi ms P)) : Ret (runF ms n false body ds) P := by
  obtain ⟨o, e1, h1, h2⟩ := h
  cases o with
  | rt d =>
    obtain ⟨bs, h3, h4⟩ := h2
    exact ⟨d, bs, ev_run hl he h1 h3, h4⟩
  | nx =>
    obtain ⟨bs, h3, h4⟩ := h2
    exact ⟨_, bs, ev_runN hl he h1 h3, h4⟩
  | bk => exact h2.elim
  | ct => exact h2.elim
  | rn d => exact h2.elim
theorem fn_wF {ms : List Bool} {n : Nat} {body : MS} {ds : List D} {P : D → List D → Prop} (hl : ds.length = ms.length) (he : initE ms ds ++ List.replicate (n - ms.length) .no = e) (h : Ws body e (FiF ms P)) : Ret (runF ms n true body ds) P := by
  obtain ⟨o, e1, h1, h2⟩ := h
  cases o with
  | rn d =>
    obtain ⟨bs, h3, h4⟩ := h2
    exact ⟨d, bs, ev_runF hl he h1 h3, h4⟩
  | nx => exact h2.elim
  | bk => exact h2.elim
  | ct => exact h2.elim
  | rt d => exact h2.elim
end
/-! ### == of data -/
mutual
theorem eqB_refl : ∀ d : D, okD d = true → eqB d d = true
  | .non, _ => rfl
  | .bl b, _ => by unfold eqB; exact beq_self_eq_true b
  | .int _, _ => by unfold eqB; exact decide_eq_true rfl
  | .str _, _ => by unfold eqB; exact decide_eq_true rfl
  | .ty _, h => by unfold okD at h; cases h
  | .dic, h => by unfold okD at h; cases h
  | .lst ds, h => by unfold eqB; unfold okD at h; exact eqBs_refl ds h
  | .fls ds, h => by unfold eqB; unfold okD at h; exact eqBs_refl ds h
  | .tup ds, h => by unfold eqB; unfold okD at h; exact eqBs_refl ds h
theorem eqBs_refl : ∀ ds : List D, okDs ds = true → eqBs ds ds = true
  | [], _ => rfl
  | d :: ds, h => by
    unfold okDs at h
    rw [Bool.and_eq_true] at h
    unfold eqBs
    rw [eqB_refl d h.1, eqBs_refl ds h.2]
    rfl
end
theorem eq_self {d : D} (h : shp d = true) : eqD d d = some (.bl true) := by
  have g : eqG d d = some (.bl true) := by
    unfold eqG
    rw [h]
    unfold shp at h
    rw [Bool.and_eq_true] at h
    rw [eqB_refl d h.1]
    rfl
  cases d with
  | int i => show some (D.bl (decide (i = i))) = _; rw [decide_eq_true rfl]
  | str i => show some (D.bl (decide (i = i))) = _; rw [decide_eq_true rfl]
  | _ => exact g
theorem ne_self {d : D} (h : shp d = true) : neD d d = some (.bl false) := by
  have g : neG d d = some (.bl false) := by
    unfold neG
    rw [h]
    unfold shp at h
    rw [Bool.and_eq_true] at h
    rw [eqB_refl d h.1]
    rfl
  cases d with
  | int i => show some (D.bl (!decide (i = i))) = _; rw [decide_eq_true rfl]; rfl
  | str i => show some (D.bl (!decide (i = i))) = _; rw [decide_eq_true rfl]; rfl
  | _ => exact g
/-- flat data: of depth n -/
def Sh (n : Nat) (d : D) : Prop := okD d = true ∧ dep d ≤ n
theorem Sh.shp {n : Nat} {d : D} (h : Sh n d) (hn : n ≤ 64) : shp d = true := by
  unfold Dv.shp
  rw [h.1, decide_eq_true (Nat.le_trans h.2 hn)]
  rfl
theorem sh_int (i : Int) : Sh 1 (.int i) := ⟨rfl, by unfold dep; exact Nat.le_refl _⟩
theorem sh_bl (i : Bool) : Sh 1 (.bl i) := ⟨rfl, by unfold dep; exact Nat.le_refl _⟩
theorem sh_non : Sh 1 .non := ⟨rfl, by unfold dep; exact Nat.le_refl _⟩
theorem sh_str {s : List Nat} (h : ∀ c ∈ s, c < 1114112) : Sh 1 (.str s) := ⟨by
  unfold okD
  rw [List.all_eq_true]
  exact fun c hc => decide_eq_true (h c hc), by unfold dep; exact Nat.le_refl _⟩
theorem okDs_of : ∀ {ds : List D}, (∀ d ∈ ds, okD d = true) → okDs ds = true
  | [], _ => rfl
  | d :: ds, h => by
    unfold okDs
    rw [h d List.mem_cons_self, okDs_of fun d hd => h d (List.mem_cons_of_mem _ hd)]
    rfl
theorem deps_of {n : Nat} : ∀ {ds : List D}, (∀ d ∈ ds, dep d ≤ n) → deps ds ≤ n
  | [], _ => by unfold deps; exact Nat.zero_le _
  | d :: ds, h => by
    unfold deps
    exact Nat.max_le.mpr ⟨h d List.mem_cons_self, deps_of fun d hd => h d (List.mem_cons_of_mem _ hd)⟩
theorem sh_lst {n : Nat} {ds : List D} (h : ∀ d ∈ ds, Sh n d) : Sh (n + 1) (.lst ds) := ⟨by unfold okD; exact okDs_of fun d hd => (h d hd).1, by unfold dep; exact Nat.succ_le_succ (deps_of fun d hd => (h d hd).2)⟩
theorem sh_tup {n : Nat} {ds : List D} (h : ∀ d ∈ ds, Sh n d) : Sh (n + 1) (.tup ds) := ⟨by unfold okD; exact okDs_of fun d hd => (h d hd).1, by unfold dep; exact Nat.succ_le_succ (deps_of fun d hd => (h d hd).2)⟩
theorem Sh.mono {n m : Nat} {d : D} (h : Sh n d) (hm : n ≤ m) : Sh m d := ⟨h.1, Nat.le_trans h.2 hm⟩
theorem sh_map {A : Type} {n : Nat} {f : A → D} {xs : List A} (h : ∀ x ∈ xs, Sh n (f x)) : Sh (n + 1) (.lst (xs.map f)) := sh_lst fun d hd => by
  obtain ⟨x, hx, rfl⟩ := List.mem_map.mp hd
  exact h x hx
theorem sh_ints (xs : List Int) : Sh 2 (.lst (xs.map .int)) := sh_map fun x _ => sh_int x
theorem sh_nats (xs : List Nat) : Sh 2 (.lst (xs.map fun (x : Nat) => .int (x : Int))) := sh_map fun x _ => sh_int x
theorem sh_strs {xs : List (List Nat)} (h : ∀ s ∈ xs, ∀ c ∈ s, c < 1114112) : Sh 2 (.lst (xs.map .str)) := sh_map fun x hx => sh_str (h x hx)
theorem shp_nil : shp (.lst []) = true := (sh_lst (n := 1) (ds := []) fun d hd => absurd hd List.not_mem_nil).shp (by decide)
/-- == of lists of things that are told apart -/
theorem eqBs_map {A : Type} [DecidableEq A] {f : A → D} (hf : ∀ a b, eqB (f a) (f b) = decide (a = b)) : ∀ xs ys : List A, eqBs (xs.map f) (ys.map f) = decide (xs = ys)
  | [], [] => by rw [decide_eq_true rfl]; rfl
  | [], y :: ys => by rw [decide_eq_false (fun h => nomatch h)]; rfl
  | x :: xs, [] => by rw [decide_eq_false (fun h => nomatch h)]; rfl
  | x :: xs, y :: ys => by
    rw [List.map_cons, List.map_cons]
    unfold eqBs
    rw [hf, eqBs_map hf xs ys, ← Bool.decide_and]
    exact decide_eq_decide.mpr (by rw [List.cons.injEq])
theorem eqB_str (a b : List Nat) : eqB (.str a) (.str b) = decide (a = b) := by unfold eqB; rfl
theorem eqB_int (a b : Int) : eqB (.int a) (.int b) = decide (a = b) := by unfold eqB; rfl
theorem eq_lst {x y : List D} (h : shp (.lst x) = true) (h2 : shp (.lst y) = true) : eqD (.lst x) (.lst y) = some (.bl (eqBs x y)) := by
  show (if (shp (.lst x) && shp (.lst y)) = true then some (D.bl (eqB (.lst x) (.lst y))) else none) = _
  rw [h, h2]
  unfold eqB
  rfl
theorem ne_lst {x y : List D} (h : shp (.lst x) = true) (h2 : shp (.lst y) = true) : neD (.lst x) (.lst y) = some (.bl (!eqBs x y)) := by
  show (if (shp (.lst x) && shp (.lst y)) = true then some (D.bl (!eqB (.lst x) (.lst y))) else none) = _
  rw [h, h2]
  unfold eqB
  rfl
end Dv
namespace Dv
open PySem PySem.Spec PyProof.Rows L2 Evl
/-! ### the text -/
def topS (i : Nat) : Stmt := PySem.Challenge.pw_skipcounts_k03_great_counts.main.body.getD i (.Pass ⟨0, 0, 0, 0⟩)
abbrev s_l_cell : Stmt := topS 29
abbrev s_l_generator : Stmt := topS 30
abbrev s_l_count : Stmt := topS 32
abbrev s_is_string_of : Stmt := topS 11
abbrev s_is_letters_alone : Stmt := topS 12
abbrev s_check_word : Stmt := topS 14
abbrev s_check_text : Stmt := topS 13
abbrev s_check_pair : Stmt := topS 19
abbrev s_endings_behind : Stmt := topS 18
abbrev s_used : Stmt := topS 25
abbrev s_beginnings : Stmt := topS 16
abbrev s_count_of : Stmt := topS 17
abbrev s_count : Stmt := topS 21
abbrev s_l_hash : Stmt := topS 27
abbrev s_l_random : Stmt := topS 28
abbrev s_is_whole : Stmt := topS 8
abbrev s_is_between : Stmt := topS 9
abbrev s_check_number : Stmt := topS 10
abbrev s_reading : Stmt := topS 23
abbrev s_spells : Stmt := topS 20
abbrev s_is_reading : Stmt := topS 22
abbrev s_reading_number : Stmt := topS 24
abbrev s_l_numbers_right : Stmt := topS 35
abbrev s_l_choices : Stmt := topS 34
abbrev s_l_alphabet : Stmt := topS 33
abbrev s_l_text : Stmt := topS 31
abbrev s_l_drawn_right : Stmt := topS 36
abbrev s_law : Stmt := topS 37
def k_LETTERS : List Nat := [97, 98, 99, 100, 101, 102, 103, 104, 105, 106, 107, 108, 109, 110, 111, 112, 113, 114, 115, 116, 117, 118, 119, 120, 121, 122]
/-! ### the code on data -/
def ms_l_cell : List Bool := [false, false]
def b_l_cell : MS := (sSeq (sIf (eTest (eOp ltD (eVar 1) (eCallB lenD (aCons (eVar 0) (ret []))))) (sRet (eIx (eVar 0) (eVar 1))) sNx)
  (sRet (eOp modD (eCallB sumD (aCons (eSl (eVar 0) oNone (oSome (eC (.int 1)))) (ret []))) (eC (.int 1000003)))))
def F_l_cell : Fn := runF ms_l_cell 2 false b_l_cell
abbrev N_l_cell : List Str := ["_law_script", "_law_index"]
def ms_l_generator : List Bool := [false, false]
def b_l_generator : MS := (sSeq (sSet 2 (eCall ms_l_cell F_l_cell (rVal (eVar 0) (rVal (eVar 1) (ret [])))))
  (sRetF (eLst (aCons (eOp modD (eCallB intD (aCons (eCallB maxD (aCons (eOp subD (eVar 2) (eOp powD (eC (.int 10)) (eC (.int 18)))) (aCons (eC (.int 0)) (ret [])))) (ret []))) (eOp powD (eOp powD (eC (.int 10)) (eC (.int 60))) (eC (.int 10)))) (aCons (eOp modD (eCallB intD (aCons (eVar 2) (ret []))) (eC (.int 2147483647))) (aCons (eOp mulD (eC (.int 1000)) (eVar 1)) (ret [])))))))
def F_l_generator : Fn := runF ms_l_generator 3 true b_l_generator
abbrev N_l_generator : List Str := ["_law_script", "_law_index", "_law_seed"]
def ms_l_count : List Bool := [false, false]
def b_l_count : MS := (sSeq (sOwn 2 (eOp addL (eLst (aCons (eC (.int 1)) (ret []))) (eOp mulD (eLst (aCons (eC (.int 0)) (ret []))) (eCallB lenD (aCons (eVar 0) (ret []))))))
  (sSeq (sFor (iAny (eVar 1)) (gN 3) (sFor (iRange range3 (aCons (eOp subD (eCallB lenD (aCons (eVar 0) (ret []))) (eC (.int 1))) (aCons (eOp subD (eC (.int 0)) (eC (.int 1))) (aCons (eOp subD (eC (.int 0)) (eC (.int 1))) (ret []))))) (gN 4) (sIf (eTest (eOp eqD (eIx (eVar 0) (eVar 4)) (eVar 3))) (sSetIx 2 (eOp addD (eVar 4) (eC (.int 1))) (eOp addD (eIxV 2 (eOp addD (eVar 4) (eC (.int 1)))) (eIxV 2 (eVar 4)))) sNx)))
  (sRet (eIxV 2 (eCallB lenD (aCons (eVar 0) (ret [])))))))
def F_l_count : Fn := runF ms_l_count 5 false b_l_count
abbrev N_l_count : List Str := ["_law_word", "_law_text_here", "_law_found", "_law_letter", "_law_at"]
def ms_is_string_of : List Bool := [false, false]
def b_is_string_of : MS := (sRet (eAnd (eCallB isiD (aCons (eVar 0) (aCons (eC (.ty "str")) (ret [])))) (eOp eqD (eMethS stripD (eVar 0) (aCons (eVar 1) (ret []))) (eC (.str [])))))
def F_is_string_of : Fn := runF ms_is_string_of 2 false b_is_string_of
abbrev N_is_string_of : List Str := ["value", "signs"]
def ms_is_letters_alone : List Bool := [false]
def b_is_letters_alone : MS := (sRet (eCall ms_is_string_of F_is_string_of (rVal (eVar 0) (rVal (eC (.str k_LETTERS)) (ret [])))))
def F_is_letters_alone : Fn := runF ms_is_letters_alone 1 false b_is_letters_alone
abbrev N_is_letters_alone : List Str := ["value"]
def ms_check_word : List Bool := [false]
def b_check_word : MS := (sIf (bNot (eTest (eCall ms_is_letters_alone F_is_letters_alone (rVal (eVar 0) (ret []))))) sNever sNx)
def F_check_word : Fn := runF ms_check_word 1 false b_check_word
abbrev N_check_word : List Str := ["word"]
def ms_check_text : List Bool := [false]
def b_check_text : MS := (sIf (bNot (eTest (eCall ms_is_letters_alone F_is_letters_alone (rVal (eVar 0) (ret []))))) sNever sNx)
def F_check_text : Fn := runF ms_check_text 1 false b_check_text
abbrev N_check_text : List Str := ["text"]
def ms_check_pair : List Bool := [false, false]
def b_check_pair : MS := (sSeq (sDo (eCall ms_check_word F_check_word (rVal (eVar 0) (ret []))))
  (sDo (eCall ms_check_text F_check_text (rVal (eVar 1) (ret [])))))
def F_check_pair : Fn := runF ms_check_pair 2 false b_check_pair
abbrev N_check_pair : List Str := ["word", "text"]
def ms_endings_behind : List Bool := [false, false]
def b_endings_behind : MS := (sSeq (sOwn 2 (eOp addL (eOp mulD (eLst (aCons (eC (.int 0)) (ret []))) (eCallB lenD (aCons (eVar 0) (ret [])))) (eLst (aCons (eC (.int 1)) (ret [])))))
  (sSeq (sOwn 3 (eLst (aCons (eVar 2) (ret []))))
  (sSeq (sFor (iRevM (eVar 1)) (gN 4) (sSeq (sOwn 2 (eListOf (eVar 2)))
  (sSeq (sFor (iRange range1 (aCons (eCallB lenD (aCons (eVar 0) (ret []))) (ret []))) (gN 5) (sIf (eTest (eOp eqD (eIx (eVar 0) (eVar 5)) (eVar 4))) (sSetIx 2 (eVar 5) (eOp addD (eIxV 2 (eVar 5)) (eIxV 2 (eOp addD (eVar 5) (eC (.int 1)))))) sNx))
  (sApp 3 (eVar 2)))))
  (sSeq (sRevI 3)
  (sRet (eVar 3))))))
def F_endings_behind : Fn := runF ms_endings_behind 6 false b_endings_behind
abbrev N_endings_behind : List Str := ["word", "text", "row", "found", "letter", "at"]
def ms_used : List Bool := [false, false]
def b_used : MS := (sSeq (sDo (eCall ms_check_pair F_check_pair (rVal (eVar 0) (rVal (eVar 1) (ret [])))))
  (sSeq (sTupN [2, 3, 4] (rVal (eCall ms_endings_behind F_endings_behind (rVal (eVar 0) (rVal (eVar 1) (ret [])))) (rNew (eOp addL (eLst (aCons (eC (.int 1)) (ret []))) (eOp mulD (eLst (aCons (eC (.int 0)) (ret []))) (eCallB lenD (aCons (eVar 0) (ret []))))) (rNew (eLst (ret [])) (ret [])))))
  (sSeq (sFor (iEnumM (eVar 1)) (gT [5, 6]) (sSeq (sSet 7 (eLc [8] (iRange range1 (aCons (eCallB lenD (aCons (eVar 0) (ret []))) (ret []))) (gN 8) (eTest (eOp eqD (eIx (eVar 0) (eVar 8)) (eVar 6))) (eVar 8)))
  (sSeq (sApp 4 (eCallB sumD (aCons (eLc [8] (iAny (eVar 7)) (gN 8) bYes (eOp mulD (eIxV 3 (eVar 8)) (eIx (eIx (eVar 2) (eOp addD (eVar 5) (eC (.int 1)))) (eOp addD (eVar 8) (eC (.int 1)))))) (ret []))))
  (sFor (iRevM (eVar 7)) (gN 8) (sSetIx 3 (eOp addD (eVar 8) (eC (.int 1))) (eOp addD (eIxV 3 (eOp addD (eVar 8) (eC (.int 1)))) (eIxV 3 (eVar 8))))))))
  (sRet (eVar 4)))))
def F_used : Fn := runF ms_used 9 false b_used
abbrev N_used : List Str := ["word", "text", "rows", "ahead", "found", "place", "letter", "there", "at"]
def ms_beginnings : List Bool := [false, false]
def b_beginnings : MS := (sSeq (sOwn 2 (eOp addL (eLst (aCons (eC (.int 1)) (ret []))) (eOp mulD (eLst (aCons (eC (.int 0)) (ret []))) (eCallB lenD (aCons (eVar 0) (ret []))))))
  (sSeq (sFor (iAny (eVar 1)) (gN 3) (sFor (iRange range3 (aCons (eCallB lenD (aCons (eVar 0) (ret []))) (aCons (eC (.int 0)) (aCons (eNeg (eC (.int 1))) (ret []))))) (gN 4) (sIf (eTest (eOp eqD (eIx (eVar 0) (eOp subD (eVar 4) (eC (.int 1)))) (eVar 3))) (sSetIx 2 (eVar 4) (eOp addD (eIxV 2 (eVar 4)) (eIxV 2 (eOp subD (eVar 4) (eC (.int 1)))))) sNx)))
  (sRet (eVar 2))))
def F_beginnings : Fn := runF ms_beginnings 5 false b_beginnings
abbrev N_beginnings : List Str := ["word", "text", "found", "letter", "at"]
def ms_count_of : List Bool := [false, false]
def b_count_of : MS := (sRet (eIx (eCall ms_beginnings F_beginnings (rVal (eVar 0) (rVal (eVar 1) (ret [])))) (eCallB lenD (aCons (eVar 0) (ret [])))))
def F_count_of : Fn := runF ms_count_of 2 false b_count_of
abbrev N_count_of : List Str := ["word", "text"]
def ms_count : List Bool := [false, false]
def b_count : MS := (sSeq (sDo (eCall ms_check_pair F_check_pair (rVal (eVar 0) (rVal (eVar 1) (ret [])))))
  (sRet (eCall ms_count_of F_count_of (rVal (eVar 0) (rVal (eVar 1) (ret []))))))
def F_count : Fn := runF ms_count 2 false b_count
abbrev N_count : List Str := ["word", "text"]
def ms_l_hash : List Bool := [false, false]
def b_l_hash : MS := (sSeq (sSet 2 (eOp modD (eCallB intD (aCons (eOp addD (eOp addD (eOp addD (eOp mulD (eVar 0) (eC (.int 1140671))) (eOp mulD (eOp mulD (eC (.int 27644437)) (eVar 1)) (eVar 1))) (eOp mulD (eC (.int 131)) (eVar 1))) (eC (.int 19))) (ret []))) (eC (.int 2147483629))))
  (sSeq (sSet 2 (eOp modD (eCallB intD (aCons (eOp addD (eOp addD (eOp mulD (eVar 2) (eVar 2)) (eOp mulD (eC (.int 62089)) (eVar 1))) (eC (.int 32416187))) (ret []))) (eC (.int 2147483587))))
  (sRet (eOp modD (eCallB intD (aCons (eOp mulD (eVar 2) (eC (.int 48271))) (ret []))) (eC (.int 2147483647))))))
def F_l_hash : Fn := runF ms_l_hash 3 false b_l_hash
abbrev N_l_hash : List Str := ["_law_seed", "_law_index", "_law_mixed"]
def ms_l_random : List Bool := [true, false]
def b_l_random : MS := (sSeq (sIf (eTest (eOp gtD (eIxV 0 (eC (.int 0))) (eC (.int 0)))) (sSeq (sSet 2 (eOp modD (eCallB intD (aCons (eIxV 0 (eC (.int 0))) (ret []))) (eVar 1)))
  (sSeq (sSetIx 0 (eC (.int 0)) (eOp fdivD (eIxV 0 (eC (.int 0))) (eVar 1)))
  (sRet (eVar 2)))) sNx)
  (sSeq (sSet 2 (eC (.int 0)))
  (sSeq (sFor (iRange range1 (aCons (eOp addD (eC (.int 1)) (eOp fdivD (eBits (eVar 1)) (eC (.int 30)))) (ret []))) (gN 3) (sSeq (sSetIx 0 (eC (.int 2)) (eOp addD (eIxV 0 (eC (.int 2))) (eC (.int 1))))
  (sSet 2 (eOp addD (eOp mulD (eVar 2) (eC (.int 2147483587))) (eCall ms_l_hash F_l_hash (rVal (eIxV 0 (eC (.int 1))) (rVal (eIxV 0 (eC (.int 2))) (ret []))))))))
  (sRet (eOp modD (eCallB intD (aCons (eVar 2) (ret []))) (eVar 1))))))
def F_l_random : Fn := runF ms_l_random 4 false b_l_random
abbrev N_l_random : List Str := ["_law_generator_here", "_law_bound", "_law_drawn", "_law_turn"]
def ms_is_whole : List Bool := [false]
def b_is_whole : MS := (sRet (eAnd (eCallB isiD (aCons (eVar 0) (aCons (eC (.ty "int")) (ret [])))) (eNot (eCallB isiD (aCons (eVar 0) (aCons (eC (.ty "bool")) (ret [])))))))
def F_is_whole : Fn := runF ms_is_whole 1 false b_is_whole
abbrev N_is_whole : List Str := ["value"]
def ms_is_between : List Bool := [false, false, false]
def b_is_between : MS := (sSeq (sIf (bNot (eTest (eCall ms_is_whole F_is_whole (rVal (eVar 0) (ret []))))) (sRet (eC (.bl false))) sNx)
  (sRet (eAnd (eOr (eOp (orF isN isBq) (eVar 1) (eC .non)) (eOp geD (eVar 0) (eVar 1))) (eOr (eOp (orF isN isBq) (eVar 2) (eC .non)) (eOp leD (eVar 0) (eVar 2))))))
def F_is_between : Fn := runF ms_is_between 3 false b_is_between
abbrev N_is_between : List Str := ["value", "low", "high"]
def ms_check_number : List Bool := [false, false, false]
def b_check_number : MS := (sIf (bNot (eTest (eCall ms_is_between F_is_between (rVal (eVar 0) (rVal (eVar 1) (rVal (eVar 2) (ret []))))))) sNever sNx)
def F_check_number : Fn := runF ms_check_number 3 false b_check_number
abbrev N_check_number : List Str := ["number", "low", "high"]
def ms_reading : List Bool := [false, false, false]
def b_reading : MS := (sSeq (sDo (eCall ms_check_pair F_check_pair (rVal (eVar 0) (rVal (eVar 1) (ret [])))))
  (sSeq (sDo (eCall ms_check_number F_check_number (rVal (eVar 2) (rVal (eC (.int 0)) (rVal (eOp subD (eCall ms_count_of F_count_of (rVal (eVar 0) (rVal (eVar 1) (ret [])))) (eC (.int 1))) (ret []))))))
  (sSeq (sPar3N 3 4 5 (rVal (eCall ms_endings_behind F_endings_behind (rVal (eVar 0) (rVal (eVar 1) (ret [])))) (rNew (eLst (ret [])) (rVal (eC (.int 0)) (ret [])))))
  (sSeq (sFor (iEnumM (eVar 0)) (gT [6, 7]) (sSeq (whileL (bOr (eTest (eOp neD (eIx (eVar 1) (eVar 5)) (eVar 7))) (eTest (eOp geD (eVar 2) (eIx (eIx (eVar 3) (eOp addD (eVar 5) (eC (.int 1)))) (eOp addD (eVar 6) (eC (.int 1))))))) (sSeq (sSet 2 (eOp subD (eVar 2) (eIf (eTest (eOp eqD (eIx (eVar 1) (eVar 5)) (eVar 7))) (eIx (eIx (eVar 3) (eOp addD (eVar 5) (eC (.int 1)))) (eOp addD (eVar 6) (eC (.int 1)))) (eC (.int 0)))))
  (sSet 5 (eOp addD (eVar 5) (eC (.int 1))))) 100000)
  (sSeq (sApp 4 (eVar 5))
  (sSet 5 (eOp addD (eVar 5) (eC (.int 1)))))))
  (sRet (eTupOf (eVar 4)))))))
def F_reading : Fn := runF ms_reading 8 false b_reading
abbrev N_reading : List Str := ["word", "text", "number", "rows", "found", "place", "at", "letter"]
def ms_spells : List Bool := [false, false, false]
def b_spells : MS := (sSeq (sIf (bOr (bNot (eTest (eCallB isiD (aCons (eVar 2) (aCons (eC (.ty "tuple")) (ret [])))))) (eTest (eOp neD (eCallB lenD (aCons (eVar 2) (ret []))) (eCallB lenD (aCons (eVar 0) (ret [])))))) (sRet (eC (.bl false))) sNx)
  (sSeq (sSet 3 (eNeg (eC (.int 1))))
  (sSeq (sFor (iZipSM (aCons (eVar 2) (aCons (eVar 0) (ret [])))) (gT [4, 5]) (sSeq (sIf (bOr (bNot (eTest (eCall ms_is_whole F_is_whole (rVal (eVar 4) (ret []))))) (bOr (bNot (eTest (eChn ltD ltD (eVar 3) (eVar 4) (eCallB lenD (aCons (eVar 1) (ret [])))))) (eTest (eOp neD (eIx (eVar 1) (eVar 4)) (eVar 5))))) (sRet (eC (.bl false))) sNx)
  (sSet 3 (eVar 4))))
  (sRet (eC (.bl true))))))
def F_spells : Fn := runF ms_spells 6 false b_spells
abbrev N_spells : List Str := ["word", "text", "value", "last", "place", "letter"]
def ms_is_reading : List Bool := [false, false, false]
def b_is_reading : MS := (sSeq (sDo (eCall ms_check_pair F_check_pair (rVal (eVar 0) (rVal (eVar 1) (ret [])))))
  (sRet (eCall ms_spells F_spells (rVal (eVar 0) (rVal (eVar 1) (rVal (eVar 2) (ret [])))))))
def F_is_reading : Fn := runF ms_is_reading 3 false b_is_reading
abbrev N_is_reading : List Str := ["word", "text", "value"]
def ms_reading_number : List Bool := [false, false, false]
def b_reading_number : MS := (sSeq (sDo (eCall ms_check_pair F_check_pair (rVal (eVar 0) (rVal (eVar 1) (ret [])))))
  (sSeq (sIf (bNot (eTest (eCall ms_spells F_spells (rVal (eVar 0) (rVal (eVar 1) (rVal (eVar 2) (ret []))))))) sNever sNx)
  (sSeq (sAsg (eTup (aCons (eCall ms_endings_behind F_endings_behind (rVal (eVar 0) (rVal (eVar 1) (ret [])))) (aCons (eC (.int 0)) (aCons (eC (.int 0)) (ret []))))) (gT [3, 4, 5]))
  (sSeq (sFor (iEnumM (eVar 2)) (gT [6, 7]) (sSeq (sSet 4 (eOp addD (eVar 4) (eCallB sumD (aCons (eLc [8] (iRange range2 (aCons (eVar 5) (aCons (eVar 7) (ret [])))) (gN 8) (eTest (eOp eqD (eIx (eVar 1) (eVar 8)) (eIx (eVar 0) (eVar 6)))) (eIx (eIx (eVar 3) (eOp addD (eVar 8) (eC (.int 1)))) (eOp addD (eVar 6) (eC (.int 1))))) (ret [])))))
  (sSet 5 (eOp addD (eVar 7) (eC (.int 1))))))
  (sRet (eVar 4))))))
def F_reading_number : Fn := runF ms_reading_number 9 false b_reading_number
abbrev N_reading_number : List Str := ["word", "text", "places", "rows", "found", "first", "at", "place", "here"]
def ms_l_numbers_right : List Bool := [true, false, false]
def b_l_numbers_right : MS := (sSeq (sSet 3 (eCall ms_l_count F_l_count (rVal (eVar 1) (rVal (eVar 2) (ret [])))))
  (sSeq (sIf (eTest (eOp neD (eCall ms_count F_count (rVal (eVar 1) (rVal (eVar 2) (ret [])))) (eVar 3))) (sRet (eC (.bl false))) sNx)
  (sSeq (sIf (eTest (eOp eqD (eVar 3) (eC (.int 0)))) (sRet (eC (.bl true))) sNx)
  (sSeq (sFor (iAny (eLst (aCons (eC (.int 0)) (aCons (eOp subD (eVar 3) (eC (.int 1))) (aCons (eCall ms_l_random F_l_random (rLend 0 (rVal (eVar 3) (ret [])))) (aCons (eCall ms_l_random F_l_random (rLend 0 (rVal (eVar 3) (ret [])))) (ret []))))))) (gN 4) (sSeq (sSet 5 (eCall ms_reading F_reading (rVal (eVar 1) (rVal (eVar 2) (rVal (eVar 4) (ret []))))))
  (sSeq (sIf (bOr (eTest (eOp (orF isntN isntBq) (eCall ms_is_reading F_is_reading (rVal (eVar 1) (rVal (eVar 2) (rVal (eVar 5) (ret []))))) (eC (.bl true)))) (eTest (eOp neD (eCall ms_reading_number F_reading_number (rVal (eVar 1) (rVal (eVar 2) (rVal (eVar 5) (ret []))))) (eVar 4)))) (sRet (eC (.bl false))) sNx)
  (sSeq (sIf (bAnd (eTest (eOp ltD (eOp addD (eVar 4) (eC (.int 1))) (eVar 3))) (bNot (eTest (eOp ltTI (eVar 5) (eCall ms_reading F_reading (rPerm 3 [2, 1, 0] (aCons (eOp addD (eVar 4) (eC (.int 1))) (aCons (eVar 2) (aCons (eVar 1) (ret [])))))))))) (sRet (eC (.bl false))) sNx)
  (sIf (bAnd (eTest (eOp ltD (eOp addD (eVar 4) (eC (.int 1))) (eVar 3))) (eTest (eOp neD (eCall ms_reading_number F_reading_number (rVal (eVar 1) (rVal (eVar 2) (rVal (eCall ms_reading F_reading (rVal (eVar 1) (rVal (eVar 2) (rVal (eOp addD (eVar 4) (eC (.int 1))) (ret []))))) (ret []))))) (eOp addD (eVar 4) (eC (.int 1)))))) (sRet (eC (.bl false))) sNx)))))
  (sSeq (sSet 6 (eCall ms_used F_used (rVal (eVar 1) (rVal (eVar 2) (ret [])))))
  (sRet (eAnd (eOp eqD (eCallB lenD (aCons (eVar 6) (ret []))) (eCallB lenD (aCons (eVar 2) (ret [])))) (eOp eqD (eCallB intD (aCons (eCallB sumD (aCons (eVar 6) (ret []))) (ret []))) (eOp mulD (eCallB lenD (aCons (eVar 1) (ret []))) (eVar 3))))))))))
def F_l_numbers_right : Fn := runF ms_l_numbers_right 7 false b_l_numbers_right
abbrev N_l_numbers_right : List Str := ["_law_generator_here", "_law_word", "_law_text_here", "_law_total", "_law_number", "_law_places", "_law_told"]
def ms_l_choices : List Bool := [false, false]
def b_l_choices : MS := (sSeq (sSet 2 (eC (.int 1)))
  (sSeq (sFor (iRange range1 (aCons (eVar 1) (ret []))) (gN 3) (sSet 2 (eOp fdivD (eOp mulD (eVar 2) (eOp subD (eVar 0) (eVar 3))) (eOp addD (eVar 3) (eC (.int 1))))))
  (sRet (eVar 2))))
def F_l_choices : Fn := runF ms_l_choices 4 false b_l_choices
abbrev N_l_choices : List Str := ["_law_size", "_law_many", "_law_found", "_law_at"]
def ms_l_alphabet : List Bool := [true, false]
def b_l_alphabet : MS := (sSeq (sSet 2 (eOp addD (eVar 1) (eCall ms_l_random F_l_random (rLend 0 (rVal (eOp subD (eC (.int 5)) (eVar 1)) (ret []))))))
  (sSeq (sSet 3 (eCall ms_l_random F_l_random (rLend 0 (rVal (eC (.int 10)) (ret [])))))
  (sSeq (sSet 4 (eC (.str [])))
  (sSeq (sFor (iRange range1 (aCons (eVar 2) (ret []))) (gN 5) (sSeq (sSet 3 (eOp addD (eOp addD (eVar 3) (eC (.int 1))) (eCall ms_l_random F_l_random (rLend 0 (rVal (eC (.int 3)) (ret []))))))
  (sSet 4 (eOp addD (eVar 4) (eIx (eC (.str [97, 98, 99, 100, 101, 102, 103, 104, 105, 106, 107, 108, 109, 110, 111, 112, 113, 114, 115, 116, 117, 118, 119, 120, 121, 122])) (eVar 3))))))
  (sRet (eVar 4))))))
def F_l_alphabet : Fn := runF ms_l_alphabet 6 false b_l_alphabet
abbrev N_l_alphabet : List Str := ["_law_generator_here", "_law_least", "_law_many", "_law_start", "_law_found", "_law_turn"]
def ms_l_text : List Bool := [true, false, false]
def b_l_text : MS := (sRet (eMethS joinD (eC (.str [])) (aCons (eLc [3] (iRange range1 (aCons (eVar 2) (ret []))) (gN 3) bYes (eIx (eVar 1) (eCall ms_l_random F_l_random (rLend 0 (rVal (eCallB lenD (aCons (eVar 1) (ret []))) (ret [])))))) (ret []))))
def F_l_text : Fn := runF ms_l_text 4 false b_l_text
abbrev N_l_text : List Str := ["_law_generator_here", "_law_letters", "_law_size", "_law_turn"]
def ms_l_drawn_right : List Bool := [true]
def b_l_drawn_right : MS := (sSeq (sSet 1 (eCall ms_l_alphabet F_l_alphabet (rLend 0 (rVal (eC (.int 2)) (ret [])))))
  (sSeq (sSet 2 (eCall ms_l_text F_l_text (rLend 0 (rVal (eVar 1) (rVal (eOp addD (eC (.int 1)) (eCall ms_l_random F_l_random (rLend 0 (rVal (eC (.int 6)) (ret []))))) (ret []))))))
  (sSeq (sSet 3 (eLst (aCons (eCall ms_l_text F_l_text (rLend 0 (rVal (eVar 1) (rVal (eOp addD (eC (.int 60)) (eCall ms_l_random F_l_random (rLend 0 (rVal (eC (.int 241)) (ret []))))) (ret []))))) (aCons (eSl (eOp mulD (eVar 2) (eC (.int 300))) oNone (oSome (eC (.int 300)))) (aCons (eOp mulD (eVar 2) (eC (.int 20))) (ret []))))))
  (sSeq (sFor (iAny (eVar 3)) (gN 4) (sSeq (sSet 5 (eCall ms_l_text F_l_text (rLend 0 (rVal (eVar 1) (rVal (eOp addD (eC (.int 1)) (eCall ms_l_random F_l_random (rLend 0 (rVal (eC (.int 12)) (ret []))))) (ret []))))))
  (sIf (bNot (eTest (eCall ms_l_numbers_right F_l_numbers_right (rLend 0 (rVal (eVar 5) (rVal (eVar 4) (ret []))))))) (sRet (eC (.bl false))) sNx)))
  (sSeq (sAsg (eTup (aCons (eCall ms_l_random F_l_random (rLend 0 (rVal (eC (.int 150)) (ret [])))) (aCons (eCall ms_l_random F_l_random (rLend 0 (rVal (eC (.int 150)) (ret [])))) (aCons (eIx (eVar 1) (eC (.int 0))) (aCons (eIx (eVar 1) (eC (.int 1))) (ret [])))))) (gT [6, 7, 8, 9]))
  (sSeq (sPar 10 11 (aCons (eCall ms_l_random F_l_random (rLend 0 (rVal (eC (.int 7)) (ret [])))) (aCons (eCall ms_l_random F_l_random (rLend 0 (rVal (eC (.int 6)) (ret [])))) (ret []))))
  (sSeq (sSet 12 (eOp mulD (eCall ms_l_choices F_l_choices (rVal (eVar 6) (rVal (eVar 10) (ret [])))) (eCall ms_l_choices F_l_choices (rVal (eVar 7) (rVal (eVar 11) (ret []))))))
  (sRet (eOp eqD (eCall ms_count F_count (rVal (eOp addD (eOp mulD (eVar 8) (eVar 10)) (eOp mulD (eVar 9) (eVar 11))) (rVal (eOp addD (eOp mulD (eVar 8) (eVar 6)) (eOp mulD (eVar 9) (eVar 7))) (ret [])))) (eVar 12))))))))))
def F_l_drawn_right : Fn := runF ms_l_drawn_right 13 false b_l_drawn_right
abbrev N_l_drawn_right : List Str := ["_law_generator_here", "_law_letters", "_law_piece", "_law_texts", "_law_text_here", "_law_word", "_law_low", "_law_high", "_law_one", "_law_other", "_law_some", "_law_more", "_law_due"]
def ms_law : List Bool := [false]
def b_law : MS := (sSeq (sFor (iRange range1 (aCons (eC (.int 2)) (ret []))) (gN 1) (sIf (bNot (eTest (eCall ms_l_drawn_right F_l_drawn_right (rNew (eCall ms_l_generator F_l_generator (rVal (eVar 0) (rVal (eVar 1) (ret [])))) (ret []))))) (sRet (eC (.bl false))) sNx))
  (sSeq (sOwn 2 (eCall ms_l_generator F_l_generator (rVal (eVar 0) (rVal (eC (.int 2)) (ret [])))))
  (sSeq (sPar 3 4 (aCons (eOp addD (eC (.int 200)) (eCall ms_l_random F_l_random (rLend 2 (rVal (eC (.int 101)) (ret []))))) (aCons (eCall ms_l_random F_l_random (rLend 2 (rVal (eC (.int 13)) (ret [])))) (ret []))))
  (sSeq (sIf (eTest (eOp neD (eCall ms_count F_count (rVal (eOp mulD (eC (.str [113])) (eVar 4)) (rVal (eOp mulD (eC (.str [113])) (eVar 3)) (ret [])))) (eCall ms_l_choices F_l_choices (rVal (eVar 3) (rVal (eVar 4) (ret [])))))) (sRet (eC (.bl false))) sNx)
  (sRet (eCall ms_l_numbers_right F_l_numbers_right (rLend 2 (rVal (eOp mulD (eC (.str [113])) (eC (.int 12))) (rVal (eOp mulD (eC (.str [113])) (eC (.int 300))) (ret []))))))))))
def F_law : Fn := runF ms_law 5 false b_law
abbrev N_law : List Str := ["_law_script", "_law_index", "_law_generator_here", "_law_size", "_law_many"]
/-! ### what the top has left -/
structure Names (K : PySem.W.Frag) (mg : Str → Option Value) where
  a_l_cell : Addr
  d_l_cell : FuncData
  u_l_cell : Fun K "_law_cell" "_law_cell" s_l_cell a_l_cell d_l_cell
  m_l_cell : mg "_law_cell" = some (.ref a_l_cell)
  b_l_cell : Binds K d_l_cell ["_law_script", "_law_index"] []
  a_l_generator : Addr
  d_l_generator : FuncData
  u_l_generator : Fun K "_law_generator" "_law_generator" s_l_generator a_l_generator d_l_generator
  m_l_generator : mg "_law_generator" = some (.ref a_l_generator)
  b_l_generator : Binds K d_l_generator ["_law_script", "_law_index"] []
  a_l_count : Addr
  d_l_count : FuncData
  u_l_count : Fun K "_law_count" "_law_count" s_l_count a_l_count d_l_count
  m_l_count : mg "_law_count" = some (.ref a_l_count)
  b_l_count : Binds K d_l_count ["_law_word", "_law_text_here"] []
  a_is_string_of : Addr
  d_is_string_of : FuncData
  u_is_string_of : Fun K "is_string_of" "is_string_of" s_is_string_of a_is_string_of d_is_string_of
  m_is_string_of : mg "is_string_of" = some (.ref a_is_string_of)
  b_is_string_of : Binds K d_is_string_of ["value", "signs"] []
  a_is_letters_alone : Addr
  d_is_letters_alone : FuncData
  u_is_letters_alone : Fun K "is_letters_alone" "is_letters_alone" s_is_letters_alone a_is_letters_alone d_is_letters_alone
  m_is_letters_alone : mg "is_letters_alone" = some (.ref a_is_letters_alone)
  b_is_letters_alone : Binds K d_is_letters_alone ["value"] []
  a_check_word : Addr
  d_check_word : FuncData
  u_check_word : Fun K "check_word" "check_word" s_check_word a_check_word d_check_word
  m_check_word : mg "check_word" = some (.ref a_check_word)
  b_check_word : Binds K d_check_word ["word"] []
  a_check_text : Addr
  d_check_text : FuncData
  u_check_text : Fun K "check_text" "check_text" s_check_text a_check_text d_check_text
  m_check_text : mg "check_text" = some (.ref a_check_text)
  b_check_text : Binds K d_check_text ["text"] []
  a_check_pair : Addr
  d_check_pair : FuncData
  u_check_pair : Fun K "check_pair" "check_pair" s_check_pair a_check_pair d_check_pair
  m_check_pair : mg "check_pair" = some (.ref a_check_pair)
  b_check_pair : Binds K d_check_pair ["word", "text"] []
  a_endings_behind : Addr
  d_endings_behind : FuncData
  u_endings_behind : Fun K "endings_behind" "endings_behind" s_endings_behind a_endings_behind d_endings_behind
  m_endings_behind : mg "endings_behind" = some (.ref a_endings_behind)
  b_endings_behind : Binds K d_endings_behind ["word", "text"] []
  a_used : Addr
  d_used : FuncData
  u_used : Fun K "used" "used" s_used a_used d_used
  m_used : mg "used" = some (.ref a_used)
  b_used : Binds K d_used ["word", "text"] []
  a_beginnings : Addr
  d_beginnings : FuncData
  u_beginnings : Fun K "beginnings" "beginnings" s_beginnings a_beginnings d_beginnings
  m_beginnings : mg "beginnings" = some (.ref a_beginnings)
  b_beginnings : Binds K d_beginnings ["word", "text"] []
  a_count_of : Addr
  d_count_of : FuncData
  u_count_of : Fun K "count_of" "count_of" s_count_of a_count_of d_count_of
  m_count_of : mg "count_of" = some (.ref a_count_of)
  b_count_of : Binds K d_count_of ["word", "text"] []
  a_count : Addr
  d_count : FuncData
  u_count : Fun K "count" "count" s_count a_count d_count
  m_count : mg "count" = some (.ref a_count)
  b_count : Binds K d_count ["word", "text"] []
  a_l_hash : Addr
  d_l_hash : FuncData
  u_l_hash : Fun K "_law_hash" "_law_hash" s_l_hash a_l_hash d_l_hash
  m_l_hash : mg "_law_hash" = some (.ref a_l_hash)
  b_l_hash : Binds K d_l_hash ["_law_seed", "_law_index"] []
  a_l_random : Addr
  d_l_random : FuncData
  u_l_random : Fun K "_law_random" "_law_random" s_l_random a_l_random d_l_random
  m_l_random : mg "_law_random" = some (.ref a_l_random)
  b_l_random : Binds K d_l_random ["_law_generator_here", "_law_bound"] []
  a_is_whole : Addr
  d_is_whole : FuncData
  u_is_whole : Fun K "is_whole" "is_whole" s_is_whole a_is_whole d_is_whole
  m_is_whole : mg "is_whole" = some (.ref a_is_whole)
  b_is_whole : Binds K d_is_whole ["value"] []
  a_is_between : Addr
  d_is_between : FuncData
  u_is_between : Fun K "is_between" "is_between" s_is_between a_is_between d_is_between
  m_is_between : mg "is_between" = some (.ref a_is_between)
  b_is_between : Binds K d_is_between ["value", "low", "high"] []
  a_check_number : Addr
  d_check_number : FuncData
  u_check_number : Fun K "check_number" "check_number" s_check_number a_check_number d_check_number
  m_check_number : mg "check_number" = some (.ref a_check_number)
  b_check_number : Binds K d_check_number ["number", "low", "high"] []
  a_reading : Addr
  d_reading : FuncData
  u_reading : Fun K "reading" "reading" s_reading a_reading d_reading
  m_reading : mg "reading" = some (.ref a_reading)
  b_reading : Binds K d_reading ["word", "text", "number"] []
  a_spells : Addr
  d_spells : FuncData
  u_spells : Fun K "spells" "spells" s_spells a_spells d_spells
  m_spells : mg "spells" = some (.ref a_spells)
  b_spells : Binds K d_spells ["word", "text", "value"] []
  a_is_reading : Addr
  d_is_reading : FuncData
  u_is_reading : Fun K "is_reading" "is_reading" s_is_reading a_is_reading d_is_reading
  m_is_reading : mg "is_reading" = some (.ref a_is_reading)
  b_is_reading : Binds K d_is_reading ["word", "text", "value"] []
  a_reading_number : Addr
  d_reading_number : FuncData
  u_reading_number : Fun K "reading_number" "reading_number" s_reading_number a_reading_number d_reading_number
  m_reading_number : mg "reading_number" = some (.ref a_reading_number)
  b_reading_number : Binds K d_reading_number ["word", "text", "places"] []
  a_l_numbers_right : Addr
  d_l_numbers_right : FuncData
  u_l_numbers_right : Fun K "_law_numbers_right" "_law_numbers_right" s_l_numbers_right a_l_numbers_right d_l_numbers_right
  m_l_numbers_right : mg "_law_numbers_right" = some (.ref a_l_numbers_right)
  b_l_numbers_right : Binds K d_l_numbers_right ["_law_generator_here", "_law_word", "_law_text_here"] []
  a_l_choices : Addr
  d_l_choices : FuncData
  u_l_choices : Fun K "_law_choices" "_law_choices" s_l_choices a_l_choices d_l_choices
  m_l_choices : mg "_law_choices" = some (.ref a_l_choices)
  b_l_choices : Binds K d_l_choices ["_law_size", "_law_many"] []
  a_l_alphabet : Addr
  d_l_alphabet : FuncData
  u_l_alphabet : Fun K "_law_alphabet" "_law_alphabet" s_l_alphabet a_l_alphabet d_l_alphabet
  m_l_alphabet : mg "_law_alphabet" = some (.ref a_l_alphabet)
  b_l_alphabet : Binds K d_l_alphabet ["_law_generator_here", "_law_least"] []
  a_l_text : Addr
  d_l_text : FuncData
  u_l_text : Fun K "_law_text" "_law_text" s_l_text a_l_text d_l_text
  m_l_text : mg "_law_text" = some (.ref a_l_text)
  b_l_text : Binds K d_l_text ["_law_generator_here", "_law_letters", "_law_size"] []
  a_l_drawn_right : Addr
  d_l_drawn_right : FuncData
  u_l_drawn_right : Fun K "_law_drawn_right" "_law_drawn_right" s_l_drawn_right a_l_drawn_right d_l_drawn_right
  m_l_drawn_right : mg "_law_drawn_right" = some (.ref a_l_drawn_right)
  b_l_drawn_right : Binds K d_l_drawn_right ["_law_generator_here"] []
  a_law : Addr
  d_law : FuncData
  u_law : Fun K "law" "law" s_law a_law d_law
  m_law : mg "law" = some (.ref a_law)
  b_law : Binds K d_law ["_law_script"] []
  n_len : mg "len" = none
  n_sum : mg "sum" = none
  n_int : mg "int" = none
  n_max : mg "max" = none
  n_range : mg "range" = none
  n_str : mg "str" = none
  n_isinstance : mg "isinstance" = none
  n_reversed : mg "reversed" = none
  n_list : mg "list" = none
  n_enumerate : mg "enumerate" = none
  n_bool : mg "bool" = none
  n_tuple : mg "tuple" = none
  n_zip : mg "zip" = none
  t_LETTERS : Tok
  c_LETTERS : mg "LETTERS" = some (.str (mkS k_LETTERS) t_LETTERS)
/-! ### the defs keep their promises -/
section
variable {P : Program} {w : World} {K : PySem.W.Frag} {mg : Str → Option Value} {base : Heap}
set_option maxHeartbeats 4000000 in
theorem ok_l_cell (T : Names K mg) : FnOk P w K mg base CX0 1 T.a_l_cell T.d_l_cell ["_law_script", "_law_index"] (spF K ms_l_cell false F_l_cell) :=
  have sc : FnScope N_l_cell ["_law_script", "_law_index"] (defScope s_l_cell) := ⟨rfl, rfl, rfl, by decide +kernel, rfl, by decide +kernel, by decide +kernel⟩
  fn_body T.u_l_cell sc ms_l_cell false rfl fun cdv A outer s H E hr =>
    (pdb_cons (pds_if (pdt_cmp op_ltD.d (pd_var 1) (pd_callB call_lenD T.n_len (pda_cons (pd_var 0) pda_nil)) (nomark _)) (pdb_one (pds_ret (pd_ix (pd_var 0) (pd_var 1)))) pdb_nil)
      (pdb_one (pds_ret (pd_op op_modD.d (pd_callB (call_sumD rfl) T.n_sum (pda_cons (pd_slice (pd_var 0) pdo_none (pdo_some pd_int)) pda_nil)) pd_int))))
set_option maxHeartbeats 4000000 in
theorem ok_l_generator (T : Names K mg) : FnOk P w K mg base CX0 2 T.a_l_generator T.d_l_generator ["_law_script", "_law_index"] (spF K ms_l_generator true F_l_generator) :=
  have sc : FnScope N_l_generator ["_law_script", "_law_index"] (defScope s_l_generator) := ⟨rfl, rfl, rfl, by decide +kernel, rfl, by decide +kernel, by decide +kernel⟩
  fn_body T.u_l_generator sc ms_l_generator true rfl fun cdv A outer s H E hr =>
    (pdb_cons (pds_set 2 (pd_call (ok_l_cell T) (hr.mono (by decide)) T.m_l_cell T.u_l_cell.kp T.b_l_cell (pdr_val (pd_var 0) (pdr_val (pd_var 1) pdr_nil))) sc.nd)
      (pdb_one (pds_retF (pf_lst (pda_cons (pd_op op_modD.d (pd_callTy call_intD T.n_int (pda_cons (pd_callB (call_maxD rfl) T.n_max (pda_cons (pd_op op_subD.d (pd_var 2) (pd_op op_powD.d pd_int pd_int)) (pda_cons pd_int pda_nil))) pda_nil)) (pd_op op_powD.d (pd_op op_powD.d pd_int pd_int) pd_int)) (pda_cons (pd_op op_modD.d (pd_callTy call_intD T.n_int (pda_cons (pd_var 2) pda_nil)) pd_int) (pda_cons (pd_op op_mulD pd_int (pd_var 1)) pda_nil)))))))
set_option maxHeartbeats 4000000 in
theorem ok_l_count (T : Names K mg) : FnOk P w K mg base CX0 1 T.a_l_count T.d_l_count ["_law_word", "_law_text_here"] (spF K ms_l_count false F_l_count) :=
  have sc : FnScope N_l_count ["_law_word", "_law_text_here"] (defScope s_l_count) := ⟨rfl, rfl, rfl, by decide +kernel, rfl, by decide +kernel, by decide +kernel⟩
  fn_body T.u_l_count sc ms_l_count false rfl fun cdv A outer s H E hr =>
    (pdb_cons (pds_own 2 (pf_op op_addL (pf_lst (pda_cons pd_int pda_nil)).pd (pd_op op_mulD (pf_lst (pda_cons pd_int pda_nil)).pd (pd_callB call_lenD T.n_len (pda_cons (pd_var 0) pda_nil)))) sc.nd)
      (pdb_cons (pds_for (vs := [3]) (pdi_any (pd_var 1)) (pdg_name 3 sc.nd) (pdb_one (pds_for (vs := [4]) (pdi_range3 T.n_range (pda_cons (pd_op op_subD.d (pd_callB call_lenD T.n_len (pda_cons (pd_var 0) pda_nil)) pd_int) (pda_cons (pd_op op_subD.d pd_int pd_int) (pda_cons (pd_op op_subD.d pd_int pd_int) pda_nil)))) (pdg_name 4 sc.nd) (pdb_one (pds_if (pdt_cmp (op_eqq hr).d (pd_ix (pd_var 0) (pd_var 4)) (pd_var 3) (nomark _)) (pdb_one (pds_setIx (pv 2) (pd_op op_addD (pd_var 4) pd_int) (pd_op op_addD (pd_ixV (pv 2) (pd_op op_addD (pd_var 4) pd_int)) (pd_ixV (pv 2) (pd_var 4))))) pdb_nil)))))
      (pdb_one (pds_ret (pd_ixV (pv 2) (pd_callB call_lenD T.n_len (pda_cons (pd_var 0) pda_nil)))))))
set_option maxHeartbeats 4000000 in
theorem ok_is_string_of (T : Names K mg) : FnOk P w K mg base CX0 1 T.a_is_string_of T.d_is_string_of ["value", "signs"] (spF K ms_is_string_of false F_is_string_of) :=
  have sc : FnScope N_is_string_of ["value", "signs"] (defScope s_is_string_of) := ⟨rfl, rfl, rfl, by decide +kernel, rfl, by decide +kernel, by decide +kernel⟩
  fn_body T.u_is_string_of sc ms_is_string_of false rfl fun cdv A outer s H E hr =>
    (pdb_one (pds_ret (pd_and (pd_callB call_isiD T.n_isinstance (pda_cons (pd_var 0) (pda_cons (pd_ty "str" T.n_str) pda_nil))) (pd_one (pd_cmp (op_eqq hr).d (pd_methS meth_strip PySem.F.slot_str_strip PySem.F.type_str_strip (pd_var 0) (pda_cons (pd_var 1) pda_nil)) (pd_str []) (nomark _))))))
set_option maxHeartbeats 4000000 in
theorem ok_is_letters_alone (T : Names K mg) : FnOk P w K mg base CX0 2 T.a_is_letters_alone T.d_is_letters_alone ["value"] (spF K ms_is_letters_alone false F_is_letters_alone) :=
  have sc : FnScope N_is_letters_alone ["value"] (defScope s_is_letters_alone) := ⟨rfl, rfl, rfl, by decide +kernel, rfl, by decide +kernel, by decide +kernel⟩
  fn_body T.u_is_letters_alone sc ms_is_letters_alone false rfl fun cdv A outer s H E hr =>
    (pdb_one (pds_ret (pd_call (ok_is_string_of T) (hr.mono (by decide)) T.m_is_string_of T.u_is_string_of.kp T.b_is_string_of (pdr_val (pd_var 0) (pdr_val (pd_glob (d := .str k_LETTERS) (v := .str (mkS k_LETTERS)) T.c_LETTERS ⟨_, rfl⟩ (fun _ => rfl)) pdr_nil)))))
set_option maxHeartbeats 4000000 in
theorem ok_check_word (T : Names K mg) : FnOk P w K mg base CX0 3 T.a_check_word T.d_check_word ["word"] (spF K ms_check_word false F_check_word) :=
  have sc : FnScope N_check_word ["word"] (defScope s_check_word) := ⟨rfl, rfl, rfl, by decide +kernel, rfl, by decide +kernel, by decide +kernel⟩
  fn_body T.u_check_word sc ms_check_word false rfl fun cdv A outer s H E hr =>
    (pdb_one (pds_if (pdt_not (pdt_val (pd_call (ok_is_letters_alone T) (hr.mono (by decide)) T.m_is_letters_alone T.u_is_letters_alone.kp T.b_is_letters_alone (pdr_val (pd_var 0) pdr_nil)))) (pdb_one pds_never) pdb_nil))
set_option maxHeartbeats 4000000 in
theorem ok_check_text (T : Names K mg) : FnOk P w K mg base CX0 3 T.a_check_text T.d_check_text ["text"] (spF K ms_check_text false F_check_text) :=
  have sc : FnScope N_check_text ["text"] (defScope s_check_text) := ⟨rfl, rfl, rfl, by decide +kernel, rfl, by decide +kernel, by decide +kernel⟩
  fn_body T.u_check_text sc ms_check_text false rfl fun cdv A outer s H E hr =>
    (pdb_one (pds_if (pdt_not (pdt_val (pd_call (ok_is_letters_alone T) (hr.mono (by decide)) T.m_is_letters_alone T.u_is_letters_alone.kp T.b_is_letters_alone (pdr_val (pd_var 0) pdr_nil)))) (pdb_one pds_never) pdb_nil))
set_option maxHeartbeats 4000000 in
theorem ok_check_pair (T : Names K mg) : FnOk P w K mg base CX0 4 T.a_check_pair T.d_check_pair ["word", "text"] (spF K ms_check_pair false F_check_pair) :=
  have sc : FnScope N_check_pair ["word", "text"] (defScope s_check_pair) := ⟨rfl, rfl, rfl, by decide +kernel, rfl, by decide +kernel, by decide +kernel⟩
  fn_body T.u_check_pair sc ms_check_pair false rfl fun cdv A outer s H E hr =>
    (pdb_cons (pds_do (pd_call (ok_check_word T) (hr.mono (by decide)) T.m_check_word T.u_check_word.kp T.b_check_word (pdr_val (pd_var 0) pdr_nil)))
      (pdb_one (pds_do (pd_call (ok_check_text T) (hr.mono (by decide)) T.m_check_text T.u_check_text.kp T.b_check_text (pdr_val (pd_var 1) pdr_nil)))))
set_option maxHeartbeats 4000000 in
theorem ok_endings_behind (T : Names K mg) : FnOk P w K mg base CX0 1 T.a_endings_behind T.d_endings_behind ["word", "text"] (spF K ms_endings_behind false F_endings_behind) :=
  have sc : FnScope N_endings_behind ["word", "text"] (defScope s_endings_behind) := ⟨rfl, rfl, rfl, by decide +kernel, rfl, by decide +kernel, by decide +kernel⟩
  fn_body T.u_endings_behind sc ms_endings_behind false rfl fun cdv A outer s H E hr =>
    (pdb_cons (pds_own 2 (pf_op op_addL (pd_op op_mulD (pf_lst (pda_cons pd_int pda_nil)).pd (pd_callB call_lenD T.n_len (pda_cons (pd_var 0) pda_nil))) (pf_lst (pda_cons pd_int pda_nil)).pd) sc.nd)
      (pdb_cons (pds_own 3 (pf_lst (pda_cons (pd_var 2) pda_nil)) sc.nd)
      (pdb_cons (pds_for (vs := [4]) (pdi_rev T.n_reversed (pd_var 1)) (pdg_name 4 sc.nd) (pdb_cons (pds_own 2 (pf_list (pd_var 2) T.n_list) sc.nd)
      (pdb_cons (pds_for (vs := [5]) (pdi_range1 T.n_range (pda_cons (pd_callB call_lenD T.n_len (pda_cons (pd_var 0) pda_nil)) pda_nil)) (pdg_name 5 sc.nd) (pdb_one (pds_if (pdt_cmp (op_eqq hr).d (pd_ix (pd_var 0) (pd_var 5)) (pd_var 4) (nomark _)) (pdb_one (pds_setIx (pv 2) (pd_var 5) (pd_op op_addD (pd_ixV (pv 2) (pd_var 5)) (pd_ixV (pv 2) (pd_op op_addD (pd_var 5) pd_int))))) pdb_nil)))
      (pdb_one (pds_append (pv 3) (pd_var 2))))))
      (pdb_cons (pds_reverse (pv 3))
      (pdb_one (pds_ret (pd_var 3)))))))
set_option maxHeartbeats 4000000 in
theorem ok_used (T : Names K mg) : FnOk P w K mg base CX0 5 T.a_used T.d_used ["word", "text"] (spF K ms_used false F_used) :=
  have sc : FnScope N_used ["word", "text"] (defScope s_used) := ⟨rfl, rfl, rfl, by decide +kernel, rfl, by decide +kernel, by decide +kernel⟩
  fn_body T.u_used sc ms_used false rfl fun cdv A outer s H E hr =>
    (pdb_cons (pds_do (pd_call (ok_check_pair T) (hr.mono (by decide)) T.m_check_pair T.u_check_pair.kp T.b_check_pair (pdr_val (pd_var 0) (pdr_val (pd_var 1) pdr_nil))))
      (pdb_cons (pds_tupN (pdn_val (pd_call (ok_endings_behind T) (hr.mono (by decide)) T.m_endings_behind T.u_endings_behind.kp T.b_endings_behind (pdr_val (pd_var 0) (pdr_val (pd_var 1) pdr_nil))) (pdn_new (pf_op op_addL (pf_lst (pda_cons pd_int pda_nil)).pd (pd_op op_mulD (pf_lst (pda_cons pd_int pda_nil)).pd (pd_callB call_lenD T.n_len (pda_cons (pd_var 0) pda_nil)))) (pdn_new (pf_lst pda_nil) pdn_nil))) (pdgn_cons 2 (pdgn_cons 3 (pdgn_cons 4 pdgn_nil sc.nd) sc.nd) sc.nd))
      (pdb_cons (pds_for (vs := [5, 6]) (pdi_enum T.n_enumerate (pd_var 1)) (pdg_tup (pdgs_cons 5 (pdgs_cons 6 pdgs_nil sc.nd) sc.nd) rfl) (pdb_cons (pds_setLcD 7 [("at", 8)] sc.nd (pdi_range1 T.n_range (pda_cons (pd_callB call_lenD T.n_len (pda_cons (pd_var 0) pda_nil)) pda_nil)) (blkOk_by (own := [("at", 8)]) (N := N_used) (sc := defScope s_used) (by decide +kernel)) (fun _ _ _ _ _ => (pdg_name 8 sc.nd)) (fun _ _ _ _ _ => (pdts_one (pdt_cmp (op_eqq hr).d (pd_ix (pd_var 0) (pd_var 8)) (pd_var 6) (nomark _)))) (fun _ _ _ _ _ => (pd_var 8)) (sw_true rfl rfl rfl (by decide +kernel)))
      (pdb_cons (pds_append (pv 4) (pd_callB (call_sumD rfl) T.n_sum (pda_cons (pf_lc [("at", 8)] sc.nd (pdi_any (pd_var 7)) (blkOk_by (own := [("at", 8)]) (N := N_used) (sc := defScope s_used) (by decide +kernel)) (fun _ _ _ _ _ => (pdg_name 8 sc.nd)) (fun _ _ _ _ _ => pdts_nil) (fun _ _ _ _ _ => (pd_op op_mulD (pd_ixV (pv 3) (pd_var 8)) (pd_ix (pd_ix (pd_var 2) (pd_op op_addD (pd_var 5) pd_int)) (pd_op op_addD (pd_var 8) pd_int))))).pd pda_nil)))
      (pdb_one (pds_for (vs := [8]) (pdi_rev T.n_reversed (pd_var 7)) (pdg_name 8 sc.nd) (pdb_one (pds_setIx (pv 3) (pd_op op_addD (pd_var 8) pd_int) (pd_op op_addD (pd_ixV (pv 3) (pd_op op_addD (pd_var 8) pd_int)) (pd_ixV (pv 3) (pd_var 8))))))))))
      (pdb_one (pds_ret (pd_var 4))))))
set_option maxHeartbeats 4000000 in
theorem ok_beginnings (T : Names K mg) : FnOk P w K mg base CX0 1 T.a_beginnings T.d_beginnings ["word", "text"] (spF K ms_beginnings false F_beginnings) :=
  have sc : FnScope N_beginnings ["word", "text"] (defScope s_beginnings) := ⟨rfl, rfl, rfl, by decide +kernel, rfl, by decide +kernel, by decide +kernel⟩
  fn_body T.u_beginnings sc ms_beginnings false rfl fun cdv A outer s H E hr =>
    (pdb_cons (pds_own 2 (pf_op op_addL (pf_lst (pda_cons pd_int pda_nil)).pd (pd_op op_mulD (pf_lst (pda_cons pd_int pda_nil)).pd (pd_callB call_lenD T.n_len (pda_cons (pd_var 0) pda_nil)))) sc.nd)
      (pdb_cons (pds_for (vs := [3]) (pdi_any (pd_var 1)) (pdg_name 3 sc.nd) (pdb_one (pds_for (vs := [4]) (pdi_range3 T.n_range (pda_cons (pd_callB call_lenD T.n_len (pda_cons (pd_var 0) pda_nil)) (pda_cons pd_int (pda_cons (pd_neg pd_int) pda_nil)))) (pdg_name 4 sc.nd) (pdb_one (pds_if (pdt_cmp (op_eqq hr).d (pd_ix (pd_var 0) (pd_op op_subD.d (pd_var 4) pd_int)) (pd_var 3) (nomark _)) (pdb_one (pds_setIx (pv 2) (pd_var 4) (pd_op op_addD (pd_ixV (pv 2) (pd_var 4)) (pd_ixV (pv 2) (pd_op op_subD.d (pd_var 4) pd_int))))) pdb_nil)))))
      (pdb_one (pds_ret (pd_var 2)))))
set_option maxHeartbeats 4000000 in
theorem ok_count_of (T : Names K mg) : FnOk P w K mg base CX0 2 T.a_count_of T.d_count_of ["word", "text"] (spF K ms_count_of false F_count_of) :=
  have sc : FnScope N_count_of ["word", "text"] (defScope s_count_of) := ⟨rfl, rfl, rfl, by decide +kernel, rfl, by decide +kernel, by decide +kernel⟩
  fn_body T.u_count_of sc ms_count_of false rfl fun cdv A outer s H E hr =>
    (pdb_one (pds_ret (pd_ix (pd_call (ok_beginnings T) (hr.mono (by decide)) T.m_beginnings T.u_beginnings.kp T.b_beginnings (pdr_val (pd_var 0) (pdr_val (pd_var 1) pdr_nil))) (pd_callB call_lenD T.n_len (pda_cons (pd_var 0) pda_nil)))))
set_option maxHeartbeats 4000000 in
theorem ok_count (T : Names K mg) : FnOk P w K mg base CX0 5 T.a_count T.d_count ["word", "text"] (spF K ms_count false F_count) :=
  have sc : FnScope N_count ["word", "text"] (defScope s_count) := ⟨rfl, rfl, rfl, by decide +kernel, rfl, by decide +kernel, by decide +kernel⟩
  fn_body T.u_count sc ms_count false rfl fun cdv A outer s H E hr =>
    (pdb_cons (pds_do (pd_call (ok_check_pair T) (hr.mono (by decide)) T.m_check_pair T.u_check_pair.kp T.b_check_pair (pdr_val (pd_var 0) (pdr_val (pd_var 1) pdr_nil))))
      (pdb_one (pds_ret (pd_call (ok_count_of T) (hr.mono (by decide)) T.m_count_of T.u_count_of.kp T.b_count_of (pdr_val (pd_var 0) (pdr_val (pd_var 1) pdr_nil))))))
set_option maxHeartbeats 4000000 in
theorem ok_l_hash (T : Names K mg) : FnOk P w K mg base CX0 1 T.a_l_hash T.d_l_hash ["_law_seed", "_law_index"] (spF K ms_l_hash false F_l_hash) :=
  have sc : FnScope N_l_hash ["_law_seed", "_law_index"] (defScope s_l_hash) := ⟨rfl, rfl, rfl, by decide +kernel, rfl, by decide +kernel, by decide +kernel⟩
  fn_body T.u_l_hash sc ms_l_hash false rfl fun cdv A outer s H E hr =>
    (pdb_cons (pds_set 2 (pd_op op_modD.d (pd_callTy call_intD T.n_int (pda_cons (pd_op op_addD (pd_op op_addD (pd_op op_addD (pd_op op_mulD (pd_var 0) pd_int) (pd_op op_mulD (pd_op op_mulD pd_int (pd_var 1)) (pd_var 1))) (pd_op op_mulD pd_int (pd_var 1))) pd_int) pda_nil)) pd_int) sc.nd)
      (pdb_cons (pds_set 2 (pd_op op_modD.d (pd_callTy call_intD T.n_int (pda_cons (pd_op op_addD (pd_op op_addD (pd_op op_mulD (pd_var 2) (pd_var 2)) (pd_op op_mulD pd_int (pd_var 1))) pd_int) pda_nil)) pd_int) sc.nd)
      (pdb_one (pds_ret (pd_op op_modD.d (pd_callTy call_intD T.n_int (pda_cons (pd_op op_mulD (pd_var 2) pd_int) pda_nil)) pd_int)))))
set_option maxHeartbeats 4000000 in
theorem ok_l_random (T : Names K mg) : FnOk P w K mg base CX0 2 T.a_l_random T.d_l_random ["_law_generator_here", "_law_bound"] (spF K ms_l_random false F_l_random) :=
  have sc : FnScope N_l_random ["_law_generator_here", "_law_bound"] (defScope s_l_random) := ⟨rfl, rfl, rfl, by decide +kernel, rfl, by decide +kernel, by decide +kernel⟩
  fn_body T.u_l_random sc ms_l_random false rfl fun cdv A outer s H E hr =>
    (pdb_cons (pds_if (pdt_cmp op_gtD.d (pd_ixV (pv 0) pd_int) pd_int (nomark _)) (pdb_cons (pds_set 2 (pd_op op_modD.d (pd_callTy call_intD T.n_int (pda_cons (pd_ixV (pv 0) pd_int) pda_nil)) (pd_var 1)) sc.nd)
      (pdb_cons (pds_setIx (pv 0) pd_int (pd_op op_fdivD.d (pd_ixV (pv 0) pd_int) (pd_var 1)))
      (pdb_one (pds_ret (pd_var 2))))) pdb_nil)
      (pdb_cons (pds_set 2 pd_int sc.nd)
      (pdb_cons (pds_for (vs := [3]) (pdi_range1 T.n_range (pda_cons (pd_op op_addD pd_int (pd_op op_fdivD.d (pd_bits (pd_var 1)) pd_int)) pda_nil)) (pdg_name 3 sc.nd) (pdb_cons (pds_setIx (pv 0) pd_int (pd_op op_addD (pd_ixV (pv 0) pd_int) pd_int))
      (pdb_one (pds_set 2 (pd_op op_addD (pd_op op_mulD (pd_var 2) pd_int) (pd_call (ok_l_hash T) (hr.mono (by decide)) T.m_l_hash T.u_l_hash.kp T.b_l_hash (pdr_val (pd_ixV (pv 0) pd_int) (pdr_val (pd_ixV (pv 0) pd_int) pdr_nil)))) sc.nd))))
      (pdb_one (pds_ret (pd_op op_modD.d (pd_callTy call_intD T.n_int (pda_cons (pd_var 2) pda_nil)) (pd_var 1)))))))
set_option maxHeartbeats 4000000 in
theorem ok_is_whole (T : Names K mg) : FnOk P w K mg base CX0 1 T.a_is_whole T.d_is_whole ["value"] (spF K ms_is_whole false F_is_whole) :=
  have sc : FnScope N_is_whole ["value"] (defScope s_is_whole) := ⟨rfl, rfl, rfl, by decide +kernel, rfl, by decide +kernel, by decide +kernel⟩
  fn_body T.u_is_whole sc ms_is_whole false rfl fun cdv A outer s H E hr =>
    (pdb_one (pds_ret (pd_and (pd_callB call_isiD T.n_isinstance (pda_cons (pd_var 0) (pda_cons (pd_ty "int" T.n_int) pda_nil))) (pd_one (pd_not (pd_callB call_isiD T.n_isinstance (pda_cons (pd_var 0) (pda_cons (pd_ty "bool" T.n_bool) pda_nil))))))))
set_option maxHeartbeats 4000000 in
theorem ok_is_between (T : Names K mg) : FnOk P w K mg base CX0 2 T.a_is_between T.d_is_between ["value", "low", "high"] (spF K ms_is_between false F_is_between) :=
  have sc : FnScope N_is_between ["value", "low", "high"] (defScope s_is_between) := ⟨rfl, rfl, rfl, by decide +kernel, rfl, by decide +kernel, by decide +kernel⟩
  fn_body T.u_is_between sc ms_is_between false rfl fun cdv A outer s H E hr =>
    (pdb_cons (pds_if (pdt_not (pdt_val (pd_call (ok_is_whole T) (hr.mono (by decide)) T.m_is_whole T.u_is_whole.kp T.b_is_whole (pdr_val (pd_var 0) pdr_nil)))) (pdb_one (pds_ret pd_bl)) pdb_nil)
      (pdb_one (pds_ret (pd_and (pd_or (pd_cmp op_isD.d (pd_var 1) pd_non (nomark _)) (pd_one (pd_cmp op_geD.d (pd_var 0) (pd_var 1) (nomark _)))) (pd_one (pd_or (pd_cmp op_isD.d (pd_var 2) pd_non (nomark _)) (pd_one (pd_cmp op_leD.d (pd_var 0) (pd_var 2) (nomark _)))))))))
set_option maxHeartbeats 4000000 in
theorem ok_check_number (T : Names K mg) : FnOk P w K mg base CX0 3 T.a_check_number T.d_check_number ["number", "low", "high"] (spF K ms_check_number false F_check_number) :=
  have sc : FnScope N_check_number ["number", "low", "high"] (defScope s_check_number) := ⟨rfl, rfl, rfl, by decide +kernel, rfl, by decide +kernel, by decide +kernel⟩
  fn_body T.u_check_number sc ms_check_number false rfl fun cdv A outer s H E hr =>
    (pdb_one (pds_if (pdt_not (pdt_val (pd_call (ok_is_between T) (hr.mono (by decide)) T.m_is_between T.u_is_between.kp T.b_is_between (pdr_val (pd_var 0) (pdr_val (pd_var 1) (pdr_val (pd_var 2) pdr_nil)))))) (pdb_one pds_never) pdb_nil))
set_option maxHeartbeats 4000000 in
theorem ok_reading (T : Names K mg) : FnOk P w K mg base CX0 5 T.a_reading T.d_reading ["word", "text", "number"] (spF K ms_reading false F_reading) :=
  have sc : FnScope N_reading ["word", "text", "number"] (defScope s_reading) := ⟨rfl, rfl, rfl, by decide +kernel, rfl, by decide +kernel, by decide +kernel⟩
  fn_body T.u_reading sc ms_reading false rfl fun cdv A outer s H E hr =>
    (pdb_cons (pds_do (pd_call (ok_check_pair T) (hr.mono (by decide)) T.m_check_pair T.u_check_pair.kp T.b_check_pair (pdr_val (pd_var 0) (pdr_val (pd_var 1) pdr_nil))))
      (pdb_cons (pds_do (pd_call (ok_check_number T) (hr.mono (by decide)) T.m_check_number T.u_check_number.kp T.b_check_number (pdr_val (pd_var 2) (pdr_val pd_int (pdr_val (pd_op op_subD.d (pd_call (ok_count_of T) (hr.mono (by decide)) T.m_count_of T.u_count_of.kp T.b_count_of (pdr_val (pd_var 0) (pdr_val (pd_var 1) pdr_nil))) pd_int) pdr_nil)))))
      (pdb_cons (pds_par3N 3 4 5 (pdn_val (pd_call (ok_endings_behind T) (hr.mono (by decide)) T.m_endings_behind T.u_endings_behind.kp T.b_endings_behind (pdr_val (pd_var 0) (pdr_val (pd_var 1) pdr_nil))) (pdn_new (pf_lst pda_nil) (pdn_val pd_int pdn_nil))) sc.nd)
      (pdb_cons (pds_for (vs := [6, 7]) (pdi_enum T.n_enumerate (pd_var 0)) (pdg_tup (pdgs_cons 6 (pdgs_cons 7 pdgs_nil sc.nd) sc.nd) rfl) (pdb_cons (pds_while 100000 (PDW.pdt (pdw_or (pdt_cmp (op_neq hr).d (pd_ix (pd_var 1) (pd_var 5)) (pd_var 7) (nomark _)) (pdw_or1 (pdt_cmp op_geD.d (pd_var 2) (pd_ix (pd_ix (pd_var 3) (pd_op op_addD (pd_var 5) pd_int)) (pd_op op_addD (pd_var 6) pd_int)) (nomark _))))) (pdb_cons (pds_set 2 (pd_op op_subD.d (pd_var 2) (pd_if (pdt_cmp (op_eqq hr).d (pd_ix (pd_var 1) (pd_var 5)) (pd_var 7) (nomark _)) (pd_ix (pd_ix (pd_var 3) (pd_op op_addD (pd_var 5) pd_int)) (pd_op op_addD (pd_var 6) pd_int)) pd_int)) sc.nd)
      (pdb_one (pds_set 5 (pd_op op_addD (pd_var 5) pd_int) sc.nd))))
      (pdb_cons (pds_append (pv 4) (pd_var 5))
      (pdb_one (pds_set 5 (pd_op op_addD (pd_var 5) pd_int) sc.nd)))))
      (pdb_one (pds_ret (pd_tuple (pd_var 4) T.n_tuple)))))))
set_option maxHeartbeats 4000000 in
theorem ok_spells (T : Names K mg) : FnOk P w K mg base CX0 2 T.a_spells T.d_spells ["word", "text", "value"] (spF K ms_spells false F_spells) :=
  have sc : FnScope N_spells ["word", "text", "value"] (defScope s_spells) := ⟨rfl, rfl, rfl, by decide +kernel, rfl, by decide +kernel, by decide +kernel⟩
  fn_body T.u_spells sc ms_spells false rfl fun cdv A outer s H E hr =>
    (pdb_cons (pds_if (PDW.pdt (pdw_or (pdt_not (pdt_val (pd_callB call_isiD T.n_isinstance (pda_cons (pd_var 2) (pda_cons (pd_ty "tuple" T.n_tuple) pda_nil))))) (pdw_or1 (pdt_cmp (op_neq hr).d (pd_callB call_lenD T.n_len (pda_cons (pd_var 2) pda_nil)) (pd_callB call_lenD T.n_len (pda_cons (pd_var 0) pda_nil)) (nomark _))))) (pdb_one (pds_ret pd_bl)) pdb_nil)
      (pdb_cons (pds_set 3 (pd_neg pd_int) sc.nd)
      (pdb_cons (pds_for (vs := [4, 5]) (pdi_zipS T.n_zip (pda_cons (pd_var 2) (pda_cons (pd_var 0) pda_nil))) (pdg_tup (pdgs_cons 4 (pdgs_cons 5 pdgs_nil sc.nd) sc.nd) rfl) (pdb_cons (pds_if (PDW.pdt (pdw_or (pdt_not (pdt_val (pd_call (ok_is_whole T) (hr.mono (by decide)) T.m_is_whole T.u_is_whole.kp T.b_is_whole (pdr_val (pd_var 4) pdr_nil)))) (pdw_or (pdt_not (pdt_chain op_ltD op_ltD (pd_var 3) (pd_var 4) (pd_callB call_lenD T.n_len (pda_cons (pd_var 1) pda_nil)))) (pdw_or1 (pdt_cmp (op_neq hr).d (pd_ix (pd_var 1) (pd_var 4)) (pd_var 5) (nomark _)))))) (pdb_one (pds_ret pd_bl)) pdb_nil)
      (pdb_one (pds_set 3 (pd_var 4) sc.nd))))
      (pdb_one (pds_ret pd_bl)))))
set_option maxHeartbeats 4000000 in
theorem ok_is_reading (T : Names K mg) : FnOk P w K mg base CX0 5 T.a_is_reading T.d_is_reading ["word", "text", "value"] (spF K ms_is_reading false F_is_reading) :=
  have sc : FnScope N_is_reading ["word", "text", "value"] (defScope s_is_reading) := ⟨rfl, rfl, rfl, by decide +kernel, rfl, by decide +kernel, by decide +kernel⟩
  fn_body T.u_is_reading sc ms_is_reading false rfl fun cdv A outer s H E hr =>
    (pdb_cons (pds_do (pd_call (ok_check_pair T) (hr.mono (by decide)) T.m_check_pair T.u_check_pair.kp T.b_check_pair (pdr_val (pd_var 0) (pdr_val (pd_var 1) pdr_nil))))
      (pdb_one (pds_ret (pd_call (ok_spells T) (hr.mono (by decide)) T.m_spells T.u_spells.kp T.b_spells (pdr_val (pd_var 0) (pdr_val (pd_var 1) (pdr_val (pd_var 2) pdr_nil)))))))
set_option maxHeartbeats 4000000 in
theorem ok_reading_number (T : Names K mg) : FnOk P w K mg base CX0 5 T.a_reading_number T.d_reading_number ["word", "text", "places"] (spF K ms_reading_number false F_reading_number) :=
  have sc : FnScope N_reading_number ["word", "text", "places"] (defScope s_reading_number) := ⟨rfl, rfl, rfl, by decide +kernel, rfl, by decide +kernel, by decide +kernel⟩
  fn_body T.u_reading_number sc ms_reading_number false rfl fun cdv A outer s H E hr =>
    (pdb_cons (pds_do (pd_call (ok_check_pair T) (hr.mono (by decide)) T.m_check_pair T.u_check_pair.kp T.b_check_pair (pdr_val (pd_var 0) (pdr_val (pd_var 1) pdr_nil))))
      (pdb_cons (pds_if (pdt_not (pdt_val (pd_call (ok_spells T) (hr.mono (by decide)) T.m_spells T.u_spells.kp T.b_spells (pdr_val (pd_var 0) (pdr_val (pd_var 1) (pdr_val (pd_var 2) pdr_nil)))))) (pdb_one pds_never) pdb_nil)
      (pdb_cons (pds_asg (vs := [3, 4, 5]) (pd_tup (pda_cons (pd_call (ok_endings_behind T) (hr.mono (by decide)) T.m_endings_behind T.u_endings_behind.kp T.b_endings_behind (pdr_val (pd_var 0) (pdr_val (pd_var 1) pdr_nil))) (pda_cons pd_int (pda_cons pd_int pda_nil)))) (pdg_tup (pdgs_cons 3 (pdgs_cons 4 (pdgs_cons 5 pdgs_nil sc.nd) sc.nd) sc.nd) rfl))
      (pdb_cons (pds_for (vs := [6, 7]) (pdi_enum T.n_enumerate (pd_var 2)) (pdg_tup (pdgs_cons 6 (pdgs_cons 7 pdgs_nil sc.nd) sc.nd) rfl) (pdb_cons (pds_set 4 (pd_op op_addD (pd_var 4) (pd_callB (call_sumD rfl) T.n_sum (pda_cons (pf_lc [("here", 8)] sc.nd (pdi_range2 T.n_range (pda_cons (pd_var 5) (pda_cons (pd_var 7) pda_nil))) (blkOk_by (own := [("here", 8)]) (N := N_reading_number) (sc := defScope s_reading_number) (by decide +kernel)) (fun _ _ _ _ _ => (pdg_name 8 sc.nd)) (fun _ _ _ _ _ => (pdts_one (pdt_cmp (op_eqq hr).d (pd_ix (pd_var 1) (pd_var 8)) (pd_ix (pd_var 0) (pd_var 6)) (nomark _)))) (fun _ _ _ _ _ => (pd_ix (pd_ix (pd_var 3) (pd_op op_addD (pd_var 8) pd_int)) (pd_op op_addD (pd_var 6) pd_int)))).pd pda_nil))) sc.nd)
      (pdb_one (pds_set 5 (pd_op op_addD (pd_var 7) pd_int) sc.nd))))
      (pdb_one (pds_ret (pd_var 4)))))))
set_option maxHeartbeats 4000000 in
theorem ok_l_numbers_right (T : Names K mg) : FnOk P w K mg base CX0 6 T.a_l_numbers_right T.d_l_numbers_right ["_law_generator_here", "_law_word", "_law_text_here"] (spF K ms_l_numbers_right false F_l_numbers_right) :=
  have sc : FnScope N_l_numbers_right ["_law_generator_here", "_law_word", "_law_text_here"] (defScope s_l_numbers_right) := ⟨rfl, rfl, rfl, by decide +kernel, rfl, by decide +kernel, by decide +kernel⟩
  fn_body T.u_l_numbers_right sc ms_l_numbers_right false rfl fun cdv A outer s H E hr =>
    (pdb_cons (pds_set 3 (pd_call (ok_l_count T) (hr.mono (by decide)) T.m_l_count T.u_l_count.kp T.b_l_count (pdr_val (pd_var 1) (pdr_val (pd_var 2) pdr_nil))) sc.nd)
      (pdb_cons (pds_if (pdt_cmp (op_neq hr).d (pd_call (ok_count T) (hr.mono (by decide)) T.m_count T.u_count.kp T.b_count (pdr_val (pd_var 1) (pdr_val (pd_var 2) pdr_nil))) (pd_var 3) (nomark _)) (pdb_one (pds_ret pd_bl)) pdb_nil)
      (pdb_cons (pds_if (pdt_cmp (op_eqq hr).d (pd_var 3) pd_int (nomark _)) (pdb_one (pds_ret pd_bl)) pdb_nil)
      (pdb_cons (pds_for (vs := [4]) (pdi_any (pf_lst (pda_cons pd_int (pda_cons (pd_op op_subD.d (pd_var 3) pd_int) (pda_cons (pd_call (ok_l_random T) (hr.mono (by decide)) T.m_l_random T.u_l_random.kp T.b_l_random (pdr_lend 0 (pv 0) (pdr_val (pd_var 3) pdr_nil))) (pda_cons (pd_call (ok_l_random T) (hr.mono (by decide)) T.m_l_random T.u_l_random.kp T.b_l_random (pdr_lend 0 (pv 0) (pdr_val (pd_var 3) pdr_nil))) pda_nil))))).pd) (pdg_name 4 sc.nd) (pdb_cons (pds_set 5 (pd_call (ok_reading T) (hr.mono (by decide)) T.m_reading T.u_reading.kp T.b_reading (pdr_val (pd_var 1) (pdr_val (pd_var 2) (pdr_val (pd_var 4) pdr_nil)))) sc.nd)
      (pdb_cons (pds_if (PDW.pdt (pdw_or (pdt_cmp op_isntD.d (pd_call (ok_is_reading T) (hr.mono (by decide)) T.m_is_reading T.u_is_reading.kp T.b_is_reading (pdr_val (pd_var 1) (pdr_val (pd_var 2) (pdr_val (pd_var 5) pdr_nil)))) pd_bl (nomark _)) (pdw_or1 (pdt_cmp (op_neq hr).d (pd_call (ok_reading_number T) (hr.mono (by decide)) T.m_reading_number T.u_reading_number.kp T.b_reading_number (pdr_val (pd_var 1) (pdr_val (pd_var 2) (pdr_val (pd_var 5) pdr_nil)))) (pd_var 4) (nomark _))))) (pdb_one (pds_ret pd_bl)) pdb_nil)
      (pdb_cons (pds_if (PDW.pdt (pdw_and (pdt_cmp op_ltD.d (pd_op op_addD (pd_var 4) pd_int) (pd_var 3) (nomark _)) (pdw_and1 (pdt_not (pdt_cmp (opS_ltTI hr).d (pd_var 5) (pd_callK (ks := ["number", "text", "word"]) (ok_reading T) (hr.mono (by decide)) T.m_reading T.u_reading.kp (kbn_of T.u_reading [2, 1, 0] fun _ _ _ _ _ _ ws hl => match ws, hl with | [_, _, _], _ => rfl) (pdk_cons (pd_op op_addD (pd_var 4) pd_int) (pdk_cons (pd_var 2) (pdk_cons (pd_var 1) pdk_nil)))) (nomark _)))))) (pdb_one (pds_ret pd_bl)) pdb_nil)
      (pdb_one (pds_if (PDW.pdt (pdw_and (pdt_cmp op_ltD.d (pd_op op_addD (pd_var 4) pd_int) (pd_var 3) (nomark _)) (pdw_and1 (pdt_cmp (op_neq hr).d (pd_call (ok_reading_number T) (hr.mono (by decide)) T.m_reading_number T.u_reading_number.kp T.b_reading_number (pdr_val (pd_var 1) (pdr_val (pd_var 2) (pdr_val (pd_call (ok_reading T) (hr.mono (by decide)) T.m_reading T.u_reading.kp T.b_reading (pdr_val (pd_var 1) (pdr_val (pd_var 2) (pdr_val (pd_op op_addD (pd_var 4) pd_int) pdr_nil)))) pdr_nil)))) (pd_op op_addD (pd_var 4) pd_int) (nomark _))))) (pdb_one (pds_ret pd_bl)) pdb_nil))))))
      (pdb_cons (pds_set 6 (pd_call (ok_used T) (hr.mono (by decide)) T.m_used T.u_used.kp T.b_used (pdr_val (pd_var 1) (pdr_val (pd_var 2) pdr_nil))) sc.nd)
      (pdb_one (pds_ret (pd_and (pd_cmp (op_eqq hr).d (pd_callB call_lenD T.n_len (pda_cons (pd_var 6) pda_nil)) (pd_callB call_lenD T.n_len (pda_cons (pd_var 2) pda_nil)) (nomark _)) (pd_one (pd_cmp (op_eqq hr).d (pd_callTy call_intD T.n_int (pda_cons (pd_callB (call_sumD rfl) T.n_sum (pda_cons (pd_var 6) pda_nil)) pda_nil)) (pd_op op_mulD (pd_callB call_lenD T.n_len (pda_cons (pd_var 1) pda_nil)) (pd_var 3)) (nomark _)))))))))))
set_option maxHeartbeats 4000000 in
theorem ok_l_choices (T : Names K mg) : FnOk P w K mg base CX0 1 T.a_l_choices T.d_l_choices ["_law_size", "_law_many"] (spF K ms_l_choices false F_l_choices) :=
  have sc : FnScope N_l_choices ["_law_size", "_law_many"] (defScope s_l_choices) := ⟨rfl, rfl, rfl, by decide +kernel, rfl, by decide +kernel, by decide +kernel⟩
  fn_body T.u_l_choices sc ms_l_choices false rfl fun cdv A outer s H E hr =>
    (pdb_cons (pds_set 2 pd_int sc.nd)
      (pdb_cons (pds_for (vs := [3]) (pdi_range1 T.n_range (pda_cons (pd_var 1) pda_nil)) (pdg_name 3 sc.nd) (pdb_one (pds_set 2 (pd_op op_fdivD.d (pd_op op_mulD (pd_var 2) (pd_op op_subD.d (pd_var 0) (pd_var 3))) (pd_op op_addD (pd_var 3) pd_int)) sc.nd)))
      (pdb_one (pds_ret (pd_var 2)))))
set_option maxHeartbeats 4000000 in
theorem ok_l_alphabet (T : Names K mg) : FnOk P w K mg base CX0 3 T.a_l_alphabet T.d_l_alphabet ["_law_generator_here", "_law_least"] (spF K ms_l_alphabet false F_l_alphabet) :=
  have sc : FnScope N_l_alphabet ["_law_generator_here", "_law_least"] (defScope s_l_alphabet) := ⟨rfl, rfl, rfl, by decide +kernel, rfl, by decide +kernel, by decide +kernel⟩
  fn_body T.u_l_alphabet sc ms_l_alphabet false rfl fun cdv A outer s H E hr =>
    (pdb_cons (pds_set 2 (pd_op op_addD (pd_var 1) (pd_call (ok_l_random T) (hr.mono (by decide)) T.m_l_random T.u_l_random.kp T.b_l_random (pdr_lend 0 (pv 0) (pdr_val (pd_op op_subD.d pd_int (pd_var 1)) pdr_nil)))) sc.nd)
      (pdb_cons (pds_set 3 (pd_call (ok_l_random T) (hr.mono (by decide)) T.m_l_random T.u_l_random.kp T.b_l_random (pdr_lend 0 (pv 0) (pdr_val pd_int pdr_nil))) sc.nd)
      (pdb_cons (pds_set 4 (pd_str []) sc.nd)
      (pdb_cons (pds_for (vs := [5]) (pdi_range1 T.n_range (pda_cons (pd_var 2) pda_nil)) (pdg_name 5 sc.nd) (pdb_cons (pds_set 3 (pd_op op_addD (pd_op op_addD (pd_var 3) pd_int) (pd_call (ok_l_random T) (hr.mono (by decide)) T.m_l_random T.u_l_random.kp T.b_l_random (pdr_lend 0 (pv 0) (pdr_val pd_int pdr_nil)))) sc.nd)
      (pdb_one (pds_set 4 (pd_op op_addD (pd_var 4) (pd_ix (pd_str [97, 98, 99, 100, 101, 102, 103, 104, 105, 106, 107, 108, 109, 110, 111, 112, 113, 114, 115, 116, 117, 118, 119, 120, 121, 122]) (pd_var 3))) sc.nd))))
      (pdb_one (pds_ret (pd_var 4)))))))
set_option maxHeartbeats 4000000 in
theorem ok_l_text (T : Names K mg) : FnOk P w K mg base CX0 3 T.a_l_text T.d_l_text ["_law_generator_here", "_law_letters", "_law_size"] (spF K ms_l_text false F_l_text) :=
  have sc : FnScope N_l_text ["_law_generator_here", "_law_letters", "_law_size"] (defScope s_l_text) := ⟨rfl, rfl, rfl, by decide +kernel, rfl, by decide +kernel, by decide +kernel⟩
  fn_body T.u_l_text sc ms_l_text false rfl fun cdv A outer s H E hr =>
    (pdb_one (pds_ret (pd_methS meth_join PySem.F.slot_str_join PySem.F.type_str_join (pd_str []) (pda_cons (pf_lc [("_law_turn", 3)] sc.nd (pdi_range1 T.n_range (pda_cons (pd_var 2) pda_nil)) (blkOk_by (own := [("_law_turn", 3)]) (N := N_l_text) (sc := defScope s_l_text) (by decide +kernel)) (fun _ _ _ _ _ => (pdg_name 3 sc.nd)) (fun _ _ _ _ _ => pdts_nil) (fun _ _ _ _ _ => (pd_ix (pd_var 1) (pd_call (ok_l_random T) (hr.mono (by decide)) T.m_l_random T.u_l_random.kp T.b_l_random (pdr_lend 0 (pv 0) (pdr_val (pd_callB call_lenD T.n_len (pda_cons (pd_var 1) pda_nil)) pdr_nil)))))).pd pda_nil))))
set_option maxHeartbeats 4000000 in
theorem ok_l_drawn_right (T : Names K mg) : FnOk P w K mg base CX0 7 T.a_l_drawn_right T.d_l_drawn_right ["_law_generator_here"] (spF K ms_l_drawn_right false F_l_drawn_right) :=
  have sc : FnScope N_l_drawn_right ["_law_generator_here"] (defScope s_l_drawn_right) := ⟨rfl, rfl, rfl, by decide +kernel, rfl, by decide +kernel, by decide +kernel⟩
  fn_body T.u_l_drawn_right sc ms_l_drawn_right false rfl fun cdv A outer s H E hr =>
    (pdb_cons (pds_set 1 (pd_call (ok_l_alphabet T) (hr.mono (by decide)) T.m_l_alphabet T.u_l_alphabet.kp T.b_l_alphabet (pdr_lend 0 (pv 0) (pdr_val pd_int pdr_nil))) sc.nd)
      (pdb_cons (pds_set 2 (pd_call (ok_l_text T) (hr.mono (by decide)) T.m_l_text T.u_l_text.kp T.b_l_text (pdr_lend 0 (pv 0) (pdr_val (pd_var 1) (pdr_val (pd_op op_addD pd_int (pd_call (ok_l_random T) (hr.mono (by decide)) T.m_l_random T.u_l_random.kp T.b_l_random (pdr_lend 0 (pv 0) (pdr_val pd_int pdr_nil)))) pdr_nil)))) sc.nd)
      (pdb_cons (pds_set 3 (pf_lst (pda_cons (pd_call (ok_l_text T) (hr.mono (by decide)) T.m_l_text T.u_l_text.kp T.b_l_text (pdr_lend 0 (pv 0) (pdr_val (pd_var 1) (pdr_val (pd_op op_addD pd_int (pd_call (ok_l_random T) (hr.mono (by decide)) T.m_l_random T.u_l_random.kp T.b_l_random (pdr_lend 0 (pv 0) (pdr_val pd_int pdr_nil)))) pdr_nil)))) (pda_cons (pd_slice (pd_op op_mulD (pd_var 2) pd_int) pdo_none (pdo_some pd_int)) (pda_cons (pd_op op_mulD (pd_var 2) pd_int) pda_nil)))).pd sc.nd)
      (pdb_cons (pds_for (vs := [4]) (pdi_any (pd_var 3)) (pdg_name 4 sc.nd) (pdb_cons (pds_set 5 (pd_call (ok_l_text T) (hr.mono (by decide)) T.m_l_text T.u_l_text.kp T.b_l_text (pdr_lend 0 (pv 0) (pdr_val (pd_var 1) (pdr_val (pd_op op_addD pd_int (pd_call (ok_l_random T) (hr.mono (by decide)) T.m_l_random T.u_l_random.kp T.b_l_random (pdr_lend 0 (pv 0) (pdr_val pd_int pdr_nil)))) pdr_nil)))) sc.nd)
      (pdb_one (pds_if (pdt_not (pdt_val (pd_call (ok_l_numbers_right T) (hr.mono (by decide)) T.m_l_numbers_right T.u_l_numbers_right.kp T.b_l_numbers_right (pdr_lend 0 (pv 0) (pdr_val (pd_var 5) (pdr_val (pd_var 4) pdr_nil)))))) (pdb_one (pds_ret pd_bl)) pdb_nil))))
      (pdb_cons (pds_asg (vs := [6, 7, 8, 9]) (pd_tup (pda_cons (pd_call (ok_l_random T) (hr.mono (by decide)) T.m_l_random T.u_l_random.kp T.b_l_random (pdr_lend 0 (pv 0) (pdr_val pd_int pdr_nil))) (pda_cons (pd_call (ok_l_random T) (hr.mono (by decide)) T.m_l_random T.u_l_random.kp T.b_l_random (pdr_lend 0 (pv 0) (pdr_val pd_int pdr_nil))) (pda_cons (pd_ix (pd_var 1) pd_int) (pda_cons (pd_ix (pd_var 1) pd_int) pda_nil))))) (pdg_tup (pdgs_cons 6 (pdgs_cons 7 (pdgs_cons 8 (pdgs_cons 9 pdgs_nil sc.nd) sc.nd) sc.nd) sc.nd) rfl))
      (pdb_cons (pds_par 10 11 (pda_cons (pd_call (ok_l_random T) (hr.mono (by decide)) T.m_l_random T.u_l_random.kp T.b_l_random (pdr_lend 0 (pv 0) (pdr_val pd_int pdr_nil))) (pda_cons (pd_call (ok_l_random T) (hr.mono (by decide)) T.m_l_random T.u_l_random.kp T.b_l_random (pdr_lend 0 (pv 0) (pdr_val pd_int pdr_nil))) pda_nil)) sc.nd)
      (pdb_cons (pds_set 12 (pd_op op_mulD (pd_call (ok_l_choices T) (hr.mono (by decide)) T.m_l_choices T.u_l_choices.kp T.b_l_choices (pdr_val (pd_var 6) (pdr_val (pd_var 10) pdr_nil))) (pd_call (ok_l_choices T) (hr.mono (by decide)) T.m_l_choices T.u_l_choices.kp T.b_l_choices (pdr_val (pd_var 7) (pdr_val (pd_var 11) pdr_nil)))) sc.nd)
      (pdb_one (pds_ret (pd_cmp (op_eqq hr).d (pd_call (ok_count T) (hr.mono (by decide)) T.m_count T.u_count.kp T.b_count (pdr_val (pd_op op_addD (pd_op op_mulD (pd_var 8) (pd_var 10)) (pd_op op_mulD (pd_var 9) (pd_var 11))) (pdr_val (pd_op op_addD (pd_op op_mulD (pd_var 8) (pd_var 6)) (pd_op op_mulD (pd_var 9) (pd_var 7))) pdr_nil))) (pd_var 12) (nomark _)))))))))))
set_option maxHeartbeats 4000000 in
theorem ok_law (T : Names K mg) : FnOk P w K mg base CX0 8 T.a_law T.d_law ["_law_script"] (spF K ms_law false F_law) :=
  have sc : FnScope N_law ["_law_script"] (defScope s_law) := ⟨rfl, rfl, rfl, by decide +kernel, rfl, by decide +kernel, by decide +kernel⟩
  fn_body T.u_law sc ms_law false rfl fun cdv A outer s H E hr =>
    (pdb_cons (pds_for (vs := [1]) (pdi_range1 T.n_range (pda_cons pd_int pda_nil)) (pdg_name 1 sc.nd) (pdb_one (pds_if (pdt_not (pdt_val (pd_call (ok_l_drawn_right T) (hr.mono (by decide)) T.m_l_drawn_right T.u_l_drawn_right.kp T.b_l_drawn_right (pdr_new (pf_call (ok_l_generator T) (hr.mono (by decide)) T.m_l_generator T.u_l_generator.kp T.b_l_generator (pdr_val (pd_var 0) (pdr_val (pd_var 1) pdr_nil))) pdr_nil)))) (pdb_one (pds_ret pd_bl)) pdb_nil)))
      (pdb_cons (pds_own 2 (pf_call (ok_l_generator T) (hr.mono (by decide)) T.m_l_generator T.u_l_generator.kp T.b_l_generator (pdr_val (pd_var 0) (pdr_val pd_int pdr_nil))) sc.nd)
      (pdb_cons (pds_par 3 4 (pda_cons (pd_op op_addD pd_int (pd_call (ok_l_random T) (hr.mono (by decide)) T.m_l_random T.u_l_random.kp T.b_l_random (pdr_lend 2 (pv 2) (pdr_val pd_int pdr_nil)))) (pda_cons (pd_call (ok_l_random T) (hr.mono (by decide)) T.m_l_random T.u_l_random.kp T.b_l_random (pdr_lend 2 (pv 2) (pdr_val pd_int pdr_nil))) pda_nil)) sc.nd)
      (pdb_cons (pds_if (pdt_cmp (op_neq hr).d (pd_call (ok_count T) (hr.mono (by decide)) T.m_count T.u_count.kp T.b_count (pdr_val (pd_op op_mulD (pd_str [113]) (pd_var 4)) (pdr_val (pd_op op_mulD (pd_str [113]) (pd_var 3)) pdr_nil))) (pd_call (ok_l_choices T) (hr.mono (by decide)) T.m_l_choices T.u_l_choices.kp T.b_l_choices (pdr_val (pd_var 3) (pdr_val (pd_var 4) pdr_nil))) (nomark _)) (pdb_one (pds_ret pd_bl)) pdb_nil)
      (pdb_one (pds_ret (pd_call (ok_l_numbers_right T) (hr.mono (by decide)) T.m_l_numbers_right T.u_l_numbers_right.kp T.b_l_numbers_right (pdr_lend 2 (pv 2) (pdr_val (pd_op op_mulD (pd_str [113]) pd_int) (pdr_val (pd_op op_mulD (pd_str [113]) pd_int) pdr_nil))))))))))
end
theorem wp_l_cell {x0 x1 : D} {P : D → List D → Prop} (h : Ws b_l_cell [.val x0, .val x1] (Fi ms_l_cell P)) : Ret (F_l_cell [x0, x1]) P := fn_w rfl rfl h
theorem run_l_cell {x0 x1 : D} {r : D} {e : Lvs} {bs : List D} (h : b_l_cell [.val x0, .val x1] = some (.rt r, e)) (hk : backs ms_l_cell e = some bs) : F_l_cell [x0, x1] = some (r, bs) := ev_run rfl rfl h hk
theorem runN_l_cell {x0 x1 : D} {e : Lvs} {bs : List D} (h : b_l_cell [.val x0, .val x1] = some (.nx, e)) (hk : backs ms_l_cell e = some bs) : F_l_cell [x0, x1] = some (.non, bs) := ev_runN rfl rfl h hk
theorem wp_l_generator {x0 x1 : D} {P : D → List D → Prop} (h : Ws b_l_generator [.val x0, .val x1, .no] (FiF ms_l_generator P)) : Ret (F_l_generator [x0, x1]) P := fn_wF rfl rfl h
theorem run_l_generator {x0 x1 : D} {r : D} {e : Lvs} {bs : List D} (h : b_l_generator [.val x0, .val x1, .no] = some (.rn r, e)) (hk : backs ms_l_generator e = some bs) : F_l_generator [x0, x1] = some (r, bs) := ev_runF rfl rfl h hk
theorem wp_l_count {x0 x1 : D} {P : D → List D → Prop} (h : Ws b_l_count [.val x0, .val x1, .no, .no, .no] (Fi ms_l_count P)) : Ret (F_l_count [x0, x1]) P := fn_w rfl rfl h
theorem run_l_count {x0 x1 : D} {r : D} {e : Lvs} {bs : List D} (h : b_l_count [.val x0, .val x1, .no, .no, .no] = some (.rt r, e)) (hk : backs ms_l_count e = some bs) : F_l_count [x0, x1] = some (r, bs) := ev_run rfl rfl h hk
theorem runN_l_count {x0 x1 : D} {e : Lvs} {bs : List D} (h : b_l_count [.val x0, .val x1, .no, .no, .no] = some (.nx, e)) (hk : backs ms_l_count e = some bs) : F_l_count [x0, x1] = some (.non, bs) := ev_runN rfl rfl h hk
theorem wp_is_string_of {x0 x1 : D} {P : D → List D → Prop} (h : Ws b_is_string_of [.val x0, .val x1] (Fi ms_is_string_of P)) : Ret (F_is_string_of [x0, x1]) P := fn_w rfl rfl h
theorem run_is_string_of {x0 x1 : D} {r : D} {e : Lvs} {bs : List D} (h : b_is_string_of [.val x0, .val x1] = some (.rt r, e)) (hk : backs ms_is_string_of e = some bs) : F_is_string_of [x0, x1] = some (r, bs) := ev_run rfl rfl h hk
theorem runN_is_string_of {x0 x1 : D} {e : Lvs} {bs : List D} (h : b_is_string_of [.val x0, .val x1] = some (.nx, e)) (hk : backs ms_is_string_of e = some bs) : F_is_string_of [x0, x1] = some (.non, bs) := ev_runN rfl rfl h hk
theorem wp_is_letters_alone {x0 : D} {P : D → List D → Prop} (h : Ws b_is_letters_alone [.val x0] (Fi ms_is_letters_alone P)) : Ret (F_is_letters_alone [x0]) P := fn_w rfl rfl h
theorem run_is_letters_alone {x0 : D} {r : D} {e : Lvs} {bs : List D} (h : b_is_letters_alone [.val x0] = some (.rt r, e)) (hk : backs ms_is_letters_alone e = some bs) : F_is_letters_alone [x0] = some (r, bs) := ev_run rfl rfl h hk
theorem runN_is_letters_alone {x0 : D} {e : Lvs} {bs : List D} (h : b_is_letters_alone [.val x0] = some (.nx, e)) (hk : backs ms_is_letters_alone e = some bs) : F_is_letters_alone [x0] = some (.non, bs) := ev_runN rfl rfl h hk
theorem wp_check_word {x0 : D} {P : D → List D → Prop} (h : Ws b_check_word [.val x0] (Fi ms_check_word P)) : Ret (F_check_word [x0]) P := fn_w rfl rfl h
theorem run_check_word {x0 : D} {r : D} {e : Lvs} {bs : List D} (h : b_check_word [.val x0] = some (.rt r, e)) (hk : backs ms_check_word e = some bs) : F_check_word [x0] = some (r, bs) := ev_run rfl rfl h hk
theorem runN_check_word {x0 : D} {e : Lvs} {bs : List D} (h : b_check_word [.val x0] = some (.nx, e)) (hk : backs ms_check_word e = some bs) : F_check_word [x0] = some (.non, bs) := ev_runN rfl rfl h hk
theorem wp_check_text {x0 : D} {P : D → List D → Prop} (h : Ws b_check_text [.val x0] (Fi ms_check_text P)) : Ret (F_check_text [x0]) P := fn_w rfl rfl h
theorem run_check_text {x0 : D} {r : D} {e : Lvs} {bs : List D} (h : b_check_text [.val x0] = some (.rt r, e)) (hk : backs ms_check_text e = some bs) : F_check_text [x0] = some (r, bs) := ev_run rfl rfl h hk
theorem runN_check_text {x0 : D} {e : Lvs} {bs : List D} (h : b_check_text [.val x0] = some (.nx, e)) (hk : backs ms_check_text e = some bs) : F_check_text [x0] = some (.non, bs) := ev_runN rfl rfl h hk
theorem wp_check_pair {x0 x1 : D} {P : D → List D → Prop} (h : Ws b_check_pair [.val x0, .val x1] (Fi ms_check_pair P)) : Ret (F_check_pair [x0, x1]) P := fn_w rfl rfl h
theorem run_check_pair {x0 x1 : D} {r : D} {e : Lvs} {bs : List D} (h : b_check_pair [.val x0, .val x1] = some (.rt r, e)) (hk : backs ms_check_pair e = some bs) : F_check_pair [x0, x1] = some (r, bs) := ev_run rfl rfl h hk
theorem runN_check_pair {x0 x1 : D} {e : Lvs} {bs : List D} (h : b_check_pair [.val x0, .val x1] = some (.nx, e)) (hk : backs ms_check_pair e = some bs) : F_check_pair [x0, x1] = some (.non, bs) := ev_runN rfl rfl h hk
theorem wp_endings_behind {x0 x1 : D} {P : D → List D → Prop} (h : Ws b_endings_behind [.val x0, .val x1, .no, .no, .no, .no] (Fi ms_endings_behind P)) : Ret (F_endings_behind [x0, x1]) P := fn_w rfl rfl h
theorem run_endings_behind {x0 x1 : D} {r : D} {e : Lvs} {bs : List D} (h : b_endings_behind [.val x0, .val x1, .no, .no, .no, .no] = some (.rt r, e)) (hk : backs ms_endings_behind e = some bs) : F_endings_behind [x0, x1] = some (r, bs) := ev_run rfl rfl h hk
theorem runN_endings_behind {x0 x1 : D} {e : Lvs} {bs : List D} (h : b_endings_behind [.val x0, .val x1, .no, .no, .no, .no] = some (.nx, e)) (hk : backs ms_endings_behind e = some bs) : F_endings_behind [x0, x1] = some (.non, bs) := ev_runN rfl rfl h hk
theorem wp_used {x0 x1 : D} {P : D → List D → Prop} (h : Ws b_used [.val x0, .val x1, .no, .no, .no, .no, .no, .no, .no] (Fi ms_used P)) : Ret (F_used [x0, x1]) P := fn_w rfl rfl h
theorem run_used {x0 x1 : D} {r : D} {e : Lvs} {bs : List D} (h : b_used [.val x0, .val x1, .no, .no, .no, .no, .no, .no, .no] = some (.rt r, e)) (hk : backs ms_used e = some bs) : F_used [x0, x1] = some (r, bs) := ev_run rfl rfl h hk
theorem runN_used {x0 x1 : D} {e : Lvs} {bs : List D} (h : b_used [.val x0, .val x1, .no, .no, .no, .no, .no, .no, .no] = some (.nx, e)) (hk : backs ms_used e = some bs) : F_used [x0, x1] = some (.non, bs) := ev_runN rfl rfl h hk
theorem wp_beginnings {x0 x1 : D} {P : D → List D → Prop} (h : Ws b_beginnings [.val x0, .val x1, .no, .no, .no] (Fi ms_beginnings P)) : Ret (F_beginnings [x0, x1]) P := fn_w rfl rfl h
theorem run_beginnings {x0 x1 : D} {r : D} {e : Lvs} {bs : List D} (h : b_beginnings [.val x0, .val x1, .no, .no, .no] = some (.rt r, e)) (hk : backs ms_beginnings e = some bs) : F_beginnings [x0, x1] = some (r, bs) := ev_run rfl rfl h hk
theorem runN_beginnings {x0 x1 : D} {e : Lvs} {bs : List D} (h : b_beginnings [.val x0, .val x1, .no, .no, .no] = some (.nx, e)) (hk : backs ms_beginnings e = some bs) : F_beginnings [x0, x1] = some (.non, bs) := ev_runN rfl rfl h hk
theorem wp_count_of {x0 x1 : D} {P : D → List D → Prop} (h : Ws b_count_of [.val x0, .val x1] (Fi ms_count_of P)) : Ret (F_count_of [x0, x1]) P := fn_w rfl rfl h
theorem run_count_of {x0 x1 : D} {r : D} {e : Lvs} {bs : List D} (h : b_count_of [.val x0, .val x1] = some (.rt r, e)) (hk : backs ms_count_of e = some bs) : F_count_of [x0, x1] = some (r, bs) := ev_run rfl rfl h hk
theorem runN_count_of {x0 x1 : D} {e : Lvs} {bs : List D} (h : b_count_of [.val x0, .val x1] = some (.nx, e)) (hk : backs ms_count_of e = some bs) : F_count_of [x0, x1] = some (.non, bs) := ev_runN rfl rfl h hk
theorem wp_count {x0 x1 : D} {P : D → List D → Prop} (h : Ws b_count [.val x0, .val x1] (Fi ms_count P)) : Ret (F_count [x0, x1]) P := fn_w rfl rfl h
theorem run_count {x0 x1 : D} {r : D} {e : Lvs} {bs : List D} (h : b_count [.val x0, .val x1] = some (.rt r, e)) (hk : backs ms_count e = some bs) : F_count [x0, x1] = some (r, bs) := ev_run rfl rfl h hk
theorem runN_count {x0 x1 : D} {e : Lvs} {bs : List D} (h : b_count [.val x0, .val x1] = some (.nx, e)) (hk : backs ms_count e = some bs) : F_count [x0, x1] = some (.non, bs) := ev_runN rfl rfl h hk
theorem wp_l_hash {x0 x1 : D} {P : D → List D → Prop} (h : Ws b_l_hash [.val x0, .val x1, .no] (Fi ms_l_hash P)) : Ret (F_l_hash [x0, x1]) P := fn_w rfl rfl h
theorem run_l_hash {x0 x1 : D} {r : D} {e : Lvs} {bs : List D} (h : b_l_hash [.val x0, .val x1, .no] = some (.rt r, e)) (hk : backs ms_l_hash e = some bs) : F_l_hash [x0, x1] = some (r, bs) := ev_run rfl rfl h hk
theorem runN_l_hash {x0 x1 : D} {e : Lvs} {bs : List D} (h : b_l_hash [.val x0, .val x1, .no] = some (.nx, e)) (hk : backs ms_l_hash e = some bs) : F_l_hash [x0, x1] = some (.non, bs) := ev_runN rfl rfl h hk
theorem wp_l_random {x0 x1 : D} {P : D → List D → Prop} (h : Ws b_l_random [.own true x0, .val x1, .no, .no] (Fi ms_l_random P)) : Ret (F_l_random [x0, x1]) P := fn_w rfl rfl h
theorem run_l_random {x0 x1 : D} {r : D} {e : Lvs} {bs : List D} (h : b_l_random [.own true x0, .val x1, .no, .no] = some (.rt r, e)) (hk : backs ms_l_random e = some bs) : F_l_random [x0, x1] = some (r, bs) := ev_run rfl rfl h hk
theorem runN_l_random {x0 x1 : D} {e : Lvs} {bs : List D} (h : b_l_random [.own true x0, .val x1, .no, .no] = some (.nx, e)) (hk : backs ms_l_random e = some bs) : F_l_random [x0, x1] = some (.non, bs) := ev_runN rfl rfl h hk
theorem wp_is_whole {x0 : D} {P : D → List D → Prop} (h : Ws b_is_whole [.val x0] (Fi ms_is_whole P)) : Ret (F_is_whole [x0]) P := fn_w rfl rfl h
theorem run_is_whole {x0 : D} {r : D} {e : Lvs} {bs : List D} (h : b_is_whole [.val x0] = some (.rt r, e)) (hk : backs ms_is_whole e = some bs) : F_is_whole [x0] = some (r, bs) := ev_run rfl rfl h hk
theorem runN_is_whole {x0 : D} {e : Lvs} {bs : List D} (h : b_is_whole [.val x0] = some (.nx, e)) (hk : backs ms_is_whole e = some bs) : F_is_whole [x0] = some (.non, bs) := ev_runN rfl rfl h hk
theorem wp_is_between {x0 x1 x2 : D} {P : D → List D → Prop} (h : Ws b_is_between [.val x0, .val x1, .val x2] (Fi ms_is_between P)) : Ret (F_is_between [x0, x1, x2]) P := fn_w rfl rfl h
theorem run_is_between {x0 x1 x2 : D} {r : D} {e : Lvs} {bs : List D} (h : b_is_between [.val x0, .val x1, .val x2] = some (.rt r, e)) (hk : backs ms_is_between e = some bs) : F_is_between [x0, x1, x2] = some (r, bs) := ev_run rfl rfl h hk
theorem runN_is_between {x0 x1 x2 : D} {e : Lvs} {bs : List D} (h : b_is_between [.val x0, .val x1, .val x2] = some (.nx, e)) (hk : backs ms_is_between e = some bs) : F_is_between [x0, x1, x2] = some (.non, bs) := ev_runN rfl rfl h hk
theorem wp_check_number {x0 x1 x2 : D} {P : D → List D → Prop} (h : Ws b_check_number [.val x0, .val x1, .val x2] (Fi ms_check_number P)) : Ret (F_check_number [x0, x1, x2]) P := fn_w rfl rfl h
theorem run_check_number {x0 x1 x2 : D} {r : D} {e : Lvs} {bs : List D} (h : b_check_number [.val x0, .val x1, .val x2] = some (.rt r, e)) (hk : backs ms_check_number e = some bs) : F_check_number [x0, x1, x2] = some (r, bs) := ev_run rfl rfl h hk
theorem runN_check_number {x0 x1 x2 : D} {e : Lvs} {bs : List D} (h : b_check_number [.val x0, .val x1, .val x2] = some (.nx, e)) (hk : backs ms_check_number e = some bs) : F_check_number [x0, x1, x2] = some (.non, bs) := ev_runN rfl rfl h hk
theorem wp_reading {x0 x1 x2 : D} {P : D → List D → Prop} (h : Ws b_reading [.val x0, .val x1, .val x2, .no, .no, .no, .no, .no] (Fi ms_reading P)) : Ret (F_reading [x0, x1, x2]) P := fn_w rfl rfl h
theorem run_reading {x0 x1 x2 : D} {r : D} {e : Lvs} {bs : List D} (h : b_reading [.val x0, .val x1, .val x2, .no, .no, .no, .no, .no] = some (.rt r, e)) (hk : backs ms_reading e = some bs) : F_reading [x0, x1, x2] = some (r, bs) := ev_run rfl rfl h hk
theorem runN_reading {x0 x1 x2 : D} {e : Lvs} {bs : List D} (h : b_reading [.val x0, .val x1, .val x2, .no, .no, .no, .no, .no] = some (.nx, e)) (hk : backs ms_reading e = some bs) : F_reading [x0, x1, x2] = some (.non, bs) := ev_runN rfl rfl h hk
theorem wp_spells {x0 x1 x2 : D} {P : D → List D → Prop} (h : Ws b_spells [.val x0, .val x1, .val x2, .no, .no, .no] (Fi ms_spells P)) : Ret (F_spells [x0, x1, x2]) P := fn_w rfl rfl h
theorem run_spells {x0 x1 x2 : D} {r : D} {e : Lvs} {bs : List D} (h : b_spells [.val x0, .val x1, .val x2, .no, .no, .no] = some (.rt r, e)) (hk : backs ms_spells e = some bs) : F_spells [x0, x1, x2] = some (r, bs) := ev_run rfl rfl h hk
theorem runN_spells {x0 x1 x2 : D} {e : Lvs} {bs : List D} (h : b_spells [.val x0, .val x1, .val x2, .no, .no, .no] = some (.nx, e)) (hk : backs ms_spells e = some bs) : F_spells [x0, x1, x2] = some (.non, bs) := ev_runN rfl rfl h hk
theorem wp_is_reading {x0 x1 x2 : D} {P : D → List D → Prop} (h : Ws b_is_reading [.val x0, .val x1, .val x2] (Fi ms_is_reading P)) : Ret (F_is_reading [x0, x1, x2]) P := fn_w rfl rfl h
theorem run_is_reading {x0 x1 x2 : D} {r : D} {e : Lvs} {bs : List D} (h : b_is_reading [.val x0, .val x1, .val x2] = some (.rt r, e)) (hk : backs ms_is_reading e = some bs) : F_is_reading [x0, x1, x2] = some (r, bs) := ev_run rfl rfl h hk
theorem runN_is_reading {x0 x1 x2 : D} {e : Lvs} {bs : List D} (h : b_is_reading [.val x0, .val x1, .val x2] = some (.nx, e)) (hk : backs ms_is_reading e = some bs) : F_is_reading [x0, x1, x2] = some (.non, bs) := ev_runN rfl rfl h hk
theorem wp_reading_number {x0 x1 x2 : D} {P : D → List D → Prop} (h : Ws b_reading_number [.val x0, .val x1, .val x2, .no, .no, .no, .no, .no, .no] (Fi ms_reading_number P)) : Ret (F_reading_number [x0, x1, x2]) P := fn_w rfl rfl h
theorem run_reading_number {x0 x1 x2 : D} {r : D} {e : Lvs} {bs : List D} (h : b_reading_number [.val x0, .val x1, .val x2, .no, .no, .no, .no, .no, .no] = some (.rt r, e)) (hk : backs ms_reading_number e = some bs) : F_reading_number [x0, x1, x2] = some (r, bs) := ev_run rfl rfl h hk
theorem runN_reading_number {x0 x1 x2 : D} {e : Lvs} {bs : List D} (h : b_reading_number [.val x0, .val x1, .val x2, .no, .no, .no, .no, .no, .no] = some (.nx, e)) (hk : backs ms_reading_number e = some bs) : F_reading_number [x0, x1, x2] = some (.non, bs) := ev_runN rfl rfl h hk
theorem wp_l_numbers_right {x0 x1 x2 : D} {P : D → List D → Prop} (h : Ws b_l_numbers_right [.own true x0, .val x1, .val x2, .no, .no, .no, .no] (Fi ms_l_numbers_right P)) : Ret (F_l_numbers_right [x0, x1, x2]) P := fn_w rfl rfl h
theorem run_l_numbers_right {x0 x1 x2 : D} {r : D} {e : Lvs} {bs : List D} (h : b_l_numbers_right [.own true x0, .val x1, .val x2, .no, .no, .no, .no] = some (.rt r, e)) (hk : backs ms_l_numbers_right e = some bs) : F_l_numbers_right [x0, x1, x2] = some (r, bs) := ev_run rfl rfl h hk
theorem runN_l_numbers_right {x0 x1 x2 : D} {e : Lvs} {bs : List D} (h : b_l_numbers_right [.own true x0, .val x1, .val x2, .no, .no, .no, .no] = some (.nx, e)) (hk : backs ms_l_numbers_right e = some bs) : F_l_numbers_right [x0, x1, x2] = some (.non, bs) := ev_runN rfl rfl h hk
theorem wp_l_choices {x0 x1 : D} {P : D → List D → Prop} (h : Ws b_l_choices [.val x0, .val x1, .no, .no] (Fi ms_l_choices P)) : Ret (F_l_choices [x0, x1]) P := fn_w rfl rfl h
theorem run_l_choices {x0 x1 : D} {r : D} {e : Lvs} {bs : List D} (h : b_l_choices [.val x0, .val x1, .no, .no] = some (.rt r, e)) (hk : backs ms_l_choices e = some bs) : F_l_choices [x0, x1] = some (r, bs) := ev_run rfl rfl h hk
theorem runN_l_choices {x0 x1 : D} {e : Lvs} {bs : List D} (h : b_l_choices [.val x0, .val x1, .no, .no] = some (.nx, e)) (hk : backs ms_l_choices e = some bs) : F_l_choices [x0, x1] = some (.non, bs) := ev_runN rfl rfl h hk
theorem wp_l_alphabet {x0 x1 : D} {P : D → List D → Prop} (h : Ws b_l_alphabet [.own true x0, .val x1, .no, .no, .no, .no] (Fi ms_l_alphabet P)) : Ret (F_l_alphabet [x0, x1]) P := fn_w rfl rfl h
theorem run_l_alphabet {x0 x1 : D} {r : D} {e : Lvs} {bs : List D} (h : b_l_alphabet [.own true x0, .val x1, .no, .no, .no, .no] = some (.rt r, e)) (hk : backs ms_l_alphabet e = some bs) : F_l_alphabet [x0, x1] = some (r, bs) := ev_run rfl rfl h hk
theorem runN_l_alphabet {x0 x1 : D} {e : Lvs} {bs : List D} (h : b_l_alphabet [.own true x0, .val x1, .no, .no, .no, .no] = some (.nx, e)) (hk : backs ms_l_alphabet e = some bs) : F_l_alphabet [x0, x1] = some (.non, bs) := ev_runN rfl rfl h hk
theorem wp_l_text {x0 x1 x2 : D} {P : D → List D → Prop} (h : Ws b_l_text [.own true x0, .val x1, .val x2, .no] (Fi ms_l_text P)) : Ret (F_l_text [x0, x1, x2]) P := fn_w rfl rfl h
theorem run_l_text {x0 x1 x2 : D} {r : D} {e : Lvs} {bs : List D} (h : b_l_text [.own true x0, .val x1, .val x2, .no] = some (.rt r, e)) (hk : backs ms_l_text e = some bs) : F_l_text [x0, x1, x2] = some (r, bs) := ev_run rfl rfl h hk
theorem runN_l_text {x0 x1 x2 : D} {e : Lvs} {bs : List D} (h : b_l_text [.own true x0, .val x1, .val x2, .no] = some (.nx, e)) (hk : backs ms_l_text e = some bs) : F_l_text [x0, x1, x2] = some (.non, bs) := ev_runN rfl rfl h hk
theorem wp_l_drawn_right {x0 : D} {P : D → List D → Prop} (h : Ws b_l_drawn_right [.own true x0, .no, .no, .no, .no, .no, .no, .no, .no, .no, .no, .no, .no] (Fi ms_l_drawn_right P)) : Ret (F_l_drawn_right [x0]) P := fn_w rfl rfl h
theorem run_l_drawn_right {x0 : D} {r : D} {e : Lvs} {bs : List D} (h : b_l_drawn_right [.own true x0, .no, .no, .no, .no, .no, .no, .no, .no, .no, .no, .no, .no] = some (.rt r, e)) (hk : backs ms_l_drawn_right e = some bs) : F_l_drawn_right [x0] = some (r, bs) := ev_run rfl rfl h hk
theorem runN_l_drawn_right {x0 : D} {e : Lvs} {bs : List D} (h : b_l_drawn_right [.own true x0, .no, .no, .no, .no, .no, .no, .no, .no, .no, .no, .no, .no] = some (.nx, e)) (hk : backs ms_l_drawn_right e = some bs) : F_l_drawn_right [x0] = some (.non, bs) := ev_runN rfl rfl h hk
theorem wp_law {x0 : D} {P : D → List D → Prop} (h : Ws b_law [.val x0, .no, .no, .no, .no] (Fi ms_law P)) : Ret (F_law [x0]) P := fn_w rfl rfl h
theorem run_law {x0 : D} {r : D} {e : Lvs} {bs : List D} (h : b_law [.val x0, .no, .no, .no, .no] = some (.rt r, e)) (hk : backs ms_law e = some bs) : F_law [x0] = some (r, bs) := ev_run rfl rfl h hk
theorem runN_law {x0 : D} {e : Lvs} {bs : List D} (h : b_law [.val x0, .no, .no, .no, .no] = some (.nx, e)) (hk : backs ms_law e = some bs) : F_law [x0] = some (.non, bs) := ev_runN rfl rfl h hk
/-! ### running code -/
theorem ev_range1 {n : Int} (h : small62 n = true) : range1 [.int n] = some (rangeD 0 n.toNat) := if_pos h
theorem ev_range2 {m n : Int} (h : (small62 m && small62 n) = true) : range2 [.int m, .int n] = some (rangeD m (n - m).toNat) := if_pos h
theorem ev_range3 {m n : Int} (h : (small62 m && small62 n) = true) : range3 [.int m, .int n, .int (-1)] = some (rangeC m (-1) (m - n).toNat) := if_pos (by rw [Bool.and_assoc, h]; rfl)
theorem small62_of {n : Int} (h : -(2 ^ 62) ≤ n) (h2 : n < 2 ^ 62) : small62 n = true := by unfold small62; rw [decide_eq_true h, decide_eq_true h2]; rfl
theorem small63_of {n : Int} (h : -(2 ^ 63) ≤ n) (h2 : n < 2 ^ 63) : small63 n = true := by unfold small63; rw [decide_eq_true h, decide_eq_true h2]; rfl
theorem and_of {a b : Bool} (h : a = true) (h2 : b = true) : (a && b) = true := by rw [h, h2]; rfl
theorem ev_fi {mt : M Bool} {sa sb : MS} {e e1 : Lvs} {b : Bool} {q : Out × Lvs} (h : mt e = some (b, e1)) (hb : b = false) (h2 : sb e1 = some q) : sIf mt sa sb e = some q := ev_ifF (hb ▸ h) h2
theorem ev_ti {mt : M Bool} {sa sb : MS} {e e1 : Lvs} {b : Bool} {q : Out × Lvs} (h : mt e = some (b, e1)) (hb : b = true) (h2 : sa e1 = some q) : sIf mt sa sb e = some q := ev_ifT (hb ▸ h) h2
theorem log2_of {x a : Nat} (h0 : 0 < a) (h : x < 2 ^ a) : x.log2 < a := PySem.Flt.log2_lt_of h0 h
theorem ev_mulB {i j : Int} {a b : Nat} (hi : i.natAbs < 2 ^ a) (hj : j.natAbs < 2 ^ b) (ha : 0 < a) (hb : 0 < b) (h : a + b ≤ 1000000) : mulD (.int i) (.int j) = some (.int (i * j)) := ev_mul (by
  have h1 := log2_of ha hi
  have h2 := log2_of hb hj
  omega)
theorem ev_mul64 {i j : Int} (hi : i.natAbs < 18446744073709551616) (hj : j.natAbs < 18446744073709551616) : mulD (.int i) (.int j) = some (.int (i * j)) := ev_mulB (a := 64) (b := 64) hi hj (by decide) (by decide) (by decide)
theorem ev_revN {s : List Nat} {k : Int} (hk : k = -1) (hl : lim s.length = true) : revS (.str s) (some k) = some (.str s.reverse) := by subst hk; exact ev_revS hl
theorem ev_fdiv64 {i j : Int} (h : 0 < j) (h2 : j.natAbs < 18446744073709551616) : fdivD (.int i) (.int j) = some (.int (i / j)) := ev_fdiv h (Nat.lt_trans (log2_of (a := 64) (by decide) h2) (by decide))
theorem op_mul_of {i j : Int} {Q : D → Prop} (a b : Nat) (hi : i.natAbs < 2 ^ a) (hj : j.natAbs < 2 ^ b) (h : (decide (0 < a) && decide (0 < b) && decide (a + b ≤ 1000000)) = true) (q : Q (.int (i * j))) : Op (mulD (.int i) (.int j)) Q := by
  rw [Bool.and_eq_true, Bool.and_eq_true] at h
  exact op_is (ev_mulB hi hj (of_decide_eq_true h.1.1) (of_decide_eq_true h.1.2) (of_decide_eq_true h.2)) q
theorem lt_pow {i : Int} (n k : Nat) (h : i.natAbs < k) (hk : k ≤ 2 ^ n) : i.natAbs < 2 ^ n := Nat.lt_of_lt_of_le h hk
/-- side conditions -/
local macro_rules | `(tactic| walk_at "side") => `(tactic| first | with_reducible assumption | with_reducible rfl | (with_reducible refine lim_of ?_; first | with_reducible assumption | omega | (simp only [List.length_append, List.length_map, List.length_cons, List.length_nil, List.length_replicate, List.length_reverse, List.length_take, List.length_drop, List.length_range]; omega) | (simp only [List.length_append, List.length_map, List.length_cons, List.length_nil, List.length_replicate, List.length_reverse, List.length_take, List.length_drop, List.length_range] at *; omega)) | (with_reducible refine small62_of ?_ ?_ <;> (first | omega | (simp only [List.length_append, List.length_map, List.length_cons, List.length_nil, List.length_replicate, List.length_reverse, List.length_take, List.length_drop, List.length_range]; omega) | (simp only [List.length_append, List.length_map, List.length_cons, List.length_nil, List.length_replicate, List.length_reverse, List.length_take, List.length_drop, List.length_range] at *; omega))) | (with_reducible refine and_of ?_ ?_ <;> walk_at "side") | (with_reducible refine small63_of ?_ ?_ <;> omega) | omega)
/-- a look at a slot; a slot's store -/
local macro_rules | `(tactic| walk_at "look") => `(tactic| exact rfl)
local macro_rules | `(tactic| walk_at "put") => `(tactic| first | with_reducible exact set_z | (apply set_s; (focus walk_at "put")))
/-- operations -/
local macro_rules | `(tactic| walk_at "op") => `(tactic| first
  | ((with_reducible refine ev_mul64 ?_ ?_) <;> first | (simp only [Int.natAbs_natCast]; omega) | omega)
  | (with_reducible refine ev_mul ?_); walk_at "side"
  | ((with_reducible refine ev_fdiv64 ?_ ?_) <;> omega)
  | (with_reducible refine ev_fdiv ?_ ?_) <;> walk_at "side"
  | (with_reducible refine ev_mod ?_); walk_at "side"
  | (with_reducible refine ev_pow ?_ ?_) <;> walk_at "side"
  | (with_reducible refine ev_addS ?_); walk_at "side"
  | (with_reducible refine ev_addL ?_); walk_at "side"
  | (with_reducible refine ev_addLL ?_); walk_at "side"
  | (with_reducible refine ev_addT ?_); walk_at "side"
  | (with_reducible refine ev_mulS ?_); walk_at "side"
  | (with_reducible refine ev_mulL ?_); walk_at "side"
  | (with_reducible refine ev_mulLL ?_); walk_at "side"
  | (with_reducible refine ev_lenS ?_); walk_at "side"
  | (with_reducible refine ev_slS ?_); walk_at "side"
  | ((with_reducible refine ev_revN ?_ ?_); (focus exact rfl); (focus walk_at "side"))
  | (with_reducible refine ev_strip ?_); walk_at "side"
  | (with_reducible refine rev_str ?_); walk_at "side"
  | (with_reducible refine lst_str ?_); walk_at "side"
  | (with_reducible refine ev_range1N ?_); walk_at "side"
  | (with_reducible refine ev_range1 ?_); walk_at "side"
  | (with_reducible refine ev_range2 ?_); walk_at "side"
  | (with_reducible refine ev_range3 ?_); walk_at "side"
  | (with_reducible refine ev_isi (by rfl) ?_); (first | exact kit_is | exact kit_ib | exact kit_ss | exact kit_bb | exact kit_bi)
  | with_reducible assumption
  | exact rfl)
/-- a call of a def: its own lemmas stand in front -/
local macro_rules | `(tactic| walk_at "call") => `(tactic| with_reducible assumption)
local macro_rules | `(tactic| walk_at "ev") => `(tactic| first
  | with_reducible exact ev_C
  | with_reducible exact ev_ret
  | with_reducible exact ev_oN
  | with_reducible exact ev_nx
  | ((with_reducible apply ev_var); (focus walk_at "look"))
  | ((with_reducible apply ev_varO); (focus walk_at "look"); (focus walk_at "put"))
  | ((with_reducible apply ev_peek); (focus walk_at "look"))
  | ((with_reducible apply ev_peekO); (focus walk_at "look"))
  | ((with_reducible apply ev_op); (focus walk_at "ev"); (focus walk_at "ev"); (focus walk_at "op"))
  | ((with_reducible apply ev_cons); (focus walk_at "ev"); (focus walk_at "ev"))
  | ((with_reducible apply ev_callB); (focus walk_at "ev"); (focus walk_at "op"))
  | ((with_reducible apply ev_call); (focus walk_at "ev"); (focus exact rfl); (focus exact rfl); (focus walk_at "call"); (focus exact rfl))
  | ((with_reducible apply ev_rVal); (focus walk_at "ev"); (focus walk_at "ev"))
  | ((with_reducible apply ev_rLend); (focus walk_at "ev"); (focus walk_at "ev"))
  | ((with_reducible apply ev_rNew); (focus walk_at "ev"); (focus walk_at "ev"))
  | ((with_reducible apply ev_test); (focus walk_at "ev"))
  | ((with_reducible apply ev_lst); (focus walk_at "ev"); (focus walk_at "side"))
  | ((with_reducible apply ev_tup); (focus walk_at "ev"); (focus walk_at "side"))
  | ((with_reducible apply ev_ix); (focus walk_at "ev"); (focus walk_at "ev"); (focus walk_at "op"))
  | ((with_reducible apply ev_ixV); (focus walk_at "ev"); (focus walk_at "ev"); (focus walk_at "ev"); (focus walk_at "op"))
  | ((with_reducible apply ev_oS); (focus walk_at "ev"))
  | ((with_reducible apply ev_sl); (focus walk_at "ev"); (focus walk_at "ev"); (focus walk_at "ev"); (focus walk_at "op"))
  | ((with_reducible apply ev_rev); (focus walk_at "ev"); (focus walk_at "ev"); (focus walk_at "op"))
  | ((with_reducible apply ev_lenV); (focus walk_at "ev"); (focus walk_at "op"))
  | ((with_reducible apply ev_methS); (focus walk_at "ev"); (focus walk_at "ev"); (focus walk_at "op"))
  | ((with_reducible apply ev_bits); (focus walk_at "ev"))
  | ((with_reducible apply ev_opL); (focus walk_at "ev"); (focus walk_at "ev"); (focus walk_at "ev"); (focus walk_at "op"))
  | ((with_reducible apply ev_opR); (focus walk_at "ev"); (focus walk_at "ev"); (focus walk_at "op"))
  | ((with_reducible apply ev_opB); (focus walk_at "ev"); (focus walk_at "ev"); (focus walk_at "op"))
  | ((with_reducible apply ev_and2); (focus walk_at "ev"); (focus walk_at "ev"))
  | ((with_reducible apply ev_or2); (focus walk_at "ev"); (focus walk_at "ev"))
  | ((with_reducible apply ev_bAnd2); (focus walk_at "ev"); (focus walk_at "ev"))
  | ((with_reducible apply ev_bOr2); (focus walk_at "ev"); (focus walk_at "ev"))
  | ((with_reducible apply ev_not); (focus walk_at "ev"))
  | ((with_reducible apply ev_bNot); (focus walk_at "ev"))
  | ((with_reducible apply ev_neg); (focus walk_at "ev"))
  | ((with_reducible apply ev_iAny); (focus walk_at "ev"); (focus walk_at "op"))
  | ((with_reducible apply ev_iRange); (focus walk_at "ev"); (focus walk_at "op"))
  | ((with_reducible apply ev_set); (focus walk_at "ev"); (focus walk_at "put"))
  | ((with_reducible apply ev_own); (focus walk_at "ev"); (focus walk_at "put"))
  | ((with_reducible apply ev_rt); (focus walk_at "ev"))
  | ((with_reducible apply ev_rtF); (focus walk_at "ev"))
  | ((with_reducible apply ev_do); (focus walk_at "ev"))
  | ((with_reducible apply ev_seqR); (focus walk_at "ev"))
  | ((with_reducible apply ev_seq); (focus walk_at "ev"); (focus walk_at "ev")))
/-- statement by statement as far as it goes -/
local macro_rules | `(tactic| walk_at "go") => `(tactic| first
  | ((with_reducible apply ev_seq); (focus walk_at "ev"); walk_at "go")
  | walk_at "ev"
  | skip)
/-! ### the walk, backwards -/
local macro_rules | `(tactic| walk_at "bool") => `(tactic| first | with_reducible assumption | exact rfl | omega | (simp only [List.length_append, List.length_map, List.length_cons, List.length_nil, List.length_replicate, List.length_reverse, List.length_take, List.length_drop] at *; omega))
local macro_rules | `(tactic| walk_at "yes") => `(tactic| first | with_reducible rfl | with_reducible assumption | omega)
local macro_rules | `(tactic| walk_at "no") => `(tactic| first | with_reducible assumption | omega)
local macro_rules | `(tactic| walk_at "v1") => `(tactic| first
  | with_reducible refine w_C ?_
  | ((with_reducible apply w_var); (focus walk_at "look"))
  | ((with_reducible apply w_varO); (focus walk_at "look"); (focus walk_at "put"))
  | with_reducible refine w_op ?_
  | ((with_reducible refine op_is (eq_self ?_) ?_); (focus with_reducible assumption))
  | ((with_reducible refine op_is (ne_self ?_) ?_); (focus with_reducible assumption))
  | ((with_reducible apply op_is); (focus walk_at "op"))
  | with_reducible refine w_cons ?_
  | with_reducible refine w_ret ?_
  | with_reducible refine w_rVal ?_
  | with_reducible refine nx_nx ?_
  | with_reducible refine s_seq ?_
  | with_reducible refine s_set ?_
  | ((with_reducible apply put_is); (focus walk_at "put"))
  | with_reducible refine w_test ?_
  | with_reducible refine isB_bl ?_
  | with_reducible refine isI_int ?_
  | with_reducible refine isS_str ?_
  | with_reducible refine w_callB ?_
  | with_reducible refine w_call ?_
  | ((with_reducible apply call_is); (focus exact rfl); (focus exact rfl))
  | ((with_reducible apply ret_is); (focus walk_at "call"))
  | with_reducible refine pb_nil ?_
  | with_reducible refine pb_val ?_
  | with_reducible refine pm_nil ?_
  | ((with_reducible apply pm_cons); (focus exact rfl))
  | with_reducible refine pb_new ?_
  | ((with_reducible apply pb_lend); (focus walk_at "look"); (focus walk_at "put"))
  | with_reducible refine w_ix ?_
  | with_reducible refine w_ixV ?_
  | ((with_reducible apply w_peek); (focus walk_at "look"))
  | ((with_reducible apply w_peekO); (focus walk_at "look"))
  | with_reducible refine w_opL ?_
  | with_reducible refine w_opR ?_
  | with_reducible refine w_opB ?_
  | with_reducible refine w_oN ?_
  | with_reducible refine w_oS ?_
  | with_reducible refine w_sl ?_
  | with_reducible refine w_rev ?_
  | with_reducible refine w_lenV ?_
  | with_reducible refine w_methS ?_
  | with_reducible refine w_bits ?_
  | with_reducible refine w_neg ?_
  | with_reducible refine w_not ?_
  | with_reducible refine w_and ?_
  | with_reducible refine w_or ?_
  | with_reducible refine w_bAnd ?_
  | with_reducible refine w_bOr ?_
  | with_reducible refine w_bNot ?_
  | with_reducible refine w_eIf ?_
  | with_reducible refine w_chn ?_
  | with_reducible refine w_iAny ?_
  | with_reducible refine w_yes ?_
  | with_reducible refine w_iRange ?_
  | with_reducible refine w_enum ?_
  | with_reducible refine w_zip ?_
  | with_reducible refine w_zipS ?_
  | with_reducible refine w_revM ?_
  | with_reducible refine w_listOf ?_
  | with_reducible refine w_tupOf ?_
  | with_reducible refine w_sorted ?_
  | with_reducible refine w_sumV ?_
  | ((with_reducible apply s_revI); (focus walk_at "look"))
  | with_reducible refine w_rNew ?_
  | with_reducible refine w_rLend ?_
  | with_reducible refine w_lc ?_
  | with_reducible refine w_lc2 ?_
  | with_reducible refine w_rPerm ?_
  | with_reducible refine w_lst ?_
  | with_reducible refine w_tup ?_
  | ((with_reducible refine gp_is ?_ ?_); (focus exact rfl))
  | ((with_reducible refine gd_is ?_ ?_); (focus walk_at "side"))
  | ((with_reducible refine is_is ?_ ?_); (focus with_reducible rfl))
  | with_reducible refine wipe_1 ?_
  | with_reducible refine wipe_2 ?_
  | with_reducible refine s_nx ?_
  | with_reducible refine s_if ?_
  | with_reducible refine s_rt ?_
  | with_reducible refine s_rtF ?_
  | ((with_reducible apply s_rtV); (focus walk_at "look"))
  | with_reducible refine s_rtN ?_
  | with_reducible refine s_own ?_
  | with_reducible refine s_do ?_
  | with_reducible refine s_for ?_
  | with_reducible refine s_bk ?_
  | with_reducible refine s_ct ?_
  | with_reducible refine s_asg ?_
  | with_reducible refine tg_N ?_
  | with_reducible refine tg_T ?_
  | with_reducible refine sa_cons ?_
  | with_reducible refine sa_nil ?_
  | with_reducible refine nx_rt ?_
  | with_reducible refine nx_rn ?_
  | with_reducible refine nx_bk ?_
  | with_reducible refine nx_ct ?_
  | with_reducible refine lp_nx ?_
  | with_reducible refine lp_ct ?_
  | with_reducible refine lp_bk ?_
  | with_reducible refine lp_rt ?_
  | with_reducible refine lp_rn ?_
  | with_reducible refine fi_rt ?_
  | with_reducible refine fi_nx ?_
  | with_reducible refine fi_rn ?_
  | ((with_reducible apply s_app); (focus walk_at "look"))
  | ((with_reducible apply app_is); (focus walk_at "look"); (focus walk_at "side"))
  | with_reducible refine s_setIx ?_
  | ((with_reducible apply setTo_is); (focus walk_at "look"))
  | with_reducible refine s_par2N ?_
  | with_reducible refine s_tupN ?_
  | with_reducible refine pa_cons' ?_
  | with_reducible refine pa_nil' ?_
  | with_reducible refine s_par3N ?_
  | ((with_reducible refine twoV_is ?_ ?_); (focus exact rfl))
  | ((with_reducible refine threeV_is ?_ ?_); (focus exact rfl))
  | with_reducible refine pv_val ?_
  | with_reducible refine pv_new ?_
  | with_reducible refine two_is ?_
  | with_reducible refine three_is ?_
  | ((with_reducible refine s_par ?_))
  | ((with_reducible refine s_par3 ?_))
  | with_reducible refine br_true ?_
  | with_reducible refine br_false ?_
  | with_reducible refine br_not ?_
  | with_reducible refine br_isN ?_
  | with_reducible refine br_isN_int ?_
  | with_reducible refine br_isN_str ?_
  | with_reducible refine br_isN_bl ?_
  | with_reducible refine br_isN_lst ?_
  | with_reducible refine br_isN_tup ?_
  | with_reducible refine br_and ?_
  | with_reducible refine br_or ?_
  | ((with_reducible refine br_decT ?_ ?_); (focus walk_at "yes"))
  | ((with_reducible refine br_decF ?_ ?_); (focus walk_at "no"))
  | with_reducible exact ⟨rfl, rfl⟩
  | with_reducible rfl
  | with_reducible exact ⟨_, rfl⟩
  | with_reducible exact ⟨_, _, rfl⟩
  | with_reducible exact ⟨_, _, _, rfl⟩)
local macro_rules | `(tactic| walk_at "vc") => `(tactic| repeat walk_at "v1")
/-! ### more of comprehensions, joins, cuts, sums -/
theorem lcL_inv {vs : List Nat} {g : D → Lvs → Option Lvs} {f : M D} (I : List D → Lvs → Prop) (ds : List D) (e : Lvs) (hl : ds.length ≤ 16777216) (h0 : I [] e) (step : ∀ (i : Nat) (d : D) (acc : List D) (e : Lvs), ds[i]? = some d → acc.length = i → I acc e → ∃ e1 y e2, g d e = some e1 ∧ f e1 = some (y, e2) ∧ I (acc ++ [y]) (wipeE e2 vs)) : ∃ rs e', lcL vs g bYes f ds [] e = some (rs, e') ∧ rs.length = ds.length ∧ I rs e' := by
  suffices ∀ (k i : Nat) (acc : List D) (e : Lvs), ds.length - i = k → i ≤ ds.length → acc.length = i → I acc e → ∃ rs e', lcL vs g bYes f (ds.drop i) acc e = some (rs, e') ∧ rs.length = ds.length ∧ I rs e' by
    have := this ds.length 0 [] e rfl (Nat.zero_le _) rfl h0
    rwa [List.drop_zero] at this
  intro k
  induction k with
  | zero =>
    intro i acc e hk hi ha h
    have : i = ds.length := by omega
    subst this
    rw [List.drop_length]
    exact ⟨acc, e, rfl, ha, h⟩
  | succ k ih =>
    intro i acc e hk hi ha h
    have hlt : i < ds.length := by omega
    obtain ⟨e1, y, e2, q1, q2, q3⟩ := step i ds[i] acc e (List.getElem?_eq_getElem hlt) ha h
    obtain ⟨rs, e', r1, r2⟩ := ih (i + 1) (acc ++ [y]) _ (by omega) hlt (by rw [List.length_append, ha]; rfl) q3
    refine ⟨rs, e', ?_, r2⟩
    rw [List.drop_eq_getElem_cons hlt]
    unfold lcL
    rw [q1]
    show (match f e1 with | some (y, e3) => if lim (acc.length + 1) = true then _ else none | none => none) = _
    rw [q2]
    show (if lim (acc.length + 1) = true then lcL vs g bYes f (ds.drop (i + 1)) (acc ++ [y]) (wipeE e2 vs) else none) = _
    rw [if_pos (lim_of (by omega))]
    exact r1
theorem strsOf_map : ∀ ns : List (List Nat), strsOf (ns.map D.str) = some ns
  | [] => rfl
  | i :: ns => by rw [List.map_cons]; unfold strsOf; rw [strsOf_map ns]
theorem intsOf_map : ∀ ns : List Int, intsOf (ns.map D.int) = some ns
  | [] => rfl
  | i :: ns => by rw [List.map_cons]; unfold intsOf; rw [intsOf_map ns]
theorem joinL_nil : ∀ ns : List (List Nat), TL.joinL [] ns = ns.flatten
  | [] => rfl
  | [p] => by show p = p ++ []; rw [List.append_nil]
  | p :: q :: r => by show p ++ ([] ++ TL.joinL [] (q :: r)) = _; rw [joinL_nil (q :: r)]; rfl
theorem ev_join0 {ns : List (List Nat)} (h : ns.flatten.length ≤ 16777216) : joinD (.str []) [.lst (ns.map D.str)] = some (.str ns.flatten) := by
  show (match strsOf (ns.map D.str) with | some ns => if lim ((ns.map List.length).sum + ns.length * ([] : List Nat).length) = true then some (D.str (TL.joinL [] ns)) else none | none => none) = _
  rw [strsOf_map]
  show (if lim ((ns.map List.length).sum + ns.length * ([] : List Nat).length) = true then some (D.str (TL.joinL [] ns)) else none) = _
  rw [if_pos, joinL_nil]
  rw [List.length_flatten] at h
  exact lim_of (by show _ + ns.length * 0 ≤ _; omega)
theorem flat_one : ∀ s : List Nat, (s.map fun c => [c]).flatten = s
  | [] => rfl
  | c :: s => by rw [List.map_cons, List.flatten_cons, flat_one s]; rfl
theorem ev_join1 {s : List Nat} (h : s.length ≤ 16777216) : joinD (.str []) [.lst (s.map fun c => D.str [c])] = some (.str s) := by
  have := ev_join0 (ns := s.map fun c => [c]) (by rw [flat_one]; exact h)
  rw [flat_one, List.map_map] at this
  exact this
theorem cut_to {α : Type} (xs : List α) (k : Nat) : cut xs none (some (k : Int)) = xs.take k := by
  unfold Dv.cut
  rw [HT.sIx_none, HT.sIx_nat, List.drop_zero, Nat.sub_zero]
  by_cases h : k ≤ xs.length
  · rw [Nat.min_eq_left h]
  · rw [Nat.min_eq_right (by omega), List.take_length, List.take_of_length_le (by omega)]
theorem cut_from {α : Type} (xs : List α) (k : Nat) : cut xs (some (k : Int)) none = xs.drop k := by
  unfold Dv.cut
  rw [HT.sIx_none, HT.sIx_nat]
  by_cases h : k ≤ xs.length
  · rw [Nat.min_eq_left h, List.take_of_length_le (by rw [List.length_drop]; omega)]
  · rw [Nat.min_eq_right (by omega), List.drop_length, List.drop_of_length_le (by omega), List.take_nil]
theorem sum_nat (f : Nat → Nat) : ∀ l : List Nat, (l.map fun k => ((f k : Nat) : Int)).sum = ((l.map f).sum : Nat)
  | [] => rfl
  | k :: l => by rw [List.map_cons, List.sum_cons, List.map_cons, List.sum_cons, sum_nat f l]; omega
theorem ev_sum {ns : List Int} : sumD [.lst (ns.map D.int)] = some (.int ns.sum) := by
  show (match intsOf (ns.map D.int) with | some ns => some (D.int ns.sum) | none => none) = _
  rw [intsOf_map]

/-! ### the generator -/
def hashV (s i : Int) : Int := ((((s * 1140671 + 27644437 * i * i + 131 * i + 19) % 2147483629) * ((s * 1140671 + 27644437 * i * i + 131 * i + 19) % 2147483629) + 62089 * i + 32416187) % 2147483587 * 48271) % 2147483647
theorem hash_ok {s i : Int} (hs0 : 0 ≤ s) (hs : s < 2147483648) (hi0 : 0 ≤ i) (hi : i ≤ 1000000000) : F_l_hash [.int s, .int i] = some (.int (hashV s i), []) := by
  apply run_l_hash
  · unfold b_l_hash
    walk_at "ev"
  · exact rfl
theorem hashV_ok (s i : Int) : 0 ≤ hashV s i ∧ hashV s i < 2147483647 := by unfold hashV; omega
/-- a generator of the law's, that was asked at most k times -/
def GOk (k : Nat) (g : D) : Prop := ∃ a s i : Int, g = .lst [.int a, .int s, .int i] ∧ 0 ≤ s ∧ s < 2147483648 ∧ 0 ≤ i ∧ i ≤ k
theorem GOk.mono {k l : Nat} {g : D} (h : GOk k g) (hl : k ≤ l) : GOk l g := by
  obtain ⟨a, s, i, h1, h2, h3, h4, h5⟩ := h
  exact ⟨a, s, i, h1, h2, h3, h4, by omega⟩
theorem gt_T {i j : Int} (h : j < i) : gtD (.int i) (.int j) = some (.bl true) := by show some (D.bl (decide (j < i))) = _; rw [decide_eq_true h]
theorem gt_F {i j : Int} (h : ¬ j < i) : gtD (.int i) (.int j) = some (.bl false) := by show some (D.bl (decide (j < i))) = _; rw [decide_eq_false h]
theorem drawn_lt {x h : Int} {j : Nat} (hx : x.natAbs < 2 ^ (32 * (j + 1))) (h0 : 0 ≤ h) (h1 : h < 2147483647) : (x * 2147483587 + h).natAbs < 2 ^ (32 * (j + 1 + 1)) := by
  have e : 2 ^ (32 * (j + 1 + 1)) = 2 ^ (32 * (j + 1)) * 4294967296 := by
    rw [show 32 * (j + 1 + 1) = 32 * (j + 1) + 32 by omega, Nat.pow_add]
  rw [e]
  generalize 2 ^ (32 * (j + 1)) = p at hx
  omega
theorem random_ex {k : Nat} {g : D} {n : Int} (hg : GOk k g) (hk : k ≤ 900000000) (hn : 0 < n) (hn2 : n.natAbs < 2 ^ 3000) : ∃ r g', F_l_random [g, .int n] = some (.int r, [g']) ∧ 0 ≤ r ∧ r < n ∧ GOk (k + 101) g' := by
  obtain ⟨a, s, i, rfl, hs0, hs, hi0, hi⟩ := hg
  have ln : n.natAbs.log2 < 3000 := log2_of (by decide) hn2
  by_cases ha : 0 < a
  · refine ⟨a % n, .lst [.int (a / n), .int s, .int i], ?_, Int.emod_nonneg _ (by omega), Int.emod_lt_of_pos _ hn, ⟨a / n, s, i, rfl, hs0, hs, hi0, by omega⟩⟩
    apply run_l_random
    · unfold b_l_random
      apply ev_seqR
      apply ev_ifT
      · apply ev_test
        apply ev_op
        · walk_at "ev"
        · walk_at "ev"
        · exact gt_T ha
      · apply ev_seq
        · walk_at "ev"
        apply ev_seq
        · apply ev_setIx
          · apply ev_op
            · walk_at "ev"
            · walk_at "ev"
            · exact ev_fdiv hn (by omega)
          · walk_at "ev"
          · walk_at "ev"
          · exact rfl
          · exact rfl
          · walk_at "put"
        · walk_at "ev"
    · exact rfl
  · have hb : Builtin.Int.intBits n ≤ 3000 := PyProof.Rows.intBits_le hn2
    obtain ⟨e', h1, h2⟩ := forL_inv (g := gN 3) (b := sSeq (sSetIx 0 (eC (.int 2)) (eOp addD (eIxV 0 (eC (.int 2))) (eC (.int 1)))) (sSet 2 (eOp addD (eOp mulD (eVar 2) (eC (.int 2147483587))) (eCall ms_l_hash F_l_hash (rVal (eIxV 0 (eC (.int 1))) (rVal (eIxV 0 (eC (.int 2))) (ret [])))))))
      (fun (j : Nat) e => ∃ (x : Int) (v : Lv), e = [.own true (.lst [.int a, .int s, .int (i + (j : Int))]), .val (.int n), .val (.int x), v] ∧ x.natAbs < 2 ^ (32 * (j + 1)) ∧ 0 ≤ x) (rangeD 0 (1 + (Builtin.Int.intBits n : Int) / 30).toNat)
      [.own true (.lst [.int a, .int s, .int i]), .val (.int n), .val (.int 0), .no] ⟨0, .no, by simp, by decide, by decide⟩ (fun j d e hj hI => by
        obtain ⟨x, v, rfl, hx, hx0⟩ := hI
        have hjl : j < 101 := by
          unfold rangeD at hj
          rw [List.getElem?_map] at hj
          by_cases hc : j < (1 + (Builtin.Int.intBits n : Int) / 30).toNat
          · omega
          · rw [List.getElem?_eq_none (by rw [List.length_range]; omega)] at hj; cases hj
        have hh := hashV_ok s (i + (j : Int) + 1)
        refine ⟨_, [.own true (.lst [.int a, .int s, .int (i + (j : Int) + 1)]), .val (.int n), .val (.int (x * 2147483587 + hashV s (i + (j : Int) + 1))), .val d], rfl, .inl ?_, ⟨x * 2147483587 + hashV s (i + (j : Int) + 1), .val d, ?_, drawn_lt hx hh.1 hh.2, by omega⟩⟩
        · apply ev_seq
          · apply ev_setIx
            · walk_at "ev"
            · walk_at "ev"
            · walk_at "ev"
            · exact rfl
            · exact rfl
            · walk_at "put"
          · apply ev_set
            · apply ev_op
              · apply ev_op
                · walk_at "ev"
                · walk_at "ev"
                · exact ev_mulB (a := 32 * (j + 1)) (b := 32) hx (by decide) (by omega) (by decide) (by omega)
              · apply ev_call
                · walk_at "ev"
                · exact rfl
                · exact rfl
                · exact hash_ok hs0 hs (by omega) (by omega)
                · exact rfl
              · walk_at "op"
            · walk_at "put"
        · rw [show ((j + 1 : Nat) : Int) = (j : Int) + 1 by omega, ← Int.add_assoc])
    obtain ⟨x, v, rfl, hx, hx0⟩ := h2
    refine ⟨x % n, .lst [.int a, .int s, .int (i + ((rangeD 0 (1 + (Builtin.Int.intBits n : Int) / 30).toNat).length : Int))], ?_, Int.emod_nonneg _ (by omega), Int.emod_lt_of_pos _ hn, ⟨a, s, _, rfl, hs0, hs, by omega, ?_⟩⟩
    · apply run_l_random
      · unfold b_l_random
        apply ev_seq
        · apply ev_ifF
          · apply ev_test
            apply ev_op
            · walk_at "ev"
            · walk_at "ev"
            · exact gt_F ha
          · walk_at "ev"
        apply ev_seq
        · walk_at "ev"
        apply ev_seq
        · apply ev_for
          · apply ev_iRange
            · walk_at "ev"
            · exact ev_range1 (small62_of (by omega) (by omega))
          · exact h1
        · walk_at "ev"
      · exact rfl
    · unfold rangeD
      rw [List.length_map, List.length_range]
      omega
def rv (g : D) (n : Int) : Int := match F_l_random [g, .int n] with
  | some (.int r, _) => r
  | _ => 0
def rg (g : D) (n : Int) : D := match F_l_random [g, .int n] with
  | some (_, [g']) => g'
  | _ => g
theorem random_ok {k : Nat} {g : D} {n : Int} (hg : GOk k g) (hk : k ≤ 900000000) (hn : 0 < n) (hn2 : n.natAbs < 2 ^ 3000) : F_l_random [g, .int n] = some (.int (rv g n), [rg g n]) ∧ 0 ≤ rv g n ∧ rv g n < n ∧ GOk (k + 101) (rg g n) := by
  obtain ⟨r, g', h, h1, h2, h3⟩ := random_ex hg hk hn hn2
  have e1 : rv g n = r := by unfold rv; rw [h]
  have e2 : rg g n = g' := by unfold rg; rw [h]
  rw [e1, e2]
  exact ⟨h, h1, h2, h3⟩
/-! ### what the laws share: letters, texts, alphabets, seeds -/
theorem stripL_all {a b : List Nat} (h : ∀ c ∈ a, c ∈ b) : stripL a b = [] := by
  have hall : ∀ (a : List Nat) (p : Nat → Bool), (∀ c ∈ a, p c = true) → (a.takeWhile p).length = a.length := by
    intro a p
    induction a with
    | nil => intro _; rfl
    | cons x a ih =>
      intro h
      rw [List.takeWhile_cons_of_pos (h x List.mem_cons_self), List.length_cons, List.length_cons, ih fun c hc => h c (List.mem_cons_of_mem _ hc)]
  have e : Txt.stripChars (mkS a) (mkS b) = W.stripped (mkS b).cps.contains true true (mkS a) := PySem.W.stripBy_eq _ _ _ _
  show (Txt.stripChars (mkS a) (mkS b)).cps.toList = []
  rw [e]
  unfold W.stripped
  have h1 : ((mkS a).cps.toList.takeWhile (mkS b).cps.contains).length = a.length := hall a _ fun c hc => by
    rw [Array.contains_iff_mem, Array.mem_toList_iff.symm]
    exact h c hc
  show ((mkS a).cps.extract ((mkS a).cps.toList.takeWhile (mkS b).cps.contains).length _).toList = []
  rw [h1, Array.toList_extract]
  show List.extract a a.length _ = []
  unfold List.extract
  rw [List.drop_length, List.take_nil]
def Az (s : List Nat) : Prop := ∀ c ∈ s, c ∈ k_LETTERS
theorem Az.app {s t : List Nat} (h : Az s) (h2 : Az t) : Az (s ++ t) := fun c hc => (List.mem_append.mp hc).elim (h c) (h2 c)
theorem is_string_ok {s k : List Nat} (h : ∀ c ∈ s, c ∈ k) (hl : s.length ≤ 1000) : F_is_string_of [.str s, .str k] = some (.bl true, []) := by
  apply run_is_string_of
  · unfold b_is_string_of
    apply ev_rt
    apply ev_andT
    · walk_at "ev"
    · apply ev_op
      · apply ev_methS
        · walk_at "ev"
        · walk_at "ev"
        · exact ev_strip (lim_of (by omega))
      · walk_at "ev"
      · rw [stripL_all h]; exact rfl
  · exact rfl
local macro_rules | `(tactic| walk_at "call") => `(tactic| ((with_reducible refine is_string_ok ?_ ?_) <;> first | assumption | omega))
theorem alone_ok {s : List Nat} (h : Az s) (hl : s.length ≤ 1000) : F_is_letters_alone [.str s] = some (.bl true, []) := by
  apply run_is_letters_alone
  · unfold b_is_letters_alone
    walk_at "ev"
  · exact rfl
local macro_rules | `(tactic| walk_at "call") => `(tactic| ((with_reducible refine alone_ok ?_ ?_) <;> first | assumption | omega))
theorem check_text_ok {s : List Nat} (h : Az s) (hl : s.length ≤ 1000) : F_check_text [.str s] = some (.non, []) := by
  apply runN_check_text
  · unfold b_check_text
    apply ev_fi
    · walk_at "ev"
    · exact rfl
    · walk_at "ev"
  · exact rfl
local macro_rules | `(tactic| walk_at "call") => `(tactic| ((with_reducible refine check_text_ok ?_ ?_) <;> first | assumption | omega))
theorem rangeC_at {lo c : Int} {n j : Nat} {d : D} (h : (rangeC lo c n)[j]? = some d) : j < n ∧ d = .int (lo + (j : Int) * c) := by
  unfold rangeC at h
  rw [List.getElem?_map] at h
  by_cases hj : j < n
  · rw [List.getElem?_range hj] at h
    cases h
    exact ⟨hj, rfl⟩
  · rw [List.getElem?_eq_none (by rw [List.length_range]; omega)] at h
    cases h
theorem rangeD_at {lo : Int} {n j : Nat} {d : D} (h : (rangeD lo n)[j]? = some d) : j < n ∧ d = .int (lo + (j : Int)) := by
  unfold rangeD at h
  rw [List.getElem?_map] at h
  by_cases hj : j < n
  · rw [List.getElem?_range hj] at h
    cases h
    exact ⟨hj, rfl⟩
  · rw [List.getElem?_eq_none (by rw [List.length_range]; omega)] at h
    cases h
theorem rangeC_len (lo c : Int) (n : Nat) : (rangeC lo c n).length = n := by unfold rangeC; rw [List.length_map, List.length_range]
theorem rangeD_len (lo : Int) (n : Nat) : (rangeD lo n).length = n := by unfold rangeD; rw [List.length_map, List.length_range]
theorem ix_str {s : List Nat} {i : Int} {k c : Nat} (hi : i = (k : Int)) (hl : s.length ≤ 16777216) (h : s[k]? = some c) : ixD (.str s) (.int i) = some (.str [c]) := by
  subst hi
  show (if lim s.length = true then (match atI s (k : Int) with | some c => some (D.str [c]) | none => none) else none) = _
  rw [if_pos (lim_of hl), atI_nat h]
theorem str_items (s : List Nat) : itemsOf (.str s) = some (s.map fun c => .str [c]) := rfl
theorem map_at {s : List Nat} {j : Nat} {d : D} (h : (s.map fun c => D.str [c])[j]? = some d) : ∃ c, s[j]? = some c ∧ d = .str [c] := by
  rw [List.getElem?_map] at h
  cases q : s[j]? with
  | none => rw [q] at h; cases h
  | some c => rw [q] at h; cases h; exact ⟨c, rfl, rfl⟩
theorem eq_str {a b : List Nat} : eqD (.str a) (.str b) = some (.bl (decide (a = b))) := rfl
theorem eq_int {a b : Int} : eqD (.int a) (.int b) = some (.bl (decide (a = b))) := rfl
theorem ne_str {a b : List Nat} : neD (.str a) (.str b) = some (.bl (!decide (a = b))) := rfl
theorem ne_int {a b : Int} : neD (.int a) (.int b) = some (.bl (!decide (a = b))) := rfl
theorem az_nil : Az [] := fun _ h => nomatch h
theorem Az.take {s : List Nat} (h : Az s) (k : Nat) : Az (s.take k) := fun c hc => h c (List.mem_of_mem_take hc)
theorem Az.drop {s : List Nat} (h : Az s) (k : Nat) : Az (s.drop k) := fun c hc => h c (List.mem_of_mem_drop hc)
theorem text_ok {k n : Nat} {g : D} {L : List Nat} (hg : GOk k g) (hk : k ≤ 800000000) (hn : n ≤ 1000) (hL : Az L) (hL0 : 0 < L.length) (hL2 : L.length ≤ 1000) : ∃ s g', F_l_text [g, .str L, .int (n : Int)] = some (.str s, [g']) ∧ Az s ∧ s.length = n ∧ GOk (k + 101 * n) g' := by
  obtain ⟨rs, e', h1, h2, h3⟩ := lcL_inv (vs := [3]) (g := gN 3) (f := eIx (eVar 1) (eCall ms_l_random F_l_random (rLend 0 (rVal (eCallB lenD (aCons (eVar 1) (ret []))) (ret [])))))
    (fun acc e => ∃ s g', e = [.own true g', .val (.str L), .val (.int (n : Int)), .no] ∧ acc = s.map (fun c => D.str [c]) ∧ Az s ∧ GOk (k + 101 * acc.length) g') (rangeD 0 n) [.own true g, .val (.str L), .val (.int (n : Int)), .no] (by rw [rangeD_len]; omega) ⟨[], g, rfl, rfl, az_nil, hg⟩ (fun i d acc e hi ha hI => by
      obtain ⟨s, g1, rfl, rfl, hs, hg1⟩ := hI
      obtain ⟨hi1, rfl⟩ := rangeD_at hi
      have hr := random_ok (n := (L.length : Int)) hg1 (by rw [ha]; omega) (by omega) (by
        rw [Int.natAbs_natCast]
        exact Nat.lt_of_le_of_lt hL2 (by decide +kernel))
      obtain ⟨r1, r2, r3, r4⟩ := hr
      obtain ⟨c, hc⟩ : ∃ c, L[(rv g1 (L.length : Int)).toNat]? = some c := ⟨_, List.getElem?_eq_getElem (by omega)⟩
      refine ⟨_, .str [c], [.own true (rg g1 (L.length : Int)), .val (.str L), .val (.int (n : Int)), .val (.int (0 + (i : Int)))], rfl, ?_, s ++ [c], _, rfl, ?_, hs.app ?_, ?_⟩
      · apply ev_ix
        · walk_at "ev"
        · apply ev_call
          · walk_at "ev"
          · exact rfl
          · exact rfl
          · exact r1
          · exact rfl
        · exact ix_str (k := (rv g1 (L.length : Int)).toNat) (by omega) (by omega) hc
      · rw [List.map_append]; rfl
      · intro x hx
        rw [List.mem_singleton] at hx
        subst hx
        exact hL _ (List.mem_of_getElem? hc)
      · rw [List.length_append, show k + 101 * ((s.map fun c => D.str [c]).length + [D.str [c]].length) = k + 101 * (s.map fun c => D.str [c]).length + 101 by rw [List.length_singleton]; omega]
        exact r4)
  obtain ⟨s, g', rfl, rfl, h4, h5⟩ := h3
  rw [rangeD_len] at h2
  have hl : s.length = n := by rw [List.length_map] at h2; exact h2
  rw [h2] at h5
  refine ⟨s, g', ?_, h4, hl, h5⟩
  apply run_l_text
  · unfold b_l_text
    apply ev_rt
    apply ev_methS
    · walk_at "ev"
    · apply ev_cons
      · apply ev_lc
        · apply ev_iRange
          · walk_at "ev"
          · exact ev_range1 (small62_of (by omega) (by omega))
        · exact rfl
        · rw [Int.toNat_natCast]; exact h1
      · walk_at "ev"
    · exact ev_join1 (by omega)
  · exact rfl
theorem az_at {s : List Nat} {k c : Nat} (h : Az s) (hc : s[k]? = some c) : Az [c] := fun x hx => by
  rw [List.mem_singleton] at hx
  subst hx
  exact h _ (List.mem_of_getElem? hc)
theorem az_letters : Az k_LETTERS := fun _ h => h
theorem cell_ok (ns : List Int) (k : Nat) (hk : k ≤ 1000) : ∃ c, F_l_cell [.fls (ns.map .int), .int (k : Int)] = some (.int c, []) := by
  by_cases h : k < ns.length
  · refine ⟨ns[k], ?_⟩
    apply run_l_cell
    · unfold b_l_cell
      apply ev_seqR
      apply ev_ti
      · apply ev_test
        apply ev_op
        · walk_at "ev"
        · walk_at "ev"
        · exact rfl
      · exact decide_eq_true (by rw [List.length_map]; omega)
      · apply ev_rt
        apply ev_ix
        · walk_at "ev"
        · walk_at "ev"
        · show atI (ns.map D.int) (k : Int) = _
          rw [atI_nat (v := D.int ns[k]) (by rw [List.getElem?_map, List.getElem?_eq_getElem h]; rfl)]
    · exact rfl
  · refine ⟨(ns.take 1).sum % 1000003, ?_⟩
    apply run_l_cell
    · unfold b_l_cell
      apply ev_seq
      · apply ev_fi
        · apply ev_test
          apply ev_op
          · walk_at "ev"
          · walk_at "ev"
          · exact rfl
        · exact decide_eq_false (by rw [List.length_map]; omega)
        · walk_at "ev"
      · apply ev_rt
        apply ev_op
        · apply ev_callB
          · apply ev_cons
            · apply ev_sl
              · walk_at "ev"
              · walk_at "ev"
              · walk_at "ev"
              · show some (D.lst (cut (ns.map D.int) none (some ((1 : Nat) : Int)))) = _
                rw [cut_to, ← List.map_take]
            · walk_at "ev"
          · exact ev_sum
        · walk_at "ev"
        · exact ev_mod (by decide)
    · exact rfl
theorem generator_ok (ns : List Int) (k : Nat) (hk : k ≤ 1000) : ∃ g, F_l_generator [.fls (ns.map .int), .int (k : Int)] = some (g, []) ∧ GOk (1000 * k) g := by
  obtain ⟨c, hc⟩ := cell_ok ns k hk
  refine ⟨.lst [.int ((if 0 > c - 10 ^ 18 then 0 else c - 10 ^ 18) % (10 ^ 60) ^ 10), .int (c % 2147483647), .int (1000 * (k : Int))], ?_, _, _, _, rfl, by omega, by omega, by omega, by omega⟩
  apply run_l_generator
  · unfold b_l_generator
    apply ev_seq
    · walk_at "ev"
    · apply ev_rtF
      apply ev_lst
      · apply ev_cons
        · apply ev_op
          · apply ev_callB
            · apply ev_cons
              · apply ev_callB
                · apply ev_cons
                  · apply ev_op
                    · walk_at "ev"
                    · apply ev_op
                      · walk_at "ev"
                      · walk_at "ev"
                      · exact ev_pow (by decide) (by decide +kernel)
                    · exact rfl
                  · walk_at "ev"
                · exact rfl
              · walk_at "ev"
            · exact rfl
          · apply ev_op
            · apply ev_op
              · walk_at "ev"
              · walk_at "ev"
              · exact ev_pow (by decide) (by decide +kernel)
            · walk_at "ev"
            · exact ev_pow (by decide) (by decide +kernel)
          · exact ev_mod (by decide +kernel)
        · walk_at "ev"
      · exact rfl
  · exact rfl
theorem letters_at {i c : Nat} (h : k_LETTERS[i]? = some c) : c = 97 + i := by
  have hi : i < 26 := (List.getElem?_eq_some_iff.mp h).1
  have : ∀ j, j < 26 → k_LETTERS[j]? = some (97 + j) := by decide
  rw [this i hi] at h
  cases h
  rfl
theorem alphabet_okL {k : Nat} {g : D} {least : Int} (hg : GOk k g) (hk : k ≤ 800000000) (h0 : 0 < least) (h4 : least ≤ 4) : ∃ L g', F_l_alphabet [g, .int least] = some (.str L, [g']) ∧ Az L ∧ L.Pairwise (· < ·) ∧ 0 < L.length ∧ L.length ≤ 4 ∧ GOk (k + 1000) g' ∧ least ≤ (L.length : Int) := by
  obtain ⟨r1, r2, r3, r4⟩ := random_ok (n := 5 - least) hg (by omega) (by omega) (Nat.lt_of_lt_of_le (show (5 - least).natAbs < 8 by omega) (by decide +kernel))
  obtain ⟨s1, s2, s3, s4⟩ := random_ok (n := 10) r4 (by omega) (by decide) (by decide +kernel)
  have hm : (least + rv g (5 - least)).toNat ≤ 4 := by omega
  obtain ⟨e', h1, h2⟩ := forL_inv (g := gN 5) (b := (sSeq (sSet 3 (eOp addD (eOp addD (eVar 3) (eC (.int 1))) (eCall ms_l_random F_l_random (rLend 0 (rVal (eC (.int 3)) (ret []))))))
  (sSet 4 (eOp addD (eVar 4) (eIx (eC (.str [97, 98, 99, 100, 101, 102, 103, 104, 105, 106, 107, 108, 109, 110, 111, 112, 113, 114, 115, 116, 117, 118, 119, 120, 121, 122])) (eVar 3))))))
    (fun (j : Nat) e => ∃ (s : Int) (L : List Nat) (g' : D) (v : Lv), e = [.own true g', .val (.int least), .val (.int (least + rv g (5 - least))), .val (.int s), .val (.str L), v] ∧ 0 ≤ s ∧ s ≤ 9 + 3 * (j : Int) ∧ Az L ∧ L.Pairwise (· < ·) ∧ (∀ c ∈ L, (c : Int) ≤ 97 + s) ∧ L.length = j ∧ GOk (k + 101 + 101 + 101 * j) g') (rangeD 0 (least + rv g (5 - least)).toNat)
    [.own true (rg (rg g (5 - least)) 10), .val (.int least), .val (.int (least + rv g (5 - least))), .val (.int (rv (rg g (5 - least)) 10)), .val (.str []), .no] ⟨_, [], _, .no, rfl, s2, by omega, az_nil, List.Pairwise.nil, (fun _ h => nomatch h), rfl, s4⟩ (fun j d e hj hI => by
      obtain ⟨s, L, g', v, rfl, hs0, hs1, hL, hp, hq, hl, hg'⟩ := hI
      obtain ⟨hj1, rfl⟩ := rangeD_at hj
      obtain ⟨t1, t2, t3, t4⟩ := random_ok (n := 3) hg' (by omega) (by decide) (by decide +kernel)
      obtain ⟨c, hc⟩ : ∃ c, k_LETTERS[(s + 1 + rv g' 3).toNat]? = some c := ⟨_, List.getElem?_eq_getElem (by show _ < 26; omega)⟩
      refine ⟨_, [.own true (rg g' 3), .val (.int least), .val (.int (least + rv g (5 - least))), .val (.int (s + 1 + rv g' 3)), .val (.str (L ++ [c])), .val (.int (0 + (j : Int)))], rfl, .inl ?_, _, _, _, _, rfl, by omega, by omega, hL.app (az_at az_letters hc), ?_, ?_, by rw [List.length_append, hl]; rfl, ?_⟩
      · apply ev_seq
        · apply ev_set
          · apply ev_op
            · walk_at "ev"
            · apply ev_call
              · walk_at "ev"
              · exact rfl
              · exact rfl
              · exact t1
              · exact rfl
            · exact rfl
          · walk_at "put"
        · apply ev_set
          · apply ev_op
            · walk_at "ev"
            · apply ev_ix
              · walk_at "ev"
              · walk_at "ev"
              · exact ix_str (s := k_LETTERS) (k := (s + 1 + rv g' 3).toNat) (by omega) (by decide) hc
            · exact ev_addS (lim_of (by show _ + 1 ≤ _; omega))
          · walk_at "put"
      · have e := letters_at hc
        rw [List.pairwise_append]
        refine ⟨hp, List.pairwise_singleton _ _, fun a ha b hb => ?_⟩
        rw [List.mem_singleton] at hb
        have := hq a ha
        subst hb
        omega
      · have e := letters_at hc
        intro a ha
        rcases List.mem_append.mp ha with h | h
        · have := hq a h
          omega
        · rw [List.mem_singleton] at h
          subst h
          omega
      · rw [show k + 101 + 101 + 101 * (j + 1) = k + 101 + 101 + 101 * j + 101 by omega]
        exact t4)
  obtain ⟨s, L, g', v, rfl, hs0, hs1, hL, hp, hq, hl, hg'⟩ := h2
  rw [rangeD_len] at hl hg'
  refine ⟨L, g', ?_, hL, hp, by omega, by omega, hg'.mono (by omega), by omega⟩
  apply run_l_alphabet
  · unfold b_l_alphabet
    apply ev_seq
    · apply ev_set
      · apply ev_op
        · walk_at "ev"
        · apply ev_call
          · walk_at "ev"
          · exact rfl
          · exact rfl
          · exact r1
          · exact rfl
        · exact rfl
      · walk_at "put"
    apply ev_seq
    · apply ev_set
      · apply ev_call
        · walk_at "ev"
        · exact rfl
        · exact rfl
        · exact s1
        · exact rfl
      · walk_at "put"
    apply ev_seq
    · walk_at "ev"
    apply ev_seq
    · apply ev_for
      · apply ev_iRange
        · walk_at "ev"
        · exact ev_range1 (small62_of (by omega) (by omega))
      · exact h1
    · walk_at "ev"
  · exact rfl
theorem alphabet_ok {k : Nat} {g : D} {least : Int} (hg : GOk k g) (hk : k ≤ 800000000) (h0 : 0 < least) (h4 : least ≤ 4) : ∃ L g', F_l_alphabet [g, .int least] = some (.str L, [g']) ∧ Az L ∧ L.Pairwise (· < ·) ∧ 0 < L.length ∧ L.length ≤ 4 ∧ GOk (k + 1000) g' := by
  obtain ⟨L, g', r1, r2, r3, r4, r5, r6, _⟩ := alphabet_okL hg hk h0 h4
  exact ⟨L, g', r1, r2, r3, r4, r5, r6⟩
/-- an alphabet -/
structure Alph (L : List Nat) : Prop where
  az : Az L
  asc : L.Pairwise (· < ·)
  pos : 0 < L.length
  le4 : L.length ≤ 4
theorem not_ge {a b : Nat} (h : a < b) : geD (.str [a]) (.str [b]) = some (.bl false) := by
  show some (D.bl (decide ([b] ≤ [a]))) = _
  rw [decide_eq_false (List.not_le.mpr (by rw [List.cons_lt_cons_iff]; exact .inl h))]
/-! ### strings of other signs, other values; bounds; order -/
theorem tw_lt {p : Nat → Bool} : ∀ {l : List Nat}, (∃ c ∈ l, p c = false) → (l.takeWhile p).length < l.length
  | [], ⟨_, h, _⟩ => nomatch h
  | x :: l, ⟨c, h, hp⟩ => by
    by_cases hx : p x = true
    · rw [List.takeWhile_cons_of_pos hx, List.length_cons, List.length_cons]
      rcases List.mem_cons.mp h with rfl | h
      · rw [hx] at hp; cases hp
      · have := tw_lt (p := p) ⟨c, h, hp⟩
        omega
    · rw [List.takeWhile_cons_of_neg hx, List.length_cons, List.length_nil]
      omega
theorem stripL_some {a b : List Nat} (h : ∃ c ∈ a, c ∉ b) : stripL a b ≠ [] := by
  obtain ⟨c, hc, hb⟩ := h
  have e : Txt.stripChars (mkS a) (mkS b) = W.stripped (mkS b).cps.contains true true (mkS a) := PySem.W.stripBy_eq _ _ _ _
  show (Txt.stripChars (mkS a) (mkS b)).cps.toList ≠ []
  rw [e]
  have hp : (mkS b).cps.contains c = false := by
    rw [Bool.eq_false_iff]
    intro h
    rw [Array.contains_iff_mem, Array.mem_toList_iff.symm] at h
    exact hb h
  generalize (mkS b).cps.contains = p at hp
  show ((mkS a).cps.extract (a.takeWhile p).length ((mkS a).length - ((a.drop (a.takeWhile p).length).reverse.takeWhile p).length)).toList ≠ []
  rw [Array.toList_extract, mkS_len]
  have hd : c ∈ a.drop (a.takeWhile p).length := by
    have h1 : c ∈ a.takeWhile p ++ a.dropWhile p := by rw [List.takeWhile_append_dropWhile]; exact hc
    have h2 : a.drop (a.takeWhile p).length = a.dropWhile p := by
      have := congrArg (List.drop (a.takeWhile p).length) (List.takeWhile_append_dropWhile (p := p) (l := a))
      rw [List.drop_left] at this
      exact this.symm
    rw [h2]
    rcases List.mem_append.mp h1 with h1 | h1
    · have := List.all_takeWhile (p := p) (l := a)
      rw [List.all_eq_true] at this
      rw [this c h1] at hp
      cases hp
    · exact h1
  have h1 := tw_lt (p := p) (l := a) ⟨c, hc, hp⟩
  have h2 := tw_lt (p := p) (l := (a.drop (a.takeWhile p).length).reverse) ⟨c, List.mem_reverse.mpr hd, hp⟩
  rw [List.length_reverse, List.length_drop] at h2
  show (a.drop (a.takeWhile p).length).take _ ≠ []
  intro h
  have := congrArg List.length h
  rw [List.length_take, List.length_drop, List.length_nil] at this
  omega
theorem kit_ns : kitB "NoneType" "str" = some false := by decide +kernel
theorem kit_bs : kitB "bool" "str" = some false := by decide +kernel
theorem kit_is' : kitB "int" "str" = some false := by decide +kernel
theorem kit_ls : kitB "list" "str" = some false := by decide +kernel
theorem kit_ts : kitB "tuple" "str" = some false := by decide +kernel
theorem kit_ds : kitB "dict" "str" = some false := by decide +kernel
theorem isi_str : ∀ {d : D}, isStr d = false → isTy d = false → isiD [d, .ty "str"] = some (.bl false)
  | .non, _, _ => ev_isi rfl kit_ns
  | .bl _, _, _ => ev_isi rfl kit_bs
  | .int _, _, _ => ev_isi rfl kit_is'
  | .lst _, _, _ => ev_isi rfl kit_ls
  | .fls _, _, _ => ev_isi rfl kit_ls
  | .tup _, _, _ => ev_isi rfl kit_ts
  | .dic, _, _ => ev_isi rfl kit_ds
  | .str _, h, _ => nomatch h
  | .ty _, _, h => nomatch h
/-- no text of these signs -/
def Odd (k : List Nat) (d : D) : Prop := (isStr d = false ∧ isTy d = false) ∨ ∃ s, d = .str s ∧ s.length ≤ 1000 ∧ ∃ c ∈ s, c ∉ k
theorem is_string_F {k : List Nat} {d : D} (h : Odd k d) : F_is_string_of [d, .str k] = some (.bl false, []) := by
  refine Ret.is (wp_is_string_of ?_)
  unfold b_is_string_of
  rcases h with ⟨h, h2⟩ | ⟨s, rfl, hl, hs⟩
  · walk_at "vc"
    refine op_is (isi_str h h2) ?_
    walk_at "vc"
  · walk_at "vc"
    rw [decide_eq_false (stripL_some hs)]
    exact ⟨rfl, rfl⟩
theorem alone_F {d : D} (h : Odd k_LETTERS d) : F_is_letters_alone [d] = some (.bl false, []) := by
  have := is_string_F h
  refine Ret.is (wp_is_letters_alone ?_)
  unfold b_is_letters_alone
  walk_at "vc"
theorem is_whole_ok (i : Int) : F_is_whole [.int i] = some (.bl true, []) := by
  refine Ret.is (wp_is_whole ?_)
  unfold b_is_whole
  walk_at "vc"
/-- a bound that may be None -/
def Lo (d : D) (i : Int) : Prop := d = .non ∨ ∃ a, d = .int a ∧ a ≤ i
def Hi (d : D) (i : Int) : Prop := d = .non ∨ ∃ a, d = .int a ∧ i ≤ a
theorem is_between_ok {i : Int} {lo hi : D} (hl : Lo lo i) (hh : Hi hi i) : F_is_between [.int i, lo, hi] = some (.bl true, []) := by
  have h1 := is_whole_ok i
  refine Ret.is (wp_is_between ?_)
  unfold b_is_between
  rcases hl with rfl | ⟨a, rfl, ha⟩ <;> rcases hh with rfl | ⟨b, rfl, hb⟩ <;> (walk_at "vc"; try simp [*])
theorem check_number_ok {i : Int} {lo hi : D} (hl : Lo lo i) (hh : Hi hi i) : F_check_number [.int i, lo, hi] = some (.non, []) := by
  have h1 := is_between_ok hl hh
  refine Ret.is (wp_check_number ?_)
  unfold b_check_number
  walk_at "vc"
theorem az_lt {s : List Nat} (h : Az s) : ∀ c ∈ s, c < 1114112 := fun c hc => by
  have : ∀ d ∈ k_LETTERS, d < 1114112 := by decide
  exact this c (h c hc)

/-! ### the law's draws, for the walk backwards -/
theorem random_w {k : Nat} {g : D} {n : Int} {P : D → List D → Prop} (hg : GOk k g) (hk : k ≤ 900000000) (hn : 0 < n) (hn2 : n.natAbs < 2 ^ 3000) (h : ∀ (r : Nat) (g' : D), (r : Int) < n → GOk (k + 101) g' → P (.int (r : Int)) [g']) : Ret (F_l_random [g, .int n]) P := by
  obtain ⟨r1, r2, r3, r4⟩ := random_ok hg hk hn hn2
  obtain ⟨r, hr⟩ := Int.eq_ofNat_of_zero_le r2
  rw [hr] at r1 r3
  exact ⟨_, _, r1, h r _ r3 r4⟩
theorem text_w {k : Nat} {g : D} {L : List Nat} {n : Int} {P : D → List D → Prop} (hg : GOk k g) (hk : k ≤ 800000000) (hn0 : 0 ≤ n) (hn : n ≤ 1000) (hL0 : 0 < L.length) (hL2 : L.length ≤ 1000) (h : ∀ (s : List Nat) (g' : D), (∀ c ∈ s, c ∈ L) → (s.length : Int) = n → GOk (k + 101 * s.length) g' → P (.str s) [g']) : Ret (F_l_text [g, .str L, .int n]) P := by
  refine wp_l_text ?_
  unfold b_l_text
  walk_at "vc"
  refine comp_rg (fun j acc e => ∃ (s : List Nat) (g' : D), e = [.own true g', .val (.str L), .val (.int n), .no] ∧ acc = s.map (fun c => .str [c]) ∧ (∀ c ∈ s, c ∈ L) ∧ s.length = j ∧ GOk (k + 101 * j) g') (by omega) ⟨[], g, rfl, rfl, fun _ h => (nomatch h), rfl, hg⟩ ?_ ?_
  · rintro j hj acc e ⟨s, g1, rfl, rfl, h1, h2, h3⟩
    walk_at "vc"
    refine random_w h3 (by omega) (by omega) (by
      rw [Int.natAbs_natCast]
      exact Nat.lt_of_le_of_lt hL2 (by decide +kernel)) fun r g2 hr hg2 => ?_
    walk_at "vc"
    refine op_is (ix_str (k := r) rfl (by omega) (List.getElem?_eq_getElem (by omega))) ?_
    walk_at "vc"
    refine ⟨s ++ [L[r]], g2, rfl, by rw [List.map_append]; rfl, ?_, by rw [List.length_append, h2]; rfl, hg2.mono (by omega)⟩
    intro c hc
    rcases List.mem_append.mp hc with h | h
    · exact h1 c h
    · rw [List.mem_singleton] at h
      subst h
      exact List.getElem_mem _
  · rintro acc e ⟨s, g1, rfl, rfl, h1, h2, h3⟩
    walk_at "vc"
    refine op_is (ev_join1 (by omega)) ?_
    walk_at "vc"
    exact h s g1 h1 (by omega) (h3.mono (by omega))
theorem alphabet_w {k : Nat} {g : D} {least : Int} {P : D → List D → Prop} (hg : GOk k g) (hk : k ≤ 800000000) (h0 : 0 < least) (h4 : least ≤ 4) (h : ∀ (L : List Nat) (g' : D), Alph L → GOk (k + 1000) g' → P (.str L) [g']) : Ret (F_l_alphabet [g, .int least]) P := by
  obtain ⟨L, g', r1, r2, r3, r4, r5, r6⟩ := alphabet_ok hg hk h0 h4
  exact ⟨_, _, r1, h L g' ⟨r2, r3, r4, r5⟩ r6⟩
theorem alphabet_wL {k : Nat} {g : D} {least : Int} {P : D → List D → Prop} (hg : GOk k g) (hk : k ≤ 800000000) (h0 : 0 < least) (h4 : least ≤ 4) (h : ∀ (L : List Nat) (g' : D), Alph L → least ≤ (L.length : Int) → GOk (k + 1000) g' → P (.str L) [g']) : Ret (F_l_alphabet [g, .int least]) P := by
  obtain ⟨L, g', r1, r2, r3, r4, r5, r6, r7⟩ := alphabet_okL hg hk h0 h4
  exact ⟨_, _, r1, h L g' ⟨r2, r3, r4, r5⟩ r7 r6⟩
theorem generator_w {ns : List Int} {k : Nat} {P : D → List D → Prop} (hk : k ≤ 1000) (h : ∀ g, GOk (1000 * k) g → P g []) : Ret (F_l_generator [.fls (ns.map .int), .int (k : Int)]) P := by
  obtain ⟨g, h1, h2⟩ := generator_ok ns k hk
  exact ⟨_, _, h1, h g h2⟩
/-! ### counting the ways a word is spelt in a text: plain lists -/
def cnt : List Nat → List Nat → Nat
  | [], _ => 1
  | _ :: _, [] => 0
  | x :: w, c :: t => cnt (x :: w) t + if x = c then cnt w t else 0
theorem cnt_nil (t : List Nat) : cnt [] t = 1 := by unfold cnt; rfl
theorem cnt_e (x : Nat) (w : List Nat) : cnt (x :: w) [] = 0 := by unfold cnt; rfl
theorem cnt_cc (x c : Nat) (w t : List Nat) : cnt (x :: w) (c :: t) = cnt (x :: w) t + if x = c then cnt w t else 0 := by conv => lhs; unfold cnt
theorem cnt_le : ∀ (t w : List Nat), cnt w t ≤ 2 ^ t.length
  | [], [] => by rw [cnt_nil]; decide
  | [], x :: w => by rw [cnt_e]; exact Nat.zero_le _
  | c :: t, [] => by rw [cnt_nil]; exact Nat.one_le_two_pow
  | c :: t, x :: w => by
    rw [cnt_cc, List.length_cons, Nat.pow_succ]
    have h1 := cnt_le t (x :: w)
    have h2 := cnt_le t w
    split <;> omega
/-- the last letter of the text -/
theorem cnt_back : ∀ (p u : List Nat) (x c : Nat), cnt (u ++ [x]) (p ++ [c]) = cnt (u ++ [x]) p + if x = c then cnt u p else 0
  | [], [], x, c => by rw [List.nil_append, List.nil_append, cnt_cc, cnt_e, cnt_nil]
  | [], y :: u, x, c => by
    rw [List.nil_append, List.cons_append, cnt_cc, cnt_e, cnt_e]
    have : cnt (u ++ [x]) [] = 0 := by cases u; exact cnt_e _ _; exact cnt_e _ _
    rw [this]
    split <;> split <;> rfl
  | d :: p, [], x, c => by
    rw [List.nil_append, List.cons_append, cnt_cc, cnt_cc]
    have := cnt_back p [] x c
    rw [List.nil_append] at this
    simp only [this, cnt_nil]
    split <;> split <;> omega
  | d :: p, y :: u, x, c => by
    rw [List.cons_append, List.cons_append, cnt_cc, cnt_cc]
    have h1 := cnt_back p (y :: u) x c
    have h2 := cnt_back p u x c
    rw [List.cons_append] at h1
    rw [h1, cnt_cc, h2]
    split <;> split <;> omega
theorem cnt_rev : ∀ (t w : List Nat), cnt w.reverse t.reverse = cnt w t
  | t, [] => by rw [List.reverse_nil, cnt_nil, cnt_nil]
  | [], x :: w => by
    rw [List.reverse_nil, List.reverse_cons, cnt_e]
    cases w.reverse with
    | nil => exact cnt_e _ _
    | cons a r => exact cnt_e _ _
  | c :: t, x :: w => by
    rw [List.reverse_cons, List.reverse_cons, cnt_back, cnt_cc, cnt_rev t w]
    have := cnt_rev t (x :: w)
    rw [List.reverse_cons] at this
    rw [this]
theorem cnt_filter (p : Nat → Bool) : ∀ (t w : List Nat), (∀ x ∈ w, p x = true) → cnt w (t.filter p) = cnt w t
  | _, [], _ => by rw [cnt_nil, cnt_nil]
  | [], x :: w, _ => rfl
  | c :: t, x :: w, h => by
    have h1 := cnt_filter p t (x :: w) h
    have h2 := cnt_filter p t w fun y hy => h y (List.mem_cons_of_mem _ hy)
    cases hp : p c with
    | true => rw [List.filter_cons_of_pos hp, cnt_cc, cnt_cc, h1, h2]
    | false =>
      rw [List.filter_cons_of_neg (by rw [hp]; exact Bool.false_ne_true), cnt_cc, h1, if_neg, Nat.add_zero]
      rintro rfl
      rw [h x List.mem_cons_self] at hp
      cases hp
def twice (t : List Nat) : List Nat := (t.map fun c => [c, c]).flatten
theorem twice_cons (c : Nat) (t : List Nat) : twice (c :: t) = c :: c :: twice t := rfl
theorem cnt_skip {c : Nat} : ∀ (w t : List Nat), c ∉ w → cnt w (c :: t) = cnt w t
  | [], t, _ => by rw [cnt_nil, cnt_nil]
  | x :: w, t, h => by rw [cnt_cc, if_neg (fun e => h (by rw [e]; exact List.mem_cons_self)), Nat.add_zero]
theorem cnt_twice : ∀ (t w : List Nat), w.Nodup → cnt w (twice t) = 2 ^ w.length * cnt w t
  | _, [], _ => by rw [cnt_nil, cnt_nil]; rfl
  | [], x :: w, _ => by rw [cnt_e]; exact (cnt_e _ _).trans rfl
  | c :: t, x :: w, h => by
    rw [List.nodup_cons] at h
    have h1 := cnt_twice t (x :: w) (List.nodup_cons.mpr h)
    have h2 := cnt_twice t w h.2
    rw [twice_cons, cnt_cc, cnt_cc, cnt_cc, h1]
    by_cases hx : x = c
    · subst hx
      rw [if_pos rfl, if_pos rfl, if_pos rfl, cnt_skip w _ h.1, h2, List.length_cons, Nat.pow_succ, Nat.mul_add]
      have : 2 ^ w.length * 2 * cnt w t = 2 * (2 ^ w.length * cnt w t) := by rw [Nat.mul_comm (2 ^ w.length) 2, Nat.mul_assoc]
      omega
    · rw [if_neg hx, if_neg hx, if_neg hx]
      rfl
/-- the text in two parts: the word is cut at every place -/
def cuts (w s t : List Nat) : Nat := ((List.range (w.length + 1)).map fun k => cnt (w.take k) s * cnt (w.drop k) t).sum
theorem sum_two (f g : Nat → Nat) : ∀ l : List Nat, (l.map fun k => f k + g k).sum = (l.map f).sum + (l.map g).sum
  | [] => rfl
  | k :: l => by simp only [List.map_cons, List.sum_cons, sum_two f g l]; omega
theorem sum_zero {f : Nat → Nat} : ∀ l : List Nat, (∀ k ∈ l, f k = 0) → (l.map f).sum = 0
  | [], _ => rfl
  | k :: l, h => by rw [List.map_cons, List.sum_cons, h k List.mem_cons_self, sum_zero l fun j hj => h j (List.mem_cons_of_mem _ hj)]
theorem cuts_nil (s t : List Nat) : cuts [] s t = 1 := by
  show cnt [] s * cnt [] t + 0 = 1
  rw [cnt_nil, cnt_nil]
theorem cuts_cons (x : Nat) (w s t : List Nat) : cuts (x :: w) s t = cnt (x :: w) t + ((List.range (w.length + 1)).map fun k => cnt (x :: w.take k) s * cnt (w.drop k) t).sum := by
  unfold cuts
  rw [List.length_cons, List.range_succ_eq_map, List.map_cons, List.sum_cons, List.map_map, List.take_zero, List.drop_zero, cnt_nil, Nat.one_mul]
  rfl
theorem cuts_eq : ∀ (s w t : List Nat), cuts w s t = cnt w (s ++ t)
  | _, [], t => by rw [cuts_nil, cnt_nil]
  | [], x :: w, t => by
    rw [cuts_cons, List.nil_append, sum_zero, Nat.add_zero]
    intro k _
    rw [cnt_e, Nat.zero_mul]
  | c :: s, x :: w, t => by
    have h1 := cuts_eq s (x :: w) t
    have h2 := cuts_eq s w t
    rw [cuts_cons] at h1
    rw [cuts_cons, List.cons_append, cnt_cc, ← h1, ← h2]
    by_cases hx : x = c
    · rw [if_pos hx, Nat.add_assoc]
      unfold cuts
      rw [← sum_two]
      congr 2
      refine List.map_congr_left fun k _ => ?_
      rw [cnt_cc, if_pos hx, Nat.add_mul]
    · rw [if_neg hx]
      rw [Nat.add_zero]
      refine congrArg (cnt (x :: w) t + ·) (congrArg List.sum (List.map_congr_left fun k _ => ?_))
      rw [cnt_cc, if_neg hx, Nat.add_zero]

/-! ### counts: rows of numbers -/
def rowN (n : Nat) (f : Nat → Nat) : List D := (List.range n).map fun i => .int ((f i : Nat) : Int)
theorem rowN_len (n : Nat) (f : Nat → Nat) : (rowN n f).length = n := by unfold rowN; rw [List.length_map, List.length_range]
theorem rowN_at {n k : Nat} {f : Nat → Nat} (h : k < n) : (rowN n f)[k]? = some (.int (f k : Nat)) := by
  unfold rowN
  rw [List.getElem?_map, List.getElem?_range h]
  rfl
theorem ix_rowN {n k : Nat} {i : Int} {f : Nat → Nat} (hi : i = (k : Int)) (h : k < n) : ixD (.lst (rowN n f)) (.int i) = some (.int (f k : Nat)) := by
  subst hi
  show atI (rowN n f) (k : Int) = _
  rw [atI_nat (rowN_at h)]
theorem rowN_set {n k v : Nat} {f : Nat → Nat} : (rowN n f).set k (.int (v : Nat)) = rowN n fun i => if i = k then v else f i := by
  apply List.ext_getElem?
  intro j
  by_cases hj : j < n
  · rw [rowN_at hj]
    by_cases c : k = j
    · subst c
      rw [List.getElem?_set_self (by rw [rowN_len]; exact hj), if_pos rfl]
    · rw [List.getElem?_set_ne c, rowN_at hj, if_neg (Ne.symm c)]
  · rw [List.getElem?_eq_none (by rw [List.length_set, rowN_len]; omega), List.getElem?_eq_none (by rw [rowN_len]; omega)]
theorem rowN_congr {n : Nat} {f g : Nat → Nat} (h : ∀ i, i < n → f i = g i) : rowN n f = rowN n g := List.map_congr_left fun i hi => by rw [h i (List.mem_range.mp hi)]
theorem rowN_one (m : Nat) : [D.int 1] ++ (List.replicate (m : Int).toNat [D.int 0]).flatten = rowN (m + 1) fun i => if i = 0 then 1 else 0 := by
  unfold rowN
  rw [List.range_succ_eq_map, List.map_cons, Int.toNat_natCast, List.map_map]
  refine congrArg (D.int 1 :: ·) ?_
  show (List.replicate m [D.int 0]).flatten = _
  induction m with
  | zero => rfl
  | succ m ih =>
    rw [List.replicate_succ', List.flatten_append, ih, List.range_succ, List.map_append]
    rfl
theorem rowN_zero (m : Nat) : (List.replicate (m : Int).toNat [D.int 0]).flatten ++ [D.int 1] = rowN (m + 1) fun i => if i = m then 1 else 0 := by
  unfold rowN
  rw [List.range_succ, List.map_append, Int.toNat_natCast]
  have e : (List.replicate m [D.int 0]).flatten = (List.range m).map fun i => D.int ((if i = m then 1 else 0 : Nat) : Int) := by
    have : (List.range m).map (fun i => D.int ((if i = m then 1 else 0 : Nat) : Int)) = (List.range m).map fun _ => D.int 0 := List.map_congr_left fun i hi => by
      rw [if_neg (Nat.ne_of_lt (List.mem_range.mp hi))]
      rfl
    rw [this]
    clear this
    induction m with
    | zero => rfl
    | succ m ih =>
      rw [List.replicate_succ', List.flatten_append, ih, List.range_succ, List.map_append]
      rfl
  rw [e]
  show _ = _ ++ [D.int ((if m = m then 1 else 0 : Nat) : Int)]
  rw [if_pos rfl]
  rfl
/-- a word's beginning, one letter more -/
theorem cnt_step {w t : List Nat} {a j : Nat} (ha : a < w.length) (hj : j < t.length) : cnt (w.take (a + 1)) (t.take (j + 1)) = cnt (w.take (a + 1)) (t.take j) + if w[a] = t[j] then cnt (w.take a) (t.take j) else 0 := by
  rw [List.take_add_one (l := w), List.take_add_one (l := t), List.getElem?_eq_getElem ha, List.getElem?_eq_getElem hj]
  exact cnt_back _ _ _ _
theorem cnt_0 (t : List Nat) (a : Nat) (w : List Nat) (h : w.length ≥ a) : cnt (w.take a) [] = if a = 0 then 1 else 0 := by
  cases a with
  | zero => rw [List.take_zero, cnt_nil]; rfl
  | succ a =>
    cases w with
    | nil => exact absurd h (by show ¬ 0 ≥ a + 1; omega)
    | cons x w => rw [List.take_succ_cons, cnt_e]; rfl
/-- the row of beginnings in the middle of a letter: the last `i` are done -/
def bg (w t : List Nat) (j i a : Nat) : Nat := cnt (w.take a) (t.take (if w.length - i < a then j + 1 else j))
theorem bg_0 (w t : List Nat) (j : Nat) : (rowN (w.length + 1) fun a => cnt (w.take a) (t.take j)) = rowN (w.length + 1) (bg w t j 0) := rowN_congr fun a ha => by
  unfold bg
  rw [if_neg (show ¬ w.length - 0 < a by omega)]
theorem bg_end (w t : List Nat) (j : Nat) : rowN (w.length + 1) (bg w t j w.length) = rowN (w.length + 1) fun a => cnt (w.take a) (t.take (j + 1)) := rowN_congr fun a ha => by
  unfold bg
  by_cases c : w.length - w.length < a
  · rw [if_pos c]
  · have : a = 0 := by omega
    subst this
    rw [List.take_zero, cnt_nil, cnt_nil]
theorem bg_no {w t : List Nat} {j i k : Nat} (hk : k < w.length) (hki : k = w.length - i - 1) (hj : j < t.length) (h : w[k] ≠ t[j]) : rowN (w.length + 1) (bg w t j i) = rowN (w.length + 1) (bg w t j (i + 1)) := rowN_congr fun a ha => by
  unfold bg
  by_cases c : w.length - i < a
  · rw [if_pos c, if_pos (by omega)]
  · rw [if_neg c]
    by_cases c2 : w.length - (i + 1) < a
    · have : a = k + 1 := by omega
      subst this
      rw [if_pos c2, cnt_step hk hj, if_neg h]
      rfl
    · rw [if_neg c2]
theorem bg_yes {w t : List Nat} {j i k : Nat} (hk : k < w.length) (hki : k = w.length - i - 1) (hi : i < w.length) (hj : j < t.length) (h : w[k] = t[j]) : (rowN (w.length + 1) (bg w t j i)).set (k + 1) (.int ((bg w t j i (k + 1) + bg w t j i k : Nat) : Int)) = rowN (w.length + 1) (bg w t j (i + 1)) := by
  rw [rowN_set]
  refine rowN_congr fun a ha => ?_
  by_cases c0 : a = k + 1
  · subst c0
    rw [if_pos rfl]
    unfold bg
    rw [if_neg (show ¬ w.length - i < k + 1 by omega), if_neg (show ¬ w.length - i < k by omega), if_pos (show w.length - (i + 1) < k + 1 by omega), cnt_step hk hj, if_pos h]
  · rw [if_neg c0]
    unfold bg
    by_cases c : w.length - i < a
    · rw [if_pos c, if_pos (by omega)]
    · rw [if_neg c, if_neg (by omega)]
theorem str_eq1 {a b : Nat} : ([a] = [b]) = (a = b) := by simp
theorem beginnings_ok {w t : List Nat} (hw : w.length ≤ 1000) (ht : t.length ≤ 1000) : F_beginnings [.str w, .str t] = some (.lst (rowN (w.length + 1) fun a => cnt (w.take a) t), []) := by
  refine Ret.is (wp_beginnings ?_)
  unfold b_beginnings
  walk_at "vc"
  refine op_is (ev_addLL (lim_of (by rw [← List.length_append, rowN_one, rowN_len]; omega))) ?_
  walk_at "vc"
  rw [rowN_one]
  refine loop_map (xs := t) (E := fun c => .str [c]) (fun j e => ∃ v3 v4, e = [.val (.str w), .val (.str t), .own false (.lst (rowN (w.length + 1) fun a => cnt (w.take a) (t.take j))), v3, v4]) ⟨.no, .no, ?_⟩ ?_ ?_
  · rw [rowN_congr fun i hi => (cnt_0 t i w (by omega)).symm]
    rfl
  · rintro j hj e ⟨v3, v4, rfl⟩
    walk_at "vc"
    rw [bg_0]
    refine loop_rgC (fun i e => ∃ v4, e = [.val (.str w), .val (.str t), .own false (.lst (rowN (w.length + 1) (bg w t j i))), .val (.str [t[j]]), v4]) ⟨v4, rfl⟩ ?_ ?_
    · rintro i hi e ⟨v4, rfl⟩
      walk_at "vc"
      have hk : w.length - i - 1 < w.length := by omega
      refine op_is (ix_str (k := w.length - i - 1) (by omega) (by omega) (List.getElem?_eq_getElem hk)) ?_
      walk_at "vc"
      refine br_dec (fun c => ?_) fun c => ?_
      · rw [str_eq1] at c
        walk_at "vc"
        refine op_is (ix_rowN (k := w.length - i - 1 + 1) (by omega) (by omega)) ?_
        walk_at "vc"
        refine op_is (ix_rowN (k := w.length - i - 1) (by omega) (by omega)) ?_
        walk_at "vc"
        refine op_is (ixN_of (by omega) (by rw [rowN_len]; omega)) ?_
        walk_at "vc"
        rw [show (↑w.length + ↑i * (-1) : Int).toNat = w.length - i - 1 + 1 by omega, ← Int.natCast_add, bg_yes hk rfl (by omega) hj c]
        exact ⟨_, rfl⟩
      · rw [str_eq1] at c
        walk_at "vc"
        rw [bg_no hk rfl hj c]
        exact ⟨_, rfl⟩
    · rintro e ⟨v4, rfl⟩
      walk_at "vc"
      rw [show ((w.length : Int) - 0).toNat = w.length by omega, bg_end]
      exact ⟨_, _, rfl⟩
  · rintro e ⟨v3, v4, rfl⟩
    walk_at "vc"
    rw [List.take_length]
    exact ⟨rfl, rfl⟩
theorem count_of_ok {w t : List Nat} (hw : w.length ≤ 1000) (ht : t.length ≤ 1000) : F_count_of [.str w, .str t] = some (.int (cnt w t : Nat), []) := by
  have h := beginnings_ok hw ht
  refine Ret.is (wp_count_of ?_)
  unfold b_count_of
  walk_at "vc"
  refine op_is (ix_rowN (k := w.length) (by omega) (by omega)) ?_
  walk_at "vc"
  rw [List.take_length]
  exact ⟨rfl, rfl⟩
theorem l_count_ok {w t : List Nat} (hw : w.length ≤ 1000) (ht : t.length ≤ 1000) : F_l_count [.str w, .str t] = some (.int (cnt w t : Nat), []) := by
  refine Ret.is (wp_l_count ?_)
  unfold b_l_count
  walk_at "vc"
  refine op_is (ev_addLL (lim_of (by rw [← List.length_append, rowN_one, rowN_len]; omega))) ?_
  walk_at "vc"
  rw [rowN_one]
  refine loop_map (xs := t) (E := fun c => .str [c]) (fun j e => ∃ v3 v4, e = [.val (.str w), .val (.str t), .own false (.lst (rowN (w.length + 1) fun a => cnt (w.take a) (t.take j))), v3, v4]) ⟨.no, .no, ?_⟩ ?_ ?_
  · rw [rowN_congr fun i hi => (cnt_0 t i w (by omega)).symm]
    rfl
  · rintro j hj e ⟨v3, v4, rfl⟩
    walk_at "vc"
    rw [bg_0, show (0 - 1 : Int) = -1 from rfl]
    refine op_is (ev_range3 (and_of (small62_of (by omega) (by omega)) (by decide))) ?_
    walk_at "vc"
    refine loop_rgC (fun i e => ∃ v4, e = [.val (.str w), .val (.str t), .own false (.lst (rowN (w.length + 1) (bg w t j i))), .val (.str [t[j]]), v4]) ⟨v4, rfl⟩ ?_ ?_
    · rintro i hi e ⟨v4, rfl⟩
      walk_at "vc"
      have hk : w.length - i - 1 < w.length := by omega
      refine op_is (ix_str (k := w.length - i - 1) (by omega) (by omega) (List.getElem?_eq_getElem hk)) ?_
      walk_at "vc"
      refine br_dec (fun c => ?_) fun c => ?_
      · rw [str_eq1] at c
        walk_at "vc"
        refine op_is (ix_rowN (k := w.length - i - 1 + 1) (by omega) (by omega)) ?_
        walk_at "vc"
        refine op_is (ix_rowN (k := w.length - i - 1) (by omega) (by omega)) ?_
        walk_at "vc"
        refine op_is (ixN_of (by omega) (by rw [rowN_len]; omega)) ?_
        walk_at "vc"
        rw [show (↑w.length - 1 + ↑i * (-1) + 1 : Int).toNat = w.length - i - 1 + 1 by omega, ← Int.natCast_add, bg_yes hk rfl (by omega) hj c]
        exact ⟨_, rfl⟩
      · rw [str_eq1] at c
        walk_at "vc"
        rw [bg_no hk rfl hj c]
        exact ⟨_, rfl⟩
    · rintro e ⟨v4, rfl⟩
      walk_at "vc"
      rw [show ((w.length : Int) - 1 - -1).toNat = w.length by omega, bg_end]
      exact ⟨_, _, rfl⟩
  · rintro e ⟨v3, v4, rfl⟩
    walk_at "vc"
    refine op_is (ix_rowN (k := w.length) (by omega) (by omega)) ?_
    walk_at "vc"
    rw [List.take_length, List.take_length]
    exact ⟨rfl, rfl⟩

/-! ### the pair's checks, count, rows of endings -/
theorem check_word_ok {s : List Nat} (h : Az s) (hl : s.length ≤ 1000) : F_check_word [.str s] = some (.non, []) := by
  have h1 := alone_ok h hl
  refine Ret.is (wp_check_word ?_)
  unfold b_check_word
  walk_at "vc"
theorem check_pair_ok {w t : List Nat} (hw : Az w) (ht : Az t) (hwl : w.length ≤ 1000) (htl : t.length ≤ 1000) : F_check_pair [.str w, .str t] = some (.non, []) := by
  have h1 := check_word_ok hw hwl
  have h2 := check_text_ok ht htl
  refine Ret.is (wp_check_pair ?_)
  unfold b_check_pair
  walk_at "vc"
theorem count_ok {w t : List Nat} (hw : Az w) (ht : Az t) (hwl : w.length ≤ 1000) (htl : t.length ≤ 1000) : F_count [.str w, .str t] = some (.int (cnt w t : Nat), []) := by
  have h1 := check_pair_ok hw ht hwl htl
  have h2 := count_of_ok hwl htl
  refine Ret.is (wp_count ?_)
  unfold b_count
  walk_at "vc"
def enR (w t : List Nat) (p a : Nat) : Nat := cnt (w.drop a) (t.drop p)
theorem enR_step {w t : List Nat} {p a : Nat} (ha : a < w.length) (hp : p < t.length) : enR w t p a = enR w t (p + 1) a + if w[a] = t[p] then enR w t (p + 1) (a + 1) else 0 := by
  unfold enR
  rw [List.drop_eq_getElem_cons ha, List.drop_eq_getElem_cons hp, cnt_cc]
theorem enR_last (w t : List Nat) (p : Nat) (hp : p ≤ t.length) : enR w t p w.length = 1 := by
  unfold enR
  rw [List.drop_length, cnt_nil]
def rowD (w t : List Nat) (p : Nat) : D := .lst (rowN (w.length + 1) (enR w t p))
def rowsD (w t : List Nat) : D := .lst ((List.range (t.length + 1)).map (rowD w t))
def em (w t : List Nat) (p at' a : Nat) : Nat := if a < at' then enR w t p a else enR w t (p + 1) a
theorem em_0 (w t : List Nat) (p : Nat) : rowN (w.length + 1) (enR w t (p + 1)) = rowN (w.length + 1) (em w t p 0) := rowN_congr fun a ha => by
  unfold em
  rw [if_neg (Nat.not_lt_zero a)]
theorem em_end (w t : List Nat) (p : Nat) (hp : p < t.length) : rowN (w.length + 1) (em w t p w.length) = rowN (w.length + 1) (enR w t p) := rowN_congr fun a ha => by
  unfold em
  by_cases c : a < w.length
  · rw [if_pos c]
  · rw [if_neg c, show a = w.length by omega, enR_last _ _ _ (by omega), enR_last _ _ _ (by omega)]
theorem em_no {w t : List Nat} {p k : Nat} (hk : k < w.length) (hp : p < t.length) (h : w[k] ≠ t[p]) : rowN (w.length + 1) (em w t p k) = rowN (w.length + 1) (em w t p (k + 1)) := rowN_congr fun a ha => by
  unfold em
  by_cases c : a < k
  · rw [if_pos c, if_pos (by omega)]
  · rw [if_neg c]
    by_cases c2 : a < k + 1
    · have : a = k := by omega
      subst this
      rw [if_pos c2, enR_step hk hp, if_neg h]
      rfl
    · rw [if_neg c2]
theorem em_yes {w t : List Nat} {p k : Nat} (hk : k < w.length) (hp : p < t.length) (h : w[k] = t[p]) : (rowN (w.length + 1) (em w t p k)).set k (.int ((em w t p k k + em w t p k (k + 1) : Nat) : Int)) = rowN (w.length + 1) (em w t p (k + 1)) := by
  rw [rowN_set]
  refine rowN_congr fun a ha => ?_
  by_cases c0 : a = k
  · subst c0
    rw [if_pos rfl]
    unfold em
    rw [if_neg (Nat.lt_irrefl a), if_neg (show ¬ a + 1 < a by omega), if_pos (Nat.lt_succ_self a), enR_step hk hp, if_pos h]
  · rw [if_neg c0]
    unfold em
    by_cases c : a < k
    · rw [if_pos c, if_pos (by omega)]
    · rw [if_neg c, if_neg (by omega)]
theorem rows_back (f : Nat → D) (n : Nat) : ((List.range (n + 1)).map fun i => f (n - i)).reverse = (List.range (n + 1)).map f := by
  apply List.ext_getElem
  · rw [List.length_reverse, List.length_map, List.length_map]
  · intro i h1 h2
    rw [List.length_map, List.length_range] at h2
    rw [List.getElem_reverse, List.getElem_map, List.getElem_map, List.getElem_range, List.getElem_range, List.length_map, List.length_range]
    congr 1
    omega
theorem endings_ok {w t : List Nat} (hw : w.length ≤ 1000) (ht : t.length ≤ 1000) : F_endings_behind [.str w, .str t] = some (rowsD w t, []) := by
  refine Ret.is (wp_endings_behind ?_)
  unfold b_endings_behind
  walk_at "vc"
  refine op_is (ev_addLL (lim_of (by rw [← List.length_append, rowN_zero, rowN_len]; omega))) ?_
  walk_at "vc"
  rw [rowN_zero]
  refine loop_map (xs := t.reverse) (E := fun c => .str [c]) (fun j e => ∃ v4 v5, e = [.val (.str w), .val (.str t), .val (rowD w t (t.length - j)), .own false (.lst ((List.range (j + 1)).map fun i => rowD w t (t.length - i))), v4, v5]) ⟨.no, .no, ?_⟩ ?_ ?_
  · have e0 : rowN (w.length + 1) (enR w t t.length) = rowN (w.length + 1) fun i => if i = w.length then 1 else 0 := rowN_congr fun a ha => by
      unfold enR
      rw [List.drop_length]
      by_cases c : a = w.length
      · rw [if_pos c, c, List.drop_length, cnt_nil]
      · rw [if_neg c, List.drop_eq_getElem_cons (show a < w.length by omega), cnt_e]
    rw [← e0]
    rfl
  · rintro j hj e ⟨v4, v5, rfl⟩
    walk_at "vc"
    rw [List.length_reverse] at hj
    have hp : t.length - (j + 1) < t.length := by omega
    have hx : t.reverse[j]'(by rw [List.length_reverse]; exact hj) = t[t.length - (j + 1)] := by
      rw [List.getElem_reverse]
      congr 1
      omega
    rw [hx, show t.length - j = t.length - (j + 1) + 1 by omega, em_0]
    refine loop_rn (fun i e => ∃ v5, e = [.val (.str w), .val (.str t), .own false (.lst (rowN (w.length + 1) (em w t (t.length - (j + 1)) i))), .own false (.lst ((List.range (j + 1)).map fun i => rowD w t (t.length - i))), .val (.str [t[t.length - (j + 1)]]), v5]) ⟨v5, rfl⟩ ?_ ?_
    · rintro i hi e ⟨v5, rfl⟩
      walk_at "vc"
      refine op_is (ix_str (k := i) rfl (by omega) (List.getElem?_eq_getElem hi)) ?_
      walk_at "vc"
      refine br_dec (fun c => ?_) fun c => ?_
      · rw [str_eq1] at c
        walk_at "vc"
        refine op_is (ix_rowN (k := i) rfl (by omega)) ?_
        walk_at "vc"
        refine op_is (ix_rowN (k := i + 1) (by omega) (by omega)) ?_
        walk_at "vc"
        refine op_is (ixN_of (by omega) (by rw [rowN_len]; omega)) ?_
        walk_at "vc"
        rw [Int.toNat_natCast, ← Int.natCast_add, em_yes hi hp c]
        exact ⟨_, rfl⟩
      · rw [str_eq1] at c
        walk_at "vc"
        rw [em_no hi hp c]
        exact ⟨_, rfl⟩
    · rintro e ⟨v5, rfl⟩
      walk_at "vc"
      rw [em_end w t _ hp, List.range_succ (n := j + 1), List.map_append]
      exact ⟨_, _, rfl⟩
  · rintro e ⟨v4, v5, rfl⟩
    walk_at "vc"
    rw [List.length_reverse, rows_back]
    exact ⟨rfl, rfl⟩
/-- a look into the rows -/
theorem ix_rows {w t : List Nat} {i : Int} {p : Nat} (hi : i = (p : Int)) (h : p ≤ t.length) : ixD (rowsD w t) (.int i) = some (rowD w t p) := by
  subst hi
  show atI ((List.range (t.length + 1)).map (rowD w t)) (p : Int) = _
  refine atI_nat ?_
  rw [List.getElem?_map, List.getElem?_range (by omega)]
  rfl
theorem ix_rowD {w t : List Nat} {i : Int} {p a : Nat} (hi : i = (a : Int)) (h : a ≤ w.length) : ixD (rowD w t p) (.int i) = some (.int (enR w t p a : Nat)) := ix_rowN hi (by omega)

/-! ### readings, in plain -/
/-- the n-th reading of w in t; t begins at the place p -/
def rd : List Nat → List Nat → Nat → Nat → List Nat
  | [], _, _, _ => []
  | _ :: _, [], _, _ => []
  | x :: w, c :: t, p, n => if c = x then (if n < cnt w t then p :: rd w t (p + 1) n else rd (x :: w) t (p + 1) (n - cnt w t)) else rd (x :: w) t (p + 1) n
theorem rd_nil (t : List Nat) (p n : Nat) : rd [] t p n = [] := by unfold rd; rfl
theorem rd_take {x c : Nat} {w t : List Nat} {p n : Nat} (h : c = x) (h2 : n < cnt w t) : rd (x :: w) (c :: t) p n = p :: rd w t (p + 1) n := by
  conv => lhs; unfold rd
  rw [if_pos h, if_pos h2]
theorem rd_skip {x c : Nat} {w t : List Nat} {p n : Nat} (h : c = x) (h2 : ¬ n < cnt w t) : rd (x :: w) (c :: t) p n = rd (x :: w) t (p + 1) (n - cnt w t) := by
  conv => lhs; unfold rd
  rw [if_pos h, if_neg h2]
theorem rd_ne {x c : Nat} {w t : List Nat} {p n : Nat} (h : ¬ c = x) : rd (x :: w) (c :: t) p n = rd (x :: w) t (p + 1) n := by
  conv => lhs; unfold rd
  rw [if_neg h]
/-- qs spell w in T from the place p on -/
def Sp : List Nat → List Nat → Nat → List Nat → Prop
  | [], _, _, [] => True
  | x :: w, T, p, q :: qs => p ≤ q ∧ T[q]? = some x ∧ Sp w T (q + 1) qs
  | _, _, _, _ => False
theorem Sp.mono : ∀ {w T : List Nat} {p r : Nat} {qs : List Nat}, Sp w T p qs → r ≤ p → Sp w T r qs
  | [], _, _, _, [], _, _ => trivial
  | _ :: _, _, _, _, _ :: _, ⟨h1, h2, h3⟩, h => ⟨Nat.le_trans h h1, h2, h3⟩
theorem Sp.len : ∀ {w T : List Nat} {p : Nat} {qs : List Nat}, Sp w T p qs → qs.length = w.length
  | [], _, _, [], _ => rfl
  | _ :: _, _, _, _ :: _, ⟨_, _, h⟩ => congrArg Nat.succ h.len
theorem drop_next {T t : List Nat} {c p : Nat} (h : T.drop p = c :: t) : T[p]? = some c ∧ T.drop (p + 1) = t := by
  have hp : p < T.length := by
    have := congrArg List.length h
    rw [List.length_drop, List.length_cons] at this
    omega
  rw [List.drop_eq_getElem_cons hp] at h
  injection h with h1 h2
  exact ⟨by rw [List.getElem?_eq_getElem hp, h1], h2⟩
/-- what cnt says of a first letter -/
theorem cnt_split {x c n : Nat} {w t : List Nat} (h : n < cnt (x :: w) (c :: t)) : (c = x ∧ n < cnt w t) ∨ (c = x ∧ ¬ n < cnt w t ∧ n - cnt w t < cnt (x :: w) t) ∨ (¬ c = x ∧ n < cnt (x :: w) t) := by
  rw [cnt_cc] at h
  by_cases e : c = x
  · rw [if_pos e.symm] at h
    by_cases h2 : n < cnt w t
    · exact .inl ⟨e, h2⟩
    · exact .inr (.inl ⟨e, h2, by omega⟩)
  · rw [if_neg (Ne.symm e)] at h
    exact .inr (.inr ⟨e, h⟩)
theorem sp_rd {T : List Nat} : ∀ (t w : List Nat) (p n : Nat), T.drop p = t → n < cnt w t → Sp w T p (rd w t p n) := by
  intro t
  induction t with
  | nil =>
    intro w p n ht h
    cases w with
    | nil => rw [rd_nil]; trivial
    | cons x w => rw [cnt_e] at h; exact absurd h (Nat.not_lt_zero _)
  | cons c t ih =>
    intro w p n ht h
    obtain ⟨hc, ht'⟩ := drop_next ht
    cases w with
    | nil => rw [rd_nil]; trivial
    | cons x w =>
      rcases cnt_split h with ⟨e, h2⟩ | ⟨e, h2, h3⟩ | ⟨e, h2⟩
      · rw [rd_take e h2]
        exact ⟨Nat.le_refl _, by rw [hc, e], ih w (p + 1) n ht' h2⟩
      · rw [rd_skip e h2]
        exact (ih (x :: w) (p + 1) _ ht' h3).mono (Nat.le_succ _)
      · rw [rd_ne e]
        exact (ih (x :: w) (p + 1) _ ht' h2).mono (Nat.le_succ _)
/-- the readings jumped over by a place -/
def seg (x : Nat) (w T : List Nat) (p k : Nat) : Nat := (((List.range k).filter fun i => decide (T[p + i]? = some x)).map fun i => cnt w (T.drop (p + i + 1))).sum
theorem seg_0 (x : Nat) (w T : List Nat) (p : Nat) : seg x w T p 0 = 0 := rfl
theorem seg_succ (x : Nat) (w T : List Nat) (p k : Nat) : seg x w T p (k + 1) = (if T[p]? = some x then cnt w (T.drop (p + 1)) else 0) + seg x w T (p + 1) k := by
  unfold seg
  have e : ∀ l : List Nat, (((l.map Nat.succ).filter fun i => decide (T[p + i]? = some x)).map fun i => cnt w (T.drop (p + i + 1))).sum = ((l.filter fun i => decide (T[p + 1 + i]? = some x)).map fun i => cnt w (T.drop (p + 1 + i + 1))).sum := fun l => by
    rw [List.filter_map, List.map_map]
    have e1 : ∀ i, p + Nat.succ i = p + 1 + i := fun i => by omega
    congr 1
    have : ((fun i => decide (T[p + i]? = some x)) ∘ Nat.succ) = fun i => decide (T[p + 1 + i]? = some x) := funext fun i => by show decide (T[p + Nat.succ i]? = some x) = _; rw [e1]
    rw [this]
    exact List.map_congr_left fun i _ => by show cnt w (T.drop (p + Nat.succ i + 1)) = _; rw [e1]
  rw [List.range_succ_eq_map]
  by_cases h : T[p]? = some x
  · rw [if_pos h, List.filter_cons_of_pos (by rw [Nat.add_zero]; exact decide_eq_true h), List.map_cons, List.sum_cons, e]
  · rw [if_neg h, List.filter_cons_of_neg (by rw [Nat.add_zero, decide_eq_false h]; exact Bool.false_ne_true), e, Nat.zero_add]
/-- the number of the reading qs -/
def num : List Nat → List Nat → Nat → List Nat → Nat
  | x :: w, T, p, q :: qs => seg x w T p (q - p) + num w T (q + 1) qs
  | _, _, _, _ => 0
theorem num_skip {x : Nat} {w T : List Nat} {p : Nat} : ∀ {qs : List Nat}, Sp (x :: w) T (p + 1) qs → num (x :: w) T p qs = (if T[p]? = some x then cnt w (T.drop (p + 1)) else 0) + num (x :: w) T (p + 1) qs
  | q :: qs, ⟨h, _, _⟩ => by
    unfold num
    rw [show q - p = q - (p + 1) + 1 by omega, seg_succ, Nat.add_assoc]
theorem num_rd {T : List Nat} : ∀ (t w : List Nat) (p n : Nat), T.drop p = t → n < cnt w t → num w T p (rd w t p n) = n := by
  intro t
  induction t with
  | nil =>
    intro w p n ht h
    cases w with
    | nil =>
      rw [cnt_nil] at h
      unfold num
      omega
    | cons x w => rw [cnt_e] at h; exact absurd h (Nat.not_lt_zero _)
  | cons c t ih =>
    intro w p n ht h
    obtain ⟨hc, ht'⟩ := drop_next ht
    cases w with
    | nil =>
      rw [cnt_nil] at h
      unfold num
      omega
    | cons x w =>
      rcases cnt_split h with ⟨e, h2⟩ | ⟨e, h2, h3⟩ | ⟨e, h2⟩
      · rw [rd_take e h2]
        unfold num
        rw [Nat.sub_self, seg_0, ih w (p + 1) n ht' h2, Nat.zero_add]
      · rw [rd_skip e h2, num_skip (sp_rd t _ _ _ ht' h3), ih _ _ _ ht' h3, hc, e, if_pos rfl, ht']
        omega
      · rw [rd_ne e, num_skip (sp_rd t _ _ _ ht' h2), ih _ _ _ ht' h2, hc, if_neg (fun h => e (Option.some.inj h)), Nat.zero_add]
def intz (qs : List Nat) : List Int := qs.map Int.ofNat
theorem lex_head {w T : List Nat} {x p : Nat} : ∀ {qs rs : List Nat}, Sp (x :: w) T (p + 1) qs → HT.lexLt (intz (p :: rs)) (intz qs) = true
  | q :: qs, rs, ⟨h, _, _⟩ => by
    show (if (p : Int) = (q : Int) then _ else decide ((p : Int) < (q : Int))) = true
    rw [if_neg (by omega), decide_eq_true (by omega)]
theorem lex_rd {T : List Nat} : ∀ (t w : List Nat) (p n m : Nat), T.drop p = t → n < m → m < cnt w t → HT.lexLt (intz (rd w t p n)) (intz (rd w t p m)) = true := by
  intro t
  induction t with
  | nil =>
    intro w p n m ht hn h
    cases w with
    | nil => rw [cnt_nil] at h; omega
    | cons x w => rw [cnt_e] at h; exact absurd h (Nat.not_lt_zero _)
  | cons c t ih =>
    intro w p n m ht hn h
    obtain ⟨hc, ht'⟩ := drop_next ht
    cases w with
    | nil => rw [cnt_nil] at h; omega
    | cons x w =>
      rcases cnt_split h with ⟨e, h2⟩ | ⟨e, h2, h3⟩ | ⟨e, h2⟩
      · rw [rd_take e h2, rd_take e (by omega)]
        have := ih w (p + 1) n m ht' hn h2
        show (if (p : Int) = (p : Int) then HT.lexLt (intz _) (intz _) else _) = true
        rw [if_pos rfl, this]
      · rw [rd_skip e h2]
        by_cases h4 : n < cnt w t
        · rw [rd_take e h4]
          exact lex_head (sp_rd t _ _ _ ht' h3)
        · rw [rd_skip e h4]
          exact ih _ _ _ _ ht' (by omega) h3
      · rw [rd_ne e, rd_ne e]
        exact ih _ _ _ _ ht' hn h2

/-! ### reading -/
def tupI (qs : List Nat) : D := .tup ((intz qs).map .int)
theorem reading_ok {w t : List Nat} {n : Nat} (hw : Az w) (ht : Az t) (hwl : w.length ≤ 1000) (htl : t.length ≤ 1000) (hn : n < cnt w t) : F_reading [.str w, .str t, .int (n : Int)] = some (tupI (rd w t 0 n), []) := by
  have h1 := check_pair_ok hw ht hwl htl
  have h2 := count_of_ok hwl htl
  have h3 : F_check_number [.int (n : Int), .int 0, .int ((cnt w t : Int) - 1)] = some (.non, []) := check_number_ok (.inr ⟨_, rfl, by omega⟩) (.inr ⟨_, rfl, by omega⟩)
  have h4 := endings_ok hwl htl
  refine Ret.is (wp_reading ?_)
  unfold b_reading
  walk_at "vc"
  refine loop_enum (fun a e => ∃ (m p : Nat) (v6 v7 : Lv) (qs : List Nat), m < cnt (w.drop a) (t.drop p) ∧ p ≤ t.length ∧ qs.length = a ∧ qs ++ rd (w.drop a) (t.drop p) p m = rd w t 0 n ∧ e = [.val (.str w), .val (.str t), .val (.int (m : Int)), .val (rowsD w t), .own false (.lst ((intz qs).map .int)), .val (.int (p : Int)), v6, v7]) ⟨n, 0, .no, .no, [], hn, Nat.zero_le _, rfl, rfl, rfl⟩ ?_ ?_
  · rintro a ha e ⟨m, p, v6, v7, qs, hm, hp, hql, hqs, rfl⟩
    walk_at "vc"
    refine s_while (k := t.length - p) (fun k e => ∃ (m p : Nat), k = t.length - p ∧ m < cnt (w.drop a) (t.drop p) ∧ p ≤ t.length ∧ qs ++ rd (w.drop a) (t.drop p) p m = rd w t 0 n ∧ e = [.val (.str w), .val (.str t), .val (.int (m : Int)), .val (rowsD w t), .own false (.lst ((intz qs).map .int)), .val (.int (p : Int)), .val (.int (a : Int)), .val (.str [w[a]])]) ⟨m, p, rfl, hm, hp, hqs, rfl⟩ (by omega) ?_
    clear hm hp hqs
    rintro k e ⟨m, p, rfl, hm, hp, hqs, rfl⟩
    have hp2 : p < t.length := by
      refine Nat.lt_of_le_of_ne hp fun c => ?_
      subst c
      rw [List.drop_length, List.drop_eq_getElem_cons ha, cnt_e] at hm
      exact Nat.not_lt_zero _ hm
    rw [List.drop_eq_getElem_cons ha, List.drop_eq_getElem_cons hp2] at hm hqs
    walk_at "vc"
    refine op_is (ix_str (k := p) rfl (by omega) (List.getElem?_eq_getElem hp2)) ?_
    walk_at "vc"
    refine br_dec (fun c => ?_) fun c => ?_
    · rw [str_eq1] at c
      walk_at "vc"
      refine op_is (ix_rows (p := p + 1) (by omega) (by omega)) ?_
      walk_at "vc"
      refine op_is (ix_rowD (a := a + 1) (by omega) (by omega)) ?_
      walk_at "vc"
      unfold enR
      rcases cnt_split hm with ⟨_, m2⟩ | ⟨_, m2, m3⟩ | ⟨c2, _⟩
      · refine br_decF (by omega) ?_
        have hlim : lim (((intz qs).map D.int).length + 1) = true := lim_of (by rw [List.length_map]; unfold intz; rw [List.length_map]; omega)
        walk_at "vc"
        refine ⟨m, p + 1, .val (.int (a : Int)), .val (.str [w[a]]), qs ++ [p], m2, hp2, by rw [List.length_append, hql]; rfl, ?_, ?_⟩
        rotate_left
        · rw [show intz (qs ++ [p]) = intz qs ++ [(p : Int)] from List.map_append, List.map_append]
          rfl
        rw [← hqs, rd_take c m2, List.append_assoc]
        rfl
      · refine br_decT (by omega) ?_
        walk_at "vc"
        refine op_is (ix_str (k := p) rfl (by omega) (List.getElem?_eq_getElem hp2)) ?_
        walk_at "vc"
        refine br_decT (str_eq1.mpr c) ?_
        walk_at "vc"
        refine op_is (ix_rows (p := p + 1) (by omega) (by omega)) ?_
        walk_at "vc"
        refine op_is (ix_rowD (a := a + 1) (by omega) (by omega)) ?_
        walk_at "vc"
        unfold enR
        refine ⟨t.length - (p + 1), by omega, m - cnt (w.drop (a + 1)) (t.drop (p + 1)), p + 1, rfl, ?_, hp2, ?_, ?_⟩
        · rw [List.drop_eq_getElem_cons ha]
          exact m3
        · rw [← hqs, rd_skip c m2, List.drop_eq_getElem_cons ha]
        · rw [show ((m - cnt (w.drop (a + 1)) (t.drop (p + 1)) : Nat) : Int) = (m : Int) - (cnt (w.drop (a + 1)) (t.drop (p + 1)) : Nat) by omega]
          rfl
      · exact absurd c c2
    · rw [str_eq1] at c
      walk_at "vc"
      refine op_is (ix_str (k := p) rfl (by omega) (List.getElem?_eq_getElem hp2)) ?_
      walk_at "vc"
      refine br_decF (by rw [str_eq1]; exact c) ?_
      walk_at "vc"
      refine ⟨t.length - (p + 1), by omega, m, p + 1, rfl, ?_, hp2, ?_, ?_⟩
      · rw [List.drop_eq_getElem_cons ha]
        rcases cnt_split hm with ⟨c2, _⟩ | ⟨c2, _⟩ | ⟨_, m3⟩
        · exact absurd c2 c
        · exact absurd c2 c
        · exact m3
      · rw [← hqs, rd_ne c, List.drop_eq_getElem_cons ha]
      · rw [Int.sub_zero]
        rfl
  · rintro e ⟨m, p, v6, v7, qs, hm, hp, hql, hqs, rfl⟩
    walk_at "vc"
    rw [List.drop_length, rd_nil, List.append_nil] at hqs
    rw [hqs]
    exact ⟨rfl, rfl⟩

/-! ### spells, reading_number -/
theorem kit_tt : kitB "tuple" "tuple" = some true := by decide +kernel
theorem intz_len (qs : List Nat) : (intz qs).length = qs.length := List.length_map ..
theorem num_nil (w T : List Nat) (p : Nat) : num w T p [] = 0 := by unfold num; cases w <;> rfl
theorem spells_ok {w t qs : List Nat} (hwl : w.length ≤ 1000) (htl : t.length ≤ 1000) (hs : Sp w t 0 qs) : F_spells [.str w, .str t, tupI qs] = some (.bl true, []) := by
  have hl : qs.length = w.length := hs.len
  refine Ret.is (wp_spells ?_)
  unfold b_spells tupI
  walk_at "vc"
  have hL : (((intz qs).map D.int).length : Int) = (w.length : Int) := by rw [List.length_map, intz_len, hl]
  refine br_decT hL ?_
  walk_at "vc"
  refine op_is (zipS_of (xs := (intz qs).map D.int) (ys := w.map fun c => .str [c]) rfl rfl (by rw [List.length_map, List.length_map, intz_len, hl])) ?_
  walk_at "vc"
  refine loop_zip (fun a e => ∃ (l : Int) (v4 v5 : Lv), -1 ≤ l ∧ Sp (w.drop a) t (l + 1).toNat (qs.drop a) ∧ e = [.val (.str w), .val (.str t), .val (.tup ((intz qs).map D.int)), .val (.int l), v4, v5]) ⟨-1, .no, .no, Int.le_refl _, (show Sp w t 0 qs from hs), rfl⟩ ?_ ?_
  · rintro a ha ha2 e ⟨l, v4, v5, hl0, hsp, rfl⟩
    rw [intz_len] at ha
    have hx : (intz qs)[a]'(by rw [intz_len]; exact ha) = (qs[a] : Int) := List.getElem_map ..
    rw [List.drop_eq_getElem_cons ha, List.drop_eq_getElem_cons ha2] at hsp
    obtain ⟨g1, g2, g3⟩ := hsp
    obtain ⟨g4, g5⟩ := List.getElem?_eq_some_iff.mp g2
    have hw := is_whole_ok (qs[a] : Int)
    rw [hx]
    walk_at "vc"
    refine op_is (ix_str (k := qs[a]) rfl (by omega) g2) ?_
    walk_at "vc"
    refine ⟨_, _, _, by omega, ?_, rfl⟩
    rw [show ((qs[a] : Int) + 1).toNat = qs[a] + 1 by omega]
    exact g3
  · rintro e ⟨l, v4, v5, hl0, hsp, rfl⟩
    walk_at "vc"
theorem reading_number_ok {w t qs : List Nat} (hw : Az w) (ht : Az t) (hwl : w.length ≤ 1000) (htl : t.length ≤ 1000) (hs : Sp w t 0 qs) : F_reading_number [.str w, .str t, tupI qs] = some (.int (num w t 0 qs : Nat), []) := by
  have h1 := check_pair_ok hw ht hwl htl
  have h2 := spells_ok hwl htl hs
  have h4 := endings_ok hwl htl
  have hl : qs.length = w.length := hs.len
  refine Ret.is (wp_reading_number ?_)
  unfold b_reading_number
  walk_at "vc"
  refine loop_enum (fun a e => ∃ (m p : Nat) (v6 v7 : Lv), Sp (w.drop a) t p (qs.drop a) ∧ m + num (w.drop a) t p (qs.drop a) = num w t 0 qs ∧ e = [.val (.str w), .val (.str t), .val (tupI qs), .val (rowsD w t), .val (.int (m : Int)), .val (.int (p : Int)), v6, v7, .no]) ⟨0, 0, .no, .no, hs, Nat.zero_add _, rfl⟩ ?_ ?_
  · rintro a ha e ⟨m, p, v6, v7, hsp, hnum, rfl⟩
    rw [intz_len] at ha
    have ha2 : a < w.length := by omega
    have hx : (intz qs)[a]'(by rw [intz_len]; exact ha) = (qs[a] : Int) := List.getElem_map ..
    rw [List.drop_eq_getElem_cons ha, List.drop_eq_getElem_cons ha2] at hsp hnum
    obtain ⟨g1, g2, g3⟩ := hsp
    obtain ⟨g4, g5⟩ := List.getElem?_eq_some_iff.mp g2
    rw [hx]
    walk_at "vc"
    refine comp_pureR (fun i => decide (t[p + i]? = some w[a])) (fun i => .int (enR w t (p + i + 1) (a + 1) : Nat)) (by omega) (fun i hi => ?_) ?_
    · have hi2 : p + i < t.length := by omega
      walk_at "vc"
      refine op_is (ix_str (k := p + i) (by omega) (by omega) (List.getElem?_eq_getElem hi2)) ?_
      walk_at "vc"
      refine op_is (ix_str (k := a) rfl (by omega) (List.getElem?_eq_getElem ha2)) ?_
      walk_at "vc"
      refine ⟨by rw [List.getElem?_eq_getElem hi2]; simp, ?_⟩
      walk_at "vc"
      refine br_dec (fun c => ?_) (fun c => ?_)
      · walk_at "vc"
        refine op_is (ix_rows (p := p + i + 1) (by omega) (by omega)) ?_
        walk_at "vc"
        refine op_is (ix_rowD (a := a + 1) (by omega) (by omega)) ?_
        walk_at "vc"
      · walk_at "vc"
    · have hs : sumD [.lst (((List.range ((qs[a] : Int) - p).toNat).filter fun i => decide (t[p + i]? = some w[a])).map fun i => D.int (enR w t (p + i + 1) (a + 1) : Nat))] = some (.int (seg w[a] (w.drop (a + 1)) t p (qs[a] - p) : Nat)) := by
        unfold seg
        rw [show ((qs[a] : Int) - p).toNat = qs[a] - p by omega, ← sum_nat, ← ev_sum, List.map_map]
        rfl
      walk_at "vc"
      refine ⟨m + seg w[a] (w.drop (a + 1)) t p (qs[a] - p), qs[a] + 1, .val (.int (a : Int)), .val (.int (qs[a] : Int)), g3, ?_, ?_⟩
      · rw [← hnum]
        show _ = m + (seg w[a] (w.drop (a + 1)) t p (qs[a] - p) + num (w.drop (a + 1)) t (qs[a] + 1) (qs.drop (a + 1)))
        rw [Nat.add_assoc]
      · rw [Int.natCast_add, Int.natCast_add]
        rfl
  · rintro e ⟨m, p, v6, v7, hsp, hnum, rfl⟩
    walk_at "vc"
    rw [intz_len, List.drop_length] at hnum
    have h0 : num (w.drop qs.length) t p [] = 0 := num_nil _ _ _
    rw [h0, Nat.add_zero] at hnum
    rw [hnum]
    exact ⟨rfl, rfl⟩
theorem is_reading_ok {w t qs : List Nat} (hw : Az w) (ht : Az t) (hwl : w.length ≤ 1000) (htl : t.length ≤ 1000) (hs : Sp w t 0 qs) : F_is_reading [.str w, .str t, tupI qs] = some (.bl true, []) := by
  have h1 := check_pair_ok hw ht hwl htl
  have h2 := spells_ok hwl htl hs
  refine Ret.is (wp_is_reading ?_)
  unfold b_is_reading
  walk_at "vc"

/-! ### used, in plain -/
def sumR (n : Nat) (f : Nat → Nat) : Nat := ((List.range n).map f).sum
theorem sumR_0 (f : Nat → Nat) : sumR 0 f = 0 := rfl
theorem sumR_congr {n : Nat} {f g : Nat → Nat} (h : ∀ i, i < n → f i = g i) : sumR n f = sumR n g := by
  unfold sumR
  rw [List.map_congr_left fun i hi => h i (List.mem_range.mp hi)]
theorem sumR_front (n : Nat) (f : Nat → Nat) : sumR (n + 1) f = f 0 + sumR n fun i => f (i + 1) := by
  unfold sumR
  rw [List.range_succ_eq_map, List.map_cons, List.sum_cons, List.map_map]
  rfl
theorem sumR_back (n : Nat) (f : Nat → Nat) : sumR (n + 1) f = sumR n f + f n := by
  unfold sumR
  rw [List.range_succ, List.map_append, List.sum_append]
  show _ + (f n + 0) = _
  omega
theorem sumR_add (n : Nat) (f g : Nat → Nat) : sumR n (fun i => f i + g i) = sumR n f + sumR n g := by
  induction n with
  | zero => rfl
  | succ n ih => rw [sumR_back, sumR_back, sumR_back, ih]; omega
theorem sumR_const (n c : Nat) : sumR n (fun _ => c) = n * c := by
  induction n with
  | zero => rw [Nat.zero_mul]; rfl
  | succ n ih => rw [sumR_back, ih, Nat.succ_mul]
theorem sumR_zero (n : Nat) : sumR n (fun _ => 0) = 0 := by rw [sumR_const, Nat.mul_zero]
theorem sumR_swap (n m : Nat) (f : Nat → Nat → Nat) : sumR n (fun i => sumR m (f i)) = sumR m fun j => sumR n fun i => f i j := by
  induction n with
  | zero => exact (sumR_zero m).symm
  | succ n ih =>
    rw [sumR_back, ih, ← sumR_add]
    exact sumR_congr fun j _ => (sumR_back n fun i => f i j).symm
theorem sumR_filter (n : Nat) (p : Nat → Bool) (f : Nat → Nat) : (((List.range n).filter p).map f).sum = sumR n fun i => if p i = true then f i else 0 := by
  induction n with
  | zero => rfl
  | succ n ih =>
    rw [sumR_back, ← ih, List.range_succ, List.filter_append, List.map_append, List.sum_append]
    congr 1
    cases h : p n with
    | true => rw [List.filter_cons_of_pos h, if_pos rfl]; rfl
    | false => rw [List.filter_cons_of_neg (by rw [h]; exact Bool.false_ne_true), if_neg Bool.false_ne_true]; rfl
/-- a word through one of its letters -/
theorem cnt_mid (x : Nat) (v : List Nat) : ∀ (t u : List Nat), cnt (u ++ x :: v) t = sumR t.length fun j => if t[j]? = some x then cnt u (t.take j) * cnt v (t.drop (j + 1)) else 0 := by
  intro t
  induction t with
  | nil => intro u; cases u <;> exact cnt_e _ _
  | cons c t ih =>
    intro u
    rw [List.length_cons, sumR_front]
    cases u with
    | nil =>
      rw [List.nil_append, cnt_cc, ← List.nil_append (x :: v), ih []]
      have e : (if (c :: t)[0]? = some x then cnt [] ((c :: t).take 0) * cnt v ((c :: t).drop (0 + 1)) else 0) = if x = c then cnt v t else 0 := by
        rw [List.getElem?_cons_zero]
        by_cases h : x = c
        · subst h
          rw [if_pos rfl, if_pos rfl, cnt_nil, Nat.one_mul]
          rfl
        · rw [if_neg (show ¬ some c = some x from fun k => h (Option.some.inj k).symm), if_neg h]
      rw [e, Nat.add_comm]
      congr 1
      refine sumR_congr fun j _ => ?_
      rw [cnt_nil, cnt_nil]
      rfl
    | cons y u =>
      rw [List.cons_append, cnt_cc, ← List.cons_append, ih (y :: u), ih u]
      have e : (if (c :: t)[0]? = some x then cnt (y :: u) ((c :: t).take 0) * cnt v ((c :: t).drop (0 + 1)) else 0) = 0 := by
        rw [List.take_zero, cnt_e, Nat.zero_mul]
        exact ite_self 0
      rw [e, Nat.zero_add]
      have e2 : ∀ j, (if (c :: t)[j + 1]? = some x then cnt (y :: u) ((c :: t).take (j + 1)) * cnt v ((c :: t).drop (j + 1 + 1)) else 0) = (if t[j]? = some x then cnt (y :: u) (t.take j) * cnt v (t.drop (j + 1)) else 0) + if y = c then (if t[j]? = some x then cnt u (t.take j) * cnt v (t.drop (j + 1)) else 0) else 0 := fun j => by
        rw [List.getElem?_cons_succ, List.take_succ_cons, List.drop_succ_cons, cnt_cc]
        by_cases h : t[j]? = some x
        · rw [if_pos h, if_pos h, if_pos h, Nat.add_mul]
          by_cases h2 : y = c
          · rw [if_pos h2, if_pos h2]
          · rw [if_neg h2, if_neg h2, Nat.zero_mul]
        · rw [if_neg h, if_neg h, if_neg h, ite_self]
      rw [sumR_congr fun j _ => e2 j, sumR_add]
      congr 1
      by_cases h2 : y = c
      · rw [if_pos h2]
        exact sumR_congr fun j _ => (if_pos h2).symm
      · rw [if_neg h2, sumR_congr fun j _ => if_neg h2, sumR_zero]
/-- what used tells of a place -/
def us (w t : List Nat) (j : Nat) : Nat := sumR w.length fun a => if w[a]? = t[j]? then cnt (w.take a) (t.take j) * cnt (w.drop (a + 1)) (t.drop (j + 1)) else 0
theorem us_sum (w t : List Nat) : sumR t.length (us w t) = w.length * cnt w t := by
  unfold us
  rw [sumR_swap, ← sumR_const]
  refine sumR_congr fun a ha => ?_
  conv => rhs; rw [← List.take_append_drop a w, List.drop_eq_getElem_cons ha, cnt_mid]
  refine sumR_congr fun j hj => ?_
  rw [List.getElem?_eq_getElem ha]
  by_cases h : t[j]? = some w[a]
  · rw [if_pos h, if_pos h.symm]
  · rw [if_neg h, if_neg (Ne.symm h)]
theorem cnt_lt {w t : List Nat} (h : t.length ≤ 1000) : ((cnt w t : Nat) : Int).natAbs < 2 ^ 1001 := Nat.lt_of_le_of_lt (cnt_le t w) (Nat.pow_lt_pow_right (by decide) (by omega))
/-! ### the row of beginnings, from above -/
def bw (w t : List Nat) (j m a : Nat) : Nat := cnt (w.take a) (t.take (if m < a then j + 1 else j))
theorem bw_0 (w t : List Nat) (j : Nat) : (rowN (w.length + 1) fun a => cnt (w.take a) (t.take j)) = rowN (w.length + 1) (bw w t j w.length) := rowN_congr fun a ha => by
  unfold bw
  rw [if_neg (show ¬ w.length < a by omega)]
theorem bw_end (w t : List Nat) (j : Nat) : rowN (w.length + 1) (bw w t j 0) = rowN (w.length + 1) fun a => cnt (w.take a) (t.take (j + 1)) := rowN_congr fun a ha => by
  unfold bw
  by_cases c : 0 < a
  · rw [if_pos c]
  · have : a = 0 := by omega
    subst this
    rw [List.take_zero, cnt_nil, cnt_nil]
theorem bw_same {w t : List Nat} {j m k : Nat} (hm : m ≤ w.length) (hj : j < t.length) (hk : k ≤ m) (h : ∀ a (ha : a < w.length), k ≤ a → a < m → w[a] ≠ t[j]) : rowN (w.length + 1) (bw w t j m) = rowN (w.length + 1) (bw w t j k) := rowN_congr fun b hb => by
  unfold bw
  by_cases c : m < b
  · rw [if_pos c, if_pos (by omega)]
  · rw [if_neg c]
    by_cases c2 : k < b
    · obtain ⟨a, rfl⟩ : ∃ a, b = a + 1 := ⟨b - 1, by omega⟩
      have ha : a < w.length := by omega
      rw [if_pos c2, cnt_step ha hj, if_neg (h a ha (by omega) (by omega))]
      rfl
    · rw [if_neg c2]
theorem bw_yes {w t : List Nat} {j k : Nat} (hk : k < w.length) (hj : j < t.length) (h : w[k] = t[j]) : (rowN (w.length + 1) (bw w t j (k + 1))).set (k + 1) (.int ((bw w t j (k + 1) (k + 1) + bw w t j (k + 1) k : Nat) : Int)) = rowN (w.length + 1) (bw w t j k) := by
  rw [rowN_set]
  refine rowN_congr fun a ha => ?_
  by_cases c0 : a = k + 1
  · subst c0
    rw [if_pos rfl]
    unfold bw
    rw [if_neg (Nat.lt_irrefl _), if_neg (show ¬ k + 1 < k by omega), if_pos (Nat.lt_succ_self k), cnt_step hk hj, if_pos h]
  · rw [if_neg c0]
    unfold bw
    by_cases c : k + 1 < a
    · rw [if_pos c, if_pos (by omega)]
    · rw [if_neg c, if_neg (by omega)]

/-! ### used -/
def thereL (w t : List Nat) (j : Nat) : List Nat := (List.range w.length).filter fun a => decide (w[a]? = t[j]?)
theorem there_at {w t : List Nat} {j a : Nat} (h : a ∈ thereL w t j) (hj : j < t.length) : ∃ ha : a < w.length, w[a] = t[j] := by
  unfold thereL at h
  obtain ⟨h1, h2⟩ := List.mem_filter.mp h
  have ha := List.mem_range.mp h1
  have h3 := of_decide_eq_true h2
  rw [List.getElem?_eq_getElem ha, List.getElem?_eq_getElem hj] at h3
  exact ⟨ha, Option.some.inj h3⟩
theorem there_of {w t : List Nat} {j a : Nat} (ha : a < w.length) (hj : j < t.length) (h : w[a] = t[j]) : a ∈ thereL w t j := by
  unfold thereL
  exact List.mem_filter.mpr ⟨List.mem_range.mpr ha, by rw [List.getElem?_eq_getElem ha, List.getElem?_eq_getElem hj, h]; exact decide_eq_true rfl⟩
theorem there_down (w t : List Nat) (j : Nat) : (thereL w t j).reverse.Pairwise (· > ·) := by
  rw [List.pairwise_reverse]
  exact List.Pairwise.filter _ List.pairwise_lt_range
theorem used_ok {w t : List Nat} (hw : Az w) (ht : Az t) (hwl : w.length ≤ 1000) (htl : t.length ≤ 1000) : F_used [.str w, .str t] = some (.lst (((List.range t.length).map fun j => ((us w t j : Nat) : Int)).map .int), []) := by
  have h1 := check_pair_ok hw ht hwl htl
  have h4 := endings_ok hwl htl
  refine Ret.is (wp_used ?_)
  unfold b_used
  walk_at "vc"
  refine op_is (ev_addLL (lim_of (by rw [← List.length_append, rowN_one, rowN_len]; omega))) ?_
  walk_at "vc"
  rw [rowN_one]
  refine loop_enum (fun j e => ∃ v5 v6 v7 v8, e = [.val (.str w), .val (.str t), .val (rowsD w t), .own false (.lst (rowN (w.length + 1) fun a => cnt (w.take a) (t.take j))), .own false (.lst (((List.range j).map fun j => ((us w t j : Nat) : Int)).map .int)), v5, v6, v7, v8]) ⟨.no, .no, .no, .no, ?_⟩ ?_ ?_
  · rw [rowN_congr fun i hi => (cnt_0 t i w (by omega)).symm]
    rfl
  · rintro j hj e ⟨v5, v6, v7, v8, rfl⟩
    walk_at "vc"
    refine comp_pureN (fun a => decide (w[a]? = t[j]?)) (fun a => .int (a : Nat)) (by omega) (fun i hi => ?_) ?_
    · walk_at "vc"
      refine op_is (ix_str (k := i) rfl (by omega) (List.getElem?_eq_getElem hi)) ?_
      walk_at "vc"
      refine ⟨by rw [List.getElem?_eq_getElem hi, List.getElem?_eq_getElem hj]; simp, ?_⟩
      walk_at "vc"
      refine br_dec (fun c => ?_) (fun c => ?_)
      · walk_at "vc"
      · walk_at "vc"
    · walk_at "vc"
      change Comp _ _ _ _ ((thereL w t j).map fun (a : Nat) => D.int (a : Int)) _ [_, _, _, _, _, _, _, .val (.lst ((thereL w t j).map fun (a : Nat) => D.int (a : Int))), _] _
      have hb : ∀ a, ((cnt (w.take a) (t.take j) : Nat) : Int).natAbs < 2 ^ 1001 := fun a => cnt_lt (by rw [List.length_take]; omega)
      have hb2 : ∀ a, ((enR w t (j + 1) a : Nat) : Int).natAbs < 2 ^ 1001 := fun a => cnt_lt (by rw [List.length_drop]; omega)
      refine comp_each (fun a => .int ((cnt (w.take a) (t.take j) * enR w t (j + 1) (a + 1) : Nat) : Int)) (Nat.le_trans (List.length_filter_le _ _) (by rw [List.length_range]; omega)) (fun a hax => ?_) ?_
      · obtain ⟨ha, hc⟩ := there_at hax hj
        walk_at "vc"
        refine op_is (ix_rowN (k := a) (by omega) (by omega)) ?_
        walk_at "vc"
        refine op_is (ix_rows (p := j + 1) (by omega) (by omega)) ?_
        walk_at "vc"
        refine op_is (ix_rowD (a := a + 1) (by omega) (by omega)) ?_
        walk_at "vc"
        refine op_mul_of 1001 1001 (hb _) (hb2 _) (by decide) ?_
        walk_at "vc"
        rw [← Int.natCast_mul]
        exact ⟨rfl, rfl⟩
      · have hs : sumD [.lst ((thereL w t j).map fun a => D.int ((cnt (w.take a) (t.take j) * enR w t (j + 1) (a + 1) : Nat) : Int))] = some (.int (us w t j : Nat)) := by
          have e : us w t j = ((thereL w t j).map fun a => cnt (w.take a) (t.take j) * enR w t (j + 1) (a + 1)).sum := by
            unfold us thereL
            rw [sumR_filter]
            exact sumR_congr fun i _ => by by_cases c : w[i]? = t[j]?; rw [if_pos c, if_pos (decide_eq_true c)]; rfl; rw [if_neg c, if_neg (by rw [decide_eq_false c]; exact Bool.false_ne_true)]
          rw [e, ← sum_nat, ← ev_sum, List.map_map]
          rfl
        have hlim : lim ((((List.range j).map fun j => ((us w t j : Nat) : Int)).map D.int).length + 1) = true := lim_of (by rw [List.length_map, List.length_map, List.length_range]; omega)
        walk_at "vc"
        rw [← List.map_reverse, bw_0, show ((List.range j).map fun j => ((us w t j : Nat) : Int)).map D.int ++ [D.int (us w t j : Nat)] = ((List.range (j + 1)).map fun j => ((us w t j : Nat) : Int)).map D.int by rw [List.range_succ, List.map_append, List.map_append]; rfl]
        refine loop_map (xs := (thereL w t j).reverse) (E := fun (a : Nat) => D.int (a : Int)) (fun i e => ∃ (m : Nat) (v8 : Lv), m ≤ w.length ∧ (∀ a (ha : a < w.length), a < m → w[a] = t[j] → a ∈ (thereL w t j).reverse.drop i) ∧ (∀ a ∈ (thereL w t j).reverse.drop i, a < m) ∧ e = [.val (.str w), .val (.str t), .val (rowsD w t), .own false (.lst (rowN (w.length + 1) (bw w t j m))), .own false (.lst (((List.range (j + 1)).map fun j => ((us w t j : Nat) : Int)).map .int)), .val (.int (j : Int)), .val (.str [t[j]]), .val (.lst ((thereL w t j).map fun (a : Nat) => D.int (a : Int))), v8]) ⟨w.length, .no, Nat.le_refl _, fun a ha _ h => List.mem_reverse.mpr (there_of ha hj h), fun a h => (there_at (List.mem_reverse.mp h) hj).1, rfl⟩ ?_ ?_
        · rintro i hi e ⟨m, v8, hm, g1, g2, rfl⟩
          have hd := there_down w t j
          rw [← List.take_append_drop i (thereL w t j).reverse, List.drop_eq_getElem_cons hi] at hd
          have hd2 := (List.pairwise_append.mp hd).2.1
          have hd3 := (List.pairwise_cons.mp hd2).1
          rw [List.drop_eq_getElem_cons hi] at g1 g2
          generalize hk : (thereL w t j).reverse[i] = k at g1 g2 hd3
          have hin : k ∈ thereL w t j := by rw [← hk]; exact List.mem_reverse.mp (List.getElem_mem hi)
          obtain ⟨hkl, hkc⟩ := there_at hin hj
          have hkm : k < m := g2 k List.mem_cons_self
          rw [bw_same hm hj (show k + 1 ≤ m from hkm) fun a ha h1 h2 h3 => by
            rcases List.mem_cons.mp (g1 a ha h2 h3) with h4 | h4
            · omega
            · have := hd3 a h4
              omega]
          walk_at "vc"
          refine op_is (ix_rowN (k := k + 1) (by omega) (by omega)) ?_
          walk_at "vc"
          refine op_is (ix_rowN (k := k) (by omega) (by omega)) ?_
          walk_at "vc"
          refine op_is (ixN_of (by omega) (by rw [rowN_len]; omega)) ?_
          walk_at "vc"
          rw [show ((k : Int) + 1).toNat = k + 1 by omega, ← Int.natCast_add, bw_yes hkl hj hkc]
          refine ⟨k, _, by omega, fun a ha h1 h2 => ?_, fun a ha => hd3 a ha, rfl⟩
          rcases List.mem_cons.mp (g1 a ha (by omega) h2) with h4 | h4
          · omega
          · exact h4
        · rintro e ⟨m, v8, hm, g1, g2, rfl⟩
          rw [List.drop_length] at g1
          rw [bw_same hm hj (Nat.zero_le m) (fun a ha _ h2 h3 => List.not_mem_nil (g1 a ha h2 h3)), bw_end]
          walk_at "vc"
          exact ⟨_, _, _, _, rfl⟩
  · rintro e ⟨v5, v6, v7, v8, rfl⟩
    walk_at "vc"

/-! ### choices -/
def ch : Nat → Nat → Nat
  | _, 0 => 1
  | 0, _ + 1 => 0
  | n + 1, m + 1 => ch n (m + 1) + ch n m
theorem ch_0 (n : Nat) : ch n 0 = 1 := by unfold ch; cases n <;> rfl
theorem ch_z (m : Nat) : ch 0 (m + 1) = 0 := by unfold ch; rfl
theorem ch_s (n m : Nat) : ch (n + 1) (m + 1) = ch n (m + 1) + ch n m := by conv => lhs; unfold ch
theorem ch_mul : ∀ n m : Nat, (m + 1) * ch n (m + 1) + m * ch n m = n * ch n m := by
  intro n
  induction n with
  | zero =>
    intro m
    cases m with
    | zero => rw [ch_z]; rfl
    | succ m => rw [ch_z, ch_z]; omega
  | succ n ih =>
    intro m
    cases m with
    | zero =>
      have := ih 0
      rw [ch_0] at this
      rw [ch_s, ch_0, ch_0]
      omega
    | succ m =>
      have a := ih (m + 1)
      have b := ih m
      rw [ch_s, ch_s]
      generalize ch n (m + 1 + 1) = x at *
      generalize ch n (m + 1) = y at *
      generalize ch n m = z at *
      simp only [Nat.add_mul, Nat.mul_add, Nat.one_mul] at *
      omega
theorem ch_step (n m : Nat) : (ch n m : Int) * ((n : Int) - (m : Int)) = ((m : Int) + 1) * (ch n (m + 1) : Int) := by
  have h : (((m + 1) * ch n (m + 1) + m * ch n m : Nat) : Int) = ((n * ch n m : Nat) : Int) := by rw [ch_mul]
  rw [Int.natCast_add, Int.natCast_mul, Int.natCast_mul, Int.natCast_mul, Int.natCast_add] at h
  rw [Int.mul_sub, Int.mul_comm (ch n m : Int) n, Int.mul_comm (ch n m : Int) m]
  show _ = ((m : Int) + ((1 : Nat) : Int)) * _
  omega
theorem ch_le : ∀ n m : Nat, ch n m ≤ 2 ^ n := by
  intro n
  induction n with
  | zero => intro m; cases m; rw [ch_0]; exact Nat.le_refl _; rw [ch_z]; exact Nat.zero_le _
  | succ n ih =>
    intro m
    cases m with
    | zero => rw [ch_0]; exact Nat.one_le_two_pow
    | succ m =>
      have := ih m
      have := ih (m + 1)
      rw [ch_s, Nat.pow_succ]
      omega
theorem cnt_all (q : Nat) : ∀ n m : Nat, cnt (List.replicate m q) (List.replicate n q) = ch n m := by
  intro n
  induction n with
  | zero =>
    intro m
    cases m with
    | zero => rw [ch_0]; exact cnt_nil _
    | succ m => rw [ch_z]; exact cnt_e _ _
  | succ n ih =>
    intro m
    cases m with
    | zero => rw [ch_0]; exact cnt_nil _
    | succ m => rw [ch_s, List.replicate_succ (n := m), List.replicate_succ (n := n), cnt_cc, if_pos rfl, ih m, ← List.replicate_succ, ih (m + 1)]
theorem cnt_none {x : Nat} {w : List Nat} : ∀ {t : List Nat}, x ∉ t → cnt (x :: w) t = 0
  | [], _ => cnt_e _ _
  | c :: t, h => by
    rw [cnt_cc, if_neg (fun (e : x = c) => h (by rw [e]; exact List.mem_cons_self)), cnt_none fun k => h (List.mem_cons_of_mem _ k)]
theorem cnt_two {a b : Nat} (hab : a ≠ b) (j n : Nat) : ∀ m i : Nat, cnt (List.replicate i a ++ List.replicate j b) (List.replicate m a ++ List.replicate n b) = ch m i * ch n j := by
  intro m
  induction m with
  | zero =>
    intro i
    cases i with
    | zero => rw [ch_0, Nat.one_mul]; exact cnt_all b n j
    | succ i =>
      rw [ch_z, Nat.zero_mul, List.replicate_succ, List.cons_append]
      exact cnt_none fun k => hab (List.eq_of_mem_replicate k)
  | succ m ih =>
    intro i
    cases i with
    | zero =>
      have := ih 0
      rw [List.replicate_succ (n := m), List.cons_append, cnt_skip, this, ch_0, ch_0]
      exact fun k => hab (List.eq_of_mem_replicate k)
    | succ i =>
      rw [ch_s, List.replicate_succ (n := i), List.replicate_succ (n := m), List.cons_append, List.cons_append, cnt_cc, if_pos rfl, ih i, ← List.cons_append, ← List.replicate_succ, ih (i + 1), Nat.add_mul]
theorem choices_ok {n m : Nat} (hn : n ≤ 1000) (hm : m ≤ 1000) : F_l_choices [.int (n : Int), .int (m : Int)] = some (.int (ch n m : Nat), []) := by
  refine Ret.is (wp_l_choices ?_)
  unfold b_l_choices
  walk_at "vc"
  refine loop_rn (fun k e => ∃ v3, e = [.val (.int (n : Int)), .val (.int (m : Int)), .val (.int (ch n k : Nat)), v3]) ⟨.no, by rw [ch_0]; rfl⟩ ?_ ?_
  · rintro k hk e ⟨v3, rfl⟩
    walk_at "vc"
    refine op_mul_of 1001 64 (Nat.lt_of_le_of_lt (ch_le n k) (Nat.pow_lt_pow_right (by decide) (by omega))) (Nat.lt_of_lt_of_le (show _ < 2000 by omega) (by decide)) (by decide) ?_
    rw [ch_step]
    walk_at "vc"
    rw [show (k : Int) + 1 = ((k + 1 : Nat) : Int) from rfl, Int.mul_ediv_cancel_left _ (by omega)]
    exact ⟨_, rfl⟩
  · rintro e ⟨v3, rfl⟩
    walk_at "vc"

/-! ### the law's own -/
theorem intz_ints (qs : List Nat) : intsOf ((intz qs).map D.int) = some (intz qs) := intsOf_map _
theorem ltTI_ok (a b : List Nat) : ltTI (tupI a) (tupI b) = some (.bl (HT.lexLt (intz a) (intz b))) := by
  unfold ltTI tupI
  show (match intsOf _ with | some ns => _ | none => none) = _
  rw [intz_ints]
  show (match intsOf _ with | some ns => _ | none => none) = _
  rw [intz_ints]
theorem numbers_w {k : Nat} {g : D} {w t : List Nat} {P : D → List D → Prop} (hg : GOk k g) (hk : k ≤ 800000000) (hw : Az w) (ht : Az t) (hwl : w.length ≤ 1000) (htl : t.length ≤ 1000) (h : ∀ g', GOk (k + 202) g' → P (.bl true) [g']) : Ret (F_l_numbers_right [g, .str w, .str t]) P := by
  have h1 := l_count_ok hwl htl
  have h2 := count_ok hw ht hwl htl
  have h3 := used_ok hw ht hwl htl
  have hb : ((cnt w t : Nat) : Int).natAbs < 2 ^ 3000 := Nat.lt_of_le_of_lt (cnt_le t w) (Nat.pow_lt_pow_right (by decide) (by omega))
  refine wp_l_numbers_right ?_
  unfold b_l_numbers_right
  walk_at "vc"
  refine br_dec (fun c => ?_) (fun c => ?_)
  · walk_at "vc"
    exact h g (hg.mono (by omega))
  have hpos : 0 < (cnt w t : Int) := by omega
  walk_at "vc"
  refine random_w hg (by omega) hpos hb fun r1 g1 hr1 hg1 => ?_
  walk_at "vc"
  refine random_w hg1 (by omega) hpos hb fun r2 g2 hr2 hg2 => ?_
  walk_at "vc"
  rw [show ((cnt w t : Nat) : Int) - 1 = ((cnt w t - 1 : Nat) : Int) by omega]
  refine loop_map (xs := [0, cnt w t - 1, r1, r2]) (E := fun (n : Nat) => D.int (n : Int)) (fun i e => ∃ v4 v5, e = [.own true g2, .val (.str w), .val (.str t), .val (.int (cnt w t : Nat)), v4, v5, .no]) ⟨.no, .no, rfl⟩ ?_ ?_
  · rintro i hi e ⟨v4, v5, rfl⟩
    have hn : [0, cnt w t - 1, r1, r2][i] < cnt w t := by
      have : ∀ x ∈ [0, cnt w t - 1, r1, r2], x < cnt w t := fun x hx => by
        simp only [List.mem_cons, List.not_mem_nil, or_false] at hx
        omega
      exact this _ (List.getElem_mem _)
    generalize [0, cnt w t - 1, r1, r2][i] = n at hn
    have p1 := reading_ok hw ht hwl htl hn
    have s1 := sp_rd (T := t) t w 0 n List.drop_zero hn
    have p2 := is_reading_ok hw ht hwl htl s1
    have p3 := reading_number_ok hw ht hwl htl s1
    rw [num_rd t w 0 n List.drop_zero hn] at p3
    walk_at "vc"
    refine br_dec (fun c2 => ?_) (fun c2 => ?_)
    · have hn2 : n + 1 < cnt w t := by omega
      have p4 : F_reading [.str w, .str t, .int ((n : Int) + 1)] = some (tupI (rd w t 0 (n + 1)), []) := reading_ok hw ht hwl htl hn2
      have s2 := sp_rd (T := t) t w 0 (n + 1) List.drop_zero hn2
      have p5 : F_reading_number [.str w, .str t, tupI (rd w t 0 (n + 1))] = some (.int ((n : Int) + 1), []) := by
        rw [reading_number_ok hw ht hwl htl s2, num_rd t w 0 (n + 1) List.drop_zero hn2]
        rfl
      have p6 := ltTI_ok (rd w t 0 n) (rd w t 0 (n + 1))
      rw [lex_rd t w 0 n (n + 1) List.drop_zero (Nat.lt_succ_self n) hn2] at p6
      walk_at "vc"
    · walk_at "vc"
  · rintro e ⟨v4, v5, rfl⟩
    have h5 : sumD [.lst (((List.range t.length).map fun j => ((us w t j : Nat) : Int)).map D.int)] = some (.int ((w.length * cnt w t : Nat) : Int)) := by
      rw [ev_sum, sum_nat, ← us_sum]
      rfl
    walk_at "vc"
    refine br_decT (by rw [List.length_map, List.length_map, List.length_range]) ?_
    walk_at "vc"
    refine op_mul_of 64 1001 (Nat.lt_of_le_of_lt (show _ ≤ 1000 from hwl) (by decide)) (cnt_lt htl) (by decide) ?_
    walk_at "vc"
    rw [decide_eq_true (Int.natCast_mul _ _)]
    exact h g2 (hg2.mono (by omega))
theorem rep_one (a n : Nat) : (List.replicate n [a]).flatten = List.replicate n a := by
  induction n with
  | zero => rfl
  | succ n ih => rw [List.replicate_succ, List.flatten_cons, ih]; rfl
theorem mem_rep {s : List Nat} {n c : Nat} (h : c ∈ (List.replicate n s).flatten) : c ∈ s := by
  obtain ⟨l, hl, hc⟩ := List.mem_flatten.mp h
  rw [List.eq_of_mem_replicate hl] at hc
  exact hc
theorem len_rep (s : List Nat) (n : Nat) : (List.replicate n s).flatten.length = n * s.length := by
  induction n with
  | zero => rw [Nat.zero_mul]; rfl
  | succ n ih => rw [List.replicate_succ, List.flatten_cons, List.length_append, ih, Nat.succ_mul, Nat.add_comm]
theorem drawn_w {k : Nat} {g : D} {P : D → List D → Prop} (hg : GOk k g) (hk : k ≤ 10000) (h : ∀ g', GOk (k + 400000) g' → P (.bl true) [g']) : Ret (F_l_drawn_right [g]) P := by
  refine wp_l_drawn_right ?_
  unfold b_l_drawn_right
  walk_at "vc"
  refine alphabet_wL hg (by omega) (by decide) (by decide) fun L g1 hL hL2 hg1 => ?_
  walk_at "vc"
  refine random_w hg1 (by omega) (by decide) (by decide) fun r g2 hr hg2 => ?_
  walk_at "vc"
  have hLe := hL.le4
  refine text_w hg2 (by omega) (by omega) (by omega) hL.pos (by omega) fun p g3 hp hpl hg3 => ?_
  walk_at "vc"
  refine random_w hg3 (by omega) (by decide) (by decide) fun r2 g4 hr2 hg4 => ?_
  walk_at "vc"
  refine text_w hg4 (by omega) (by omega) (by omega) hL.pos (by omega) fun t1 g5 ht1 htl1 hg5 => ?_
  walk_at "vc"
  simp only [List.set_cons_zero]
  have hp6 : p.length ≤ 6 := by omega
  have m1 : mulD (.str p) (.int 300) = some (.str (List.replicate 300 p).flatten) := ev_mulS (and_of (by decide) (lim_of (show p.length * 300 ≤ 16777216 by omega)))
  have m2 : slD (.str (List.replicate 300 p).flatten) none (some 300) = some (.str ((List.replicate 300 p).flatten.take 300)) := by
    rw [ev_slS (lim_of (by rw [len_rep]; omega))]
    exact congrArg (fun x => some (D.str x)) (cut_to _ 300)
  have m3 : mulD (.str p) (.int 20) = some (.str (List.replicate 20 p).flatten) := ev_mulS (and_of (by decide) (lim_of (show p.length * 20 ≤ 16777216 by omega)))
  walk_at "vc"
  generalize hX : (List.replicate 300 p).flatten.take 300 = X
  generalize hY : (List.replicate 20 p).flatten = Y
  have hall : ∀ s ∈ [t1, X, Y], (∀ c ∈ s, c ∈ L) ∧ s.length ≤ 1000 := fun s hs => by
    simp only [List.mem_cons, List.not_mem_nil, or_false] at hs
    rcases hs with rfl | rfl | rfl
    · exact ⟨ht1, by omega⟩
    · rw [← hX]
      exact ⟨fun c hc => hp c (mem_rep (List.mem_of_mem_take hc)), Nat.le_trans (List.length_take_le _ _) (by decide)⟩
    · rw [← hY]
      exact ⟨fun c hc => hp c (mem_rep hc), by rw [len_rep]; omega⟩
  refine loop_map (xs := [t1, X, Y]) (E := fun s => .str s) (fun i e => ∃ g' v4 v5, GOk (k + 40000 + 2000 * i) g' ∧ e = [.own true g', .val (.str L), .val (.str p), .val (.lst [.str t1, .str X, .str Y]), v4, v5, .no, .no, .no, .no, .no, .no, .no]) ⟨g5, .no, .no, hg5.mono (by omega), rfl⟩ ?_ ?_
  · rintro i hi e ⟨g6, v4, v5, hg6, rfl⟩
    have hi3 : i < 3 := hi
    obtain ⟨q1, q2⟩ := hall _ (List.getElem_mem hi)
    generalize [t1, X, Y][i] = t at q1 q2
    have ht : Az t := fun c hc => hL.az c (q1 c hc)
    walk_at "vc"
    refine random_w hg6 (by omega) (by decide) (by decide) fun r3 g7 hr3 hg7 => ?_
    walk_at "vc"
    refine text_w hg7 (by omega) (by omega) (by omega) hL.pos (by omega) fun w g8 hw hwl hg8 => ?_
    walk_at "vc"
    refine numbers_w hg8 (by omega) (fun c hc => hL.az c (hw c hc)) ht (by omega) q2 fun g9 hg9 => ?_
    walk_at "vc"
    exact ⟨g9, _, _, hg9.mono (by omega), rfl⟩
  · rintro e ⟨g6, v4, v5, hg6, rfl⟩
    have hg6' : GOk (k + 46000) g6 := hg6
    walk_at "vc"
    refine random_w hg6' (by omega) (by decide) (by decide) fun lo g7 hlo hg7 => ?_
    walk_at "vc"
    refine random_w hg7 (by omega) (by decide) (by decide) fun hi g8 hhi hg8 => ?_
    walk_at "vc"
    simp only [List.set_cons_zero]
    obtain ⟨a, b, L', rfl⟩ : ∃ a b L', L = a :: b :: L' := by
      match L, hL2 with
      | [], h => exact absurd h (by decide)
      | [_], h => exact absurd (show (2 : Int) ≤ 1 from h) (by decide)
      | a :: b :: L', _ => exact ⟨a, b, L', rfl⟩
    have hab : a ≠ b := Nat.ne_of_lt ((List.pairwise_cons.mp hL.asc).1 b List.mem_cons_self)
    have ha : Az [a] := fun c hc => hL.az c (by rw [List.mem_singleton] at hc; rw [hc]; exact List.mem_cons_self)
    have hb : Az [b] := fun c hc => hL.az c (by rw [List.mem_singleton] at hc; rw [hc]; exact List.mem_cons_of_mem _ List.mem_cons_self)
    have i1 : ixD (.str (a :: b :: L')) (.int 0) = some (.str [a]) := ix_str (k := 0) rfl (by omega) rfl
    have i2 : ixD (.str (a :: b :: L')) (.int 1) = some (.str [b]) := ix_str (k := 1) rfl (by omega) rfl
    walk_at "vc"
    refine random_w hg8 (by omega) (by decide) (by decide) fun so g9 hso hg9 => ?_
    walk_at "vc"
    refine random_w hg9 (by omega) (by decide) (by decide) fun mo g10 hmo hg10 => ?_
    have c1 := choices_ok (n := lo) (m := so) (by omega) (by omega)
    have c2 := choices_ok (n := hi) (m := mo) (by omega) (by omega)
    have mm : ∀ (x n : Nat), n ≤ 1000 → mulD (.str [x]) (.int (n : Int)) = some (.str (List.replicate n x)) := fun x n hn => by
      rw [ev_mulS (and_of (small63_of (by omega) (by omega)) (lim_of (by show 1 * n ≤ _; omega))), Int.toNat_natCast, rep_one]
    have m4 := mm a so (by omega)
    have m5 := mm b mo (by omega)
    have m6 := mm a lo (by omega)
    have m7 := mm b hi (by omega)
    have hr : ∀ (x n : Nat), Az [x] → Az (List.replicate n x) := fun x n h c hc => h c (by rw [List.eq_of_mem_replicate hc]; exact List.mem_singleton_self x)
    have c3 := count_ok (w := List.replicate so a ++ List.replicate mo b) (t := List.replicate lo a ++ List.replicate hi b) ((hr a so ha).app (hr b mo hb)) ((hr a lo ha).app (hr b hi hb)) (by rw [List.length_append, List.length_replicate, List.length_replicate]; omega) (by rw [List.length_append, List.length_replicate, List.length_replicate]; omega)
    rw [cnt_two hab] at c3
    walk_at "vc"
    refine op_mul_of 1001 1001 (Nat.lt_of_le_of_lt (ch_le lo so) (Nat.pow_lt_pow_right (by decide) (by omega))) (Nat.lt_of_le_of_lt (ch_le hi mo) (Nat.pow_lt_pow_right (by decide) (by omega))) (by decide) ?_
    walk_at "vc"
    rw [Int.toNat_natCast, Int.toNat_natCast, rep_one, rep_one]
    refine op_is (ev_addS (lim_of (by rw [List.length_replicate, List.length_replicate]; omega))) ?_
    walk_at "vc"
    rw [Int.toNat_natCast, Int.toNat_natCast, rep_one, rep_one]
    refine op_is (ev_addS (lim_of (by rw [List.length_replicate, List.length_replicate]; omega))) ?_
    walk_at "vc"
    rw [decide_eq_true (Int.natCast_mul _ _)]
    exact h g10 (hg10.mono (by omega))
theorem law_true (ns : List Int) (hl : ns.length ≤ 63) : F_law [.fls (ns.map .int)] = some (.bl true, []) := by
  refine Ret.is (wp_law ?_)
  unfold b_law
  walk_at "vc"
  rw [show rangeD 0 (Int.toNat 2) = rangeN 2 from rangeN_eq 2]
  refine loop_rn (fun i e => ∃ v1, e = [.val (.fls (ns.map .int)), v1, .no, .no, .no]) ⟨.no, rfl⟩ ?_ ?_
  · rintro i hi e ⟨v1, rfl⟩
    walk_at "vc"
    refine generator_w (by omega) fun g hg => ?_
    walk_at "vc"
    refine drawn_w hg (by omega) fun g' hg' => ?_
    walk_at "vc"
  · rintro e ⟨v1, rfl⟩
    walk_at "vc"
    refine generator_w (k := 2) (by decide) fun g hg => ?_
    walk_at "vc"
    refine random_w hg (by omega) (by decide) (by decide) fun r g1 hr hg1 => ?_
    walk_at "vc"
    refine random_w hg1 (by omega) (by decide) (by decide) fun m g2 hm hg2 => ?_
    have hq : ∀ n, Az (List.replicate n 113) := fun n c hc => by rw [List.eq_of_mem_replicate hc]; decide
    have c1 : F_l_choices [.int (200 + (r : Int)), .int (m : Int)] = some (.int (ch (200 + r) m : Nat), []) := choices_ok (n := 200 + r) (m := m) (by omega) (by omega)
    have c2 := count_ok (hq m) (hq (200 + r)) (by rw [List.length_replicate]; omega) (by rw [List.length_replicate]; omega)
    rw [cnt_all] at c2
    have m1 : mulD (.str [113]) (.int 12) = some (.str (List.replicate 12 113)) := by
      rw [ev_mulS (and_of (by decide) (lim_of (by decide)))]; rfl
    have m2 : mulD (.str [113]) (.int 300) = some (.str (List.replicate 300 113)) := by
      rw [ev_mulS (and_of (by decide) (lim_of (by decide))), show Int.toNat 300 = 300 from rfl, rep_one]
    walk_at "vc"
    rw [Int.toNat_natCast, show (200 + (r : Int)).toNat = 200 + r by omega, rep_one, rep_one]
    walk_at "vc"
    rw [show Int.toNat 12 = 12 from rfl, show Int.toNat 300 = 300 from rfl, rep_one, rep_one]
    refine numbers_w hg2 (by omega) (hq 12) (hq 300) (by rw [List.length_replicate]; decide) (by rw [List.length_replicate]; decide) fun g3 hg3 => ?_
    walk_at "vc"
theorem all_mk {l : PySem.W.OpenLaw} {w : World} {K : PySem.W.Frag} {h : Heap} {mg : Str → Option Value} {fa : Addr} (X : K.In h) (G : h.Ns mainGlobals mg) (hfa : mg "law" = some (.ref fa))
    {f1 : Addr} {oc1 kV1 dc1 pm1 cd1 ct1 : Value} {od1 an1 : Option Addr} {sl1 : Array (Option Value)}
    (a1 : PySem.W.nsIn K mainGlobals "_law_cell" = some (some (.ref f1))) (l1 : K.lookup f1 = some ⟨oc1, od1, .func (PySem.W.fnOf "_law_cell" "_law_cell" (defArgs s_l_cell) (defBody s_l_cell) (defScope s_l_cell) .none kV1 dc1 pm1 an1 cd1 ct1), sl1⟩) (c1 : PySem.W.codeIn K cd1 "_law_cell" = true) (k1 : PySem.W.keepIn K (.ref f1) = true)
    {f2 : Addr} {oc2 kV2 dc2 pm2 cd2 ct2 : Value} {od2 an2 : Option Addr} {sl2 : Array (Option Value)}
    (a2 : PySem.W.nsIn K mainGlobals "_law_generator" = some (some (.ref f2))) (l2 : K.lookup f2 = some ⟨oc2, od2, .func (PySem.W.fnOf "_law_generator" "_law_generator" (defArgs s_l_generator) (defBody s_l_generator) (defScope s_l_generator) .none kV2 dc2 pm2 an2 cd2 ct2), sl2⟩) (c2 : PySem.W.codeIn K cd2 "_law_generator" = true) (k2 : PySem.W.keepIn K (.ref f2) = true)
    {f3 : Addr} {oc3 kV3 dc3 pm3 cd3 ct3 : Value} {od3 an3 : Option Addr} {sl3 : Array (Option Value)}
    (a3 : PySem.W.nsIn K mainGlobals "_law_count" = some (some (.ref f3))) (l3 : K.lookup f3 = some ⟨oc3, od3, .func (PySem.W.fnOf "_law_count" "_law_count" (defArgs s_l_count) (defBody s_l_count) (defScope s_l_count) .none kV3 dc3 pm3 an3 cd3 ct3), sl3⟩) (c3 : PySem.W.codeIn K cd3 "_law_count" = true) (k3 : PySem.W.keepIn K (.ref f3) = true)
    {f4 : Addr} {oc4 kV4 dc4 pm4 cd4 ct4 : Value} {od4 an4 : Option Addr} {sl4 : Array (Option Value)}
    (a4 : PySem.W.nsIn K mainGlobals "is_string_of" = some (some (.ref f4))) (l4 : K.lookup f4 = some ⟨oc4, od4, .func (PySem.W.fnOf "is_string_of" "is_string_of" (defArgs s_is_string_of) (defBody s_is_string_of) (defScope s_is_string_of) .none kV4 dc4 pm4 an4 cd4 ct4), sl4⟩) (c4 : PySem.W.codeIn K cd4 "is_string_of" = true) (k4 : PySem.W.keepIn K (.ref f4) = true)
    {f5 : Addr} {oc5 kV5 dc5 pm5 cd5 ct5 : Value} {od5 an5 : Option Addr} {sl5 : Array (Option Value)}
    (a5 : PySem.W.nsIn K mainGlobals "is_letters_alone" = some (some (.ref f5))) (l5 : K.lookup f5 = some ⟨oc5, od5, .func (PySem.W.fnOf "is_letters_alone" "is_letters_alone" (defArgs s_is_letters_alone) (defBody s_is_letters_alone) (defScope s_is_letters_alone) .none kV5 dc5 pm5 an5 cd5 ct5), sl5⟩) (c5 : PySem.W.codeIn K cd5 "is_letters_alone" = true) (k5 : PySem.W.keepIn K (.ref f5) = true)
    {f6 : Addr} {oc6 kV6 dc6 pm6 cd6 ct6 : Value} {od6 an6 : Option Addr} {sl6 : Array (Option Value)}
    (a6 : PySem.W.nsIn K mainGlobals "check_word" = some (some (.ref f6))) (l6 : K.lookup f6 = some ⟨oc6, od6, .func (PySem.W.fnOf "check_word" "check_word" (defArgs s_check_word) (defBody s_check_word) (defScope s_check_word) .none kV6 dc6 pm6 an6 cd6 ct6), sl6⟩) (c6 : PySem.W.codeIn K cd6 "check_word" = true) (k6 : PySem.W.keepIn K (.ref f6) = true)
    {f7 : Addr} {oc7 kV7 dc7 pm7 cd7 ct7 : Value} {od7 an7 : Option Addr} {sl7 : Array (Option Value)}
    (a7 : PySem.W.nsIn K mainGlobals "check_text" = some (some (.ref f7))) (l7 : K.lookup f7 = some ⟨oc7, od7, .func (PySem.W.fnOf "check_text" "check_text" (defArgs s_check_text) (defBody s_check_text) (defScope s_check_text) .none kV7 dc7 pm7 an7 cd7 ct7), sl7⟩) (c7 : PySem.W.codeIn K cd7 "check_text" = true) (k7 : PySem.W.keepIn K (.ref f7) = true)
    {f8 : Addr} {oc8 kV8 dc8 pm8 cd8 ct8 : Value} {od8 an8 : Option Addr} {sl8 : Array (Option Value)}
    (a8 : PySem.W.nsIn K mainGlobals "check_pair" = some (some (.ref f8))) (l8 : K.lookup f8 = some ⟨oc8, od8, .func (PySem.W.fnOf "check_pair" "check_pair" (defArgs s_check_pair) (defBody s_check_pair) (defScope s_check_pair) .none kV8 dc8 pm8 an8 cd8 ct8), sl8⟩) (c8 : PySem.W.codeIn K cd8 "check_pair" = true) (k8 : PySem.W.keepIn K (.ref f8) = true)
    {f9 : Addr} {oc9 kV9 dc9 pm9 cd9 ct9 : Value} {od9 an9 : Option Addr} {sl9 : Array (Option Value)}
    (a9 : PySem.W.nsIn K mainGlobals "endings_behind" = some (some (.ref f9))) (l9 : K.lookup f9 = some ⟨oc9, od9, .func (PySem.W.fnOf "endings_behind" "endings_behind" (defArgs s_endings_behind) (defBody s_endings_behind) (defScope s_endings_behind) .none kV9 dc9 pm9 an9 cd9 ct9), sl9⟩) (c9 : PySem.W.codeIn K cd9 "endings_behind" = true) (k9 : PySem.W.keepIn K (.ref f9) = true)
    {f10 : Addr} {oc10 kV10 dc10 pm10 cd10 ct10 : Value} {od10 an10 : Option Addr} {sl10 : Array (Option Value)}
    (a10 : PySem.W.nsIn K mainGlobals "used" = some (some (.ref f10))) (l10 : K.lookup f10 = some ⟨oc10, od10, .func (PySem.W.fnOf "used" "used" (defArgs s_used) (defBody s_used) (defScope s_used) .none kV10 dc10 pm10 an10 cd10 ct10), sl10⟩) (c10 : PySem.W.codeIn K cd10 "used" = true) (k10 : PySem.W.keepIn K (.ref f10) = true)
    {f11 : Addr} {oc11 kV11 dc11 pm11 cd11 ct11 : Value} {od11 an11 : Option Addr} {sl11 : Array (Option Value)}
    (a11 : PySem.W.nsIn K mainGlobals "beginnings" = some (some (.ref f11))) (l11 : K.lookup f11 = some ⟨oc11, od11, .func (PySem.W.fnOf "beginnings" "beginnings" (defArgs s_beginnings) (defBody s_beginnings) (defScope s_beginnings) .none kV11 dc11 pm11 an11 cd11 ct11), sl11⟩) (c11 : PySem.W.codeIn K cd11 "beginnings" = true) (k11 : PySem.W.keepIn K (.ref f11) = true)
    {f12 : Addr} {oc12 kV12 dc12 pm12 cd12 ct12 : Value} {od12 an12 : Option Addr} {sl12 : Array (Option Value)}
    (a12 : PySem.W.nsIn K mainGlobals "count_of" = some (some (.ref f12))) (l12 : K.lookup f12 = some ⟨oc12, od12, .func (PySem.W.fnOf "count_of" "count_of" (defArgs s_count_of) (defBody s_count_of) (defScope s_count_of) .none kV12 dc12 pm12 an12 cd12 ct12), sl12⟩) (c12 : PySem.W.codeIn K cd12 "count_of" = true) (k12 : PySem.W.keepIn K (.ref f12) = true)
    {f13 : Addr} {oc13 kV13 dc13 pm13 cd13 ct13 : Value} {od13 an13 : Option Addr} {sl13 : Array (Option Value)}
    (a13 : PySem.W.nsIn K mainGlobals "count" = some (some (.ref f13))) (l13 : K.lookup f13 = some ⟨oc13, od13, .func (PySem.W.fnOf "count" "count" (defArgs s_count) (defBody s_count) (defScope s_count) .none kV13 dc13 pm13 an13 cd13 ct13), sl13⟩) (c13 : PySem.W.codeIn K cd13 "count" = true) (k13 : PySem.W.keepIn K (.ref f13) = true)
    {f14 : Addr} {oc14 kV14 dc14 pm14 cd14 ct14 : Value} {od14 an14 : Option Addr} {sl14 : Array (Option Value)}
    (a14 : PySem.W.nsIn K mainGlobals "_law_hash" = some (some (.ref f14))) (l14 : K.lookup f14 = some ⟨oc14, od14, .func (PySem.W.fnOf "_law_hash" "_law_hash" (defArgs s_l_hash) (defBody s_l_hash) (defScope s_l_hash) .none kV14 dc14 pm14 an14 cd14 ct14), sl14⟩) (c14 : PySem.W.codeIn K cd14 "_law_hash" = true) (k14 : PySem.W.keepIn K (.ref f14) = true)
    {f15 : Addr} {oc15 kV15 dc15 pm15 cd15 ct15 : Value} {od15 an15 : Option Addr} {sl15 : Array (Option Value)}
    (a15 : PySem.W.nsIn K mainGlobals "_law_random" = some (some (.ref f15))) (l15 : K.lookup f15 = some ⟨oc15, od15, .func (PySem.W.fnOf "_law_random" "_law_random" (defArgs s_l_random) (defBody s_l_random) (defScope s_l_random) .none kV15 dc15 pm15 an15 cd15 ct15), sl15⟩) (c15 : PySem.W.codeIn K cd15 "_law_random" = true) (k15 : PySem.W.keepIn K (.ref f15) = true)
    {f16 : Addr} {oc16 kV16 dc16 pm16 cd16 ct16 : Value} {od16 an16 : Option Addr} {sl16 : Array (Option Value)}
    (a16 : PySem.W.nsIn K mainGlobals "is_whole" = some (some (.ref f16))) (l16 : K.lookup f16 = some ⟨oc16, od16, .func (PySem.W.fnOf "is_whole" "is_whole" (defArgs s_is_whole) (defBody s_is_whole) (defScope s_is_whole) .none kV16 dc16 pm16 an16 cd16 ct16), sl16⟩) (c16 : PySem.W.codeIn K cd16 "is_whole" = true) (k16 : PySem.W.keepIn K (.ref f16) = true)
    {f17 : Addr} {oc17 kV17 dc17 pm17 cd17 ct17 : Value} {od17 an17 : Option Addr} {sl17 : Array (Option Value)}
    (a17 : PySem.W.nsIn K mainGlobals "is_between" = some (some (.ref f17))) (l17 : K.lookup f17 = some ⟨oc17, od17, .func (PySem.W.fnOf "is_between" "is_between" (defArgs s_is_between) (defBody s_is_between) (defScope s_is_between) .none kV17 dc17 pm17 an17 cd17 ct17), sl17⟩) (c17 : PySem.W.codeIn K cd17 "is_between" = true) (k17 : PySem.W.keepIn K (.ref f17) = true)
    {f18 : Addr} {oc18 kV18 dc18 pm18 cd18 ct18 : Value} {od18 an18 : Option Addr} {sl18 : Array (Option Value)}
    (a18 : PySem.W.nsIn K mainGlobals "check_number" = some (some (.ref f18))) (l18 : K.lookup f18 = some ⟨oc18, od18, .func (PySem.W.fnOf "check_number" "check_number" (defArgs s_check_number) (defBody s_check_number) (defScope s_check_number) .none kV18 dc18 pm18 an18 cd18 ct18), sl18⟩) (c18 : PySem.W.codeIn K cd18 "check_number" = true) (k18 : PySem.W.keepIn K (.ref f18) = true)
    {f19 : Addr} {oc19 kV19 dc19 pm19 cd19 ct19 : Value} {od19 an19 : Option Addr} {sl19 : Array (Option Value)}
    (a19 : PySem.W.nsIn K mainGlobals "reading" = some (some (.ref f19))) (l19 : K.lookup f19 = some ⟨oc19, od19, .func (PySem.W.fnOf "reading" "reading" (defArgs s_reading) (defBody s_reading) (defScope s_reading) .none kV19 dc19 pm19 an19 cd19 ct19), sl19⟩) (c19 : PySem.W.codeIn K cd19 "reading" = true) (k19 : PySem.W.keepIn K (.ref f19) = true)
    {f20 : Addr} {oc20 kV20 dc20 pm20 cd20 ct20 : Value} {od20 an20 : Option Addr} {sl20 : Array (Option Value)}
    (a20 : PySem.W.nsIn K mainGlobals "spells" = some (some (.ref f20))) (l20 : K.lookup f20 = some ⟨oc20, od20, .func (PySem.W.fnOf "spells" "spells" (defArgs s_spells) (defBody s_spells) (defScope s_spells) .none kV20 dc20 pm20 an20 cd20 ct20), sl20⟩) (c20 : PySem.W.codeIn K cd20 "spells" = true) (k20 : PySem.W.keepIn K (.ref f20) = true)
    {f21 : Addr} {oc21 kV21 dc21 pm21 cd21 ct21 : Value} {od21 an21 : Option Addr} {sl21 : Array (Option Value)}
    (a21 : PySem.W.nsIn K mainGlobals "is_reading" = some (some (.ref f21))) (l21 : K.lookup f21 = some ⟨oc21, od21, .func (PySem.W.fnOf "is_reading" "is_reading" (defArgs s_is_reading) (defBody s_is_reading) (defScope s_is_reading) .none kV21 dc21 pm21 an21 cd21 ct21), sl21⟩) (c21 : PySem.W.codeIn K cd21 "is_reading" = true) (k21 : PySem.W.keepIn K (.ref f21) = true)
    {f22 : Addr} {oc22 kV22 dc22 pm22 cd22 ct22 : Value} {od22 an22 : Option Addr} {sl22 : Array (Option Value)}
    (a22 : PySem.W.nsIn K mainGlobals "reading_number" = some (some (.ref f22))) (l22 : K.lookup f22 = some ⟨oc22, od22, .func (PySem.W.fnOf "reading_number" "reading_number" (defArgs s_reading_number) (defBody s_reading_number) (defScope s_reading_number) .none kV22 dc22 pm22 an22 cd22 ct22), sl22⟩) (c22 : PySem.W.codeIn K cd22 "reading_number" = true) (k22 : PySem.W.keepIn K (.ref f22) = true)
    {f23 : Addr} {oc23 kV23 dc23 pm23 cd23 ct23 : Value} {od23 an23 : Option Addr} {sl23 : Array (Option Value)}
    (a23 : PySem.W.nsIn K mainGlobals "_law_numbers_right" = some (some (.ref f23))) (l23 : K.lookup f23 = some ⟨oc23, od23, .func (PySem.W.fnOf "_law_numbers_right" "_law_numbers_right" (defArgs s_l_numbers_right) (defBody s_l_numbers_right) (defScope s_l_numbers_right) .none kV23 dc23 pm23 an23 cd23 ct23), sl23⟩) (c23 : PySem.W.codeIn K cd23 "_law_numbers_right" = true) (k23 : PySem.W.keepIn K (.ref f23) = true)
    {f24 : Addr} {oc24 kV24 dc24 pm24 cd24 ct24 : Value} {od24 an24 : Option Addr} {sl24 : Array (Option Value)}
    (a24 : PySem.W.nsIn K mainGlobals "_law_choices" = some (some (.ref f24))) (l24 : K.lookup f24 = some ⟨oc24, od24, .func (PySem.W.fnOf "_law_choices" "_law_choices" (defArgs s_l_choices) (defBody s_l_choices) (defScope s_l_choices) .none kV24 dc24 pm24 an24 cd24 ct24), sl24⟩) (c24 : PySem.W.codeIn K cd24 "_law_choices" = true) (k24 : PySem.W.keepIn K (.ref f24) = true)
    {f25 : Addr} {oc25 kV25 dc25 pm25 cd25 ct25 : Value} {od25 an25 : Option Addr} {sl25 : Array (Option Value)}
    (a25 : PySem.W.nsIn K mainGlobals "_law_alphabet" = some (some (.ref f25))) (l25 : K.lookup f25 = some ⟨oc25, od25, .func (PySem.W.fnOf "_law_alphabet" "_law_alphabet" (defArgs s_l_alphabet) (defBody s_l_alphabet) (defScope s_l_alphabet) .none kV25 dc25 pm25 an25 cd25 ct25), sl25⟩) (c25 : PySem.W.codeIn K cd25 "_law_alphabet" = true) (k25 : PySem.W.keepIn K (.ref f25) = true)
    {f26 : Addr} {oc26 kV26 dc26 pm26 cd26 ct26 : Value} {od26 an26 : Option Addr} {sl26 : Array (Option Value)}
    (a26 : PySem.W.nsIn K mainGlobals "_law_text" = some (some (.ref f26))) (l26 : K.lookup f26 = some ⟨oc26, od26, .func (PySem.W.fnOf "_law_text" "_law_text" (defArgs s_l_text) (defBody s_l_text) (defScope s_l_text) .none kV26 dc26 pm26 an26 cd26 ct26), sl26⟩) (c26 : PySem.W.codeIn K cd26 "_law_text" = true) (k26 : PySem.W.keepIn K (.ref f26) = true)
    {f27 : Addr} {oc27 kV27 dc27 pm27 cd27 ct27 : Value} {od27 an27 : Option Addr} {sl27 : Array (Option Value)}
    (a27 : PySem.W.nsIn K mainGlobals "_law_drawn_right" = some (some (.ref f27))) (l27 : K.lookup f27 = some ⟨oc27, od27, .func (PySem.W.fnOf "_law_drawn_right" "_law_drawn_right" (defArgs s_l_drawn_right) (defBody s_l_drawn_right) (defScope s_l_drawn_right) .none kV27 dc27 pm27 an27 cd27 ct27), sl27⟩) (c27 : PySem.W.codeIn K cd27 "_law_drawn_right" = true) (k27 : PySem.W.keepIn K (.ref f27) = true)
    {f28 : Addr} {oc28 kV28 dc28 pm28 cd28 ct28 : Value} {od28 an28 : Option Addr} {sl28 : Array (Option Value)}
    (a28 : PySem.W.nsIn K mainGlobals "law" = some (some (.ref f28))) (l28 : K.lookup f28 = some ⟨oc28, od28, .func (PySem.W.fnOf "law" "law" (defArgs s_law) (defBody s_law) (defScope s_law) .none kV28 dc28 pm28 an28 cd28 ct28), sl28⟩) (c28 : PySem.W.codeIn K cd28 "law" = true) (k28 : PySem.W.keepIn K (.ref f28) = true)
    (z_len : PySem.W.nsIn K mainGlobals "len" = some none)
    (z_sum : PySem.W.nsIn K mainGlobals "sum" = some none)
    (z_int : PySem.W.nsIn K mainGlobals "int" = some none)
    (z_max : PySem.W.nsIn K mainGlobals "max" = some none)
    (z_range : PySem.W.nsIn K mainGlobals "range" = some none)
    (z_str : PySem.W.nsIn K mainGlobals "str" = some none)
    (z_isinstance : PySem.W.nsIn K mainGlobals "isinstance" = some none)
    (z_reversed : PySem.W.nsIn K mainGlobals "reversed" = some none)
    (z_list : PySem.W.nsIn K mainGlobals "list" = some none)
    (z_enumerate : PySem.W.nsIn K mainGlobals "enumerate" = some none)
    (z_bool : PySem.W.nsIn K mainGlobals "bool" = some none)
    (z_tuple : PySem.W.nsIn K mainGlobals "tuple" = some none)
    (z_zip : PySem.W.nsIn K mainGlobals "zip" = some none)
    {t_LETTERS : Tok} (y_LETTERS : PySem.W.nsIn K mainGlobals "LETTERS" = some (some (.str (mkS k_LETTERS) t_LETTERS)))
    : ∃ fd : FuncData, (∀ (s : Shared) (v : Value), BindsTo s fd ⟨[v], []⟩ [("_law_script", v)]) ∧ ∀ base : Heap, K.In base → base.Ns mainGlobals mg → FnOk l.prog w K mg base CX0 8 fa fd ["_law_script"] (spF K ms_law false F_law) := by
  have e := hfa.symm.trans (PySem.W.mg_of X G a28)
  cases e
  have F1 := fun_mk (st := s_l_cell) l1 c1 k1
  have b1 := F1.binds (ps := ["_law_script", "_law_index"]) fun _ _ _ _ _ _ us hl => match us, hl with | [_, _], _ => rfl
  have F2 := fun_mk (st := s_l_generator) l2 c2 k2
  have b2 := F2.binds (ps := ["_law_script", "_law_index"]) fun _ _ _ _ _ _ us hl => match us, hl with | [_, _], _ => rfl
  have F3 := fun_mk (st := s_l_count) l3 c3 k3
  have b3 := F3.binds (ps := ["_law_word", "_law_text_here"]) fun _ _ _ _ _ _ us hl => match us, hl with | [_, _], _ => rfl
  have F4 := fun_mk (st := s_is_string_of) l4 c4 k4
  have b4 := F4.binds (ps := ["value", "signs"]) fun _ _ _ _ _ _ us hl => match us, hl with | [_, _], _ => rfl
  have F5 := fun_mk (st := s_is_letters_alone) l5 c5 k5
  have b5 := F5.binds (ps := ["value"]) fun _ _ _ _ _ _ us hl => match us, hl with | [_], _ => rfl
  have F6 := fun_mk (st := s_check_word) l6 c6 k6
  have b6 := F6.binds (ps := ["word"]) fun _ _ _ _ _ _ us hl => match us, hl with | [_], _ => rfl
  have F7 := fun_mk (st := s_check_text) l7 c7 k7
  have b7 := F7.binds (ps := ["text"]) fun _ _ _ _ _ _ us hl => match us, hl with | [_], _ => rfl
  have F8 := fun_mk (st := s_check_pair) l8 c8 k8
  have b8 := F8.binds (ps := ["word", "text"]) fun _ _ _ _ _ _ us hl => match us, hl with | [_, _], _ => rfl
  have F9 := fun_mk (st := s_endings_behind) l9 c9 k9
  have b9 := F9.binds (ps := ["word", "text"]) fun _ _ _ _ _ _ us hl => match us, hl with | [_, _], _ => rfl
  have F10 := fun_mk (st := s_used) l10 c10 k10
  have b10 := F10.binds (ps := ["word", "text"]) fun _ _ _ _ _ _ us hl => match us, hl with | [_, _], _ => rfl
  have F11 := fun_mk (st := s_beginnings) l11 c11 k11
  have b11 := F11.binds (ps := ["word", "text"]) fun _ _ _ _ _ _ us hl => match us, hl with | [_, _], _ => rfl
  have F12 := fun_mk (st := s_count_of) l12 c12 k12
  have b12 := F12.binds (ps := ["word", "text"]) fun _ _ _ _ _ _ us hl => match us, hl with | [_, _], _ => rfl
  have F13 := fun_mk (st := s_count) l13 c13 k13
  have b13 := F13.binds (ps := ["word", "text"]) fun _ _ _ _ _ _ us hl => match us, hl with | [_, _], _ => rfl
  have F14 := fun_mk (st := s_l_hash) l14 c14 k14
  have b14 := F14.binds (ps := ["_law_seed", "_law_index"]) fun _ _ _ _ _ _ us hl => match us, hl with | [_, _], _ => rfl
  have F15 := fun_mk (st := s_l_random) l15 c15 k15
  have b15 := F15.binds (ps := ["_law_generator_here", "_law_bound"]) fun _ _ _ _ _ _ us hl => match us, hl with | [_, _], _ => rfl
  have F16 := fun_mk (st := s_is_whole) l16 c16 k16
  have b16 := F16.binds (ps := ["value"]) fun _ _ _ _ _ _ us hl => match us, hl with | [_], _ => rfl
  have F17 := fun_mk (st := s_is_between) l17 c17 k17
  have b17 := F17.binds (ps := ["value", "low", "high"]) fun _ _ _ _ _ _ us hl => match us, hl with | [_, _, _], _ => rfl
  have F18 := fun_mk (st := s_check_number) l18 c18 k18
  have b18 := F18.binds (ps := ["number", "low", "high"]) fun _ _ _ _ _ _ us hl => match us, hl with | [_, _, _], _ => rfl
  have F19 := fun_mk (st := s_reading) l19 c19 k19
  have b19 := F19.binds (ps := ["word", "text", "number"]) fun _ _ _ _ _ _ us hl => match us, hl with | [_, _, _], _ => rfl
  have F20 := fun_mk (st := s_spells) l20 c20 k20
  have b20 := F20.binds (ps := ["word", "text", "value"]) fun _ _ _ _ _ _ us hl => match us, hl with | [_, _, _], _ => rfl
  have F21 := fun_mk (st := s_is_reading) l21 c21 k21
  have b21 := F21.binds (ps := ["word", "text", "value"]) fun _ _ _ _ _ _ us hl => match us, hl with | [_, _, _], _ => rfl
  have F22 := fun_mk (st := s_reading_number) l22 c22 k22
  have b22 := F22.binds (ps := ["word", "text", "places"]) fun _ _ _ _ _ _ us hl => match us, hl with | [_, _, _], _ => rfl
  have F23 := fun_mk (st := s_l_numbers_right) l23 c23 k23
  have b23 := F23.binds (ps := ["_law_generator_here", "_law_word", "_law_text_here"]) fun _ _ _ _ _ _ us hl => match us, hl with | [_, _, _], _ => rfl
  have F24 := fun_mk (st := s_l_choices) l24 c24 k24
  have b24 := F24.binds (ps := ["_law_size", "_law_many"]) fun _ _ _ _ _ _ us hl => match us, hl with | [_, _], _ => rfl
  have F25 := fun_mk (st := s_l_alphabet) l25 c25 k25
  have b25 := F25.binds (ps := ["_law_generator_here", "_law_least"]) fun _ _ _ _ _ _ us hl => match us, hl with | [_, _], _ => rfl
  have F26 := fun_mk (st := s_l_text) l26 c26 k26
  have b26 := F26.binds (ps := ["_law_generator_here", "_law_letters", "_law_size"]) fun _ _ _ _ _ _ us hl => match us, hl with | [_, _, _], _ => rfl
  have F27 := fun_mk (st := s_l_drawn_right) l27 c27 k27
  have b27 := F27.binds (ps := ["_law_generator_here"]) fun _ _ _ _ _ _ us hl => match us, hl with | [_], _ => rfl
  have F28 := fun_mk (st := s_law) l28 c28 k28
  have b28 := F28.binds (ps := ["_law_script"]) fun _ _ _ _ _ _ us hl => match us, hl with | [_], _ => rfl
  let T : Names K mg := ⟨_, _, F1, PySem.W.mg_of X G a1, b1,
    _, _, F2, PySem.W.mg_of X G a2, b2,
    _, _, F3, PySem.W.mg_of X G a3, b3,
    _, _, F4, PySem.W.mg_of X G a4, b4,
    _, _, F5, PySem.W.mg_of X G a5, b5,
    _, _, F6, PySem.W.mg_of X G a6, b6,
    _, _, F7, PySem.W.mg_of X G a7, b7,
    _, _, F8, PySem.W.mg_of X G a8, b8,
    _, _, F9, PySem.W.mg_of X G a9, b9,
    _, _, F10, PySem.W.mg_of X G a10, b10,
    _, _, F11, PySem.W.mg_of X G a11, b11,
    _, _, F12, PySem.W.mg_of X G a12, b12,
    _, _, F13, PySem.W.mg_of X G a13, b13,
    _, _, F14, PySem.W.mg_of X G a14, b14,
    _, _, F15, PySem.W.mg_of X G a15, b15,
    _, _, F16, PySem.W.mg_of X G a16, b16,
    _, _, F17, PySem.W.mg_of X G a17, b17,
    _, _, F18, PySem.W.mg_of X G a18, b18,
    _, _, F19, PySem.W.mg_of X G a19, b19,
    _, _, F20, PySem.W.mg_of X G a20, b20,
    _, _, F21, PySem.W.mg_of X G a21, b21,
    _, _, F22, PySem.W.mg_of X G a22, b22,
    _, _, F23, PySem.W.mg_of X G a23, b23,
    _, _, F24, PySem.W.mg_of X G a24, b24,
    _, _, F25, PySem.W.mg_of X G a25, b25,
    _, _, F26, PySem.W.mg_of X G a26, b26,
    _, _, F27, PySem.W.mg_of X G a27, b27,
    _, _, F28, PySem.W.mg_of X G a28, b28,
    PySem.W.mg_none_of X G z_len,
    PySem.W.mg_none_of X G z_sum,
    PySem.W.mg_none_of X G z_int,
    PySem.W.mg_none_of X G z_max,
    PySem.W.mg_none_of X G z_range,
    PySem.W.mg_none_of X G z_str,
    PySem.W.mg_none_of X G z_isinstance,
    PySem.W.mg_none_of X G z_reversed,
    PySem.W.mg_none_of X G z_list,
    PySem.W.mg_none_of X G z_enumerate,
    PySem.W.mg_none_of X G z_bool,
    PySem.W.mg_none_of X G z_tuple,
    PySem.W.mg_none_of X G z_zip,
    _, PySem.W.mg_of X G y_LETTERS⟩
  exact ⟨T.d_law, fun s v => .of_eq rfl, fun base _ _ => ok_law T⟩
/-- the law's own promise, from what its code gives -/
theorem law_sp {K : PySem.W.Frag} {H : Hp} {a : Addr} {ns : List Int} (hl : ns.length ≤ 63) (hS : SqL K H a (ns.map V.int)) (ht : F_law [.fls (ns.map D.int)] = some (.bl true, [])) : spF K ms_law false F_law [.ref a] H (fun v _ => v = .bl true) fun _ _ _ => False :=
  ⟨H, [.fls (ns.map D.int)], .bl true, [], Ex.refl H, ⟨⟨a, ns.map V.int, rfl, hS, Reps.ints ns⟩, trivial⟩, one_apart rfl _, ht, fun _ _ _ _ _ rv => rv⟩
end Dv
open PySem PySem.W PyProof.Rows
set_option maxHeartbeats 0 in
theorem PySem.Challenge.cw_skipcounts_k03_great_counts_holds : PySem.Challenge.rw_skipcounts_k03_great_counts.Holds := by
  w_on; o_law; k_head; (case hw => w_witness2)
  k_fill
  refine L2.walk_of (l := PySem.Challenge.rw_skipcounts_k03_great_counts) (n := 63) (k := 8) (x := "_law_script") (CX := fun _ => L2.CX0) (sp := fun w => Dv.spF _ Dv.ms_law false Dv.F_law) rfl (by decide) rfl ⟨rfl, by decide, by decide⟩ (fun w h Y => PySem.W.kIn_of Y) ?F (fun _ _ a ns hl _ hS => Dv.law_sp hl hS (Dv.law_true ns hl)) (fun _ _ _ _ _ h => h)
  case F =>
    intro w mg fa h KX G hmg
    refine' Dv.all_mk KX G hmg ?a1 ?l1 ?c1 ?k1 ?a2 ?l2 ?c2 ?k2 ?a3 ?l3 ?c3 ?k3 ?a4 ?l4 ?c4 ?k4 ?a5 ?l5 ?c5 ?k5 ?a6 ?l6 ?c6 ?k6 ?a7 ?l7 ?c7 ?k7 ?a8 ?l8 ?c8 ?k8 ?a9 ?l9 ?c9 ?k9 ?a10 ?l10 ?c10 ?k10 ?a11 ?l11 ?c11 ?k11 ?a12 ?l12 ?c12 ?k12 ?a13 ?l13 ?c13 ?k13 ?a14 ?l14 ?c14 ?k14 ?a15 ?l15 ?c15 ?k15 ?a16 ?l16 ?c16 ?k16 ?a17 ?l17 ?c17 ?k17 ?a18 ?l18 ?c18 ?k18 ?a19 ?l19 ?c19 ?k19 ?a20 ?l20 ?c20 ?k20 ?a21 ?l21 ?c21 ?k21 ?a22 ?l22 ?c22 ?k22 ?a23 ?l23 ?c23 ?k23 ?a24 ?l24 ?c24 ?k24 ?a25 ?l25 ?c25 ?k25 ?a26 ?l26 ?c26 ?k26 ?a27 ?l27 ?c27 ?k27 ?a28 ?l28 ?c28 ?k28 ?z_len ?z_sum ?z_int ?z_max ?z_range ?z_str ?z_isinstance ?z_reversed ?z_list ?z_enumerate ?z_bool ?z_tuple ?z_zip ?y_LETTERS
    (case a1 => k_is)
    (case l1 => k_is)
    (case c1 => k_is)
    (case k1 => k_is)
    (case a2 => k_is)
    (case l2 => k_is)
    (case c2 => k_is)
    (case k2 => k_is)
    (case a3 => k_is)
    (case l3 => k_is)
    (case c3 => k_is)
    (case k3 => k_is)
    (case a4 => k_is)
    (case l4 => k_is)
    (case c4 => k_is)
    (case k4 => k_is)
    (case a5 => k_is)
    (case l5 => k_is)
    (case c5 => k_is)
    (case k5 => k_is)
    (case a6 => k_is)
    (case l6 => k_is)
    (case c6 => k_is)
    (case k6 => k_is)
    (case a7 => k_is)
    (case l7 => k_is)
    (case c7 => k_is)
    (case k7 => k_is)
    (case a8 => k_is)
    (case l8 => k_is)
    (case c8 => k_is)
    (case k8 => k_is)
    (case a9 => k_is)
    (case l9 => k_is)
    (case c9 => k_is)
    (case k9 => k_is)
    (case a10 => k_is)
    (case l10 => k_is)
    (case c10 => k_is)
    (case k10 => k_is)
    (case a11 => k_is)
    (case l11 => k_is)
    (case c11 => k_is)
    (case k11 => k_is)
    (case a12 => k_is)
    (case l12 => k_is)
    (case c12 => k_is)
    (case k12 => k_is)
    (case a13 => k_is)
    (case l13 => k_is)
    (case c13 => k_is)
    (case k13 => k_is)
    (case a14 => k_is)
    (case l14 => k_is)
    (case c14 => k_is)
    (case k14 => k_is)
    (case a15 => k_is)
    (case l15 => k_is)
    (case c15 => k_is)
    (case k15 => k_is)
    (case a16 => k_is)
    (case l16 => k_is)
    (case c16 => k_is)
    (case k16 => k_is)
    (case a17 => k_is)
    (case l17 => k_is)
    (case c17 => k_is)
    (case k17 => k_is)
    (case a18 => k_is)
    (case l18 => k_is)
    (case c18 => k_is)
    (case k18 => k_is)
    (case a19 => k_is)
    (case l19 => k_is)
    (case c19 => k_is)
    (case k19 => k_is)
    (case a20 => k_is)
    (case l20 => k_is)
    (case c20 => k_is)
    (case k20 => k_is)
    (case a21 => k_is)
    (case l21 => k_is)
    (case c21 => k_is)
    (case k21 => k_is)
    (case a22 => k_is)
    (case l22 => k_is)
    (case c22 => k_is)
    (case k22 => k_is)
    (case a23 => k_is)
    (case l23 => k_is)
    (case c23 => k_is)
    (case k23 => k_is)
    (case a24 => k_is)
    (case l24 => k_is)
    (case c24 => k_is)
    (case k24 => k_is)
    (case a25 => k_is)
    (case l25 => k_is)
    (case c25 => k_is)
    (case k25 => k_is)
    (case a26 => k_is)
    (case l26 => k_is)
    (case c26 => k_is)
    (case k26 => k_is)
    (case a27 => k_is)
    (case l27 => k_is)
    (case c27 => k_is)
    (case k27 => k_is)
    (case a28 => k_is)
    (case l28 => k_is)
    (case c28 => k_is)
    (case k28 => k_is)
    (case z_len => k_is)
    (case z_sum => k_is)
    (case z_int => k_is)
    (case z_max => k_is)
    (case z_range => k_is)
    (case z_str => k_is)
    (case z_isinstance => k_is)
    (case z_reversed => k_is)
    (case z_list => k_is)
    (case z_enumerate => k_is)
    (case z_bool => k_is)
    (case z_tuple => k_is)
    (case z_zip => k_is)
    (case y_LETTERS => k_is)
