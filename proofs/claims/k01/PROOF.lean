import PyProof.Rows.All
import Wide.All
import OpenK.AllK
import Wide.FinOn
import HandS.ForMost
import HandS.ForExc
import HandS.HeadHook2
import HandS.TupAny
import HandS.Walk
import HandS.Lambda
import HandS.HeadHook4
import HandS.Conv
import HandS.Wide
import HandS.Deep
import HandS.CallSlots
import HandS.Defaults
import HandS.MakeKw
import HandS.Zip
import HandS.HeadEnd
import HandS.EndBits
import PyProof.ReprRoads
import HandS.Strs
import HandS.SetKeys
import HandS.SortInts
import HandS.IsInst
import HandS.SetFor
import HandS.Star
import HandS.Style
import HandS.DictComp
import HandS.Dict
import KE.KDictZip
import KE.GoesMore
import KE.KDictList
import HandS.MapObj
import HandS.FStr
import HandS.RaiseMore
import HandS.OwnEq
import HandS.ExcValue
import HandS.ExcIs
import HandS.EndTab
import HandS.ExcInit
import HandS.ClsMeth
import KE.KExcIs
import HandS.ExcField
import HandS.HeadHook1
import HandS.Head2
import PySem.Challenge.RW_starcases_k01_errors_made
section T_DL0
set_option Elab.async false
set_option linter.all false
set_option maxRecDepth 100000
set_option maxHeartbeats 4000000
/-! DL0: values as trees, mutable objects as numbered cells, what represents them in HandS's abstract heap, readings over trees and their lifts. -/
namespace DL
open PySem PySem.Spec PyProof.Rows L2

/-- the program's classes and their fields, in the order in which __init__ stores them -/
def ctab : List (Str × List Str) := [("Name", ["name"]), ("Kind", ["word", "name", "without"]), ("Is", ["atom"]), ("Row", ["ahead", "star", "behind"]), ("Refuse", []), ("Cases", ["cases"]), ("Values", ["patterns"]),
  ("Reader", ["signs", "spot", "rows"]), ("LineReader", ["signs", "spot", "rows"]), ("ProgramReader", ["signs", "spot", "rows", "functions"]), ("Desk", ["texts", "functions"])]
/-- the program's errors and their fields -/
def etab : List (Str × List Str) := [("BadValue", []), ("BadPattern", []), ("BadTemplate", []), ("BadCases", []), ("NoSet", []), ("BadCase", ["at"]), ("Refused", ["place"]), ("NoInverse", ["one", "other"]), ("NeverHad", ["value"]), ("BadText", ["line"]), ("BadName", ["name"]), ("CaseError", [])]
def cnm (c : Nat) : Str := (ctab.getD c ("", [])).1
def cfs (c : Nat) : List Str := (ctab.getD c ("", [])).2
def enm (c : Nat) : Str := (etab.getD c ("", [])).1
def efs (c : Nat) : List Str := (etab.getD c ("", [])).2
/-- a value as a tree; exc (1000 + a) [c', q]: the lambda at a, its code object at c', of the name q; cell k: the k-th mutable object; scr: the law's script; dkf: a dict while a comprehension goes over it -/
inductive Tr where
  | non | bl (b : Bool) | int (i : Int) | str (x : Str)
  | lst (xs : List Tr) | tup (xs : List Tr)
  | dct (ks : List Key) (ds : List Tr)
  | ins (c : Nat) (ds : List Tr)
  | exc (c : Nat) (ds : List Tr)
  | cell (k : Nat)
  | scr (ns : List Int)
  | dkf (ks : List Key) (ds : List Tr)
/-- what a mutable object holds; dead: it may not be changed any more (a list that was handed on as a tree) -/
inductive Ce where
  | dead
  | lst (xs : List Tr)
  | dct (ks : List Key) (ds : List Tr)
  | ins (c : Nat) (ds : List Tr)
abbrev En := List (Option Tr)
abbrev Me := List Ce

/-- G: the part of the heap that trees stand in (never changed again); C: where the cells stand -/
structure Gh where
  G : Hp
  C : List Addr

/-- a raised exception of the class cls at a, its own dict dd, held as a value -/
def ExX (cls : Value) (dd : Option Addr) (a : Addr) : HO := .ext fun h => ∃ (oe : Obj) (vs : Array Value), h.get? a = some oe ∧ Zc cls dd oe ∧ oe.data = .fields vs
mutual
def Rep (K : PySem.W.Frag) (S : Gh) : Tr → V → Prop
  | .non, v => v = .non
  | .bl b, v => v = .bl b
  | .int i, v => v = .int i
  | .str x, v => v = .str x
  | .lst xs, v => ∃ a vs, v = .ref a ∧ S.G a = some (.lst vs) ∧ Reps K S xs vs
  | .tup xs, v => ∃ a vs, v = .ref a ∧ SqT K S.G a vs ∧ Reps K S xs vs
  | .dct ks ds, v => ∃ a kvs, v = .ref a ∧ S.G a = some (.dK kvs) ∧ kvs.map Prod.fst = ks ∧ Reps K S ds (kvs.map Prod.snd)
  | .ins c ds, v => ∃ a dx fs, v = .ref a ∧ S.G a = some (.ins (He.ga K (cnm c)) dx fs) ∧ fs.map Prod.fst = cfs c ∧ Reps K S ds (fs.map Prod.snd)
  | .exc c ds, v => ∃ a, v = .ref a ∧ ((∃ dd, S.G a = some (ExX (.ref (He.ga K (enm c))) dd a) ∧ ((dd = none ∧ efs c = [] ∧ ds = []) ∨ ∃ d fs, dd = some d ∧ S.G d = some (.xd fs) ∧ fs.map Prod.fst = efs c ∧ Reps K S ds (fs.map Prod.snd) ∧ efs c ≠ [])) ∨
    ∃ (c' : Nat) (q : Str), c = 1000 + a ∧ ds = [.int (c' : Int), .str q] ∧ S.G c' = some (LamX.CodeO c' q))
  | .cell k, v => ∃ a, v = .ref a ∧ S.C[k]? = some a
  | .scr ns, v => ∃ a, v = .ref a ∧ SqL K S.G a (ns.map V.int)
  | .dkf ks ds, v => ∃ a od kvs, v = .ref a ∧ S.G a = some (.frz od (.dK kvs)) ∧ kvs.map Prod.fst = ks ∧ Reps K S ds (kvs.map Prod.snd)
def Reps (K : PySem.W.Frag) (S : Gh) : List Tr → List V → Prop
  | [], vs => vs = []
  | d :: ds, vs => ∃ v r, vs = v :: r ∧ Rep K S d v ∧ Reps K S ds r
end

/-- the ghost grows -/
structure Le (S S' : Gh) : Prop where
  g : ∀ a o, S.G a = some o → S'.G a = some o
  c : S.C <+: S'.C
theorem Le.refl (S : Gh) : Le S S := ⟨fun _ _ h => h, List.prefix_refl _⟩
theorem Le.trans {S S1 S2 : Gh} (a : Le S S1) (b : Le S1 S2) : Le S S2 := ⟨fun c o h => b.g c o (a.g c o h), a.c.trans b.c⟩
theorem prefix_get {α : Type} {l r : List α} (h : l <+: r) {i : Nat} {x : α} (e : l[i]? = some x) : r[i]? = some x := by
  obtain ⟨t, rfl⟩ := h
  rw [List.getElem?_append_left (List.getElem?_eq_some_iff.mp e).1]; exact e
theorem Le.sqT {K : PySem.W.Frag} {S S' : Gh} (h : Le S S') {a : Addr} {vs : List V} (e : SqT K S.G a vs) : SqT K S'.G a vs := by
  rcases e with (e | ⟨o, e⟩) | e
  · exact .inl (.inl (h.g _ _ e))
  · exact .inl (.inr ⟨o, h.g _ _ e⟩)
  · exact .inr e
theorem Le.sqL {K : PySem.W.Frag} {S S' : Gh} (h : Le S S') {a : Addr} {vs : List V} (e : SqL K S.G a vs) : SqL K S'.G a vs := by
  rcases e with (e | ⟨o, e⟩) | e
  · exact .inl (.inl (h.g _ _ e))
  · exact .inl (.inr ⟨o, h.g _ _ e⟩)
  · exact .inr e

mutual
theorem Rep.mono {K : PySem.W.Frag} {S S' : Gh} (h : Le S S') : ∀ (d : Tr) (v : V), Rep K S d v → Rep K S' d v
  | .non, v, r => r
  | .bl b, v, r => r
  | .int i, v, r => r
  | .str x, v, r => r
  | .lst xs, v, r => by
    simp only [Rep] at r ⊢
    obtain ⟨a, vs, e, g, q⟩ := r
    exact ⟨a, vs, e, h.g _ _ g, Reps.mono h xs vs q⟩
  | .tup xs, v, r => by
    simp only [Rep] at r ⊢
    obtain ⟨a, vs, e, g, q⟩ := r
    exact ⟨a, vs, e, h.sqT g, Reps.mono h xs vs q⟩
  | .dct ks ds, v, r => by
    simp only [Rep] at r ⊢
    obtain ⟨a, kvs, e, g, k, q⟩ := r
    exact ⟨a, kvs, e, h.g _ _ g, k, Reps.mono h ds _ q⟩
  | .ins c ds, v, r => by
    simp only [Rep] at r ⊢
    obtain ⟨a, dx, fs, e, g, k, q⟩ := r
    exact ⟨a, dx, fs, e, h.g _ _ g, k, Reps.mono h ds _ q⟩
  | .dkf ks ds, v, r => by
    simp only [Rep] at r ⊢
    obtain ⟨a, od, kvs, e, g, k, q⟩ := r
    exact ⟨a, od, kvs, e, h.g _ _ g, k, Reps.mono h ds _ q⟩
  | .exc c ds, v, r => by
    simp only [Rep] at r ⊢
    obtain ⟨a, e, ⟨dd, g, q⟩ | ⟨c', q, e1, e2, e3⟩⟩ := r
    · refine ⟨a, e, .inl ⟨dd, h.g _ _ g, ?_⟩⟩
      rcases q with q | ⟨d, fs, q1, q2, q3, q4⟩
      · exact .inl q
      · exact .inr ⟨d, fs, q1, h.g _ _ q2, q3, Reps.mono h ds _ q4.1, q4.2⟩
    · exact ⟨a, e, .inr ⟨c', q, e1, e2, h.g _ _ e3⟩⟩
  | .cell k, v, r => by
    simp only [Rep] at r ⊢
    obtain ⟨a, e, q⟩ := r
    exact ⟨a, e, prefix_get h.c q⟩
  | .scr ns, v, r => by
    simp only [Rep] at r ⊢
    obtain ⟨a, e, q⟩ := r
    exact ⟨a, e, h.sqL q⟩
theorem Reps.mono {K : PySem.W.Frag} {S S' : Gh} (h : Le S S') : ∀ (ds : List Tr) (vs : List V), Reps K S ds vs → Reps K S' ds vs
  | [], vs, r => r
  | d :: ds, vs, r => by
    simp only [Reps] at r ⊢
    obtain ⟨v, t, e, q1, q2⟩ := r
    exact ⟨v, t, e, Rep.mono h d v q1, Reps.mono h ds t q2⟩
end

section
variable {K : PySem.W.Frag} {S : Gh}
theorem Reps.nil : Reps K S [] [] := by simp only [Reps]
theorem Reps.cons {d : Tr} {ds : List Tr} {v : V} {vs : List V} (a : Rep K S d v) (b : Reps K S ds vs) : Reps K S (d :: ds) (v :: vs) := by
  simp only [Reps]; exact ⟨v, vs, rfl, a, b⟩
theorem Reps.length : ∀ {ds : List Tr} {vs : List V}, Reps K S ds vs → ds.length = vs.length
  | [], vs, r => by simp only [Reps] at r; subst r; rfl
  | d :: ds, vs, r => by
    simp only [Reps] at r
    obtain ⟨v, t, rfl, _, q⟩ := r
    simp [Reps.length q]
theorem Reps.get : ∀ {ds : List Tr} {vs : List V} {i : Nat} {d : Tr}, Reps K S ds vs → ds[i]? = some d → ∃ v, vs[i]? = some v ∧ Rep K S d v
  | [], vs, i, d, r, e => by simp at e
  | x :: ds, vs, 0, d, r, e => by
    simp only [Reps] at r
    obtain ⟨v, t, rfl, q, _⟩ := r
    simp at e; subst e
    exact ⟨v, rfl, q⟩
  | x :: ds, vs, i + 1, d, r, e => by
    simp only [Reps] at r
    obtain ⟨v, t, rfl, _, q⟩ := r
    obtain ⟨w, e1, e2⟩ := Reps.get (i := i) q (by simpa using e)
    exact ⟨w, by simpa using e1, e2⟩
theorem Reps.get' {ds : List Tr} {vs : List V} {i : Nat} {v : V} (r : Reps K S ds vs) (e : vs[i]? = some v) : ∃ d, ds[i]? = some d ∧ Rep K S d v := by
  have hi := (List.getElem?_eq_some_iff.mp e).1
  have hl := r.length
  obtain ⟨w, e1, e2⟩ := r.get (i := i) (d := ds[i]'(by omega)) (by simp)
  rw [e] at e1; cases e1
  exact ⟨_, by simp, e2⟩
theorem Reps.append : ∀ {ds es : List Tr} {vs ws : List V}, Reps K S ds vs → Reps K S es ws → Reps K S (ds ++ es) (vs ++ ws)
  | [], es, vs, ws, r, q => by simp only [Reps] at r; subst r; exact q
  | d :: ds, es, vs, ws, r, q => by
    simp only [Reps] at r
    obtain ⟨v, t, rfl, h, h2⟩ := r
    exact Reps.cons h (Reps.append h2 q)
theorem Reps.take : ∀ {ds : List Tr} {vs : List V} (n : Nat), Reps K S ds vs → Reps K S (ds.take n) (vs.take n)
  | _, _, 0, _ => by simp [Reps]
  | [], vs, n + 1, r => by simp only [Reps] at r; subst r; simp [Reps]
  | d :: ds, vs, n + 1, r => by
    simp only [Reps] at r
    obtain ⟨v, t, rfl, h, h2⟩ := r
    exact Reps.cons h (Reps.take n h2)
theorem Reps.drop : ∀ {ds : List Tr} {vs : List V} (n : Nat), Reps K S ds vs → Reps K S (ds.drop n) (vs.drop n)
  | _, _, 0, r => r
  | [], vs, n + 1, r => by simp only [Reps] at r; subst r; simp [Reps]
  | d :: ds, vs, n + 1, r => by
    simp only [Reps] at r
    obtain ⟨v, t, rfl, h, h2⟩ := r
    exact Reps.drop n h2
theorem Reps.set : ∀ {ds : List Tr} {vs : List V} {d : Tr} {v : V} (n : Nat), Reps K S ds vs → Rep K S d v → Reps K S (ds.set n d) (vs.set n v)
  | [], vs, d, v, n, r, q => by simp only [Reps] at r; subst r; simp [Reps]
  | x :: ds, vs, d, v, 0, r, q => by
    simp only [Reps] at r
    obtain ⟨w, t, rfl, h, h2⟩ := r
    exact Reps.cons q h2
  | x :: ds, vs, d, v, n + 1, r, q => by
    simp only [Reps] at r
    obtain ⟨w, t, rfl, h, h2⟩ := r
    exact Reps.cons h (Reps.set n h2 q)
theorem Reps.eraseIdx : ∀ {ds : List Tr} {vs : List V} (n : Nat), Reps K S ds vs → Reps K S (ds.eraseIdx n) (vs.eraseIdx n)
  | [], vs, n, r => by simp only [Reps] at r; subst r; simp [Reps]
  | d :: ds, vs, 0, r => by
    simp only [Reps] at r
    obtain ⟨v, t, rfl, h, h2⟩ := r
    exact h2
  | d :: ds, vs, n + 1, r => by
    simp only [Reps] at r
    obtain ⟨v, t, rfl, h, h2⟩ := r
    exact Reps.cons h (Reps.eraseIdx n h2)
theorem Reps.dropLast {ds : List Tr} {vs : List V} (r : Reps K S ds vs) : Reps K S ds.dropLast vs.dropLast := by
  have h := r.take (ds.length - 1)
  rw [List.dropLast_eq_take, List.dropLast_eq_take, ← r.length]
  exact h
theorem Reps.replicate {ds : List Tr} {vs : List V} (r : Reps K S ds vs) : ∀ n : Nat, Reps K S (List.replicate n ds).flatten (List.replicate n vs).flatten
  | 0 => by simp [Reps]
  | n + 1 => by
    simp only [List.replicate_succ, List.flatten_cons]
    exact r.append (r.replicate n)
theorem Reps.ints : ∀ (ns : List Int) {vs : List V}, Reps K S (ns.map Tr.int) vs ↔ vs = ns.map V.int
  | [], vs => by simp [Reps]
  | n :: ns, vs => by
    simp only [List.map_cons, Reps, Rep]
    constructor
    · rintro ⟨v, r, rfl, rfl, h⟩
      rw [(Reps.ints ns).mp h]
    · rintro rfl
      exact ⟨_, _, rfl, rfl, (Reps.ints ns).mpr rfl⟩
theorem Reps.bls : ∀ (bs : List Bool) {vs : List V}, Reps K S (bs.map Tr.bl) vs ↔ vs = bs.map V.bl
  | [], vs => by simp [Reps]
  | n :: ns, vs => by
    simp only [List.map_cons, Reps, Rep]
    constructor
    · rintro ⟨v, r, rfl, rfl, h⟩
      rw [(Reps.bls ns).mp h]
    · rintro rfl
      exact ⟨_, _, rfl, rfl, (Reps.bls ns).mpr rfl⟩
theorem Reps.strs : ∀ (xs : List Str) {vs : List V}, Reps K S (xs.map Tr.str) vs ↔ vs = xs.map V.str
  | [], vs => by simp [Reps]
  | n :: ns, vs => by
    simp only [List.map_cons, Reps, Rep]
    constructor
    · rintro ⟨v, r, rfl, rfl, h⟩
      rw [(Reps.strs ns).mp h]
    · rintro rfl
      exact ⟨_, _, rfl, rfl, (Reps.strs ns).mpr rfl⟩
end

/-- no table of code objects, no object by what is true of it -/
def HOx : HO → Prop
  | .tbl _ => False
  | .ext _ => False
  | _ => True
/-- a cell stands at a -/
def CeAt (K : PySem.W.Frag) (S : Gh) (H : Hp) (a : Addr) : Ce → Prop
  | .dead => ∃ o, H a = some o ∧ HOx o
  | .lst ds => S.G a = none ∧ ∃ vs, H a = some (.lst vs) ∧ Reps K S ds vs
  | .dct ks ds => S.G a = none ∧ ∃ kvs, H a = some (.dK kvs) ∧ kvs.map Prod.fst = ks ∧ Reps K S ds (kvs.map Prod.snd)
  | .ins c ds => S.G a = none ∧ ∃ dx fs, H a = some (.ins (He.ga K (cnm c)) dx fs) ∧ fs.map Prod.fst = (cfs c).take ds.length ∧ Reps K S ds (fs.map Prod.snd)
/-- the law's defs with lambdas in them -/
def LN : List Str := ["law", "_law_right", "_law_small_right", "_law_row_right", "_law_joined", "_law_lines_right", "_law_kept_right", "_law_is_right", "_law_due", "_law_inverses_right", "_law_own_right", "_law_parted_right"]
def isGlo (K : PySem.W.Frag) (x : Str) : Bool := match PySem.W.nsIn K mainGlobals x with
  | some (some (.ref _)) => true
  | _ => false
/-- their tables of code objects, and the names of the lambdas' code objects -/
def TBs (K : PySem.W.Frag) : List (Addr × Str) := (LN.filter (isGlo K)).map fun x => ((He.cT K (x, none)).2, x ++ ".<locals>.<lambda>")
abbrev TX (K : PySem.W.Frag) (H : Hp) : Prop := LamX.Tabs (TBs K) H
structure TbOk (K : PySem.W.Frag) (S : Gh) (H : Hp) : Prop where
  tabs : TX K H
  nt : ∀ a ps, S.G a ≠ some (.tbl ps)
theorem tabs_upd {K : PySem.W.Frag} {H : Hp} {a : Addr} {o o0 : HO} (t : TX K H) (e : H a = some o0) (x : HOx o0) : TX K (upd H a o) := fun p hp => by
  obtain ⟨ps, h1, h2, h3⟩ := t p hp
  have n1 : p.1 ≠ a := fun z => by rw [z, e] at h1; cases h1; exact x
  refine ⟨ps, by rw [upd_ne n1]; exact h1, h2, fun pos cv hc => ?_⟩
  obtain ⟨c, e1, e2⟩ := h3 pos cv hc
  have n2 : c ≠ a := fun z => by rw [z, e] at e2; cases e2; exact x
  exact ⟨c, e1, by rw [upd_ne n2]; exact e2⟩
theorem tabs_new {K : PySem.W.Frag} {H : Hp} {a : Addr} {o : HO} (t : TX K H) (n : H a = none) : TX K (upd H a o) := t.ext fun b u e => by rw [upd_ne (ne_of_none e n)]; exact e
theorem HOx.ntb {o : HO} (x : HOx o) : ∀ ps, o ≠ .tbl ps := fun ps z => by rw [z] at x; exact x
/-- the ghost and the cells are held by the heap -/
structure OkH (K : PySem.W.Frag) (S : Gh) (M : Me) (H : Hp) : Prop where
  sub : ∀ a o, S.G a = some o → H a = some o
  len : S.C.length = M.length
  nd : S.C.Nodup
  cell : ∀ (k : Nat) a c, S.C[k]? = some a → M[k]? = some c → CeAt K S H a c
  tb : TbOk K S H
structure Slots (K : PySem.W.Frag) (S : Gh) (ρ : En) (σ : L2.St) : Prop where
  len : ρ.length = σ.length
  at_ : ∀ (i : Nat) d, ρ[i]? = some (some d) → ∃ v, σ[i]? = some (some v) ∧ Rep K S d v
/-- an exception's tree -/
def Exc (K : PySem.W.Frag) (S : Gh) : Tr → Value → Option Addr → Prop
  | .exc c ds, cls, dd => cls = .ref (He.ga K (enm c)) ∧ ((dd = none ∧ efs c = [] ∧ ds = []) ∨ ∃ a fs, dd = some a ∧ S.G a = some (.xd fs) ∧ fs.map Prod.fst = efs c ∧ Reps K S ds (fs.map Prod.snd) ∧ efs c ≠ [])
  | _, _, _ => False
section
variable {K : PySem.W.Frag} {S S' : Gh} {M : Me} {H H' : Hp} {ρ : En} {σ : L2.St}
theorem Slots.mono (h : Slots K S ρ σ) (l : Le S S') : Slots K S' ρ σ := ⟨h.len, fun i d e => let ⟨v, a, b⟩ := h.at_ i d e; ⟨v, a, Rep.mono l _ _ b⟩⟩
theorem Slots.set {i : Nat} {d : Tr} {v : V} (h : Slots K S ρ σ) (r : Rep K S d v) : Slots K S (ρ.set i (some d)) (σ.set i (some v)) := by
  refine ⟨by simp [h.len], fun j e q => ?_⟩
  by_cases hj : j = i
  · subst hj
    have hi : j < ρ.length := by
      have := (List.getElem?_eq_some_iff.mp q).1
      simpa using this
    rw [List.getElem?_set_self hi] at q
    cases q
    exact ⟨v, by rw [List.getElem?_set_self (by rw [← h.len]; exact hi)], r⟩
  · rw [List.getElem?_set_ne (Ne.symm hj)] at q
    obtain ⟨w, e1, e2⟩ := h.at_ j e q
    exact ⟨w, by rw [List.getElem?_set_ne (Ne.symm hj)]; exact e1, e2⟩
def wipeE (ρ : En) : List Nat → En
  | [] => ρ
  | i :: r => (wipeE ρ r).set i none
theorem Slots.unset {i : Nat} (h : Slots K S ρ σ) : Slots K S (ρ.set i none) (σ.set i none) := by
  refine ⟨by simp [h.len], fun j e q => ?_⟩
  by_cases hj : j = i
  · subst hj
    by_cases hi : j < ρ.length
    · rw [List.getElem?_set_self hi] at q
      cases q
    · rw [List.getElem?_eq_none (by simpa using hi)] at q
      cases q
  · rw [List.getElem?_set_ne (Ne.symm hj)] at q
    obtain ⟨w, e1, e2⟩ := h.at_ j e q
    exact ⟨w, by rw [List.getElem?_set_ne (Ne.symm hj)]; exact e1, e2⟩
theorem Slots.wipe : ∀ {vs : List Nat}, Slots K S ρ σ → Slots K S (wipeE ρ vs) (wipe σ vs)
  | [], h => h
  | i :: r, h => (Slots.wipe (vs := r) h).unset
theorem CeAt.obj {a : Addr} {c : Ce} (q : CeAt K S H a c) : ∃ o, H a = some o ∧ HOx o := by
  cases c with
  | dead => exact q
  | lst ds => obtain ⟨_, vs, e, _⟩ := q; exact ⟨_, e, trivial⟩
  | dct ks ds => obtain ⟨_, kvs, e, _⟩ := q; exact ⟨_, e, trivial⟩
  | ins c ds => obtain ⟨_, dx, fs, e, _⟩ := q; exact ⟨_, e, trivial⟩
theorem OkH.fresh (h : OkH K S M H) {p : Addr} (n : H p = none) : S.G p = none ∧ p ∉ S.C := by
  constructor
  · cases e : S.G p with
    | none => rfl
    | some o => rw [h.sub _ _ e] at n; cases n
  · intro hp
    obtain ⟨k, hk⟩ := List.mem_iff_getElem?.mp hp
    have hk2 : k < M.length := by rw [← h.len]; exact (List.getElem?_eq_some_iff.mp hk).1
    have q := h.cell k p M[k] hk (by simp [hk2])
    obtain ⟨o, e, _⟩ := q.obj
    rw [n] at e; cases e
theorem CeAt.mono {a : Addr} {c : Ce} (q : CeAt K S H a c) (l : Le S S') (hg : S'.G a = S.G a) (hs : ∀ o, H a = some o → H' a = some o) : CeAt K S' H' a c := by
  cases c with
  | dead => obtain ⟨o, e, x⟩ := q; exact ⟨o, hs _ e, x⟩
  | lst ds => obtain ⟨g, vs, e, r⟩ := q; exact ⟨hg.trans g, vs, hs _ e, Reps.mono l _ _ r⟩
  | dct ks ds => obtain ⟨g, kvs, e, k, r⟩ := q; exact ⟨hg.trans g, kvs, hs _ e, k, Reps.mono l _ _ r⟩
  | ins c ds => obtain ⟨g, dx, fs, e, k, r⟩ := q; exact ⟨hg.trans g, dx, fs, hs _ e, k, Reps.mono l _ _ r⟩
theorem OkH.same (h : OkH K S M H) (s : Same H H') : OkH K S M H' :=
  ⟨fun a o e => s _ _ (h.sub a o e), h.len, h.nd, fun k a c e1 e2 => (h.cell k a c e1 e2).mono (Le.refl S) rfl fun o e => s _ _ e, ⟨h.tb.tabs.ext s, h.tb.nt⟩⟩
theorem same_upd {p : Addr} {o : HO} (n : H p = none) : Same H (upd H p o) := fun b u e => by rw [upd_ne (ne_of_none e n)]; exact e
theorem ntb_upd {G : Hp} {p : Addr} {o : HO} (h : ∀ a ps, G a ≠ some (.tbl ps)) (ho : ∀ ps, o ≠ .tbl ps) : ∀ a ps, upd G p o a ≠ some (.tbl ps) := fun a ps e => by
  by_cases z : a = p
  · rw [z, upd_same] at e; exact ho ps (Option.some.inj e)
  · rw [upd_ne z] at e; exact h a ps e
theorem OkH.tree (h : OkH K S M H) {p : Addr} {o : HO} (n : H p = none) (ho : ∀ ps, o ≠ .tbl ps := by nofun) : OkH K ⟨upd S.G p o, S.C⟩ M (upd H p o) ∧ Le S ⟨upd S.G p o, S.C⟩ := by
  obtain ⟨n1, n2⟩ := h.fresh n
  have l : Le S ⟨upd S.G p o, S.C⟩ := ⟨same_upd n1, List.prefix_refl _⟩
  refine ⟨⟨fun a u e => ?_, h.len, h.nd, fun k a c e1 e2 => ?_, ⟨tabs_new h.tb.tabs n, ntb_upd h.tb.nt ho⟩⟩, l⟩
  · by_cases ha : a = p
    · subst ha
      rw [show (⟨upd S.G a o, S.C⟩ : Gh).G a = some o from upd_same] at e
      cases e
      exact upd_same
    · rw [show (⟨upd S.G p o, S.C⟩ : Gh).G a = S.G a from upd_ne ha] at e
      rw [upd_ne ha]
      exact h.sub a u e
  · have ha : a ≠ p := fun z => n2 (z ▸ List.mem_iff_getElem?.mpr ⟨k, e1⟩)
    exact (h.cell k a c e1 e2).mono l (upd_ne ha) fun u e => by rw [upd_ne ha]; exact e
theorem OkH.newCell (h : OkH K S M H) {p : Addr} {o : HO} {c : Ce} (n : H p = none) (q : CeAt K S (upd H p o) p c) : OkH K ⟨S.G, S.C ++ [p]⟩ (M ++ [c]) (upd H p o) ∧ Le S ⟨S.G, S.C ++ [p]⟩ := by
  obtain ⟨n1, n2⟩ := h.fresh n
  have l : Le S ⟨S.G, S.C ++ [p]⟩ := ⟨fun _ _ e => e, List.prefix_append _ _⟩
  refine ⟨⟨fun a u e => ?_, by simp [h.len], ?_, fun k a c' e1 e2 => ?_, ⟨tabs_new h.tb.tabs n, h.tb.nt⟩⟩, l⟩
  · have ha : a ≠ p := fun z => by subst z; rw [show S.G a = some u from e] at n1; cases n1
    rw [upd_ne ha]
    exact h.sub a u e
  · rw [List.nodup_append]
    refine ⟨h.nd, by simp, fun a ha b hb z => ?_⟩
    have hb' : b = p := by simpa using hb
    rw [z, hb'] at ha
    exact n2 ha
  · by_cases hk : k < S.C.length
    · rw [show (⟨S.G, S.C ++ [p]⟩ : Gh).C[k]? = S.C[k]? from List.getElem?_append_left hk] at e1
      rw [List.getElem?_append_left (by rw [← h.len]; exact hk)] at e2
      have ha : a ≠ p := fun z => n2 (z ▸ List.mem_iff_getElem?.mpr ⟨k, e1⟩)
      exact (h.cell k a c' e1 e2).mono l rfl fun u e => by rw [upd_ne ha]; exact e
    · rw [show (⟨S.G, S.C ++ [p]⟩ : Gh).C[k]? = (S.C ++ [p])[k]? from rfl, List.getElem?_append_right (by omega)] at e1
      rw [List.getElem?_append_right (by rw [← h.len]; omega)] at e2
      obtain ⟨hk0, rfl⟩ : k - S.C.length = 0 ∧ a = p := by
        cases e : k - S.C.length with
        | zero => rw [e] at e1; simp at e1; exact ⟨rfl, e1.symm⟩
        | succ m => rw [e] at e1; simp at e1
      rw [← h.len, hk0] at e2
      simp at e2
      subst e2
      exact q.mono l rfl fun _ e => e
theorem OkH.setCell (h : OkH K S M H) {k : Nat} {a : Addr} {o : HO} {c c' : Ce} (e1 : S.C[k]? = some a) (e2 : M[k]? = some c) (g : S.G a = none) (q : CeAt K S (upd H a o) a c') (hd : c ≠ .dead := by nofun) : OkH K S (M.set k c') (upd H a o) := by
  have hk : k < M.length := (List.getElem?_eq_some_iff.mp e2).1
  obtain ⟨o0, hx1, hx2⟩ := (h.cell k a c e1 e2).obj
  refine ⟨fun b u e => ?_, by simp [h.len], h.nd, fun j b c'' f1 f2 => ?_, ⟨tabs_upd h.tb.tabs hx1 hx2, h.tb.nt⟩⟩
  · have hb : b ≠ a := fun z => by subst z; rw [e] at g; cases g
    rw [upd_ne hb]
    exact h.sub b u e
  · by_cases hj : j = k
    · subst hj
      rw [e1] at f1; cases f1
      rw [List.getElem?_set_self hk] at f2; cases f2
      exact q
    · have hb : b ≠ a := fun z => by
        subst z
        obtain ⟨g1, g2⟩ := List.getElem?_eq_some_iff.mp e1
        obtain ⟨g3, g4⟩ := List.getElem?_eq_some_iff.mp f1
        exact hj ((List.getElem_inj h.nd).mp (g4.trans g2.symm))
      rw [List.getElem?_set_ne (Ne.symm hj)] at f2
      exact (h.cell j b c'' f1 f2).mono (Le.refl S) rfl fun u e => by rw [upd_ne hb]; exact e
theorem OkH.freeze (h : OkH K S M H) {k : Nat} {a : Addr} {o : HO} {c : Ce} (e1 : S.C[k]? = some a) (e2 : M[k]? = some c) (g : S.G a = none) (e : H a = some o) (ho : ∀ ps, o ≠ .tbl ps := by nofun) : OkH K ⟨upd S.G a o, S.C⟩ (M.set k .dead) H ∧ Le S ⟨upd S.G a o, S.C⟩ := by
  have hk : k < M.length := (List.getElem?_eq_some_iff.mp e2).1
  have l : Le S ⟨upd S.G a o, S.C⟩ := ⟨same_upd g, List.prefix_refl _⟩
  refine ⟨⟨fun b u f => ?_, by simp [h.len], h.nd, fun j b c'' f1 f2 => ?_, ⟨h.tb.tabs, ntb_upd h.tb.nt ho⟩⟩, l⟩
  · by_cases hb : b = a
    · subst hb
      rw [show (⟨upd S.G b o, S.C⟩ : Gh).G b = some o from upd_same] at f
      cases f
      exact e
    · rw [show (⟨upd S.G a o, S.C⟩ : Gh).G b = S.G b from upd_ne hb] at f
      exact h.sub b u f
  · by_cases hj : j = k
    · subst hj
      rw [List.getElem?_set_self hk] at f2; cases f2
      rw [show (⟨upd S.G a o, S.C⟩ : Gh).C[j]? = S.C[j]? from rfl, e1] at f1; cases f1
      obtain ⟨o0, hx1, hx2⟩ := (h.cell j a c e1 e2).obj
      exact ⟨o0, hx1, hx2⟩
    · have hb : b ≠ a := fun z => by
        subst z
        obtain ⟨g1, g2⟩ := List.getElem?_eq_some_iff.mp e1
        obtain ⟨g3, g4⟩ := List.getElem?_eq_some_iff.mp f1
        exact hj ((List.getElem_inj h.nd).mp (g4.trans g2.symm))
      rw [List.getElem?_set_ne (Ne.symm hj)] at f2
      exact (h.cell j b c'' f1 f2).mono l (upd_ne hb) fun _ z => z
end

/-- nothing of ours stands at a: nothing, a table, or an object by what is true of it -/
def NX (H : Hp) (a : Addr) : Prop := ∀ u, H a = some u → ¬ HOx u
theorem NX.of {H : Hp} {a : Addr} (e : H a = none) : NX H a := fun u z => by rw [e] at z; cases z
theorem NX.no {H : Hp} {a : Addr} {o : HO} (n : NX H a) (e : H a = some o) (x : HOx o) : False := n o e x
/-- nothing but a table stands at a -/
def NT (H : Hp) (a : Addr) : Prop := ∀ u, H a = some u → ∃ ps, u = .tbl ps
theorem NT.of {H : Hp} {a : Addr} (e : H a = none) : NT H a := fun u z => by rw [e] at z; cases z
theorem NT.nx {H : Hp} {a : Addr} (n : NT H a) : NX H a := fun u e x => by obtain ⟨ps, rfl⟩ := n u e; exact x
theorem NT.no {H : Hp} {a : Addr} {o : HO} (n : NT H a) (e : H a = some o) (h : ∀ ps, o ≠ .tbl ps := by nofun) : False := by obtain ⟨ps, z⟩ := n o e; exact h ps z
/-- from a heap to a later one: the ghost grows, new cells stand at new places, all that is tracked and is no cell stays (but the tables, which grow) -/
structure Gr (S : Gh) (H : Hp) (S' : Gh) (H' : Hp) : Prop where
  le : Le S S'
  new : ∀ a, a ∈ S'.C → a ∉ S.C → NT H a
  keep : ∀ a o, H a = some o → (∀ ps, o ≠ .tbl ps) → a ∉ S.C → H' a = some o
  fz : ∀ a, S.G a = none → S'.G a ≠ none → NX H a ∨ a ∈ S.C
theorem NT.back {H : Hp} {a D : Addr} {o : HO} (n : NT (upd H D o) a) (h : H D = none) : NT H a := by
  by_cases z : a = D
  · rw [z]; exact NT.of h
  · intro u e; exact n u (by rw [upd_ne z]; exact e)
theorem NX.back' {H : Hp} {a D : Addr} {o : HO} (n : NX (upd H D o) a) (h : a ≠ D) : NX H a := fun u e => n u (by rw [upd_ne h]; exact e)
theorem NX.back {H : Hp} {a D : Addr} {o : HO} (n : NX (upd H D o) a) (h : H D = none) : NX H a := by
  by_cases z : a = D
  · rw [z]; exact NX.of h
  · intro u e; exact n u (by rw [upd_ne z]; exact e)
theorem Gr.keepN {S S' : Gh} {H H' : Hp} (g : Gr S H S' H') {a : Addr} {o : HO} (e : H a = some o) (n : a ∉ S.C) (ho : ∀ ps, o ≠ .tbl ps := by nofun) : H' a = some o := g.keep a o e ho n
theorem Gr.nx {S S' : Gh} {H H' : Hp} (g : Gr S H S' H') {a : Addr} (n : a ∉ S.C) (h : NX H' a) : NX H a := fun u e x => h u (g.keep a u e x.ntb n) x
theorem Gr.refl (S : Gh) (H : Hp) : Gr S H S H := ⟨Le.refl S, fun _ a b => absurd a b, fun _ o e _ _ => e, fun _ a b => absurd a b⟩
theorem Gr.trans {S S1 S2 : Gh} {H H1 H2 : Hp} (a : Gr S H S1 H1) (b : Gr S1 H1 S2 H2) : Gr S H S2 H2 := by
  refine ⟨a.le.trans b.le, fun x h1 h2 => ?_, fun x o h1 hn h2 => ?_, fun x h1 h2 => ?_⟩
  · by_cases h3 : x ∈ S1.C
    · exact a.new x h3 h2
    · intro u e
      exact Classical.byContradiction fun hu => (b.new x h1 h3).no (a.keep x u e (fun ps z => hu ⟨ps, z⟩) h2) (fun ps z => hu ⟨ps, z⟩)
  · by_cases h3 : x ∈ S1.C
    · exact ((a.new x h3 h2).no h1 hn).elim
    · exact b.keep x o (a.keep x o h1 hn h2) hn h3
  · by_cases hc : x ∈ S.C
    · exact .inr hc
    · by_cases h3 : S1.G x = none
      · left
        rcases b.fz x h3 h2 with h | h
        · exact a.nx hc h
        · exact (a.new x h hc).nx
      · exact a.fz x h1 h3
theorem Gr.same {S : Gh} {H H' : Hp} (s : Same H H') : Gr S H S H' := ⟨Le.refl S, fun _ a b => absurd a b, fun a o e _ _ => s a o e, fun _ a b => absurd a b⟩
theorem upd_none {G : Hp} {p x : Addr} {o : HO} (h1 : G x = none) (h2 : upd G p o x ≠ none) : x = p := by
  by_cases h : x = p
  · exact h
  · rw [upd_ne h] at h2; exact absurd h1 h2
theorem gr_tree {S : Gh} {H : Hp} {p : Addr} {o : HO} (l : Le S ⟨upd S.G p o, S.C⟩) (n : H p = none) : Gr S H ⟨upd S.G p o, S.C⟩ (upd H p o) :=
  ⟨l, fun _ a b => absurd a b, fun a u e _ _ => same_upd n a u e, fun x h1 h2 => .inl (NX.of (by rw [upd_none h1 h2]; exact n))⟩
theorem gr_newCell {S : Gh} {H : Hp} {p : Addr} {o : HO} (l : Le S ⟨S.G, S.C ++ [p]⟩) (n : H p = none) : Gr S H ⟨S.G, S.C ++ [p]⟩ (upd H p o) := by
  refine ⟨l, fun a h1 h2 => ?_, fun a u e _ _ => same_upd n a u e, fun _ a b => absurd a b⟩
  rcases List.mem_append.mp h1 with h | h
  · exact absurd h h2
  · rw [List.mem_singleton.mp h]; exact NT.of n
theorem gr_setCell {S : Gh} {H : Hp} {k : Nat} {a : Addr} {o : HO} (e : S.C[k]? = some a) : Gr S H S (upd H a o) :=
  ⟨Le.refl S, fun _ a b => absurd a b, fun b u h _ n => by
    have hb : b ≠ a := fun z => n (z ▸ List.mem_iff_getElem?.mpr ⟨k, e⟩)
    rw [upd_ne hb]; exact h, fun _ a b => absurd a b⟩
theorem gr_freeze {S : Gh} {H : Hp} {k : Nat} {a : Addr} {o : HO} (l : Le S ⟨upd S.G a o, S.C⟩) (e : S.C[k]? = some a) : Gr S H ⟨upd S.G a o, S.C⟩ H :=
  ⟨l, fun _ a b => absurd a b, fun _ o e _ _ => e, fun x h1 h2 => .inr (by rw [upd_none h1 h2]; exact List.mem_iff_getElem?.mpr ⟨k, e⟩)⟩
/-- an object that is neither frozen nor a cell -/
theorem OkH.other {K : PySem.W.Frag} {S : Gh} {M : Me} {H : Hp} {p : Addr} {o : HO} (h : OkH K S M H) (g : S.G p = none) (c : p ∉ S.C) (hp : H p = none ∨ ∃ o0, H p = some o0 ∧ HOx o0) : OkH K S M (upd H p o) := by
  refine ⟨fun a u e => ?_, h.len, h.nd, fun k a ce e1 e2 => ?_, ⟨hp.elim (fun e => tabs_new h.tb.tabs e) (fun ⟨o0, e1, e2⟩ => tabs_upd h.tb.tabs e1 e2), h.tb.nt⟩⟩
  · have ha : a ≠ p := fun z => by rw [z, g] at e; cases e
    rw [upd_ne ha]; exact h.sub a u e
  · have ha : a ≠ p := fun z => c (z ▸ List.mem_iff_getElem?.mpr ⟨k, e1⟩)
    exact (h.cell k a ce e1 e2).mono (Le.refl S) rfl fun u e => by rw [upd_ne ha]; exact e
theorem OkH.take' {K : PySem.W.Frag} {S : Gh} {M : Me} {H : Hp} {p : Addr} {o : HO} (h : OkH K S M H) (g : S.G p = none) (c : p ∉ S.C) (e : H p = some o) (ho : ∀ ps, o ≠ .tbl ps := by nofun) : OkH K ⟨upd S.G p o, S.C⟩ M H ∧ Le S ⟨upd S.G p o, S.C⟩ := by
  have l : Le S ⟨upd S.G p o, S.C⟩ := ⟨same_upd g, List.prefix_refl _⟩
  refine ⟨⟨fun a u f => ?_, h.len, h.nd, fun k a ce e1 e2 => ?_, ⟨h.tb.tabs, ntb_upd h.tb.nt ho⟩⟩, l⟩
  · by_cases ha : a = p
    · subst ha
      rw [show (⟨upd S.G a o, S.C⟩ : Gh).G a = some o from upd_same] at f
      cases f; exact e
    · rw [show (⟨upd S.G p o, S.C⟩ : Gh).G a = S.G a from upd_ne ha] at f
      exact h.sub a u f
  · have ha : a ≠ p := fun z => c (z ▸ List.mem_iff_getElem?.mpr ⟨k, e1⟩)
    exact (h.cell k a ce e1 e2).mono l (upd_ne ha) fun _ z => z
/-- cells at the end are dropped -/
theorem OkH.drop {K : PySem.W.Frag} {S : Gh} {M : Me} {H : Hp} (h : OkH K S M H) (n : Nat) : (∀ (k : Nat) a c, k < n → S.C[k]? = some a → M[k]? = some c → CeAt K ⟨S.G, S.C.take n⟩ H a c) → OkH K ⟨S.G, S.C.take n⟩ (M.take n) H := fun hc =>
  ⟨h.sub, by simp [h.len], h.nd.sublist (List.take_sublist _ _), fun k a c e1 e2 => by
    have hk : k < n := by
      have := (List.getElem?_eq_some_iff.mp e1).1
      have : k < (S.C.take n).length := this
      rw [List.length_take] at this
      omega
    rw [show (⟨S.G, S.C.take n⟩ : Gh).C[k]? = (S.C.take n)[k]? from rfl, List.getElem?_take_of_lt hk] at e1
    rw [List.getElem?_take_of_lt hk] at e2
    exact hc k a c hk e1 e2, ⟨h.tb.tabs, h.tb.nt⟩⟩

/-! ### readings over trees -/
abbrev TK := Tr → Me → Prop
/-- what an expression (α a tree), a test (a truth), arguments (trees) ask -/
structure Rd (α : Type) where
  f : En → Me → (α → Me → Prop) → TK → Prop
  mono : ∀ {ρ : En} {M : Me} {Q Q' : α → Me → Prop} {E E' : TK}, (∀ a M, Q a M → Q' a M) → (∀ d M, E d M → E' d M) → f ρ M Q E → f ρ M Q' E'
structure Fin where
  nx : En → Me → Prop
  rt : TK
  bk : En → Me → Prop := fun _ _ => False
  ct : En → Me → Prop := fun _ _ => False
  er : En → Tr → Me → Prop
structure Fin.Le (D D' : Fin) : Prop where
  nx : ∀ ρ M, D.nx ρ M → D'.nx ρ M
  rt : ∀ d M, D.rt d M → D'.rt d M
  bk : ∀ ρ M, D.bk ρ M → D'.bk ρ M
  ct : ∀ ρ M, D.ct ρ M → D'.ct ρ M
  er : ∀ ρ d M, D.er ρ d M → D'.er ρ d M
theorem Fin.Le.refl (D : Fin) : Fin.Le D D := ⟨fun _ _ h => h, fun _ _ h => h, fun _ _ h => h, fun _ _ h => h, fun _ _ _ h => h⟩
structure Sr where
  f : Fin → En → Me → Prop
  mono : ∀ {D D' : Fin} {ρ : En} {M : Me}, Fin.Le D D' → f D ρ M → f D' ρ M

section
variable (K : PySem.W.Frag) (W : WX)
def ErrE (S : Gh) (H : Hp) (σ : L2.St) (E : TK) : Prop := ∀ d M S' H' cls dd, Gr S H S' H' → OkH K S' M H' → Exc K S' d cls dd → E d M → W cls dd σ H'
def liftE (t : Rd Tr) : TE := fun σ H Q => ∃ ρ M S E, OkH K S M H ∧ Slots K S ρ σ ∧ ErrE K W S H σ E ∧ t.f ρ M (fun d M' => ∀ v H' S', Gr S H S' H' → OkH K S' M' H' → Rep K S' d v → Q v H') E
def liftT (t : Rd Bool) : TT := fun σ H Q => ∃ ρ M S E, OkH K S M H ∧ Slots K S ρ σ ∧ ErrE K W S H σ E ∧ t.f ρ M (fun b M' => ∀ H' S', Gr S H S' H' → OkH K S' M' H' → Q b H') E
def liftA (t : Rd (List Tr)) : TA := fun σ H Q => ∃ ρ M S E, OkH K S M H ∧ Slots K S ρ σ ∧ ErrE K W S H σ E ∧ t.f ρ M (fun ds M' => ∀ vs H' S', Gr S H S' H' → OkH K S' M' H' → Reps K S' ds vs → Q vs H') E
structure EndsOk (S : Gh) (H : Hp) (D : Ends) (F : Fin) : Prop where
  nx : ∀ ρ M S' σ H', Gr S H S' H' → OkH K S' M H' → Slots K S' ρ σ → F.nx ρ M → D.nx σ H'
  rt : ∀ d M S' v H', Gr S H S' H' → OkH K S' M H' → Rep K S' d v → F.rt d M → D.rt v H'
  bk : ∀ ρ M S' σ H', Gr S H S' H' → OkH K S' M H' → Slots K S' ρ σ → F.bk ρ M → D.bk σ H'
  ct : ∀ ρ M S' σ H', Gr S H S' H' → OkH K S' M H' → Slots K S' ρ σ → F.ct ρ M → D.ct σ H'
  er : ∀ ρ d M S' σ H' cls dd, Gr S H S' H' → OkH K S' M H' → Slots K S' ρ σ → Exc K S' d cls dd → F.er ρ d M → W cls dd σ H'
def liftS (t : Sr) : TS := fun D σ H => ∃ ρ M S F, OkH K S M H ∧ Slots K S ρ σ ∧ EndsOk K W S H D F ∧ t.f F ρ M
end
theorem ErrE.mono {K : PySem.W.Frag} {W : WX} {S S' : Gh} {H H' : Hp} {σ : L2.St} {E : TK} (h : ErrE K W S H σ E) (l : Gr S H S' H') : ErrE K W S' H' σ E := fun d M S2 H2 cls dd l2 o x e => h d M S2 H2 cls dd (l.trans l2) o x e
theorem EndsOk.mono {K : PySem.W.Frag} {W : WX} {S S' : Gh} {H H' : Hp} {D : Ends} {F : Fin} (h : EndsOk K W S H D F) (l : Gr S H S' H') : EndsOk K W S' H' D F :=
  ⟨fun ρ M S2 σ H l2 => h.nx ρ M S2 σ H (l.trans l2), fun d M S2 v H l2 => h.rt d M S2 v H (l.trans l2), fun ρ M S2 σ H l2 => h.bk ρ M S2 σ H (l.trans l2), fun ρ M S2 σ H l2 => h.ct ρ M S2 σ H (l.trans l2),
    fun ρ d M S2 σ H cls dd l2 => h.er ρ d M S2 σ H cls dd (l.trans l2)⟩
theorem EndsOk.err {K : PySem.W.Frag} {W : WX} {S : Gh} {H : Hp} {D : Ends} {F : Fin} {ρ : En} {σ : L2.St} (h : EndsOk K W S H D F) (s : Slots K S ρ σ) : ErrE K W S H σ (F.er ρ) :=
  fun d M S' H' cls dd l o x e => h.er ρ d M S' σ H' cls dd l o (s.mono l.le) x e
abbrev PD (X : Cx) (W : WX) (e : Expr) (t : Rd Tr) : Prop := PE X e (liftE X.K W t)
abbrev PDT (X : Cx) (W : WX) (e : Expr) (t : Rd Bool) : Prop := PT X e (liftT X.K W t)
abbrev PDA (X : Cx) (W : WX) (es : List Expr) (t : Rd (List Tr)) : Prop := PA X es (liftA X.K W t)
abbrev PDS (X : Cx) (W : WX) (s : Stmt) (t : Sr) : Prop := PS X s (liftS X.K W t)
abbrev PDSs (X : Cx) (W : WX) (s : List Stmt) (t : Sr) : Prop := PSs X s (liftS X.K W t)
section
variable {X : Cx} {e : Expr} {es : List Expr} {st : Stmt} {sts : List Stmt}
theorem pe_imp {t t' : TE} (p : PE X e t) (h : ∀ σ H Q, t' σ H Q → t σ H Q) : PE X e t' := ⟨fun pins s σ H Q I q => p.run pins s σ H Q I (h σ H Q q)⟩
theorem pt_imp {t t' : TT} (p : PT X e t) (h : ∀ σ H Q, t' σ H Q → t σ H Q) : PT X e t' := ⟨fun pins s σ H Q I q => p.run pins s σ H Q I (h σ H Q q)⟩
theorem pw_imp {t t' : TT} (p : PW X e t) (h : ∀ σ H Q, t' σ H Q → t σ H Q) : PW X e t' := ⟨fun wh pins s σ H Q I q => p.run wh pins s σ H Q I (h σ H Q q)⟩
theorem pa_imp {t t' : TA} (p : PA X es t) (h : ∀ σ H Q, t' σ H Q → t σ H Q) : PA X es t' := ⟨fun pos pins s σ H Q I q => p.run pos pins s σ H Q I (h σ H Q q)⟩
theorem ps_imp {t t' : TS} (p : PS X st t) (h : ∀ D σ H, t' D σ H → t D σ H) : PS X st t' := ⟨fun pins s σ H D I q => p.run pins s σ H D I (h D σ H q)⟩
theorem pss_imp {t t' : TS} (p : PSs X sts t) (h : ∀ D σ H, t' D σ H → t D σ H) : PSs X sts t' := ⟨fun pins s σ H D I q => p.run pins s σ H D I (h D σ H q)⟩
end
end DL
end T_DL0
section T_DL1
set_option Elab.async false
set_option linter.all false
set_option maxRecDepth 100000
set_option maxHeartbeats 4000000
/-! DL1: expressions over trees: names, constants, operators, comparisons, tests, displays, places, slices. -/
namespace DL
open PySem PySem.Spec PyProof.Rows L2

def onSome {α : Type} (o : Option α) (k : α → Prop) : Prop := match o with
  | some z => k z
  | none => False
theorem onSome_mono {α : Type} {o : Option α} {k k' : α → Prop} (h : ∀ z, k z → k' z) (q : onSome o k) : onSome o k' := by
  cases o with
  | none => exact q
  | some z => exact h z q
theorem onSome_of {α : Type} {o : Option α} {k : α → Prop} (q : onSome o k) : ∃ z, o = some z ∧ k z := by
  cases o with
  | none => exact q.elim
  | some z => exact ⟨z, rfl, q⟩

/-! ### names, constants -/
def dVar (i : Nat) : Rd Tr := ⟨fun ρ M Q _ => match ρ[i]? with
  | some (some d) => Q d M
  | _ => False, fun {ρ M Q Q' E E'} h _ q => by
    split at q
    · exact h _ _ q
    · exact q.elim⟩
def dC (d : Tr) : Rd Tr := ⟨fun _ M Q _ => Q d M, fun h _ q => h _ _ q⟩
section
variable {X : Cx} {W : WX} {pos : Pos}
theorem pd_var {i : Nat} {x : Str} (p : PE X (.Name x pos) (tVar i)) : PD X W (.Name x pos) (dVar i) := by
  refine pe_imp p fun σ H Q h => ?_
  obtain ⟨ρ, M, S, E, o, s, _, q⟩ := h
  have q' : (match ρ[i]? with
    | some (some d) => (fun d M' => ∀ v H' S', Gr S H S' H' → OkH X.K S' M' H' → Rep X.K S' d v → Q v H') d M
    | _ => False) := q
  split at q'
  · rename_i d e
    obtain ⟨v, e1, r⟩ := s.at_ i d e
    exact ⟨v, e1, q' v H S (Gr.refl S H) o r⟩
  · exact q'.elim
theorem pd_c {e : Expr} {v : V} {d : Tr} (p : PE X e (tC v)) (r : ∀ S, Rep X.K S d v) : PD X W e (dC d) := by
  refine pe_imp p fun σ H Q h => ?_
  obtain ⟨ρ, M, S, E, o, s, _, q⟩ := h
  exact q v H S (Gr.refl S H) o (r S)
theorem pd_int {i j} : PD X W (.Constant (.int i) j pos) (dC (.int i)) := pd_c pe_int fun _ => by simp only [Rep]
theorem pd_bl {b j} : PD X W (.Constant (.bool b) j pos) (dC (.bl b)) := pd_c pe_bl fun _ => by simp only [Rep]
theorem pd_non {j} : PD X W (.Constant .none j pos) (dC .non) := pd_c pe_non fun _ => by simp only [Rep]
theorem pd_str {x j} : PD X W (.Constant (.str x) j pos) (dC (.str x)) := pd_c pe_str fun _ => by simp only [Rep]
end

/-! ### two-place operations by values -/
abbrev F2 := Me → Tr → Tr → Option Tr
def rD (K : PySem.W.Frag) (f : F2) : R2 := fun x y H Q => ∃ S M d e z, OkH K S M H ∧ Rep K S d x ∧ Rep K S e y ∧ f M d e = some z ∧ ∀ w H' S', Gr S H S' H' → OkH K S' M H' → Rep K S' z w → Q w H'
def dOp (f : F2) (a b : Rd Tr) : Rd Tr := ⟨fun ρ M Q E => a.f ρ M (fun d M1 => b.f ρ M1 (fun e M2 => onSome (f M2 d e) fun z => Q z M2) E) E,
  fun h h' q => a.mono (fun d M1 => b.mono (fun e M2 => onSome_mono fun z => h z M2) h') h' q⟩
section
variable {X : Cx} {W : WX} {pos : Pos} {a b c : Expr} {ta tb tc : Rd Tr} {f g : F2}
theorem opimp {f : Value → Value → Sem Value} {r r' : R2} (h : OpR X f r) (i : ∀ x y H Q, r' x y H Q → r x y H Q) : OpR X f r' := fun pins s σ H x y v u Q I rx ry q => h pins s σ H x y v u Q I rx ry (i x y H Q q)
theorem lift_op {K : PySem.W.Frag} {σ : L2.St} {H : Hp} {Q : VK} (h : liftE K W (dOp f ta tb) σ H Q) : tOp (rD K f) (liftE K W ta) (liftE K W tb) σ H Q := by
  obtain ⟨ρ, M, S, E, o, s, er, q⟩ := h
  refine ⟨ρ, M, S, E, o, s, er, ta.mono (fun d M1 q1 => ?_) (fun _ _ z => z) q⟩
  intro v H1 S1 l1 o1 r1
  refine ⟨ρ, M1, S1, E, o1, s.mono l1.le, er.mono l1, tb.mono (fun e M2 q2 => ?_) (fun _ _ z => z) q1⟩
  intro w H2 S2 l2 o2 r2
  obtain ⟨z, hz, q3⟩ := onSome_of q2
  exact ⟨S2, M2, d, e, z, o2, Rep.mono l2.le _ _ r1, r2, hz, fun w' H3 S3 l3 o3 r3 => q3 w' H3 S3 (l1.trans (l2.trans l3)) o3 r3⟩
theorem pd_op {op : Operator} (ho : OpR X (binaryOp op) (rD X.K f)) (ha : PD X W a ta) (hb : PD X W b tb) : PD X W (.BinOp a op b pos) (dOp f ta tb) := pe_imp (pe_op ho ha hb) fun _ _ _ => lift_op
theorem pd_cmp {op : CmpOp} (ho : OpR X (compareOp op) (rD X.K f)) (ha : PD X W a ta) (hb : PD X W b tb) (hm : behindInMarks op b = false) : PD X W (.Compare a [op] [b] pos) (dOp f ta tb) := pe_imp (pe_cmpR ho ha hb hm) fun _ _ _ => lift_op
/-- a reading whose tree is a truth, as a test -/
def dTest (t : Rd Tr) : Rd Bool := ⟨fun ρ M Q E => t.f ρ M (fun d M1 => match d with
  | .bl b => Q b M1
  | _ => False) E, fun {ρ M Q Q' E E'} h h' q => t.mono (fun d M1 z => by
    split at z
    · exact h _ _ z
    · exact z.elim) h' q⟩
theorem lift_test {K : PySem.W.Frag} {t : Rd Tr} {σ : L2.St} {H : Hp} {Q : Bool → Hp → Prop} (h : liftT K W (dTest t) σ H Q) : liftE K W t σ H fun x H' => ∃ k, x = .bl k ∧ Q k H' := by
  obtain ⟨ρ, M, S, E, o, s, er, q⟩ := h
  refine ⟨ρ, M, S, E, o, s, er, t.mono (fun d M1 q1 => ?_) (fun _ _ z => z) q⟩
  intro v H1 S1 l1 o1 r1
  dsimp only at q1
  split at q1
  · rename_i b
    simp only [Rep] at r1
    exact ⟨b, r1, q1 H1 S1 l1 o1⟩
  · exact q1.elim
theorem pt_cmp' {op : CmpOp} (ho : OpR X (compareOp op) (rD X.K f)) (ha : PD X W a ta) (hb : PD X W b tb) (hm : behindInMarks op b = false) : PDT X W (.Compare a [op] [b] pos) (dTest (dOp f ta tb)) :=
  pt_imp (pt_cmpR ho ha hb hm) fun σ H Q h => lift_op (lift_test h)
/-- a truth's expression that is tested plainly (a name, a call) -/
theorem pt_val' {e : Expr} {t : Rd Tr} (h : PD X W e t) (he : ∀ whole, isTrue e X.env whole = (do let v ← whole; standAt e.pos; holding [v] (truthy v)) := by intro _; rfl) : PDT X W e (dTest t) :=
  pt_imp (pt_val h he) fun σ H Q h => lift_test h

/-! ### and, or, not, if -/
def dAndT (t u : Rd Bool) : Rd Bool := ⟨fun ρ M Q E => t.f ρ M (fun b M1 => if b = true then u.f ρ M1 Q E else Q false M1) E, fun h h' q => t.mono (fun b M1 z => by
  by_cases hb : b = true
  · rw [if_pos hb] at z ⊢; exact u.mono h h' z
  · rw [if_neg hb] at z ⊢; exact h _ _ z) h' q⟩
def dOrT (t u : Rd Bool) : Rd Bool := ⟨fun ρ M Q E => t.f ρ M (fun b M1 => if b = true then Q true M1 else u.f ρ M1 Q E) E, fun h h' q => t.mono (fun b M1 z => by
  by_cases hb : b = true
  · rw [if_pos hb] at z ⊢; exact h _ _ z
  · rw [if_neg hb] at z ⊢; exact u.mono h h' z) h' q⟩
def dNotT (t : Rd Bool) : Rd Bool := ⟨fun ρ M Q E => t.f ρ M (fun b M1 => Q (!b) M1) E, fun h h' q => t.mono (fun b M1 z => h _ _ z) h' q⟩
def dIf {α : Type} (t : Rd Bool) (u v : Rd α) : Rd α := ⟨fun ρ M Q E => t.f ρ M (fun b M1 => if b = true then u.f ρ M1 Q E else v.f ρ M1 Q E) E, fun h h' q => t.mono (fun b M1 z => by
  by_cases hb : b = true
  · rw [if_pos hb] at z ⊢; exact u.mono h h' z
  · rw [if_neg hb] at z ⊢; exact v.mono h h' z) h' q⟩
/-- and, or as values: the first a truth -/
def dAndV (t u : Rd Tr) : Rd Tr := ⟨fun ρ M Q E => t.f ρ M (fun d M1 => match d with
  | .bl true => u.f ρ M1 Q E
  | .bl false => Q (.bl false) M1
  | _ => False) E, fun h h' q => t.mono (fun d M1 z => by
    split at z
    · exact u.mono h h' z
    · exact h _ _ z
    · exact z.elim) h' q⟩
def dOrV (t u : Rd Tr) : Rd Tr := ⟨fun ρ M Q E => t.f ρ M (fun d M1 => match d with
  | .bl true => Q (.bl true) M1
  | .bl false => u.f ρ M1 Q E
  | _ => False) E, fun h h' q => t.mono (fun d M1 z => by
    split at z
    · exact h _ _ z
    · exact u.mono h h' z
    · exact z.elim) h' q⟩
def dNotV (t : Rd Tr) : Rd Tr := ⟨fun ρ M Q E => t.f ρ M (fun d M1 => match d with
  | .bl b => Q (.bl (!b)) M1
  | _ => False) E, fun h h' q => t.mono (fun d M1 z => by
    split at z
    · exact h _ _ z
    · exact z.elim) h' q⟩
variable {tA tB : Rd Bool} {rest : List Expr}
theorem lift_and {K : PySem.W.Frag} {σ : L2.St} {H : Hp} {Q : Bool → Hp → Prop} (h : liftT K W (dAndT tA tB) σ H Q) : tAnd (liftT K W tA) (liftT K W tB) σ H Q := by
  obtain ⟨ρ, M, S, E, o, s, er, q⟩ := h
  refine ⟨ρ, M, S, E, o, s, er, tA.mono (fun b M1 q1 => ?_) (fun _ _ z => z) q⟩
  intro H1 S1 l1 o1
  cases b with
  | true => exact ⟨ρ, M1, S1, E, o1, s.mono l1.le, er.mono l1, tB.mono (fun c M2 q2 H2 S2 l2 o2 => q2 H2 S2 (l1.trans l2) o2) (fun _ _ z => z) q1⟩
  | false => exact q1 H1 S1 l1 o1
theorem lift_or {K : PySem.W.Frag} {σ : L2.St} {H : Hp} {Q : Bool → Hp → Prop} (h : liftT K W (dOrT tA tB) σ H Q) : tOr (liftT K W tA) (liftT K W tB) σ H Q := by
  obtain ⟨ρ, M, S, E, o, s, er, q⟩ := h
  refine ⟨ρ, M, S, E, o, s, er, tA.mono (fun b M1 q1 => ?_) (fun _ _ z => z) q⟩
  intro H1 S1 l1 o1
  cases b with
  | false => exact ⟨ρ, M1, S1, E, o1, s.mono l1.le, er.mono l1, tB.mono (fun c M2 q2 H2 S2 l2 o2 => q2 H2 S2 (l1.trans l2) o2) (fun _ _ z => z) q1⟩
  | true => exact q1 H1 S1 l1 o1
abbrev PDW (X : Cx) (W : WX) (e : Expr) (t : Rd Bool) : Prop := PW X e (liftT X.K W t)
theorem pw_and1' (h : PDT X W a tA) : PDW X W (.BoolOp .And [a] pos) tA := pw_and1 h
theorem pw_or1' (h : PDT X W a tA) : PDW X W (.BoolOp .Or [a] pos) tA := pw_or1 h
theorem pw_and' (ha : PDT X W a tA) (hb : PDW X W (.BoolOp .And (b :: rest) pos) tB) : PDW X W (.BoolOp .And (a :: b :: rest) pos) (dAndT tA tB) := pw_imp (pw_and ha hb) fun _ _ _ => lift_and
theorem pw_or' (ha : PDT X W a tA) (hb : PDW X W (.BoolOp .Or (b :: rest) pos) tB) : PDW X W (.BoolOp .Or (a :: b :: rest) pos) (dOrT tA tB) := pw_imp (pw_or ha hb) fun _ _ _ => lift_or
theorem pt_not' (ha : PDT X W a tA) : PDT X W (.UnaryOp .Not a pos) (dNotT tA) := pt_imp (pt_not ha) fun σ H Q h => by
  obtain ⟨ρ, M, S, E, o, s, er, q⟩ := h
  exact ⟨ρ, M, S, E, o, s, er, tA.mono (fun b M1 q1 => q1) (fun _ _ z => z) q⟩
theorem pd_one {op} {t : Rd Tr} (h : PD X W a t) : PD X W (.BoolOp op [a] pos) t := pe_one h
theorem pd_and (ha : PD X W a ta) (hb : PD X W (.BoolOp .And (b :: rest) pos) tb) : PD X W (.BoolOp .And (a :: b :: rest) pos) (dAndV ta tb) := pe_imp (pe_and ha hb) fun σ H Q h => by
  obtain ⟨ρ, M, S, E, o, s, er, q⟩ := h
  refine ⟨ρ, M, S, E, o, s, er, ta.mono (fun d M1 q1 => ?_) (fun _ _ z => z) q⟩
  intro v H1 S1 l1 o1 r1
  dsimp only at q1
  split at q1
  · simp only [Rep] at r1
    exact ⟨true, r1, by rw [if_pos rfl]; exact ⟨ρ, M1, S1, E, o1, s.mono l1.le, er.mono l1, tb.mono (fun c M2 q2 v2 H2 S2 l2 o2 r2 => q2 v2 H2 S2 (l1.trans l2) o2 r2) (fun _ _ z => z) q1⟩⟩
  · simp only [Rep] at r1
    exact ⟨false, r1, by rw [if_neg Bool.false_ne_true]; exact q1 _ H1 S1 l1 o1 (by simp only [Rep])⟩
  · exact q1.elim
theorem pd_or (ha : PD X W a ta) (hb : PD X W (.BoolOp .Or (b :: rest) pos) tb) : PD X W (.BoolOp .Or (a :: b :: rest) pos) (dOrV ta tb) := pe_imp (pe_or ha hb) fun σ H Q h => by
  obtain ⟨ρ, M, S, E, o, s, er, q⟩ := h
  refine ⟨ρ, M, S, E, o, s, er, ta.mono (fun d M1 q1 => ?_) (fun _ _ z => z) q⟩
  intro v H1 S1 l1 o1 r1
  dsimp only at q1
  split at q1
  · simp only [Rep] at r1
    exact ⟨true, r1, by rw [if_pos rfl]; exact q1 _ H1 S1 l1 o1 (by simp only [Rep])⟩
  · simp only [Rep] at r1
    exact ⟨false, r1, by rw [if_neg Bool.false_ne_true]; exact ⟨ρ, M1, S1, E, o1, s.mono l1.le, er.mono l1, tb.mono (fun c M2 q2 v2 H2 S2 l2 o2 r2 => q2 v2 H2 S2 (l1.trans l2) o2 r2) (fun _ _ z => z) q1⟩⟩
  · exact q1.elim
theorem pd_not (ha : PD X W a ta) : PD X W (.UnaryOp .Not a pos) (dNotV ta) := pe_imp (pe_not ha) fun σ H Q h => by
  obtain ⟨ρ, M, S, E, o, s, er, q⟩ := h
  refine ⟨ρ, M, S, E, o, s, er, ta.mono (fun d M1 q1 => ?_) (fun _ _ z => z) q⟩
  intro v H1 S1 l1 o1 r1
  dsimp only at q1
  split at q1
  · simp only [Rep] at r1
    exact ⟨_, r1, q1 _ H1 S1 l1 o1 (by simp only [Rep])⟩
  · exact q1.elim
theorem pd_if (hc : PDT X W c tA) (ha : PD X W a ta) (hb : PD X W b tb) : PD X W (.IfExp c a b pos) (dIf tA ta tb) := pe_imp (pe_ifExp hc ha hb) fun σ H Q h => by
  obtain ⟨ρ, M, S, E, o, s, er, q⟩ := h
  refine ⟨ρ, M, S, E, o, s, er, tA.mono (fun d M1 q1 => ?_) (fun _ _ z => z) q⟩
  intro H1 S1 l1 o1
  cases d with
  | true => exact ⟨ρ, M1, S1, E, o1, s.mono l1.le, er.mono l1, ta.mono (fun c M2 q2 v2 H2 S2 l2 o2 r2 => q2 v2 H2 S2 (l1.trans l2) o2 r2) (fun _ _ z => z) q1⟩
  | false => exact ⟨ρ, M1, S1, E, o1, s.mono l1.le, er.mono l1, tb.mono (fun c M2 q2 v2 H2 S2 l2 o2 r2 => q2 v2 H2 S2 (l1.trans l2) o2 r2) (fun _ _ z => z) q1⟩

/-! ### arguments, displays -/
def dNil : Rd (List Tr) := ⟨fun _ M Q _ => Q [] M, fun h _ q => h _ _ q⟩
def dCons (t : Rd Tr) (u : Rd (List Tr)) : Rd (List Tr) := ⟨fun ρ M Q E => t.f ρ M (fun d M1 => u.f ρ M1 (fun ds M2 => Q (d :: ds) M2) E) E, fun h h' q => t.mono (fun d M1 z => u.mono (fun ds M2 z2 => h _ _ z2) h' z) h' q⟩
variable {e : Expr} {es : List Expr} {t : Rd Tr} {u : Rd (List Tr)}
theorem pda_nil : PDA X W [] dNil := pa_imp pa_nil fun σ H Q h => by
  obtain ⟨ρ, M, S, E, o, s, er, q⟩ := h
  exact q [] H S (Gr.refl S H) o Reps.nil
theorem lift_cons {K : PySem.W.Frag} {σ : L2.St} {H : Hp} {Q : List V → Hp → Prop} (h : liftA K W (dCons t u) σ H Q) : tCons (liftE K W t) (liftA K W u) σ H Q := by
  obtain ⟨ρ, M, S, E, o, s, er, q⟩ := h
  refine ⟨ρ, M, S, E, o, s, er, t.mono (fun d M1 q1 => ?_) (fun _ _ z => z) q⟩
  intro v H1 S1 l1 o1 r1
  refine ⟨ρ, M1, S1, E, o1, s.mono l1.le, er.mono l1, u.mono (fun ds M2 q2 => ?_) (fun _ _ z => z) q1⟩
  intro vs H2 S2 l2 o2 r2
  exact q2 _ H2 S2 (l1.trans l2) o2 (Reps.cons (Rep.mono l2.le _ _ r1) r2)
theorem pda_cons (h1 : PD X W e t) (h : PDA X W es u) (hs : starEach (e :: es) X.env = (false, eval e X.env) :: starEach es X.env := by rfl) : PDA X W (e :: es) (dCons t u) := pa_imp (pa_cons h1 h hs) fun _ _ _ => lift_cons
def big : Nat := 16777216
theorem big_eq : big = sizeLine := by rw [sizeLine_eq]; rfl
/-- a new list as a tree; as a cell; a tuple -/
def dLst (u : Rd (List Tr)) : Rd Tr := ⟨fun ρ M Q E => u.f ρ M (fun ds M1 => ds.length ≤ big ∧ Q (.lst ds) M1) E, fun h h' q => u.mono (fun ds M1 z => ⟨z.1, h _ _ z.2⟩) h' q⟩
def dLstC (u : Rd (List Tr)) : Rd Tr := ⟨fun ρ M Q E => u.f ρ M (fun ds M1 => ds.length ≤ big ∧ Q (.cell M1.length) (M1 ++ [.lst ds])) E, fun h h' q => u.mono (fun ds M1 z => ⟨z.1, h _ _ z.2⟩) h' q⟩
def dTup (u : Rd (List Tr)) : Rd Tr := ⟨fun ρ M Q E => u.f ρ M (fun ds M1 => ds.length ≤ big ∧ Q (.tup ds) M1) E, fun h h' q => u.mono (fun ds M1 z => ⟨z.1, h _ _ z.2⟩) h' q⟩
theorem new_lst {K : PySem.W.Frag} {S : Gh} {M : Me} {H : Hp} {ds : List Tr} {vs : List V} {p : Addr} (o : OkH K S M H) (r : Reps K S ds vs) (n : H p = none) :
    ∃ S', Gr S H S' (upd H p (.lst vs)) ∧ OkH K S' M (upd H p (.lst vs)) ∧ Rep K S' (.lst ds) (.ref p) := by
  obtain ⟨o', l⟩ := o.tree (o := .lst vs) n
  refine ⟨_, gr_tree l n, o', ?_⟩
  simp only [Rep]
  exact ⟨p, vs, rfl, upd_same, Reps.mono l _ _ r⟩
theorem new_tup {K : PySem.W.Frag} {S : Gh} {M : Me} {H : Hp} {ds : List Tr} {vs : List V} {p : Addr} (o : OkH K S M H) (r : Reps K S ds vs) (n : H p = none) :
    ∃ S', Gr S H S' (upd H p (.tup vs)) ∧ OkH K S' M (upd H p (.tup vs)) ∧ Rep K S' (.tup ds) (.ref p) := by
  obtain ⟨o', l⟩ := o.tree (o := .tup vs) n
  refine ⟨_, gr_tree l n, o', ?_⟩
  simp only [Rep]
  exact ⟨p, vs, rfl, SqT.of upd_same, Reps.mono l _ _ r⟩
theorem new_lstC {K : PySem.W.Frag} {S : Gh} {M : Me} {H : Hp} {ds : List Tr} {vs : List V} {p : Addr} (o : OkH K S M H) (r : Reps K S ds vs) (n : H p = none) :
    ∃ S', Gr S H S' (upd H p (.lst vs)) ∧ OkH K S' (M ++ [.lst ds]) (upd H p (.lst vs)) ∧ Rep K S' (.cell M.length) (.ref p) := by
  obtain ⟨o', l⟩ := o.newCell (o := .lst vs) (c := .lst ds) n ⟨(o.fresh n).1, vs, upd_same, r⟩
  refine ⟨_, gr_newCell l n, o', ?_⟩
  simp only [Rep]
  exact ⟨p, rfl, by rw [show M.length = S.C.length from o.len.symm]; simp⟩
theorem pd_lst (p : PDA X W es u) : PD X W (.List es pos) (dLst u) := pe_imp (pe_lst p) fun σ H Q h => by
  obtain ⟨ρ, M, S, E, o, s, er, q⟩ := h
  refine ⟨ρ, M, S, E, o, s, er, u.mono (fun ds M1 q1 => ?_) (fun _ _ z => z) q⟩
  intro vs H1 S1 l1 o1 r1
  refine ⟨by rw [← r1.length, ← big_eq]; exact q1.1, fun p n => ?_⟩
  obtain ⟨S2, l2, o2, r2⟩ := new_lst o1 r1 n
  exact q1.2 _ _ S2 (l1.trans l2) o2 r2
theorem pd_lstC (p : PDA X W es u) : PD X W (.List es pos) (dLstC u) := pe_imp (pe_lst p) fun σ H Q h => by
  obtain ⟨ρ, M, S, E, o, s, er, q⟩ := h
  refine ⟨ρ, M, S, E, o, s, er, u.mono (fun ds M1 q1 => ?_) (fun _ _ z => z) q⟩
  intro vs H1 S1 l1 o1 r1
  refine ⟨by rw [← r1.length, ← big_eq]; exact q1.1, fun p n => ?_⟩
  obtain ⟨S2, l2, o2, r2⟩ := new_lstC o1 r1 n
  exact q1.2 _ _ S2 (l1.trans l2) o2 r2
theorem pd_tup {k : Nat} (p : PDA X W es u) : PD X W (.Tuple es k pos) (dTup u) := pe_imp (pe_tup p) fun σ H Q h => by
  obtain ⟨ρ, M, S, E, o, s, er, q⟩ := h
  refine ⟨ρ, M, S, E, o, s, er, u.mono (fun ds M1 q1 => ?_) (fun _ _ z => z) q⟩
  intro vs H1 S1 l1 o1 r1
  refine ⟨by rw [← r1.length, ← big_eq]; exact q1.1, fun p n => ?_⟩
  obtain ⟨S2, l2, o2, r2⟩ := new_tup o1 r1 n
  exact q1.2 _ _ S2 (l1.trans l2) o2 r2
end
end DL
end T_DL1
section T_DL2
set_option Elab.async false
set_option linter.all false
set_option maxRecDepth 100000
set_option maxHeartbeats 4000000
/-! DL2: operations on trees: + - * // % **, comparisons, ==, in, is None; places and slices. -/
namespace DL
open PySem PySem.Spec PyProof.Rows L2

/-- a list's items: a tree or a live cell -/
def seqL (M : Me) : Tr → Option (List Tr)
  | .lst xs => some xs
  | .cell k => (match M[k]? with
    | some (.lst xs) => some xs
    | _ => none)
  | _ => none
/-- a list's or tuple's or the script's items -/
def seqA (M : Me) : Tr → Option (List Tr)
  | .tup xs => some xs
  | .scr ns => some (ns.map Tr.int)
  | d => seqL M d
section
variable {K : PySem.W.Frag} {S : Gh} {M : Me} {H : Hp} {d : Tr} {v : V} {xs : List Tr}
theorem OkH.sqT (o : OkH K S M H) {a : Addr} {vs : List V} (e : SqT K S.G a vs) : SqT K H a vs := by
  rcases e with (e | ⟨u, e⟩) | e
  · exact .inl (.inl (o.sub _ _ e))
  · exact .inl (.inr ⟨u, o.sub _ _ e⟩)
  · exact .inr e
theorem OkH.sqL (o : OkH K S M H) {a : Addr} {vs : List V} (e : SqL K S.G a vs) : SqL K H a vs := by
  rcases e with (e | ⟨u, e⟩) | e
  · exact .inl (.inl (o.sub _ _ e))
  · exact .inl (.inr ⟨u, o.sub _ _ e⟩)
  · exact .inr e
/-- the cell of a cell's tree -/
theorem cell_rep (o : OkH K S M H) {k : Nat} {c : Ce} (r : Rep K S (.cell k) v) (e : M[k]? = some c) : ∃ a, v = .ref a ∧ S.C[k]? = some a ∧ CeAt K S H a c := by
  simp only [Rep] at r
  obtain ⟨a, rfl, q⟩ := r
  exact ⟨a, rfl, q, o.cell k a c q e⟩
theorem seqL_rep (o : OkH K S M H) (r : Rep K S d v) (e : seqL M d = some xs) : ∃ a vs, v = .ref a ∧ H a = some (.lst vs) ∧ Reps K S xs vs := by
  cases d with
  | lst ys =>
    simp only [seqL, Option.some.injEq] at e
    subst e
    simp only [Rep] at r
    obtain ⟨a, vs, rfl, g, q⟩ := r
    exact ⟨a, vs, rfl, o.sub _ _ g, q⟩
  | cell k =>
    simp only [seqL] at e
    split at e
    · rename_i ys h
      cases e
      obtain ⟨a, rfl, _, _, vs, h1, h2⟩ := cell_rep o r h
      exact ⟨a, vs, rfl, h1, h2⟩
    · cases e
  | _ => simp [seqL] at e
theorem seqA_rep (o : OkH K S M H) (r : Rep K S d v) (e : seqA M d = some xs) : ∃ a vs, v = .ref a ∧ (SqL K H a vs ∨ SqT K H a vs) ∧ Reps K S xs vs := by
  cases d with
  | tup ys =>
    simp only [seqA, Option.some.injEq] at e
    subst e
    simp only [Rep] at r
    obtain ⟨a, vs, rfl, g, q⟩ := r
    exact ⟨a, vs, rfl, .inr (o.sqT g), q⟩
  | scr ns =>
    simp only [seqA, Option.some.injEq] at e
    subst e
    simp only [Rep] at r
    obtain ⟨a, rfl, g⟩ := r
    exact ⟨a, _, rfl, .inl (o.sqL g), (Reps.ints ns).mpr rfl⟩
  | _ =>
    simp only [seqA] at e
    obtain ⟨a, vs, rfl, h, q⟩ := seqL_rep o r e
    exact ⟨a, vs, rfl, .inl (SqL.of h), q⟩
end

/-! ### data -/
mutual
def pyd : Tr → Option PyData
  | .non => some .none
  | .bl b => some (.bool b)
  | .int i => some (.int i)
  | .str x => some (.str x)
  | .lst xs => (pyds xs).map .list
  | .tup xs => (pyds xs).map .tuple
  | _ => none
def pyds : List Tr → Option (List PyData)
  | [] => some []
  | d :: ds => match pyd d, pyds ds with
    | some p, some ps => some (p :: ps)
    | _, _ => none
end
/-- a cell's list as a tree -/
def viewD (M : Me) : Tr → Tr
  | .cell k => (match M[k]? with
    | some (.lst xs) => .lst xs
    | _ => .cell k)
  | d => d
section
variable {K : PySem.W.Frag} {S : Gh} {M : Me} {H : Hp}
mutual
theorem pyd_dp (o : OkH K S M H) : ∀ (d : Tr) (v : V) (p : PyData), Rep K S d v → pyd d = some p → Dp K H v p
  | .non, v, p, r, e => by simp only [Rep] at r; simp only [pyd, Option.some.injEq] at e; subst r e; exact .non
  | .bl b, v, p, r, e => by simp only [Rep] at r; simp only [pyd, Option.some.injEq] at e; subst r e; exact .bl b
  | .int b, v, p, r, e => by simp only [Rep] at r; simp only [pyd, Option.some.injEq] at e; subst r e; exact .int b
  | .str b, v, p, r, e => by simp only [Rep] at r; simp only [pyd, Option.some.injEq] at e; subst r e; exact .str b
  | .lst xs, v, p, r, e => by
    simp only [Rep] at r
    simp only [pyd, Option.map_eq_some_iff] at e
    obtain ⟨a, vs, rfl, g, q⟩ := r
    obtain ⟨ps, e1, rfl⟩ := e
    exact .lst (SqL.of (o.sub _ _ g)) (pyds_dp o xs vs ps q e1)
  | .tup xs, v, p, r, e => by
    simp only [Rep] at r
    simp only [pyd, Option.map_eq_some_iff] at e
    obtain ⟨a, vs, rfl, g, q⟩ := r
    obtain ⟨ps, e1, rfl⟩ := e
    exact .tup (o.sqT g) (pyds_dp o xs vs ps q e1)
  | .dct _ _, v, p, r, e => by simp [pyd] at e
  | .dkf _ _, v, p, r, e => by simp [pyd] at e
  | .ins _ _, v, p, r, e => by simp [pyd] at e
  | .exc _ _, v, p, r, e => by simp [pyd] at e
  | .cell _, v, p, r, e => by simp [pyd] at e
  | .scr _, v, p, r, e => by simp [pyd] at e
theorem pyds_dp (o : OkH K S M H) : ∀ (ds : List Tr) (vs : List V) (ps : List PyData), Reps K S ds vs → pyds ds = some ps → DpAll K H vs ps
  | [], vs, ps, r, e => by simp only [Reps] at r; simp only [pyds, Option.some.injEq] at e; subst r e; exact .nil
  | d :: ds, vs, ps, r, e => by
    simp only [Reps] at r
    obtain ⟨v, t, rfl, h1, h2⟩ := r
    simp only [pyds] at e
    split at e
    · rename_i p qs e1 e2
      cases e
      exact .cons (pyd_dp o d v p h1 e1) (pyds_dp o ds t qs h2 e2)
    · cases e
end
theorem view_dp (o : OkH K S M H) {d : Tr} {v : V} {p : PyData} (r : Rep K S d v) (e : pyd (viewD M d) = some p) : Dp K H v p := by
  cases d with
  | cell k =>
    simp only [viewD] at e
    split at e
    · rename_i xs h
      obtain ⟨a, rfl, _, _, vs, h1, h2⟩ := cell_rep o r h
      simp only [pyd, Option.map_eq_some_iff] at e
      obtain ⟨ps, e1, rfl⟩ := e
      exact .lst (SqL.of h1) (pyds_dp o xs vs ps h2 e1)
    · simp [pyd] at e
  | _ => exact pyd_dp o _ v p r e
end
/-- == of data -/
def eqB (M : Me) (d e : Tr) : Option Bool := match pyd (viewD M d), pyd (viewD M e) with
  | some a, some b => if SeqAt.shaped a && SeqAt.shaped b then some (PyData.eqv a b) else none
  | _, _ => none
def eqT : F2 := fun M d e => (eqB M d e).map Tr.bl
def neT : F2 := fun M d e => (eqB M d e).map fun b => Tr.bl (!b)

/-! ### operators -/
def addT : F2 := fun M d e => match d, e with
  | .int i, .int j => some (.int (i + j))
  | .str a, .str b => if a.length + b.length ≤ big then some (.str (a ++ b)) else none
  | .tup xs, .tup ys => if xs.length + ys.length ≤ big then some (.tup (xs ++ ys)) else none
  | d, e => match seqL M d, seqL M e with
    | some xs, some ys => if xs.length + ys.length ≤ big then some (.lst (xs ++ ys)) else none
    | _, _ => none
def subT : F2 := fun _ d e => match d, e with
  | .int i, .int j => some (.int (i - j))
  | _, _ => none
def smallI (i : Int) : Bool := decide (-(2 ^ 64) < i) && decide (i < 2 ^ 64)
def mulT : F2 := fun M d e => match d, e with
  | .int i, .int j => if smallI i || smallI j then some (.int (i * j)) else none
  | d, .int k => match seqL M d with
    | some xs => if decide (-(2 ^ 63) ≤ k) && decide (k < 2 ^ 63) && decide (xs.length * k.toNat ≤ big) then some (.lst (List.replicate k.toNat xs).flatten) else none
    | none => none
  | _, _ => none
def modT : F2 := fun _ d e => match d, e with
  | .int i, .int j => if 0 < j then some (.int (i % j)) else none
  | _, _ => none
def fdivT : F2 := fun _ d e => match d, e with
  | .int i, .int j => if 0 < j ∧ j < 1073741824 then some (.int (i / j)) else none
  | _, _ => none
def powT : F2 := fun _ d e => match d, e with
  | .int i, .int j => if 0 ≤ j ∧ j ≤ 1000000 ∧ i.natAbs < 2 ^ 64 then some (.int (i ^ j.toNat)) else none
  | _, _ => none
def cmpT (p : Int → Int → Bool) : F2 := fun _ d e => match d, e with
  | .int i, .int j => some (.bl (p i j))
  | _, _ => none
def ltT : F2 := cmpT fun i j => decide (i < j)
def leT : F2 := cmpT fun i j => decide (i ≤ j)
def gtT : F2 := cmpT fun i j => decide (j < i)
def geT : F2 := cmpT fun i j => decide (j ≤ i)
def isNone : Tr → Bool
  | .non => true
  | _ => false
def isNT : F2 := fun _ d e => match e with
  | .non => some (.bl (isNone d))
  | _ => none
def notNT : F2 := fun _ d e => match e with
  | .non => some (.bl (!isNone d))
  | _ => none
/-- x in a text (one sign), in a list or tuple of data -/
def inB (M : Me) (d e : Tr) : Option Bool := match e with
  | .str z => (match d with
    | .str x => (match x.cps.toList with
      | [c] => some (decide (c ∈ z.cps.toList))
      | _ => none)
    | _ => none)
  | e => match pyd (viewD M d), (seqA M e).bind pyds with
    | some p, some ps => if SeqAt.shaped p && SeqAt.shaped (.list ps) then some (ps.any fun z => PyData.eqv z p) else none
    | _, _ => none
def inT : F2 := fun M d e => (inB M d e).map Tr.bl
def notInT : F2 := fun M d e => (inB M d e).map fun b => Tr.bl (!b)

section
variable {X : Cx}
theorem smallI_ok {i : Int} (h : smallI i = true) : -(2 ^ 64) < i ∧ i < 2 ^ 64 := by
  unfold smallI at h
  simp only [Bool.and_eq_true, decide_eq_true_eq] at h
  exact h
theorem rep_int {K : PySem.W.Frag} {S : Gh} {i : Int} : Rep K S (.int i) (.int i) := by simp only [Rep]
theorem rep_bl {K : PySem.W.Frag} {S : Gh} {b : Bool} : Rep K S (.bl b) (.bl b) := by simp only [Rep]
theorem rep_str {K : PySem.W.Frag} {S : Gh} {b : Str} : Rep K S (.str b) (.str b) := by simp only [Rep]
theorem rep_non {K : PySem.W.Frag} {S : Gh} : Rep K S .non .non := by simp only [Rep]
/-- two ints by a rule of ints -/
theorem opInt {g : Value → Value → Sem Value} {C : Int → Int → Prop} {f : Int → Int → V} {F : F2} (h : OpR X g (rI C f)) (hF : ∀ M d e z, F M d e = some z → ∃ i j, d = .int i ∧ e = .int j ∧ C i j ∧ ∀ S, Rep X.K S z (f i j)) : OpR X g (rD X.K F) := by
  refine opimp h fun x y H Q q => ?_
  obtain ⟨S, M, d, e, z, o, r1, r2, hz, k⟩ := q
  obtain ⟨i, j, rfl, rfl, c, rz⟩ := hF M d e z hz
  simp only [Rep] at r1 r2
  exact ⟨i, j, r1, r2, c, k _ H S (Gr.refl S H) o (rz S)⟩
theorem opInt0 {g : Value → Value → Sem Value} {f : Int → Int → V} {F : F2} (h : OpR X g (rI0 f)) (hF : ∀ M d e z, F M d e = some z → ∃ i j, d = .int i ∧ e = .int j ∧ ∀ S, Rep X.K S z (f i j)) : OpR X g (rD X.K F) := by
  refine opimp h fun x y H Q q => ?_
  obtain ⟨S, M, d, e, z, o, r1, r2, hz, k⟩ := q
  obtain ⟨i, j, rfl, rfl, rz⟩ := hF M d e z hz
  simp only [Rep] at r1 r2
  exact ⟨i, j, r1, r2, k _ H S (Gr.refl S H) o (rz S)⟩
theorem o_sub : OpR X (binaryOp .Sub) (rD X.K subT) := opInt0 op_sub fun M d e z h => by
  unfold subT at h
  split at h
  · cases h; exact ⟨_, _, rfl, rfl, fun _ => rep_int⟩
  · cases h
theorem o_mod : OpR X (binaryOp .Mod) (rD X.K modT) := opInt op_mod fun M d e z h => by
  unfold modT at h
  split at h
  · split at h
    · rename_i hc
      cases h; exact ⟨_, _, rfl, rfl, hc, fun _ => rep_int⟩
    · cases h
  · cases h
theorem o_fdiv : OpR X (binaryOp .FloorDiv) (rD X.K fdivT) := opInt op_fdiv fun M d e z h => by
  unfold fdivT at h
  split at h
  · split at h
    · rename_i hc
      cases h; exact ⟨_, _, rfl, rfl, hc, fun _ => rep_int⟩
    · cases h
  · cases h
theorem o_pow : OpR X (binaryOp .Pow) (rD X.K powT) := opInt op_pow fun M d e z h => by
  unfold powT at h
  split at h
  · split at h
    · rename_i hc
      cases h; exact ⟨_, _, rfl, rfl, hc, fun _ => rep_int⟩
    · cases h
  · cases h
theorem o_cmp {g : Value → Value → Sem Value} {p : Int → Int → Bool} (h : OpR X g (rI0 fun i j => .bl (p i j))) : OpR X g (rD X.K (cmpT p)) := opInt0 h fun M d e z h => by
  unfold cmpT at h
  split at h
  · cases h; exact ⟨_, _, rfl, rfl, fun _ => rep_bl⟩
  · cases h
theorem o_lt : OpR X (compareOp .Lt) (rD X.K ltT) := o_cmp op_lt
theorem o_le : OpR X (compareOp .LtE) (rD X.K leT) := o_cmp op_le
theorem o_gt : OpR X (compareOp .Gt) (rD X.K gtT) := o_cmp op_gt
theorem o_ge : OpR X (compareOp .GtE) (rD X.K geT) := o_cmp op_ge
theorem o_add : OpR X (binaryOp .Add) (rD X.K addT) := by
  intro pins s σ H x y v u Q I rx ry h
  obtain ⟨S, M, d, e, z, o, r1, r2, hz, k⟩ := h
  unfold addT at hz
  split at hz
  · cases hz
    simp only [Rep] at r1 r2
    exact op_add pins s σ H x y v u Q I rx ry ⟨_, _, r1, r2, k _ H S (Gr.refl S H) o rep_int⟩
  · split at hz
    · rename_i hc
      cases hz
      simp only [Rep] at r1 r2
      exact op_add_str pins s σ H x y v u Q I rx ry ⟨_, _, r1, r2, by rw [← big_eq]; exact hc, k _ H S (Gr.refl S H) o rep_str⟩
    · cases hz
  · split at hz
    · rename_i xs ys hc
      cases hz
      simp only [Rep] at r1 r2
      obtain ⟨a, vs, rfl, g1, q1⟩ := r1
      obtain ⟨b, ws, rfl, g2, q2⟩ := r2
      refine op_catA pins s σ H _ _ v u Q I rx ry ⟨a, b, vs, ws, rfl, rfl, o.sqT g1, o.sqT g2, by rw [← q1.length, ← q2.length, ← big_eq]; exact hc, fun e => ?_, fun _ e => ?_, fun _ _ p n => ?_⟩
      · have : xs = [] := by
          have := q1.length
          rw [e] at this
          exact List.length_eq_zero_iff.mp this
        refine k _ H S (Gr.refl S H) o ?_
        rw [this, List.nil_append]
        simp only [Rep]
        exact ⟨b, ws, rfl, g2, q2⟩
      · have : ys = [] := by
          have := q2.length
          rw [e] at this
          exact List.length_eq_zero_iff.mp this
        refine k _ H S (Gr.refl S H) o ?_
        rw [this, List.append_nil]
        simp only [Rep]
        exact ⟨a, vs, rfl, g1, q1⟩
      · obtain ⟨S', l, o', r⟩ := new_tup o (q1.append q2) n
        exact k _ _ S' l o' r
    · cases hz
  · split at hz
    · rename_i xs ys e1 e2
      split at hz
      · rename_i hc
        cases hz
        obtain ⟨a, vs, rfl, h1, q1⟩ := seqL_rep o r1 e1
        obtain ⟨b, ws, rfl, h2, q2⟩ := seqL_rep o r2 e2
        refine op_cat pins s σ H _ _ v u Q I rx ry ⟨a, b, vs, ws, rfl, rfl, h1, h2, by rw [← q1.length, ← q2.length, ← big_eq]; exact hc, fun p n => ?_⟩
        obtain ⟨S', l, o', r⟩ := new_lst o (q1.append q2) n
        exact k _ _ S' l o' r
      · cases hz
    · cases hz
theorem o_mul : OpR X (binaryOp .Mult) (rD X.K mulT) := by
  intro pins s σ H x y v u Q I rx ry h
  obtain ⟨S, M, d, e, z, o, r1, r2, hz, k⟩ := h
  unfold mulT at hz
  split at hz
  · split at hz
    · rename_i i j hc
      cases hz
      simp only [Rep] at r1 r2
      refine op_mul pins s σ H x y v u Q I rx ry ⟨_, _, r1, r2, ?_, k _ H S (Gr.refl S H) o rep_int⟩
      rcases Bool.or_eq_true_iff.mp hc with hc | hc
      · exact .inl (smallI_ok hc)
      · exact .inr (smallI_ok hc)
    · cases hz
  · split at hz
    · rename_i xs e1
      split at hz
      · rename_i hc
        cases hz
        simp only [Bool.and_eq_true, decide_eq_true_eq] at hc
        obtain ⟨⟨h1, h2⟩, h3⟩ := hc
        simp only [Rep] at r2
        obtain ⟨a, vs, rfl, g1, q1⟩ := seqL_rep o r1 e1
        refine op_rep pins s σ H _ _ v u Q I rx ry ⟨a, _, vs, rfl, r2, g1, h1, h2, by rw [← q1.length, ← big_eq]; exact h3, fun p n => ?_⟩
        obtain ⟨S', l, o', r⟩ := new_lst o (q1.replicate _) n
        exact k _ _ S' l o' r
      · cases hz
    · cases hz
  · cases hz
theorem o_eq (hu : X.A.units + 64 < cLine) : OpR X (compareOp .Eq) (rD X.K eqT) := opimp (op_eqD hu) fun x y H Q h => by
  obtain ⟨S, M, d, e, z, o, r1, r2, hz, k⟩ := h
  simp only [eqT, eqB, Option.map_eq_some_iff] at hz
  obtain ⟨b, hz, rfl⟩ := hz
  split at hz
  · rename_i p q e1 e2
    split at hz
    · rename_i hc
      cases hz
      obtain ⟨s1, s2⟩ := Bool.and_eq_true_iff.mp hc
      exact ⟨p, q, view_dp o r1 e1, view_dp o r2 e2, s1, s2, k _ H S (Gr.refl S H) o rep_bl⟩
    · cases hz
  · cases hz
theorem o_ne (hu : X.A.units + 64 < cLine) : OpR X (compareOp .NotEq) (rD X.K neT) := opimp (op_neD hu) fun x y H Q h => by
  obtain ⟨S, M, d, e, z, o, r1, r2, hz, k⟩ := h
  simp only [neT, eqB, Option.map_eq_some_iff] at hz
  obtain ⟨b, hz, rfl⟩ := hz
  split at hz
  · rename_i p q e1 e2
    split at hz
    · rename_i hc
      cases hz
      obtain ⟨s1, s2⟩ := Bool.and_eq_true_iff.mp hc
      exact ⟨p, q, view_dp o r1 e1, view_dp o r2 e2, s1, s2, k _ H S (Gr.refl S H) o rep_bl⟩
    · cases hz
  · cases hz
theorem isNone_rep {K : PySem.W.Frag} {S : Gh} {d : Tr} {v : V} (r : Rep K S d v) : decide (v = .non) = isNone d := by
  cases d with
  | non => simp only [Rep] at r; subst r; rfl
  | bl _ => simp only [Rep] at r; subst r; rfl
  | int _ => simp only [Rep] at r; subst r; rfl
  | str _ => simp only [Rep] at r; subst r; rfl
  | lst _ => simp only [Rep] at r; obtain ⟨a, vs, rfl, _⟩ := r; rfl
  | tup _ => simp only [Rep] at r; obtain ⟨a, vs, rfl, _⟩ := r; rfl
  | dct _ _ => simp only [Rep] at r; obtain ⟨a, vs, rfl, _⟩ := r; rfl
  | ins _ _ => simp only [Rep] at r; obtain ⟨a, dx, fs, rfl, _⟩ := r; rfl
  | exc _ _ => simp only [Rep] at r; obtain ⟨a, rfl, _⟩ := r; rfl
  | cell _ => simp only [Rep] at r; obtain ⟨a, rfl, _⟩ := r; rfl
  | scr _ => simp only [Rep] at r; obtain ⟨a, rfl, _⟩ := r; rfl
  | dkf _ _ => simp only [Rep] at r; obtain ⟨a, od, vs, rfl, _⟩ := r; rfl
theorem o_isN : OpR X (compareOp .Is) (rD X.K isNT) := opimp op_isN fun x y H Q h => by
  obtain ⟨S, M, d, e, z, o, r1, r2, hz, k⟩ := h
  unfold isNT at hz
  split at hz
  · cases hz
    simp only [Rep] at r2
    refine ⟨r2, ?_⟩
    rw [isNone_rep r1]
    exact k _ H S (Gr.refl S H) o rep_bl
  · cases hz
theorem o_notN : OpR X (compareOp .IsNot) (rD X.K notNT) := opimp op_notN fun x y H Q h => by
  obtain ⟨S, M, d, e, z, o, r1, r2, hz, k⟩ := h
  unfold notNT at hz
  split at hz
  · cases hz
    simp only [Rep] at r2
    refine ⟨r2, ?_⟩
    rw [isNone_rep r1]
    exact k _ H S (Gr.refl S H) o rep_bl
  · cases hz
end
end DL
end T_DL2
section T_DL3
set_option Elab.async false
set_option linter.all false
set_option maxRecDepth 100000
set_option maxHeartbeats 4000000
/-! DL3: in; places, slices; fields; built-ins by name; methods of lists; calls of defs and classes. -/
namespace DL
open PySem PySem.Spec PyProof.Rows L2

section
variable {X : Cx} {W : WX} {pos : Pos}
/-! ### in -/
theorem dp_ref {K : PySem.W.Frag} {H : Hp} {a : Addr} {vs : List V} {ds : List PyData} (h : SqL K H a vs ∨ SqT K H a vs) (q : DpAll K H vs ds) : Dp K H (.ref a) (.list ds) ∨ Dp K H (.ref a) (.tuple ds) := by
  rcases h with h | h
  · exact .inl (.lst h q)
  · exact .inr (.tup h q)
theorem shaped_list {ds : List PyData} (h : SeqAt.shaped (.list ds) = true) : PyData.canLayAll0 ds = true := by
  have := SeqAt.canLay_of_shaped h
  simpa [PyData.canLay0] using this
theorem inB_str {M : Me} {d : Tr} {z : Str} {b : Bool} (h : inB M d (.str z) = some b) : ∃ c, d = .str ⟨#[c]⟩ ∧ b = decide (c ∈ z.cps.toList) := by
  cases d with
  | str x =>
    obtain ⟨⟨l⟩⟩ := x
    match l, h with
    | [c], h => exact ⟨c, rfl, by simpa [inB] using h.symm⟩
    | [], h => simp [inB] at h
    | _ :: _ :: _, h => simp [inB] at h
  | _ => simp [inB] at h
theorem o_inC {neg : Bool} {op : CmpOp}
    (r1 : OpR X (compareOp op) (fun x y H Q => ∃ (c : Nat) (z : Str), x = .str ⟨#[c]⟩ ∧ y = .str z ∧ Q (.bl (if neg then !decide (c ∈ z.cps.toList) else decide (c ∈ z.cps.toList))) H))
    (r2 : ∀ {A : Around} {E : Value → Shared → Prop} {s : Shared} {c x : Value} {xs : List PyData} {d : PyData} {as bs : List Addr} {Q : Value → Shared → Prop} (rc : Reads s.heap c (.list xs) as ∨ Reads s.heap c (.tuple xs) as) (rx : Reads s.heap x d bs) (hxs : PyData.canLayAll0 xs = true) (hd : d.canLay0 = true)
      (hu : A.units + 1 + min (PyData.depthAll xs) d.depth < cLine) (h : Q (.bool (if neg then !(xs.any fun y => PyData.eqv y d) else xs.any fun y => PyData.eqv y d)) s), wpAny (model X.prog X.w) A (compareOp op x c) Q E s)
    (hu : X.A.units + 65 < cLine) : OpR X (compareOp op) (rD X.K fun M d e => (inB M d e).map fun b => Tr.bl (if neg then !b else b)) := by
  intro pins s σ H x y v u Q I rx ry h
  obtain ⟨S, M, d, e, z, o, q1, q2, hz, k⟩ := h
  simp only [Option.map_eq_some_iff] at hz
  obtain ⟨b, hz, rfl⟩ := hz
  have data : ∀ {p : PyData} {ps : List PyData} {xs : List Tr}, pyd (viewD M d) = some p → seqA M e = some xs → pyds xs = some ps → SeqAt.shaped p = true → SeqAt.shaped (.list ps) = true → b = (ps.any fun z => PyData.eqv z p) →
      wpAny (model X.prog X.w) X.A (compareOp op v u) (EP X pins σ Q) X.xe s := by
    intro p ps xs e1 e2 e3 s1 s2 hb
    obtain ⟨a, vs, rfl, hq, rs⟩ := seqA_rep o q2 e2
    have dp := view_dp o q1 e1
    have dq := dp_ref hq (pyds_dp o xs vs ps rs e3)
    obtain ⟨as1, d1⟩ := Dp.reads I p x v dp rx
    have d2 : ∃ as, Reads s.heap u (.list ps) as ∨ Reads s.heap u (.tuple ps) as := by
      rcases dq with dq | dq
      · obtain ⟨as, t⟩ := Dp.reads I _ _ u dq ry
        exact ⟨as, .inl t⟩
      · obtain ⟨as, t⟩ := Dp.reads I _ _ u dq ry
        exact ⟨as, .inr t⟩
    obtain ⟨as2, d2⟩ := d2
    refine r2 d2 d1 (shaped_list s2) (SeqAt.canLay_of_shaped s1) ?_ ⟨.bl _, H, I, rfl, by rw [← hb]; exact k _ H S (Gr.refl S H) o rep_bl⟩
    have h1 := SeqAt.depth_of_shaped s1
    have h2 : min (PyData.depthAll ps) p.depth ≤ p.depth := Nat.min_le_right _ _
    omega
  have str : ∀ z', e = .str z' → wpAny (model X.prog X.w) X.A (compareOp op v u) (EP X pins σ Q) X.xe s := by
    intro z' he
    subst he
    obtain ⟨c, rfl, rfl⟩ := inB_str hz
    simp only [Rep] at q1 q2
    exact r1 pins s σ H x y v u Q I rx ry ⟨c, z', q1, q2, k _ H S (Gr.refl S H) o rep_bl⟩
  unfold inB at hz
  split at hz
  · exact str _ rfl
  · split at hz
    · rename_i p ps e1 e2
      split at hz
      · rename_i hc
        cases hz
        obtain ⟨s1, s2⟩ := Bool.and_eq_true_iff.mp hc
        obtain ⟨xs, f1, f2⟩ := Option.bind_eq_some_iff.mp e2
        exact data e1 f1 f2 s1 s2 rfl
      · cases hz
    · cases hz
theorem o_in (hu : X.A.units + 65 < cLine) : OpR X (compareOp .In) (rD X.K inT) := by
  refine opimp (o_inC (neg := false) op_in_sign (fun rc rx h1 h2 h3 h => ?_) hu) fun x y H Q h => ?_
  · rcases rc with rc | rc
    · exact SeqAt.in_list_reads rc rx h1 h2 h3 h
    · exact SeqAt.in_tuple_reads rc rx h1 h2 h3 h
  · exact h
theorem o_notIn (hu : X.A.units + 65 < cLine) : OpR X (compareOp .NotIn) (rD X.K notInT) := by
  refine opimp (o_inC (neg := true) op_notIn_sign (fun rc rx h1 h2 h3 h => ?_) hu) fun x y H Q h => ?_
  · rcases rc with rc | rc
    · exact SeqAt.notIn_list_reads rc rx h1 h2 h3 h
    · exact SeqAt.notIn_tuple_reads rc rx h1 h2 h3 h
  · exact h

/-! ### places -/
def ixF : F2 := fun M d e => match e with
  | .int i => (match d with
    | .str z => if z.length ≤ big then (atI z.cps.toList i).map fun c => Tr.str ⟨#[c]⟩ else none
    | d => (seqA M d).bind fun xs => atI xs i)
  | _ => none
def IxD (X : Cx) (f : F2) : Prop := IxR X (rD X.K f)
theorem iximp {r r' : R2} (h : IxR X r) (i : ∀ x y H Q, r' x y H Q → r x y H Q) : IxR X r' := fun value slice pins s σ H x y v u Q I rx ry q hs => h value slice pins s σ H x y v u Q I rx ry (i x y H Q q) hs
theorem reps_atI {K : PySem.W.Frag} {S : Gh} {ds : List Tr} {vs : List V} {i : Int} {d : Tr} (r : Reps K S ds vs) (e : atI ds i = some d) : ∃ v, atI vs i = some v ∧ Rep K S d v := by
  unfold atI at e ⊢
  rw [← r.length]
  obtain ⟨j, e1, e2⟩ := Option.bind_eq_some_iff.mp e
  obtain ⟨v, e3, e4⟩ := r.get e2
  exact ⟨v, by rw [e1]; exact e3, e4⟩
theorem ix_tr : IxD X ixF := by
  refine iximp (IxR.or ix_str (IxR.or ix_list ix_tup)) fun x y H Q h => ?_
  obtain ⟨S, M, d, e, z, o, q1, q2, hz, k⟩ := h
  unfold ixF at hz
  split at hz
  · rename_i i
    simp only [Rep] at q2
    split at hz
    · rename_i z'
      split at hz
      · rename_i hl
        obtain ⟨c, hc, rfl⟩ := Option.map_eq_some_iff.mp hz
        simp only [Rep] at q1
        exact .inl ⟨z', i, c, q1, q2, by rw [← big_eq]; exact hl, hc, k _ H S (Gr.refl S H) o rep_str⟩
      · cases hz
    · obtain ⟨xs, f1, f2⟩ := Option.bind_eq_some_iff.mp hz
      obtain ⟨a, vs, rfl, hq, rs⟩ := seqA_rep o q1 f1
      obtain ⟨w, e1, e2⟩ := reps_atI rs f2
      rcases hq with hq | hq
      · exact .inr (.inl ⟨a, vs, i, w, rfl, q2, hq, e1, k _ H S (Gr.refl S H) o e2⟩)
      · exact .inr (.inr ⟨a, vs, i, w, rfl, q2, hq, e1, k _ H S (Gr.refl S H) o e2⟩)
  · cases hz
variable {a b c e : Expr} {es : List Expr} {ta tb tc t : Rd Tr} {u : Rd (List Tr)}
theorem pd_ix {f : F2} (hr : IxD X f) (ha : PD X W a ta) (hb : PD X W b tb) (hs : PlainIx b) : PD X W (.Subscript a b pos) (dOp f ta tb) := pe_imp (pe_ix hr ha hb hs) fun _ _ _ => lift_op

/-! ### slices -/
/-- a part of a slice -/
def dPart : Option (Rd Tr) → Rd (Option Int)
  | none => ⟨fun _ M Q _ => Q none M, fun h _ q => h _ _ q⟩
  | some t => ⟨fun ρ M Q E => t.f ρ M (fun d M1 => match d with
    | .int i => Q (some i) M1
    | _ => False) E, fun h h' q => t.mono (fun d M1 z => by
      split at z
      · exact h _ _ z
      · exact z.elim) h' q⟩
def liftO (K : PySem.W.Frag) (W : WX) (t : Rd (Option Int)) : TO := fun σ H Q => ∃ ρ M S E, OkH K S M H ∧ Slots K S ρ σ ∧ ErrE K W S H σ E ∧ t.f ρ M (fun o M' => ∀ H' S', Gr S H S' H' → OkH K S' M' H' → Q o H') E
abbrev PDO (X : Cx) (W : WX) (e : Option Expr) (t : Rd (Option Int)) : Prop := PO X e (liftO X.K W t)
theorem po_imp {e : Option Expr} {t t' : TO} (p : PO X e t) (h : ∀ σ H Q, t' σ H Q → t σ H Q) : PO X e t' := ⟨fun pins s σ H Q I q => p.run pins s σ H Q I (h σ H Q q)⟩
theorem pdo_none : PDO X W none (dPart none) := po_imp po_none fun σ H Q h => by
  obtain ⟨ρ, M, S, E, o, s, er, q⟩ := h
  exact q H S (Gr.refl S H) o
theorem pdo_some (h : PD X W e t) : PDO X W (some e) (dPart (some t)) := po_imp (po_some h) fun σ H Q h => by
  obtain ⟨ρ, M, S, E, o, s, er, q⟩ := h
  refine ⟨ρ, M, S, E, o, s, er, t.mono (fun d M1 q1 => ?_) (fun _ _ z => z) q⟩
  intro v H1 S1 l1 o1 r1
  dsimp only at q1
  split at q1
  · simp only [Rep] at r1
    exact ⟨_, r1, q1 H1 S1 l1 o1⟩
  · exact q1.elim
def cutT (xs : List Tr) (lo hi : Option Int) : List Tr := (xs.drop (HT.sIx xs.length 0 lo)).take (HT.sIx xs.length xs.length hi - HT.sIx xs.length 0 lo)
def slF (M : Me) (d : Tr) (lo hi : Option Int) : Option Tr := match d with
  | .str z => if z.length ≤ big then some (.str (cutS z lo hi)) else none
  | .tup xs => some (.tup (cutT xs lo hi))
  | d => (seqL M d).map fun xs => Tr.lst (cutT xs lo hi)
def dSl (t : Rd Tr) (lo hi : Rd (Option Int)) : Rd Tr := ⟨fun ρ M Q E => t.f ρ M (fun d M1 => lo.f ρ M1 (fun l M2 => hi.f ρ M2 (fun h M3 => onSome (slF M3 d l h) fun z => Q z M3) E) E) E,
  fun h h' q => t.mono (fun d M1 => lo.mono (fun l M2 => hi.mono (fun g M3 => onSome_mono fun z => h z M3) h') h') h' q⟩
theorem reps_cut {K : PySem.W.Frag} {S : Gh} {ds : List Tr} {vs : List V} {lo hi : Option Int} (r : Reps K S ds vs) : Reps K S (cutT ds lo hi) (cutV vs lo hi) := by
  unfold cutT cutV
  rw [r.length]
  exact (r.drop _).take _
theorem whole_cut {ds : List Tr} {lo hi : Option Int} (h1 : HT.sIx ds.length 0 lo = 0) (h2 : HT.sIx ds.length ds.length hi = ds.length) : cutT ds lo hi = ds := by
  unfold cutT
  rw [h1, h2]
  simp
theorem SlR.imp' {r r' : V → Option Int → Option Int → Hp → VK → Prop} (h : SlR X r) (i : ∀ x lo hi H Q, r' x lo hi H Q → r x lo hi H Q) : SlR X r' := fun pins s σ H x v vl vu lo hi sl Q I rx hs pl pu q => h pins s σ H x v vl vu lo hi sl Q I rx hs pl pu (i x lo hi H Q q)
def rSlD (K : PySem.W.Frag) : V → Option Int → Option Int → Hp → VK → Prop := fun x lo hi H Q => ∃ S M d z, OkH K S M H ∧ Rep K S d x ∧ slF M d lo hi = some z ∧ ∀ w H' S', Gr S H S' H' → OkH K S' M H' → Rep K S' z w → Q w H'
theorem sl_tr : SlR X (rSlD X.K) := by
  refine SlR.imp' (SlR.or sl_str (SlR.or sl_list sl_tupA)) fun x lo hi H Q h => ?_
  obtain ⟨S, M, d, z, o, q1, hz, k⟩ := h
  unfold slF at hz
  split at hz
  · split at hz
    · rename_i z' hl
      cases hz
      simp only [Rep] at q1
      exact .inl ⟨z', q1, by rw [← big_eq]; exact hl, k _ H S (Gr.refl S H) o rep_str⟩
    · cases hz
  · rename_i xs
    cases hz
    have q1' := q1
    simp only [Rep] at q1
    obtain ⟨a, vs, rfl, g, rs⟩ := q1
    refine .inr (.inr ⟨a, vs, rfl, o.sqT g, fun hw => ?_, fun _ p n => ?_⟩)
    · rw [← rs.length] at hw
      refine k _ H S (Gr.refl S H) o ?_
      rw [whole_cut hw.1 hw.2]
      exact q1'
    · obtain ⟨S', l, o', r⟩ := new_tup o (reps_cut (lo := lo) (hi := hi) rs) n
      exact k _ _ S' l o' r
  · obtain ⟨xs, f1, rfl⟩ := Option.map_eq_some_iff.mp hz
    obtain ⟨a, vs, rfl, hq, rs⟩ := seqL_rep o q1 f1
    refine .inr (.inl ⟨a, vs, rfl, SqL.of hq, fun p n => ?_⟩)
    obtain ⟨S', l, o', r⟩ := new_lst o (reps_cut (lo := lo) (hi := hi) rs) n
    exact k _ _ S' l o' r
theorem pd_slice {lo hi : Option Expr} {tl th : Rd (Option Int)} {p2 : Pos} (he : PD X W e t) (hl : PDO X W lo tl) (hh : PDO X W hi th) : PD X W (.Subscript e (.Slice lo hi none p2) pos) (dSl t tl th) :=
  pe_imp (pe_slice sl_tr he hl hh) fun σ H Q h => by
    obtain ⟨ρ, M, S, E, o, s, er, q⟩ := h
    refine ⟨ρ, M, S, E, o, s, er, t.mono (fun d M1 q1 => ?_) (fun _ _ z => z) q⟩
    intro v H1 S1 l1 o1 r1
    refine ⟨ρ, M1, S1, E, o1, s.mono l1.le, er.mono l1, tl.mono (fun x M2 q2 => ?_) (fun _ _ z => z) q1⟩
    intro H2 S2 l2 o2
    refine ⟨ρ, M2, S2, E, o2, (s.mono l1.le).mono l2.le, (er.mono l1).mono l2, th.mono (fun y M3 q3 => ?_) (fun _ _ z => z) q2⟩
    intro H3 S3 l3 o3
    obtain ⟨z, hz, q4⟩ := onSome_of q3
    exact ⟨S3, M3, d, z, o3, Rep.mono (l2.trans l3).le _ _ r1, hz, fun w H4 S4 l4 o4 r4 => q4 w H4 S4 (l1.trans (l2.trans (l3.trans l4))) o4 r4⟩

/-! ### calls of built-ins by values -/
abbrev FA := Me → List Tr → Option (Tr × Me)
def rA (K : PySem.W.Frag) (f : FA) : List V → Hp → VK → Prop := fun vs H Q => ∃ S M ds z M', OkH K S M H ∧ Reps K S ds vs ∧ f M ds = some (z, M') ∧ ∀ w H' S', Gr S H S' H' → OkH K S' M' H' → Rep K S' z w → Q w H'
def dCall (f : FA) (u : Rd (List Tr)) : Rd Tr := ⟨fun ρ M Q E => u.f ρ M (fun ds M1 => onSome (f M1 ds) fun z => Q z.1 z.2) E, fun h h' q => u.mono (fun ds M1 => onSome_mono fun z => h z.1 z.2) h' q⟩
theorem callimp {f : Value} {r r' : List V → Hp → VK → Prop} (h : CallR X f r) (i : ∀ vs H Q, r' vs H Q → r vs H Q) : CallR X f r' := fun pins s σ H xs us Q I rv q => h pins s σ H xs us Q I rv (i xs H Q q)
theorem lift_call {K : PySem.W.Frag} {f : FA} {σ : L2.St} {H : Hp} {Q : VK} (h : liftE K W (dCall f u) σ H Q) : tCB (rA K f) (liftA K W u) σ H Q := by
  obtain ⟨ρ, M, S, E, o, s, er, q⟩ := h
  refine ⟨ρ, M, S, E, o, s, er, u.mono (fun ds M1 q1 => ?_) (fun _ _ z => z) q⟩
  intro vs H1 S1 l1 o1 r1
  obtain ⟨⟨z, M'⟩, hz, q2⟩ := onSome_of q1
  exact ⟨S1, M1, ds, z, M', o1, r1, hz, fun w H2 S2 l2 o2 r2 => q2 w H2 S2 (l1.trans l2) o2 r2⟩
variable {x : Str} {p : Pos} {id : String} {f : FA}
theorem pd_callB (hc : CallR X (.builtin id) (rA X.K f)) (hg : Gl X x) (hm : X.mg x = none) (hv : bootBuiltins x = some (.builtin id)) (ha : PDA X W (e :: es) u) (hn : x ≠ "__name__" := by decide) (hdb : (x == ("__debug__" : Str)) = false := by decide)
    (he : starEach (e :: es) X.env = (false, eval e X.env) :: starEach es X.env := by rfl) (hpl : (backTo pos (starEach es X.env)).any (·.1) = false := by rfl) : PD X W (.Call (.Name x p) (e :: es) [] pos) (dCall f u) :=
  pe_imp (pe_callB hc hg hm hv ha hn hdb he hpl) fun _ _ _ => lift_call
theorem pd_callTy {T : String} (hc : CallR X (.type T) (rA X.K f)) (hg : Gl X x) (hm : X.mg x = none) (hv : bootBuiltins x = some (.type T)) (ha : PDA X W (e :: es) u) (hn : x ≠ "__name__" := by decide) (hdb : (x == ("__debug__" : Str)) = false := by decide)
    (he : starEach (e :: es) X.env = (false, eval e X.env) :: starEach es X.env := by rfl) (hpl : (backTo pos (starEach es X.env)).any (·.1) = false := by rfl) : PD X W (.Call (.Name x p) (e :: es) [] pos) (dCall f u) :=
  pe_imp (pe_callTy hc hg hm hv ha hn hdb he hpl) fun _ _ _ => lift_call
end
end DL
end T_DL3
section T_DL4
set_option Elab.async false
set_option linter.all false
set_option maxRecDepth 100000
set_option maxHeartbeats 4000000
/-! DL4: fields of instances; built-in functions and methods over trees. -/
namespace DL
open PySem PySem.Spec PyProof.Rows L2

/-! ### fields -/
def viewI (M : Me) : Tr → Option (Nat × List Tr)
  | .ins c ds => some (c, ds)
  | .cell k => (match M[k]? with
    | some (.ins c ds) => some (c, ds)
    | _ => none)
  | _ => none
def fldT (M : Me) (alts : List (Nat × Nat)) (d : Tr) : Option Tr := (viewI M d).bind fun p => (alts.lookup p.1).bind fun i => p.2[i]?
def dFld (alts : List (Nat × Nat)) (t : Rd Tr) : Rd Tr := ⟨fun ρ M Q E => t.f ρ M (fun d M1 => onSome (fldT M1 alts d) fun z => Q z M1) E, fun h h' q => t.mono (fun d M1 => onSome_mono fun z => h z M1) h' q⟩
theorem lookup_idx {f : Str} : ∀ {fs : List (Str × V)} {ns : List Str} {i : Nat} {v : V}, fs.map Prod.fst = ns → ns.Nodup → ns[i]? = some f → (fs.map Prod.snd)[i]? = some v → fs.lookup f = some v
  | [], ns, i, v, e, _, h, _ => by simp at e; subst e; simp at h
  | (g, w) :: r, ns, 0, v, e, nd, h, h2 => by
    subst e
    simp at h h2
    subst h h2
    simp [List.lookup]
  | (g, w) :: r, ns, i + 1, v, e, nd, h, h2 => by
    subst e
    simp only [List.map_cons, List.nodup_cons] at nd
    have h' : (r.map Prod.fst)[i]? = some f := by simpa using h
    have hne : (f == g) = false := beq_eq_false_iff_ne.mpr fun z => nd.1 (z ▸ List.mem_of_getElem? h')
    simp only [List.lookup, hne]
    exact lookup_idx rfl nd.2 h' (by simpa using h2)
/-- what of the text the classes must have for the attribute f -/
structure FldOk (K : PySem.W.Frag) (f : Str) (c i : Nat) : Prop where
  cls : Cls K (He.ga K (cnm c))
  no : NoAttr K (He.ga K (cnm c)) f
  at_ : (cfs c)[i]? = some f
  nd : (cfs c).Nodup
theorem lookup_mem {α : Type} {l : List (Nat × α)} {c : Nat} {i : α} (h : l.lookup c = some i) : (c, i) ∈ l := by
  induction l with
  | nil => simp at h
  | cons p r ih =>
    obtain ⟨a, b⟩ := p
    simp only [List.lookup] at h
    split at h
    · rename_i e
      cases h
      rw [beq_iff_eq.mp e]
      exact List.mem_cons_self
    · exact List.mem_cons_of_mem _ (ih h)
theorem viewI_rep {K : PySem.W.Frag} {S : Gh} {M : Me} {H : Hp} {d : Tr} {v : V} {c : Nat} {ds : List Tr} (o : OkH K S M H) (r : Rep K S d v) (e : viewI M d = some (c, ds)) :
    ∃ a dx fs, v = .ref a ∧ H a = some (.ins (He.ga K (cnm c)) dx fs) ∧ fs.map Prod.fst = (cfs c).take ds.length ∧ Reps K S ds (fs.map Prod.snd) := by
  cases d with
  | ins c' ds' =>
    simp only [viewI, Option.some.injEq, Prod.mk.injEq] at e
    obtain ⟨rfl, rfl⟩ := e
    simp only [Rep] at r
    obtain ⟨a, dx, fs, rfl, g, h1, h2⟩ := r
    refine ⟨a, dx, fs, rfl, o.sub _ _ g, ?_, h2⟩
    have := h2.length
    have h3 : ds'.length = (cfs c').length := by rw [this, ← h1]; simp
    rw [h3, List.take_length, h1]
  | cell k =>
    simp only [viewI] at e
    split at e
    · rename_i c' ds' h
      cases e
      obtain ⟨a, rfl, _, _, dx, fs, h1, h2, h3⟩ := cell_rep o r h
      exact ⟨a, dx, fs, rfl, h1, h2, h3⟩
    · cases e
  | _ => simp [viewI] at e
section
variable {X : Cx} {W : WX} {pos : Pos} {a b c e : Expr} {es : List Expr} {ta tb tc t : Rd Tr} {u : Rd (List Tr)}
theorem pd_fld {alts : List (Nat × Nat)} {f : Str} (hf : ∀ c i, (c, i) ∈ alts → FldOk X.K f c i) (he : PD X W e t) (hb : attributeBase e f X.env (eval e X.env) = eval e X.env) : PD X W (.Attribute e f pos) (dFld alts t) :=
  pe_imp (pe_fld he hb) fun σ H Q h => by
    obtain ⟨ρ, M, S, E, o, s, er, q⟩ := h
    refine ⟨ρ, M, S, E, o, s, er, t.mono (fun d M1 q1 => ?_) (fun _ _ z => z) q⟩
    intro v H1 S1 l1 o1 r1
    obtain ⟨z, hz, q2⟩ := onSome_of q1
    unfold fldT at hz
    obtain ⟨⟨c, ds⟩, e1, e2⟩ := Option.bind_eq_some_iff.mp hz
    obtain ⟨i, e3, e4⟩ := Option.bind_eq_some_iff.mp e2
    obtain ⟨a, dx, fs, rfl, h1, h2, h3⟩ := viewI_rep o1 r1 e1
    have ok := hf c i (lookup_mem e3)
    obtain ⟨w, hw, rw'⟩ := h3.get e4
    have hi : i < ds.length := (List.getElem?_eq_some_iff.mp e4).1
    refine ⟨a, _, dx, fs, w, rfl, h1, ok.cls, ok.no, lookup_idx h2 (ok.nd.sublist (List.take_sublist _ _)) ?_ hw, q2 w H1 S1 l1 o1 rw'⟩
    rw [List.getElem?_take_of_lt hi]
    exact ok.at_

/-! ### built-in functions -/
def ints? : List Tr → Option (List Int)
  | [] => some []
  | .int i :: r => (ints? r).map (i :: ·)
  | _ :: _ => none
def bls? : List Tr → Option (List Bool)
  | [] => some []
  | .bl i :: r => (bls? r).map (i :: ·)
  | _ :: _ => none
def strs? : List Tr → Option (List Str)
  | [] => some []
  | .str i :: r => (strs? r).map (i :: ·)
  | _ :: _ => none
theorem ints?_eq : ∀ {xs : List Tr} {ns : List Int}, ints? xs = some ns → xs = ns.map Tr.int
  | [], ns, h => by simp [ints?] at h; subst h; rfl
  | x :: r, ns, h => by
    cases x with
    | int i =>
      simp only [ints?, Option.map_eq_some_iff] at h
      obtain ⟨ms, h, rfl⟩ := h
      rw [ints?_eq h]; rfl
    | _ => simp [ints?] at h
theorem bls?_eq : ∀ {xs : List Tr} {ns : List Bool}, bls? xs = some ns → xs = ns.map Tr.bl
  | [], ns, h => by simp [bls?] at h; subst h; rfl
  | x :: r, ns, h => by
    cases x with
    | bl i =>
      simp only [bls?, Option.map_eq_some_iff] at h
      obtain ⟨ms, h, rfl⟩ := h
      rw [bls?_eq h]; rfl
    | _ => simp [bls?] at h
theorem strs?_eq : ∀ {xs : List Tr} {ns : List Str}, strs? xs = some ns → xs = ns.map Tr.str
  | [], ns, h => by simp [strs?] at h; subst h; rfl
  | x :: r, ns, h => by
    cases x with
    | str i =>
      simp only [strs?, Option.map_eq_some_iff] at h
      obtain ⟨ms, h, rfl⟩ := h
      rw [strs?_eq h]; rfl
    | _ => simp [strs?] at h
theorem ints?_map (ns : List Int) : ints? (ns.map Tr.int) = some ns := by
  induction ns with
  | nil => rfl
  | cons n r ih => simp [ints?, ih]
theorem bls?_map (ns : List Bool) : bls? (ns.map Tr.bl) = some ns := by
  induction ns with
  | nil => rfl
  | cons n r ih => simp [bls?, ih]
theorem strs?_map (ns : List Str) : strs? (ns.map Tr.str) = some ns := by
  induction ns with
  | nil => rfl
  | cons n r ih => simp [strs?, ih]
def maxI : List Int → Int
  | [] => 0
  | n :: r => r.foldl max n
theorem foldl_max (r : List Int) : ∀ n : Int, (r.foldl max n = n ∨ r.foldl max n ∈ r) ∧ n ≤ r.foldl max n ∧ ∀ y ∈ r, y ≤ r.foldl max n := by
  induction r with
  | nil => intro n; exact ⟨.inl rfl, Int.le_refl _, fun _ h => absurd h (by simp)⟩
  | cons m r ih =>
    intro n
    obtain ⟨h1, h2, h3⟩ := ih (max n m)
    simp only [List.foldl_cons]
    refine ⟨?_, by omega, fun y hy => ?_⟩
    · rcases h1 with h1 | h1
      · rw [h1]
        by_cases hc : n ≤ m
        · right; rw [Int.max_eq_right hc]; exact List.mem_cons_self
        · left; rw [Int.max_eq_left (by omega)]
      · exact .inr (List.mem_cons_of_mem _ h1)
    · rcases List.mem_cons.mp hy with rfl | hy
      · omega
      · exact h3 y hy
theorem maxI_is {ns : List Int} {m : Int} (h1 : m ∈ ns) (h2 : ∀ y ∈ ns, y ≤ m) : m = maxI ns := by
  cases ns with
  | nil => simp at h1
  | cons n r =>
    obtain ⟨a, b, c⟩ := foldl_max r n
    show m = r.foldl max n
    have h3 : r.foldl max n ≤ m := by
      rcases a with a | a
      · rw [a]; exact h2 n List.mem_cons_self
      · exact h2 _ (List.mem_cons_of_mem _ a)
    have h4 : m ≤ r.foldl max n := by
      rcases List.mem_cons.mp h1 with rfl | h
      · exact b
      · exact c m h
    omega

def lenF : FA := fun M ds => match ds with
  | [.str z] => if z.length ≤ big then some (.int z.length, M) else none
  | [d] => (seqA M d).map fun xs => (.int xs.length, M)
  | _ => none
def sumF : FA := fun M ds => match ds with
  | [d] => ((seqL M d).bind ints?).map fun ns => (.int ns.sum, M)
  | _ => none
def allF : FA := fun M ds => match ds with
  | [d] => ((seqL M d).bind bls?).map fun ns => (.bl (ns.all id), M)
  | _ => none
def anyF : FA := fun M ds => match ds with
  | [d] => ((seqL M d).bind bls?).map fun ns => (.bl (ns.any id), M)
  | _ => none
def maxF : FA := fun M ds => match ds with
  | [.int i, .int j] => some (.int (if j > i then j else i), M)
  | [d] => ((seqL M d).bind ints?).bind fun ns => if 0 < ns.length then some (.int (maxI ns), M) else none
  | _ => none
def minF : FA := fun M ds => match ds with
  | [.int i, .int j] => some (.int (if j < i then j else i), M)
  | _ => none
def absF : FA := fun M ds => match ds with
  | [.int i] => some (.int (if i < 0 then -i else i), M)
  | _ => none
def intF : FA := fun M ds => match ds with
  | [.int i] => some (.int i, M)
  | [.bl b] => some (.int (if b then 1 else 0), M)
  | [.str z] => if z.length ≤ 640 then (PySem.intText? z).map fun n => (.int n, M) else none
  | _ => none
def strF : FA := fun M ds => match ds with
  | [.int i] => if i.natAbs.log2 < 1920 then some (.str (toString i), M) else none
  | _ => none
/-- list(x) as a tree, as a cell -/
def listF : FA := fun M ds => match ds with
  | [d] => (seqA M d).map fun xs => (.lst xs, M)
  | _ => none
def listFC : FA := fun M ds => match ds with
  | [d] => (seqA M d).map fun xs => (.cell M.length, M ++ [.lst xs])
  | _ => none
def tupleF : FA := fun M ds => match ds with
  | [.tup xs] => some (.tup xs, M)
  | [d] => (seqL M d).map fun xs => (.tup xs, M)
  | _ => none
theorem reps1 {K : PySem.W.Frag} {S : Gh} {d : Tr} {vs : List V} (r : Reps K S [d] vs) : ∃ v, vs = [v] ∧ Rep K S d v := by
  simp only [Reps] at r
  obtain ⟨v, t, rfl, h, rfl⟩ := r
  exact ⟨v, rfl, h⟩
theorem reps2 {K : PySem.W.Frag} {S : Gh} {d d' : Tr} {vs : List V} (r : Reps K S [d, d'] vs) : ∃ v w, vs = [v, w] ∧ Rep K S d v ∧ Rep K S d' w := by
  simp only [Reps] at r
  obtain ⟨v, t, rfl, h, w, t', rfl, h', rfl⟩ := r
  exact ⟨v, w, rfl, h, h'⟩
theorem reps0 {K : PySem.W.Frag} {S : Gh} {vs : List V} (r : Reps K S [] vs) : vs = [] := by simpa only [Reps] using r
theorem c_len : CallR X (.builtin "len") (rA X.K lenF) := callimp (.or call_len_str call_len_seq) fun vs H Q h => by
  obtain ⟨S, M, ds, z, M', o, r, hz, k⟩ := h
  unfold lenF at hz
  split at hz
  · split at hz
    · rename_i hl
      cases hz
      obtain ⟨v, rfl, r1⟩ := reps1 r
      simp only [Rep] at r1
      exact .inl ⟨_, by rw [r1], by rw [← big_eq]; exact hl, k _ H S (Gr.refl S H) o rep_int⟩
    · cases hz
  · obtain ⟨xs, e, e'⟩ := Option.map_eq_some_iff.mp hz
    cases e'
    obtain ⟨v, rfl, r1⟩ := reps1 r
    obtain ⟨a, ws, rfl, hq, rs⟩ := seqA_rep o r1 e
    exact .inr ⟨a, ws, rfl, hq, by rw [← rs.length]; exact k _ H S (Gr.refl S H) o rep_int⟩
  · cases hz
theorem c_sum (hc : X.calm = true) : CallR X (.builtin "sum") (rA X.K sumF) := callimp (cr_sum hc) fun vs H Q h => by
  obtain ⟨S, M, ds, z, M', o, r, hz, k⟩ := h
  unfold sumF at hz
  split at hz
  · obtain ⟨ns, e, e'⟩ := Option.map_eq_some_iff.mp hz
    cases e'
    obtain ⟨xs, e1, e2⟩ := Option.bind_eq_some_iff.mp e
    obtain ⟨v, rfl, r1⟩ := reps1 r
    obtain ⟨a, ws, rfl, hq, rs⟩ := seqL_rep o r1 e1
    rw [ints?_eq e2, Reps.ints] at rs
    exact ⟨a, ns, rfl, by rw [← rs]; exact SqL.of hq, k _ H S (Gr.refl S H) o rep_int⟩
  · cases hz
theorem c_all (hc : X.calm = true) : CallR X (.builtin "all") (rA X.K allF) := callimp (cr_all hc) fun vs H Q h => by
  obtain ⟨S, M, ds, z, M', o, r, hz, k⟩ := h
  unfold allF at hz
  split at hz
  · obtain ⟨ns, e, e'⟩ := Option.map_eq_some_iff.mp hz
    cases e'
    obtain ⟨xs, e1, e2⟩ := Option.bind_eq_some_iff.mp e
    obtain ⟨v, rfl, r1⟩ := reps1 r
    obtain ⟨a, ws, rfl, hq, rs⟩ := seqL_rep o r1 e1
    rw [bls?_eq e2, Reps.bls] at rs
    exact ⟨a, ns, rfl, by rw [← rs]; exact SqL.of hq, k _ H S (Gr.refl S H) o rep_bl⟩
  · cases hz
theorem c_any (hc : X.calm = true) : CallR X (.builtin "any") (rA X.K anyF) := callimp (cr_any hc) fun vs H Q h => by
  obtain ⟨S, M, ds, z, M', o, r, hz, k⟩ := h
  unfold anyF at hz
  split at hz
  · obtain ⟨ns, e, e'⟩ := Option.map_eq_some_iff.mp hz
    cases e'
    obtain ⟨xs, e1, e2⟩ := Option.bind_eq_some_iff.mp e
    obtain ⟨v, rfl, r1⟩ := reps1 r
    obtain ⟨a, ws, rfl, hq, rs⟩ := seqL_rep o r1 e1
    rw [bls?_eq e2, Reps.bls] at rs
    exact ⟨a, ns, rfl, by rw [← rs]; exact SqL.of hq, k _ H S (Gr.refl S H) o rep_bl⟩
  · cases hz
theorem c_max (hc : X.calm = true) : CallR X (.builtin "max") (rA X.K maxF) := callimp (.or (call_max2 hc) (cr_max hc)) fun vs H Q h => by
  obtain ⟨S, M, ds, z, M', o, r, hz, k⟩ := h
  unfold maxF at hz
  split at hz
  · cases hz
    obtain ⟨v, w, rfl, r1, r2⟩ := reps2 r
    simp only [Rep] at r1 r2
    exact .inl ⟨_, _, by rw [r1, r2], k _ H S (Gr.refl S H) o rep_int⟩
  · obtain ⟨ns, e, e'⟩ := Option.bind_eq_some_iff.mp hz
    split at e'
    · rename_i hl
      cases e'
      obtain ⟨xs, e1, e2⟩ := Option.bind_eq_some_iff.mp e
      obtain ⟨v, rfl, r1⟩ := reps1 r
      obtain ⟨a, ws, rfl, hq, rs⟩ := seqL_rep o r1 e1
      rw [ints?_eq e2, Reps.ints] at rs
      exact .inr ⟨a, ns, rfl, by rw [← rs]; exact SqL.of hq, hl, fun m h1 h2 => by rw [maxI_is h1 h2]; exact k _ H S (Gr.refl S H) o rep_int⟩
    · cases e'
  · cases hz
theorem c_min (hc : X.calm = true) : CallR X (.builtin "min") (rA X.K minF) := callimp (call_min2 hc) fun vs H Q h => by
  obtain ⟨S, M, ds, z, M', o, r, hz, k⟩ := h
  unfold minF at hz
  split at hz
  · cases hz
    obtain ⟨v, w, rfl, r1, r2⟩ := reps2 r
    simp only [Rep] at r1 r2
    exact ⟨_, _, by rw [r1, r2], k _ H S (Gr.refl S H) o rep_int⟩
  · cases hz
theorem c_abs : CallR X (.builtin "abs") (rA X.K absF) := callimp call_abs fun vs H Q h => by
  obtain ⟨S, M, ds, z, M', o, r, hz, k⟩ := h
  unfold absF at hz
  split at hz
  · cases hz
    obtain ⟨v, rfl, r1⟩ := reps1 r
    simp only [Rep] at r1
    exact ⟨_, by rw [r1], k _ H S (Gr.refl S H) o rep_int⟩
  · cases hz
theorem c_int : CallR X (.type "int") (rA X.K intF) := callimp (.or call_int1 call_int_str) fun vs H Q h => by
  obtain ⟨S, M, ds, z, M', o, r, hz, k⟩ := h
  unfold intF at hz
  split at hz
  · cases hz
    obtain ⟨v, rfl, r1⟩ := reps1 r
    simp only [Rep] at r1
    exact .inl (.inl ⟨_, by rw [r1], k _ H S (Gr.refl S H) o rep_int⟩)
  · cases hz
    obtain ⟨v, rfl, r1⟩ := reps1 r
    simp only [Rep] at r1
    exact .inl (.inr ⟨_, by rw [r1], k _ H S (Gr.refl S H) o rep_int⟩)
  · split at hz
    · rename_i hl
      obtain ⟨n, e1, e2⟩ := Option.map_eq_some_iff.mp hz
      cases e2
      obtain ⟨v, rfl, r1⟩ := reps1 r
      simp only [Rep] at r1
      exact .inr ⟨_, n, by rw [r1], e1, hl, k _ H S (Gr.refl S H) o rep_int⟩
    · cases hz
  · cases hz
theorem c_str : CallR X (.type "str") (rA X.K strF) := callimp call_str_int fun vs H Q h => by
  obtain ⟨S, M, ds, z, M', o, r, hz, k⟩ := h
  unfold strF at hz
  split at hz
  · split at hz
    · rename_i hl
      cases hz
      obtain ⟨v, rfl, r1⟩ := reps1 r
      simp only [Rep] at r1
      exact ⟨_, by rw [r1], hl, k _ H S (Gr.refl S H) o rep_str⟩
    · cases hz
  · cases hz
theorem c_list : CallR X (.type "list") (rA X.K listF) := callimp call_list_of fun vs H Q h => by
  obtain ⟨S, M, ds, z, M', o, r, hz, k⟩ := h
  unfold listF at hz
  split at hz
  · obtain ⟨xs, e, e'⟩ := Option.map_eq_some_iff.mp hz
    cases e'
    obtain ⟨v, rfl, r1⟩ := reps1 r
    obtain ⟨a, ws, rfl, hq, rs⟩ := seqA_rep o r1 e
    refine ⟨a, ws, rfl, hq, fun l n => ?_⟩
    obtain ⟨S', g, o', r'⟩ := new_lst o rs n
    exact k _ _ S' g o' r'
  · cases hz
theorem c_listC : CallR X (.type "list") (rA X.K listFC) := callimp call_list_of fun vs H Q h => by
  obtain ⟨S, M, ds, z, M', o, r, hz, k⟩ := h
  unfold listFC at hz
  split at hz
  · obtain ⟨xs, e, e'⟩ := Option.map_eq_some_iff.mp hz
    cases e'
    obtain ⟨v, rfl, r1⟩ := reps1 r
    obtain ⟨a, ws, rfl, hq, rs⟩ := seqA_rep o r1 e
    refine ⟨a, ws, rfl, hq, fun l n => ?_⟩
    obtain ⟨S', g, o', r'⟩ := new_lstC o rs n
    exact k _ _ S' g o' r'
  · cases hz
theorem c_tuple : CallR X (.type "tuple") (rA X.K tupleF) := callimp call_tuple_of fun vs H Q h => by
  obtain ⟨S, M, ds, z, M', o, r, hz, k⟩ := h
  unfold tupleF at hz
  split at hz
  · cases hz
    obtain ⟨v, rfl, r1⟩ := reps1 r
    have r0 := r1
    simp only [Rep] at r1
    obtain ⟨a, ws, rfl, g, rs⟩ := r1
    exact ⟨a, ws, rfl, .inr ⟨o.sqT g, k _ H S (Gr.refl S H) o r0⟩⟩
  · obtain ⟨xs, e, e'⟩ := Option.map_eq_some_iff.mp hz
    cases e'
    obtain ⟨v, rfl, r1⟩ := reps1 r
    obtain ⟨a, ws, rfl, hq, rs⟩ := seqL_rep o r1 e
    refine ⟨a, ws, rfl, .inl ⟨SqL.of hq, fun l n => ?_⟩⟩
    obtain ⟨S', g, o', r'⟩ := new_tup o rs n
    exact k _ _ S' g o' r'
  · cases hz

/-! ### methods -/
abbrev FM := Me → Tr → List Tr → Option (Tr × Me)
def rM (K : PySem.W.Frag) (f : FM) : V → List V → Hp → VK → Prop := fun x vs H Q => ∃ S M d ds z M', OkH K S M H ∧ Rep K S d x ∧ Reps K S ds vs ∧ f M d ds = some (z, M') ∧ ∀ w H' S', Gr S H S' H' → OkH K S' M' H' → Rep K S' z w → Q w H'
/-- a method of a list -/
def dMthL (f : FM) (t : Rd Tr) (u : Rd (List Tr)) : Rd Tr := ⟨fun ρ M Q E => t.f ρ M (fun d M1 => (seqL M1 d).isSome = true ∧ u.f ρ M1 (fun ds M2 => onSome (f M2 d ds) fun z => Q z.1 z.2) E) E,
  fun h h' q => t.mono (fun d M1 z => ⟨z.1, u.mono (fun ds M2 => onSome_mono fun z => h z.1 z.2) h' z.2⟩) h' q⟩
theorem mtimp {id : String} {r r' : V → List V → Hp → VK → Prop} (h : MtR X id r) (i : ∀ x vs H Q, r' x vs H Q → r x vs H Q) : MtR X id r' := fun pins s σ H x xs v us Q I rx rv q => h pins s σ H x xs v us Q I rx rv (i x xs H Q q)
theorem tyL_of {K : PySem.W.Frag} {S : Gh} {M : Me} {H : Hp} {d : Tr} {v : V} (o : OkH K S M H) (r : Rep K S d v) (h : (seqL M d).isSome = true) : tyV K "list" v H := by
  obtain ⟨xs, e⟩ := Option.isSome_iff_exists.mp h
  obtain ⟨a, vs, rfl, h1, _⟩ := seqL_rep o r e
  exact .inl ⟨rfl, vs, SqL.of h1⟩
theorem lift_mthL {K : PySem.W.Frag} {f : FM} {σ : L2.St} {H : Hp} {Q : VK} (h : liftE K W (dMthL f t u) σ H Q) : tBM K "list" (rM K f) (liftE K W t) (liftA K W u) σ H Q := by
  obtain ⟨ρ, M, S, E, o, s, er, q⟩ := h
  refine ⟨ρ, M, S, E, o, s, er, t.mono (fun d M1 q1 => ?_) (fun _ _ z => z) q⟩
  intro v H1 S1 l1 o1 r1
  refine ⟨tyL_of o1 r1 q1.1, ρ, M1, S1, E, o1, s.mono l1.le, er.mono l1, u.mono (fun ds M2 q2 => ?_) (fun _ _ z => z) q1.2⟩
  intro vs H2 S2 l2 o2 r2
  obtain ⟨⟨z, M'⟩, hz, q3⟩ := onSome_of q2
  exact ⟨S2, M2, d, ds, z, M', o2, Rep.mono l2.le _ _ r1, r2, hz, fun w H3 S3 l3 o3 r3 => q3 w H3 S3 (l1.trans (l2.trans l3)) o3 r3⟩
theorem lift_mthL0 {K : PySem.W.Frag} {f : FM} {σ : L2.St} {H : Hp} {Q : VK} (h : liftE K W (dMthL f t dNil) σ H Q) : tBM0 K "list" (rM K f) (liftE K W t) σ H Q := by
  obtain ⟨ρ, M, S, E, o, s, er, q⟩ := h
  refine ⟨ρ, M, S, E, o, s, er, t.mono (fun d M1 q1 => ?_) (fun _ _ z => z) q⟩
  intro v H1 S1 l1 o1 r1
  obtain ⟨q0, q2⟩ := q1
  obtain ⟨⟨z, M'⟩, hz, q3⟩ := onSome_of q2
  exact ⟨tyL_of o1 r1 q0, S1, M1, d, [], z, M', o1, r1, Reps.nil, hz, fun w H3 S3 l3 o3 r3 => q3 w H3 S3 (l1.trans l3) o3 r3⟩
def appF : FM := fun M d ds => match d, ds with
  | .cell k, [y] => (match M[k]? with
    | some (.lst xs) => if xs.length < big then some (.non, M.set k (.lst (xs ++ [y]))) else none
    | _ => none)
  | _, _ => none
def extF : FM := fun M d ds => match d, ds with
  | .cell k, [y] => (match M[k]?, seqL M y with
    | some (.lst xs), some ys => if xs.length + ys.length ≤ big then some (.non, M.set k (.lst (xs ++ ys))) else none
    | _, _ => none)
  | _, _ => none
def popF : FM := fun M d ds => match d, ds with
  | .cell k, [] => (match M[k]? with
    | some (.lst xs) => (xs[xs.length - 1]?).map fun y => (y, M.set k (.lst xs.dropLast))
    | _ => none)
  | .cell k, [.int i] => (match M[k]? with
    | some (.lst xs) => if 0 ≤ i ∧ i < 2 ^ 63 then (xs[i.toNat]?).map fun y => (y, M.set k (.lst (xs.eraseIdx i.toNat))) else none
    | _ => none)
  | _, _ => none
theorem m_app : MtR X "list.append" (rM X.K appF) := mtimp mt_append fun x vs H Q h => by
  obtain ⟨S, M, d, ds, z, M', o, r1, r2, hz, k⟩ := h
  unfold appF at hz
  split at hz
  · split at hz
    · rename_i k' y xs e
      split at hz
      · rename_i hl
        cases hz
        obtain ⟨a, rfl, hc, hg, ws, h1, rs⟩ := cell_rep o r1 e
        obtain ⟨w, rfl, rw'⟩ := reps1 r2
        refine ⟨a, ws, w, rfl, rfl, h1, by rw [← rs.length, ← big_eq]; exact hl, ?_⟩
        exact k _ _ S (gr_setCell hc) (o.setCell hc e hg ⟨hg, _, upd_same, rs.append (Reps.cons rw' Reps.nil)⟩) rep_non
      · cases hz
    · cases hz
  · cases hz
theorem m_ext : MtR X "list.extend" (rM X.K extF) := mtimp mt_extend fun x vs H Q h => by
  obtain ⟨S, M, d, ds, z, M', o, r1, r2, hz, k⟩ := h
  unfold extF at hz
  split at hz
  · split at hz
    · rename_i k' y xs ys e e2
      split at hz
      · rename_i hl
        cases hz
        obtain ⟨a, rfl, hc, hg, ws, h1, rs⟩ := cell_rep o r1 e
        obtain ⟨w, rfl, rw'⟩ := reps1 r2
        obtain ⟨b, zs, rfl, h2, rs2⟩ := seqL_rep o rw' e2
        refine ⟨a, b, ws, zs, rfl, rfl, h1, h2, by rw [← rs.length, ← rs2.length, ← big_eq]; exact hl, ?_⟩
        exact k _ _ S (gr_setCell hc) (o.setCell hc e hg ⟨hg, _, upd_same, rs.append rs2⟩) rep_non
      · cases hz
    · cases hz
  · cases hz
theorem seqIndex_nat {i : Int} {n : Nat} (h0 : 0 ≤ i) (h1 : i.toNat < n) : seqIndex? i n = some i.toNat := PySem.StrLaws.seqIndex_nonneg h0 (by omega)
theorem m_pop : MtR X "list.pop" (rM X.K popF) := mtimp (MtR.or mt_pop mt_popAt) fun x vs H Q h => by
  obtain ⟨S, M, d, ds, z, M', o, r1, r2, hz, k⟩ := h
  unfold popF at hz
  split at hz
  · split at hz
    · rename_i k' xs e
      obtain ⟨y, e1, e2⟩ := Option.map_eq_some_iff.mp hz
      cases e2
      obtain ⟨a, rfl, hc, hg, ws, h1, rs⟩ := cell_rep o r1 e
      obtain ⟨w, hw, rw'⟩ := rs.get e1
      rw [reps0 r2]
      exact .inl ⟨a, ws, w, rfl, rfl, h1, by rw [← rs.length]; exact hw, k _ _ S (gr_setCell hc) (o.setCell hc e hg ⟨hg, _, upd_same, rs.dropLast⟩) rw'⟩
    · cases hz
  · split at hz
    · rename_i k' i _ xs e
      split at hz
      · rename_i hi
        obtain ⟨y, e1, e2⟩ := Option.map_eq_some_iff.mp hz
        cases e2
        obtain ⟨a, rfl, hc, hg, ws, h1, rs⟩ := cell_rep o r1 e
        obtain ⟨w, hw, rw'⟩ := rs.get e1
        obtain ⟨v, rfl, rv⟩ := reps1 r2
        simp only [Rep] at rv
        have hlt := (List.getElem?_eq_some_iff.mp hw).1
        exact .inr ⟨a, ws, i, i.toNat, w, rfl, by rw [rv], h1, by omega, hi.2, seqIndex_nat hi.1 hlt, hw, k _ _ S (gr_setCell hc) (o.setCell hc e hg ⟨hg, _, upd_same, rs.eraseIdx _⟩) rw'⟩
      · cases hz
    · cases hz
  · cases hz
variable {o : Expr} {apos cpos : Pos}
theorem pd_mth {f : FM} {name : Str} {id : String} (slot : Slot "list" name id) (hty : typeOf (.builtin id) = pure (.type "method_descriptor")) (hm : MtR X id (rM X.K f)) (ho : PD X W o t) (ha : PDA X W (e :: es) u)
    (hbase : attributeBase o name X.env (eval o X.env) = eval o X.env := by rfl)
    (hfew : ((backTo cpos (starEach (e :: es) X.env)).all (fun x => !x.1) && (backToKw cpos (keywordEach [] X.env)).all (fun x => x.1.isSome)
      && decide ((e :: es).length + ([] : List Keyword).length + (if ([] : List Keyword).isEmpty then 0 else 1) < 30)) = true := by rfl)
    (hline : (apos.endLine == cpos.line) = true := by rfl) (hs : starEach (e :: es) X.env = (false, eval e X.env) :: starEach es X.env := by rfl) (hplain : (backTo cpos (starEach es X.env)).any (·.1) = false := by rfl) :
    PD X W (.Call (.Attribute o name apos) (e :: es) [] cpos) (dMthL f t u) := pe_imp (pe_bm PySem.F.plainAttrs_list slot hty hm ho ha hbase hfew hline hs hplain) fun _ _ _ => lift_mthL
theorem pd_mth0 {f : FM} {name : Str} {id : String} (slot : Slot "list" name id) (hty : typeOf (.builtin id) = pure (.type "method_descriptor")) (hm : MtR X id (rM X.K f)) (ho : PD X W o t)
    (hbase : attributeBase o name X.env (eval o X.env) = eval o X.env := by rfl) (hline : (apos.endLine == cpos.line) = true := by rfl) :
    PD X W (.Call (.Attribute o name apos) [] [] cpos) (dMthL f t dNil) := pe_imp (pe_bm0 PySem.F.plainAttrs_list slot hty hm ho hbase hline) fun _ _ _ => lift_mthL0
end
end DL
end T_DL4
section T_DL5
set_option Elab.async false
set_option linter.all false
set_option maxRecDepth 100000
set_option maxHeartbeats 4000000
/-! DL5: statements, targets, loops, comprehensions over trees. -/
namespace DL
open PySem PySem.Spec PyProof.Rows L2

/-! ### targets -/
inductive Tg where
  | nm (i : Nat)
  | tp (ts : List Tg)
mutual
def Tg.ids : Tg → List Nat
  | .nm i => [i]
  | .tp ts => Tg.idss ts
def Tg.idss : List Tg → List Nat
  | [] => []
  | t :: ts => t.ids ++ Tg.idss ts
end
mutual
def setTg : Tg → Tr → En → Option En
  | .nm i, d, ρ => some (ρ.set i (some d))
  | .tp ts, .tup xs, ρ => setTgs ts xs ρ
  | .tp _, _, _ => none
def setTgs : List Tg → List Tr → En → Option En
  | [], [], ρ => some ρ
  | t :: ts, x :: xs, ρ => (setTg t x ρ).bind fun ρ' => setTgs ts xs ρ'
  | _, _, _ => none
end
mutual
def gTg (K : PySem.W.Frag) : Tg → TG
  | .nm i => gName i
  | .tp ts => gTup K ts.length (gTgs K ts)
def gTgs (K : PySem.W.Frag) : List Tg → TGs
  | [] => gNil
  | t :: ts => gCons (gTg K t) (gTgs K ts)
end
theorem wipe_set {σ : L2.St} {i : Nat} {x : Option V} : ∀ {vs : List Nat}, i ∈ vs → wipe (σ.set i x) vs = wipe σ vs := by
  have out : ∀ {vs : List Nat}, wipe (σ.set i x) vs = (wipe σ vs).set i x ∨ wipe (σ.set i x) vs = wipe σ vs := by
    intro vs
    induction vs with
    | nil => exact .inl rfl
    | cons j r ih =>
      unfold wipe
      by_cases h : j = i
      · subst h
        rcases ih with ih | ih
        · right; rw [ih, List.set_set]
        · right; rw [ih]
      · rcases ih with ih | ih
        · left; rw [ih, List.set_comm _ _ (Ne.symm h)]
        · right; rw [ih]
  intro vs hi
  induction vs with
  | nil => simp at hi
  | cons j r ih =>
    unfold wipe
    by_cases h : j = i
    · subst h
      rcases out (vs := r) with e | e
      · rw [e, List.set_set]
      · rw [e]
    · rw [ih (by rcases List.mem_cons.mp hi with e | e; exact absurd e.symm h; exact e)]
theorem setTgs_len : ∀ {ts : List Tg} {ds : List Tr} {ρ ρ' : En}, setTgs ts ds ρ = some ρ' → ds.length = ts.length
  | [], [], _, _, _ => rfl
  | t :: ts, d :: ds, ρ, ρ', e => by
    simp only [setTgs] at e
    obtain ⟨ρ1, _, e2⟩ := Option.bind_eq_some_iff.mp e
    simp [setTgs_len e2]
  | [], _ :: _, _, _, e => by simp [setTgs] at e
  | _ :: _, [], _, _, e => by simp [setTgs] at e
section
variable {K : PySem.W.Frag} {S : Gh} {M : Me} {H : Hp}
mutual
theorem setTg_ok (o : OkH K S M H) : ∀ (t : Tg) (d : Tr) (v : V) (ρ ρ' : En) (σ : L2.St) (Q : L2.St → Hp → Prop), Slots K S ρ σ → Rep K S d v → setTg t d ρ = some ρ' →
    (∀ σ', Slots K S ρ' σ' → (∀ vs : List Nat, (∀ i ∈ t.ids, i ∈ vs) → wipe σ' vs = wipe σ vs) → Q σ' H) → gTg K t v σ H Q
  | .nm i, d, v, ρ, ρ', σ, Q, s, r, e, k => by
    simp only [setTg, Option.some.injEq] at e
    subst e
    simp only [gTg]
    exact k _ (s.set r) fun vs h => wipe_set (h i (by simp [Tg.ids]))
  | .tp ts, .tup xs, v, ρ, ρ', σ, Q, s, r, e, k => by
    simp only [setTg] at e
    simp only [Rep] at r
    obtain ⟨a, vs, rfl, g, rs⟩ := r
    simp only [gTg]
    exact ⟨a, vs, rfl, o.sqT g, by rw [← rs.length, setTgs_len e], setTgs_ok o ts xs vs ρ ρ' σ Q s rs e (by simpa only [Tg.ids] using k)⟩
  | .tp ts, .non, v, ρ, ρ', σ, Q, s, r, e, k => by simp [setTg] at e
  | .tp ts, .bl _, v, ρ, ρ', σ, Q, s, r, e, k => by simp [setTg] at e
  | .tp ts, .int _, v, ρ, ρ', σ, Q, s, r, e, k => by simp [setTg] at e
  | .tp ts, .str _, v, ρ, ρ', σ, Q, s, r, e, k => by simp [setTg] at e
  | .tp ts, .lst _, v, ρ, ρ', σ, Q, s, r, e, k => by simp [setTg] at e
  | .tp ts, .dct _ _, v, ρ, ρ', σ, Q, s, r, e, k => by simp [setTg] at e
  | .tp ts, .dkf _ _, v, ρ, ρ', σ, Q, s, r, e, k => by simp [setTg] at e
  | .tp ts, .ins _ _, v, ρ, ρ', σ, Q, s, r, e, k => by simp [setTg] at e
  | .tp ts, .exc _ _, v, ρ, ρ', σ, Q, s, r, e, k => by simp [setTg] at e
  | .tp ts, .cell _, v, ρ, ρ', σ, Q, s, r, e, k => by simp [setTg] at e
  | .tp ts, .scr _, v, ρ, ρ', σ, Q, s, r, e, k => by simp [setTg] at e
theorem setTgs_ok (o : OkH K S M H) : ∀ (ts : List Tg) (ds : List Tr) (vs : List V) (ρ ρ' : En) (σ : L2.St) (Q : L2.St → Hp → Prop), Slots K S ρ σ → Reps K S ds vs → setTgs ts ds ρ = some ρ' →
    (∀ σ', Slots K S ρ' σ' → (∀ ws : List Nat, (∀ i ∈ Tg.idss ts, i ∈ ws) → wipe σ' ws = wipe σ ws) → Q σ' H) → gTgs K ts vs σ H Q
  | [], [], vs, ρ, ρ', σ, Q, s, r, e, k => by
    simp only [setTgs, Option.some.injEq] at e
    subst e
    simp only [Reps] at r
    subst r
    simp only [gTgs]
    exact ⟨rfl, k σ s fun _ _ => rfl⟩
  | t :: ts, d :: ds, vs, ρ, ρ', σ, Q, s, r, e, k => by
    simp only [setTgs] at e
    obtain ⟨ρ1, e1, e2⟩ := Option.bind_eq_some_iff.mp e
    simp only [Reps] at r
    obtain ⟨v, vr, rfl, h1, h2⟩ := r
    simp only [gTgs]
    refine ⟨v, vr, rfl, setTg_ok o t d v ρ ρ1 σ _ s h1 e1 fun σ1 s1 w1 => ?_⟩
    refine setTgs_ok o ts ds vr ρ1 ρ' σ1 Q s1 h2 e2 fun σ2 s2 w2 => k σ2 s2 fun ws h => ?_
    rw [w2 ws fun i hi => h i (by simp only [Tg.idss]; exact List.mem_append_right _ hi), w1 ws fun i hi => h i (by simp only [Tg.idss]; exact List.mem_append_left _ hi)]
  | [], _ :: _, vs, ρ, ρ', σ, Q, s, r, e, k => by simp [setTgs] at e
  | _ :: _, [], vs, ρ, ρ', σ, Q, s, r, e, k => by simp [setTgs] at e
end
end
/-- a target's place in the text -/
abbrev PDG (X : Cx) (tg : Expr) (t : Tg) : Prop := PG X tg (gTg X.K t)
abbrev PDGs (X : Cx) (tgs : List Expr) (ts : List Tg) : Prop := PGs X tgs (gTgs X.K ts)
section
variable {X : Cx} {pos : Pos}
theorem pdg_name {i : Nat} {x : Str} (hN : X.N.Nodup) (hi : X.N[i]? = some x) (hx : Loc X.env.scope x) (hf : X.fn x = true ∨ X.env.scope.names.lookup x = some .local := by first | exact .inl rfl | exact .inr rfl | assumption) : PDG X (.Name x pos) (.nm i) := by
  unfold PDG; simp only [gTg]; exact pg_name hN hi hx hf
theorem pdgs_nil : PDGs X [] [] := by
  unfold PDGs; simp only [gTgs]; exact pgs_nil
theorem pdgs_cons {e : Expr} {es : List Expr} {t : Tg} {ts : List Tg} (h1 : PDG X e t) (h2 : PDGs X es ts) (hs : (assignEach (e :: es) X.env).map (·.2) = assign e X.env :: (assignEach es X.env).map (·.2) := by rfl) : PDGs X (e :: es) (t :: ts) := by
  unfold PDGs; simp only [gTgs]; exact pgs_cons h1 h2 hs
theorem pdg_tup {es : List Expr} {k : Nat} {ts : List Tg} (hc : X.calm = true) (h : PDGs X es ts) (hn : (assignEach es X.env).length = ts.length := by rfl) (hst : (assignEach es X.env).findIdx? (·.1) = none := by rfl) : PDG X (.Tuple es k pos) (.tp ts) := by
  unfold PDG; simp only [gTg]; exact pg_tup hc h hn hst
end

/-! ### small statements -/
def sNil : Sr := ⟨fun F ρ M => F.nx ρ M, fun h q => h.nx _ _ q⟩
def Fin.Le.upd {D D' : Fin} (h : Fin.Le D D') {n n' : En → Me → Prop} (hn : ∀ ρ M, n ρ M → n' ρ M) : Fin.Le { D with nx := n } { D' with nx := n' } := ⟨hn, h.rt, h.bk, h.ct, h.er⟩
def sSeq (t u : Sr) : Sr := ⟨fun F ρ M => t.f { F with nx := u.f F } ρ M, fun h q => t.mono (h.upd fun _ _ z => u.mono h z) q⟩
def sDrop (t : Rd Tr) : Sr := ⟨fun F ρ M => t.f ρ M (fun _ M1 => F.nx ρ M1) (F.er ρ), fun h q => t.mono (fun _ M z => h.nx _ M z) (fun d M z => h.er _ d M z) q⟩
def sRet (t : Rd Tr) : Sr := ⟨fun F ρ M => t.f ρ M F.rt (F.er ρ), fun h q => t.mono (fun d M z => h.rt d M z) (fun d M z => h.er _ d M z) q⟩
def sRetN : Sr := ⟨fun F _ M => F.rt .non M, fun h q => h.rt _ _ q⟩
def sIf (c : Rd Bool) (t u : Sr) : Sr := ⟨fun F ρ M => c.f ρ M (fun b M1 => if b = true then t.f F ρ M1 else u.f F ρ M1) (F.er ρ), fun h q => c.mono (fun b M z => by
  by_cases hb : b = true
  · rw [if_pos hb] at z ⊢; exact t.mono h z
  · rw [if_neg hb] at z ⊢; exact u.mono h z) (fun d M z => h.er _ d M z) q⟩
def sAsg (g : Tg) (t : Rd Tr) : Sr := ⟨fun F ρ M => t.f ρ M (fun d M1 => onSome (setTg g d ρ) fun ρ' => F.nx ρ' M1) (F.er ρ), fun h q => t.mono (fun d M => onSome_mono fun ρ' => h.nx ρ' M) (fun d M z => h.er _ d M z) q⟩
def sBrk : Sr := ⟨fun F ρ M => F.bk ρ M, fun h q => h.bk _ _ q⟩
def sCont : Sr := ⟨fun F ρ M => F.ct ρ M, fun h q => h.ct _ _ q⟩
section
variable {X : Cx} {W : WX} {pos : Pos} {e : Expr} {st : Stmt} {rest a b : List Stmt} {t : Rd Tr} {c : Rd Bool} {u v : Sr} {K : PySem.W.Frag}
theorem EndsOk.nxt {S : Gh} {H : Hp} {D : Ends} {F : Fin} (h : EndsOk K W S H D F) {u : Sr} : EndsOk K W S H { D with nx := liftS K W u D } { F with nx := u.f F } :=
  ⟨fun ρ M S' σ H' l o s q => ⟨ρ, M, S', F, o, s, h.mono l, q⟩, h.rt, h.bk, h.ct, h.er⟩
theorem pds_nil : PDSs X W [] sNil := pss_imp pss_nil fun D σ H h => by
  obtain ⟨ρ, M, S, F, o, s, en, q⟩ := h
  exact en.nx ρ M S σ H (Gr.refl S H) o s q
theorem pds_cons (h1 : PDS X W st u) (h2 : PDSs X W rest v) : PDSs X W (st :: rest) (sSeq u v) := pss_imp (pss_cons h1 h2) fun D σ H h => by
  obtain ⟨ρ, M, S, F, o, s, en, q⟩ := h
  exact ⟨ρ, M, S, { F with nx := v.f F }, o, s, en.nxt, q⟩
theorem pds_one (h1 : PDS X W st u) : PDSs X W [st] u := pss_one h1
theorem pds_pass : PDS X W (.Pass pos) sNil := ps_imp ps_pass fun D σ H h => by
  obtain ⟨ρ, M, S, F, o, s, en, q⟩ := h
  exact en.nx ρ M S σ H (Gr.refl S H) o s q
theorem pds_break : PDS X W (.Break pos) sBrk := ps_imp ps_break fun D σ H h => by
  obtain ⟨ρ, M, S, F, o, s, en, q⟩ := h
  exact en.bk ρ M S σ H (Gr.refl S H) o s q
theorem pds_continue : PDS X W (.Continue pos) sCont := ps_imp ps_continue fun D σ H h => by
  obtain ⟨ρ, M, S, F, o, s, en, q⟩ := h
  exact en.ct ρ M S σ H (Gr.refl S H) o s q
theorem pds_doc {x j pos'} : PDS X W (.Expr (.Constant (.str x) j pos) pos') sNil := ps_imp ps_doc fun D σ H h => by
  obtain ⟨ρ, M, S, F, o, s, en, q⟩ := h
  exact en.nx ρ M S σ H (Gr.refl S H) o s q
theorem pds_expr (he : PD X W e t) (hs : swapsWith e none pos.line X.env = pure false := by rfl) : PDS X W (.Expr e pos) (sDrop t) := ps_imp (ps_expr he hs) fun D σ H h => by
  obtain ⟨ρ, M, S, F, o, s, en, q⟩ := h
  exact ⟨ρ, M, S, F.er ρ, o, s, en.err s, t.mono (fun d M1 q1 v H1 S1 l1 o1 r1 => en.nx ρ M1 S1 σ H1 l1 o1 (s.mono l1.le) q1) (fun _ _ z => z) q⟩
theorem pds_ret (he : PD X W e t) : PDS X W (.Return (some e) pos) (sRet t) := ps_imp (ps_ret he) fun D σ H h => by
  obtain ⟨ρ, M, S, F, o, s, en, q⟩ := h
  exact ⟨ρ, M, S, F.er ρ, o, s, en.err s, t.mono (fun d M1 q1 v H1 S1 l1 o1 r1 => en.rt d M1 S1 v H1 l1 o1 r1 q1) (fun _ _ z => z) q⟩
theorem pds_retN : PDS X W (.Return none pos) sRetN := ps_imp ps_retN fun D σ H h => by
  obtain ⟨ρ, M, S, F, o, s, en, q⟩ := h
  exact en.rt .non M S .non H (Gr.refl S H) o rep_non q
theorem pds_if {c' : Expr} (hc : PDT X W c' c) (ha : PDSs X W a u) (hb : PDSs X W b v) : PDS X W (.If c' a b pos) (sIf c u v) := ps_imp (ps_if hc ha hb) fun D σ H h => by
  obtain ⟨ρ, M, S, F, o, s, en, q⟩ := h
  refine ⟨ρ, M, S, F.er ρ, o, s, en.err s, c.mono (fun d M1 q1 H1 S1 l1 o1 => ?_) (fun _ _ z => z) q⟩
  cases d with
  | true => exact ⟨ρ, M1, S1, F, o1, s.mono l1.le, en.mono l1, q1⟩
  | false => exact ⟨ρ, M1, S1, F, o1, s.mono l1.le, en.mono l1, q1⟩
theorem lift_asg {g : Tg} {D : Ends} {σ : L2.St} {H : Hp} (h : liftS K W (sAsg g t) D σ H) : tAsg (liftE K W t) (gTg K g) D σ H := by
  obtain ⟨ρ, M, S, F, o, s, en, q⟩ := h
  refine ⟨ρ, M, S, F.er ρ, o, s, en.err s, t.mono (fun d M1 q1 v H1 S1 l1 o1 r1 => ?_) (fun _ _ z => z) q⟩
  obtain ⟨ρ', hz, q2⟩ := onSome_of q1
  exact setTg_ok o1 g d v ρ ρ' σ D.nx (s.mono l1.le) r1 hz fun σ' s' _ => en.nx ρ' M1 S1 σ' H1 l1 o1 s' q2
theorem pds_asg {tg : Expr} {g : Tg} (he : PD X W e t) (hg : PDG X tg g) (hs : swapsWithSole [tg] e pos.line X.env = pure false := by rfl) (hw : swappedStores [tg] e X.env = pure none := by rfl)
    (h1 : (assignEach [tg] X.env).map (·.2) = [assign tg X.env] := by rfl) : PDS X W (.Assign [tg] e pos) (sAsg g t) := ps_imp (ps_asg he hg hs hw h1) fun _ _ _ => lift_asg
theorem pds_set {i : Nat} {x : Str} {pos' : Pos} (hN : X.N.Nodup) (hi : X.N[i]? = some x) (hx : Loc X.env.scope x) (he : PD X W e t) (hs : swapsWith e (some (.Name x pos')) pos.line X.env = pure false := by rfl) (hf : X.fn x = true ∨ X.env.scope.names.lookup x = some .local := by first | exact .inl rfl | exact .inr rfl | assumption) :
    PDS X W (.Assign [.Name x pos'] e pos) (sAsg (.nm i) t) := ps_imp (ps_set hN hi hx he hs hf) fun D σ H h => by
  have := lift_asg (K := X.K) h
  simp only [gTg] at this
  exact this

/-! ### what is walked -/
/-- J walks the trees xs while the ghost lasts -/
structure WalksT (K : PySem.W.Frag) (J : It) (xs : List Tr) (S : Gh) (H0 : Hp) : Prop where
  go : ∀ (i : Nat) S2 M2 H, Le S S2 → OkH K S2 M2 H → i < xs.length → J.go i H
  yld : ∀ (i : Nat) S2 M2 H x H2, Le S S2 → OkH K S2 M2 H → i < xs.length → J.yld i H x H2 → ∃ S3 d, xs[i]? = some d ∧ Gr S2 H S3 H2 ∧ OkH K S3 M2 H2 ∧ Rep K S3 d x
  stop : ∀ S2 M2 H, Le S S2 → OkH K S2 M2 H → J.stop xs.length H
def liftI (K : PySem.W.Frag) (W : WX) (t : Rd (List Tr)) : TI := fun σ H R => ∃ ρ M S E, OkH K S M H ∧ Slots K S ρ σ ∧ ErrE K W S H σ E ∧ t.f ρ M (fun xs M' => ∀ J H' S', Gr S H S' H' → OkH K S' M' H' → WalksT K J xs S' H' → R J H') E
abbrev PDI (X : Cx) (W : WX) (tg iter : Expr) (t : Rd (List Tr)) : Prop := PI X tg iter (liftI X.K W t)
theorem pi_imp {tg iter : Expr} {w w' : TI} (p : PI X tg iter w) (h : ∀ σ H R, w' σ H R → w σ H R) : PI X tg iter w' := ⟨fun pins s σ H R I q => p.run pins s σ H R I (h σ H R q)⟩
/-- a list, a tuple, the script: what stands still -/
def fixed : Tr → Option (List Tr)
  | .lst xs => some xs
  | .tup xs => some xs
  | .scr ns => some (ns.map Tr.int)
  | _ => none
def dItems (t : Rd Tr) : Rd (List Tr) := ⟨fun ρ M Q E => t.f ρ M (fun d M1 => onSome (fixed d) fun xs => Q xs M1) E, fun h h' q => t.mono (fun d M1 => onSome_mono fun z => h z M1) h' q⟩
theorem walksL {a : Addr} {vs : List V} {xs : List Tr} {S : Gh} {H0 : Hp} (g : SqL K S.G a vs) (r : Reps K S xs vs) : WalksT K (Itl K a) xs S H0 where
  go := fun i S2 M2 H l o hi => by
    have := r.length
    exact ⟨vs, vs[i]'(by omega), o.sqL (l.sqL g), by simp [show i < vs.length by omega]⟩
  yld := fun i S2 M2 H x H2 l o hi y => by
    obtain ⟨rfl, y⟩ := y
    obtain ⟨d, e1, e2⟩ := r.get' (y vs (o.sqL (l.sqL g)))
    exact ⟨S2, d, e1, Gr.refl _ _, o, Rep.mono l _ _ e2⟩
  stop := fun S2 M2 H l o => ⟨vs, o.sqL (l.sqL g), by rw [r.length]; exact Nat.le_refl _⟩
theorem walksTu {a : Addr} {vs : List V} {xs : List Tr} {S : Gh} {H0 : Hp} (g : SqT K S.G a vs) (r : Reps K S xs vs) : WalksT K (Itt K a) xs S H0 where
  go := fun i S2 M2 H l o hi => by
    have := r.length
    exact ⟨vs, vs[i]'(by omega), o.sqT (l.sqT g), by simp [show i < vs.length by omega]⟩
  yld := fun i S2 M2 H x H2 l o hi y => by
    obtain ⟨rfl, y⟩ := y
    obtain ⟨d, e1, e2⟩ := r.get' (y vs (o.sqT (l.sqT g)))
    exact ⟨S2, d, e1, Gr.refl _ _, o, Rep.mono l _ _ e2⟩
  stop := fun S2 M2 H l o => ⟨vs, o.sqT (l.sqT g), by rw [r.length]; exact Nat.le_refl _⟩
end
end DL
end T_DL5
section T_DL6
set_option Elab.async false
set_option linter.all false
set_option maxRecDepth 100000
set_option maxHeartbeats 4000000
/-! DL6: what is walked (lists, tuples, texts, ranges, enumerate, zip); for, while, comprehensions. -/
namespace DL
open PySem PySem.Spec PyProof.Rows L2
section
variable {X : Cx} {W : WX} {pos : Pos} {tg l a b : Expr} {t : Rd Tr} {u : Rd (List Tr)} {K : PySem.W.Frag}
theorem pdi_items (hl : PD X W l t) : PDI X W tg l (dItems t) := by
  refine ⟨fun pins s σ H R I h => ?_⟩
  obtain ⟨ρ, M, S, E, o, sl, er, q⟩ := h
  have h1 : liftE X.K W t σ H fun x H1 => ∃ a, x = .ref a ∧ ((∃ xs, SqL X.K H1 a xs ∧ R (Itl X.K a) H1) ∨ ∃ xs, SqT X.K H1 a xs ∧ R (Itt X.K a) H1) := by
    refine ⟨ρ, M, S, E, o, sl, er, t.mono (fun d M1 q1 v H1 S1 l1 o1 r1 => ?_) (fun _ _ z => z) q⟩
    obtain ⟨xs, e, q2⟩ := onSome_of q1
    cases d with
    | lst ys =>
      cases e
      simp only [Rep] at r1
      obtain ⟨a, vs, rfl, g, rs⟩ := r1
      exact ⟨a, rfl, .inl ⟨vs, SqL.of (o1.sub _ _ g), q2 _ H1 S1 l1 o1 (walksL (SqL.of g) rs)⟩⟩
    | tup ys =>
      cases e
      simp only [Rep] at r1
      obtain ⟨a, vs, rfl, g, rs⟩ := r1
      exact ⟨a, rfl, .inr ⟨vs, o1.sqT g, q2 _ H1 S1 l1 o1 (walksTu g rs)⟩⟩
    | scr ns =>
      cases e
      simp only [Rep] at r1
      obtain ⟨a, rfl, g⟩ := r1
      exact ⟨a, rfl, .inl ⟨_, o1.sqL g, q2 _ H1 S1 l1 o1 (walksL g ((Reps.ints ns).mpr rfl))⟩⟩
    | _ => cases e
  refine thn (hl.run pins s σ H _ I h1) fun v s1 ⟨x, H1, I1, r1, q1⟩ => ?_
  obtain ⟨a, rfl, q1⟩ := q1
  cases r1
  rcases q1 with ⟨xs, hq, q1⟩ | ⟨xs, hq, q1⟩
  · obtain ⟨its, rv, p, hz⟩ := I1.list hq
    refine wpAny_pyIter_list p.isList ?_
    refine ⟨s1.heap.objs.size, [s1.heap.objs.size], _, _, H1, rfl, I1.kept (t' := s1.toks) fun b o e => Heap.get?_push_of_some _ e, turn_list a _, ⟨_, Heap.get?_push_size _ rfl, rfl, rfl⟩, fun b hb => ?_, q1⟩
    have e : b = s1.heap.objs.size := by simpa using hb
    subst e
    exact I1.fpOk (Nat.le_refl _) (I1.hok.fresh (Nat.le_refl _))
  · obtain ⟨its, rv, p, hz⟩ := I1.tuple hq
    refine wpAny_pyIter_tuple (show s1.heap.IsTuple a its.toArray from p) ?_
    refine ⟨s1.heap.objs.size, [s1.heap.objs.size], _, _, H1, rfl, I1.kept (t' := s1.toks) fun b o e => Heap.get?_push_of_some _ e, turn_tuple a _, ⟨_, Heap.get?_push_size _ rfl, rfl, rfl⟩, fun b hb => ?_, q1⟩
    have e : b = s1.heap.objs.size := by simpa using hb
    subst e
    exact I1.fpOk (Nat.le_refl _) (I1.hok.fresh (Nat.le_refl _))
/-- a text's signs -/
def signsT (z : Str) : List Tr := z.cps.toList.map fun c => Tr.str ⟨#[c]⟩
def dSigns (t : Rd Tr) : Rd (List Tr) := ⟨fun ρ M Q E => t.f ρ M (fun d M1 => match d with
  | .str z => Q (signsT z) M1
  | _ => False) E, fun h h' q => t.mono (fun d M1 z => by
    split at z
    · exact h _ _ z
    · exact z.elim) h' q⟩
theorem walksS {z : Str} {S : Gh} {H0 : Hp} : WalksT K (Its z) (signsT z) S H0 where
  go := fun i S2 M2 H l o hi => by
    show i < z.cps.size
    unfold signsT at hi
    rw [List.length_map, Array.length_toList] at hi
    exact hi
  yld := fun i S2 M2 H x H2 l o hi y => by
    obtain ⟨rfl, c, e, rfl⟩ := y
    refine ⟨S2, .str ⟨#[c]⟩, ?_, Gr.refl _ _, o, rep_str⟩
    unfold signsT
    rw [List.getElem?_map, Array.getElem?_toList, e]
    rfl
  stop := fun S2 M2 H l o => by
    show z.cps.size ≤ _
    unfold signsT
    simp
theorem pdi_str (hl : PD X W l t) : PDI X W tg l (dSigns t) := pi_imp (pi_str hl) fun σ H R h => by
  obtain ⟨ρ, M, S, E, o, sl, er, q⟩ := h
  refine ⟨ρ, M, S, E, o, sl, er, t.mono (fun d M1 q1 v H1 S1 l1 o1 r1 => ?_) (fun _ _ z => z) q⟩
  dsimp only at q1
  split at q1
  · simp only [Rep] at r1
    exact ⟨_, r1, q1 _ H1 S1 l1 o1 walksS⟩
  · exact q1.elim
/-- lo, lo + 1, .. n of them -/
def rangeT (lo : Int) (n : Nat) : List Tr := (List.range n).map fun (k : Nat) => Tr.int (lo + (k : Int))
def dRange1 (u : Rd (List Tr)) : Rd (List Tr) := ⟨fun ρ M Q E => u.f ρ M (fun ds M1 => match ds with
  | [.int j] => (-(2 ^ 62) ≤ j ∧ j < 2 ^ 62) ∧ Q (rangeT 0 j.toNat) M1
  | _ => False) E, fun h h' q => u.mono (fun ds M1 z => by
    split at z
    · exact ⟨z.1, h _ _ z.2⟩
    · exact z.elim) h' q⟩
def dRange2 (u : Rd (List Tr)) : Rd (List Tr) := ⟨fun ρ M Q E => u.f ρ M (fun ds M1 => match ds with
  | [.int i, .int j] => (-(2 ^ 62) ≤ i ∧ i < 2 ^ 62 ∧ -(2 ^ 62) ≤ j ∧ j < 2 ^ 62) ∧ Q (rangeT i (j - i).toNat) M1
  | _ => False) E, fun h h' q => u.mono (fun ds M1 z => by
    split at z
    · exact ⟨z.1, h _ _ z.2⟩
    · exact z.elim) h' q⟩
theorem walksR {lo : Int} {n : Nat} {S : Gh} {H0 : Hp} : WalksT K (Itr lo n) (rangeT lo n) S H0 where
  go := fun i S2 M2 H l o hi => by
    unfold rangeT at hi
    show i < n
    simpa using hi
  yld := fun i S2 M2 H x H2 l o hi y => by
    obtain ⟨rfl, rfl⟩ := y
    refine ⟨S2, .int (lo + i), ?_, Gr.refl _ _, o, rep_int⟩
    unfold rangeT at hi ⊢
    simp only [List.length_map, List.length_range] at hi
    simp [hi]
  stop := fun S2 M2 H l o => by
    show n ≤ _
    unfold rangeT
    simp
theorem pdi_range1 {p : Pos} (hg : Gl X "range") (hm : X.mg "range" = none) (ha : PDA X W [a] u) (hs : starEach [a] X.env = [(false, eval a X.env)] := by rfl) : PDI X W tg (.Call (.Name "range" p) [a] [] pos) (dRange1 u) := pi_imp (pi_range1 hg hm ha hs) fun σ H R h => by
  obtain ⟨ρ, M, S, E, o, sl, er, q⟩ := h
  refine ⟨ρ, M, S, E, o, sl, er, u.mono (fun ds M1 q1 vs H1 S1 l1 o1 r1 => ?_) (fun _ _ z => z) q⟩
  dsimp only at q1
  split at q1
  · obtain ⟨v, rfl, rv⟩ := reps1 r1
    simp only [Rep] at rv
    exact ⟨_, by rw [rv], q1.1.1, q1.1.2, q1.2 _ H1 S1 l1 o1 walksR⟩
  · exact q1.elim
theorem pdi_range2 {p : Pos} (hg : Gl X "range") (hm : X.mg "range" = none) (ha : PDA X W [a, b] u) (hs : starEach [a, b] X.env = [(false, eval a X.env), (false, eval b X.env)] := by rfl) (hs2 : starEach [b] X.env = [(false, eval b X.env)] := by rfl) :
    PDI X W tg (.Call (.Name "range" p) [a, b] [] pos) (dRange2 u) := pi_imp (pi_range2 hg hm ha hs hs2) fun σ H R h => by
  obtain ⟨ρ, M, S, E, o, sl, er, q⟩ := h
  refine ⟨ρ, M, S, E, o, sl, er, u.mono (fun ds M1 q1 vs H1 S1 l1 o1 r1 => ?_) (fun _ _ z => z) q⟩
  dsimp only at q1
  split at q1
  · obtain ⟨v, w, rfl, rv, rw'⟩ := reps2 r1
    simp only [Rep] at rv rw'
    exact ⟨_, _, by rw [rv, rw'], q1.1, q1.2 _ H1 S1 l1 o1 walksR⟩
  · exact q1.elim
/-- enumerate(a list) -/
def enumT : Nat → List Tr → List Tr
  | _, [] => []
  | n, x :: r => .tup [.int n, x] :: enumT (n + 1) r
theorem enumT_get : ∀ (xs : List Tr) (n i : Nat), (enumT n xs)[i]? = (xs[i]?).map fun x => Tr.tup [.int ((n + i : Nat) : Int), x]
  | [], n, i => by simp [enumT]
  | x :: r, n, 0 => by simp [enumT]
  | x :: r, n, i + 1 => by
    simp only [enumT, List.getElem?_cons_succ]
    rw [enumT_get r (n + 1) i, show n + 1 + i = n + (i + 1) by omega]
theorem enumT_len : ∀ (xs : List Tr) (n : Nat), (enumT n xs).length = xs.length
  | [], n => rfl
  | x :: r, n => by simp [enumT, enumT_len r]
def fixedL : Tr → Option (List Tr)
  | .lst xs => some xs
  | .scr ns => some (ns.map Tr.int)
  | _ => none
def dEnum (u : Rd (List Tr)) : Rd (List Tr) := ⟨fun ρ M Q E => u.f ρ M (fun ds M1 => match ds with
  | [d] => onSome (fixedL d) fun xs => Q (enumT 0 xs) M1
  | _ => False) E, fun h h' q => u.mono (fun ds M1 z => by
    split at z
    · exact onSome_mono (fun _ => h _ _) z
    · exact z.elim) h' q⟩
theorem fixedL_rep {S : Gh} {d : Tr} {v : V} {xs : List Tr} (r : Rep K S d v) (e : fixedL d = some xs) : ∃ a vs, v = .ref a ∧ SqL K S.G a vs ∧ Reps K S xs vs := by
  cases d with
  | lst ys =>
    cases e
    simp only [Rep] at r
    obtain ⟨a, vs, rfl, g, rs⟩ := r
    exact ⟨a, vs, rfl, SqL.of g, rs⟩
  | scr ns =>
    cases e
    simp only [Rep] at r
    obtain ⟨a, rfl, g⟩ := r
    exact ⟨a, _, rfl, g, (Reps.ints ns).mpr rfl⟩
  | _ => cases e
theorem walksE {a : Addr} {vs : List V} {xs : List Tr} {S : Gh} {H0 : Hp} (g : SqL K S.G a vs) (r : Reps K S xs vs) : WalksT K (Ite K a) (enumT 0 xs) S H0 where
  go := fun i S2 M2 H l o hi => by
    have := r.length
    rw [enumT_len] at hi
    exact ⟨vs, vs[i]'(by omega), o.sqL (l.sqL g), by simp [show i < vs.length by omega]⟩
  yld := fun i S2 M2 H x H2 l o hi y => by
    obtain ⟨T, w, rfl, n, rfl, y⟩ := y
    obtain ⟨d, e1, e2⟩ := r.get' (y vs (o.sqL (l.sqL g)))
    obtain ⟨S3, l3, o3, r3⟩ := new_tup (ds := [.int (i : Nat), d]) (vs := [.int (i : Nat), w]) o (Reps.cons rep_int (Reps.cons (Rep.mono l _ _ e2) Reps.nil)) n
    exact ⟨S3, _, by rw [enumT_get, e1, Nat.zero_add]; rfl, l3, o3, r3⟩
  stop := fun S2 M2 H l o => ⟨vs, o.sqL (l.sqL g), by rw [enumT_len, r.length]; exact Nat.le_refl _⟩
theorem pdi_enum {p tpos : Pos} {elts : List Expr} {kk : Nat} (hg : Gl X "enumerate") (hm : X.mg "enumerate" = none) (ha : PDA X W [a] u) (hs : starEach [a] X.env = [(false, eval a X.env)] := by rfl) :
    PDI X W (.Tuple elts kk tpos) (.Call (.Name "enumerate" p) [a] [] pos) (dEnum u) := pi_imp (pi_enum hg hm ha hs) fun σ H R h => by
  obtain ⟨ρ, M, S, E, o, sl, er, q⟩ := h
  refine ⟨ρ, M, S, E, o, sl, er, u.mono (fun ds M1 q1 vs H1 S1 l1 o1 r1 => ?_) (fun _ _ z => z) q⟩
  dsimp only at q1
  split at q1
  · obtain ⟨xs, e, q2⟩ := onSome_of q1
    obtain ⟨v, rfl, rv⟩ := reps1 r1
    obtain ⟨a, ws, rfl, g, rs⟩ := fixedL_rep rv e
    exact ⟨a, ws, rfl, o1.sqL g, q2 _ H1 S1 l1 o1 (walksE g rs)⟩
  · exact q1.elim
/-- zip of two lists -/
def zipT : List Tr → List Tr → List Tr
  | x :: r, y :: s => .tup [x, y] :: zipT r s
  | _, _ => []
theorem zipT_get : ∀ (xs ys : List Tr) (i : Nat) (x y : Tr), xs[i]? = some x → ys[i]? = some y → (zipT xs ys)[i]? = some (.tup [x, y])
  | a :: r, b :: s, 0, x, y, h1, h2 => by simp at h1 h2; subst h1 h2; rfl
  | a :: r, b :: s, i + 1, x, y, h1, h2 => by
    simp only [zipT, List.getElem?_cons_succ] at h1 h2 ⊢
    exact zipT_get r s i x y h1 h2
  | [], _, _, _, _, h1, _ => by simp at h1
  | _ :: _, [], _, _, _, _, h2 => by simp at h2
theorem zipT_len : ∀ (xs ys : List Tr), (zipT xs ys).length = min xs.length ys.length
  | [], ys => by simp [zipT]
  | x :: r, [] => by simp [zipT]
  | x :: r, y :: s => by simp [zipT, zipT_len r s]
def dZip (u : Rd (List Tr)) : Rd (List Tr) := ⟨fun ρ M Q E => u.f ρ M (fun ds M1 => match ds with
  | [d, e] => onSome (fixedL d) fun xs => onSome (fixedL e) fun ys => Q (zipT xs ys) M1
  | _ => False) E, fun h h' q => u.mono (fun ds M1 z => by
    split at z
    · exact onSome_mono (fun _ => onSome_mono fun _ => h _ _) z
    · exact z.elim) h' q⟩
theorem walksZ {a b : Addr} {vs ws : List V} {xs ys : List Tr} {S : Gh} {H0 : Hp} (g : SqL K S.G a vs) (r : Reps K S xs vs) (g' : SqL K S.G b ws) (r' : Reps K S ys ws) : WalksT K (Itz K a b) (zipT xs ys) S H0 where
  go := fun i S2 M2 H l o hi => by
    have h1 := r.length
    have h2 := r'.length
    rw [zipT_len] at hi
    exact ⟨vs, ws, vs[i]'(by omega), ws[i]'(by omega), o.sqL (l.sqL g), o.sqL (l.sqL g'), by simp [show i < vs.length by omega], by simp [show i < ws.length by omega]⟩
  yld := fun i S2 M2 H x H2 l o hi y => by
    obtain ⟨T, w, z, rfl, n, rfl, y1, y2⟩ := y
    obtain ⟨d, e1, e2⟩ := r.get' (y1 vs (o.sqL (l.sqL g)))
    obtain ⟨d', f1, f2⟩ := r'.get' (y2 ws (o.sqL (l.sqL g')))
    obtain ⟨S3, l3, o3, r3⟩ := new_tup (ds := [d, d']) (vs := [w, z]) o (Reps.cons (Rep.mono l _ _ e2) (Reps.cons (Rep.mono l _ _ f2) Reps.nil)) n
    exact ⟨S3, _, zipT_get xs ys i d d' e1 f1, l3, o3, r3⟩
  stop := fun S2 M2 H l o => ⟨vs, ws, o.sqL (l.sqL g), o.sqL (l.sqL g'), by rw [zipT_len, ← r.length, ← r'.length]; omega⟩
theorem pdi_zip {p tpos : Pos} {elts : List Expr} {kk : Nat} (hg : Gl X "zip") (hm : X.mg "zip" = none) (ha : PDA X W [a, b] u) (hs : starEach [a, b] X.env = (false, eval a X.env) :: starEach [b] X.env := by rfl) (hpl : (backTo pos (starEach [b] X.env)).any (·.1) = false := by rfl) :
    PDI X W (.Tuple elts kk tpos) (.Call (.Name "zip" p) [a, b] [] pos) (dZip u) := pi_imp (pi_zip hg hm ha hs hpl) fun σ H R h => by
  obtain ⟨ρ, M, S, E, o, sl, er, q⟩ := h
  refine ⟨ρ, M, S, E, o, sl, er, u.mono (fun ds M1 q1 vs H1 S1 l1 o1 r1 => ?_) (fun _ _ z => z) q⟩
  dsimp only at q1
  split at q1
  · obtain ⟨xs, e, q2⟩ := onSome_of q1
    obtain ⟨ys, e', q3⟩ := onSome_of q2
    obtain ⟨v, v', rfl, rv, rv'⟩ := reps2 r1
    obtain ⟨a, ws, rfl, g, rs⟩ := fixedL_rep rv e
    obtain ⟨b, ws', rfl, g', rs'⟩ := fixedL_rep rv' e'
    exact ⟨a, b, ws, ws', rfl, o1.sqL g, o1.sqL g', q3 _ H1 S1 l1 o1 (walksZ g rs g' rs')⟩
  · exact q1.elim

/-! ### for, while -/
def forT (g : Tg) (tb : Sr) : List Tr → Fin → En → Me → Prop
  | [], F, ρ, M => F.nx ρ M
  | x :: r, F, ρ, M => onSome (setTg g x ρ) fun ρ' => tb.f { F with nx := forT g tb r F, ct := forT g tb r F, bk := F.nx } ρ' M
theorem forT_mono {g : Tg} {tb : Sr} {F F' : Fin} (h : Fin.Le F F') : ∀ (xs : List Tr) (ρ : En) (M : Me), forT g tb xs F ρ M → forT g tb xs F' ρ M
  | [], ρ, M, q => h.nx _ _ q
  | x :: r, ρ, M, q => onSome_mono (fun ρ' => tb.mono (D := { F with nx := forT g tb r F, ct := forT g tb r F, bk := F.nx }) (D' := { F' with nx := forT g tb r F', ct := forT g tb r F', bk := F'.nx }) ⟨fun ρ M => forT_mono h r ρ M, h.rt, h.nx, fun ρ M => forT_mono h r ρ M, h.er⟩) q
def sFor (it : Rd (List Tr)) (g : Tg) (tb : Sr) : Sr := ⟨fun F ρ M => it.f ρ M (fun xs M1 => forT g tb xs F ρ M1) (F.er ρ), fun h q => it.mono (fun xs M z => forT_mono h xs _ M z) (fun d M z => h.er _ d M z) q⟩
theorem pds_for {iter : Expr} {body : List Stmt} {it : Rd (List Tr)} {g : Tg} {tb : Sr} (hp : PassesOwn (model X.prog X.w) X.A X.env X.xe) (hc : X.calm = true) (hi : PDI X W tg iter it) (hg : PDG X tg g) (hb : PDSs X W body tb) (hf : ∀ x : Value, foldedSetIterable iter X.env x = pure x := by intro _; rfl) :
    PDS X W (.For tg iter body [] pos) (sFor it g tb) := ps_imp (ps_for hp hc hi hg hb hf) fun D σ H h => by
  obtain ⟨ρ, M, S, F, o, sl, en, q⟩ := h
  refine ⟨ρ, M, S, F.er ρ, o, sl, en.err sl, it.mono (fun xs M1 q1 J H1 S1 l1 o1 w => ?_) (fun _ _ z => z) q⟩
  refine ⟨fun i m σ' H' => m = xs.length - i ∧ i ≤ xs.length ∧ ∃ ρ' M' S', Gr S1 H1 S' H' ∧ OkH X.K S' M' H' ∧ Slots X.K S' ρ' σ' ∧ forT g tb (xs.drop i) F ρ' M', ⟨xs.length, by simp, Nat.zero_le _, ρ, M1, S1, Gr.refl _ _, o1, sl.mono l1.le, q1⟩, ?_⟩
  rintro i m σ' H' ⟨rfl, hi, ρ', M', S', l', o', s', q'⟩
  by_cases hlt : i < xs.length
  · right
    rw [List.drop_eq_getElem_cons hlt] at q'
    obtain ⟨ρ2, e2, q2⟩ := onSome_of q'
    refine ⟨w.go i S' M' H' l'.le o' hlt, fun σ H => ∃ ρ' M' S', Gr S1 H1 S' H ∧ OkH X.K S' M' H ∧ Slots X.K S' ρ' σ ∧ forT g tb (xs.drop (i + 1)) F ρ' M', fun σ4 H4 n4 => ⟨xs.length - (i + 1), by omega, rfl, hlt, n4⟩, fun x H2 y => ?_⟩
    obtain ⟨S3, d, e3, l3, o3, r3⟩ := w.yld i S' M' H' x H2 l'.le o' hlt y
    have ed : d = xs[i] := by
      rw [List.getElem?_eq_getElem hlt] at e3
      exact (Option.some.inj e3).symm
    subst ed
    refine setTg_ok o3 g _ x ρ' ρ2 σ' _ (s'.mono l3.le) r3 e2 fun σ5 s5 _ => ?_
    have L3 : Gr S1 H1 S3 H2 := l'.trans l3
    have nx : ∀ ρ6 M6 S6 σ6 H6, Gr S3 H2 S6 H6 → OkH X.K S6 M6 H6 → Slots X.K S6 ρ6 σ6 → forT g tb (xs.drop (i + 1)) F ρ6 M6 → ∃ ρ' M' S', Gr S1 H1 S' H6 ∧ OkH X.K S' M' H6 ∧ Slots X.K S' ρ' σ6 ∧ forT g tb (xs.drop (i + 1)) F ρ' M' :=
      fun ρ6 M6 S6 σ6 H6 l6 o6 s6 q6 => ⟨ρ6, M6, S6, L3.trans l6, o6, s6, q6⟩
    have en3 := (en.mono l1).mono L3
    exact ⟨ρ2, M', S3, { F with nx := forT g tb (xs.drop (i + 1)) F, ct := forT g tb (xs.drop (i + 1)) F, bk := F.nx }, o3, s5, ⟨nx, en3.rt, en3.nx, nx, en3.er⟩, q2⟩
  · left
    have ei : i = xs.length := by omega
    subst ei
    rw [List.drop_length] at q'
    exact ⟨w.stop S' M' H' l'.le o', en.nx ρ' M' S' σ' H' (l1.trans l') o' s' q'⟩
/-- at most n turns -/
def whileT (c : Rd Bool) (tb : Sr) : Nat → Fin → En → Me → Prop
  | 0, _, _, _ => False
  | n + 1, F, ρ, M => c.f ρ M (fun b M1 => if b = true then tb.f { F with nx := whileT c tb n F, ct := whileT c tb n F, bk := F.nx } ρ M1 else F.nx ρ M1) (F.er ρ)
theorem whileT_mono {c : Rd Bool} {tb : Sr} {F F' : Fin} (h : Fin.Le F F') : ∀ (n : Nat) (ρ : En) (M : Me), whileT c tb n F ρ M → whileT c tb n F' ρ M
  | 0, _, _, q => q.elim
  | n + 1, ρ, M, q => c.mono (fun b M1 z => by
    by_cases hb : b = true
    · rw [if_pos hb] at z ⊢; exact tb.mono (D := { F with nx := whileT c tb n F, ct := whileT c tb n F, bk := F.nx }) (D' := { F' with nx := whileT c tb n F', ct := whileT c tb n F', bk := F'.nx }) ⟨fun ρ M => whileT_mono h n ρ M, h.rt, h.nx, fun ρ M => whileT_mono h n ρ M, h.er⟩ z
    · rw [if_neg hb] at z ⊢; exact h.nx _ _ z) (fun d M z => h.er _ d M z) q
def sWhile (c : Rd Bool) (tb : Sr) : Sr := ⟨fun F ρ M => ∃ n, whileT c tb n F ρ M, fun h ⟨n, q⟩ => ⟨n, whileT_mono h n _ _ q⟩⟩
theorem pds_while {ce : Expr} {body : List Stmt} {c : Rd Bool} {tb : Sr} (hp : PassesOwn (model X.prog X.w) X.A X.env X.xe) (hc : PDT X W ce c) (hb : PDSs X W body tb) : PDS X W (.While ce body [] pos) (sWhile c tb) := ps_imp (ps_while hp hc hb) fun D σ H h => by
  obtain ⟨ρ, M, S, F, o, sl, en, n, q⟩ := h
  refine ⟨fun m σ' H' => ∃ ρ' M' S', Gr S H S' H' ∧ OkH X.K S' M' H' ∧ Slots X.K S' ρ' σ' ∧ whileT c tb m F ρ' M', ⟨n, ρ, M, S, Gr.refl _ _, o, sl, q⟩, ?_⟩
  rintro m σ' H' ⟨ρ', M', S', l', o', s', q'⟩
  cases m with
  | zero => exact q'.elim
  | succ m =>
    have en' := en.mono l'
    refine ⟨ρ', M', S', F.er ρ', o', s', en'.err s', c.mono (fun b M1 q1 H1 S1 l1 o1 => ?_) (fun _ _ z => z) q'⟩
    cases b with
    | true =>
      rw [if_pos rfl] at q1 ⊢
      refine ⟨fun σ H2 => ∃ ρ' M' S', Gr S H S' H2 ∧ OkH X.K S' M' H2 ∧ Slots X.K S' ρ' σ ∧ whileT c tb m F ρ' M', fun σ4 H4 n4 => ⟨m, Nat.lt_succ_self m, n4⟩, ?_⟩
      have L1 : Gr S H S1 H1 := l'.trans l1
      have nx : ∀ ρ6 M6 S6 σ6 H6, Gr S1 H1 S6 H6 → OkH X.K S6 M6 H6 → Slots X.K S6 ρ6 σ6 → whileT c tb m F ρ6 M6 → ∃ ρ' M' S', Gr S H S' H6 ∧ OkH X.K S' M' H6 ∧ Slots X.K S' ρ' σ6 ∧ whileT c tb m F ρ' M' :=
        fun ρ6 M6 S6 σ6 H6 l6 o6 s6 q6 => ⟨ρ6, M6, S6, L1.trans l6, o6, s6, q6⟩
      have en3 := en.mono L1
      exact ⟨ρ', M1, S1, { F with nx := whileT c tb m F, ct := whileT c tb m F, bk := F.nx }, o1, s'.mono l1.le, ⟨nx, en3.rt, en3.nx, nx, en3.er⟩, q1⟩
    | false =>
      rw [if_neg Bool.false_ne_true] at q1 ⊢
      exact en'.nx ρ' M1 S1 σ' H1 l1 o1 (s'.mono l1.le) q1

/-! ### comprehensions -/
abbrev W0 : WX := fun _ _ _ _ => False
def compT (g : Tg) (tt : Rd Bool) (te : Rd Tr) (ρ : En) : List Tr → List Tr → Me → (List Tr → Me → Prop) → Prop
  | [], acc, M, Q => Q acc M
  | x :: r, acc, M, Q => onSome (setTg g x ρ) fun ρ' => tt.f ρ' M (fun b M1 => if b = true then te.f ρ' M1 (fun y M2 => acc.length < big ∧ compT g tt te ρ r (acc ++ [y]) M2 Q) (fun _ _ => False) else compT g tt te ρ r acc M1 Q) fun _ _ => False
theorem compT_mono {g : Tg} {tt : Rd Bool} {te : Rd Tr} {ρ : En} {Q Q' : List Tr → Me → Prop} (h : ∀ ds M, Q ds M → Q' ds M) : ∀ (xs acc : List Tr) (M : Me), compT g tt te ρ xs acc M Q → compT g tt te ρ xs acc M Q'
  | [], acc, M, q => h _ _ q
  | x :: r, acc, M, q => onSome_mono (fun ρ' => tt.mono (fun b M1 z => by
    by_cases hb : b = true
    · rw [if_pos hb] at z ⊢
      exact te.mono (fun y M2 z2 => ⟨z2.1, compT_mono h r _ M2 z2.2⟩) (fun _ _ z => z) z
    · rw [if_neg hb] at z ⊢
      exact compT_mono h r _ M1 z) fun _ _ z => z) q
def dTrue : Rd Bool := ⟨fun _ M Q _ => Q true M, fun h _ q => h _ _ q⟩
abbrev PDTs (X : Cx) (W : WX) (ifs : List Expr) (t : Rd Bool) : Prop := PTs X ifs (liftT X.K W t)
theorem pts_imp {ifs : List Expr} {t t' : TT} (p : PTs X ifs t) (h : ∀ σ H Q, t' σ H Q → t σ H Q) : PTs X ifs t' := ⟨fun pins s σ H Q I q => p.run pins s σ H Q I (h σ H Q q)⟩
theorem pdts_nil : PDTs X W [] dTrue := pts_imp pts_nil fun σ H Q h => by
  obtain ⟨ρ, M, S, E, o, sl, er, q⟩ := h
  exact q H S (Gr.refl S H) o
theorem pdts_one {c : Expr} {t : Rd Bool} (h : PDT X W c t) : PDTs X W [c] t := pts_one h
/-- [elt for target in iter if ..] -/
def dLc (vs : List Nat) (it : Rd (List Tr)) (g : Tg) (tt : Rd Bool) (te : Rd Tr) : Rd Tr := ⟨fun ρ M Q E => it.f ρ M (fun xs M1 => compT g tt te (wipeE ρ vs) xs [] M1 fun ds M2 => Q (.lst ds) M2) E,
  fun h h' q => it.mono (fun xs M z => compT_mono (fun ds M2 => h _ M2) xs _ M z) h' q⟩
theorem err0 {S : Gh} {H : Hp} {σ : L2.St} : ErrE K W0 S H σ fun _ _ => False := fun _ _ _ _ _ _ _ _ _ z => z.elim
theorem lift_lc {vs : List Nat} {it : Rd (List Tr)} {g : Tg} {tt : Rd Bool} {te : Rd Tr} (hg : ∀ i ∈ g.ids, i ∈ vs) {σ : L2.St} {H : Hp} {Q : VK} (h : liftE K W (dLc vs it g tt te) σ H Q) :
    tLc (liftI K W it) (gTg K g) (liftT K W0 tt) (liftE K W0 te) vs σ H Q := by
  obtain ⟨ρ, M, S, E, o, sl, er, q⟩ := h
  refine ⟨ρ, M, S, E, o, sl, er, it.mono (fun xs M1 q1 J H1 S1 l1 o1 w => ?_) (fun _ _ z => z) q⟩
  intro D nD
  obtain ⟨gD, cD⟩ := o1.fresh nD
  have same1 : Gr S1 H1 S1 (upd H1 D (.lst [])) := Gr.same (same_upd nD)
  refine ⟨fun i m H' => m = xs.length - i ∧ i ≤ xs.length ∧ ∃ acc accV M' S', Gr S1 H1 S' H' ∧ OkH K S' M' H' ∧ H' D = some (.lst accV) ∧ S'.G D = none ∧ D ∉ S'.C ∧ Reps K S' acc accV ∧ compT g tt te (wipeE ρ vs) (xs.drop i) acc M' (fun ds M' => ∀ v H' S', Gr S H S' H' → OkH K S' M' H' → Rep K S' (.lst ds) v → Q v H'),
    ⟨xs.length, by simp, Nat.zero_le _, [], [], M1, S1, same1, o1.same (same_upd nD), upd_same, gD, cD, Reps.nil, q1⟩, ?_⟩
  rintro i m H' ⟨rfl, hi, acc, accV, M', S', l', o', hD, gD', cD', ra, q'⟩
  by_cases hlt : i < xs.length
  · right
    rw [List.drop_eq_getElem_cons hlt] at q'
    obtain ⟨ρ2, e2, q2⟩ := onSome_of q'
    refine ⟨w.go i S' M' H' l'.le o' hlt, fun H' => ∃ acc accV M' S', Gr S1 H1 S' H' ∧ OkH K S' M' H' ∧ H' D = some (.lst accV) ∧ S'.G D = none ∧ D ∉ S'.C ∧ Reps K S' acc accV ∧ compT g tt te (wipeE ρ vs) (xs.drop (i + 1)) acc M' (fun ds M' => ∀ v H' S', Gr S H S' H' → OkH K S' M' H' → Rep K S' (.lst ds) v → Q v H'),
      fun H4 n4 => ⟨xs.length - (i + 1), by omega, rfl, hlt, n4⟩, fun x H2 y => ?_⟩
    obtain ⟨S3, d, e3, l3, o3, r3⟩ := w.yld i S' M' H' x H2 l'.le o' hlt y
    have ed : d = xs[i] := by
      rw [List.getElem?_eq_getElem hlt] at e3
      exact (Option.some.inj e3).symm
    subst ed
    -- D through a growth
    have thr : ∀ {S4 H4}, Gr S' H' S4 H4 → H4 D = some (.lst accV) ∧ S4.G D = none ∧ D ∉ S4.C := by
      intro S4 H4 l4
      refine ⟨l4.keepN hD cD', ?_, fun z => ?_⟩
      · cases e : S4.G D with
        | none => rfl
        | some u =>
          rcases l4.fz D gD' (by rw [e]; exact fun z => by cases z) with h | h
          · exact (h.no hD trivial).elim
          · exact absurd h cD'
      · exact (l4.new D z cD').no hD
    have s3 : Slots K S3 (wipeE ρ vs) (wipe σ vs) := (sl.mono ((l1.trans l').trans l3).le).wipe
    refine setTg_ok o3 g _ x (wipeE ρ vs) ρ2 (wipe σ vs) _ s3 r3 e2 fun σ5 s5 w5 => ⟨?_, ?_⟩
    · rw [w5 vs hg]
      have idem : ∀ ws : List Nat, (∀ i ∈ ws, i ∈ vs) → wipe (wipe σ vs) ws = wipe σ vs := by
        intro ws
        induction ws with
        | nil => intro _; rfl
        | cons j r ih =>
          intro hj
          show (wipe (wipe σ vs) r).set j none = wipe σ vs
          rw [ih fun i hi => hj i (List.mem_cons_of_mem _ hi)]
          have hjv := hj j List.mem_cons_self
          clear ih hj w5 s5 s3 q2 e2
          show (wipe σ vs).set j none = wipe σ vs
          have : ∀ us : List Nat, j ∈ us → (wipe σ us).set j none = wipe σ us := by
            intro us hu
            induction us with
            | nil => simp at hu
            | cons b r ih2 =>
              show ((wipe σ r).set b none).set j none = (wipe σ r).set b none
              by_cases hb : b = j
              · subst hb; rw [List.set_set]
              · rw [List.set_comm _ _ hb, ih2 (by rcases List.mem_cons.mp hu with e | e; exact absurd e.symm hb; exact e)]
          exact this vs hjv
      exact idem vs fun _ h => h
    · refine ⟨ρ2, M', S3, fun _ _ => False, o3, s5, err0, tt.mono (fun b M4 q4 H4 S4 l4 o4 => ?_) (fun _ _ z => z) q2⟩
      cases b with
      | true =>
        rw [if_pos rfl] at q4 ⊢
        refine ⟨ρ2, M4, S4, fun _ _ => False, o4, s5.mono l4.le, err0, te.mono (fun yy M5 q5 v5 H5 S5 l5 o5 r5 => ?_) (fun _ _ z => z) q4⟩
        have L5 : Gr S' H' S5 H5 := l3.trans (l4.trans l5)
        obtain ⟨d1, d2, d3⟩ := thr L5
        refine ⟨accV, d1, by rw [← ra.length, ← big_eq]; exact q5.1, acc ++ [yy], accV ++ [v5], M5, S5, ?_, o5.other d2 d3 (.inr ⟨_, d1, trivial⟩), upd_same, d2, d3, (Reps.mono L5.le _ _ ra).append (Reps.cons r5 Reps.nil), q5.2⟩
        have L := l'.trans L5
        refine ⟨L.le, L.new, fun a u e hn n => ?_, L.fz⟩
        have ha : a ≠ D := fun z => by rw [z, nD] at e; cases e
        rw [upd_ne ha]
        exact L.keep a u e hn n
      | false =>
        rw [if_neg Bool.false_ne_true] at q4 ⊢
        have L5 : Gr S' H' S4 H4 := l3.trans l4
        obtain ⟨d1, d2, d3⟩ := thr L5
        exact ⟨acc, accV, M4, S4, l'.trans L5, o4, d1, d2, d3, Reps.mono L5.le _ _ ra, q4⟩
  · left
    have ei : i = xs.length := by omega
    subst ei
    rw [List.drop_length] at q'
    refine ⟨w.stop S' M' H' l'.le o', ?_⟩
    obtain ⟨o6, l6⟩ := o'.take' gD' cD' hD
    have L := l1.trans l'
    have G6 : Gr S H ⟨upd S'.G D (.lst accV), S'.C⟩ H' := by
      refine ⟨L.le.trans l6, L.new, L.keep, fun a h1 h2 => ?_⟩
      by_cases ha : a = D
      · subst ha
        by_cases hc : a ∈ S.C
        · exact .inr hc
        · left
          exact l1.nx hc (NX.of nD)
      · rw [show (⟨upd S'.G D (.lst accV), S'.C⟩ : Gh).G a = S'.G a from upd_ne ha] at h2
        exact L.fz a h1 h2
    refine q' (.ref D) H' _ G6 o6 ?_
    simp only [Rep]
    exact ⟨D, accV, rfl, upd_same, Reps.mono l6 _ _ ra⟩
theorem pd_lc {elt iter : Expr} {ifs : List Expr} {scope : Scope} {own : List (Str × Nat)} {it : Rd (List Tr)} {g : Tg} {tt : Rd Bool} {te : Rd Tr} (hc : X.calm = true) (hN : X.N.Nodup) (hi : PDI X W tg iter it) (ok : BlkOk X.N X.env.scope scope own) (hgv : ∀ i ∈ g.ids, i ∈ own.map (·.2))
    (hg : ∀ (s : Shared) (H : Hp) (C : Addr) (cl : List (Str × Addr)) (fp : List Addr), PDG (X.blk s H scope (compEnvC scope cl C X.env) fp) tg g)
    (ht : ∀ (s : Shared) (H : Hp) (C : Addr) (cl : List (Str × Addr)) (fp : List Addr), PDTs (X.blk s H scope (compEnvC scope cl C X.env) fp) W0 ifs tt)
    (he : ∀ (s : Shared) (H : Hp) (C : Addr) (cl : List (Str × Addr)) (fp : List Addr), PD (X.blk s H scope (compEnvC scope cl C X.env) fp) W0 elt te) (hf : ∀ x : Value, foldedSetIterable iter X.env x = pure x := by intro _; rfl) :
    PD X W (.ListComp elt [⟨tg, iter, ifs, 0⟩] scope pos) (dLc (own.map (·.2)) it g tt te) := pe_imp (pe_lc hc hN hi ok hg ht he hf) fun _ _ _ => lift_lc hgv
end
end DL
end T_DL6
section T_DL7
set_option Elab.async false
set_option linter.all false
set_option maxRecDepth 100000
set_option maxHeartbeats 4000000
/-! DL7: defs by their promises over trees; calls; new instances; fields stored. -/
namespace DL
open PySem PySem.Spec PyProof.Rows L2

/-- what a def does: arguments, memory, wanted end, wanted error -/
structure Sf where
  f : List Tr → Me → TK → TK → Prop
  mono : ∀ {ds : List Tr} {M : Me} {Q Q' E E' : TK}, (∀ d M, Q d M → Q' d M) → (∀ d M, E d M → E' d M) → f ds M Q E → f ds M Q' E'
def liftF (K : PySem.W.Frag) (sp : Sf) (n : Nat) : Sp := fun vs H Q E => vs.length = n ∧ ∃ ds M S, OkH K S M H ∧ Reps K S ds vs ∧
  sp.f ds M (fun r M' => ∀ v H' S', Gr S H S' H' → OkH K S' M' H' → Rep K S' r v → Q v H') (fun e M' => ∀ cls dd H' S', Gr S H S' H' → OkH K S' M' H' → Exc K S' e cls dd → E cls dd H')

/-! ### cells below a place -/
mutual
def below (n : Nat) : Tr → Prop
  | .cell k => k < n
  | .lst xs => belows n xs
  | .tup xs => belows n xs
  | .dct _ xs => belows n xs
  | .dkf _ xs => belows n xs
  | .ins _ xs => belows n xs
  | .exc _ xs => belows n xs
  | _ => True
def belows (n : Nat) : List Tr → Prop
  | [] => True
  | d :: ds => below n d ∧ belows n ds
end
def belowC (n : Nat) : Ce → Prop
  | .dead => True
  | .lst xs => belows n xs
  | .dct _ xs => belows n xs
  | .ins _ xs => belows n xs
section
variable {K : PySem.W.Frag} {S : Gh}
mutual
theorem rep_below : ∀ (d : Tr) (v : V), Rep K S d v → below S.C.length d
  | .cell k, v, r => by
    simp only [Rep] at r
    obtain ⟨a, _, e⟩ := r
    simp only [below]
    exact (List.getElem?_eq_some_iff.mp e).1
  | .lst xs, v, r => by
    simp only [Rep] at r
    obtain ⟨a, vs, _, _, q⟩ := r
    simp only [below]
    exact reps_below xs vs q
  | .tup xs, v, r => by
    simp only [Rep] at r
    obtain ⟨a, vs, _, _, q⟩ := r
    simp only [below]
    exact reps_below xs vs q
  | .dct ks xs, v, r => by
    simp only [Rep] at r
    obtain ⟨a, vs, _, _, _, q⟩ := r
    simp only [below]
    exact reps_below xs _ q
  | .dkf ks xs, v, r => by
    simp only [Rep] at r
    obtain ⟨a, od, vs, _, _, _, q⟩ := r
    simp only [below]
    exact reps_below xs _ q
  | .ins c xs, v, r => by
    simp only [Rep] at r
    obtain ⟨a, dx, fs, _, _, _, q⟩ := r
    simp only [below]
    exact reps_below xs _ q
  | .exc c xs, v, r => by
    simp only [Rep] at r
    obtain ⟨_, _, ⟨_, _, q⟩ | ⟨_, _, _, rfl, _⟩⟩ := r
    · simp only [below]
      rcases q with ⟨_, _, rfl⟩ | ⟨_, fs, _, _, _, q, _⟩
      · simp only [belows]
      · exact reps_below xs _ q
    · simp only [below, belows, and_self]
  | .non, v, r => by simp only [below]
  | .bl _, v, r => by simp only [below]
  | .int _, v, r => by simp only [below]
  | .str _, v, r => by simp only [below]
  | .scr _, v, r => by simp only [below]
theorem reps_below : ∀ (ds : List Tr) (vs : List V), Reps K S ds vs → belows S.C.length ds
  | [], vs, r => by simp only [belows]
  | d :: ds, vs, r => by
    simp only [Reps] at r
    obtain ⟨v, t, rfl, h1, h2⟩ := r
    simp only [belows]
    exact ⟨rep_below d v h1, reps_below ds t h2⟩
end
mutual
theorem rep_take {n : Nat} : ∀ (d : Tr) (v : V), Rep K S d v → below n d → Rep K ⟨S.G, S.C.take n⟩ d v
  | .cell k, v, r, b => by
    simp only [Rep] at r ⊢
    simp only [below] at b
    obtain ⟨a, e1, e⟩ := r
    exact ⟨a, e1, by rw [List.getElem?_take_of_lt b]; exact e⟩
  | .lst xs, v, r, b => by
    simp only [Rep] at r ⊢
    simp only [below] at b
    obtain ⟨a, vs, e, g, q⟩ := r
    exact ⟨a, vs, e, g, reps_take xs vs q b⟩
  | .tup xs, v, r, b => by
    simp only [Rep] at r ⊢
    simp only [below] at b
    obtain ⟨a, vs, e, g, q⟩ := r
    exact ⟨a, vs, e, g, reps_take xs vs q b⟩
  | .dct ks xs, v, r, b => by
    simp only [Rep] at r ⊢
    simp only [below] at b
    obtain ⟨a, vs, e, g, k, q⟩ := r
    exact ⟨a, vs, e, g, k, reps_take xs _ q b⟩
  | .dkf ks xs, v, r, b => by
    simp only [Rep] at r ⊢
    simp only [below] at b
    obtain ⟨a, od, vs, e, g, k, q⟩ := r
    exact ⟨a, od, vs, e, g, k, reps_take xs _ q b⟩
  | .ins c xs, v, r, b => by
    simp only [Rep] at r ⊢
    simp only [below] at b
    obtain ⟨a, dx, fs, e, g, k, q⟩ := r
    exact ⟨a, dx, fs, e, g, k, reps_take xs _ q b⟩
  | .exc c xs, v, r, b => by
    simp only [Rep] at r ⊢
    simp only [below] at b
    obtain ⟨a, e, ⟨dd, g, q⟩ | q⟩ := r
    · refine ⟨a, e, .inl ⟨dd, g, ?_⟩⟩
      rcases q with q | ⟨d, fs, q1, q2, q3, q4⟩
      · exact .inl q
      · exact .inr ⟨d, fs, q1, q2, q3, reps_take xs _ q4.1 b, q4.2⟩
    · exact ⟨a, e, .inr q⟩
  | .non, v, r, b => by simp only [Rep] at r ⊢; exact r
  | .bl _, v, r, b => by simp only [Rep] at r ⊢; exact r
  | .int _, v, r, b => by simp only [Rep] at r ⊢; exact r
  | .str _, v, r, b => by simp only [Rep] at r ⊢; exact r
  | .scr _, v, r, b => by simp only [Rep] at r ⊢; exact r
theorem reps_take {n : Nat} : ∀ (ds : List Tr) (vs : List V), Reps K S ds vs → belows n ds → Reps K ⟨S.G, S.C.take n⟩ ds vs
  | [], vs, r, b => by simp only [Reps] at r ⊢; exact r
  | d :: ds, vs, r, b => by
    simp only [Reps] at r ⊢
    simp only [belows] at b
    obtain ⟨v, t, rfl, h1, h2⟩ := r
    exact ⟨v, t, rfl, rep_take d v h1 b.1, reps_take ds t h2 b.2⟩
end
theorem ceAt_take {H : Hp} {n : Nat} {a : Addr} {c : Ce} (h : CeAt K S H a c) (b : belowC n c) : CeAt K ⟨S.G, S.C.take n⟩ H a c := by
  cases c with
  | dead => exact h
  | lst ds => obtain ⟨g, vs, e, r⟩ := h; exact ⟨g, vs, e, reps_take _ _ r b⟩
  | dct ks ds => obtain ⟨g, vs, e, k, r⟩ := h; exact ⟨g, vs, e, k, reps_take _ _ r b⟩
  | ins c ds => obtain ⟨g, dx, vs, e, k, r⟩ := h; exact ⟨g, dx, vs, e, k, reps_take _ _ r b⟩
theorem ceAt_below {H : Hp} {a : Addr} {c : Ce} (h : CeAt K S H a c) : belowC S.C.length c := by
  cases c with
  | dead => trivial
  | lst ds => obtain ⟨g, vs, e, r⟩ := h; exact reps_below _ _ r
  | dct ks ds => obtain ⟨g, vs, e, k, r⟩ := h; exact reps_below _ _ r
  | ins c ds => obtain ⟨g, dx, vs, e, k, r⟩ := h; exact reps_below _ _ r
theorem okH_below {M : Me} {H : Hp} (o : OkH K S M H) : ∀ c ∈ M, belowC M.length c := by
  intro c hc
  obtain ⟨k, hk⟩ := List.mem_iff_getElem?.mp hc
  have hk2 : k < S.C.length := by rw [o.len]; exact (List.getElem?_eq_some_iff.mp hk).1
  have := ceAt_below (o.cell k S.C[k] c (by simp [hk2]) hk)
  rw [o.len] at this
  exact this
end
/-- the cells from n on may be dropped -/
def okDrop (n : Nat) (r : Tr) (M : Me) : Prop := below n r ∧ ∀ k c, k < n → M[k]? = some c → belowC n c
/-- a def's end: as it is, or with its own cells dropped -/
def endT (n0 : Nat) (r : Tr) (M : Me) (Q : Me → Prop) : Prop := Q M ∨ ∃ n, n0 ≤ n ∧ okDrop n r M ∧ Q (M.take n)
theorem endT_mono {n0 : Nat} {r : Tr} {M : Me} {Q Q' : Me → Prop} (h : ∀ M, Q M → Q' M) (q : endT n0 r M Q) : endT n0 r M Q' := by
  rcases q with q | ⟨n, a, b, q⟩
  · exact .inl (h _ q)
  · exact .inr ⟨n, a, b, h _ q⟩
def finF (n0 : Nat) (Q E : TK) : Fin where
  nx := fun _ M => endT n0 .non M fun M => Q .non M
  rt := fun r M => endT n0 r M fun M => Q r M
  er := fun _ e M => endT n0 e M fun M => E e M
def startE (N : List Str) (ds : List Tr) : En := ds.map some ++ List.replicate (N.length - ds.length) none
section
variable {P : Program} {w : World} {K : PySem.W.Frag} {mg : Str → Option Value} {base : Heap}
theorem slots_start {S : Gh} {N : List Str} {ds : List Tr} {vs : List V} (r : Reps K S ds vs) : Slots K S (startE N ds) (L2.start N vs) := by
  have hl := r.length
  refine ⟨by simp [startE, L2.start, hl], fun i d e => ?_⟩
  unfold startE at e
  by_cases hi : i < ds.length
  · rw [List.getElem?_append_left (by simpa using hi), List.getElem?_map] at e
    cases q : ds[i]? with
    | none => rw [q] at e; cases e
    | some d' =>
      rw [q] at e
      cases e
      obtain ⟨v, h1, h2⟩ := r.get q
      refine ⟨v, ?_, h2⟩
      unfold L2.start
      rw [List.getElem?_append_left (by simpa [← hl] using hi), List.getElem?_map, h1]
      rfl
  · rw [List.getElem?_append_right (by simpa using hi), List.getElem?_replicate] at e
    split at e <;> cases e
theorem drop_ok {S0 S : Gh} {H0 H : Hp} {n0 n : Nat} {M : Me} {r : Tr} (hn : n0 ≤ n) (h0 : S0.C.length = n0) (l : Gr S0 H0 S H) (o : OkH K S M H) (d : okDrop n r M) : Gr S0 H0 ⟨S.G, S.C.take n⟩ H ∧ OkH K ⟨S.G, S.C.take n⟩ (M.take n) H := by
  refine ⟨⟨⟨l.le.g, ?_⟩, fun a h1 h2 => l.new a (List.mem_of_mem_take h1) h2, l.keep, l.fz⟩, o.drop n fun k a c hk e1 e2 => ceAt_take (o.cell k a c e1 e2) (d.2 k c hk e2)⟩
  obtain ⟨t, ht⟩ := l.le.c
  show S0.C <+: S.C.take n
  rw [← ht, List.take_append, List.take_of_length_le (by omega)]
  exact List.prefix_append _ _
theorem exc_take {S : Gh} {n : Nat} {d : Tr} {cls : Value} {dd : Option Addr} (x : Exc K S d cls dd) (b : below n d) : Exc K ⟨S.G, S.C.take n⟩ d cls dd := by
  cases d with
  | exc c ds =>
    obtain ⟨h, h2⟩ := x
    simp only [below] at b
    rcases h2 with h2 | ⟨a, fs, h1, h2, h3, h4⟩
    · exact ⟨h, .inl h2⟩
    · exact ⟨h, .inr ⟨a, fs, h1, h2, h3, reps_take _ _ h4.1 b, h4.2⟩⟩
  | _ => exact x.elim
variable {x qual : Str} {params : Arguments} {body : List Stmt} {scope : Scope} {dvs : List V} {kws : List (Str × V)} {f : Addr} {fd : FuncData}
abbrev BX (P : Program) (w : World) (K : PySem.W.Frag) (mg : Str → Option Value) (base : Heap) (N : List Str) (qual : Str) (scope : Scope) (f : Addr) (cdv : Value) (A : Around) (outer : List Env) (s : Shared) (H : Hp) (E : XK) : Cx := cxOf (L2.CX P w) P w K mg base N qual scope f cdv A outer s H E
abbrev WB (E : XK) : WX := fun cls d _ H => E cls d H
theorem takes_b {N : List Str} {cdv : Value} {A : Around} {outer : List Env} {s : Shared} {H : Hp} {E : XK} : Takes (BX P w K mg base N qual scope f cdv A outer s H E) (WB E) := takes_of rfl rfl rfl rfl
/-- nothing is under repr; the dict of modules is none of what is tracked -/
def Gd (base : Heap) (A : Around) : Prop := A.guards = some [] ∧ ∃ o, base.get? sysModules = some o
/-- FnOk, where (g) nothing may be under repr -/
structure FnOkG (g : Bool) (P : Program) (w : World) (K : PySem.W.Frag) (mg : Str → Option Value) (base : Heap) (CX : CXT) (k : Nat) (f : Addr) (fd : FuncData) (ps : List Str) (sp : Sp) : Prop where
  len : ∀ vs H Q E, sp vs H Q E → vs.length = ps.length
  run : ∀ (A : Around) (outer : List Env) (s : Shared) (H : Hp) (args : Args) (us : List Value) (vs : List V) (Q : VK) (E : XK), Room k A → (g = true → Gd base A) → Env0 P w K mg base A outer s H → BindsTo s fd args (ps.zip us) → Vals vs us → sp vs H Q E →
    codeAny (model P w) A (.call (.ref f) args) (CR CX outer P w H s Q E) s
theorem FnOkG.ok {CX : CXT} {k : Nat} {ps : List Str} {sp : Sp} (F : FnOkG false P w K mg base CX k f fd ps sp) : FnOk P w K mg base CX k f fd ps sp :=
  ⟨F.len, fun A outer s H args us vs Q E hr => F.run A outer s H args us vs Q E hr (fun z => nomatch z)⟩
theorem FnOkG.mono {g g' : Bool} {CX : CXT} {j k : Nat} {ps : List Str} {sp : Sp} (F : FnOkG g P w K mg base CX j f fd ps sp) (h : j ≤ k) (hg : g = true → g' = true) : FnOkG g' P w K mg base CX k f fd ps sp :=
  ⟨F.len, fun A outer s H args us vs Q E hr hd => F.run A outer s H args us vs Q E (hr.mono h) fun z => hd (hg z)⟩
theorem fn_okG {g : Bool} {CX : CXT} {N ps : List Str} {k : Nat} {sp : Sp} (F : FunD K x qual params body scope dvs kws f fd) (Sc : FnScope N ps scope) (len : ∀ vs H Q E, sp vs H Q E → vs.length = ps.length)
    (hbody : ∀ (cdv : Value) (A : Around) (outer : List Env) (s : Shared) (H : Hp) (vs : List V) (Q : VK) (E : XK), Room k (A.deeper (envOfC qual scope s.heap.objs.size f cdv)) → (g = true → Gd base A) → sp vs H Q E →
      ∃ t, PSs (cxOf CX P w K mg base N qual scope f cdv A outer s H E) body t ∧ t { nx := fun _ H' => Q .non H', rt := Q } (L2.start N vs) H) : FnOkG g P w K mg base CX (k + 1) f fd ps sp := by
  obtain ⟨oc, od, dV, kV, doc, pm, an, cdv, ct, osl, rfl, lk, hcd, _, _⟩ := F.ex
  refine ⟨len, fun A outer s H args us vs Q E hr hgd e0 hb r hsp => ?_⟩
  have inn : ∀ b o, base.get? b = some o → s.heap.get? b = some o := fun b o e => (e0.bs b o e).1
  have KX : K.In s.heap := e0.mod.kin.keeps inn
  have hl := len _ _ _ _ hsp
  refine codeAny_call_function hr.depth (KX _ _ lk) rfl Sc.co Sc.gen rfl (PySem.W.codeRec_of KX hcd) (hb _ _ _ _ ?_)
  refine wpAny_newFunctionEnv_cells Sc.kind (fun y hy => ?_) fun env he s1 xx => ?_
  · obtain ⟨n, v⟩ := y
    exact (Sc.par n (List.of_mem_zip hy).1).elim .inl fun q => .inr ⟨q, PySem.W.cellsFrom_some _ _ _ (.inl q)⟩
  · subst he
    refine ⟨(e0.mod.nolimit.keeps inn).keeps xx.toInCall.keep, codeAny_func ?_⟩
    obtain ⟨t, ht, hq⟩ := hbody cdv A outer s H vs Q E (hr.deeper _) hgd hsp
    refine wpAny_mono (ht.run [] s1 (L2.start N vs) H _ (inv_start Sc hr.hd e0 hl r xx) hq) (fun fl s' hs => ?_) fun e s' hs => hs
    cases fl with
    | ret u => obtain ⟨v, σ', H', J, rv, q⟩ := hs; exact ⟨v, H', J.os, J.bare, J.base, J.hok, rv, q⟩
    | next => obtain ⟨σ', H', J, q⟩ := hs; exact ⟨.non, H', J.os, J.bare, J.base, J.hok, rfl, q⟩
    | brk => obtain ⟨_, _, _, q⟩ := hs; exact q.elim
    | cont => obtain ⟨_, _, _, q⟩ := hs; exact q.elim
/-- A DEF KEEPS ITS PROMISE: its body's reading t, run from every promise -/
theorem fn_mkG {g : Bool} {N ps : List Str} {k : Nat} {sp : Sf} {t : Sr} (F : FunD K x qual params body scope dvs kws f fd) (Sc : FnScope N ps scope)
    (hb : ∀ (cdv : Value) (A : Around) (outer : List Env) (s : Shared) (H : Hp) (E : XK), Room k (A.deeper (envOfC qual scope s.heap.objs.size f cdv)) → (g = true → Gd base A) → PDSs (BX P w K mg base N qual scope f cdv A outer s H E) (WB E) body t)
    (h : ∀ (ds : List Tr) (M : Me) (Q E : TK), ds.length = ps.length → belows M.length ds → (∀ c ∈ M, belowC M.length c) → sp.f ds M Q E → t.f (finF M.length Q E) (startE N ds) M) :
    FnOkG g P w K mg base (L2.CX P w) (k + 1) f fd ps (liftF K sp ps.length) := by
  refine fn_okG F Sc (fun vs H Q E q => q.1) (fun cdv A outer s H vs Q E hr hgd q => ?_)
  obtain ⟨hl, ds, M, S, o, r, q⟩ := q
  refine ⟨_, hb cdv A outer s H E hr hgd, ?_⟩
  have hb1 := reps_below _ _ r
  rw [o.len] at hb1
  have q2 := h ds M _ _ (by rw [r.length, hl]) hb1 (okH_below o) q
  refine ⟨startE N ds, M, S, _, o, slots_start r, ⟨?_, ?_, ?_, ?_, ?_⟩, q2⟩
  · intro ρ M' S' σ H' l o' s' q3
    rcases q3 with q3 | ⟨n, hn, hd, q3⟩
    · exact q3 .non H' S' l o' rep_non
    · obtain ⟨l2, o2⟩ := drop_ok hn o.len l o' hd
      exact q3 .non H' _ l2 o2 rep_non
  · intro d M' S' v H' l o' r' q3
    rcases q3 with q3 | ⟨n, hn, hd, q3⟩
    · exact q3 v H' S' l o' r'
    · obtain ⟨l2, o2⟩ := drop_ok hn o.len l o' hd
      exact q3 v H' _ l2 o2 (rep_take _ _ r' hd.1)
  · exact fun _ _ _ _ _ _ _ _ z => z.elim
  · exact fun _ _ _ _ _ _ _ _ z => z.elim
  · intro ρ d M' S' σ H' cls dd l o' s' x q3
    rcases q3 with q3 | ⟨n, hn, hd, q3⟩
    · exact q3 cls dd H' S' l o' x
    · obtain ⟨l2, o2⟩ := drop_ok hn o.len l o' hd
      exact q3 cls dd H' _ l2 o2 (exc_take x hd.1)
end

/-! ### calls -/
/-- the def x of the module keeps sp (level k, n parameters, the defaults dds fill up) -/
structure Fn (g : Bool) (P : Program) (w : World) (K : PySem.W.Frag) (mg : Str → Option Value) (base : Heap) (x : Str) (k n : Nat) (dds : List Tr) (sp : Sf) : Prop where
  ex : ∃ (f : Addr) (fd : FuncData) (ps : List Str) (ds : List Value) (dvs : List V), FnOkG g P w K mg base (L2.CX P w) k f fd ps (liftF K sp n) ∧ mg x = some (.ref f) ∧ PySem.W.keepIn K (.ref f) = true ∧ Binds K fd ps ds ∧ Vals dvs ds ∧ ∀ S, Reps K S dds dvs
def dFn (sp : Sf) (dds : List Tr) (n : Nat) (u : Rd (List Tr)) : Rd Tr := ⟨fun ρ M Q E => u.f ρ M (fun ds M1 => (ds ++ dds).length = n ∧ sp.f (ds ++ dds) M1 Q E) E, fun h h' q => u.mono (fun ds M1 z => ⟨z.1, sp.mono h h' z.2⟩) h' q⟩
section
variable {X : Cx} {W : WX} {x : Str} {k n : Nat} {dds : List Tr} {sp : Sf} {p pos : Pos} {e : Expr} {es : List Expr} {u : Rd (List Tr)}
theorem lift_fn {K : PySem.W.Frag} {dvs : List V} (hd : ∀ S, Reps K S dds dvs) {σ : L2.St} {H : Hp} {Q : VK} (h : liftE K W (dFn sp dds n u) σ H Q) : tCallSD (liftF K sp n) dvs (WE W) (liftA K W u) σ H Q := by
  obtain ⟨ρ, M, S, E, o, s, er, q⟩ := h
  refine ⟨ρ, M, S, E, o, s, er, u.mono (fun ds M1 q1 vs H1 S1 l1 o1 r1 => ?_) (fun _ _ z => z) q⟩
  have r2 := r1.append (hd S1)
  refine ⟨by rw [← r2.length]; exact q1.1, ds ++ dds, M1, S1, o1, r2, sp.mono (fun r M2 q2 v H2 S2 l2 o2 r2 => q2 v H2 S2 (l1.trans l2) o2 r2) (fun e M2 q2 cls dd H2 S2 l2 o2 x => er e M2 S2 H2 cls dd (l1.trans l2) o2 x q2) q1.2⟩
theorem run_fnG {CX : CXT} {g : Bool} {f : Addr} {fd : FuncData} {ps : List Str} {ds : List Value} {dvs vs : List V} {us : List Value} {sp : Sp} {E : L2.St → XK} {pins : List (Addr × Obj)} {σ : L2.St} {H : Hp} {s : Shared} {Q : VK} (F : FnOkG g X.prog X.w X.K X.mg X.base CX k f fd ps sp) (hr : Room k X.A)
    (hgd : g = true → Gd X.base X.A) (hb : Binds X.K fd ps ds) (hd : Vals dvs ds) (hx : PassesAt CX X σ (E σ)) (I : Inv X pins σ H s) (r : Vals vs us) (h : sp (vs ++ dvs) H Q (E σ)) : wpAny (model X.prog X.w) X.A (call (.ref f) us) (EP X pins σ Q) X.xe s := by
  have r2 := r.append hd
  have hl := F.len _ _ _ _ h
  rw [r2.length] at hl
  refine wpAny_call (codeAny_mono (F.run X.A X.stack s H ⟨us, []⟩ _ _ Q (E σ) hr hgd I.env0 (hb s us I.kIn hl) r2 h) fun q s' hq => ?_)
  match q, hq with
  | .error e, hq => exact hx pins H s e s' I hq
  | .ok (.ret u), hq => exact I.after hq
theorem pe_callG {CX : CXT} {g : Bool} {f : Addr} {fd : FuncData} {ps : List Str} {ds : List Value} {dvs : List V} {sp : Sp} {E : L2.St → XK} {t : TA} (F : FnOkG g X.prog X.w X.K X.mg X.base CX k f fd ps sp) (hr : Room k X.A) (hgd : g = true → Gd X.base X.A) (hg : Gl X x) (hm : X.mg x = some (.ref f))
    (hk : PySem.W.keepIn X.K (.ref f) = true) (hb : Binds X.K fd ps ds) (hd : Vals dvs ds) (hx : ∀ σ, PassesAt CX X σ (E σ)) (ha : PA X (e :: es) t) (hdb : (x == ("__debug__" : Str)) = false := by decide)
    (he : starEach (e :: es) X.env = (false, eval e X.env) :: starEach es X.env := by rfl) (hpl : (backTo pos (starEach es X.env)).any (·.1) = false := by rfl) : PE X (.Call (.Name x p) (e :: es) [] pos) (tCallSD sp dvs E t) :=
  ⟨fun pins s σ H Q I h => wpAny_Call_Name_kw (ld_glob I hg hm (PySem.W.callWith_K (h₀ := X.base) I.ok.mod.kin hk (thn (ha.run pos pins s σ H _ I h) fun us s1 ⟨vs, H1, I1, r, q⟩ => ⟨I1.kIn, run_fnG F hr hgd hb hd (hx σ) I1 r q⟩) he hpl) hdb)⟩
theorem pd_call {g : Bool} (tk : Takes X W) (F : Fn g X.prog X.w X.K X.mg X.base x k n dds sp) (hr : Room k X.A) (hgd : g = true → Gd X.base X.A) (hg : Gl X x) (ha : PDA X W (e :: es) u) (hdb : (x == ("__debug__" : Str)) = false := by decide)
    (he : starEach (e :: es) X.env = (false, eval e X.env) :: starEach es X.env := by rfl) (hpl : (backTo pos (starEach es X.env)).any (·.1) = false := by rfl) : PD X W (.Call (.Name x p) (e :: es) [] pos) (dFn sp dds n u) := by
  obtain ⟨f, fd, ps, ds, dvs, F1, hm, hk, hb, hd, hdd⟩ := F.ex
  exact pe_imp (pe_callG F1 hr hgd hg hm hk hb hd (fun σ => passAt tk σ) ha hdb he hpl) fun _ _ _ => lift_fn hdd

/-! ### new instances -/
/-- the class c of the module, its __init__ keeps sp (self ahead) -/
structure Mkr (P : Program) (w : World) (K : PySem.W.Frag) (mg : Str → Option Value) (base : Heap) (x : Str) (c k n : Nat) (dds : List Tr) (sp : Sf) : Prop where
  nm : x = cnm c
  ex : ∃ (f : Addr) (fd : FuncData) (ps : List Str) (ds : List Value) (dvs : List V), Mk K (He.ga K x) f ∧ FnOk P w K mg base (L2.CX P w) k f fd ps (liftF K sp (n + 1)) ∧ mg x = some (.ref (He.ga K x)) ∧ Binds K fd ps ds ∧ Vals dvs ds ∧ ∀ S, Reps K S dds dvs
/-- C(..), handed on as a tree -/
def dMk (c : Nat) (sp : Sf) (dds : List Tr) (n : Nat) (u : Rd (List Tr)) : Rd Tr := ⟨fun ρ M Q E => u.f ρ M (fun ds M1 => (ds ++ dds).length = n ∧ sp.f (.cell M1.length :: (ds ++ dds)) (M1 ++ [.ins c []])
  (fun r M2 => isNone r = true ∧ ∃ M3 fs, M2 = M3 ++ [.ins c fs] ∧ M3.length = M1.length ∧ fs.length = (cfs c).length ∧ belows M1.length fs ∧ (∀ ce ∈ M3, belowC M1.length ce) ∧ Q (.ins c fs) M3)
  (fun e M2 => E e M2)) E,
  fun h h' q => u.mono (fun ds M1 z => ⟨z.1, sp.mono (fun r M2 ⟨a, M3, fs, b1, b2, b3, b4, b5, b6⟩ => ⟨a, M3, fs, b1, b2, b3, b4, b5, h _ _ b6⟩) h' z.2⟩) h' q⟩
/-- C(..), a mutable object -/
def dMkC (c : Nat) (sp : Sf) (dds : List Tr) (n : Nat) (u : Rd (List Tr)) : Rd Tr := ⟨fun ρ M Q E => u.f ρ M (fun ds M1 => (ds ++ dds).length = n ∧ sp.f (.cell M1.length :: (ds ++ dds)) (M1 ++ [.ins c []]) (fun r M2 => isNone r = true ∧ Q (.cell M1.length) M2) E) E,
  fun h h' q => u.mono (fun ds M1 z => ⟨z.1, sp.mono (fun r M2 ⟨a, b⟩ => ⟨a, h _ _ b⟩) h' z.2⟩) h' q⟩
theorem new_ins {K : PySem.W.Frag} {S : Gh} {M : Me} {H : Hp} {c : Nat} {x dx : Addr} (o : OkH K S M H) (nx : H x = none) (nd : H dx = none) (ne : dx ≠ x) :
    ∃ S', Gr S H S' (upd (upd H dx (.own x)) x (.ins (He.ga K (cnm c)) dx [])) ∧ OkH K S' (M ++ [.ins c []]) (upd (upd H dx (.own x)) x (.ins (He.ga K (cnm c)) dx [])) ∧ Rep K S' (.cell M.length) (.ref x) ∧ S' = ⟨S.G, S.C ++ [x]⟩ := by
  have o1 : OkH K S M (upd H dx (.own x)) := o.same (same_upd nd)
  have nx1 : upd H dx (.own x) x = none := by rw [upd_ne ne.symm]; exact nx
  obtain ⟨o2, l⟩ := o1.newCell (o := .ins (He.ga K (cnm c)) dx []) (c := .ins c []) nx1 ⟨(o1.fresh nx1).1, dx, [], upd_same, by simp, Reps.nil⟩
  refine ⟨_, (Gr.same (same_upd nd)).trans (gr_newCell l nx1), o2, ?_, rfl⟩
  simp only [Rep]
  exact ⟨x, rfl, by rw [show M.length = S.C.length from o.len.symm]; simp⟩
theorem pd_mk (tk : Takes X W) {c : Nat} (F : Mkr X.prog X.w X.K X.mg X.base x c k n dds sp) (hr : Room (k + 1) X.A) (hg : Gl X x) (ha : PDA X W (e :: es) u) (hW : ∀ cls d σ σ' H, W cls d σ H → W cls d σ' H) (hdb : (x == ("__debug__" : Str)) = false := by decide)
    (he : starEach (e :: es) X.env = (false, eval e X.env) :: starEach es X.env := by rfl) (hpl : (backTo pos (starEach es X.env)).any (·.1) = false := by rfl) : PD X W (.Call (.Name x p) (e :: es) [] pos) (dMk c sp dds n u) := by
  obtain ⟨f, fd, ps, ds0, dvs, Mk1, F1, hm, hb, hd, hdd⟩ := F.ex
  have hnm := F.nm
  subst hnm
  refine pe_imp (pe_make (E := fun cls d H => ∀ σ, W cls d σ H) Mk1 F1 hr hg hm hb hd (passes_call tk fun cls d σ H z => z σ) ha hdb he hpl) fun σ H Q h => ?_
  obtain ⟨ρ, M, S, E, o, s, er, q⟩ := h
  refine ⟨ρ, M, S, E, o, s, er, u.mono (fun ds M1 q1 vs H1 S1 l1 o1 r1 => ?_) (fun _ _ z => z) q⟩
  intro y dx ny nd ne
  obtain ⟨S2, l2, o2, rc, rfl⟩ := new_ins (c := c) o1 ny nd ne
  have r2 := (Reps.mono l2.le _ _ r1).append (hdd ⟨S1.G, S1.C ++ [y]⟩)
  refine ⟨by rw [List.length_cons, ← r2.length]; exact congrArg (· + 1) q1.1, _, _, _, o2, Reps.cons rc r2, sp.mono (fun r M2 q2 v H3 S3 l3 o3 r3 => ?_) (fun e M2 q2 cls dd H3 S3 l3 o3 x σ' => ?_) q1.2⟩
  · obtain ⟨h1, M3, fs, rfl, hl, hfl, hbl, hbm, q3⟩ := q2
    have hv : v = .non := by
      have := isNone_rep r3
      rw [h1] at this
      exact of_decide_eq_true this
    refine ⟨hv, ?_⟩
    -- the cell is frozen, then dropped
    have hc : S3.C[M1.length]? = some y := prefix_get l3.le.c (by rw [show M1.length = S1.C.length from o1.len.symm]; simp)
    have hM : (M3 ++ [Ce.ins c fs])[M1.length]? = some (.ins c fs) := by rw [← hl]; simp
    obtain ⟨hg3, dx3, vs3, e3, n3, r4⟩ := o3.cell _ y _ hc hM
    have L3 : Gr S H S3 H3 := l1.trans (l2.trans l3)
    obtain ⟨o4, l4⟩ := o3.freeze hc hM hg3 e3
    have od : okDrop M1.length .non ((M3 ++ [Ce.ins c fs]).set M1.length .dead) := by
      refine ⟨by simp only [below], fun j ce hj e => ?_⟩
      rw [List.getElem?_set_ne (by omega)] at e
      rw [List.getElem?_append_left (by omega)] at e
      exact hbm ce (List.mem_of_getElem? e)
    have hlen : M1.length = S1.C.length := o1.len.symm
    obtain ⟨l5, o5⟩ := drop_ok (S0 := S1) (H0 := H1) (n0 := M1.length) (n := M1.length) (Nat.le_refl _) o1.len ((l2.trans l3).trans (gr_freeze l4 hc)) o4 od
    have hM5 : ((M3 ++ [Ce.ins c fs]).set M1.length .dead).take M1.length = M3 := by
      rw [List.take_set_of_le (Nat.le_refl _), ← hl]
      simp
    rw [hM5] at o5
    refine q3 (.ref y) H3 _ (l1.trans l5) o5 ?_
    have r5 := reps_take (n := M1.length) (S := ⟨upd S3.G y (.ins (He.ga X.K (cnm c)) dx3 vs3), S3.C⟩) fs _ (Reps.mono l4 _ _ r4) hbl
    simp only [Rep]
    refine ⟨y, dx3, vs3, rfl, upd_same, ?_, r5⟩
    rw [n3, hfl, List.take_length]
  · refine hW _ _ σ _ _ (er e M2 S3 H3 cls dd (l1.trans (l2.trans l3)) o3 x q2)
end
end DL
end T_DL7
section T_DL8
set_option Elab.async false
set_option linter.all false
set_option maxRecDepth 100000
set_option maxHeartbeats 4000000
/-! DL8: dicts over trees. -/
namespace DL
open PySem PySem.Spec PyProof.Rows L2

def keyT : Tr → Option Key
  | .int i => some (.inl i)
  | .str x => some (.inr x)
  | _ => none
def getK : List Key → List Tr → Key → Option Tr
  | a :: ks, d :: ds, k => if a = k then some d else getK ks ds k
  | _, _, _ => none
def setK : List Key → List Tr → Key → Tr → List Key × List Tr
  | a :: ks, d :: ds, k, x => if a = k then (a :: ks, x :: ds) else (a :: (setK ks ds k x).1, d :: (setK ks ds k x).2)
  | _, _, k, x => ([k], [x])
def mergeT : List Key → List Tr → List (Key × Tr) → List Key × List Tr
  | ks, ds, [] => (ks, ds)
  | ks, ds, (k, x) :: r => mergeT (setK ks ds k x).1 (setK ks ds k x).2 r
section
variable {K : PySem.W.Frag} {S : Gh}
theorem keyT_rep {d : Tr} {v : V} {k : Key} (r : Rep K S d v) (e : keyT d = some k) : v = kV k := by
  cases d with
  | int i => simp only [keyT, Option.some.injEq] at e; subst e; simp only [Rep] at r; exact r
  | str i => simp only [keyT, Option.some.injEq] at e; subst e; simp only [Rep] at r; exact r
  | _ => simp [keyT] at e
theorem getK_val : ∀ {kvs : List (Key × V)} {ds : List Tr} {k : Key}, Reps K S ds (kvs.map Prod.snd) →
    (∀ d, getK (kvs.map Prod.fst) ds k = some d → ∃ v, valV kvs k = some v ∧ Rep K S d v) ∧ (getK (kvs.map Prod.fst) ds k = none → valV kvs k = none)
  | [], ds, k, r => by
    simp only [List.map_nil, Reps] at r
    have : ds = [] := List.length_eq_zero_iff.mp (by have := r.length; simpa using this)
    subst this
    exact ⟨fun d e => by simp [getK] at e, fun _ => rfl⟩
  | (a, w) :: kvs, [], k, r => by simp [Reps] at r
  | (a, w) :: kvs, d :: ds, k, r => by
    simp only [List.map_cons, Reps] at r
    obtain ⟨v, t, e, h1, h2⟩ := r
    obtain ⟨rfl, rfl⟩ := List.cons.inj e
    obtain ⟨i1, i2⟩ := getK_val (kvs := kvs) (ds := ds) (k := k) h2
    simp only [List.map_cons, getK]
    by_cases hk : a = k
    · rw [if_pos hk, valV_pos hk]
      exact ⟨fun d' e => ⟨w, rfl, by cases e; exact h1⟩, fun e => by cases e⟩
    · rw [if_neg hk, valV_neg hk]
      exact ⟨i1, i2⟩
theorem putK_cons_eq {κ : Type} [DecidableEq κ] {a : κ} {w v : V} {kvs : List (κ × V)} (nd : a ∉ kvs.map Prod.fst) : putK ((a, w) :: kvs) a v = (a, v) :: kvs := by
  unfold putK
  rw [if_pos (by simp)]
  simp only [List.map_cons, if_true, List.cons.injEq, true_and]
  have : ∀ l : List (κ × V), a ∉ l.map Prod.fst → l.map (fun kv => if kv.1 = a then (kv.1, v) else kv) = l := by
    intro l
    induction l with
    | nil => intro _; rfl
    | cons p r ih =>
      intro h
      simp only [List.map_cons, List.mem_cons, not_or] at h
      rw [List.map_cons, ih h.2, if_neg (fun e => h.1 e.symm)]
  exact this kvs nd
theorem putK_cons_ne {κ : Type} [DecidableEq κ] {a k : κ} {w v : V} {kvs : List (κ × V)} (h : a ≠ k) : putK ((a, w) :: kvs) k v = (a, w) :: putK kvs k v := by
  unfold putK
  have e : (((a, w) :: kvs).any fun kv => decide (kv.1 = k)) = kvs.any fun kv => decide (kv.1 = k) := by simp [h]
  rw [e]
  by_cases hc : (kvs.any fun kv => decide (kv.1 = k)) = true
  · rw [if_pos hc, if_pos hc, List.map_cons, if_neg h]
  · rw [if_neg hc, if_neg hc]; rfl
theorem setK_put : ∀ {kvs : List (Key × V)} {ds : List Tr} {k : Key} {d : Tr} {v : V}, (kvs.map Prod.fst).Nodup → Reps K S ds (kvs.map Prod.snd) → Rep K S d v →
    (putK kvs k v).map Prod.fst = (setK (kvs.map Prod.fst) ds k d).1 ∧ Reps K S (setK (kvs.map Prod.fst) ds k d).2 ((putK kvs k v).map Prod.snd)
  | [], ds, k, d, v, nd, r, q => by
    have : ds = [] := List.length_eq_zero_iff.mp (by have := r.length; simpa using this)
    subst this
    exact ⟨rfl, Reps.cons q Reps.nil⟩
  | (a, w) :: kvs, [], k, d, v, nd, r, q => by simp [Reps] at r
  | (a, w) :: kvs, x :: ds, k, d, v, nd, r, q => by
    simp only [List.map_cons, Reps] at r
    obtain ⟨v', t, e, h1, h2⟩ := r
    obtain ⟨rfl, rfl⟩ := List.cons.inj e
    simp only [List.map_cons, List.nodup_cons] at nd
    simp only [List.map_cons, setK]
    by_cases hk : a = k
    · subst hk
      rw [putK_cons_eq nd.1, if_pos rfl]
      exact ⟨rfl, Reps.cons q h2⟩
    · rw [putK_cons_ne hk, if_neg hk]
      obtain ⟨i1, i2⟩ := setK_put (kvs := kvs) (ds := ds) (k := k) nd.2 h2 q
      exact ⟨by simp [i1], Reps.cons h1 i2⟩
theorem setK_len : ∀ (ks : List Key) (ds : List Tr) (k : Key) (d : Tr), (setK ks ds k d).1.length ≤ ks.length + 1
  | [], ds, k, d => by simp [setK]
  | a :: ks, [], k, d => by simp [setK]
  | a :: ks, x :: ds, k, d => by
    simp only [setK]
    split
    · simp
    · have := setK_len ks ds k d
      simp only [List.length_cons]; omega
/-- a dict's keys and values -/
def dictV (M : Me) : Tr → Option (List Key × List Tr)
  | .dct ks ds => some (ks, ds)
  | .dkf ks ds => some (ks, ds)
  | .cell k => (match M[k]? with
    | some (.dct ks ds) => some (ks, ds)
    | _ => none)
  | _ => none
theorem dictV_rep {M : Me} {H : Hp} {d : Tr} {v : V} {ks : List Key} {ds : List Tr} (o : OkH K S M H) (r : Rep K S d v) (e : dictV M d = some (ks, ds)) :
    ∃ a kvs, v = .ref a ∧ L2.Rd H a (.dK kvs) ∧ kvs.map Prod.fst = ks ∧ Reps K S ds (kvs.map Prod.snd) := by
  cases d with
  | dkf ks' ds' =>
    simp only [dictV, Option.some.injEq, Prod.mk.injEq] at e
    obtain ⟨rfl, rfl⟩ := e
    simp only [Rep] at r
    obtain ⟨a, od, kvs, rfl, g, h1, h2⟩ := r
    exact ⟨a, kvs, rfl, .inr ⟨od, o.sub _ _ g⟩, h1, h2⟩
  | dct ks' ds' =>
    simp only [dictV, Option.some.injEq, Prod.mk.injEq] at e
    obtain ⟨rfl, rfl⟩ := e
    simp only [Rep] at r
    obtain ⟨a, kvs, rfl, g, h1, h2⟩ := r
    exact ⟨a, kvs, rfl, .inl (o.sub _ _ g), h1, h2⟩
  | cell k =>
    simp only [dictV] at e
    split at e
    · rename_i ks' ds' h
      cases e
      obtain ⟨a, rfl, _, _, kvs, h1, h2, h3⟩ := cell_rep o r h
      exact ⟨a, kvs, rfl, .inl h1, h2, h3⟩
    · cases e
  | _ => simp [dictV] at e
def dictGet : F2 := fun M d e => (dictV M d).bind fun p => (keyT e).bind fun k => getK p.1 p.2 k
def dictIn : F2 := fun M e d => (dictV M d).bind fun p => (keyT e).map fun k => Tr.bl (getK p.1 p.2 k).isSome
def dictNotIn : F2 := fun M e d => (dictV M d).bind fun p => (keyT e).map fun k => Tr.bl (!(getK p.1 p.2 k).isSome)
theorem isSome_val {kvs : List (Key × V)} {ds : List Tr} {k : Key} (r : Reps K S ds (kvs.map Prod.snd)) : (valV kvs k).isSome = (getK (kvs.map Prod.fst) ds k).isSome := by
  obtain ⟨h1, h2⟩ := getK_val (k := k) r
  cases e : getK (kvs.map Prod.fst) ds k with
  | none => rw [h2 e]; rfl
  | some d =>
    obtain ⟨v, hv, _⟩ := h1 d e
    rw [hv]; rfl
section
variable {X : Cx} {W : WX} {pos pos' cpos apos : Pos} {o i e f value : Expr} {t u x : Rd Tr}
theorem pd_dget (hu : X.A.units + 1 < cLine) (ho : PD X W o t) (hi : PD X W i u) (hs : NoSl i) : PD X W (.Subscript o i pos) (dOp dictGet t u) := pe_imp (pe_dget hu ho hi hs) fun σ H Q h => by
  obtain ⟨ρ, M, S, E, ok, s, er, q⟩ := h
  refine ⟨ρ, M, S, E, ok, s, er, t.mono (fun d M1 q1 v H1 S1 l1 o1 r1 => ?_) (fun _ _ z => z) q⟩
  refine ⟨ρ, M1, S1, E, o1, s.mono l1.le, er.mono l1, u.mono (fun e M2 q2 v2 H2 S2 l2 o2 r2 => ?_) (fun _ _ z => z) q1⟩
  obtain ⟨z, hz, q3⟩ := onSome_of q2
  unfold dictGet at hz
  obtain ⟨⟨ks, ds⟩, e1, e2⟩ := Option.bind_eq_some_iff.mp hz
  obtain ⟨k, e3, e4⟩ := Option.bind_eq_some_iff.mp e2
  obtain ⟨a, kvs, rfl, h1, rfl, h3⟩ := dictV_rep o2 (Rep.mono l2.le _ _ r1) e1
  obtain ⟨w, hw, rw'⟩ := (getK_val h3).1 z e4
  refine ⟨a, w, rfl, ?_, q3 w H2 S2 (l1.trans l2) o2 rw'⟩
  rw [keyT_rep r2 e3, ← hw]
  exact .inl ⟨kvs, k, h1, rfl, rfl⟩
theorem lift_din {F : F2} {g : Bool → Bool} (hF : F = fun M e d => (dictV M d).bind fun p => (keyT e).map fun k => Tr.bl (g (getK p.1 p.2 k).isSome)) {K : PySem.W.Frag} {σ : L2.St} {H : Hp} {Q : VK} (h : liftE K W (dOp F u t) σ H Q) :
    liftE K W u σ H fun y H1 => liftE K W t σ H1 fun x H2 => ∃ a o, x = .ref a ∧ DGet H2 a y o ∧ Q (.bl (g o.isSome)) H2 := by
  subst hF
  obtain ⟨ρ, M, S, E, ok, s, er, q⟩ := h
  refine ⟨ρ, M, S, E, ok, s, er, u.mono (fun d M1 q1 v H1 S1 l1 o1 r1 => ?_) (fun _ _ z => z) q⟩
  refine ⟨ρ, M1, S1, E, o1, s.mono l1.le, er.mono l1, t.mono (fun e M2 q2 v2 H2 S2 l2 o2 r2 => ?_) (fun _ _ z => z) q1⟩
  obtain ⟨z, hz, q3⟩ := onSome_of q2
  obtain ⟨⟨ks, ds⟩, e1, e2⟩ := Option.bind_eq_some_iff.mp hz
  obtain ⟨k, e3, rfl⟩ := Option.map_eq_some_iff.mp e2
  obtain ⟨a, kvs, rfl, h1, rfl, h3⟩ := dictV_rep o2 r2 e1
  refine ⟨a, _, rfl, by rw [keyT_rep (Rep.mono l2.le _ _ r1) e3]; exact .inl ⟨kvs, k, h1, rfl, rfl⟩, ?_⟩
  rw [isSome_val h3]
  exact q3 _ H2 S2 (l1.trans l2) o2 rep_bl
theorem pd_din (hu : X.A.units + 1 < cLine) (hi : PD X W i u) (ho : PD X W o t) (h1 : behindInMarks .In o = false) : PD X W (.Compare i [.In] [o] pos) (dOp dictIn u t) := pe_imp (pe_cmp (pc_din hu hi ho) h1) fun _ _ _ h => lift_din (g := fun b => b) rfl h
theorem pt_din (hu : X.A.units + 1 < cLine) (hi : PD X W i u) (ho : PD X W o t) (h1 : behindInMarks .In o = false) : PDT X W (.Compare i [.In] [o] pos) (dTest (dOp dictIn u t)) := pt_imp (pt_cmp (pc_din hu hi ho) h1) fun _ _ _ h => lift_din (g := fun b => b) rfl (lift_test h)
theorem pd_dnotin (hu : X.A.units + 1 < cLine) (hi : PD X W i u) (ho : PD X W o t) (h1 : behindInMarks .NotIn o = false) : PD X W (.Compare i [.NotIn] [o] pos) (dOp dictNotIn u t) := pe_imp (pe_cmp (pc_dnotin hu hi ho) h1) fun _ _ _ h => lift_din (g := fun b => !b) rfl h
theorem pt_dnotin (hu : X.A.units + 1 < cLine) (hi : PD X W i u) (ho : PD X W o t) (h1 : behindInMarks .NotIn o = false) : PDT X W (.Compare i [.NotIn] [o] pos) (dTest (dOp dictNotIn u t)) := pt_imp (pt_cmp (pc_dnotin hu hi ho) h1) fun _ _ _ h => lift_din (g := fun b => !b) rfl (lift_test h)
/-- d[k] = v, d a cell -/
def putF' (M : Me) (d e x : Tr) : Option Me := match d with
  | .cell k => (match M[k]?, keyT e with
    | some (.dct ks ds), some ky => if ks.Nodup ∧ ks.length < big then some (M.set k (.dct (setK ks ds ky x).1 (setK ks ds ky x).2)) else none
    | _, _ => none)
  | _ => none
def sDSet (t u x : Rd Tr) : Sr := ⟨fun F ρ M => x.f ρ M (fun v M1 => t.f ρ M1 (fun d M2 => u.f ρ M2 (fun e M3 => onSome (putF' M3 d e v) fun M4 => F.nx ρ M4) (F.er ρ)) (F.er ρ)) (F.er ρ),
  fun h q => x.mono (fun v M1 => t.mono (fun d M2 => u.mono (fun e M3 => onSome_mono fun M4 => h.nx _ M4) fun d M => h.er _ d M) fun d M => h.er _ d M) (fun d M => h.er _ d M) q⟩
theorem pds_dset (hu : X.A.units + 1 < cLine) (ho : PD X W o t) (hi : PD X W i u) (hv : PD X W value x) (hs : swapsWith value (some (.Subscript o i pos')) pos.line X.env = pure false := by rfl) : PDS X W (.Assign [.Subscript o i pos'] value pos) (sDSet t u x) :=
  ps_imp (ps_dput hu ho hi hv hs) fun D σ H h => by
    obtain ⟨ρ, M, S, F, ok, s, en, q⟩ := h
    refine ⟨ρ, M, S, F.er ρ, ok, s, en.err s, x.mono (fun v M1 q1 v' H1 S1 l1 o1 r1 => ?_) (fun _ _ z => z) q⟩
    refine ⟨ρ, M1, S1, F.er ρ, o1, s.mono l1.le, (en.err s).mono l1, t.mono (fun d M2 q2 v2 H2 S2 l2 o2 r2 => ?_) (fun _ _ z => z) q1⟩
    refine ⟨ρ, M2, S2, F.er ρ, o2, (s.mono l1.le).mono l2.le, ((en.err s).mono l1).mono l2, u.mono (fun e M3 q3 v3 H3 S3 l3 o3 r3 => ?_) (fun _ _ z => z) q2⟩
    obtain ⟨M4, hz, q4⟩ := onSome_of q3
    unfold putF' at hz
    split at hz
    · split at hz
      · rename_i k _ _ ks ds ky e1 e2
        split at hz
        · rename_i hc
          cases hz
          obtain ⟨a, rfl, hC, hg, kvs, h1, h2, h3⟩ := cell_rep o3 (Rep.mono l3.le _ _ r2) e1
          subst h2
          have L := l1.trans (l2.trans l3)
          obtain ⟨p1, p2⟩ := setK_put (k := ky) hc.1 h3 (Rep.mono (l2.trans l3).le _ _ r1)
          refine ⟨a, _, rfl, by rw [keyT_rep r3 e2]; exact DPut.k h1 (by rw [← big_eq]; simpa using hc.2), ?_⟩
          exact en.nx ρ _ S3 σ _ (L.trans (gr_setCell hC)) (o3.setCell (c' := .dct (setK (kvs.map Prod.fst) ds ky v).1 (setK (kvs.map Prod.fst) ds ky v).2) hC e1 hg ⟨hg, _, upd_same, p1, p2⟩) (s.mono L.le) q4
        · cases hz
      · cases hz
    · cases hz
/-! ### displays -/
def dPairs : List (Rd Tr × Rd Tr) → Rd (List (Tr × Tr))
  | [] => ⟨fun _ M Q _ => Q [] M, fun h _ q => h _ _ q⟩
  | p :: r => ⟨fun ρ M Q E => p.1.f ρ M (fun a M1 => p.2.f ρ M1 (fun b M2 => (dPairs r).f ρ M2 (fun ps M3 => Q ((a, b) :: ps) M3) E) E) E,
    fun h h' q => p.1.mono (fun a M1 => p.2.mono (fun b M2 => (dPairs r).mono (fun ps M3 => h _ M3) h') h') h' q⟩
def keysT : List (Tr × Tr) → Option (List (Key × Tr))
  | [] => some []
  | p :: r => (keyT p.1).bind fun k => (keysT r).map fun l => (k, p.2) :: l
def RepP (K : PySem.W.Frag) (S : Gh) : List (Tr × Tr) → List (V × V) → Prop
  | [], vs => vs = []
  | p :: r, vs => ∃ a b t, vs = (a, b) :: t ∧ Rep K S p.1 a ∧ Rep K S p.2 b ∧ RepP K S r t
theorem RepP.keys {K : PySem.W.Frag} {S : Gh} : ∀ {ps : List (Tr × Tr)} {vs : List (V × V)} {l : List (Key × Tr)}, RepP K S ps vs → keysT ps = some l → ∃ kvs : List (Key × V), vs = kvs.map (fun kv => (kV kv.1, kv.2)) ∧ kvs.map Prod.fst = l.map Prod.fst ∧ Reps K S (l.map Prod.snd) (kvs.map Prod.snd)
  | [], vs, l, r, e => by
    simp only [keysT, Option.some.injEq] at e
    subst e
    exact ⟨[], r, rfl, Reps.nil⟩
  | p :: ps, vs, l, r, e => by
    simp only [keysT] at e
    obtain ⟨k, e1, e2⟩ := Option.bind_eq_some_iff.mp e
    obtain ⟨l', e3, rfl⟩ := Option.map_eq_some_iff.mp e2
    obtain ⟨a, b, t, rfl, h1, h2, h3⟩ := r
    obtain ⟨kvs, rfl, h5, h6⟩ := RepP.keys h3 e3
    exact ⟨(k, b) :: kvs, by rw [keyT_rep h1 e1]; rfl, by simp [h5], Reps.cons h2 h6⟩
theorem merge_rep {K : PySem.W.Frag} {S : Gh} : ∀ {more : List (Key × V)} {l : List (Key × Tr)} {kvs : List (Key × V)} {ds : List Tr}, more.map Prod.fst = l.map Prod.fst → Reps K S (l.map Prod.snd) (more.map Prod.snd) → (kvs.map Prod.fst ++ l.map Prod.fst).Nodup → Reps K S ds (kvs.map Prod.snd) →
    (mergeK kvs more).map Prod.fst = (mergeT (kvs.map Prod.fst) ds l).1 ∧ Reps K S (mergeT (kvs.map Prod.fst) ds l).2 ((mergeK kvs more).map Prod.snd)
  | [], [], kvs, ds, e, r, nd, q => ⟨rfl, q⟩
  | [], _ :: _, kvs, ds, e, r, nd, q => by simp at e
  | _ :: _, [], kvs, ds, e, r, nd, q => by simp at e
  | (k, v) :: more, (k', x) :: l, kvs, ds, e, r, nd, q => by
    simp only [List.map_cons, List.cons.injEq] at e
    obtain ⟨rfl, e⟩ := e
    simp only [List.map_cons, Reps] at r
    obtain ⟨w, t, e2, h1, h2⟩ := r
    obtain ⟨rfl, rfl⟩ := List.cons.inj e2
    have nd1 : (kvs.map Prod.fst).Nodup := (List.nodup_append.mp nd).1
    obtain ⟨p1, p2⟩ := setK_put (k := k) nd1 q h1
    have hk : k ∉ kvs.map Prod.fst := fun z => (List.nodup_append.mp nd).2.2 k z k (by simp) rfl
    have pe : putK kvs k v = kvs ++ [(k, v)] := by
      unfold putK
      rw [if_neg]
      intro z
      obtain ⟨p, hp, hd⟩ := List.any_eq_true.mp z
      exact hk (List.mem_map.mpr ⟨p, hp, of_decide_eq_true hd⟩)
    have nd2 : ((putK kvs k v).map Prod.fst ++ l.map Prod.fst).Nodup := by
      rw [pe]
      simpa [List.append_assoc] using nd
    have := merge_rep (kvs := putK kvs k v) (ds := (setK (kvs.map Prod.fst) ds k x).2) e h2 nd2 p2
    rw [p1] at this
    exact this
/-- {k: v, ..} as a cell, as a tree -/
def dDispC (ps : List (Rd Tr × Rd Tr)) : Rd Tr := ⟨fun ρ M Q E => (dPairs ps).f ρ M (fun l M1 => onSome (keysT l) fun ks => ((ks.map Prod.fst).Nodup ∧ ks.length ≤ 15) ∧ Q (.cell M1.length) (M1 ++ [.dct (mergeT [] [] ks).1 (mergeT [] [] ks).2])) E,
  fun h h' q => (dPairs ps).mono (fun l M1 => onSome_mono fun ks z => ⟨z.1, h _ _ z.2⟩) h' q⟩
def dDisp (ps : List (Rd Tr × Rd Tr)) : Rd Tr := ⟨fun ρ M Q E => (dPairs ps).f ρ M (fun l M1 => onSome (keysT l) fun ks => ((ks.map Prod.fst).Nodup ∧ ks.length ≤ 15) ∧ Q (.dct (mergeT [] [] ks).1 (mergeT [] [] ks).2) M1) E,
  fun h h' q => (dPairs ps).mono (fun l M1 => onSome_mono fun ks z => ⟨z.1, h _ _ z.2⟩) h' q⟩
theorem lift_pairs {K : PySem.W.Frag} : ∀ (ps : List (Rd Tr × Rd Tr)) {ρ : En} {M : Me} {S : Gh} {E : TK} {σ : L2.St} {H : Hp} {Qd : List (Tr × Tr) → Me → Prop} {Q : List (V × V) → Hp → Prop}, OkH K S M H → Slots K S ρ σ → ErrE K W S H σ E → (dPairs ps).f ρ M Qd E →
    (∀ l M1 vs H1 S1, Gr S H S1 H1 → OkH K S1 M1 H1 → RepP K S1 l vs → Qd l M1 → Q vs H1) → tPairs (ps.map fun p => (liftE K W p.1, liftE K W p.2)) σ H Q
  | [], ρ, M, S, E, σ, H, Qd, Q, o, s, er, q, k => k [] M [] H S (Gr.refl S H) o rfl q
  | p :: r, ρ, M, S, E, σ, H, Qd, Q, o, s, er, q, k => by
    refine ⟨ρ, M, S, E, o, s, er, p.1.mono (fun a M1 q1 v1 H1 S1 l1 o1 r1 => ?_) (fun _ _ z => z) q⟩
    refine ⟨ρ, M1, S1, E, o1, s.mono l1.le, er.mono l1, p.2.mono (fun b M2 q2 v2 H2 S2 l2 o2 r2 => ?_) (fun _ _ z => z) q1⟩
    exact lift_pairs r o2 ((s.mono l1.le).mono l2.le) ((er.mono l1).mono l2) q2 fun l M3 vs H3 S3 l3 o3 r3 q3 =>
      k ((a, b) :: l) M3 ((v1, v2) :: vs) H3 S3 (l1.trans (l2.trans l3)) o3 ⟨v1, v2, vs, rfl, Rep.mono (l2.trans l3).le _ _ r1, Rep.mono l3.le _ _ r2, r3⟩ q3
theorem Gr.held {S S' : Gh} {H H' : Hp} {D : Addr} {o : HO} (l : Gr S H S' H') (hD : H D = some o) (g : S.G D = none) (c : D ∉ S.C) (ho : ∀ ps, o ≠ .tbl ps := by nofun) (hx : HOx o := by trivial) : H' D = some o ∧ S'.G D = none ∧ D ∉ S'.C := by
  refine ⟨l.keepN hD c ho, ?_, fun z => ?_⟩
  · cases e : S'.G D with
    | none => rfl
    | some u =>
      rcases l.fz D g (by rw [e]; exact fun z => by cases z) with h | h
      · exact (h.no hD hx).elim
      · exact absurd h c
  · exact (l.new D z c).no hD ho
/-- a growth from behind a new object is one from ahead of it -/
theorem Gr.ahead {S S' : Gh} {H H' : Hp} {D : Addr} {o : HO} (n : H D = none) (l : Gr S (upd H D o) S' H') : Gr S H S' H' := by
  refine ⟨l.le, fun a h1 h2 => (l.new a h1 h2).back n, fun a u e hn n' => ?_, fun a h1 h2 => ?_⟩
  · have ha : a ≠ D := fun z => by rw [z, n] at e; cases e
    exact l.keep a u (by rw [upd_ne ha]; exact e) hn n'
  · rcases l.fz a h1 h2 with h | h
    · exact .inl (h.back n)
    · exact .inr h
theorem Gr.write {S S' : Gh} {H H' : Hp} {D : Addr} {o : HO} (n : H D = none) (l : Gr S H S' H') : Gr S H S' (upd H' D o) := by
  refine ⟨l.le, l.new, fun a u e hn n' => ?_, l.fz⟩
  have ha : a ≠ D := fun z => by rw [z, n] at e; cases e
  rw [upd_ne ha]
  exact l.keep a u e hn n'
theorem OkH.cellAt {K : PySem.W.Frag} {S : Gh} {M : Me} {H : Hp} {p : Addr} {c : Ce} (h : OkH K S M H) (g : S.G p = none) (hc : p ∉ S.C) (q : CeAt K S H p c) : OkH K ⟨S.G, S.C ++ [p]⟩ (M ++ [c]) H ∧ Le S ⟨S.G, S.C ++ [p]⟩ := by
  have l : Le S ⟨S.G, S.C ++ [p]⟩ := ⟨fun _ _ e => e, List.prefix_append _ _⟩
  refine ⟨⟨h.sub, by simp [h.len], ?_, fun k a c' e1 e2 => ?_, ⟨h.tb.tabs, h.tb.nt⟩⟩, l⟩
  · rw [List.nodup_append]
    refine ⟨h.nd, by simp, fun a ha b hb z => ?_⟩
    have hb' : b = p := by simpa using hb
    rw [z, hb'] at ha
    exact hc ha
  · by_cases hk : k < S.C.length
    · rw [show (⟨S.G, S.C ++ [p]⟩ : Gh).C[k]? = S.C[k]? from List.getElem?_append_left hk] at e1
      rw [List.getElem?_append_left (by rw [← h.len]; exact hk)] at e2
      exact (h.cell k a c' e1 e2).mono l rfl fun u e => e
    · rw [show (⟨S.G, S.C ++ [p]⟩ : Gh).C[k]? = (S.C ++ [p])[k]? from rfl, List.getElem?_append_right (by omega)] at e1
      rw [List.getElem?_append_right (by rw [← h.len]; omega)] at e2
      obtain ⟨hk0, rfl⟩ : k - S.C.length = 0 ∧ a = p := by
        cases e : k - S.C.length with
        | zero => rw [e] at e1; simp at e1; exact ⟨rfl, e1.symm⟩
        | succ m => rw [e] at e1; simp at e1
      rw [← h.len, hk0] at e2
      simp at e2
      subst e2
      exact q.mono l rfl fun _ e => e
variable {keys : List (Option Expr)} {values : List Expr} {ps : List (Rd Tr × Rd Tr)}
theorem pd_dispC (h : PPs X pos keys values (ps.map fun p => (liftE X.K W p.1, liftE X.K W p.2))) (hall : keys.all (·.isSome) = true) (hl : keys.length = values.length) (h0 : keys ≠ []) (h15 : keys.length ≤ 15) : PD X W (.Dict keys values pos) (dDispC ps) :=
  pe_imp (pe_disp h hall hl h0 h15) fun σ H Q hq => by
    obtain ⟨ρ, M, S, E, ok, s, er, q⟩ := hq
    intro p n
    have n1 := ok.fresh n
    have sm : Same H (upd H p (.dK [])) := same_upd n
    have g0 : Gr S H S (upd H p (.dK [])) := Gr.same sm
    refine lift_pairs ps (ok.same sm) s (er.mono g0) q fun l M1 vs H1 S1 l1 o1 r1 q1 => ?_
    obtain ⟨ks, e1, ⟨⟨nd, hz⟩, q2⟩⟩ := onSome_of q1
    obtain ⟨hD, gD, cD⟩ := l1.held upd_same n1.1 n1.2
    obtain ⟨kvs, rfl, h2, h3⟩ := r1.keys e1
    refine ⟨hD, kvs, rfl, by have := congrArg List.length h2; simp at this; omega, ?_⟩
    obtain ⟨m1, m2⟩ := merge_rep (kvs := []) (ds := []) h2 h3 (by simpa using nd) Reps.nil
    have o2 := o1.other (o := .dK (mergeK [] kvs)) gD cD (.inr ⟨_, hD, trivial⟩)
    obtain ⟨o3, l3⟩ := o2.cellAt (c := .dct (mergeT [] [] ks).1 (mergeT [] [] ks).2) gD cD ⟨gD, _, upd_same, m1, m2⟩
    have G1 : Gr S H S1 (upd H1 p (.dK (mergeK [] kvs))) := (Gr.ahead n l1).write n
    refine q2 (.ref p) _ ⟨S1.G, S1.C ++ [p]⟩ ⟨G1.le.trans l3, fun a ha hn => ?_, G1.keep, G1.fz⟩ o3 ?_
    · rcases List.mem_append.mp ha with ha | ha
      · exact G1.new a ha hn
      · rw [List.mem_singleton.mp ha]; exact NT.of n
    · simp only [Rep]
      exact ⟨p, rfl, by rw [show M1.length = S1.C.length from o1.len.symm]; simp⟩
theorem pd_disp (h : PPs X pos keys values (ps.map fun p => (liftE X.K W p.1, liftE X.K W p.2))) (hall : keys.all (·.isSome) = true) (hl : keys.length = values.length) (h0 : keys ≠ []) (h15 : keys.length ≤ 15) : PD X W (.Dict keys values pos) (dDisp ps) :=
  pe_imp (pe_disp h hall hl h0 h15) fun σ H Q hq => by
    obtain ⟨ρ, M, S, E, ok, s, er, q⟩ := hq
    intro p n
    have n1 := ok.fresh n
    have sm : Same H (upd H p (.dK [])) := same_upd n
    have g0 : Gr S H S (upd H p (.dK [])) := Gr.same sm
    refine lift_pairs ps (ok.same sm) s (er.mono g0) q fun l M1 vs H1 S1 l1 o1 r1 q1 => ?_
    obtain ⟨ks, e1, ⟨⟨nd, hz⟩, q2⟩⟩ := onSome_of q1
    obtain ⟨hD, gD, cD⟩ := l1.held upd_same n1.1 n1.2
    obtain ⟨kvs, rfl, h2, h3⟩ := r1.keys e1
    refine ⟨hD, kvs, rfl, by have := congrArg List.length h2; simp at this; omega, ?_⟩
    obtain ⟨m1, m2⟩ := merge_rep (kvs := []) (ds := []) h2 h3 (by simpa using nd) Reps.nil
    have o2 := o1.other (o := .dK (mergeK [] kvs)) gD cD (.inr ⟨_, hD, trivial⟩)
    obtain ⟨o3, l3⟩ := o2.take' gD cD upd_same
    have G1 : Gr S H S1 (upd H1 p (.dK (mergeK [] kvs))) := (Gr.ahead n l1).write n
    refine q2 (.ref p) _ ⟨upd S1.G p (.dK (mergeK [] kvs)), S1.C⟩ ⟨G1.le.trans l3, G1.new, G1.keep, fun a h1 h2' => ?_⟩ o3 ?_
    · by_cases ha : a = p
      · rw [ha]; exact .inl (NX.of n)
      · rw [show (⟨upd S1.G p (.dK (mergeK [] kvs)), S1.C⟩ : Gh).G a = S1.G a from upd_ne ha] at h2'
        exact G1.fz a h1 h2'
    · simp only [Rep]
      exact ⟨p, _, rfl, upd_same, m1, Reps.mono l3 _ _ m2⟩
/-- {} -/
def dEmptyC : Rd Tr := ⟨fun _ M Q _ => Q (.cell M.length) (M ++ [.dct [] []]), fun h _ q => h _ _ q⟩
def dEmpty : Rd Tr := ⟨fun _ M Q _ => Q (.dct [] []) M, fun h _ q => h _ _ q⟩
theorem pd_emptyC : PD X W (.Dict [] [] pos) dEmptyC := pe_imp pe_dnewK fun σ H Q hq => by
  obtain ⟨ρ, M, S, E, ok, s, er, q⟩ := hq
  intro p n
  obtain ⟨o', l⟩ := ok.newCell (o := .dK []) (c := .dct [] []) n ⟨(ok.fresh n).1, [], upd_same, rfl, Reps.nil⟩
  refine q (.ref p) _ _ (gr_newCell l n) o' ?_
  simp only [Rep]
  exact ⟨p, rfl, by rw [show M.length = S.C.length from ok.len.symm]; simp⟩
theorem pd_empty : PD X W (.Dict [] [] pos) dEmpty := pe_imp pe_dnewK fun σ H Q hq => by
  obtain ⟨ρ, M, S, E, ok, s, er, q⟩ := hq
  intro p n
  obtain ⟨o', l⟩ := ok.tree (o := .dK []) n
  refine q (.ref p) _ _ (gr_tree l n) o' ?_
  simp only [Rep]
  exact ⟨p, [], rfl, upd_same, rfl, Reps.nil⟩
end
end
end DL
end T_DL8
section T_DL9
set_option Elab.async false
set_option linter.all false
set_option maxRecDepth 100000
set_option maxHeartbeats 4000000
/-! DL9: chains of comparisons, -x, join, names of the module, lists given to names by a comprehension, what built-ins a module hides. -/
namespace DL
open PySem PySem.Spec PyProof.Rows L2
/-- the built-in names that the text does not store -/
structure Bn (mg : Str → Option Value) : Prop where
  len : mg "len" = none
  int : mg "int" = none
  abs : mg "abs" = none
  sum : mg "sum" = none
  all : mg "all" = none
  any : mg "any" = none
  max : mg "max" = none
  min : mg "min" = none
  range : mg "range" = none
  list : mg "list" = none
  tuple : mg "tuple" = none
  str : mg "str" = none
  sorted : mg "sorted" = none
  set : mg "set" = none
  dict : mg "dict" = none
  isinstance : mg "isinstance" = none
  repr : mg "repr" = none
  enumerate : mg "enumerate" = none
  zip : mg "zip" = none
  reversed : mg "reversed" = none
  divmod : mg "divmod" = none
  bool : mg "bool" = none
  ValueError : mg "ValueError" = none
section
variable {X : Cx} {W : WX} {pos cpos apos : Pos} {a b c e o : Expr} {es : List Expr} {ta tb tc t : Rd Tr} {u : Rd (List Tr)}
/-- a op1 b op2 c -/
def dChain (f g : F2) (ta tb tc : Rd Tr) : Rd Tr := ⟨fun ρ M Q E => ta.f ρ M (fun x M1 => tb.f ρ M1 (fun y M2 => onSome (f M2 x y) fun z => match z with
  | .bl true => tc.f ρ M2 (fun w M3 => onSome (g M3 y w) fun z' => Q z' M3) E
  | .bl false => Q (.bl false) M2
  | _ => False) E) E, fun h h' q => ta.mono (fun x M1 => tb.mono (fun y M2 => onSome_mono fun z zq => by
    split at zq
    · exact tc.mono (fun w M3 => onSome_mono fun z' => h _ M3) h' zq
    · exact h _ _ zq
    · exact zq.elim) h') h' q⟩
theorem lift_chain {f g : F2} {K : PySem.W.Frag} {σ : L2.St} {H : Hp} {Q : VK} (h : liftE K W (dChain f g ta tb tc) σ H Q) : tChain (rD K f) (rD K g) (liftE K W ta) (liftE K W tb) (liftE K W tc) σ H Q := by
  obtain ⟨ρ, M, S, E, ok, s, er, q⟩ := h
  refine ⟨ρ, M, S, E, ok, s, er, ta.mono (fun d M1 q1 v H1 S1 l1 o1 r1 => ?_) (fun _ _ z => z) q⟩
  refine ⟨ρ, M1, S1, E, o1, s.mono l1.le, er.mono l1, tb.mono (fun e M2 q2 v2 H2 S2 l2 o2 r2 => ?_) (fun _ _ z => z) q1⟩
  obtain ⟨z, hz, q3⟩ := onSome_of q2
  refine ⟨S2, M2, d, e, z, o2, Rep.mono l2.le _ _ r1, r2, hz, fun w H3 S3 l3 o3 r3 => ?_⟩
  split at q3
  · simp only [Rep] at r3
    refine ⟨true, r3, ?_⟩
    rw [if_pos rfl]
    refine ⟨ρ, M2, S3, E, o3, ((s.mono l1.le).mono l2.le).mono l3.le, ((er.mono l1).mono l2).mono l3, tc.mono (fun w M4 q4 v4 H4 S4 l4 o4 r4 => ?_) (fun _ _ z => z) q3⟩
    obtain ⟨z', hz', q5⟩ := onSome_of q4
    exact ⟨S4, M4, e, w, z', o4, Rep.mono (l3.trans l4).le _ _ r2, r4, hz', fun w H5 S5 l5 o5 r5 => q5 w H5 S5 (l1.trans (l2.trans (l3.trans (l4.trans l5)))) o5 r5⟩
  · simp only [Rep] at r3
    refine ⟨false, r3, ?_⟩
    rw [if_neg Bool.false_ne_true]
    exact q3 _ H3 S3 (l1.trans (l2.trans l3)) o3 rep_bl
  · exact q3.elim
theorem pd_chain {op op' : CmpOp} {f g : F2} (ho : OpR X (compareOp op) (rD X.K f)) (ho' : OpR X (compareOp op') (rD X.K g)) (ha : PD X W a ta) (hb : PD X W b tb) (hc : PD X W c tc) (hm : lastMarks [op, op'] [b, c] = false := by with_unfolding_all rfl) :
    PD X W (.Compare a [op, op'] [b, c] pos) (dChain f g ta tb tc) := pe_imp (pe_chain ho ho' ha hb hc hm) fun _ _ _ => lift_chain
theorem pt_chain' {op op' : CmpOp} {f g : F2} (ho : OpR X (compareOp op) (rD X.K f)) (ho' : OpR X (compareOp op') (rD X.K g)) (ha : PD X W a ta) (hb : PD X W b tb) (hc : PD X W c tc) (hm : lastMarks [op, op'] [b, c] = false := by with_unfolding_all rfl) :
    PDT X W (.Compare a [op, op'] [b, c] pos) (dTest (dChain f g ta tb tc)) := pt_imp (pt_chain ho ho' ha hb hc hm) fun _ _ _ h => lift_chain (lift_test h)
/-- -x -/
def dNeg (t : Rd Tr) : Rd Tr := ⟨fun ρ M Q E => t.f ρ M (fun d M1 => match d with
  | .int i => Q (.int (-i)) M1
  | _ => False) E, fun h h' q => t.mono (fun d M1 z => by
    split at z
    · exact h _ _ z
    · exact z.elim) h' q⟩
theorem pd_neg (ha : PD X W a ta) : PD X W (.UnaryOp .USub a pos) (dNeg ta) := pe_imp (pe_un un_neg ha) fun σ H Q h => by
  obtain ⟨ρ, M, S, E, ok, s, er, q⟩ := h
  refine ⟨ρ, M, S, E, ok, s, er, ta.mono (fun d M1 q1 v H1 S1 l1 o1 r1 => ?_) (fun _ _ z => z) q⟩
  dsimp only at q1
  split at q1
  · simp only [Rep] at r1
    exact ⟨_, r1, q1 _ H1 S1 l1 o1 rep_int⟩
  · exact q1.elim
/-- s.join(xs) -/
def joinT (M : Me) (d e : Tr) : Option Tr := match d with
  | .str a => ((seqL M e).bind strs?).bind fun ys => if (ys.map (·.length)).sum + ys.length * a.length ≤ big then some (.str (Txt.join a ys)) else none
  | _ => none
def dJoin (t u : Rd Tr) : Rd Tr := ⟨fun ρ M Q E => t.f ρ M (fun d M1 => match d with
  | .str a => u.f ρ M1 (fun e M2 => onSome (joinT M2 (.str a) e) fun z => Q z M2) E
  | _ => False) E, fun h h' q => t.mono (fun d M1 z => by
    split at z
    · exact u.mono (fun e M2 => onSome_mono fun z => h z M2) h' z
    · exact z.elim) h' q⟩
theorem pd_join (ho : PD X W o ta) (he : PD X W e tb) (hs : starEach [e] X.env = [(false, eval e X.env)] := by rfl) (hbase : attributeBase o "join" X.env (eval o X.env) = eval o X.env := by rfl) (hline : (apos.endLine == pos.line) = true := by rfl) :
    PD X W (.Call (.Attribute o "join" apos) [e] [] pos) (dJoin ta tb) := pe_imp (pe_join ho he hs hbase hline) fun σ H Q h => by
  obtain ⟨ρ, M, S, E, ok, s, er, q⟩ := h
  refine ⟨ρ, M, S, E, ok, s, er, ta.mono (fun d M1 q1 v H1 S1 l1 o1 r1 => ?_) (fun _ _ z => z) q⟩
  dsimp only at q1
  split at q1
  · rename_i z
    simp only [Rep] at r1
    refine ⟨⟨_, r1⟩, ρ, M1, S1, E, o1, s.mono l1.le, er.mono l1, tb.mono (fun e M2 q2 v2 H2 S2 l2 o2 r2 => ?_) (fun _ _ z => z) q1⟩
    obtain ⟨y, hy, q3⟩ := onSome_of q2
    unfold joinT at hy
    obtain ⟨ys, e1, e2⟩ := Option.bind_eq_some_iff.mp hy
    obtain ⟨xs, e3, e4⟩ := Option.bind_eq_some_iff.mp e1
    split at e2
    · rename_i hc
      cases e2
      obtain ⟨a, vs, rfl, g, rs⟩ := seqL_rep o2 r2 e3
      rw [strs?_eq e4, Reps.strs] at rs
      exact ⟨z, a, ys, r1, rfl, .inl (by rw [← rs]; exact SqL.of g), hc, q3 _ H2 S2 (l1.trans l2) o2 rep_str⟩
    · cases e2
  · exact q1.elim
theorem pd_glob {x : Str} {v : V} {w : Value} {d : Tr} (hg : Gl X x) (hm : X.mg x = some w) (r : RelV v w) (rd : ∀ S, Rep X.K S d v) (hd : (x == ("__debug__" : Str)) = false := by decide) : PD X W (.Name x pos) (dC d) := pd_c (pe_glob hg hm r hd) rd
theorem pds_setLc {i : Nat} {y : Str} {py spos : Pos} {tg elt iter : Expr} {ifs : List Expr} {scope : Scope} {own : List (Str × Nat)} {it : Rd (List Tr)} {g : Tg} {tt : Rd Bool} {te : Rd Tr} (hc : X.calm = true) (hN : X.N.Nodup) (hy : X.N[i]? = some y) (hyl : X.env.scope.names.lookup y = some .local)
    (hsw : swapsWith (.ListComp elt [⟨tg, iter, ifs, 0⟩] scope pos) (some (.Name y py)) spos.line X.env = pure true) (hi : PDI X W tg iter it) (ok : BlkOk X.N X.env.scope scope own) (hgv : ∀ i ∈ g.ids, i ∈ own.map (·.2))
    (hg : ∀ (s : Shared) (H : Hp) (C : Addr) (cl : List (Str × Addr)) (fp : List Addr), PDG (X.blk s H scope (compEnvC scope cl C X.env) fp) tg g)
    (ht : ∀ (s : Shared) (H : Hp) (C : Addr) (cl : List (Str × Addr)) (fp : List Addr), PDTs (X.blk s H scope (compEnvC scope cl C X.env) fp) W0 ifs tt)
    (he : ∀ (s : Shared) (H : Hp) (C : Addr) (cl : List (Str × Addr)) (fp : List Addr), PD (X.blk s H scope (compEnvC scope cl C X.env) fp) W0 elt te) (hf : ∀ x : Value, foldedSetIterable iter X.env x = pure x := by intro _; rfl) :
    PDS X W (.Assign [.Name y py] (.ListComp elt [⟨tg, iter, ifs, 0⟩] scope pos) spos) (sAsg (.nm i) (dLc (own.map (·.2)) it g tt te)) :=
  ps_imp (ps_setLc hc hN hy hyl hsw hi ok hg ht he hf) fun D σ H h => by
    have h1 : liftE X.K W (dLc (own.map (·.2)) it g tt te) σ H fun x H1 => gName i x σ H1 D.nx := by
      have := lift_asg (K := X.K) h
      simp only [gTg] at this
      exact this
    exact lift_lc hgv h1
end
end DL
end T_DL9
section T_DL10
set_option Elab.async false
set_option linter.all false
set_option maxRecDepth 100000
set_option maxHeartbeats 4000000
/-! DL10: the law's own call where nothing is under repr; repr of data. -/
namespace DL
open PySem PySem.Spec PyProof.Rows L2

/-! ### the law's call -/
section
variable {P : Program} {w : World} {K : PySem.W.Frag} {mg mb : Str → Option Value} {CX : CXT} {k : Nat} {fa a : Addr} {fd : FuncData} {x : Str} {sp : Sp} {s₁ : Shared} {vs : List Value} {ns : List Int}
theorem hid_of {h : Heap} {H : Hp} {b : Addr} {o : Obj} (hA : ∀ b, H b ≠ none → b = a) (ha : a = b → H b = none) (e : h.get? b = some o) : (hidT h H).get? b = some o := by
  refine hidT_get e ?_
  cases q : H b with
  | none => rfl
  | some u =>
    have e' : b = a := hA b (by rw [q]; exact fun z => nomatch z)
    rw [ha e'.symm] at q
    cases q
theorem law_goG {H : Hp} (KX : K.In s₁.heap) (hns : s₁.heap.Ns mainGlobals mg) (hb : s₁.heap.Ns builtinsNs mb) (hbb : ∀ x : Str, x ≠ "__name__" → mb x = bootBuiltins x) (hlim : s₁.heap.NoLimit) (hg : s₁.gens = #[])
    (hN : ∀ {o : Obj} {es : Array DictEntry} {ep : Nat}, s₁.heap.get? a = some o → o.data = .dict es ep → False) (hS : ∃ o es ep, s₁.heap.get? sysModules = some o ∧ o.data = .dict es ep) (hr : Room k callerA)
    (F : ∀ base : Heap, K.In base → base.Ns mainGlobals mg → FnOkG true P w K mg base CX k fa fd [x] sp) (hbind : ∀ (s : Shared) (u : Value), BindsTo s fd ⟨[u], []⟩ [(x, u)])
    (hsp : sp [.ref a] H (fun v _ => v = .bl true) fun _ _ _ => False) (hCX : ∀ H e s', CX [] H s₁ (fun _ _ _ => False) e s' → False) (hO : Only H) (hok : HOk P w H s₁.heap) (hA : ∀ b, H b ≠ none → b = a) (hK : H a ≠ none → K.lookup a = none) :
    codeAny (model P w) callerA (.call (.ref fa) ⟨[.ref a], []⟩) (fun r s' => r = .ok (.ret (.bool true)) ∧ OldK s₁.heap s'.heap ∧ s'.os = s₁.os ∧ AllBare s'.gens) s₁ := by
  have dic : ∀ {b : Addr} {o : Obj} {es : Array DictEntry} {ep : Nat}, s₁.heap.get? b = some o → o.data = .dict es ep → (hidT s₁.heap H).get? b = some o := fun {b o es ep} e d => hid_of hA (fun z => by subst z; exact (hN e d).elim) e
  have nsK : ∀ {b : Addr} {m : Str → Option Value}, s₁.heap.Ns b m → (hidT s₁.heap H).Ns b m := fun {b m} ⟨o, es, ep, e, d, r⟩ => ⟨o, es, ep, dic e d, d, r⟩
  have hKb : K.In (hidT s₁.heap H) := fun b o e => hid_of hA (fun z => by
    subst z
    cases q : H a with
    | none => rfl
    | some u => rw [hK (by rw [q]; exact fun z => nomatch z)] at e; cases e) (KX b o e)
  have hM : Mod K mg (hidT s₁.heap H) := ⟨hKb, nsK hns, ⟨mb, nsK hb, hbb⟩, hlim.imp fun mc h => ⟨nsK h.1, h.2⟩⟩
  have nof : ∀ b : Addr, b ∉ frs ([] : List Env) := fun b z => by cases z
  have e0 : Env0 P w K mg (hidT s₁.heap H) callerA [] s₁ H := ⟨rfl, hM, fun b o e => of_hidT e, Nat.le_of_eq (hidT_size _ _), trivial, fun b hb => (nof b hb).elim, hok, .of_eq hg⟩
  refine codeAny_mono ((F _ hKb (nsK hns)).run callerA [] s₁ H ⟨[.ref a], []⟩ [.ref a] [.ref a] _ _ hr (fun _ => ⟨rfl, hS.elim fun o h => h.elim fun es h => h.elim fun ep h => ⟨o, dic h.1 h.2⟩⟩) e0 (hbind s₁ (.ref a)) (.cons rfl .nil) hsp) fun r s' h => ?_
  match r, h with
  | .error e, h => exact (hCX H e s' h).elim
  | .ok (.ret u), h =>
    obtain ⟨v, H', os, bare, un, hok', r', rfl⟩ := h
    obtain rfl : u = Value.bool true := r'
    refine ⟨rfl, OldK.of_keep fun b o e => ?_, os, bare⟩
    rcases hO b with q | ⟨ob, xs, q⟩
    · exact un.keep b o e q (nof b) (by simp)
    · obtain ⟨e1, _⟩ := hok b _ q
      obtain ⟨e2, _⟩ := hok' b _ (un.frzs b ob _ q)
      rw [e] at e1
      cases e1
      exact e2
theorem law_callG (KX : K.In s₁.heap) (hns : s₁.heap.Ns mainGlobals mg) (hb : s₁.heap.Ns builtinsNs mb) (hbb : ∀ x : Str, x ≠ "__name__" → mb x = bootBuiltins x) (hlim : s₁.heap.NoLimit) (hg : s₁.gens = #[]) (hS : ∃ o es ep, s₁.heap.get? sysModules = some o ∧ o.data = .dict es ep)
    (ha : s₁.heap.get? a = some { cls := .type "list", data := .seq vs.toArray }) (hi : IntsAre vs ns) (hl : ns.length ≤ sizeLine) (hr : Room k callerA)
    (F : ∀ base : Heap, K.In base → base.Ns mainGlobals mg → FnOkG true P w K mg base CX k fa fd [x] sp) (hbind : ∀ (s : Shared) (u : Value), BindsTo s fd ⟨[u], []⟩ [(x, u)])
    (hsp : ∀ H : Hp, Only H → SqL K H a (ns.map V.int) → sp [.ref a] H (fun v _ => v = .bl true) fun _ _ _ => False) (hCX : ∀ H e s', CX [] H s₁ (fun _ _ _ => False) e s' → False) :
    codeAny (model P w) callerA (.call (.ref fa) ⟨[.ref a], []⟩) (fun r s' => r = .ok (.ret (.bool true)) ∧ OldK s₁.heap s'.heap ∧ s'.os = s₁.os ∧ AllBare s'.gens) s₁ := by
  have hN : ∀ {o : Obj} {es : Array DictEntry} {ep : Nat}, s₁.heap.get? a = some o → o.data = .dict es ep → False := fun {o es ep} e d => by
    rw [ha] at e
    cases e
    cases (show Data.seq vs.toArray _ = Data.dict es ep from d)
  have rv := vals_ints hi
  have nl : ∀ {b : Addr} {u : HO}, ¬((none : Option HO) = some u) := fun z => by cases z
  cases hk : K.lookup a with
  | some o =>
    have e := KX a o hk
    rw [ha] at e
    cases e
    refine law_goG (H := fun _ => none) KX hns hb hbb hlim hg hN hS hr F hbind (hsp _ (fun _ => .inl rfl) (.inr ⟨_, vs.toArray, _, hk, rfl, rfl, rfl, ?_, by simpa using rv⟩)) hCX (fun _ => .inl rfl) (fun b u z => by cases z) (fun b z => (z rfl).elim) fun z => (z rfl).elim
    rw [List.size_toArray, hi.length]
    exact hl
  | none =>
    let H : Hp := upd (fun _ => none) a (.frz { cls := .type "list", data := .seq vs.toArray } (.lst (ns.map V.int)))
    have hO : ∀ b, H b ≠ none → b = a := fun b z => by
      by_cases hb : b = a
      · exact hb
      · exact (z (upd_ne hb)).elim
    have on : Only H := fun b => by
      by_cases hb : b = a
      · subst hb
        exact .inr ⟨_, _, upd_same⟩
      · exact .inl (upd_ne hb)
    refine law_goG (H := H) KX hns hb hbb hlim hg hN hS hr F hbind (hsp _ on (.inl (.inr ⟨_, upd_same⟩))) hCX on (fun b u z => ?_) hO fun _ => hk
    have hb : b = a := hO b (by rw [z]; exact fun q => by cases q)
    subst hb
    have z' : some (HO.frz { cls := .type "list", data := .seq vs.toArray } (.lst (ns.map V.int))) = some u := (upd_same (H := fun _ => none)).symm.trans z
    cases z'
    exact ⟨ha, by rw [List.length_map]; exact hl, vs, _, rv, ha⟩
end
/-- a law's end, over a head by facts; the script's numbers are bounded -/
theorem walk_G {l : PySem.W.OpenLaw} {n k : Nat} {q : Program} {loose : List Str} {XP : (Str → Option Value) → Heap → Prop} {YP : World → Heap → Prop} {d : DefRec} {CX : CXT} {x : Str}
    (hn : l.most = some n) (hn2 : n ≤ sizeLine) (hdf : d.params.defaults = []) (hr : Room k callerA)
    (F : ∀ (w : World) (mg : Str → Option Value) (fa : Addr) (h : Heap), YP w h → h.Ns mainGlobals mg → mg d.name = some (.ref fa) →
      ∃ (K : PySem.W.Frag) (fd : FuncData) (sp : Sp), K.In h ∧ (∃ o es ep, h.get? sysModules = some o ∧ o.data = .dict es ep) ∧ (∀ (s : Shared) (u : Value), BindsTo s fd ⟨[u], []⟩ [(x, u)]) ∧
        (∀ (H : Hp) (a : Addr) (ns : List Int), ns.length ≤ n → (∀ z ∈ ns, Builtin.Int.intBits z ≤ 1048576) → Only H → SqL K H a (ns.map V.int) → sp [.ref a] H (fun v _ => v = .bl true) fun _ _ _ => False) ∧
        ∀ base : Heap, K.In base → base.Ns mainGlobals mg → FnOkG true l.prog w K mg base CX k fa fd [x] sp)
    (hCX : ∀ (H : Hp) (s : Shared) (e : Value) (s' : Shared), CX [] H s (fun _ _ _ => False) e s' → False) :
    PySem.W.WalkO q loose XP YP l.row.toRowW d [] (fun f vs => PySem.call f vs) := by
  refine Att.attach_callB hn hdf fun w s₀ s₁ mg mb fa o pm cd doc a vs ns G Y ho hd hcd hmg hobj hints hlen hbits hg => ?_
  obtain ⟨K, fd, sp, KX, hS, hb, hsp, hF⟩ := F w mg fa _ Y G.T.g hmg
  exact law_callG KX G.T.g G.T.b G.T.builtins G.T.nolimit hg hS hobj hints (Nat.le_trans hlen hn2) hr hF hb (fun H hO hS => hsp H a ns hlen hbits hO hS) fun H e s' => hCX H s₁ e s'

/-! ### repr -/
def keyD : Key → PyData
  | .inl i => .int i
  | .inr x => .str x
mutual
def rpd : Tr → Option PyData
  | .non => some .none
  | .bl b => some (.bool b)
  | .int i => some (.int i)
  | .str x => some (.str x)
  | .lst xs => (rpds xs).map .list
  | .tup xs => (rpds xs).map .tuple
  | .dct ks ds => (rpds ds).map fun ps => .dict ((ks.map keyD).zip ps)
  | _ => none
def rpds : List Tr → Option (List PyData)
  | [] => some []
  | d :: ds => match rpd d, rpds ds with
    | some p, some ps => some (p :: ps)
    | _, _ => none
end
/-- a cell as a tree -/
def viewC (M : Me) : Tr → Tr
  | .cell k => (match M[k]? with
    | some (.lst xs) => .lst xs
    | some (.dct ks ds) => .dct ks ds
    | _ => .cell k)
  | d => d
def reprF : FA := fun M ds => match ds with
  | [d] => (rpd (viewC M d)).bind fun p => if p.showable && decide (p.depth ≤ 100) && decide (p.shown.length ≤ big) then some (.str p.shown, M) else none
  | _ => none
section
variable {X : Cx} {pins : List (Addr × Obj)} {σ : L2.St} {H : Hp} {s : Shared} {S : Gh} {M : Me}
theorem no_sys (hs : ∃ o, X.base.get? sysModules = some o) (I : Inv X pins σ H s) {a : Addr} {o : HO} (e : H a = some o) : a ≠ sysModules := by
  intro z
  subst z
  obtain ⟨ob, q⟩ := hs
  rw [(I.bs _ _ q).2] at e
  cases e
theorem rd_key (h : Heap) {k : Key} {v : Value} (e : keyIs k v = true) : Reads h v (keyD k) [] := by
  rcases keyIs_shape e with ⟨j, t, rfl, rfl⟩ | ⟨y, t, rfl, rfl⟩
  · exact .int _ _
  · exact .str _ _
/-- the entries of a dict, from their keys and values -/
theorem rd_pairs {w : World} {P : Program} (h : Heap) : ∀ {es : List DictEntry} {us : List (Key × Value)} {ps : List PyData} {as : List Addr}, Pairs (mixKind P w) es us → ReadsAll h (us.map (·.2)) ps as →
    ReadsAll h (es.map (·.key)) (((us.map fun u => keyD u.1).zip ps).map (·.1)) [] ∧ ReadsAll h (es.map (·.val)) (((us.map fun u => keyD u.1).zip ps).map (·.2)) as
  | [], [], _, _, .nil, .nil => ⟨.nil, .nil⟩
  | e :: es, u :: us, _, _, .cons h1 h2 t, .cons r1 r2 => by
    obtain ⟨q1, q2⟩ := rd_pairs h t r2
    refine ⟨.cons (as := []) (rd_key h h1) q1, ?_⟩
    simp only [List.map_cons, List.zip_cons_cons]
    rw [h2]
    exact .cons r1 q2
theorem kv_split : ∀ {kvs : List (Key × V)} {us : List (Key × Value)}, KV kvs us → us.map (·.1) = kvs.map (·.1) ∧ Vals (kvs.map (·.2)) (us.map (·.2))
  | [], [], .nil => ⟨rfl, .nil⟩
  | _ :: _, _ :: _, .cons h t => by
    obtain ⟨h1, h2⟩ := kv_split t
    exact ⟨by simp only [List.map_cons, h1, h.1], .cons h.2 h2⟩
theorem rpd_dct (hy : ∃ o, X.base.get? sysModules = some o) (I : Inv X pins σ H s) {a : Addr} {kvs : List (Key × V)} {ks : List Key} {ps : List PyData} (ha : H a = some (.dK kvs)) (hk : kvs.map Prod.fst = ks)
    (h : ∀ us, Vals (kvs.map Prod.snd) us → ∃ as, ReadsAll s.heap us ps as ∧ sysModules ∉ as) : ∃ as, Reads s.heap (.ref a) (.dict ((ks.map keyD).zip ps)) as ∧ sysModules ∉ as := by
  obtain ⟨_, hs, vs, kv, ob, es, ep, ho, hx, hd, _, hp, _⟩ := I.hok a _ ha
  obtain ⟨h1, h2⟩ := kv_split kv
  obtain ⟨as, q1, q2⟩ := h _ h2
  obtain ⟨r1, r2⟩ := rd_pairs s.heap hp q1
  have e : (ks.map keyD) = vs.map fun u => keyD u.1 := by
    rw [← hk, show (kvs.map Prod.fst) = vs.map (·.1) from h1.symm, List.map_map]
    rfl
  rw [e]
  refine ⟨_, .dict ho hx.1 hd r1 r2, fun z => ?_⟩
  rcases List.mem_append.mp z with z | z
  · rcases List.mem_cons.mp z with z | z
    · exact no_sys hy I ha z.symm
    · simp at z
  · exact q2 z
mutual
theorem rpd_reads (hy : ∃ o, X.base.get? sysModules = some o) (I : Inv X pins σ H s) (o : OkH X.K S M H) : ∀ (d : Tr) (v : V) (u : Value) (p : PyData), Rep X.K S d v → RelV v u → rpd d = some p → ∃ as, Reads s.heap u p as ∧ sysModules ∉ as
  | .non, v, u, p, r, q, e => by simp only [Rep] at r; simp only [rpd, Option.some.injEq] at e; subst r e; cases q; exact ⟨_, .none, by simp⟩
  | .bl b, v, u, p, r, q, e => by simp only [Rep] at r; simp only [rpd, Option.some.injEq] at e; subst r e; cases q; exact ⟨_, .bool b, by simp⟩
  | .int b, v, u, p, r, q, e => by simp only [Rep] at r; simp only [rpd, Option.some.injEq] at e; subst r e; obtain ⟨t, rfl⟩ := q; exact ⟨_, .int b t, by simp⟩
  | .str b, v, u, p, r, q, e => by simp only [Rep] at r; simp only [rpd, Option.some.injEq] at e; subst r e; obtain ⟨t, rfl⟩ := q; exact ⟨_, .str b t, by simp⟩
  | .lst xs, v, u, p, r, q, e => by
    simp only [Rep] at r
    simp only [rpd, Option.map_eq_some_iff] at e
    obtain ⟨a, vs, rfl, g, rs⟩ := r
    obtain ⟨ps, e1, rfl⟩ := e
    cases q
    have ha := o.sub _ _ g
    obtain ⟨its, rv, ⟨ob, n, ho, hc, _, hd⟩, _⟩ := I.list (SqL.of ha)
    obtain ⟨as, q1, q2⟩ := rpds_reads hy I o xs vs its ps rs rv e1
    refine ⟨_, .list ho hc hd q1, fun z => ?_⟩
    rcases List.mem_cons.mp z with z | z
    · exact no_sys hy I ha z.symm
    · exact q2 z
  | .tup xs, v, u, p, r, q, e => by
    simp only [Rep] at r
    simp only [rpd, Option.map_eq_some_iff] at e
    obtain ⟨a, vs, rfl, g, rs⟩ := r
    obtain ⟨ps, e1, rfl⟩ := e
    cases q
    obtain ⟨its, rv, ⟨ob, ho, hc, n, hd⟩, _⟩ := I.tuple (o.sqT g)
    obtain ⟨as, q1, q2⟩ := rpds_reads hy I o xs vs its ps rs rv e1
    exact ⟨_, .tuple ho hc hd q1, q2⟩
  | .dct ks xs, v, u, p, r, q, e => by
    simp only [Rep] at r
    simp only [rpd, Option.map_eq_some_iff] at e
    obtain ⟨a, kvs, rfl, g, hk, rs⟩ := r
    obtain ⟨ps, e1, rfl⟩ := e
    cases q
    exact rpd_dct hy I (o.sub _ _ g) hk fun us rv => rpds_reads hy I o xs _ us ps rs rv e1
  | .ins _ _, v, u, p, r, q, e => by simp [rpd] at e
  | .exc _ _, v, u, p, r, q, e => by simp [rpd] at e
  | .cell _, v, u, p, r, q, e => by simp [rpd] at e
  | .scr _, v, u, p, r, q, e => by simp [rpd] at e
  | .dkf _ _, v, u, p, r, q, e => by simp [rpd] at e
theorem rpds_reads (hy : ∃ o, X.base.get? sysModules = some o) (I : Inv X pins σ H s) (o : OkH X.K S M H) : ∀ (ds : List Tr) (vs : List V) (us : List Value) (ps : List PyData), Reps X.K S ds vs → Vals vs us → rpds ds = some ps → ∃ as, ReadsAll s.heap us ps as ∧ sysModules ∉ as
  | [], vs, us, ps, r, q, e => by
    simp only [Reps] at r
    simp only [rpds, Option.some.injEq] at e
    subst r e
    cases q
    exact ⟨_, .nil, by simp⟩
  | d :: ds, vs, us, ps, r, q, e => by
    simp only [Reps] at r
    obtain ⟨v, t, rfl, h1, h2⟩ := r
    simp only [rpds] at e
    split at e
    · rename_i p qs e1 e2
      cases e
      cases q with
      | cons q1 q2 =>
        obtain ⟨as, f1, f2⟩ := rpd_reads hy I o d v _ p h1 q1 e1
        obtain ⟨bs, g1, g2⟩ := rpds_reads hy I o ds t _ qs h2 q2 e2
        exact ⟨_, .cons f1 g1, fun z => (List.mem_append.mp z).elim f2 g2⟩
    · cases e
end
theorem repr_any {v : Value} {p : PyData} {as : List Addr} {A : Around} {E : Value → Shared → Prop} {Q : Value → Shared → Prop} {prog : Program} {w : World} (r : Reads s.heap v p as) (hs : p.showable = true) (hsm : sysModules ∉ as) (hz : p.shown.length ≤ sizeLine) (hg : A.guards = some []) (hu : A.units + (p.depth + 1) < cLine)
    (hQ : ∀ h' u tk, (∀ b o, s.heap.get? b = some o → h'.get? b = some o) → Q (.str p.shown u) { s with heap := h', toks := tk }) : wpAny (model prog w) A (call (.builtin "repr") [v]) Q E s := by
  cases r with
  | none => exact PySem.P.repr_of_none (by simp only [PyData.shown] at hQ; exact hQ s.heap _ _ fun _ _ e => e)
  | bool b => exact PySem.P.repr_of_bool (by simp only [PyData.shown] at hQ; exact hQ s.heap _ _ fun _ _ e => e)
  | int i t => exact PySem.P.repr_of_int (by simpa [PyData.showable] using hs) (by simp only [PyData.shown] at hQ; exact hQ s.heap _ _ fun _ _ e => e)
  | str x t => exact PySem.P.repr_of_str (by simp only [PyData.shown] at hQ; exact hQ s.heap _ _ fun _ _ e => e) (by simpa only [PyData.shown] using hz)
  | list h1 h2 h3 h4 => exact repr_of_reads' (.list h1 h2 h3 h4) hs (fun _ => hsm) hg hu (fun _ _ e => e) hQ hz
  | tuple h1 h2 h3 h4 => exact repr_of_reads' (.tuple h1 h2 h3 h4) hs (fun _ => hsm) hg hu (fun _ _ e => e) hQ hz
  | dict h1 h2 h3 h4 h5 => exact repr_of_reads' (.dict h1 h2 h3 h4 h5) hs (fun _ => hsm) hg hu (fun _ _ e => e) hQ hz
theorem c_repr {k : Nat} (hr : Room k X.A) (hgd : Gd X.base X.A) : CallR X (.builtin "repr") (rA X.K reprF) := by
  intro pins s σ H vs us Q I r h
  obtain ⟨hg, hy⟩ := hgd
  obtain ⟨S, M, ds, z, M', o, rs, hz, k⟩ := h
  unfold reprF at hz
  split at hz
  · rename_i d
    obtain ⟨p, e1, e2⟩ := Option.bind_eq_some_iff.mp hz
    split at e2
    · rename_i hc
      cases e2
      simp only [Bool.and_eq_true, decide_eq_true_eq] at hc
      obtain ⟨⟨c1, c2⟩, c3⟩ := hc
      obtain ⟨v, rfl, rv⟩ := reps1 rs
      obtain ⟨u, rfl, ru⟩ := vals1 r
      have hrd : ∃ as, Reads s.heap u p as ∧ sysModules ∉ as := by
        cases d with
        | cell j =>
          simp only [viewC] at e1
          split at e1
          · rename_i xs em
            obtain ⟨a, rfl, hc, _, vs, h1, h2⟩ := cell_rep o rv em
            simp only [rpd, Option.map_eq_some_iff] at e1
            obtain ⟨ps, e1, rfl⟩ := e1
            cases ru
            obtain ⟨its, rv, ⟨ob, n, ho, hc, _, hd⟩, _⟩ := I.list (SqL.of h1)
            obtain ⟨as, q1, q2⟩ := rpds_reads hy I o xs vs its ps h2 rv e1
            refine ⟨_, .list ho hc hd q1, fun z => ?_⟩
            rcases List.mem_cons.mp z with z | z
            · exact no_sys hy I h1 z.symm
            · exact q2 z
          · rename_i ks xs em
            obtain ⟨a, rfl, hc, _, kvs, h1, h3, h2⟩ := cell_rep o rv em
            simp only [rpd, Option.map_eq_some_iff] at e1
            obtain ⟨ps, e1, rfl⟩ := e1
            cases ru
            exact rpd_dct hy I h1 h3 fun us rv => rpds_reads hy I o xs _ us ps h2 rv e1
          · simp [rpd] at e1
        | _ => exact rpd_reads hy I o _ v u p rv ru e1
      obtain ⟨as, q1, q2⟩ := hrd
      refine repr_any q1 c1 q2 (by rw [← big_eq]; exact c3) hg (by have := hr.un; omega) fun h' u' tk k' => ?_
      exact ⟨.str p.shown, H, I.kept (t' := tk) k', ⟨_, rfl⟩, k _ H S (Gr.refl S H) o rep_str⟩
    · cases e2
  · cases hz
end
end DL
end T_DL10
section T_DL11
set_option Elab.async false
set_option linter.all false
set_option maxRecDepth 100000
set_option maxHeartbeats 4000000
/-! DL11: len(set(xs)) for keys of any number; sorted; isinstance. -/
namespace DL
open PySem PySem.Spec PyProof.Rows L2

/-! ### a set of keys from a list or tuple -/
def hasK (l : List Key) (k : Key) : Bool := l.any fun j => decide (j = k)
theorem hasK_iff {l : List Key} {k : Key} : hasK l k = true ↔ k ∈ l := by
  unfold hasK; simp
def stepK (l : List Key) (k : Key) : List Key := if hasK l k = true then l else l ++ [k]
/-- the keys that are met first -/
def metK (ks : List Key) : List Key := ks.foldl stepK []
theorem metK_snoc (ks : List Key) (k : Key) : metK (ks ++ [k]) = stepK (metK ks) k := by unfold metK; rw [List.foldl_append]; rfl
theorem stepK_mem {l : List Key} {k j : Key} : j ∈ stepK l k ↔ j ∈ l ∨ j = k := by
  unfold stepK
  by_cases h : hasK l k = true
  · rw [if_pos h]
    exact ⟨.inl, fun e => e.elim id fun e => e ▸ hasK_iff.mp h⟩
  · rw [if_neg h]; simp
theorem stepK_len (l : List Key) (k : Key) : (stepK l k).length = if hasK l k = true then l.length else l.length + 1 := by
  unfold stepK
  by_cases h : hasK l k = true <;> simp [h]
theorem metK_len (ks : List Key) : (metK ks).length ≤ ks.length := by
  have : ∀ (r l : List Key), (r.foldl stepK l).length ≤ l.length + r.length := by
    intro r
    induction r with
    | nil => intro l; simp
    | cons k r ih =>
      intro l
      have h1 := ih (stepK l k)
      have h2 : (stepK l k).length ≤ l.length + 1 := by rw [stepK_len]; split <;> omega
      simp only [List.foldl_cons, List.length_cons]
      omega
  have := this ks []
  simpa [metK] using this
theorem metK_nodup (ks : List Key) : (metK ks).length = ks.length ↔ ks.Nodup := by
  have gen : ∀ (r l : List Key), ((r.foldl stepK l).length = l.length + r.length ↔ r.Nodup ∧ ∀ k ∈ r, k ∉ l) ∧ (r.foldl stepK l).length ≤ l.length + r.length := by
    intro r
    induction r with
    | nil => intro l; simp
    | cons k r ih =>
      intro l
      obtain ⟨h1, h2⟩ := ih (stepK l k)
      simp only [List.foldl_cons, List.length_cons]
      by_cases hk : k ∈ l
      · have e : stepK l k = l := if_pos (hasK_iff.mpr hk)
        rw [e] at h1 h2 ⊢
        refine ⟨⟨fun z => by omega, fun z => absurd hk (z.2 k (List.mem_cons_self ..))⟩, by omega⟩
      · have e : stepK l k = l ++ [k] := if_neg fun z => hk (hasK_iff.mp z)
        rw [e] at h1 h2 ⊢
        simp only [List.length_append, List.length_singleton] at h1 h2 ⊢
        refine ⟨⟨fun z => ?_, fun z => ?_⟩, by omega⟩
        · obtain ⟨z1, z2⟩ := h1.mp (by omega)
          refine ⟨List.nodup_cons.mpr ⟨fun q => (z2 k q) (by simp), z1⟩, fun j hj => ?_⟩
          rcases List.mem_cons.mp hj with rfl | hj
          · exact hk
          · exact fun q => z2 j hj (List.mem_append_left _ q)
        · obtain ⟨z1, z2⟩ := z
          obtain ⟨z3, z4⟩ := List.nodup_cons.mp z1
          have := h1.mpr ⟨z4, fun j hj q => by
            rcases List.mem_append.mp q with q | q
            · exact z2 j (List.mem_cons_of_mem _ hj) q
            · exact z3 (List.mem_singleton.mp q ▸ hj)⟩
          omega
  have := (gen ks []).1
  simpa [metK] using this
section
variable {prog : Program} {w : World} {A : Around} {R : Result → Shared → Prop} {I : Addr} {fp wr : List Addr} {G : Array GenState → Array GenState → Prop} {n : Nat} {P : Nat → Value → Prop} {St : Nat → Shared → Prop}
theorem setOf_move {h h' : Heap} {a : Addr} {S : Key → Bool} {n : Nat} (R : h.SetOf (mixKind prog w) a S n) (k : ∀ o, h.get? a = some o → h'.get? a = some o) : h'.SetOf (mixKind prog w) a S n := setOf_at R k
theorem fill_keys (W : WalksS prog w A.in1 I fp wr G n P St) (T : Addr) (hT : T ∉ fp) (ks : List Key) (hl : ks.length = n) (hv : ∀ i v, P i v → ∃ k, ks[i]? = some k ∧ keyIs k v = true) (hb : n + 1 < scanBound) :
    ∀ (m i : Nat) (s : Shared), i + m = n → St i s → s.heap.SetOf (mixKind prog w) T (fun k => hasK (metK (ks.take i)) k) (metK (ks.take i)).length →
      (∀ s', Moved (T :: wr) G s s' → s'.heap.SetOf (mixKind prog w) T (fun k => hasK (metK ks) k) (metK ks).length → R (.ok (.ret .none)) s') →
      codeAny (model prog w) A (.builtin "set.update.loop" ⟨[.ref T, .ref I], []⟩) R s := by
  have out : ∀ b, b ∉ T :: wr → b ∉ wr := fun b z q => z (List.mem_cons_of_mem _ q)
  have hTw : T ∉ wr := fun z => hT (W.sub _ z)
  intro m
  induction m with
  | zero =>
    intro i s hi hst hS hR
    obtain rfl : i = n := by omega
    rw [← hl, List.take_length] at hS
    refine codeAny_builtin PyProof.Rows.F.entry_set_update_loop ?_
    rw [Around.under_plainId PyProof.Rows.F.plain_set_update_loop _]
    show wpAny _ A.in1 (pyNext (.ref I) >>= _) _ _ s
    refine wpAny_bind (W.done s _ _ hst fun s' hm => wpAny_pure (hR s' (hm.mono fun b hb => List.mem_cons_of_mem _ hb) (setOf_move hS fun o e => hm.heap T o hTw e)))
  | succ m ih =>
    intro i s hi hst hS hR
    refine codeAny_builtin PyProof.Rows.F.entry_set_update_loop ?_
    rw [Around.under_plainId PyProof.Rows.F.plain_set_update_loop _]
    show wpAny _ A.in1 (pyNext (.ref I) >>= _) _ _ s
    refine wpAny_bind (W.item i s _ _ (by omega) hst fun v s' hP hst' hm => ?_)
    obtain ⟨k, hk, kv⟩ := hv i v hP
    have sc : v.scannable = true := by
      rcases keyIs_shape kv with ⟨_, _, _, rfl⟩ | ⟨_, _, _, rfl⟩ <;> rfl
    show wpAny _ A.in1 (holding [v] (setAdd T v) >>= _) _ _ s'
    refine wpAny_bind (wpAny_holding ?_)
    unfold setAdd
    refine wpAny_holding (wpAny_bind ((mixKind prog w).pyHash (k := k) kv ?_))
    have room : (metK (ks.take i)).length + 1 < scanBound := by
      have := metK_len (ks.take i)
      rw [List.length_take] at this
      omega
    refine wpAny_setAddHashed_of (knd := mixKind prog w) (s := { s' with toks := s'.toks + 1 }) kv sc (setOf_move hS fun o e => hm.heap T o hTw e) room fun h' hsb hS2 => ?_
    have ht : ks.take (i + 1) = ks.take i ++ [k] := by rw [List.take_add_one, hk]; rfl
    have hS3 : h'.SetOf (mixKind prog w) T (fun k' => hasK (metK (ks.take (i + 1))) k') (metK (ks.take (i + 1))).length := by
      rw [ht, metK_snoc]
      have e1 : (fun j => hasK (metK (ks.take i)) j || decide (j = k)) = fun j => hasK (stepK (metK (ks.take i)) k) j := by
        funext j
        rw [Bool.eq_iff_iff, Bool.or_eq_true, hasK_iff, hasK_iff, stepK_mem, decide_eq_true_eq]
      rw [stepK_len, ← e1]
      exact hS2
    refine wpAny_pure ⟨plainId_quiet PyProof.Rows.F.plain_set_update_loop _, ih (i + 1) _ (by omega) (W.frame _ s' _ _ hst' (Nat.le_succ _) fun b hb o e => ?_) hS3 fun s2 hm2 hS4 => ?_⟩
    · rw [hsb.2 b fun z => hT (z ▸ hb)]; exact e
    · refine hR s2 (Moved.trans W.gtrans ((hm.mono fun b hb => List.mem_cons_of_mem _ hb).then_heap (Nat.le_succ _) fun b o hb e => ?_) hm2) hS4
      rw [hsb.2 b fun z => hb (by rw [z]; exact List.mem_cons_self ..)]; exact e
end
section
variable {prog : Program} {w : World} {A : Around} {E : Value → Shared → Prop} {s : Shared}
/-- the new empty set -/
abbrev set0 (led : Bool) : Obj := { cls := .type "set", dict := none, data := .set #[] 0 (.fresh 0 0 led) }
/-- what set(xs) leaves -/
def Filled (prog : Program) (w : World) (s : Shared) (ks : List Key) (s2 : Shared) : Prop := ∃ h' tk, s2 = { s with heap := h', toks := tk } ∧ h'.SetOf (mixKind prog w) s.heap.objs.size (fun k => hasK (metK ks) k) (metK ks).length ∧ ∀ b o, b < s.heap.objs.size → s.heap.get? b = some o → h'.get? b = some o
theorem fill_init {it : Addr} {led : Bool} {fp wr : List Addr} {o : Obj} {St : Nat → Heap → Prop} {items : Array Value} {ks : List Key} (W : Walks prog w A.in1 it fp wr items.size (fun i v => items[i]? = some v) St)
    (hit : it = (s.heap.push (set0 led)).objs.size) (hT : s.heap.objs.size ∉ fp) (hw : ∀ b ∈ wr, b = it) (st : St 0 ((s.heap.push (set0 led)).push o))
    (hi : ∀ (i : Nat) (v : Value), items[i]? = some v → ∃ k, ks[i]? = some k ∧ keyIs k v = true) (hl : ks.length = items.size) (hb : items.size + 1 < scanBound) :
    codeAny (model prog w) A (.builtin "set.update.loop" ⟨[.ref s.heap.objs.size, .ref it], []⟩) (fun r s2 => r = .ok (.ret .none) ∧ Filled prog w s ks s2) { s with heap := (s.heap.push (set0 led)).push o } := by
  refine fill_keys W.toS s.heap.objs.size hT ks hl hi hb items.size 0 _ (by omega) st ?_ fun s' hm hS => ?_
  · have hget : ((s.heap.push (set0 led)).push o).get? s.heap.objs.size = some (set0 led) := Heap.get?_push_of_some _ (Heap.get?_push_size _ rfl)
    exact ⟨_, #[], 0, _, hget, ⟨rfl, rfl, rfl⟩, rfl, (fun e he => by simp at he), (fun k => by simp [hasK, metK]), (by decide), (by rfl), rfl⟩
  · obtain ⟨h', g', d', tk', os'⟩ := s'
    obtain rfl : g' = s.gens := hm.gens
    obtain rfl : d' = s.drawn := hm.drawn
    obtain rfl : os' = s.os := hm.os
    refine ⟨rfl, h', tk', rfl, hS, fun b ob hb e => hm.heap b ob (fun z => ?_) (Heap.get?_push_of_some _ (Heap.get?_push_of_some _ e))⟩
    rcases List.mem_cons.mp z with z | z
    · exact Nat.ne_of_lt hb z
    · have e := hw b z
      rw [hit, Heap.size_push] at e
      exact Nat.ne_of_lt (Nat.lt_succ_of_lt hb) e
set_option maxHeartbeats 8000000 in
theorem call_set_keys {l : Addr} {items : Array Value} {ks : List Key} {Q : Value → Shared → Prop} (hh : A.handled = none) (hl : s.heap.IsList l items ∨ s.heap.IsTuple l items)
    (hi : ∀ (i : Nat) (v : Value), items[i]? = some v → ∃ k, ks[i]? = some k ∧ keyIs k v = true) (hz : ks.length = items.size) (hb : items.size + 1 < scanBound) (h : ∀ s2, Filled prog w s ks s2 → Q (.ref s.heap.objs.size) s2) : wpAny (model prog w) A (call (.type "set") [.ref l]) Q E s := by
  obtain ⟨c, tl, hmro⟩ := PySem.F.called_set.mro
  have hmade := PySem.F.called_set.made
  have hsub := PySem.F.called_set.sub
  refine wpAny_call (codeAny_of_tree ?_)
  show wpAny _ _ (callAny (.type "set") _) _ _ _
  refine wpAny_pure ⟨Code.quiet_builtin _ (by decide +kernel), codeAny_builtin PySem.F.entry_type_call ?_⟩
  rw [Around.under_plain (weight_type_call_type "set" [.ref l] []) rfl]
  have h1 := PySem.F.called_set.notType
  have h2 := PySem.F.called_set.canCreate
  have hct := PySem.F.typeCall_set_1 (.ref l)
  repeat (any_goals (first | assumption | wp_step))
  refine codeAny_mono (code_set_new_1 (.ref l) (E := E) (Q₁ := fun obj s₁ => ∃ led : Bool, obj = .ref s.heap.objs.size ∧ s₁ = { s with heap := s.heap.push (set0 led) }) fun led => ⟨led, rfl, rfl⟩) fun r s₁ hr => ?_
  match r, hr with
  | .error e, hr => exact hr
  | .ok (.ret obj), ⟨led, e1, e2⟩ =>
    subst e1 e2
    have hS : (s.heap.push (set0 led)).get? s.heap.objs.size = some (set0 led) := Heap.get?_push_size _ rfl
    have hT : Shared.TypeIs { s with heap := s.heap.push (set0 led) } (.ref s.heap.objs.size) "set" := ⟨_, hS, rfl⟩
    have hli := PySem.F.called_set.init.lookup
    have hbi := PySem.F.called_set.init.bind (.ref s.heap.objs.size)
    repeat (any_goals (first | assumption | wp_step))
    refine codeAny_mono (codeAny_call_builtin (R := wants (fun r s₂ => r = .none ∧ Filled prog w s ks s₂) E) PySem.F.called_set.init.plain PySem.F.entry_set_init (check_set_init_1 hT ?_)) fun r₂ s₂ hr₂ => ?_
    · have hh3 : A.in1.in1.in1.handled = none := by simp [hh]
      have szp : (s.heap.push (set0 led)).objs.size = s.heap.objs.size + 1 := Heap.size_push _ _
      rcases hl with hl | hl
      · obtain ⟨⟨ocls, odict, odata, oslots⟩, hol, hcl, nl, hdl⟩ := hl
        simp only at hcl hdl
        subst hcl; subst hdl
        have hol' : (s.heap.push (set0 led)).get? l = some { cls := .type "list", dict := odict, data := .seq items nl, slots := oslots } := Heap.get?_push_of_some _ hol
        have hsls := PySem.F.sub_list_set
        have hslf := PySem.F.sub_list_frozenset
        have hne : (Value.type "list" == Value.type "dict") = false := by decide
        have hl1 : (s.heap.push (set0 led)).IsList l items := ⟨_, hol', rfl, nl, rfl⟩
        unfold Builtin.«set.__init__» noKeywords Builtin.Frozenset.updateFrom
        generalize hPI : pyIter = PI
        wp_walk
        subst hPI
        refine wpAny_pyIter_list hl1 ?_
        refine wpAny_bind (wpAny_runValue ?_)
        have hlS : l < s.heap.objs.size := Heap.lt_size hol
        have hne2 : l ≠ (s.heap.push (set0 led)).objs.size := by
          rw [Heap.size_push]; exact Nat.ne_of_lt (Nat.lt_succ_of_lt hlS)
        have hSf : s.heap.objs.size ∉ [(s.heap.push (set0 led)).objs.size, l] := by
          rw [Heap.size_push]; simp only [List.mem_cons, List.not_mem_nil, or_false, not_or]
          exact ⟨Nat.ne_of_lt (Nat.lt_succ_self _), Nat.ne_of_gt hlS⟩
        refine codeAny_mono (fill_init (Walks.list hh3 _ l hne2 items) rfl hSf (fun b hb => List.mem_singleton.mp hb) ⟨⟨_, Heap.get?_push_size _ rfl, rfl, rfl⟩, hl1.push _⟩ hi hz hb) fun r s2 hr => ?_
        obtain ⟨rfl, hF⟩ := hr
        refine wpAny_pure ?_
        exact wpAny_pure ⟨rfl, hF⟩
      · obtain ⟨⟨ocls, odict, odata, oslots⟩, hol, hcl, nl, hdl⟩ := hl
        simp only at hcl hdl
        subst hcl; subst hdl
        have hol' : (s.heap.push (set0 led)).get? l = some { cls := .type "tuple", dict := odict, data := .seq items nl, slots := oslots } := Heap.get?_push_of_some _ hol
        have hsls := PySem.F.sub_tuple_set
        have hslf := PySem.F.sub_tuple_frozenset
        have hne : (Value.type "tuple" == Value.type "dict") = false := by decide
        have hl1 : (s.heap.push (set0 led)).IsTuple l items := ⟨_, hol', rfl, nl, rfl⟩
        unfold Builtin.«set.__init__» noKeywords Builtin.Frozenset.updateFrom
        generalize hPI : pyIter = PI
        wp_walk
        subst hPI
        refine wpAny_pyIter_tuple hl1 ?_
        refine wpAny_bind (wpAny_runValue ?_)
        have hlS : l < s.heap.objs.size := Heap.lt_size hol
        have hne2 : l ≠ (s.heap.push (set0 led)).objs.size := by
          rw [Heap.size_push]; exact Nat.ne_of_lt (Nat.lt_succ_of_lt hlS)
        have hSf : s.heap.objs.size ∉ [(s.heap.push (set0 led)).objs.size, l] := by
          rw [Heap.size_push]; simp only [List.mem_cons, List.not_mem_nil, or_false, not_or]
          exact ⟨Nat.ne_of_lt (Nat.lt_succ_self _), Nat.ne_of_gt hlS⟩
        refine codeAny_mono (fill_init (Walks.tuple hh3 _ l hne2 items) rfl hSf (fun b hb => List.mem_singleton.mp hb) ⟨⟨_, Heap.get?_push_size _ rfl, rfl, rfl⟩, hl1.push _⟩ hi hz hb) fun r s2 hr => ?_
        obtain ⟨rfl, hF⟩ := hr
        refine wpAny_pure ?_
        exact wpAny_pure ⟨rfl, hF⟩
    · match r₂, hr₂ with
      | .error e, hr₂ => exact hr₂
      | .ok (.ret r), ⟨e1, hF⟩ =>
        subst e1
        repeat (any_goals (first | assumption | wp_step))
        exact h _ hF
end
end DL
end T_DL11
section T_DL12
set_option Elab.async false
set_option linter.all false
set_option maxRecDepth 100000
set_option maxHeartbeats 4000000
/-! DL12: len(set(xs)), sorted, isinstance over trees. -/
namespace DL
open PySem PySem.Spec PyProof.Rows L2

def keys? : List Tr → Option (List Key)
  | [] => some []
  | d :: r => (keyT d).bind fun k => (keys? r).map fun l => k :: l
theorem keys?_rep {K : PySem.W.Frag} {S : Gh} : ∀ {ds : List Tr} {vs : List V} {ks : List Key}, Reps K S ds vs → keys? ds = some ks → vs = ks.map kV
  | [], vs, ks, r, e => by
    simp only [Reps] at r
    simp only [keys?, Option.some.injEq] at e
    subst r e
    rfl
  | d :: ds, vs, ks, r, e => by
    simp only [Reps] at r
    obtain ⟨v, t, rfl, h1, h2⟩ := r
    simp only [keys?] at e
    obtain ⟨k, e1, e2⟩ := Option.bind_eq_some_iff.mp e
    obtain ⟨l, e3, rfl⟩ := Option.map_eq_some_iff.mp e2
    rw [keyT_rep h1 e1, keys?_rep h2 e3]
    rfl
def lenSetT (M : Me) (d : Tr) : Option Tr := ((seqA M d).bind keys?).bind fun ks => if ks.length ≤ 4000 then some (.int (metK ks).length) else none
def dLenSet (t : Rd Tr) : Rd Tr := ⟨fun ρ M Q E => t.f ρ M (fun d M1 => onSome (lenSetT M1 d) fun z => Q z M1) E, fun h h' q => t.mono (fun d M1 => onSome_mono fun z => h z M1) h' q⟩
section
variable {X : Cx} {W : WX} {pos : Pos} {a e : Expr} {es : List Expr} {t : Rd Tr} {u : Rd (List Tr)}
theorem keyIs_of {k : Key} {u : Value} (r : RelV (kV k) u) : keyIs k u = true := by
  cases k with
  | inl i => obtain ⟨t, rfl⟩ := r; exact keyIs_int i t
  | inr x => obtain ⟨t, rfl⟩ := r; exact keyIs_str x t
theorem keys_vals : ∀ {ks : List Key} {us : List Value}, Vals (ks.map kV) us → ∀ (i : Nat) (v : Value), us[i]? = some v → ∃ k, ks[i]? = some k ∧ keyIs k v = true
  | [], _, .nil, i, v, e => by simp at e
  | k :: ks, u :: us, .cons r t, 0, v, e => by
    simp only [List.getElem?_cons_zero, Option.some.injEq] at e
    subst e
    exact ⟨k, rfl, keyIs_of r⟩
  | k :: ks, u :: us, .cons r t, i + 1, v, e => by
    simp only [List.getElem?_cons_succ] at e ⊢
    exact keys_vals t i v e
theorem pd_lenSet {p p2 q : Pos} (hc : X.calm = true) (hg : Gl X "len") (hm : X.mg "len" = none) (hg2 : Gl X "set") (hm2 : X.mg "set" = none) (ha : PD X W a t) (na : starEach [a] X.env = (false, eval a X.env) :: starEach [] X.env := by rfl) :
    PD X W (.Call (.Name "len" p) [.Call (.Name "set" p2) [a] [] q] [] pos) (dLenSet t) := by
  refine ⟨fun pins s σ H Q I h => ?_⟩
  obtain ⟨ρ, M, S, E, o, sl, er, q⟩ := h
  have h1 : liftE X.K W t σ H fun x H1 => ∃ l, ∃ ks : List Key, x = .ref l ∧ (SqL X.K H1 l (ks.map kV) ∨ SqT X.K H1 l (ks.map kV)) ∧ ks.length ≤ 4000 ∧ Q (.int (metK ks).length) H1 := by
    refine ⟨ρ, M, S, E, o, sl, er, t.mono (fun d M1 q1 v H1 S1 l1 o1 r1 => ?_) (fun _ _ z => z) q⟩
    obtain ⟨z, e, q2⟩ := onSome_of q1
    obtain ⟨ks, e1, e2⟩ := Option.bind_eq_some_iff.mp e
    obtain ⟨xs, e3, e4⟩ := Option.bind_eq_some_iff.mp e1
    split at e2
    · rename_i hl
      cases e2
      obtain ⟨l, vs, rfl, hq, rs⟩ := seqA_rep o1 r1 e3
      rw [keys?_rep rs e4] at hq
      exact ⟨l, ks, rfl, hq, hl, q2 _ H1 S1 l1 o1 rep_int⟩
    · cases e2
  refine Call_ (ld_blt I hg hm boot_len ?_)
  refine PyProof.Rows.callWith_builtin1 (PyProof.Rows.args_cons ?_ rfl) rfl rfl
  refine Call_ (ld_blt I hg2 hm2 boot_set ?_)
  refine PyProof.Rows.callWith_type1 (PyProof.Rows.args_cons (thn (ha.run pins s σ H _ I h1) fun v s1 ⟨x, H1, I1, r1, q1⟩ => PyProof.Rows.args_nil ?_) na) na rfl
  obtain ⟨l, ks, rfl, hq, hl, q1⟩ := q1
  cases r1
  have go : ∀ its : List Value, Vals (ks.map kV) its → (s1.heap.IsList l its.toArray ∨ s1.heap.IsTuple l its.toArray) → _ := fun its rv hI =>
    have hlen : its.toArray.size = ks.length := by rw [List.size_toArray, ← rv.length, List.length_map]
    call_set_keys (prog := X.prog) (w := X.w) (A := X.A) (E := X.xe) (s := s1) (ks := ks) (Q := fun vs s₂ => wpAny (model X.prog X.w) X.A (spliced (backTo pos (starEach [] X.env))) (fun us s₃ => wpAny (model X.prog X.w) X.A (call (.builtin "len") (vs :: us)) (EP X pins σ Q) X.xe s₃) X.xe s₂) (I1.ok.hd hc) hI
      (fun i v e => keys_vals rv i v (by simpa using e)) hlen.symm (by rw [hlen]; unfold scanBound; omega) fun s2 hF => by
      obtain ⟨h', tk, rfl, hS, hk⟩ := hF
      refine PyProof.Rows.args_nil ?_
      obtain ⟨ob, es, ep, tt, ho, hex, hd, _, _, _, hf, hn⟩ := hS
      have I2 : Inv X pins σ H1 { s1 with heap := h', toks := tk } := I1.kept fun b ob e => hk b ob (Heap.lt_size e) e
      have hm := metK_len ks
      exact call_len_set ho hex hd hf (by rw [hn]; omega) ⟨.int (metK ks).length, H1, I2.tok _, ⟨_, by rw [hn]⟩, q1⟩
  rcases hq with hq | hq
  · obtain ⟨its, rv, pl, hz⟩ := I1.list hq
    exact go its rv (.inl pl.isList)
  · obtain ⟨its, rv, pl, hz⟩ := I1.tuple hq
    exact go its rv (.inr pl)

/-! ### sorted -/
def leS (a b : Str) : Bool := !ltCps b.cps.toList a.cps.toList
theorem leS_iff {a b : Str} : leS a b = true ↔ a.cps.toList ≤ b.cps.toList := by
  unfold leS
  rw [ltCps_eq]
  simp
theorem str_inj {a b : Str} (h : a.cps.toList = b.cps.toList) : a = b := by
  obtain ⟨x⟩ := a
  obtain ⟨y⟩ := b
  have : x = y := Array.toList_inj.mp h
  rw [this]
def sortI (ns : List Int) : List Int := ns.mergeSort fun a b => decide (a ≤ b)
def sortS (xs : List Str) : List Str := xs.mergeSort leS
theorem sortI_of {ns ms : List Int} (p : ms.Perm ns) (h : ms.Pairwise (· ≤ ·)) : ms = sortI ns := by
  refine List.Perm.eq_of_pairwise (le := fun a b : Int => a ≤ b) (fun a b _ _ h1 h2 => by omega) h ?_ (p.trans (List.mergeSort_perm ns _).symm)
  have := List.pairwise_mergeSort (le := fun a b : Int => decide (a ≤ b)) (fun a b c h1 h2 => by simp only [decide_eq_true_eq] at *; omega) (fun a b => by simp only [Bool.or_eq_true, decide_eq_true_eq]; omega) ns
  exact this.imp fun h => of_decide_eq_true h
theorem rising_pw : ∀ (p : Str) (l : List Str), risingS p l = true → (p :: l).Pairwise fun a b => leS a b = true
  | p, [], _ => by simp
  | p, x :: r, h => by
    unfold risingS at h
    obtain ⟨h1, h2⟩ := Bool.and_eq_true_iff.mp h
    have ih := rising_pw x r h2
    refine List.pairwise_cons.mpr ⟨fun y hy => ?_, ih⟩
    have h3 : leS p x = true := h1
    rcases List.mem_cons.mp hy with rfl | hy
    · exact h3
    · exact leS_iff.mpr (List.le_trans (leS_iff.mp h3) (leS_iff.mp ((List.pairwise_cons.mp ih).1 y hy)))
theorem sortS_of {xs ys : List Str} (p : ys.Perm xs) (h : sortedS ys = true) : ys = sortS xs := by
  refine List.Perm.eq_of_pairwise (le := fun a b : Str => leS a b = true) (fun a b _ _ h1 h2 => str_inj (List.le_antisymm (leS_iff.mp h1) (leS_iff.mp h2))) ?_ ?_ (p.trans (List.mergeSort_perm xs _).symm)
  · cases ys with
    | nil => simp
    | cons y r => exact rising_pw y r h
  · refine List.pairwise_mergeSort (le := leS) (fun a b c h1 h2 => leS_iff.mpr (List.le_trans (leS_iff.mp h1) (leS_iff.mp h2))) (fun a b => ?_) xs
    rw [Bool.or_eq_true, leS_iff, leS_iff]
    exact List.le_total _ _
/-- sorted(xs) of ints, of texts (fewer than 64) -/
def sortedF : FA := fun M ds => match ds with
  | [d] => (seqL M d).bind fun xs => match ints? xs with
    | some ns => some (.lst ((sortI ns).map Tr.int), M)
    | none => (strs? xs).bind fun ys => if ys.length < 64 then some (.lst ((sortS ys).map Tr.str), M) else none
  | _ => none
theorem c_sorted : CallR X (.builtin "sorted") (rA X.K sortedF) := callimp (.or cr_sortedI cr_sortedS) fun vs H Q h => by
  obtain ⟨S, M, ds, z, M', o, r, hz, k⟩ := h
  unfold sortedF at hz
  split at hz
  · obtain ⟨xs, e1, e2⟩ := Option.bind_eq_some_iff.mp hz
    obtain ⟨v, rfl, r1⟩ := reps1 r
    obtain ⟨a, ws, rfl, hq, rs⟩ := seqL_rep o r1 e1
    split at e2
    · rename_i ns e3
      cases e2
      rw [ints?_eq e3, Reps.ints] at rs
      refine .inl ⟨a, ns, rfl, by rw [← rs]; exact SqL.of hq, fun ms p pm hp n => ?_⟩
      rw [sortI_of pm hp]
      obtain ⟨S', g, o', r'⟩ := new_lst (ds := (sortI ns).map Tr.int) o ((Reps.ints _).mpr rfl) n
      exact k _ _ S' g o' r'
    · obtain ⟨ys, e3, e4⟩ := Option.bind_eq_some_iff.mp e2
      split at e4
      · rename_i hl
        cases e4
        rw [strs?_eq e3, Reps.strs] at rs
        refine .inr ⟨a, ys, rfl, by rw [← rs]; exact SqL.of hq, hl, fun ms p pm hp n => ?_⟩
        rw [sortS_of pm hp]
        obtain ⟨S', g, o', r'⟩ := new_lst (ds := (sortS ys).map Tr.str) o ((Reps.strs _).mpr rfl) n
        exact k _ _ S' g o' r'
      · cases e4
  · cases hz
end
end DL
end T_DL12
section T_DL13
set_option Elab.async false
set_option linter.all false
set_option maxRecDepth 100000
set_option maxHeartbeats 4000000
/-! DL13: isinstance; fields stored; two names from a pair of expressions; star arguments; displays with stars; two generators. -/
namespace DL
open PySem PySem.Spec PyProof.Rows L2

/-! ### types -/
inductive TyG where
  | b (n : String)
  | own (c : Nat)
  deriving DecidableEq
def TyG.val (K : PySem.W.Frag) : TyG → Value
  | .b n => .type n
  | .own c => .ref (He.ga K (cnm c))
def TyG.vv (K : PySem.W.Frag) : TyG → V
  | .b n => .ty n
  | .own c => .ref (He.ga K (cnm c))
theorem TyG.cls {K : PySem.W.Frag} : ∀ g : TyG, ClsV (g.vv K) (g.val K)
  | .b n => .ty n
  | .own c => .own _
def tyG (M : Me) : Tr → Option TyG
  | .non => some (.b "NoneType")
  | .bl _ => some (.b "bool")
  | .int _ => some (.b "int")
  | .str _ => some (.b "str")
  | .lst _ => some (.b "list")
  | .tup _ => some (.b "tuple")
  | .dct _ _ => some (.b "dict")
  | .ins c _ => some (.own c)
  | .exc _ _ => none
  | .dkf _ _ => none
  | .scr _ => some (.b "list")
  | .cell k => (match M[k]? with
    | some (.lst _) => some (.b "list")
    | some (.dct _ _) => some (.b "dict")
    | some (.ins c _) => some (.own c)
    | _ => none)
def isa (g c : TyG) : Bool := decide (g = c) || (decide (g = .b "bool") && decide (c = .b "int"))
def tags (cl : List Nat) : List TyG := [.b "NoneType", .b "bool", .b "int", .b "str", .b "list", .b "tuple", .b "dict"] ++ cl.map .own
structure InsOk (K : PySem.W.Frag) (C : Addr) : Prop where
  cl : Cls K C
  ha : PySem.W.findIn K (.ref C) "__class__" = some (some (.builtin "object.__class__"))
  hn : PySem.W.specialIn K (.builtin "object.__class__") "__get__" = some (some (.builtin "getset_descriptor.__get__"))
  ht : PySem.W.takesIn K (.builtin "object.__class__") = some true
  hm : PySem.W.mroIn K C (.type "object") = some true
structure IsaOk (K : PySem.W.Frag) (cl : List Nat) : Prop where
  ins : ∀ c ∈ cl, InsOk K (He.ga K (cnm c))
  kit : ∀ g ∈ tags cl, ∀ c ∈ tags cl, PySem.W.kitOne K (g.val K) (c.val K) = some (isa g c)
theorem tags_own {cl : List Nat} {c : Nat} (h : TyG.own c ∈ tags cl) : c ∈ cl := by
  simp only [tags, List.cons_append, List.nil_append, List.mem_cons, reduceCtorEq, false_or, List.mem_map, TyG.own.injEq, exists_eq_right] at h
  exact h
section
variable {K : PySem.W.Frag} {S : Gh} {M : Me} {H : Hp} {cl : List Nat}
theorem tyX_sqT {a : Addr} {vs : List V} (h : SqT K H a vs) : TyX K H (.ref a) (.type "tuple") := by
  rcases h with (h | ⟨o, h⟩) | ⟨o, its, n, hk, hc, _⟩
  · exact .base (.tup h)
  · exact .fTuple h
  · exact .kTuple hk hc
theorem tyX_sqL {a : Addr} {vs : List V} (h : SqL K H a vs) : TyX K H (.ref a) (.type "list") := by
  rcases h with (h | ⟨o, h⟩) | ⟨o, its, n, hk, hc, _⟩
  · exact .base (.lst h)
  · exact .base (.frz h)
  · exact .kList hk hc
theorem tyX_ins {a dx : Addr} {fs : List (Str × V)} {c : Nat} (i : InsOk K (He.ga K (cnm c))) (h : H a = some (.ins (He.ga K (cnm c)) dx fs)) : TyX K H (.ref a) ((TyG.own c).val K) := .base (.ins h i.cl i.ha i.hn i.ht i.hm)
theorem tyX_of (I : IsaOk K cl) (o : OkH K S M H) {d : Tr} {v : V} {g : TyG} (r : Rep K S d v) (e : tyG M d = some g) (hg : g ∈ tags cl) : TyX K H v (g.val K) := by
  cases d with
  | non => simp only [Rep] at r; simp only [tyG, Option.some.injEq] at e; subst r e; exact .base .non
  | bl b => simp only [Rep] at r; simp only [tyG, Option.some.injEq] at e; subst r e; exact .base (.bl b)
  | int b => simp only [Rep] at r; simp only [tyG, Option.some.injEq] at e; subst r e; exact .base (.int b)
  | str b => simp only [Rep] at r; simp only [tyG, Option.some.injEq] at e; subst r e; exact .base (.str b)
  | lst xs =>
    simp only [Rep] at r; simp only [tyG, Option.some.injEq] at e; subst e
    obtain ⟨a, vs, rfl, h, _⟩ := r
    exact .base (.lst (o.sub _ _ h))
  | tup xs =>
    simp only [Rep] at r; simp only [tyG, Option.some.injEq] at e; subst e
    obtain ⟨a, vs, rfl, h, _⟩ := r
    exact tyX_sqT (o.sqT h)
  | dct ks xs =>
    simp only [Rep] at r; simp only [tyG, Option.some.injEq] at e; subst e
    obtain ⟨a, vs, rfl, h, _⟩ := r
    exact .base (.dK (o.sub _ _ h))
  | scr ns =>
    simp only [Rep] at r; simp only [tyG, Option.some.injEq] at e; subst e
    obtain ⟨a, rfl, h⟩ := r
    exact tyX_sqL (o.sqL h)
  | ins c xs =>
    simp only [Rep] at r; simp only [tyG, Option.some.injEq] at e; subst e
    obtain ⟨a, dx, fs, rfl, h, _⟩ := r
    exact tyX_ins (I.ins c (tags_own hg)) (o.sub _ _ h)
  | exc c xs => simp [tyG] at e
  | dkf ks xs => simp [tyG] at e
  | cell k =>
    simp only [tyG] at e
    split at e
    · rename_i xs em
      cases e
      obtain ⟨a, rfl, _, _, vs, h, _⟩ := cell_rep o r em
      exact .base (.lst h)
    · rename_i ks xs em
      cases e
      obtain ⟨a, rfl, _, _, vs, h, _⟩ := cell_rep o r em
      exact .base (.dK h)
    · rename_i c xs em
      cases e
      obtain ⟨a, rfl, _, _, dx, fs, h, _⟩ := cell_rep o r em
      exact tyX_ins (I.ins c (tags_own hg)) h
    · cases e
theorem kitAny_of (I : IsaOk K cl) {g : TyG} (hg : g ∈ tags cl) : ∀ {cs : List TyG}, (∀ c ∈ cs, c ∈ tags cl) → PySem.W.kitAny K (g.val K) (cs.map (TyG.val K)) = some (cs.any (isa g))
  | [], _ => rfl
  | c :: cs, h => by
    refine kitAny_cons (I.kit g hg c (h c (List.mem_cons_self ..))) (fun e => ?_) (fun e => ?_)
    · rw [kitAny_of I hg fun c hc => h c (List.mem_cons_of_mem _ hc)]
      simp [e]
    · simp [e]
end
/-- isinstance(x, c), isinstance(x, (c, ..)) -/
def dIsi (cl : List Nat) (cs : List TyG) (t : Rd Tr) : Rd Tr := ⟨fun ρ M Q E => t.f ρ M (fun d M1 => onSome (tyG M1 d) fun g => g ∈ tags cl ∧ Q (.bl (cs.any (isa g))) M1) E,
  fun h h' q => t.mono (fun d M1 => onSome_mono fun g z => ⟨z.1, h _ M1 z.2⟩) h' q⟩
section
variable {X : Cx} {W : WX} {pos p : Pos} {a b c e o : Expr} {es : List Expr} {t ta tb : Rd Tr} {u : Rd (List Tr)} {cl : List Nat} {g : TyG} {gs : List TyG}
def tCs (K : PySem.W.Frag) (gs : List TyG) : TA := fun _ H Q => Q (gs.map (TyG.vv K)) H
theorem pcs_nil : PA X [] (tCs X.K []) := pa_imp pa_nil fun _ _ _ h => h
theorem pcs_cons (h1 : PE X e (tC (g.vv X.K))) (h : PA X es (tCs X.K gs)) (hs : starEach (e :: es) X.env = (false, eval e X.env) :: starEach es X.env := by rfl) : PA X (e :: es) (tCs X.K (g :: gs)) := pa_imp (pa_cons h1 h hs) fun _ _ _ h => h
theorem pc_b {x : Str} {n : String} (hg : Gl X x) (hm : X.mg x = none) (hv : bootBuiltins x = some (.type n)) (hn : x ≠ "__name__" := by decide) (hd : (x == ("__debug__" : Str)) = false := by decide) : PE X (.Name x p) (tC ((TyG.b n).vv X.K)) := pe_bltn hg hm hv rfl hn hd
theorem pc_own {x : Str} {c : Nat} (hx : x = cnm c) (hg : Gl X x) (hm : X.mg x = some (.ref (He.ga X.K x))) (hd : (x == ("__debug__" : Str)) = false := by decide) : PE X (.Name x p) (tC ((TyG.own c).vv X.K)) := by
  subst hx
  exact pe_glob hg hm rfl hd
theorem paired_cls {K : PySem.W.Frag} : ∀ gs : List TyG, Paired ClsV (gs.map (TyG.vv K)) (gs.map (TyG.val K))
  | [] => .nil
  | g :: gs => .cons g.cls (paired_cls gs)
theorem pd_isi (I : IsaOk X.K cl) (hg : Gl X "isinstance") (hm : X.mg "isinstance" = none) (hb : bootBuiltins "isinstance" = some (.builtin "isinstance")) (he : PD X W e t) (hc : PE X c (tC (g.vv X.K))) (hcl : g ∈ tags cl)
    (hs : starEach [e, c] X.env = (false, eval e X.env) :: starEach [c] X.env := by rfl) (hs2 : starEach [c] X.env = (false, eval c X.env) :: starEach [] X.env := by rfl) (hpl : (backTo pos (starEach [c] X.env)).any (·.1) = false := by rfl) :
    PD X W (.Call (.Name "isinstance" p) [e, c] [] pos) (dIsi cl [g] t) := pe_imp (pe_callB call_isi hg hm hb (pa_cons he (pa_cons hc pa_nil hs2) hs) (by decide) (by decide) hs hpl) fun σ H Q h => by
  obtain ⟨ρ, M, S, E, ok, s, er, q⟩ := h
  refine ⟨ρ, M, S, E, ok, s, er, t.mono (fun d M1 q1 v H1 S1 l1 o1 r1 => ?_) (fun _ _ z => z) q⟩
  obtain ⟨g', e1, h1, q2⟩ := onSome_of q1
  refine ⟨v, _, _, _, _, rfl, g.cls, tyX_of I o1 r1 e1 h1, I.kit g' h1 g hcl, ?_⟩
  have := q2
  simp only [List.any_cons, List.any_nil, Bool.or_false] at this
  exact this _ H1 S1 l1 o1 rep_bl
theorem pd_isiT {k : Nat} {tpos : Pos} (I : IsaOk X.K cl) (hg : Gl X "isinstance") (hm : X.mg "isinstance" = none) (hb : bootBuiltins "isinstance" = some (.builtin "isinstance")) (he : PD X W e t) (hc : PA X es (tCs X.K gs)) (hcl : ∀ g ∈ gs, g ∈ tags cl) (hz : gs.length ≤ 100)
    (hs : starEach [e, .Tuple es k tpos] X.env = (false, eval e X.env) :: starEach [.Tuple es k tpos] X.env := by rfl) (hs2 : starEach [.Tuple es k tpos] X.env = (false, eval (.Tuple es k tpos) X.env) :: starEach [] X.env := by rfl) (hpl : (backTo pos (starEach [.Tuple es k tpos] X.env)).any (·.1) = false := by rfl) :
    PD X W (.Call (.Name "isinstance" p) [e, .Tuple es k tpos] [] pos) (dIsi cl gs t) := pe_imp (pe_callB call_isiT hg hm hb (pa_cons he (pa_cons (pe_tup hc) pa_nil hs2) hs) (by decide) (by decide) hs hpl) fun σ H Q h => by
  obtain ⟨ρ, M, S, E, ok, s, er, q⟩ := h
  refine ⟨ρ, M, S, E, ok, s, er, t.mono (fun d M1 q1 v H1 S1 l1 o1 r1 => ?_) (fun _ _ z => z) q⟩
  obtain ⟨g', e1, h1, q2⟩ := onSome_of q1
  refine ⟨by rw [List.length_map, sizeLine_eq]; omega, fun tp n => ?_⟩
  have o2 := o1.same (same_upd (o := .tup (gs.map (TyG.vv X.K))) n)
  exact ⟨v, tp, gs.map (TyG.vv X.K), g'.val X.K, gs.map (TyG.val X.K), gs.any (isa g'), rfl, upd_same, paired_cls gs, tyX_of I o2 r1 e1 h1, kitAny_of I h1 hcl, q2 _ _ S1 (l1.trans (Gr.same (same_upd n))) o2 rep_bl⟩
end
end DL
end T_DL13
section T_DL14
set_option Elab.async false
set_option linter.all false
set_option maxRecDepth 100000
set_option maxHeartbeats 4000000
/-! DL14: fields stored; two names from two expressions; star arguments; comprehensions of two generators. -/
namespace DL
open PySem PySem.Spec PyProof.Rows L2

/-! ### self.f = e -/
theorem putF_new {f : Str} {y : V} : ∀ {fs : List (Str × V)}, f ∉ fs.map Prod.fst → putF f y fs = fs ++ [(f, y)]
  | [], _ => rfl
  | (g, x) :: r, h => by
    simp only [List.map_cons, List.mem_cons, not_or] at h
    unfold putF
    rw [if_neg (fun e => h.1 e.symm), putF_new h.2]
    rfl
theorem putF_old {f : Str} {y : V} : ∀ {fs : List (Str × V)} {i : Nat}, (fs.map Prod.fst).Nodup → (fs.map Prod.fst)[i]? = some f → (putF f y fs).map Prod.fst = fs.map Prod.fst ∧ (putF f y fs).map Prod.snd = (fs.map Prod.snd).set i y
  | [], i, _, e => by simp at e
  | (g, x) :: r, 0, nd, e => by
    simp only [List.map_cons, List.getElem?_cons_zero, Option.some.injEq] at e
    subst e
    unfold putF
    rw [if_pos rfl]
    exact ⟨rfl, rfl⟩
  | (g, x) :: r, i + 1, nd, e => by
    simp only [List.map_cons, List.getElem?_cons_succ, List.nodup_cons] at e nd
    have hne : g ≠ f := fun z => nd.1 (z ▸ List.mem_of_getElem? e)
    obtain ⟨h1, h2⟩ := putF_old (y := y) nd.2 e
    unfold putF
    rw [if_neg hne]
    exact ⟨by simp only [List.map_cons, h1], by simp only [List.map_cons, h2, List.set_cons_succ]⟩
/-- the instance's cell behind the store -/
def putI (alts : List (Nat × Nat)) (M : Me) (x d : Tr) : Option Me := match x with
  | .cell k => (match M[k]? with
    | some (.ins c ds) => (alts.lookup c).bind fun i => if i < ds.length then some (M.set k (.ins c (ds.set i d))) else if i = ds.length then some (M.set k (.ins c (ds ++ [d]))) else none
    | _ => none)
  | _ => none
def sFld (alts : List (Nat × Nat)) (t u : Rd Tr) : Sr := ⟨fun F ρ M => u.f ρ M (fun d M1 => t.f ρ M1 (fun x M2 => onSome (putI alts M2 x d) fun M3 => F.nx ρ M3) (F.er ρ)) (F.er ρ),
  fun h q => u.mono (fun d M z => t.mono (fun x M2 => onSome_mono fun M3 => h.nx _ M3) (fun d M z => h.er _ d M z) z) (fun d M z => h.er _ d M z) q⟩
section
variable {X : Cx} {W : WX} {pos pos' p : Pos} {a b c e o value : Expr} {es : List Expr} {t ta tb : Rd Tr} {u v : Rd (List Tr)} {K : PySem.W.Frag}
theorem pds_fld {alts : List (Nat × Nat)} {f : Str} (hf : ∀ c i, (c, i) ∈ alts → FldOk X.K f c i) (ha : PD X W o ta) (hv : PD X W value tb) (hs : swapsWith value (some (.Attribute o f pos')) pos.line X.env = pure false := by rfl) : PDS X W (.Assign [.Attribute o f pos'] value pos) (sFld alts ta tb) :=
  ps_imp (ps_fld ha hv hs) fun D σ H h => by
    obtain ⟨ρ, M, S, F, ok, s, en, q⟩ := h
    refine ⟨ρ, M, S, F.er ρ, ok, s, en.err s, tb.mono (fun d M1 q1 y H1 S1 l1 o1 r1 => ?_) (fun _ _ z => z) q⟩
    refine ⟨ρ, M1, S1, F.er ρ, o1, s.mono l1.le, (en.mono l1).err (s.mono l1.le), ta.mono (fun x M2 q2 v2 H2 S2 l2 o2 r2 => ?_) (fun _ _ z => z) q1⟩
    obtain ⟨M3, hz, q3⟩ := onSome_of q2
    unfold putI at hz
    split at hz
    · rename_i k
      split at hz
      · rename_i c ds em
        obtain ⟨i, ei, hz⟩ := Option.bind_eq_some_iff.mp hz
        obtain ⟨A, rfl, hc, hg, dx, fs, hA, hn, hr⟩ := cell_rep o2 r2 em
        have fo := hf c i (lookup_mem ei)
        have hlen : fs.length = ds.length := by have := hr.length; simpa using this.symm
        have hle : ds.length ≤ (cfs c).length := by
          have h1 := congrArg List.length hn
          rw [List.length_map, hlen, List.length_take] at h1
          omega
        have h16 : (cfs c).length ≤ 16 := by
          unfold cfs
          have : ∀ p ∈ ctab, p.2.length ≤ 16 := by decide
          by_cases hc : c < ctab.length
          · rw [List.getD_eq_getElem?_getD, List.getElem?_eq_getElem hc]
            exact this _ (List.getElem_mem hc)
          · rw [List.getD_eq_getElem?_getD, List.getElem?_eq_none (by omega)]
            decide
        have rd := Rep.mono l2.le _ _ r1
        refine ⟨A, He.ga X.K (cnm c), dx, fs, rfl, hA, fo.cls, fo.no, by omega, ?_⟩
        have nd : (fs.map Prod.fst).Nodup := by rw [hn]; exact fo.nd.sublist (List.take_sublist _ _)
        have fin : ∀ ds', M3 = M2.set k (.ins c ds') → (putF f y fs).map Prod.fst = (cfs c).take ds'.length → Reps X.K S2 ds' ((putF f y fs).map Prod.snd) → D.nx σ (upd H2 A (.ins (He.ga X.K (cnm c)) dx (putF f y fs))) := fun ds' e h1 h2 => by
          subst e
          refine en.nx ρ _ S2 σ _ ((l1.trans l2).trans (gr_setCell hc)) (o2.setCell (c' := .ins c ds') hc em hg ⟨hg, dx, putF f y fs, upd_same, h1, h2⟩) ((s.mono l1.le).mono l2.le) q3
        split at hz
        · rename_i hi
          cases hz
          have hat : (fs.map Prod.fst)[i]? = some f := by rw [hn, List.getElem?_take_of_lt hi]; exact fo.at_
          obtain ⟨h1, h2⟩ := putF_old (y := y) nd hat
          refine fin _ rfl (by rw [h1, hn, List.length_set]) ?_
          rw [h2]
          exact hr.set i rd
        · split at hz
          · rename_i hi hi2
            cases hz
            have hno : f ∉ fs.map Prod.fst := by
              rw [hn]
              intro z
              obtain ⟨j, hj⟩ := List.mem_iff_getElem?.mp z
              have hj2 : j < ds.length := by
                have := (List.getElem?_eq_some_iff.mp hj).1
                rw [List.length_take] at this
                omega
              rw [List.getElem?_take_of_lt hj2] at hj
              have hi3 : i < (cfs c).length := (List.getElem?_eq_some_iff.mp fo.at_).1
              have e1 := (List.getElem?_eq_some_iff.mp hj).2
              have e2 := (List.getElem?_eq_some_iff.mp fo.at_).2
              have := (List.getElem_inj fo.nd).mp (e1.trans e2.symm)
              omega
            rw [putF_new hno] at fin ⊢
            refine fin _ rfl ?_ ?_
            · rw [List.map_append, hn, List.length_append, List.length_singleton, List.take_add_one, ← hi2, fo.at_]
              rfl
            · rw [List.map_append]
              exact hr.append (Reps.cons rd Reps.nil)
          · cases hz
      · cases hz
    · cases hz

/-! ### a, b = x, y; a, b, c = x, y, z -/
def setAll : List Nat → List Tr → En → Option En
  | [], [], ρ => some ρ
  | i :: is, d :: ds, ρ => setAll is ds (ρ.set i (some d))
  | _, _, _ => none
def sPar (is : List Nat) (u : Rd (List Tr)) : Sr := ⟨fun F ρ M => u.f ρ M (fun ds M1 => onSome (setAll is ds ρ) fun ρ' => F.nx ρ' M1) (F.er ρ), fun h q => u.mono (fun d M => onSome_mono fun ρ' => h.nx ρ' M) (fun d M z => h.er _ d M z) q⟩
theorem pds_par {i j : Nat} {x y : Str} {px py pt : Pos} {kt k2 pt2} (hc : X.calm = true) (hN : X.N.Nodup) (hi : X.N[i]? = some x) (hj : X.N[j]? = some y) (hij : i ≠ j)
    (hx : X.env.scope.names.lookup x = some .local) (hy : X.env.scope.names.lookup y = some .local) (ha : PDA X W [a, b] u)
    (hw : swappedStores [.Tuple [.Name x px, .Name y py] kt pt] (.Tuple [a, b] k2 pt2) X.env = pure (some [x, y]))
    (hs : swapsWithSole [.Tuple [.Name x px, .Name y py] kt pt] (.Tuple [a, b] k2 pt2) pos.line X.env = pure false := by rfl) :
    PDS X W (.Assign [.Tuple [.Name x px, .Name y py] kt pt] (.Tuple [a, b] k2 pt2) pos) (sPar [i, j] u) := ps_imp (ps_par hc hN hi hj hij hx hy ha hw hs) fun D σ H h => by
  obtain ⟨ρ, M, S, F, ok, s, en, q⟩ := h
  refine ⟨ρ, M, S, F.er ρ, ok, s, en.err s, u.mono (fun ds M1 q1 vs H1 S1 l1 o1 r1 => ?_) (fun _ _ z => z) q⟩
  obtain ⟨ρ', e, q2⟩ := onSome_of q1
  match ds, e, r1 with
  | [d, d'], e, r1 =>
    obtain ⟨w, w', rfl, h1, h2⟩ := reps2 r1
    simp only [setAll, Option.some.injEq] at e
    subst e
    exact ⟨w, w', rfl, en.nx _ M1 S1 _ H1 l1 o1 (((s.mono l1.le).set h1).set h2) q2⟩
  | [], e, _ => simp [setAll] at e
  | [_], e, _ => simp [setAll] at e
  | _ :: _ :: _ :: _, e, _ => simp [setAll] at e
theorem pds_par3 {i j l : Nat} {x y z : Str} {px py pz pt : Pos} {kt k2 pt2} (hc : X.calm = true) (hN : X.N.Nodup) (hi : X.N[i]? = some x) (hj : X.N[j]? = some y) (hl : X.N[l]? = some z) (hij : i ≠ j) (hil : i ≠ l) (hjl : j ≠ l)
    (hx : X.env.scope.names.lookup x = some .local) (hy : X.env.scope.names.lookup y = some .local) (hz : X.env.scope.names.lookup z = some .local) (ha : PDA X W [a, b, c] u)
    (hw : swappedStores [.Tuple [.Name x px, .Name y py, .Name z pz] kt pt] (.Tuple [a, b, c] k2 pt2) X.env = pure (some [x, y, z]))
    (hs : swapsWithSole [.Tuple [.Name x px, .Name y py, .Name z pz] kt pt] (.Tuple [a, b, c] k2 pt2) pos.line X.env = pure false := by rfl) :
    PDS X W (.Assign [.Tuple [.Name x px, .Name y py, .Name z pz] kt pt] (.Tuple [a, b, c] k2 pt2) pos) (sPar [i, j, l] u) := ps_imp (ps_par3 hc hN hi hj hl hij hil hjl hx hy hz ha hw hs) fun D σ H h => by
  obtain ⟨ρ, M, S, F, ok, s, en, q⟩ := h
  refine ⟨ρ, M, S, F.er ρ, ok, s, en.err s, u.mono (fun ds M1 q1 vs H1 S1 l1 o1 r1 => ?_) (fun _ _ z => z) q⟩
  obtain ⟨ρ', e, q2⟩ := onSome_of q1
  match ds, e, r1 with
  | [d, d', d''], e, r1 =>
    simp only [Reps] at r1
    obtain ⟨w, t1, rfl, h1, w', t2, rfl, h2, w'', t3, rfl, h3, rfl⟩ := r1
    simp only [setAll, Option.some.injEq] at e
    subst e
    exact ⟨w, w', w'', rfl, en.nx _ M1 S1 _ H1 l1 o1 ((((s.mono l1.le).set h1).set h2).set h3) q2⟩
  | [], e, _ => simp [setAll] at e
  | [_], e, _ => simp [setAll] at e
  | [_, _], e, _ => simp [setAll] at e
  | _ :: _ :: _ :: _ :: _, e, _ => simp [setAll] at e

/-! ### *e among arguments and items -/
def dStar (t : Rd Tr) (u : Rd (List Tr)) : Rd (List Tr) := ⟨fun ρ M Q E => t.f ρ M (fun d M1 => onSome (seqA M1 d) fun xs => u.f ρ M1 (fun ds M2 => Q (xs ++ ds) M2) E) E, fun h h' q => t.mono (fun d M1 => onSome_mono fun xs => u.mono (fun ds M2 z => h _ M2 z) h') h' q⟩
theorem lift_star {σ : L2.St} {H : Hp} {Q : List V → Hp → Prop} (h : liftA K W (dStar t u) σ H Q) : StX.tStar K (liftE K W t) (liftA K W u) σ H Q := by
  obtain ⟨ρ, M, S, E, ok, s, er, q⟩ := h
  refine ⟨ρ, M, S, E, ok, s, er, t.mono (fun d M1 q1 x H1 S1 l1 o1 r1 => ?_) (fun _ _ z => z) q⟩
  obtain ⟨xs, e, q2⟩ := onSome_of q1
  obtain ⟨A, vs, rfl, hq, rs⟩ := seqA_rep o1 r1 e
  refine ⟨A, vs, rfl, hq.symm, ρ, M1, S1, E, o1, s.mono l1.le, er.mono l1, u.mono (fun ds M2 q3 ws H2 S2 l2 o2 r2 => ?_) (fun _ _ z => z) q2⟩
  exact q3 _ H2 S2 (l1.trans l2) o2 ((Reps.mono l2.le _ _ rs).append r2)
theorem pda_star {p : Pos} (he : PD X W e t) (hr : PDA X W es u) (hs : starEach (.Starred e p :: es) X.env = (true, eval e X.env) :: starEach es X.env := by rfl) : PDA X W (.Starred e p :: es) (dStar t u) := pa_imp (StX.pa_star he hr hs) fun _ _ _ => lift_star
/-- f(*e) -/
theorem pd_callS {g : Bool} {x : Str} {k n : Nat} {dds : List Tr} {sp : Sf} {p2 : Pos} (tk : Takes X W) (F : Fn g X.prog X.w X.K X.mg X.base x k n dds sp) (hr : Room k X.A) (hgd : g = true → Gd X.base X.A) (hg : Gl X x) (he : PD X W e t) (hdb : (x == ("__debug__" : Str)) = false := by decide)
    (hst : starEach [.Starred e p2] X.env = [(true, eval e X.env)] := by rfl) : PD X W (.Call (.Name x p) [.Starred e p2] [] pos) (dFn sp dds n (dStar t dNil)) := by
  obtain ⟨f, fd, ps, ds, dvs, F1, hm, hk, hb, hd, hdd⟩ := F.ex
  refine ⟨fun pins s σ H Q I h => ?_⟩
  obtain ⟨ρ, M, S, E, ok, sl, er, q⟩ := h
  have h1 : liftE X.K W t σ H fun y H1 => ∃ a xs, y = V.ref a ∧ (SqT X.K H1 a xs ∨ SqL X.K H1 a xs) ∧ liftF X.K sp n (xs ++ dvs) H1 Q (WE W σ) := by
    refine ⟨ρ, M, S, E, ok, sl, er, t.mono (fun d M1 q1 y H1 S1 l1 o1 r1 => ?_) (fun _ _ z => z) q⟩
    obtain ⟨xs, e, q2⟩ := onSome_of q1
    obtain ⟨A, vs, rfl, hq, rs⟩ := seqA_rep o1 r1 e
    have q3 : ((xs ++ []) ++ dds).length = n ∧ sp.f ((xs ++ []) ++ dds) M1 _ E := q2
    rw [List.append_nil] at q3
    have r2 := rs.append (hdd S1)
    exact ⟨A, vs, rfl, hq.symm, by rw [← r2.length]; exact q3.1, xs ++ dds, M1, S1, o1, r2, sp.mono (fun r M2 q2 v H2 S2 l2 o2 r2 => q2 v H2 S2 (l1.trans l2) o2 r2) (fun e M2 q2 cls dd H2 S2 l2 o2 x => er e M2 S2 H2 cls dd (l1.trans l2) o2 x q2) q3.2⟩
  refine wpAny_Call_Name_kw (ld_glob I hg hm ?_ hdb)
  refine PySem.W.callWith_S (h₀ := X.base) I.ok.mod.kin hk (thn (he.run pins s σ H _ I h1) fun v s1 ⟨y, H1, I1, ry, a, xs, ey, hxs, q⟩ => ?_) hst
  subst ey
  obtain rfl : v = Value.ref a := ry
  exact StX.star_any I1 hxs fun us s2 I2 rv => ⟨I2.kIn, run_fnG (E := WE W) F1 hr hgd hb hd (passAt tk σ) I2 rv q⟩
end
end DL
end T_DL14
section T_DL15
set_option Elab.async false
set_option linter.all false
set_option maxRecDepth 100000
set_option maxHeartbeats 4000000
/-! DL15: truth of any value; a cell frozen; comprehensions of two generators. -/
namespace DL
open PySem PySem.Spec PyProof.Rows L2

/-! ### truth -/
def truB (M : Me) : Tr → Option Bool
  | .non => some false
  | .bl b => some b
  | .int i => some (i != 0)
  | .str y => if y.length ≤ big then some ((y.length : Int) != 0) else none
  | .dct ks _ => some (!ks.isEmpty)
  | d => (seqA M d).map fun xs => !xs.isEmpty
def dTru (t : Rd Tr) : Rd Bool := ⟨fun ρ M Q E => t.f ρ M (fun d M1 => onSome (truB M1 d) fun b => Q b M1) E, fun h h' q => t.mono (fun d M1 => onSome_mono fun b => h b M1) h' q⟩
section
variable {X : Cx} {W : WX} {pos : Pos} {a b c e : Expr} {t ta tb : Rd Tr} {K : PySem.W.Frag}
theorem isEmpty_len {α β : Type} {l : List α} {r : List β} (h : l.length = r.length) : l.isEmpty = r.isEmpty := by
  cases l <;> cases r <;> simp_all
theorem pt_tru (h : PD X W a t) (he : ∀ whole, isTrue a X.env whole = (do let v ← whole; standAt a.pos; holding [v] (truthy v)) := by intro _; rfl) : PDT X W a (dTru t) := pt_imp (pt_truth h he) fun σ H Q h => by
  obtain ⟨ρ, M, S, E, o, s, er, q⟩ := h
  refine ⟨ρ, M, S, E, o, s, er, t.mono (fun d M1 q1 v H1 S1 l1 o1 r1 => ?_) (fun _ _ z => z) q⟩
  obtain ⟨k, e, q2⟩ := onSome_of q1
  refine ⟨k, ?_, q2 H1 S1 l1 o1⟩
  have sq : ∀ d, Rep X.K S1 d v → (seqA M1 d).map (fun xs => !xs.isEmpty) = some k → TruV X.K v H1 k := fun d r1 e => by
    obtain ⟨xs, e1, e2⟩ := Option.map_eq_some_iff.mp e
    obtain ⟨a, vs, rfl, hq, rs⟩ := seqA_rep o1 r1 e1
    rw [isEmpty_len rs.length] at e2
    rcases hq with hq | hq
    · exact .inl ⟨vs, hq, e2.symm⟩
    · exact .inr (.inl ⟨vs, hq, e2.symm⟩)
  cases d with
  | non => simp only [Rep] at r1; simp only [truB, Option.some.injEq] at e; subst r1 e; rfl
  | bl b => simp only [Rep] at r1; simp only [truB, Option.some.injEq] at e; subst r1 e; rfl
  | int i => simp only [Rep] at r1; simp only [truB, Option.some.injEq] at e; subst r1 e; rfl
  | str y =>
    simp only [Rep] at r1
    simp only [truB] at e
    subst r1
    split at e
    · rename_i hl
      cases e
      exact ⟨by rw [← big_eq]; exact hl, rfl⟩
    · cases e
  | dct ks ds =>
    simp only [Rep] at r1
    simp only [truB, Option.some.injEq] at e
    obtain ⟨a, kvs, rfl, g, hk, _⟩ := r1
    subst e hk
    exact .inr (.inr ⟨kvs, o1.sub _ _ g, by rw [isEmpty_len (l := kvs) (r := kvs.map Prod.fst) (by simp)]⟩)
  | ins c ds => simp [truB, seqA, seqL] at e
  | exc c ds => simp [truB, seqA, seqL] at e
  | dkf c ds => simp [truB, seqA, seqL] at e
  | lst xs => exact sq _ r1 e
  | tup xs => exact sq _ r1 e
  | scr xs => exact sq _ r1 e
  | cell k => exact sq _ r1 e

/-! ### a cell frozen -/
/-- the value as a tree; its cell dies -/
def frzT (M : Me) : Tr → Option (Tr × Me)
  | .cell k => (match M[k]? with
    | some (.lst xs) => some (.lst xs, M.set k .dead)
    | some (.dct ks ds) => some (.dct ks ds, M.set k .dead)
    | _ => none)
  | d => some (d, M)
def dFrz (t : Rd Tr) : Rd Tr := ⟨fun ρ M Q E => t.f ρ M (fun d M1 => onSome (frzT M1 d) fun z => Q z.1 z.2) E, fun h h' q => t.mono (fun d M1 => onSome_mono fun z => h z.1 z.2) h' q⟩
theorem pd_frz (h : PD X W e t) : PD X W e (dFrz t) := pe_imp h fun σ H Q h => by
  obtain ⟨ρ, M, S, E, o, s, er, q⟩ := h
  refine ⟨ρ, M, S, E, o, s, er, t.mono (fun d M1 q1 v H1 S1 l1 o1 r1 => ?_) (fun _ _ z => z) q⟩
  obtain ⟨⟨z, M2⟩, e, q2⟩ := onSome_of q1
  have triv : frzT M1 d = some (d, M1) → Q v H1 := fun e' => by
    rw [e'] at e
    cases e
    exact q2 v H1 S1 l1 o1 r1
  cases d with
  | cell k =>
    simp only [frzT] at e
    split at e
    · rename_i xs em
      cases e
      obtain ⟨a, rfl, hc, hg, vs, h1, rs⟩ := cell_rep o1 r1 em
      obtain ⟨o2, l2⟩ := o1.freeze hc em hg h1
      refine q2 (.ref a) H1 _ (l1.trans (gr_freeze l2 hc)) o2 ?_
      simp only [Rep]
      exact ⟨a, vs, rfl, upd_same, Reps.mono l2 _ _ rs⟩
    · rename_i ks xs em
      cases e
      obtain ⟨a, rfl, hc, hg, kvs, h1, hk, rs⟩ := cell_rep o1 r1 em
      obtain ⟨o2, l2⟩ := o1.freeze hc em hg h1
      refine q2 (.ref a) H1 _ (l1.trans (gr_freeze l2 hc)) o2 ?_
      simp only [Rep]
      exact ⟨a, kvs, rfl, upd_same, hk, Reps.mono l2 _ _ rs⟩
    · cases e
  | _ => exact triv rfl
end
end DL
end T_DL15
section T_DL16
set_option Elab.async false
set_option linter.all false
set_option maxRecDepth 100000
set_option maxHeartbeats 4000000
/-! DL16: comprehensions as cells, of two generators. -/
namespace DL
open PySem PySem.Spec PyProof.Rows L2
section
variable {X : Cx} {W : WX} {pos : Pos} {K : PySem.W.Frag}
/-- the made list, as a tree or as a cell -/
def outT (c : Bool) (ds : List Tr) (M : Me) (Q : Tr → Me → Prop) : Prop := if c = true then Q (.cell M.length) (M ++ [.lst ds]) else Q (.lst ds) M
theorem outT_mono {c : Bool} {ds : List Tr} {M : Me} {Q Q' : Tr → Me → Prop} (h : ∀ d M, Q d M → Q' d M) (q : outT c ds M Q) : outT c ds M Q' := by
  unfold outT at q ⊢
  split at q
  · rename_i e; rw [if_pos e]; exact h _ _ q
  · rename_i e; rw [if_neg e]; exact h _ _ q
/-- the list that is being made at D -/
structure Mk1 (K : PySem.W.Frag) (S1 : Gh) (H1 : Hp) (D : Addr) (acc : List Tr) (M' : Me) (S' : Gh) (H' : Hp) : Prop where
  ex : ∃ accV, Gr S1 H1 S' H' ∧ OkH K S' M' H' ∧ H' D = some (.lst accV) ∧ S'.G D = none ∧ D ∉ S'.C ∧ Reps K S' acc accV
theorem Mk1.grow {S1 S' S4 : Gh} {H1 H' H4 : Hp} {D : Addr} {acc : List Tr} {M' M4 : Me} (m : Mk1 K S1 H1 D acc M' S' H') (l : Gr S' H' S4 H4) (o : OkH K S4 M4 H4) : Mk1 K S1 H1 D acc M4 S4 H4 := by
  obtain ⟨accV, l', o', hD, gD, cD, ra⟩ := m.ex
  obtain ⟨d1, d2, d3⟩ := l.held hD gD cD
  exact ⟨accV, l'.trans l, o, d1, d2, d3, Reps.mono l.le _ _ ra⟩
theorem Mk1.app {S1 S' : Gh} {H1 H' : Hp} {D : Addr} {acc : List Tr} {M' : Me} {y : Tr} {v : V} (nD : H1 D = none) (m : Mk1 K S1 H1 D acc M' S' H') (r : Rep K S' y v) (hl : acc.length < big) :
    ∃ accV, H' D = some (.lst accV) ∧ accV.length < sizeLine ∧ Mk1 K S1 H1 D (acc ++ [y]) M' S' (upd H' D (.lst (accV ++ [v]))) := by
  obtain ⟨accV, L, o', hD, gD, cD, ra⟩ := m.ex
  exact ⟨accV, hD, by rw [← ra.length, ← big_eq]; exact hl, accV ++ [v], L.write nD, o'.other gD cD (.inr ⟨_, hD, trivial⟩), upd_same, gD, cD, ra.append (Reps.cons r Reps.nil)⟩
theorem Mk1.fin {S S1 S' : Gh} {H H1 H' : Hp} {D : Addr} {acc : List Tr} {M' : Me} {c : Bool} {Q : VK} (l1 : Gr S H S1 H1) (nD : H1 D = none) (m : Mk1 K S1 H1 D acc M' S' H')
    (q : outT c acc M' fun d M' => ∀ v H' S', Gr S H S' H' → OkH K S' M' H' → Rep K S' d v → Q v H') : Q (.ref D) H' := by
  obtain ⟨accV, l', o', hD, gD, cD, ra⟩ := m.ex
  have L := l1.trans l'
  have hn : D ∉ S.C → NT H D := fun hc u e => Classical.byContradiction fun hu => by
    have := l1.keep D u e (fun ps z => hu ⟨ps, z⟩) hc
    rw [nD] at this; cases this
  unfold outT at q
  split at q
  · obtain ⟨o6, l6⟩ := o'.cellAt (c := .lst acc) gD cD ⟨gD, accV, hD, ra⟩
    refine q (.ref D) H' ⟨S'.G, S'.C ++ [D]⟩ ⟨L.le.trans l6, fun a h1 h2 => ?_, L.keep, L.fz⟩ o6 ?_
    · rcases List.mem_append.mp h1 with h | h
      · exact L.new a h h2
      · rw [List.mem_singleton.mp h] at h2 ⊢
        exact hn h2
    · simp only [Rep]
      exact ⟨D, rfl, by rw [show M'.length = S'.C.length from o'.len.symm]; simp⟩
  · obtain ⟨o6, l6⟩ := o'.take' gD cD hD
    have G6 : Gr S H ⟨upd S'.G D (.lst accV), S'.C⟩ H' := by
      refine ⟨L.le.trans l6, L.new, L.keep, fun a h1 h2 => ?_⟩
      by_cases ha : a = D
      · subst ha
        by_cases hc : a ∈ S.C
        · exact .inr hc
        · exact .inl (hn hc).nx
      · rw [show (⟨upd S'.G D (.lst accV), S'.C⟩ : Gh).G a = S'.G a from upd_ne ha] at h2
        exact L.fz a h1 h2
    refine q (.ref D) H' _ G6 o6 ?_
    simp only [Rep]
    exact ⟨D, accV, rfl, upd_same, Reps.mono l6 _ _ ra⟩
theorem wipe_idem {σ : L2.St} {vs : List Nat} : wipe (wipe σ vs) vs = wipe σ vs := by
  have h1 : ∀ (us : List Nat) (j : Nat), j ∈ us → (wipe σ us).set j none = wipe σ us := by
    intro us j hu
    induction us with
    | nil => simp at hu
    | cons b r ih2 =>
      show ((wipe σ r).set b none).set j none = (wipe σ r).set b none
      by_cases hb : b = j
      · subst hb; rw [List.set_set]
      · rw [List.set_comm _ _ hb, ih2 (by rcases List.mem_cons.mp hu with e | e; exact absurd e.symm hb; exact e)]
  have h2 : ∀ ws : List Nat, (∀ i ∈ ws, i ∈ vs) → wipe (wipe σ vs) ws = wipe σ vs := by
    intro ws
    induction ws with
    | nil => intro _; rfl
    | cons j r ih =>
      intro hj
      show (wipe (wipe σ vs) r).set j none = wipe σ vs
      rw [ih fun i hi => hj i (List.mem_cons_of_mem _ hi)]
      exact h1 vs j (hj j List.mem_cons_self)
  exact h2 vs fun _ h => h
/-- [elt for target in iter if ..], as a tree or as a cell -/
def dLcX (c : Bool) (vs : List Nat) (it : Rd (List Tr)) (g : Tg) (tt : Rd Bool) (te : Rd Tr) : Rd Tr := ⟨fun ρ M Q E => it.f ρ M (fun xs M1 => compT g tt te (wipeE ρ vs) xs [] M1 fun ds M2 => outT c ds M2 Q) E,
  fun h h' q => it.mono (fun xs M z => compT_mono (fun ds M2 => outT_mono h) xs _ M z) h' q⟩
/-- one clause over xs, the list being made at D -/
theorem comp_run {g : Tg} {tt : Rd Bool} {te : Rd Tr} {D : Addr} {ρ : En} {σw : L2.St} {vs : List Nat} {xs : List Tr} {J : It} {Q2 : List Tr → Me → Prop} {Fin1 : Hp → Prop} {acc0 : List Tr} {M1 : Me} {S1 SJ SD SQ : Gh} {H1 HJ HD : Hp}
    (w : WalksT K J xs SJ HJ) (lJ : Le SJ S1) (nD : HD D = none) (m0 : Mk1 K SD HD D acc0 M1 S1 H1) (sl : Slots K SQ ρ σw) (lQ : Le SQ S1) (hg : ∀ i ∈ g.ids, i ∈ vs)
    (q : compT g tt te ρ xs acc0 M1 Q2) (hfin : ∀ acc M' S' H', Le S1 S' → Mk1 K SD HD D acc M' S' H' → Q2 acc M' → Fin1 H') :
    ∃ W : Nat → Nat → Hp → Prop, (∃ m, W 0 m H1) ∧ ∀ i m H, W i m H → (J.stop i H ∧ Fin1 H) ∨ (J.go i H ∧ ∃ Nx : Hp → Prop, (∀ H', Nx H' → ∃ m', m' < m ∧ W (i + 1) m' H') ∧ ∀ x H', J.yld i H x H' → gTg K g x σw H' fun σ2 H2 => wipe σ2 vs = wipe σw vs ∧ liftT K W0 tt σ2 H2 fun b H3 =>
      if b = true then liftE K W0 te σ2 H3 fun y H4 => ∃ acc, H4 D = some (.lst acc) ∧ acc.length < sizeLine ∧ Nx (upd H4 D (.lst (acc ++ [y]))) else Nx H3) := by
  refine ⟨fun i m H' => m = xs.length - i ∧ i ≤ xs.length ∧ ∃ acc M' S', Le S1 S' ∧ Mk1 K SD HD D acc M' S' H' ∧ compT g tt te ρ (xs.drop i) acc M' Q2, ⟨xs.length, by simp, Nat.zero_le _, acc0, M1, S1, Le.refl _, m0, q⟩, ?_⟩
  rintro i m H' ⟨rfl, hi, acc, M', S', l', mk, q'⟩
  obtain ⟨accV, _, o', hD, gD', cD', ra⟩ := mk.ex
  by_cases hlt : i < xs.length
  · right
    rw [List.drop_eq_getElem_cons hlt] at q'
    obtain ⟨ρ2, e2, q2⟩ := onSome_of q'
    refine ⟨w.go i S' M' H' (lJ.trans l') o' hlt, fun H' => ∃ acc M' S', Le S1 S' ∧ Mk1 K SD HD D acc M' S' H' ∧ compT g tt te ρ (xs.drop (i + 1)) acc M' Q2, fun H4 n4 => ⟨xs.length - (i + 1), by omega, rfl, hlt, n4⟩, fun x H2 y => ?_⟩
    obtain ⟨S3, d, e3, l3, o3, r3⟩ := w.yld i S' M' H' x H2 (lJ.trans l') o' hlt y
    have ed : d = xs[i] := by
      rw [List.getElem?_eq_getElem hlt] at e3
      exact (Option.some.inj e3).symm
    subst ed
    refine setTg_ok o3 g _ x ρ ρ2 σw _ (sl.mono ((lQ.trans l').trans l3.le)) r3 e2 fun σ5 s5 w5 => ⟨w5 vs hg, ?_⟩
    refine ⟨ρ2, M', S3, fun _ _ => False, o3, s5, err0, tt.mono (fun b M4 q4 H4 S4 l4 o4 => ?_) (fun _ _ z => z) q2⟩
    cases b with
    | true =>
      rw [if_pos rfl] at q4 ⊢
      refine ⟨ρ2, M4, S4, fun _ _ => False, o4, s5.mono l4.le, err0, te.mono (fun yy M5 q5 v5 H5 S5 l5 o5 r5 => ?_) (fun _ _ z => z) q4⟩
      have L5 : Gr S' H' S5 H5 := l3.trans (l4.trans l5)
      obtain ⟨aV, h1, h2, h3⟩ := (mk.grow L5 o5).app nD r5 q5.1
      exact ⟨aV, h1, h2, acc ++ [yy], M5, S5, l'.trans L5.le, h3, q5.2⟩
    | false =>
      rw [if_neg Bool.false_ne_true] at q4 ⊢
      exact ⟨acc, M4, S4, l'.trans (l3.trans l4).le, mk.grow (l3.trans l4) o4, q4⟩
  · left
    have ei : i = xs.length := by omega
    subst ei
    rw [List.drop_length] at q'
    exact ⟨w.stop S' M' H' (lJ.trans l') o', hfin acc M' S' H' l' mk q'⟩
theorem mk1_new {S1 : Gh} {H1 : Hp} {D : Addr} {M1 : Me} (o1 : OkH K S1 M1 H1) (nD : H1 D = none) : Mk1 K S1 H1 D [] M1 S1 (upd H1 D (.lst [])) :=
  ⟨[], Gr.same (same_upd nD), o1.same (same_upd nD), upd_same, (o1.fresh nD).1, (o1.fresh nD).2, Reps.nil⟩
theorem lift_lcX {c : Bool} {vs : List Nat} {it : Rd (List Tr)} {g : Tg} {tt : Rd Bool} {te : Rd Tr} (hg : ∀ i ∈ g.ids, i ∈ vs) {σ : L2.St} {H : Hp} {Q : VK} (h : liftE K W (dLcX c vs it g tt te) σ H Q) :
    tLc (liftI K W it) (gTg K g) (liftT K W0 tt) (liftE K W0 te) vs σ H Q := by
  obtain ⟨ρ, M, S, E, o, sl, er, q⟩ := h
  refine ⟨ρ, M, S, E, o, sl, er, it.mono (fun xs M1 q1 J H1 S1 l1 o1 w D nD => ?_) (fun _ _ z => z) q⟩
  have := comp_run (Fin1 := Q (.ref D)) (vs := vs) w (Le.refl _) nD (mk1_new o1 nD) (sl.mono l1.le).wipe (Le.refl _) hg q1 fun acc M' S' H' l mk q2 => mk.fin l1 nD q2
  rw [wipe_idem] at this
  exact this

/-! ### two generators -/
def compT2 (g : Tg) (tt : Rd Bool) (it1 : Rd (List Tr)) (g1 : Tg) (tt1 : Rd Bool) (te : Rd Tr) (vs1 : List Nat) (ρ : En) : List Tr → List Tr → Me → (List Tr → Me → Prop) → Prop
  | [], acc, M, Q => Q acc M
  | x :: r, acc, M, Q => onSome (setTg g x ρ) fun ρ' => tt.f ρ' M (fun b M1 => if b = true then it1.f ρ' M1 (fun ys M2 => compT g1 tt1 te (wipeE ρ' vs1) ys acc M2 fun acc' M3 => compT2 g tt it1 g1 tt1 te vs1 ρ r acc' M3 Q) (fun _ _ => False)
    else compT2 g tt it1 g1 tt1 te vs1 ρ r acc M1 Q) fun _ _ => False
theorem compT2_mono {g : Tg} {tt : Rd Bool} {it1 : Rd (List Tr)} {g1 : Tg} {tt1 : Rd Bool} {te : Rd Tr} {vs1 : List Nat} {ρ : En} {Q Q' : List Tr → Me → Prop} (h : ∀ ds M, Q ds M → Q' ds M) : ∀ (xs acc : List Tr) (M : Me), compT2 g tt it1 g1 tt1 te vs1 ρ xs acc M Q → compT2 g tt it1 g1 tt1 te vs1 ρ xs acc M Q'
  | [], acc, M, q => h _ _ q
  | x :: r, acc, M, q => onSome_mono (fun ρ' => tt.mono (fun b M1 z => by
    by_cases hb : b = true
    · rw [if_pos hb] at z ⊢
      exact it1.mono (fun ys M2 z2 => compT_mono (fun acc' M3 z3 => compT2_mono h r acc' M3 z3) ys acc M2 z2) (fun _ _ z => z) z
    · rw [if_neg hb] at z ⊢
      exact compT2_mono h r _ M1 z) fun _ _ z => z) q
def dLc2 (c : Bool) (vs vs1 : List Nat) (it : Rd (List Tr)) (g : Tg) (tt : Rd Bool) (it1 : Rd (List Tr)) (g1 : Tg) (tt1 : Rd Bool) (te : Rd Tr) : Rd Tr := ⟨fun ρ M Q E => it.f ρ M (fun xs M1 => compT2 g tt it1 g1 tt1 te vs1 (wipeE ρ vs) xs [] M1 fun ds M2 => outT c ds M2 Q) E,
  fun h h' q => it.mono (fun xs M z => compT2_mono (fun ds M2 => outT_mono h) xs _ M z) h' q⟩
theorem lift_lc2 {c : Bool} {vs vs1 : List Nat} {it it1 : Rd (List Tr)} {g g1 : Tg} {tt tt1 : Rd Bool} {te : Rd Tr} (hg : ∀ i ∈ g.ids, i ∈ vs) (hg1 : ∀ i ∈ g1.ids, i ∈ vs1) {σ : L2.St} {H : Hp} {Q : VK} (h : liftE K W (dLc2 c vs vs1 it g tt it1 g1 tt1 te) σ H Q) :
    tLc2 (liftI K W it) (gTg K g) (liftT K W0 tt) (liftI K W0 it1) (gTg K g1) (liftT K W0 tt1) (liftE K W0 te) vs vs1 σ H Q := by
  obtain ⟨ρ, M, S, E, o, sl, er, q⟩ := h
  refine ⟨ρ, M, S, E, o, sl, er, it.mono (fun xs M1 q1 J H1 S1 l1 o1 w D nD => ?_) (fun _ _ z => z) q⟩
  refine ⟨fun i m H' => m = xs.length - i ∧ i ≤ xs.length ∧ ∃ acc M' S', Le S1 S' ∧ Mk1 K S1 H1 D acc M' S' H' ∧ compT2 g tt it1 g1 tt1 te vs1 (wipeE ρ vs) (xs.drop i) acc M' _, ⟨xs.length, by simp, Nat.zero_le _, [], M1, S1, Le.refl _, mk1_new o1 nD, q1⟩, ?_⟩
  rintro i m H' ⟨rfl, hi, acc, M', S', l', mk, q'⟩
  obtain ⟨accV, _, o', hD, gD', cD', ra⟩ := mk.ex
  by_cases hlt : i < xs.length
  · right
    rw [List.drop_eq_getElem_cons hlt] at q'
    obtain ⟨ρ2, e2, q2⟩ := onSome_of q'
    refine ⟨w.go i S' M' H' l' o' hlt, fun H' => ∃ acc M' S', Le S1 S' ∧ Mk1 K S1 H1 D acc M' S' H' ∧ compT2 g tt it1 g1 tt1 te vs1 (wipeE ρ vs) (xs.drop (i + 1)) acc M' _, fun H4 n4 => ⟨xs.length - (i + 1), by omega, rfl, hlt, n4⟩, fun x H2 y => ?_⟩
    obtain ⟨S3, d, e3, l3, o3, r3⟩ := w.yld i S' M' H' x H2 l' o' hlt y
    have ed : d = xs[i] := by
      rw [List.getElem?_eq_getElem hlt] at e3
      exact (Option.some.inj e3).symm
    subst ed
    refine setTg_ok o3 g _ x _ ρ2 (wipe σ vs) _ (((sl.mono l1.le).mono l').mono l3.le).wipe r3 e2 fun σ5 s5 w5 => ⟨by rw [w5 vs hg, wipe_idem], ?_⟩
    refine ⟨ρ2, M', S3, fun _ _ => False, o3, s5, err0, tt.mono (fun b M4 q4 H4 S4 l4 o4 => ?_) (fun _ _ z => z) q2⟩
    cases b with
    | true =>
      rw [if_pos rfl] at q4 ⊢
      refine ⟨ρ2, M4, S4, fun _ _ => False, o4, s5.mono l4.le, err0, it1.mono (fun ys M5 q5 J1 H5 S5 l5 o5 w1 => ?_) (fun _ _ z => z) q4⟩
      have L5 : Gr S' H' S5 H5 := l3.trans (l4.trans l5)
      have := comp_run (Fin1 := fun H' => ∃ acc M' S', Le S1 S' ∧ Mk1 K S1 H1 D acc M' S' H' ∧ compT2 g tt it1 g1 tt1 te vs1 (wipeE ρ vs) (xs.drop (i + 1)) acc M' _) (vs := vs1) w1 (Le.refl _) nD (mk.grow L5 o5) ((s5.mono l4.le).mono l5.le).wipe (Le.refl _) hg1 q5
        fun acc' M6 S6 H6 l6 mk6 q6 => ⟨acc', M6, S6, (l'.trans L5.le).trans l6, mk6, q6⟩
      rw [wipe_idem] at this
      exact this
    | false =>
      rw [if_neg Bool.false_ne_true] at q4 ⊢
      exact ⟨acc, M4, S4, l'.trans (l3.trans l4).le, mk.grow (l3.trans l4) o4, q4⟩
  · left
    have ei : i = xs.length := by omega
    subst ei
    rw [List.drop_length] at q'
    exact ⟨w.stop S' M' H' l' o', mk.fin l1 nD q'⟩
section
variable {elt tg iter tg1 iter1 : Expr} {ifs ifs1 : List Expr} {scope : Scope} {own : List (Str × Nat)} {vs1 : List Nat} {it it1 : Rd (List Tr)} {g g1 : Tg} {tt tt1 : Rd Bool} {te : Rd Tr}
theorem pd_lcX (c : Bool) (hc : X.calm = true) (hN : X.N.Nodup) (hi : PDI X W tg iter it) (ok : BlkOk X.N X.env.scope scope own) (hgv : ∀ i ∈ g.ids, i ∈ own.map (·.2))
    (hg : ∀ (s : Shared) (H : Hp) (C : Addr) (cl : List (Str × Addr)) (fp : List Addr), PDG (X.blk s H scope (compEnvC scope cl C X.env) fp) tg g)
    (ht : ∀ (s : Shared) (H : Hp) (C : Addr) (cl : List (Str × Addr)) (fp : List Addr), PDTs (X.blk s H scope (compEnvC scope cl C X.env) fp) W0 ifs tt)
    (he : ∀ (s : Shared) (H : Hp) (C : Addr) (cl : List (Str × Addr)) (fp : List Addr), PD (X.blk s H scope (compEnvC scope cl C X.env) fp) W0 elt te) (hf : ∀ x : Value, foldedSetIterable iter X.env x = pure x := by intro _; rfl) :
    PD X W (.ListComp elt [⟨tg, iter, ifs, 0⟩] scope pos) (dLcX c (own.map (·.2)) it g tt te) := pe_imp (pe_lc hc hN hi ok hg ht he hf) fun _ _ _ => lift_lcX hgv
theorem pds_setLcX {i : Nat} {y : Str} {py spos : Pos} (c : Bool) (hc : X.calm = true) (hN : X.N.Nodup) (hy : X.N[i]? = some y) (hyl : X.env.scope.names.lookup y = some .local)
    (hsw : swapsWith (.ListComp elt [⟨tg, iter, ifs, 0⟩] scope pos) (some (.Name y py)) spos.line X.env = pure true) (hi : PDI X W tg iter it) (ok : BlkOk X.N X.env.scope scope own) (hgv : ∀ i ∈ g.ids, i ∈ own.map (·.2))
    (hg : ∀ (s : Shared) (H : Hp) (C : Addr) (cl : List (Str × Addr)) (fp : List Addr), PDG (X.blk s H scope (compEnvC scope cl C X.env) fp) tg g)
    (ht : ∀ (s : Shared) (H : Hp) (C : Addr) (cl : List (Str × Addr)) (fp : List Addr), PDTs (X.blk s H scope (compEnvC scope cl C X.env) fp) W0 ifs tt)
    (he : ∀ (s : Shared) (H : Hp) (C : Addr) (cl : List (Str × Addr)) (fp : List Addr), PD (X.blk s H scope (compEnvC scope cl C X.env) fp) W0 elt te) (hf : ∀ x : Value, foldedSetIterable iter X.env x = pure x := by intro _; rfl) :
    PDS X W (.Assign [.Name y py] (.ListComp elt [⟨tg, iter, ifs, 0⟩] scope pos) spos) (sAsg (.nm i) (dLcX c (own.map (·.2)) it g tt te)) :=
  ps_imp (ps_setLc hc hN hy hyl hsw hi ok hg ht he hf) fun D σ H h => by
    have h1 : liftE X.K W (dLcX c (own.map (·.2)) it g tt te) σ H fun x H1 => gName i x σ H1 D.nx := by
      have := lift_asg (K := X.K) h
      simp only [gTg] at this
      exact this
    exact lift_lcX hgv h1
theorem pd_lc2 (c : Bool) (hc : X.calm = true) (hN : X.N.Nodup) (hi : PDI X W tg iter it) (ok : BlkOk X.N X.env.scope scope own) (hv : ∀ i ∈ vs1, i ∈ own.map (·.2)) (hgv : ∀ i ∈ g.ids, i ∈ own.map (·.2)) (hgv1 : ∀ i ∈ g1.ids, i ∈ vs1)
    (hg : ∀ (s : Shared) (H : Hp) (C : Addr) (cl : List (Str × Addr)) (fp : List Addr), PDG (X.blk s H scope (compEnvC scope cl C X.env) fp) tg g)
    (ht : ∀ (s : Shared) (H : Hp) (C : Addr) (cl : List (Str × Addr)) (fp : List Addr), PDTs (X.blk s H scope (compEnvC scope cl C X.env) fp) W0 ifs tt)
    (hi1 : ∀ (s : Shared) (H : Hp) (C : Addr) (cl : List (Str × Addr)) (fp : List Addr), PDI (X.blk s H scope (compEnvC scope cl C X.env) fp) W0 tg1 iter1 it1)
    (hg1 : ∀ (s : Shared) (H : Hp) (C : Addr) (cl : List (Str × Addr)) (fp : List Addr), PDG (X.blk s H scope (compEnvC scope cl C X.env) fp) tg1 g1)
    (ht1 : ∀ (s : Shared) (H : Hp) (C : Addr) (cl : List (Str × Addr)) (fp : List Addr), PDTs (X.blk s H scope (compEnvC scope cl C X.env) fp) W0 ifs1 tt1)
    (he : ∀ (s : Shared) (H : Hp) (C : Addr) (cl : List (Str × Addr)) (fp : List Addr), PD (X.blk s H scope (compEnvC scope cl C X.env) fp) W0 elt te) (hs : ∀ x, foldedSetIterable iter X.env x = pure x := by intro _; rfl) (hs1 : ∀ env x, foldedSetIterable iter1 env x = pure x := by intro _ _; rfl) :
    PD X W (.ListComp elt [⟨tg, iter, ifs, 0⟩, ⟨tg1, iter1, ifs1, 0⟩] scope pos) (dLc2 c (own.map (·.2)) vs1 it g tt it1 g1 tt1 te) := pe_imp (pe_lc2 hc hN hi ok hv hg ht hi1 hg1 ht1 he hs hs1) fun _ _ _ => lift_lc2 hgv hgv1
theorem pds_setLc2 {i : Nat} {y : Str} {py spos : Pos} (c : Bool) (hc : X.calm = true) (hN : X.N.Nodup) (hy : X.N[i]? = some y) (hyl : X.env.scope.names.lookup y = some .local)
    (hsw : swapsWith (.ListComp elt [⟨tg, iter, ifs, 0⟩, ⟨tg1, iter1, ifs1, 0⟩] scope pos) (some (.Name y py)) spos.line X.env = pure true) (hi : PDI X W tg iter it) (ok : BlkOk X.N X.env.scope scope own) (hv : ∀ i ∈ vs1, i ∈ own.map (·.2)) (hgv : ∀ i ∈ g.ids, i ∈ own.map (·.2)) (hgv1 : ∀ i ∈ g1.ids, i ∈ vs1)
    (hg : ∀ (s : Shared) (H : Hp) (C : Addr) (cl : List (Str × Addr)) (fp : List Addr), PDG (X.blk s H scope (compEnvC scope cl C X.env) fp) tg g)
    (ht : ∀ (s : Shared) (H : Hp) (C : Addr) (cl : List (Str × Addr)) (fp : List Addr), PDTs (X.blk s H scope (compEnvC scope cl C X.env) fp) W0 ifs tt)
    (hi1 : ∀ (s : Shared) (H : Hp) (C : Addr) (cl : List (Str × Addr)) (fp : List Addr), PDI (X.blk s H scope (compEnvC scope cl C X.env) fp) W0 tg1 iter1 it1)
    (hg1 : ∀ (s : Shared) (H : Hp) (C : Addr) (cl : List (Str × Addr)) (fp : List Addr), PDG (X.blk s H scope (compEnvC scope cl C X.env) fp) tg1 g1)
    (ht1 : ∀ (s : Shared) (H : Hp) (C : Addr) (cl : List (Str × Addr)) (fp : List Addr), PDTs (X.blk s H scope (compEnvC scope cl C X.env) fp) W0 ifs1 tt1)
    (he : ∀ (s : Shared) (H : Hp) (C : Addr) (cl : List (Str × Addr)) (fp : List Addr), PD (X.blk s H scope (compEnvC scope cl C X.env) fp) W0 elt te) (hs : ∀ x, foldedSetIterable iter X.env x = pure x := by intro _; rfl) (hs1 : ∀ env x, foldedSetIterable iter1 env x = pure x := by intro _ _; rfl) :
    PDS X W (.Assign [.Name y py] (.ListComp elt [⟨tg, iter, ifs, 0⟩, ⟨tg1, iter1, ifs1, 0⟩] scope pos) spos) (sAsg (.nm i) (dLc2 c (own.map (·.2)) vs1 it g tt it1 g1 tt1 te)) :=
  ps_imp (ps_setLc2 hc hN hy hyl hsw hi ok hv hg ht hi1 hg1 ht1 he hs hs1) fun D σ H h => by
    have h1 : liftE X.K W (dLc2 c (own.map (·.2)) vs1 it g tt it1 g1 tt1 te) σ H fun x H1 => gName i x σ H1 D.nx := by
      have := lift_asg (K := X.K) h
      simp only [gTg] at this
      exact this
    exact lift_lc2 hgv hgv1 h1
end
end
end DL
end T_DL16
section T_DL17
set_option Elab.async false
set_option linter.all false
set_option maxRecDepth 100000
set_option maxHeartbeats 4000000
/-! DL17: what the printed derivations name. -/
namespace DL
open PySem PySem.Spec PyProof.Rows L2
theorem u64 {k : Nat} {A : Around} (hr : Room k A) : A.units + 64 < cLine := hr.units
theorem u65 {k : Nat} {A : Around} (hr : Room k A) : A.units + 65 < cLine := by have := hr.un; omega
theorem u1 {k : Nat} {A : Around} (hr : Room k A) : A.units + 1 < cLine := by have := hr.un; omega
theorem bt_len : bootBuiltins "len" = some (.builtin "len") := by decide +kernel
theorem bt_sum : bootBuiltins "sum" = some (.builtin "sum") := by decide +kernel
theorem bt_all : bootBuiltins "all" = some (.builtin "all") := by decide +kernel
theorem bt_any : bootBuiltins "any" = some (.builtin "any") := by decide +kernel
theorem bt_max : bootBuiltins "max" = some (.builtin "max") := by decide +kernel
theorem bt_min : bootBuiltins "min" = some (.builtin "min") := by decide +kernel
theorem bt_abs : bootBuiltins "abs" = some (.builtin "abs") := by decide +kernel
theorem bt_sorted : bootBuiltins "sorted" = some (.builtin "sorted") := by decide +kernel
theorem bt_repr : bootBuiltins "repr" = some (.builtin "repr") := by decide +kernel
theorem bt_isinstance : bootBuiltins "isinstance" = some (.builtin "isinstance") := by decide +kernel
theorem bt_int : bootBuiltins "int" = some (.type "int") := by decide +kernel
theorem bt_str : bootBuiltins "str" = some (.type "str") := by decide +kernel
theorem bt_bool : bootBuiltins "bool" = some (.type "bool") := by decide +kernel
theorem bt_list : bootBuiltins "list" = some (.type "list") := by decide +kernel
theorem bt_tuple : bootBuiltins "tuple" = some (.type "tuple") := by decide +kernel
theorem bt_dict : bootBuiltins "dict" = some (.type "dict") := by decide +kernel
abbrev sl_append := PySem.F.slot_list_append
abbrev ty_append := PySem.F.type_list_append
abbrev sl_pop := PySem.F.slot_list_pop
abbrev ty_pop := PySem.F.type_list_pop
abbrev sl_extend := PySem.F.slot_list_extend
abbrev ty_extend := PySem.F.type_list_extend
def sNever : Sr := ⟨fun _ _ _ => False, fun _ q => q⟩
section
variable {X : Cx} {W : WX} {pos : Pos} {st : Stmt}
theorem ps_never {s : Stmt} : PS X s (fun _ _ _ => False) := ⟨fun _ _ _ _ _ _ h => h.elim⟩
theorem pds_never : PDS X W st sNever := ps_imp ps_never fun _ _ _ h => by
  obtain ⟨_, _, _, _, _, _, _, q⟩ := h
  exact q
theorem pd_gstr {x z : Str} (hg : Gl X x) (h : ∃ t, X.mg x = some (.str z t)) (hd : (x == ("__debug__" : Str)) = false := by decide) : PD X W (.Name x pos) (dC (.str z)) := by
  obtain ⟨t, h⟩ := h
  exact pd_glob hg h (v := .str z) ⟨t, rfl⟩ (fun _ => rep_str) hd
theorem pd_gint {x : Str} {i : Int} (hg : Gl X x) (h : ∃ t, X.mg x = some (.int i t)) (hd : (x == ("__debug__" : Str)) = false := by decide) : PD X W (.Name x pos) (dC (.int i)) := by
  obtain ⟨t, h⟩ := h
  exact pd_glob hg h (v := .int i) ⟨t, rfl⟩ (fun _ => rep_int) hd
theorem pd_gtup {x : Str} {zs : List Str} (hg : Gl X x) (h : ∃ a, X.mg x = some (.ref a) ∧ ∀ H, SqT X.K H a (zs.map V.str)) (hd : (x == ("__debug__" : Str)) = false := by decide) : PD X W (.Name x pos) (dC (.tup (zs.map Tr.str))) := by
  obtain ⟨a, h1, h2⟩ := h
  refine pd_glob hg h1 (v := .ref a) rfl (fun S => ?_) hd
  simp only [Rep]
  exact ⟨a, _, rfl, h2 S.G, (Reps.strs _).mpr rfl⟩
/-- x is True, x is False -/
def isBT : F2 := fun _ d e => match d, e with
  | .bl a, .bl b => some (.bl (a == b))
  | .non, .bl _ => some (.bl false)
  | .int _, .bl _ => some (.bl false)
  | .str _, .bl _ => some (.bl false)
  | _, _ => none
end
end DL
end T_DL17
section T_DL18
set_option Elab.async false
set_option linter.all false
set_option maxRecDepth 100000
set_option maxHeartbeats 200000
/-! DL18: C() without an own __init__; is True; dict(list of pairs); dict comprehensions. -/
namespace DL
open PySem PySem.Spec PyProof.Rows L2
section
variable {X : Cx} {W : WX} {pos p : Pos}
/-- a class without an own __init__ -/
structure Mk0 (K : PySem.W.Frag) (C : Addr) : Prop where
  makes : PySem.W.makesIn K C = true
  init : PySem.W.findIn K (.ref C) "__init__" = some (some (.builtin "object.__init__"))
  top : PySem.W.mroIn K C (.type "object") = some true
  kp : PySem.W.keepIn K (.ref C) = true
def dMk0 (c : Nat) : Rd Tr := ⟨fun _ M Q _ => Q (.ins c []) M, fun h _ q => h _ _ q⟩
theorem pd_mk0 {x : Str} {c : Nat} (hx : x = cnm c) (hf : cfs c = []) (m : Mk0 X.K (He.ga X.K x)) (hg : Gl X x) (hm : X.mg x = some (.ref (He.ga X.K x))) (hdb : (x == ("__debug__" : Str)) = false := by decide) : PD X W (.Call (.Name x p) [] [] pos) (dMk0 c) := by
  subst hx
  refine ⟨fun pins s σ H Q I h => ?_⟩
  obtain ⟨ρ, M, S, E, ok, sl, er, q⟩ := h
  refine wpAny_Call_Name_kw (ld_glob I hg hm ?_ hdb)
  refine PySem.W.callWith_K0 I.kIn m.kp (wpAny_call ?_)
  have I2 := Inv.made (C := He.ga X.K (cnm c)) I
  have n1 : H s.heap.objs.size = none := I.hok.fresh (Nat.le_refl _)
  have n2 : H (s.heap.objs.size + 1) = none := I.hok.fresh (Nat.le_succ _)
  have ne : s.heap.objs.size ≠ s.heap.objs.size + 1 := Nat.ne_of_lt (Nat.lt_succ_self _)
  refine make_map0 I.kIn m.makes m.init (fun self => PySem.W.Looks.of_pure (PySem.W.oi_bind self)) ?_
  have hget : ((s.heap.push PySem.W.emptyDict).push (PySem.W.instObj (He.ga X.K (cnm c)) s.heap.objs.size)).get? (s.heap.objs.size + 1) = some (PySem.W.instObj (He.ga X.K (cnm c)) s.heap.objs.size) := by
    have := Heap.get?_push_size (s.heap.push PySem.W.emptyDict) (o := PySem.W.instObj (He.ga X.K (cnm c)) s.heap.objs.size) rfl
    rwa [Heap.size_push] at this
  have ty : PySem.W.Looks (model X.prog X.w) ((s.heap.push PySem.W.emptyDict).push (PySem.W.instObj (He.ga X.K (cnm c)) s.heap.objs.size)) (isInstance (.ref (s.heap.objs.size + 1)) (.type "object")) true :=
    ((PySem.W.Looks.ld hget).andThen .now).andThen (PySem.W.looks_mroIn I2.kIn m.top)
  refine codeAny_call_builtin PySem.W.oi_plain PySem.W.entry_oi (@PySem.W.check_slot (model X.prog X.w) _ _ _ "object.__init__" "object" "__init__" (.ref (s.heap.objs.size + 1)) [] [] _ PySem.W.oi_kind PySem.W.oi_split ty (PySem.W.oi_args (.ref (s.heap.objs.size + 1))) ?_)
  rw [PySem.W.oi_run]
  refine wpAny_pure ⟨rfl, ?_⟩
  -- the instance is laid in the ghost
  have o1 : OkH X.K S M (upd H s.heap.objs.size (.own (s.heap.objs.size + 1))) := ok.same (same_upd n1)
  have n3 : upd H s.heap.objs.size (.own (s.heap.objs.size + 1)) (s.heap.objs.size + 1) = none := by rw [upd_ne (Ne.symm ne)]; exact n2
  obtain ⟨o2, l2⟩ := o1.tree (o := .ins (He.ga X.K (cnm c)) s.heap.objs.size []) n3
  refine ⟨.ref (s.heap.objs.size + 1), _, I2, rfl, q (.ref (s.heap.objs.size + 1)) _ _ ((Gr.same (same_upd n1)).trans (gr_tree l2 n3)) o2 ?_⟩
  simp only [Rep]
  refine ⟨s.heap.objs.size + 1, s.heap.objs.size, [], rfl, ?_, ?_, ?_⟩
  · show upd S.G (s.heap.objs.size + 1) (.ins (He.ga X.K (cnm c)) s.heap.objs.size []) (s.heap.objs.size + 1) = some (.ins (He.ga X.K (cnm c)) s.heap.objs.size [])
    exact upd_same
  · rw [hf]
    rfl
  · simp only [List.map_nil, Reps]

/-! ### is True -/
def isBX : F2 := fun _ d e => match d, e with
  | .bl a, .bl b => some (.bl (decide (a = b)))
  | _, _ => none
def notBX : F2 := fun _ d e => match d, e with
  | .bl a, .bl b => some (.bl (!decide (a = b)))
  | _, _ => none
theorem o_isB : OpR X (compareOp .Is) (rD X.K isBX) := opimp op_isBl fun x y H Q h => by
  obtain ⟨S, M, d, e, z, o, r1, r2, hz, k⟩ := h
  unfold isBX at hz
  split at hz
  · cases hz
    simp only [Rep] at r1 r2
    exact ⟨_, _, r1, r2, k _ H S (Gr.refl S H) o rep_bl⟩
  · cases hz
theorem o_notB : OpR X (compareOp .IsNot) (rD X.K notBX) := opimp op_notBl fun x y H Q h => by
  obtain ⟨S, M, d, e, z, o, r1, r2, hz, k⟩ := h
  unfold notBX at hz
  split at hz
  · cases hz
    simp only [Rep] at r1 r2
    exact ⟨_, _, r1, r2, k _ H S (Gr.refl S H) o rep_bl⟩
  · cases hz

/-! ### dict(list of pairs) -/
def pairs? : List Tr → Option (List (Key × Tr))
  | [] => some []
  | .tup [a, b] :: r => (keyT a).bind fun k => (pairs? r).map fun l => (k, b) :: l
  | _ :: _ => none
theorem pairs_rep {K : PySem.W.Frag} {S : Gh} {M : Me} {H : Hp} (o : OkH K S M H) : ∀ {ds : List Tr} {vs : List V} {l : List (Key × Tr)}, Reps K S ds vs → pairs? ds = some l →
    ∃ (ps : List Addr) (kvs : List (Key × V)), vs = ps.map V.ref ∧ Paired (fun p kv => SqT K H p [kV kv.1, kv.2]) ps kvs ∧ kvs.map Prod.fst = l.map Prod.fst ∧ Reps K S (l.map Prod.snd) (kvs.map Prod.snd)
  | [], vs, l, r, e => by
    simp only [Reps] at r
    simp only [pairs?, Option.some.injEq] at e
    subst r e
    exact ⟨[], [], rfl, .nil, rfl, by simp only [List.map_nil, Reps]⟩
  | d :: ds, vs, l, r, e => by
    simp only [Reps] at r
    obtain ⟨v, t, rfl, h1, h2⟩ := r
    unfold pairs? at e
    split at e
    · rename_i he
      cases he
    · rename_i a b r2 he
      obtain ⟨rfl, rfl⟩ := List.cons.inj he
      obtain ⟨k, e1, e2⟩ := Option.bind_eq_some_iff.mp e
      obtain ⟨l', e3, rfl⟩ := Option.map_eq_some_iff.mp e2
      simp only [Rep] at h1
      obtain ⟨p, ws, rfl, g, rs⟩ := h1
      obtain ⟨w1, w2, rfl, q1, q2⟩ := reps2 rs
      have ek := keyT_rep q1 e1
      subst ek
      obtain ⟨ps, kvs, rfl, hp, hk, hr⟩ := pairs_rep o h2 e3
      exact ⟨p :: ps, (k, w2) :: kvs, rfl, .cons (o.sqT g) hp, by simp only [List.map_cons, hk], Reps.cons q2 hr⟩
    · cases e
/-- keys that are met once -/
def dictF : FA := fun M ds => match ds with
  | [d] => ((seqL M d).bind pairs?).bind fun l => if (l.map Prod.fst).Nodup then some (.dct (mergeT [] [] l).1 (mergeT [] [] l).2, M) else none
  | _ => none
def dictFC : FA := fun M ds => match ds with
  | [d] => ((seqL M d).bind pairs?).bind fun l => if (l.map Prod.fst).Nodup then some (.cell M.length, M ++ [.dct (mergeT [] [] l).1 (mergeT [] [] l).2]) else none
  | _ => none
theorem c_dict (hc : X.calm = true) : CallR X (.type "dict") (rA X.K dictF) := callimp (call_dictP hc) fun vs H Q h => by
  obtain ⟨S, M, ds, z, M', o, r, hz, k⟩ := h
  unfold dictF at hz
  split at hz
  · obtain ⟨l, e1, e2⟩ := Option.bind_eq_some_iff.mp hz
    obtain ⟨xs, e3, e4⟩ := Option.bind_eq_some_iff.mp e1
    split at e2
    · rename_i nd
      cases e2
      obtain ⟨v, rfl, r1⟩ := reps1 r
      obtain ⟨a, ws, rfl, hq, rs⟩ := seqL_rep o r1 e3
      obtain ⟨ps, kvs, rfl, hp, hk, hr⟩ := pairs_rep o rs e4
      refine ⟨a, ps, kvs, rfl, SqL.of hq, hp, fun p n => ?_⟩
      obtain ⟨m1, m2⟩ := merge_rep (kvs := []) (ds := []) hk hr (by simpa using nd) Reps.nil
      obtain ⟨o', l'⟩ := o.tree (o := .dK (mergeK [] kvs)) n
      refine k _ _ _ (gr_tree l' n) o' ?_
      simp only [Rep]
      exact ⟨p, _, rfl, upd_same, m1, Reps.mono l' _ _ m2⟩
    · cases e2
  · cases hz
theorem c_dictC (hc : X.calm = true) : CallR X (.type "dict") (rA X.K dictFC) := callimp (call_dictP hc) fun vs H Q h => by
  obtain ⟨S, M, ds, z, M', o, r, hz, k⟩ := h
  unfold dictFC at hz
  split at hz
  · obtain ⟨l, e1, e2⟩ := Option.bind_eq_some_iff.mp hz
    obtain ⟨xs, e3, e4⟩ := Option.bind_eq_some_iff.mp e1
    split at e2
    · rename_i nd
      cases e2
      obtain ⟨v, rfl, r1⟩ := reps1 r
      obtain ⟨a, ws, rfl, hq, rs⟩ := seqL_rep o r1 e3
      obtain ⟨ps, kvs, rfl, hp, hk, hr⟩ := pairs_rep o rs e4
      refine ⟨a, ps, kvs, rfl, SqL.of hq, hp, fun p n => ?_⟩
      obtain ⟨m1, m2⟩ := merge_rep (kvs := []) (ds := []) hk hr (by simpa using nd) Reps.nil
      obtain ⟨o', l'⟩ := o.newCell (o := .dK (mergeK [] kvs)) (c := .dct (mergeT [] [] l).1 (mergeT [] [] l).2) n ⟨(o.fresh n).1, _, upd_same, m1, m2⟩
      refine k _ _ _ (gr_newCell l' n) o' ?_
      simp only [Rep]
      exact ⟨p, rfl, by rw [show M.length = S.C.length from o.len.symm]; simp⟩
    · cases e2
  · cases hz
end
end DL
end T_DL18
section T_DL19
set_option Elab.async false
set_option linter.all false
set_option maxRecDepth 100000
set_option maxHeartbeats 400000
/-! DL19: zip of two sequences (lists or tuples, mixed too), with any target. -/
namespace DL
open PySem PySem.Spec PyProof.Rows L2 RZ
open PySem.Sem (wp)

/-- an iterator over a list (false) or a tuple (true); what it goes over -/
def IsIt (b : Bool) (h : Heap) (it l : Addr) (i : Nat) : Prop := cond b (h.IsTupleIter it l i) (h.IsListIter it l i)
def IsSq (b : Bool) (h : Heap) (l : Addr) (xs : Array Value) : Prop := cond b (h.IsTuple l xs) (h.IsList l xs)
/-- a zip, whatever it knows of the pair it gave out last -/
def IsZ (h : Heap) (z TI TO : Addr) (o : Value) (f : Bool) : Prop := h.get? z = some { cls := .type "zip", dict := none, data := .fields #[o, .bool f, .bool false, .ref TI, .ref TO], slots := #[] }
def ownO (o : Value) : Prop := o = .none ∨ ∃ T : Addr, o = rawInt T
section
variable {prog : Program} {w : World} {A : Around} {E : Value → Shared → Prop} {s : Shared} {b c : Bool}
theorem IsIt.at {h h' : Heap} {it l : Addr} {i : Nat} (x : IsIt b h it l i) (e : ∀ o, h.get? it = some o → h'.get? it = some o) : IsIt b h' it l i := by
  cases b with
  | true => exact Heap.IsTupleIter.at x e
  | false => exact Heap.IsListIter.at x e
theorem IsSq.at {h h' : Heap} {l : Addr} {xs} (x : IsSq b h l xs) (e : ∀ o, h.get? l = some o → h'.get? l = some o) : IsSq b h' l xs := by
  cases b with
  | true => obtain ⟨o, ho, r⟩ := x; exact ⟨o, e _ ho, r⟩
  | false => obtain ⟨o, ho, r⟩ := x; exact ⟨o, e _ ho, r⟩
theorem IsIt.live {h : Heap} {it l : Addr} {i : Nat} (x : IsIt b h it l i) : ∃ o, h.get? it = some o ∧ ∀ v, o.data ≠ .cell v := by
  cases b with
  | true => obtain ⟨o, ho, _, d⟩ := x; exact ⟨o, ho, fun v q => by rw [d] at q; cases q⟩
  | false => obtain ⟨o, ho, _, d⟩ := x; exact ⟨o, ho, fun v q => by rw [d] at q; cases q⟩
theorem nextSq_item {it l : Addr} {i : Nat} {items : Array Value} {x : Value} {Q : Value → Shared → Prop} (hit : IsIt b s.heap it l i) (hl : IsSq b s.heap l items) (hx : items[i]? = some x)
    (hQ : ∀ h', IsIt b h' it l (i + 1) → Heap.SameBut it s.heap h' → Q x { s with heap := h' }) : wpAny (model prog w) A (Builtin.SmallTypes.nextOf (.ref it)) Q E s := by
  cases b with
  | true => exact nextOf_tuple_item hit hl hx hQ
  | false => exact wpAny_nextOf_list_item hit hl hx hQ
theorem nextSq_end {it l : Addr} {i : Nat} {items : Array Value} {Q : Value → Shared → Prop} (hh : A.handled = none) (hit : IsIt b s.heap it l i) (hl : IsSq b s.heap l items) (hx : items[i]? = none)
    (hE : ∀ h' e, Heap.ExtBut it s.heap h' → (∃ o, h'.get? e = some o ∧ o.cls = .type "StopIteration") → E (.ref e) { s with heap := h' }) : wpAny (model prog w) A (Builtin.SmallTypes.nextOf (.ref it)) Q E s := by
  cases b with
  | true => exact nextOf_tuple_end hh hit hl hx hE
  | false => exact wpAny_nextOf_list_end hh hit hl hx hE
/-- the owned pair is free, or it is marked as held -/
theorem isFree_z {z TI TO : Addr} {o : Value} {f : Bool} {Q : Bool → Shared → Prop} (hz : IsZ s.heap z TI TO o f) (ho : ownO o) (h1 : Q true s)
    (h2 : ∀ h', IsZ h' z TI TO o true → Heap.SameBut z s.heap h' → Q false { s with heap := h' }) : wpAny (model prog w) A (Builtin.SmallTypes.ownedTupleIsFree (.ref z)) Q E s := by
  unfold Builtin.SmallTypes.ownedTupleIsFree
  rcases ho with rfl | ⟨T, rfl⟩
  · exact wpAny_bind (wpAny_field hz rfl (x := .none) rfl (wpAny_pure h1))
  refine wpAny_bind (wpAny_field hz rfl (x := rawInt T) rfl ?_)
  show wpAny _ _ (loadIfAlive ((T : Int).toNat) >>= _) _ _ _
  rw [Int.toNat_natCast]
  refine wpAny_bind ?_
  have key : ∀ (Q' : Option Obj → Shared → Prop), Q' (s.heap.get? T) s → wpAny (model prog w) A (loadIfAlive T) Q' E s := fun Q' h => fun _ _ _ => h
  refine key _ ?_
  cases hT : s.heap.get? T with
  | none =>
    simp only [Option.isNone_none, if_true]
    exact wpAny_pure h1
  | some oT =>
    simp only [Option.isNone_some, Bool.false_eq_true, if_false]
    refine wpAny_bind (wpAny_field hz rfl (x := .bool f) rfl ?_)
    cases f with
    | true =>
      rw [if_neg (show ¬ ((Value.bool true != Value.bool true) = true) from Bool.false_ne_true)]
      exact wpAny_pure (h2 s.heap hz (Heap.SameBut.refl _ _))
    | false =>
      rw [if_pos (show (Value.bool false != Value.bool true) = true from rfl)]
      exact wpAny_bind (wpAny_setField_rec hz (by simp) fun h₁ hz₁ hs₁ => wpAny_pure (h2 h₁ hz₁ hs₁))
/-- the cells of a zip -/
structure ZSt (b c : Bool) (h : Heap) (z TI TO i1 i2 l1 l2 : Addr) (i : Nat) : Prop where
  z : ∃ o f, ownO o ∧ IsZ h z TI TO o f
  ti : IsPair h TI (.ref i1) (.ref i2)
  to : ∃ x y, IsPair h TO x y
  i1 : IsIt b h i1 l1 i
  i2 : IsIt c h i2 l2 i
/-- the next pair -/
theorem zipZ_next {z TI TO i1 i2 l1 l2 : Addr} {i : Nat} {xs ys : Array Value} {x y : Value} {Q : Value → Shared → Prop} (D : ZipApart z TI TO i1 i2 l1 l2)
    (st : ZSt b c s.heap z TI TO i1 i2 l1 l2 i) (hl1 : IsSq b s.heap l1 xs) (hl2 : IsSq c s.heap l2 ys) (hx : xs[i]? = some x) (hy : ys[i]? = some y)
    (hQ : ∀ h', ZSt b c h' z TI TO i1 i2 l1 l2 (i + 1) → IsPair h' s.heap.objs.size x y → h'.objs.size = s.heap.objs.size + 1 →
      (∀ a o, a ≠ z → a ≠ TO → a ≠ i1 → a ≠ i2 → s.heap.get? a = some o → h'.get? a = some o) → Q (.ref s.heap.objs.size) { s with heap := h' }) :
    wpAny (model prog w) A (Builtin.«zip.__next__» ⟨[.ref z], []⟩) (fun fin s' => ∃ v, fin = .done (.ret v) ∧ Q v s') E s := by
  obtain ⟨⟨o, f, ho, hz⟩, hTI, ⟨a, b', hTO⟩, h1, h2⟩ := st
  show wpAny _ _ (field (.ref z) 2 >>= _) _ _ _
  refine wpAny_bind (wpAny_field hz rfl (x := .bool false) rfl ?_)
  show wpAny _ _ (field (.ref z) 3 >>= _) _ _ _
  refine wpAny_bind (wpAny_field hz rfl (x := .ref TI) rfl ?_)
  refine wpAny_bind (wpAny_seqItems hTI rfl ?_)
  show wpAny _ _ (Builtin.SmallTypes.ownedTupleIsFree (.ref z) >>= _) _ _ _
  refine wpAny_bind (isFree_z hz ho ?_ fun h₁ hz₁ hs₁ => ?_)
  · -- the owned pair is used again
    simp only [if_true]
    refine wpAny_bind (wpAny_rule ?_)
    refine wpAny_bind (wpAny_field hz rfl (x := .ref TO) rfl ?_)
    refine wpAny_bind (wpAny_setField_rec hz (by simp) fun h₁ hz₁ hs₁ => ?_)
    replace hz₁ : IsZ h₁ z TI TO .ellipsis f := hz₁
    refine wpAny_bind ?_
    simp only [List.zipIdx_cons, List.zipIdx_nil, List.forIn_cons, List.forIn_nil]
    refine wpAny_bind (wpAny_bind (wpAny_onRaise ?_))
    show wpAny _ _ (Builtin.SmallTypes.nextOf (.ref i1) >>= _) _ _ _
    refine wpAny_bind (nextSq_item (s := { s with heap := h₁ }) (h1.at fun o e => hs₁.extBut _ _ D.i1z e) (hl1.at fun o e => hs₁.extBut _ _ D.l1z e) hx fun h₂ h1₂ hs₂ => wpAny_pure ?_)
    have hTO₂ : IsPair h₂ TO a b' := hs₂.extBut _ _ D.TOi1 (hs₁.extBut _ _ D.TOz hTO)
    refine wpAny_bind (wpAny_seqItems (s := { s with heap := h₂ }) hTO₂ rfl ?_)
    refine wpAny_bind (wpAny_updateSeq_pair (s := { s with heap := h₂ }) hTO₂ fun h₃ hTO₃ hs₃ => ?_)
    replace hTO₃ : IsPair h₃ TO x b' := hTO₃
    refine wpAny_bind (wpAny_letGo (wpAny_pure ?_))
    refine wpAny_bind (wpAny_bind (wpAny_onRaise ?_))
    show wpAny _ _ (Builtin.SmallTypes.nextOf (.ref i2) >>= _) _ _ _
    refine wpAny_bind (nextSq_item (s := { s with heap := h₃ }) (((h2.at fun o e => hs₁.extBut _ _ D.i2z e).at fun o e => hs₂.extBut _ _ D.i12.symm e).at fun o e => hs₃.extBut _ _ D.TOi2.symm e)
      (((hl2.at fun o e => hs₁.extBut _ _ D.l2z e).at fun o e => hs₂.extBut _ _ D.l2i1 e).at fun o e => hs₃.extBut _ _ D.l2TO e) hy fun h₄ h2₄ hs₄ => wpAny_pure ?_)
    have hTO₄ : IsPair h₄ TO x b' := hs₄.extBut _ _ D.TOi2 hTO₃
    refine wpAny_bind (wpAny_seqItems (s := { s with heap := h₄ }) hTO₄ rfl ?_)
    refine wpAny_bind (wpAny_updateSeq_pair (s := { s with heap := h₄ }) hTO₄ fun h₅ hTO₅ hs₅ => ?_)
    replace hTO₅ : IsPair h₅ TO x y := hTO₅
    refine wpAny_bind (wpAny_letGo (wpAny_pure (wpAny_pure ?_)))
    refine wpAny_bind (wpAny_seqItems (s := { s with heap := h₅ }) hTO₅ rfl ?_)
    refine wpAny_bind (wpAny_newTuple ?_)
    have hsz : h₅.objs.size = s.heap.objs.size := by rw [hs₅.1, hs₄.1, hs₃.1, hs₂.1, hs₁.1]
    have hz₅ : IsZ h₅ z TI TO .ellipsis f := hs₅.extBut _ _ D.TOz.symm (hs₄.extBut _ _ D.i2z.symm (hs₃.extBut _ _ D.TOz.symm (hs₂.extBut _ _ D.i1z.symm hz₁)))
    have hk₅ : ∀ c o, c ≠ z → c ≠ TO → c ≠ i1 → c ≠ i2 → s.heap.get? c = some o → h₅.get? c = some o := fun c o c1 c2 c3 c4 e =>
      hs₅.extBut _ _ c2 (hs₄.extBut _ _ c4 (hs₃.extBut _ _ c2 (hs₂.extBut _ _ c3 (hs₁.extBut _ _ c1 e))))
    have h1₅ : IsIt b h₅ i1 l1 (i + 1) := ((h1₂.at fun o e => hs₃.extBut _ _ D.TOi1.symm e).at fun o e => hs₄.extBut _ _ D.i12 e).at fun o e => hs₅.extBut _ _ D.TOi1.symm e
    have h2₅ : IsIt c h₅ i2 l2 (i + 1) := h2₄.at fun o e => hs₅.extBut _ _ D.TOi2.symm e
    have hzlt : z < h₅.objs.size := Heap.lt_size hz₅
    show wpAny _ _ (Builtin.SmallTypes.ownedTupleHandOut (.ref z) (.ref h₅.objs.size) >>= _) _ _ _
    refine wpAny_bind ?_
    unfold Builtin.SmallTypes.ownedTupleHandOut
    have hz₆ : IsZ (h₅.push { cls := .type "tuple", data := .seq #[x, y] }) z TI TO .ellipsis f := Heap.get?_push_of_some _ hz₅
    refine wpAny_bind (wpAny_setField_rec (s := { s with heap := h₅.push { cls := .type "tuple", data := .seq #[x, y] } }) hz₆ (by simp) fun h₇ hz₇ hs₇ => ?_)
    replace hz₇ : IsZ h₇ z TI TO (rawInt h₅.objs.size) f := hz₇
    refine wpAny_setField_rec (s := { s with heap := h₇ }) hz₇ (by simp) fun h₈ hz₈ hs₈ => ?_
    replace hz₈ : IsZ h₈ z TI TO (rawInt h₅.objs.size) false := hz₈
    have up : ∀ c o, c ≠ z → h₅.get? c = some o → h₈.get? c = some o := fun c o c1 e => hs₈.extBut _ _ c1 (hs₇.extBut _ _ c1 (Heap.get?_push_of_some _ e))
    have hT₈ : IsPair h₈ h₅.objs.size x y := hs₈.extBut _ _ (Nat.ne_of_gt hzlt) (hs₇.extBut _ _ (Nat.ne_of_gt hzlt) (Heap.get?_push_size _ rfl))
    have hz8 : h₈.objs.size = h₅.objs.size + 1 := by rw [hs₈.1, hs₇.1, Heap.size_push]
    rw [hsz] at hz₈ hT₈ hz8
    refine wpAny_pure ⟨_, rfl, ?_⟩
    show Q (.ref h₅.objs.size) _
    rw [hsz]
    exact hQ h₈ ⟨⟨_, _, .inr ⟨_, rfl⟩, hz₈⟩, up _ _ D.TIz (hs₅.extBut _ _ D.TITO (hs₄.extBut _ _ D.TIi2 (hs₃.extBut _ _ D.TITO (hs₂.extBut _ _ D.TIi1 (hs₁.extBut _ _ D.TIz hTI))))), ⟨x, y, up _ _ D.TOz hTO₅⟩, h1₅.at fun o e => up _ o D.i1z e, h2₅.at fun o e => up _ o D.i2z e⟩ hT₈ hz8
      fun c o c1 c2 c3 c4 e => up c o c1 (hk₅ c o c1 c2 c3 c4 e)
  · -- a new pair beside the one that is held
    simp only [Bool.false_eq_true, if_false]
    refine wpAny_bind ?_
    rw [← Array.forIn_toList]
    simp only [List.forIn_cons, List.forIn_nil]
    refine wpAny_bind (wpAny_bind (wpAny_holding ?_))
    show wpAny _ _ (Builtin.SmallTypes.nextOf (.ref i1) >>= _) _ _ _
    refine wpAny_bind (nextSq_item (s := { s with heap := h₁ }) (h1.at fun o e => hs₁.extBut _ _ D.i1z e) (hl1.at fun o e => hs₁.extBut _ _ D.l1z e) hx fun h₂ h1₂ hs₂ => wpAny_pure ?_)
    refine wpAny_pure ?_
    refine wpAny_bind (wpAny_bind (wpAny_holding ?_))
    show wpAny _ _ (Builtin.SmallTypes.nextOf (.ref i2) >>= _) _ _ _
    refine wpAny_bind (nextSq_item (s := { s with heap := h₂ }) ((h2.at fun o e => hs₁.extBut _ _ D.i2z e).at fun o e => hs₂.extBut _ _ D.i12.symm e) ((hl2.at fun o e => hs₁.extBut _ _ D.l2z e).at fun o e => hs₂.extBut _ _ D.l2i1 e) hy fun h₃ h2₃ hs₃ => wpAny_pure ?_)
    refine wpAny_pure (wpAny_pure ?_)
    show wpAny _ _ (newTuple [x, y] >>= _) _ _ _
    refine wpAny_bind (wpAny_newTuple ?_)
    have hsz : h₃.objs.size = s.heap.objs.size := by rw [hs₃.1, hs₂.1, hs₁.1]
    have hz₃ : IsZ h₃ z TI TO o true := hs₃.extBut _ _ D.i2z.symm (hs₂.extBut _ _ D.i1z.symm hz₁)
    have hk : ∀ c o, c ≠ z → c ≠ i1 → c ≠ i2 → s.heap.get? c = some o → h₃.get? c = some o := fun c o c1 c2 c3 e => hs₃.extBut _ _ c3 (hs₂.extBut _ _ c2 (hs₁.extBut _ _ c1 e))
    have h1₃ : IsIt b h₃ i1 l1 (i + 1) := h1₂.at fun o e => hs₃.extBut _ _ D.i12 e
    refine wpAny_pure ⟨_, rfl, ?_⟩
    show Q (.ref h₃.objs.size) _
    have hp : IsPair (h₃.push { cls := .type "tuple", data := .seq #[x, y] }) h₃.objs.size x y := Heap.get?_push_size _ rfl
    have hz4 : (h₃.push { cls := .type "tuple", data := .seq #[x, y] }).objs.size = h₃.objs.size + 1 := Heap.size_push ..
    have up : ∀ c o, h₃.get? c = some o → (h₃.push { cls := .type "tuple", data := .seq #[x, y] }).get? c = some o := fun c o e => Heap.get?_push_of_some _ e
    rw [hsz] at hp hz4 ⊢
    exact hQ _ ⟨⟨_, _, ho, up _ _ hz₃⟩, up _ _ (hk _ _ D.TIz D.TIi1 D.TIi2 hTI), ⟨_, _, up _ _ (hk _ _ D.TOz D.TOi1 D.TOi2 hTO)⟩, h1₃.at fun o e => up _ _ e, h2₃.at fun o e => up _ _ e⟩ hp hz4 fun c o c1 _ c2 c3 e => up _ _ (hk c o c1 c2 c3 e)
/-- the end -/
theorem zipZ_stop {z TI TO i1 i2 l1 l2 : Addr} {i : Nat} {xs ys : Array Value} {Q : PySem.Fin → Shared → Prop} (hh : A.handled = none) (D : ZipApart z TI TO i1 i2 l1 l2)
    (st : ZSt b c s.heap z TI TO i1 i2 l1 l2 i) (hl1 : IsSq b s.heap l1 xs) (hl2 : IsSq c s.heap l2 ys) (hend : xs[i]? = none ∨ ys[i]? = none)
    (hE : ∀ h' e, (∀ a o, a ≠ z → a ≠ TO → a ≠ i1 → a ≠ i2 → s.heap.get? a = some o → h'.get? a = some o) → (∃ o, h'.get? e = some o ∧ o.cls = .type "StopIteration") → E (.ref e) { s with heap := h' }) :
    wpAny (model prog w) A (Builtin.«zip.__next__» ⟨[.ref z], []⟩) Q E s := by
  obtain ⟨⟨o, f, ho, hz⟩, hTI, ⟨a, b', hTO⟩, h1, h2⟩ := st
  show wpAny _ _ (field (.ref z) 2 >>= _) _ _ _
  refine wpAny_bind (wpAny_field hz rfl (x := .bool false) rfl ?_)
  show wpAny _ _ (field (.ref z) 3 >>= _) _ _ _
  refine wpAny_bind (wpAny_field hz rfl (x := .ref TI) rfl ?_)
  refine wpAny_bind (wpAny_seqItems hTI rfl ?_)
  show wpAny _ _ (Builtin.SmallTypes.ownedTupleIsFree (.ref z) >>= _) _ _ _
  refine wpAny_bind (isFree_z hz ho ?_ fun h₁ hz₁ hs₁ => ?_)
  · simp only [if_true]
    refine wpAny_bind (wpAny_rule ?_)
    refine wpAny_bind (wpAny_field hz rfl (x := .ref TO) rfl ?_)
    refine wpAny_bind (wpAny_setField_rec hz (by simp) fun h₁ hz₁ hs₁ => ?_)
    replace hz₁ : IsZ h₁ z TI TO .ellipsis f := hz₁
    refine wpAny_bind ?_
    simp only [List.zipIdx_cons, List.zipIdx_nil, List.forIn_cons, List.forIn_nil]
    refine wpAny_bind (wpAny_bind (wpAny_onRaise ?_))
    show wpAny _ _ (Builtin.SmallTypes.nextOf (.ref i1) >>= _) _ _ _
    cases hx : xs[i]? with
    | none =>
      refine wpAny_bind (nextSq_end (s := { s with heap := h₁ }) hh (h1.at fun o e => hs₁.extBut _ _ D.i1z e) (hl1.at fun o e => hs₁.extBut _ _ D.l1z e) hx fun h₂ e hs₂ he => ?_)
      obtain ⟨oe, hoe, hce⟩ := he
      have hz₂ : IsZ h₂ z TI TO .ellipsis f := hs₂ _ _ D.i1z.symm hz₁
      have hez : e ≠ z := fun x => by subst x; rw [show h₂.get? e = _ from hz₂] at hoe; cases hoe; simp at hce
      refine wpAny_setField_rec (s := { s with heap := h₂ }) hz₂ (by simp) fun h₃ _ hs₃ => hE h₃ e (fun c o c1 _ c3 _ x => hs₃.extBut _ _ c1 (hs₂ _ _ c3 (hs₁.extBut _ _ c1 x))) ⟨oe, hs₃.extBut _ _ hez hoe, hce⟩
    | some x =>
      have hy : ys[i]? = none := by rcases hend with h | h; rw [hx] at h; cases h; exact h
      refine wpAny_bind (nextSq_item (s := { s with heap := h₁ }) (h1.at fun o e => hs₁.extBut _ _ D.i1z e) (hl1.at fun o e => hs₁.extBut _ _ D.l1z e) hx fun h₂ h1₂ hs₂ => wpAny_pure ?_)
      have hTO₂ : IsPair h₂ TO a b' := hs₂.extBut _ _ D.TOi1 (hs₁.extBut _ _ D.TOz hTO)
      refine wpAny_bind (wpAny_seqItems (s := { s with heap := h₂ }) hTO₂ rfl ?_)
      refine wpAny_bind (wpAny_updateSeq_pair (s := { s with heap := h₂ }) hTO₂ fun h₃ hTO₃ hs₃ => ?_)
      refine wpAny_bind (wpAny_letGo (wpAny_pure ?_))
      refine wpAny_bind (wpAny_bind (wpAny_onRaise ?_))
      show wpAny _ _ (Builtin.SmallTypes.nextOf (.ref i2) >>= _) _ _ _
      refine wpAny_bind (nextSq_end (s := { s with heap := h₃ }) hh (((h2.at fun o e => hs₁.extBut _ _ D.i2z e).at fun o e => hs₂.extBut _ _ D.i12.symm e).at fun o e => hs₃.extBut _ _ D.TOi2.symm e)
        (((hl2.at fun o e => hs₁.extBut _ _ D.l2z e).at fun o e => hs₂.extBut _ _ D.l2i1 e).at fun o e => hs₃.extBut _ _ D.l2TO e) hy fun h₄ e hs₄ he => ?_)
      obtain ⟨oe, hoe, hce⟩ := he
      have hz₄ : IsZ h₄ z TI TO .ellipsis f := hs₄ _ _ D.i2z.symm (hs₃.extBut _ _ D.TOz.symm (hs₂.extBut _ _ D.i1z.symm hz₁))
      have hez : e ≠ z := fun x => by subst x; rw [show h₄.get? e = _ from hz₄] at hoe; cases hoe; simp at hce
      refine wpAny_setField_rec (s := { s with heap := h₄ }) hz₄ (by simp) fun h₅ _ hs₅ => hE h₅ e (fun c o c1 c2 c3 c4 x => hs₅.extBut _ _ c1 (hs₄ _ _ c4 (hs₃.extBut _ _ c2 (hs₂.extBut _ _ c3 (hs₁.extBut _ _ c1 x))))) ⟨oe, hs₅.extBut _ _ hez hoe, hce⟩
  · simp only [Bool.false_eq_true, if_false]
    refine wpAny_bind ?_
    rw [← Array.forIn_toList]
    simp only [List.forIn_cons, List.forIn_nil]
    refine wpAny_bind (wpAny_bind (wpAny_holding ?_))
    show wpAny _ _ (Builtin.SmallTypes.nextOf (.ref i1) >>= _) _ _ _
    cases hx : xs[i]? with
    | none =>
      refine wpAny_bind (nextSq_end (s := { s with heap := h₁ }) hh (h1.at fun o e => hs₁.extBut _ _ D.i1z e) (hl1.at fun o e => hs₁.extBut _ _ D.l1z e) hx fun h₂ e hs₂ he => ?_)
      exact hE h₂ e (fun c o c1 _ c2 _ x => hs₂ _ _ c2 (hs₁.extBut _ _ c1 x)) he
    | some x =>
      have hy : ys[i]? = none := by rcases hend with h | h; rw [hx] at h; cases h; exact h
      refine wpAny_bind (nextSq_item (s := { s with heap := h₁ }) (h1.at fun o e => hs₁.extBut _ _ D.i1z e) (hl1.at fun o e => hs₁.extBut _ _ D.l1z e) hx fun h₂ h1₂ hs₂ => wpAny_pure ?_)
      refine wpAny_pure ?_
      refine wpAny_bind (wpAny_bind (wpAny_holding ?_))
      show wpAny _ _ (Builtin.SmallTypes.nextOf (.ref i2) >>= _) _ _ _
      refine wpAny_bind (nextSq_end (s := { s with heap := h₂ }) hh ((h2.at fun o e => hs₁.extBut _ _ D.i2z e).at fun o e => hs₂.extBut _ _ D.i12.symm e) ((hl2.at fun o e => hs₁.extBut _ _ D.l2z e).at fun o e => hs₂.extBut _ _ D.l2i1 e) hy fun h₃ e hs₃ he => ?_)
      exact hE h₃ e (fun c o c1 _ c2 c3 x => hs₃ _ _ c3 (hs₂.extBut _ _ c2 (hs₁.extBut _ _ c1 x))) he
theorem zipZ_type {z TI TO : Addr} {o : Value} {f : Bool} (hz : IsZ s.heap z TI TO o f) : s.TypeIs (.ref z) "zip" := ⟨_, hz, rfl⟩
theorem pyNext_zipZ {z TI TO i1 i2 l1 l2 : Addr} {i : Nat} {xs ys : Array Value} {x y : Value} {Q : Option Value → Shared → Prop} (D : ZipApart z TI TO i1 i2 l1 l2)
    (st : ZSt b c s.heap z TI TO i1 i2 l1 l2 i) (hl1 : IsSq b s.heap l1 xs) (hl2 : IsSq c s.heap l2 ys) (hx : xs[i]? = some x) (hy : ys[i]? = some y)
    (hQ : ∀ h', ZSt b c h' z TI TO i1 i2 l1 l2 (i + 1) → IsPair h' s.heap.objs.size x y → h'.objs.size = s.heap.objs.size + 1 →
      (∀ a o, a ≠ z → a ≠ TO → a ≠ i1 → a ≠ i2 → s.heap.get? a = some o → h'.get? a = some o) → Q (some (.ref s.heap.objs.size)) { s with heap := h' }) : wpAny (model prog w) A (pyNext (.ref z)) Q E s := by
  obtain ⟨o, f, _, hz⟩ := st.z
  have hT := zipZ_type hz
  unfold pyNext
  exact wpAny_bind (wpAny_attempt (wpAny_callSpecial?_slot (name := Str.ofString "__next__") hT F.slot_zip_next
    (wpAny_call_entry F.slot_zip_next hT F.entry_zip_next (zipZ_next D st hl1 hl2 hx hy fun h' a1 a2 a3 a4 => wpAny_pure (hQ h' a1 a2 a3 a4)) (F.args_zip_next_1 _))))
theorem pyNext_zipZ_end {z TI TO i1 i2 l1 l2 : Addr} {i : Nat} {xs ys : Array Value} {Q : Option Value → Shared → Prop} (hh : A.handled = none) (D : ZipApart z TI TO i1 i2 l1 l2)
    (st : ZSt b c s.heap z TI TO i1 i2 l1 l2 i) (hl1 : IsSq b s.heap l1 xs) (hl2 : IsSq c s.heap l2 ys) (hend : xs[i]? = none ∨ ys[i]? = none)
    (hQ : ∀ h', (∀ a o, a ≠ z → a ≠ TO → a ≠ i1 → a ≠ i2 → s.heap.get? a = some o → h'.get? a = some o) → Q none { s with heap := h' }) : wpAny (model prog w) A (pyNext (.ref z)) Q E s := by
  obtain ⟨o, f, _, hz⟩ := st.z
  have hT := zipZ_type hz
  unfold pyNext
  refine wpAny_bind (wpAny_attempt (wpAny_callSpecial?_slot (name := Str.ofString "__next__") hT F.slot_zip_next
    (wpAny_call_entry F.slot_zip_next hT F.entry_zip_next (zipZ_stop hh D st hl1 hl2 hend fun h' e hk he => ?_) (F.args_zip_next_1 _))))
  obtain ⟨o, ho, hc⟩ := he
  refine wpAny_bind (wpAny_isInstance (T := "StopIteration") (b := true) ⟨o, ho, hc⟩ isSubtype_stop ?_)
  exact wpAny_pure (hQ _ hk)
theorem pyIter_zipZ {z TI TO : Addr} {o : Value} {f : Bool} {Q : Value → Shared → Prop} (hz : IsZ s.heap z TI TO o f) (h : Q (.ref z) s) : wpAny (model prog w) A (pyIter (.ref z)) Q E s := by
  have hT := zipZ_type hz
  refine wpAny_pyIter_slot hT F.slot_zip_iter (wpAny_call_entry F.slot_zip_iter hT F.entry_zip_iter ?_ (F.args_zip_iter_1 _))
  show wpAny _ _ (ret (.ref z)) _ _ s
  exact wpAny_pure ⟨_, rfl, "zip", _, hT, F.slot_zip_next.lookup, h⟩
/-- the step ahead of the store -/
theorem go_zipZ {tg : Expr} {z TI TO T : Addr} {o : Value} {f : Bool} {Q : Unit → Shared → Prop} (hz : IsZ s.heap z TI TO o f) (ho : ownO o)
    (hQ : ∀ h' o' f', ownO o' → IsZ h' z TI TO o' f' → Heap.SameBut z s.heap h' → Q () { s with heap := h' }) : wpAny (model prog w) A (letOwnedTupleGo tg (.ref z) (.ref T)) Q E s := by
  have same : Q () s := hQ s.heap o f ho hz (Heap.SameBut.refl _ _)
  have two : wpAny (model prog w) A (do
      let o ← load z
      match o.cls, o.data with
      | .type n, .fields vs =>
        if ["enumerate", "zip", "dict_itemiterator", "dict_reverseitemiterator", "odict_iterator", "itertools.zip_longest", "itertools.pairwise"].contains n && vs[0]? == some (rawInt T) then
          rule "for.unpacks-the-owned-tuple"
          updateField z 0 .none
      | _, _ => pure ()) Q E s := by
    refine wpAny_bind (wpAny_load hz ?_)
    show wpAny _ _ (if _ then _ else _) Q E s
    split
    · refine wpAny_bind (wpAny_rule ?_)
      show wpAny _ _ (setField (.ref z) 0 .none) Q E s
      exact wpAny_setField_rec hz (by simp) fun h' hz' hs' => hQ h' .none f (.inl rfl) hz' hs'
    · exact wpAny_pure same
  unfold letOwnedTupleGo
  cases tg <;> first
    | exact wpAny_pure same
    | exact two
end
end DL
end T_DL19
section T_DL20
set_option Elab.async false
set_option linter.all false
set_option maxRecDepth 100000
set_option maxHeartbeats 400000
/-! DL20: zip as what a loop goes over, any target. -/
namespace DL
open PySem PySem.Spec PyProof.Rows L2 RZ
open PySem.Sem (wp)

/-- a tracked list (false) or tuple (true) -/
def SqB (b : Bool) (K : PySem.W.Frag) (H : Hp) (a : Addr) (xs : List V) : Prop := cond b (SqT K H a xs) (SqL K H a xs)
section
variable {X : Cx} {pins : List (Addr × Obj)} {σ : L2.St} {H : Hp} {s : Shared} {b c : Bool}
theorem inv_seqB {a : Addr} {xs : List V} (I : Inv X pins σ H s) (h : SqB b X.K H a xs) : ∃ its : List Value, Vals xs its ∧ IsSq b s.heap a its.toArray ∧ a < s.heap.objs.size ∧ xs.length ≤ sizeLine := by
  cases b with
  | true =>
    obtain ⟨its, r, p, z⟩ := I.tuple h
    obtain ⟨o, ho, _⟩ := id p
    exact ⟨its, r, p, Heap.lt_size ho, z⟩
  | false =>
    obtain ⟨its, r, p, z⟩ := I.list h
    exact ⟨its, r, p.isList, p.lt, z⟩
theorem inv_seqB_inj {a : Addr} {xs ys : List V} (I : Inv X pins σ H s) (h : SqB b X.K H a xs) (h' : SqB b X.K H a ys) : xs = ys := by
  cases b with
  | true => exact I.tuple_inj h h'
  | false => exact I.list_inj h h'
end
/-- the sequences at a and l as they stand at each turn, the items in new pairs -/
def ItzG (b c : Bool) (K : PySem.W.Frag) (a l : Addr) : It :=
  ⟨fun i H => ∃ (xs ys : List V) (x y : V), SqB b K H a xs ∧ SqB c K H l ys ∧ xs[i]? = some x ∧ ys[i]? = some y,
    fun i H v H' => ∃ T x y, v = .ref T ∧ H T = none ∧ H' = upd H T (.tup [x, y]) ∧ (∀ xs, SqB b K H a xs → xs[i]? = some x) ∧ ∀ ys, SqB c K H l ys → ys[i]? = some y,
    fun i H => ∃ xs ys : List V, SqB b K H a xs ∧ SqB c K H l ys ∧ (xs.length ≤ i ∨ ys.length ≤ i)⟩
theorem turn_zipZ {P : Program} {w : World} {K : PySem.W.Frag} {tg : Expr} {a l z TI TO i1 i2 : Addr} {b c : Bool} (D : ZipApart z TI TO i1 i2 a l) :
    Turn P w K tg (ItzG b c K a l) [z, TI, TO, i1, i2] z (fun i h => ZSt b c h z TI TO i1 i2 a l i) where
  mem := by simp
  obj := fun i h st d hd => by
    obtain ⟨⟨o, f, ho, hz⟩, hTI, ⟨x, y, hTO⟩, h1, h2⟩ := st
    have e' : d = z ∨ d = TI ∨ d = TO ∨ d = i1 ∨ d = i2 := by simpa using hd
    rcases e' with q | q | q | q | q
    · rw [q]; exact ⟨_, hz, fun v q => nomatch q⟩
    · rw [q]; exact ⟨_, hTI, fun v q => nomatch q⟩
    · rw [q]; exact ⟨_, hTO, fun v q => nomatch q⟩
    · rw [q]; exact h1.live
    · rw [q]; exact h2.live
  keep := fun i h h' st k => by
    obtain ⟨⟨o, f, ho, hz⟩, hTI, ⟨x, y, hTO⟩, h1, h2⟩ := st
    exact ⟨⟨o, f, ho, k z (by simp) _ hz⟩, k TI (by simp) _ hTI, ⟨x, y, k TO (by simp) _ hTO⟩, h1.at fun o q => k i1 (by simp) o q, h2.at fun o q => k i2 (by simp) o q⟩
  item := by
    intro X hP hw hK hc i pins s σ H E I hf st hg
    subst hP hw hK
    obtain ⟨xs, ys, x, y, hqx, hqy, hx, hy⟩ := hg
    obtain ⟨its, rv, p, _, _⟩ := inv_seqB I hqx
    obtain ⟨its2, rv2, p2, _, _⟩ := inv_seqB I hqy
    obtain ⟨u, hu, ru⟩ := rv.get hx
    obtain ⟨u2, hu2, ru2⟩ := rv2.get hy
    have lt : ∀ d ∈ [z, TI, TO, i1, i2], d < s.heap.objs.size := fun d hd => by
      obtain ⟨⟨o, f, ho, hz⟩, hTI, ⟨x, y, hTO⟩, h1, h2⟩ := id st
      have e' : d = z ∨ d = TI ∨ d = TO ∨ d = i1 ∨ d = i2 := by simpa using hd
      rcases e' with q | q | q | q | q
      · rw [q]; exact Heap.lt_size hz
      · rw [q]; exact Heap.lt_size hTI
      · rw [q]; exact Heap.lt_size hTO
      · rw [q]; obtain ⟨_, e1, _⟩ := h1.live; exact Heap.lt_size e1
      · rw [q]; obtain ⟨_, e1, _⟩ := h2.live; exact Heap.lt_size e1
    refine pyNext_zipZ D st p p2 (x := u) (y := u2) (by simpa using hu) (by simpa using hu2) fun h' st' hT hsz hk => ?_
    obtain ⟨o', f', ho', hz'⟩ := st'.z
    refine ⟨_, rfl, go_zipZ (s := { s with heap := h' }) hz' ho' fun h'' o'' f'' ho'' hz'' sb => ?_⟩
    have hzl : z < s.heap.objs.size := lt z (by simp)
    have hT2 : h''.get? s.heap.objs.size = some { cls := .type "tuple", data := .seq #[u, u2] } := (sb.2 _ (Nat.ne_of_gt hzl)).trans hT
    have new : ObjOk X.prog X.w (upd H s.heap.objs.size (.tup [x, y])) h'' s.heap.objs.size (.tup [x, y]) :=
      ⟨by show 2 ≤ sizeLine; decide, [u, u2], .cons ru (.cons ru2 .nil), ⟨_, hT2, rfl, _, rfl⟩⟩
    have I1 : Inv X pins σ (upd H s.heap.objs.size (.tup [x, y])) { s with heap := h'' } :=
      I.turnedNew (t' := s.toks) (ch := [z, TI, TO, i1, i2]) (fun d o hb q => (sb.2 d (fun q' => hb (by simp [q']))).trans (hk d o (fun q' => hb (by simp [q'])) (fun q' => hb (by simp [q'])) (fun q' => hb (by simp [q'])) (fun q' => hb (by simp [q'])) q)) hf (Nat.le_refl _) new
    have st2 : ZSt b c h'' z TI TO i1 i2 a l (i + 1) := ⟨⟨o'', f'', ho'', hz''⟩, (sb.2 _ D.TIz).trans st'.ti, by
      obtain ⟨x', y', q⟩ := st'.to
      exact ⟨x', y', (sb.2 _ D.TOz).trans q⟩, st'.i1.at fun o q => (sb.2 _ D.i1z).trans q, st'.i2.at fun o q => (sb.2 _ D.i2z).trans q⟩
    refine ⟨.ref s.heap.objs.size, _, I1, rfl, ⟨_, x, y, rfl, I.hok.fresh (Nat.le_refl _), rfl, fun l' hl => by rw [inv_seqB_inj I hl hqx]; exact hx, fun l' hl => by rw [inv_seqB_inj I hl hqy]; exact hy⟩, st2, fun d hd => ?_⟩
    rw [upd_ne (Nat.ne_of_lt (lt d hd))]
    exact (hf d hd).1
  done := by
    intro X hP hw hK hc i pins s σ H E I hf st hg
    subst hP hw hK
    obtain ⟨xs, ys, hqx, hqy, hend⟩ := hg
    obtain ⟨its, rv, p, _, _⟩ := inv_seqB I hqx
    obtain ⟨its2, rv2, p2, _, _⟩ := inv_seqB I hqy
    have l1 := rv.length
    have l2 := rv2.length
    have he : its.toArray[i]? = none ∨ its2.toArray[i]? = none := by
      rcases hend with q | q
      · exact .inl (by simp; omega)
      · exact .inr (by simp; omega)
    exact pyNext_zipZ_end (I.ok.hd hc) D st p p2 he fun h' hk => ⟨rfl, I.turnedL (t' := s.toks) (ch := [z, TI, TO, i1, i2]) (fun d o hb q =>
      hk d o (fun q' => hb (by simp [q'])) (fun q' => hb (by simp [q'])) (fun q' => hb (by simp [q'])) (fun q' => hb (by simp [q'])) q) hf⟩
  self := fun A i s Q E st h => by
    obtain ⟨o, f, ho, hz⟩ := st.z
    exact pyIter_zipZ hz h
/-- iter of a list or a tuple -/
def itObj (b : Bool) (l : Addr) : Obj := cond b { cls := .type "tuple_iterator", data := .fields #[.ref l, .int 0 0] } { cls := .type "list_iterator", data := .fields #[.ref l, .int 0 0] }
theorem begins_sq (b : Bool) (l : Addr) (items : Array Value) : Begins (.ref l) (itObj b l) fun h => IsSq b h l items := by
  cases b with
  | true => exact begins_tuple l items
  | false => exact begins_list l items
theorem isIt_of {b : Bool} {h : Heap} {it l : Addr} (e : h.get? it = some (itObj b l)) : IsIt b h it l 0 := by
  cases b with
  | true => exact ⟨_, e, rfl, rfl⟩
  | false => exact ⟨_, e, rfl, rfl⟩
/-- a zip is made -/
theorem made_zipZ {X : Cx} {pins : List (Addr × Obj)} {σ : L2.St} {H : Hp} {s : Shared} {b c : Bool} {a l : Addr} {xs ys : List V} {Q : Value → Shared → Prop} {E : Value → Shared → Prop} (I : Inv X pins σ H s) (hx : SqB b X.K H a xs) (hy : SqB c X.K H l ys)
    (h : ∀ (z TI TO i1 i2 : Addr) (h' : Heap), Inv X pins σ H { s with heap := h' } → ZipApart z TI TO i1 i2 a l → ZSt b c h' z TI TO i1 i2 a l 0 → (∀ d ∈ [z, TI, TO, i1, i2], FpOk X pins H d ∧ s.heap.objs.size ≤ d ∧ d < h'.objs.size) → (∀ d o, s.heap.get? d = some o → h'.get? d = some o) → Q (.ref z) { s with heap := h' }) :
    wpAny (model X.prog X.w) X.A (call (.type "zip") [.ref a, .ref l]) Q E s := by
  obtain ⟨its, rv, p, lt1, _⟩ := inv_seqB I hx
  obtain ⟨its2, rv2, p2, lt2, _⟩ := inv_seqB I hy
  refine zip_begins2 (begins_sq b a its.toArray) (begins_sq c l its2.toArray) p p2 fun h' hz hTI hTO g1 g2 hsz hk => ?_
  refine h _ (s.heap.objs.size + 2) (s.heap.objs.size + 3) s.heap.objs.size (s.heap.objs.size + 1) h' (I.kept (t' := s.toks) hk) (PySem.W.ktu_apart s.heap.objs.size a l lt1 lt2) ⟨⟨_, _, .inl rfl, hz⟩, hTI, ⟨_, _, hTO⟩, isIt_of g1, isIt_of g2⟩ (fun d hd => ?_) hk
  have e' : d = s.heap.objs.size + 4 ∨ d = s.heap.objs.size + 2 ∨ d = s.heap.objs.size + 3 ∨ d = s.heap.objs.size ∨ d = s.heap.objs.size + 1 := by simpa using hd
  have hle : s.heap.objs.size ≤ d ∧ d < h'.objs.size := by
    rw [hsz]
    show (s.heap.objs.size : Nat) ≤ d ∧ (d : Nat) < s.heap.objs.size + 5
    rcases e' with z | z | z | z | z <;> subst z <;> constructor <;> first | exact Nat.le_add_right _ _ | exact Nat.le_refl _ | (exact Nat.add_lt_add_left (by decide) _) | (exact Nat.lt_add_of_pos_right (by decide))
  exact ⟨I.fpOk hle.1 (I.hok.fresh hle.1), hle⟩
def iZipG (K : PySem.W.Frag) (ta : TA) : TI := fun σ H R => ta σ H fun vs H1 => ∃ b c a l xs ys, vs = [.ref a, .ref l] ∧ SqB b K H1 a xs ∧ SqB c K H1 l ys ∧ R (ItzG b c K a l) H1
theorem pi_zipG {X : Cx} {e e2 : Expr} {ta : TA} {p pos : Pos} {tg : Expr} (hg : Gl X "zip") (hm : X.mg "zip" = none) (ha : PA X [e, e2] ta)
    (hs : starEach [e, e2] X.env = (false, eval e X.env) :: starEach [e2] X.env := by rfl) (hpl : (backTo pos (starEach [e2] X.env)).any (·.1) = false := by rfl) :
    PI X tg (.Call (.Name "zip" p) [e, e2] [] pos) (iZipG X.K ta) := by
  refine ⟨fun pins s σ H R I h => ?_⟩
  refine Call_ (ld_blt I hg hm PyProof.Rows.boot_zip (PyProof.Rows.callWith_type1 (thn (ha.run pos pins s σ H _ I h) fun us s1 ⟨vs, H1, I1, r1, q1⟩ => ?_) hs hpl))
  obtain ⟨b, c, a, l, xs, ys, ex, qx, qy, q⟩ := q1
  subst ex
  cases r1 with
  | cons r rr =>
    cases rr with
    | cons r' rr =>
      cases rr
      cases r
      cases r'
      refine made_zipZ I1 qx qy fun z TI TO i1 i2 h' I2 D st hf hk => ?_
      obtain ⟨o, f, ho, hz⟩ := id st.z
      exact pyIter_zipZ hz ⟨z, [z, TI, TO, i1, i2], _, _, H1, rfl, I2, turn_zipZ D, st, fun d hd => (hf d hd).1, q⟩

/-! ### over trees -/
/-- a fixed list (false) or tuple (true) -/
def fixedB : Tr → Option (Bool × List Tr)
  | .lst xs => some (false, xs)
  | .scr ns => some (false, ns.map Tr.int)
  | .tup xs => some (true, xs)
  | _ => none
theorem fixedB_rep {K : PySem.W.Frag} {S : Gh} {d : Tr} {v : V} {b : Bool} {xs : List Tr} (r : Rep K S d v) (e : fixedB d = some (b, xs)) : ∃ a vs, v = .ref a ∧ SqB b K S.G a vs ∧ Reps K S xs vs := by
  cases d with
  | lst ys =>
    simp only [fixedB, Option.some.injEq, Prod.mk.injEq] at e
    obtain ⟨rfl, rfl⟩ := e
    simp only [Rep] at r
    obtain ⟨a, vs, rfl, g, q⟩ := r
    exact ⟨a, vs, rfl, SqL.of g, q⟩
  | scr ns =>
    simp only [fixedB, Option.some.injEq, Prod.mk.injEq] at e
    obtain ⟨rfl, rfl⟩ := e
    simp only [Rep] at r
    obtain ⟨a, rfl, g⟩ := r
    exact ⟨a, _, rfl, g, (Reps.ints ns).mpr rfl⟩
  | tup ys =>
    simp only [fixedB, Option.some.injEq, Prod.mk.injEq] at e
    obtain ⟨rfl, rfl⟩ := e
    simp only [Rep] at r
    obtain ⟨a, vs, rfl, g, q⟩ := r
    exact ⟨a, vs, rfl, g, q⟩
  | _ => simp [fixedB] at e
section
variable {K : PySem.W.Frag} {S : Gh} {M : Me} {H : Hp} {b c : Bool}
theorem OkH.sqB (o : OkH K S M H) {a : Addr} {vs : List V} (e : SqB b K S.G a vs) : SqB b K H a vs := by
  cases b with
  | true => exact o.sqT e
  | false => exact o.sqL e
theorem Le.sqB {S' : Gh} (h : Le S S') {a : Addr} {vs : List V} (e : SqB b K S.G a vs) : SqB b K S'.G a vs := by
  cases b with
  | true => exact h.sqT e
  | false => exact h.sqL e
theorem walksZG {a l : Addr} {vs ws : List V} {xs ys : List Tr} {H0 : Hp} (g : SqB b K S.G a vs) (r : Reps K S xs vs) (g' : SqB c K S.G l ws) (r' : Reps K S ys ws) : WalksT K (ItzG b c K a l) (zipT xs ys) S H0 where
  go := fun i S2 M2 H l o hi => by
    have h1 := r.length
    have h2 := r'.length
    rw [zipT_len] at hi
    exact ⟨vs, ws, vs[i]'(by omega), ws[i]'(by omega), o.sqB (l.sqB g), o.sqB (l.sqB g'), by simp [show i < vs.length by omega], by simp [show i < ws.length by omega]⟩
  yld := fun i S2 M2 H x H2 l o hi y => by
    obtain ⟨T, w, z, rfl, n, rfl, y1, y2⟩ := y
    obtain ⟨d, e1, e2⟩ := r.get' (y1 vs (o.sqB (l.sqB g)))
    obtain ⟨d', f1, f2⟩ := r'.get' (y2 ws (o.sqB (l.sqB g')))
    obtain ⟨S3, l3, o3, r3⟩ := new_tup (ds := [d, d']) (vs := [w, z]) o (Reps.cons (Rep.mono l _ _ e2) (Reps.cons (Rep.mono l _ _ f2) Reps.nil)) n
    exact ⟨S3, _, zipT_get xs ys i d d' e1 f1, l3, o3, r3⟩
  stop := fun S2 M2 H l o => ⟨vs, ws, o.sqB (l.sqB g), o.sqB (l.sqB g'), by rw [zipT_len, ← r.length, ← r'.length]; omega⟩
end
def dZipG (u : Rd (List Tr)) : Rd (List Tr) := ⟨fun ρ M Q E => u.f ρ M (fun ds M1 => match ds with
  | [d, e] => onSome (fixedB d) fun xs => onSome (fixedB e) fun ys => Q (zipT xs.2 ys.2) M1
  | _ => False) E, fun h h' q => u.mono (fun ds M1 z => by
    split at z
    · exact onSome_mono (fun _ => onSome_mono fun _ => h _ _) z
    · exact z.elim) h' q⟩
theorem pdi_zipG {X : Cx} {W : WX} {pos p : Pos} {tg a b : Expr} {u : Rd (List Tr)} (hg : Gl X "zip") (hm : X.mg "zip" = none) (ha : PDA X W [a, b] u) (hs : starEach [a, b] X.env = (false, eval a X.env) :: starEach [b] X.env := by rfl) (hpl : (backTo pos (starEach [b] X.env)).any (·.1) = false := by rfl) :
    PDI X W tg (.Call (.Name "zip" p) [a, b] [] pos) (dZipG u) := pi_imp (pi_zipG hg hm ha hs hpl) fun σ H R h => by
  obtain ⟨ρ, M, S, E, o, sl, er, q⟩ := h
  refine ⟨ρ, M, S, E, o, sl, er, u.mono (fun ds M1 q1 vs H1 S1 l1 o1 r1 => ?_) (fun _ _ z => z) q⟩
  dsimp only at q1
  split at q1
  · obtain ⟨⟨b1, xs⟩, e, q2⟩ := onSome_of q1
    obtain ⟨⟨b2, ys⟩, e', q3⟩ := onSome_of q2
    obtain ⟨v, v', rfl, rv, rv'⟩ := reps2 r1
    obtain ⟨a, ws, rfl, g, rs⟩ := fixedB_rep rv e
    obtain ⟨b, ws', rfl, g', rs'⟩ := fixedB_rep rv' e'
    exact ⟨b1, b2, a, b, ws, ws', rfl, o1.sqB g, o1.sqB g', q3 _ H1 S1 l1 o1 (walksZG g rs g' rs')⟩
  · exact q1.elim
end DL
end T_DL20
section T_DL21
set_option Elab.async false
set_option linter.all false
set_option maxRecDepth 100000
set_option maxHeartbeats 400000
/-! DL21: a zip's pairs collected: [*zip(..)], list(zip(..)). -/
namespace DL
open PySem PySem.Spec PyProof.Rows L2 RZ
open PySem.Sem (wp)

/-- the pairs given out stand at Ts, in order, none below lim, none above the heap's size -/
structure Outs (lim : Addr) (xs ys : Array Value) (Ts : List Addr) (h : Heap) : Prop where
  up : Ts.Pairwise (· < ·)
  lo : ∀ T ∈ Ts, lim ≤ T
  hi : ∀ T ∈ Ts, T < h.objs.size
  at_ : ∀ (j : Nat) T, Ts[j]? = some T → ∃ x y, xs[j]? = some x ∧ ys[j]? = some y ∧ IsPair h T x y
theorem Outs.keep {lim : Addr} {xs ys : Array Value} {Ts : List Addr} {h h' : Heap} (o : Outs lim xs ys Ts h) (k : ∀ b u, lim ≤ b → h.get? b = some u → h'.get? b = some u) : Outs lim xs ys Ts h' := by
  refine ⟨o.up, o.lo, fun T hT => ?_, fun j T e => ?_⟩
  · obtain ⟨j, hj⟩ := List.mem_iff_getElem?.mp hT
    obtain ⟨x, y, _, _, p⟩ := o.at_ j T hj
    exact Heap.lt_size (k T _ (o.lo T hT) p)
  · obtain ⟨x, y, e1, e2, p⟩ := o.at_ j T e
    exact ⟨x, y, e1, e2, k T _ (o.lo T (List.mem_of_getElem? e)) p⟩
section
variable {prog : Program} {w : World} {A : Around} {b c : Bool} {R : Result → Shared → Prop} {z TI TO i1 i2 l1 l2 : Addr} {xs ys : Array Value}
/-- what the loop leaves: old objects but those of the zip and S -/
def KeptBut (ch : List Addr) (h h' : Heap) : Prop := ∀ d o, d ∉ ch → h.get? d = some o → h'.get? d = some o
theorem extend_zip (hh : A.handled = none) (D : ZipApart z TI TO i1 i2 l1 l2) (S lim : Addr) (res : Value) (hS : S ∉ [z, TI, TO, i1, i2, l1, l2]) (hlim : ∀ d ∈ [z, TI, TO, i1, i2, l1, l2, S], d < lim) :
    ∀ (k i : Nat) (s : Shared) (Ts : List Addr) (cap : Nat), min xs.size ys.size - i = k → i ≤ min xs.size ys.size → Ts.length = i → lim ≤ s.heap.objs.size → ZSt b c s.heap z TI TO i1 i2 l1 l2 i → IsSq b s.heap l1 xs → IsSq c s.heap l2 ys →
    s.heap.get? S = some { cls := .type "list", dict := none, data := .seq (Ts.map Value.ref).toArray cap, slots := #[] } → Outs lim xs ys Ts s.heap → min xs.size ys.size ≤ sizeLine →
    (∀ h' Ts' cap', KeptBut [z, TO, i1, i2, S] s.heap h' → h'.get? S = some { cls := .type "list", dict := none, data := .seq (Ts'.map Value.ref).toArray cap', slots := #[] } → Ts'.length = min xs.size ys.size → Outs lim xs ys Ts' h' → R (.ok (.ret res)) { s with heap := h' }) →
    codeAny (model prog w) A (.builtin "list.extend.loop" ⟨[.ref S, .ref z, res], []⟩) R s := by
  intro k
  have nS : ∀ {d : Addr}, d ∈ [z, TI, TO, i1, i2, l1, l2] → d ≠ S := fun hd e => hS (e ▸ hd)
  induction k with
  | zero =>
    intro i s Ts cap hk hi hl hsz st p1 p2 hL ho hn hR
    refine codeAny_builtin F.entry_extend_loop ?_
    rw [Around.under_plainId F.plain_extend_loop _]
    show wpAny _ A.in1 (pyNext (.ref z) >>= _) _ _ s
    have hend : xs[i]? = none ∨ ys[i]? = none := by
      simp only [Array.getElem?_eq_none_iff]
      omega
    refine wpAny_bind (pyNext_zipZ_end (A := A.in1) hh D st p1 p2 hend fun h' hk' => ?_)
    have kk : KeptBut [z, TO, i1, i2, S] s.heap h' := fun d o hd e => hk' d o (fun q => hd (by simp [q])) (fun q => hd (by simp [q])) (fun q => hd (by simp [q])) (fun q => hd (by simp [q])) e
    have hL' : h'.get? S = some { cls := .type "list", dict := none, data := .seq (Ts.map Value.ref).toArray cap, slots := #[] } := hk' S _ (nS (by simp)).symm (nS (by simp)).symm (nS (by simp)).symm (nS (by simp)).symm hL
    have e0 : i = min xs.size ys.size := by omega
    refine wpAny_pure (hR h' Ts cap kk hL' (hl.trans e0) (ho.keep fun d o hd e => hk' d o ?_ ?_ ?_ ?_ e))
    · exact fun q => Nat.lt_irrefl _ (Nat.lt_of_lt_of_le (hlim z (by simp)) (q ▸ hd))
    · exact fun q => Nat.lt_irrefl _ (Nat.lt_of_lt_of_le (hlim TO (by simp)) (q ▸ hd))
    · exact fun q => Nat.lt_irrefl _ (Nat.lt_of_lt_of_le (hlim i1 (by simp)) (q ▸ hd))
    · exact fun q => Nat.lt_irrefl _ (Nat.lt_of_lt_of_le (hlim i2 (by simp)) (q ▸ hd))
  | succ k ih =>
    intro i s Ts cap hk hi hl hsz st p1 p2 hL ho hn hR
    have hlt : i < min xs.size ys.size := by omega
    have hx : i < xs.size := by omega
    have hy : i < ys.size := by omega
    refine codeAny_builtin F.entry_extend_loop ?_
    rw [Around.under_plainId F.plain_extend_loop _]
    show wpAny _ A.in1 (pyNext (.ref z) >>= _) _ _ s
    refine wpAny_bind (pyNext_zipZ (A := A.in1) D st p1 p2 (x := xs[i]) (y := ys[i]) (by simp [hx]) (by simp [hy]) fun h' st' hT hsz' hk' => ?_)
    have ne : ∀ {d : Addr}, d ∈ [z, TI, TO, i1, i2, l1, l2, S] → ∀ {e : Addr}, lim ≤ e → e ≠ d := fun hd e he q => Nat.lt_irrefl _ (Nat.lt_of_lt_of_le (hlim _ hd) (q ▸ he))
    have hL' : h'.get? S = some { cls := .type "list", dict := none, data := .seq (Ts.map Value.ref).toArray cap, slots := #[] } := hk' S _ (nS (by simp)).symm (nS (by simp)).symm (nS (by simp)).symm (nS (by simp)).symm hL
    have kl : ∀ d o, lim ≤ d → s.heap.get? d = some o → h'.get? d = some o := fun d o hd e => hk' d o (ne (by simp) hd) (ne (by simp) hd) (ne (by simp) hd) (ne (by simp) hd) e
    show wpAny _ A.in1 (updateSeq S (·.push (.ref s.heap.objs.size)) >>= _) _ _ _
    have tsz : (Ts.map Value.ref).toArray.size = i := by simp [hl]
    refine wpAny_bind (wpAny_updateSeq (s := { s with heap := h' }) hL' rfl ?_ (by rw [tsz]; omega) (by show ((Ts.map Value.ref).toArray.push _).size ≤ _; rw [Array.size_push, tsz]; omega))
    have hLs := Heap.get?_update_self (Obj.mapSeq (·.push (.ref s.heap.objs.size))) hL' rfl
    have up : ∀ d o, d ≠ S → h'.get? d = some o → (h'.update S (Obj.mapSeq (·.push (.ref s.heap.objs.size)))).get? d = some o := fun d o hd e => (Heap.get?_update_other _ _ (Ne.symm hd)).trans e
    have hLs' : ∃ cap', (h'.update S (Obj.mapSeq (·.push (.ref s.heap.objs.size)))).get? S = some { cls := .type "list", dict := none, data := .seq ((Ts ++ [s.heap.objs.size]).map Value.ref).toArray cap', slots := #[] } := by
      refine ⟨cap + 1, hLs.trans ?_⟩
      simp [Obj.mapSeq]
    obtain ⟨cap', hLs'⟩ := hLs'
    have szS : (h'.update S (Obj.mapSeq (·.push (.ref s.heap.objs.size)))).objs.size = s.heap.objs.size + 1 := by rw [Heap.size_update, hsz']
    have nlim : ∀ {d : Addr}, lim ≤ d → d ≠ S := fun hd => ne (by simp) hd
    have ho' : Outs lim xs ys (Ts ++ [s.heap.objs.size]) (h'.update S (Obj.mapSeq (·.push (.ref s.heap.objs.size)))) := by
      have k1 : ∀ d o, lim ≤ d → s.heap.get? d = some o → (h'.update S (Obj.mapSeq (·.push (.ref s.heap.objs.size)))).get? d = some o := fun d o hd e => up _ _ (nlim hd) (kl d o hd e)
      refine ⟨List.pairwise_append.mpr ⟨ho.up, List.pairwise_singleton _ _, fun a ha b' hb => ?_⟩, fun T hT' => ?_, fun T hT' => ?_, fun j T e => ?_⟩
      · rw [List.mem_singleton.mp hb]; exact ho.hi a ha
      · rcases List.mem_append.mp hT' with q | q
        · exact ho.lo T q
        · rw [List.mem_singleton.mp q]; exact hsz
      · rw [szS]
        rcases List.mem_append.mp hT' with q | q
        · exact Nat.lt_succ_of_lt (ho.hi T q)
        · rw [List.mem_singleton.mp q]; exact Nat.lt_succ_self _
      · by_cases hj : j < Ts.length
        · rw [List.getElem?_append_left hj] at e
          exact (ho.keep k1).at_ j T e
        · rw [List.getElem?_append_right (by omega)] at e
          have hj' : j - Ts.length = 0 := by
            have := (List.getElem?_eq_some_iff.mp e).1
            simp at this
            omega
          rw [hj'] at e
          simp only [List.getElem?_cons_zero, Option.some.injEq] at e
          subst e
          have : j = i := by omega
          subst this
          exact ⟨xs[j], ys[j], by simp [hx], by simp [hy], up _ _ (nlim hsz) hT⟩
    have sq : ∀ {b : Bool} {l : Addr} {items : Array Value}, IsSq b s.heap l items → l ≠ z → l ≠ TO → l ≠ i1 → l ≠ i2 → l ≠ S → IsSq b (h'.update S (Obj.mapSeq (·.push (.ref s.heap.objs.size)))) l items := fun p a1 a2 a3 a4 a5 => p.at fun o e => up _ _ a5 (hk' _ _ a1 a2 a3 a4 e)
    obtain ⟨⟨o', f', ho1, hz'⟩, hTI', ⟨x', y', hTO'⟩, h1', h2'⟩ := st'
    refine wpAny_pure ⟨plainId_quiet F.plain_extend_loop _, ih (i + 1) { s with heap := h'.update S (Obj.mapSeq (·.push (.ref s.heap.objs.size))) } (Ts ++ [s.heap.objs.size]) cap' (by omega) hlt (by simp [hl]) (by rw [szS]; exact Nat.le_succ_of_le hsz)
      ⟨⟨o', f', ho1, up _ _ (nS (by simp)) hz'⟩, up _ _ (nS (by simp)) hTI', ⟨x', y', up _ _ (nS (by simp)) hTO'⟩, h1'.at fun o e => up _ _ (nS (by simp)) e, h2'.at fun o e => up _ _ (nS (by simp)) e⟩
      (sq p1 D.l1z D.l1TO D.l1i1 D.l1i2 (nS (by simp))) (sq p2 D.l2z D.l2TO D.l2i1 D.l2i2 (nS (by simp))) hLs' ho' hn fun h'' Ts' cap'' kb gS hlen hout => ?_⟩
    refine hR h'' Ts' cap'' (fun d o hd e => kb d o hd (up _ _ (fun q => hd (by simp [q])) (hk' d o (fun q => hd (by simp [q])) (fun q => hd (by simp [q])) (fun q => hd (by simp [q])) (fun q => hd (by simp [q])) e))) gS hlen hout
end
/-- a heap without what was made from n on -/
def cut (h : Heap) (n : Nat) : Heap := ⟨h.objs.extract 0 n, h.life⟩
theorem cut_get {h : Heap} {n b : Nat} (hb : b < n) : (cut h n).get? b = h.get? b := by
  unfold Heap.get? cut
  simp only [Array.getElem?_extract, Nat.zero_add, Nat.sub_zero]
  by_cases hs : b < h.objs.size
  · rw [if_pos (by omega)]
  · rw [if_neg (by omega)]
    rw [Array.getElem?_eq_none (by omega)]
theorem cut_size {h : Heap} {n : Nat} (hn : n ≤ h.objs.size) : (cut h n).objs.size = n := by
  unfold cut
  simp only [Array.size_extract]
  omega
theorem cut_some {h : Heap} {n b : Nat} {o : Obj} (e : (cut h n).get? b = some o) : h.get? b = some o := by
  by_cases hb : b < n
  · rw [← cut_get hb]; exact e
  · have := Heap.lt_size e
    have h2 : (cut h n).objs.size ≤ n := by
      unfold cut
      simp only [Array.size_extract]
      omega
    exact absurd (Nat.lt_of_lt_of_le this h2) hb
/-- the pairs are tracked, one by one -/
theorem adopt {X : Cx} {pins : List (Addr × Obj)} {σ : L2.St} {s : Shared} {h' : Heap} {M : Me} : ∀ (Ts : List Addr) (xs ys : List Value) (vs ws : List V) (ds es : List Tr) (g : Heap) (S : Gh) (H : Hp), Inv X pins σ H { s with heap := g } → (∀ b u, g.get? b = some u → h'.get? b = some u) → Ts.Pairwise (· < ·) → (∀ T ∈ Ts, g.objs.size ≤ T) → (∀ T ∈ Ts, T < h'.objs.size) →
    (∀ (i : Nat) T, Ts[i]? = some T → ∃ x y, xs[i]? = some x ∧ ys[i]? = some y ∧ IsPair h' T x y) → OkH X.K S M H → Vals vs xs → Vals ws ys → Reps X.K S ds vs → Reps X.K S es ws →
    ∃ H' S', Inv X pins σ H' { s with heap := h' } ∧ OkH X.K S' M H' ∧ Gr S H S' H' ∧ Reps X.K S' ((zipT ds es).take Ts.length) (Ts.map V.ref)
  | [], xs, ys, vs, ws, ds, es, g, S, H, I, k, up, lo, hi, at_, o, rv, rw', qd, qe => by
    refine ⟨H, S, I.kept (t' := s.toks) k, o, Gr.refl S H, ?_⟩
    simp only [List.length_nil, List.take_zero, List.map_nil, Reps]
  | T :: Ts, xs, ys, vs, ws, ds, es, g, S, H, I, k, up, lo, hi, at_, o, rv, rw', qd, qe => by
    obtain ⟨x, y, ex, ey, p⟩ := at_ 0 T rfl
    cases rv with
    | nil => simp at ex
    | cons rx rv =>
      cases rw' with
      | nil => simp at ey
      | cons ry rw' =>
        simp only [List.getElem?_cons_zero, Option.some.injEq] at ex ey
        have ex' := ex.symm
        have ey' := ey.symm
        subst ex' ey'
        have hld := qd.length
        have hle := qe.length
        cases ds with
        | nil => simp at hld
        | cons d ds =>
          cases es with
          | nil => simp at hle
          | cons e es =>
            simp only [Reps] at qd qe
            obtain ⟨v1, t1, he1, a1, a2⟩ := qd
            obtain ⟨v2, t2, he2, b1, b2⟩ := qe
            obtain ⟨rfl, rfl⟩ := List.cons.inj he1.symm
            obtain ⟨rfl, rfl⟩ := List.cons.inj he2.symm
            have hT : T < h'.objs.size := hi T (by simp)
            have hgT : g.objs.size ≤ T := lo T (by simp)
            have csz : (cut h' (T + 1)).objs.size = T + 1 := cut_size hT
            have k1 : ∀ b u, g.get? b = some u → (cut h' (T + 1)).get? b = some u := fun b u q => by
              rw [cut_get (Nat.lt_succ_of_le (Nat.le_trans (Nat.le_of_lt (Heap.lt_size q)) hgT))]
              exact k b u q
            have p1 : (cut h' (T + 1)).get? T = some { cls := .type "tuple", data := .seq #[x, y] } := by rw [cut_get (Nat.lt_succ_self _)]; exact p
            have hn : H T = none := I.hok.fresh hgT
            have new : ObjOk X.prog X.w (upd H T (.tup [v1, v2])) (cut h' (T + 1)) T (.tup [v1, v2]) :=
              ⟨by show 2 ≤ sizeLine; decide, [x, y], .cons rx (.cons ry .nil), ⟨_, p1, rfl, _, rfl⟩⟩
            have I1 : Inv X pins σ (upd H T (.tup [v1, v2])) { s with heap := cut h' (T + 1) } := I.laid (t' := s.toks) k1 hgT new
            obtain ⟨S1, l1, o1, r1⟩ := new_tup (ds := [d, e]) (vs := [v1, v2]) o (Reps.cons a1 (Reps.cons b1 Reps.nil)) hn
            obtain ⟨h1, h2⟩ := List.pairwise_cons.mp up
            obtain ⟨H', S', I', o', l', r'⟩ := adopt Ts _ _ _ _ ds es (cut h' (T + 1)) S1 (upd H T (.tup [v1, v2])) I1 (fun b u q => cut_some q) h2 (fun T' hT' => by rw [csz]; exact h1 T' hT') (fun T' hT' => hi T' (by simp [hT']))
              (fun i T' e' => by
                obtain ⟨x', y', f1, f2, f3⟩ := at_ (i + 1) T' (by simpa using e')
                exact ⟨x', y', by simpa using f1, by simpa using f2, f3⟩) o1 rv rw' (Reps.mono l1.le _ _ a2) (Reps.mono l1.le _ _ b2)
            refine ⟨H', S', I', o', l1.trans l', ?_⟩
            simp only [zipT, List.length_cons, List.take_succ_cons, List.map_cons]
            exact Reps.cons (Rep.mono l'.le _ _ r1) r'
end DL
end T_DL21
section T_DL22
set_option Elab.async false
set_option linter.all false
set_option maxRecDepth 100000
set_option maxHeartbeats 400000
/-! DL22: [*zip(..)], list(zip(..)). -/
namespace DL
open PySem PySem.Spec PyProof.Rows L2 RZ
open PySem.Sem (wp)
theorem nolen_zip : typeLookup (.type "zip") "__len__" = pure none := by rw [typeLookup_type, builtinLookup_eq_fast]; kernel_rfl
theorem nohint_zip : typeLookup (.type "zip") "__length_hint__" = pure none := by rw [typeLookup_type, builtinLookup_eq_fast]; kernel_rfl
section
variable {prog : Program} {w : World} {A : Around} {E : Value → Shared → Prop} {s : Shared} {b c : Bool} {z TI TO i1 i2 l1 l2 : Addr} {xs ys : Array Value}
theorem extendW_zip {R : Result → Shared → Prop} (hh : A.handled = none) (D : ZipApart z TI TO i1 i2 l1 l2) (S : Addr) (res : Value) (cap : Nat) (hS : S ∉ [z, TI, TO, i1, i2, l1, l2]) (hlim : ∀ d ∈ [z, TI, TO, i1, i2, l1, l2, S], d < s.heap.objs.size)
    (st : ZSt b c s.heap z TI TO i1 i2 l1 l2 0) (p1 : IsSq b s.heap l1 xs) (p2 : IsSq c s.heap l2 ys) (hL : s.heap.get? S = some { cls := .type "list", dict := none, data := .seq #[] cap, slots := #[] }) (hn : min xs.size ys.size ≤ sizeLine)
    (hR : ∀ h' Ts' cap', KeptBut [z, TO, i1, i2, S] s.heap h' → h'.get? S = some { cls := .type "list", dict := none, data := .seq (Ts'.map Value.ref).toArray cap', slots := #[] } → Ts'.length = min xs.size ys.size → Outs s.heap.objs.size xs ys Ts' h' → R (.ok (.ret res)) { s with heap := h' }) :
    wpAny (model prog w) A.in1 (Builtin.List.listExtendWith (.ref S) (.ref z) res)
      (fun fin s' => match fin with | .done f => R (.ok f) s' | .again c' => c'.quiet = true ∧ codeAny (model prog w) A c' R s') (fun e s' => R (.error e) s') s := by
  have hSz : S ≠ z := fun e => hS (by simp [e])
  obtain ⟨o, f, ho, hz⟩ := id st.z
  have hT : s.TypeIs (.ref z) "zip" := zipZ_type hz
  unfold Builtin.List.listExtendWith
  refine wpAny_bind (wpAny_typeOf hT ?_)
  have h1 : Builtin.List.listSameRef (.ref S) (.ref z) = false := by simp [Builtin.List.listSameRef, hSz]
  have h2 : (Value.type "zip" == Value.type "list") = false := by decide
  have h3 : (Value.type "zip" == Value.type "tuple") = false := by decide
  simp only [h1, h2, h3, Bool.or_false, Bool.false_eq_true, if_false]
  refine wpAny_bind (pyIter_zipZ hz ?_)
  refine wpAny_bind (wpAny_holding ?_)
  unfold Builtin.List.listLengthHint
  refine wpAny_bind (wpAny_specialOf hT nolen_zip ?_)
  show wpAny _ A.in1 (specialOf (Value.ref z) (Str.ofString "__length_hint__") >>= _) _ _ _
  refine wpAny_bind (wpAny_specialOf hT nohint_zip ?_)
  refine wpAny_pure ?_
  show wpAny _ A.in1 (rule "list.extend.makes-room" >>= fun _ => Builtin.List.listTouch (.ref S) >>= fun _ =>
    again (.builtin "list.extend.loop" ⟨[.ref S, .ref z, res], []⟩)) _ _ _
  refine wpAny_bind (wpAny_rule ?_)
  refine wpAny_bind ?_
  show wpAny _ A.in1 (updateSeq S (·.push .none) >>= fun _ => updateSeq S (·.pop)) _ _ _
  refine wpAny_bind (wpAny_updateSeq hL rfl ?_)
  have hS₂ := Heap.get?_update_self (Obj.mapSeq (·.push Value.none)) hL rfl
  refine wpAny_updateSeq (hz := by seq_fits) hS₂ rfl ?_
  have hS₃ := Heap.get?_update_self (Obj.mapSeq (·.pop)) hS₂ rfl
  have oth : ∀ d o, d ≠ S → s.heap.get? d = some o → ((s.heap.update S (Obj.mapSeq (·.push Value.none))).update S (Obj.mapSeq (·.pop))).get? d = some o :=
    fun d o hb e => (Heap.get?_update_other _ _ (Ne.symm hb)).trans ((Heap.get?_update_other _ _ (Ne.symm hb)).trans e)
  have nS : ∀ {d : Addr}, d ∈ [z, TI, TO, i1, i2, l1, l2] → d ≠ S := fun hd e => hS (e ▸ hd)
  have sz : ((s.heap.update S (Obj.mapSeq (·.push Value.none))).update S (Obj.mapSeq (·.pop))).objs.size = s.heap.objs.size := by rw [Heap.size_update, Heap.size_update]
  obtain ⟨_, hTI, ⟨x', y', hTO⟩, g1, g2⟩ := id st
  refine wpAny_pure ⟨plainId_quiet F.plain_extend_loop _, extend_zip hh D S s.heap.objs.size res hS hlim _ 0 _ [] _ rfl (Nat.zero_le _) rfl (by rw [sz]; exact Nat.le_refl _)
    ⟨⟨o, f, ho, oth _ _ (nS (by simp)) hz⟩, oth _ _ (nS (by simp)) hTI, ⟨x', y', oth _ _ (nS (by simp)) hTO⟩, g1.at fun o e => oth _ _ (nS (by simp)) e, g2.at fun o e => oth _ _ (nS (by simp)) e⟩
    (p1.at fun o e => oth _ _ (nS (by simp)) e) (p2.at fun o e => oth _ _ (nS (by simp)) e) hS₃ ⟨List.Pairwise.nil, (fun _ h => nomatch h), (fun _ h => nomatch h), (fun j T e => by simp at e)⟩ hn fun h' Ts' cap' kb gS hl hout => ?_⟩
  exact hR h' Ts' cap' (fun d o hd e => kb d o hd (oth d o (fun q => hd (by simp [q])) e)) gS hl hout
theorem iadd_zip {R : Result → Shared → Prop} (hh : A.handled = none) (D : ZipApart z TI TO i1 i2 l1 l2) (S : Addr) (cap : Nat) (hS : S ∉ [z, TI, TO, i1, i2, l1, l2]) (hlim : ∀ d ∈ [z, TI, TO, i1, i2, l1, l2, S], d < s.heap.objs.size)
    (st : ZSt b c s.heap z TI TO i1 i2 l1 l2 0) (p1 : IsSq b s.heap l1 xs) (p2 : IsSq c s.heap l2 ys) (hL : s.heap.get? S = some { cls := .type "list", dict := none, data := .seq #[] cap, slots := #[] }) (hn : min xs.size ys.size ≤ sizeLine)
    (hR : ∀ h' Ts' cap', KeptBut [z, TO, i1, i2, S] s.heap h' → h'.get? S = some { cls := .type "list", dict := none, data := .seq (Ts'.map Value.ref).toArray cap', slots := #[] } → Ts'.length = min xs.size ys.size → Outs s.heap.objs.size xs ys Ts' h' → R (.ok (.ret (.ref S))) { s with heap := h' }) :
    codeAny (model prog w) A (.builtin "list.__iadd__" ⟨[.ref S, .ref z], []⟩) R s := by
  refine codeAny_builtin F.entry_list_iadd ?_
  rw [Around.under_plainId F.plain_list_iadd _]
  exact extendW_zip hh D S (.ref S) cap hS hlim st p1 p2 hL hn hR
theorem collect_zip {Q : List Value → Shared → Prop} (hh : A.handled = none) (D : ZipApart z TI TO i1 i2 l1 l2) (hlim : ∀ d ∈ [z, TI, TO, i1, i2, l1, l2], d < s.heap.objs.size)
    (st : ZSt b c s.heap z TI TO i1 i2 l1 l2 0) (p1 : IsSq b s.heap l1 xs) (p2 : IsSq c s.heap l2 ys) (hn : min xs.size ys.size ≤ sizeLine)
    (hQ : ∀ h' Ts', KeptBut [z, TO, i1, i2] s.heap h' → Ts'.length = min xs.size ys.size → Outs (s.heap.objs.size + 1) xs ys Ts' h' → Q (Ts'.map Value.ref) { s with heap := h' }) : wpAny (model prog w) A (collect (.ref z)) Q E s := by
  unfold collect
  refine wpAny_bind (wpAny_runValue (codeAny_builtin F.entry_proto_collect ?_))
  rw [Around.under_plainId F.plain_proto_collect _]
  show wpAny _ A.in1 (newList [] >>= fun l => again (.builtin "list.__iadd__" ⟨[l, .ref z], []⟩)) _ _ s
  refine wpAny_bind (wpAny_newObj_type ?_)
  have up : ∀ d o, s.heap.get? d = some o → (s.heap.push { cls := .type "list", data := .seq ([] : List Value).toArray }).get? d = some o := fun d o e => Heap.get?_push_of_some _ e
  have sz : (s.heap.push { cls := .type "list", data := .seq ([] : List Value).toArray }).objs.size = s.heap.objs.size + 1 := Heap.size_push ..
  have hS₁ : (s.heap.push { cls := .type "list", data := .seq ([] : List Value).toArray }).get? s.heap.objs.size = some { cls := .type "list", data := .seq ([] : List Value).toArray } := Heap.get?_push_size _ rfl
  obtain ⟨⟨o, f, ho, hz⟩, hTI, ⟨x', y', hTO⟩, g1, g2⟩ := id st
  refine wpAny_pure ⟨plainId_quiet F.plain_list_iadd _, iadd_zip (s := { s with heap := s.heap.push { cls := .type "list", data := .seq ([] : List Value).toArray } }) hh D s.heap.objs.size 0 (fun hm => Nat.lt_irrefl _ (hlim _ hm)) (fun d hd => ?_)
    ⟨⟨o, f, ho, up _ _ hz⟩, up _ _ hTI, ⟨x', y', up _ _ hTO⟩, g1.at fun o e => up _ _ e, g2.at fun o e => up _ _ e⟩ (p1.at fun o e => up _ _ e) (p2.at fun o e => up _ _ e) hS₁ hn fun h' Ts' cap' kb gS hl hout => ?_⟩
  · show d < (s.heap.push _).objs.size
    rw [sz]
    rcases List.mem_append.mp (show d ∈ [z, TI, TO, i1, i2, l1, l2] ++ [s.heap.objs.size] from hd) with q | q
    · exact Nat.lt_succ_of_lt (hlim d q)
    · rw [List.mem_singleton.mp q]; exact Nat.lt_succ_self _
  · show wpAny _ A (load s.heap.objs.size >>= _) _ _ _
    refine wpAny_bind (wpAny_load gS ?_)
    refine wpAny_pure ?_
    show Q (Ts'.map Value.ref).toArray.toList _
    rw [List.toList_toArray]
    refine hQ h' Ts' (fun d o hd e => kb d o (fun q => ?_) (up d o e)) hl (by rw [← sz]; exact hout)
    rcases List.mem_append.mp (show d ∈ [z, TO, i1, i2] ++ [s.heap.objs.size] from q) with q | q
    · exact hd q
    · exact Nat.lt_irrefl _ (by rw [List.mem_singleton.mp q] at e; exact Heap.lt_size e)
theorem list_zip {Q : Value → Shared → Prop} (hh : A.handled = none) (D : ZipApart z TI TO i1 i2 l1 l2) (hlim : ∀ d ∈ [z, TI, TO, i1, i2, l1, l2], d < s.heap.objs.size)
    (st : ZSt b c s.heap z TI TO i1 i2 l1 l2 0) (p1 : IsSq b s.heap l1 xs) (p2 : IsSq c s.heap l2 ys) (hn : min xs.size ys.size ≤ sizeLine)
    (hQ : ∀ h' Ts' cap', KeptBut [z, TO, i1, i2] s.heap h' → Ts'.length = min xs.size ys.size → Outs (s.heap.objs.size + 1) xs ys Ts' h' → h'.get? s.heap.objs.size = some { cls := .type "list", dict := none, data := .seq (Ts'.map Value.ref).toArray cap', slots := #[] } → Q (.ref s.heap.objs.size) { s with heap := h' }) :
    wpAny (model prog w) A (call (.type "list") [.ref z]) Q E s := by
  refine callType_codes (Q₁ := fun obj s₁ => obj = .ref s.heap.objs.size ∧ s₁ = { s with heap := s.heap.push { cls := .type "list", data := .seq #[] } }) PySem.F.called_list (PySem.F.typeCall_list_1 _) PySem.F.entry_list_init
    (code_list_new _ ⟨rfl, rfl⟩) fun obj s₁ h₁ => ?_
  obtain ⟨rfl, rfl⟩ := h₁
  have hS : (s.heap.push { cls := .type "list", data := .seq #[] }).get? s.heap.objs.size = some { cls := .type "list", data := .seq #[] } := Heap.get?_push_size _ rfl
  have sz : (s.heap.push { cls := .type "list", data := .seq #[] }).objs.size = s.heap.objs.size + 1 := Heap.size_push ..
  have nS : ∀ {d : Addr}, d ∈ [z, TI, TO, i1, i2, l1, l2] → d ≠ s.heap.objs.size := fun hd => Nat.ne_of_lt (hlim _ hd)
  obtain ⟨⟨o, f, ho, hz⟩, hTI, ⟨x', y', hTO⟩, g1, g2⟩ := id st
  refine ⟨⟨_, hS, rfl⟩, PySem.F.args_list_init_2 _ _, ?_⟩
  show wpAny _ _ (do let old ← Builtin.List.listItems (.ref s.heap.objs.size); Builtin.List.listUpdate (.ref s.heap.objs.size) (fun _ => #[]); letGo old.toList.reverse; Builtin.List.listExtendWith (.ref s.heap.objs.size) (.ref z) .none) _ _ _
  refine wpAny_bind ?_
  unfold Builtin.List.listItems
  refine wpAny_bind (wpAny_seqItems hS rfl (wpAny_pure ?_))
  show wpAny _ _ (updateSeq s.heap.objs.size (fun _ => #[]) >>= fun _ => letGo (#[] : Array Value).toList.reverse >>= fun _ => Builtin.List.listExtendWith (.ref s.heap.objs.size) (.ref z) .none) _ _ _
  refine wpAny_bind (wpAny_updateSeq hS rfl ?_)
  have hS₂ := Heap.get?_update_self (Obj.mapSeq (fun _ => (#[] : Array Value))) hS rfl
  have up : ∀ d o, s.heap.get? d = some o → ((s.heap.push { cls := .type "list", data := .seq #[] }).update s.heap.objs.size (Obj.mapSeq (fun _ => (#[] : Array Value)))).get? d = some o :=
    fun d o e => (Heap.get?_update_other _ _ (Nat.ne_of_gt (Heap.lt_size e))).trans (Heap.get?_push_of_some _ e)
  have sz2 : ((s.heap.push { cls := .type "list", data := .seq #[] }).update s.heap.objs.size (Obj.mapSeq (fun _ => (#[] : Array Value)))).objs.size = s.heap.objs.size + 1 := by rw [Heap.size_update, sz]
  refine wpAny_bind (wpAny_letGo ?_)
  refine extendW_zip (A := A.in1) (s := { s with heap := (s.heap.push { cls := .type "list", data := .seq #[] }).update s.heap.objs.size (Obj.mapSeq (fun _ => (#[] : Array Value))) }) hh D s.heap.objs.size .none _ (fun hm => Nat.lt_irrefl _ (hlim _ hm)) (fun d hd => ?_)
    ⟨⟨o, f, ho, up _ _ hz⟩, up _ _ hTI, ⟨x', y', up _ _ hTO⟩, g1.at fun o e => up _ _ e, g2.at fun o e => up _ _ e⟩ (p1.at fun o e => up _ _ e) (p2.at fun o e => up _ _ e) hS₂ hn fun h' Ts' cap' kb gS hl hout => ?_
  · show d < Array.size _
    rw [sz2]
    rcases List.mem_append.mp (show d ∈ [z, TI, TO, i1, i2, l1, l2] ++ [s.heap.objs.size] from hd) with q | q
    · exact Nat.lt_succ_of_lt (hlim d q)
    · rw [List.mem_singleton.mp q]; exact Nat.lt_succ_self _
  · refine ⟨rfl, hQ h' Ts' cap' (fun d o hd e => kb d o (fun q => ?_) (up d o e)) hl (by rw [← sz2]; exact hout) gS⟩
    rcases List.mem_append.mp (show d ∈ [z, TO, i1, i2] ++ [s.heap.objs.size] from q) with q | q
    · exact hd q
    · exact Nat.lt_irrefl _ (by rw [List.mem_singleton.mp q] at e; exact Heap.lt_size e)
end
end DL
end T_DL22
section T_DL23
set_option Elab.async false
set_option linter.all false
set_option maxRecDepth 100000
set_option maxHeartbeats 400000
/-! DL23: [*zip(..)], list(zip(..)) over trees. -/
namespace DL
open PySem PySem.Spec PyProof.Rows L2 RZ
open PySem.Sem (wp)
theorem cut_le {h : Heap} {n : Nat} : (cut h n).objs.size ≤ n := by
  unfold cut
  simp only [Array.size_extract]
  omega
theorem vals_refs : ∀ Ts : List Addr, Vals (Ts.map V.ref) (Ts.map Value.ref)
  | [] => .nil
  | T :: Ts => .cons rfl (vals_refs Ts)
/-- what is tracked and no cell becomes part of the frozen heap -/
theorem OkH.view {K : PySem.W.Frag} {S : Gh} {M : Me} {H : Hp} {a : Addr} {o : HO} (h : OkH K S M H) (e : H a = some o) (g : S.G a = none) (c : a ∉ S.C) (ho : ∀ ps, o ≠ .tbl ps := by nofun) : OkH K ⟨upd S.G a o, S.C⟩ M H ∧ Le S ⟨upd S.G a o, S.C⟩ := by
  have l : Le S ⟨upd S.G a o, S.C⟩ := ⟨same_upd g, List.prefix_refl _⟩
  refine ⟨⟨fun b u f => ?_, h.len, h.nd, fun j b c'' f1 f2 => ?_, ⟨h.tb.tabs, ntb_upd h.tb.nt ho⟩⟩, l⟩
  · by_cases hb : b = a
    · subst hb
      rw [show (⟨upd S.G b o, S.C⟩ : Gh).G b = some o from upd_same] at f
      cases f
      exact e
    · rw [show (⟨upd S.G a o, S.C⟩ : Gh).G b = S.G b from upd_ne hb] at f
      exact h.sub b u f
  · have hb : b ≠ a := fun z => c (z ▸ List.mem_iff_getElem?.mpr ⟨j, f1⟩)
    exact (h.cell j b c'' f1 f2).mono l (upd_ne hb) fun _ z => z
theorem gr_view {S S' : Gh} {H H' : Hp} {a : Addr} {o : HO} (l : Gr S H S' H') (n : H a = none) (k : Le S' ⟨upd S'.G a o, S'.C⟩) : Gr S H ⟨upd S'.G a o, S'.C⟩ H' := by
  refine ⟨l.le.trans k, l.new, l.keep, fun x h1 h2 => ?_⟩
  by_cases hx : x = a
  · subst hx; exact .inl (NX.of n)
  · exact l.fz x h1 (by rwa [show (⟨upd S'.G a o, S'.C⟩ : Gh).G x = S'.G x from upd_ne hx] at h2)
section
variable {X : Cx} {W : WX} {pos p p2 : Pos} {a b : Expr} {es : List Expr} {u v : Rd (List Tr)}
/-- zip(a, b) as a value -/
theorem zip_val {pins : List (Addr × Obj)} {σ : L2.St} {H : Hp} {s : Shared} {ta : TA} {G : List V → List V → Hp → Prop} {Q : Value → Shared → Prop} (hg : Gl X "zip") (hm : X.mg "zip" = none) (ha : PA X [a, b] ta) (I : Inv X pins σ H s)
    (h : ta σ H fun vs H1 => ∃ b1 b2 a1 a2 xs ys, vs = [.ref a1, .ref a2] ∧ SqB b1 X.K H1 a1 xs ∧ SqB b2 X.K H1 a2 ys ∧ G xs ys H1)
    (k : ∀ (s1 : Shared) (H1 : Hp) (b1 b2 : Bool) (a1 a2 z TI TO i1 i2 : Addr) (xs ys : List V) (h' : Heap), SqB b1 X.K H1 a1 xs → SqB b2 X.K H1 a2 ys → G xs ys H1 → Inv X pins σ H1 { s1 with heap := h' } → ZipApart z TI TO i1 i2 a1 a2 → ZSt b1 b2 h' z TI TO i1 i2 a1 a2 0 →
      (∀ d ∈ [z, TI, TO, i1, i2], FpOk X pins H1 d ∧ d < h'.objs.size) → Q (.ref z) { s1 with heap := h' })
    (hs : starEach [a, b] X.env = (false, eval a X.env) :: starEach [b] X.env := by rfl) (hpl : (backTo pos (starEach [b] X.env)).any (·.1) = false := by rfl) :
    wpAny (model X.prog X.w) X.A (eval (.Call (.Name "zip" p) [a, b] [] pos) X.env) Q X.xe s := by
  refine Call_ (ld_blt I hg hm PyProof.Rows.boot_zip (PyProof.Rows.callWith_type1 (thn (ha.run pos pins s σ H _ I h) fun us s1 ⟨vs, H1, I1, r1, q1⟩ => ?_) hs hpl))
  obtain ⟨b1, b2, a1, a2, xs, ys, ex, qx, qy, q⟩ := q1
  subst ex
  cases r1 with
  | cons r rr =>
    cases rr with
    | cons r' rr =>
      cases rr
      cases r
      cases r'
      exact made_zipZ I1 qx qy fun z TI TO i1 i2 h' I2 D st hf hk => k s1 H1 b1 b2 a1 a2 z TI TO i1 i2 xs ys h' qx qy q I2 D st fun d hd => ⟨(hf d hd).1, (hf d hd).2.2⟩
/-- the pairs that were collected, as trees -/
theorem out_trees {pins : List (Addr × Obj)} {σ : L2.St} {H : Hp} {s : Shared} {M : Me} {S : Gh} {z TO i1 i2 : Addr} {xs ys : List V} {ds es : List Tr} {its its2 : List Value} {h' : Heap} {Ts : List Addr} (I : Inv X pins σ H s) (o : OkH X.K S M H)
    (hf : ∀ d ∈ [z, TO, i1, i2], FpOk X pins H d) (rv : Vals xs its) (rw' : Vals ys its2) (qd : Reps X.K S ds xs) (qe : Reps X.K S es ys) (kb : KeptBut [z, TO, i1, i2] s.heap h') (hl : Ts.length = min its.toArray.size its2.toArray.size) (out : Outs (s.heap.objs.size + 1) its.toArray its2.toArray Ts h') :
    ∃ H' S', Inv X pins σ H' { s with heap := h' } ∧ OkH X.K S' M H' ∧ Gr S H S' H' ∧ Reps X.K S' (zipT ds es) (Ts.map V.ref) := by
  have I1 : Inv X pins σ H { s with heap := cut h' s.heap.objs.size } := I.turnedL (t' := s.toks) (ch := [z, TO, i1, i2]) (fun d o hd e => by
    rw [cut_get (Heap.lt_size e)]
    exact kb d o hd e) hf
  obtain ⟨H', S', I', o', l', r'⟩ := adopt Ts its its2 xs ys ds es (cut h' s.heap.objs.size) S H I1 (fun b u q => cut_some q) out.up (fun T hT => Nat.le_trans cut_le (Nat.le_of_succ_le (out.lo T hT))) out.hi
    (fun i T e => by
      obtain ⟨x, y, e1, e2, q⟩ := out.at_ i T e
      exact ⟨x, y, by simpa using e1, by simpa using e2, q⟩) o rv rw' qd qe
  refine ⟨H', S', I', o', l', ?_⟩
  have e1 := rv.length
  have e2 := rw'.length
  have e3 := qd.length
  have e4 := qe.length
  rw [List.take_of_length_le (by rw [zipT_len, hl]; simp; omega)] at r'
  exact r'
/-- f(*zip(a, b), ..), [*zip(a, b), ..] -/
def dStarZip (u v : Rd (List Tr)) : Rd (List Tr) := ⟨fun ρ M Q E => u.f ρ M (fun ds M1 => match ds with
  | [d, e] => onSome (fixedB d) fun xs => onSome (fixedB e) fun ys => v.f ρ M1 (fun rs M2 => Q (zipT xs.2 ys.2 ++ rs) M2) E
  | _ => False) E, fun h h' q => u.mono (fun ds M1 z => by
    split at z
    · exact onSome_mono (fun _ => onSome_mono fun _ => v.mono (fun rs M2 => h _ M2) h') z
    · exact z.elim) h' q⟩
theorem pda_starZip (hc : X.calm = true) (hg : Gl X "zip") (hm : X.mg "zip" = none) (ha : PDA X W [a, b] u) (hr : PDA X W es v) (hs : starEach (.Starred (.Call (.Name "zip" p) [a, b] [] pos) p2 :: es) X.env = (true, eval (.Call (.Name "zip" p) [a, b] [] pos) X.env) :: starEach es X.env := by rfl)
    (hs2 : starEach [a, b] X.env = (false, eval a X.env) :: starEach [b] X.env := by rfl) (hpl : (backTo pos (starEach [b] X.env)).any (·.1) = false := by rfl) : PDA X W (.Starred (.Call (.Name "zip" p) [a, b] [] pos) p2 :: es) (dStarZip u v) := by
  refine ⟨fun pos0 pins s σ H Q I h => ?_⟩
  obtain ⟨ρ, M, S, E, o, sl, er, q⟩ := h
  let G : List V → List V → Hp → Prop := fun xs ys H1 => ∃ M1 S1 ds es', OkH X.K S1 M1 H1 ∧ Gr S H S1 H1 ∧ Reps X.K S1 ds xs ∧ Reps X.K S1 es' ys ∧
    v.f ρ M1 (fun rs M2 => ∀ vs H' S', Gr S H S' H' → OkH X.K S' M2 H' → Reps X.K S' (zipT ds es' ++ rs) vs → Q vs H') E
  refine PySem.W.items_star (zip_val (pins := pins) (σ := σ) (H := H) (G := G) hg hm ha I ?_ ?_ hs2 hpl) hs
  · refine ⟨ρ, M, S, E, o, sl, er, u.mono (fun ds M1 q1 vs H1 S1 l1 o1 r1 => ?_) (fun _ _ z => z) q⟩
    dsimp only at q1
    split at q1
    · obtain ⟨⟨b1, xs⟩, e, q2⟩ := onSome_of q1
      obtain ⟨⟨b2, ys⟩, e', q3⟩ := onSome_of q2
      obtain ⟨v1, v2, rfl, rv, rv'⟩ := reps2 r1
      obtain ⟨a1, ws, rfl, g, rs⟩ := fixedB_rep rv e
      obtain ⟨a2, ws', rfl, g', rs'⟩ := fixedB_rep rv' e'
      exact ⟨b1, b2, a1, a2, ws, ws', rfl, o1.sqB g, o1.sqB g', M1, S1, xs, ys, o1, l1, rs, rs', q3⟩
    · exact q1.elim
  · intro s1 H1 b1 b2 a1 a2 z TI TO i1 i2 xs ys h' qx qy hG I1 D st hf
    obtain ⟨M1, S1, ds, es', o1, l1, rd, re, q2⟩ := hG
    obtain ⟨its, rv, p1, lt1, z1⟩ := inv_seqB I1 qx
    obtain ⟨its2, rv2, p2', lt2, _⟩ := inv_seqB I1 qy
    obtain ⟨oz, fz, hoz, hz⟩ := id st.z
    unfold PySem.W.StarOf notIterableAtAll
    refine wpAny_bind (wpAny_specialOf (zipZ_type (s := { s1 with heap := h' }) hz) F.slot_zip_iter.lookup (wpAny_pure ⟨rfl, ?_⟩))
    have hn : min its.toArray.size its2.toArray.size ≤ sizeLine := by
      have := rv.length
      simp only [List.size_toArray]
      omega
    refine collect_zip (s := { s1 with heap := h' }) (I1.ok.hd hc) D (fun d hd => ?_) st p1 p2' hn fun h'' Ts kb hl out => ?_
    · rcases List.mem_append.mp (show d ∈ [z, TI, TO, i1, i2] ++ [a1, a2] from hd) with m | m
      · exact (hf d m).2
      · rcases List.mem_cons.mp m with m | m
        · rw [m]; exact lt1
        · rw [List.mem_singleton.mp m]; exact lt2
    · obtain ⟨H', S', I2, o2, l2, r2⟩ := out_trees I1 o1 (fun d hd => (hf d (by
        have e' : d = z ∨ d = TO ∨ d = i1 ∨ d = i2 := by simpa using hd
        rcases e' with m | m | m | m <;> simp [m])).1) rv rv2 rd re kb hl out
      have L := l1.trans l2
      refine thn (hr.run pos0 pins _ σ H' _ I2 ⟨ρ, M1, S', E, o2, sl.mono L.le, er.mono L, v.mono (fun rs M2 q3 => ?_) (fun _ _ z => z) q2⟩) fun ws s3 ⟨vs, H3, I3, r3, q3⟩ => ⟨Ts.map V.ref ++ vs, H3, I3, Vals.append ?_ r3, q3⟩
      · intro vs H3 S3 l3 o3 r3
        exact q3 _ H3 S3 (L.trans l3) o3 ((Reps.mono l3.le _ _ r2).append r3)
      · exact vals_refs Ts
/-- list(zip(a, b)) as a tree -/
def dListZip (u : Rd (List Tr)) : Rd Tr := ⟨fun ρ M Q E => u.f ρ M (fun ds M1 => match ds with
  | [d, e] => onSome (fixedB d) fun xs => onSome (fixedB e) fun ys => Q (.lst (zipT xs.2 ys.2)) M1
  | _ => False) E, fun h h' q => u.mono (fun ds M1 z => by
    split at z
    · exact onSome_mono (fun _ => onSome_mono fun _ => h _ M1) z
    · exact z.elim) h' q⟩
theorem pd_listZip {pos2 : Pos} (hc : X.calm = true) (hg : Gl X "zip") (hm : X.mg "zip" = none) (hg2 : Gl X "list") (hm2 : X.mg "list" = none) (ha : PDA X W [a, b] u) (na : starEach [.Call (.Name "zip" p) [a, b] [] pos] X.env = (false, eval (.Call (.Name "zip" p) [a, b] [] pos) X.env) :: starEach [] X.env := by rfl)
    (hs2 : starEach [a, b] X.env = (false, eval a X.env) :: starEach [b] X.env := by rfl) (hpl : (backTo pos (starEach [b] X.env)).any (·.1) = false := by rfl) : PD X W (.Call (.Name "list" p2) [.Call (.Name "zip" p) [a, b] [] pos] [] pos2) (dListZip u) := by
  refine ⟨fun pins s σ H Q I h => ?_⟩
  obtain ⟨ρ, M, S, E, o, sl, er, q⟩ := h
  let G : List V → List V → Hp → Prop := fun xs ys H1 => ∃ M1 S1 ds es', OkH X.K S1 M1 H1 ∧ Gr S H S1 H1 ∧ Reps X.K S1 ds xs ∧ Reps X.K S1 es' ys ∧
    ∀ v H' S', Gr S H S' H' → OkH X.K S' M1 H' → Rep X.K S' (.lst (zipT ds es')) v → Q v H'
  refine Call_ (ld_blt I hg2 hm2 PyProof.Rows.boot_list (PyProof.Rows.callWith_type1 (PyProof.Rows.args_cons (zip_val (pins := pins) (σ := σ) (H := H) (G := G) hg hm ha I ?_ ?_ hs2 hpl) na) na rfl))
  · refine ⟨ρ, M, S, E, o, sl, er, u.mono (fun ds M1 q1 vs H1 S1 l1 o1 r1 => ?_) (fun _ _ z => z) q⟩
    dsimp only at q1
    split at q1
    · obtain ⟨⟨b1, xs⟩, e, q2⟩ := onSome_of q1
      obtain ⟨⟨b2, ys⟩, e', q3⟩ := onSome_of q2
      obtain ⟨v1, v2, rfl, rv, rv'⟩ := reps2 r1
      obtain ⟨a1, ws, rfl, g, rs⟩ := fixedB_rep rv e
      obtain ⟨a2, ws', rfl, g', rs'⟩ := fixedB_rep rv' e'
      exact ⟨b1, b2, a1, a2, ws, ws', rfl, o1.sqB g, o1.sqB g', M1, S1, xs, ys, o1, l1, rs, rs', q3⟩
    · exact q1.elim
  · intro s1 H1 b1 b2 a1 a2 z TI TO i1 i2 xs ys h' qx qy hG I1 D st hf
    obtain ⟨M1, S1, ds, es', o1, l1, rd, re, q2⟩ := hG
    obtain ⟨its, rv, p1, lt1, z1⟩ := inv_seqB I1 qx
    obtain ⟨its2, rv2, p2', lt2, _⟩ := inv_seqB I1 qy
    have hn : min its.toArray.size its2.toArray.size ≤ sizeLine := by
      have := rv.length
      simp only [List.size_toArray]
      omega
    show wpAny _ _ (pure [] : Sem (List Value)) _ _ _
    refine wpAny_pure ?_
    refine list_zip (s := { s1 with heap := h' }) (I1.ok.hd hc) D (fun d hd => ?_) st p1 p2' hn fun h'' Ts cap kb hl out gS => ?_
    · rcases List.mem_append.mp (show d ∈ [z, TI, TO, i1, i2] ++ [a1, a2] from hd) with m | m
      · exact (hf d m).2
      · rcases List.mem_cons.mp m with m | m
        · rw [m]; exact lt1
        · rw [List.mem_singleton.mp m]; exact lt2
    · have hfc : ∀ d ∈ [z, TO, i1, i2], FpOk X pins H1 d := fun d hd => (hf d (by
        have e' : d = z ∨ d = TO ∨ d = i1 ∨ d = i2 := by simpa using hd
        rcases e' with m | m | m | m <;> simp [m])).1
      have hn1 : H1 h'.objs.size = none := I1.hok.fresh (Nat.le_refl _)
      have hlen : (Ts.map V.ref).length ≤ sizeLine := by rw [List.length_map, hl]; exact hn
      have szS : h'.objs.size < h''.objs.size := Heap.lt_size gS
      have gS' : (cut h'' (h'.objs.size + 1)).get? h'.objs.size = some { cls := .type "list", dict := none, data := .seq (Ts.map Value.ref).toArray cap, slots := #[] } := by
        rw [cut_get (Nat.lt_succ_self _)]; exact gS
      have new : ObjOk X.prog X.w (upd H1 h'.objs.size (.lst (Ts.map V.ref))) (cut h'' (h'.objs.size + 1)) h'.objs.size (.lst (Ts.map V.ref)) := ⟨hlen, Ts.map Value.ref, cap, vals_refs Ts, gS'⟩
      have I2 : Inv X pins σ (upd H1 h'.objs.size (.lst (Ts.map V.ref))) { s1 with heap := cut h'' (h'.objs.size + 1) } := I1.turnedNew (t' := s1.toks) (ch := [z, TO, i1, i2]) (fun d o hd e => by
        rw [cut_get (Nat.lt_succ_of_lt (Heap.lt_size e))]
        exact kb d o hd e) hfc (Nat.le_refl _) new
      have o1' : OkH X.K S1 M1 (upd H1 h'.objs.size (.lst (Ts.map V.ref))) := o1.same (same_upd hn1)
      obtain ⟨H', S', I3, o3, l3, r3⟩ := adopt Ts its its2 xs ys ds es' (cut h'' (h'.objs.size + 1)) S1 _ I2 (fun b u q => cut_some q) out.up (fun T hT => Nat.le_trans cut_le (out.lo T hT)) out.hi
        (fun i T e => by
          obtain ⟨x, y, e1, e2, q⟩ := out.at_ i T e
          exact ⟨x, y, by simpa using e1, by simpa using e2, q⟩) o1' rv rv2 rd re
      have e1 := rv.length
      have e2 := rv2.length
      have e3 := rd.length
      have e4 := re.length
      rw [List.take_of_length_le (by rw [zipT_len, hl]; simp; omega)] at r3
      obtain ⟨f1, f2⟩ := o1.fresh hn1
      obtain ⟨g1, g2, g3⟩ := l3.held upd_same f1 f2
      obtain ⟨o4, l4⟩ := o3.view g1 g2 g3
      have L : Gr S1 H1 ⟨upd S'.G h'.objs.size (.lst (Ts.map V.ref)), S'.C⟩ H' := gr_view (l3.ahead hn1) hn1 l4
      refine ⟨.ref h'.objs.size, H', I3, rfl, q2 _ H' _ (l1.trans L) o4 ?_⟩
      simp only [Rep]
      exact ⟨h'.objs.size, Ts.map V.ref, rfl, upd_same, Reps.mono l4 _ _ r3⟩
end
end DL
end T_DL23
section T_DL24
set_option Elab.async false
set_option linter.all false
set_option maxRecDepth 100000
set_option maxHeartbeats 400000
/-! DL24: dict comprehensions, f-strings, str(x). -/
namespace DL
open PySem PySem.Spec PyProof.Rows L2
section
variable {X : Cx} {W : WX} {pos : Pos} {K : PySem.W.Frag}
/-- the dict that is being made at D -/
structure MkD (K : PySem.W.Frag) (S1 : Gh) (H1 : Hp) (D : Addr) (ks : List Key) (ds : List Tr) (M' : Me) (S' : Gh) (H' : Hp) : Prop where
  ex : ∃ kvs : List (Key × V), Gr S1 H1 S' H' ∧ OkH K S' M' H' ∧ H' D = some (.dK kvs) ∧ S'.G D = none ∧ D ∉ S'.C ∧ kvs.map Prod.fst = ks ∧ Reps K S' ds (kvs.map Prod.snd)
theorem MkD.grow {S1 S' S4 : Gh} {H1 H' H4 : Hp} {D : Addr} {ks : List Key} {ds : List Tr} {M' M4 : Me} (m : MkD K S1 H1 D ks ds M' S' H') (l : Gr S' H' S4 H4) (o : OkH K S4 M4 H4) : MkD K S1 H1 D ks ds M4 S4 H4 := by
  obtain ⟨kvs, l', o', hD, gD, cD, hk, ra⟩ := m.ex
  obtain ⟨d1, d2, d3⟩ := l.held hD gD cD
  exact ⟨kvs, l'.trans l, o, d1, d2, d3, hk, Reps.mono l.le _ _ ra⟩
theorem MkD.put {S1 S' : Gh} {H1 H' : Hp} {D : Addr} {ks : List Key} {ds : List Tr} {M' : Me} {k : Key} {y : Tr} {v : V} (nD : H1 D = none) (m : MkD K S1 H1 D ks ds M' S' H') (r : Rep K S' y v) (nd : ks.Nodup) (hl : ks.length < big) :
    ∃ kvs, H' D = some (.dK kvs) ∧ kvs.length < sizeLine ∧ MkD K S1 H1 D (setK ks ds k y).1 (setK ks ds k y).2 M' S' (upd H' D (.dK (putK kvs k v))) := by
  obtain ⟨kvs, L, o', hD, gD, cD, hk, ra⟩ := m.ex
  subst hk
  obtain ⟨p1, p2⟩ := setK_put (k := k) nd ra r
  exact ⟨kvs, hD, by rw [← big_eq]; simpa using hl, putK kvs k v, L.write nD, o'.other gD cD (.inr ⟨_, hD, trivial⟩), upd_same, gD, cD, p1, p2⟩
/-- the made dict, as a tree or as a cell -/
def outD (c : Bool) (ks : List Key) (ds : List Tr) (M : Me) (Q : Tr → Me → Prop) : Prop := if c = true then Q (.cell M.length) (M ++ [.dct ks ds]) else Q (.dct ks ds) M
theorem outD_mono {c : Bool} {ks : List Key} {ds : List Tr} {M : Me} {Q Q' : Tr → Me → Prop} (h : ∀ d M, Q d M → Q' d M) (q : outD c ks ds M Q) : outD c ks ds M Q' := by
  unfold outD at q ⊢
  split at q
  · rename_i e; rw [if_pos e]; exact h _ _ q
  · rename_i e; rw [if_neg e]; exact h _ _ q
theorem MkD.fin {S S1 S' : Gh} {H H1 H' : Hp} {D : Addr} {ks : List Key} {ds : List Tr} {M' : Me} {c : Bool} {Q : VK} (l1 : Gr S H S1 H1) (nD : H1 D = none) (m : MkD K S1 H1 D ks ds M' S' H')
    (q : outD c ks ds M' fun d M' => ∀ v H' S', Gr S H S' H' → OkH K S' M' H' → Rep K S' d v → Q v H') : Q (.ref D) H' := by
  obtain ⟨kvs, l', o', hD, gD, cD, hk, ra⟩ := m.ex
  have L := l1.trans l'
  have hn : D ∉ S.C → NT H D := fun hc u e => Classical.byContradiction fun hu => by
    have := l1.keep D u e (fun ps z => hu ⟨ps, z⟩) hc
    rw [nD] at this; cases this
  unfold outD at q
  split at q
  · obtain ⟨o6, l6⟩ := o'.cellAt (c := .dct ks ds) gD cD ⟨gD, kvs, hD, hk, ra⟩
    refine q (.ref D) H' ⟨S'.G, S'.C ++ [D]⟩ ⟨L.le.trans l6, fun a h1 h2 => ?_, L.keep, L.fz⟩ o6 ?_
    · rcases List.mem_append.mp h1 with h | h
      · exact L.new a h h2
      · rw [List.mem_singleton.mp h] at h2 ⊢
        exact hn h2
    · simp only [Rep]
      exact ⟨D, rfl, by rw [show M'.length = S'.C.length from o'.len.symm]; simp⟩
  · obtain ⟨o6, l6⟩ := o'.view hD gD cD
    have G6 : Gr S H ⟨upd S'.G D (.dK kvs), S'.C⟩ H' := by
      refine ⟨L.le.trans l6, L.new, L.keep, fun a h1 h2 => ?_⟩
      by_cases ha : a = D
      · subst ha
        by_cases hc : a ∈ S.C
        · exact .inr hc
        · exact .inl (hn hc).nx
      · rw [show (⟨upd S'.G D (.dK kvs), S'.C⟩ : Gh).G a = S'.G a from upd_ne ha] at h2
        exact L.fz a h1 h2
    refine q (.ref D) H' _ G6 o6 ?_
    simp only [Rep]
    exact ⟨D, kvs, rfl, upd_same, hk, Reps.mono l6 _ _ ra⟩
def dctT (g : Tg) (tt : Rd Bool) (tk tv : Rd Tr) (ρ : En) : List Tr → List Key → List Tr → Me → (List Key → List Tr → Me → Prop) → Prop
  | [], ks, ds, M, Q => Q ks ds M
  | x :: r, ks, ds, M, Q => onSome (setTg g x ρ) fun ρ' => tt.f ρ' M (fun b M1 => if b = true then tk.f ρ' M1 (fun y M2 => tv.f ρ' M2 (fun z M3 => onSome (keyT y) fun k => (ks.Nodup ∧ ks.length < big) ∧ dctT g tt tk tv ρ r (setK ks ds k z).1 (setK ks ds k z).2 M3 Q) (fun _ _ => False)) (fun _ _ => False)
    else dctT g tt tk tv ρ r ks ds M1 Q) fun _ _ => False
theorem dctT_mono {g : Tg} {tt : Rd Bool} {tk tv : Rd Tr} {ρ : En} {Q Q' : List Key → List Tr → Me → Prop} (h : ∀ ks ds M, Q ks ds M → Q' ks ds M) : ∀ (xs : List Tr) (ks : List Key) (ds : List Tr) (M : Me), dctT g tt tk tv ρ xs ks ds M Q → dctT g tt tk tv ρ xs ks ds M Q'
  | [], ks, ds, M, q => h _ _ _ q
  | x :: r, ks, ds, M, q => onSome_mono (fun ρ' => tt.mono (fun b M1 z => by
    by_cases hb : b = true
    · rw [if_pos hb] at z ⊢
      exact tk.mono (fun y M2 => tv.mono (fun z M3 => onSome_mono fun k z2 => ⟨z2.1, dctT_mono h r _ _ M3 z2.2⟩) fun _ _ z => z) (fun _ _ z => z) z
    · rw [if_neg hb] at z ⊢
      exact dctT_mono h r _ _ M1 z) fun _ _ z => z) q
/-- {k: v for target in iter if ..}, as a tree or as a cell -/
def dDc (c : Bool) (vs : List Nat) (it : Rd (List Tr)) (g : Tg) (tt : Rd Bool) (tk tv : Rd Tr) : Rd Tr := ⟨fun ρ M Q E => it.f ρ M (fun xs M1 => dctT g tt tk tv (wipeE ρ vs) xs [] [] M1 fun ks ds M2 => outD c ks ds M2 Q) E,
  fun h h' q => it.mono (fun xs M z => dctT_mono (fun ks ds M2 => outD_mono h) xs _ _ M z) h' q⟩
theorem lift_dc {c : Bool} {vs : List Nat} {it : Rd (List Tr)} {g : Tg} {tt : Rd Bool} {tk tv : Rd Tr} (hg : ∀ i ∈ g.ids, i ∈ vs) {σ : L2.St} {H : Hp} {Q : VK} (h : liftE K W (dDc c vs it g tt tk tv) σ H Q) :
    tDc (liftI K W it) (gTg K g) (liftT K W0 tt) (liftE K W0 tk) (liftE K W0 tv) vs σ H Q := by
  obtain ⟨ρ, M, S, E, o, sl, er, q⟩ := h
  refine ⟨ρ, M, S, E, o, sl, er, it.mono (fun xs M1 q1 J H1 S1 l1 o1 w D nD => ?_) (fun _ _ z => z) q⟩
  have sw : Slots K S1 (wipeE ρ vs) (wipe σ vs) := (sl.mono l1.le).wipe
  have m0 : MkD K S1 H1 D [] [] M1 S1 (upd H1 D (.dK [])) := ⟨[], Gr.same (same_upd nD), o1.same (same_upd nD), upd_same, (o1.fresh nD).1, (o1.fresh nD).2, rfl, Reps.nil⟩
  refine ⟨fun i m H' => m = xs.length - i ∧ i ≤ xs.length ∧ ∃ ks ds M' S', Le S1 S' ∧ MkD K S1 H1 D ks ds M' S' H' ∧ dctT g tt tk tv (wipeE ρ vs) (xs.drop i) ks ds M' (fun ks ds M2 => outD c ks ds M2 fun d M' => ∀ v H' S', Gr S H S' H' → OkH K S' M' H' → Rep K S' d v → Q v H'), ⟨xs.length, by simp, Nat.zero_le _, [], [], M1, S1, Le.refl _, m0, q1⟩, ?_⟩
  rintro i m H' ⟨rfl, hi, ks, ds, M', S', l', mk, q'⟩
  obtain ⟨kvs0, _, o', hD, gD', cD', _, ra⟩ := mk.ex
  by_cases hlt : i < xs.length
  · right
    rw [List.drop_eq_getElem_cons hlt] at q'
    obtain ⟨ρ2, e2, q2⟩ := onSome_of q'
    refine ⟨w.go i S' M' H' l' o' hlt, fun H' => ∃ ks ds M' S', Le S1 S' ∧ MkD K S1 H1 D ks ds M' S' H' ∧ dctT g tt tk tv (wipeE ρ vs) (xs.drop (i + 1)) ks ds M' _, fun H4 n4 => ⟨xs.length - (i + 1), by omega, rfl, hlt, n4⟩, fun x H2 y => ?_⟩
    obtain ⟨S3, d, e3, l3, o3, r3⟩ := w.yld i S' M' H' x H2 l' o' hlt y
    have ed : d = xs[i] := by
      rw [List.getElem?_eq_getElem hlt] at e3
      exact (Option.some.inj e3).symm
    subst ed
    refine setTg_ok o3 g _ x (wipeE ρ vs) ρ2 (wipe σ vs) _ (sw.mono (l'.trans l3.le)) r3 e2 fun σ5 s5 w5 => ⟨?_, ?_⟩
    · have := w5 vs hg
      rw [wipe_idem] at this
      exact this
    refine ⟨ρ2, M', S3, fun _ _ => False, o3, s5, err0, tt.mono (fun b M4 q4 H4 S4 l4 o4 => ?_) (fun _ _ z => z) q2⟩
    cases b with
    | true =>
      rw [if_pos rfl] at q4 ⊢
      refine ⟨ρ2, M4, S4, fun _ _ => False, o4, s5.mono l4.le, err0, tk.mono (fun yy M5 q5 v5 H5 S5 l5 o5 r5 => ?_) (fun _ _ z => z) q4⟩
      refine ⟨ρ2, M5, S5, fun _ _ => False, o5, (s5.mono l4.le).mono l5.le, err0, tv.mono (fun zz M6 q6 v6 H6 S6 l6 o6 r6 => ?_) (fun _ _ z => z) q5⟩
      have L6 : Gr S' H' S6 H6 := l3.trans (l4.trans (l5.trans l6))
      obtain ⟨k, ek, ⟨nd, hl⟩, q7⟩ := onSome_of q6
      obtain ⟨kvs, h1, h2, h3⟩ := (mk.grow L6 o6).put (k := k) nD r6 nd hl
      exact ⟨kvs, k, keyT_rep r5 ek, h1, h2, _, _, M6, S6, l'.trans L6.le, h3, q7⟩
    | false =>
      rw [if_neg Bool.false_ne_true] at q4 ⊢
      exact ⟨ks, ds, M4, S4, l'.trans (l3.trans l4).le, mk.grow (l3.trans l4) o4, q4⟩
  · left
    have ei : i = xs.length := by omega
    subst ei
    rw [List.drop_length] at q'
    exact ⟨w.stop S' M' H' l' o', mk.fin l1 nD q'⟩
theorem pd_dc {kx vx tg iter : Expr} {ifs : List Expr} {scope : Scope} {own : List (Str × Nat)} {it : Rd (List Tr)} {g : Tg} {tt : Rd Bool} {tk tv : Rd Tr} (c : Bool) (hc : X.calm = true) (hN : X.N.Nodup) (hi : PDI X W tg iter it) (ok : BlkOk X.N X.env.scope scope own) (hgv : ∀ i ∈ g.ids, i ∈ own.map (·.2))
    (hg : ∀ (s : Shared) (H : Hp) (C : Addr) (cl : List (Str × Addr)) (fp : List Addr), PDG (X.blk s H scope (compEnvC scope cl C X.env) fp) tg g)
    (ht : ∀ (s : Shared) (H : Hp) (C : Addr) (cl : List (Str × Addr)) (fp : List Addr), PDTs (X.blk s H scope (compEnvC scope cl C X.env) fp) W0 ifs tt)
    (hk : ∀ (s : Shared) (H : Hp) (C : Addr) (cl : List (Str × Addr)) (fp : List Addr), PD (X.blk s H scope (compEnvC scope cl C X.env) fp) W0 kx tk)
    (he : ∀ (s : Shared) (H : Hp) (C : Addr) (cl : List (Str × Addr)) (fp : List Addr), PD (X.blk s H scope (compEnvC scope cl C X.env) fp) W0 vx tv) (hf : ∀ x : Value, foldedSetIterable iter X.env x = pure x := by intro _; rfl) :
    PD X W (.DictComp kx vx [⟨tg, iter, ifs, 0⟩] scope pos) (dDc c (own.map (·.2)) it g tt tk tv) := pe_imp (pe_dc hc hN hi ok hg ht hk he hf) fun _ _ _ => lift_dc hgv

/-! ### str(x), f-strings -/
def strG : FA := fun M ds => match ds with
  | [.int i] => if i.natAbs.log2 < 1920 then some (.str (toString i), M) else none
  | [.str x] => some (.str x, M)
  | [.non] => some (.str "None", M)
  | _ => none
theorem call_str_non : CallR X (.type "str") (fun xs H Q => xs = [.non] ∧ Q (.str "None") H) := by
  intro pins s σ H xs us Q I r h
  obtain ⟨rfl, q⟩ := h
  obtain ⟨u, rfl, rfl⟩ := vals1 r
  exact PySem.P.str_of_none ⟨.str _, H, I.tok _, ⟨_, rfl⟩, q⟩
theorem c_strG : CallR X (.type "str") (rA X.K strG) := callimp (.or (.or call_str_int SkE.call_str_str) call_str_non) fun vs H Q h => by
  obtain ⟨S, M, ds, z, M', o, r, hz, k⟩ := h
  unfold strG at hz
  split at hz
  · split at hz
    · rename_i hl
      cases hz
      obtain ⟨v, rfl, r1⟩ := reps1 r
      simp only [Rep] at r1
      exact .inl (.inl ⟨_, by rw [r1], hl, k _ H S (Gr.refl S H) o rep_str⟩)
    · cases hz
  · cases hz
    obtain ⟨v, rfl, r1⟩ := reps1 r
    simp only [Rep] at r1
    exact .inl (.inr ⟨_, by rw [r1], k _ H S (Gr.refl S H) o rep_str⟩)
  · cases hz
    obtain ⟨v, rfl, r1⟩ := reps1 r
    simp only [Rep] at r1
    exact .inr ⟨by rw [r1], k _ H S (Gr.refl S H) o rep_str⟩
  · cases hz
/-- {x} in an f-string: a text or an int -/
def fmtT : Tr → Option Str
  | .str y => if y.length ≤ big then some y else none
  | .int i => if i.natAbs.log2 < 1920 then some (toString i) else none
  | _ => none
def dFmt (t : Rd Tr) : Rd Tr := ⟨fun ρ M Q E => t.f ρ M (fun d M1 => onSome (fmtT d) fun y => Q (.str y) M1) E, fun h h' q => t.mono (fun d M1 => onSome_mono fun y => h _ M1) h' q⟩
theorem pd_fmt {e : Expr} {t : Rd Tr} (he : PD X W e t) : PD X W (.FormattedValue e (-1) none pos) (dFmt t) := pe_imp (pe_fmt he) fun σ H Q h => by
  obtain ⟨ρ, M, S, E, o, s, er, q⟩ := h
  refine ⟨ρ, M, S, E, o, s, er, t.mono (fun d M1 q1 v H1 S1 l1 o1 r1 => ?_) (fun _ _ z => z) q⟩
  obtain ⟨y, e, q2⟩ := onSome_of q1
  unfold fmtT at e
  split at e
  · split at e
    · rename_i hl
      cases e
      simp only [Rep] at r1
      exact .inl ⟨_, r1, by rw [← big_eq]; exact hl, q2 _ H1 S1 l1 o1 rep_str⟩
    · cases e
  · split at e
    · rename_i hl
      cases e
      simp only [Rep] at r1
      exact .inr ⟨_, r1, hl, q2 _ H1 S1 l1 o1 rep_str⟩
    · cases e
  · cases e
def dJs : List (Rd Tr) → Str → Rd Str
  | [], acc => ⟨fun _ M Q _ => Q acc M, fun h _ q => h _ _ q⟩
  | t :: ts, acc => ⟨fun ρ M Q E => t.f ρ M (fun d M1 => match d with
    | .str y => (acc ++ y).length ≤ big ∧ (dJs ts (acc ++ y)).f ρ M1 Q E
    | _ => False) E, fun h h' q => t.mono (fun d M1 z => by
      split at z
      · exact ⟨z.1, (dJs ts _).mono h h' z.2⟩
      · exact z.elim) h' q⟩
def dJoined (ts : List (Rd Tr)) : Rd Tr := ⟨fun ρ M Q E => (dJs ts Str.empty).f ρ M (fun y M1 => Q (.str y) M1) E, fun h h' q => (dJs ts _).mono (fun y M1 => h _ M1) h' q⟩
inductive PDJ (X : Cx) (W : WX) : List Expr → List (Rd Tr) → Prop where
  | nil : PDJ X W [] []
  | cons {e : Expr} {t : Rd Tr} {es : List Expr} {ts : List (Rd Tr)} (h : PD X W e t) (r : PDJ X W es ts) : PDJ X W (e :: es) (t :: ts)
theorem PDJ.pj {es : List Expr} {ts : List (Rd Tr)} (h : PDJ X W es ts) : PJ X es (ts.map (liftE X.K W)) := by
  induction h with
  | nil => exact .nil
  | cons h _ ih => exact .cons h ih
theorem lift_js : ∀ (ts : List (Rd Tr)) {acc : Str} {ρ : En} {M : Me} {S : Gh} {E : TK} {σ : L2.St} {H : Hp} {Qd : Str → Me → Prop} {Q : Str → Hp → Prop}, OkH K S M H → Slots K S ρ σ → ErrE K W S H σ E → (dJs ts acc).f ρ M Qd E →
    (∀ y M1 H1 S1, Gr S H S1 H1 → OkH K S1 M1 H1 → Qd y M1 → Q y H1) → tJs (ts.map (liftE K W)) acc σ H Q
  | [], acc, ρ, M, S, E, σ, H, Qd, Q, o, s, er, q, k => k acc M H S (Gr.refl S H) o q
  | t :: ts, acc, ρ, M, S, E, σ, H, Qd, Q, o, s, er, q, k => by
    refine ⟨ρ, M, S, E, o, s, er, t.mono (fun d M1 q1 v H1 S1 l1 o1 r1 => ?_) (fun _ _ z => z) q⟩
    split at q1
    · simp only [Rep] at r1
      exact ⟨_, r1, by rw [← big_eq]; exact q1.1, lift_js ts o1 (s.mono l1.le) (er.mono l1) q1.2 fun y M2 H2 S2 l2 o2 q2 => k y M2 H2 S2 (l1.trans l2) o2 q2⟩
    · exact q1.elim
theorem pd_joined {v1 v2 : Expr} {rest : List Expr} {ts : List (Rd Tr)} (h : PDJ X W (v1 :: v2 :: rest) ts) : PD X W (.JoinedStr (v1 :: v2 :: rest) pos) (dJoined ts) := pe_imp (pe_joined h.pj) fun σ H Q h => by
  obtain ⟨ρ, M, S, E, o, s, er, q⟩ := h
  exact lift_js ts o s er q fun y M1 H1 S1 l1 o1 q1 => q1 _ H1 S1 l1 o1 rep_str
end
end DL
end T_DL24
section T_DL25
set_option Elab.async false
set_option linter.all false
set_option maxRecDepth 100000
set_option maxHeartbeats 400000
/-! DL25: [elt for x in d], d a dict that stays: the element's reading sees the key alone. -/
namespace DL
open PySem PySem.Spec PyProof.Rows L2
section
variable {X : Cx} {W : WX} {pos : Pos} {K : PySem.W.Frag}
def keyTr : Key → Tr
  | .inl i => .int i
  | .inr x => .str x
theorem keyTr_rep {S : Gh} (k : Key) : Rep K S (keyTr k) (kV k) := by
  cases k with
  | inl i => exact rep_int
  | inr x => exact rep_str
/-- a value that stands in no heap -/
def flatT : Tr → Bool
  | .non => true
  | .bl _ => true
  | .int _ => true
  | .str _ => true
  | _ => false
theorem flat_rep {S S' : Gh} {d : Tr} {v : V} (h : flatT d = true) (r : Rep K S d v) : Rep K S' d v := by
  cases d with
  | non => simpa only [Rep] using r
  | bl b => simpa only [Rep] using r
  | int b => simpa only [Rep] using r
  | str b => simpa only [Rep] using r
  | _ => simp [flatT] at h
theorem flat_reps {S S' : Gh} : ∀ {ds : List Tr} {vs : List V}, ds.all flatT = true → Reps K S ds vs → Reps K S' ds vs
  | [], vs, _, r => by simpa only [Reps] using r
  | d :: ds, vs, h, r => by
    simp only [Reps] at r
    obtain ⟨v, t, rfl, h1, h2⟩ := r
    simp only [List.all_cons, Bool.and_eq_true] at h
    exact Reps.cons (flat_rep h.1 h1) (flat_reps h.2 h2)
/-- [elt for target in d if ..]: d the dict in slot i -/
def dLcK (i : Nat) (g : Tg) (tt : Rd Bool) (te : Rd Tr) : Rd Tr := ⟨fun ρ M Q _ => match ρ[i]? with
  | some (some (.dct ks ds)) => compT g tt te (List.replicate ρ.length none) (ks.map keyTr) [] [] fun es M' => M' = [] ∧ es.all flatT = true ∧ Q (.lst es) M
  | _ => False, fun {ρ M Q Q' E E'} h h' q => by
    split at q
    · exact compT_mono (fun es M' z => ⟨z.1, z.2.1, h _ _ z.2.2⟩) _ _ _ q
    · exact q.elim⟩
theorem lift_lcK {i : Nat} {g : Tg} {tt : Rd Bool} {te : Rd Tr} {vs : List Nat} (hg : ∀ i ∈ g.ids, i ∈ vs) {σ : L2.St} {H : Hp} {Q : VK} (h : liftE K W (dLcK i g tt te) σ H Q) :
    tLockE (tLc (iKeys (tVar i)) (gTg K g) (liftT K W0 tt) (liftE K W0 te) vs) σ H Q := by
  obtain ⟨ρ, M, S, E, o, sl, er, q⟩ := h
  change (match ρ[i]? with
    | some (some (.dct ks ds)) => compT g tt te (List.replicate ρ.length none) (ks.map keyTr) [] [] fun es M' => M' = [] ∧ es.all flatT = true ∧ ∀ v H' S', Gr S H S' H' → OkH K S' M H' → Rep K S' (.lst es) v → Q v H'
    | _ => False) at q
  split at q
  · rename_i ks ds e
    obtain ⟨v, e1, r⟩ := sl.at_ i _ e
    simp only [Rep] at r
    obtain ⟨d, kvs, rfl, hd, hks, rd⟩ := r
    have hH : H d = some (.dK kvs) := o.sub _ _ hd
    refine ⟨d, .dK kvs, hH, True.intro, fun od => ⟨.ref d, e1, d, od, rfl, .inl ⟨kvs, upd_same, fun D nD => ?_⟩⟩⟩
    -- the ghost of the inner part: the dict alone
    let SI : Gh := ⟨fun a => if a = d then some (.frz od (.dK kvs)) else none, []⟩
    have oI : OkH K SI [] (upd H d (.frz od (.dK kvs))) := by
      refine ⟨fun a u f => ?_, rfl, List.nodup_nil, fun k a c f1 f2 => by simp at f2, ⟨tabs_upd o.tb.tabs hH trivial, fun a ps f => by
        simp only [SI] at f
        split at f <;> cases f⟩⟩
      simp only [SI] at f
      split at f
      · rename_i ha
        subst ha
        rw [← f]; exact upd_same
      · cases f
    have nD' : H D = none ∧ D ≠ d := by
      by_cases hx : D = d
      · subst hx; rw [upd_same] at nD; cases nD
      · rw [upd_ne hx] at nD; exact ⟨nD, hx⟩
    have w : WalksT K (Itk d od kvs) (ks.map keyTr) SI (upd H d (.frz od (.dK kvs))) := by
      have fz : ∀ {S2 : Gh} {M2 : Me} {H2 : Hp}, Le SI S2 → OkH K S2 M2 H2 → H2 d = some (.frz od (.dK kvs)) := fun l o2 => o2.sub _ _ (l.g d _ (by simp [SI]))
      subst hks
      refine ⟨fun i S2 M2 H2 l o2 hi => ⟨fz l o2, by simpa using hi⟩, fun i S2 M2 H2 x H3 l o2 hi y => ?_, fun S2 M2 H2 l o2 => ⟨fz l o2, by simp⟩⟩
      obtain ⟨rfl, k, v, ek, rfl⟩ := y
      exact ⟨S2, keyTr k, by simp [ek], Gr.refl _ _, o2, keyTr_rep k⟩
    have sI : Slots K SI (List.replicate ρ.length none) (wipe σ vs) := by
      refine ⟨by simp [wipe_length, sl.len], fun j x f => ?_⟩
      rw [List.getElem?_replicate] at f
      split at f
      · cases f
      · cases f
    have run := comp_run (K := K) (Fin1 := fun H' => H' d = some (.frz od (.dK kvs)) ∧ Q (.ref D) (upd H' d (.dK kvs))) (vs := vs) w (Le.refl _) nD (mk1_new oI nD) sI (Le.refl _) hg q fun acc M' S' H' l mk q2 => ?_
    · rw [wipe_idem] at run
      exact run
    · obtain ⟨rfl, fl, q3⟩ := q2
      obtain ⟨accV, L, o', hD, gD, cD, ra⟩ := mk.ex
      have hd' : H' d = some (.frz od (.dK kvs)) := o'.sub _ _ (l.g d _ (by simp [SI]))
      refine ⟨hd', ?_⟩
      -- what was tracked stands
      have keepN : ∀ a u, H a = some u → (∀ ps, u ≠ .tbl ps) → upd H' d (.dK kvs) a = some u := fun a u f n => by
        by_cases ha : a = d
        · subst ha; rw [hH] at f; cases f; exact upd_same
        · rw [upd_ne ha]
          exact L.keep a u (by rw [upd_ne ha]; exact f) n (by simp [SI])
      have keepC : ∀ a c, CeAt K S H a c → CeAt K S (upd H' d (.dK kvs)) a c := fun a c z => by
        cases c with
        | dead => obtain ⟨u, e, x⟩ := z; exact ⟨u, keepN _ _ e (fun ps y => by rw [y] at x; exact x), x⟩
        | lst xs => obtain ⟨g, vs, e, r⟩ := z; exact ⟨g, vs, keepN _ _ e (by nofun), r⟩
        | dct ks xs => obtain ⟨g, vs, e, k, r⟩ := z; exact ⟨g, vs, keepN _ _ e (by nofun), k, r⟩
        | ins c xs => obtain ⟨g, dx, vs, e, k, r⟩ := z; exact ⟨g, dx, vs, keepN _ _ e (by nofun), k, r⟩
      have gDo : S.G D = none := (o.fresh nD'.1).1
      have lS : Le S ⟨upd S.G D (.lst accV), S.C⟩ := ⟨same_upd gDo, List.prefix_refl _⟩
      have hDD : upd H' d (.dK kvs) D = some (.lst accV) := by rw [upd_ne nD'.2]; exact hD
      refine q3 (.ref D) _ ⟨upd S.G D (.lst accV), S.C⟩ ⟨lS, fun a h1 h2 => absurd h1 h2, fun a u f hu _ => keepN a u f hu, fun a h1 h2 => ?_⟩ ⟨fun a u f => ?_, o.len, o.nd, fun k a c f1 f2 => ?_, ⟨tabs_upd o'.tb.tabs hd' trivial, ntb_upd o.tb.nt (by nofun)⟩⟩ ?_
      · by_cases ha : a = D
        · subst ha; exact .inl (NX.of nD'.1)
        · rw [show (⟨upd S.G D (.lst accV), S.C⟩ : Gh).G a = S.G a from upd_ne ha] at h2
          exact absurd h1 h2
      · by_cases ha : a = D
        · subst ha
          rw [show (⟨upd S.G a (.lst accV), S.C⟩ : Gh).G a = some (.lst accV) from upd_same] at f
          cases f
          exact hDD
        · rw [show (⟨upd S.G D (.lst accV), S.C⟩ : Gh).G a = S.G a from upd_ne ha] at f
          exact keepN a u (o.sub a u f) (fun ps z => o.tb.nt a ps (by rw [f, z]))
      · have ha : a ≠ D := fun z => (o.fresh nD'.1).2 (z ▸ List.mem_iff_getElem?.mpr ⟨k, f1⟩)
        exact (keepC a c (o.cell k a c f1 f2)).mono lS (upd_ne ha) fun u f => f
      · simp only [Rep]
        exact ⟨D, accV, rfl, upd_same, flat_reps fl ra⟩
  · exact q.elim
theorem pd_lcK {i : Nat} {x : Str} {p : Pos} {elt tg : Expr} {ifs : List Expr} {scope : Scope} {own : List (Str × Nat)} {g : Tg} {tt : Rd Bool} {te : Rd Tr} (hc : X.calm = true) (hN : X.N.Nodup) (hv : PE X (.Name x p) (tVar i)) (ok : BlkOk X.N X.env.scope scope own) (hgv : ∀ i ∈ g.ids, i ∈ own.map (·.2))
    (hg : ∀ (s : Shared) (H : Hp) (C : Addr) (cl : List (Str × Addr)) (fp : List Addr), PDG (X.blk s H scope (compEnvC scope cl C X.env) fp) tg g)
    (ht : ∀ (s : Shared) (H : Hp) (C : Addr) (cl : List (Str × Addr)) (fp : List Addr), PDTs (X.blk s H scope (compEnvC scope cl C X.env) fp) W0 ifs tt)
    (he : ∀ (s : Shared) (H : Hp) (C : Addr) (cl : List (Str × Addr)) (fp : List Addr), PD (X.blk s H scope (compEnvC scope cl C X.env) fp) W0 elt te) (hf : ∀ y : Value, foldedSetIterable (.Name x p) X.env y = pure y := by intro _; rfl) :
    PD X W (.ListComp elt [⟨tg, .Name x p, ifs, 0⟩] scope pos) (dLcK i g tt te) := pe_imp (pe_lock (pe_lc hc hN (pi_keys hv) ok hg ht he hf)) fun _ _ _ => lift_lcK hgv
end
end DL
end T_DL25
section T_DL26
set_option Elab.async false
set_option linter.all false
set_option maxRecDepth 100000
set_option maxHeartbeats 400000
/-! DL26: a def of the module called without arguments. -/
namespace DL
open PySem PySem.Spec PyProof.Rows L2
section
variable {X : Cx} {W : WX} {x : Str} {k n : Nat} {dds : List Tr} {sp : Sf} {p pos : Pos}
theorem pd_call0 {g : Bool} (tk : Takes X W) (F : Fn g X.prog X.w X.K X.mg X.base x k n dds sp) (hr : Room k X.A) (hgd : g = true → Gd X.base X.A) (hg : Gl X x) (hdb : (x == ("__debug__" : Str)) = false := by decide) : PD X W (.Call (.Name x p) [] [] pos) (dFn sp dds n dNil) := by
  obtain ⟨f, fd, ps, ds, dvs, F1, hm, hk, hb, hd, hdd⟩ := F.ex
  refine ⟨fun pins s σ H Q I h => wpAny_Call_Name_kw (ld_glob I hg hm (PySem.W.callWith_K0 I.kIn hk ?_) hdb)⟩
  obtain ⟨ρ, M, S, E, o, s', er, q⟩ := h
  refine run_fnG (E := WE W) (vs := []) (us := []) F1 hr hgd hb hd (passAt tk σ) I .nil ?_
  have q' : ([] ++ dds).length = n ∧ sp.f ([] ++ dds) M (fun d M' => ∀ v H' S', Gr S H S' H' → OkH X.K S' M' H' → Rep X.K S' d v → Q v H') E := q
  have r2 := (Reps.nil (K := X.K) (S := S)).append (hdd S)
  exact ⟨by rw [← r2.length]; exact q'.1, [] ++ dds, M, S, o, r2, sp.mono (fun r M2 q2 v H2 S2 l2 o2 r2 => q2 v H2 S2 l2 o2 r2) (fun e M2 q2 cls dd H2 S2 l2 o2 x => er e M2 S2 H2 cls dd l2 o2 x q2) q'.2⟩
end
end DL
end T_DL26
section T_DL27
set_option Elab.async false
set_option linter.all false
set_option maxRecDepth 100000
set_option maxHeartbeats 400000
/-! DL27: the sum of two lists as a mutable list. -/
namespace DL
open PySem PySem.Spec PyProof.Rows L2
section
variable {X : Cx} {W : WX} {pos : Pos} {a b : Expr} {ta tb : Rd Tr}
def dAddC (a b : Rd Tr) : Rd Tr := ⟨fun ρ M Q E => a.f ρ M (fun d M1 => b.f ρ M1 (fun e M2 => onSome (seqL M2 d) fun xs => onSome (seqL M2 e) fun ys => xs.length + ys.length ≤ big ∧ Q (.cell M2.length) (M2 ++ [.lst (xs ++ ys)])) E) E,
  fun h h' q => a.mono (fun d M1 => b.mono (fun e M2 => onSome_mono fun xs => onSome_mono fun ys z => ⟨z.1, h _ _ z.2⟩) h') h' q⟩
def rAddC (K : PySem.W.Frag) : R2 := fun x y H Q => ∃ S M d e xs ys, OkH K S M H ∧ Rep K S d x ∧ Rep K S e y ∧ seqL M d = some xs ∧ seqL M e = some ys ∧ xs.length + ys.length ≤ big ∧ ∀ w H' S', Gr S H S' H' → OkH K S' (M ++ [.lst (xs ++ ys)]) H' → Rep K S' (.cell M.length) w → Q w H'
theorem o_addC : OpR X (binaryOp .Add) (rAddC X.K) := opimp op_cat fun x y H Q h => by
  obtain ⟨S, M, d, e, xs, ys, o, r1, r2, e1, e2, hl, k⟩ := h
  obtain ⟨a, vs, rfl, h1, q1⟩ := seqL_rep o r1 e1
  obtain ⟨b, ws, rfl, h2, q2⟩ := seqL_rep o r2 e2
  refine ⟨a, b, vs, ws, rfl, rfl, h1, h2, by rw [← q1.length, ← q2.length, ← big_eq]; exact hl, fun p n => ?_⟩
  obtain ⟨S', l, o', r⟩ := new_lstC o (q1.append q2) n
  exact k _ _ S' l o' r
theorem pd_addC (ha : PD X W a ta) (hb : PD X W b tb) : PD X W (.BinOp a .Add b pos) (dAddC ta tb) := pe_imp (pe_op o_addC ha hb) fun σ H Q h => by
  obtain ⟨ρ, M, S, E, o, s, er, q⟩ := h
  refine ⟨ρ, M, S, E, o, s, er, ta.mono (fun d M1 q1 => ?_) (fun _ _ z => z) q⟩
  intro v H1 S1 l1 o1 r1
  refine ⟨ρ, M1, S1, E, o1, s.mono l1.le, er.mono l1, tb.mono (fun e M2 q2 => ?_) (fun _ _ z => z) q1⟩
  intro w H2 S2 l2 o2 r2
  obtain ⟨xs, e1, q3⟩ := onSome_of q2
  obtain ⟨ys, e2, q4⟩ := onSome_of q3
  exact ⟨S2, M2, d, e, xs, ys, o2, Rep.mono l2.le _ _ r1, r2, e1, e2, q4.1, fun w' H3 S3 l3 o3 r3 => q4.2 w' H3 S3 (l1.trans (l2.trans l3)) o3 r3⟩
end
end DL
end T_DL27
section T_DL28
set_option Elab.async false
set_option linter.all false
set_option maxRecDepth 100000
set_option maxHeartbeats 400000
/-! DL28: a cell frozen, the tree put where the cell stands in other cells. -/
namespace DL
open PySem PySem.Spec PyProof.Rows L2
def subC (j : Nat) (d : Tr) : Tr → Tr
  | .cell i => if i = j then d else .cell i
  | e => e
def subCe (j : Nat) (d : Tr) : Ce → Ce
  | .dead => .dead
  | .lst xs => .lst (xs.map (subC j d))
  | .dct ks xs => .dct ks (xs.map (subC j d))
  | .ins c xs => .ins c (xs.map (subC j d))
section
variable {K : PySem.W.Frag} {S : Gh} {M : Me} {H : Hp} {j : Nat} {d : Tr}
theorem rep_sub (h : ∀ v, Rep K S (.cell j) v → Rep K S d v) {e : Tr} {v : V} (r : Rep K S e v) : Rep K S (subC j d e) v := by
  cases e with
  | cell i =>
    show Rep K S (if i = j then d else .cell i) v
    by_cases hi : i = j
    · subst hi; rw [if_pos rfl]; exact h v r
    · rw [if_neg hi]; exact r
  | _ => exact r
theorem reps_sub (h : ∀ v, Rep K S (.cell j) v → Rep K S d v) : ∀ {ds : List Tr} {vs : List V}, Reps K S ds vs → Reps K S (ds.map (subC j d)) vs
  | [], vs, r => r
  | e :: ds, vs, r => by
    simp only [Reps] at r
    obtain ⟨v, t, rfl, h1, h2⟩ := r
    exact Reps.cons (rep_sub h h1) (reps_sub h h2)
theorem OkH.subst (o : OkH K S M H) (h : ∀ v, Rep K S (.cell j) v → Rep K S d v) : OkH K S (M.map (subCe j d)) H := by
  refine ⟨o.sub, by rw [List.length_map]; exact o.len, o.nd, fun k a c h1 h2 => ?_, o.tb⟩
  rw [List.getElem?_map] at h2
  obtain ⟨c0, e0, rfl⟩ := Option.map_eq_some_iff.mp h2
  have q := o.cell k a c0 h1 e0
  cases c0 with
  | dead => exact q
  | lst xs =>
    obtain ⟨g, vs, e, r⟩ := q
    exact ⟨g, vs, e, reps_sub h r⟩
  | dct ks xs =>
    obtain ⟨g, kvs, e, ek, r⟩ := q
    exact ⟨g, kvs, e, ek, reps_sub h r⟩
  | ins c xs =>
    obtain ⟨g, dx, fs, e, ek, r⟩ := q
    exact ⟨g, dx, fs, e, by rw [List.length_map]; exact ek, reps_sub h r⟩
end
/-- the value as a tree; its cell dies, and the tree stands where the cell stood -/
def frzH (M : Me) : Tr → Option (Tr × Me)
  | .cell k => (match M[k]? with
    | some (.lst xs) => some (.lst xs, (M.set k .dead).map (subCe k (.lst xs)))
    | _ => none)
  | d => some (d, M)
def dFrzH (t : Rd Tr) : Rd Tr := ⟨fun ρ M Q E => t.f ρ M (fun d M1 => onSome (frzH M1 d) fun z => Q z.1 z.2) E, fun h h' q => t.mono (fun d M1 => onSome_mono fun z => h z.1 z.2) h' q⟩
section
variable {X : Cx} {W : WX} {e : Expr} {t : Rd Tr}
theorem pd_frzH (h : PD X W e t) : PD X W e (dFrzH t) := pe_imp h fun σ H Q h => by
  obtain ⟨ρ, M, S, E, o, s, er, q⟩ := h
  refine ⟨ρ, M, S, E, o, s, er, t.mono (fun d M1 q1 v H1 S1 l1 o1 r1 => ?_) (fun _ _ z => z) q⟩
  obtain ⟨⟨z, M2⟩, e, q2⟩ := onSome_of q1
  have triv : frzH M1 d = some (d, M1) → Q v H1 := fun e' => by
    rw [e'] at e
    cases e
    exact q2 v H1 S1 l1 o1 r1
  cases d with
  | cell k =>
    simp only [frzH] at e
    split at e
    · rename_i xs em
      cases e
      obtain ⟨a, rfl, hc, hg, vs, h1, rs⟩ := cell_rep o1 r1 em
      obtain ⟨o2, l2⟩ := o1.freeze hc em hg h1
      have rt : Rep X.K ⟨upd S1.G a (.lst vs), S1.C⟩ (.lst xs) (.ref a) := by
        simp only [Rep]
        exact ⟨a, vs, rfl, upd_same, Reps.mono l2 _ _ rs⟩
      refine q2 (.ref a) H1 _ (l1.trans (gr_freeze l2 hc)) (o2.subst fun v hv => ?_) rt
      simp only [Rep] at hv
      obtain ⟨b, rfl, hb⟩ := hv
      have hb' : S1.C[k]? = some b := hb
      rw [hc] at hb'
      cases hb'
      exact rt
    · cases e
  | _ => exact triv rfl
end
end DL
end T_DL28
section T_DL29
set_option Elab.async false
set_option linter.all false
set_option maxRecDepth 100000
set_option maxHeartbeats 400000
/-! DL29: xs[a:b:k] of a list. -/
namespace DL
open PySem PySem.Spec PyProof.Rows L2
def sIdx (lo hi st : Option Int) (n : Nat) : List Nat := sliceRange (sliceBounds lo hi st n).1 (sliceBounds lo hi st n).2.1 (sliceBounds lo hi st n).2.2
def pickV (xs : List V) (lo hi st : Option Int) : List V := (sIdx lo hi st xs.length).filterMap (xs[·]?)
def pickT (xs : List Tr) (lo hi st : Option Int) : List Tr := (sIdx lo hi st xs.length).filterMap (xs[·]?)
theorem vals_pick {xs : List V} {its : List Value} (r : Vals xs its) : ∀ l : List Nat, Vals (l.filterMap (xs[·]?)) (l.filterMap (its[·]?))
  | [] => .nil
  | i :: l => by
    have hl := r.length
    by_cases h : i < xs.length
    · have h2 : i < its.length := by omega
      obtain ⟨u, hu, ru⟩ := r.get (List.getElem?_eq_getElem h)
      have e1 : xs[i]? = some xs[i] := List.getElem?_eq_getElem h
      rw [List.filterMap_cons, List.filterMap_cons, e1, hu]
      exact .cons ru (vals_pick r l)
    · have e1 : xs[i]? = none := List.getElem?_eq_none_iff.mpr (by omega)
      have e2 : its[i]? = none := List.getElem?_eq_none_iff.mpr (by omega)
      rw [List.filterMap_cons, List.filterMap_cons, e1, e2]
      exact vals_pick r l
theorem reps_pick {K : PySem.W.Frag} {S : Gh} {ds : List Tr} {vs : List V} (r : Reps K S ds vs) : ∀ l : List Nat, Reps K S (l.filterMap (ds[·]?)) (l.filterMap (vs[·]?))
  | [] => Reps.nil
  | i :: l => by
    have hl := r.length
    by_cases h : i < ds.length
    · obtain ⟨v, hv, rv⟩ := r.get (List.getElem?_eq_getElem h)
      have e1 : ds[i]? = some ds[i] := List.getElem?_eq_getElem h
      rw [List.filterMap_cons, List.filterMap_cons, e1, hv]
      exact Reps.cons rv (reps_pick r l)
    · have e1 : ds[i]? = none := List.getElem?_eq_none_iff.mpr (by omega)
      have e2 : vs[i]? = none := List.getElem?_eq_none_iff.mpr (by omega)
      rw [List.filterMap_cons, List.filterMap_cons, e1, e2]
      exact reps_pick r l
section
variable {X : Cx} {W : WX} {pos p2 : Pos} {e st : Expr} {lo hi : Option Expr}
def tSlS (X : Cx) (te : TE) (tl th ts : TO) : TE := fun σ H Q => te σ H fun x H1 => tl σ H1 fun l H2 => th σ H2 fun u H3 => ts σ H3 fun k H4 => ∃ a xs, x = .ref a ∧ SqL X.K H4 a xs ∧ k ≠ some 0 ∧ ∀ p, H4 p = none → Q (.ref p) (upd H4 p (.lst (pickV xs l u k)))
theorem pe_sliceS {te : TE} {tl th ts : TO} (he : PE X e te) (hl : PO X lo tl) (hu : PO X hi th) (hs : PO X (some st) ts) : PE X (.Subscript e (.Slice lo hi (some st) p2) pos) (tSlS X te tl th ts) := by
  refine ⟨fun pins s σ H Q I h => ?_⟩
  refine Subscript_ (thn (he.run pins s σ H _ I h) fun v s1 ⟨x, H1, I1, r1, q1⟩ => ?_)
  refine wpAny_Slice (thn (hl.run pins s1 σ H1 _ I1 q1) fun vl s2 ⟨l, H2, I2, pl, q2⟩ => thn (hu.run pins s2 σ H2 _ I2 q2) fun vu s3 ⟨u, H3, I3, pu, q3⟩ => thn (hs.run pins s3 σ H3 _ I3 q3) fun vk s4 ⟨k, H4, I4, pk, q4⟩ => ?_)
  have I5 : Inv X pins σ H4 { s4 with heap := s4.heap.push { cls := .type "slice", data := .fields #[vl, vu, vk] } } := I4.kept (t' := s4.toks) fun b ob q => Heap.get?_push_of_some _ q
  obtain ⟨a, xs, rfl, hx, hk, q⟩ := q4
  cases r1
  obtain ⟨its, r, ht, hz⟩ := I5.list hx
  have hlen := r.length
  show wpAny (model X.prog X.w) X.A (subscriptTail e (.Slice lo hi (some st) p2) (.ref a) (.ref s4.heap.objs.size)) (EP X pins σ Q) X.xe { s4 with heap := s4.heap.push { cls := .type "slice", data := .fields #[vl, vu, vk] } }
  refine tail_any (ops := [.ref a, .ref s4.heap.objs.size]) ht.isList.typeIs slot_list_getitem.lookup ?_ (by with_unfolding_all rfl)
  refine wpAny_getItem_list_slice ht.isList (Heap.IsSliceOf.new ..) pl pu pk hk ?_ (by rw [List.size_toArray]; omega)
  have epick : slicePick its.toArray l u k = (((sIdx l u k xs.length).filterMap (its[·]?))).toArray := by
    unfold slicePick sIdx
    rw [List.size_toArray, ← hlen]
    simp
  rw [epick]
  refine ⟨.ref _, _, I5.laid (t' := s4.toks) (o := .lst (pickV xs l u k)) (fun b ob q => Heap.get?_push_of_some _ q) (Nat.le_refl _) ?_, rfl, q _ (I5.hok.fresh (Nat.le_refl _))⟩
  refine ⟨?_, _, 0, vals_pick r _, Heap.get?_push_size _ rfl⟩
  have h1 := slicePick_size_le its.toArray l u k
  rw [epick, List.size_toArray, List.size_toArray] at h1
  have h2 := (vals_pick r (sIdx l u k xs.length)).length
  unfold pickV
  omega
/-- xs[a:b:k] as a tree -/
def dSlS (t : Rd Tr) (lo hi st : Rd (Option Int)) : Rd Tr := ⟨fun ρ M Q E => t.f ρ M (fun d M1 => lo.f ρ M1 (fun l M2 => hi.f ρ M2 (fun h M3 => st.f ρ M3 (fun k M4 => k ≠ some 0 ∧ onSome (seqL M4 d) fun xs => Q (.lst (pickT xs l h k)) M4) E) E) E) E,
  fun h h' q => t.mono (fun d M1 => lo.mono (fun l M2 => hi.mono (fun g M3 => st.mono (fun k M4 z => ⟨z.1, onSome_mono (fun xs => h _ M4) z.2⟩) h') h') h') h' q⟩
theorem pd_sliceS {t : Rd Tr} {tl th ts : Rd (Option Int)} (he : PD X W e t) (hl : PDO X W lo tl) (hh : PDO X W hi th) (hs : PDO X W (some st) ts) : PD X W (.Subscript e (.Slice lo hi (some st) p2) pos) (dSlS t tl th ts) :=
  pe_imp (pe_sliceS he hl hh hs) fun σ H Q h => by
    obtain ⟨ρ, M, S, E, o, s, er, q⟩ := h
    refine ⟨ρ, M, S, E, o, s, er, t.mono (fun d M1 q1 => ?_) (fun _ _ z => z) q⟩
    intro v H1 S1 l1 o1 r1
    refine ⟨ρ, M1, S1, E, o1, s.mono l1.le, er.mono l1, tl.mono (fun x M2 q2 => ?_) (fun _ _ z => z) q1⟩
    intro H2 S2 l2 o2
    refine ⟨ρ, M2, S2, E, o2, (s.mono l1.le).mono l2.le, (er.mono l1).mono l2, th.mono (fun y M3 q3 => ?_) (fun _ _ z => z) q2⟩
    intro H3 S3 l3 o3
    refine ⟨ρ, M3, S3, E, o3, ((s.mono l1.le).mono l2.le).mono l3.le, ((er.mono l1).mono l2).mono l3, ts.mono (fun k M4 q4 => ?_) (fun _ _ z => z) q3⟩
    intro H4 S4 l4 o4
    obtain ⟨hk, q5⟩ := q4
    obtain ⟨xs, hz, q6⟩ := onSome_of q5
    have r4 := Rep.mono (l2.trans (l3.trans l4)).le _ _ r1
    obtain ⟨a, vs, rfl, hq, rs⟩ := seqL_rep o4 r4 hz
    refine ⟨a, vs, rfl, SqL.of hq, hk, fun p n => ?_⟩
    have rp : Reps X.K S4 (pickT xs x y k) (pickV vs x y k) := by
      unfold pickT pickV
      rw [rs.length]
      exact reps_pick rs _
    obtain ⟨S', l, o', r⟩ := new_lst o4 rp n
    exact q6 _ _ S' (l1.trans (l2.trans (l3.trans (l4.trans l)))) o' r
end
end DL
end T_DL29
section T_DL30
set_option Elab.async false
set_option linter.all false
set_option maxRecDepth 100000
set_option maxHeartbeats 400000
/-! DL30: xs[i] = v of lists; xs[i], ys[j] = v, w. -/
namespace DL
open PySem PySem.Spec PyProof.Rows L2
def putLT (M : Me) (d e x : Tr) : Option Me := match d with
  | .cell k => (match M[k]?, e with
    | some (.lst xs), .int i => (ixN xs.length i).map fun j => M.set k (.lst (xs.set j x))
    | _, _ => none)
  | _ => none
def sLSet (t u x : Rd Tr) : Sr := ⟨fun F ρ M => x.f ρ M (fun v M1 => t.f ρ M1 (fun d M2 => u.f ρ M2 (fun e M3 => onSome (putLT M3 d e v) fun M4 => F.nx ρ M4) (F.er ρ)) (F.er ρ)) (F.er ρ),
  fun h q => x.mono (fun v M1 => t.mono (fun d M2 => u.mono (fun e M3 => onSome_mono fun M4 => h.nx _ M4) fun d M => h.er _ d M) fun d M => h.er _ d M) (fun d M => h.er _ d M) q⟩
/-- the value is a pair -/
def sLSet2 (t1 u1 t2 u2 x : Rd Tr) : Sr := ⟨fun F ρ M => x.f ρ M (fun v M1 => match v with
    | .tup [a, b] => t1.f ρ M1 (fun d M2 => u1.f ρ M2 (fun e M3 => onSome (putLT M3 d e a) fun M4 => t2.f ρ M4 (fun d2 M5 => u2.f ρ M5 (fun e2 M6 => onSome (putLT M6 d2 e2 b) fun M7 => F.nx ρ M7) (F.er ρ)) (F.er ρ)) (F.er ρ)) (F.er ρ)
    | _ => False) (F.er ρ),
  fun h q => x.mono (fun v M1 z => by
    split at z
    · exact t1.mono (fun d M2 => u1.mono (fun e M3 => onSome_mono fun M4 => t2.mono (fun d M5 => u2.mono (fun e M6 => onSome_mono fun M7 => h.nx _ M7) fun d M => h.er _ d M) fun d M => h.er _ d M) fun d M => h.er _ d M) (fun d M => h.er _ d M) z
    · exact z) (fun d M => h.er _ d M) q⟩
section
variable {K : PySem.W.Frag} {S : Gh} {M M' : Me} {H : Hp} {d e x : Tr} {v w z : V}
/-- the store in the abstract heap -/
theorem put_list (o : OkH K S M H) (rd : Rep K S d v) (re : Rep K S e w) (rx : Rep K S x z) (h : putLT M d e x = some M') :
    ∃ p xs k j, v = .ref p ∧ w = .int k ∧ H p = some (.lst xs) ∧ ixN xs.length k = some j ∧ Gr S H S (upd H p (.lst (xs.set j z))) ∧ OkH K S M' (upd H p (.lst (xs.set j z))) := by
  unfold putLT at h
  split at h
  · rename_i k
    split at h
    · rename_i xs i em
      obtain ⟨j, ej, rfl⟩ := Option.map_eq_some_iff.mp h
      obtain ⟨a, rfl, hc, hg, ws, h1, rs⟩ := cell_rep o rd em
      simp only [Rep] at re
      refine ⟨a, ws, i, j, rfl, re, h1, by rw [← rs.length]; exact ej, gr_setCell hc, o.setCell hc em hg ⟨hg, _, upd_same, ?_⟩⟩
      have key : ∀ {ds : List Tr} {vs : List V} (j : Nat), Reps K S ds vs → Reps K S (ds.set j x) (vs.set j z) := by
        intro ds
        induction ds with
        | nil =>
          intro vs j r
          simp only [Reps] at r
          subst r
          exact Reps.nil
        | cons y ds ih =>
          intro vs j r
          simp only [Reps] at r
          obtain ⟨v0, t, rfl, q1, q2⟩ := r
          cases j with
          | zero => exact Reps.cons rx q2
          | succ j => exact Reps.cons q1 (ih j q2)
      exact key j rs
    · cases h
  · cases h
end
section
variable {X : Cx} {W : WX} {pos pos' pos2 tpos : Pos} {o i o2 i2 value : Expr} {t u x t2 u2 : Rd Tr}
theorem pds_lset (ho : PD X W o t) (hi : PD X W i u) (hv : PD X W value x) (hs : swapsWithSole [.Subscript o i pos'] value pos.line X.env = pure false := by rfl) (hw : swappedStores [.Subscript o i pos'] value X.env = pure none := by rfl)
    (h1 : (assignEach [.Subscript o i pos'] X.env).map (·.2) = [assign (.Subscript o i pos') X.env] := by rfl)
    (ha : ∀ v, assign (.Subscript o i pos') X.env v = (do let ov ← holding [v] (eval o X.env); let iv ← holding [v, ov] (eval i X.env); standAt pos'; holding [v, ov, iv] (setItem ov iv v); release [v, ov, iv] []) := by intro _; rfl) :
    PDS X W (.Assign [.Subscript o i pos'] value pos) (sLSet t u x) :=
  ps_imp (ps_asg hv (pg_sub ho hi set_list ha) hs hw h1) fun D σ H h => by
    obtain ⟨ρ, M, S, F, ok, s, en, q⟩ := h
    refine ⟨ρ, M, S, F.er ρ, ok, s, en.err s, x.mono (fun v M1 q1 z H1 S1 l1 o1 r1 => ?_) (fun _ _ z => z) q⟩
    refine ⟨ρ, M1, S1, F.er ρ, o1, s.mono l1.le, (en.err s).mono l1, t.mono (fun d M2 q2 v2 H2 S2 l2 o2 r2 => ?_) (fun _ _ z => z) q1⟩
    refine ⟨ρ, M2, S2, F.er ρ, o2, (s.mono l1.le).mono l2.le, ((en.err s).mono l1).mono l2, u.mono (fun e M3 q3 v3 H3 S3 l3 o3 r3 => ?_) (fun _ _ z => z) q2⟩
    obtain ⟨M4, em, q4⟩ := onSome_of q3
    obtain ⟨p, xs, k, j, hp1, hp2, hp3, hp4, g, o4⟩ := put_list o3 (Rep.mono l3.le _ _ r2) r3 (Rep.mono (l2.trans l3).le _ _ r1) em
    have L := l1.trans (l2.trans l3)
    exact ⟨p, xs, k, j, hp1, hp2, hp3, hp4, en.nx ρ _ S3 σ _ (L.trans g) o4 (s.mono L.le) q4⟩
theorem pds_lset2 {k : Nat} (hc : X.calm = true) (ho : PD X W o t) (hi : PD X W i u) (ho2 : PD X W o2 t2) (hi2 : PD X W i2 u2) (hv : PD X W value x) (hs : swapsWithSole [.Tuple [.Subscript o i pos', .Subscript o2 i2 pos2] k tpos] value pos.line X.env = pure false := by rfl) (hw : swappedStores [.Tuple [.Subscript o i pos', .Subscript o2 i2 pos2] k tpos] value X.env = pure none := by rfl)
    (h1 : (assignEach [.Tuple [.Subscript o i pos', .Subscript o2 i2 pos2] k tpos] X.env).map (·.2) = [assign (.Tuple [.Subscript o i pos', .Subscript o2 i2 pos2] k tpos) X.env] := by rfl)
    (ha : ∀ v, assign (.Subscript o i pos') X.env v = (do let ov ← holding [v] (eval o X.env); let iv ← holding [v, ov] (eval i X.env); standAt pos'; holding [v, ov, iv] (setItem ov iv v); release [v, ov, iv] []) := by intro _; rfl)
    (hb : ∀ v, assign (.Subscript o2 i2 pos2) X.env v = (do let ov ← holding [v] (eval o2 X.env); let iv ← holding [v, ov] (eval i2 X.env); standAt pos2; holding [v, ov, iv] (setItem ov iv v); release [v, ov, iv] []) := by intro _; rfl)
    (hn : (assignEach [.Subscript o i pos', .Subscript o2 i2 pos2] X.env).length = 2 := by rfl) (hst : (assignEach [.Subscript o i pos', .Subscript o2 i2 pos2] X.env).findIdx? (·.1) = none := by rfl)
    (hp : PGs X [.Subscript o i pos', .Subscript o2 i2 pos2] (gCons (gSub (liftE X.K W t) (liftE X.K W u) rSetL) (gCons (gSub (liftE X.K W t2) (liftE X.K W u2) rSetL) gNil))) :
    PDS X W (.Assign [.Tuple [.Subscript o i pos', .Subscript o2 i2 pos2] k tpos] value pos) (sLSet2 t u t2 u2 x) :=
  ps_imp (ps_asg hv (pg_tup hc hp hn hst) hs hw h1) fun D σ H h => by
    obtain ⟨ρ, M, S, F, ok, s, en, q⟩ := h
    refine ⟨ρ, M, S, F.er ρ, ok, s, en.err s, x.mono (fun v M1 q1 z H1 S1 l1 o1 r1 => ?_) (fun _ _ z => z) q⟩
    split at q1
    · rename_i a b
      simp only [Rep, Reps] at r1
      obtain ⟨c, vs, rfl, hq, va, r0, rfl, ra, vb, r00, rfl, rb, rfl⟩ := r1
      refine ⟨c, [va, vb], rfl, o1.sqT hq, rfl, va, [vb], rfl, ?_⟩
      refine ⟨ρ, M1, S1, F.er ρ, o1, s.mono l1.le, (en.err s).mono l1, t.mono (fun d M2 q2 v2 H2 S2 l2 o2 r2 => ?_) (fun _ _ z => z) q1⟩
      refine ⟨ρ, M2, S2, F.er ρ, o2, (s.mono l1.le).mono l2.le, ((en.err s).mono l1).mono l2, u.mono (fun e M3 q3 v3 H3 S3 l3 o3 r3 => ?_) (fun _ _ z => z) q2⟩
      obtain ⟨M4, em, q4⟩ := onSome_of q3
      obtain ⟨p, xs, k, j, hp1, hp2, hp3, hp4, g, o4⟩ := put_list o3 (Rep.mono l3.le _ _ r2) r3 (Rep.mono (l2.trans l3).le _ _ ra) em
      have L := (l1.trans (l2.trans l3)).trans g
      have rb4 : Rep X.K S3 b vb := Rep.mono (l2.trans l3).le _ _ rb
      refine ⟨p, xs, k, j, hp1, hp2, hp3, hp4, vb, [], rfl, ?_⟩
      refine ⟨ρ, M4, S3, F.er ρ, o4, s.mono L.le, (en.err s).mono L, t2.mono (fun d M5 q5 v5 H5 S5 l5 o5 r5 => ?_) (fun _ _ z => z) q4⟩
      refine ⟨ρ, M5, S5, F.er ρ, o5, (s.mono L.le).mono l5.le, ((en.err s).mono L).mono l5, u2.mono (fun e M6 q6 v6 H6 S6 l6 o6 r6 => ?_) (fun _ _ z => z) q5⟩
      obtain ⟨M7, em7, q7⟩ := onSome_of q6
      obtain ⟨p', xs', k', j', hq1, hq2, hq3, hq4, g', o7⟩ := put_list o6 (Rep.mono l6.le _ _ r5) r6 (Rep.mono (l5.trans l6).le _ _ rb4) em7
      have L' := L.trans (l5.trans l6)
      exact ⟨p', xs', k', j', hq1, hq2, hq3, hq4, rfl, en.nx ρ _ S6 σ _ (L'.trans g') o7 (s.mono L'.le) q7⟩
    · exact q1.elim
end
end DL
end T_DL30
section T_DL31
set_option Elab.async false
set_option linter.all false
set_option maxRecDepth 100000
set_option maxHeartbeats 400000
/-! DL31: [elt for x in d], d a dict that the element reads. -/
namespace DL
open PySem PySem.Spec PyProof.Rows L2
mutual
/-- no dict stands in the tree -/
def noDF : Tr → Bool
  | .dct _ _ => false
  | .dkf _ _ => false
  | .exc _ _ => false
  | .lst xs => noDFs xs
  | .tup xs => noDFs xs
  | .ins _ xs => noDFs xs
  | _ => true
def noDFs : List Tr → Bool
  | [] => true
  | d :: ds => noDF d && noDFs ds
end
def noDFC : Ce → Bool
  | .dead => true
  | .lst xs => noDFs xs
  | .dct _ xs => noDFs xs
  | .ins _ xs => noDFs xs
/-- an object of a dict, locked or not -/
def DicO : Option HO → Prop
  | some (.dK _) => True
  | some (.frz _ (.dK _)) => True
  | _ => False
structure Swap (d : Addr) (G G' : Hp) : Prop where
  ne : ∀ a, a ≠ d → G' a = G a
  at_ : DicO (G d)
section
variable {K : PySem.W.Frag} {C : List Addr} {G G' : Hp} {d : Addr}
theorem Swap.get {a : Addr} {o : HO} (w : Swap d G G') (h : G a = some o) (n : ¬ DicO (some o)) : G' a = some o := by
  by_cases e : a = d
  · subst e
    have := w.at_
    rw [h] at this
    exact (n this).elim
  · rw [w.ne a e]; exact h
theorem Swap.sqT {a : Addr} {vs : List V} (w : Swap d G G') (h : SqT K G a vs) : SqT K G' a vs := by
  rcases h with (h | ⟨o, h⟩) | h
  · exact .inl (.inl (w.get h (fun z => z)))
  · exact .inl (.inr ⟨o, w.get h (fun z => z)⟩)
  · exact .inr h
theorem Swap.sqL {a : Addr} {vs : List V} (w : Swap d G G') (h : SqL K G a vs) : SqL K G' a vs := by
  rcases h with (h | ⟨o, h⟩) | h
  · exact .inl (.inl (w.get h (fun z => z)))
  · exact .inl (.inr ⟨o, w.get h (fun z => z)⟩)
  · exact .inr h
mutual
theorem rep_swap (w : Swap d G G') : ∀ (e : Tr) (v : V), noDF e = true → Rep K ⟨G, C⟩ e v → Rep K ⟨G', C⟩ e v
  | .non, v, _, r => by simpa only [Rep] using r
  | .bl _, v, _, r => by simpa only [Rep] using r
  | .int _, v, _, r => by simpa only [Rep] using r
  | .str _, v, _, r => by simpa only [Rep] using r
  | .lst xs, v, n, r => by
    simp only [noDF] at n
    simp only [Rep] at r ⊢
    obtain ⟨a, vs, e, g, q⟩ := r
    exact ⟨a, vs, e, w.get g (fun z => z), reps_swap w xs vs n q⟩
  | .tup xs, v, n, r => by
    simp only [noDF] at n
    simp only [Rep] at r ⊢
    obtain ⟨a, vs, e, g, q⟩ := r
    exact ⟨a, vs, e, w.sqT g, reps_swap w xs vs n q⟩
  | .dct _ _, v, n, _ => by simp [noDF] at n
  | .dkf _ _, v, n, _ => by simp [noDF] at n
  | .ins c xs, v, n, r => by
    simp only [noDF] at n
    simp only [Rep] at r ⊢
    obtain ⟨a, dx, fs, e, g, k, q⟩ := r
    exact ⟨a, dx, fs, e, w.get g (fun z => z), k, reps_swap w xs _ n q⟩
  | .exc _ _, v, n, _ => by simp [noDF] at n
  | .cell _, v, _, r => by simpa only [Rep] using r
  | .scr ns, v, _, r => by
    simp only [Rep] at r ⊢
    obtain ⟨a, e, q⟩ := r
    exact ⟨a, e, w.sqL q⟩
theorem reps_swap (w : Swap d G G') : ∀ (es : List Tr) (vs : List V), noDFs es = true → Reps K ⟨G, C⟩ es vs → Reps K ⟨G', C⟩ es vs
  | [], vs, _, r => by simpa only [Reps] using r
  | e :: es, vs, n, r => by
    simp only [noDFs, Bool.and_eq_true] at n
    simp only [Reps] at r
    obtain ⟨v, t, rfl, h1, h2⟩ := r
    exact Reps.cons (rep_swap w e v n.1 h1) (reps_swap w es t n.2 h2)
end
end
def keepF : Option Tr → Option Tr
  | some d => if noDF d = true then some d else none
  | none => none
def lockE (vs : List Nat) (ρ : En) (i : Nat) (ks : List Key) (ds : List Tr) : En := wipeE ((ρ.map keepF).set i (some (.dkf ks ds))) vs
/-- [elt for target in d if ..]: d the dict in slot i, which the element may read -/
def dLcD (vs : List Nat) (i : Nat) (g : Tg) (tt : Rd Bool) (te : Rd Tr) : Rd Tr := ⟨fun ρ M Q _ => match ρ[i]? with
  | some (some (.dct ks ds)) => (M.all noDFC = true ∧ noDFs ds = true) ∧ compT g tt te (lockE vs ρ i ks ds) (ks.map keyTr) [] M fun es M' => M' = M ∧ noDFs es = true ∧ Q (.lst es) M
  | _ => False, fun {ρ M Q Q' E E'} h h' q => by
    split at q
    · exact ⟨q.1, compT_mono (fun es M' z => ⟨z.1, z.2.1, h _ _ z.2.2⟩) _ _ _ q.2⟩
    · exact q.elim⟩
section
variable {X : Cx} {W : WX} {pos : Pos} {K : PySem.W.Frag}
theorem lift_lcD {i : Nat} {g : Tg} {tt : Rd Bool} {te : Rd Tr} {vs : List Nat} (hg : ∀ i ∈ g.ids, i ∈ vs) {σ : L2.St} {H : Hp} {Q : VK} (h : liftE K W (dLcD vs i g tt te) σ H Q) :
    tLockE (tLc (iKeys (tVar i)) (gTg K g) (liftT K W0 tt) (liftE K W0 te) vs) σ H Q := by
  obtain ⟨ρ, M, S, E, o, sl, er, q⟩ := h
  change (match ρ[i]? with
    | some (some (.dct ks ds)) => (M.all noDFC = true ∧ noDFs ds = true) ∧ compT g tt te (lockE vs ρ i ks ds) (ks.map keyTr) [] M fun es M' => M' = M ∧ noDFs es = true ∧ ∀ v H' S', Gr S H S' H' → OkH K S' M H' → Rep K S' (.lst es) v → Q v H'
    | _ => False) at q
  split at q
  · rename_i ks ds e
    obtain ⟨⟨hM, hds⟩, q⟩ := q
    obtain ⟨v, e1, r⟩ := sl.at_ i _ e
    simp only [Rep] at r
    obtain ⟨d, kvs, rfl, hd, hks, rd⟩ := r
    have hH : H d = some (.dK kvs) := o.sub _ _ hd
    refine ⟨d, .dK kvs, hH, True.intro, fun od => ⟨.ref d, e1, d, od, rfl, .inl ⟨kvs, upd_same, fun D nD => ?_⟩⟩⟩
    let SI : Gh := ⟨upd S.G d (.frz od (.dK kvs)), S.C⟩
    have swI : Swap d S.G SI.G := ⟨fun a ha => upd_ne ha, by rw [hd]; trivial⟩
    have oI : OkH K SI M (upd H d (.frz od (.dK kvs))) := by
      refine ⟨fun a u f => ?_, o.len, o.nd, fun k a c f1 f2 => ?_, ⟨tabs_upd o.tb.tabs hH trivial, ntb_upd o.tb.nt (by nofun)⟩⟩
      · by_cases ha : a = d
        · subst ha
          rw [show SI.G a = some (.frz od (.dK kvs)) from upd_same] at f
          rw [← f]; exact upd_same
        · rw [show SI.G a = S.G a from upd_ne ha] at f
          rw [upd_ne ha]; exact o.sub a u f
      · have q0 := o.cell k a c f1 f2
        have hc : noDFC c = true := List.all_eq_true.mp hM c (List.mem_of_getElem? f2)
        have gne : S.G a = none → a ≠ d := fun z1 z2 => by subst z2; rw [hd] at z1; cases z1
        cases c with
        | dead =>
          show ∃ o, upd H d (.frz od (.dK kvs)) a = some o ∧ HOx o
          by_cases ha : a = d
          · subst ha; rw [upd_same]; exact ⟨_, rfl, trivial⟩
          · rw [upd_ne ha]; exact q0
        | lst xs =>
          obtain ⟨g0, vs0, h1, h2⟩ := q0
          exact ⟨(upd_ne (gne g0)).trans g0, vs0, (upd_ne (gne g0)).trans h1, reps_swap swI xs vs0 hc h2⟩
        | dct ks xs =>
          obtain ⟨g0, vs0, h1, hk, h2⟩ := q0
          exact ⟨(upd_ne (gne g0)).trans g0, vs0, (upd_ne (gne g0)).trans h1, hk, reps_swap swI xs _ hc h2⟩
        | ins cc xs =>
          obtain ⟨g0, dx, fs, h1, hk, h2⟩ := q0
          exact ⟨(upd_ne (gne g0)).trans g0, dx, fs, (upd_ne (gne g0)).trans h1, hk, reps_swap swI xs _ hc h2⟩
    have nD' : H D = none ∧ D ≠ d := by
      by_cases hx : D = d
      · subst hx; rw [upd_same] at nD; cases nD
      · rw [upd_ne hx] at nD; exact ⟨nD, hx⟩
    have w : WalksT K (Itk d od kvs) (ks.map keyTr) SI (upd H d (.frz od (.dK kvs))) := by
      have fz : ∀ {S2 : Gh} {M2 : Me} {H2 : Hp}, Le SI S2 → OkH K S2 M2 H2 → H2 d = some (.frz od (.dK kvs)) := fun l o2 => o2.sub _ _ (l.g d _ upd_same)
      subst hks
      refine ⟨fun i S2 M2 H2 l o2 hi => ⟨fz l o2, by simpa using hi⟩, fun i S2 M2 H2 x H3 l o2 hi y => ?_, fun S2 M2 H2 l o2 => ⟨fz l o2, by simp⟩⟩
      obtain ⟨rfl, k, v, ek, rfl⟩ := y
      exact ⟨S2, keyTr k, by simp [ek], Gr.refl _ _, o2, keyTr_rep k⟩
    have sI : Slots K SI (lockE vs ρ i ks ds) (wipe σ vs) := by
      have s0 : Slots K SI ((ρ.map keepF).set i (some (.dkf ks ds))) σ := by
        refine ⟨by rw [List.length_set, List.length_map]; exact sl.len, fun j x f => ?_⟩
        by_cases hj : j = i
        · subst hj
          have hlt : j < (ρ.map keepF).length := by
            have := (List.getElem?_eq_some_iff.mp f).1
            rwa [List.length_set] at this
          rw [List.getElem?_set_self hlt] at f
          cases f
          refine ⟨.ref d, e1, ?_⟩
          simp only [Rep]
          exact ⟨d, od, kvs, rfl, upd_same, hks, reps_swap swI ds _ hds rd⟩
        · rw [List.getElem?_set_ne (Ne.symm hj), List.getElem?_map] at f
          obtain ⟨x0, f0, f1⟩ := Option.map_eq_some_iff.mp f
          cases x0 with
          | none => cases f1
          | some y =>
            have f1' : (if noDF y = true then some y else none) = some x := f1
            by_cases hn : noDF y = true
            · rw [if_pos hn] at f1'
              cases f1'
              obtain ⟨v, h1, h2⟩ := sl.at_ j _ f0
              exact ⟨v, h1, rep_swap swI _ _ hn h2⟩
            · rw [if_neg hn] at f1'; cases f1'
      exact s0.wipe
    have run := comp_run (K := K) (Fin1 := fun H' => H' d = some (.frz od (.dK kvs)) ∧ Q (.ref D) (upd H' d (.dK kvs))) (vs := vs) w (Le.refl _) nD (mk1_new oI nD) sI (Le.refl _) hg q fun acc M' S' H' l mk q2 => ?_
    · rw [wipe_idem] at run
      exact run
    · obtain ⟨rfl, fl, q3⟩ := q2
      obtain ⟨accV, L, o', hD, gD, cD, ra⟩ := mk.ex
      have gd' : S'.G d = some (.frz od (.dK kvs)) := l.g d _ upd_same
      have hd' : H' d = some (.frz od (.dK kvs)) := o'.sub _ _ gd'
      refine ⟨hd', ?_⟩
      have eC : S'.C = S.C := by
        have h1 : S.C <+: S'.C := l.c
        have h2 : S'.C.length = S.C.length := by rw [o'.len, o.len]
        exact (h1.eq_of_length h2.symm).symm
      let S2 : Gh := ⟨upd S'.G d (.dK kvs), S'.C⟩
      have sw2 : Swap d S'.G S2.G := ⟨fun a ha => upd_ne ha, by rw [gd']; trivial⟩
      let SF : Gh := ⟨upd S2.G D (.lst accV), S'.C⟩
      have g2D : S2.G D = none := (upd_ne nD'.2).trans gD
      have lF : Le S2 SF := ⟨same_upd g2D, List.prefix_refl _⟩
      have SFd : SF.G d = some (.dK kvs) := (upd_ne (Ne.symm nD'.2)).trans upd_same
      have SFe : ∀ a, a ≠ d → a ≠ D → SF.G a = S'.G a := fun a h1 h2 => (upd_ne h2).trans (upd_ne h1)
      have SDn : S.G D = none := (o.fresh nD'.1).1
      have keep : ∀ a u, H a = some u → (∀ ps, u ≠ .tbl ps) → a ∉ S.C → upd H' d (.dK kvs) a = some u := fun a u f n nc => by
        by_cases ha : a = d
        · subst ha; rw [hH] at f; cases f; exact upd_same
        · rw [upd_ne ha]
          exact L.keep a u (by rw [upd_ne ha]; exact f) n nc
      have leF : Le S SF := by
        refine ⟨fun a u f => ?_, by rw [show SF.C = S.C from eC]; exact List.prefix_refl _⟩
        by_cases ha : a = d
        · subst ha; rw [hd] at f; cases f; exact SFd
        · have hD2 : a ≠ D := fun z => by subst z; rw [SDn] at f; cases f
          rw [SFe a ha hD2]
          exact l.g a u ((upd_ne ha).trans f)
      refine q3 (.ref D) _ SF ⟨leF, fun a h1 h2 => ?_, keep, fun a h1 h2 => ?_⟩ ⟨fun a u f => ?_, o'.len, o'.nd, fun k a c f1 f2 => ?_, ⟨tabs_upd o'.tb.tabs hd' trivial, ntb_upd (ntb_upd o'.tb.nt (by nofun)) (by nofun)⟩⟩ ?_
      · rw [show SF.C = S.C from eC] at h1
        exact absurd h1 h2
      · by_cases hD2 : a = D
        · subst hD2; exact .inl (NX.of nD'.1)
        · have ha : a ≠ d := fun z => by subst z; rw [hd] at h1; cases h1
          rw [SFe a ha hD2] at h2
          rcases L.fz a ((upd_ne ha).trans h1) h2 with z | z
          · exact .inl (z.back' ha)
          · exact .inr z
      · by_cases hD2 : a = D
        · subst hD2
          rw [show SF.G a = some (.lst accV) from upd_same] at f
          cases f
          rw [upd_ne nD'.2]; exact hD
        · by_cases ha : a = d
          · subst ha
            rw [SFd] at f
            cases f
            exact upd_same
          · rw [SFe a ha hD2] at f
            rw [upd_ne ha]
            exact o'.sub a u f
      · have q0 := o'.cell k a c f1 f2
        have hc : noDFC c = true := List.all_eq_true.mp hM c (List.mem_of_getElem? f2)
        have hD2 : a ≠ D := fun z => cD (z ▸ List.mem_of_getElem? f1)
        have gne : S'.G a = none → a ≠ d := fun z1 z2 => by subst z2; rw [gd'] at z1; cases z1
        cases c with
        | dead =>
          show ∃ o, upd H' d (.dK kvs) a = some o ∧ HOx o
          by_cases ha : a = d
          · subst ha; rw [upd_same]; exact ⟨_, rfl, trivial⟩
          · rw [upd_ne ha]; exact q0
        | lst xs =>
          obtain ⟨g0, vs0, h1, h2⟩ := q0
          exact ⟨(SFe a (gne g0) hD2).trans g0, vs0, (upd_ne (gne g0)).trans h1, Reps.mono lF _ _ (reps_swap sw2 xs vs0 hc h2)⟩
        | dct ks xs =>
          obtain ⟨g0, vs0, h1, hk, h2⟩ := q0
          exact ⟨(SFe a (gne g0) hD2).trans g0, vs0, (upd_ne (gne g0)).trans h1, hk, Reps.mono lF _ _ (reps_swap sw2 xs _ hc h2)⟩
        | ins cc xs =>
          obtain ⟨g0, dx, fs, h1, hk, h2⟩ := q0
          exact ⟨(SFe a (gne g0) hD2).trans g0, dx, fs, (upd_ne (gne g0)).trans h1, hk, Reps.mono lF _ _ (reps_swap sw2 xs _ hc h2)⟩
      · simp only [Rep]
        exact ⟨D, accV, rfl, upd_same, Reps.mono lF _ _ (reps_swap sw2 acc accV fl ra)⟩
  · exact q.elim
theorem pd_lcD {i : Nat} {x : Str} {p : Pos} {elt tg : Expr} {ifs : List Expr} {scope : Scope} {own : List (Str × Nat)} {g : Tg} {tt : Rd Bool} {te : Rd Tr} (hc : X.calm = true) (hN : X.N.Nodup) (hv : PE X (.Name x p) (tVar i)) (ok : BlkOk X.N X.env.scope scope own) (hgv : ∀ i ∈ g.ids, i ∈ own.map (·.2))
    (hg : ∀ (s : Shared) (H : Hp) (C : Addr) (cl : List (Str × Addr)) (fp : List Addr), PDG (X.blk s H scope (compEnvC scope cl C X.env) fp) tg g)
    (ht : ∀ (s : Shared) (H : Hp) (C : Addr) (cl : List (Str × Addr)) (fp : List Addr), PDTs (X.blk s H scope (compEnvC scope cl C X.env) fp) W0 ifs tt)
    (he : ∀ (s : Shared) (H : Hp) (C : Addr) (cl : List (Str × Addr)) (fp : List Addr), PD (X.blk s H scope (compEnvC scope cl C X.env) fp) W0 elt te) (hf : ∀ y : Value, foldedSetIterable (.Name x p) X.env y = pure y := by intro _; rfl) :
    PD X W (.ListComp elt [⟨tg, .Name x p, ifs, 0⟩] scope pos) (dLcD (own.map (·.2)) i g tt te) := pe_imp (pe_lock (pe_lc hc hN (pi_keys hv) ok hg ht he hf)) fun _ _ _ => lift_lcD hgv
end
end DL
end T_DL31
section T_DL32
set_option Elab.async false
set_option linter.all false
set_option maxRecDepth 100000
set_option maxHeartbeats 400000
/-! DL32: xs[a:b] of a list as a cell. -/
namespace DL
open PySem PySem.Spec PyProof.Rows L2
section
variable {X : Cx} {W : WX} {pos p2 : Pos} {e : Expr} {t : Rd Tr} {lo hi : Option Expr}
def dSlC (t : Rd Tr) (lo hi : Rd (Option Int)) : Rd Tr := ⟨fun ρ M Q E => t.f ρ M (fun d M1 => lo.f ρ M1 (fun l M2 => hi.f ρ M2 (fun h M3 => onSome (seqL M3 d) fun xs => Q (.cell M3.length) (M3 ++ [.lst (cutT xs l h)])) E) E) E,
  fun h h' q => t.mono (fun d M1 => lo.mono (fun l M2 => hi.mono (fun g M3 => onSome_mono fun z => h _ _) h') h') h' q⟩
theorem pd_sliceC {tl th : Rd (Option Int)} (he : PD X W e t) (hl : PDO X W lo tl) (hh : PDO X W hi th) : PD X W (.Subscript e (.Slice lo hi none p2) pos) (dSlC t tl th) :=
  pe_imp (pe_slice sl_list he hl hh) fun σ H Q h => by
    obtain ⟨ρ, M, S, E, o, s, er, q⟩ := h
    refine ⟨ρ, M, S, E, o, s, er, t.mono (fun d M1 q1 => ?_) (fun _ _ z => z) q⟩
    intro v H1 S1 l1 o1 r1
    refine ⟨ρ, M1, S1, E, o1, s.mono l1.le, er.mono l1, tl.mono (fun x M2 q2 => ?_) (fun _ _ z => z) q1⟩
    intro H2 S2 l2 o2
    refine ⟨ρ, M2, S2, E, o2, (s.mono l1.le).mono l2.le, (er.mono l1).mono l2, th.mono (fun y M3 q3 => ?_) (fun _ _ z => z) q2⟩
    intro H3 S3 l3 o3
    obtain ⟨xs, hz, q4⟩ := onSome_of q3
    obtain ⟨a, vs, rfl, hq, rs⟩ := seqL_rep o3 (Rep.mono (l2.trans l3).le _ _ r1) hz
    refine ⟨a, vs, rfl, SqL.of hq, fun p n => ?_⟩
    obtain ⟨S', l, o', r⟩ := new_lstC o3 (reps_cut (lo := x) (hi := y) rs) n
    exact q4 _ _ S' (l1.trans (l2.trans (l3.trans l))) o' r
end
end DL
end T_DL32
section T_DE0
set_option Elab.async false
set_option linter.all false
set_option maxRecDepth 100000
set_option maxHeartbeats 400000
/-! DE0: == and != by own __eq__, both answers: at the library's level. -/
namespace DL
open PySem PySem.Spec PyProof.Rows L2
open AutoSeq1 (wpAny_loadPart')
open MeetsSeq MeetsSeq2 MeetsSeq3 SeqRoads2 PySem.SeqAt
section
variable {prog : Program} {w : World} {A : Around} {R : Result → Shared → Prop}
/-- == of two tuples, item by item, whatever the answers -/
theorem tuple_eqGB (l b : Addr) (items items2 : Array Value) (n n2 : Nat) (dd dd2 : Option Addr) (sl sl2 : Array (Option Value)) (e : Nat → Bool) (I : Shared → Prop)
    (turn : ∀ i (h1 : i < items.size) (h2 : i < items2.size) s, I s → wpAny (model prog w) A.in1 (eqBool items[i] items2[i]) (fun r s' => r = e i ∧ I s') (fun e s' => R (.error e) s') s)
    (fin : ∀ s, I s → R (.ok (.ret (.bool ((List.range (min items.size items2.size)).all e && items.size == items2.size)))) s) {s : Shared} (hl1 : s.heap.get? l = some { cls := .type "tuple", dict := dd, data := .seq items n, slots := sl }) (hb1 : s.heap.get? b = some { cls := .type "tuple", dict := dd2, data := .seq items2 n2, slots := sl2 }) (h : I s) :
    wpAny (model prog w) A.in1 (Builtin.«tuple.__eq__» ⟨[.ref l, .ref b], []⟩) (GQ.FinOf prog w A R) (fun e s' => R (.error e) s') s := by
  have f2 := AutoSeq1.sub_tuple_tuple
  have hZ : (items.toList.zip items2.toList).length = min items.size items2.size := by simp
  have h0 := h
  have eAll : ∀ i, i ≤ min items.size items2.size → (∀ j, j < i → e j = true) → ((List.range (min items.size items2.size)).all e) = ((List.range (min items.size items2.size)).drop i).all e := by
    intro i hi hj
    have : (List.range (min items.size items2.size)) = (List.range (min items.size items2.size)).take i ++ (List.range (min items.size items2.size)).drop i := (List.take_append_drop _ _).symm
    conv => lhs; rw [this]
    rw [List.all_append]
    have : ((List.range (min items.size items2.size)).take i).all e = true := by
      rw [List.all_eq_true]
      intro j hm
      rw [List.take_range] at hm
      exact hj j (by have := List.mem_range.mp hm; omega)
    rw [this, Bool.true_and]
  obtain ⟨hp, g, d, tk, os⟩ := s
  wp_walk using wpAny_loadPart' hl1, wpAny_loadPart' hb1, wpAny_forIn_list _ (fun rest b s' => b.1 = none ∧ ∃ i, rest = (items.toList.zip items2.toList).drop i ∧ i ≤ min items.size items2.size ∧ (∀ j, j < i → e j = true) ∧ I s') _
  case turn =>
    rintro ⟨y, x⟩ rest b s' ⟨hb', i, hz, hi, hj, hI⟩
    have hlt : i < (items.toList.zip items2.toList).length := by
      rcases Nat.lt_or_ge i (items.toList.zip items2.toList).length with h' | h'
      · exact h'
      · rw [List.drop_of_length_le h'] at hz; cases hz
    have hm : i < min items.size items2.size := hZ ▸ hlt
    have h1 : i < items.size := Nat.lt_of_lt_of_le hm (Nat.min_le_left _ _)
    have h2 : i < items2.size := Nat.lt_of_lt_of_le hm (Nat.min_le_right _ _)
    rw [List.drop_eq_getElem_cons hlt] at hz
    injection hz with hyx hrest
    have hy : y = items[i] := by have := congrArg Prod.fst hyx; simpa using this
    have hx : x = items2[i] := by have := congrArg Prod.snd hyx; simpa using this
    subst hy hx
    refine wpAny_bind (wpAny_mono (turn i h1 h2 s' hI) (fun r s2 q2 => ?_) fun _ _ x => x)
    obtain ⟨hr, q2⟩ := q2
    have hd : (List.range (min items.size items2.size)).drop i = i :: (List.range (min items.size items2.size)).drop (i + 1) := by simp [List.drop_eq_getElem_cons, hm]
    have hR := fin s2 q2
    rw [eAll i hi hj, hd, List.all_cons, ← hr] at hR
    cases r with
    | true =>
      wp_walk
      exact ⟨rfl, i + 1, hrest, hm, fun j hj' => by
        rcases Nat.lt_or_eq_of_le (Nat.le_of_lt_succ hj') with z | z
        · exact hj j z
        · rw [z]; exact hr.symm, q2⟩
    | false =>
      wp_walk
      first | exact ⟨_, rfl, by simpa using hR⟩ | simpa using hR
  case fin =>
    rintro ⟨b1, b2⟩ s' ⟨hb', i, hz, hi, hj, hI⟩
    simp only at hb'
    subst hb'
    have hge : min items.size items2.size ≤ i := by
      rcases Nat.lt_or_ge i (items.toList.zip items2.toList).length with h' | h'
      · rw [List.drop_eq_getElem_cons h'] at hz; cases hz
      · exact hZ ▸ h'
    have hR := fin s' hI
    rw [eAll i hi hj, List.drop_of_length_le (by simpa using hge)] at hR
    wp_walk
    first | exact ⟨_, rfl, by simpa [Builtin.Tuple.tupleCompareSizes] using hR⟩ | simpa [Builtin.Tuple.tupleCompareSizes] using hR
  case h =>
    exact ⟨rfl, 0, rfl, Nat.zero_le _, fun j hj => absurd hj (Nat.not_lt_zero _), h0⟩
end
section
variable {prog : Program} {w : World} {A : Around} {E : Value → Shared → Prop} {s : Shared}
theorem rc_tupGB {l b : Addr} {items items2 : Array Value} {Q : Value → Shared → Prop} (e : Nat → Bool) (hu : A.units < cLine) (I : Shared → Prop)
    (hl : s.heap.IsTuple l items) (hb : s.heap.IsTuple b items2)
    (turn : ∀ i (h1 : i < items.size) (h2 : i < items2.size) s, I s → wpAny (model prog w) A.in1 (eqBool items[i] items2[i]) (fun r s' => r = e i ∧ I s') E s)
    (fin : ∀ s, I s → Q (.bool ((List.range (min items.size items2.size)).all e && items.size == items2.size)) s) (h : I s) : wpAny (model prog w) A (richCompare .Eq (.ref l) (.ref b)) Q E s := by
  obtain ⟨⟨cls, dd, data, sl⟩, ho, hc, n, hd⟩ := id hl
  obtain ⟨⟨cls2, dd2, data2, sl2⟩, ho2, hc2, n2, hd2⟩ := id hb
  simp only at hc hd hc2 hd2
  subst hc hd hc2 hd2
  refine wpAny_richCompare_same_room (op := .Eq) ⟨_, ho, rfl⟩ ⟨_, ho2, rfl⟩ F.slot_tuple_eq (GQ.call_here F.slot_tuple_eq ⟨_, ho, rfl⟩ F.entry_tuple_eq (F.args_tuple_eq_2 _ _) ?_) hu
  exact tuple_eqGB (R := wants (fun v s' => v ≠ .notImplemented ∧ Q v s') E) l b items items2 n n2 dd dd2 sl sl2 e I turn (fun s' q => ⟨(fun x => nomatch x), fin s' q⟩) ho ho2 h
end

/-! ### != by object.__ne__ over an own __eq__ -/
section
open PySem.W PySem.Calls
variable {prog : Program} {w : World} {A : Around} {E : Value → Shared → Prop} {s : Shared} {K : Frag} {x C L f : Addr} {h₀ : Heap} {m : Str → Option Value} {ox : Obj} {od : Option Obj} {b tb : Value}
theorem ne_bind (self : Value) : bindSpecial (.builtin "object.__ne__") self = pure (.builtin "object.__ne__", [self]) :=
  (Slot.of (T := "object") (name := "__ne__") (owner := "object") (n := "__ne__") (by rw [typeLookup_type, builtinLookup_eq_fast]; kernel_rfl) (by decide +kernel) (by decide +kernel) (by decide +kernel)
    (.inl (by decide +kernel)) (by rw [isSubtype_type]; kernel_rfl)).bind self
theorem ifBound_ne {M : Model} {args : List Value} {Q : Option Value → Shared → Prop} (X : K.In s.heap) (I : InstAt s.heap x ox C od) (hs : findIn K (.ref C) "__ne__" = some (some (.builtin "object.__ne__")))
    (h : wpAny M A (call (.builtin "object.__ne__") (.ref x :: args)) (fun v => Q (some v)) E s) : wpAny M A (callSpecialIfBound? (.ref x) "__ne__" args) Q E s := by
  simp only [callSpecialIfBound?, bindSpecialIfBound?]
  refine wpAny_holding (wpAny_bind (wpAny_bind (wpAny_bind (I.type.here ((looks_findIn X hs).here ?_)))))
  refine wpAny_bind (wpAny_askSetting (wpAny_ite ?_))
  have fin : wpAny M A (call (.builtin "object.__ne__") ([.ref x] ++ args) >>= fun v => pure (some v)) Q E s := wpAny_bind (wpAny_mono h (fun v s' h' => wpAny_pure h') fun _ _ h' => h')
  split
  · refine wpAny_bind ?_
    rw [ne_bind]
    exact wpAny_pure (wpAny_pure (by exact fin))
  · refine wpAny_tryCatch ?_
    refine wpAny_bind ?_
    rw [ne_bind]
    exact wpAny_pure (wpAny_pure (by exact fin))
theorem ne_K {Q : Value → Shared → Prop} (hu : A.units + 1 < cLine) (hu1 : A.in1.units < cLine) (FF : Fr h₀ L s.heap m) (X₀ : K.In h₀) (I : InstAt s.heap x ox C od) (hb : Looks (model prog w) s.heap (typeOf b) tb) (hn : notFirst K C tb = true)
    (hs : findIn K (.ref C) "__ne__" = some (some (.builtin "object.__ne__"))) (he : findIn K (.ref C) "__eq__" = some (some (.ref f))) (hf : isFn K (.ref f) = true) (hm : mroIn K C (.type "object") = some true)
    (h : wpAny (model prog w) A.in1 (call (.ref f) [.ref x, b]) (fun v s' => ∃ r, v = .bool r ∧ Q (.bool (!r)) s') E s) : wpAny (model prog w) A (richCompare .NotEq (.ref x) b) Q E s := by
  have X := X₀.keeps FF.keep
  have one : wpAny (model prog w) A (tryCompare (.ref x) "__ne__" b) (fun r s' => ∃ v, r = some v ∧ Q v s') E s := by
    unfold tryCompare
    refine wpAny_bind (ifBound_ne X I hs ?_)
    refine wpAny_call (codeAny_call_builtin (by decide +kernel) F.cmpEntry_ne ?_)
    refine check_slot F.cmpKind_ne F.cmpSplit_ne (I.type.andThen (looks_mroIn X hm)) (F.cmpArgs_ne _ _) ?_
    unfold Builtin.«object.__ne__»
    refine wpAny_bind (wpAny_of_eq (a := ((Value.ref x : Value), [b])) (by first | rfl | (simp only [slotArgs]; rfl)) ?_)
    refine wpAny_bind (wpAny_cRoomFor hu1 ?_)
    refine wpAny_bind (ifBound_K X I he hf (wpAny_mono h (fun v s' hv => ?_) fun _ _ z => z))
    obtain ⟨r, rfl, q⟩ := hv
    refine wpAny_bind (wpAny_truthy_bool ?_)
    exact wpAny_pure (wpAny_pure ⟨_, rfl, q⟩)
  unfold richCompare
  simp only [oneThing_ref]
  refine wpAny_holding (wpAny_bind (wpAny_cRoomFor (Nat.lt_of_succ_lt hu) ?_))
  refine wpAny_bind (I.type.here (wpAny_bind (hb.here ?_)))
  split
  · rename_i q
    have e : subIn K tb (.ref C) = some false := by
      rcases Bool.or_eq_true_iff.mp hn with e | e
      · rw [beq_iff_eq.mp e] at q; simp at q
      · exact beq_iff_eq.mp e
    refine wpAny_bind ((looks_subIn X e).here ?_)
    simp only [Bool.false_eq_true, if_false]
    refine wpAny_bind (wpAny_mono one (fun r s' z => ?_) fun _ _ e => e)
    obtain ⟨v, rfl, hq⟩ := z
    exact wpAny_pure hq
  · refine wpAny_bind (wpAny_pure ?_)
    simp only [Bool.false_eq_true, if_false]
    refine wpAny_bind (wpAny_mono one (fun r s' z => ?_) fun _ _ e => e)
    obtain ⟨v, rfl, hq⟩ := z
    exact wpAny_pure hq
end
end DL
end T_DE0
section T_DE1
set_option Elab.async false
set_option linter.all false
set_option maxRecDepth 100000
set_option maxHeartbeats 400000
/-! DE1: == over trees with instances of own classes: the function; one object stands for one tree. -/
namespace DL
open PySem PySem.Spec PyProof.Rows L2
/-- what == of a class may be asked with: all fields there; an atom of the class 2 -/
def insOk (c : Nat) (xs : List Tr) : Bool := decide (xs.length = (cfs c).length) && (decide (c ≠ 2) || xs.all fun d => match d with
  | .non => true
  | .int _ => true
  | .str w => PyData.strOk w
  | _ => false)
mutual
/-- a tree without cells, its instances of the classes cl -/
def plT (cl : List Nat) : Tr → Bool
  | .non => true
  | .bl _ => true
  | .int _ => true
  | .str _ => true
  | .lst xs => plTs cl xs
  | .tup xs => plTs cl xs
  | .dct _ xs => plTs cl xs
  | .ins c xs => (decide (c ∈ cl) && insOk c xs) && plTs cl xs
  | _ => false
def plTs (cl : List Nat) : List Tr → Bool
  | [] => true
  | d :: ds => plT cl d && plTs cl ds
end
def allO : List (Option Bool) → Option Bool
  | [] => some true
  | none :: _ => none
  | some b :: r => (allO r).map (b && ·)
def andO : List (Option Bool) → Option Bool
  | [] => some true
  | none :: _ => none
  | some false :: _ => some false
  | some true :: r => andO r
/-- what isinstance can tell of it -/
def tyP : Tr → Option TyG
  | .non => some (.b "NoneType")
  | .bl _ => some (.b "bool")
  | .int _ => some (.b "int")
  | .str _ => some (.b "str")
  | .lst _ => some (.b "list")
  | .tup _ => some (.b "tuple")
  | .dct _ _ => some (.b "dict")
  | .ins c _ => some (.own c)
  | _ => none
theorem tyP_tyG {M : Me} {d : Tr} {g : TyG} (h : tyP d = some g) : tyG M d = some g := by
  cases d <;> first | exact h | exact nomatch h
/-- == by the classes' own __eq__, which compare all fields, one after the other -/
def eqF : Nat → Tr → Tr → Option Bool
  | 0, _, _ => none
  | n + 1, d, e => match pyd d, pyd e with
    | some p, some q => if SeqAt.shaped p && SeqAt.shaped q then some (PyData.eqv p q) else none
    | _, _ => match d, e with
      | .tup xs, .tup ys => (allO (List.zipWith (eqF n) xs ys)).map (· && decide (xs.length = ys.length))
      | .ins c xs, .ins c' ys => if c = c' then (if xs.length = ys.length then andO (List.zipWith (eqF n) xs ys) else none) else some false
      | .ins _ _, e => if (tyP e).isSome then some false else none
      | _, _ => none
theorem allO_true {l : List (Option Bool)} {b : Bool} (h : allO l = some b) (ht : ∀ x ∈ l, ∀ c, x = some c → c = true) : b = true := by
  induction l generalizing b with
  | nil => simpa [allO] using h.symm
  | cons x r ih =>
    cases x with
    | none => simp [allO] at h
    | some c =>
      simp only [allO, Option.map_eq_some_iff] at h
      obtain ⟨b', h1, rfl⟩ := h
      rw [ih h1 (fun y hy => ht y (List.mem_cons_of_mem _ hy)), ht _ (List.mem_cons_self) c rfl]
      rfl
theorem andO_true {l : List (Option Bool)} {b : Bool} (h : andO l = some b) (ht : ∀ x ∈ l, ∀ c, x = some c → c = true) : b = true := by
  induction l generalizing b with
  | nil => simpa [andO] using h.symm
  | cons x r ih =>
    cases x with
    | none => simp [andO] at h
    | some c =>
      have := ht _ (List.mem_cons_self) c rfl
      subst this
      simp only [andO] at h
      exact ih h (fun y hy => ht y (List.mem_cons_of_mem _ hy))
theorem zip_self {α β : Type} {f : α → α → β} {xs : List α} {z : β} (h : z ∈ List.zipWith f xs xs) : ∃ x ∈ xs, z = f x x := by
  induction xs with
  | nil => simp at h
  | cons x r ih =>
    simp only [List.zipWith_cons_cons, List.mem_cons] at h
    rcases h with h | h
    · exact ⟨x, List.mem_cons_self, h⟩
    · obtain ⟨y, hy, e⟩ := ih h
      exact ⟨y, List.mem_cons_of_mem _ hy, e⟩
/-- what is the same is equal -/
theorem eqF_self : ∀ (n : Nat) (d : Tr) (b : Bool), eqF n d d = some b → b = true
  | 0, d, b, h => nomatch h
  | n + 1, d, b, h => by
    unfold eqF at h
    split at h
    · rename_i p q e1 e2
      rw [e1] at e2
      cases e2
      split at h
      · rename_i hs
        cases h
        exact SeqAt.eqv_refl p (SeqAt.canLay_of_shaped (Bool.and_eq_true_iff.mp hs).1)
      · cases h
    · cases d with
      | tup xs =>
        simp only [Option.map_eq_some_iff] at h
        obtain ⟨c, h1, rfl⟩ := h
        rw [allO_true h1 fun x hx c hc => by
          obtain ⟨y, _, e⟩ := zip_self hx
          exact eqF_self n y c (e.symm.trans hc)]
        simp
      | ins c xs =>
        simp only [if_true] at h
        exact andO_true h fun x hx c hc => by
          obtain ⟨y, _, e⟩ := zip_self hx
          exact eqF_self n y c (e.symm.trans hc)
      | _ => simp at h

section
variable {K : PySem.W.Frag} {G : Hp} {cl : List Nat}
theorem vals_inj : ∀ {xs ys : List V} {us : List Value}, Vals xs us → Vals ys us → xs = ys
  | _, _, _, .nil, .nil => rfl
  | _, _, _, .cons r t, .cons r' t' => by
    rw [vals_inj t t']
    congr 1
    exact relV_inj r r'
where
  relV_inj {x y : V} {u : Value} (r : RelV x u) (r' : RelV y u) : x = y := by
    cases x with
    | int i =>
      obtain ⟨t, rfl⟩ := r
      cases y with
      | int j => obtain ⟨t', e⟩ := r'; cases e; rfl
      | str j => obtain ⟨t', e⟩ := r'; cases e
      | byt j => obtain ⟨t', e⟩ := r'; cases e
      | flt j => first | (obtain ⟨t', e⟩ := r'; cases e) | cases r'
      | _ => cases r'
    | str i =>
      obtain ⟨t, rfl⟩ := r
      cases y with
      | int j => obtain ⟨t', e⟩ := r'; cases e
      | str j => obtain ⟨t', e⟩ := r'; cases e; rfl
      | byt j => obtain ⟨t', e⟩ := r'; cases e
      | flt j => first | (obtain ⟨t', e⟩ := r'; cases e) | cases r'
      | _ => cases r'
    | byt i =>
      obtain ⟨t, rfl⟩ := r
      cases y with
      | int j => obtain ⟨t', e⟩ := r'; cases e
      | str j => obtain ⟨t', e⟩ := r'; cases e
      | byt j => obtain ⟨t', e⟩ := r'; cases e; rfl
      | flt j => first | (obtain ⟨t', e⟩ := r'; cases e) | cases r'
      | _ => cases r'
    | flt i =>
      obtain ⟨t, rfl⟩ := r
      cases y with
      | int j => obtain ⟨t', e⟩ := r'; cases e
      | str j => obtain ⟨t', e⟩ := r'; cases e
      | byt j => obtain ⟨t', e⟩ := r'; cases e
      | flt j => obtain ⟨t', e⟩ := r'; cases e; rfl
      | _ => cases r'
    | _ =>
      cases r
      cases y with
      | int j => obtain ⟨t', e⟩ := r'; cases e
      | str j => obtain ⟨t', e⟩ := r'; cases e
      | byt j => obtain ⟨t', e⟩ := r'; cases e
      | flt j => obtain ⟨t', e⟩ := r'; cases e
      | _ => first | (cases r'; rfl) | cases r'
theorem sqT_inj (hK : ∀ a o, K.lookup a = some o → G a = none) {a : Addr} {xs ys : List V} (h : SqT K G a xs) (h' : SqT K G a ys) : xs = ys := by
  rcases h with (h | ⟨o, h⟩) | ⟨o, its, n, hl, _, hd, _, r⟩ <;> rcases h' with (h' | ⟨o', h'⟩) | ⟨o', its', n', hl', _, hd', _, r'⟩
  all_goals first
    | (rw [h] at h'; cases h'; done)
    | (rw [h] at h'; cases h'; rfl)
    | (rw [hK _ _ hl'] at h; cases h)
    | (rw [hK _ _ hl] at h'; cases h')
    | (rw [hl] at hl'; cases hl'; rw [hd] at hd'; cases hd'; exact vals_inj r r')
theorem sqT_ne (hK : ∀ a o, K.lookup a = some o → G a = none) {a : Addr} {xs : List V} {o : HO} (h : SqT K G a xs) (e : G a = some o) : o = .tup xs ∨ ∃ u, o = .frz u (.tup xs) := by
  rcases h with (h | ⟨u, h⟩) | ⟨u, its, n, hl, _⟩
  · rw [e] at h; cases h; exact .inl rfl
  · rw [e] at h; cases h; exact .inr ⟨u, rfl⟩
  · rw [hK _ _ hl] at e; cases e
variable (hK : ∀ a o, K.lookup a = some o → G a = none) (hD : ∀ c ∈ cl, ∀ c' ∈ cl, He.ga K (cnm c) = He.ga K (cnm c') → c = c')
include hK hD
mutual
/-- ONE OBJECT, ONE TREE -/
theorem rep_inj : ∀ (d e : Tr) (v : V), plT cl d = true → plT cl e = true → Rep K ⟨G, []⟩ d v → Rep K ⟨G, []⟩ e v → d = e
  | .non, e, v, _, he, h, h' => by
    simp only [Rep] at h
    subst h
    cases e <;> first | rfl | (simp only [Rep, reduceCtorEq, false_and, exists_false] at h'; done) | simp [plT] at he
  | .bl b, e, v, _, he, h, h' => by
    simp only [Rep] at h
    subst h
    cases e <;> first | (simp only [Rep, reduceCtorEq, false_and, exists_false] at h'; done) | (simp only [Rep] at h'; cases h'; rfl) | simp [plT] at he
  | .int b, e, v, _, he, h, h' => by
    simp only [Rep] at h
    subst h
    cases e <;> first | (simp only [Rep, reduceCtorEq, false_and, exists_false] at h'; done) | (simp only [Rep] at h'; cases h'; rfl) | simp [plT] at he
  | .str b, e, v, _, he, h, h' => by
    simp only [Rep] at h
    subst h
    cases e <;> first | (simp only [Rep, reduceCtorEq, false_and, exists_false] at h'; done) | (simp only [Rep] at h'; cases h'; rfl) | simp [plT] at he
  | .lst xs, e, v, hd, he, h, h' => by
    simp only [Rep] at h
    obtain ⟨a, vs, rfl, g, q⟩ := h
    simp only [plT] at hd
    cases e with
    | lst ys =>
      simp only [Rep] at h'
      obtain ⟨a', vs', e1, g', q'⟩ := h'
      cases e1
      rw [g] at g'
      cases g'
      simp only [plT] at he
      rw [reps_inj xs ys vs hd he q q']
    | tup ys =>
      simp only [Rep] at h'
      obtain ⟨a', vs', e1, g', q'⟩ := h'
      cases e1
      rcases sqT_ne hK g' g with z | ⟨_, z⟩ <;> cases z
    | dct ks ys =>
      simp only [Rep] at h'
      obtain ⟨a', vs', e1, g', q'⟩ := h'
      cases e1
      rw [g] at g'; cases g'
    | ins c ys =>
      simp only [Rep] at h'
      obtain ⟨a', dx, vs', e1, g', q'⟩ := h'
      cases e1
      rw [g] at g'; cases g'
    | _ => first | (simp only [Rep, reduceCtorEq, false_and, exists_false] at h'; done) | simp [plT] at he
  | .tup xs, e, v, hd, he, h, h' => by
    simp only [Rep] at h
    obtain ⟨a, vs, rfl, g, q⟩ := h
    simp only [plT] at hd
    cases e with
    | lst ys =>
      simp only [Rep] at h'
      obtain ⟨a', vs', e1, g', q'⟩ := h'
      cases e1
      rcases sqT_ne hK g g' with z | ⟨_, z⟩ <;> cases z
    | tup ys =>
      simp only [Rep] at h'
      obtain ⟨a', vs', e1, g', q'⟩ := h'
      cases e1
      have := sqT_inj hK g g'
      subst this
      simp only [plT] at he
      rw [reps_inj xs ys vs hd he q q']
    | dct ks ys =>
      simp only [Rep] at h'
      obtain ⟨a', vs', e1, g', q'⟩ := h'
      cases e1
      rcases sqT_ne hK g g' with z | ⟨_, z⟩ <;> cases z
    | ins c ys =>
      simp only [Rep] at h'
      obtain ⟨a', dx, vs', e1, g', q'⟩ := h'
      cases e1
      rcases sqT_ne hK g g' with z | ⟨_, z⟩ <;> cases z
    | _ => first | (simp only [Rep, reduceCtorEq, false_and, exists_false] at h'; done) | simp [plT] at he
  | .dct ks xs, e, v, hd, he, h, h' => by
    simp only [Rep] at h
    obtain ⟨a, vs, rfl, g, hk, q⟩ := h
    simp only [plT] at hd
    cases e with
    | lst ys =>
      simp only [Rep] at h'
      obtain ⟨a', vs', e1, g', q'⟩ := h'
      cases e1
      rw [g] at g'; cases g'
    | tup ys =>
      simp only [Rep] at h'
      obtain ⟨a', vs', e1, g', q'⟩ := h'
      cases e1
      rcases sqT_ne hK g' g with z | ⟨_, z⟩ <;> cases z
    | dct ks' ys =>
      simp only [Rep] at h'
      obtain ⟨a', vs', e1, g', hk', q'⟩ := h'
      cases e1
      rw [g] at g'; cases g'
      simp only [plT] at he
      rw [reps_inj xs ys _ hd he q q', ← hk, ← hk']
    | ins c ys =>
      simp only [Rep] at h'
      obtain ⟨a', dx, vs', e1, g', q'⟩ := h'
      cases e1
      rw [g] at g'; cases g'
    | _ => first | (simp only [Rep, reduceCtorEq, false_and, exists_false] at h'; done) | simp [plT] at he
  | .ins c xs, e, v, hd, he, h, h' => by
    simp only [Rep] at h
    obtain ⟨a, dx, vs, rfl, g, hk, q⟩ := h
    simp only [plT, Bool.and_eq_true, decide_eq_true_eq] at hd
    cases e with
    | lst ys =>
      simp only [Rep] at h'
      obtain ⟨a', vs', e1, g', q'⟩ := h'
      cases e1
      rw [g] at g'; cases g'
    | tup ys =>
      simp only [Rep] at h'
      obtain ⟨a', vs', e1, g', q'⟩ := h'
      cases e1
      rcases sqT_ne hK g' g with z | ⟨_, z⟩ <;> cases z
    | dct ks' ys =>
      simp only [Rep] at h'
      obtain ⟨a', vs', e1, g', hk', q'⟩ := h'
      cases e1
      rw [g] at g'; cases g'
    | ins c' ys =>
      simp only [Rep] at h'
      obtain ⟨a', dx', vs', e1, g', hk', q'⟩ := h'
      cases e1
      rw [g] at g'
      simp only [Option.some.injEq, HO.ins.injEq] at g'
      obtain ⟨g1, _, g3⟩ := g'
      subst g3
      simp only [plT, Bool.and_eq_true, decide_eq_true_eq] at he
      rw [reps_inj xs ys _ hd.2 he.2 q q', hD c hd.1.1 c' he.1.1 g1]
    | _ => first | (simp only [Rep, reduceCtorEq, false_and, exists_false] at h'; done) | simp [plT] at he
  | .cell _, _, _, hd, _, _, _ => by simp [plT] at hd
  | .exc _ _, _, _, hd, _, _, _ => by simp [plT] at hd
  | .scr _, _, _, hd, _, _, _ => by simp [plT] at hd
  | .dkf _ _, _, _, hd, _, _, _ => by simp [plT] at hd
theorem reps_inj : ∀ (ds es : List Tr) (vs : List V), plTs cl ds = true → plTs cl es = true → Reps K ⟨G, []⟩ ds vs → Reps K ⟨G, []⟩ es vs → ds = es
  | [], es, vs, _, _, h, h' => by
    simp only [Reps] at h
    subst h
    cases es with
    | nil => rfl
    | cons x r => simp only [Reps] at h'; obtain ⟨_, _, e, _⟩ := h'; cases e
  | d :: ds, es, vs, hd, he, h, h' => by
    simp only [Reps] at h
    obtain ⟨v, r, rfl, h1, h2⟩ := h
    cases es with
    | nil => simp only [Reps] at h'; cases h'
    | cons x es =>
      simp only [Reps] at h'
      obtain ⟨v', r', e, k1, k2⟩ := h'
      cases e
      simp only [plTs, Bool.and_eq_true] at hd he
      rw [rep_inj d x v hd.1 he.1 h1 k1, reps_inj ds es r hd.2 he.2 h2 k2]
end
end
mutual
theorem plT_below {cl : List Nat} : ∀ (d : Tr), plT cl d = true → below 0 d
  | .non, _ => by simp only [below]
  | .bl _, _ => by simp only [below]
  | .int _, _ => by simp only [below]
  | .str _, _ => by simp only [below]
  | .lst xs, h => by simp only [plT] at h; simp only [below]; exact plTs_below xs h
  | .tup xs, h => by simp only [plT] at h; simp only [below]; exact plTs_below xs h
  | .dct _ xs, h => by simp only [plT] at h; simp only [below]; exact plTs_below xs h
  | .ins _ xs, h => by simp only [plT, Bool.and_eq_true] at h; simp only [below]; exact plTs_below xs h.2
  | .cell _, h => by simp [plT] at h
  | .exc _ _, h => by simp [plT] at h
  | .scr _, h => by simp [plT] at h
  | .dkf _ _, h => by simp [plT] at h
theorem plTs_below {cl : List Nat} : ∀ (ds : List Tr), plTs cl ds = true → belows 0 ds
  | [], _ => by simp only [belows]
  | d :: ds, h => by
    simp only [plTs, Bool.and_eq_true] at h
    simp only [belows]
    exact ⟨plT_below d h.1, plTs_below ds h.2⟩
end
end DL
end T_DE1
section T_DE2
set_option Elab.async false
set_option linter.all false
set_option maxRecDepth 100000
set_option maxHeartbeats 400000
/-! DE2: == and != over trees with instances of own classes, by the promises of the classes' own __eq__. -/
namespace DL
open PySem PySem.Spec PyProof.Rows L2
abbrev lv (m : Nat) : Nat := 2 * m + 12
def sp_eq (oc : List Nat) (m c : Nat) : Sf := ⟨fun ds M Q _ => ∃ xs e b, ds = [.ins c xs, e] ∧ plT oc (.ins c xs) = true ∧ plT oc e = true ∧ eqF (m + 1) (.ins c xs) e = some b ∧ Q (.bl b) M,
  fun h _ ⟨xs, e, b, a1, a2, a3, a4, q⟩ => ⟨xs, e, b, a1, a2, a3, a4, h _ _ q⟩⟩
/-- the own __eq__ of the class c -/
structure EqC (P : Program) (w : World) (K : PySem.W.Frag) (mg : Str → Option Value) (base : Heap) (k c : Nat) (sp : Sf) : Prop where
  ex : ∃ f fd ps, FnOk P w K mg base (L2.CX P w) k f fd ps (liftF K sp 2) ∧ PySem.W.findIn K (.ref (He.ga K (cnm c))) "__eq__" = some (some (.ref f)) ∧ PySem.W.isFn K (.ref f) = true ∧ L2.Binds K fd ps []
structure EqK (K : PySem.W.Frag) (oc : List Nat) : Prop where
  dist : ∀ c ∈ oc, ∀ c' ∈ oc, He.ga K (cnm c) = He.ga K (cnm c') → c = c'
  nf : ∀ c ∈ oc, ∀ g ∈ tags oc, PySem.W.notFirst K (He.ga K (cnm c)) (g.val K) = true
  ne : ∀ c ∈ oc, PySem.W.findIn K (.ref (He.ga K (cnm c))) "__ne__" = some (some (.builtin "object.__ne__"))
def eqKB (oc : List Nat) (K : PySem.W.Frag) : Bool := (oc.all fun c => oc.all fun c' => decide (c = c') || !decide (He.ga K (cnm c) = He.ga K (cnm c'))) && ((oc.all fun c => (tags oc).all fun g => PySem.W.notFirst K (He.ga K (cnm c)) (g.val K)) &&
  oc.all fun c => decide (PySem.W.findIn K (.ref (He.ga K (cnm c))) "__ne__" = some (some (.builtin "object.__ne__"))))
theorem eqKB_ok {oc : List Nat} {K : PySem.W.Frag} (h : eqKB oc K = true) : EqK K oc := by
  simp only [eqKB, Bool.and_eq_true] at h
  obtain ⟨h1, h2, h3⟩ := h
  refine ⟨fun c hc c' hc' e => ?_, fun c hc g hg => List.all_eq_true.mp (List.all_eq_true.mp h2 c hc) g hg, fun c hc => of_decide_eq_true (List.all_eq_true.mp h3 c hc)⟩
  have := List.all_eq_true.mp (List.all_eq_true.mp h1 c hc) c' hc'
  rw [decide_eq_true e, Bool.not_true, Bool.or_false] at this
  exact of_decide_eq_true this
structure EqAll (P : Program) (w : World) (K : PySem.W.Frag) (mg : Str → Option Value) (base : Heap) (oc : List Nat) (n : Nat) : Prop where
  isa : IsaOk K oc
  k : EqK K oc
  cls : ∀ m, m < n → ∀ c ∈ oc, EqC P w K mg base (lv m + 1) c (sp_eq oc m c)
theorem EqAll.mono {P : Program} {w : World} {K : PySem.W.Frag} {mg : Str → Option Value} {base : Heap} {oc : List Nat} {n m : Nat} (F : EqAll P w K mg base oc n) (h : m ≤ n) : EqAll P w K mg base oc m := ⟨F.isa, F.k, fun j hj => F.cls j (by omega)⟩
/-- all that is tracked but the tables stays; the tables are told as before -/
structure Ex (K : PySem.W.Frag) (H H' : Hp) : Prop where
  g : LamX.ExtN H H'
  t : TX K H → TX K H'
theorem Ex.rf {K : PySem.W.Frag} {H : Hp} : Ex K H H := ⟨LamX.ExtN.refl H, fun t => t⟩
theorem Ex.trans {K : PySem.W.Frag} {H H1 H2 : Hp} (a : Ex K H H1) (b : Ex K H1 H2) : Ex K H H2 := ⟨a.g.trans b.g, fun t => b.t (a.t t)⟩
theorem Ex.keep {K : PySem.W.Frag} {H H' : Hp} (x : Ex K H H') {a : Addr} {o : HO} (e : H a = some o) (n : ∀ ps, o ≠ .tbl ps := by nofun) : H' a = some o := x.g a o e n
/-- the frozen part G of H -/
structure Fz (K : PySem.W.Frag) (G H : Hp) : Prop where
  sub : ∀ a o, G a = some o → H a = some o
  nt : ∀ a ps, G a ≠ some (.tbl ps)
  tb : TX K H
theorem Fz.ex {K : PySem.W.Frag} {G H H' : Hp} (f : Fz K G H) (x : Ex K H H') : Fz K G H' := ⟨fun a o e => x.keep (f.sub a o e) (fun ps z => f.nt a ps (by rw [e, z])), f.nt, x.t f.tb⟩
theorem OkH.fz {K : PySem.W.Frag} {S : Gh} {M : Me} {H : Hp} (o : OkH K S M H) : Fz K S.G H := ⟨o.sub, o.tb.nt, o.tb.tabs⟩
theorem Fz.ok {K : PySem.W.Frag} {G H : Hp} (f : Fz K G H) : OkH K ⟨G, []⟩ [] H := ⟨f.sub, rfl, List.nodup_nil, fun k a c e => by simp at e, ⟨f.tb, f.nt⟩⟩
theorem Ex.gr {K : PySem.W.Frag} {S : Gh} {H H' : Hp} (x : Ex K H H') : Gr S H S H' := ⟨Le.refl S, fun _ a b => absurd a b, fun a o e hn _ => x.g a o e hn, fun _ a b => absurd a b⟩
theorem OkH.ex {K : PySem.W.Frag} {S : Gh} {M : Me} {H H' : Hp} (o : OkH K S M H) (x : Ex K H H') : OkH K S M H' := by
  refine ⟨(o.fz.ex x).sub, o.len, o.nd, fun k a c e1 e2 => ?_, ⟨x.t o.tb.tabs, o.tb.nt⟩⟩
  have z := o.cell k a c e1 e2
  cases c with
  | dead => obtain ⟨u, e, w⟩ := z; exact ⟨u, x.keep e w.ntb, w⟩
  | lst xs => obtain ⟨g, vs, e, r⟩ := z; exact ⟨g, vs, x.keep e, r⟩
  | dct ks xs => obtain ⟨g, vs, e, k, r⟩ := z; exact ⟨g, vs, x.keep e, k, r⟩
  | ins c xs => obtain ⟨g, dx, vs, e, k, r⟩ := z; exact ⟨g, dx, vs, x.keep e, k, r⟩
def DF (K : PySem.W.Frag) (oc : List Nat) (n : Nat) (x y : V) (b : Bool) (H : Hp) : Prop := ∃ G d e, Fz K G H ∧ plT oc d = true ∧ plT oc e = true ∧ Rep K ⟨G, []⟩ d x ∧ Rep K ⟨G, []⟩ e y ∧ eqF n d e = some b
theorem tyP_tags {oc : List Nat} {d : Tr} (h : plT oc d = true) : ∃ g, tyP d = some g ∧ g ∈ tags oc := by
  cases d with
  | ins c xs =>
    simp only [plT, Bool.and_eq_true, decide_eq_true_eq] at h
    exact ⟨_, rfl, by simp [tags, h.1.1]⟩
  | cell _ => simp [plT] at h
  | exc _ _ => simp [plT] at h
  | scr _ => simp [plT] at h
  | dkf _ _ => simp [plT] at h
  | _ => exact ⟨_, rfl, by simp [tags]⟩
section
variable {X : Cx} {n : Nat} {oc : List Nat}
/-- an own __eq__ called somewhere below -/
theorem run_eq {A : Around} {pins : List (Addr × Obj)} {s : Shared} {σ : L2.St} {H G : Hp} {c k : Nat} {xs : List Tr} {e : Tr} {a : Addr} {y : V} {v : Value} {b : Bool} {sp : Sf} {f : Addr} {fd : FuncData} {ps : List Str}
    (F : FnOk X.prog X.w X.K X.mg X.base (L2.CX X.prog X.w) k f fd ps (liftF X.K sp 2)) (hb : L2.Binds X.K fd ps []) (sb : Sub X k A) (I : Inv X pins σ H s) (hG : Fz X.K G H) (rd : Rep X.K ⟨G, []⟩ (.ins c xs) (.ref a)) (re : Rep X.K ⟨G, []⟩ e y) (rv : RelV y v)
    (hsp : ∀ Q E, (∀ M, Q (.bl b) M) → sp.f [.ins c xs, e] [] Q E) :
    wpAny (model X.prog X.w) A (call (.ref f) [.ref a, v]) (fun r s' => r = .bool b ∧ ∃ H', Inv X pins σ H' s' ∧ Ex X.K H H') X.xe s := by
  have hq : liftF X.K sp 2 [.ref a, y] H (fun v H' => v = .bl b ∧ Ex X.K H H') (fun _ _ _ => False) := by
    refine ⟨rfl, [.ins c xs, e], [], ⟨G, []⟩, hG.ok, Reps.cons rd (Reps.cons re Reps.nil), hsp _ _ fun M v H' S' l o r => ?_⟩
    simp only [Rep] at r
    exact ⟨r, fun a o e hn => l.keep a o e hn (fun z => nomatch z), fun _ => o.tb.tabs⟩
  have e0 : Env0 X.prog X.w X.K X.mg X.base A X.stack s H := by
    have e := I.env0
    exact ⟨by rw [sb.fr]; exact e.frames, e.mod, e.bs, e.bsz, e.funs, e.frf, e.hok, e.bare⟩
  have hl := F.len _ _ _ _ hq
  have r2 : Vals [V.ref a, y] [Value.ref a, v] := .cons rfl (.cons rv .nil)
  refine wpAny_call (codeAny_mono (F.run A X.stack s H ⟨[.ref a, v], []⟩ [.ref a, v] [.ref a, y] _ _ sb.room e0 (by
    have := hb s [.ref a, v] I.kIn (by simpa using hl)
    simpa using this) r2 hq) fun r s' hq => ?_)
  cases r with
  | error e =>
    obtain ⟨_, _, _, _, _, _, _, _, _, _, _, _, z⟩ := hq
    exact z.elim
  | ok fl =>
    cases fl with
    | ret w =>
      obtain ⟨z, H', I', rz, ez, ex⟩ := I.after hq
      subst ez
      cases rz
      exact ⟨rfl, H', I', ex⟩
    | next => exact False.elim hq
    | brk => exact False.elim hq
    | cont => exact False.elim hq
theorem inst_at {pins : List (Addr × Obj)} {s : Shared} {σ : L2.St} {H : Hp} {a C dx : Addr} {fs : List (Str × V)} (I : Inv X pins σ H s) (ha : H a = some (.ins C dx fs)) : ∃ ox od, PySem.W.InstAt s.heap a ox C od := by
  obtain ⟨mA, J, _⟩ := ins_get I.hok ha
  obtain ⟨od, J, _⟩ := J.look
  exact ⟨_, _, J⟩
theorem rep_ins {K : PySem.W.Frag} {G : Hp} {c : Nat} {xs : List Tr} {x : V} (r : Rep K ⟨G, []⟩ (.ins c xs) x) : ∃ a dx fs, x = .ref a ∧ G a = some (.ins (He.ga K (cnm c)) dx fs) := by
  simp only [Rep] at r
  obtain ⟨a, dx, fs, e, g, _⟩ := r
  exact ⟨a, dx, fs, e, g⟩
/-- an instance with its own ==, beside anything -/
theorem rc_ins (F : EqAll X.prog X.w X.K X.mg X.base oc (n + 1)) {A : Around} {pins : List (Addr × Obj)} {s : Shared} {σ : L2.St} {H G : Hp} {c : Nat} {xs : List Tr} {e : Tr} {x y : V} {u v : Value} {b : Bool} (sb : Sub X (lv n + 1) A) (I : Inv X pins σ H s) (rx : RelV x u) (ry : RelV y v)
    (hG : Fz X.K G H) (hd : plT oc (.ins c xs) = true) (he : plT oc e = true) (rd : Rep X.K ⟨G, []⟩ (.ins c xs) x) (re : Rep X.K ⟨G, []⟩ e y) (h : eqF (n + 1) (.ins c xs) e = some b) :
    wpAny (model X.prog X.w) A (richCompare .Eq u v) (fun r s' => r = .bool b ∧ ∃ H', Inv X pins σ H' s' ∧ Ex X.K H H') X.xe s := by
  obtain ⟨a, dx, fs, rfl, ga⟩ := rep_ins rd
  cases rx
  have hc : c ∈ oc := by
    simp only [plT, Bool.and_eq_true, decide_eq_true_eq] at hd
    exact hd.1.1
  obtain ⟨ox, od, J⟩ := inst_at I (hG.sub _ _ ga)
  obtain ⟨m, hF⟩ := I.fr
  obtain ⟨g, hg1, hg2⟩ := tyP_tags he
  have ty := tyX_of F.isa (hG.ok) re (tyP_tyG hg1) hg2
  obtain ⟨PP, kit, hPP, _⟩ := kit_of I ry ty
  obtain ⟨f, fd, ps, F1, hs, hf, hb⟩ := (F.cls n (Nat.lt_succ_self n) c hc).ex
  refine PySem.W.cmp_K (op := .Eq) (tb := g.val X.K) sb.room.units0 hF I.ok.mod.kin J (kit.ty _ _ I.kIn hPP) (F.k.nf c hc g hg2) hs hf ?_
  refine wpAny_mono (run_eq F1 hb sb I hG rd re ry fun Q E hq => ⟨xs, e, b, rfl, hd, he, h, hq _⟩) (fun r s' q => ?_) fun _ _ z => z
  obtain ⟨rfl, q⟩ := q
  exact ⟨rfl, q⟩
/-- .. and != -/
theorem rn_ins (F : EqAll X.prog X.w X.K X.mg X.base oc (n + 1)) {A : Around} {pins : List (Addr × Obj)} {s : Shared} {σ : L2.St} {H G : Hp} {c : Nat} {xs : List Tr} {e : Tr} {x y : V} {u v : Value} {b : Bool} (sb : Sub X (lv n + 1 + 1) A) (I : Inv X pins σ H s) (rx : RelV x u) (ry : RelV y v)
    (hG : Fz X.K G H) (hd : plT oc (.ins c xs) = true) (he : plT oc e = true) (rd : Rep X.K ⟨G, []⟩ (.ins c xs) x) (re : Rep X.K ⟨G, []⟩ e y) (h : eqF (n + 1) (.ins c xs) e = some b) :
    wpAny (model X.prog X.w) A (richCompare .NotEq u v) (fun r s' => r = .bool (!b) ∧ ∃ H', Inv X pins σ H' s' ∧ Ex X.K H H') X.xe s := by
  obtain ⟨a, dx, fs, rfl, ga⟩ := rep_ins rd
  cases rx
  have hc : c ∈ oc := by
    simp only [plT, Bool.and_eq_true, decide_eq_true_eq] at hd
    exact hd.1.1
  obtain ⟨ox, od, J⟩ := inst_at I (hG.sub _ _ ga)
  obtain ⟨m, hF⟩ := I.fr
  obtain ⟨g, hg1, hg2⟩ := tyP_tags he
  have ty := tyX_of F.isa (hG.ok) re (tyP_tyG hg1) hg2
  obtain ⟨PP, kit, hPP, _⟩ := kit_of I ry ty
  obtain ⟨f, fd, ps, F1, hs, hf, hb⟩ := (F.cls n (Nat.lt_succ_self n) c hc).ex
  refine ne_K (tb := g.val X.K) (by have := sb.room.units; omega) sb.in1.room.units0 hF I.ok.mod.kin J (kit.ty _ _ I.kIn hPP) (F.k.nf c hc g hg2) (F.k.ne c hc) hs hf (F.isa.ins c hc).hm ?_
  refine wpAny_mono (run_eq F1 hb sb.in1 I hG rd re ry fun Q E hq => ⟨xs, e, b, rfl, hd, he, h, hq _⟩) (fun r s' q => ?_) fun _ _ z => z
  obtain ⟨rfl, q⟩ := q
  exact ⟨b, rfl, rfl, q⟩
theorem allO_all : ∀ (l : List (Option Bool)) (b : Bool), allO l = some b → ∃ bs : List Bool, l = bs.map some ∧ b = bs.all id
  | [], b, h => ⟨[], rfl, by simpa [allO] using h.symm⟩
  | none :: r, b, h => by simp [allO] at h
  | some c :: r, b, h => by
    simp only [allO, Option.map_eq_some_iff] at h
    obtain ⟨b', h1, rfl⟩ := h
    obtain ⟨bs, e1, e2⟩ := allO_all r b' h1
    exact ⟨c :: bs, by rw [e1]; rfl, by rw [e2]; rfl⟩
theorem plTs_get {oc : List Nat} : ∀ {xs : List Tr} {i : Nat} {d : Tr}, plTs oc xs = true → xs[i]? = some d → plT oc d = true
  | [], i, d, _, e => by simp at e
  | x :: r, 0, d, h, e => by
    simp only [plTs, Bool.and_eq_true] at h
    simp at e
    subst e
    exact h.1
  | x :: r, i + 1, d, h, e => by
    simp only [plTs, Bool.and_eq_true] at h
    exact plTs_get h.2 (by simpa using e)
/-- == of two tuples, item by item -/
theorem rc_tupN {A : Around} {pins : List (Addr × Obj)} {s : Shared} {σ : L2.St} {H G : Hp} {xs ys : List Tr} {x y : V} {u v : Value} {b : Bool}
    (ih : ∀ (A : Around) (pins : List (Addr × Obj)) (s : Shared) (σ : L2.St) (H : Hp) (x y : V) (u v : Value) (b : Bool), Sub X (lv n) A → Inv X pins σ H s → RelV x u → RelV y v → DF X.K oc n x y b H →
      wpAny (model X.prog X.w) A (eqBool u v) (fun r s' => r = b ∧ ∃ H', Inv X pins σ H' s' ∧ Ex X.K H H') X.xe s)
    (sb : Sub X (lv (n + 1)) A) (I : Inv X pins σ H s) (rx : RelV x u) (ry : RelV y v) (hG : Fz X.K G H) (hd : plT oc (.tup xs) = true) (he : plT oc (.tup ys) = true) (rd : Rep X.K ⟨G, []⟩ (.tup xs) x) (re : Rep X.K ⟨G, []⟩ (.tup ys) y)
    (h : ((allO (List.zipWith (eqF n) xs ys)).map (· && decide (xs.length = ys.length))) = some b) :
    wpAny (model X.prog X.w) A (richCompare .Eq u v) (fun r s' => r = .bool b ∧ ∃ H', Inv X pins σ H' s' ∧ Ex X.K H H') X.xe s := by
  simp only [Option.map_eq_some_iff] at h
  obtain ⟨c, h1, rfl⟩ := h
  simp only [Rep] at rd re
  obtain ⟨a, vs, ea, g1, q1⟩ := rd
  obtain ⟨a', ws, ea', g2, q2⟩ := re
  subst ea
  subst ea'
  cases rx
  cases ry
  simp only [plT] at hd he
  obtain ⟨its, r1, t1, z1⟩ := I.tuple ((hG.ok).sqT g1)
  obtain ⟨its2, r2, t2, z2⟩ := I.tuple ((hG.ok).sqT g2)
  obtain ⟨bs, eb1, eb2⟩ := allO_all _ _ h1
  have l1 : xs.length = its.length := by rw [q1.length, r1.length]
  have l2 : ys.length = its2.length := by rw [q2.length, r2.length]
  have lb : bs.length = min xs.length ys.length := by
    have := congrArg List.length eb1
    simpa using this.symm
  refine rc_tupGB (fun i => bs.getD i false) sb.room.units0 (fun s' => ∃ H', Inv X pins σ H' s' ∧ Ex X.K H H') t1 t2 (fun i h1 h2 s' l => ?_) (fun s' q => ⟨?_, q⟩) ⟨H, I, Ex.rf⟩
  · obtain ⟨H1, I1, e1⟩ := l
    have k1 : i < xs.length := by rw [l1]; simpa using h1
    have k2 : i < ys.length := by rw [l2]; simpa using h2
    have k3 : i < bs.length := by omega
    obtain ⟨vx, hvx, rx'⟩ := q1.get (List.getElem?_eq_getElem k1)
    obtain ⟨vy, hvy, ry'⟩ := q2.get (List.getElem?_eq_getElem k2)
    obtain ⟨ux, hux, rux⟩ := r1.get hvx
    obtain ⟨uy, huy, ruy⟩ := r2.get hvy
    have f1 : its.toArray[i] = ux := by
      have : its[i]? = some its.toArray[i] := by
        have h1' : i < its.length := by simpa using h1
        rw [List.getElem?_eq_getElem h1'] <;> simp
      rw [hux] at this
      exact (Option.some.inj this).symm
    have f2 : its2.toArray[i] = uy := by
      have : its2[i]? = some its2.toArray[i] := by
        have h2' : i < its2.length := by simpa using h2
        rw [List.getElem?_eq_getElem h2'] <;> simp
      rw [huy] at this
      exact (Option.some.inj this).symm
    rw [f1, f2]
    have hz : eqF n xs[i] ys[i] = some bs[i] := by
      have : (List.zipWith (eqF n) xs ys)[i]? = (bs.map some)[i]? := by rw [eb1]
      rw [List.getElem?_zipWith, List.getElem?_eq_getElem k1, List.getElem?_eq_getElem k2, List.getElem?_map, List.getElem?_eq_getElem k3] at this
      simpa using this
    have hgd : bs.getD i false = bs[i] := by rw [List.getD_eq_getElem?_getD, List.getElem?_eq_getElem k3]; rfl
    rw [hgd]
    refine wpAny_mono (ih A.in1 pins s' σ H1 vx vy ux uy bs[i] ((sb.mono (by simp only [lv]; omega : lv n + 1 ≤ lv (n + 1))).in1) I1 rux ruy ⟨G, xs[i], ys[i], hG.ex e1, plTs_get hd (List.getElem?_eq_getElem k1), plTs_get he (List.getElem?_eq_getElem k2), rx', ry', hz⟩) (fun r s2 q => ?_) fun _ _ z => z
    obtain ⟨hr, H2, I2, e2⟩ := q
    exact ⟨hr, H2, I2, e1.trans e2⟩
  · have hsz : (its.toArray.size == its2.toArray.size) = decide (xs.length = ys.length) := by
      rw [List.size_toArray, List.size_toArray, ← l1, ← l2]
      rfl
    have hall : ((List.range (min its.toArray.size its2.toArray.size)).all fun i => bs.getD i false) = bs.all id := by
      rw [List.size_toArray, List.size_toArray, ← l1, ← l2, ← lb]
      have : ∀ l : List Bool, ((List.range l.length).all fun i => l.getD i false) = l.all id := by
        intro l
        induction l with
        | nil => rfl
        | cons z r ih =>
          rw [List.length_cons, List.range_succ_eq_map, List.all_cons, List.all_map]
          simp only [List.getD_cons_zero, List.all_cons, id]
          congr 1
      exact this bs
    rw [hall, hsz, eb2]
/-- == somewhere below: of two items -/
theorem eqB_all : ∀ (n : Nat), EqAll X.prog X.w X.K X.mg X.base oc n → ∀ (A : Around) (pins : List (Addr × Obj)) (s : Shared) (σ : L2.St) (H : Hp) (x y : V) (u v : Value) (b : Bool), Sub X (lv n) A → Inv X pins σ H s → RelV x u → RelV y v → DF X.K oc n x y b H →
    wpAny (model X.prog X.w) A (eqBool u v) (fun r s' => r = b ∧ ∃ H', Inv X pins σ H' s' ∧ Ex X.K H H') X.xe s
  | 0, _, _, _, _, _, _, _, _, _, _, _, _, _, _, _, d => by
    obtain ⟨_, _, _, _, _, _, _, _, h⟩ := d
    exact nomatch h
  | n + 1, F, A, pins, s, σ, H, x, y, u, v, b, sb, I, rx, ry, dd => by
    obtain ⟨G, d, e, hG, hd, he, rd, re, h⟩ := id dd
    have hKn : ∀ a o, X.K.lookup a = some o → G a = none := fun a o q => by
      cases z : G a with
      | none => rfl
      | some o' =>
        have h1 := hG.sub _ _ z
        have h2 := (I.bs a o (I.ok.mod.kin _ _ q)).2
        rw [h2] at h1
        cases h1
    -- the same object
    have self : ∀ a, u = .ref a → v = .ref a → b = true := fun a e1 e2 => by
      subst e1
      subst e2
      have ex : x = .ref a := vals_inj.relV_inj rx (show RelV (.ref a) (.ref a) from rfl)
      have ey : y = .ref a := vals_inj.relV_inj ry (show RelV (.ref a) (.ref a) from rfl)
      rw [ex] at rd
      rw [ey] at re
      have := rep_inj hKn F.k.dist d e _ hd he rd re
      subst this
      exact eqF_self _ _ _ h
    have refs : ∀ a a', x = .ref a → y = .ref a' → (wpAny (model X.prog X.w) A (richCompare .Eq u v) (fun r s' => r = .bool b ∧ ∃ H', Inv X pins σ H' s' ∧ Ex X.K H H') X.xe s) →
        wpAny (model X.prog X.w) A (eqBool u v) (fun r s' => r = b ∧ ∃ H', Inv X pins σ H' s' ∧ Ex X.K H H') X.xe s := fun a a' e1 e2 k => by
      subst e1
      subst e2
      cases rx
      cases ry
      by_cases hab : a = a'
      · subst hab
        rw [self a rfl rfl]
        exact SeqAt.EqAt.same (A := A) (s := s) (.ref a) X.prog X.w X.xe _ ⟨rfl, H, I, Ex.rf⟩
      · refine GQ.eqBool_refG hab (wpAny_mono k (fun r s' q => ?_) fun _ _ z => z)
        obtain ⟨hr, q⟩ := q
        exact ⟨b, hr, rfl, q⟩
    have h0 := h
    unfold eqF at h
    split at h
    · rename_i p q e1 e2
      split at h
      · rename_i hs
        cases h
        obtain ⟨s1, s2⟩ := Bool.and_eq_true_iff.mp hs
        obtain ⟨as, r1⟩ := Dp.reads I p x u (pyd_dp (hG.ok) d x p rd e1) rx
        obtain ⟨bs, r2⟩ := Dp.reads I q y v (pyd_dp (hG.ok) e y q re e2) ry
        exact SeqAt.eqAt_reads p q A s u v as bs r1 r2 (SeqAt.canLay_of_shaped s1) (SeqAt.canLay_of_shaped s2) (SeqAt.room_of_shaped s1 sb.room.units) X.prog X.w X.xe _ ⟨rfl, H, I, Ex.rf⟩
      · cases h
    · cases d with
      | tup xs =>
        cases e with
        | tup ys =>
          have rd0 := rd
          have re0 := re
          simp only [Rep] at rd re
          obtain ⟨a, vs, ea, g1, q1⟩ := rd
          obtain ⟨a', ws, ea', g2, q2⟩ := re
          exact refs a a' ea ea' (rc_tupN (fun A pins s σ H x y u v b => eqB_all n (F.mono (Nat.le_succ n)) A pins s σ H x y u v b) sb I rx ry hG hd he rd0 re0 h)
        | _ => simp at h
      | ins c xs =>
        obtain ⟨a, dx, fs, ea, ga⟩ := rep_ins rd
        have hrc := rc_ins F (sb.mono (by simp only [lv]; omega : lv n + 1 ≤ lv (n + 1))) I rx ry hG hd he rd re h0
        -- what stands on the right is an object or not
        by_cases hr : ∃ a', y = .ref a'
        · obtain ⟨a', ea'⟩ := hr
          exact refs a a' ea ea' hrc
        · subst ea
          cases rx
          have hne : ∀ z : Bool, ((Value.ref a == v) = true) → False := fun _ z => by
            have : Value.ref a = v := eq_of_beq z
            subst this
            exact hr ⟨a, vals_inj.relV_inj ry (show RelV (.ref a) (.ref a) from rfl)⟩
          unfold eqBool
          refine wpAny_holding ?_
          refine wpAny_ite_split (fun hab => (hne true hab).elim) (fun _ => ?_)
          refine wpAny_bind (wpAny_mono hrc (fun r s' q => ?_) fun _ _ z => z)
          obtain ⟨rfl, q⟩ := q
          exact wpAny_truthy_bool ⟨rfl, q⟩
      | _ => simp at h
end

/-! ### the operators -/
/-- d == e, d != e of trees, instances among them (n: how deep) -/
def eqO (oc : List Nat) (n : Nat) : F2 := fun M d e => match eqT M d e with
  | some z => some z
  | none => if plT oc d && plT oc e then (eqF n d e).map Tr.bl else none
def neO (oc : List Nat) (n : Nat) : F2 := fun M d e => match neT M d e with
  | some z => some z
  | none => match d with
    | .ins _ _ => if plT oc d && plT oc e then (eqF n d e).map fun b => Tr.bl (!b) else none
    | _ => none
section
variable {X : Cx} {n : Nat} {oc : List Nat}
theorem rep_flat {K : PySem.W.Frag} {S : Gh} {d : Tr} {v : V} (r : Rep K S d v) (h : plT oc d = true) : Rep K ⟨S.G, []⟩ d v := by
  have := rep_take (n := 0) d v r (plT_below d h)
  rwa [List.take_zero] at this
theorem o_eqO (F : EqAll X.prog X.w X.K X.mg X.base oc n) (hr : Room (lv n) X.A) : OpR X (compareOp .Eq) (rD X.K (eqO oc n)) := by
  intro pins s σ H x y v u Q I rx ry h
  obtain ⟨S, M, d, e, z, o, q1, q2, hz, k⟩ := h
  unfold eqO at hz
  split at hz
  · rename_i z' hz'
    cases hz
    exact o_eq hr.units pins s σ H x y v u Q I rx ry ⟨S, M, d, e, z, o, q1, q2, hz', k⟩
  · split at hz
    · rename_i hc
      obtain ⟨hd, he⟩ := Bool.and_eq_true_iff.mp hc
      simp only [Option.map_eq_some_iff] at hz
      obtain ⟨b, hz, rfl⟩ := hz
      have rd := rep_flat q1 hd
      have re := rep_flat q2 he
      have fin : wpAny (model X.prog X.w) X.A (richCompare .Eq v u) (fun r s' => r = .bool b ∧ ∃ H', Inv X pins σ H' s' ∧ Ex X.K H H') X.xe s → wpAny (model X.prog X.w) X.A (compareOp .Eq v u) (EP X pins σ Q) X.xe s := fun w => by
        show wpAny (model X.prog X.w) X.A (richCompare .Eq v u) (EP X pins σ Q) X.xe s
        refine wpAny_mono w (fun r s' q => ?_) fun _ _ z => z
        obtain ⟨rfl, H', I', ex⟩ := q
        exact ⟨.bl b, H', I', rfl, k _ H' S ex.gr (o.ex ex) rep_bl⟩
      cases n with
      | zero => exact nomatch hz
      | succ n =>
        have h0 := hz
        unfold eqF at hz
        split at hz
        · rename_i p q e1 e2
          split at hz
          · rename_i hs
            cases hz
            obtain ⟨s1, s2⟩ := Bool.and_eq_true_iff.mp hs
            refine op_eqD hr.units pins s σ H x y v u Q I rx ry ⟨p, q, pyd_dp o d x p q1 e1, pyd_dp o e y q q2 e2, s1, s2, k _ H S (Gr.refl S H) o rep_bl⟩
          · cases hz
        · cases d with
          | tup xs =>
            cases e with
            | tup ys =>
              -- by the loop over the items, as somewhere below
              have hh := rc_tupN (fun A pins s σ H x y u v b => eqB_all n (F.mono (Nat.le_succ n)) A pins s σ H x y u v b) ⟨hr, rfl⟩ I rx ry o.fz hd he rd re hz
              exact fin hh
            | _ => simp at hz
          | ins c xs => exact fin (rc_ins F ⟨hr.mono (by simp only [lv]; omega), rfl⟩ I rx ry o.fz hd he rd re h0)
          | _ => simp at hz
    · cases hz
theorem o_neO (F : EqAll X.prog X.w X.K X.mg X.base oc n) (hr : Room (lv n) X.A) : OpR X (compareOp .NotEq) (rD X.K (neO oc n)) := by
  intro pins s σ H x y v u Q I rx ry h
  obtain ⟨S, M, d, e, z, o, q1, q2, hz, k⟩ := h
  unfold neO at hz
  split at hz
  · rename_i z' hz'
    cases hz
    exact o_ne hr.units pins s σ H x y v u Q I rx ry ⟨S, M, d, e, z, o, q1, q2, hz', k⟩
  · split at hz
    · rename_i c xs _
      split at hz
      · rename_i hc
        obtain ⟨hd, he⟩ := Bool.and_eq_true_iff.mp hc
        simp only [Option.map_eq_some_iff] at hz
        obtain ⟨b, hz, rfl⟩ := hz
        have rd := rep_flat q1 hd
        have re := rep_flat q2 he
        cases n with
        | zero => exact nomatch hz
        | succ n =>
          show wpAny (model X.prog X.w) X.A (richCompare .NotEq v u) (EP X pins σ Q) X.xe s
          refine wpAny_mono (rn_ins F ⟨hr.mono (by simp only [lv]; omega), rfl⟩ I rx ry o.fz hd he rd re hz) (fun r s' q => ?_) fun _ _ z => z
          obtain ⟨rfl, H', I', ex⟩ := q
          exact ⟨.bl (!b), H', I', rfl, k _ H' S ex.gr (o.ex ex) rep_bl⟩
      · cases hz
    · cases hz
end
end DL
end T_DE2
section T_DX1
set_option Elab.async false
set_option linter.all false
set_option maxRecDepth 100000
set_option maxHeartbeats 400000
/-! DX1: exceptions over trees: raise of a class without __init__; try: .. except X as n: .., what was caught stays tracked behind the suite. -/
namespace DL
open PySem PySem.Spec PyProof.Rows L2
/-! ### an object that is there already is tracked from now on -/
theorem lay {X : Cx} {pins : List (Addr × Obj)} {σ : L2.St} {H : Hp} {s : Shared} {a : Addr} {o : HO} (I : Inv X pins σ H s) (na : H a = none) (n0 : X.s_0.heap.get? a = none) (nL : a ≠ X.env.locals) (nC : ∀ x c, X.env.cells.lookup x = some c → c ≠ a)
    (nP : ∀ p ∈ X.pn ++ pins, p.1 ≠ a) (new : ObjOk X.prog X.w (upd H a o) s.heap a o) : Inv X pins σ (upd H a o) s where
  ok := I.ok
  os := I.os
  bare := I.bare
  base := by
    have ne : ∀ b u, H b = some u → b ≠ a := fun b u e z => by rw [z, na] at e; cases e
    have u := I.base
    exact ⟨u.keep, u.slot, fun b ob e n hx => by rw [upd_ne (fun z => by rw [z, n0] at e; cases e)]; exact u.free b ob e n hx, u.there,
      fun b xs e => by rw [upd_ne (ne _ _ (u.tups b xs e))]; exact u.tups b xs e, fun b ob v e => by rw [upd_ne (ne _ _ (u.frzs b ob v e))]; exact u.frzs b ob v e,
      fun b ps e => by
        obtain ⟨m, q⟩ := u.tbls b ps e
        exact ⟨m, by rw [upd_ne (ne _ _ q)]; exact q⟩⟩
  loc := I.loc
  cell := I.cell
  free := by rw [upd_ne nL.symm]; exact I.free
  freeC := fun x c e => by rw [upd_ne (nC x c e)]; exact I.freeC x c e
  pin := fun p hp => by
    obtain ⟨h1, h2, h3⟩ := I.pin p hp
    exact ⟨h1, by rw [upd_ne (nP p hp)]; exact h2, h3⟩
  hok := I.hok.laidN (fun _ _ e => e) na new
  len := I.len
theorem exX_ok {P : Program} {w : World} {H : Hp} {h : Heap} {a : Addr} {cls : Value} {dd : Option Addr} {oe : Obj} {vs : Array Value} (e : h.get? a = some oe) (z : Zc cls dd oe) (d : oe.data = .fields vs) : ObjOk P w H h a (ExX cls dd a) :=
  ⟨⟨oe, vs, e, z, d⟩, ⟨oe, e⟩, fun _ _ ⟨o, v, q, r⟩ k => ⟨o, v, k o q, r⟩⟩

/-! ### try: body / except x as n: suite -/
/-- what is wished of an exception of the body: behind the suite it is tracked -/
def wKeep (K : PySem.W.Frag) (c : Value) (i : Nat) (ts : Addr → Value → Option Addr → TS) (Wout : WX) (D : Ends) : WX := fun cls d σ H =>
  ∃ b, PySem.W.exmOne K cls c = some b ∧
    (b = true → ∀ a, H a = none → ts a cls d { nx := fun σ' H' => H' a = none → D.nx (σ'.set i none) (upd H' a (ExX cls d a)), rt := fun _ _ => False } (σ.set i (some (.ref a))) H) ∧ (b = false → Wout cls d σ H)
section
variable {X : Cx} {x n : Str} {c : Value} {i : Nat} {body suite : List Stmt} {b₀ : Stmt} {np pos pos' : Pos} {tb : WX → TS} {ts : Addr → Value → Option Addr → TS} {Wout : WX}
theorem ps_try_keep (hs : X.stack = X.env :: X.outer) (hf : X.env.frame = some X.env.locals) (hex : X.ex = []) (hN : X.N.Nodup) (hi : X.N[i]? = some n) (hln : X.env.kindOf n = some .local) (hc : Names X x c) (tk : Takes X Wout)
    (hb : ∀ (W : WX) (pn : List (Addr × Obj)) (xe : Value → Shared → Prop), Takes (X.tr pn xe) W → PassesOwn (model X.prog X.w) X.A X.env xe → PSs (X.tr pn xe) body (tb W))
    (hsu : ∀ (a : Addr) (oe : Obj) (cls : Value) (d : Option Addr) (pn : List (Addr × Obj)), Zc cls d oe → (∃ vs, oe.data = .fields vs) → PSs (X.suite a ((a, oe) :: pn)) (b₀ :: suite) (ts a cls d)) :
    PS X (.Try body [.ExceptHandler (some (.Name x np)) (some n) (b₀ :: suite) pos'] [] [] pos) (fun D σ H => tb (wKeep X.K c i ts Wout D) D σ H) := by
  refine ⟨fun pins s σ H D I h => ?_⟩
  have ok := I.ok
  have frame0 : X.A.frames = some (X.env :: X.outer) := by rw [ok.frames, hs]
  refine wpAny_Try_except (wpAny_mono ((hb (wKeep X.K c i ts Wout D) (X.pn ++ pins) _ (fun u s' xx => ?_) PassesOwn.looking).run [] s σ H D (I.toTry _) h) (fun f s1 hsp => ?_) (fun e s1 he => he))
  · -- an exception of the body
    obtain ⟨a, B, sI, pins', σ', H', cls, d, rfl, J', nb, up, sky, na, os, ag, b, hb1, hyes, hno⟩ := xx
    have J : Inv X pins σ' H' sI := J'.ofTry ok
    rw [hs] at sky
    show wpAny (model X.prog X.w) X.A (noteFrame (.ref a) X.env) _ _ _
    refine Sky.land Zc.steady frame0 hf sky fun h3 fl3 up3 => ?_
    have J3 : Inv X pins σ' H' { s' with heap := h3 } := J.landed nb fl3.1 (up.trans up3) os ag
    obtain ⟨oe3, vs3, he3, hz3, hd3⟩ := fl3.there
    -- the exception is no frame, and was not there before
    have outFr : a ∉ frs (X.env :: X.outer) := fun hm => by
      obtain ⟨_, o', e', hnf⟩ := fl3.2.2.1.mem hm
      rw [he3] at e'; cases e'
      exact hnf _ hd3
    have nL : a ≠ X.env.locals := fun z => outFr (List.mem_filterMap.mpr ⟨X.env, List.mem_cons_self, by rw [hf, z]⟩)
    have nF : a ∉ X.fs := fun hm => by
      obtain ⟨e, he, q⟩ := List.mem_filterMap.mp hm
      exact outFr (List.mem_filterMap.mpr ⟨e, List.mem_cons_of_mem _ he, q⟩)
    have newI : sI.heap.get? a = none := by
      cases q : sI.heap.get? a with
      | none => rfl
      | some o =>
        have z := nb a o q (by rw [hs]; exact outFr)
        rw [fl3.2.1] at z; cases z
    have new0 : X.s_0.heap.get? a = none := by
      cases q : X.s_0.heap.get? a with
      | none => rfl
      | some o =>
        obtain ⟨o', z⟩ := J.base.there a o q (by rw [hex]; exact fun z => nomatch z)
        rw [newI] at z; cases z
    have nP : ∀ p ∈ X.pn ++ pins, p.1 ≠ a := fun p hp z => by
      have q := (J.pin p hp).1
      rw [z, newI] at q; cases q
    have S3 := J3.suite he3 hd3 na nL nF
    refine wpAny_handleBy_cons (codeAny_handlers_test ?_) (by intro q; cases q)
    have LT : PySem.W.Looks (model X.prog X.w) h3 (typeOf (.ref a)) cls := fun A Q E s k q => wpAny_typeOf_ref (k _ _ he3) (by rw [hz3.1]; exact q)
    have LM := PySem.W.exm_one (M := model X.prog X.w) J3.kIn LT hb1
    have asked : ∀ {Q : Value → Shared → Prop} {E : Value → Shared → Prop}, Q c { s' with heap := h3 } → wpAny (model X.prog X.w) (X.A.mark (some (.ref a))) (eval (.Name x np) X.env) Q E { s' with heap := h3 } := fun {Q E} q => by
      obtain ⟨hg, hdbg, hm | ⟨hm, hv, hnn⟩⟩ := hc
      · exact ld_glob (X := X.suite a ((a, oe3) :: (X.pn ++ pins))) S3 hg hm q hdbg
      · exact ld_blt (X := X.suite a ((a, oe3) :: (X.pn ++ pins))) S3 hg hm hv q hnn hdbg
    refine asked (LM.here ?_)
    cases b with
    | true =>
      refine codeAny_handlers_suite_as (HandSPX.lands_againZ fl3 fun h4 fl4 up4 => ?_)
      have J4 : Inv X pins σ' H' { s' with heap := h4 } := J.landed nb fl4.1 ((up.trans up3).trans up4) os ag
      obtain ⟨oe4, vs4, he4, hz4, hd4⟩ := fl4.there
      refine store_ok (X := X.suite a ((a, oe4) :: (X.pn ++ pins))) (v := .ref a) (J4.suite he4 hd4 na nL nF) hN hi (.inl hln) rfl (fun s5 S5 => ?_) (.inr hln)
      refine wpAny_mono ((hsu a oe4 cls d (X.pn ++ pins) hz4 ⟨_, hd4⟩).run [] s5 _ H' _ S5 (hyes rfl a na)) (fun f s6 hsp => ?_) (fun _ _ z => False.elim z)
      cases f with
      | next =>
        obtain ⟨σ6, H6, S6, q6⟩ := hsp
        -- out of the suite, the exception pinned
        have J6 : Inv X ((a, oe4) :: pins) σ6 H6 s6 := ⟨ok, S6.os, S6.bare, S6.base, S6.loc, S6.cell, S6.free, S6.freeC, fun p hp => S6.pin p (by
          rcases List.mem_append.mp hp with hp | hp
          · exact List.mem_append_left _ (List.mem_cons_of_mem _ (List.mem_append_left _ hp))
          · rcases List.mem_cons.mp hp with hp | hp
            · exact List.mem_append_left _ (by rw [hp]; exact List.mem_cons_self)
            · exact List.mem_append_left _ (List.mem_cons_of_mem _ (List.mem_append_right _ hp))), S6.hok, S6.len⟩
        have n6 : H6 a = none := (J6.pin (a, oe4) (List.mem_append_right _ List.mem_cons_self)).2.1
        refine gone_ok J6 hN hi hln fun s7 J7 => ?_
        have there7 : s7.heap.get? a = some oe4 := (J7.pin (a, oe4) (List.mem_append_right _ List.mem_cons_self)).1
        have J8 : Inv X pins (σ6.set i none) H6 s7 := ⟨ok, J7.os, J7.bare, J7.base, J7.loc, J7.cell, J7.free, J7.freeC, fun p hp => J7.pin p (by
          rcases List.mem_append.mp hp with hp | hp
          · exact List.mem_append_left _ hp
          · exact List.mem_append_right _ (List.mem_cons_of_mem _ hp)), J7.hok, J7.len⟩
        refine ⟨_, _, lay J8 n6 new0 nL (fun y k e z => ?_) nP (exX_ok there7 hz4 hd4), q6 n6⟩
        obtain ⟨v, o, ho, hdc⟩ := J8.cell y k e
        rw [z, there7] at ho
        cases ho
        rw [hd4] at hdc
        cases hdc
      | brk => obtain ⟨_, _, _, q6⟩ := hsp; exact q6.elim
      | cont => obtain ⟨_, _, _, q6⟩ := hsp; exact q6.elim
      | ret u => obtain ⟨_, _, _, _, _, q6⟩ := hsp; exact q6.elim
    | false =>
      -- not of that class: it goes on
      show wpAny _ X.A (handleBy (.ref a) X.env []) _ _ _
      refine wpAny_handleBy_nil ?_
      obtain ⟨_, _, _, oe, vs, T, oT, ts', he, hz, hd, h1, hr⟩ := id fl3
      unfold PySem.passOn
      refine wpAny_bind (wpAny_field he hd h1 ?_)
      rw [if_neg (by simp)]
      have goes : wpAny (model X.prog X.w) X.A (setFlight (.ref a) X.env.frame) (fun _ s4 => wpAny (model X.prog X.w) X.A (throw (.ref a) : Sem Flow) (SP X pins D) X.xe s4) X.xe { s' with heap := h3 } := by
        rw [hf]
        exact HandSPX.setFlight_upZ fl3 fun h4 hh4 up4 => wpAny_throw (tk _ _ ⟨a, B, sI, pins, σ', H', cls, d, rfl, J, nb, (up.trans up3).trans up4, .inr (.inr (by rw [hs]; exact hh4)), na, os, ag, hno rfl⟩)
      first
        | exact wpAny_bind (wpAny_pure (wpAny_bind goes))
        | exact wpAny_bind goes
  · -- none
    cases f with
    | next =>
      obtain ⟨σ', H', J', q⟩ := hsp
      exact wpAny_execs_nil ⟨σ', H', J'.ofTry ok, q⟩
    | brk => obtain ⟨σ', H', J', q⟩ := hsp; exact ⟨σ', H', J'.ofTry ok, q⟩
    | cont => obtain ⟨σ', H', J', q⟩ := hsp; exact ⟨σ', H', J'.ofTry ok, q⟩
    | ret u => obtain ⟨v, σ', H', J', r, q⟩ := hsp; exact ⟨v, σ', H', J'.ofTry ok, r, q⟩
end
end DL
end T_DX1
section T_DX2
set_option Elab.async false
set_option linter.all false
set_option maxRecDepth 100000
set_option maxHeartbeats 400000
/-! DX2: readings of raise, of try .. except .. as, of isinstance of an exception. -/
namespace DL
open PySem PySem.Spec PyProof.Rows L2
/-- an own exception class without __init__, over ValueError -/
structure XcK (K : PySem.W.Frag) (c : Nat) : Prop where
  no : efs c = []
  ex : PySem.W.excIn K (He.ga K (enm c)) [.type "ValueError", .type "Exception", .type "BaseException", .type "object"] "ValueError.__new__" = true
  kp : PySem.W.keepIn K (.ref (He.ga K (enm c))) = true
  sb : PySem.W.subIn K (.ref (He.ga K (enm c))) (.type "BaseException") = some true
  ty : PySem.W.typeIn K (.ref (He.ga K (enm c))) = some (.type "type")
/-- is an exception of the class c one of the class ce (11: the common one) -/
def excSub (c ce : Nat) : Bool := decide (c = ce) || decide (ce = 11)
structure XsK (K : PySem.W.Frag) (ec : List Nat) : Prop where
  sub : ∀ c ∈ ec, ∀ ce ∈ ec, PySem.W.exmOne K (.ref (He.ga K (enm c))) (.ref (He.ga K (enm ce))) = some (excSub c ce)
  kit : ∀ c ∈ ec, ∀ ce ∈ ec, PySem.W.kitOne K (.ref (He.ga K (enm c))) (.ref (He.ga K (enm ce))) = some (excSub c ce)
  cl : ∀ c ∈ ec, ExcC K (He.ga K (enm c))
  lt : ∀ c ∈ ec, c < 1000
def excCB (K : PySem.W.Frag) (D : Addr) : Bool := decide (PySem.W.findIn K (.ref D) "__getattribute__" = some (some (.builtin "BaseException.__getattribute__"))) && (decide (PySem.W.findIn K (.ref D) "__getattr__" = some none) && (decide (PySem.W.subIn K (.ref D) (.type "BaseException") = some true) &&
  (PySem.W.hasDictIn K D && (decide (PySem.W.findIn K (.ref D) "__class__" = some (some (.builtin "object.__class__"))) && (decide (PySem.W.specialIn K (.builtin "object.__class__") "__get__" = some (some (.builtin "getset_descriptor.__get__"))) &&
  (decide (PySem.W.takesIn K (.builtin "object.__class__") = some true) && decide (PySem.W.mroIn K D (.type "object") = some true)))))))
theorem excCB_ok {K : PySem.W.Frag} {D : Addr} (h : excCB K D = true) : ExcC K D := by
  simp only [excCB, Bool.and_eq_true, decide_eq_true_eq] at h
  obtain ⟨a, b, c, d, e, f, g, i⟩ := h
  exact ⟨a, b, c, d, e, f, g, i⟩
def xsB (ec : List Nat) (K : PySem.W.Frag) : Bool := (ec.all fun c => ec.all fun ce => decide (PySem.W.exmOne K (.ref (He.ga K (enm c))) (.ref (He.ga K (enm ce))) = some (excSub c ce)) && decide (PySem.W.kitOne K (.ref (He.ga K (enm c))) (.ref (He.ga K (enm ce))) = some (excSub c ce))) && ec.all fun c => excCB K (He.ga K (enm c)) && decide (c < 1000)
theorem xsB_ok {K : PySem.W.Frag} {ec : List Nat} (h : xsB ec K = true) : XsK K ec := by
  simp only [xsB, Bool.and_eq_true] at h
  obtain ⟨h1, h2⟩ := h
  refine ⟨fun c hc ce hce => ?_, fun c hc ce hce => ?_, fun c hc => excCB_ok (Bool.and_eq_true_iff.mp (List.all_eq_true.mp h2 c hc)).1, fun c hc => of_decide_eq_true (Bool.and_eq_true_iff.mp (List.all_eq_true.mp h2 c hc)).2⟩
  · have := List.all_eq_true.mp (List.all_eq_true.mp h1 c hc) ce hce
    exact of_decide_eq_true (Bool.and_eq_true_iff.mp this).1
  · have := List.all_eq_true.mp (List.all_eq_true.mp h1 c hc) ce hce
    exact of_decide_eq_true (Bool.and_eq_true_iff.mp this).2
def xcB (c : Nat) (K : PySem.W.Frag) : Bool := decide (efs c = []) && (PySem.W.excIn K (He.ga K (enm c)) [.type "ValueError", .type "Exception", .type "BaseException", .type "object"] "ValueError.__new__" && (PySem.W.keepIn K (.ref (He.ga K (enm c))) &&
  (decide (PySem.W.subIn K (.ref (He.ga K (enm c))) (.type "BaseException") = some true) && decide (PySem.W.typeIn K (.ref (He.ga K (enm c))) = some (.type "type")))))
theorem xcB_ok {K : PySem.W.Frag} {c : Nat} (h : xcB c K = true) : XcK K c := by
  simp only [xcB, Bool.and_eq_true, decide_eq_true_eq] at h
  obtain ⟨a, b, d, e, f⟩ := h
  exact ⟨a, b, d, e, f⟩

/-! ### raise -/
def sRaise (c : Nat) : Sr := ⟨fun D ρ M => D.er ρ (.exc c []) M, fun h q => h.er _ _ _ q⟩
section
variable {X : Cx} {W : WX} {pos p p2 pos' : Pos}
theorem pds_raise {x m : Str} {c j : Nat} (hc : X.calm = true) (tk : Takes X W) (T : XcK X.K c) (hx : x = enm c) (gC : X.mg x = some (.ref (He.ga X.K x))) (hg : Gl X x) (hdb : (x == ("__debug__" : Str)) = false := by decide) :
    PDS X W (.Raise (some (.Call (.Name x p) [.Constant (.str m) j p2] [] pos)) none pos') (sRaise c) := by
  subst hx
  refine ps_imp (ps_raise hc tk (pmk_own PySem.F.excBase_ValueError T.ex gC T.kp (raises_own T.sb T.ty) hg hdb)) fun D σ H h => ?_
  obtain ⟨ρ, M, S, F, o, s, e, q⟩ := h
  exact e.er ρ (.exc c []) M S σ H _ none (Gr.refl S H) o s ⟨rfl, .inl ⟨rfl, T.no, rfl⟩⟩ q

/-! ### try: body / except X as n: m = n -/
/-- slot i: the clause's name; slot j: where it is kept -/
def tryF (ec : List Nat) (ce i j : Nat) (D : Fin) : Fin := { D with er := fun ρ' d M' => match d with
  | .exc c ds => c ∈ ec ∧ i < ρ'.length ∧ (if excSub c ce = true then D.nx ((ρ'.set j (some (.exc c ds))).set i none) M' else D.er ρ' d M')
  | _ => False }
theorem tryF_le {ec : List Nat} {ce i j : Nat} {D D' : Fin} (h : Fin.Le D D') : Fin.Le (tryF ec ce i j D) (tryF ec ce i j D') := by
  refine ⟨h.nx, h.rt, h.bk, h.ct, fun ρ d M z => ?_⟩
  cases d with
  | exc c ds =>
    have z' : c ∈ ec ∧ i < ρ.length ∧ (if excSub c ce = true then D.nx ((ρ.set j (some (.exc c ds))).set i none) M else D.er ρ (.exc c ds) M) := z
    obtain ⟨z1, z2, z3⟩ := z'
    refine ⟨z1, z2, ?_⟩
    by_cases hc : excSub c ce = true
    · rw [if_pos hc] at z3 ⊢; exact h.nx _ _ z3
    · rw [if_neg hc] at z3 ⊢; exact h.er _ _ _ z3
  | _ => exact False.elim z
def sTryK (ec : List Nat) (ce i j : Nat) (b : Sr) : Sr := ⟨fun D ρ M => b.f (tryF ec ce i j D) ρ M, fun h q => b.mono (tryF_le h) q⟩
theorem exc_rep {K : PySem.W.Frag} {S : Gh} {M : Me} {H : Hp} {c : Nat} {ds : List Tr} {cls : Value} {dd : Option Addr} {a : Addr} (o : OkH K S M H) (x : Exc K S (.exc c ds) cls dd) (n : H a = none) :
    ∃ S', Gr S H S' (upd H a (ExX cls dd a)) ∧ OkH K S' M (upd H a (ExX cls dd a)) ∧ Rep K S' (.exc c ds) (.ref a) := by
  obtain ⟨o', l⟩ := o.tree (o := ExX cls dd a) n
  obtain ⟨h1, h2⟩ := x
  refine ⟨_, gr_tree l n, o', ?_⟩
  subst h1
  simp only [Rep]
  refine ⟨a, rfl, .inl ⟨dd, upd_same, ?_⟩⟩
  rcases h2 with h2 | ⟨d, fs, e1, e2, e3, e4⟩
  · exact .inl h2
  · exact .inr ⟨d, fs, e1, l.g _ _ e2, e3, Reps.mono l _ _ e4.1, e4.2⟩
/-- what the clause makes of an exception -/
theorem try_er {ec : List Nat} {ce i j : Nat} (T : XsK X.K ec) (hce : ce ∈ ec) (hij : i ≠ j) {S : Gh} {H : Hp} {D : Ends} {F : Fin} (e : EndsOk X.K W S H D F) {ρ1 : En} {d : Tr} {M1 : Me} {S1 : Gh} {σ1 : L2.St} {H1 : Hp} {cls : Value} {dd : Option Addr} (l1 : Gr S H S1 H1) (o1 : OkH X.K S1 M1 H1) (s1 : Slots X.K S1 ρ1 σ1)
    (x1 : Exc X.K S1 d cls dd) (z : (tryF ec ce i j F).er ρ1 d M1) : wKeep X.K (.ref (He.ga X.K (enm ce))) i (fun _ _ _ => fun D σ H => ∃ v, σ[i]? = some (some v) ∧ D.nx (σ.set j (some v)) H) W D cls dd σ1 H1 := by
  cases d with
  | exc c ds =>
    have z' : c ∈ ec ∧ i < ρ1.length ∧ (if excSub c ce = true then F.nx ((ρ1.set j (some (.exc c ds))).set i none) M1 else F.er ρ1 (.exc c ds) M1) := z
    obtain ⟨hc, hi1, z⟩ := z'
    refine ⟨excSub c ce, ?_, fun hb a na => ?_, fun hb => ?_⟩
    · rw [x1.1]; exact T.sub c hc ce hce
    · rw [if_pos hb] at z
      have hiσ : i < σ1.length := by rw [← s1.len]; exact hi1
      refine ⟨.ref a, List.getElem?_set_self hiσ, fun n1 => ?_⟩
      obtain ⟨S2, l2, o2, r2⟩ := exc_rep o1 x1 n1
      have s2 := ((s1.mono l2.le).set (i := j) r2).unset (i := i)
      have e1 : (((σ1.set i (some (V.ref a))).set j (some (V.ref a))).set i none) = (σ1.set j (some (V.ref a))).set i none := by
        rw [List.set_comm _ _ hij, List.set_set]
      rw [e1]
      exact e.nx _ _ _ _ _ (l1.trans l2) o2 s2 z
    · have hb' : ¬ excSub c ce = true := by rw [hb]; exact Bool.false_ne_true
      rw [if_neg hb'] at z
      exact e.er ρ1 _ M1 S1 σ1 H1 cls dd l1 o1 s1 x1 z
  | _ => exact x1.elim
theorem pds_tryK {x n : Str} {ec : List Nat} {ce i j : Nat} {body : List Stmt} {st : Stmt} {np pos' : Pos} {b : Sr} (hs : X.stack = X.env :: X.outer) (hf : X.env.frame = some X.env.locals) (hex : X.ex = []) (hN : X.N.Nodup) (hi : X.N[i]? = some n) (hln : X.env.kindOf n = some .local) (hij : i ≠ j) (T : XsK X.K ec) (hce : ce ∈ ec)
    (hx : x = enm ce) (hg : Gl X x) (gC : X.mg x = some (.ref (He.ga X.K x))) (tk : Takes X W)
    (hb : ∀ (W : WX) (pn : List (Addr × Obj)) (xe : Value → Shared → Prop), Takes (X.tr pn xe) W → PassesOwn (model X.prog X.w) X.A X.env xe → PDSs (X.tr pn xe) W body b)
    (hsu : ∀ (a : Addr) (oe : Obj) (pn : List (Addr × Obj)), PSs (X.suite a ((a, oe) :: pn)) [st] (fun D σ H => ∃ v, σ[i]? = some (some v) ∧ D.nx (σ.set j (some v)) H))
    (hdb : (x == ("__debug__" : Str)) = false := by decide) :
    PDS X W (.Try body [.ExceptHandler (some (.Name x np)) (some n) [st] pos'] [] [] pos) (sTryK ec ce i j b) := by
  subst hx
  refine ps_imp (ps_try_keep (c := .ref (He.ga X.K (enm ce))) (Wout := W) (ts := fun _ _ _ => fun D σ H => ∃ v, σ[i]? = some (some v) ∧ D.nx (σ.set j (some v)) H) (tb := fun W => liftS X.K W b) hs hf hex hN hi hln ⟨hg, hdb, .inl gC⟩ tk hb (fun a oe cls d pn _ _ => hsu a oe pn)) fun D σ H h => ?_
  obtain ⟨ρ, M, S, F, o, s, e, q⟩ := h
  exact ⟨ρ, M, S, tryF ec ce i j F, o, s, ⟨e.nx, e.rt, e.bk, e.ct, fun ρ1 d M1 S1 σ1 H1 cls dd l1 o1 s1 x1 z => try_er T hce hij e l1 o1 s1 x1 z⟩, q⟩
/-- m = n, in the suite -/
theorem suite_keep {a : Addr} {oe : Obj} {pn : List (Addr × Obj)} {i j : Nat} {m n : Str} {q1 q2 q3 : Pos} (hN : X.N.Nodup) (hi : X.N[i]? = some n) (hj : X.N[j]? = some m) (hvi : Vis X.env.scope n) (hlj : X.env.kindOf m = some .local)
    (h1 : (n == ("__debug__" : Str)) = false := by decide) (h2 : (n == ("__classdict__" : Str)) = false := by decide) :
    PSs (X.suite a ((a, oe) :: pn)) [.Assign [.Name m q1] (.Name n q2) q3] (fun D σ H => ∃ v, σ[i]? = some (some v) ∧ D.nx (σ.set j (some v)) H) :=
  pss_one (ps_set (X := X.suite a ((a, oe) :: pn)) (i := j) hN hj (.inl hlj) (pe_var (X := X.suite a ((a, oe) :: pn)) (i := i) hi hvi h1 h2) (hf := .inr hlj))

/-! ### isinstance of a caught exception without own fields -/
def dIsE (ec : List Nat) (ce : Nat) (t : Rd Tr) : Rd Tr := ⟨fun ρ M Q E => t.f ρ M (fun d M1 => match d with
  | .exc c _ => (c ∈ ec ∧ efs c = []) ∧ Q (.bl (excSub c ce)) M1
  | _ => False) E, fun {ρ M Q Q' E E'} h h' q => t.mono (fun d M1 z => by
    split at z
    · exact ⟨z.1, h _ _ z.2⟩
    · exact z.elim) h' q⟩
def rIsX (K : PySem.W.Frag) : List V → Hp → VK → Prop := fun xs H Q => ∃ (a D : Addr) (c : V) (u : Value) (b : Bool), xs = [.ref a, c] ∧ ClsV c u ∧ H a = some (ExX (.ref D) none a) ∧ ExcC K D ∧ PySem.W.kitOne K (.ref D) u = some b ∧ Q (.bl b) H
theorem call_isX : CallR X (.builtin "isinstance") (rIsX X.K) := by
  intro pins s σ H xs us Q I r h
  obtain ⟨a, D, c, u, b, rfl, hcv, ha, C, e, q⟩ := h
  cases r with
  | cons rx rr =>
    cases rr with
    | cons rt rr =>
      cases rr
      cases rx
      have ec := hcv.eq rt
      subst ec
      obtain ⟨⟨oe, vs, hget, hz, hv⟩, _, _⟩ := I.hok a _ ha
      have J : PySem.W.InstAt s.heap a oe D none := by
        obtain ⟨oc, od, oda, osl⟩ := oe
        obtain ⟨h1, h2⟩ := hz
        dsimp only at h1 h2 hv
        subst h1 h2 hv
        exact ⟨hget, rfl, rfl, trivial⟩
      exact PySem.W.kia_one (PySem.W.handS_kitx_exc C.hg C.hk C.hs C.hd C.ha C.hn C.ht C.hm) I.kIn J e (fun z => nomatch z) fun tk => ⟨.bl b, H, I.kept (t' := tk) fun _ _ z => z, rfl, q⟩
theorem pd_isE {x : Str} {ec : List Nat} {ce : Nat} {e : Expr} {t : Rd Tr} {q : Pos} (T : XsK X.K ec) (hce : ce ∈ ec) (hx : x = enm ce) (hg : Gl X "isinstance") (hm : X.mg "isinstance" = none) (hb : bootBuiltins "isinstance" = some (.builtin "isinstance")) (he : PD X W e t) (hgx : Gl X x) (gC : X.mg x = some (.ref (He.ga X.K x)))
    (hdb : (x == ("__debug__" : Str)) = false := by decide)
    (hs : starEach [e, .Name x q] X.env = (false, eval e X.env) :: starEach [.Name x q] X.env := by rfl) (hs2 : starEach [.Name x q] X.env = (false, eval (.Name x q) X.env) :: starEach [] X.env := by rfl) (hpl : (backTo pos (starEach [.Name x q] X.env)).any (·.1) = false := by rfl) :
    PD X W (.Call (.Name "isinstance" p) [e, .Name x q] [] pos) (dIsE ec ce t) := by
  subst hx
  refine pe_imp (pe_callB call_isX hg hm hb (pa_cons he (pa_cons (pe_glob (v := .ref (He.ga X.K (enm ce))) hgx gC rfl hdb) pa_nil hs2) hs) (by decide) (by decide) hs hpl) fun σ H Q h => ?_
  obtain ⟨ρ, M, S, E, ok, s, er, q⟩ := h
  refine ⟨ρ, M, S, E, ok, s, er, t.mono (fun d M1 q1 v H1 S1 l1 o1 r1 => ?_) (fun _ _ z => z) q⟩
  cases d with
  | exc c ds =>
    obtain ⟨⟨hc, hf⟩, q2⟩ := q1
    simp only [Rep] at r1
    obtain ⟨a, rfl, ⟨dd, g, r2⟩ | ⟨c', q', e1, _⟩⟩ := r1
    case inr => exact absurd (T.lt c hc) (by rw [e1]; omega)
    have hdd : dd = none := by
      rcases r2 with ⟨r2, _⟩ | ⟨d, fs, _, _, _, _, r2⟩
      · exact r2
      · exact absurd hf r2
    subst hdd
    exact ⟨a, He.ga X.K (enm c), _, _, excSub c ce, rfl, ClsV.own _, o1.sub _ _ g, T.cl c hc, T.kit c hc ce hce, q2 _ H1 S1 l1 o1 rep_bl⟩
  | _ => exact q1.elim
end
end DL
end T_DX2
section T_DX3
set_option Elab.async false
set_option linter.all false
set_option maxRecDepth 100000
set_option maxHeartbeats 400000
/-! DX3: f(lambda: e), over trees: the def f calls what it got; what is raised there is wished for at f's own slots. -/
namespace DL
open PySem PySem.Spec PyProof.Rows L2 LamX
section
variable {X : Cx} {pins : List (Addr × Obj)} {σ : L2.St} {H : Hp} {s : Shared}
/-- the lambda's call within the def that got it -/
theorem pe_actA {CXg : CXT} {Eg : XK} {Ng : List Str} {qg : Str} {sg : Scope} {g f c' : Addr} {cdg pm ctv : Value} {params : Arguments} {body : Expr} {scope : Scope} {k i : Nat} {a : Str} {pn : List (Addr × Obj)} {xe : Value → Shared → Prop} {W : WX} {tb : XK → TE} {p1 p2 : Pos}
    (I : Inv X pins σ H s) (L : LamS X.env.scope scope) (hf : s.heap.get? f = some (PySem.W.kla_obj "<lambda>" (X.env.qual ++ "<lambda>") params body scope (cloFrom X.env.cells scope.names []) pm c' ctv)) (hfn : H f = none) (hfr : f ∉ frs X.stack)
    (hbind : bindArgs (PySem.W.kla_fn "<lambda>" (X.env.qual ++ "<lambda>") params body scope (cloFrom X.env.cells scope.names []) pm (.ref c') ctv) ⟨[], []⟩ = pure [])
    (tk : Takes ((cxOf CXg X.prog X.w X.K X.mg X.base Ng qg sg g cdg X.A X.stack s H Eg).tr pn xe) W) (hr : Room (k + 1) (X.A.deeper (envOfC qg sg s.heap.objs.size g cdg)))
    (hbody : ∀ (E : XK) (A : Around) (outer : List Env) (s : Shared) (H : Hp), Room k (A.deeper (lamEnv X scope s.heap.objs.size f c')) → PE (lamCx X A outer s H E scope f c') body (tb E))
    (hN : Ng[i]? = some a) (hv : Vis sg a) (hd : (a == ("__debug__" : Str)) = false := by decide) (hcd : (a == ("__classdict__" : Str)) = false := by decide) :
    PE ((cxOf CXg X.prog X.w X.K X.mg X.base Ng qg sg g cdg X.A X.stack s H Eg).tr pn xe) (.Call (.Name a p1) [] [] p2)
      (fun σZ HZ Q => σZ[i]? = some (some (.ref f)) ∧ HZ c' = some (CodeO c' (X.env.qual ++ "<lambda>")) ∧ tb (WE W σZ) σ HZ Q) := by
  refine ⟨fun pinsZ sZ σZ HZ Q IZ ⟨hs, hc, ht⟩ => ?_⟩
  refine wpAny_Call_Name_kw (thn ((pe_var (pos := p1) (i := i) hN hv hd hcd).run pinsZ sZ σZ HZ (fun v H1 => v = .ref f ∧ H1 = HZ) IZ ⟨.ref f, hs, rfl, rfl⟩) fun u s1 ⟨v, H1, I1, r1, ev, eH⟩ => ?_)
  subst ev eH
  obtain rfl : u = Value.ref f := r1
  -- the function object stands as it was made
  have of1 := I1.base.keep f _ hf hfn hfr (fun z => nomatch (show f ∈ ([] : List Addr) from z))
  refine PySem.W.callWith_F0 ⟨_, _, _, _, of1⟩ ?_
  have un : Un (frs X.stack) [] H H1 s.heap s1.heap := I1.base
  obtain ⟨⟨oc, vs, t, hoc, hdc, hvc⟩, _, _⟩ := I1.hok c' _ hc
  refine wpAny_call (codeAny_mono (show codeAny (model X.prog X.w) (X.A.deeper (envOfC qg sg s.heap.objs.size g cdg)) (.call (.ref f) ⟨[], []⟩) (CR (L2.CX X.prog X.w) (envOfC qg sg s.heap.objs.size g cdg :: X.stack) X.prog X.w H1 s1 Q (WE W σZ)) s1 from ?_) fun r s' hq => ?_)
  · refine PySem.W.kla_callFunE hr.depth of1 rfl L.co L.gen rfl ⟨c', oc, vs, t, rfl, hoc, hdc, hvc⟩ ?_
    rw [hbind]
    refine wpAny_pure (wpAny_newFunctionEnv (fun y hy => (L.own y hy).2) (fun y hy => absurd hy (by simp)) (fun h₁ hns hsb => ⟨I1.nolimit.fresh _ hsb, ?_⟩) L.kind)
    have kp : ∀ b o, s1.heap.get? b = some o → h₁.get? b = some o := fun b o e => hsb.extBut b o (Nat.ne_of_lt (Heap.lt_size e)) (Heap.get?_push_of_some _ e)
    have J := lam_start2 (E := WE W σZ) (tk := s1.toks + ([] : List (Str × Value)).length) (f := f) (c' := c') I L I1.env0 hr.hd un hns kp
    refine PySem.W.kla_codeExpr (wpAny_mono ((hbody (WE W σZ) _ _ s1 H1 (hr.deeper _)).run [] _ _ H1 Q J ht) (fun v s' hq => ?_) fun e s' hq => hq)
    obtain ⟨w', H', J', rv, q⟩ := hq
    exact ⟨w', H', J'.os, J'.bare, J'.base, J'.hok, rv, q⟩
  · match r, hq with
    | .error e, hq => exact passAt tk σZ pinsZ H1 s1 e s' I1 hq
    | .ok (.ret u), hq => exact I1.after hq
end

/-! ### thunks -/
/-- what a call of the lambda asks: memory, wanted end, wanted error -/
structure Th where
  f : Me → TK → TK → Prop
  mono : ∀ {M : Me} {Q Q' E E' : TK}, (∀ d M, Q d M → Q' d M) → (∀ d M, E d M → E' d M) → f M Q E → f M Q' E'
abbrev thk (a c' : Nat) (q : Str) : Tr := .exc (1000 + a) [.int (c' : Int), .str q]
/-- a(), the i-th slot the lambda at a -/
def dAct (i a c' : Nat) (q : Str) (th : Th) : Rd Tr := ⟨fun ρ M Q E => ρ[i]? = some (some (thk a c' q)) ∧ th.f M Q E, fun h h' z => ⟨z.1, th.mono h h' z.2⟩⟩
/-- the lambda's body at the caller's slots -/
def thOf (t : Rd Tr) (ρ : En) : Th := ⟨fun M Q E => t.f ρ M Q E, fun h h' z => t.mono h h' z⟩
/-- what a def with a lambda as its one argument promises (it lets nothing out) -/
structure Sl where
  f : Th → Me → TK → Prop
  mono : ∀ {th : Th} {M : Me} {Q Q' : TK}, (∀ d M, Q d M → Q' d M) → f th M Q → f th M Q'
/-- f(lambda: body) -/
def dLam (sp : Sl) (t : Rd Tr) : Rd Tr := ⟨fun ρ M Q _ => sp.f (thOf t ρ) M Q, fun h _ z => sp.mono h z⟩
end DL
end T_DX3
section T_DX4
set_option Elab.async false
set_option linter.all false
set_option maxRecDepth 100000
set_option maxHeartbeats 400000
/-! DX4: f(lambda: e) over trees. -/
namespace DL
open PySem PySem.Spec PyProof.Rows L2 LamX
section
variable {K : PySem.W.Frag} {S : Gh} {M : Me} {H H1 : Hp}
/-- the code object at c' is known from now on -/
theorem OkH.code (o : OkH K S M H) {c' : Addr} {q : Str} (e : ExtN H H1) (t : Tabs (TBs K) H1) (hc : H1 c' = some (CodeO c' q)) :
    ∃ S1, Gr S H S1 H1 ∧ OkH K S1 M H1 ∧ S1.G c' = some (CodeO c' q) ∧ S1.C = S.C := by
  have nd : ∀ a o', S.G a = some o' → H1 a = some o' := fun a o' z => e a o' (o.sub a o' z) (fun ps y => o.tb.nt a ps (by rw [z, y]))
  have nC : c' ∉ S.C := fun z => by
    obtain ⟨k, hk⟩ := List.mem_iff_getElem?.mp z
    have hk2 : k < M.length := by rw [← o.len]; exact (List.getElem?_eq_some_iff.mp hk).1
    obtain ⟨o1, e1, x1⟩ := (o.cell k c' M[k] hk (by simp [hk2])).obj
    have := e c' o1 e1 x1.ntb
    rw [hc] at this
    cases this
    exact x1
  have cells : ∀ a c, CeAt K S H a c → CeAt K S H1 a c := fun a c z => by
    cases c with
    | dead => obtain ⟨u, e1, x⟩ := z; exact ⟨u, e a u e1 x.ntb, x⟩
    | lst xs => obtain ⟨g, vs, e1, r⟩ := z; exact ⟨g, vs, e a _ e1 (by nofun), r⟩
    | dct ks xs => obtain ⟨g, vs, e1, k, r⟩ := z; exact ⟨g, vs, e a _ e1 (by nofun), k, r⟩
    | ins c xs => obtain ⟨g, dx, vs, e1, k, r⟩ := z; exact ⟨g, dx, vs, e a _ e1 (by nofun), k, r⟩
  have o1 : OkH K S M H1 := ⟨nd, o.len, o.nd, fun k a c e1 e2 => cells a c (o.cell k a c e1 e2), ⟨t, o.tb.nt⟩⟩
  have g1 : Gr S H S H1 := ⟨Le.refl S, fun _ a b => absurd a b, fun a u e1 hn _ => e a u e1 hn, fun _ a b => absurd a b⟩
  cases hg : S.G c' with
  | some u =>
    have h2 := nd c' u hg
    rw [hc] at h2
    cases h2
    exact ⟨S, g1, o1, hg, rfl⟩
  | none =>
    obtain ⟨o2, l2⟩ := o1.take' (p := c') hg nC hc (codeO_ne)
    refine ⟨⟨upd S.G c' (CodeO c' q), S.C⟩, ⟨g1.le.trans l2, fun a h1 h2 => absurd h1 h2, g1.keep, fun a h1 h2 => ?_⟩, o2, upd_same, rfl⟩
    have := upd_none h1 h2
    subst this
    refine .inl fun u z x => ?_
    have := e a u z x.ntb
    rw [hc] at this
    cases this
    exact x
end
/-- what the lambda's code object and the caller's table must say -/
structure LamOk (X : Cx) : Prop where
  ex : ∃ c P, TabB X.base X.mg c P ∧ X.env.code = .ref c ∧ (P, X.env.qual ++ "<lambda>") ∈ TBs X.K ∧ ∀ p ∈ TBs X.K, p.1 = P → p.2 = X.env.qual ++ "<lambda>"
/-- where the call's value is kept, if it is -/
def aftV (jr : Option Nat) (σ : L2.St) (v : V) : L2.St := match jr with
  | some j => σ.set j (some v)
  | none => σ
def sAft (jr : Option Nat) (w : Rd Tr) : Sr := match jr with
  | some j => sAsg (.nm j) w
  | none => sDrop w
/-- s1; try: [x =] a() / except C as n: m = n; rest -/
def sThr (r1 r3 : Sr) (ec : List Nat) (ce i j : Nat) (jr : Option Nat) (w : Rd Tr) : Sr := sSeq r1 (sSeq (sTryK ec ce i j (sAft jr w)) r3)
/-- the def x of the module, whose one parameter is a lambda that it calls within a try -/
structure FnT (P : Program) (w : World) (K : PySem.W.Frag) (mg : Str → Option Value) (base : Heap) (x : Str) (k : Nat) (Ng : List Str) (ec : List Nat) (ce i j : Nat) (jr : Option Nat) (r1 r3 : Sr) : Prop where
  ex : ∃ (g : Addr) (oc : Value) (od : Option Addr) (osl : Array (Option Value)) (pg : Arguments) (s1 st : Stmt) (rest : List Stmt) (sg : Scope) (dV kV doc pm cdv ct : Value) (an : Option Addr) (a : Str),
    mg x = some (.ref g) ∧ PySem.W.keepIn K (.ref g) = true ∧ K.lookup g = some ⟨oc, od, .func (PySem.W.fnOf x x pg (s1 :: st :: rest) sg dV kV doc pm an cdv ct), osl⟩ ∧ PySem.W.codeIn K cdv x = true ∧
    L2.Binds K (PySem.W.fnOf x x pg (s1 :: st :: rest) sg dV kV doc pm an cdv ct) [a] [] ∧ FnScope Ng [a] sg ∧ Ng[0]? = some a ∧ Vis sg a ∧ (a == ("__debug__" : Str)) = false ∧ (a == ("__classdict__" : Str)) = false ∧
    ∀ (A : Around) (outer : List Env) (s : Shared) (H : Hp) (E : XK), Room k (A.deeper (envOfC x sg s.heap.objs.size g cdv)) →
      PDS (BX P w K mg base Ng x sg g cdv A outer s H E) (WB E) s1 r1 ∧ (rest ≠ [] ∧ PDSs (BX P w K mg base Ng x sg g cdv A outer s H E) (WB E) rest r3) ∧
      ∀ tl : WX → TE, (∀ (W : WX) (pn : List (Addr × Obj)) (xe : Value → Shared → Prop) (p1 p2 : Pos), Takes ((BX P w K mg base Ng x sg g cdv A outer s H E).tr pn xe) W → PE ((BX P w K mg base Ng x sg g cdv A outer s H E).tr pn xe) (.Call (.Name a p1) [] [] p2) (tl W)) →
        PS (BX P w K mg base Ng x sg g cdv A outer s H E) st (fun D σ H => tl (wKeep K (.ref (He.ga K (enm ce))) i (fun _ _ _ => fun D σ H => ∃ v, σ[i]? = some (some v) ∧ D.nx (σ.set j (some v)) H) (WB E) D) σ H fun v H' => D.nx (aftV jr σ v) H')
theorem efs_big {c : Nat} (h : 1000 ≤ c) : efs c = [] := by
  unfold efs
  rw [List.getD_eq_getElem?_getD, List.getElem?_eq_none (by simp only [etab, List.length_cons, List.length_nil]; omega)]
  rfl
/-- the lambda at f, in whatever ghost its tree is told -/
theorem thk_rep {K : PySem.W.Frag} {S : Gh} {f c' : Nat} {q : Str} {v : V} (r : Rep K S (thk f c' q) v) : v = .ref f ∧ S.G c' = some (CodeO c' q) := by
  simp only [Rep] at r
  obtain ⟨a, rfl, ⟨dd, _, ⟨_, _, z⟩ | ⟨_, _, _, _, _, _, z⟩⟩ | ⟨c2, q2, e1, e2, e3⟩⟩ := r
  · cases z
  · exact absurd (efs_big (by omega)) z
  · have ha : a = f := (Nat.add_left_cancel e1).symm
    simp only [List.cons.injEq, Tr.int.injEq, Tr.str.injEq, and_true] at e2
    have hc : c2 = c' := by omega
    obtain ⟨_, rfl⟩ := e2
    subst ha hc
    exact ⟨rfl, e3⟩
section
variable {X : Cx} {W : WX} {x : Str} {k : Nat} {sp : Sl} {p pos lpos : Pos} {params : Arguments} {body : Expr} {scope : Scope} {t : Rd Tr} {Ng : List Str} {ec : List Nat} {ce i j : Nat} {jr : Option Nat} {r1 r3 : Sr}
/-- x(lambda: body) -/
theorem pd_lam (F : FnT X.prog X.w X.K X.mg X.base x (k + 1) Ng ec ce i j jr r1 r3) (hij : i ≠ j) (T : XsK X.K ec) (hce : ce ∈ ec) (pure_ : ∀ (f c' : Nat) (q : Str) (th : Th) (M : Me) (Q E' : TK), sp.f th M Q → (sThr r1 r3 ec ce i j jr (dAct 0 f c' q th)).f (finF M.length Q E') (startE Ng [thk f c' q]) M)
    (hr : Room (k + 2) X.A) (hg : Gl X x) (B : LamOk X) (L : LamS X.env.scope scope) (hdef : defaultsOf params X.env = ([], []))
    (hbind : ∀ (q : Str) (cl : List (Str × Addr)) (pm cv ctv : Value), bindArgs (PySem.W.kla_fn "<lambda>" q params body scope cl pm cv ctv) ⟨[], []⟩ = pure [])
    (hbody : ∀ (A : Around) (outer : List Env) (s : Shared) (H : Hp) (E : XK) (f c' : Addr), Room k (A.deeper (lamEnv X scope s.heap.objs.size f c')) → PD (lamCx X A outer s H E scope f c') (WB E) body t)
    (hdb : (x == ("__debug__" : Str)) = false := by decide) : PD X W (.Call (.Name x p) [.Lambda params body scope lpos] [] pos) (dLam sp t) := by
  obtain ⟨g, oc, od, osl, pg, s1, st, rest, sg, dV, kV, doc, pm, cdv, ct, an, a, hm, hk, lk, hcg, hb, Sg, hNg, hva, ha1, ha2, hF⟩ := F.ex
  obtain ⟨c, P, TB, hcode, hmT, hu⟩ := B.ex
  refine ⟨fun pins s σ H Q I h => ?_⟩
  obtain ⟨ρ, M, S, Er, o, sl, er, q⟩ := h
  obtain ⟨QT, hQT, q⟩ : ∃ QT : TK, (∀ d M', QT d M' → ∀ v H' S', Gr S H S' H' → OkH X.K S' M' H' → Rep X.K S' d v → Q v H') ∧ sp.f (thOf t ρ) M QT := ⟨_, fun _ _ z => z, q⟩
  refine wpAny_Call_Name_kw (ld_glob I hg hm ?_ hdb)
  refine PySem.W.callWith_K (h₀ := X.base) I.ok.mod.kin hk ?_ (by rfl) (by rfl)
  show wpAny _ _ (spliced ((false, eval (.Lambda params body scope lpos) X.env) :: backTo pos (starEach [] X.env))) _ _ s
  refine Calls.spliced_cons (lam_make2 I TB hcode hmT hu o.tb.tabs hdef (L.has I.ok) fun f c' pm' ctv H1 s' I1 eN T1 hf hfn hfr hco => ?_)
  refine Calls.spliced_nil ⟨I1.kIn, ?_⟩
  obtain ⟨S1, l1, o1, gc, hC1⟩ := o.code eN T1 hco
  have sl1 := sl.mono l1.le
  -- the def's own course
  have rc : codeAny (model X.prog X.w) X.A (.call (.ref g) ⟨[.ref f], []⟩) (CR (L2.CX X.prog X.w) X.stack X.prog X.w H1 s' Q fun _ _ _ => False) s' := by
    refine run_ofS (k := k + 1) (N := Ng) (ps := [a]) (us := [.ref f]) (vs := [.ref f]) lk hcg Sg hr I1.env0 (hb s' [.ref f] I1.kIn rfl) (.cons rfl .nil) rfl fun hr' => ?_
    obtain ⟨h1, ⟨hne, h3⟩, h2⟩ := hF X.A X.stack s' H1 (fun _ _ _ => False) hr'
    have h2' := h2 (fun W' => fun σZ HZ Q2 => σZ[0]? = some (some (.ref f)) ∧ HZ c' = some (CodeO c' (X.env.qual ++ "<lambda>")) ∧ liftE X.K (WB (WE W' σZ)) t σ HZ Q2) fun W' pn xe p1 p2 tk =>
      pe_actA (tb := fun E => liftE X.K (WB E) t) (i := 0) I1 L hf hfn hfr (hbind _ _ _ _ _) tk hr' (fun E A outer s H hr2 => hbody A outer s H E f c' hr2) hNg hva ha1 ha2
    obtain ⟨st0, rest0, rfl⟩ : ∃ a b, rest = a :: b := by
      cases rest with
      | nil => exact absurd rfl hne
      | cons a b => exact ⟨a, b, rfl⟩
    refine ⟨_, pss_cons h1 (pss_cons h2' h3), ?_⟩
    -- the promise, unrolled
    have q0 := pure_ f c' (X.env.qual ++ "<lambda>") (thOf t ρ) M QT (fun _ _ => False) q
    have sl0 : Slots X.K S1 (startE Ng [thk f c' (X.env.qual ++ "<lambda>")]) (L2.start Ng [.ref f]) := slots_start (Reps.cons (by simp only [Rep]; exact ⟨f, rfl, .inr ⟨c', _, rfl, rfl, gc⟩⟩) Reps.nil)
    have en0 : EndsOk X.K (WB fun _ _ _ => False) S1 H1 { nx := fun _ H' => Q .non H', rt := Q } (finF M.length QT fun _ _ => False) := by
      refine ⟨?_, ?_, fun _ _ _ _ _ _ _ _ z => z.elim, fun _ _ _ _ _ _ _ _ z => z.elim, ?_⟩
      · intro ρ' M' S' σ' H' l o' s2 q3
        rcases q3 with q3 | ⟨n, hn, hd, q3⟩
        · exact hQT _ _ q3 .non H' S' (l1.trans l) o' rep_non
        · obtain ⟨l2, o2⟩ := drop_ok hn o1.len l o' hd
          exact hQT _ _ q3 .non H' _ (l1.trans l2) o2 rep_non
      · intro d M' S' v H' l o' r' q3
        rcases q3 with q3 | ⟨n, hn, hd, q3⟩
        · exact hQT _ _ q3 v H' S' (l1.trans l) o' r'
        · obtain ⟨l2, o2⟩ := drop_ok hn o1.len l o' hd
          exact hQT _ _ q3 v H' _ (l1.trans l2) o2 (rep_take _ _ r' hd.1)
      · intro ρ' d M' S' σ' H' cls dd l o' s2 x1 q3
        rcases q3 with q3 | ⟨n, hn, hd, q3⟩
        · exact q3.elim
        · exact q3.elim
    refine ⟨startE Ng [thk f c' (X.env.qual ++ "<lambda>")], M, S1, { finF M.length QT (fun _ _ => False) with nx := (sSeq (sTryK ec ce i j (sAft jr (dAct 0 f c' (X.env.qual ++ "<lambda>") (thOf t ρ)))) r3).f (finF M.length QT fun _ _ => False) }, o1, sl0, ⟨?_, en0.rt, en0.bk, en0.ct, en0.er⟩, q0⟩
    intro ρ2 M2 S2 σ2 H2 l2 o2 s2 z
    have en2 := (en0.nxt (u := r3)).mono l2
    have z' : (sAft jr (dAct 0 f c' (X.env.qual ++ "<lambda>") (thOf t ρ))).f (tryF ec ce i j { finF M.length QT (fun _ _ => False) with nx := r3.f (finF M.length QT fun _ _ => False) }) ρ2 M2 := z
    have main : ∀ (aft : Tr → Me → Prop), ρ2[0]? = some (some (thk f c' (X.env.qual ++ "<lambda>"))) ∧ t.f ρ M2 aft (fun d M' => (tryF ec ce i j { finF M.length QT (fun _ _ => False) with nx := r3.f (finF M.length QT fun _ _ => False) }).er ρ2 d M') →
        (∀ d M3 v H3 S3, aft d M3 → Gr S2 H2 S3 H3 → OkH X.K S3 M3 H3 → Rep X.K S3 d v → liftS X.K (WB fun _ _ _ => False) r3 { nx := fun _ H' => Q .non H', rt := Q } (aftV jr σ2 v) H3) →
        σ2[0]? = some (some (.ref f)) ∧ H2 c' = some (CodeO c' (X.env.qual ++ "<lambda>")) ∧ liftE X.K (WB (WE (wKeep X.K (.ref (He.ga X.K (enm ce))) i (fun _ _ _ => fun D σ H => ∃ v, σ[i]? = some (some v) ∧ D.nx (σ.set j (some v)) H) (WB fun _ _ _ => False) { nx := liftS X.K (WB fun _ _ _ => False) r3 { nx := fun _ H' => Q .non H', rt := Q }, rt := Q }) σ2)) t σ H2
          fun v H' => liftS X.K (WB fun _ _ _ => False) r3 { nx := fun _ H' => Q .non H', rt := Q } (aftV jr σ2 v) H' := by
      rintro aft ⟨z1, z2⟩ hk
      obtain ⟨v0, e0, r0⟩ := s2.at_ 0 _ z1
      obtain ⟨rfl, g0⟩ := thk_rep r0
      refine ⟨e0, o2.sub _ _ g0, ρ, M2, S2, _, o2, sl1.mono l2.le, ?_, t.mono (fun d M3 q3 v H3 S3 l3 o3 r3' => hk d M3 v H3 S3 q3 l3 o3 r3') (fun d M' e => e) z2⟩
      intro d M' S' H' cls dd l' o' x1 e1
      exact try_er T hce hij en2 l' o' (s2.mono l'.le) x1 e1
    cases jr with
    | none =>
      refine main _ z' fun d M3 v H3 S3 q3 l3 o3 r3' => ?_
      exact en2.nx ρ2 M3 S3 σ2 H3 l3 o3 (s2.mono l3.le) q3
    | some j0 =>
      refine main _ z' fun d M3 v H3 S3 q3 l3 o3 r3' => ?_
      obtain ⟨ρ', hz, q4⟩ := onSome_of q3
      simp only [setTg, Option.some.injEq] at hz
      subst hz
      exact en2.nx _ M3 S3 _ H3 l3 o3 ((s2.mono l3.le).set r3') q4
  refine wpAny_call (codeAny_mono rc fun r s2 hq => ?_)
  match r, hq with
  | .error e, hq =>
    obtain ⟨_, _, _, _, _, _, _, _, _, _, _, _, z⟩ := hq
    exact z.elim
  | .ok (.ret u), hq => exact I1.after hq
end
end DL
end T_DX4
section T_DX5
set_option Elab.async false
set_option linter.all false
set_option maxRecDepth 100000
set_option maxHeartbeats 400000
/-! DX5: the law's own call where nothing is under repr, with tables of code objects. -/
namespace DL
open PySem PySem.Spec PyProof.Rows L2 LamX
section
variable {P : Program} {w : World} {K : PySem.W.Frag} {mg mb : Str → Option Value} {CX : CXT} {k : Nat} {fa a : Addr} {cs : List (Addr × Addr)} {fd : FuncData} {x : Str} {sp : Sp} {s₁ : Shared} {vs : List Value} {ns : List Int}
abbrev tab0 : Obj := { cls := .none, data := .fields #[] }
/-- what is tracked when the law is called: the tables, and the script where the text does not hold it -/
def lawH (K : PySem.W.Frag) (cs : List (Addr × Addr)) (a : Addr) (vs : List Value) (ns : List Int) : Hp := fun b =>
  if b ∈ cs.map (·.2) then some (.tbl #[]) else if b = a ∧ K.lookup a = none then some (.frz { cls := .type "list", data := .seq vs.toArray } (.lst (ns.map V.int))) else none
theorem lawH_tab {b : Addr} (h : b ∈ cs.map (·.2)) : lawH K cs a vs ns b = some (.tbl #[]) := if_pos h
theorem lawH_of {b : Addr} {u : HO} (h : lawH K cs a vs ns b = some u) : (b ∈ cs.map (·.2) ∧ u = .tbl #[]) ∨ (b ∉ cs.map (·.2) ∧ b = a ∧ K.lookup a = none ∧ u = .frz { cls := .type "list", data := .seq vs.toArray } (.lst (ns.map V.int))) := by
  unfold lawH at h
  split at h
  · rename_i hb; cases h; exact .inl ⟨hb, rfl⟩
  · rename_i hb
    split at h
    · rename_i hc; cases h; exact .inr ⟨hb, hc.1, hc.2, rfl⟩
    · cases h
theorem lawH_none {b : Addr} (h1 : b ∉ cs.map (·.2)) (h2 : ¬ (b = a ∧ K.lookup a = none)) : lawH K cs a vs ns b = none := by
  unfold lawH
  rw [if_neg h1, if_neg h2]
theorem law_callT (KX : K.In s₁.heap) (hns : s₁.heap.Ns mainGlobals mg) (hb : s₁.heap.Ns builtinsNs mb) (hbb : ∀ x : Str, x ≠ "__name__" → mb x = bootBuiltins x) (hlim : s₁.heap.NoLimit) (hg : s₁.gens = #[]) (hS : ∃ o es ep, s₁.heap.get? sysModules = some o ∧ o.data = .dict es ep)
    (hT : ∀ p ∈ cs, s₁.heap.get? p.2 = some tab0) (nT : ∀ p ∈ cs, K.lookup p.2 = none) (C : ∀ p ∈ cs, PySem.W.CodeHd s₁.heap p.1 p.2)
    (hbm : ∃ (bm : Addr) (ob : Obj), mg "__builtins__" = some (.ref bm) ∧ bm ≠ builtinsNs ∧ s₁.heap.get? bm = some ob ∧ ob.cls = .type "module" ∧ ob.dict = some builtinsNs ∧ ob.data = .plain)
    (ha : s₁.heap.get? a = some { cls := .type "list", data := .seq vs.toArray }) (hi : IntsAre vs ns) (hl : ns.length ≤ sizeLine) (hr : Room k callerA)
    (F : ∀ base : Heap, K.In base → base.Ns mainGlobals mg → (∀ p ∈ cs, TabB base mg p.1 p.2) → FnOkG true P w K mg base CX k fa fd [x] sp) (hbind : ∀ (s : Shared) (u : Value), BindsTo s fd ⟨[u], []⟩ [(x, u)])
    (hsp : ∀ H : Hp, (∀ p ∈ cs, H p.2 = some (.tbl #[])) → SqL K H a (ns.map V.int) → sp [.ref a] H (fun v _ => v = .bl true) fun _ _ _ => False)
    (hCX : ∀ H e s', CX [] H s₁ (fun _ _ _ => False) e s' → False) :
    codeAny (model P w) callerA (.call (.ref fa) ⟨[.ref a], []⟩) (fun r s' => r = .ok (.ret (.bool true)) ∧ OldK s₁.heap s'.heap ∧ s'.os = s₁.os ∧ AllBare s'.gens) s₁ := by
  have rv := vals_ints hi
  have isT : ∀ b, b ∈ cs.map (·.2) → s₁.heap.get? b = some tab0 := fun b h => by
    obtain ⟨p, hp, e⟩ := List.mem_map.mp h
    rw [← e]; exact hT p hp
  have outK : ∀ b, b ∈ cs.map (·.2) → K.lookup b = none := fun b h => by
    obtain ⟨p, hp, e⟩ := List.mem_map.mp h
    rw [← e]; exact nT p hp
  have aT : a ∉ cs.map (·.2) := fun z => by
    have q := isT a z
    rw [ha] at q
    have := congrArg Obj.data (Option.some.inj q)
    cases this
  -- what is neither a list nor an empty record is not tracked
  have free : ∀ {b : Addr} {o : Obj}, s₁.heap.get? b = some o → o.data ≠ .fields #[] → (∀ us n, o.data ≠ .seq us n) → lawH K cs a vs ns b = none := fun {b o} e h1 h2 => by
    refine lawH_none (fun z => ?_) (fun z => ?_)
    · rw [isT b z] at e; cases e; exact h1 rfl
    · rw [z.1, ha] at e; cases e; exact h2 _ _ rfl
  have kept : ∀ {b : Addr} {o : Obj}, s₁.heap.get? b = some o → o.data ≠ .fields #[] → (∀ us n, o.data ≠ .seq us n) → (hidT s₁.heap (lawH K cs a vs ns)).get? b = some o := fun e h1 h2 => hidT_get e (free e h1 h2)
  have dic : ∀ {b : Addr} {o : Obj} {es : Array DictEntry} {ep : Nat}, s₁.heap.get? b = some o → o.data = .dict es ep → (hidT s₁.heap (lawH K cs a vs ns)).get? b = some o := fun {b o es ep} e d => kept e (fun z => by rw [d] at z; cases z) fun us n z => by rw [d] at z; cases z
  have nsK : ∀ {b : Addr} {m : Str → Option Value}, s₁.heap.Ns b m → (hidT s₁.heap (lawH K cs a vs ns)).Ns b m := fun {b m} ⟨o, es, ep, e, d, r⟩ => ⟨o, es, ep, dic e d, d, r⟩
  have hKb : K.In (hidT s₁.heap (lawH K cs a vs ns)) := fun b o e => hidT_get (KX b o e) (lawH_none (fun z => by rw [outK b z] at e; cases e) fun z => by rw [z.1, z.2] at e; cases e)
  have hM : L2.Mod K mg (hidT s₁.heap (lawH K cs a vs ns)) := ⟨hKb, nsK hns, ⟨mb, nsK hb, hbb⟩, hlim.imp fun mc h => ⟨nsK h.1, h.2⟩⟩
  have TB : ∀ p ∈ cs, TabB (hidT s₁.heap (lawH K cs a vs ns)) mg p.1 p.2 := fun p hp => by
    refine ⟨?_, ?_, fun z => ?_⟩
    · obtain ⟨o, us, file, tf, flags, tg, inF, text, tt, e1, r1, r2, r3, rr⟩ := C p hp
      refine ⟨o, us, file, tf, flags, tg, inF, text, tt, kept e1 (fun z => ?_) (fun vs n z => by rw [r2] at z; cases z), r1, r2, r3, rr⟩
      rw [r2] at z
      cases z
      simp at r3
    · obtain ⟨bm, ob, b1, b2, b3, b4, b5, b6⟩ := hbm
      refine ⟨bm, ob, b1, b2, fun q => ?_, fun q => ?_, kept b3 (fun z => by rw [b6] at z; cases z) (fun vs n z => by rw [b6] at z; cases z), b4, b5, b6⟩
      · obtain ⟨o, es, ep, e, hd, _⟩ := hns
        rw [q, e] at b3
        cases b3
        rw [hd] at b6
        cases b6
      · rw [q, hT p hp] at b3
        cases b3
        cases b6
    · obtain ⟨o, es, ep, e, hd, _⟩ := hns
      rw [z, hT p hp] at e
      cases e
      cases hd
  have hok : HOk P w (lawH K cs a vs ns) s₁.heap := fun b u e => by
    rcases lawH_of e with ⟨h, rfl⟩ | ⟨_, rfl, _, rfl⟩
    · exact isT b h
    · exact ⟨ha, by rw [List.length_map]; exact hl, vs, _, rv, ha⟩
  have hSq : SqL K (lawH K cs a vs ns) a (ns.map V.int) := by
    cases hk : K.lookup a with
    | none => exact .inl (.inr ⟨_, by unfold lawH; rw [if_neg aT, if_pos ⟨rfl, hk⟩]⟩)
    | some o =>
      have e := KX a o hk
      rw [ha] at e
      cases e
      exact .inr ⟨_, vs.toArray, _, hk, rfl, rfl, rfl, by rw [List.size_toArray, hi.length]; exact hl, by simpa using rv⟩
  have nof : ∀ b : Addr, b ∉ frs ([] : List Env) := fun b z => by cases z
  have e0 : Env0 P w K mg (hidT s₁.heap (lawH K cs a vs ns)) callerA [] s₁ (lawH K cs a vs ns) := ⟨rfl, hM, fun b o e => of_hidT e, Nat.le_of_eq (hidT_size _ _), trivial, fun b hb => (nof b hb).elim, hok, .of_eq hg⟩
  have gd : Gd (hidT s₁.heap (lawH K cs a vs ns)) callerA := ⟨rfl, by
    obtain ⟨o, es, ep, e, d⟩ := hS
    exact ⟨o, dic e d⟩⟩
  refine codeAny_mono ((F _ hKb (nsK hns) TB).run callerA [] s₁ _ ⟨[.ref a], []⟩ [.ref a] [.ref a] _ _ hr (fun _ => gd) e0 (hbind s₁ (.ref a)) (.cons rfl .nil) (hsp _ (fun p hp => lawH_tab (List.mem_map.mpr ⟨p, hp, rfl⟩)) hSq)) fun r s' h => ?_
  match r, h with
  | .error e, h => exact (hCX _ e s' h).elim
  | .ok (.ret u), h =>
    obtain ⟨v, H', os, bare, un, hok', r', q⟩ := h
    have q' : v = .bl true := q
    subst q'
    obtain rfl : u = Value.bool true := r'
    have rest : ∀ b o, b ∉ cs.map (·.2) → s₁.heap.get? b = some o → s'.heap.get? b = some o := fun b o nb e => by
      cases z : lawH K cs a vs ns b with
      | none => exact un.keep b o e z (nof b) (by simp)
      | some u =>
        rcases lawH_of z with ⟨h, _⟩ | ⟨_, _, _, rfl⟩
        · exact absurd h nb
        · obtain ⟨e1, _⟩ := hok b _ z
          obtain ⟨e2, _⟩ := hok' b _ (un.frzs b _ _ z)
          rw [e] at e1
          cases e1
          exact e2
    have tabs : ∀ p ∈ cs, ∃ more : Array Value, s'.heap.get? p.2 = some { cls := .none, data := .fields more } := fun p hp => by
      obtain ⟨more, z⟩ := un.tbls p.2 #[] (lawH_tab (List.mem_map.mpr ⟨p, hp, rfl⟩))
      exact ⟨_, hok' p.2 _ z⟩
    refine ⟨rfl, ⟨fun b o e => ?_, fun b o e => ?_⟩, os, bare⟩
    · by_cases nb : b ∈ cs.map (·.2)
      · obtain ⟨p, hp, ep⟩ := List.mem_map.mp nb
        subst ep
        obtain ⟨more, hm⟩ := tabs p hp
        have e' := e
        rw [hT p hp] at e'
        cases e'
        exact .inr (.inl ⟨((C p hp).tab (hT p hp)).isCodeTable, rfl, #[], more, rfl, by rw [Array.empty_append]; exact hm⟩)
      · exact .inl (rest b o nb e)
    · by_cases nb : b ∈ cs.map (·.2)
      · obtain ⟨p, hp, ep⟩ := List.mem_map.mp nb
        subst ep
        obtain ⟨more, hm⟩ := tabs p hp
        exact ⟨_, hm⟩
      · exact ⟨o, rest b o nb e⟩
end
/-- a law's end, over a head by facts, with tables -/
theorem walk_GT {l : PySem.W.OpenLaw} {n k : Nat} {q : Program} {loose : List Str} {XP : (Str → Option Value) → Heap → Prop} {YP : World → Heap → Prop} {d : DefRec} {CX : World → CXT} {x : Str}
    (hn : l.most = some n) (hn2 : n ≤ sizeLine) (hdf : d.params.defaults = []) (hr : Room k callerA)
    (F : ∀ (w : World) (mg : Str → Option Value) (fa : Addr) (h : Heap), YP w h → h.Ns mainGlobals mg → mg d.name = some (.ref fa) →
      ∃ (K : PySem.W.Frag) (fd : FuncData) (cs : List (Addr × Addr)) (sp : Sp), K.In h ∧ (∃ o es ep, h.get? sysModules = some o ∧ o.data = .dict es ep) ∧ (∀ p ∈ cs, h.get? p.2 = some tab0) ∧ (∀ p ∈ cs, K.lookup p.2 = none) ∧ (∀ p ∈ cs, PySem.W.CodeHd h p.1 p.2) ∧
        (∀ (s : Shared) (u : Value), BindsTo s fd ⟨[u], []⟩ [(x, u)]) ∧
        (∀ (H : Hp) (a : Addr) (ns : List Int), ns.length ≤ n → (∀ z ∈ ns, Builtin.Int.intBits z ≤ 1048576) → (∀ p ∈ cs, H p.2 = some (.tbl #[])) → SqL K H a (ns.map V.int) → sp [.ref a] H (fun v _ => v = .bl true) fun _ _ _ => False) ∧
        ∀ base : Heap, K.In base → base.Ns mainGlobals mg → (∀ p ∈ cs, TabB base mg p.1 p.2) → FnOkG true l.prog w K mg base (CX w) k fa fd [x] sp)
    (hCX : ∀ (w : World) (H : Hp) (s : Shared) (e : Value) (s' : Shared), CX w [] H s (fun _ _ _ => False) e s' → False) :
    PySem.W.WalkO q loose XP YP l.row.toRowW d [] (fun f vs => PySem.call f vs) := by
  refine Att.attach_callB hn hdf fun w s₀ s₁ mg mb fa o pm cd doc a vs ns G Y ho hd hcd hmg hobj hints hlen hbits hg => ?_
  obtain ⟨K, fd, cs, sp, KX, hS, hT, nT, C, hb, hsp, hF⟩ := F w mg fa _ Y G.T.g hmg
  exact law_callT KX G.T.g G.T.b G.T.builtins G.T.nolimit hg hS hT nT C G.T.bmain hobj hints (Nat.le_trans hlen hn2) hr hF hb (fun H hH hS => hsp H a ns hlen hbits hH hS) fun H e s' => hCX w H s₁ e s'
end DL
end T_DX5
section T_DX6
set_option Elab.async false
set_option linter.all false
set_option maxRecDepth 100000
set_option maxHeartbeats 400000
/-! DX6: defs whose text has lambdas; defs that call the lambda they got. -/
namespace DL
open PySem PySem.Spec PyProof.Rows L2 LamX
section
variable {P : Program} {w : World} {K : PySem.W.Frag} {mg : Str → Option Value} {base : Heap} {x qual : Str} {params : Arguments} {body : List Stmt} {scope : Scope} {dvs : List V} {kws : List (Str × V)} {f : Addr} {fd : FuncData}
/-- the code object that the def at f bears -/
def CodeAt (K : PySem.W.Frag) (f : Addr) (cdv : Value) (q : Str) : Prop := ∃ oc od fd osl, K.lookup f = some ⟨oc, od, .func fd, osl⟩ ∧ fd.code = cdv ∧ PySem.W.codeIn K cdv q = true
/-- A DEF KEEPS ITS PROMISE, its code object told -/
theorem fn_mkGC {g : Bool} {N ps : List Str} {k : Nat} {sp : Sf} {t : Sr} (F : FunD K x qual params body scope dvs kws f fd) (Sc : FnScope N ps scope)
    (hb : ∀ (cdv : Value) (A : Around) (outer : List Env) (s : Shared) (H : Hp) (E : XK), CodeAt K f cdv qual → Room k (A.deeper (envOfC qual scope s.heap.objs.size f cdv)) → (g = true → Gd base A) → PDSs (BX P w K mg base N qual scope f cdv A outer s H E) (WB E) body t)
    (h : ∀ (ds : List Tr) (M : Me) (Q E : TK), ds.length = ps.length → belows M.length ds → (∀ c ∈ M, belowC M.length c) → sp.f ds M Q E → t.f (finF M.length Q E) (startE N ds) M) :
    FnOkG g P w K mg base (L2.CX P w) (k + 1) f fd ps (liftF K sp ps.length) := by
  obtain ⟨oc, od, dV, kV, doc, pm, an, cdv, ct, osl, rfl, lk, hcd, _, _⟩ := F.ex
  refine ⟨fun vs H Q E q => q.1, fun A outer s H args us vs Q E hr hgd e0 hb' r hsp => ?_⟩
  have inn : ∀ b o, base.get? b = some o → s.heap.get? b = some o := fun b o e => (e0.bs b o e).1
  have hl := hsp.1
  refine codeAny_call_function hr.depth ((e0.mod.kin.keeps inn) _ _ lk) rfl Sc.co Sc.gen rfl (PySem.W.codeRec_of (e0.mod.kin.keeps inn) hcd) (hb' _ _ _ _ ?_)
  refine wpAny_newFunctionEnv_cells Sc.kind (fun ⟨n, v⟩ hy => (Sc.par n (List.of_mem_zip hy).1).elim .inl fun q => .inr ⟨q, PySem.W.cellsFrom_some _ _ _ (.inl q)⟩) fun env he s1 xx => ?_
  subst he
  refine ⟨(e0.mod.nolimit.keeps inn).keeps xx.toInCall.keep, codeAny_func ?_⟩
  obtain ⟨_, ds, M, S, o, rs, q⟩ := hsp
  obtain ⟨QT, ET, hQT, hET, q⟩ : ∃ QT ET : TK, (∀ d M', QT d M' → ∀ v H' S', Gr S H S' H' → OkH K S' M' H' → Rep K S' d v → Q v H') ∧ (∀ e M', ET e M' → ∀ cls dd H' S', Gr S H S' H' → OkH K S' M' H' → Exc K S' e cls dd → E cls dd H') ∧ sp.f ds M QT ET := ⟨_, _, fun _ _ z => z, fun _ _ z => z, q⟩
  have hb1 := reps_below _ _ rs
  rw [o.len] at hb1
  have q2 := h ds M QT ET (by rw [rs.length, hl]) hb1 (okH_below o) q
  refine wpAny_mono ((hb cdv A outer s H E ⟨oc, od, _, osl, lk, rfl, hcd⟩ (hr.deeper _) hgd).run [] s1 (L2.start N vs) H { nx := fun _ H' => Q .non H', rt := Q } (inv_start Sc hr.hd e0 hl r xx) ⟨startE N ds, M, S, finF M.length QT ET, o, slots_start rs, ⟨?_, ?_, fun _ _ _ _ _ _ _ _ z => z.elim, fun _ _ _ _ _ _ _ _ z => z.elim, ?_⟩, q2⟩) (fun fl s' hs => ?_) fun e s' hs => hs
  · intro ρ M' S' σ H' l o' s' q3
    rcases q3 with q3 | ⟨n, hn, hd, q3⟩
    · exact hQT _ _ q3 .non H' S' l o' rep_non
    · obtain ⟨l2, o2⟩ := drop_ok hn o.len l o' hd
      exact hQT _ _ q3 .non H' _ l2 o2 rep_non
  · intro d M' S' v H' l o' r' q3
    rcases q3 with q3 | ⟨n, hn, hd, q3⟩
    · exact hQT _ _ q3 v H' S' l o' r'
    · obtain ⟨l2, o2⟩ := drop_ok hn o.len l o' hd
      exact hQT _ _ q3 v H' _ l2 o2 (rep_take _ _ r' hd.1)
  · intro ρ d M' S' σ H' cls dd l o' s' x q3
    rcases q3 with q3 | ⟨n, hn, hd, q3⟩
    · exact hET _ _ q3 cls dd H' S' l o' x
    · obtain ⟨l2, o2⟩ := drop_ok hn o.len l o' hd
      exact hET _ _ q3 cls dd H' _ l2 o2 (exc_take x hd.1)
  · match fl, hs with
    | .ret u, hs => obtain ⟨v, σ', H', J, rv, q⟩ := hs; exact ⟨v, H', J.os, J.bare, J.base, J.hok, rv, q⟩
    | .next, hs => obtain ⟨σ', H', J, q⟩ := hs; exact ⟨.non, H', J.os, J.bare, J.base, J.hok, rfl, q⟩
    | .brk, hs => obtain ⟨_, _, _, q⟩ := hs; exact q.elim
    | .cont, hs => obtain ⟨_, _, _, q⟩ := hs; exact q.elim
/-- the tables of the law's defs, by the written part -/
def TabAll (K : PySem.W.Frag) (mg : Str → Option Value) (base : Heap) : Prop := ∀ y ∈ LN, isGlo K y = true → TabB base mg (He.cT K (y, none)).1 (He.cT K (y, none)).2
structure TabK (K : PySem.W.Frag) : Prop where
  nd : ((TBs K).map Prod.fst).Nodup
theorem nodup_fst {α β : Type} : ∀ {l : List (α × β)} {a b : α × β}, (l.map Prod.fst).Nodup → a ∈ l → b ∈ l → a.1 = b.1 → a = b
  | [], _, _, _, h, _, _ => by cases h
  | c :: l, a, b, nd, ha, hb, e => by
    rw [List.map_cons, List.nodup_cons] at nd
    rcases List.mem_cons.mp ha with ha1 | ha1 <;> rcases List.mem_cons.mp hb with hb1 | hb1
    · rw [ha1, hb1]
    · exact absurd (List.mem_map.mpr ⟨b, hb1, by rw [← e, ha1]⟩) nd.1
    · exact absurd (List.mem_map.mpr ⟨a, ha1, by rw [e, hb1]⟩) nd.1
    · exact nodup_fst nd.2 ha1 hb1 e
/-- what a lambda asks, of the def x of the law -/
theorem lamOk_of {X : Cx} {y : Str} {cdv : Value} (hy : y ∈ LN) (hg : isGlo X.K y = true) (T : TabAll X.K X.mg X.base) (TK : TabK X.K) (C : CodeAt X.K (He.ga X.K y) cdv y) (hc : X.env.code = cdv) (hq : X.env.qual ++ "<lambda>" = y ++ ".<locals>.<lambda>") : LamOk X := by
  obtain ⟨oc, od, fd, osl, lk, rfl, hcd⟩ := C
  obtain ⟨c, hc2⟩ := He.codeIn_ref hcd
  have e1 : He.codeOf X.K (y, none) = c := He.codeOf_eq (p := (y, none)) lk hc2
  have hm : ((He.cT X.K (y, none)).2, y ++ ".<locals>.<lambda>") ∈ TBs X.K := List.mem_map.mpr ⟨y, List.mem_filter.mpr ⟨hy, hg⟩, rfl⟩
  refine ⟨c, (He.cT X.K (y, none)).2, ?_, by rw [hc, hc2], by rw [hq]; exact hm, fun p hp e => ?_⟩
  · have := T y hy hg
    rw [show (He.cT X.K (y, none)).1 = c from e1] at this
    exact this
  · rw [hq]
    exact congrArg Prod.snd (nodup_fst TK.nd hp hm e)
end
theorem takes_l {X : Cx} {A : Around} {outer : List Env} {s : Shared} {H : Hp} {E : XK} {scope : Scope} {f c' : Addr} : Takes (lamCx X A outer s H E scope f c') (WB E) := takes_of rfl rfl rfl rfl

/-! ### the try around the lambda's call -/
section
variable {X : Cx} {E : XK} {tl : WX → TE} {ce i j : Nat} {a x n m : Str} {np pos pos' p1 p2 q1 q2 q3 b3 mp : Pos}
/-- try: m0 = a() / except x as n: m = n -/
theorem thr_some {jr : Nat} {m0 : Str} (hs : X.stack = X.env :: X.outer) (hf : X.env.frame = some X.env.locals) (hex : X.ex = []) (hN : X.N.Nodup) (hi : X.N[i]? = some n) (hln : X.env.kindOf n = some .local) (hj : X.N[j]? = some m) (hlj : X.env.kindOf m = some .local) (hj0 : X.N[jr]? = some m0) (hl0 : X.env.kindOf m0 = some .local) (hvi : Vis X.env.scope n)
    (hx : x = enm ce) (hg : Gl X x) (gC : X.mg x = some (.ref (He.ga X.K x))) (tk : Takes X (WB E))
    (act : ∀ (W : WX) (pn : List (Addr × Obj)) (xe : Value → Shared → Prop) (p1 p2 : Pos), Takes (X.tr pn xe) W → PE (X.tr pn xe) (.Call (.Name a p1) [] [] p2) (tl W))
    (hsw : ∀ pn xe, swapsWith (.Call (.Name a p1) [] [] p2) (some (.Name m0 mp)) b3.line (X.tr pn xe).env = pure false := by intro _ _; rfl)
    (hdb : (x == ("__debug__" : Str)) = false := by decide) (h1 : (n == ("__debug__" : Str)) = false := by decide) (h2 : (n == ("__classdict__" : Str)) = false := by decide) :
    PS X (.Try [.Assign [.Name m0 mp] (.Call (.Name a p1) [] [] p2) b3] [.ExceptHandler (some (.Name x np)) (some n) [.Assign [.Name m q1] (.Name n q2) q3] pos'] [] [] pos)
      (fun D σ H => tl (wKeep X.K (.ref (He.ga X.K (enm ce))) i (fun _ _ _ => fun D σ H => ∃ v, σ[i]? = some (some v) ∧ D.nx (σ.set j (some v)) H) (WB E) D) σ H fun v H' => D.nx (aftV (some jr) σ v) H') := by
  subst hx
  exact ps_try_keep (tb := fun W D σ H => tl W σ H fun v H' => D.nx (aftV (some jr) σ v) H') hs hf hex hN hi hln ⟨hg, hdb, .inl gC⟩ tk (fun W pn xe tk' _ => pss_one (ps_set (X := X.tr pn xe) (i := jr) hN hj0 (.inl hl0) (act W pn xe p1 p2 tk') (hsw pn xe) (.inr hl0)))
    (fun a oe cls d pn _ _ => suite_keep hN hi hj hvi hlj h1 h2)
/-- try: a() / except x as n: m = n -/
theorem thr_none (hs : X.stack = X.env :: X.outer) (hf : X.env.frame = some X.env.locals) (hex : X.ex = []) (hN : X.N.Nodup) (hi : X.N[i]? = some n) (hln : X.env.kindOf n = some .local) (hj : X.N[j]? = some m) (hlj : X.env.kindOf m = some .local) (hvi : Vis X.env.scope n)
    (hx : x = enm ce) (hg : Gl X x) (gC : X.mg x = some (.ref (He.ga X.K x))) (tk : Takes X (WB E))
    (act : ∀ (W : WX) (pn : List (Addr × Obj)) (xe : Value → Shared → Prop) (p1 p2 : Pos), Takes (X.tr pn xe) W → PE (X.tr pn xe) (.Call (.Name a p1) [] [] p2) (tl W))
    (hsw : ∀ pn xe, swapsWith (.Call (.Name a p1) [] [] p2) none b3.line (X.tr pn xe).env = pure false := by intro _ _; rfl)
    (hdb : (x == ("__debug__" : Str)) = false := by decide) (h1 : (n == ("__debug__" : Str)) = false := by decide) (h2 : (n == ("__classdict__" : Str)) = false := by decide) :
    PS X (.Try [.Expr (.Call (.Name a p1) [] [] p2) b3] [.ExceptHandler (some (.Name x np)) (some n) [.Assign [.Name m q1] (.Name n q2) q3] pos'] [] [] pos)
      (fun D σ H => tl (wKeep X.K (.ref (He.ga X.K (enm ce))) i (fun _ _ _ => fun D σ H => ∃ v, σ[i]? = some (some v) ∧ D.nx (σ.set j (some v)) H) (WB E) D) σ H fun v H' => D.nx (aftV none σ v) H') := by
  subst hx
  exact ps_try_keep (tb := fun W D σ H => tl W σ H fun v H' => D.nx (aftV none σ v) H') hs hf hex hN hi hln ⟨hg, hdb, .inl gC⟩ tk (fun W pn xe tk' _ => pss_one (ps_expr (X := X.tr pn xe) (act W pn xe p1 p2 tk') (hsw pn xe)))
    (fun a oe cls d pn _ _ => suite_keep hN hi hj hvi hlj h1 h2)
end
end DL
end T_DX6
section T_DX7
set_option Elab.async false
set_option linter.all false
set_option maxRecDepth 100000
set_option maxHeartbeats 400000
/-! DX7: d.get(k, e). -/
namespace DL
open PySem PySem.Spec PyProof.Rows L2
def dGet2 (t u x : Rd Tr) : Rd Tr := ⟨fun ρ M Q E => t.f ρ M (fun d M1 => (dictV M1 d).isSome = true ∧ u.f ρ M1 (fun e M2 => x.f ρ M2 (fun z M3 => onSome ((dictV M3 d).bind fun p => (keyT e).map fun k => (getK p.1 p.2 k).getD z) fun r => Q r M3) E) E) E,
  fun h h' q => t.mono (fun d M1 z => ⟨z.1, u.mono (fun e M2 z2 => x.mono (fun y M3 => onSome_mono fun r => h r M3) h' z2) h' z.2⟩) h' q⟩
section
variable {X : Cx} {W : WX} {cpos apos : Pos} {o e f : Expr} {t u x : Rd Tr}
theorem pd_dget2 (hu : X.A.units + 1 < cLine) (ho : PD X W o t) (he : PD X W e u) (hf : PD X W f x) (m : M2 X o "get" apos e f cpos) : PD X W (.Call (.Attribute o "get" apos) [e, f] [] cpos) (dGet2 t u x) := pe_imp (pe_dget2 hu ho he hf m) fun σ H Q h => by
  obtain ⟨ρ, M, S, E, ok, s, er, q⟩ := h
  refine ⟨ρ, M, S, E, ok, s, er, t.mono (fun d M1 q1 v H1 S1 l1 o1 r1 => ?_) (fun _ _ z => z) q⟩
  obtain ⟨hd, q1⟩ := q1
  obtain ⟨⟨ks, ds⟩, e1⟩ := Option.isSome_iff_exists.mp hd
  obtain ⟨a, kvs, rfl, h1, _, h3⟩ := dictV_rep o1 r1 e1
  refine ⟨a, rfl, .inl ⟨kvs, h1⟩, ρ, M1, S1, E, o1, s.mono l1.le, er.mono l1, u.mono (fun ky M2 q2 v2 H2 S2 l2 o2 r2 => ?_) (fun _ _ z => z) q1⟩
  refine ⟨ρ, M2, S2, E, o2, (s.mono l1.le).mono l2.le, (er.mono l1).mono l2, x.mono (fun z M3 q3 v3 H3 S3 l3 o3 r3 => ?_) (fun _ _ z => z) q2⟩
  obtain ⟨r, hr, q4⟩ := onSome_of q3
  obtain ⟨⟨ks', ds'⟩, f1, f2⟩ := Option.bind_eq_some_iff.mp hr
  obtain ⟨k, f3, rfl⟩ := Option.map_eq_some_iff.mp f2
  obtain ⟨a', kvs', ea, g1, rfl, g3⟩ := dictV_rep o3 (Rep.mono (l2.trans l3).le _ _ r1) f1
  cases ea
  refine ⟨valV kvs' k, by rw [keyT_rep (Rep.mono l3.le _ _ r2) f3]; exact .inl ⟨kvs', k, g1, rfl, rfl⟩, q4 _ H3 S3 (l1.trans (l2.trans l3)) o3 ?_⟩
  cases hk : getK (kvs'.map Prod.fst) ds' k with
  | some y =>
    obtain ⟨w, hw, rw'⟩ := (getK_val g3).1 y hk
    rw [hw]
    exact rw'
  | none =>
    have hn := isSome_val (k := k) g3
    rw [hk] at hn
    cases hv : valV kvs' k with
    | some w => rw [hv] at hn; cases hn
    | none => exact r3
end
end DL
end T_DX7
section T_DX8
set_option Elab.async false
set_option linter.all false
set_option maxRecDepth 100000
set_option maxHeartbeats 400000
/-! DX8: at a statement, what the cells hold is told of cells that are. -/
namespace DL
open PySem PySem.Spec PyProof.Rows L2
def sCl (t : Sr) : Sr := ⟨fun F ρ M => (∀ c ∈ M, belowC M.length c) → t.f F ρ M, fun h q z => t.mono h (q z)⟩
theorem pds_cl {X : Cx} {W : WX} {st : Stmt} {t : Sr} (h : PDS X W st t) : PDS X W st (sCl t) := ps_imp h fun D σ H h => by
  obtain ⟨ρ, M, S, F, ok, s, en, q⟩ := h
  exact ⟨ρ, M, S, F, ok, s, en, q (okH_below ok)⟩
end DL
end T_DX8
section T_DX9
set_option Elab.async false
set_option linter.all false
set_option maxRecDepth 100000
set_option maxHeartbeats 400000
/-! DX9: own exceptions with fields: what their __init__ does. -/
namespace DL
open PySem PySem.Spec PyProof.Rows L2
/-! ### {x} of data, in a text that is not looked at -/
def fmtMost : Nat := 1000000
theorem fmt_list {a : Addr} {p : PyData} {as : List Addr} {A : Around} {E : Value → Shared → Prop} {Q : Value → Shared → Prop} {prog : Program} {w : World} {s : Shared} (r : Reads s.heap (.ref a) p as) (hs : p.showable = true) (hsm : sysModules ∉ as) (hz : p.shown.length ≤ sizeLine) (hg : A.guards = some []) (hu : A.units + (p.depth + 2) < cLine)
    (hQ : ∀ h' u tk, (∀ b o, s.heap.get? b = some o → h'.get? b = some o) → Q (.str p.shown u) { s with heap := h', toks := tk }) : wpAny (model prog w) A (formatField (.ref a) Str.empty) Q E s :=
  formatField_of_reads r hs (fun _ => hsm) hg hu (fun _ _ e => e) hQ hz
/-- what may be written: a flat value; where nothing is under repr: a list of data -/
def okFmt (g : Bool) (K : PySem.W.Frag) (H : Hp) (v : V) : Prop :=
  v = .non ∨ (∃ i : Int, v = .int i ∧ i.natAbs.log2 < 1920 ∧ (toString i : Str).length ≤ fmtMost) ∨ (∃ y : Str, v = .str y ∧ y.length ≤ fmtMost) ∨
  (g = true ∧ ∃ S M xs p, OkH K S M H ∧ Rep K S (.lst xs) v ∧ rpd (.lst xs) = some p ∧ p.showable = true ∧ p.depth ≤ 100 ∧ p.shown.length ≤ fmtMost)
section
variable {X : Cx} {pos : Pos}
def tFmtA (g : Bool) (K : PySem.W.Frag) (te : TE) : TE := fun σ H Q => te σ H fun x H1 => okFmt g K H1 x ∧ ∀ y : Str, y.length ≤ fmtMost → Q (.str y) H1
theorem pe_fmtA {g : Bool} {k : Nat} {e : Expr} {te : TE} (hr : Room k X.A) (hgd : g = true → Gd X.base X.A) (he : PE X e te) : PE X (.FormattedValue e (-1) none pos) (tFmtA g X.K te) := by
  refine ⟨fun pins s σ H Q I h => ?_⟩
  refine wpAny_FormattedValue_plain (thn (he.run pins s σ H _ I h) fun v s1 hv => ?_)
  obtain ⟨x, H1, I1, r1, c, q⟩ := hv
  have hm : fmtMost ≤ sizeLine := by rw [← big_eq]; decide
  rcases c with rfl | ⟨i, rfl, hi, hl⟩ | ⟨y, rfl, hl⟩ | ⟨hg, S, M, xs, p, o, r, e1, c1, c2, c3⟩
  · cases r1
    exact wpAny_formatField_none ⟨.str "None", H1, I1.tok _, ⟨_, rfl⟩, q _ (by decide +kernel)⟩
  · obtain ⟨t, rfl⟩ := r1
    exact wpAny_formatField_int hi ⟨.str (toString i), H1, I1.tok _, ⟨_, rfl⟩, q _ hl⟩
  · obtain ⟨t, rfl⟩ := r1
    exact wpAny_formatField_str ⟨.str y, H1, I1, ⟨t, rfl⟩, q _ hl⟩ ⟨.str y, H1, I1.tok _, ⟨_, rfl⟩, q _ hl⟩ (by omega)
  · obtain ⟨hg, hy⟩ := hgd hg
    obtain ⟨as, q1, q2⟩ := rpd_reads hy I1 o _ x _ p r r1 e1
    have hx : ∃ a, x = .ref a := by
      simp only [Rep] at r
      obtain ⟨a, vs, rfl, _⟩ := r
      exact ⟨a, rfl⟩
    obtain ⟨a, rfl⟩ := hx
    cases r1
    refine fmt_list q1 c1 q2 (by omega) hg (by have := hr.un; omega) fun h' u' tk k' => ?_
    exact ⟨.str p.shown, H1, I1.kept (t' := tk) k', ⟨_, rfl⟩, q _ c3⟩
/-! ### the text of an exception -/
/-- a text made of the value in slot 1 -/
def tMsg (g : Bool) (K : PySem.W.Frag) : TE := fun σ H Q => ∃ v, σ[1]? = some (some v) ∧ okFmt g K H v ∧ ∀ y : Str, Q (.str y) H
theorem msg3 {g : Bool} {k : Nat} {e : Expr} {m1 m2 : Str} {j1 j2 : Nat} {q1 q2 q3 : Pos} (hr : Room k X.A) (hgd : g = true → Gd X.base X.A) (he : PE X e (tVar 1)) (h1 : m1.length + m2.length ≤ 1000) :
    PE X (.JoinedStr [.Constant (.str m1) j1 q1, .FormattedValue e (-1) none q2, .Constant (.str m2) j2 q3] pos) (tMsg g X.K) := by
  refine pe_imp (pe_joined (.cons pe_str (.cons (pe_fmtA hr hgd he) (.cons pe_str .nil)))) fun σ H Q h => ?_
  obtain ⟨v, hv, c, q⟩ := h
  have hb : big = sizeLine := big_eq
  have hm : fmtMost + 1000 ≤ sizeLine := by rw [← big_eq]; decide
  have e0 : (Str.empty : Str).length = 0 := rfl
  refine ⟨m1, rfl, by rw [strLen_append, e0]; omega, v, hv, c, fun y hy => ?_⟩
  refine ⟨y, rfl, by rw [strLen_append, strLen_append, e0]; omega, m2, rfl, by rw [strLen_append, strLen_append, strLen_append, e0]; omega, q _⟩
theorem msg2 {g : Bool} {k : Nat} {e : Expr} {m1 : Str} {j1 : Nat} {q1 q2 : Pos} (hr : Room k X.A) (hgd : g = true → Gd X.base X.A) (he : PE X e (tVar 1)) (h1 : m1.length ≤ 1000) :
    PE X (.JoinedStr [.Constant (.str m1) j1 q1, .FormattedValue e (-1) none q2] pos) (tMsg g X.K) := by
  refine pe_imp (pe_joined (.cons pe_str (.cons (pe_fmtA hr hgd he) .nil))) fun σ H Q h => ?_
  obtain ⟨v, hv, c, q⟩ := h
  have hm : fmtMost + 1000 ≤ sizeLine := by rw [← big_eq]; decide
  have e0 : (Str.empty : Str).length = 0 := rfl
  refine ⟨m1, rfl, by rw [strLen_append, e0]; omega, v, hv, c, fun y hy => ?_⟩
  exact ⟨y, rfl, by rw [strLen_append, strLen_append, e0]; omega, q _⟩
end
/-! ### CaseError.__init__(self, text) -/
structure XiK (K : PySem.W.Frag) : Prop where
  rd : PySem.W.readsIn K (He.ga K "CaseError") (.type "type") = true
  ga : PySem.W.specialIn K (.ref (He.ga K "CaseError")) "__getattribute__" = some (some (.builtin "type.__getattribute__"))
  at_ : PySem.W.findCls K (.ref (He.ga K "CaseError")) (.type "type") "__init__" = some (.val (.builtin "ValueError.__init__"))
section
variable {X : Cx} {e : Expr} {es : List Expr} {ta : TA} {p1 p2 pos : Pos}
theorem pe_ceinit {pl : Sem Bool} (T : XiK X.K) (hg : Gl X "CaseError") (hm : X.mg "CaseError" = some (.ref (He.ga X.K "CaseError"))) (ha : PA X (e :: es) ta)
    (hc : eval (.Call (.Attribute (.Name "CaseError" p1) "__init__" p2) (e :: es) [] pos) X.env = (do
      let ov ← eval (.Name "CaseError" p1) X.env
      standAt p2.atName
      let (f, first) ← holding [ov] (getMethod ov "__init__" pl)
      callWith pos f first (backTo pos (starEach (e :: es) X.env)) (backToKw pos (keywordEach [] X.env))) := by rfl)
    (he : starEach (e :: es) X.env = (false, eval e X.env) :: starEach es X.env := by rfl) (hpl : (backTo pos (starEach es X.env)).any (·.1) = false := by rfl) :
    PE X (.Call (.Attribute (.Name "CaseError" p1) "__init__" p2) (e :: es) [] pos) (tVeI X.K ta) := by
  refine ⟨fun pins s σ H Q I h => ?_⟩
  refine PySem.W.methodCall_KW (ld_glob I hg hm ?_ (by decide)) hc
  refine PySem.W.method_cls I.kIn T.ga (PySem.W.cls_value I.kIn T.rd T.at_ rfl ?_)
  show wpAny _ _ (callWith pos (Value.builtin "ValueError.__init__") [] (backTo pos (starEach (e :: es) X.env)) []) _ _ _
  refine PyProof.Rows.callWith_method1 (thn (ha.run pos pins _ σ H _ (I.tok _) h) fun us s1 ⟨vs, H1, I1, r1, a, C, ws, ev, hl, T, ea, q⟩ => ?_) he hpl
  subst ev
  cases r1 with
  | @cons _ u0 _ ur ra rw' =>
    obtain rfl : u0 = Value.ref a := ra
    have hlen : ur.length ≤ sizeLine := by
      rw [← Paired.length rw', sizeLine_eq]
      omega
    exact oinit_ok T I1 ea hlen fun s' J => ⟨.non, H1, J, rfl, q⟩
end
/-! ### what __init__ promises -/
abbrev excA (K : PySem.W.Frag) (c : Nat) : Addr := He.ga K (enm c)
def spX (K : PySem.W.Frag) (c : Nat) (ok : Hp → List V → Prop) : Sp := fun vs H Q _ => ∃ a ws, vs = .ref a :: ws ∧ ws.length = (efs c).length ∧ ok H ws ∧ H a = some (exo a (excA K c) none) ∧
  ∀ dx, H dx = none → dx ≠ a → Q .non (upd (upd H dx (exd dx ((efs c).zip ws))) a (exo a (excA K c) (some dx)))
/-- the class c: an own exception with fields -/
structure XoK (K : PySem.W.Frag) (c : Nat) : Prop where
  ox : OexC K (excA K c)
  no : ∀ f ∈ efs c, PySem.W.findIn K (.ref (excA K c)) f = some none
/-- the text is made of the first field -/
def okMsg (g : Bool) (K : PySem.W.Frag) (H : Hp) (ws : List V) : Prop := ∃ v, ws[0]? = some v ∧ okFmt g K H v
section
variable {P : Program} {w : World} {K : PySem.W.Frag} {mg : Str → Option Value} {base : Heap} {x qual : Str} {params : Arguments} {body : List Stmt} {scope : Scope} {dvs : List V} {kws : List (Str × V)} {f : Addr} {fd : FuncData}
/-- the body's readings -/
def tX1 (K : PySem.W.Frag) (tm : TE) (f : Str) : TS := tSeq (tDrop (tVeI K (tCons (tVar 0) (tCons tm tNil)))) (tOst K f (tVar 0) (tVar 1))
def tX2 (K : PySem.W.Frag) (tm : TE) (f f2 : Str) : TS := tSeq (tDrop (tVeI K (tCons (tVar 0) (tCons tm tNil)))) (tSeq (tOst K f (tVar 0) (tVar 1)) (tOst K f2 (tVar 0) (tVar 2)))
theorem fn_x1 {g : Bool} {k c : Nat} {N ps : List Str} {fl : Str} {ok : Hp → List V → Prop} {tm : TE} (T : XoK K c) (hc : efs c = [fl]) (hN : N.length = 2) (hp : ps.length = 2) (hm : ∀ a v H Q, ok H [v] → (∀ y : Str, Q (.str y) H) → tm [some (.ref a), some v] H Q) (F : FunD K x qual params body scope dvs kws f fd) (Sc : FnScope N ps scope)
    (hb : ∀ (cdv : Value) (A : Around) (outer : List Env) (s : Shared) (H : Hp) (E : XK), Room k (A.deeper (envOfC qual scope s.heap.objs.size f cdv)) → (g = true → Gd base A) → PSs (BX P w K mg base N qual scope f cdv A outer s H E) body (tX1 K tm fl)) :
    FnOkG g P w K mg base (L2.CX P w) (k + 1) f fd ps (spX K c ok) := by
  refine fn_okG F Sc (fun vs H Q E q => ?_) fun cdv A outer s H vs Q E hr hgd q => ⟨_, hb cdv A outer s H E hr hgd, ?_⟩
  · obtain ⟨a, ws, rfl, hl, _⟩ := q
    rw [List.length_cons, hl, hc, hp]; rfl
  · obtain ⟨a, ws, rfl, hl, hok, ha, q⟩ := q
    rw [hc] at hl
    obtain ⟨v, rfl⟩ : ∃ v, ws = [v] := by
      match ws, hl with
      | [v], _ => exact ⟨v, rfl⟩
    have hs : L2.start N [V.ref a, v] = [some (.ref a), some v] := by
      unfold L2.start
      rw [hN]; rfl
    rw [hs]
    refine ⟨.ref a, rfl, hm a v H _ hok fun y => ?_⟩
    refine ⟨a, excA K c, [.str y], rfl, (by show 1 ≤ 1000; omega), T.ox, ha, ?_⟩
    refine ⟨v, rfl, .ref a, rfl, a, excA K c, rfl, T.ox, T.no fl (by rw [hc]; exact List.mem_cons_self ..), .inl ⟨ha, fun dx hd hne => ?_⟩⟩
    have := q dx hd hne
    rw [hc] at this
    exact this
theorem exd_swap {dx : Addr} {f1 f2 : Str} {y1 y2 : V} (h : f1 ≠ f2) : exd dx [(f2, y2), (f1, y1)] = exd dx [(f1, y1), (f2, y2)] := by
  have e : ∀ f : Str, ([(f2, y2), (f1, y1)] : List (Str × V)).lookup f = [(f1, y1), (f2, y2)].lookup f := fun f => by
    simp only [lookup_put]
    by_cases h1 : f = f1
    · subst h1; simp [h]
    · simp [h1]
  unfold exd
  simp only [e]
theorem fn_x2 {g : Bool} {k c : Nat} {N ps : List Str} {fl fl2 : Str} {ok : Hp → List V → Prop} {tm : TE} (T : XoK K c) (hc : efs c = [fl, fl2]) (hne2 : fl ≠ fl2) (hN : N.length = 3) (hp : ps.length = 3) (hm : ∀ a v v2 H Q, ok H [v, v2] → (∀ y : Str, Q (.str y) H) → tm [some (.ref a), some v, some v2] H Q) (F : FunD K x qual params body scope dvs kws f fd) (Sc : FnScope N ps scope)
    (hb : ∀ (cdv : Value) (A : Around) (outer : List Env) (s : Shared) (H : Hp) (E : XK), Room k (A.deeper (envOfC qual scope s.heap.objs.size f cdv)) → (g = true → Gd base A) → PSs (BX P w K mg base N qual scope f cdv A outer s H E) body (tX2 K tm fl fl2)) :
    FnOkG g P w K mg base (L2.CX P w) (k + 1) f fd ps (spX K c ok) := by
  refine fn_okG F Sc (fun vs H Q E q => ?_) fun cdv A outer s H vs Q E hr hgd q => ⟨_, hb cdv A outer s H E hr hgd, ?_⟩
  · obtain ⟨a, ws, rfl, hl, _⟩ := q
    rw [List.length_cons, hl, hc, hp]; rfl
  · obtain ⟨a, ws, rfl, hl, hok, ha, q⟩ := q
    rw [hc] at hl
    obtain ⟨v, v2, rfl⟩ : ∃ v v2, ws = [v, v2] := by
      match ws, hl with
      | [v, v2], _ => exact ⟨v, v2, rfl⟩
    have hs : L2.start N [V.ref a, v, v2] = [some (.ref a), some v, some v2] := by
      unfold L2.start
      rw [hN]; rfl
    rw [hs]
    refine ⟨.ref a, rfl, hm a v v2 H _ hok fun y => ?_⟩
    refine ⟨a, excA K c, [.str y], rfl, (by show 1 ≤ 1000; omega), T.ox, ha, ?_⟩
    refine ⟨v, rfl, .ref a, rfl, a, excA K c, rfl, T.ox, T.no fl (by rw [hc]; exact List.mem_cons_self ..), .inl ⟨ha, fun dx hd hne => ?_⟩⟩
    refine ⟨v2, rfl, .ref a, rfl, a, excA K c, rfl, T.ox, T.no fl2 (by rw [hc]; simp), .inr ⟨dx, [(fl, v)], upd_same, by rw [upd_ne hne]; exact upd_same, (by show 1 ≤ 900; omega), ?_⟩⟩
    have := q dx hd hne
    rw [hc] at this
    rw [exd_swap hne2]
    have e : upd (upd (upd H dx (exd dx [(fl, v)])) a (exo a (excA K c) (some dx))) dx (exd dx [(fl, v), (fl2, v2)]) = upd (upd H dx (exd dx [(fl, v), (fl2, v2)])) a (exo a (excA K c) (some dx)) := by
      funext b
      by_cases h1 : b = dx
      · rw [h1, upd_same, upd_ne hne, upd_same]
      · by_cases h2 : b = a
        · rw [h2, upd_ne (fun z => hne z.symm), upd_same, upd_same]
        · rw [upd_ne h1, upd_ne h2, upd_ne h1, upd_ne h2, upd_ne h1]
    rw [e]
    exact this
end
end DL
end T_DX9
section T_DX10
set_option Elab.async false
set_option linter.all false
set_option maxRecDepth 100000
set_option maxHeartbeats 400000
/-! DX10: own exceptions with fields: made as values, raised; isinstance of any exception; fields read. -/
namespace DL
open PySem PySem.Spec PyProof.Rows L2
/-- the classes whose text is made of the first field -/
def xMsg (c : Nat) : Bool := decide (c = 5) || decide (c = 6) || decide (c = 9)
def okFT (g : Bool) : Tr → Bool
  | .non => true
  | .int i => decide (i.natAbs.log2 < 1920) && decide ((toString i : Str).length ≤ fmtMost)
  | .str y => decide (y.length ≤ fmtMost)
  | .lst xs => g && (match rpd (.lst xs) with
    | some p => p.showable && decide (p.depth ≤ 100) && decide (p.shown.length ≤ fmtMost)
    | none => false)
  | _ => false
def okX (g : Bool) (c : Nat) (ds : List Tr) : Bool := !xMsg c || (match ds with
  | d :: _ => okFT g d
  | [] => false)
def okH (g : Bool) (K : PySem.W.Frag) (c : Nat) : Hp → List V → Prop := fun H ws => xMsg c = true → okMsg g K H ws
theorem okH_of {g : Bool} {K : PySem.W.Frag} {c : Nat} {S : Gh} {M : Me} {H : Hp} {ds : List Tr} {vs : List V} (o : OkH K S M H) (r : Reps K S ds vs) (h : okX g c ds = true) : okH g K c H vs := fun hx => by
  unfold okX at h
  rw [hx, Bool.not_true, Bool.false_or] at h
  cases ds with
  | nil => cases h
  | cons d ds =>
    simp only [Reps] at r
    obtain ⟨v, t, rfl, r1, _⟩ := r
    refine ⟨v, rfl, ?_⟩
    cases d with
    | non => simp only [Rep] at r1; exact .inl r1
    | int i =>
      simp only [Rep] at r1
      simp only [okFT, Bool.and_eq_true, decide_eq_true_eq] at h
      exact .inr (.inl ⟨i, r1, h.1, h.2⟩)
    | str y =>
      simp only [Rep] at r1
      simp only [okFT, decide_eq_true_eq] at h
      exact .inr (.inr (.inl ⟨y, r1, h⟩))
    | lst xs =>
      simp only [okFT, Bool.and_eq_true] at h
      obtain ⟨hg, h⟩ := h
      split at h
      · rename_i p e
        simp only [Bool.and_eq_true, decide_eq_true_eq] at h
        exact .inr (.inr (.inr ⟨hg, S, M, xs, p, o, r1, e, h.1.1, h.1.2, h.2⟩))
      · cases h
    | _ => simp [okFT] at h
/-- C(..) of an own exception with fields -/
structure Xm (g : Bool) (P : Program) (w : World) (K : PySem.W.Frag) (mg : Str → Option Value) (base : Heap) (k c : Nat) : Prop where
  ne : efs c ≠ []
  at_ : mg (enm c) = some (.ref (excA K c))
  xo : XoK K c
  ex : ∃ (fI : Addr) (fd : FuncData) (ps : List Str), PySem.W.findIn K (.ref (excA K c)) "__init__" = some (some (.ref fI)) ∧ PySem.W.typeIn K (.ref fI) = some (.type "function") ∧ FnOkG g P w K mg base (L2.CX P w) k fI fd ps (spX K c (okH g K c)) ∧ Binds K fd ps []
theorem Xm.up {g : Bool} {P : Program} {w : World} {K : PySem.W.Frag} {mg : Str → Option Value} {base : Heap} {j k c : Nat} (x : Xm g P w K mg base j c) (h : j ≤ k) : Xm g P w K mg base k c :=
  ⟨x.ne, x.at_, x.xo, let ⟨fI, fd, ps, a, b, F, d⟩ := x.ex; ⟨fI, fd, ps, a, b, F.mono h (fun z => z), d⟩⟩
theorem zip_map1 {as : List Str} {ws : List V} (h : ws.length = as.length) : ((as.zip ws).map Prod.fst) = as := List.map_fst_zip (by omega)
theorem zip_map2 {as : List Str} {ws : List V} (h : ws.length = as.length) : ((as.zip ws).map Prod.snd) = ws := List.map_snd_zip (by omega)
section
variable {X : Cx} {W : WX} {x : Str} {k c : Nat} {e : Expr} {es : List Expr} {ta : TA} {u : Rd (List Tr)} {p pos pos' : Pos}
/-- C(e, ..) as a value -/
def tXV (K : PySem.W.Frag) (g : Bool) (c : Nat) (ta : TA) : TE := fun σ H Q => ta σ H fun vs H1 => vs.length ≤ 1000 ∧ ∀ a, H1 a = none → spX K c (okH g K c) (.ref a :: vs) (upd H1 a (exo a (excA K c) none))
  (fun v H2 => v = .non ∧ ∃ (d : Addr) (fs : List (Str × V)), d ≠ a ∧ H2 a = some (exo a (excA K c) (some d)) ∧ H2 d = some (exd d fs) ∧ Q (.ref a) (upd (upd H2 d (.xd fs)) a (ExX (.ref (excA K c)) (some d) a))) (fun _ _ _ => False)
theorem pe_xv {g : Bool} (T : Xm g X.prog X.w X.K X.mg X.base k c) (hr : Room (k + 1) X.A) (hgd : g = true → Gd X.base X.A) (hx0 : Passes (L2.CX X.prog X.w) X (fun _ _ _ => False)) (hg : Gl X (enm c)) (ha : PA X (e :: es) ta)
    (hdb : (enm c == ("__debug__" : Str)) = false := by decide) (he : starEach (e :: es) X.env = (false, eval e X.env) :: starEach es X.env := by rfl) (hpl : (backTo pos (starEach es X.env)).any (·.1) = false := by rfl) :
    PE X (.Call (.Name (enm c) p) (e :: es) [] pos) (tXV X.K g c ta) := by
  obtain ⟨fI, fd, ps, iC, tI, F1, hb⟩ := T.ex
  have hm := T.at_
  have T0 := T.xo.ox
  refine ⟨fun pins s σ H Q I h => ?_⟩
  obtain ⟨nm, q, N, bs, bm, sn, sub, ab, col, dd, k0, k1, k2, k3, k5, hC, hbm⟩ := T0.cls
  refine wpAny_Call_Name_kw (ld_glob I hg hm ?_ hdb)
  refine PySem.W.callWith_K (h₀ := X.base) I.ok.mod.kin T0.kC (thn (ha.run pos pins s σ H _ I h) fun us s1 ⟨vs, H1, I1, r1, hz, q1⟩ => ⟨I1.kIn, ?_⟩) he hpl
  show wpAny _ _ (call (.ref (excA X.K c)) us) _ _ _
  obtain ⟨hp, g', dr, tk, os⟩ := s1
  have hsz : hp.objs.size ≤ hp.objs.size + 1 := Nat.le_succ _
  have hn : H1 (hp.objs.size + 1) = none := I1.hok.fresh hsz
  have hq := q1 (hp.objs.size + 1) hn
  have kk : ∀ b o, hp.get? b = some o → ((hp.push (PySem.W.kdv_tup us)).push (PySem.HandSPX.excO (excA X.K c) hp.objs.size)).get? b = some o := fun b o e => Heap.get?_push_of_some _ (Heap.get?_push_of_some _ e)
  have hget : ((hp.push (PySem.W.kdv_tup us)).push (PySem.HandSPX.excO (excA X.K c) hp.objs.size)).get? (hp.objs.size + 1) = some (PySem.HandSPX.excO (excA X.K c) hp.objs.size) := by heap_get
  have I2 : Inv X pins σ (upd H1 (hp.objs.size + 1) (exo (hp.objs.size + 1) (excA X.K c) none)) ⟨(hp.push (PySem.W.kdv_tup us)).push (PySem.HandSPX.excO (excA X.K c) hp.objs.size), g', dr, tk, os⟩ :=
    I1.laid (t' := tk) (a := hp.objs.size + 1) (o := exo (hp.objs.size + 1) (excA X.K c) none) (h' := (hp.push (PySem.W.kdv_tup us)).push (PySem.HandSPX.excO (excA X.K c) hp.objs.size)) kk hsz (exo_ok hget)
  have r2 : Vals (V.ref (hp.objs.size + 1) :: vs) (Value.ref (hp.objs.size + 1) :: us) := .cons rfl r1
  have hl : (Value.ref (hp.objs.size + 1) :: us ++ []).length = ps.length := by
    have e := r2.length
    rw [F1.len _ _ _ _ hq] at e
    rw [List.append_nil]
    exact e.symm
  have hus : us.length ≤ sizeLine := by
    rw [← Paired.length r1, sizeLine_eq]
    omega
  have hb1 := hb ⟨(hp.push (PySem.W.kdv_tup us)).push (PySem.HandSPX.excO (excA X.K c) hp.objs.size), g', dr, tk, os⟩ (Value.ref (hp.objs.size + 1) :: us) I2.kIn hl
  rw [List.append_nil] at hb1
  refine wpAny_call (PySem.HandSPX.call_own F.excBase_ValueError (fun Y => PySem.HandSPX.refsVE_contains Y bm hbm) (I1.kIn _ _ hC) (PySem.W.looks_findIn I1.kIn iC) (fun self => PySem.W.bind_fn I1.kIn self tI) hus
    (codeAny_mono (F1.run _ X.stack _ _ ⟨Value.ref (hp.objs.size + 1) :: us, []⟩ (Value.ref (hp.objs.size + 1) :: us) _ _ (fun _ _ _ => False) (hr.make (excA X.K c) us []) (fun z => hgd z) (I2.env0.make (excA X.K c) us []) hb1 r2 hq) fun r s' hq' => ?_))
  cases r with
  | error er => exact hx0 pins σ _ _ er s' I2 hq'
  | ok fl =>
    cases fl with
    | ret u =>
      obtain ⟨v, H2, I3, rv, ev, d, fs, hne, ea, ed, q2⟩ := I2.after hq'
      subst ev
      obtain ⟨t1, hoe⟩ := exo_at I3.hok ea
      obtain ⟨mA, hns, rel⟩ := exd_at I3.hok ed
      have J1 := I3.write (h' := s'.heap) (t' := s'.toks) (x := d) (e := d) (o := .xd fs) (by rw [ed]; exact True.intro) (.inl rfl) (fun _ _ _ z => z) (by obtain ⟨o, _, _, z, _⟩ := hns; exact ⟨o, z⟩) ⟨mA, hns, rel⟩
      have ea1 : upd H2 d (.xd fs) (hp.objs.size + 1) = some (exo (hp.objs.size + 1) (excA X.K c) (some d)) := by rw [upd_ne hne.symm]; exact ea
      have J2 := J1.write (h' := s'.heap) (t' := s'.toks) (x := hp.objs.size + 1) (e := hp.objs.size + 1) (o := ExX (.ref (excA X.K c)) (some d) (hp.objs.size + 1)) (by rw [ea1]; exact True.intro) (.inl rfl) (fun _ _ _ z => z) ⟨_, hoe⟩ (exX_ok hoe ⟨rfl, rfl⟩ rfl)
      exact ⟨rv, .ref (hp.objs.size + 1), _, J2, rfl, q2⟩
    | next => exact False.elim hq'
    | brk => exact False.elim hq'
    | cont => exact False.elim hq'
def dMkX (g : Bool) (c : Nat) (u : Rd (List Tr)) : Rd Tr := ⟨fun ρ M Q E => u.f ρ M (fun ds M1 => (ds.length = (efs c).length ∧ okX g c ds = true) ∧ Q (.exc c ds) M1) E, fun h h' q => u.mono (fun ds M1 z => ⟨z.1, h _ _ z.2⟩) h' q⟩
theorem efs_le (c : Nat) : (efs c).length ≤ 2 := by
  by_cases h : c < 12
  · have : ∀ c, c < 12 → (efs c).length ≤ 2 := by decide
    exact this c h
  · have e : efs c = [] := by
      unfold efs
      rw [List.getD_eq_getElem?_getD, List.getElem?_eq_none (by show etab.length ≤ c; exact Nat.le_of_not_lt h)]; rfl
    rw [e]; decide
/-- what is laid: the fields' dict, then the exception -/
theorem exc_new {K : PySem.W.Frag} {S : Gh} {M : Me} {H : Hp} {c : Nat} {ds : List Tr} {ws : List V} {a d : Addr} (o : OkH K S M H) (r : Reps K S ds ws) (hl : ws.length = (efs c).length) (ne : efs c ≠ []) (na : H a = none) (nd : H d = none) (hne : d ≠ a) :
    ∃ S', Gr S H S' (upd (upd H d (.xd ((efs c).zip ws))) a (ExX (.ref (excA K c)) (some d) a)) ∧ OkH K S' M (upd (upd H d (.xd ((efs c).zip ws))) a (ExX (.ref (excA K c)) (some d) a)) ∧ Rep K S' (.exc c ds) (.ref a) := by
  obtain ⟨o1, l1⟩ := o.tree (o := .xd ((efs c).zip ws)) nd
  have na1 : upd H d (.xd ((efs c).zip ws)) a = none := by rw [upd_ne hne.symm]; exact na
  obtain ⟨o2, l2⟩ := o1.tree (o := ExX (.ref (excA K c)) (some d) a) na1
  refine ⟨_, (gr_tree l1 nd).trans (gr_tree l2 na1), o2, ?_⟩
  simp only [Rep]
  refine ⟨a, rfl, .inl ⟨some d, upd_same, .inr ⟨d, _, rfl, l2.g _ _ upd_same, zip_map1 hl, ?_, ne⟩⟩⟩
  rw [zip_map2 hl]
  exact Reps.mono (l1.trans l2) _ _ r
theorem pd_xv {g : Bool} (tk : Takes X W) (T : Xm g X.prog X.w X.K X.mg X.base k c) (hr : Room (k + 1) X.A) (hgd : g = true → Gd X.base X.A) (hx : x = enm c) (hg : Gl X x) (ha : PDA X W (e :: es) u)
    (hdb : (x == ("__debug__" : Str)) = false := by decide) (he : starEach (e :: es) X.env = (false, eval e X.env) :: starEach es X.env := by rfl) (hpl : (backTo pos (starEach es X.env)).any (·.1) = false := by rfl) :
    PD X W (.Call (.Name x p) (e :: es) [] pos) (dMkX g c u) := by
  subst hx
  refine pe_imp (pe_xv T hr hgd (passes_call tk fun _ _ _ _ z => z.elim) hg ha hdb he hpl) fun σ H Q h => ?_
  obtain ⟨ρ, M, S, E, o, s, er, q⟩ := h
  refine ⟨ρ, M, S, E, o, s, er, u.mono (fun ds M1 q1 vs H1 S1 l1 o1 r1 => ?_) (fun _ _ z => z) q⟩
  obtain ⟨⟨hl, hok⟩, q2⟩ := q1
  have hl2 : vs.length = (efs c).length := by rw [← r1.length]; exact hl
  refine ⟨by have := efs_le c; omega, fun a na => ?_⟩
  refine ⟨a, vs, rfl, hl2, okH_of (o1.same (same_upd na)) r1 hok, upd_same, fun dx hd hne => ⟨rfl, dx, _, hne, upd_same, by rw [upd_ne hne]; exact upd_same, ?_⟩⟩
  have hd1 : H1 dx = none := by rw [upd_ne hne] at hd; exact hd
  obtain ⟨S2, l2, o2, r2⟩ := exc_new (c := c) o1 r1 hl2 T.ne na hd1 hne
  have e : upd (upd (upd (upd (upd H1 a (exo a (excA X.K c) none)) dx (exd dx ((efs c).zip vs))) a (exo a (excA X.K c) (some dx))) dx (.xd ((efs c).zip vs))) a (ExX (.ref (excA X.K c)) (some dx) a) = upd (upd H1 dx (.xd ((efs c).zip vs))) a (ExX (.ref (excA X.K c)) (some dx) a) := by
    funext b
    by_cases h1 : b = a
    · rw [h1, upd_same, upd_same]
    · by_cases h2 : b = dx
      · rw [h2, upd_ne hne, upd_same, upd_ne hne, upd_same]
      · simp only [upd_ne h1, upd_ne h2]
  rw [e]
  exact q2 _ _ S2 (l1.trans l2) o2 r2
/-- raise C(e, ..) -/
def sRaiseX (c : Nat) (u : Rd (List Tr)) : Sr := ⟨fun D ρ M => u.f ρ M (fun ds M1 => (ds.length = (efs c).length ∧ okX false c ds = true) ∧ D.er ρ (.exc c ds) M1) (D.er ρ), fun h q => u.mono (fun ds M1 z => ⟨z.1, h.er _ _ _ z.2⟩) (fun d M z => h.er _ d M z) q⟩
theorem pds_raiseX (hc : X.calm = true) (tk : Takes X W) (T : Xm false X.prog X.w X.K X.mg X.base k c) (hr : Room (k + 1) X.A) (hx : x = enm c) (hg : Gl X x) (ha : PDA X W (e :: es) u)
    (hdb : (x == ("__debug__" : Str)) = false := by decide) (he : starEach (e :: es) X.env = (false, eval e X.env) :: starEach es X.env := by rfl) (hpl : (backTo pos (starEach es X.env)).any (·.1) = false := by rfl) :
    PDS X W (.Raise (some (.Call (.Name x p) (e :: es) [] pos)) none pos') (sRaiseX c u) := by
  subst hx
  obtain ⟨fI, fd, ps, iC, tI, F1, hb⟩ := T.ex
  refine ps_imp (ps_raise hc tk (pmk_oex (dvs := []) T.xo.ox iC tI F1.ok hr hb .nil (passes_call tk fun _ _ _ _ z => z.elim) hg T.at_ ha hdb he hpl)) fun D σ H h => ?_
  obtain ⟨ρ, M, S, F, o, s, en, q⟩ := h
  refine ⟨ρ, M, S, F.er ρ, o, s, en.err s, u.mono (fun ds M1 q1 vs H1 S1 l1 o1 r1 => ?_) (fun _ _ z => z) q⟩
  obtain ⟨⟨hl, hok⟩, q2⟩ := q1
  have hl2 : vs.length = (efs c).length := by rw [← r1.length]; exact hl
  refine ⟨by have := efs_le c; omega, fun a na => ?_⟩
  rw [List.append_nil]
  refine ⟨a, vs, rfl, hl2, okH_of (o1.same (same_upd na)) r1 hok, upd_same, fun dx hd hne => ?_⟩
  have hd1 : H1 dx = none := by rw [upd_ne hne] at hd; exact hd
  refine ⟨rfl, dx, (efs c).zip vs, upd_same, by rw [upd_ne hne]; exact upd_same, hd1, ?_⟩
  have e : upd (del (upd (upd (upd H1 a (exo a (excA X.K c) none)) dx (exd dx ((efs c).zip vs))) a (exo a (excA X.K c) (some dx))) a) dx (.xd ((efs c).zip vs)) = upd H1 dx (.xd ((efs c).zip vs)) := by
    funext b
    by_cases h2 : b = dx
    · rw [h2, upd_same, upd_same]
    · by_cases h1 : b = a
      · rw [h1, upd_ne hne.symm, upd_ne hne.symm, del_same, na]
      · simp only [upd_ne h1, upd_ne h2, del_ne h1]
  rw [e]
  obtain ⟨o2, l2⟩ := o1.tree (o := .xd ((efs c).zip vs)) hd1
  refine en.er ρ (.exc c ds) M1 _ σ _ _ _ (l1.trans (gr_tree l2 hd1)) o2 ((s.mono l1.le).mono l2) ⟨rfl, .inr ⟨dx, _, rfl, upd_same, zip_map1 hl2, ?_, T.ne⟩⟩ q2
  rw [zip_map2 hl2]
  exact Reps.mono l2 _ _ r1
/-! ### X(e) as a value, a class without own fields -/
theorem pe_exc1X {C : Addr} {bmB : List Value} {B newId initId : String} {ta : TE} (F : ExcBaseFacts B newId initId bmB) (q : PySem.W.excIn X.K C bmB newId = true) (gC : X.mg x = some (.ref C)) (kC : PySem.W.keepIn X.K (.ref C) = true) (hg : Gl X x)
    (he : PE X e ta) (hs : starEach [e] X.env = (false, eval e X.env) :: starEach [] X.env := by rfl) (hdb : (x == ("__debug__" : Str)) = false := by decide) :
    PE X (.Call (.Name x p) [e] [] pos) (fun σ H Q => ta σ H fun _ H1 => ∀ a, H1 a = none → Q (.ref a) (upd H1 a (ExX (.ref C) none a))) := by
  refine ⟨fun pins s σ H Q I h => ?_⟩
  refine wpAny_Call_Name_kw (ld_glob I hg gC ?_ hdb)
  refine PySem.W.callWith_K (h₀ := X.base) I.ok.mod.kin kC ?_ hs (by rfl)
  rw [hs]
  show wpAny _ _ (spliced ((false, eval e X.env) :: backTo pos (starEach [] X.env))) _ _ s
  refine Calls.spliced_cons (thn (he.run pins s σ H _ I h) fun u s1 ⟨v, H1, I1, r1, q1⟩ => ?_)
  refine Calls.spliced_nil ⟨I1.kIn, ?_⟩
  show wpAny _ _ (call (.ref C) [u]) _ _ _
  obtain ⟨bm, N, nm, qn, bs, hdct, sn, sub, ab, col, dd, k0, k1, k2, k3, k5, mN, hC, hN, hni, T⟩ := exc_obj I1.kIn q
  refine wpAny_call_exc_subT F T hC hN hni (fun h' a hm => ?_) (by show 1 ≤ sizeLine; rw [sizeLine_eq]; omega)
  have hn : H1 a = none := I1.hok.gone hm.new
  obtain ⟨t, ht, _, _⟩ := hm.there
  exact ⟨.ref a, upd H1 a (ExX (.ref C) none a), I1.laidN hm.keeps hm.new hn (exX_ok ht ⟨rfl, rfl⟩ rfl), rfl, q1 a hn⟩
def dMkX0 (c : Nat) (t : Rd Tr) : Rd Tr := ⟨fun ρ M Q E => t.f ρ M (fun _ M1 => Q (.exc c []) M1) E, fun h h' q => t.mono (fun _ M1 z => h _ _ z) h' q⟩
theorem pd_xv0 {t : Rd Tr} (T : XcK X.K c) (hx : x = enm c) (gC : X.mg x = some (.ref (He.ga X.K x))) (hg : Gl X x) (he : PD X W e t) (hs : starEach [e] X.env = (false, eval e X.env) :: starEach [] X.env := by rfl) (hdb : (x == ("__debug__" : Str)) = false := by decide) :
    PD X W (.Call (.Name x p) [e] [] pos) (dMkX0 c t) := by
  subst hx
  refine pe_imp (pe_exc1X PySem.F.excBase_ValueError T.ex gC T.kp hg he hs hdb) fun σ H Q h => ?_
  obtain ⟨ρ, M, S, E, o, s, er, q⟩ := h
  refine ⟨ρ, M, S, E, o, s, er, t.mono (fun d M1 q1 v H1 S1 l1 o1 r1 a na => ?_) (fun _ _ z => z) q⟩
  obtain ⟨S2, l2, o2, r2⟩ := exc_rep (c := c) (ds := []) (cls := .ref (He.ga X.K (enm c))) (dd := none) o1 ⟨rfl, .inl ⟨rfl, T.no, rfl⟩⟩ na
  exact q1 _ _ S2 (l1.trans l2) o2 r2
/-! ### isinstance of any exception -/
/-- an exception object of ours -/
def ExAt (H : Hp) (D a : Addr) : Prop := ∃ dd, H a = some (ExX (.ref D) dd a) ∧ ∀ d, dd = some d → ∃ fs, H d = some (.xd fs)
theorem exAt_inst {pins : List (Addr × Obj)} {σ : L2.St} {H : Hp} {s : Shared} {D a : Addr} (I : Inv X pins σ H s) (h : ExAt H D a) : ∃ oe od, PySem.W.InstAt s.heap a oe D od := by
  obtain ⟨dd, ha, hd⟩ := h
  obtain ⟨⟨oe, vs, hget, hz, hv⟩, _, _⟩ := I.hok a _ ha
  have hn : PySem.W.notCls oe := by unfold PySem.W.notCls; rw [hv] <;> rfl
  cases dd with
  | none => exact ⟨oe, none, hget, hz.1, hn, by rw [hz.2]; trivial⟩
  | some d =>
    obtain ⟨fs, hx⟩ := hd d rfl
    have hx2 : ObjOk X.prog X.w H s.heap d (.xd fs) := I.hok d _ hx
    obtain ⟨mA, hns, _⟩ := hx2
    obtain ⟨o, es, ep, ho, hr⟩ := hns
    exact ⟨oe, some o, hget, hz.1, hn, by rw [hz.2]; exact ho⟩
def rIsA (K : PySem.W.Frag) : List V → Hp → VK → Prop := fun xs H Q => ∃ (a D : Addr) (c : V) (u : Value) (b : Bool), xs = [.ref a, c] ∧ ClsV c u ∧ ExAt H D a ∧ ExcC K D ∧ PySem.W.kitOne K (.ref D) u = some b ∧ Q (.bl b) H
theorem call_isA : CallR X (.builtin "isinstance") (rIsA X.K) := by
  intro pins s σ H xs us Q I r h
  obtain ⟨a, D, c, u, b, rfl, hcv, ha, C, e, q⟩ := h
  cases r with
  | cons rx rr =>
    cases rr with
    | cons rt rr =>
      cases rr
      cases rx
      have ec := hcv.eq rt
      subst ec
      obtain ⟨oe, od, J⟩ := exAt_inst I ha
      have hcl : (PySem.W.clsIn X.K D).isSome = true := by
        obtain ⟨cd, hc, _⟩ := PySem.W.any_some C.hd
        rw [hc]; rfl
      exact PySem.W.kia_one (PySem.W.kitx_exc hcl C.hg C.hk C.hs C.ha C.hn C.ht C.hm) I.kIn J e (fun z => nomatch z) fun tk => ⟨.bl b, H, I.kept (t' := tk) fun _ _ z => z, rfl, q⟩
theorem exAt_rep {K : PySem.W.Frag} {S : Gh} {M : Me} {H : Hp} {c : Nat} {ds : List Tr} {v : V} (o : OkH K S M H) (r : Rep K S (.exc c ds) v) (hc : c < 1000) : ∃ a, v = .ref a ∧ ExAt H (He.ga K (enm c)) a := by
  simp only [Rep] at r
  obtain ⟨a, rfl, ⟨dd, g, r2⟩ | ⟨c', q', e1, _⟩⟩ := r
  · refine ⟨a, rfl, dd, o.sub _ _ g, fun d hd => ?_⟩
    rcases r2 with ⟨r2, _⟩ | ⟨d', fs, e1, e2, _⟩
    · rw [hd] at r2; cases r2
    · rw [hd] at e1; cases e1
      exact ⟨fs, o.sub _ _ e2⟩
  · omega
def dIsA (ec : List Nat) (ce : Nat) (t : Rd Tr) : Rd Tr := ⟨fun ρ M Q E => t.f ρ M (fun d M1 => match d with
  | .exc c _ => c ∈ ec ∧ Q (.bl (excSub c ce)) M1
  | _ => False) E, fun {ρ M Q Q' E E'} h h' q => t.mono (fun d M1 z => by
    split at z
    · exact ⟨z.1, h _ _ z.2⟩
    · exact z.elim) h' q⟩
theorem pd_isA {ec : List Nat} {ce : Nat} {t : Rd Tr} {q : Pos} (T : XsK X.K ec) (hce : ce ∈ ec) (hx : x = enm ce) (hg : Gl X "isinstance") (hm : X.mg "isinstance" = none) (hb : bootBuiltins "isinstance" = some (.builtin "isinstance")) (he : PD X W e t) (hgx : Gl X x) (gC : X.mg x = some (.ref (He.ga X.K x)))
    (hdb : (x == ("__debug__" : Str)) = false := by decide)
    (hs : starEach [e, .Name x q] X.env = (false, eval e X.env) :: starEach [.Name x q] X.env := by rfl) (hs2 : starEach [.Name x q] X.env = (false, eval (.Name x q) X.env) :: starEach [] X.env := by rfl) (hpl : (backTo pos (starEach [.Name x q] X.env)).any (·.1) = false := by rfl) :
    PD X W (.Call (.Name "isinstance" p) [e, .Name x q] [] pos) (dIsA ec ce t) := by
  subst hx
  refine pe_imp (pe_callB call_isA hg hm hb (pa_cons he (pa_cons (pe_glob (v := .ref (He.ga X.K (enm ce))) hgx gC rfl hdb) pa_nil hs2) hs) (by decide) (by decide) hs hpl) fun σ H Q h => ?_
  obtain ⟨ρ, M, S, E, ok, s, er, q⟩ := h
  refine ⟨ρ, M, S, E, ok, s, er, t.mono (fun d M1 q1 v H1 S1 l1 o1 r1 => ?_) (fun _ _ z => z) q⟩
  cases d with
  | exc c ds =>
    obtain ⟨hc, q2⟩ := q1
    obtain ⟨a, rfl, ha⟩ := exAt_rep o1 r1 (T.lt c hc)
    exact ⟨a, He.ga X.K (enm c), _, _, excSub c ce, rfl, ClsV.own _, ha, T.cl c hc, T.kit c hc ce hce, q2 _ H1 S1 l1 o1 rep_bl⟩
  | _ => exact q1.elim
/-- isinstance(x, ValueError) -/
structure VeK (K : PySem.W.Frag) (ec : List Nat) : Prop where
  kit : ∀ c ∈ ec, PySem.W.kitOne K (.ref (He.ga K (enm c))) (.type "ValueError") = some true
def veB (ec : List Nat) (K : PySem.W.Frag) : Bool := ec.all fun c => decide (PySem.W.kitOne K (.ref (He.ga K (enm c))) (.type "ValueError") = some true)
theorem veB_ok {K : PySem.W.Frag} {ec : List Nat} (h : veB ec K = true) : VeK K ec := ⟨fun c hc => of_decide_eq_true (List.all_eq_true.mp h c hc)⟩
def dIsVE (ec : List Nat) (t : Rd Tr) : Rd Tr := ⟨fun ρ M Q E => t.f ρ M (fun d M1 => match d with
  | .exc c _ => c ∈ ec ∧ Q (.bl true) M1
  | _ => False) E, fun {ρ M Q Q' E E'} h h' q => t.mono (fun d M1 z => by
    split at z
    · exact ⟨z.1, h _ _ z.2⟩
    · exact z.elim) h' q⟩
theorem bt_VE : bootBuiltins "ValueError" = some (.type "ValueError") := by decide +kernel
theorem pd_isVE {ec : List Nat} {t : Rd Tr} {q : Pos} (T : XsK X.K ec) (V : VeK X.K ec) (hg : Gl X "isinstance") (hm : X.mg "isinstance" = none) (hb : bootBuiltins "isinstance" = some (.builtin "isinstance")) (he : PD X W e t) (hgx : Gl X "ValueError") (hmx : X.mg "ValueError" = none)
    (hs : starEach [e, .Name "ValueError" q] X.env = (false, eval e X.env) :: starEach [.Name "ValueError" q] X.env := by rfl) (hs2 : starEach [.Name "ValueError" q] X.env = (false, eval (.Name "ValueError" q) X.env) :: starEach [] X.env := by rfl) (hpl : (backTo pos (starEach [.Name "ValueError" q] X.env)).any (·.1) = false := by rfl) :
    PD X W (.Call (.Name "isinstance" p) [e, .Name "ValueError" q] [] pos) (dIsVE ec t) := by
  refine pe_imp (pe_callB call_isA hg hm hb (pa_cons he (pa_cons (pc_b (n := "ValueError") hgx hmx bt_VE) pa_nil hs2) hs) (by decide) (by decide) hs hpl) fun σ H Q h => ?_
  obtain ⟨ρ, M, S, E, ok, s, er, q⟩ := h
  refine ⟨ρ, M, S, E, ok, s, er, t.mono (fun d M1 q1 v H1 S1 l1 o1 r1 => ?_) (fun _ _ z => z) q⟩
  cases d with
  | exc c ds =>
    obtain ⟨hc, q2⟩ := q1
    obtain ⟨a, rfl, ha⟩ := exAt_rep o1 r1 (T.lt c hc)
    exact ⟨a, He.ga X.K (enm c), _, _, true, rfl, ClsV.ty _, ha, T.cl c hc, V.kit c hc, q2 _ H1 S1 l1 o1 rep_bl⟩
  | _ => exact q1.elim
/-! ### e.f of an exception -/
structure XfK (K : PySem.W.Frag) (c : Nat) (f : Str) : Prop where
  xf : XfC K (excA K c)
  no : PySem.W.findIn K (.ref (excA K c)) f = some none
/-- c: the class, i: the field's place -/
def xFld (alts : List (Nat × Nat)) : Tr → Option Tr
  | .exc c ds => (alts.lookup c).bind fun i => ds[i]?
  | _ => none
def dXFld (alts : List (Nat × Nat)) (t : Rd Tr) : Rd Tr := ⟨fun ρ M Q E => t.f ρ M (fun d M1 => onSome (xFld alts d) fun z => Q z M1) E, fun h h' q => t.mono (fun d M1 => onSome_mono fun z => h z M1) h' q⟩
theorem pd_xfld {alts : List (Nat × Nat)} {f : Str} {t : Rd Tr} (hf : ∀ c i, (c, i) ∈ alts → c < 1000 ∧ (efs c)[i]? = some f ∧ (efs c).Nodup ∧ XfK X.K c f) (he : PD X W e t) (hb : attributeBase e f X.env (eval e X.env) = eval e X.env) : PD X W (.Attribute e f pos) (dXFld alts t) := by
  refine ⟨fun pins s σ H Q I h => ?_⟩
  obtain ⟨ρ, M, S, E, o, sl, er, q⟩ := h
  refine attr_of hb (thn (he.run pins s σ H (fun u H1 => ∃ z M1 S1 d, Gr S H S1 H1 ∧ OkH X.K S1 M1 H1 ∧ Rep X.K S1 d u ∧ xFld alts d = some z ∧ ∀ v H' S', Gr S H S' H' → OkH X.K S' M1 H' → Rep X.K S' z v → Q v H') I ⟨ρ, M, S, E, o, sl, er, t.mono (fun d M1 q1 v H1 S1 l1 o1 r1 => ?_) (fun _ _ z => z) q⟩) fun u s1 hh => ?_)
  · obtain ⟨z, e1, q2⟩ := onSome_of q1
    exact ⟨z, M1, S1, d, l1, o1, r1, e1, q2⟩
  · obtain ⟨x, H1, I1, rx, z, M1, S1, d, l1, o1, r1, e1, q2⟩ := hh
    cases d with
    | exc c ds =>
      simp only [xFld] at e1
      obtain ⟨i, e2, e3⟩ := Option.bind_eq_some_iff.mp e1
      obtain ⟨hc, hfi, hnd, X0⟩ := hf c i (lookup_mem e2)
      simp only [Rep] at r1
      obtain ⟨a, rfl, ⟨dd, g, r2⟩ | ⟨c', q', e4, _⟩⟩ := r1
      case inr => omega
      rcases r2 with ⟨_, _, rfl⟩ | ⟨d', fs, rfl, g2, hfs, r3, _⟩
      · simp at e3
      obtain rfl : u = Value.ref a := rx
      obtain ⟨⟨oe, vs, hget, hz, hv⟩, _, _⟩ := I1.hok a _ (o1.sub _ _ g)
      have hx2 : ObjOk X.prog X.w H1 s1.heap d' (.xd fs) := I1.hok d' _ (o1.sub _ _ g2)
      obtain ⟨mA, hns, hr⟩ := hx2
      obtain ⟨v, ev, rv⟩ := r3.get e3
      have hlk : fs.lookup f = some v := lookup_idx hfs hnd hfi ev
      obtain ⟨od, ho, hl⟩ := lookIn_ns hns
      obtain ⟨w, hw, rw'⟩ := RelO.some_of (v := v) (o := mA f) (by rw [← hlk]; exact hr f)
      have J : PySem.W.InstAt s1.heap a oe (excA X.K c) (some od) := ⟨hget, hz.1, by unfold PySem.W.notCls; rw [hv] <;> rfl, by rw [hz.2]; exact ho⟩
      exact HandSPX.exc_get I1.kIn J X0.xf.ga X0.xf.gg X0.xf.exC (PySem.W.findObj_own X0.xf.hdC X0.no rfl (by rw [hl, hw])) (handed_of rw') ⟨v, H1, I1.tok _, rw', q2 v H1 S1 l1 o1 rv⟩
    | _ => simp [xFld] at e1
end
end DL
end T_DX10
section T_DX11
set_option Elab.async false
set_option linter.all false
set_option maxRecDepth 100000
set_option maxHeartbeats 400000
/-! DX11: own exceptions with fields: what is asked of the written part, as Bools. -/
namespace DL
open PySem PySem.Spec PyProof.Rows L2
def oexB (K : PySem.W.Frag) (C : Addr) : Bool := match K.lookup C with
  | some ⟨.type "type", _, .cls cd, sl⟩ => (match cd.mro, sl.toList with
    | .ref C' :: bm, [_, _, _, _, some (.builtin n), _] => C' == C && n == "ValueError.__new__" && !cd.hasDel && cd.hasDict && PySem.HandSPX.refsVE bm
    | _, _ => false)
  | _ => false
theorem oexB_ok {K : PySem.W.Frag} {C : Addr} (q : oexB K C = true) : ∃ nm q N bs bm sn sub ab col dd k0 k1 k2 k3 k5, K.lookup C = some (excClassObj nm q C N bs bm true sn sub ab col dd k0 k1 k2 k3 k5 "ValueError.__new__") ∧ PySem.HandSPX.refsVE bm = true := by
  unfold oexB at q
  split at q
  · rename_i dd cd sl ho
    split at q
    · rename_i C' bm k0 k1 k2 k3 n k5 hm hs
      simp only [Bool.and_eq_true, beq_iff_eq, Bool.not_eq_true'] at q
      obtain ⟨⟨⟨⟨rfl, rfl⟩, hdel⟩, hdct⟩, ht⟩ := q
      obtain ⟨nm, bs, mro, ns, qn, hd, sn, sub, ab, col, del⟩ := cd
      dsimp only at hm hdel hdct
      subst hm hdel hdct
      have hsl : sl = #[k0, k1, k2, k3, some (.builtin "ValueError.__new__"), k5] := by
        obtain ⟨l⟩ := sl
        simp only at hs
        rw [hs]
      subst hsl
      exact ⟨nm, qn, ns, bs, bm, sn, sub, ab, col, dd, k0, k1, k2, k3, k5, ho, ht⟩
    · cases q
  · cases q
def xoB (c : Nat) (K : PySem.W.Frag) : Bool := oexB K (excA K c) && (decide (PySem.W.findIn K (.ref (excA K c)) "__setattr__" = some (some (.builtin "object.__setattr__"))) && (decide (PySem.W.subIn K (.ref (excA K c)) (.type "BaseException") = some true) &&
  (decide (PySem.W.typeIn K (.ref (excA K c)) = some (.type "type")) && (PySem.W.keepIn K (.ref (excA K c)) && ((efs c).all fun f => decide (PySem.W.findIn K (.ref (excA K c)) f = some none))))))
theorem xoB_ok {K : PySem.W.Frag} {c : Nat} (h : xoB c K = true) : XoK K c := by
  simp only [xoB, Bool.and_eq_true, decide_eq_true_eq] at h
  obtain ⟨h1, h2, h3, h4, h5, h6⟩ := h
  exact ⟨⟨oexB_ok h1, h2, h3, h4, h5⟩, fun f hf => of_decide_eq_true (List.all_eq_true.mp h6 f hf)⟩
def xiB (K : PySem.W.Frag) : Bool := PySem.W.readsIn K (He.ga K "CaseError") (.type "type") && (decide (PySem.W.specialIn K (.ref (He.ga K "CaseError")) "__getattribute__" = some (some (.builtin "type.__getattribute__"))) &&
  (match PySem.W.findCls K (.ref (He.ga K "CaseError")) (.type "type") "__init__" with
  | some (.val (.builtin n)) => n == "ValueError.__init__"
  | _ => false))
theorem xiB_ok {K : PySem.W.Frag} (h : xiB K = true) : XiK K := by
  simp only [xiB, Bool.and_eq_true, decide_eq_true_eq] at h
  obtain ⟨h1, h2, h3⟩ := h
  refine ⟨h1, h2, ?_⟩
  split at h3
  · rename_i n e
    rw [e, beq_iff_eq.mp h3]
  · cases h3
def xkB (c : Nat) (K : PySem.W.Frag) : Bool := xfB K (excA K c)
theorem xfK_of {K : PySem.W.Frag} {c : Nat} {f : Str} (h : xkB c K = true) (o : XoK K c) (hf : f ∈ efs c) : XfK K c f := ⟨xfB_ok h, o.no f hf⟩
section
variable {P : Program} {w : World} {K : PySem.W.Frag} {mg : Str → Option Value} {base : Heap}
theorem xm_of {g : Bool} {k c : Nat} {f : Addr} {fd : FuncData} {ps : List Str} (ne : efs c ≠ []) (at_ : mg (enm c) = some (.ref (excA K c))) (o : XoK K c) (M : Meth K (excA K c) "__init__" f) (F : FnOkG g P w K mg base (L2.CX P w) k f fd ps (spX K c (okH g K c))) (hb : Binds K fd ps []) : Xm g P w K mg base k c :=
  ⟨ne, at_, o, f, fd, ps, M.at_, beq_iff_eq.mp M.fn, F, hb⟩
theorem hmsg1 {g : Bool} {c : Nat} (hx : xMsg c = true) : ∀ a v H (Q : VK), okH g K c H [v] → (∀ y : Str, Q (.str y) H) → tMsg g K [some (.ref a), some v] H Q := fun a v H Q h q => by
  obtain ⟨v', e, hc⟩ := h hx
  cases e
  exact ⟨v, rfl, hc, q⟩
end
end DL
end T_DX11
section T_HD2
set_option Elab.async false
set_option linter.all false
set_option maxRecDepth 100000
set_option maxHeartbeats 400000
/-! HD2 (HD1, and the table of statics): the head's Hook: facts by names, one Bool of one's own, the dict of modules, the tables of the law's defs. -/
namespace DL
open PySem PySem.Spec PyProof.Rows L2
def sysB (g : Addr → Option Obj) : Bool := match g sysModules with
  | some o => (match o.data with
    | .dict _ _ => true
    | _ => false)
  | none => false
theorem sysB_ok {h : Heap} (e : sysB h.get? = true) : ∃ o es ep, h.get? sysModules = some o ∧ o.data = .dict es ep := by
  unfold sysB at e
  cases q : h.get? sysModules with
  | none => rw [q] at e; cases e
  | some o =>
    rw [q] at e
    dsimp only at e
    split at e
    · rename_i es ep hd
      exact ⟨o, es, ep, rfl, hd⟩
    · cases e
/-- the defs of the law that may have lambdas: their tables are empty, and told by ll -/
def ttB (ll : List Str) (K : PySem.W.Frag) : Bool := (LN.all fun x => !isGlo K x || decide (x ∈ ll)) && decide (((TBs K).map Prod.fst).Nodup)
abbrev lls (ll : List Str) : List He.Defn := ll.map fun x => (x, none)
abbrev AlT : Type := He.AlD × (Bool × Bool)
def obsT (n : Nat) (fa : List He.Fa) (fn : List He.DefD) (ll : List Str) (ex : PySem.W.Frag → Bool) (g : Addr → Option Obj) : AlT :=
  (He.obsD fa fn (He.frT g ((He.asD g n ++ [cStatics]))), (ex (He.frT g ((He.asD g n ++ [cStatics]))) && (ttB ll (He.frT g ((He.asD g n ++ [cStatics]))) && He.tabsB g (lls ll) (He.frT g ((He.asD g n ++ [cStatics]))))), sysB g)
/-- what is told of the written part K -/
structure SaysG (fa : List He.Fa) (fn : List He.DefD) (ll : List Str) (ex : PySem.W.Frag → Bool) (h : Heap) (K : PySem.W.Frag) : Prop where
  d : He.SaysD fa fn K
  ex : ex K = true
  tt : ttB ll K = true
  hd : ∀ p ∈ lls ll, PySem.W.codeHdIn K (He.cT K p).1 (He.cT K p).2 = true
  out : ∀ p ∈ lls ll, K.lookup (He.cT K p).2 = none
  empty : ∀ p ∈ lls ll, h.get? (He.cT K p).2 = some tab0
theorem saysG_of {n : Nat} {fa : List He.Fa} {fn : List He.DefD} {ll : List Str} {ex : PySem.W.Frag → Bool} {h : Heap} (e : obsT n fa fn ll ex h.get? = (He.valD fn, true, true)) : SaysG fa fn ll ex h (He.frT h.get? ((He.asD h.get? n ++ [cStatics]))) := by
  have e1 : He.obsD fa fn (He.frT h.get? ((He.asD h.get? n ++ [cStatics]))) = He.valD fn := congrArg (fun z : AlT => z.1) e
  have e2 : (ex (He.frT h.get? ((He.asD h.get? n ++ [cStatics]))) && (ttB ll (He.frT h.get? ((He.asD h.get? n ++ [cStatics]))) && He.tabsB h.get? (lls ll) (He.frT h.get? ((He.asD h.get? n ++ [cStatics]))))) = true := congrArg (fun z : AlT => z.2.1) e
  simp only [Bool.and_eq_true] at e2
  obtain ⟨h1, h2, h3⟩ := e2
  have key : ∀ p ∈ lls ll, PySem.W.codeHdIn (He.frT h.get? ((He.asD h.get? n ++ [cStatics]))) (He.cT (He.frT h.get? ((He.asD h.get? n ++ [cStatics]))) p).1 (He.cT (He.frT h.get? ((He.asD h.get? n ++ [cStatics]))) p).2 = true ∧ ∃ o, h.get? (He.cT (He.frT h.get? ((He.asD h.get? n ++ [cStatics]))) p).2 = some o ∧ He.emptyTab o = true := fun p hp => by
    have h4 := List.all_eq_true.mp h3 p hp
    simp only [Bool.and_eq_true] at h4
    refine ⟨h4.1, ?_⟩
    have h5 := h4.2
    split at h5
    · rename_i o q
      exact ⟨o, q, h5⟩
    · cases h5
  exact ⟨e1, h1, h2, fun p hp => (key p hp).1, fun p hp => by
    obtain ⟨_, o, q, z⟩ := key p hp
    exact He.frT_none q z, fun p hp => by
    obtain ⟨_, o, q, z⟩ := key p hp
    rw [q, He.emptyTab_eq z]⟩
def hookT (n : Nat) (fa : List He.Fa) (fn : List He.DefD) (ll : List Str) (ex : PySem.W.Frag → Bool) : PySem.W.Hook where
  α := AlT
  obs := fun s => obsT n fa fn ll ex s.heap.get?
  val := fun _ => (He.valD fn, true, true)
  says := fun _ h => (∃ K : PySem.W.Frag, K.In h ∧ SaysG fa fn ll ex h K) ∧ ∃ o es ep, h.get? sysModules = some o ∧ o.data = .dict es ep
  of := fun _ s e => ⟨⟨_, He.frT_in, saysG_of e⟩, sysB_ok (congrArg (fun z : AlT => z.2.2) e)⟩
  keeps := fun _ _ _ ⟨⟨K, hK, c⟩, o, es, ep, h1, h2⟩ k => ⟨⟨K, PySem.W.Frag.In.keeps hK k, ⟨c.d, c.ex, c.tt, c.hd, c.out, fun p hp => k _ _ (c.empty p hp)⟩⟩, o, es, ep, k _ _ h1, h2⟩
theorem obsT_eq {n : Nat} {fa : List He.Fa} {fn : List He.DefD} {ll : List Str} {ex : PySem.W.Frag → Bool} {g : Addr → Option Obj} {s : Shared} (h : ∀ a, g a = s.heap.get? a) : obsT n fa fn ll ex g = (hookT n fa fn ll ex).obs s := by
  have e : g = s.heap.get? := funext h
  rw [e] <;> rfl
section
variable {fa : List He.Fa} {fn : List He.DefD} {ll : List Str} {ex : PySem.W.Frag → Bool} {h : Heap} {K : PySem.W.Frag}
/-- the law's code objects and their tables -/
abbrev csOf (K : PySem.W.Frag) (ll : List Str) : List (Addr × Addr) := ll.map fun x => He.cT K (x, none)
theorem csOf_mem {p : Addr × Addr} (hp : p ∈ csOf K ll) : ∃ x, x ∈ ll ∧ p = He.cT K (x, none) := by
  obtain ⟨x, hx, e⟩ := List.mem_map.mp hp
  exact ⟨x, hx, e.symm⟩
theorem SaysG.inll (c : SaysG fa fn ll ex h K) {x : Str} (hx : x ∈ LN) (hg : isGlo K x = true) : x ∈ ll := by
  have h1 := (Bool.and_eq_true_iff.mp c.tt).1
  have h2 := List.all_eq_true.mp h1 x hx
  rw [hg, Bool.not_true, Bool.false_or] at h2
  exact of_decide_eq_true h2
theorem SaysG.tabK (c : SaysG fa fn ll ex h K) : TabK K := ⟨of_decide_eq_true (Bool.and_eq_true_iff.mp c.tt).2⟩
theorem SaysG.tabAll (c : SaysG fa fn ll ex h K) {mg : Str → Option Value} {base : Heap} (T : ∀ p ∈ csOf K ll, LamX.TabB base mg p.1 p.2) : TabAll K mg base := fun x hx hg => T _ (List.mem_map.mpr ⟨x, c.inll hx hg, rfl⟩)
/-- at the law's call all tables are empty -/
theorem SaysG.start (c : SaysG fa fn ll ex h K) {H : Hp} (hH : ∀ p ∈ csOf K ll, H p.2 = some (.tbl #[])) : TX K H := fun p hp => by
  obtain ⟨x, hx, rfl⟩ := List.mem_map.mp hp
  obtain ⟨h1, h2⟩ := List.mem_filter.mp hx
  exact LamX.TabS.nil (hH _ (List.mem_map.mpr ⟨x, c.inll h1 h2, rfl⟩))
end
/-- a class of the text, as isinstance asks -/
def insB (K : PySem.W.Frag) (x : Str) : Bool := (He.Fa.cls x).ok K && (decide (PySem.W.findIn K (.ref (He.ga K x)) "__class__" = some (some (.builtin "object.__class__"))) && (decide (PySem.W.specialIn K (.builtin "object.__class__") "__get__" = some (some (.builtin "getset_descriptor.__get__"))) &&
  (decide (PySem.W.takesIn K (.builtin "object.__class__") = some true) && decide (PySem.W.mroIn K (He.ga K x) (.type "object") = some true))))
def isaB (cl : List Nat) (K : PySem.W.Frag) : Bool := (cl.all fun c => insB K (cnm c)) && (tags cl).all fun g => (tags cl).all fun c => decide (PySem.W.kitOne K (g.val K) (c.val K) = some (isa g c))
theorem isaB_ok {cl : List Nat} {K : PySem.W.Frag} (h : isaB cl K = true) : IsaOk K cl := by
  obtain ⟨h1, h2⟩ := Bool.and_eq_true_iff.mp h
  refine ⟨fun c hc => ?_, fun g hg c hc => of_decide_eq_true (List.all_eq_true.mp (List.all_eq_true.mp h2 g hg) c hc)⟩
  have h3 := List.all_eq_true.mp h1 c hc
  simp only [insB, Bool.and_eq_true, decide_eq_true_eq] at h3
  obtain ⟨a, b, c, d, e⟩ := h3
  exact ⟨He.cls_ok a, b, c, d, e⟩
/-- a class without an own __init__ -/
def mk0B (K : PySem.W.Frag) (x : Str) : Bool := PySem.W.makesIn K (He.ga K x) && (decide (PySem.W.findIn K (.ref (He.ga K x)) "__init__" = some (some (.builtin "object.__init__"))) && (decide (PySem.W.mroIn K (He.ga K x) (.type "object") = some true) && PySem.W.keepIn K (.ref (He.ga K x))))
theorem mk0B_ok {K : PySem.W.Frag} {x : Str} (h : mk0B K x = true) : Mk0 K (He.ga K x) := by
  simp only [mk0B, Bool.and_eq_true, decide_eq_true_eq] at h
  obtain ⟨a, b, c, d⟩ := h
  exact ⟨a, b, c, d⟩
/-- a def's default: an empty tuple -/
def dtB (K : PySem.W.Frag) (p : Str × Option Str) (i : Nat) : Bool := match K.lookup (He.dflAt p i K) with
  | some ⟨.type c, _, .seq its _, _⟩ => decide (c = "tuple") && decide (its.size = 0)
  | _ => false
theorem dtB_ok {K : PySem.W.Frag} {p : Str × Option Str} {i : Nat} (h : dtB K p i = true) (H : Hp) : SqT K H (He.dflAt p i K) [] := by
  unfold dtB at h
  split at h
  · rename_i c dd its n sl q
    simp only [Bool.and_eq_true, decide_eq_true_eq] at h
    obtain ⟨h1, h2⟩ := h
    have h3 : its = #[] := Array.eq_empty_of_size_eq_zero h2
    subst h1 h3
    exact .inr ⟨_, #[], n, q, rfl, rfl, by decide, .nil⟩
  · cases h
end DL
end T_HD2
section T_LawR
set_option Elab.async false
set_option linter.all false
set_option maxRecDepth 100000
set_option maxHeartbeats 8000000
namespace DL
open PySem PySem.Spec PyProof.Rows L2
abbrev ec : List Nat := [0, 1, 2, 3, 4, 5, 6, 7, 8, 9, 10, 11]
abbrev cl : List Nat := []
abbrev xf_at : List (Nat × Nat) := [(5, 0)]
abbrev xf_place : List (Nat × Nat) := [(6, 0)]
abbrev xf_one : List (Nat × Nat) := [(7, 0)]
abbrev xf_value : List (Nat × Nat) := [(8, 0)]
abbrev xf_line : List (Nat × Nat) := [(9, 0)]
abbrev xf_name : List (Nat × Nat) := [(10, 0)]
abbrev xf_other : List (Nat × Nat) := [(7, 1)]
/-- BadCase.__init__ -/
abbrev N_BadCase__init : List Str := ["self", "at"]
/-- Refused.__init__ -/
abbrev N_Refused__init : List Str := ["self", "place"]
/-- NoInverse.__init__ -/
abbrev N_NoInverse__init : List Str := ["self", "one", "other"]
/-- NeverHad.__init__ -/
abbrev N_NeverHad__init : List Str := ["self", "value"]
/-- BadText.__init__ -/
abbrev N_BadText__init : List Str := ["self", "line"]
/-- BadName.__init__ -/
abbrev N_BadName__init : List Str := ["self", "name"]
/-- _law_begun -/
abbrev N_law_begun : List Str := ["_law_script", "_law_cells", "_law_cell"]
def r_law_begun_1 : Sr :=
  (sAsg (.nm 1) (dLcX false [2] (dItems (dVar 0)) (.nm 2) dTrue (dCall absF (dCons (dVar 2) dNil))))
def r_law_begun_2 : Sr :=
  (sRet (dDispC [((dC (.str "great")), (dLcX true [2] (dItems (dVar 1)) (.nm 2) (dTest (dOp geT (dVar 2) (dOp powT (dC (.int 10)) (dC (.int 18))))) (dOp subT (dVar 2) (dOp powT (dC (.int 10)) (dC (.int 18)))))), ((dC (.str "cells")), (dVar 1)), ((dC (.str "rest")), (dC (.int 0))), ((dC (.str "turn")), (dC (.int 0)))]))
def r_law_begun : Sr :=
  (sSeq (r_law_begun_1) (r_law_begun_2))
/-- _law_take -/
abbrev N_law_take : List Str := ["_law_draw", "_law_many", "_law_found", "_law_mixed", "_law_cell", "_law_turn"]
def r_law_take_1 : Sr :=
  (sIf (dAndT (dTest (dOp eqT (dOp dictGet (dVar 0) (dC (.str "rest"))) (dC (.int 0)))) (dTest (dOp neT (dOp dictGet (dVar 0) (dC (.str "great"))) (dLst dNil)))) (sDSet (dVar 0) (dC (.str "rest")) (dMthL popF (dOp dictGet (dVar 0) (dC (.str "great"))) (dCons (dC (.int 0)) dNil))) sNil)
def r_law_take_2_a1 : Sr :=
  (sDSet (dVar 0) (dC (.str "turn")) (dOp addT (dOp dictGet (dVar 0) (dC (.str "turn"))) (dC (.int 1))))
def r_law_take_2_a2 : Sr :=
  (sAsg (.nm 3) (dOp addT (dOp mulT (dC (.int 7919)) (dOp dictGet (dVar 0) (dC (.str "turn")))) (dCall lenF (dCons (dOp dictGet (dVar 0) (dC (.str "cells"))) dNil))))
def r_law_take_2_a3 : Sr :=
  (sFor (dItems (dOp dictGet (dVar 0) (dC (.str "cells")))) (.nm 4) (sAsg (.nm 3) (dOp modT (dCall intF (dCons (dOp addT (dOp addT (dOp mulT (dVar 3) (dC (.int 48271))) (dVar 4)) (dC (.int 11))) dNil)) (dC (.int 2147483647)))))
def r_law_take_2_a4 : Sr :=
  (sFor (dRange1 (dCons (dC (.int 3)) dNil)) (.nm 5) (sAsg (.nm 3) (dOp modT (dCall intF (dCons (dOp addT (dOp addT (dOp mulT (dVar 3) (dVar 3)) (dOp mulT (dC (.int 16807)) (dVar 3))) (dC (.int 13))) dNil)) (dC (.int 2305843009213693951)))))
def r_law_take_2_a : Sr :=
  (sSeq (r_law_take_2_a1) (sSeq (r_law_take_2_a2) (sSeq (r_law_take_2_a3) (sSeq (r_law_take_2_a4) (sDSet (dVar 0) (dC (.str "rest")) (dVar 3))))))
def r_law_take_2 : Sr :=
  (sIf (dTest (dOp eqT (dOp dictGet (dVar 0) (dC (.str "rest"))) (dC (.int 0)))) (r_law_take_2_a) sNil)
def r_law_take_3 : Sr :=
  (sAsg (.nm 2) (dOp modT (dCall intF (dCons (dOp dictGet (dVar 0) (dC (.str "rest"))) dNil)) (dVar 1)))
def r_law_take_4 : Sr :=
  (sDSet (dVar 0) (dC (.str "rest")) (dOp fdivT (dOp dictGet (dVar 0) (dC (.str "rest"))) (dVar 1)))
def r_law_take : Sr :=
  (sSeq (r_law_take_1) (sSeq (r_law_take_2) (sSeq (r_law_take_3) (sSeq (r_law_take_4) (sRet (dVar 2))))))
/-- _law_pick -/
abbrev N_law_pick : List Str := ["_law_draw", "_law_some"]
def r_law_pick (sp_law_take : Sf) : Sr :=
  (sRet (dOp ixF (dVar 1) (dFn sp_law_take [] 2 (dCons (dVar 0) (dCons (dCall lenF (dCons (dVar 1) dNil)) dNil)))))
/-- _law_word -/
abbrev N_law_word : List Str := ["_law_draw", "_law_most", "_law_letters", "_law_long", "_law_k"]
def r_law_word_2 (sp_law_take : Sf) (sp_law_pick : Sf) : Sr :=
  (sAsg (.nm 3) (dOp addT (dC (.int 1)) (dFn sp_law_take [] 2 (dCons (dVar 0) (dCons (dFn sp_law_pick [] 2 (dCons (dVar 0) (dCons (dLst (dCons (dC (.int 1)) (dCons (dC (.int 2)) (dCons (dVar 1) dNil)))) dNil))) dNil)))))
def r_law_word_3 (sp_law_take : Sf) (sp_law_pick : Sf) : Sr :=
  (sRet (dJoin (dC (.str "")) (dLcX false [4] (dRange1 (dCons (dVar 3) dNil)) (.nm 4) dTrue (dFn sp_law_pick [] 2 (dCons (dVar 0) (dCons (dVar 2) dNil))))))
def r_law_word (sp_law_take : Sf) (sp_law_pick : Sf) : Sr :=
  (sSeq (sAsg (.nm 2) (dC (.str "abcdefghijklmnopqrstuvwxyz"))) (sSeq (r_law_word_2 sp_law_take sp_law_pick) (r_law_word_3 sp_law_take sp_law_pick)))
/-- _law_atom -/
abbrev N_law_atom : List Str := ["_law_draw", "_law_way"]
def r_law_atom_1 (sp_law_take : Sf) (sp_law_word : Sf) : Sr :=
  (sAsg (.nm 1) (dFn sp_law_take [] 2 (dCons (dVar 0) (dCons (dC (.int 12)) dNil))))
def r_law_atom_2 (sp_law_take : Sf) (sp_law_word : Sf) : Sr :=
  (sIf (dTest (dOp ltT (dVar 1) (dC (.int 10)))) (sRet (dOp ixF (dLst (dCons (dC .non) (dCons (dC (.int 0)) (dCons (dC (.int 1)) (dCons (dC (.str "a")) (dCons (dC (.str "b")) (dCons (dC (.int 0)) (dCons (dC (.int 1)) (dCons (dC (.str "a")) (dCons (dNeg (dC (.int 1))) (dCons (dC (.int 2)) dNil))))))))))) (dVar 1))) sNil)
def r_law_atom_3 (sp_law_take : Sf) (sp_law_word : Sf) : Sr :=
  (sIf (dTest (dOp eqT (dVar 1) (dC (.int 10)))) (sRet (dFn sp_law_word [] 2 (dCons (dVar 0) (dCons (dC (.int 8)) dNil)))) sNil)
def r_law_atom_4 (sp_law_take : Sf) (sp_law_word : Sf) : Sr :=
  (sRet (dOp mulT (dOp subT (dC (.int 1)) (dOp mulT (dC (.int 2)) (dFn sp_law_take [] 2 (dCons (dVar 0) (dCons (dC (.int 2)) dNil))))) (dOp subT (dOp subT (dOp powT (dC (.int 10)) (dC (.int 40))) (dC (.int 1))) (dFn sp_law_take [] 2 (dCons (dVar 0) (dCons (dC (.int 3)) dNil))))))
def r_law_atom (sp_law_take : Sf) (sp_law_word : Sf) : Sr :=
  (sSeq (r_law_atom_1 sp_law_take sp_law_word) (sSeq (r_law_atom_2 sp_law_take sp_law_word) (sSeq (r_law_atom_3 sp_law_take sp_law_word) (r_law_atom_4 sp_law_take sp_law_word))))
/-- _law_value -/
abbrev N_law_value : List Str := ["_law_draw", "_law_deep", "_law_k"]
def r_law_value_1 (sp_law_take : Sf) (sp_law_atom : Sf) (sp_law_value : Sf) : Sr :=
  (sIf (dOrT (dTest (dOp eqT (dVar 1) (dC (.int 0)))) (dTest (dOp eqT (dFn sp_law_take [] 2 (dCons (dVar 0) (dCons (dC (.int 3)) dNil))) (dC (.int 0))))) (sRet (dFn sp_law_atom [] 1 (dCons (dVar 0) dNil))) sNil)
def r_law_value_2 (sp_law_take : Sf) (sp_law_atom : Sf) (sp_law_value : Sf) : Sr :=
  (sRet (dLcX false [2] (dRange1 (dCons (dFn sp_law_take [] 2 (dCons (dVar 0) (dCons (dC (.int 5)) dNil))) dNil)) (.nm 2) dTrue (dFn sp_law_value [] 2 (dCons (dVar 0) (dCons (dOp subT (dVar 1) (dC (.int 1))) dNil)))))
def r_law_value (sp_law_take : Sf) (sp_law_atom : Sf) (sp_law_value : Sf) : Sr :=
  (sSeq (r_law_value_1 sp_law_take sp_law_atom sp_law_value) (r_law_value_2 sp_law_take sp_law_atom sp_law_value))
/-- _law_flags -/
abbrev N_law_flags : List Str := ["_law_error", "_law_found"]
def r_law_flags_1 : Sr :=
  (sAsg (.nm 1) (dLst (dCons (dIsA ec 0 (dVar 0)) (dCons (dIsA ec 1 (dVar 0)) (dCons (dIsA ec 2 (dVar 0)) dNil)))))
def r_law_flags_2 : Sr :=
  (sAsg (.nm 1) (dOp addT (dVar 1) (dLst (dCons (dIsA ec 3 (dVar 0)) (dCons (dIsA ec 4 (dVar 0)) (dCons (dIsA ec 5 (dVar 0)) dNil))))))
def r_law_flags_3 : Sr :=
  (sAsg (.nm 1) (dOp addT (dVar 1) (dLst (dCons (dIsA ec 6 (dVar 0)) (dCons (dIsA ec 7 (dVar 0)) (dCons (dIsA ec 8 (dVar 0)) dNil))))))
def r_law_flags_4 : Sr :=
  (sRet (dOp addT (dVar 1) (dLst (dCons (dIsA ec 9 (dVar 0)) (dCons (dIsA ec 10 (dVar 0)) dNil)))))
def r_law_flags : Sr :=
  (sSeq (r_law_flags_1) (sSeq (r_law_flags_2) (sSeq (r_law_flags_3) (r_law_flags_4))))
/-- law -/
abbrev N_law : List Str := ["_law_script", "_law_draw", "_law_turn", "_law_plain", "_law_some", "_law_held", "_law_told", "_law_said", "_law_one", "_law_other", "_law_at", "_law_error", "_law_k"]
def r_law_2_f1 (sp_law_begun : Sf) (sp_law_word : Sf) (sp_law_value : Sf) (sp_law_flags : Sf) : Sr :=
  (sPar [7, 8, 9] (dCons (dFn sp_law_word [] 2 (dCons (dVar 1) (dCons (dC (.int 8)) dNil))) (dCons (dFn sp_law_value [] 2 (dCons (dVar 1) (dCons (dC (.int 2)) dNil))) (dCons (dFn sp_law_value [] 2 (dCons (dVar 1) (dCons (dC (.int 1)) dNil))) dNil))))
def r_law_2_f2 (sp_law_begun : Sf) (sp_law_word : Sf) (sp_law_value : Sf) (sp_law_flags : Sf) : Sr :=
  (sAsg (.nm 4) (dLst (dCons (dMkX0 0 (dVar 7)) (dCons (dMkX0 1 (dVar 7)) (dCons (dMkX0 2 (dVar 7)) (dCons (dMkX0 3 (dVar 7)) (dCons (dMkX0 4 (dVar 7)) dNil)))))))
def r_law_2_f3 (sp_law_begun : Sf) (sp_law_word : Sf) (sp_law_value : Sf) (sp_law_flags : Sf) : Sr :=
  (sAsg (.nm 5) (dLst (dCons (dMkX true 5 (dCons (dVar 8) dNil)) (dCons (dMkX true 6 (dCons (dVar 8) dNil)) (dCons (dMkX true 7 (dCons (dVar 8) (dCons (dVar 9) dNil))) (dCons (dMkX true 8 (dCons (dVar 8) dNil)) (dCons (dMkX true 9 (dCons (dVar 8) dNil)) (dCons (dMkX true 10 (dCons (dVar 8) dNil)) dNil))))))))
def r_law_2_f4_f1 (sp_law_begun : Sf) (sp_law_word : Sf) (sp_law_value : Sf) (sp_law_flags : Sf) : Sr :=
  (sIf (dOrT (dTest (dOp neT (dFn sp_law_flags [] 1 (dCons (dVar 11) dNil)) (dLcX false [12] (dRange1 (dCons (dC (.int 11)) dNil)) (.nm 12) dTrue (dOp eqT (dVar 12) (dVar 10))))) (dNotT (dTru (dIsA ec 11 (dVar 11))))) (sRet (dC (.bl false))) sNil)
def r_law_2_f4_f2 (sp_law_begun : Sf) (sp_law_word : Sf) (sp_law_value : Sf) (sp_law_flags : Sf) : Sr :=
  (sIf (dNotT (dTru (dIsVE ec (dVar 11)))) (sRet (dC (.bl false))) sNil)
def r_law_2_f4_f (sp_law_begun : Sf) (sp_law_word : Sf) (sp_law_value : Sf) (sp_law_flags : Sf) : Sr :=
  (sSeq (r_law_2_f4_f1 sp_law_begun sp_law_word sp_law_value sp_law_flags) (r_law_2_f4_f2 sp_law_begun sp_law_word sp_law_value sp_law_flags))
def r_law_2_f4 (sp_law_begun : Sf) (sp_law_word : Sf) (sp_law_value : Sf) (sp_law_flags : Sf) : Sr :=
  (sFor (dEnum (dCons (dOp addT (dVar 4) (dVar 5)) dNil)) (.tp [(.nm 10), (.nm 11)]) (r_law_2_f4_f sp_law_begun sp_law_word sp_law_value sp_law_flags))
def r_law_2_f5 (sp_law_begun : Sf) (sp_law_word : Sf) (sp_law_value : Sf) (sp_law_flags : Sf) : Sr :=
  (sAsg (.nm 6) (dLst (dCons (dXFld xf_at (dOp ixF (dVar 5) (dC (.int 0)))) (dCons (dXFld xf_place (dOp ixF (dVar 5) (dC (.int 1)))) (dCons (dXFld xf_one (dOp ixF (dVar 5) (dC (.int 2)))) (dCons (dXFld xf_value (dOp ixF (dVar 5) (dC (.int 3)))) (dCons (dXFld xf_line (dOp ixF (dVar 5) (dC (.int 4)))) (dCons (dXFld xf_name (dOp ixF (dVar 5) (dC (.int 5)))) dNil))))))))
def r_law_2_f6 (sp_law_begun : Sf) (sp_law_word : Sf) (sp_law_value : Sf) (sp_law_flags : Sf) : Sr :=
  (sIf (dOrT (dTest (dOp neT (dCall reprF (dCons (dVar 6) dNil)) (dCall reprF (dCons (dOp mulT (dLst (dCons (dVar 8) dNil)) (dC (.int 6))) dNil)))) (dTest (dOp neT (dCall reprF (dCons (dXFld xf_other (dOp ixF (dVar 5) (dC (.int 2)))) dNil)) (dCall reprF (dCons (dVar 9) dNil))))) (sRet (dC (.bl false))) sNil)
def r_law_2_f (sp_law_begun : Sf) (sp_law_word : Sf) (sp_law_value : Sf) (sp_law_flags : Sf) : Sr :=
  (sSeq (r_law_2_f1 sp_law_begun sp_law_word sp_law_value sp_law_flags) (sSeq (r_law_2_f2 sp_law_begun sp_law_word sp_law_value sp_law_flags) (sSeq (r_law_2_f3 sp_law_begun sp_law_word sp_law_value sp_law_flags) (sSeq (r_law_2_f4 sp_law_begun sp_law_word sp_law_value sp_law_flags) (sSeq (r_law_2_f5 sp_law_begun sp_law_word sp_law_value sp_law_flags) (r_law_2_f6 sp_law_begun sp_law_word sp_law_value sp_law_flags))))))
def r_law_2 (sp_law_begun : Sf) (sp_law_word : Sf) (sp_law_value : Sf) (sp_law_flags : Sf) : Sr :=
  (sFor (dRange1 (dCons (dCall maxF (dCons (dC (.int 1)) (dCons (dCall minF (dCons (dC (.int 6)) (dCons (dCall lenF (dCons (dVar 0) dNil)) dNil))) dNil))) dNil)) (.nm 2) (r_law_2_f sp_law_begun sp_law_word sp_law_value sp_law_flags))
def r_law_4 (sp_law_begun : Sf) (sp_law_word : Sf) (sp_law_value : Sf) (sp_law_flags : Sf) : Sr :=
  (sRet (dAndV (dOp notInT (dC (.bl true)) (dFn sp_law_flags [] 1 (dCons (dVar 3) dNil))) (dIsVE ec (dVar 3))))
def r_law (sp_law_begun : Sf) (sp_law_word : Sf) (sp_law_value : Sf) (sp_law_flags : Sf) : Sr :=
  (sSeq (sAsg (.nm 1) (dFn sp_law_begun [] 1 (dCons (dVar 0) dNil))) (sSeq (r_law_2 sp_law_begun sp_law_word sp_law_value sp_law_flags) (sSeq (sAsg (.nm 3) (dMkX0 11 (dC (.str "a")))) (r_law_4 sp_law_begun sp_law_word sp_law_value sp_law_flags))))
end DL
end T_LawR
section T_LawB
set_option Elab.async false
set_option linter.all false
set_option maxRecDepth 100000
set_option maxHeartbeats 8000000
namespace DL
open PySem PySem.Spec PyProof.Rows L2
def top (i : Nat) : Stmt := PySem.Challenge.pw_starcases_k01_errors_made.main.body.getD i (.Pass ⟨0, 0, 0, 0⟩)
def meth (s : Stmt) (j : Nat) : Stmt := match s with
  | .ClassDef _ _ _ b _ _ _ _ _ _ _ => b.getD j (.Pass ⟨0, 0, 0, 0⟩)
  | _ => .Pass ⟨0, 0, 0, 0⟩

/-! BadCase.__init__ -/
abbrev s_BadCase__init : Stmt := (meth (top 7) 0)
theorem sc_BadCase__init : FnScope N_BadCase__init ["self", "at"] (defScope s_BadCase__init) := ⟨rfl, rfl, rfl, by decide +kernel, rfl, by decide +kernel, by decide +kernel⟩
theorem fx_BadCase__init {P : Program} {w : World} {K : PySem.W.Frag} {mg : Str → Option Value} {base : Heap} {f : Addr} {fd : FuncData} {g : Bool} (D : FunD K "__init__" "BadCase.__init__" (defArgs s_BadCase__init) (defBody s_BadCase__init) (defScope s_BadCase__init) [] [] f fd) (XO : XoK K 5) (XI : XiK K) (gCE : mg "CaseError" = some (.ref (He.ga K "CaseError"))) :
    FnOkG g P w K mg base (L2.CX P w) 2 f fd ["self", "at"] (spX K 5 (okH g K 5)) :=
  fn_x1 (k := 1) (N := N_BadCase__init) XO rfl rfl rfl (hmsg1 rfl) D sc_BadCase__init fun cdv A outer s H E hr hgd => by
    have sc := sc_BadCase__init
    exact (pss_cons (ps_expr (pe_ceinit XI (by rfl) gCE (pa_cons (pv 0) (pa_cons (msg3 hr hgd (pv 1) (by decide +kernel)) pa_nil)))) (pss_one (ps_ost (pv 0) (pv 1))))

/-! Refused.__init__ -/
abbrev s_Refused__init : Stmt := (meth (top 8) 0)
theorem sc_Refused__init : FnScope N_Refused__init ["self", "place"] (defScope s_Refused__init) := ⟨rfl, rfl, rfl, by decide +kernel, rfl, by decide +kernel, by decide +kernel⟩
theorem fx_Refused__init {P : Program} {w : World} {K : PySem.W.Frag} {mg : Str → Option Value} {base : Heap} {f : Addr} {fd : FuncData} {g : Bool} (D : FunD K "__init__" "Refused.__init__" (defArgs s_Refused__init) (defBody s_Refused__init) (defScope s_Refused__init) [] [] f fd) (XO : XoK K 6) (XI : XiK K) (gCE : mg "CaseError" = some (.ref (He.ga K "CaseError"))) :
    FnOkG g P w K mg base (L2.CX P w) 2 f fd ["self", "place"] (spX K 6 (okH g K 6)) :=
  fn_x1 (k := 1) (N := N_Refused__init) XO rfl rfl rfl (hmsg1 rfl) D sc_Refused__init fun cdv A outer s H E hr hgd => by
    have sc := sc_Refused__init
    exact (pss_cons (ps_expr (pe_ceinit XI (by rfl) gCE (pa_cons (pv 0) (pa_cons (msg2 hr hgd (pv 1) (by decide +kernel)) pa_nil)))) (pss_one (ps_ost (pv 0) (pv 1))))

/-! NoInverse.__init__ -/
abbrev s_NoInverse__init : Stmt := (meth (top 9) 0)
theorem sc_NoInverse__init : FnScope N_NoInverse__init ["self", "one", "other"] (defScope s_NoInverse__init) := ⟨rfl, rfl, rfl, by decide +kernel, rfl, by decide +kernel, by decide +kernel⟩
theorem fx_NoInverse__init {P : Program} {w : World} {K : PySem.W.Frag} {mg : Str → Option Value} {base : Heap} {f : Addr} {fd : FuncData} {g : Bool} (D : FunD K "__init__" "NoInverse.__init__" (defArgs s_NoInverse__init) (defBody s_NoInverse__init) (defScope s_NoInverse__init) [] [] f fd) (XO : XoK K 7) (XI : XiK K) (gCE : mg "CaseError" = some (.ref (He.ga K "CaseError"))) :
    FnOkG g P w K mg base (L2.CX P w) 2 f fd ["self", "one", "other"] (spX K 7 (okH g K 7)) :=
  fn_x2 (k := 1) (N := N_NoInverse__init) XO rfl (by decide) rfl rfl (fun _ _ _ _ _ _ q => q _) D sc_NoInverse__init fun cdv A outer s H E hr hgd => by
    have sc := sc_NoInverse__init
    exact (pss_cons (ps_expr (pe_ceinit XI (by rfl) gCE (pa_cons (pv 0) (pa_cons pe_str pa_nil)))) (pss_cons (ps_ost (pv 0) (pv 1)) (pss_one (ps_ost (pv 0) (pv 2)))))

/-! NeverHad.__init__ -/
abbrev s_NeverHad__init : Stmt := (meth (top 10) 0)
theorem sc_NeverHad__init : FnScope N_NeverHad__init ["self", "value"] (defScope s_NeverHad__init) := ⟨rfl, rfl, rfl, by decide +kernel, rfl, by decide +kernel, by decide +kernel⟩
theorem fx_NeverHad__init {P : Program} {w : World} {K : PySem.W.Frag} {mg : Str → Option Value} {base : Heap} {f : Addr} {fd : FuncData} {g : Bool} (D : FunD K "__init__" "NeverHad.__init__" (defArgs s_NeverHad__init) (defBody s_NeverHad__init) (defScope s_NeverHad__init) [] [] f fd) (XO : XoK K 8) (XI : XiK K) (gCE : mg "CaseError" = some (.ref (He.ga K "CaseError"))) :
    FnOkG g P w K mg base (L2.CX P w) 2 f fd ["self", "value"] (spX K 8 (okH g K 8)) :=
  fn_x1 (k := 1) (N := N_NeverHad__init) XO rfl rfl rfl (fun _ _ _ _ _ q => q _) D sc_NeverHad__init fun cdv A outer s H E hr hgd => by
    have sc := sc_NeverHad__init
    exact (pss_cons (ps_expr (pe_ceinit XI (by rfl) gCE (pa_cons (pv 0) (pa_cons pe_str pa_nil)))) (pss_one (ps_ost (pv 0) (pv 1))))

/-! BadText.__init__ -/
abbrev s_BadText__init : Stmt := (meth (top 11) 0)
theorem sc_BadText__init : FnScope N_BadText__init ["self", "line"] (defScope s_BadText__init) := ⟨rfl, rfl, rfl, by decide +kernel, rfl, by decide +kernel, by decide +kernel⟩
theorem fx_BadText__init {P : Program} {w : World} {K : PySem.W.Frag} {mg : Str → Option Value} {base : Heap} {f : Addr} {fd : FuncData} {g : Bool} (D : FunD K "__init__" "BadText.__init__" (defArgs s_BadText__init) (defBody s_BadText__init) (defScope s_BadText__init) [] [] f fd) (XO : XoK K 9) (XI : XiK K) (gCE : mg "CaseError" = some (.ref (He.ga K "CaseError"))) :
    FnOkG g P w K mg base (L2.CX P w) 2 f fd ["self", "line"] (spX K 9 (okH g K 9)) :=
  fn_x1 (k := 1) (N := N_BadText__init) XO rfl rfl rfl (hmsg1 rfl) D sc_BadText__init fun cdv A outer s H E hr hgd => by
    have sc := sc_BadText__init
    exact (pss_cons (ps_expr (pe_ceinit XI (by rfl) gCE (pa_cons (pv 0) (pa_cons (msg3 hr hgd (pv 1) (by decide +kernel)) pa_nil)))) (pss_one (ps_ost (pv 0) (pv 1))))

/-! BadName.__init__ -/
abbrev s_BadName__init : Stmt := (meth (top 12) 0)
theorem sc_BadName__init : FnScope N_BadName__init ["self", "name"] (defScope s_BadName__init) := ⟨rfl, rfl, rfl, by decide +kernel, rfl, by decide +kernel, by decide +kernel⟩
theorem fx_BadName__init {P : Program} {w : World} {K : PySem.W.Frag} {mg : Str → Option Value} {base : Heap} {f : Addr} {fd : FuncData} {g : Bool} (D : FunD K "__init__" "BadName.__init__" (defArgs s_BadName__init) (defBody s_BadName__init) (defScope s_BadName__init) [] [] f fd) (XO : XoK K 10) (XI : XiK K) (gCE : mg "CaseError" = some (.ref (He.ga K "CaseError"))) :
    FnOkG g P w K mg base (L2.CX P w) 2 f fd ["self", "name"] (spX K 10 (okH g K 10)) :=
  fn_x1 (k := 1) (N := N_BadName__init) XO rfl rfl rfl (fun _ _ _ _ _ q => q _) D sc_BadName__init fun cdv A outer s H E hr hgd => by
    have sc := sc_BadName__init
    exact (pss_cons (ps_expr (pe_ceinit XI (by rfl) gCE (pa_cons (pv 0) (pa_cons pe_str pa_nil)))) (pss_one (ps_ost (pv 0) (pv 1))))

/-! _law_begun -/
abbrev s_law_begun : Stmt := (top 14)
theorem sc_law_begun : FnScope N_law_begun ["_law_script"] (defScope s_law_begun) := ⟨rfl, rfl, rfl, by decide +kernel, rfl, by decide +kernel, by decide +kernel⟩
theorem b_law_begun {P : Program} {w : World} {K : PySem.W.Frag} {mg : Str → Option Value} {base : Heap} {f : Addr} {cdv : Value} {A : Around} {outer : List Env} {s : Shared} {H : Hp} {E : XK} {k : Nat} (B : Bn mg) (hr : Room (k + 1) (A.deeper (envOfC "_law_begun" (defScope s_law_begun) s.heap.objs.size f cdv)))  :
    PDSs (BX P w K mg base N_law_begun "_law_begun" (defScope s_law_begun) f cdv A outer s H E) (WB E) (defBody s_law_begun) (r_law_begun) := by
  have sc := sc_law_begun
  exact (pds_cons (pds_setLcX (own := [("_law_cell", 2)]) false rfl sc.nd rfl rfl (by rfl) (pdi_items (pd_var (pv 0))) (blkOk_by (by rfl)) (by decide) (fun _ _ _ _ _ => (pdg_name sc.nd rfl (by first | exact .inl rfl | exact .inr rfl))) (fun _ _ _ _ _ => pdts_nil) (fun _ _ _ _ _ => (pd_callB c_abs (by rfl) B.abs bt_abs (pda_cons (pd_var (pv 2)) pda_nil)))) (pds_one (pds_ret (pd_dispC (ps := [((dC (.str "great")), (dLcX true [2] (dItems (dVar 1)) (.nm 2) (dTest (dOp geT (dVar 2) (dOp powT (dC (.int 10)) (dC (.int 18))))) (dOp subT (dVar 2) (dOp powT (dC (.int 10)) (dC (.int 18)))))), ((dC (.str "cells")), (dVar 1)), ((dC (.str "rest")), (dC (.int 0))), ((dC (.str "turn")), (dC (.int 0)))]) (pps_cons pd_str (pd_lcX (own := [("_law_cell", 2)]) true rfl sc.nd (pdi_items (pd_var (pv 1))) (blkOk_by (by rfl)) (by decide) (fun _ _ _ _ _ => (pdg_name sc.nd rfl (by first | exact .inl rfl | exact .inr rfl))) (fun _ _ _ _ _ => (pdts_one (pt_cmp' o_ge (pd_var (pv 2)) (pd_op o_pow pd_int pd_int) (by rfl)))) (fun _ _ _ _ _ => (pd_op o_sub (pd_var (pv 2)) (pd_op o_pow pd_int pd_int)))) (pps_cons pd_str (pd_var (pv 1)) (pps_cons pd_str pd_int (pps_cons pd_str pd_int pps_nil)))) (by rfl) (by rfl) (by simp) (by decide)))))

/-! _law_take -/
abbrev s_law_take : Stmt := (top 15)
theorem sc_law_take : FnScope N_law_take ["_law_draw", "_law_many"] (defScope s_law_take) := ⟨rfl, rfl, rfl, by decide +kernel, rfl, by decide +kernel, by decide +kernel⟩
theorem b_law_take {P : Program} {w : World} {K : PySem.W.Frag} {mg : Str → Option Value} {base : Heap} {f : Addr} {cdv : Value} {A : Around} {outer : List Env} {s : Shared} {H : Hp} {E : XK} {k : Nat} (B : Bn mg) (hr : Room (k + 1) (A.deeper (envOfC "_law_take" (defScope s_law_take) s.heap.objs.size f cdv)))  :
    PDSs (BX P w K mg base N_law_take "_law_take" (defScope s_law_take) f cdv A outer s H E) (WB E) (defBody s_law_take) (r_law_take) := by
  have sc := sc_law_take
  exact (pds_cons (pds_if (pw_and' (pt_cmp' (o_eq (u64 hr)) (pd_dget (u1 hr) (pd_var (pv 0)) pd_str (fun _ _ => rfl)) pd_int (by rfl)) (pw_and1' (pt_cmp' (o_ne (u64 hr)) (pd_dget (u1 hr) (pd_var (pv 0)) pd_str (fun _ _ => rfl)) (pd_lst pda_nil) (by rfl)))).pt (pds_one (pds_dset (u1 hr) (pd_var (pv 0)) pd_str (pd_mth sl_pop ty_pop m_pop (pd_dget (u1 hr) (pd_var (pv 0)) pd_str (fun _ _ => rfl)) (pda_cons pd_int pda_nil)))) pds_nil) (pds_cons (pds_if (pt_cmp' (o_eq (u64 hr)) (pd_dget (u1 hr) (pd_var (pv 0)) pd_str (fun _ _ => rfl)) pd_int (by rfl)) (pds_cons (pds_dset (u1 hr) (pd_var (pv 0)) pd_str (pd_op o_add (pd_dget (u1 hr) (pd_var (pv 0)) pd_str (fun _ _ => rfl)) pd_int)) (pds_cons (pds_set (i := 3) sc.nd rfl (by first | exact .inl rfl | exact .inr rfl) (pd_op o_add (pd_op o_mul pd_int (pd_dget (u1 hr) (pd_var (pv 0)) pd_str (fun _ _ => rfl))) (pd_callB c_len (by rfl) B.len bt_len (pda_cons (pd_dget (u1 hr) (pd_var (pv 0)) pd_str (fun _ _ => rfl)) pda_nil)))) (pds_cons (pds_for (passes_of rfl) rfl (pdi_items (pd_dget (u1 hr) (pd_var (pv 0)) pd_str (fun _ _ => rfl))) (pdg_name sc.nd rfl (by first | exact .inl rfl | exact .inr rfl)) (pds_one (pds_set (i := 3) sc.nd rfl (by first | exact .inl rfl | exact .inr rfl) (pd_op o_mod (pd_callTy c_int (by rfl) B.int bt_int (pda_cons (pd_op o_add (pd_op o_add (pd_op o_mul (pd_var (pv 3)) pd_int) (pd_var (pv 4))) pd_int) pda_nil)) pd_int)))) (pds_cons (pds_for (passes_of rfl) rfl (pdi_range1 (by rfl) B.range (pda_cons pd_int pda_nil)) (pdg_name sc.nd rfl (by first | exact .inl rfl | exact .inr rfl)) (pds_one (pds_set (i := 3) sc.nd rfl (by first | exact .inl rfl | exact .inr rfl) (pd_op o_mod (pd_callTy c_int (by rfl) B.int bt_int (pda_cons (pd_op o_add (pd_op o_add (pd_op o_mul (pd_var (pv 3)) (pd_var (pv 3))) (pd_op o_mul pd_int (pd_var (pv 3)))) pd_int) pda_nil)) pd_int)))) (pds_one (pds_dset (u1 hr) (pd_var (pv 0)) pd_str (pd_var (pv 3)))))))) pds_nil) (pds_cons (pds_set (i := 2) sc.nd rfl (by first | exact .inl rfl | exact .inr rfl) (pd_op o_mod (pd_callTy c_int (by rfl) B.int bt_int (pda_cons (pd_dget (u1 hr) (pd_var (pv 0)) pd_str (fun _ _ => rfl)) pda_nil)) (pd_var (pv 1)))) (pds_cons (pds_dset (u1 hr) (pd_var (pv 0)) pd_str (pd_op o_fdiv (pd_dget (u1 hr) (pd_var (pv 0)) pd_str (fun _ _ => rfl)) (pd_var (pv 1)))) (pds_one (pds_ret (pd_var (pv 2))))))))

/-! _law_pick -/
abbrev s_law_pick : Stmt := (top 16)
theorem sc_law_pick : FnScope N_law_pick ["_law_draw", "_law_some"] (defScope s_law_pick) := ⟨rfl, rfl, rfl, by decide +kernel, rfl, by decide +kernel, by decide +kernel⟩
theorem b_law_pick {P : Program} {w : World} {K : PySem.W.Frag} {mg : Str → Option Value} {base : Heap} {f : Addr} {cdv : Value} {A : Around} {outer : List Env} {s : Shared} {H : Hp} {E : XK} {k : Nat} {sp_law_take : Sf} (B : Bn mg) (hr : Room (k + 1) (A.deeper (envOfC "_law_pick" (defScope s_law_pick) s.heap.objs.size f cdv))) (F_law_take : Fn false P w K mg base "_law_take" (k + 1) 2 [] sp_law_take) :
    PDSs (BX P w K mg base N_law_pick "_law_pick" (defScope s_law_pick) f cdv A outer s H E) (WB E) (defBody s_law_pick) (r_law_pick sp_law_take) := by
  have sc := sc_law_pick
  exact (pds_one (pds_ret (pd_ix ix_tr (pd_var (pv 1)) (pd_call takes_b F_law_take hr (fun z => nomatch z) (by rfl) (pda_cons (pd_var (pv 0)) (pda_cons (pd_callB c_len (by rfl) B.len bt_len (pda_cons (pd_var (pv 1)) pda_nil)) pda_nil))) (fun _ _ => rfl))))

/-! _law_word -/
abbrev s_law_word : Stmt := (top 17)
theorem sc_law_word : FnScope N_law_word ["_law_draw", "_law_most"] (defScope s_law_word) := ⟨rfl, rfl, rfl, by decide +kernel, rfl, by decide +kernel, by decide +kernel⟩
theorem b_law_word {P : Program} {w : World} {K : PySem.W.Frag} {mg : Str → Option Value} {base : Heap} {f : Addr} {cdv : Value} {A : Around} {outer : List Env} {s : Shared} {H : Hp} {E : XK} {k : Nat} {sp_law_take : Sf} {sp_law_pick : Sf} (B : Bn mg) (hr : Room (k + 1) (A.deeper (envOfC "_law_word" (defScope s_law_word) s.heap.objs.size f cdv))) (F_law_take : Fn false P w K mg base "_law_take" (k + 1) 2 [] sp_law_take) (F_law_pick : Fn false P w K mg base "_law_pick" (k + 1) 2 [] sp_law_pick) :
    PDSs (BX P w K mg base N_law_word "_law_word" (defScope s_law_word) f cdv A outer s H E) (WB E) (defBody s_law_word) (r_law_word sp_law_take sp_law_pick) := by
  have sc := sc_law_word
  exact (pds_cons (pds_set (i := 2) sc.nd rfl (by first | exact .inl rfl | exact .inr rfl) pd_str) (pds_cons (pds_set (i := 3) sc.nd rfl (by first | exact .inl rfl | exact .inr rfl) (pd_op o_add pd_int (pd_call takes_b F_law_take hr (fun z => nomatch z) (by rfl) (pda_cons (pd_var (pv 0)) (pda_cons (pd_call takes_b F_law_pick hr (fun z => nomatch z) (by rfl) (pda_cons (pd_var (pv 0)) (pda_cons (pd_lst (pda_cons pd_int (pda_cons pd_int (pda_cons (pd_var (pv 1)) pda_nil)))) pda_nil))) pda_nil))))) (pds_one (pds_ret (pd_join pd_str (pd_lcX (own := [("_law_k", 4)]) false rfl sc.nd (pdi_range1 (by rfl) B.range (pda_cons (pd_var (pv 3)) pda_nil)) (blkOk_by (by rfl)) (by decide) (fun _ _ _ _ _ => (pdg_name sc.nd rfl (by first | exact .inl rfl | exact .inr rfl))) (fun _ _ _ _ _ => pdts_nil) (fun _ _ _ _ _ => (pd_call takes0 F_law_pick hr (fun z => nomatch z) (by rfl) (pda_cons (pd_var (pv 0)) (pda_cons (pd_var (pv 2)) pda_nil))))))))))

/-! _law_atom -/
abbrev s_law_atom : Stmt := (top 18)
theorem sc_law_atom : FnScope N_law_atom ["_law_draw"] (defScope s_law_atom) := ⟨rfl, rfl, rfl, by decide +kernel, rfl, by decide +kernel, by decide +kernel⟩
theorem b_law_atom {P : Program} {w : World} {K : PySem.W.Frag} {mg : Str → Option Value} {base : Heap} {f : Addr} {cdv : Value} {A : Around} {outer : List Env} {s : Shared} {H : Hp} {E : XK} {k : Nat} {sp_law_take : Sf} {sp_law_word : Sf} (B : Bn mg) (hr : Room (k + 1) (A.deeper (envOfC "_law_atom" (defScope s_law_atom) s.heap.objs.size f cdv))) (F_law_take : Fn false P w K mg base "_law_take" (k + 1) 2 [] sp_law_take) (F_law_word : Fn false P w K mg base "_law_word" (k + 1) 2 [] sp_law_word) :
    PDSs (BX P w K mg base N_law_atom "_law_atom" (defScope s_law_atom) f cdv A outer s H E) (WB E) (defBody s_law_atom) (r_law_atom sp_law_take sp_law_word) := by
  have sc := sc_law_atom
  exact (pds_cons (pds_set (i := 1) sc.nd rfl (by first | exact .inl rfl | exact .inr rfl) (pd_call takes_b F_law_take hr (fun z => nomatch z) (by rfl) (pda_cons (pd_var (pv 0)) (pda_cons pd_int pda_nil)))) (pds_cons (pds_if (pt_cmp' o_lt (pd_var (pv 1)) pd_int (by rfl)) (pds_one (pds_ret (pd_ix ix_tr (pd_lst (pda_cons pd_non (pda_cons pd_int (pda_cons pd_int (pda_cons pd_str (pda_cons pd_str (pda_cons pd_int (pda_cons pd_int (pda_cons pd_str (pda_cons (pd_neg pd_int) (pda_cons pd_int pda_nil))))))))))) (pd_var (pv 1)) (fun _ _ => rfl)))) pds_nil) (pds_cons (pds_if (pt_cmp' (o_eq (u64 hr)) (pd_var (pv 1)) pd_int (by rfl)) (pds_one (pds_ret (pd_call takes_b F_law_word hr (fun z => nomatch z) (by rfl) (pda_cons (pd_var (pv 0)) (pda_cons pd_int pda_nil))))) pds_nil) (pds_one (pds_ret (pd_op o_mul (pd_op o_sub pd_int (pd_op o_mul pd_int (pd_call takes_b F_law_take hr (fun z => nomatch z) (by rfl) (pda_cons (pd_var (pv 0)) (pda_cons pd_int pda_nil))))) (pd_op o_sub (pd_op o_sub (pd_op o_pow pd_int pd_int) pd_int) (pd_call takes_b F_law_take hr (fun z => nomatch z) (by rfl) (pda_cons (pd_var (pv 0)) (pda_cons pd_int pda_nil))))))))))

/-! _law_value -/
abbrev s_law_value : Stmt := (top 19)
theorem sc_law_value : FnScope N_law_value ["_law_draw", "_law_deep"] (defScope s_law_value) := ⟨rfl, rfl, rfl, by decide +kernel, rfl, by decide +kernel, by decide +kernel⟩
theorem b_law_value {P : Program} {w : World} {K : PySem.W.Frag} {mg : Str → Option Value} {base : Heap} {f : Addr} {cdv : Value} {A : Around} {outer : List Env} {s : Shared} {H : Hp} {E : XK} {k : Nat} {sp_law_take : Sf} {sp_law_atom : Sf} {sp_law_value : Sf} (B : Bn mg) (hr : Room (k + 1) (A.deeper (envOfC "_law_value" (defScope s_law_value) s.heap.objs.size f cdv))) (F_law_take : Fn false P w K mg base "_law_take" (k + 1) 2 [] sp_law_take) (F_law_atom : Fn false P w K mg base "_law_atom" (k + 1) 1 [] sp_law_atom) (F_law_value : Fn false P w K mg base "_law_value" (k + 1) 2 [] sp_law_value) :
    PDSs (BX P w K mg base N_law_value "_law_value" (defScope s_law_value) f cdv A outer s H E) (WB E) (defBody s_law_value) (r_law_value sp_law_take sp_law_atom sp_law_value) := by
  have sc := sc_law_value
  exact (pds_cons (pds_if (pw_or' (pt_cmp' (o_eq (u64 hr)) (pd_var (pv 1)) pd_int (by rfl)) (pw_or1' (pt_cmp' (o_eq (u64 hr)) (pd_call takes_b F_law_take hr (fun z => nomatch z) (by rfl) (pda_cons (pd_var (pv 0)) (pda_cons pd_int pda_nil))) pd_int (by rfl)))).pt (pds_one (pds_ret (pd_call takes_b F_law_atom hr (fun z => nomatch z) (by rfl) (pda_cons (pd_var (pv 0)) pda_nil)))) pds_nil) (pds_one (pds_ret (pd_lcX (own := [("_law_k", 2)]) false rfl sc.nd (pdi_range1 (by rfl) B.range (pda_cons (pd_call takes_b F_law_take hr (fun z => nomatch z) (by rfl) (pda_cons (pd_var (pv 0)) (pda_cons pd_int pda_nil))) pda_nil)) (blkOk_by (by rfl)) (by decide) (fun _ _ _ _ _ => (pdg_name sc.nd rfl (by first | exact .inl rfl | exact .inr rfl))) (fun _ _ _ _ _ => pdts_nil) (fun _ _ _ _ _ => (pd_call takes0 F_law_value hr (fun z => nomatch z) (by rfl) (pda_cons (pd_var (pv 0)) (pda_cons (pd_op o_sub (pd_var (pv 1)) pd_int) pda_nil))))))))

/-! _law_flags -/
abbrev s_law_flags : Stmt := (top 20)
theorem sc_law_flags : FnScope N_law_flags ["_law_error"] (defScope s_law_flags) := ⟨rfl, rfl, rfl, by decide +kernel, rfl, by decide +kernel, by decide +kernel⟩
theorem b_law_flags {P : Program} {w : World} {K : PySem.W.Frag} {mg : Str → Option Value} {base : Heap} {f : Addr} {cdv : Value} {A : Around} {outer : List Env} {s : Shared} {H : Hp} {E : XK} {k : Nat} (B : Bn mg) (hr : Room (k + 1) (A.deeper (envOfC "_law_flags" (defScope s_law_flags) s.heap.objs.size f cdv))) (XS : XsK K ec) (g_BadValue : mg "BadValue" = some (.ref (He.ga K "BadValue"))) (g_BadPattern : mg "BadPattern" = some (.ref (He.ga K "BadPattern"))) (g_BadTemplate : mg "BadTemplate" = some (.ref (He.ga K "BadTemplate"))) (g_BadCases : mg "BadCases" = some (.ref (He.ga K "BadCases"))) (g_NoSet : mg "NoSet" = some (.ref (He.ga K "NoSet"))) (g_BadCase : mg "BadCase" = some (.ref (He.ga K "BadCase"))) (g_Refused : mg "Refused" = some (.ref (He.ga K "Refused"))) (g_NoInverse : mg "NoInverse" = some (.ref (He.ga K "NoInverse"))) (g_NeverHad : mg "NeverHad" = some (.ref (He.ga K "NeverHad"))) (g_BadText : mg "BadText" = some (.ref (He.ga K "BadText"))) (g_BadName : mg "BadName" = some (.ref (He.ga K "BadName"))) :
    PDSs (BX P w K mg base N_law_flags "_law_flags" (defScope s_law_flags) f cdv A outer s H E) (WB E) (defBody s_law_flags) (r_law_flags) := by
  have sc := sc_law_flags
  exact (pds_cons (pds_set (i := 1) sc.nd rfl (by first | exact .inl rfl | exact .inr rfl) (pd_lst (pda_cons (pd_isA (ce := 0) XS (by decide) (by rfl) (by rfl) B.isinstance bt_isinstance (pd_var (pv 0)) (by rfl) g_BadValue) (pda_cons (pd_isA (ce := 1) XS (by decide) (by rfl) (by rfl) B.isinstance bt_isinstance (pd_var (pv 0)) (by rfl) g_BadPattern) (pda_cons (pd_isA (ce := 2) XS (by decide) (by rfl) (by rfl) B.isinstance bt_isinstance (pd_var (pv 0)) (by rfl) g_BadTemplate) pda_nil))))) (pds_cons (pds_set (i := 1) sc.nd rfl (by first | exact .inl rfl | exact .inr rfl) (pd_op o_add (pd_var (pv 1)) (pd_lst (pda_cons (pd_isA (ce := 3) XS (by decide) (by rfl) (by rfl) B.isinstance bt_isinstance (pd_var (pv 0)) (by rfl) g_BadCases) (pda_cons (pd_isA (ce := 4) XS (by decide) (by rfl) (by rfl) B.isinstance bt_isinstance (pd_var (pv 0)) (by rfl) g_NoSet) (pda_cons (pd_isA (ce := 5) XS (by decide) (by rfl) (by rfl) B.isinstance bt_isinstance (pd_var (pv 0)) (by rfl) g_BadCase) pda_nil)))))) (pds_cons (pds_set (i := 1) sc.nd rfl (by first | exact .inl rfl | exact .inr rfl) (pd_op o_add (pd_var (pv 1)) (pd_lst (pda_cons (pd_isA (ce := 6) XS (by decide) (by rfl) (by rfl) B.isinstance bt_isinstance (pd_var (pv 0)) (by rfl) g_Refused) (pda_cons (pd_isA (ce := 7) XS (by decide) (by rfl) (by rfl) B.isinstance bt_isinstance (pd_var (pv 0)) (by rfl) g_NoInverse) (pda_cons (pd_isA (ce := 8) XS (by decide) (by rfl) (by rfl) B.isinstance bt_isinstance (pd_var (pv 0)) (by rfl) g_NeverHad) pda_nil)))))) (pds_one (pds_ret (pd_op o_add (pd_var (pv 1)) (pd_lst (pda_cons (pd_isA (ce := 9) XS (by decide) (by rfl) (by rfl) B.isinstance bt_isinstance (pd_var (pv 0)) (by rfl) g_BadText) (pda_cons (pd_isA (ce := 10) XS (by decide) (by rfl) (by rfl) B.isinstance bt_isinstance (pd_var (pv 0)) (by rfl) g_BadName) pda_nil)))))))))

/-! law -/
abbrev s_law : Stmt := (top 21)
theorem sc_law : FnScope N_law ["_law_script"] (defScope s_law) := ⟨rfl, rfl, rfl, by decide +kernel, rfl, by decide +kernel, by decide +kernel⟩
theorem b_law {P : Program} {w : World} {K : PySem.W.Frag} {mg : Str → Option Value} {base : Heap} {f : Addr} {cdv : Value} {A : Around} {outer : List Env} {s : Shared} {H : Hp} {E : XK} {k : Nat} {sp_law_begun : Sf} {sp_law_word : Sf} {sp_law_value : Sf} {sp_law_flags : Sf} (B : Bn mg) (hr : Room (k + 1) (A.deeper (envOfC "law" (defScope s_law) s.heap.objs.size f cdv))) (hgd : Gd base A) (F_law_begun : Fn false P w K mg base "_law_begun" (k + 1) 1 [] sp_law_begun) (F_law_word : Fn false P w K mg base "_law_word" (k + 1) 2 [] sp_law_word) (F_law_value : Fn false P w K mg base "_law_value" (k + 1) 2 [] sp_law_value) (X_BadValue : XcK K 0) (g_BadValue : mg "BadValue" = some (.ref (He.ga K "BadValue"))) (X_BadPattern : XcK K 1) (g_BadPattern : mg "BadPattern" = some (.ref (He.ga K "BadPattern"))) (X_BadTemplate : XcK K 2) (g_BadTemplate : mg "BadTemplate" = some (.ref (He.ga K "BadTemplate"))) (X_BadCases : XcK K 3) (g_BadCases : mg "BadCases" = some (.ref (He.ga K "BadCases"))) (X_NoSet : XcK K 4) (g_NoSet : mg "NoSet" = some (.ref (He.ga K "NoSet"))) (x_BadCase : Xm true P w K mg base k 5) (x_Refused : Xm true P w K mg base k 6) (x_NoInverse : Xm true P w K mg base k 7) (x_NeverHad : Xm true P w K mg base k 8) (x_BadText : Xm true P w K mg base k 9) (x_BadName : Xm true P w K mg base k 10) (F_law_flags : Fn false P w K mg base "_law_flags" (k + 1) 1 [] sp_law_flags) (XS : XsK K ec) (g_CaseError : mg "CaseError" = some (.ref (He.ga K "CaseError"))) (VE : VeK K ec) (q_at : ∀ c i, (c, i) ∈ xf_at → c < 1000 ∧ (efs c)[i]? = some "at" ∧ (efs c).Nodup ∧ XfK K c "at") (q_place : ∀ c i, (c, i) ∈ xf_place → c < 1000 ∧ (efs c)[i]? = some "place" ∧ (efs c).Nodup ∧ XfK K c "place") (q_one : ∀ c i, (c, i) ∈ xf_one → c < 1000 ∧ (efs c)[i]? = some "one" ∧ (efs c).Nodup ∧ XfK K c "one") (q_value : ∀ c i, (c, i) ∈ xf_value → c < 1000 ∧ (efs c)[i]? = some "value" ∧ (efs c).Nodup ∧ XfK K c "value") (q_line : ∀ c i, (c, i) ∈ xf_line → c < 1000 ∧ (efs c)[i]? = some "line" ∧ (efs c).Nodup ∧ XfK K c "line") (q_name : ∀ c i, (c, i) ∈ xf_name → c < 1000 ∧ (efs c)[i]? = some "name" ∧ (efs c).Nodup ∧ XfK K c "name") (q_other : ∀ c i, (c, i) ∈ xf_other → c < 1000 ∧ (efs c)[i]? = some "other" ∧ (efs c).Nodup ∧ XfK K c "other") (X_CaseError : XcK K 11) :
    PDSs (BX P w K mg base N_law "law" (defScope s_law) f cdv A outer s H E) (WB E) (defBody s_law) (r_law sp_law_begun sp_law_word sp_law_value sp_law_flags) := by
  have sc := sc_law
  exact (pds_cons (pds_set (i := 1) sc.nd rfl (by first | exact .inl rfl | exact .inr rfl) (pd_call takes_b F_law_begun hr (fun z => nomatch z) (by rfl) (pda_cons (pd_var (pv 0)) pda_nil))) (pds_cons (pds_for (passes_of rfl) rfl (pdi_range1 (by rfl) B.range (pda_cons (pd_callB (c_max rfl) (by rfl) B.max bt_max (pda_cons pd_int (pda_cons (pd_callB (c_min rfl) (by rfl) B.min bt_min (pda_cons pd_int (pda_cons (pd_callB c_len (by rfl) B.len bt_len (pda_cons (pd_var (pv 0)) pda_nil)) pda_nil))) pda_nil))) pda_nil)) (pdg_name sc.nd rfl (by first | exact .inl rfl | exact .inr rfl)) (pds_cons (pds_par3 (i := 7) (j := 8) (l := 9) rfl sc.nd rfl rfl rfl (by decide) (by decide) (by decide) rfl rfl rfl (pda_cons (pd_call takes_b F_law_word hr (fun z => nomatch z) (by rfl) (pda_cons (pd_var (pv 1)) (pda_cons pd_int pda_nil))) (pda_cons (pd_call takes_b F_law_value hr (fun z => nomatch z) (by rfl) (pda_cons (pd_var (pv 1)) (pda_cons pd_int pda_nil))) (pda_cons (pd_call takes_b F_law_value hr (fun z => nomatch z) (by rfl) (pda_cons (pd_var (pv 1)) (pda_cons pd_int pda_nil))) pda_nil))) (by rfl)) (pds_cons (pds_set (i := 4) sc.nd rfl (by first | exact .inl rfl | exact .inr rfl) (pd_lst (pda_cons (pd_xv0 X_BadValue rfl g_BadValue (by rfl) (pd_var (pv 7))) (pda_cons (pd_xv0 X_BadPattern rfl g_BadPattern (by rfl) (pd_var (pv 7))) (pda_cons (pd_xv0 X_BadTemplate rfl g_BadTemplate (by rfl) (pd_var (pv 7))) (pda_cons (pd_xv0 X_BadCases rfl g_BadCases (by rfl) (pd_var (pv 7))) (pda_cons (pd_xv0 X_NoSet rfl g_NoSet (by rfl) (pd_var (pv 7))) pda_nil))))))) (pds_cons (pds_set (i := 5) sc.nd rfl (by first | exact .inl rfl | exact .inr rfl) (pd_lst (pda_cons (pd_xv takes_b x_BadCase hr (fun _ => hgd) rfl (by rfl) (pda_cons (pd_var (pv 8)) pda_nil)) (pda_cons (pd_xv takes_b x_Refused hr (fun _ => hgd) rfl (by rfl) (pda_cons (pd_var (pv 8)) pda_nil)) (pda_cons (pd_xv takes_b x_NoInverse hr (fun _ => hgd) rfl (by rfl) (pda_cons (pd_var (pv 8)) (pda_cons (pd_var (pv 9)) pda_nil))) (pda_cons (pd_xv takes_b x_NeverHad hr (fun _ => hgd) rfl (by rfl) (pda_cons (pd_var (pv 8)) pda_nil)) (pda_cons (pd_xv takes_b x_BadText hr (fun _ => hgd) rfl (by rfl) (pda_cons (pd_var (pv 8)) pda_nil)) (pda_cons (pd_xv takes_b x_BadName hr (fun _ => hgd) rfl (by rfl) (pda_cons (pd_var (pv 8)) pda_nil)) pda_nil)))))))) (pds_cons (pds_for (passes_of rfl) rfl (pdi_enum (by rfl) B.enumerate (pda_cons (pd_op o_add (pd_var (pv 4)) (pd_var (pv 5))) pda_nil)) (pdg_tup rfl (pdgs_cons (pdg_name sc.nd rfl (by first | exact .inl rfl | exact .inr rfl)) (pdgs_cons (pdg_name sc.nd rfl (by first | exact .inl rfl | exact .inr rfl)) pdgs_nil))) (pds_cons (pds_if (pw_or' (pt_cmp' (o_ne (u64 hr)) (pd_call takes_b F_law_flags hr (fun z => nomatch z) (by rfl) (pda_cons (pd_var (pv 11)) pda_nil)) (pd_lcX (own := [("_law_k", 12)]) false rfl sc.nd (pdi_range1 (by rfl) B.range (pda_cons pd_int pda_nil)) (blkOk_by (by rfl)) (by decide) (fun _ _ _ _ _ => (pdg_name sc.nd rfl (by first | exact .inl rfl | exact .inr rfl))) (fun _ _ _ _ _ => pdts_nil) (fun _ _ _ _ _ => (pd_cmp (o_eq (u64 hr)) (pd_var (pv 12)) (pd_var (pv 10)) (by rfl)))) (by rfl)) (pw_or1' (pt_not' (pt_tru (pd_isA (ce := 11) XS (by decide) (by rfl) (by rfl) B.isinstance bt_isinstance (pd_var (pv 11)) (by rfl) g_CaseError))))).pt (pds_one (pds_ret pd_bl)) pds_nil) (pds_one (pds_if (pt_not' (pt_tru (pd_isVE XS VE (by rfl) B.isinstance bt_isinstance (pd_var (pv 11)) (by rfl) B.ValueError))) (pds_one (pds_ret pd_bl)) pds_nil)))) (pds_cons (pds_set (i := 6) sc.nd rfl (by first | exact .inl rfl | exact .inr rfl) (pd_lst (pda_cons (pd_xfld q_at (pd_ix ix_tr (pd_var (pv 5)) pd_int (fun _ _ => rfl)) (by rfl)) (pda_cons (pd_xfld q_place (pd_ix ix_tr (pd_var (pv 5)) pd_int (fun _ _ => rfl)) (by rfl)) (pda_cons (pd_xfld q_one (pd_ix ix_tr (pd_var (pv 5)) pd_int (fun _ _ => rfl)) (by rfl)) (pda_cons (pd_xfld q_value (pd_ix ix_tr (pd_var (pv 5)) pd_int (fun _ _ => rfl)) (by rfl)) (pda_cons (pd_xfld q_line (pd_ix ix_tr (pd_var (pv 5)) pd_int (fun _ _ => rfl)) (by rfl)) (pda_cons (pd_xfld q_name (pd_ix ix_tr (pd_var (pv 5)) pd_int (fun _ _ => rfl)) (by rfl)) pda_nil)))))))) (pds_one (pds_if (pw_or' (pt_cmp' (o_ne (u64 hr)) (pd_callB (c_repr hr hgd) (by rfl) B.repr bt_repr (pda_cons (pd_var (pv 6)) pda_nil)) (pd_callB (c_repr hr hgd) (by rfl) B.repr bt_repr (pda_cons (pd_op o_mul (pd_lst (pda_cons (pd_var (pv 8)) pda_nil)) pd_int) pda_nil)) (by rfl)) (pw_or1' (pt_cmp' (o_ne (u64 hr)) (pd_callB (c_repr hr hgd) (by rfl) B.repr bt_repr (pda_cons (pd_xfld q_other (pd_ix ix_tr (pd_var (pv 5)) pd_int (fun _ _ => rfl)) (by rfl)) pda_nil)) (pd_callB (c_repr hr hgd) (by rfl) B.repr bt_repr (pda_cons (pd_var (pv 9)) pda_nil)) (by rfl)))).pt (pds_one (pds_ret pd_bl)) pds_nil)))))))) (pds_cons (pds_set (i := 3) sc.nd rfl (by first | exact .inl rfl | exact .inr rfl) (pd_xv0 X_CaseError rfl g_CaseError (by rfl) pd_str)) (pds_one (pds_ret (pd_and (pd_cmp (o_notIn (u65 hr)) pd_bl (pd_call takes_b F_law_flags hr (fun z => nomatch z) (by rfl) (pda_cons (pd_var (pv 3)) pda_nil)) (by rfl)) (pd_one (pd_isVE XS VE (by rfl) B.isinstance bt_isinstance (pd_var (pv 3)) (by rfl) B.ValueError))))))))
end DL
end T_LawB
section T_LawH
set_option Elab.async false
set_option linter.all false
set_option maxRecDepth 100000
set_option maxHeartbeats 0
namespace DL
open PySem PySem.Spec PyProof.Rows L2
def dd_BadCase__init : He.DefD := ⟨("BadCase", some "__init__"), "__init__", "BadCase.__init__", defArgs s_BadCase__init, defBody s_BadCase__init, defScope s_BadCase__init, [], []⟩
def dd_Refused__init : He.DefD := ⟨("Refused", some "__init__"), "__init__", "Refused.__init__", defArgs s_Refused__init, defBody s_Refused__init, defScope s_Refused__init, [], []⟩
def dd_NoInverse__init : He.DefD := ⟨("NoInverse", some "__init__"), "__init__", "NoInverse.__init__", defArgs s_NoInverse__init, defBody s_NoInverse__init, defScope s_NoInverse__init, [], []⟩
def dd_NeverHad__init : He.DefD := ⟨("NeverHad", some "__init__"), "__init__", "NeverHad.__init__", defArgs s_NeverHad__init, defBody s_NeverHad__init, defScope s_NeverHad__init, [], []⟩
def dd_BadText__init : He.DefD := ⟨("BadText", some "__init__"), "__init__", "BadText.__init__", defArgs s_BadText__init, defBody s_BadText__init, defScope s_BadText__init, [], []⟩
def dd_BadName__init : He.DefD := ⟨("BadName", some "__init__"), "__init__", "BadName.__init__", defArgs s_BadName__init, defBody s_BadName__init, defScope s_BadName__init, [], []⟩
def dd_law_begun : He.DefD := ⟨("_law_begun", none), "_law_begun", "_law_begun", defArgs s_law_begun, defBody s_law_begun, defScope s_law_begun, [], []⟩
def dd_law_take : He.DefD := ⟨("_law_take", none), "_law_take", "_law_take", defArgs s_law_take, defBody s_law_take, defScope s_law_take, [], []⟩
def dd_law_pick : He.DefD := ⟨("_law_pick", none), "_law_pick", "_law_pick", defArgs s_law_pick, defBody s_law_pick, defScope s_law_pick, [], []⟩
def dd_law_word : He.DefD := ⟨("_law_word", none), "_law_word", "_law_word", defArgs s_law_word, defBody s_law_word, defScope s_law_word, [], []⟩
def dd_law_atom : He.DefD := ⟨("_law_atom", none), "_law_atom", "_law_atom", defArgs s_law_atom, defBody s_law_atom, defScope s_law_atom, [], []⟩
def dd_law_value : He.DefD := ⟨("_law_value", none), "_law_value", "_law_value", defArgs s_law_value, defBody s_law_value, defScope s_law_value, [], []⟩
def dd_law_flags : He.DefD := ⟨("_law_flags", none), "_law_flags", "_law_flags", defArgs s_law_flags, defBody s_law_flags, defScope s_law_flags, [], []⟩
def dd_law : He.DefD := ⟨("law", none), "law", "law", defArgs s_law, defBody s_law, defScope s_law, [], []⟩
def fnL0 : List He.DefD := [dd_BadCase__init, dd_Refused__init, dd_NoInverse__init, dd_NeverHad__init, dd_BadText__init, dd_BadName__init, dd_law_begun, dd_law_take, dd_law_pick, dd_law_word, dd_law_atom, dd_law_value, dd_law_flags, dd_law]
def fnL : List He.DefD := fnL0
def faL0 : List He.Fa := [.glo "_law_begun", .glo "_law_take", .glo "_law_pick", .glo "_law_word", .glo "_law_atom", .glo "_law_value", .glo "_law_flags", .glo "law", .glo "CaseError", .glo "BadValue", .glo "BadPattern", .glo "BadTemplate", .glo "BadCases", .glo "NoSet", .glo "BadCase", .glo "Refused", .glo "NoInverse", .glo "NeverHad", .glo "BadText", .glo "BadName", .free "len", .free "int", .free "abs", .free "sum", .free "all", .free "any", .free "max", .free "min", .free "range", .free "list"]
def faL1 : List He.Fa := [.free "tuple", .free "str", .free "sorted", .free "set", .free "dict", .free "isinstance", .free "repr", .free "enumerate", .free "zip", .free "reversed", .free "divmod", .free "bool", .free "ValueError", .meth "BadCase" "__init__", .meth "Refused" "__init__", .meth "NoInverse" "__init__", .meth "NeverHad" "__init__", .meth "BadText" "__init__", .meth "BadName" "__init__"]
def faL : List He.Fa := faL0 ++ faL1
def exB (K : PySem.W.Frag) : Bool := isaB cl K && xsB ec K && xcB 11 K && xcB 0 K && xcB 1 K && xcB 2 K && xcB 3 K && xcB 4 K && xiB K && xoB 5 K && xoB 6 K && xoB 7 K && xoB 8 K && xoB 9 K && xoB 10 K && xkB 5 K && xkB 6 K && xkB 7 K && xkB 8 K && xkB 9 K && xkB 10 K && veB ec K
def looseL0 : List Str := ["CaseError", "BadValue", "BadPattern", "BadTemplate", "BadCases", "NoSet", "BadCase", "Refused", "NoInverse", "NeverHad", "BadText", "BadName", "_law_begun", "_law_take", "_law_pick", "_law_word", "_law_atom", "_law_value", "_law_flags"]
def looseL : List Str := looseL0
abbrev RR : PySem.W.OpenRow := PySem.W.OpenLaw.row PySem.Challenge.rw_starcases_k01_errors_made
abbrev llL : List Str := ["law"]
abbrev hk : PySem.W.Hook := hookT 6 faL fnL llL exB
def ob (s : PySem.W.SharedT) : AlT := obsT 6 faL fnL llL exB (HandSHeadRun.getT s)
theorem ob_eq (s : PySem.W.SharedT) : ob s = hk.obs s.abs := obsT_eq (HandSHeadRun.getT_eq s)
abbrev lawAt : Nat := 21
theorem run (w : World) : HandSHeadRun.RunEq RR (PySem.W.view RR.prog [21]) hk ob 12000 looseL w := by
  intro os
  kernel_rfl
end DL
end T_LawH
section T_AS0
set_option Elab.async false
set_option linter.all false
set_option maxRecDepth 100000
set_option maxHeartbeats 400000
/-! AS0: a def's promise, from its derivation and its plain proof. -/
namespace DL
open PySem PySem.Spec PyProof.Rows L2
section
variable {P : Program} {w : World} {K : PySem.W.Frag} {mg : Str → Option Value} {base : Heap}
theorem fn_def {g : Bool} {x : Str} {ps N : List Str} {k : Nat} {sp : Sf} {t : Sr} {st : Stmt} {f : Addr} {fd : FuncData} (D : FunD K x x (defArgs st) (defBody st) (defScope st) [] [] f fd) (hm : mg x = some (.ref f)) (Sc : FnScope N ps (defScope st))
    (hbind : ∀ (kV doc pm : Value) (an : Option Addr) (cdv ct : Value) (us : List Value), us.length = ps.length → bindArgs (PySem.W.fnOf x x (defArgs st) (defBody st) (defScope st) .none kV doc pm an cdv ct) ⟨us, []⟩ = pure (ps.zip us))
    (hb : ∀ (cdv : Value) (A : Around) (outer : List Env) (s : Shared) (H : Hp) (E : XK), Room k (A.deeper (envOfC x (defScope st) s.heap.objs.size f cdv)) → (g = true → Gd base A) → PDSs (BX P w K mg base N x (defScope st) f cdv A outer s H E) (WB E) (defBody st) t)
    (h : ∀ (ds : List Tr) (M : Me) (Q E : TK), ds.length = ps.length → sp.f ds M Q E → t.f (finF M.length Q E) (startE N ds) M) : Fn g P w K mg base x (k + 1) ps.length [] sp :=
  ⟨f, fd, ps, [], [], fn_mkG D Sc hb fun ds M Q E hl _ _ q => h ds M Q E hl q, hm, D.kp, D.bindsN hbind, .nil, fun _ => Reps.nil⟩
theorem Fn.up {g g' : Bool} {x : Str} {j k n : Nat} {dds : List Tr} {sp : Sf} (F : Fn g P w K mg base x j n dds sp) (h : j ≤ k) (hg : g = true → g' = true) : Fn g' P w K mg base x k n dds sp := by
  obtain ⟨f, fd, ps, ds, dvs, F1, r⟩ := F.ex
  exact ⟨f, fd, ps, ds, dvs, F1.mono h hg, r⟩
/-- a def of which nothing is asked -/
def sp_no : Sf := ⟨fun _ _ _ _ => False, fun _ _ q => q⟩
theorem fn_no {g : Bool} {x : Str} {ps : List Str} {k : Nat} {st : Stmt} {f : Addr} {fd : FuncData} (D : FunD K x x (defArgs st) (defBody st) (defScope st) [] [] f fd) (hm : mg x = some (.ref f))
    (hbind : ∀ (kV doc pm : Value) (an : Option Addr) (cdv ct : Value) (us : List Value), us.length = ps.length → bindArgs (PySem.W.fnOf x x (defArgs st) (defBody st) (defScope st) .none kV doc pm an cdv ct) ⟨us, []⟩ = pure (ps.zip us)) {sp : Sf} (h : ∀ ds M Q E, ¬ sp.f ds M Q E) : Fn g P w K mg base x k ps.length [] sp :=
  ⟨f, fd, ps, [], [], ⟨fun vs H Q E q => q.1, fun A outer s H args us vs Q E _ _ _ _ _ q => by
    obtain ⟨_, ds, M, S, _, _, q⟩ := q
    exact (h _ _ _ _ q).elim⟩, hm, D.kp, D.bindsN hbind, .nil, fun _ => Reps.nil⟩
end
end DL
end T_AS0
section T_AS1
set_option Elab.async false
set_option linter.all false
set_option maxRecDepth 100000
set_option maxHeartbeats 400000
/-! AS1: what the head tells of a def, of a class, of an exception's class. -/
namespace DL
open PySem PySem.Spec PyProof.Rows L2
abbrev DefOk (K : PySem.W.Frag) (mg : Str → Option Value) (x : Str) (st : Stmt) : Prop := ∃ f fd, FunD K x x (defArgs st) (defBody st) (defScope st) [] [] f fd ∧ mg x = some (.ref f)
abbrev ClsOk (K : PySem.W.Frag) (mg : Str → Option Value) (x q : Str) (st : Stmt) (dvs : List V) : Prop := ∃ f fd, FunD K "__init__" q (defArgs st) (defBody st) (defScope st) dvs [] f fd ∧ Mk K (He.ga K x) f ∧ mg x = some (.ref (He.ga K x))
abbrev XnOk (K : PySem.W.Frag) (c : Nat) (q : Str) (st : Stmt) : Prop := ∃ f fd, FunD K "__init__" q (defArgs st) (defBody st) (defScope st) [] [] f fd ∧ Meth K (excA K c) "__init__" f
section
variable {P : Program} {w : World} {K : PySem.W.Frag} {mg : Str → Option Value} {base : Heap}
theorem fn_defC {g : Bool} {x : Str} {ps N : List Str} {k : Nat} {sp : Sf} {t : Sr} {st : Stmt} {f : Addr} {fd : FuncData} (D : FunD K x x (defArgs st) (defBody st) (defScope st) [] [] f fd) (hm : mg x = some (.ref f)) (Sc : FnScope N ps (defScope st))
    (hbind : ∀ (kV doc pm : Value) (an : Option Addr) (cdv ct : Value) (us : List Value), us.length = ps.length → bindArgs (PySem.W.fnOf x x (defArgs st) (defBody st) (defScope st) .none kV doc pm an cdv ct) ⟨us, []⟩ = pure (ps.zip us))
    (hb : ∀ (cdv : Value) (A : Around) (outer : List Env) (s : Shared) (H : Hp) (E : XK), Room k (A.deeper (envOfC x (defScope st) s.heap.objs.size f cdv)) → (g = true → Gd base A) → PDSs (BX P w K mg base N x (defScope st) f cdv A outer s H E) (WB E) (defBody st) t)
    (h : ∀ (ds : List Tr) (M : Me) (Q E : TK), ds.length = ps.length → (∀ c ∈ M, belowC M.length c) → sp.f ds M Q E → t.f (finF M.length Q E) (startE N ds) M) : Fn g P w K mg base x (k + 1) ps.length [] sp :=
  ⟨f, fd, ps, [], [], fn_mkG D Sc hb fun ds M Q E hl _ hC q => h ds M Q E hl hC q, hm, D.kp, D.bindsN hbind, .nil, fun _ => Reps.nil⟩
theorem mk_def {x : Str} {c n : Nat} (hx : x = cnm c) {ps N : List Str} {k : Nat} {sp : Sf} {t : Sr} {st : Stmt} {nm q : Str} {dvs : List V} {f : Addr} {fd : FuncData} (D : FunD K nm q (defArgs st) (defBody st) (defScope st) dvs [] f fd) (hmk : Mk K (He.ga K x) f) (hm : mg x = some (.ref (He.ga K x)))
    (Sc : FnScope N ps (defScope st)) (hbn : Binds K fd ps []) (hn : ps.length = n + 1)
    (hb : ∀ (cdv : Value) (A : Around) (outer : List Env) (s : Shared) (H : Hp) (E : XK), Room k (A.deeper (envOfC q (defScope st) s.heap.objs.size f cdv)) → PDSs (BX P w K mg base N q (defScope st) f cdv A outer s H E) (WB E) (defBody st) t)
    (h : ∀ (ds : List Tr) (M : Me) (Q E : TK), ds.length = ps.length → sp.f ds M Q E → t.f (finF M.length Q E) (startE N ds) M) : Mkr P w K mg base x c (k + 1) n [] sp := by
  have F := (fn_mkG (g := false) D Sc (fun cdv A outer s H E hr _ => hb cdv A outer s H E hr) (P := P) (w := w) (mg := mg) (base := base) fun ds M Q E hl _ _ q => h ds M Q E hl q).ok
  rw [hn] at F
  exact ⟨hx, f, fd, ps, [], [], hmk, F, hm, hbn, .nil, fun _ => Reps.nil⟩
theorem Mkr.up {x : Str} {c j k n : Nat} {dds : List Tr} {sp : Sf} (F : Mkr P w K mg base x c j n dds sp) (h : j ≤ k) : Mkr P w K mg base x c k n dds sp := by
  obtain ⟨hx, f, fd, ps, ds, dvs, hm, F1, r⟩ := F
  exact ⟨hx, f, fd, ps, ds, dvs, hm, F1.mono h, r⟩
end
end DL
end T_AS1
section T_PL0
set_option Elab.async false
set_option linter.all false
set_option maxRecDepth 100000
set_option maxHeartbeats 4000000
/-! PL0: rules for readings: loops by invariants, simple steps. -/
namespace DL
open PySem PySem.Spec PyProof.Rows L2
section
variable {ρ : En} {M : Me} {E : TK}
theorem w_some {α : Type} {o : Option α} {z : α} {k : α → Prop} (e : o = some z) (h : k z) : onSome o k := by rw [e]; exact h
theorem w_var {Q : TK} {i : Nat} {d : Tr} (e : ρ[i]? = some (some d)) (h : Q d M) : (dVar i).f ρ M Q E := by
  show (match ρ[i]? with
    | some (some d) => Q d M
    | _ => False)
  rw [e]
  exact h
theorem w_c {Q : TK} {d : Tr} (h : Q d M) : (dC d).f ρ M Q E := h
theorem w_op {Q : TK} {f : F2} {a b : Rd Tr} (h : a.f ρ M (fun d M1 => b.f ρ M1 (fun e M2 => onSome (f M2 d e) fun z => Q z M2) E) E) : (dOp f a b).f ρ M Q E := h
theorem w_test {Q : Bool → Me → Prop} {t : Rd Tr} {P : TK} (h : t.f ρ M P E) (k : ∀ d M, P d M → ∃ b, d = .bl b ∧ Q b M) : (dTest t).f ρ M Q E := t.mono (fun d M1 q => by
  obtain ⟨b, rfl, q2⟩ := k d M1 q
  exact q2) (fun _ _ z => z) h
theorem w_seq {t u : Sr} {F : Fin} (h : t.f { F with nx := u.f F } ρ M) : (sSeq t u).f F ρ M := h
theorem w_asg {t : Rd Tr} {F : Fin} {i : Nat} (h : t.f ρ M (fun d M1 => F.nx (ρ.set i (some d)) M1) (F.er ρ)) : (sAsg (.nm i) t).f F ρ M := h
theorem w_ret {t : Rd Tr} {F : Fin} (h : t.f ρ M F.rt (F.er ρ)) : (sRet t).f F ρ M := h
/-- a loop by an invariant -/
theorem forT_inv {g : Tg} {tb : Sr} {F : Fin} (I : Nat → En → Me → Prop) : ∀ (xs : List Tr) (n : Nat) (ρ : En) (M : Me), I n ρ M →
    (∀ (i : Nat) (x : Tr) (ρ : En) (M : Me), xs[i]? = some x → I (n + i) ρ M → ∃ ρ', setTg g x ρ = some ρ' ∧ tb.f { F with nx := I (n + i + 1), ct := I (n + i + 1), bk := F.nx } ρ' M) →
    (∀ ρ M, I (n + xs.length) ρ M → F.nx ρ M) → forT g tb xs F ρ M
  | [], n, ρ, M, h0, _, hn => hn ρ M h0
  | x :: r, n, ρ, M, h0, hs, hn => by
    obtain ⟨ρ', e, q⟩ := hs 0 x ρ M rfl h0
    refine w_some e (tb.mono (D := { F with nx := I (n + 1), ct := I (n + 1), bk := F.nx }) (D' := { F with nx := forT g tb r F, ct := forT g tb r F, bk := F.nx }) ⟨fun ρ1 M1 h1 => ?_, fun _ _ z => z, fun _ _ z => z, fun ρ1 M1 h1 => ?_, fun _ _ _ z => z⟩ q)
    · exact forT_inv I r (n + 1) ρ1 M1 h1 (fun i y ρ2 M2 e2 h2 => by
        have := hs (i + 1) y ρ2 M2 (by simpa using e2) (by rw [show n + (i + 1) = n + 1 + i by omega]; exact h2)
        rw [show n + (i + 1) = n + 1 + i by omega] at this
        exact this) fun ρ2 M2 h2 => hn ρ2 M2 (by rw [List.length_cons, show n + (r.length + 1) = n + 1 + r.length by omega]; exact h2)
    · exact forT_inv I r (n + 1) ρ1 M1 h1 (fun i y ρ2 M2 e2 h2 => by
        have := hs (i + 1) y ρ2 M2 (by simpa using e2) (by rw [show n + (i + 1) = n + 1 + i by omega]; exact h2)
        rw [show n + (i + 1) = n + 1 + i by omega] at this
        exact this) fun ρ2 M2 h2 => hn ρ2 M2 (by rw [List.length_cons, show n + (r.length + 1) = n + 1 + r.length by omega]; exact h2)
theorem w_for {it : Rd (List Tr)} {g : Tg} {tb : Sr} {F : Fin} (h : it.f ρ M (fun xs M1 => forT g tb xs F ρ M1) (F.er ρ)) : (sFor it g tb).f F ρ M := h
/-- a comprehension by an invariant -/
theorem compT_inv {g : Tg} {tt : Rd Bool} {te : Rd Tr} {Q : List Tr → Me → Prop} (I : Nat → List Tr → Me → Prop) : ∀ (xs : List Tr) (n : Nat) (acc : List Tr) (M : Me), I n acc M →
    (∀ (i : Nat) (x : Tr) (acc : List Tr) (M : Me), xs[i]? = some x → I (n + i) acc M → ∃ ρ', setTg g x ρ = some ρ' ∧ tt.f ρ' M (fun b M1 => if b = true then te.f ρ' M1 (fun y M2 => acc.length < big ∧ I (n + i + 1) (acc ++ [y]) M2) (fun _ _ => False) else I (n + i + 1) acc M1) fun _ _ => False) →
    (∀ acc M, I (n + xs.length) acc M → Q acc M) → compT g tt te ρ xs acc M Q
  | [], n, acc, M, h0, _, hn => hn acc M h0
  | x :: r, n, acc, M, h0, hs, hn => by
    obtain ⟨ρ', e, q⟩ := hs 0 x acc M rfl h0
    have rc : ∀ acc1 M1, I (n + 1) acc1 M1 → compT g tt te ρ r acc1 M1 Q := fun acc1 M1 h1 => compT_inv I r (n + 1) acc1 M1 h1 (fun i y ρ2 M2 e2 h2 => by
        have := hs (i + 1) y ρ2 M2 (by simpa using e2) (by rw [show n + (i + 1) = n + 1 + i by omega]; exact h2)
        rw [show n + (i + 1) = n + 1 + i by omega] at this
        exact this) fun ρ2 M2 h2 => hn ρ2 M2 (by rw [List.length_cons, show n + (r.length + 1) = n + 1 + r.length by omega]; exact h2)
    refine w_some e (tt.mono (fun b M1 z => ?_) (fun _ _ z => z) q)
    by_cases hb : b = true
    · rw [if_pos hb] at z ⊢
      exact te.mono (fun y M2 z2 => ⟨z2.1, rc _ _ z2.2⟩) (fun _ _ z => z) z
    · rw [if_neg hb] at z ⊢
      exact rc _ _ z
/-- a comprehension over a pure map -/
theorem compT_map {g : Tg} {te : Rd Tr} {Q : List Tr → Me → Prop} (φ : Tr → Tr) (M : Me) : ∀ (xs acc : List Tr), acc.length + xs.length ≤ big →
    (∀ x ∈ xs, ∃ ρ', setTg g x ρ = some ρ' ∧ ∀ Q' : TK, Q' (φ x) M → te.f ρ' M Q' fun _ _ => False) → Q (acc ++ xs.map φ) M → compT g dTrue te ρ xs acc M Q
  | [], acc, _, _, q => by
    show Q acc M
    simpa using q
  | x :: r, acc, hl, h, q => by
    obtain ⟨ρ', e, k⟩ := h x (List.mem_cons_self ..)
    rw [List.length_cons] at hl
    refine w_some e ?_
    show (if true = true then te.f ρ' M (fun y M2 => acc.length < big ∧ compT g dTrue te ρ r (acc ++ [y]) M2 Q) (fun _ _ => False) else compT g dTrue te ρ r acc M Q)
    rw [if_pos rfl]
    refine k _ ⟨by omega, compT_map φ M r (acc ++ [φ x]) (by rw [List.length_append, List.length_singleton]; omega) (fun y hy => h y (List.mem_cons_of_mem _ hy)) ?_⟩
    simpa using q
end
end DL
end T_PL0
section T_GV
set_option Elab.async false
set_option linter.all false
set_option maxRecDepth 100000
set_option maxHeartbeats 400000
/-! GV: values as trees (PV0 to PV7, less what k10 does not reach) -/
namespace DL
open PySem PySem.Spec PyProof.Rows L2
def lettersS : Str := "abcdefghijklmnopqrstuvwxyz"
def wordB (w : Str) : Bool := decide (1 ≤ w.length) && decide (w.length ≤ 8) && w.cps.toList.all fun c => decide (c ∈ lettersS.cps.toList)
def intB (i : Int) : Bool := decide ((if i < 0 then -i else i) < 10 ^ 40)
mutual
/-- a value of the program -/
def okV : Tr → Bool
  | .non => true
  | .int i => intB i
  | .str w => wordB w
  | .lst xs => decide (xs.length ≤ 1000) && okVs xs
  | _ => false
def okVs : List Tr → Bool
  | [] => true
  | d :: ds => okV d && okVs ds
end
mutual
def depV : Tr → Nat
  | .lst xs => depVs xs + 1
  | _ => 0
def depVs : List Tr → Nat
  | [] => 0
  | d :: ds => max (depV d) (depVs ds)
end
mutual
def partsV : Tr → Int
  | .lst xs => 1 + partsVs xs
  | _ => 1
def partsVs : List Tr → Int
  | [] => 0
  | d :: ds => partsV d + partsVs ds
end
theorem okVs_mem : ∀ {ds : List Tr} {d : Tr}, okVs ds = true → d ∈ ds → okV d = true
  | d :: ds, x, h, m => by
    simp only [okVs, Bool.and_eq_true] at h
    rcases List.mem_cons.mp m with e | e
    · subst e; exact h.1
    · exact okVs_mem h.2 e
theorem depVs_mem : ∀ {ds : List Tr} {d : Tr}, d ∈ ds → depV d ≤ depVs ds
  | d :: ds, x, m => by
    simp only [depVs]
    rcases List.mem_cons.mp m with e | e
    · subst e; omega
    · have := depVs_mem e; omega
theorem okV_lst {xs : List Tr} (h : okV (.lst xs) = true) : xs.length ≤ 1000 ∧ okVs xs = true := by
  simpa only [okV, Bool.and_eq_true, decide_eq_true_eq] using h
theorem okV_mem {xs : List Tr} {x : Tr} (h : okV (.lst xs) = true) (m : x ∈ xs) : okV x = true := okVs_mem (okV_lst h).2 m
/-- a pure def of one argument: f of every tree of P -/
def sp1 (P : Tr → Prop) (f : Tr → Tr) : Sf := ⟨fun ds M Q _ => ∃ d, ds = [d] ∧ P d ∧ Q (f d) M, fun h _ ⟨d, a, b, q⟩ => ⟨d, a, b, h _ _ q⟩⟩
def sp_is_word : Sf := sp1 (fun d => okV d = true) fun d => match d with
  | .str w => .bl (wordB w)
  | _ => .bl false
theorem tyG_in {M : Me} {d : Tr} {cl : List Nat} (h : okV d = true) : ∃ g, tyG M d = some g ∧ g ∈ tags cl := by
  cases d with
  | non => exact ⟨_, rfl, by simp [tags]⟩
  | int i => exact ⟨_, rfl, by simp [tags]⟩
  | str i => exact ⟨_, rfl, by simp [tags]⟩
  | lst i => exact ⟨_, rfl, by simp [tags]⟩
  | _ => simp [okV] at h
theorem in_letters {M : Me} {c : Nat} : inT M (.str ⟨#[c]⟩) (.str "abcdefghijklmnopqrstuvwxyz") = some (.bl (decide (c ∈ lettersS.cps.toList))) := by
  rfl
theorem allF_true {M : Me} (l : List Tr) : allF M [.lst (l.map fun _ => Tr.bl true)] = some (.bl true, M) := by
  have : bls? (l.map fun _ => Tr.bl true) = some (l.map fun _ => true) := by
    induction l with
    | nil => rfl
    | cons x r ih => simp only [List.map_cons, bls?, ih, Option.map_some]
  simp only [allF, seqL, Option.bind_some, this, Option.map_some]
  simp
def sp_is_integer : Sf := sp1 (fun d => okV d = true) fun d => match d with
  | .int i => .bl (intB i)
  | _ => .bl false
def atomB : Tr → Bool
  | .lst _ => false
  | _ => true
def sp_is_atom : Sf := sp1 (fun d => okV d = true) fun d => .bl (atomB d)
theorem isa_list {d : Tr} {M : Me} {g : TyG} (h : okV d = true) (e : tyG M d = some g) : ([TyG.b "list"].any (isa g)) = !atomB d := by
  cases d with
  | non => simp only [tyG, Option.some.injEq] at e; subst e; rfl
  | int i => simp only [tyG, Option.some.injEq] at e; subst e; rfl
  | str i => simp only [tyG, Option.some.injEq] at e; subst e; rfl
  | lst i => simp only [tyG, Option.some.injEq] at e; subst e; rfl
  | _ => simp [okV] at h
/-- the test isinstance(x, list) of a value -/
theorem w_isList {cl : List Nat} {ρ : En} {M : Me} {Q : Bool → Me → Prop} {E : TK} {i : Nat} {d : Tr} (e : ρ[i]? = some (some d)) (h : okV d = true) (q : Q (!atomB d) M) : (dTru (dIsi cl [.b "list"] (dVar i))).f ρ M Q E := by
  obtain ⟨g, eg, hg⟩ := tyG_in (M := M) (cl := cl) h
  simp only [dTru, dIsi, dVar, e, eg, onSome]
  refine ⟨hg, ?_⟩
  rw [isa_list h eg]
  exact q
def sp_stands (n : Nat) : Sf := ⟨fun ds M Q _ => ∃ d, ∃ k : Nat, ds = [d, .int (k : Nat)] ∧ okV d = true ∧ depV d < n ∧ depV d ≤ k ∧ Q (.bl true) M, fun h _ ⟨d, k, a, b, c, e, q⟩ => ⟨d, k, a, b, c, e, h _ _ q⟩⟩
def sp_is_value : Sf := sp1 (fun d => okV d = true ∧ depV d ≤ 60) fun _ => .bl true
def sp_need_value : Sf := sp1 (fun d => okV d = true ∧ depV d ≤ 60) fun _ => .non
def kindV : Tr → Str
  | .non => "none"
  | .lst _ => "list"
  | .str _ => "word"
  | _ => "int"
theorem isa_str {d : Tr} {M : Me} {g : TyG} (h : okV d = true) (e : tyG M d = some g) : ([TyG.b "str"].any (isa g)) = decide (kindV d = "word") := by
  cases d with
  | non => simp only [tyG, Option.some.injEq] at e; subst e; decide
  | int i => simp only [tyG, Option.some.injEq] at e; subst e; exact (by decide : ([TyG.b "str"].any (isa (.b "int"))) = decide (("int" : Str) = "word"))
  | str i => simp only [tyG, Option.some.injEq] at e; subst e; exact (by decide : ([TyG.b "str"].any (isa (.b "str"))) = decide (("word" : Str) = "word"))
  | lst i => simp only [tyG, Option.some.injEq] at e; subst e; exact (by decide : ([TyG.b "str"].any (isa (.b "list"))) = decide (("list" : Str) = "word"))
  | _ => simp [okV] at h
def sp_kind_here : Sf := sp1 (fun d => okV d = true) fun d => .str (kindV d)
def sp_copied (n : Nat) : Sf := sp1 (fun d => okV d = true ∧ depV d < n) fun d => d
mutual
def sameV : Tr → Tr → Bool
  | .non, .non => true
  | .int i, .int j => decide (i = j)
  | .str a, .str b => decide (a = b)
  | .lst xs, .lst ys => sameVs xs ys
  | _, _ => false
def sameVs : List Tr → List Tr → Bool
  | [], [] => true
  | x :: xs, y :: ys => sameV x y && sameVs xs ys
  | _, _ => false
end
theorem str_beq {a b : Str} : (a == b) = decide (a = b) := by
  by_cases e : a = b
  · subst e; simp
  · rw [decide_eq_false e]; exact beq_eq_false_iff_ne.mpr e
theorem eqT_str' {M : Me} {a b : Str} (ha : PyData.strOk a = true) (hb : PyData.strOk b = true) : eqT M (.str a) (.str b) = some (.bl (decide (a = b))) := by
  have h : ∀ x : Str, PyData.strOk x = true → SeqAt.shaped (.str x) = true := fun x hx => by
    simp only [SeqAt.shaped, PyData.canLay0, PyData.depth, hx]
    rfl
  simp only [eqT, eqB, viewD, pyd, h a ha, h b hb, Bool.and_self, if_true, Option.map_some, PyData.eqv, str_beq]
theorem eqT_non {M : Me} : eqT M .non .non = some (.bl true) := by
  simp only [eqT, eqB, viewD, pyd, SeqAt.shaped, Bool.and_self, if_true, Option.map_some, PyData.eqv]
  rfl
theorem eqT_int' {M : Me} {a b : Int} : eqT M (.int a) (.int b) = some (.bl (decide (a = b))) := by
  simp only [eqT, eqB, viewD, pyd, SeqAt.shaped, Bool.and_self, if_true, Option.map_some, PyData.eqv]
  rfl
theorem letters_ok : ∀ c ∈ lettersS.cps.toList, c < 0x110000 := by decide
theorem strOk_word {w : Str} (h : wordB w = true) : PyData.strOk w = true := by
  unfold wordB at h
  simp only [Bool.and_eq_true] at h
  have h3 := List.all_eq_true.mp h.2
  unfold PyData.strOk
  rw [Array.all_eq_true']
  intro c hc
  exact decide_eq_true (letters_ok c (of_decide_eq_true (h3 c (Array.mem_toList_iff.mpr hc))))
theorem strOk_kind (d : Tr) : PyData.strOk (kindV d) = true := by
  have h1 : PyData.strOk "none" = true := by decide +kernel
  have h2 : PyData.strOk "list" = true := by decide +kernel
  have h3 : PyData.strOk "word" = true := by decide +kernel
  have h4 : PyData.strOk "int" = true := by decide +kernel
  cases d <;> simp only [kindV] <;> assumption
/-- == of two atoms of one kind -/
theorem eqT_atom {M : Me} {a b : Tr} (ha : okV a = true) (hb : okV b = true) (hk : kindV a = kindV b) (h1 : atomB a = true) : eqT M a b = some (.bl (sameV a b)) := by
  have k1 : ("none" : Str) ≠ "list" := by decide
  have k2 : ("none" : Str) ≠ "word" := by decide
  have k3 : ("none" : Str) ≠ "int" := by decide
  have k4 : ("list" : Str) ≠ "word" := by decide
  have k5 : ("list" : Str) ≠ "int" := by decide
  have k6 : ("word" : Str) ≠ "int" := by decide
  cases a with
  | non => cases b with
    | non => simp only [sameV]; exact eqT_non
    | int _ => exact absurd hk k3
    | str _ => exact absurd hk k2
    | lst _ => exact absurd hk k1
    | _ => simp [okV] at hb
  | int i => cases b with
    | non => exact absurd hk.symm k3
    | int j => simp only [sameV]; exact eqT_int'
    | str _ => exact absurd hk.symm k6
    | lst _ => exact absurd hk.symm k5
    | _ => simp [okV] at hb
  | str x => cases b with
    | non => exact absurd hk.symm k2
    | int _ => exact absurd hk k6
    | str y => simp only [sameV]; exact eqT_str' (strOk_word ha) (strOk_word hb)
    | lst _ => exact absurd hk.symm k4
    | _ => simp [okV] at hb
  | lst xs => simp [atomB] at h1
  | _ => simp [okV] at ha
theorem sameV_kind {a b : Tr} (ha : okV a = true) (hb : okV b = true) (hk : kindV a ≠ kindV b) : sameV a b = false := by
  cases a <;> cases b <;> first
    | exact absurd rfl hk
    | (simp [okV] at ha; done)
    | (simp [okV] at hb; done)
    | rfl
    | simp [sameV]
/-- a pure def of two arguments -/
def sp2 (P : Tr → Tr → Prop) (f : Tr → Tr → Tr) : Sf := ⟨fun ds M Q _ => ∃ a b, ds = [a, b] ∧ P a b ∧ Q (f a b) M, fun h _ ⟨a, b, c, d, q⟩ => ⟨a, b, c, d, h _ _ q⟩⟩
def sp_is_same (n : Nat) : Sf := sp2 (fun a b => okV a = true ∧ okV b = true ∧ depV a < n) fun a b => .bl (sameV a b)
theorem sameVs_zip : ∀ {xs ys : List Tr}, xs.length = ys.length → sameVs xs ys = ((zipT xs ys).map fun d => match d with
    | .tup [a, b] => sameV a b
    | _ => false).all id
  | [], [], _ => rfl
  | x :: xs, y :: ys, h => by
    simp only [sameVs, zipT, List.map_cons, List.all_cons, id]
    rw [sameVs_zip (by simpa using h)]
  | [], _ :: _, h => by simp at h
  | _ :: _, [], h => by simp at h
theorem sameVs_len : ∀ {xs ys : List Tr}, xs.length ≠ ys.length → sameVs xs ys = false
  | [], [], h => absurd rfl h
  | x :: xs, y :: ys, h => by
    simp only [sameVs]
    rw [sameVs_len (by simpa using h), Bool.and_false]
  | [], _ :: _, h => rfl
  | _ :: _, [], h => rfl
theorem zipT_mem : ∀ {xs ys : List Tr} {d : Tr}, d ∈ zipT xs ys → ∃ a b, d = .tup [a, b] ∧ a ∈ xs ∧ b ∈ ys
  | x :: xs, y :: ys, d, h => by
    simp only [zipT, List.mem_cons] at h
    rcases h with rfl | h
    · exact ⟨x, y, rfl, by simp, by simp⟩
    · obtain ⟨a, b, e, h1, h2⟩ := zipT_mem h
      exact ⟨a, b, e, by simp [h1], by simp [h2]⟩
  | [], _, d, h => by simp [zipT] at h
  | _ :: _, [], d, h => by simp [zipT] at h
theorem allF_map {M : Me} (f : Tr → Bool) (l : List Tr) : allF M [.lst (l.map fun d => Tr.bl (f d))] = some (.bl ((l.map f).all id), M) := by
  have : bls? (l.map fun d => Tr.bl (f d)) = some (l.map f) := by
    induction l with
    | nil => rfl
    | cons x r ih => simp only [List.map_cons, bls?, ih, Option.map_some]
  simp only [allF, seqL, Option.bind_some, this, Option.map_some]
def atomTextV : Tr → Str
  | .str w => Str.empty ++ "'" ++ w ++ "'"
  | .int i => toString i
  | .non => "None"
  | _ => Str.empty
theorem log2_intB {i : Int} (h : intB i = true) : i.natAbs.log2 < 1920 := by
  unfold intB at h
  have h := of_decide_eq_true h
  have h2 : i.natAbs < 2 ^ 134 := by
    have : (10 : Int) ^ 40 < 2 ^ 134 := by decide
    split at h <;> omega
  by_cases h0 : i.natAbs = 0
  · rw [h0]; decide
  · have := (Nat.log2_lt h0).mpr h2
    omega
mutual
def textV : Tr → Str
  | .lst xs => "[" ++ Txt.join ", " (textVs xs) ++ "]"
  | d => atomTextV d
def textVs : List Tr → List Str
  | [] => []
  | d :: ds => textV d :: textVs ds
end
theorem textVs_map : ∀ xs : List Tr, textVs xs = xs.map textV
  | [] => by simp only [textVs, List.map_nil]
  | x :: r => by simp only [textVs, List.map_cons, textVs_map r]
mutual
/-- a bound of a value's text and of its repr -/
def szV : Tr → Nat
  | .lst xs => 2 + szVs xs
  | _ => 100
def szVs : List Tr → Nat
  | [] => 0
  | d :: ds => (szV d + 2) + szVs ds
end
theorem szVs_mem : ∀ {ds : List Tr} {d : Tr}, d ∈ ds → szV d + 2 ≤ szVs ds
  | d :: ds, x, m => by
    simp only [szVs]
    rcases List.mem_cons.mp m with e | e
    · subst e; omega
    · have := szVs_mem e; omega
theorem len_app (a b : Str) : (a ++ b).length = a.length + b.length := PySem.Str.length_append a b
theorem len_ofString (s : String) : (Str.ofString s).length = s.length := by
  rw [Str.ofString_eq_toList]
  show (s.toList.map Char.toNat).toArray.size = _
  simp [String.length_toList]
theorem len_int {i : Int} (h : intB i = true) : ((toString i : String) : Str).length ≤ 50 := by
  unfold intB at h
  have h := of_decide_eq_true h
  rw [len_ofString, Int.toString_eq_repr, Int.repr_eq_if]
  by_cases h0 : 0 ≤ i
  · rw [if_pos h0]
    have : i.toNat.repr.length ≤ 40 := (Nat.length_repr_le_iff (by decide)).mpr (by
      rw [if_neg (by omega)] at h
      have e : ((10 ^ 40 : Nat) : Int) = 10 ^ 40 := by decide
      omega)
    omega
  · rw [if_neg h0, String.length_append]
    have : (-i).toNat.repr.length ≤ 40 := (Nat.length_repr_le_iff (by decide)).mpr (by
      rw [if_pos (by omega)] at h
      have e : ((10 ^ 40 : Nat) : Int) = 10 ^ 40 := by decide
      omega)
    have e2 : ("-" : String).length = 1 := by decide
    omega
theorem len_word {w : Str} (h : wordB w = true) : w.length ≤ 8 := by
  unfold wordB at h
  simp only [Bool.and_eq_true, decide_eq_true_eq] at h
  exact h.1.2
theorem len_atom {d : Tr} (h : okV d = true) (hA : atomB d = true) : (atomTextV d).length ≤ 100 := by
  cases d with
  | non => show ("None" : Str).length ≤ 100; decide
  | int i =>
    have := len_int (i := i) (by simpa only [okV] using h)
    show ((toString i : String) : Str).length ≤ 100
    omega
  | str w =>
    have := len_word (w := w) (by simpa only [okV] using h)
    show (Str.empty ++ "'" ++ w ++ "'" : Str).length ≤ 100
    rw [len_app, len_app, len_app]
    have e : ("'" : Str).length = 1 := by decide
    have e2 : (Str.empty : Str).length = 0 := by decide
    omega
  | lst xs => simp [atomB] at hA
  | _ => simp [okV] at h
theorem join_eq (a : Str) (ws : List Str) : Txt.join a ws = Str.join a ws := by
  unfold Txt.join
  rw [StrLaws.glued_eq_join]
theorem len_join (ws : List Str) : (Str.join ", " ws).length ≤ (ws.map fun w => w.length + 2).sum := by
  cases ws with
  | nil => exact Nat.zero_le _
  | cons w r =>
    have := join_length_add (w :: r) (by simp)
    unfold piled at this
    omega
mutual
theorem len_text : ∀ d : Tr, okV d = true → (textV d).length ≤ szV d
  | .lst xs, h => by
    simp only [textV, szV]
    rw [len_app, len_app, join_eq]
    have h1 := len_join (textVs xs)
    have h2 := len_texts xs (okV_lst h).2
    have e : ("[" : Str).length = 1 := by decide
    have e2 : ("]" : Str).length = 1 := by decide
    omega
  | .non, h => by simp only [textV, szV]; exact len_atom h rfl
  | .int i, h => by simp only [textV, szV]; exact len_atom h rfl
  | .str i, h => by simp only [textV, szV]; exact len_atom h rfl
  | .bl _, h => by simp [okV] at h
  | .tup _, h => by simp [okV] at h
  | .dct _ _, h => by simp [okV] at h
  | .ins _ _, h => by simp [okV] at h
  | .exc _ _, h => by simp [okV] at h
  | .cell _, h => by simp [okV] at h
  | .scr _, h => by simp [okV] at h
  | .dkf _ _, h => by simp [okV] at h
theorem len_texts : ∀ ds : List Tr, okVs ds = true → ((textVs ds).map fun w => w.length + 2).sum ≤ szVs ds
  | [], _ => by simp only [textVs, List.map_nil, List.sum_nil, szVs]; omega
  | d :: ds, h => by
    simp only [okVs, Bool.and_eq_true] at h
    have h1 := len_text d h.1
    have h2 := len_texts ds h.2
    simp only [textVs, List.map_cons, List.sum_cons, szVs]
    omega
end
theorem strOk_app {a b : Str} (ha : PyData.strOk a = true) (hb : PyData.strOk b = true) : PyData.strOk (a ++ b) = true := by
  unfold PyData.strOk at ha hb ⊢
  rw [Array.all_eq_true'] at ha hb ⊢
  intro c hc
  have : c ∈ a.cps ++ b.cps := hc
  rcases Array.mem_append.mp this with h | h
  · exact ha c h
  · exact hb c h
theorem char_lt (c : Char) : c.toNat < 0x110000 := by
  have h : c.val.toNat.isValidChar := c.valid
  show c.val.toNat < _
  rcases h with h | h <;> omega
theorem strOk_ofString (s : String) : PyData.strOk (Str.ofString s) = true := by
  rw [Str.ofString_eq_toList]
  unfold PyData.strOk
  rw [Array.all_eq_true']
  intro c hc
  have : c ∈ (s.toList.map Char.toNat).toArray := hc
  simp only [List.mem_toArray, List.mem_map] at this
  obtain ⟨d, _, rfl⟩ := this
  exact decide_eq_true (char_lt d)
theorem strOk_join {a : Str} (ha : PyData.strOk a = true) : ∀ ws : List Str, (∀ w ∈ ws, PyData.strOk w = true) → PyData.strOk (Str.join a ws) = true
  | [], _ => by show PyData.strOk Str.empty = true; decide +kernel
  | [x], h => h x (List.mem_cons_self ..)
  | x :: y :: r, h => strOk_app (strOk_app (h x (List.mem_cons_self ..)) ha) (strOk_join ha (y :: r) fun w hw => h w (List.mem_cons_of_mem _ hw))
mutual
theorem strOk_text : ∀ d : Tr, okV d = true → PyData.strOk (textV d) = true
  | .lst xs, h => by
    simp only [textV]
    rw [join_eq]
    exact strOk_app (strOk_app (by decide +kernel) (strOk_join (by decide +kernel) _ (strOk_texts xs (okV_lst h).2))) (by decide +kernel)
  | .non, h => by simp only [textV]; show PyData.strOk "None" = true; decide +kernel
  | .int i, h => by simp only [textV]; exact strOk_ofString _
  | .str i, h => by
    simp only [textV]
    have := strOk_word (w := i) (by simpa only [okV] using h)
    exact strOk_app (strOk_app (by decide +kernel) this) (by decide +kernel)
  | .bl _, h => by simp [okV] at h
  | .tup _, h => by simp [okV] at h
  | .dct _ _, h => by simp [okV] at h
  | .ins _ _, h => by simp [okV] at h
  | .exc _ _, h => by simp [okV] at h
  | .cell _, h => by simp [okV] at h
  | .scr _, h => by simp [okV] at h
  | .dkf _ _, h => by simp [okV] at h
theorem strOk_texts : ∀ ds : List Tr, okVs ds = true → ∀ w ∈ textVs ds, PyData.strOk w = true
  | [], _ => by simp only [textVs]; exact fun _ h => nomatch h
  | d :: ds, h => by
    simp only [okVs, Bool.and_eq_true] at h
    simp only [textVs]
    intro w hw
    rcases List.mem_cons.mp hw with e | e
    · subst e; exact strOk_text d h.1
    · exact strOk_texts ds h.2 w e
end
end DL
end T_GV
section T_GL
set_option Elab.async false
set_option linter.all false
set_option maxRecDepth 100000
set_option maxHeartbeats 400000
/-! GL: drawing (PL1 to PL5) -/
namespace DL
open PySem PySem.Spec PyProof.Rows L2
abbrev drK : List Key := [.inr "great", .inr "cells", .inr "rest", .inr "turn"]
/-- the draw stands at cell g + 1, its great numbers at cell g; at most t turns so far -/
structure Dr (g t : Nat) (M : Me) : Prop where
  ex : ∃ (gs cells : List Int) (rest turn : Int), M[g]? = some (.lst (gs.map Tr.int)) ∧ M[g + 1]? = some (.dct drK [.cell g, .lst (cells.map Tr.int), .int rest, .int turn]) ∧ 0 ≤ turn ∧ turn ≤ t ∧ cells.length ≤ 63 ∧ 0 ≤ rest ∧ ∀ x ∈ gs, 0 ≤ x
/-- what a draw changes -/
structure DrTo (g t : Nat) (M M' : Me) : Prop where
  dr : Dr g t M'
  len : M'.length = M.length
  other : ∀ i, i ≠ g → i ≠ g + 1 → M'[i]? = M[i]?
def sp_take : Sf := ⟨fun ds M Q _ => ∃ g t n, ds = [.cell (g + 1), .int n] ∧ Dr g t M ∧ t < 2 ^ 40 ∧ 0 < n ∧ n < 1073741824 ∧ ∀ r M', 0 ≤ r → r < n → DrTo g (t + 1) M M' → Q (.int r) M',
  fun h _ ⟨g, t, n, a, b, c, d, e, q⟩ => ⟨g, t, n, a, b, c, d, e, fun r M' h1 h2 h3 => h _ _ (q r M' h1 h2 h3)⟩⟩
section
variable {a b c d x : Tr}
theorem get_great : getK drK [a, b, c, d] (.inr "great") = some a := by rfl
theorem get_cells : getK drK [a, b, c, d] (.inr "cells") = some b := by rfl
theorem get_rest : getK drK [a, b, c, d] (.inr "rest") = some c := by rfl
theorem get_turn : getK drK [a, b, c, d] (.inr "turn") = some d := by rfl
theorem set_rest : setK drK [a, b, c, d] (.inr "rest") x = (drK, [a, b, x, d]) := by rfl
theorem set_turn : setK drK [a, b, c, d] (.inr "turn") x = (drK, [a, b, c, x]) := by rfl
theorem drK_nd : drK.Nodup := by decide
theorem drK_big : drK.length < big := by decide
end
theorem dget {M : Me} {k : Nat} {ks : List Key} {ds : List Tr} {x : Str} {d : Tr} (h : M[k]? = some (.dct ks ds)) (e : getK ks ds (.inr x) = some d) : dictGet M (.cell k) (.str x) = some d := by
  simp only [dictGet, dictV, keyT, h, Option.bind_some]
  exact e
theorem dput {M : Me} {k : Nat} {ks : List Key} {ds ds' : List Tr} {x : Str} {d : Tr} (h : M[k]? = some (.dct ks ds)) (n : ks.Nodup) (l : ks.length < big) (e : setK ks ds (.inr x) d = (ks, ds')) : putF' M (.cell k) (.str x) d = some (M.set k (.dct ks ds')) := by
  simp only [putF', keyT, h]
  rw [if_pos ⟨n, l⟩, e]
theorem eqT_int {M : Me} {i j : Int} : eqT M (.int i) (.int j) = some (.bl (decide (i = j))) := by
  simp only [eqT, eqB, viewD, pyd, SeqAt.shaped, Bool.and_self, if_true, Option.map_some, PyData.eqv]
  rfl
theorem pyds_ints : ∀ gs : List Int, pyds (gs.map Tr.int) = some (gs.map PyData.int)
  | [] => rfl
  | g :: r => by simp only [List.map_cons, pyds, pyd, pyds_ints r]
theorem lay_ints (gs : List Int) : SeqAt.shaped (.list (gs.map PyData.int)) = true := by
  have h1 : ∀ l : List Int, PyData.canLayAll0 (l.map PyData.int) = true := fun l => by
    induction l with
    | nil => rfl
    | cons g r ih => simp only [List.map_cons, PyData.canLayAll0, PyData.canLay0, ih, Bool.and_self]
  have h2 : ∀ l : List Int, PyData.depthAll (l.map PyData.int) = 0 := fun l => by
    induction l with
    | nil => rfl
    | cons g r ih => simp only [List.map_cons, PyData.depthAll, PyData.depth, ih]; rfl
  simp only [SeqAt.shaped, PyData.canLay0, PyData.depth, h1, h2]
  decide
theorem neT_nil {M : Me} {k : Nat} {gs : List Int} (h : M[k]? = some (.lst (gs.map Tr.int))) : neT M (.cell k) (.lst []) = some (.bl (!gs.isEmpty)) := by
  simp only [neT, eqB, viewD, h, pyd, pyds_ints, Option.map_some, pyds]
  rw [lay_ints]
  cases gs with
  | nil => rfl
  | cons g r => rfl
/-- the state of a draw -/
def DrAt (g : Nat) (gs cells : List Int) (rest turn : Int) (M : Me) : Prop := M[g]? = some (.lst (gs.map Tr.int)) ∧ M[g + 1]? = some (.dct drK [.cell g, .lst (cells.map Tr.int), .int rest, .int turn])
theorem DrAt.set {g : Nat} {gs cells : List Int} {rest turn : Int} {M : Me} (h : DrAt g gs cells rest turn M) (r' t' : Int) : DrAt g gs cells r' t' (M.set (g + 1) (.dct drK [.cell g, .lst (cells.map Tr.int), .int r', .int t'])) := by
  have hl := (List.getElem?_eq_some_iff.mp h.2).1
  exact ⟨by rw [List.getElem?_set_ne (by omega)]; exact h.1, by rw [List.getElem?_set_self hl]⟩
theorem DrAt.pop {g : Nat} {x : Int} {gs cells : List Int} {rest turn : Int} {M : Me} (h : DrAt g (x :: gs) cells rest turn M) : popF M (.cell g) [.int 0] = some (.int x, M.set g (.lst (gs.map Tr.int))) ∧ DrAt g gs cells rest turn (M.set g (.lst (gs.map Tr.int))) := by
  have hl := (List.getElem?_eq_some_iff.mp h.1).1
  refine ⟨?_, by rw [List.getElem?_set_self hl], by rw [List.getElem?_set_ne (by omega)]; exact h.2⟩
  simp only [popF, h.1]
  rfl
/-- what stays beside the draw -/
structure Beside (g : Nat) (M M' : Me) : Prop where
  len : M'.length = M.length
  other : ∀ i, i ≠ g → i ≠ g + 1 → M'[i]? = M[i]?
theorem Beside.refl (g : Nat) (M : Me) : Beside g M M := ⟨rfl, fun _ _ _ => rfl⟩
theorem Beside.trans {g : Nat} {M M1 M2 : Me} (a : Beside g M M1) (b : Beside g M1 M2) : Beside g M M2 := ⟨b.len.trans a.len, fun i h1 h2 => (b.other i h1 h2).trans (a.other i h1 h2)⟩
theorem Beside.setD {g : Nat} {M : Me} {c : Ce} : Beside g M (M.set (g + 1) c) := ⟨by simp, fun i _ h => by rw [List.getElem?_set_ne (Ne.symm h)]⟩
theorem Beside.setG {g : Nat} {M : Me} {c : Ce} : Beside g M (M.set g c) := ⟨by simp, fun i h _ => by rw [List.getElem?_set_ne (Ne.symm h)]⟩
theorem DrAt.get {g : Nat} {gs cells : List Int} {rest turn : Int} {M : Me} (h : DrAt g gs cells rest turn M) :
    dictGet M (.cell (g + 1)) (.str "great") = some (.cell g) ∧ dictGet M (.cell (g + 1)) (.str "cells") = some (.lst (cells.map Tr.int)) ∧ dictGet M (.cell (g + 1)) (.str "rest") = some (.int rest) ∧ dictGet M (.cell (g + 1)) (.str "turn") = some (.int turn) :=
  ⟨dget h.2 get_great, dget h.2 get_cells, dget h.2 get_rest, dget h.2 get_turn⟩
theorem DrAt.putR {g : Nat} {gs cells : List Int} {rest turn : Int} {M : Me} (h : DrAt g gs cells rest turn M) (x : Int) : putF' M (.cell (g + 1)) (.str "rest") (.int x) = some (M.set (g + 1) (.dct drK [.cell g, .lst (cells.map Tr.int), .int x, .int turn])) := dput h.2 drK_nd drK_big set_rest
theorem DrAt.putT {g : Nat} {gs cells : List Int} {rest turn : Int} {M : Me} (h : DrAt g gs cells rest turn M) (x : Int) : putF' M (.cell (g + 1)) (.str "turn") (.int x) = some (M.set (g + 1) (.dct drK [.cell g, .lst (cells.map Tr.int), .int rest, .int x])) := dput h.2 drK_nd drK_big set_turn
section
variable {g : Nat} {n : Int} {x2 x3 x4 x5 : Option Tr}
abbrev ρT (g : Nat) (n : Int) (x2 x3 x4 x5 : Option Tr) : En := [some (.cell (g + 1)), some (.int n), x2, x3, x4, x5]
theorem take_1 {F : Fin} {gs cells : List Int} {rest turn : Int} {M : Me} (h : DrAt g gs cells rest turn M) (hg : ∀ x ∈ gs, 0 ≤ x) (hr : 0 ≤ rest)
    (k : ∀ gs' rest' M', DrAt g gs' cells rest' turn M' → Beside g M M' → (∀ x ∈ gs', 0 ≤ x) → 0 ≤ rest' → F.nx (ρT g n x2 x3 x4 x5) M') : r_law_take_1.f F (ρT g n x2 x3 x4 x5) M := by
  obtain ⟨e1, e2, e3, e4⟩ := h.get
  have triv : F.nx (ρT g n x2 x3 x4 x5) M := k gs rest M h (Beside.refl g M) hg hr
  simp only [r_law_take_1, sIf, dAndT, dTest, dOp, dVar, dC, List.getElem?_cons_zero, e3, onSome, eqT_int, sNil]
  by_cases h0 : rest = 0
  · simp only [h0, decide_true, if_true, e1, dLst, dNil, List.length_nil, Nat.zero_le, true_and, neT_nil h.1]
    cases gs with
    | nil => simpa using triv
    | cons x gs =>
      obtain ⟨p1, p2⟩ := h.pop
      simp only [List.isEmpty_cons, Bool.not_false, if_true, sDSet, dMthL, dCons, dVar, dOp, dC, dNil, List.getElem?_cons_zero, e1, onSome, seqL, h.1, Option.isSome_some, true_and, p1, p2.putR]
      refine k gs x _ (p2.set x turn) (Beside.setG.trans Beside.setD) (fun y hy => hg y (List.mem_cons_of_mem _ hy)) (hg x (List.mem_cons_self ..))
  · simpa only [h0, decide_false, Bool.false_eq_true, if_false] using triv
theorem mul_ok {M : Me} {i j : Int} (h : smallI i = true ∨ smallI j = true) : mulT M (.int i) (.int j) = some (.int (i * j)) := by
  simp only [mulT]
  rw [if_pos (by rcases h with h | h <;> simp [h])]
theorem small_of {i : Int} (h0 : 0 ≤ i) (h1 : i < 2 ^ 64) : smallI i = true := by
  unfold smallI
  simp only [Bool.and_eq_true, decide_eq_true_eq]
  omega
theorem mod_ok {M : Me} {i j : Int} (h : 0 < j) : modT M (.int i) (.int j) = some (.int (i % j)) := by
  simp only [modT]
  rw [if_pos h]
theorem take_2 {F : Fin} {gs cells : List Int} {rest turn : Int} {M : Me} {t : Nat} (h : DrAt g gs cells rest turn M) (hr : 0 ≤ rest) (h0 : 0 ≤ turn) (ht : turn ≤ t) (hb : t < 2 ^ 40) (hc : cells.length ≤ 63)
    (k : ∀ rest' turn' M' x3 x4 x5, DrAt g gs cells rest' turn' M' → Beside g M M' → 0 ≤ rest' → 0 ≤ turn' → turn' ≤ (t + 1 : Nat) → F.nx (ρT g n x2 x3 x4 x5) M') : r_law_take_2.f F (ρT g n x2 x3 x4 x5) M := by
  obtain ⟨e1, e2, e3, e4⟩ := h.get
  simp only [r_law_take_2, sIf, dTest, dOp, dVar, dC, List.getElem?_cons_zero, e3, onSome, eqT_int, sNil]
  by_cases hz : rest = 0
  · simp only [hz, decide_true, if_true]
    have h1 := h.set rest (turn + 1)
    simp only [r_law_take_2_a, sSeq, r_law_take_2_a1, sDSet, dOp, dVar, dC, List.getElem?_cons_zero, e4, onSome, addT, h.putT, r_law_take_2_a2, sAsg, h1.get, dCall, dCons, dNil]
    rw [mul_ok (.inl (by decide))]
    simp only [onSome, lenF, seqA, seqL, Option.map_some, addT, setTg, List.length_map, List.set_cons_succ, List.set_cons_zero]
    -- the loop over the cells
    simp only [r_law_take_2_a3, sFor, dItems, dOp, dVar, dC, List.getElem?_cons_zero, h1.get, onSome, fixed]
    have hm0 : (0 : Int) ≤ 7919 * (turn + 1) + (cells.length : Nat) ∧ 7919 * (turn + 1) + (cells.length : Nat) < 2 ^ 63 := by omega
    generalize hM1 : (M.set (g + 1) (.dct drK [.cell g, .lst (cells.map Tr.int), .int rest, .int (turn + 1)])) = Mz at h1 ⊢
    have b1 : Beside g M Mz := by rw [← hM1]; exact Beside.setD
    generalize 7919 * (turn + 1) + ((cells.length : Nat) : Int) = m0 at hm0 ⊢
    refine forT_inv (fun _ ρ M' => Mz = M' ∧ ∃ m x4 x5, ρ = ρT g n x2 (some (.int m)) x4 x5 ∧ 0 ≤ m ∧ m < 2 ^ 63) _ 0 _ _ ⟨rfl, m0, x4, x5, rfl, hm0⟩ ?_ ?_
    · rintro i x ρ M' hx ⟨rfl, m, y4, y5, rfl, h2, h3⟩
      rw [List.getElem?_map] at hx
      obtain ⟨c, _, rfl⟩ := Option.map_eq_some_iff.mp hx
      refine ⟨_, rfl, ?_⟩
      simp only [sAsg, dOp, dCall, dCons, dNil, dVar, dC, List.set_cons_succ, List.set_cons_zero, List.getElem?_cons_succ, List.getElem?_cons_zero]
      rw [mul_ok (.inr (by decide))]
      simp only [onSome, addT, intF]
      rw [mod_ok (by decide)]
      simp only [setTg, List.set_cons_succ, List.set_cons_zero]
      refine ⟨trivial, _, _, _, rfl, Int.emod_nonneg _ (by decide), ?_⟩
      have := Int.emod_lt_of_pos (m * 48271 + c + 11) (b := 2147483647) (by decide)
      omega
    · rintro ρ M' ⟨rfl, m, y4, y5, rfl, h2, h3⟩
      simp only [r_law_take_2_a4, sFor, dRange1, dCons, dNil, dC]
      refine ⟨by decide, ?_⟩
      refine forT_inv (fun _ ρ M' => Mz = M' ∧ ∃ m x4 x5, ρ = ρT g n x2 (some (.int m)) x4 x5 ∧ 0 ≤ m ∧ m < 2 ^ 63) _ 0 _ _ ⟨rfl, m, y4, y5, rfl, h2, h3⟩ ?_ ?_
      · rintro i x ρ M' hx ⟨rfl, m, y4, y5, rfl, h2, h3⟩
        refine ⟨_, rfl, ?_⟩
        simp only [sAsg, dOp, dCall, dCons, dNil, dVar, dC, List.set_cons_succ, List.set_cons_zero, List.getElem?_cons_succ, List.getElem?_cons_zero]
        rw [mul_ok (.inr (small_of h2 (by omega))), mul_ok (.inl (by decide))]
        simp only [onSome, addT, intF]
        rw [mod_ok (by decide)]
        simp only [setTg, List.set_cons_succ, List.set_cons_zero]
        refine ⟨trivial, _, _, _, rfl, Int.emod_nonneg _ (by decide), ?_⟩
        have := Int.emod_lt_of_pos (m * m + 16807 * m + 13) (b := 2305843009213693951) (by decide)
        omega
      · rintro ρ M' ⟨rfl, m, y4, y5, rfl, h2, h3⟩
        simp only [dVar, dC, List.getElem?_cons_succ, List.getElem?_cons_zero, onSome, h1.putR]
        exact k m (turn + 1) _ _ _ _ (h1.set m (turn + 1)) (b1.trans Beside.setD) h2 (by omega) (by omega)
  · simp only [hz, decide_false, Bool.false_eq_true, if_false]
    exact k rest turn M x3 x4 x5 h (Beside.refl g M) hr h0 (by omega)
end
theorem go_take (ds : List Tr) (M : Me) (Q E : TK) (hl : ds.length = 2) (h : sp_take.f ds M Q E) : r_law_take.f (finF M.length Q E) (startE N_law_take ds) M := by
  obtain ⟨g, t, n, rfl, ⟨gs, cells, rest, turn, hg, hd, ht0, ht, hc, hr, hgs⟩, hb, hn, hn2, q⟩ := h
  have h : DrAt g gs cells rest turn M := ⟨hg, hd⟩
  show (sSeq r_law_take_1 (sSeq r_law_take_2 (sSeq r_law_take_3 (sSeq r_law_take_4 (sRet (dVar 2)))))).f (finF M.length Q E) (ρT g n none none none none) M
  refine w_seq (take_1 (x2 := none) (x3 := none) (x4 := none) (x5 := none) h hgs hr fun gs1 rest1 M1 h1 b1 hg1 hr1 => ?_)
  show r_law_take_2.f { finF M.length Q E with nx := (sSeq r_law_take_3 (sSeq r_law_take_4 (sRet (dVar 2)))).f (finF M.length Q E) } (ρT g n none none none none) M1
  refine @take_2 g n none none none none { finF M.length Q E with nx := (sSeq r_law_take_3 (sSeq r_law_take_4 (sRet (dVar 2)))).f (finF M.length Q E) } gs1 cells rest1 turn M1 t h1 hr1 ht0 ht hb hc fun rest2 turn2 M2 y3 y4 y5 h2 b2 hr2 ht2 ht3 => ?_
  show (sSeq r_law_take_3 (sSeq r_law_take_4 (sRet (dVar 2)))).f (finF M.length Q E) (ρT g n none y3 y4 y5) M2
  simp only [sSeq, r_law_take_3, sAsg, dOp, dCall, dCons, dNil, dVar, dC, List.getElem?_cons_zero, List.getElem?_cons_succ, h2.get, onSome, intF]
  rw [mod_ok hn]
  simp only [setTg, List.set_cons_succ, List.set_cons_zero, r_law_take_4, sDSet, dOp, dVar, dC, List.getElem?_cons_zero, List.getElem?_cons_succ, h2.get, onSome, fdivT]
  rw [if_pos ⟨hn, hn2⟩]
  simp only [h2.putR, sRet, dVar, List.getElem?_cons_zero, List.getElem?_cons_succ]
  have h3 := h2.set (rest2 / n) turn2
  have b3 : Beside g M (M2.set (g + 1) (.dct drK [.cell g, .lst (cells.map Tr.int), .int (rest2 / n), .int turn2])) := (b1.trans b2).trans Beside.setD
  exact .inl (q _ _ (Int.emod_nonneg _ (by omega)) (Int.emod_lt_of_pos _ hn) ⟨⟨gs1, cells, rest2 / n, turn2, h3.1, h3.2, ht2, ht3, hc, Int.ediv_nonneg hr2 (by omega), hg1⟩, b3.len, b3.other⟩)
theorem Dr.mono {g t t' : Nat} {M : Me} (h : Dr g t M) (l : t ≤ t') : Dr g t' M := by
  obtain ⟨gs, cells, rest, turn, a, b, c, d, e⟩ := h.ex
  exact ⟨gs, cells, rest, turn, a, b, c, by omega, e⟩
theorem DrTo.mono {g t t' : Nat} {M M' : Me} (h : DrTo g t M M') (l : t ≤ t') : DrTo g t' M M' := ⟨h.dr.mono l, h.len, h.other⟩
theorem DrTo.trans {g t t' : Nat} {M M1 M2 : Me} (a : DrTo g t M M1) (b : DrTo g t' M1 M2) : DrTo g t' M M2 := ⟨b.dr, b.len.trans a.len, fun i h1 h2 => (b.other i h1 h2).trans (a.other i h1 h2)⟩
theorem DrTo.refl {g t : Nat} {M : Me} (h : Dr g t M) : DrTo g t M M := ⟨h, rfl, fun _ _ _ => rfl⟩
/-- what is picked from -/
def itemsT : Tr → Option (List Tr)
  | .lst xs => some xs
  | .tup xs => some xs
  | .str z => if z.length ≤ big then some (signsT z) else none
  | _ => none
theorem ixN_ok {n : Nat} {i : Int} (h0 : 0 ≤ i) (h1 : i < n) : ixN n i = some i.toNat := by
  unfold ixN
  rw [if_pos h0, if_pos h1]
theorem atI_ok {α : Type} {xs : List α} {i : Int} (h0 : 0 ≤ i) (h1 : i < xs.length) : ∃ x ∈ xs, atI xs i = some x := by
  unfold atI
  rw [ixN_ok h0 h1, Option.bind_some]
  have : i.toNat < xs.length := by omega
  exact ⟨xs[i.toNat], List.getElem_mem this, List.getElem?_eq_getElem this⟩
theorem pick_len {M : Me} {s : Tr} {xs : List Tr} (h : itemsT s = some xs) : lenF M [s] = some (.int xs.length, M) := by
  cases s with
  | lst ys => simp only [itemsT, Option.some.injEq] at h; subst h; rfl
  | tup ys => simp only [itemsT, Option.some.injEq] at h; subst h; rfl
  | str z =>
    simp only [itemsT] at h
    split at h
    · rename_i hl
      cases h
      simp only [lenF]
      rw [if_pos hl, signsT, List.length_map, Array.length_toList]
      rfl
    · cases h
  | _ => simp [itemsT] at h
theorem pick_ix {M : Me} {s : Tr} {xs : List Tr} {r : Int} (h : itemsT s = some xs) (h0 : 0 ≤ r) (h1 : r < xs.length) : ∃ x ∈ xs, ixF M s (.int r) = some x := by
  cases s with
  | lst ys => simp only [itemsT, Option.some.injEq] at h; subst h; exact atI_ok h0 h1
  | tup ys => simp only [itemsT, Option.some.injEq] at h; subst h; exact atI_ok h0 h1
  | str z =>
    simp only [itemsT] at h
    split at h
    · rename_i hl
      cases h
      rw [signsT, List.length_map] at h1
      obtain ⟨c, hc, e⟩ := atI_ok (xs := z.cps.toList) h0 h1
      refine ⟨.str ⟨#[c]⟩, List.mem_map.mpr ⟨c, hc, rfl⟩, ?_⟩
      simp only [ixF]
      rw [if_pos hl, e]
      rfl
    · cases h
  | _ => simp [itemsT] at h
def sp_pick : Sf := ⟨fun ds M Q _ => ∃ g t s xs, ds = [.cell (g + 1), s] ∧ itemsT s = some xs ∧ 0 < xs.length ∧ xs.length < 1073741824 ∧ Dr g t M ∧ t < 2 ^ 40 ∧ ∀ x ∈ xs, ∀ M', DrTo g (t + 1) M M' → Q x M',
  fun h _ ⟨g, t, s, xs, a, b, c, d, e, f, q⟩ => ⟨g, t, s, xs, a, b, c, d, e, f, fun x hx M' h3 => h _ _ (q x hx M' h3)⟩⟩
theorem go_pick (ds : List Tr) (M : Me) (Q E : TK) (hl : ds.length = 2) (h : sp_pick.f ds M Q E) : (r_law_pick sp_take).f (finF M.length Q E) (startE N_law_pick ds) M := by
  obtain ⟨g, t, s, xs, rfl, hs, h0, h1, hd, ht, q⟩ := h
  show (r_law_pick sp_take).f (finF M.length Q E) [some (.cell (g + 1)), some s] M
  simp only [r_law_pick, sRet, dOp, dFn, dCons, dNil, dCall, dVar, List.getElem?_cons_succ, List.getElem?_cons_zero, pick_len hs, onSome, List.append_nil, List.length_cons, List.length_nil, true_and]
  refine ⟨g, t, xs.length, rfl, hd, ht, by omega, by omega, fun r M' a b c => ?_⟩
  obtain ⟨x, hx, e⟩ := pick_ix (M := M') hs a b
  rw [e]
  exact .inl (q x hx M' c)
/-- what an atom of the laws is -/
def lowS (w : Str) : Prop := ∀ c ∈ w.cps.toList, 97 ≤ c ∧ c ≤ 122
def atomT : Tr → Prop
  | .non => True
  | .int i => i.natAbs < 10 ^ 40
  | .str w => lowS w ∧ 1 ≤ w.length ∧ w.length ≤ 8
  | _ => False
def sp_word : Sf := ⟨fun ds M Q _ => ∃ g t most, ds = [.cell (g + 1), .int most] ∧ 2 ≤ most ∧ most ≤ 100 ∧ Dr g t M ∧ t + 200 < 2 ^ 40 ∧ ∀ w M', lowS w → 1 ≤ w.length → (w.length : Int) ≤ most → DrTo g (t + 200) M M' → Q (.str w) M',
  fun h _ ⟨g, t, m, a, b, c, d, e, q⟩ => ⟨g, t, m, a, b, c, d, e, fun w M' h1 h2 h3 h4 => h _ _ (q w M' h1 h2 h3 h4)⟩⟩
def sp_atom : Sf := ⟨fun ds M Q _ => ∃ g t, ds = [.cell (g + 1)] ∧ Dr g t M ∧ t + 300 < 2 ^ 40 ∧ ∀ a M', atomT a → DrTo g (t + 300) M M' → Q a M',
  fun h _ ⟨g, t, a, b, c, q⟩ => ⟨g, t, a, b, c, fun w M' h1 h2 => h _ _ (q w M' h1 h2)⟩⟩
theorem pow_ok {M : Me} {i j : Int} (h : 0 ≤ j ∧ j ≤ 1000000 ∧ i.natAbs < 2 ^ 64) : powT M (.int i) (.int j) = some (.int (i ^ j.toNat)) := by
  simp only [powT]
  rw [if_pos h]
theorem lowS_a : lowS "a" := by unfold lowS; decide
theorem lowS_b : lowS "b" := by unfold lowS; decide
theorem go_atom (ds : List Tr) (M : Me) (Q E : TK) (hl : ds.length = 1) (h : sp_atom.f ds M Q E) : (r_law_atom sp_take sp_word).f (finF M.length Q E) (startE N_law_atom ds) M := by
  obtain ⟨g, t, rfl, hd, ht, q⟩ := h
  show (r_law_atom sp_take sp_word).f (finF M.length Q E) [some (.cell (g + 1)), none] M
  simp only [r_law_atom, sSeq, r_law_atom_1, sAsg, dFn, dCons, dNil, dVar, dC, List.getElem?_cons_zero, List.append_nil, List.length_cons, List.length_nil, true_and]
  refine ⟨g, t, 12, rfl, hd, by omega, by decide, by decide, fun r M' r0 r1 d1 => ?_⟩
  simp only [setTg, onSome, List.set_cons_succ, List.set_cons_zero, r_law_atom_2, sIf, dTest, dOp, dVar, dC, List.getElem?_cons_zero, List.getElem?_cons_succ, ltT, cmpT, sNil]
  by_cases h10 : r < 10
  · simp only [h10, decide_true, if_true, sRet, dOp, dLst, dCons, dNil, dNeg, dC, dVar, List.getElem?_cons_zero, List.getElem?_cons_succ, List.length_cons, List.length_nil]
    refine ⟨by decide, ?_⟩
    obtain ⟨x, hx, e⟩ := pick_ix (M := M') (s := .lst [.non, .int 0, .int 1, .str "a", .str "b", .int 0, .int 1, .str "a", .int (-1), .int 2]) rfl r0 h10
    rw [e]
    refine .inl (q x M' ?_ (d1.mono (by omega)))
    simp only [List.mem_cons, List.not_mem_nil, or_false] at hx
    rcases hx with rfl | rfl | rfl | rfl | rfl | rfl | rfl | rfl | rfl | rfl <;> simp only [atomT] <;> first | trivial | decide | exact ⟨lowS_a, by decide, by decide⟩ | exact ⟨lowS_b, by decide, by decide⟩
  · simp only [h10, decide_false, Bool.false_eq_true, if_false, r_law_atom_3, sIf, dTest, dOp, dVar, dC, List.getElem?_cons_zero, List.getElem?_cons_succ, eqT_int, onSome, sNil]
    by_cases h11 : r = 10
    · simp only [h11, decide_true, if_true, sRet, dFn, dCons, dNil, dVar, dC, List.getElem?_cons_zero, List.append_nil, List.length_cons, List.length_nil, true_and]
      exact ⟨g, t + 1, 8, rfl, by decide, by decide, d1.dr, by omega, fun w M2 a b c d => .inl (q _ M2 ⟨a, b, by omega⟩ ((d1.trans d).mono (by omega)))⟩
    · simp only [h11, decide_false, Bool.false_eq_true, if_false, r_law_atom_4, sRet, dOp, dFn, dCons, dNil, dVar, dC, List.getElem?_cons_zero, List.append_nil, List.length_cons, List.length_nil, true_and]
      refine ⟨g, t + 1, 2, rfl, d1.dr, by omega, by decide, by decide, fun r2 M2 a0 a1 d2 => ?_⟩
      dsimp only
      rw [mul_ok (.inl (by decide))]
      simp only [onSome, subT]
      rw [pow_ok (by decide)]
      simp only [onSome, subT]
      refine ⟨g, t + 1 + 1, 3, rfl, d2.dr, by omega, by decide, by decide, fun r3 M3 c0 c1 d3 => ?_⟩
      dsimp only
      rw [mul_ok (.inl (by unfold smallI; simp only [Bool.and_eq_true, decide_eq_true_eq]; omega))]
      refine .inl (q _ M3 ?_ (((d1.trans d2).trans d3).mono (by omega)))
      simp only [atomT]
      have e40 : (10 : Int) ^ (Int.toNat 40) = 10 ^ 40 := rfl
      have hr2 : r2 = 0 ∨ r2 = 1 := by omega
      rcases hr2 with rfl | rfl
      · simp only [Int.mul_zero, Int.sub_zero, Int.one_mul]
        omega
      · simp only [Int.mul_one]
        omega
theorem compT_all {ρ : En} {g : Tg} {te : Rd Tr} {Q : List Tr → Me → Prop} (I : Nat → List Tr → Me → Prop) (xs : List Tr) (n : Nat) (acc : List Tr) (M : Me) (h0 : I n acc M)
    (hs : ∀ (i : Nat) (x : Tr) (acc : List Tr) (M : Me), xs[i]? = some x → I (n + i) acc M → ∃ ρ', setTg g x ρ = some ρ' ∧ te.f ρ' M (fun y M2 => acc.length < big ∧ I (n + i + 1) (acc ++ [y]) M2) (fun _ _ => False))
    (hn : ∀ acc M, I (n + xs.length) acc M → Q acc M) : compT g dTrue te ρ xs acc M Q := compT_inv I xs n acc M h0 (fun i x acc M e h => by
  obtain ⟨ρ', e1, q⟩ := hs i x acc M e h
  refine ⟨ρ', e1, ?_⟩
  show (if true = true then te.f ρ' M (fun y M2 => acc.length < big ∧ I (n + i + 1) (acc ++ [y]) M2) (fun _ _ => False) else I (n + i + 1) acc M)
  rw [if_pos rfl]
  exact q) hn
theorem join_cps : ∀ ws : List Str, (Txt.join ("" : Str) ws).cps.toList = (ws.map fun w => w.cps.toList).flatten := fun ws => by
  have h : ∀ ws : List Str, (Str.join ("" : Str) ws).cps.toList = (ws.map fun w => w.cps.toList).flatten := by
    intro ws
    induction ws with
    | nil => rfl
    | cons x r ih =>
      cases r with
      | nil => simp [Str.join]
      | cons y s =>
        have e : (Str.join ("" : Str) (x :: y :: s)).cps.toList = x.cps.toList ++ ((("" : Str)).cps.toList ++ (Str.join ("" : Str) (y :: s)).cps.toList) := by
          show ((x ++ ("" : Str)) ++ Str.join ("" : Str) (y :: s)).cps.toList = _
          show ((x.cps ++ (("" : Str)).cps) ++ (Str.join ("" : Str) (y :: s)).cps).toList = _
          simp
        rw [e, ih]
        rfl
  unfold Txt.join
  rw [StrLaws.glued_eq_join]
  exact h ws
/-- the letters, as picked from -/
theorem letters_items : itemsT (.str "abcdefghijklmnopqrstuvwxyz") = some (signsT "abcdefghijklmnopqrstuvwxyz") := by
  simp only [itemsT]
  rw [if_pos (by decide)]
theorem letters_low : ∀ x ∈ signsT "abcdefghijklmnopqrstuvwxyz", ∃ c, x = .str ⟨#[c]⟩ ∧ 97 ≤ c ∧ c ≤ 122 := by
  intro x hx
  obtain ⟨c, hc, rfl⟩ := List.mem_map.mp hx
  refine ⟨c, rfl, ?_⟩
  have : ∀ c ∈ (("abcdefghijklmnopqrstuvwxyz" : Str)).cps.toList, 97 ≤ c ∧ c ≤ 122 := by decide
  exact this c hc
theorem letters_len : (signsT "abcdefghijklmnopqrstuvwxyz").length = 26 := by decide
theorem go_word (ds : List Tr) (M : Me) (Q E : TK) (hl : ds.length = 2) (h : sp_word.f ds M Q E) : (r_law_word sp_take sp_pick).f (finF M.length Q E) (startE N_law_word ds) M := by
  obtain ⟨g, t, most, rfl, hm0, hm1, hd, ht, q⟩ := h
  show (r_law_word sp_take sp_pick).f (finF M.length Q E) [some (.cell (g + 1)), some (.int most), none, none, none] M
  simp only [r_law_word, sSeq, r_law_word_2, sAsg, dOp, dFn, dCons, dNil, dLst, dVar, dC, setTg, onSome, List.set_cons_succ, List.set_cons_zero, List.getElem?_cons_zero, List.getElem?_cons_succ, List.append_nil, List.length_cons, List.length_nil, true_and]
  refine ⟨by decide, g, t, _, [.int 1, .int 2, .int most], rfl, rfl, by simp, by simp, hd, by omega, fun x hx M1 d1 => ?_⟩
  have hx2 : ∃ n : Int, x = .int n ∧ 1 ≤ n ∧ n ≤ most := by
    simp only [List.mem_cons, List.not_mem_nil, or_false] at hx
    rcases hx with rfl | rfl | rfl
    · exact ⟨1, rfl, by omega, by omega⟩
    · exact ⟨2, rfl, by omega, by omega⟩
    · exact ⟨most, rfl, by omega, by omega⟩
  obtain ⟨n, rfl, n0, n1⟩ := hx2
  refine ⟨g, t + 1, n, rfl, d1.dr, by omega, by omega, by omega, fun r M2 r0 r1 d2 => ?_⟩
  dsimp only
  simp only [addT, setTg, onSome, List.set_cons_succ, List.set_cons_zero, r_law_word_3, sRet, dJoin, dC, dLcX, dRange1, dCons, dNil, dVar, List.getElem?_cons_zero, List.getElem?_cons_succ, wipeE]
  refine ⟨by omega, ?_⟩
  have dr2 : DrTo g (t + 1 + 1) M M2 := d1.trans d2
  refine compT_all (fun i acc M' => ∃ ws : List Str, acc = ws.map Tr.str ∧ ws.length = i ∧ (∀ w ∈ ws, ∃ c, w = ⟨#[c]⟩ ∧ 97 ≤ c ∧ c ≤ 122) ∧ DrTo g (t + 2 + i) M M') _ 0 [] M2 ⟨[], rfl, rfl, by simp, dr2⟩ ?_ ?_
  · rintro i x acc M' hx ⟨ws, rfl, hwl, hws, dr⟩
    have hi : i < (rangeT 0 (1 + r).toNat).length := (List.getElem?_eq_some_iff.mp hx).1
    rw [rangeT, List.length_map, List.length_range] at hi
    refine ⟨_, rfl, ?_⟩
    simp only [dFn, dCons, dNil, dVar, List.set_cons_succ, List.set_cons_zero, List.getElem?_cons_zero, List.getElem?_cons_succ, List.append_nil, List.length_cons, List.length_nil, true_and]
    refine ⟨g, t + 2 + (0 + i), _, _, rfl, letters_items, by rw [letters_len]; decide, by rw [letters_len]; decide, dr.dr, by omega, fun y hy M3 d3 => ⟨by rw [List.length_map, hwl]; unfold big; omega, ?_⟩⟩
    obtain ⟨c, rfl, c0, c1⟩ := letters_low y hy
    refine ⟨ws ++ [⟨#[c]⟩], by simp, by rw [List.length_append, hwl]; rfl, fun w hw => ?_, (dr.trans d3).mono (by omega)⟩
    rcases List.mem_append.mp hw with hw | hw
    · exact hws w hw
    · rw [List.mem_singleton.mp hw]
      exact ⟨c, rfl, c0, c1⟩
  · rintro acc M' ⟨ws, rfl, hwl, hws, dr⟩
    have hlen : (rangeT 0 (1 + r).toNat).length = (1 + r).toNat := by rw [rangeT, List.length_map, List.length_range]
    rw [hlen] at hwl dr
    have hsum : ∀ l : List Str, (∀ w ∈ l, ∃ c, w = ⟨#[c]⟩ ∧ 97 ≤ c ∧ c ≤ 122) → (l.map (·.length)).sum = l.length ∧ (l.map fun w => w.cps.toList).flatten.length = l.length ∧ ∀ c ∈ (l.map fun w => w.cps.toList).flatten, 97 ≤ c ∧ c ≤ 122 := by
      intro l
      induction l with
      | nil => intro _; exact ⟨rfl, rfl, by simp⟩
      | cons w r ih =>
        intro hl
        obtain ⟨c, rfl, c0, c1⟩ := hl w (List.mem_cons_self ..)
        obtain ⟨h1, h2, h3⟩ := ih fun v hv => hl v (List.mem_cons_of_mem _ hv)
        refine ⟨?_, ?_, ?_⟩
        · rw [List.map_cons, List.sum_cons, h1, List.length_cons]
          show 1 + r.length = r.length + 1
          omega
        · rw [List.map_cons, List.flatten_cons, List.length_append, h2, List.length_cons]
          show 1 + r.length = r.length + 1
          omega
        · intro d hd
          rw [List.map_cons, List.flatten_cons] at hd
          rcases List.mem_append.mp hd with hd | hd
          · have : d = c := by simpa using hd
            omega
          · exact h3 d hd
    obtain ⟨s1, s2, s3⟩ := hsum ws hws
    show onSome (joinT M' (.str "") (.lst (ws.map Tr.str))) _
    have ej : joinT M' (.str "") (.lst (ws.map Tr.str)) = some (.str (Txt.join "" ws)) := by
      simp only [joinT, seqL, Option.bind_some, strs?_map]
      rw [if_pos]
      rw [s1]
      show ws.length + ws.length * 0 ≤ big
      unfold big
      omega
    rw [ej]
    have hlen2 : (Txt.join ("" : Str) ws).length = ws.length := by
      show (Txt.join ("" : Str) ws).cps.size = _
      rw [← Array.length_toList, join_cps, s2]
    refine .inl (q _ M' ?_ (by rw [hlen2]; omega) (by rw [hlen2]; omega) (dr.mono (by omega)))
    intro c hc
    rw [join_cps] at hc
    exact s3 c hc
mutual
def valT : Nat → Tr → Prop
  | 0, d => atomT d
  | n + 1, .lst xs => xs.length ≤ 4 ∧ valsT n xs
  | n + 1, d => atomT d
def valsT : Nat → List Tr → Prop
  | _, [] => True
  | n, d :: ds => valT n d ∧ valsT n ds
end
theorem valsT_append : ∀ {n : Nat} {xs ys : List Tr}, valsT n xs → valsT n ys → valsT n (xs ++ ys)
  | n, [], ys, _, h => h
  | n, x :: xs, ys, h1, h2 => by
    simp only [List.cons_append, valsT] at h1 ⊢
    exact ⟨h1.1, valsT_append h1.2 h2⟩
theorem atomT_list {xs : List Tr} : ¬ atomT (.lst xs) := fun h => h
theorem valT_atom {n : Nat} {a : Tr} (h : atomT a) : valT n a := by
  cases n with
  | zero => simpa only [valT] using h
  | succ n =>
    cases a with
    | lst xs => exact (atomT_list h).elim
    | _ => simpa only [valT] using h
/-- turns that a value of the depth d may take -/
def turnsV (d : Nat) : Nat := 400 * 5 ^ d
theorem turnsV_succ (d : Nat) : turnsV (d + 1) = 5 * turnsV d := by unfold turnsV; rw [Nat.pow_succ]; omega
theorem turnsV_pos (d : Nat) : 400 ≤ turnsV d := by
  unfold turnsV
  have : 0 < 5 ^ d := Nat.pow_pos (by decide)
  omega
/-- _law_value for depths below n -/
def sp_value (n : Nat) : Sf := ⟨fun ds M Q _ => ∃ g t d, ds = [.cell (g + 1), .int (d : Nat)] ∧ d < n ∧ Dr g t M ∧ t + turnsV d < 2 ^ 40 ∧ ∀ v M', valT d v → DrTo g (t + turnsV d) M M' → Q v M',
  fun h _ ⟨g, t, d, a, b, c, e, q⟩ => ⟨g, t, d, a, b, c, e, fun v M' h1 h2 => h _ _ (q v M' h1 h2)⟩⟩
theorem go_value (n : Nat) (ds : List Tr) (M : Me) (Q E : TK) (hl : ds.length = 2) (h : (sp_value (n + 1)).f ds M Q E) : (r_law_value sp_take sp_atom (sp_value n)).f (finF M.length Q E) (startE N_law_value ds) M := by
  obtain ⟨g, t, d, rfl, hdn, hd, ht, q⟩ := h
  have tv := turnsV_pos d
  show (r_law_value sp_take sp_atom (sp_value n)).f (finF M.length Q E) [some (.cell (g + 1)), some (.int (d : Nat)), none] M
  simp only [r_law_value, sSeq, r_law_value_1, sIf, dOrT, dTest, dOp, dVar, dC, dFn, dCons, dNil, List.getElem?_cons_zero, List.getElem?_cons_succ, eqT_int, onSome, sNil, List.append_nil, List.length_cons, List.length_nil, true_and]
  by_cases h0 : (d : Int) = 0
  · simp only [h0, decide_true, if_true]
    simp only [sRet, List.getElem?_cons_zero]
    exact ⟨g, t, rfl, hd, by omega, fun a M2 ha d2 => .inl (q a M2 (valT_atom ha) (d2.mono (by omega)))⟩
  · simp only [h0, decide_false, Bool.false_eq_true, if_false]
    refine ⟨g, t, 3, rfl, hd, by omega, by decide, by decide, fun r M1 r0 r1 d1 => ?_⟩
    dsimp only
    simp only [eqT_int, onSome]
    by_cases h1 : r = 0
    · simp only [h1, decide_true, if_true]
      simp only [sRet, List.getElem?_cons_zero]
      exact ⟨g, t + 1, rfl, d1.dr, by omega, fun a M2 ha d2 => .inl (q a M2 (valT_atom ha) ((d1.trans d2).mono (by omega)))⟩
    · simp only [h1, decide_false, Bool.false_eq_true, if_false]
      obtain ⟨e, rfl⟩ : ∃ e, d = e + 1 := ⟨d - 1, by omega⟩
      have te := turnsV_succ e
      have pe := turnsV_pos e
      simp only [r_law_value_2, sRet, dLcX, dRange1, dCons, dNil, dFn, dVar, dC, List.getElem?_cons_zero, List.append_nil, List.length_cons, List.length_nil, true_and]
      refine ⟨g, t + 1, 5, rfl, d1.dr, by omega, by decide, by decide, fun r2 M2 s0 s1 d2 => ?_⟩
      dsimp only
      refine ⟨by omega, ?_⟩
      have hlen : (rangeT 0 r2.toNat).length = r2.toNat := by rw [rangeT, List.length_map, List.length_range]
      refine compT_all (fun i acc M' => acc.length = i ∧ valsT e acc ∧ DrTo g (t + 2 + i * turnsV e) M M') _ 0 [] M2 ⟨rfl, by simp only [valsT], (d1.trans d2).mono (by omega)⟩ ?_ ?_
      · rintro i x acc M' hx ⟨hal, hav, dr⟩
        have hi : i < (rangeT 0 r2.toNat).length := (List.getElem?_eq_some_iff.mp hx).1
        rw [hlen] at hi
        have hi4 : i < 4 := by omega
        have hm : (0 + i + 1) * turnsV e = (0 + i) * turnsV e + turnsV e := by rw [Nat.add_mul, Nat.one_mul]
        have hb : (0 + i) * turnsV e ≤ 3 * turnsV e := Nat.mul_le_mul_right _ (by omega)
        refine ⟨_, rfl, ?_⟩
        simp only [dOp, dFn, dCons, dNil, dVar, dC, wipeE, List.set_cons_succ, List.set_cons_zero, List.getElem?_cons_zero, List.getElem?_cons_succ, subT, onSome, List.append_nil, List.length_cons, List.length_nil, true_and]
        refine ⟨g, _, e, by rw [show ((e + 1 : Nat) : Int) - 1 = (e : Nat) by omega], by omega, dr.dr, by omega, fun v M3 hv d3 => ⟨by rw [hal]; unfold big; omega, by rw [List.length_append, hal]; rfl, valsT_append hav (by simp only [valsT]; exact ⟨hv, trivial⟩), (dr.trans d3).mono (by omega)⟩⟩
      · rintro acc M' ⟨hal, hav, dr⟩
        rw [hlen] at hal dr
        have hb : (0 + r2.toNat) * turnsV e ≤ 4 * turnsV e := Nat.mul_le_mul_right _ (by omega)
        refine .inl (q _ M' ?_ (dr.mono (by omega)))
        simp only [valT]
        exact ⟨by omega, hav⟩
/-- _law_begun -/
def sp_begun : Sf := ⟨fun ds M Q _ => ∃ ns : List Int, ds = [.scr ns] ∧ ns.length ≤ 63 ∧ ∀ M', M'.length = M.length + 2 → (∀ i, i < M.length → M'[i]? = M[i]?) → Dr M.length 0 M' → Q (.cell (M.length + 1)) M',
  fun h _ ⟨ns, a, b, q⟩ => ⟨ns, a, b, fun M' h1 h2 h3 => h _ _ (q M' h1 h2 h3)⟩⟩
theorem go_begun (ds : List Tr) (M : Me) (Q E : TK) (hl : ds.length = 1) (h : sp_begun.f ds M Q E) : r_law_begun.f (finF M.length Q E) (startE N_law_begun ds) M := by
  obtain ⟨ns, rfl, hn, q⟩ := h
  show r_law_begun.f (finF M.length Q E) [some (.scr ns), none, none] M
  simp only [r_law_begun, sSeq, r_law_begun_1, sAsg, dLcX, dItems, dVar, List.getElem?_cons_zero, fixed, onSome]
  refine compT_map (fun d => match d with
    | .int i => .int (if i < 0 then -i else i)
    | d => d) M _ [] (by rw [List.length_map, List.length_nil]; unfold big; omega) ?_ ?_
  · intro x hx
    obtain ⟨i, _, rfl⟩ := List.mem_map.mp hx
    refine ⟨_, rfl, fun Q' hq => ?_⟩
    simp only [dCall, dCons, dNil, dVar, wipeE, List.set_cons_succ, List.set_cons_zero, List.getElem?_cons_succ, List.getElem?_cons_zero, absF, onSome]
    exact hq
  · have e0 : ([] : List Tr) ++ (ns.map Tr.int).map (fun d => match d with
        | .int i => .int (if i < 0 then -i else i)
        | d => d) = (ns.map fun i => if i < 0 then -i else i).map Tr.int := by
      rw [List.nil_append, List.map_map, List.map_map]
      rfl
    rw [e0]
    have hc : (ns.map fun i => if i < 0 then -i else i).length ≤ 63 := by rw [List.length_map]; exact hn
    generalize (ns.map fun i => if i < 0 then -i else i) = cells at hc ⊢
    show (setTg (.nm 1) (.lst (cells.map Tr.int)) [some (.scr ns), none, none] |> fun o => onSome o fun ρ' => r_law_begun_2.f (finF M.length Q E) ρ' M)
    simp only [setTg, onSome, List.set_cons_succ, List.set_cons_zero, r_law_begun_2, sRet, dDispC, dPairs, dC, dVar, List.getElem?_cons_succ, List.getElem?_cons_zero, dLcX, dItems, fixed]
    refine compT_inv (fun i acc M' => M' = M ∧ ∃ gs : List Int, acc = gs.map Tr.int ∧ gs.length ≤ i ∧ ∀ x ∈ gs, 0 ≤ x) _ 0 [] M ⟨rfl, [], rfl, Nat.le_refl _, fun _ h => nomatch h⟩ ?_ ?_
    · rintro i x acc M' hx ⟨rfl, gs, rfl, hgl, hg⟩
      have hi : i < cells.length := by
        have := (List.getElem?_eq_some_iff.mp hx).1
        simpa using this
      rw [List.getElem?_map] at hx
      obtain ⟨c, _, rfl⟩ := Option.map_eq_some_iff.mp hx
      refine ⟨_, rfl, ?_⟩
      simp only [dTest, dOp, dVar, dC, wipeE, List.set_cons_succ, List.set_cons_zero, List.getElem?_cons_succ, List.getElem?_cons_zero, powT, geT, cmpT, subT, onSome]
      have e1 : (0 : Int) ≤ 18 ∧ (18 : Int) ≤ 1000000 ∧ (10 : Int).natAbs < 2 ^ 64 := by decide
      simp only [if_pos e1, onSome]
      by_cases hc2 : (10 : Int) ^ (18 : Int).toNat ≤ c
      · simp only [hc2, decide_true, if_true]
        refine ⟨by rw [List.length_map]; unfold big; omega, trivial, gs ++ [c - 10 ^ (18 : Int).toNat], by rw [List.map_append]; rfl, by rw [List.length_append, List.length_singleton]; omega, fun y hy => ?_⟩
        rcases List.mem_append.mp hy with h1 | h1
        · exact hg y h1
        · rw [List.mem_singleton.mp h1]; omega
      · simp only [hc2, decide_false, Bool.false_eq_true, if_false]
        exact ⟨trivial, gs, rfl, by omega, hg⟩
    · rintro acc M' ⟨rfl, gs, rfl, hgl, hg⟩
      simp only [outT, if_true, keysT, keyT, Option.bind_some, Option.map_some, onSome, List.map_cons, List.map_nil, List.length_append, List.length_cons, List.length_nil]
      refine ⟨⟨by decide, by decide⟩, ?_⟩
      refine .inl ?_
      refine q _ (by simp) (fun i hi => by rw [List.append_assoc, List.getElem?_append_left hi]) ⟨gs, cells, 0, 0, ?_, ?_, by omega, by omega, hc, by omega, hg⟩
      · rw [List.append_assoc, List.getElem?_append_right (Nat.le_refl _)]
        simp
      · rw [List.append_assoc, List.getElem?_append_right (Nat.le_succ _)]
        simp only [Nat.succ_eq_add_one, Nat.add_sub_cancel_left]
        rfl
end DL
end T_GL
section T_RI0
set_option Elab.async false
set_option linter.all false
set_option maxRecDepth 100000
set_option maxHeartbeats 400000
/-! RI0: repr tells two trees apart: None, truths, ints, texts of plain signs, lists and tuples of such. -/
namespace DL
open PySem PySem.Spec PyProof.Rows L2 PySem.Builtin PySem.Builtin.Str
/-! ### ints -/
def dig (a : Nat) (c : Char) : Nat := a * 10 + (c.toNat - 48)
theorem digitChar_val : ∀ n, n < 10 → (Nat.digitChar n).toNat - 48 = n := by decide
theorem core_val : ∀ (fuel n : Nat) (ds : List Char), n < fuel → (Nat.toDigitsCore 10 fuel n ds).foldl dig 0 = ds.foldl dig n
  | 0, n, ds, h => absurd h (Nat.not_lt_zero _)
  | fuel + 1, n, ds, h => by
    unfold Nat.toDigitsCore
    by_cases h0 : n / 10 = 0
    · rw [if_pos h0, List.foldl_cons]
      have h1 : n < 10 := by omega
      have : dig 0 (Nat.digitChar (n % 10)) = n := by
        unfold dig
        rw [digitChar_val _ (Nat.mod_lt _ (by decide))]
        omega
      rw [this]
    · rw [if_neg h0, core_val fuel (n / 10) _ (by omega), List.foldl_cons]
      have : dig (n / 10) (Nat.digitChar (n % 10)) = n := by
        unfold dig
        rw [digitChar_val _ (Nat.mod_lt _ (by decide))]
        omega
      rw [this]
theorem digits_val (n : Nat) : (Nat.toDigits 10 n).foldl dig 0 = n := by
  unfold Nat.toDigits
  rw [core_val _ _ _ (Nat.lt_succ_self n)]
  rfl
theorem digits_inj10 {m n : Nat} (h : Nat.toDigits 10 m = Nat.toDigits 10 n) : m = n := by rw [← digits_val m, h, digits_val n]
theorem natRepr_inj {m n : Nat} (h : Nat.repr m = Nat.repr n) : m = n := by
  refine digits_inj10 ?_
  have e : ∀ k, (Nat.repr k).toList = Nat.toDigits 10 k := fun k => by
    unfold Nat.repr
    simp
  rw [← e m, ← e n, h]
theorem neg_text (n : Nat) : toString (Int.negSucc n) = "-" ++ Nat.repr (n + 1) := rfl
theorem nat_text (n : Nat) : toString (Int.ofNat n) = Nat.repr n := rfl
theorem digit_of {n : Nat} {c : Char} (h : c ∈ (Nat.repr n).toList) : c.isDigit = true := by
  have := int_sign (Int.ofNat n) c (by rw [nat_text]; exact h)
  rcases this with h1 | h1
  · exact h1
  · have e : (Nat.repr n).toList = Nat.toDigits 10 n := by unfold Nat.repr; simp
    rw [e] at h
    exact Nat.isDigit_of_mem_toDigits (by decide) (by decide) h
theorem intText_inj {i j : Int} (h : toString i = toString j) : i = j := by
  cases i with
  | ofNat m =>
    cases j with
    | ofNat n => rw [nat_text, nat_text] at h; rw [natRepr_inj h]
    | negSucc n =>
      rw [nat_text, neg_text] at h
      have : '-' ∈ (Nat.repr m).toList := by rw [h]; simp
      exact absurd (digit_of this) (by decide)
  | negSucc m =>
    cases j with
    | ofNat n =>
      rw [nat_text, neg_text] at h
      have : '-' ∈ (Nat.repr n).toList := by rw [← h]; simp
      exact absurd (digit_of this) (by decide)
    | negSucc n =>
      rw [neg_text, neg_text] at h
      have h2 : Nat.repr (m + 1) = Nat.repr (n + 1) := by
        have := congrArg String.toList h
        simp only [String.toList_append, List.append_cancel_left_eq] at this
        exact String.toList_inj.mp this
      have := natRepr_inj h2
      have e : m = n := by omega
      rw [e]
end DL
end T_RI0
section T_RI1
set_option Elab.async false
set_option linter.all false
set_option maxRecDepth 100000
set_option maxHeartbeats 400000
/-! RI1: repr as a list of signs; what it tells apart. -/
namespace DL
open PySem PySem.Spec PyProof.Rows L2 PySem.Builtin PySem.Builtin.Str
def chL (s : Str) : List Nat := s.cps.toList
theorem chL_app (a b : Str) : chL (a ++ b) = chL a ++ chL b := by
  unfold chL
  rw [Str.cps_append, Array.toList_append]
theorem chL_inj {a b : Str} (h : chL a = chL b) : a = b := Str.ext' (Array.toList_inj.mp h)
theorem toNat_map_inj : ∀ {a b : List Char}, a.map Char.toNat = b.map Char.toNat → a = b
  | [], [], _ => rfl
  | [], _ :: _, h => by simp at h
  | _ :: _, [], h => by simp at h
  | x :: a, y :: b, h => by
    simp only [List.map_cons, List.cons.injEq] at h
    have h2 : x = y := Char.ext (UInt32.toNat_inj.mp h.1)
    rw [h2, toNat_map_inj h.2]
theorem chL_str (s : String) : chL (Str.ofString s) = s.toList.map Char.toNat := signs_ofString s
theorem ofS_inj {s t : String} (h : Str.ofString s = Str.ofString t) : s = t := by
  have := congrArg chL h
  rw [chL_str, chL_str] at this
  exact String.toList_inj.mp (toNat_map_inj this)
/-- signs that repr leaves as they are: letters, figures, and some more -/
def plainL : List Nat := [97, 98, 99, 100, 101, 102, 103, 104, 105, 106, 107, 108, 109, 110, 111, 112, 113, 114, 115, 116, 117, 118, 119, 120, 121, 122, 65, 66, 67, 68, 69, 70, 71, 72, 73, 74, 75, 76, 77, 78, 79, 80, 81, 82, 83, 84, 85, 86, 87, 88, 89, 90, 48, 49, 50, 51, 52, 53, 54, 55, 56, 57, 32, 45, 95, 91, 93, 44, 46, 33, 40, 41]
theorem plain_char : ∀ c ∈ plainL, reprChar 39 c = [c] ∧ c ≠ 39 := by decide +kernel
def plainS (w : Str) : Bool := w.cps.toList.all fun c => decide (c ∈ plainL)
theorem fold_plain : ∀ (l : List Nat) (acc : Array Nat), (∀ c ∈ l, c ∈ plainL) → (l.foldl (fun out c => out ++ (reprChar 39 c).toArray) acc).toList = acc.toList ++ l
  | [], acc, _ => by simp
  | c :: r, acc, h => by
    rw [List.foldl_cons, fold_plain r _ fun x hx => h x (List.mem_cons_of_mem _ hx), (plain_char c (h c (List.mem_cons_self ..))).1]
    simp
theorem repr_plain {w : Str} (h : plainS w = true) : chL (reprText w) = 39 :: chL w ++ [39] := by
  have hm : ∀ c ∈ w.cps.toList, c ∈ plainL := fun c hc => of_decide_eq_true (List.all_eq_true.mp h c hc)
  have hq : reprQuote w = 39 := by
    unfold reprQuote
    have : w.cps.contains 39 = false := by
      refine Bool.eq_false_iff.mpr fun z => ?_
      have : (39 : Nat) ∈ w.cps.toList := by simpa using z
      exact (plain_char 39 (hm _ this)).2 rfl
    rw [this]
    rfl
  unfold reprText chL
  rw [hq]
  simp only [Array.toList_push]
  rw [← Array.foldl_toList, fold_plain _ _ hm]
  rfl
mutual
/-- trees that repr tells apart -/
def reT : Tr → Bool
  | .non => true
  | .bl _ => true
  | .int i => decide (i.natAbs.log2 < 1920)
  | .str w => plainS w
  | .lst xs => reTs xs
  | .tup xs => reTs xs
  | _ => false
def reTs : List Tr → Bool
  | [] => true
  | d :: ds => reT d && reTs ds
end
mutual
/-- the signs of repr -/
def txt : Tr → List Nat
  | .non => [78, 111, 110, 101]
  | .bl true => [84, 114, 117, 101]
  | .bl false => [70, 97, 108, 115, 101]
  | .int i => chL (Str.ofString (toString i))
  | .str w => 39 :: chL w ++ [39]
  | .lst xs => match xs with
    | [] => [91, 93]
    | d :: ds => 91 :: (txt d ++ tl ds 93)
  | .tup xs => match xs with
    | [] => [40, 41]
    | d :: ds => 40 :: (txt d ++ match ds with
      | [] => [44, 41]
      | e :: es => 44 :: 32 :: (txt e ++ tl es 41))
  | _ => []
def tl : List Tr → Nat → List Nat
  | [], c => [c]
  | d :: ds, c => 44 :: 32 :: (txt d ++ tl ds c)
end
theorem tl_cons (d : Tr) (ds : List Tr) (c : Nat) : tl (d :: ds) c = 44 :: 32 :: (txt d ++ tl ds c) := by rw [tl]
/-- what follows an item: nothing, a comma, a closing sign -/
def dlm (r : List Nat) : Prop := r = [] ∨ ∃ t, r = 44 :: t ∨ r = 41 :: t ∨ r = 93 :: t
theorem dlm_tl {ds : List Tr} {c : Nat} {r : List Nat} (hc : c = 41 ∨ c = 93) : dlm (tl ds c ++ r) := by
  cases ds with
  | nil =>
    rw [tl]
    rcases hc with rfl | rfl
    · exact .inr ⟨r, .inr (.inl rfl)⟩
    · exact .inr ⟨r, .inr (.inr rfl)⟩
  | cons d ds => rw [tl_cons]; exact .inr ⟨_, .inl rfl⟩
def intC (c : Nat) : Bool := decide (c = 45) || (decide (48 ≤ c) && decide (c ≤ 57))
theorem int_chars (i : Int) : ∀ c ∈ txt (.int i), intC c = true := by
  intro c hc
  rw [txt, chL_str] at hc
  obtain ⟨ch, h1, rfl⟩ := List.mem_map.mp hc
  rcases int_sign i ch h1 with h | h
  · have := digit_range h
    unfold intC
    simp only [Bool.or_eq_true, Bool.and_eq_true, decide_eq_true_eq]
    exact .inr this
  · subst h; decide
theorem int_ne (i : Int) : txt (.int i) ≠ [] := by
  rw [txt, chL_str]
  intro h
  have h2 : (toString i).toList = [] := by simpa using h
  have h3 : toString i = "" := String.toList_inj.mp (by rw [h2]; rfl)
  cases i with
  | ofNat n =>
    rw [nat_text] at h3
    have e : (Nat.repr n).toList = Nat.toDigits 10 n := by unfold Nat.repr; simp
    have := congrArg String.toList h3
    rw [e] at this
    have h4 := tDigits_len_ge 10 n
    rw [this] at h4
    simp at h4
  | negSucc n =>
    rw [neg_text] at h3
    have := congrArg String.toList h3
    simp at this
/-- the longest head of such signs -/
theorem munch {P : Nat → Bool} : ∀ (a b r s : List Nat), (∀ c ∈ a, P c = true) → (∀ c ∈ b, P c = true) → (∀ c t, r = c :: t → P c = false) → (∀ c t, s = c :: t → P c = false) → a ++ r = b ++ s → a = b ∧ r = s
  | [], [], r, s, _, _, _, _, h => ⟨rfl, h⟩
  | [], y :: b, r, s, _, hb, hr, _, h => by
    have := hr y (b ++ s) h
    rw [hb y (List.mem_cons_self ..)] at this
    cases this
  | x :: a, [], r, s, ha, _, _, hs, h => by
    have := hs x (a ++ r) h.symm
    rw [ha x (List.mem_cons_self ..)] at this
    cases this
  | x :: a, y :: b, r, s, ha, hb, hr, hs, h => by
    simp only [List.cons_append, List.cons.injEq] at h
    obtain ⟨rfl, h⟩ := h
    obtain ⟨h1, h2⟩ := munch a b r s (fun c hc => ha c (List.mem_cons_of_mem _ hc)) (fun c hc => hb c (List.mem_cons_of_mem _ hc)) hr hs h
    exact ⟨by rw [h1], h2⟩
theorem dlm_int {r : List Nat} (h : dlm r) : ∀ c t, r = c :: t → intC c = false := by
  rintro c t rfl
  rcases h with h | ⟨u, h | h | h⟩ <;> cases h <;> decide
/-- the first sign tells what it is -/
def fst : Tr → Nat → Bool
  | .non, c => c == 78
  | .bl true, c => c == 84
  | .bl false, c => c == 70
  | .int _, c => intC c
  | .str _, c => c == 39
  | .lst _, c => c == 91
  | .tup _, c => c == 40
  | _, _ => false
theorem fst_txt : ∀ (d : Tr), reT d = true → ∃ c t, txt d = c :: t ∧ fst d c = true
  | .non, _ => ⟨_, _, by rw [txt], rfl⟩
  | .bl true, _ => ⟨_, _, by rw [txt], rfl⟩
  | .bl false, _ => ⟨_, _, by rw [txt], rfl⟩
  | .int i, _ => by
    cases h : txt (.int i) with
    | nil => exact absurd h (int_ne i)
    | cons c t => exact ⟨c, t, rfl, int_chars i c (by rw [h]; exact List.mem_cons_self ..)⟩
  | .str w, _ => ⟨39, chL w ++ [39], by rw [txt]; rfl, rfl⟩
  | .lst xs, _ => by
    cases xs with
    | nil => exact ⟨91, [93], by rw [txt], rfl⟩
    | cons d ds => exact ⟨91, txt d ++ tl ds 93, by rw [txt], rfl⟩
  | .tup xs, _ => by
    cases xs with
    | nil => exact ⟨40, [41], by rw [txt], rfl⟩
    | cons d ds =>
      cases ds with
      | nil => exact ⟨40, _, by rw [txt], rfl⟩
      | cons e es => exact ⟨40, _, by rw [txt], rfl⟩
  | .dct _ _, h => by simp [reT] at h
  | .ins _ _, h => by simp [reT] at h
  | .exc _ _, h => by simp [reT] at h
  | .cell _, h => by simp [reT] at h
  | .scr _, h => by simp [reT] at h
  | .dkf _ _, h => by simp [reT] at h
/-- of which kind -/
def knd : Tr → Nat
  | .non => 0
  | .bl true => 1
  | .bl false => 2
  | .int _ => 3
  | .str _ => 4
  | .lst _ => 5
  | .tup _ => 6
  | _ => 7
theorem fst_one {x : Tr} {c : Nat} (h : fst x c = true) : (knd x = 0 ∧ c = 78) ∨ (knd x = 1 ∧ c = 84) ∨ (knd x = 2 ∧ c = 70) ∨ (knd x = 3 ∧ (c = 45 ∨ (48 ≤ c ∧ c ≤ 57))) ∨ (knd x = 4 ∧ c = 39) ∨ (knd x = 5 ∧ c = 91) ∨ (knd x = 6 ∧ c = 40) := by
  cases x with
  | non => exact .inl ⟨rfl, by simpa [fst] using h⟩
  | bl b => cases b <;> simp [fst] at h <;> simp [knd, h]
  | int i =>
    simp only [fst, intC, Bool.or_eq_true, Bool.and_eq_true, decide_eq_true_eq] at h
    simp [knd, h]
  | str w => simp [fst] at h; simp [knd, h]
  | lst w => simp [fst] at h; simp [knd, h]
  | tup w => simp [fst] at h; simp [knd, h]
  | _ => simp [fst] at h
theorem fst_knd {d e : Tr} {c : Nat} (h : fst d c = true) (h' : fst e c = true) : knd d = knd e := by
  have h1 := fst_one h
  have h2 := fst_one h'
  omega
theorem fst_no93 {d : Tr} : ¬ fst d 93 = true := fun h => by have h1 := fst_one h; omega
theorem fst_no41 {d : Tr} : ¬ fst d 41 = true := fun h => by have h1 := fst_one h; omega
mutual
/-- REPR TELLS TREES APART, whatever follows -/
theorem txt_dec : ∀ (d e : Tr) (r s : List Nat), reT d = true → reT e = true → dlm r → dlm s → txt d ++ r = txt e ++ s → d = e ∧ r = s
  | d, e, r, s, hd, he, hr, hs, h => by
    have hk : knd d = knd e := by
      obtain ⟨c, t, e1, f1⟩ := fst_txt d hd
      obtain ⟨c', t', e2, f2⟩ := fst_txt e he
      rw [e1, e2] at h
      simp only [List.cons_append, List.cons.injEq] at h
      rw [h.1] at f1
      exact fst_knd f1 f2
    match d, e, hd, he, h, hk with
    | .non, .non, _, _, h, _ => exact ⟨rfl, List.append_cancel_left h⟩
    | .bl true, .bl true, _, _, h, _ => exact ⟨rfl, List.append_cancel_left h⟩
    | .bl false, .bl false, _, _, h, _ => exact ⟨rfl, List.append_cancel_left h⟩
    | .int i, .int j, _, _, h, _ =>
      obtain ⟨h1, h2⟩ := munch (P := intC) _ _ r s (int_chars i) (int_chars j) (dlm_int hr) (dlm_int hs) h
      refine ⟨?_, h2⟩
      rw [txt, txt] at h1
      rw [intText_inj (ofS_inj (chL_inj h1))]
    | .str w, .str v, hd, he, h, _ =>
      rw [txt, txt] at h
      simp only [List.cons_append, List.append_assoc, List.cons.injEq, true_and, List.nil_append] at h
      have ok : ∀ {w : Str}, reT (.str w) = true → ∀ c ∈ chL w, (decide (c ≠ 39)) = true := fun {w} hw c hc => decide_eq_true (plain_char c (of_decide_eq_true (List.all_eq_true.mp (show plainS w = true by simpa only [reT] using hw) c hc))).2
      obtain ⟨h1, h2⟩ := munch (P := fun c => decide (c ≠ 39)) (chL w) (chL v) (39 :: r) (39 :: s) (ok hd) (ok he) (fun c t z => by cases z; decide) (fun c t z => by cases z; decide) h
      rw [chL_inj h1]
      exact ⟨rfl, (List.cons.inj h2).2⟩
    | .lst xs, .lst ys, hd, he, h, _ =>
      simp only [reT] at hd he
      obtain ⟨h1, h2⟩ := lst_dec xs ys r s hd he hr hs h
      rw [h1]
      exact ⟨rfl, h2⟩
    | .tup xs, .tup ys, hd, he, h, _ =>
      simp only [reT] at hd he
      obtain ⟨h1, h2⟩ := tup_dec xs ys r s hd he hr hs h
      rw [h1]
      exact ⟨rfl, h2⟩
theorem lst_dec : ∀ (xs ys : List Tr) (r s : List Nat), reTs xs = true → reTs ys = true → dlm r → dlm s → txt (.lst xs) ++ r = txt (.lst ys) ++ s → xs = ys ∧ r = s
  | [], [], r, s, _, _, _, _, h => ⟨rfl, List.append_cancel_left h⟩
  | [], y :: ys, r, s, _, hy, _, _, h => by
    simp only [reTs, Bool.and_eq_true] at hy
    obtain ⟨c, t, e1, f1⟩ := fst_txt y hy.1
    rw [txt, txt, e1] at h
    simp only [List.cons_append, List.cons.injEq, true_and] at h
    rw [← h.1] at f1
    exact absurd f1 (by first | exact fst_no93 | exact fst_no41)
  | x :: xs, [], r, s, hx, _, _, _, h => by
    simp only [reTs, Bool.and_eq_true] at hx
    obtain ⟨c, t, e1, f1⟩ := fst_txt x hx.1
    rw [txt, txt, e1] at h
    simp only [List.cons_append, List.cons.injEq, true_and] at h
    rw [h.1] at f1
    exact absurd f1 (by first | exact fst_no93 | exact fst_no41)
  | x :: xs, y :: ys, r, s, hx, hy, hr, hs, h => by
    simp only [reTs, Bool.and_eq_true] at hx hy
    rw [txt, txt] at h
    simp only [List.cons_append, List.append_assoc, List.cons.injEq, true_and] at h
    obtain ⟨h1, h2⟩ := txt_dec x y _ _ hx.1 hy.1 (dlm_tl (.inr rfl)) (dlm_tl (.inr rfl)) h
    obtain ⟨h3, h4⟩ := tl_dec xs ys 93 r s hx.2 hy.2 hr hs (by decide) h2
    exact ⟨by rw [h1, h3], h4⟩
theorem tup_dec : ∀ (xs ys : List Tr) (r s : List Nat), reTs xs = true → reTs ys = true → dlm r → dlm s → txt (.tup xs) ++ r = txt (.tup ys) ++ s → xs = ys ∧ r = s
  | [], [], r, s, _, _, _, _, h => ⟨rfl, List.append_cancel_left h⟩
  | [], y :: ys, r, s, _, hy, _, _, h => by
    simp only [reTs, Bool.and_eq_true] at hy
    obtain ⟨c, t, e1, f1⟩ := fst_txt y hy.1
    have h' : (41 : Nat) :: r = (txt y ++ match ys with
      | [] => [44, 41]
      | e :: es => 44 :: 32 :: (txt e ++ tl es 41)) ++ s := by
      cases ys <;> · rw [txt, txt] at h; simpa using h
    rw [e1] at h'
    simp only [List.cons_append, List.cons.injEq] at h'
    rw [← h'.1] at f1
    exact absurd f1 (by first | exact fst_no93 | exact fst_no41)
  | x :: xs, [], r, s, hx, _, _, _, h => by
    simp only [reTs, Bool.and_eq_true] at hx
    obtain ⟨c, t, e1, f1⟩ := fst_txt x hx.1
    have h' : (txt x ++ match xs with
      | [] => [44, 41]
      | e :: es => 44 :: 32 :: (txt e ++ tl es 41)) ++ r = (41 : Nat) :: s := by
      cases xs <;> · rw [txt, txt] at h; simpa using h
    rw [e1] at h'
    simp only [List.cons_append, List.cons.injEq] at h'
    rw [h'.1] at f1
    exact absurd f1 (by first | exact fst_no93 | exact fst_no41)
  | [x], [y], r, s, hx, hy, hr, hs, h => by
    simp only [reTs, Bool.and_eq_true] at hx hy
    rw [txt, txt] at h
    simp only [List.cons_append, List.append_assoc, List.cons.injEq, true_and, List.nil_append] at h
    obtain ⟨h1, h2⟩ := txt_dec x y (44 :: 41 :: r) (44 :: 41 :: s) hx.1 hy.1 (.inr ⟨_, .inl rfl⟩) (.inr ⟨_, .inl rfl⟩) h
    simp only [List.cons.injEq, true_and] at h2
    exact ⟨by rw [h1], h2⟩
  | [x], y :: z :: ys, r, s, hx, hy, hr, hs, h => by
    simp only [reTs, Bool.and_eq_true] at hx hy
    rw [txt, txt] at h
    simp only [List.cons_append, List.append_assoc, List.cons.injEq, true_and, List.nil_append] at h
    obtain ⟨h1, h2⟩ := txt_dec x y (44 :: 41 :: r) (44 :: 32 :: (txt z ++ (tl ys 41 ++ s))) hx.1 hy.1 (.inr ⟨_, .inl rfl⟩) (.inr ⟨_, .inl rfl⟩) h
    simp at h2
  | x :: z :: xs, [y], r, s, hx, hy, hr, hs, h => by
    simp only [reTs, Bool.and_eq_true] at hx hy
    rw [txt, txt] at h
    simp only [List.cons_append, List.append_assoc, List.cons.injEq, true_and, List.nil_append] at h
    obtain ⟨h1, h2⟩ := txt_dec x y (44 :: 32 :: (txt z ++ (tl xs 41 ++ r))) (44 :: 41 :: s) hx.1 hy.1 (.inr ⟨_, .inl rfl⟩) (.inr ⟨_, .inl rfl⟩) h
    simp at h2
  | x :: z :: xs, y :: u :: ys, r, s, hx, hy, hr, hs, h => by
    simp only [reTs, Bool.and_eq_true] at hx hy
    rw [txt, txt] at h
    simp only [List.cons_append, List.append_assoc, List.cons.injEq, true_and, List.nil_append] at h
    obtain ⟨h1, h2⟩ := txt_dec x y (44 :: 32 :: (txt z ++ (tl xs 41 ++ r))) (44 :: 32 :: (txt u ++ (tl ys 41 ++ s))) hx.1 hy.1 (.inr ⟨_, .inl rfl⟩) (.inr ⟨_, .inl rfl⟩) h
    simp only [List.cons.injEq, true_and] at h2
    obtain ⟨h3, h4⟩ := txt_dec z u _ _ hx.2.1 hy.2.1 (dlm_tl (.inl rfl)) (dlm_tl (.inl rfl)) h2
    obtain ⟨h5, h6⟩ := tl_dec xs ys 41 r s hx.2.2 hy.2.2 hr hs (by decide) h4
    exact ⟨by rw [h1, h3, h5], h6⟩
theorem tl_dec : ∀ (xs ys : List Tr) (c : Nat) (r s : List Nat), reTs xs = true → reTs ys = true → dlm r → dlm s → (c = 41 ∨ c = 93) → tl xs c ++ r = tl ys c ++ s → xs = ys ∧ r = s
  | [], [], c, r, s, _, _, _, _, _, h => by
    rw [tl] at h
    exact ⟨rfl, (List.cons.inj h).2⟩
  | [], y :: ys, c, r, s, _, _, _, _, hc, h => by
    rw [tl, tl_cons] at h
    have := (List.cons.inj h).1
    omega
  | x :: xs, [], c, r, s, _, _, _, _, hc, h => by
    rw [tl, tl_cons] at h
    have := (List.cons.inj h).1
    omega
  | x :: xs, y :: ys, c, r, s, hx, hy, hr, hs, hc, h => by
    simp only [reTs, Bool.and_eq_true] at hx hy
    rw [tl_cons, tl_cons] at h
    simp only [List.cons_append, List.append_assoc, List.cons.injEq, true_and] at h
    obtain ⟨h1, h2⟩ := txt_dec x y _ _ hx.1 hy.1 (dlm_tl hc) (dlm_tl hc) h
    obtain ⟨h3, h4⟩ := tl_dec xs ys c r s hx.2 hy.2 hr hs hc h2
    exact ⟨by rw [h1, h3], h4⟩
end
end DL
end T_RI1
section T_RI2
set_option Elab.async false
set_option linter.all false
set_option maxRecDepth 100000
set_option maxHeartbeats 400000
/-! RI2: the text of repr, and its signs. -/
namespace DL
open PySem PySem.Spec PyProof.Rows L2 PySem.Builtin PySem.Builtin.Str
mutual
/-- how deep -/
def dpt : Tr → Nat
  | .lst xs => dpts xs + 1
  | .tup xs => dpts xs + 1
  | _ => 0
def dpts : List Tr → Nat
  | [] => 0
  | d :: ds => max (dpt d) (dpts ds)
end
theorem tl_flat : ∀ (ds : List Tr) (c : Nat), tl ds c = (ds.flatMap fun d => 44 :: 32 :: txt d) ++ [c]
  | [], c => by simp [tl]
  | d :: ds, c => by
    rw [tl_cons, tl_flat ds c, List.flatMap_cons]
    simp
theorem ch_comma : chL ((", " : String) : Str) = [44, 32] := by rw [chL_str]; rfl
theorem ch_from : ∀ (ts : List Str) (k : Nat) (acc : Str), chL (textFrom (k + 1) acc ts) = chL acc ++ ts.flatMap fun t => 44 :: 32 :: chL t
  | [], k, acc => by simp [textFrom]
  | t :: ts, k, acc => by
    rw [textFrom, ch_from ts (k + 1), chL_app, chL_app, if_pos (Nat.succ_pos k), ch_comma, List.flatMap_cons]
    simp
theorem ch_join : ∀ (t : Str) (ts : List Str), chL (Str.join ((", " : String) : Str) (t :: ts)) = chL t ++ ts.flatMap fun t => 44 :: 32 :: chL t
  | t, [] => by simp [Str.join]
  | t, u :: ts => by
    rw [Str.join, chL_app, chL_app, ch_join u ts, ch_comma, List.flatMap_cons]
    · simp
    · simp
theorem flat_txt {ts : List Str} {ds : List Tr} (h : ts.map chL = ds.map txt) : (ts.flatMap fun t => 44 :: 32 :: chL t) = ds.flatMap fun d => 44 :: 32 :: txt d := by
  have e1 : (ts.flatMap fun t => 44 :: 32 :: chL t) = (ts.map chL).flatMap fun l => 44 :: 32 :: l := by rw [List.flatMap_map]
  have e2 : (ds.flatMap fun d => 44 :: 32 :: txt d) = (ds.map txt).flatMap fun l => 44 :: 32 :: l := by rw [List.flatMap_map]
  rw [e1, e2, h]
theorem ch_list {ts : List Str} {ds : List Tr} (h : ts.map chL = ds.map txt) : chL (listText ts) = txt (.lst ds) := by
  unfold listText
  rw [chL_app]
  cases ts with
  | nil =>
    cases ds with
    | nil => rw [txt]; simp only [textFrom]; rw [chL_str, chL_str]; rfl
    | cons d ds => simp at h
  | cons t ts =>
    cases ds with
    | nil => simp at h
    | cons d ds =>
      simp only [List.map_cons, List.cons.injEq] at h
      rw [textFrom, ch_from, chL_app, chL_app, flat_txt h.2, h.1, txt, tl_flat]
      have e0 : chL ((if 0 > 0 then ", " else "" : String) : Str) = [] := by rw [if_neg (by decide), chL_str]; rfl
      rw [e0, chL_str, chL_str]
      simp
theorem ch_tuple {ts : List Str} {ds : List Tr} (h : ts.map chL = ds.map txt) : chL (tupleText ts) = txt (.tup ds) := by
  unfold tupleText
  rw [chL_app, chL_app]
  cases ts with
  | nil =>
    cases ds with
    | nil => rw [txt]; simp only [Str.join]; decide +kernel
    | cons d ds => simp at h
  | cons t ts =>
    cases ds with
    | nil => simp at h
    | cons d ds =>
      simp only [List.map_cons, List.cons.injEq] at h
      rw [ch_join, h.1]
      cases ts with
      | nil =>
        cases ds with
        | nil =>
          have e1 : (([t] : List Str).length == 1) = true := rfl
          rw [e1, txt, chL_str]
          simp only [if_true]
          rw [chL_str]
          simp
        | cons e es => simp at h
      | cons u us =>
        cases ds with
        | nil => simp at h
        | cons e es =>
          rw [flat_txt h.2, txt, tl_flat]
          have e1 : ((t :: u :: us).length == 1) = false := by simp
          rw [e1, chL_str]
          simp only [Bool.false_eq_true, if_false]
          rw [chL_str, List.flatMap_cons]
          simp
def RpOk (d : Tr) (p : PyData) : Prop := rpd d = some p ∧ p.showable = true ∧ chL p.shown = txt d ∧ p.depth ≤ dpt d
def RpsOk (ds : List Tr) (ps : List PyData) : Prop := rpds ds = some ps ∧ PyData.showableAll ps = true ∧ (PyData.shownAll ps).map chL = ds.map txt ∧ PyData.depthAll ps ≤ dpts ds
mutual
theorem rp_ok : ∀ d : Tr, reT d = true → ∃ p, RpOk d p
  | .non, _ => ⟨.none, rfl, rfl, by simp only [PyData.shown, txt]; rw [chL_str]; rfl, Nat.le_refl _⟩
  | .bl true, _ => ⟨.bool true, rfl, rfl, by simp only [PyData.shown, txt, if_true]; rw [chL_str]; rfl, Nat.le_refl _⟩
  | .bl false, _ => ⟨.bool false, rfl, rfl, by simp only [PyData.shown, txt, Bool.false_eq_true, if_false]; rw [chL_str]; rfl, Nat.le_refl _⟩
  | .int i, h => ⟨.int i, rfl, by simpa only [reT, PyData.showable] using h, by simp only [PyData.shown, txt], Nat.le_refl _⟩
  | .str w, h => ⟨.str w, rfl, rfl, by simp only [PyData.shown, txt]; exact repr_plain (by simpa only [reT] using h), Nat.le_refl _⟩
  | .lst xs, h => by
    obtain ⟨ps, h1, h2, h3, h4⟩ := rps_ok xs (by simpa only [reT] using h)
    exact ⟨.list ps, by simp only [rpd, h1, Option.map_some], by simpa only [PyData.showable] using h2, by simp only [PyData.shown]; exact ch_list h3, by simp only [PyData.depth, dpt]; omega⟩
  | .tup xs, h => by
    obtain ⟨ps, h1, h2, h3, h4⟩ := rps_ok xs (by simpa only [reT] using h)
    exact ⟨.tuple ps, by simp only [rpd, h1, Option.map_some], by simpa only [PyData.showable] using h2, by simp only [PyData.shown]; exact ch_tuple h3, by simp only [PyData.depth, dpt]; omega⟩
  | .dct _ _, h => by simp [reT] at h
  | .ins _ _, h => by simp [reT] at h
  | .exc _ _, h => by simp [reT] at h
  | .cell _, h => by simp [reT] at h
  | .scr _, h => by simp [reT] at h
  | .dkf _ _, h => by simp [reT] at h
theorem rps_ok : ∀ ds : List Tr, reTs ds = true → ∃ ps, RpsOk ds ps
  | [], _ => ⟨[], rfl, rfl, rfl, Nat.le_refl _⟩
  | d :: ds, h => by
    simp only [reTs, Bool.and_eq_true] at h
    obtain ⟨p, a1, a2, a3, a4⟩ := rp_ok d h.1
    obtain ⟨ps, b1, b2, b3, b4⟩ := rps_ok ds h.2
    exact ⟨p :: ps, by simp only [rpds, a1, b1], by simp only [PyData.showableAll, a2, b2, Bool.and_self], by simp only [PyData.shownAll, List.map_cons, a3, b3], by simp only [PyData.depthAll, dpts]; omega⟩
end
theorem plain_small : ∀ c ∈ plainL, c < 0x110000 := by decide +kernel
theorem int_small {c : Nat} (h : intC c = true) : c < 0x110000 := by
  unfold intC at h
  simp only [Bool.or_eq_true, Bool.and_eq_true, decide_eq_true_eq] at h
  omega
mutual
theorem txt_small : ∀ d : Tr, reT d = true → ∀ c ∈ txt d, c < 0x110000
  | .non, _ => by rw [txt]; decide
  | .bl true, _ => by rw [txt]; decide
  | .bl false, _ => by rw [txt]; decide
  | .int i, _ => fun c hc => int_small (int_chars i c hc)
  | .str w, h => by
    intro c hc
    rw [txt] at hc
    have hw : plainS w = true := by simpa only [reT] using h
    simp only [List.cons_append, List.mem_cons, List.mem_append, List.not_mem_nil, or_false] at hc
    rcases hc with rfl | hc | rfl
    · decide
    · exact plain_small c (of_decide_eq_true (List.all_eq_true.mp hw c hc))
    · decide
  | .lst xs, h => by
    have h2 : reTs xs = true := by simpa only [reT] using h
    have ht := txts_small xs h2
    cases xs with
    | nil => rw [txt]; decide
    | cons d ds =>
      intro c hc
      rw [txt, tl_flat] at hc
      have m := ht
      simp only [List.mem_cons, List.mem_append, List.mem_flatMap, List.not_mem_nil, or_false] at hc
      rcases hc with rfl | hc | ⟨e, he, rfl | rfl | hc⟩ | rfl
      · decide
      · exact m d (List.mem_cons_self ..) c hc
      · decide
      · decide
      · exact m e (List.mem_cons_of_mem _ he) c hc
      · decide
  | .tup xs, h => by
    have h2 : reTs xs = true := by simpa only [reT] using h
    have m := txts_small xs h2
    cases xs with
    | nil => rw [txt]; decide
    | cons d ds =>
      cases ds with
      | nil =>
        intro c hc
        rw [txt] at hc
        simp only [List.mem_cons, List.mem_append, List.not_mem_nil, or_false] at hc
        rcases hc with rfl | hc | rfl | rfl
        · decide
        · exact m d (List.mem_cons_self ..) c hc
        · decide
        · decide
      | cons u us =>
        intro c hc
        rw [txt, tl_flat] at hc
        simp only [List.mem_cons, List.mem_append, List.mem_flatMap, List.not_mem_nil, or_false] at hc
        rcases hc with rfl | hc | rfl | rfl | hc | ⟨e, he, rfl | rfl | hc⟩ | rfl
        · decide
        · exact m d (List.mem_cons_self ..) c hc
        · decide
        · decide
        · exact m u (List.mem_cons_of_mem _ (List.mem_cons_self ..)) c hc
        · decide
        · decide
        · exact m e (List.mem_cons_of_mem _ (List.mem_cons_of_mem _ he)) c hc
        · decide
  | .dct _ _, h => by simp [reT] at h
  | .ins _ _, h => by simp [reT] at h
  | .exc _ _, h => by simp [reT] at h
  | .cell _, h => by simp [reT] at h
  | .scr _, h => by simp [reT] at h
  | .dkf _ _, h => by simp [reT] at h
theorem txts_small : ∀ ds : List Tr, reTs ds = true → ∀ d ∈ ds, ∀ c ∈ txt d, c < 0x110000
  | [], _ => by simp
  | d :: ds, h => by
    simp only [reTs, Bool.and_eq_true] at h
    intro e he
    rcases List.mem_cons.mp he with z | z
    · rw [z]; exact txt_small d h.1
    · exact txts_small ds h.2 e z
end
theorem view_re {M : Me} {d : Tr} (h : reT d = true) : viewC M d = d := by cases d <;> first | rfl | simp [reT] at h
/-- REPR'S TEXT -/
theorem repr_txt {d : Tr} (h : reT d = true) (hl : (txt d).length ≤ big) (hd : dpt d ≤ 100) : ∃ w, PyData.strOk w = true ∧ chL w = txt d ∧ ∀ M, reprF M [d] = some (.str w, M) := by
  obtain ⟨p, h1, h2, h3, h4⟩ := rp_ok d h
  refine ⟨p.shown, ?_, h3, fun M => ?_⟩
  · unfold PyData.strOk
    rw [Array.all_eq_true']
    intro c hc
    have : c ∈ chL p.shown := by unfold chL; simpa using hc
    rw [h3] at this
    exact decide_eq_true (txt_small d h c this)
  · have e : p.shown.length = (txt d).length := by rw [← h3]; simp [chL, Str.length]
    simp only [reprF, view_re h, h1, Option.bind_some, h2, decide_eq_true (show p.depth ≤ 100 by omega), decide_eq_true (show p.shown.length ≤ big by omega), Bool.and_self, if_true]
/-- two texts of repr -/
theorem repr_inj {d e : Tr} {v w : Str} (hd : reT d = true) (he : reT e = true) (h1 : chL v = txt d) (h2 : chL w = txt e) : v = w ↔ d = e := by
  constructor
  · intro h
    subst h
    exact (txt_dec d e [] [] hd he (.inl rfl) (.inl rfl) (by rw [List.append_nil, List.append_nil, ← h1, ← h2])).1
  · intro h
    subst h
    exact chL_inj (h1.trans h2.symm)
end DL
end T_RI2
section T_RV
set_option Elab.async false
set_option linter.all false
set_option maxRecDepth 100000
set_option maxHeartbeats 400000
/-! RV: bounds of values; the signs of a value's repr. -/
namespace DL
open PySem PySem.Spec PyProof.Rows L2
def secondsL2 : List Nat := [97, 98, 99, 100, 101, 102, 103, 104, 105, 106, 107, 108, 109, 110, 111, 112, 113, 114, 115, 116, 117, 118, 119, 120, 121, 122]
theorem letters2_eq : lettersS.cps.toList = secondsL2 := by decide +kernel
theorem atom_depth {a : Tr} (h : atomB a = true) : depV a = 0 := by
  cases a <;> simp only [atomB] at h <;> first | (cases h; done) | simp only [depV]
theorem okVs_all : ∀ {ds : List Tr}, (∀ d ∈ ds, okV d = true) → okVs ds = true
  | [], _ => by simp only [okVs]
  | d :: ds, h => by
    simp only [okVs, Bool.and_eq_true]
    exact ⟨h d (List.mem_cons_self ..), okVs_all fun x hx => h x (List.mem_cons_of_mem _ hx)⟩
theorem depVs_le : ∀ {ds : List Tr} {n : Nat}, (∀ d ∈ ds, depV d ≤ n) → depVs ds ≤ n
  | [], n, _ => by simp [depVs]
  | d :: ds, n, h => by
    simp only [depVs]
    have h1 := h d (List.mem_cons_self ..)
    have h2 := depVs_le fun x hx => h x (List.mem_cons_of_mem _ hx)
    omega
theorem atomT_ok {a : Tr} (h : atomT a) : okV a = true ∧ atomB a = true := by
  cases a with
  | non => exact ⟨rfl, rfl⟩
  | int i =>
    simp only [atomT] at h
    refine ⟨?_, rfl⟩
    simp only [okV, intB, decide_eq_true_eq]
    have e : ((10 ^ 40 : Nat) : Int) = 10 ^ 40 := by decide
    split <;> omega
  | str w =>
    obtain ⟨h1, h2, h3⟩ := h
    refine ⟨?_, rfl⟩
    simp only [okV, wordB, Bool.and_eq_true, decide_eq_true_eq]
    refine ⟨⟨h2, h3⟩, ?_⟩
    rw [List.all_eq_true]
    intro c hc
    have hc2 := h1 c hc
    have e : lettersS.cps.toList = secondsL2 := letters2_eq
    rw [e]
    refine decide_eq_true ?_
    unfold secondsL2
    simp only [List.mem_cons, List.not_mem_nil, or_false]
    omega
  | _ => exact h.elim
/-- a value, at most so deep and so long -/
def okB (d s : Nat) (v : Tr) : Prop := okV v = true ∧ depV v ≤ d ∧ szV v ≤ s
theorem okB.mono {d s d' s' : Nat} {v : Tr} (h : okB d s v) (h1 : d ≤ d') (h2 : s ≤ s') : okB d' s' v := ⟨h.1, Nat.le_trans h.2.1 h1, Nat.le_trans h.2.2 h2⟩
theorem szVs_le : ∀ {ds : List Tr} {s : Nat}, (∀ d ∈ ds, szV d ≤ s) → szVs ds ≤ ds.length * (s + 2)
  | [], s, _ => by simp [szVs]
  | d :: ds, s, h => by
    have h1 := h d (List.mem_cons_self ..)
    have h2 := szVs_le fun x hx => h x (List.mem_cons_of_mem _ hx)
    simp only [szVs, List.length_cons]
    rw [Nat.add_mul, Nat.one_mul]
    omega
theorem okB_lst {d s : Nat} {xs : List Tr} (h : ∀ v ∈ xs, okB d s v) (hl : xs.length ≤ 1000) : okB (d + 1) (2 + xs.length * (s + 2)) (.lst xs) := by
  refine ⟨?_, ?_, ?_⟩
  · simp only [okV, Bool.and_eq_true, decide_eq_true_eq]
    exact ⟨hl, okVs_all fun v hv => (h v hv).1⟩
  · simp only [depV]
    have := depVs_le fun v hv => (h v hv).2.1
    omega
  · simp only [szV]
    have := szVs_le fun v hv => (h v hv).2.2
    omega
theorem atom_okB {a : Tr} (h : okV a = true) (hA : atomB a = true) : okB 0 100 a := by
  refine ⟨h, by rw [atom_depth hA]; exact Nat.le_refl _, ?_⟩
  cases a with
  | lst _ => simp [atomB] at hA
  | _ => simp only [szV]; omega
def szB : Nat → Nat
  | 0 => 100
  | n + 1 => 2 + 4 * (szB n + 2)
theorem szB_le (n : Nat) : 100 ≤ szB n := by
  induction n with
  | zero => exact Nat.le_refl _
  | succ n ih => simp only [szB]; omega
theorem valsT_mem (n : Nat) : ∀ (vs : List Tr), valsT n vs → ∀ v ∈ vs, valT n v
  | [], _ => fun _ h => nomatch h
  | v :: vs, h => by
    simp only [valsT] at h
    intro w hw
    rcases List.mem_cons.mp hw with e | e
    · subst e; exact h.1
    · exact valsT_mem n vs h.2 w e
theorem valT_okB : ∀ (n : Nat) (v : Tr), valT n v → okB n (szB n) v
  | 0, v, h => by
    have := atomT_ok (a := v) (by simpa only [valT] using h)
    exact (atom_okB this.1 this.2)
  | n + 1, v, h => by
    cases v with
    | lst xs =>
      simp only [valT] at h
      have h2 : ∀ v ∈ xs, okB n (szB n) v := fun v hv => valT_okB n v (valsT_mem n xs h.2 v hv)
      refine (okB_lst h2 (by omega)).mono (Nat.le_refl _) ?_
      simp only [szB]
      have := Nat.mul_le_mul_right (szB n + 2) h.1
      omega
    | non => exact (atom_okB (a := .non) rfl rfl).mono (Nat.zero_le _) (szB_le _)
    | int i =>
      have := atomT_ok (a := .int i) (by simpa only [valT] using h)
      exact (atom_okB this.1 this.2).mono (Nat.zero_le _) (szB_le _)
    | str i =>
      have := atomT_ok (a := .str i) (by simpa only [valT] using h)
      exact (atom_okB this.1 this.2).mono (Nat.zero_le _) (szB_le _)
    | _ => simp [valT, atomT] at h
theorem letters_plain : ∀ c ∈ lettersS.cps.toList, c ∈ plainL := by decide +kernel
theorem plain_word {w : Str} (h : wordB w = true) : plainS w = true ∧ w.length ≤ 8 := by
  unfold wordB at h
  simp only [Bool.and_eq_true, decide_eq_true_eq] at h
  refine ⟨List.all_eq_true.mpr fun c hc => ?_, h.1.2⟩
  have := List.all_eq_true.mp h.2 c hc
  exact decide_eq_true (letters_plain c (of_decide_eq_true this))
theorem ch_len (w : Str) : (chL w).length = w.length := by simp [chL, Str.length]
theorem tx_str {w : Str} : (txt (.str w)).length = w.length + 2 := by
  rw [txt]
  simp only [List.cons_append, List.length_cons, List.length_append, ch_len, List.length_nil]
theorem tx_at {a : Tr} (h : okV a = true ∧ atomB a = true) : (txt a).length ≤ 50 ∧ reT a = true ∧ dpt a = 0 := by
  obtain ⟨h, h'⟩ := h
  cases a with
  | non => exact ⟨by rw [txt]; decide, rfl, rfl⟩
  | int i =>
    have hi : intB i = true := by simpa only [okV] using h
    refine ⟨?_, by simp only [reT]; exact decide_eq_true (log2_intB hi), rfl⟩
    rw [txt, ch_len]
    exact len_int hi
  | str w =>
    have := plain_word (show wordB w = true by simpa only [okV] using h)
    refine ⟨?_, by simp only [reT]; exact this.1, rfl⟩
    rw [tx_str]
    omega
  | lst _ => simp [atomB] at h'
  | _ => simp [okV] at h
def sumL : List Tr → Nat
  | [] => 0
  | d :: ds => (txt d).length + 2 + sumL ds
theorem tl_len : ∀ (ds : List Tr) (c : Nat), (tl ds c).length = sumL ds + 1
  | [], c => by rw [tl]; rfl
  | d :: ds, c => by
    rw [tl_cons]
    simp only [List.length_cons, List.length_append, tl_len ds c, sumL]
    omega
theorem tx_tup (ds : List Tr) : (txt (.tup ds)).length ≤ sumL ds + 3 := by
  cases ds with
  | nil => rw [txt]; decide
  | cons d ds =>
    cases ds with
    | nil =>
      rw [txt]
      simp only [List.length_cons, List.length_append, List.length_nil, sumL]
      omega
    | cons e es =>
      rw [txt]
      simp only [List.length_cons, List.length_append, tl_len, sumL]
      omega
mutual
theorem tx_val : ∀ d : Tr, okV d = true → reT d = true ∧ (txt d).length ≤ szV d ∧ dpt d ≤ depV d
  | .lst xs, h => by
    obtain ⟨h1, h2, h3⟩ := tx_vals xs (okV_lst h).2
    refine ⟨by simpa only [reT] using h1, ?_, by simp only [dpt, depV]; omega⟩
    cases xs with
    | nil => rw [txt]; simp only [szV]; exact Nat.le_add_right _ _
    | cons x xs =>
      rw [txt]
      simp only [sumL] at h2
      simp only [List.length_cons, List.length_append, tl_len, szV]
      omega
  | .non, h => ⟨rfl, by rw [txt]; simp only [szV]; decide, Nat.le_refl _⟩
  | .int i, h => by
    obtain ⟨a, b, c⟩ := tx_at (a := .int i) ⟨h, rfl⟩
    exact ⟨b, by simp only [szV]; omega, by rw [c]; omega⟩
  | .str i, h => by
    obtain ⟨a, b, c⟩ := tx_at (a := .str i) ⟨h, rfl⟩
    exact ⟨b, by simp only [szV]; omega, by rw [c]; omega⟩
  | .bl _, h => by simp [okV] at h
  | .tup _, h => by simp [okV] at h
  | .dct _ _, h => by simp [okV] at h
  | .ins _ _, h => by simp [okV] at h
  | .exc _ _, h => by simp [okV] at h
  | .cell _, h => by simp [okV] at h
  | .scr _, h => by simp [okV] at h
  | .dkf _ _, h => by simp [okV] at h
theorem tx_vals : ∀ ds : List Tr, okVs ds = true → reTs ds = true ∧ sumL ds ≤ szVs ds ∧ dpts ds ≤ depVs ds
  | [], _ => ⟨rfl, Nat.le_refl _, Nat.le_refl _⟩
  | d :: ds, h => by
    simp only [okVs, Bool.and_eq_true] at h
    obtain ⟨a1, a2, a3⟩ := tx_val d h.1
    obtain ⟨b1, b2, b3⟩ := tx_vals ds h.2
    refine ⟨by simp only [reTs, a1, b1, Bool.and_self], by simp only [sumL, szVs]; omega, by simp only [dpts, depVs]; omega⟩
end
/-- repr of a value -/
theorem repr_val {d : Tr} {n s : Nat} (h : okB n s d) (hn : n ≤ 100) (hs : s ≤ big) : ∃ w, PyData.strOk w = true ∧ chL w = txt d ∧ ∀ M, reprF M [d] = some (.str w, M) := by
  obtain ⟨a, b, c⟩ := tx_val d h.1
  exact repr_txt a (by have := h.2.2; omega) (by have := h.2.1; omega)
theorem neT_strs {M : Me} {a b : Str} (ha : PyData.strOk a = true) (hb : PyData.strOk b = true) : neT M (.str a) (.str b) = some (.bl (!decide (a = b))) := by
  have h := eqT_str' (M := M) ha hb
  simp only [eqT, neT] at h ⊢
  cases e : eqB M (.str a) (.str b) with
  | none => rw [e] at h; cases h
  | some c =>
    rw [e] at h
    simp only [Option.map_some, Option.some.injEq, Tr.bl.injEq] at h
    rw [← h]
    rfl
theorem neT_self {M : Me} {a : Str} (ha : PyData.strOk a = true) : neT M (.str a) (.str a) = some (.bl false) := by rw [neT_strs ha ha, decide_eq_true rfl]; rfl
end DL
end T_RV
section T_K1A
set_option Elab.async false
set_option linter.all false
set_option maxRecDepth 100000
set_option maxHeartbeats 200000
/-! K1A: what an error is of; the law. -/
namespace DL
open PySem PySem.Spec PyProof.Rows L2
def flagsL (c : Nat) : List Tr := (List.range 11).map fun k => Tr.bl (decide (c = k))
def sp_flags : Sf := ⟨fun ds M Q _ => ∃ c fs, ds = [.exc c fs] ∧ c < 12 ∧ Q (.lst (flagsL c)) M, fun h _ ⟨c, fs, a, b, q⟩ => ⟨c, fs, a, b, h _ _ q⟩⟩
theorem in_ec {c : Nat} (h : c < 12) : c ∈ ec := by
  have : ∀ c, c < 12 → c ∈ ec := by decide
  exact this c h
theorem sub_ne {c k : Nat} (h : k < 11) : excSub c k = decide (c = k) := by
  unfold excSub
  rw [show decide (k = 11) = false from decide_eq_false (by omega), Bool.or_false]
theorem go_flags (ds : List Tr) (M : Me) (Q E : TK) (hl : ds.length = 1) (h : sp_flags.f ds M Q E) : r_law_flags.f (finF M.length Q E) (startE N_law_flags ds) M := by
  obtain ⟨c, fs, rfl, hc, q⟩ := h
  have he := in_ec hc
  show r_law_flags.f (finF M.length Q E) [some (.exc c fs), none] M
  simp only [r_law_flags, r_law_flags_1, r_law_flags_2, r_law_flags_3, r_law_flags_4, sSeq, sAsg, sRet, dOp, dLst, dCons, dNil, dIsA, dVar, List.getElem?_cons_zero, List.getElem?_cons_succ, setTg, onSome, List.set_cons_succ, List.set_cons_zero, he, true_and]
  have b2 : 2 ≤ big := by decide
  have b3 : 3 ≤ big := by decide
  refine ⟨b3, b3, ?_⟩
  simp only [addT, seqL]
  rw [if_pos (by show 6 ≤ big; decide)]
  refine ⟨b3, ?_⟩
  simp only [List.cons_append, List.nil_append]
  rw [if_pos (by show 9 ≤ big; decide)]
  refine ⟨b2, ?_⟩
  simp only [List.cons_append, List.nil_append]
  rw [if_pos (by show 11 ≤ big; decide)]
  refine .inl ?_
  simp only [sub_ne (c := c) (show 0 < 11 by decide), sub_ne (c := c) (show 1 < 11 by decide), sub_ne (c := c) (show 2 < 11 by decide), sub_ne (c := c) (show 3 < 11 by decide), sub_ne (c := c) (show 4 < 11 by decide), sub_ne (c := c) (show 5 < 11 by decide), sub_ne (c := c) (show 6 < 11 by decide), sub_ne (c := c) (show 7 < 11 by decide), sub_ne (c := c) (show 8 < 11 by decide), sub_ne (c := c) (show 9 < 11 by decide), sub_ne (c := c) (show 10 < 11 by decide), List.cons_append, List.nil_append]
  exact q
theorem flags_same {M : Me} {c : Nat} (h : c < 12) : neT M (.lst (flagsL c)) (.lst (flagsL c)) = some (.bl false) := by
  have : ∀ c, c < 12 → eqB [] (.lst (flagsL c)) (.lst (flagsL c)) = some true := by decide +kernel
  have e : eqB M (.lst (flagsL c)) (.lst (flagsL c)) = some true := this c h
  unfold neT
  rw [e]; rfl
theorem flags_none {M : Me} : notInT M (.bl true) (.lst (flagsL 11)) = some (.bl true) := by
  have : inB [] (.bl true) (.lst (flagsL 11)) = some false := by decide +kernel
  have e : inB M (.bl true) (.lst (flagsL 11)) = some false := this
  unfold notInT
  rw [e]; rfl
/-- what may be written into an exception's text -/
theorem okFT_val {d : Tr} {n s : Nat} (h : okB n s d) (hn : n ≤ 100) (hs : s ≤ fmtMost) : okFT true d = true := by
  obtain ⟨h1, h2, h3⟩ := h
  cases d with
  | non => rfl
  | int i =>
    have hi : intB i = true := by simpa only [okV] using h1
    simp only [okFT, Bool.and_eq_true, decide_eq_true_eq]
    have := len_int hi
    exact ⟨log2_intB hi, by unfold fmtMost; omega⟩
  | str w =>
    have hw : wordB w = true := by simpa only [okV] using h1
    simp only [okFT, decide_eq_true_eq]
    have := len_word hw
    unfold fmtMost; omega
  | lst xs =>
    obtain ⟨a, b, c⟩ := tx_val _ h1
    obtain ⟨p, e1, e2, e3, e4⟩ := rp_ok _ a
    simp only [okFT, Bool.true_and, e1, Bool.and_eq_true, decide_eq_true_eq]
    refine ⟨⟨e2, by omega⟩, ?_⟩
    rw [← ch_len, e3]
    omega
  | _ => simp [okV] at h1
def sp_law : Sf := ⟨fun ds M Q _ => ∃ ns : List Int, ds = [.scr ns] ∧ M = [] ∧ ns.length ≤ 63 ∧ ∀ M', Q (.bl true) M', fun h _ ⟨ns, a, b, c, q⟩ => ⟨ns, a, b, c, fun M' => h _ _ (q M')⟩⟩
abbrev ρL (g : Nat) (ns : List Int) (s2 s3 s4 s5 s6 s7 s8 s9 s10 s11 s12 : Option Tr) : En := [some (.scr ns), some (.cell (g + 1)), s2, s3, s4, s5, s6, s7, s8, s9, s10, s11, s12]
def someL : List Tr := [.exc 0 [], .exc 1 [], .exc 2 [], .exc 3 [], .exc 4 []]
def heldL (v w : Tr) : List Tr := [.exc 5 [v], .exc 6 [v], .exc 7 [v, w], .exc 8 [v], .exc 9 [v], .exc 10 [v]]
section
variable {g : Nat} {ns : List Int} {F : Fin} {T : Nat} {M : Me} {s2 s3 s4 s5 s6 s7 s8 s9 s10 s11 s12 : Option Tr}
theorem law_f1 (hd : Dr g T M) (hT : T + 30000 < 2 ^ 40) (q : ∀ x v w M', okB 2 1000000 v → okB 2 1000000 w → Dr g (T + 15000) M' → F.nx (ρL g ns s2 s3 s4 s5 s6 (some (.str x)) (some v) (some w) s10 s11 s12) M') :
    (r_law_2_f1 sp_begun sp_word (sp_value 3) sp_flags).f F (ρL g ns s2 s3 s4 s5 s6 s7 s8 s9 s10 s11 s12) M := by
  simp only [r_law_2_f1, sPar, dFn, dCons, dNil, dC, dVar, List.getElem?_cons_zero, List.getElem?_cons_succ, List.append_nil, List.length_cons, List.length_nil, true_and]
  have e1 : turnsV 1 = 2000 := by decide
  have e2 : turnsV 2 = 10000 := by decide
  refine ⟨g, T, 8, rfl, by decide, by decide, hd, by omega, fun x M1 _ _ _ d1 => ?_⟩
  refine ⟨g, T + 200, 2, rfl, by omega, d1.dr, by omega, fun v M2 hv d2 => ?_⟩
  refine ⟨g, T + 200 + turnsV 2, 1, rfl, by omega, d2.dr, by omega, fun w M3 hw d3 => ?_⟩
  simp only [setAll, onSome, List.set_cons_succ, List.set_cons_zero]
  exact q x v w M3 ((valT_okB 2 v hv).mono (by omega) (by decide)) ((valT_okB 1 w hw).mono (by omega) (by decide)) (d3.dr.mono (by omega))
theorem law_f2 {x : Str} (q : F.nx (ρL g ns s2 s3 (some (.lst someL)) s5 s6 (some (.str x)) s8 s9 s10 s11 s12) M) :
    (r_law_2_f2 sp_begun sp_word (sp_value 3) sp_flags).f F (ρL g ns s2 s3 s4 s5 s6 (some (.str x)) s8 s9 s10 s11 s12) M := by
  simp only [r_law_2_f2, sAsg, dLst, dMkX0, dCons, dNil, dVar, List.getElem?_cons_zero, List.getElem?_cons_succ, setTg, onSome, List.set_cons_succ, List.set_cons_zero]
  exact ⟨by show 5 ≤ big; decide, q⟩
theorem law_f3 {v w : Tr} (hv : okB 2 1000000 v) (q : F.nx (ρL g ns s2 s3 s4 (some (.lst (heldL v w))) s6 s7 (some v) (some w) s10 s11 s12) M) :
    (r_law_2_f3 sp_begun sp_word (sp_value 3) sp_flags).f F (ρL g ns s2 s3 s4 s5 s6 s7 (some v) (some w) s10 s11 s12) M := by
  have h := okFT_val hv (by decide) (by decide)
  simp only [r_law_2_f3, sAsg, dLst, dMkX, dCons, dNil, dVar, List.getElem?_cons_zero, List.getElem?_cons_succ, setTg, onSome, List.set_cons_succ, List.set_cons_zero]
  refine ⟨⟨rfl, by simp only [okX, h, Bool.or_true]⟩, ⟨rfl, by simp only [okX, h, Bool.or_true]⟩, ⟨rfl, rfl⟩, ⟨rfl, rfl⟩, ⟨rfl, by simp only [okX, h, Bool.or_true]⟩, ⟨rfl, rfl⟩, by show 6 ≤ big; decide, q⟩
/-- the exception of the number k -/
theorem err_at {v w : Tr} {k : Nat} {x : Tr} (h : (enumT 0 (someL ++ heldL v w))[k]? = some x) : ∃ fs, k < 11 ∧ x = .tup [.int (k : Nat), .exc k fs] := by
  rw [enumT_get] at h
  simp only [Option.map_eq_some_iff] at h
  obtain ⟨y, h1, rfl⟩ := h
  rw [Nat.zero_add]
  match k, h1 with
  | 0, h1 => cases h1; exact ⟨_, by decide, rfl⟩
  | 1, h1 => cases h1; exact ⟨_, by decide, rfl⟩
  | 2, h1 => cases h1; exact ⟨_, by decide, rfl⟩
  | 3, h1 => cases h1; exact ⟨_, by decide, rfl⟩
  | 4, h1 => cases h1; exact ⟨_, by decide, rfl⟩
  | 5, h1 => cases h1; exact ⟨_, by decide, rfl⟩
  | 6, h1 => cases h1; exact ⟨_, by decide, rfl⟩
  | 7, h1 => cases h1; exact ⟨_, by decide, rfl⟩
  | 8, h1 => cases h1; exact ⟨_, by decide, rfl⟩
  | 9, h1 => cases h1; exact ⟨_, by decide, rfl⟩
  | 10, h1 => cases h1; exact ⟨_, by decide, rfl⟩
  | k + 11, h1 => simp [someL, heldL] at h1
theorem law_f4 {v w : Tr} (q : ∀ s10 s11 s12, F.nx (ρL g ns s2 s3 (some (.lst someL)) (some (.lst (heldL v w))) s6 s7 s8 s9 s10 s11 s12) M) :
    (r_law_2_f4 sp_begun sp_word (sp_value 3) sp_flags).f F (ρL g ns s2 s3 (some (.lst someL)) (some (.lst (heldL v w))) s6 s7 s8 s9 s10 s11 s12) M := by
  simp only [r_law_2_f4, sFor, dEnum, dOp, dCons, dNil, dVar, List.getElem?_cons_zero, List.getElem?_cons_succ, onSome, addT, seqL]
  rw [if_pos (by show 11 ≤ big; decide)]
  simp only [fixedL]
  refine forT_inv (fun n ρ M' => M' = M ∧ ∃ s10 s11 s12, ρ = ρL g ns s2 s3 (some (.lst someL)) (some (.lst (heldL v w))) s6 s7 s8 s9 s10 s11 s12) _ 0 _ _ ⟨rfl, _, _, _, rfl⟩ ?_ ?_
  · rintro i x ρ M2 hx ⟨rfl, s10, s11, s12, rfl⟩
    obtain ⟨fs, hi, rfl⟩ := err_at hx
    refine ⟨_, rfl, ?_⟩
    have he := in_ec (show i < 12 by omega)
    simp only [r_law_2_f4_f, r_law_2_f4_f1, r_law_2_f4_f2, sSeq, sIf, dOrT, dNotT, dTest, dTru, dOp, dFn, dCons, dNil, dC, dVar, dIsA, dIsVE, dLcX, dRange1, List.getElem?_cons_zero, List.getElem?_cons_succ, List.set_cons_succ, List.set_cons_zero, List.append_nil, List.length_cons, List.length_nil, true_and]
    refine ⟨i, fs, rfl, by omega, by decide, ?_⟩
    refine compT_map (fun x => match x with | .int k => .bl (decide (k = (i : Int))) | _ => .non) M2 _ [] (by decide) ?_ ?_
    · intro x hx
      simp only [rangeT, List.mem_map, List.mem_range] at hx
      obtain ⟨k, hk, rfl⟩ := hx
      refine ⟨_, rfl, fun Q' hq => ?_⟩
      simp only [wipeE, List.set_cons_succ, List.set_cons_zero, List.getElem?_cons_zero, List.getElem?_cons_succ, eqT_int, onSome]
      exact hq
    · have e : ([] : List Tr) ++ (rangeT 0 (11 : Int).toNat).map (fun x => match x with | .int k => .bl (decide (k = (i : Int))) | _ => .non) = flagsL i := by
        rw [List.nil_append]
        unfold rangeT flagsL
        rw [List.map_map]
        refine List.map_congr_left fun k hk => ?_
        simp only [Function.comp]
        congr 1
        by_cases hh : i = k
        · rw [decide_eq_true hh, decide_eq_true (by omega)]
        · rw [decide_eq_false hh, decide_eq_false (by omega)]
      rw [e]
      simp only [outT, Bool.false_eq_true, if_false, flags_same (c := i) (by omega), onSome]
      refine ⟨he, ?_⟩
      simp only [show excSub i 11 = true from by simp [excSub], truB, onSome, Bool.not_true, Bool.false_eq_true, if_false, sNil]
      refine ⟨he, ?_⟩
      exact ⟨trivial, _, _, _, rfl⟩
  · rintro ρ M2 ⟨rfl, s10, s11, s12, rfl⟩
    exact q _ _ _
theorem law_f5 {v w : Tr} (q : F.nx (ρL g ns s2 s3 s4 (some (.lst (heldL v w))) (some (.lst [v, v, v, v, v, v])) s7 s8 s9 s10 s11 s12) M) :
    (r_law_2_f5 sp_begun sp_word (sp_value 3) sp_flags).f F (ρL g ns s2 s3 s4 (some (.lst (heldL v w))) s6 s7 s8 s9 s10 s11 s12) M := by
  have e : ∀ i : Nat, ixF M (.lst (heldL v w)) (.int (i : Nat)) = atI (heldL v w) (i : Nat) := fun i => rfl
  simp only [r_law_2_f5, sAsg, dLst, dXFld, dOp, dCons, dNil, dC, dVar, List.getElem?_cons_zero, List.getElem?_cons_succ, setTg, onSome, List.set_cons_succ, List.set_cons_zero]
  exact ⟨by show 6 ≤ big; decide, q⟩
theorem law_f6 {v w : Tr} (hv : okB 2 1000000 v) (hw : okB 2 1000000 w) (q : F.nx (ρL g ns s2 s3 s4 (some (.lst (heldL v w))) (some (.lst [v, v, v, v, v, v])) s7 (some v) (some w) s10 s11 s12) M) :
    (r_law_2_f6 sp_begun sp_word (sp_value 3) sp_flags).f F (ρL g ns s2 s3 s4 (some (.lst (heldL v w))) (some (.lst [v, v, v, v, v, v])) s7 (some v) (some w) s10 s11 s12) M := by
  have h6 : okB 3 (2 + 6 * (1000000 + 2)) (.lst [v, v, v, v, v, v]) := okB_lst (fun x hx => by
    simp only [List.mem_cons, List.not_mem_nil, or_false, or_self] at hx
    rw [hx]; exact hv) (by show 6 ≤ 1000; decide)
  obtain ⟨a, a1, _, a3⟩ := repr_val h6 (by decide) (by decide)
  obtain ⟨b, b1, _, b3⟩ := repr_val hw (by decide) (by decide)
  have em : mulT M (.lst [v]) (.int 6) = some (.lst [v, v, v, v, v, v]) := by
    simp only [mulT, seqL]
    rw [if_pos (by show (decide (-(2 ^ 63 : Int) ≤ 6) && decide ((6 : Int) < 2 ^ 63) && decide (1 * 6 ≤ big)) = true; decide)]
    rfl
  have ei : ixF M (.lst (heldL v w)) (.int 2) = some (.exc 7 [v, w]) := rfl
  simp only [r_law_2_f6, sIf, dOrT, dTest, dOp, dCall, dXFld, dLst, dCons, dNil, dC, dVar, List.getElem?_cons_zero, List.getElem?_cons_succ, a3, onSome]
  refine ⟨by show 1 ≤ big; decide, ?_⟩
  simp only [em, a3, neT_self a1, ei, Bool.false_eq_true, if_false]
  simp only [show xFld xf_other (.exc 7 [v, w]) = some w from rfl, onSome, b3, neT_self b1, sNil, Bool.false_eq_true, if_false]
  exact q
theorem law_f (hd : Dr g T M) (hT : T + 30000 < 2 ^ 40) (q : ∀ s4 s5 s6 s7 s8 s9 s10 s11 s12 M', Dr g (T + 15000) M' → F.nx (ρL g ns s2 s3 s4 s5 s6 s7 s8 s9 s10 s11 s12) M') :
    (r_law_2_f sp_begun sp_word (sp_value 3) sp_flags).f F (ρL g ns s2 s3 s4 s5 s6 s7 s8 s9 s10 s11 s12) M := by
  simp only [r_law_2_f, sSeq]
  refine law_f1 hd (by omega) fun y v w M3 hv hw h3 => ?_
  refine law_f2 ?_
  refine law_f3 hv ?_
  dsimp only
  refine law_f4 (v := v) (w := w) fun t10 t11 t12 => ?_
  dsimp only
  refine law_f5 (v := v) (w := w) ?_
  dsimp only
  exact law_f6 hv hw (q _ _ _ _ _ _ _ _ _ M3 h3)
end
theorem go_law (ds : List Tr) (M : Me) (Q E : TK) (hl : ds.length = 1) (h : sp_law.f ds M Q E) : (r_law sp_begun sp_word (sp_value 3) sp_flags).f (finF M.length Q E) (startE N_law ds) M := by
  obtain ⟨ns, rfl, rfl, hn, q⟩ := h
  show (r_law sp_begun sp_word (sp_value 3) sp_flags).f (finF ([] : Me).length Q E) (ρL 0 ns none none none none none none none none none none none |>.set 1 none) []
  simp only [r_law, sSeq]
  simp only [sAsg, dFn, dCons, dNil, dVar, List.getElem?_cons_zero, List.set_cons_succ, List.set_cons_zero, List.append_nil, List.length_cons, List.length_nil, true_and]
  refine ⟨ns, rfl, hn, fun M1 hl1 _ hd => ?_⟩
  simp only [setTg, onSome, List.set_cons_succ, List.set_cons_zero]
  have qe : ∀ M', (finF ([] : Me).length Q E).rt (.bl true) M' := fun M' => .inl (q M')
  have hd1 : Dr 0 0 M1 := hd
  have hfin : (finF 0 Q E) = finF ([] : Me).length Q E := rfl
  rw [hfin]
  generalize finF ([] : Me).length Q E = F0 at *
  simp only [r_law_2, sFor, dRange1, dOp, dCons, dNil, dCall, dC, dVar, List.getElem?_cons_zero, lenF, seqA, Option.map_some, onSome, minF, maxF, List.length_map]
  have hJ : ∃ J : Int, 1 ≤ J ∧ J ≤ 6 ∧ (if (if (ns.length : Int) < 6 then (ns.length : Int) else 6) > 1 then (if (ns.length : Int) < 6 then (ns.length : Int) else 6) else 1) = J := by
    refine ⟨_, ?_, ?_, rfl⟩ <;> (split <;> split <;> omega)
  obtain ⟨J, j1, j2, eJ⟩ := hJ
  rw [eJ]
  refine ⟨by omega, ?_⟩
  have hlen : (rangeT 0 J.toNat).length ≤ 6 := by rw [rangeT, List.length_map, List.length_range]; omega
  refine forT_inv (fun n ρ M' => ∃ s2 s3 s4 s5 s6 s7 s8 s9 s10 s11 s12, ρ = ρL 0 ns s2 s3 s4 s5 s6 s7 s8 s9 s10 s11 s12 ∧ Dr 0 (n * 15000) M') _ 0 _ _ ⟨_, _, _, _, _, _, _, _, _, _, _, rfl, hd1.mono (by omega)⟩ ?_ ?_
  · rintro i x ρ M2 hx ⟨s2, s3, s4, s5, s6, s7, s8, s9, s10, s11, s12, rfl, hd2⟩
    have hi : i < (rangeT 0 J.toNat).length := (List.getElem?_eq_some_iff.mp hx).1
    have hT : (0 + i) * 15000 ≤ 90000 := Nat.mul_le_mul_right 15000 (show 0 + i ≤ 6 by omega)
    have hT2 : (0 + i + 1) * 15000 = (0 + i) * 15000 + 15000 := by rw [Nat.add_mul, Nat.one_mul]
    refine ⟨_, rfl, ?_⟩
    refine law_f (g := 0) (T := (0 + i) * 15000) hd2 (by omega) fun s4 s5 s6 s7 s8 s9 s10 s11 s12 M' h1 => ⟨_, _, _, _, _, _, _, _, _, _, _, rfl, ?_⟩
    rw [hT2]
    exact h1
  · rintro ρ M2 ⟨s2, s3, s4, s5, s6, s7, s8, s9, s10, s11, s12, rfl, hd2⟩
    simp only [dMkX0, dC, List.set_cons_succ, List.set_cons_zero, r_law_4, sRet, dAndV, dOp, dFn, dIsVE, dCons, dNil, dVar, List.getElem?_cons_zero, List.getElem?_cons_succ, List.append_nil, List.length_cons, List.length_nil, true_and]
    refine ⟨11, [], rfl, by decide, ?_⟩
    simp only [flags_none, onSome]
    exact ⟨by decide, qe M2⟩
end DL
end T_K1A
section T_LawA
set_option Elab.async false
set_option linter.all false
set_option maxRecDepth 100000
set_option maxHeartbeats 400000
/-! LawA: every def keeps its promise. -/
namespace DL
open PySem PySem.Spec PyProof.Rows L2
/-- what the head tells -/
structure Wd (K : PySem.W.Frag) (mg : Str → Option Value) : Prop where
  B : Bn mg
  XS : XsK K ec
  g_BadValue : mg "BadValue" = some (.ref (He.ga K "BadValue"))
  g_BadPattern : mg "BadPattern" = some (.ref (He.ga K "BadPattern"))
  g_BadTemplate : mg "BadTemplate" = some (.ref (He.ga K "BadTemplate"))
  g_BadCases : mg "BadCases" = some (.ref (He.ga K "BadCases"))
  g_NoSet : mg "NoSet" = some (.ref (He.ga K "NoSet"))
  g_BadCase : mg "BadCase" = some (.ref (He.ga K "BadCase"))
  g_Refused : mg "Refused" = some (.ref (He.ga K "Refused"))
  g_NoInverse : mg "NoInverse" = some (.ref (He.ga K "NoInverse"))
  g_NeverHad : mg "NeverHad" = some (.ref (He.ga K "NeverHad"))
  g_BadText : mg "BadText" = some (.ref (He.ga K "BadText"))
  g_BadName : mg "BadName" = some (.ref (He.ga K "BadName"))
  X_BadValue : XcK K 0
  X_BadPattern : XcK K 1
  X_BadTemplate : XcK K 2
  X_BadCases : XcK K 3
  X_NoSet : XcK K 4
  g_CaseError : mg "CaseError" = some (.ref (He.ga K "CaseError"))
  VE : VeK K ec
  q_at : ∀ c i, (c, i) ∈ xf_at → c < 1000 ∧ (efs c)[i]? = some "at" ∧ (efs c).Nodup ∧ XfK K c "at"
  q_place : ∀ c i, (c, i) ∈ xf_place → c < 1000 ∧ (efs c)[i]? = some "place" ∧ (efs c).Nodup ∧ XfK K c "place"
  q_one : ∀ c i, (c, i) ∈ xf_one → c < 1000 ∧ (efs c)[i]? = some "one" ∧ (efs c).Nodup ∧ XfK K c "one"
  q_value : ∀ c i, (c, i) ∈ xf_value → c < 1000 ∧ (efs c)[i]? = some "value" ∧ (efs c).Nodup ∧ XfK K c "value"
  q_line : ∀ c i, (c, i) ∈ xf_line → c < 1000 ∧ (efs c)[i]? = some "line" ∧ (efs c).Nodup ∧ XfK K c "line"
  q_name : ∀ c i, (c, i) ∈ xf_name → c < 1000 ∧ (efs c)[i]? = some "name" ∧ (efs c).Nodup ∧ XfK K c "name"
  q_other : ∀ c i, (c, i) ∈ xf_other → c < 1000 ∧ (efs c)[i]? = some "other" ∧ (efs c).Nodup ∧ XfK K c "other"
  X_CaseError : XcK K 11
  xo_5 : XoK K 5
  XI : XiK K
  n_BadCase : XnOk K 5 "BadCase.__init__" s_BadCase__init
  xo_6 : XoK K 6
  n_Refused : XnOk K 6 "Refused.__init__" s_Refused__init
  xo_7 : XoK K 7
  n_NoInverse : XnOk K 7 "NoInverse.__init__" s_NoInverse__init
  xo_8 : XoK K 8
  n_NeverHad : XnOk K 8 "NeverHad.__init__" s_NeverHad__init
  xo_9 : XoK K 9
  n_BadText : XnOk K 9 "BadText.__init__" s_BadText__init
  xo_10 : XoK K 10
  n_BadName : XnOk K 10 "BadName.__init__" s_BadName__init
  d_law_begun : DefOk K mg "_law_begun" s_law_begun
  d_law_take : DefOk K mg "_law_take" s_law_take
  d_law_pick : DefOk K mg "_law_pick" s_law_pick
  d_law_word : DefOk K mg "_law_word" s_law_word
  d_law_atom : DefOk K mg "_law_atom" s_law_atom
  d_law_value : DefOk K mg "_law_value" s_law_value
  d_law_flags : DefOk K mg "_law_flags" s_law_flags
  d_law : DefOk K mg "law" s_law
section
variable {P : Program} {w : World} {K : PySem.W.Frag} {mg : Str → Option Value} {base : Heap}
variable (Wd0 : Wd K mg)
include Wd0
theorem xm_BadCase {k : Nat} (hk : 2 ≤ k) : Xm true P w K mg base k 5 := by
  obtain ⟨f, fd, D, M⟩ := Wd0.n_BadCase
  exact (xm_of (g := true) (by decide) Wd0.g_BadCase Wd0.xo_5 M (fx_BadCase__init D Wd0.xo_5 Wd0.XI Wd0.g_CaseError) (D.bindsN (fun _ _ _ _ _ _ us hl => match us, hl with | [_, _], _ => rfl))).up hk
theorem xm_Refused {k : Nat} (hk : 2 ≤ k) : Xm true P w K mg base k 6 := by
  obtain ⟨f, fd, D, M⟩ := Wd0.n_Refused
  exact (xm_of (g := true) (by decide) Wd0.g_Refused Wd0.xo_6 M (fx_Refused__init D Wd0.xo_6 Wd0.XI Wd0.g_CaseError) (D.bindsN (fun _ _ _ _ _ _ us hl => match us, hl with | [_, _], _ => rfl))).up hk
theorem xm_NoInverse {k : Nat} (hk : 2 ≤ k) : Xm true P w K mg base k 7 := by
  obtain ⟨f, fd, D, M⟩ := Wd0.n_NoInverse
  exact (xm_of (g := true) (by decide) Wd0.g_NoInverse Wd0.xo_7 M (fx_NoInverse__init D Wd0.xo_7 Wd0.XI Wd0.g_CaseError) (D.bindsN (fun _ _ _ _ _ _ us hl => match us, hl with | [_, _, _], _ => rfl))).up hk
theorem xm_NeverHad {k : Nat} (hk : 2 ≤ k) : Xm true P w K mg base k 8 := by
  obtain ⟨f, fd, D, M⟩ := Wd0.n_NeverHad
  exact (xm_of (g := true) (by decide) Wd0.g_NeverHad Wd0.xo_8 M (fx_NeverHad__init D Wd0.xo_8 Wd0.XI Wd0.g_CaseError) (D.bindsN (fun _ _ _ _ _ _ us hl => match us, hl with | [_, _], _ => rfl))).up hk
theorem xm_BadText {k : Nat} (hk : 2 ≤ k) : Xm true P w K mg base k 9 := by
  obtain ⟨f, fd, D, M⟩ := Wd0.n_BadText
  exact (xm_of (g := true) (by decide) Wd0.g_BadText Wd0.xo_9 M (fx_BadText__init D Wd0.xo_9 Wd0.XI Wd0.g_CaseError) (D.bindsN (fun _ _ _ _ _ _ us hl => match us, hl with | [_, _], _ => rfl))).up hk
theorem xm_BadName {k : Nat} (hk : 2 ≤ k) : Xm true P w K mg base k 10 := by
  obtain ⟨f, fd, D, M⟩ := Wd0.n_BadName
  exact (xm_of (g := true) (by decide) Wd0.g_BadName Wd0.xo_10 M (fx_BadName__init D Wd0.xo_10 Wd0.XI Wd0.g_CaseError) (D.bindsN (fun _ _ _ _ _ _ us hl => match us, hl with | [_, _], _ => rfl))).up hk
theorem fn_law_begun : Fn false P w K mg base "_law_begun" 2 1 [] sp_begun := by
  obtain ⟨f, fd, D, hm⟩ := Wd0.d_law_begun
  exact fn_def (k := 1) D hm sc_law_begun (fun _ _ _ _ _ _ us hl => match us, hl with | [_], _ => rfl) (fun cdv A outer s H E hr hgd => b_law_begun (k := 0) Wd0.B hr ) (go_begun)
theorem fn_law_take : Fn false P w K mg base "_law_take" 2 2 [] sp_take := by
  obtain ⟨f, fd, D, hm⟩ := Wd0.d_law_take
  exact fn_def (k := 1) D hm sc_law_take (fun _ _ _ _ _ _ us hl => match us, hl with | [_, _], _ => rfl) (fun cdv A outer s H E hr hgd => b_law_take (k := 0) Wd0.B hr ) (go_take)
theorem fn_law_pick : Fn false P w K mg base "_law_pick" 3 2 [] sp_pick := by
  obtain ⟨f, fd, D, hm⟩ := Wd0.d_law_pick
  exact fn_def (k := 2) D hm sc_law_pick (fun _ _ _ _ _ _ us hl => match us, hl with | [_, _], _ => rfl) (fun cdv A outer s H E hr hgd => b_law_pick (k := 1) Wd0.B hr ((fn_law_take Wd0).up (by omega) (fun z => z))) (go_pick)
theorem fn_law_word : Fn false P w K mg base "_law_word" 4 2 [] sp_word := by
  obtain ⟨f, fd, D, hm⟩ := Wd0.d_law_word
  exact fn_def (k := 3) D hm sc_law_word (fun _ _ _ _ _ _ us hl => match us, hl with | [_, _], _ => rfl) (fun cdv A outer s H E hr hgd => b_law_word (k := 2) Wd0.B hr ((fn_law_take Wd0).up (by omega) (fun z => z)) ((fn_law_pick Wd0).up (by omega) (fun z => z))) (go_word)
theorem fn_law_atom : Fn false P w K mg base "_law_atom" 5 1 [] sp_atom := by
  obtain ⟨f, fd, D, hm⟩ := Wd0.d_law_atom
  exact fn_def (k := 4) D hm sc_law_atom (fun _ _ _ _ _ _ us hl => match us, hl with | [_], _ => rfl) (fun cdv A outer s H E hr hgd => b_law_atom (k := 3) Wd0.B hr ((fn_law_take Wd0).up (by omega) (fun z => z)) ((fn_law_word Wd0).up (by omega) (fun z => z))) (go_atom)
theorem fn_law_value : ∀ n : Nat, Fn false P w K mg base "_law_value" (n + 6) 2 [] (sp_value n)
  | 0 => by
    obtain ⟨f, fd, D, hm⟩ := Wd0.d_law_value
    refine fn_no D hm (ps := ["_law_draw", "_law_deep"]) (fun _ _ _ _ _ _ us hl => match us, hl with | [_, _], _ => rfl) fun ds M Q E h => ?_
    first | (obtain ⟨h, _⟩ := h; exact absurd h (Nat.not_lt_zero _)) | (obtain ⟨_, h, _⟩ := h; exact absurd h (Nat.not_lt_zero _)) | (obtain ⟨_, _, h, _⟩ := h; exact absurd h (Nat.not_lt_zero _)) | (obtain ⟨_, _, _, h, _⟩ := h; exact absurd h (Nat.not_lt_zero _)) | (obtain ⟨_, _, _, _, h, _⟩ := h; exact absurd h (Nat.not_lt_zero _)) | (obtain ⟨_, _, _, _, _, h, _⟩ := h; exact absurd h (Nat.not_lt_zero _)) | (obtain ⟨_, _, _, _, _, _, h, _⟩ := h; exact absurd h (Nat.not_lt_zero _)) | (obtain ⟨_, _, _, _, _, _, _, h, _⟩ := h; exact absurd h (Nat.not_lt_zero _)) | (obtain ⟨_, _, _, _, _, _, _, _, h, _⟩ := h; exact absurd h (Nat.not_lt_zero _)) | (obtain ⟨_, _, _, _, _, _, _, _, _, h, _⟩ := h; exact absurd h (Nat.not_lt_zero _)) | (obtain ⟨_, _, _, _, _, _, _, _, _, _, h, _⟩ := h; exact absurd h (Nat.not_lt_zero _)) | (obtain ⟨_, _, _, _, _, _, _, _, _, _, _, h, _⟩ := h; exact absurd h (Nat.not_lt_zero _)) | (obtain ⟨⟨h, _⟩, _⟩ := h; exact absurd h (Nat.not_lt_zero _)) | (obtain ⟨⟨_, h, _⟩, _⟩ := h; exact absurd h (Nat.not_lt_zero _)) | (obtain ⟨⟨_, _, h, _⟩, _⟩ := h; exact absurd h (Nat.not_lt_zero _)) | (obtain ⟨⟨_, _, _, h, _⟩, _⟩ := h; exact absurd h (Nat.not_lt_zero _)) | (obtain ⟨⟨_, h⟩, _⟩ := h; exact absurd h (Nat.not_lt_zero _)) | (obtain ⟨⟨_, _, h⟩, _⟩ := h; exact absurd h (Nat.not_lt_zero _)) | (obtain ⟨⟨_, _, _, h⟩, _⟩ := h; exact absurd h (Nat.not_lt_zero _)) | (obtain ⟨_, ⟨h, _⟩, _⟩ := h; exact absurd h (Nat.not_lt_zero _)) | (obtain ⟨_, ⟨_, h, _⟩, _⟩ := h; exact absurd h (Nat.not_lt_zero _)) | (obtain ⟨_, ⟨_, _, h, _⟩, _⟩ := h; exact absurd h (Nat.not_lt_zero _)) | (obtain ⟨_, ⟨_, _, _, h, _⟩, _⟩ := h; exact absurd h (Nat.not_lt_zero _)) | (obtain ⟨_, ⟨_, h⟩, _⟩ := h; exact absurd h (Nat.not_lt_zero _)) | (obtain ⟨_, ⟨_, _, h⟩, _⟩ := h; exact absurd h (Nat.not_lt_zero _)) | (obtain ⟨_, ⟨_, _, _, h⟩, _⟩ := h; exact absurd h (Nat.not_lt_zero _)) | (obtain ⟨_, _, ⟨h, _⟩, _⟩ := h; exact absurd h (Nat.not_lt_zero _)) | (obtain ⟨_, _, ⟨_, h, _⟩, _⟩ := h; exact absurd h (Nat.not_lt_zero _)) | (obtain ⟨_, _, ⟨_, _, h, _⟩, _⟩ := h; exact absurd h (Nat.not_lt_zero _)) | (obtain ⟨_, _, ⟨_, _, _, h, _⟩, _⟩ := h; exact absurd h (Nat.not_lt_zero _)) | (obtain ⟨_, _, ⟨_, h⟩, _⟩ := h; exact absurd h (Nat.not_lt_zero _)) | (obtain ⟨_, _, ⟨_, _, h⟩, _⟩ := h; exact absurd h (Nat.not_lt_zero _)) | (obtain ⟨_, _, ⟨_, _, _, h⟩, _⟩ := h; exact absurd h (Nat.not_lt_zero _)) | (obtain ⟨_, _, _, ⟨h, _⟩, _⟩ := h; exact absurd h (Nat.not_lt_zero _)) | (obtain ⟨_, _, _, ⟨_, h, _⟩, _⟩ := h; exact absurd h (Nat.not_lt_zero _)) | (obtain ⟨_, _, _, ⟨_, _, h, _⟩, _⟩ := h; exact absurd h (Nat.not_lt_zero _)) | (obtain ⟨_, _, _, ⟨_, _, _, h, _⟩, _⟩ := h; exact absurd h (Nat.not_lt_zero _)) | (obtain ⟨_, _, _, ⟨_, h⟩, _⟩ := h; exact absurd h (Nat.not_lt_zero _)) | (obtain ⟨_, _, _, ⟨_, _, h⟩, _⟩ := h; exact absurd h (Nat.not_lt_zero _)) | (obtain ⟨_, _, _, ⟨_, _, _, h⟩, _⟩ := h; exact absurd h (Nat.not_lt_zero _)) | (obtain ⟨_, _, _, _, ⟨h, _⟩, _⟩ := h; exact absurd h (Nat.not_lt_zero _)) | (obtain ⟨_, _, _, _, ⟨_, h, _⟩, _⟩ := h; exact absurd h (Nat.not_lt_zero _)) | (obtain ⟨_, _, _, _, ⟨_, _, h, _⟩, _⟩ := h; exact absurd h (Nat.not_lt_zero _)) | (obtain ⟨_, _, _, _, ⟨_, _, _, h, _⟩, _⟩ := h; exact absurd h (Nat.not_lt_zero _)) | (obtain ⟨_, _, _, _, ⟨_, h⟩, _⟩ := h; exact absurd h (Nat.not_lt_zero _)) | (obtain ⟨_, _, _, _, ⟨_, _, h⟩, _⟩ := h; exact absurd h (Nat.not_lt_zero _)) | (obtain ⟨_, _, _, _, ⟨_, _, _, h⟩, _⟩ := h; exact absurd h (Nat.not_lt_zero _)) | (obtain ⟨_, _, _, _, _, ⟨h, _⟩, _⟩ := h; exact absurd h (Nat.not_lt_zero _)) | (obtain ⟨_, _, _, _, _, ⟨_, h, _⟩, _⟩ := h; exact absurd h (Nat.not_lt_zero _)) | (obtain ⟨_, _, _, _, _, ⟨_, _, h, _⟩, _⟩ := h; exact absurd h (Nat.not_lt_zero _)) | (obtain ⟨_, _, _, _, _, ⟨_, _, _, h, _⟩, _⟩ := h; exact absurd h (Nat.not_lt_zero _)) | (obtain ⟨_, _, _, _, _, ⟨_, h⟩, _⟩ := h; exact absurd h (Nat.not_lt_zero _)) | (obtain ⟨_, _, _, _, _, ⟨_, _, h⟩, _⟩ := h; exact absurd h (Nat.not_lt_zero _)) | (obtain ⟨_, _, _, _, _, ⟨_, _, _, h⟩, _⟩ := h; exact absurd h (Nat.not_lt_zero _)) | (obtain ⟨_, _, _, _, _, _, ⟨h, _⟩, _⟩ := h; exact absurd h (Nat.not_lt_zero _)) | (obtain ⟨_, _, _, _, _, _, ⟨_, h, _⟩, _⟩ := h; exact absurd h (Nat.not_lt_zero _)) | (obtain ⟨_, _, _, _, _, _, ⟨_, _, h, _⟩, _⟩ := h; exact absurd h (Nat.not_lt_zero _)) | (obtain ⟨_, _, _, _, _, _, ⟨_, _, _, h, _⟩, _⟩ := h; exact absurd h (Nat.not_lt_zero _)) | (obtain ⟨_, _, _, _, _, _, ⟨_, h⟩, _⟩ := h; exact absurd h (Nat.not_lt_zero _)) | (obtain ⟨_, _, _, _, _, _, ⟨_, _, h⟩, _⟩ := h; exact absurd h (Nat.not_lt_zero _)) | (obtain ⟨_, _, _, _, _, _, ⟨_, _, _, h⟩, _⟩ := h; exact absurd h (Nat.not_lt_zero _)) | (obtain ⟨_, _, _, _, _, _, _, ⟨h, _⟩, _⟩ := h; exact absurd h (Nat.not_lt_zero _)) | (obtain ⟨_, _, _, _, _, _, _, ⟨_, h, _⟩, _⟩ := h; exact absurd h (Nat.not_lt_zero _)) | (obtain ⟨_, _, _, _, _, _, _, ⟨_, _, h, _⟩, _⟩ := h; exact absurd h (Nat.not_lt_zero _)) | (obtain ⟨_, _, _, _, _, _, _, ⟨_, _, _, h, _⟩, _⟩ := h; exact absurd h (Nat.not_lt_zero _)) | (obtain ⟨_, _, _, _, _, _, _, ⟨_, h⟩, _⟩ := h; exact absurd h (Nat.not_lt_zero _)) | (obtain ⟨_, _, _, _, _, _, _, ⟨_, _, h⟩, _⟩ := h; exact absurd h (Nat.not_lt_zero _)) | (obtain ⟨_, _, _, _, _, _, _, ⟨_, _, _, h⟩, _⟩ := h; exact absurd h (Nat.not_lt_zero _)) | (obtain ⟨_, _, _, _, _, _, _, _, ⟨h, _⟩, _⟩ := h; exact absurd h (Nat.not_lt_zero _)) | (obtain ⟨_, _, _, _, _, _, _, _, ⟨_, h, _⟩, _⟩ := h; exact absurd h (Nat.not_lt_zero _)) | (obtain ⟨_, _, _, _, _, _, _, _, ⟨_, _, h, _⟩, _⟩ := h; exact absurd h (Nat.not_lt_zero _)) | (obtain ⟨_, _, _, _, _, _, _, _, ⟨_, _, _, h, _⟩, _⟩ := h; exact absurd h (Nat.not_lt_zero _)) | (obtain ⟨_, _, _, _, _, _, _, _, ⟨_, h⟩, _⟩ := h; exact absurd h (Nat.not_lt_zero _)) | (obtain ⟨_, _, _, _, _, _, _, _, ⟨_, _, h⟩, _⟩ := h; exact absurd h (Nat.not_lt_zero _)) | (obtain ⟨_, _, _, _, _, _, _, _, ⟨_, _, _, h⟩, _⟩ := h; exact absurd h (Nat.not_lt_zero _))
  | n + 1 => by
    obtain ⟨f, fd, D, hm⟩ := Wd0.d_law_value
    have ih := fn_law_value n
    exact (fn_def (k := n + 6) D hm sc_law_value (fun _ _ _ _ _ _ us hl => match us, hl with | [_, _], _ => rfl) (fun cdv A outer s H E hr hgd => b_law_value (k := n + 5) Wd0.B hr ((fn_law_take Wd0).up (by omega) (fun z => z)) ((fn_law_atom Wd0).up (by omega) (fun z => z)) (ih.up (by omega) (fun z => z))) (go_value n)).up (by omega) (fun z => z)
theorem fn_law_flags : Fn false P w K mg base "_law_flags" 2 1 [] sp_flags := by
  obtain ⟨f, fd, D, hm⟩ := Wd0.d_law_flags
  exact fn_def (k := 1) D hm sc_law_flags (fun _ _ _ _ _ _ us hl => match us, hl with | [_], _ => rfl) (fun cdv A outer s H E hr hgd => b_law_flags (k := 0) Wd0.B hr Wd0.XS Wd0.g_BadValue Wd0.g_BadPattern Wd0.g_BadTemplate Wd0.g_BadCases Wd0.g_NoSet Wd0.g_BadCase Wd0.g_Refused Wd0.g_NoInverse Wd0.g_NeverHad Wd0.g_BadText Wd0.g_BadName) (go_flags)
theorem fn_lawT (hTA : TabAll K mg base) (hTK : TabK K) (hG : isGlo K "law" = true) {f : Addr} {fd : FuncData} (D : FunD K "law" "law" (defArgs s_law) (defBody s_law) (defScope s_law) [] [] f fd) (hga : f = He.ga K "law") : FnOkG true P w K mg base (L2.CX P w) 80 f fd ["_law_script"] (liftF K sp_law 1) := by
  exact fn_mkGC (g := true) (k := 79) (ps := ["_law_script"]) D sc_law (fun cdv A outer s H E hC hr hgd => b_law (k := 78) Wd0.B hr (hgd rfl) ((fn_law_begun Wd0).up (by omega) (fun z => z)) ((fn_law_word Wd0).up (by omega) (fun z => z)) ((fn_law_value Wd0 3).up (by omega) (fun z => z)) Wd0.X_BadValue Wd0.g_BadValue Wd0.X_BadPattern Wd0.g_BadPattern Wd0.X_BadTemplate Wd0.g_BadTemplate Wd0.X_BadCases Wd0.g_BadCases Wd0.X_NoSet Wd0.g_NoSet (xm_BadCase Wd0 (by omega)) (xm_Refused Wd0 (by omega)) (xm_NoInverse Wd0 (by omega)) (xm_NeverHad Wd0 (by omega)) (xm_BadText Wd0 (by omega)) (xm_BadName Wd0 (by omega)) ((fn_law_flags Wd0).up (by omega) (fun z => z)) Wd0.XS Wd0.g_CaseError Wd0.VE Wd0.q_at Wd0.q_place Wd0.q_one Wd0.q_value Wd0.q_line Wd0.q_name Wd0.q_other Wd0.X_CaseError) fun ds M Q E hl _ _ q => go_law ds M Q E hl q
end
end DL
end T_LawA
section T_LawF
set_option Elab.async false
set_option linter.all false
set_option maxRecDepth 100000
set_option maxHeartbeats 400000
/-! LawF: what the head tells; the law. -/
namespace DL
open PySem PySem.Spec PyProof.Rows L2
section
variable {K : PySem.W.Frag} {h : Heap} {mg : Str → Option Value} (X : K.In h) (G : h.Ns mainGlobals mg) (c : He.SaysD faL fnL K)
include X G c
theorem facts_B : Bn mg where
  len := He.free_ok X G (c.fact 20 (f := .free "len") rfl)
  int := He.free_ok X G (c.fact 21 (f := .free "int") rfl)
  abs := He.free_ok X G (c.fact 22 (f := .free "abs") rfl)
  sum := He.free_ok X G (c.fact 23 (f := .free "sum") rfl)
  all := He.free_ok X G (c.fact 24 (f := .free "all") rfl)
  any := He.free_ok X G (c.fact 25 (f := .free "any") rfl)
  max := He.free_ok X G (c.fact 26 (f := .free "max") rfl)
  min := He.free_ok X G (c.fact 27 (f := .free "min") rfl)
  range := He.free_ok X G (c.fact 28 (f := .free "range") rfl)
  list := He.free_ok X G (c.fact 29 (f := .free "list") rfl)
  tuple := He.free_ok X G (c.fact 30 (f := .free "tuple") rfl)
  str := He.free_ok X G (c.fact 31 (f := .free "str") rfl)
  sorted := He.free_ok X G (c.fact 32 (f := .free "sorted") rfl)
  set := He.free_ok X G (c.fact 33 (f := .free "set") rfl)
  dict := He.free_ok X G (c.fact 34 (f := .free "dict") rfl)
  isinstance := He.free_ok X G (c.fact 35 (f := .free "isinstance") rfl)
  repr := He.free_ok X G (c.fact 36 (f := .free "repr") rfl)
  enumerate := He.free_ok X G (c.fact 37 (f := .free "enumerate") rfl)
  zip := He.free_ok X G (c.fact 38 (f := .free "zip") rfl)
  reversed := He.free_ok X G (c.fact 39 (f := .free "reversed") rfl)
  divmod := He.free_ok X G (c.fact 40 (f := .free "divmod") rfl)
  bool := He.free_ok X G (c.fact 41 (f := .free "bool") rfl)
  ValueError := He.free_ok X G (c.fact 42 (f := .free "ValueError") rfl)
theorem facts_n_BadCase : XnOk K 5 "BadCase.__init__" s_BadCase__init := by
  obtain ⟨fd, F⟩ := c.def_ 0 (d := dd_BadCase__init) rfl
  exact ⟨_, fd, F, He.meth_ok (c.fact 43 (f := .meth "BadCase" "__init__") rfl)⟩
theorem facts_n_Refused : XnOk K 6 "Refused.__init__" s_Refused__init := by
  obtain ⟨fd, F⟩ := c.def_ 1 (d := dd_Refused__init) rfl
  exact ⟨_, fd, F, He.meth_ok (c.fact 44 (f := .meth "Refused" "__init__") rfl)⟩
theorem facts_n_NoInverse : XnOk K 7 "NoInverse.__init__" s_NoInverse__init := by
  obtain ⟨fd, F⟩ := c.def_ 2 (d := dd_NoInverse__init) rfl
  exact ⟨_, fd, F, He.meth_ok (c.fact 45 (f := .meth "NoInverse" "__init__") rfl)⟩
theorem facts_n_NeverHad : XnOk K 8 "NeverHad.__init__" s_NeverHad__init := by
  obtain ⟨fd, F⟩ := c.def_ 3 (d := dd_NeverHad__init) rfl
  exact ⟨_, fd, F, He.meth_ok (c.fact 46 (f := .meth "NeverHad" "__init__") rfl)⟩
theorem facts_n_BadText : XnOk K 9 "BadText.__init__" s_BadText__init := by
  obtain ⟨fd, F⟩ := c.def_ 4 (d := dd_BadText__init) rfl
  exact ⟨_, fd, F, He.meth_ok (c.fact 47 (f := .meth "BadText" "__init__") rfl)⟩
theorem facts_n_BadName : XnOk K 10 "BadName.__init__" s_BadName__init := by
  obtain ⟨fd, F⟩ := c.def_ 5 (d := dd_BadName__init) rfl
  exact ⟨_, fd, F, He.meth_ok (c.fact 48 (f := .meth "BadName" "__init__") rfl)⟩
theorem facts_d_law_begun : DefOk K mg "_law_begun" s_law_begun := by
  obtain ⟨fd, F⟩ := c.def_ 6 (d := dd_law_begun) rfl
  exact ⟨_, fd, F, (He.glo_ok X G (c.fact 0 (f := .glo "_law_begun") rfl))⟩
theorem facts_d_law_take : DefOk K mg "_law_take" s_law_take := by
  obtain ⟨fd, F⟩ := c.def_ 7 (d := dd_law_take) rfl
  exact ⟨_, fd, F, (He.glo_ok X G (c.fact 1 (f := .glo "_law_take") rfl))⟩
theorem facts_d_law_pick : DefOk K mg "_law_pick" s_law_pick := by
  obtain ⟨fd, F⟩ := c.def_ 8 (d := dd_law_pick) rfl
  exact ⟨_, fd, F, (He.glo_ok X G (c.fact 2 (f := .glo "_law_pick") rfl))⟩
theorem facts_d_law_word : DefOk K mg "_law_word" s_law_word := by
  obtain ⟨fd, F⟩ := c.def_ 9 (d := dd_law_word) rfl
  exact ⟨_, fd, F, (He.glo_ok X G (c.fact 3 (f := .glo "_law_word") rfl))⟩
theorem facts_d_law_atom : DefOk K mg "_law_atom" s_law_atom := by
  obtain ⟨fd, F⟩ := c.def_ 10 (d := dd_law_atom) rfl
  exact ⟨_, fd, F, (He.glo_ok X G (c.fact 4 (f := .glo "_law_atom") rfl))⟩
theorem facts_d_law_value : DefOk K mg "_law_value" s_law_value := by
  obtain ⟨fd, F⟩ := c.def_ 11 (d := dd_law_value) rfl
  exact ⟨_, fd, F, (He.glo_ok X G (c.fact 5 (f := .glo "_law_value") rfl))⟩
theorem facts_d_law_flags : DefOk K mg "_law_flags" s_law_flags := by
  obtain ⟨fd, F⟩ := c.def_ 12 (d := dd_law_flags) rfl
  exact ⟨_, fd, F, (He.glo_ok X G (c.fact 6 (f := .glo "_law_flags") rfl))⟩
theorem facts_d_law : DefOk K mg "law" s_law := by
  obtain ⟨fd, F⟩ := c.def_ 13 (d := dd_law) rfl
  exact ⟨_, fd, F, (He.glo_ok X G (c.fact 7 (f := .glo "law") rfl))⟩
theorem facts (hx : exB K = true) : Wd K mg := by
  simp only [exB, Bool.and_eq_true] at hx
  obtain ⟨⟨⟨⟨⟨⟨⟨⟨⟨⟨⟨⟨⟨⟨⟨⟨⟨⟨⟨⟨⟨h0, h1⟩, h2⟩, h3⟩, h4⟩, h5⟩, h6⟩, h7⟩, h8⟩, h9⟩, h10⟩, h11⟩, h12⟩, h13⟩, h14⟩, h15⟩, h16⟩, h17⟩, h18⟩, h19⟩, h20⟩, h21⟩ := hx
  exact {
    B := facts_B X G c
    XS := xsB_ok h1
    g_BadValue := (He.glo_ok X G (c.fact 9 (f := .glo "BadValue") rfl))
    g_BadPattern := (He.glo_ok X G (c.fact 10 (f := .glo "BadPattern") rfl))
    g_BadTemplate := (He.glo_ok X G (c.fact 11 (f := .glo "BadTemplate") rfl))
    g_BadCases := (He.glo_ok X G (c.fact 12 (f := .glo "BadCases") rfl))
    g_NoSet := (He.glo_ok X G (c.fact 13 (f := .glo "NoSet") rfl))
    g_BadCase := (He.glo_ok X G (c.fact 14 (f := .glo "BadCase") rfl))
    g_Refused := (He.glo_ok X G (c.fact 15 (f := .glo "Refused") rfl))
    g_NoInverse := (He.glo_ok X G (c.fact 16 (f := .glo "NoInverse") rfl))
    g_NeverHad := (He.glo_ok X G (c.fact 17 (f := .glo "NeverHad") rfl))
    g_BadText := (He.glo_ok X G (c.fact 18 (f := .glo "BadText") rfl))
    g_BadName := (He.glo_ok X G (c.fact 19 (f := .glo "BadName") rfl))
    X_BadValue := xcB_ok h3
    X_BadPattern := xcB_ok h4
    X_BadTemplate := xcB_ok h5
    X_BadCases := xcB_ok h6
    X_NoSet := xcB_ok h7
    g_CaseError := (He.glo_ok X G (c.fact 8 (f := .glo "CaseError") rfl))
    VE := veB_ok h21
    q_at := (fun c i hm => by
      simp only [xf_at, List.mem_cons, List.not_mem_nil, or_false, Prod.mk.injEq] at hm
      rcases hm with ⟨rfl, rfl⟩
      · exact ⟨by decide, rfl, by decide, xfK_of h15 (xoB_ok h9) (by decide)⟩)
    q_place := (fun c i hm => by
      simp only [xf_place, List.mem_cons, List.not_mem_nil, or_false, Prod.mk.injEq] at hm
      rcases hm with ⟨rfl, rfl⟩
      · exact ⟨by decide, rfl, by decide, xfK_of h16 (xoB_ok h10) (by decide)⟩)
    q_one := (fun c i hm => by
      simp only [xf_one, List.mem_cons, List.not_mem_nil, or_false, Prod.mk.injEq] at hm
      rcases hm with ⟨rfl, rfl⟩
      · exact ⟨by decide, rfl, by decide, xfK_of h17 (xoB_ok h11) (by decide)⟩)
    q_value := (fun c i hm => by
      simp only [xf_value, List.mem_cons, List.not_mem_nil, or_false, Prod.mk.injEq] at hm
      rcases hm with ⟨rfl, rfl⟩
      · exact ⟨by decide, rfl, by decide, xfK_of h18 (xoB_ok h12) (by decide)⟩)
    q_line := (fun c i hm => by
      simp only [xf_line, List.mem_cons, List.not_mem_nil, or_false, Prod.mk.injEq] at hm
      rcases hm with ⟨rfl, rfl⟩
      · exact ⟨by decide, rfl, by decide, xfK_of h19 (xoB_ok h13) (by decide)⟩)
    q_name := (fun c i hm => by
      simp only [xf_name, List.mem_cons, List.not_mem_nil, or_false, Prod.mk.injEq] at hm
      rcases hm with ⟨rfl, rfl⟩
      · exact ⟨by decide, rfl, by decide, xfK_of h20 (xoB_ok h14) (by decide)⟩)
    q_other := (fun c i hm => by
      simp only [xf_other, List.mem_cons, List.not_mem_nil, or_false, Prod.mk.injEq] at hm
      rcases hm with ⟨rfl, rfl⟩
      · exact ⟨by decide, rfl, by decide, xfK_of h17 (xoB_ok h11) (by decide)⟩)
    X_CaseError := xcB_ok h2
    xo_5 := xoB_ok h9
    XI := xiB_ok h8
    n_BadCase := facts_n_BadCase X G c
    xo_6 := xoB_ok h10
    n_Refused := facts_n_Refused X G c
    xo_7 := xoB_ok h11
    n_NoInverse := facts_n_NoInverse X G c
    xo_8 := xoB_ok h12
    n_NeverHad := facts_n_NeverHad X G c
    xo_9 := xoB_ok h13
    n_BadText := facts_n_BadText X G c
    xo_10 := xoB_ok h14
    n_BadName := facts_n_BadName X G c
    d_law_begun := facts_d_law_begun X G c
    d_law_take := facts_d_law_take X G c
    d_law_pick := facts_d_law_pick X G c
    d_law_word := facts_d_law_word X G c
    d_law_atom := facts_d_law_atom X G c
    d_law_value := facts_d_law_value X G c
    d_law_flags := facts_d_law_flags X G c
    d_law := facts_d_law X G c
  }
end
/-- a law's end -/
theorem isGlo_of {K : PySem.W.Frag} {x : Str} (c : (He.Fa.glo x).ok K = true) : isGlo K x = true := by
  unfold isGlo
  rw [show PySem.W.nsIn K mainGlobals x = some (some (.ref (He.ga K x))) from He.eqO_ok c]
def noT (H : Hp) : Hp := fun a => match H a with
  | some (.tbl _) => none
  | o => o
theorem noT_get {H : Hp} {a : Addr} {o : HO} (h : H a = some o) (n : ∀ ps, o ≠ .tbl ps) : noT H a = some o := by
  unfold noT
  rw [h]
  cases o <;> first | rfl | exact absurd rfl (n _)
theorem noT_sub {H : Hp} {a : Addr} {o : HO} (h : noT H a = some o) : H a = some o ∧ ∀ ps, o ≠ .tbl ps := by
  unfold noT at h
  split at h
  · cases h
  · rename_i e
    exact ⟨h, fun ps z => e ps (by rw [h, z])⟩
theorem sqL_noT {K : PySem.W.Frag} {H : Hp} {a : Addr} {xs : List V} (h : SqL K H a xs) : SqL K (noT H) a xs := by
  rcases h with (h | ⟨u, h⟩) | h
  · exact .inl (.inl (noT_get h nofun))
  · exact .inl (.inr ⟨u, noT_get h nofun⟩)
  · exact .inr h
/-- the law's promise, over a heap with the script and the tables alone -/
theorem law_start {K : PySem.W.Frag} {h : Heap} {H : Hp} {a : Addr} {ns : List Int} (c : SaysG faL fnL llL exB h K) (hH : ∀ p ∈ csOf K llL, H p.2 = some (.tbl #[])) (hl : ns.length ≤ 63) (hS : SqL K H a (ns.map V.int)) : liftF K sp_law 1 [.ref a] H (fun v _ => v = .bl true) fun _ _ _ => False := by
  refine ⟨rfl, [.scr ns], [], ⟨noT H, []⟩, ?_, ?_, ns, rfl, rfl, hl, fun M' v H' S' _ _ hr => ?_⟩
  · exact ⟨fun _ _ h => (noT_sub h).1, rfl, List.nodup_nil, fun k a c h => by simp at h, ⟨c.start hH, fun a ps z => (noT_sub z).2 ps rfl⟩⟩
  · simp only [Reps, Rep]
    exact ⟨_, _, rfl, ⟨a, rfl, sqL_noT hS⟩, rfl⟩
  · simpa only [Rep] using hr
end DL
open PySem PySem.W PySem.Calls PyProof.Rows
theorem PySem.Challenge.cw_starcases_k01_errors_made_holds : PySem.Challenge.rw_starcases_k01_errors_made.Holds := by
  w_on; o_law
  refine HandSHeadRun.head_any (r := OpenLaw.row PySem.Challenge.rw_starcases_k01_errors_made) (q := view (OpenLaw.row PySem.Challenge.rw_starcases_k01_errors_made).prog [21]) (H := DL.hk) (ob := DL.ob) (M := 12000) (loose := DL.looseL) (d := HandSHeadRun.topDef (OpenLaw.row PySem.Challenge.rw_starcases_k01_errors_made).prog 21) (kwd := []) DL.ob_eq
    (by kernel_rfl) (fun s => by kernel_rfl) DL.run (by kernel_rfl) (by kernel_rfl) (by kernel_rfl) (by rfl) (by first | assumption | decide +kernel) (by decide +kernel) ⟨rfl, rfl, rfl, rfl, rfl, by decide +kernel⟩ ?hw ?hc
  case hw => w_witness2
  case hc =>
    refine DL.walk_GT (l := PySem.Challenge.rw_starcases_k01_errors_made) (n := 63) (k := 80) (x := "_law_script") (CX := fun w => L2.CX (PySem.Challenge.rw_starcases_k01_errors_made).prog w) rfl (by decide) (by kernel_rfl) ⟨rfl, by decide, by decide⟩ ?F (fun w H s e s' z => by
      obtain ⟨_, _, _, _, _, _, _, _, _, _, _, _, z⟩ := z
      exact z)
    intro w mg fa h Y G hmg0
    obtain ⟨⟨K, KX, c⟩, hS⟩ := Y
    have hmg : mg ("law" : PySem.Str) = some (.ref fa) := by
      have e : (HandSHeadRun.topDef (OpenLaw.row PySem.Challenge.rw_starcases_k01_errors_made).prog 21).name = ("law" : PySem.Str) := by kernel_rfl
      rw [← e]
      exact hmg0
    have W0 := DL.facts KX G c.d c.ex
    obtain ⟨fd, F⟩ := c.d.def_ 13 (d := DL.dd_law) rfl
    have e := hmg.symm.trans (He.glo_ok KX G (c.d.fact 7 (f := .glo "law") rfl))
    cases e
    have b := L2.FunD.bindsA (ps := ["_law_script"]) F fun _ _ _ _ _ _ us hl => match us, hl with | [_], _ => rfl
    exact ⟨K, fd, DL.csOf K DL.llL, DL.liftF K DL.sp_law 1, KX, hS, fun p hp => by
        obtain ⟨x, hx, rfl⟩ := DL.csOf_mem hp
        exact c.empty _ (List.mem_map.mpr ⟨x, hx, rfl⟩), fun p hp => by
        obtain ⟨x, hx, rfl⟩ := DL.csOf_mem hp
        exact c.out _ (List.mem_map.mpr ⟨x, hx, rfl⟩), fun p hp => by
        obtain ⟨x, hx, rfl⟩ := DL.csOf_mem hp
        exact PySem.W.codeHd_of_K KX (c.hd _ (List.mem_map.mpr ⟨x, hx, rfl⟩)), fun s v => b s [v] rfl, fun H a ns hl _ hH hq => DL.law_start c hH hl hq, fun base KB NB TB => DL.fn_lawT W0 (c.tabAll TB) c.tabK (DL.isGlo_of (c.d.fact 7 (f := .glo "law") rfl)) F rfl⟩
end T_LawF
