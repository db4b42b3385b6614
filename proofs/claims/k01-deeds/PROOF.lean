import PyProof.Rows.All
import Wide.All
import OpenK.AllK
import Wide.FinOn
import HandS.HeadHook4
import HandS.Lambda
import HandS.ForMost
import HandS.IsInst
import HandS.Flow
import HandS.Walk
import HandS.WordsExc
import HandS.Exc
import HandS.TryOnly
import HandS.ExcOwn
import HandS.ExcInit
import HandS.ExcField
import HandS.Deep
import HandS.TupAny
import HandS.Zip
import HandS.NoneIn
import HandS.Dict
import HandS.WordsDict
import HandS.Iter
import HandS.SortInts
import HandS.StrMore
import HandS.Replace
import HandS.Codes
import HandS.Strs
import PyProof.StrLawsOcc
import PyProof.StrOps2
import HandS.ExcIs
import HandS.List
import HandS.More
import HandS.Style
import HandS.Comp
import HandS.Star
import KE.KDictLaws
import HandS.DictComp
import HandS.Wide
import HandS.TupMul
import HandS.ReplaceLit
import HandS.ReplaceList
import PyProof.StrLawsTight
import PyProof.StrLawsChain
import KE.SortData
import HandS.TupLe
import PyProof.FString5
import PyProof.DictUpdate
import KE.KStateDown
import Lean
import HandS.Ends
import HandS.Words
import HandS.Defaults
import HandS.Head0
import HandS.Head1
import HandS.Head2
import HandS.HeadHook1
import HandS.HeadHook2
import HandS.EndTab
import HandS.NestedK
import KE.KSuper
import KE.KExcSuper
import KE.IntTextLaws
import HandS.Text
import HandS.RaiseMore
import HandS.ExcSuper
import KE.KDictZip
import KE.SortKeyHeap
import PySem.Challenge.RW_quillrun_k01_deeds_in_force
set_option Elab.async false
set_option linter.all false
/-! QT1: the defs that hold a lambda: Deeds.row and _law_row. -/
namespace Q
open PySem
def lamDefs : List ((Str × Option Str) × Str) := [(("_law_row", none), "_law_row.<locals>.<lambda>"), (("Deeds", some "row"), "Deeds.row.<locals>.<lambda>")]
end Q

set_option Elab.async false
set_option linter.all false
set_option maxRecDepth 100000
/-! The layer Q: meanings (plain Lean functions over plain values and a store) of the text's defs, and why the machine does as they say. -/
namespace Q
open PySem PySem.Spec PyProof.Rows L2 TL

abbrev Fr := PySem.W.Frag
/-- plain values: fl a list that nobody changes any more, kl one of the written part, ref an object of the store, xv an exception in hand (its addresses, its class, its fields' place in the store) -/
inductive U where
  | non | bl (b : Bool) | int (i : Int) | str (s : List Nat) | tup (us : List U) | fl (us : List U) | kl (us : List U) | ref (n : Nat) | xv (a : Nat) (d : Option Nat) (C : Nat) (n : Option Nat)
/-- keys of dicts -/
abbrev DK := Sum Int (List Nat)
inductive O where
  | lst (us : List U)
  | dK (kvs : List (DK × U))
  | dT (kvs : List (List DK × U))
  | dKl (kvs : List (DK × U))
  | ins (C : Nat) (fs : List (Str × U))
  | xd (fs : List (Str × U))
abbrev Sto := List O
abbrev Env' := List (Option U)
inductive R (α : Type) where
  | ok (a : α) (h : Sto)
  | exc (C : Nat) (n : Option Nat) (h : Sto)
  | bad
inductive RS where
  | nx (e : Env') (h : Sto)
  | rt (u : U) (h : Sto)
  | bk (e : Env') (h : Sto)
  | ct (e : Env') (h : Sto)
  | ex (C : Nat) (n : Option Nat) (e : Env') (h : Sto)
  | bad
abbrev EM := Env' → Sto → R U
abbrev TM := Env' → Sto → R Bool
abbrev AM := Env' → Sto → R (List U)
abbrev SM := Env' → Sto → RS
abbrev GM := U → Env' → Sto → RS
abbrev IM := Env' → Sto → R (Option (Nat × List U) × List U)
def R.bind {α β : Type} (r : R α) (f : α → Sto → R β) : R β := match r with
  | .ok a h => f a h
  | .exc C n h => .exc C n h
  | .bad => .bad
structure G where
  al : List Addr
  F : Hp
structure Le (g g' : G) : Prop where
  al : ∃ b, g'.al = g.al ++ b
  F : ∀ a o, g.F a = some o → g'.F a = some o
theorem Le.refl (g : G) : Le g g := ⟨⟨[], by simp⟩, fun _ _ h => h⟩
theorem Le.trans {a b c : G} (x : Le a b) (y : Le b c) : Le a c := by
  obtain ⟨u, e1⟩ := x.al
  obtain ⟨v, e2⟩ := y.al
  exact ⟨⟨u ++ v, by rw [e2, e1, List.append_assoc]⟩, fun q o h => y.F q o (x.F q o h)⟩
theorem Le.get {g g' : G} (l : Le g g') {n : Nat} {a : Addr} (h : g.al[n]? = some a) : g'.al[n]? = some a := by
  obtain ⟨b, e⟩ := l.al
  rw [e, List.getElem?_append_left (List.getElem?_eq_some_iff.mp h).1]
  exact h

/-- the address of an exception's fields -/
def DOf (g : G) : Option Nat → Option Addr → Prop
  | none, d => d = none
  | some k, d => ∃ a, d = some a ∧ g.al[k]? = some a
theorem DOf.mono {g g' : G} (l : Le g g') : ∀ {n : Option Nat} {d : Option Addr}, DOf g n d → DOf g' n d
  | none, _, h => h
  | some _, _, ⟨a, e, h⟩ => ⟨a, e, l.get h⟩
mutual
inductive Rep (K : Fr) (g : G) : V → U → Prop
  | non : Rep K g .non .non
  | bl (b : Bool) : Rep K g (.bl b) (.bl b)
  | int (i : Int) : Rep K g (.int i) (.int i)
  | str (s : List Nat) : Rep K g (.str ⟨s.toArray⟩) (.str s)
  | tup {a : Addr} {vs : List V} {us : List U} (h : SqT K g.F a vs) (r : Reps K g vs us) : Rep K g (.ref a) (.tup us)
  | fl {a : Addr} {vs : List V} {us : List U} (h : g.F a = some (.lst vs)) (r : Reps K g vs us) : Rep K g (.ref a) (.fl us)
  | kl {a : Addr} {vs : List V} {us : List U} (h : SqL K g.F a vs) (r : Reps K g vs us) : Rep K g (.ref a) (.kl us)
  | ref {a : Addr} {n : Nat} (h : g.al[n]? = some a) : Rep K g (.ref a) (.ref n)
  | xv {a C : Nat} {d : Option Nat} {n : Option Nat} (h : DOf g n d) : Rep K g (.ref a) (.xv a d C n)
inductive Reps (K : Fr) (g : G) : List V → List U → Prop
  | nil : Reps K g [] []
  | cons {v : V} {u : U} {vs : List V} {us : List U} (h : Rep K g v u) (r : Reps K g vs us) : Reps K g (v :: vs) (u :: us)
end

theorem rd_mono {F F' : Hp} {a : Addr} {u : HO} (e : ∀ a o, F a = some o → F' a = some o) (h : Rd F a u) : Rd F' a u := by
  rcases h with h | ⟨o, h⟩
  · exact .inl (e a _ h)
  · exact .inr ⟨o, e a _ h⟩
theorem sql_mono {K : Fr} {F F' : Hp} {a : Addr} {xs : List V} (e : ∀ a o, F a = some o → F' a = some o) (h : SqL K F a xs) : SqL K F' a xs := by
  rcases h with h | h
  · exact .inl (rd_mono e h)
  · exact .inr h
theorem sqt_mono {K : Fr} {F F' : Hp} {a : Addr} {xs : List V} (e : ∀ a o, F a = some o → F' a = some o) (h : SqT K F a xs) : SqT K F' a xs := by
  rcases h with h | h
  · exact .inl (rd_mono e h)
  · exact .inr h

mutual
theorem Rep.mono {K : Fr} {g g' : G} (l : Le g g') : ∀ {v : V} {u : U}, Rep K g v u → Rep K g' v u
  | _, _, .non => .non
  | _, _, .bl b => .bl b
  | _, _, .int i => .int i
  | _, _, .str s => .str s
  | _, _, .tup h r => .tup (sqt_mono l.F h) (Reps.mono l r)
  | _, _, .fl h r => .fl (l.F _ _ h) (Reps.mono l r)
  | _, _, .kl h r => .kl (sql_mono l.F h) (Reps.mono l r)
  | _, _, .ref h => .ref (l.get h)
  | _, _, .xv h => .xv (h.mono l)
theorem Reps.mono {K : Fr} {g g' : G} (l : Le g g') : ∀ {vs : List V} {us : List U}, Reps K g vs us → Reps K g' vs us
  | _, _, .nil => .nil
  | _, _, .cons h r => .cons (Rep.mono l h) (Reps.mono l r)
end
section
variable {K : Fr} {g g' : G} {vs ws : List V} {us ts : List U} {v : V} {u : U}
theorem Reps.len : ∀ {vs : List V} {us : List U}, Reps K g vs us → vs.length = us.length
  | _, _, .nil => rfl
  | _, _, .cons _ r => by simp [Reps.len r]
theorem Reps.app : ∀ {vs ws : List V} {us ts : List U}, Reps K g vs us → Reps K g ws ts → Reps K g (vs ++ ws) (us ++ ts)
  | _, _, _, _, .nil, s => s
  | _, _, _, _, .cons h r, s => .cons h (Reps.app r s)
theorem Reps.one (h : Rep K g v u) : Reps K g [v] [u] := .cons h .nil
theorem Reps.get : ∀ {vs : List V} {us : List U} {i : Nat} {u : U}, Reps K g vs us → us[i]? = some u → ∃ v, vs[i]? = some v ∧ Rep K g v u
  | _, _, _, _, .nil, h => by simp at h
  | _, _, 0, _, .cons h r, e => by simp at e; subst e; exact ⟨_, rfl, h⟩
  | _, _, i + 1, _, .cons h r, e => by simpa using Reps.get (i := i) r (by simpa using e)
theorem Reps.getV : ∀ {vs : List V} {us : List U} {i : Nat} {v : V}, Reps K g vs us → vs[i]? = some v → ∃ u, us[i]? = some u ∧ Rep K g v u
  | _, _, _, _, .nil, h => by simp at h
  | _, _, 0, _, .cons h r, e => by simp at e; subst e; exact ⟨_, rfl, h⟩
  | _, _, i + 1, _, .cons h r, e => by simpa using Reps.getV (i := i) r (by simpa using e)
theorem Reps.drop : ∀ {vs : List V} {us : List U} (i : Nat), Reps K g vs us → Reps K g (vs.drop i) (us.drop i)
  | _, _, 0, r => r
  | _, _, _ + 1, .nil => .nil
  | _, _, i + 1, .cons _ r => Reps.drop i r
theorem Reps.take : ∀ {vs : List V} {us : List U} (i : Nat), Reps K g vs us → Reps K g (vs.take i) (us.take i)
  | _, _, 0, _ => .nil
  | _, _, _ + 1, .nil => .nil
  | _, _, i + 1, .cons h r => .cons h (Reps.take i r)
theorem Reps.set : ∀ {vs : List V} {us : List U} (i : Nat) {v : V} {u : U}, Rep K g v u → Reps K g vs us → Reps K g (vs.set i v) (us.set i u)
  | _, _, _, _, _, _, .nil => .nil
  | _, _, 0, _, _, h, .cons _ r => .cons h r
  | _, _, i + 1, _, _, h, .cons h' r => .cons h' (Reps.set i h r)
theorem Reps.dropLast : ∀ {vs : List V} {us : List U}, Reps K g vs us → Reps K g vs.dropLast us.dropLast := fun {vs us} r => by
  rw [List.dropLast_eq_take, List.dropLast_eq_take, r.len]
  exact r.take _
theorem Reps.rev : ∀ {vs : List V} {us : List U}, Reps K g vs us → Reps K g vs.reverse us.reverse
  | _, _, .nil => .nil
  | _, _, .cons h r => by rw [List.reverse_cons, List.reverse_cons]; exact (Reps.rev r).app (.one h)
/-- ints, texts -/
theorem Reps.ints : ∀ {vs : List V} {ns : List Int}, Reps K g vs (ns.map U.int) → vs = ns.map V.int
  | _, [], .nil => rfl
  | _, _ :: _, .cons h r => by cases h; rw [Reps.ints r]; rfl
theorem Reps.ofInts : ∀ (ns : List Int), Reps K g (ns.map V.int) (ns.map U.int)
  | [] => .nil
  | n :: r => .cons (.int n) (Reps.ofInts r)
end

/-- a key -/
def kk : DK → Key
  | .inl i => .inl i
  | .inr s => .inr ⟨s.toArray⟩
inductive RepK (K : Fr) (g : G) : List (Key × V) → List (DK × U) → Prop
  | nil : RepK K g [] []
  | cons {k : DK} {v : V} {u : U} {vs us} (h : Rep K g v u) (r : RepK K g vs us) : RepK K g ((kk k, v) :: vs) ((k, u) :: us)
inductive RepT (K : Fr) (g : G) : List (List Key × V) → List (List DK × U) → Prop
  | nil : RepT K g [] []
  | cons {k : List DK} {v : V} {u : U} {vs us} (h : Rep K g v u) (r : RepT K g vs us) : RepT K g ((k.map kk, v) :: vs) ((k, u) :: us)
inductive RepF (K : Fr) (g : G) : List (Str × V) → List (Str × U) → Prop
  | nil : RepF K g [] []
  | cons {k : Str} {v : V} {u : U} {vs us} (h : Rep K g v u) (r : RepF K g vs us) : RepF K g ((k, v) :: vs) ((k, u) :: us)
theorem RepK.mono {K : Fr} {g g' : G} (l : Le g g') : ∀ {vs us}, RepK K g vs us → RepK K g' vs us
  | _, _, .nil => .nil
  | _, _, .cons h r => .cons (h.mono l) (RepK.mono l r)
theorem RepT.mono {K : Fr} {g g' : G} (l : Le g g') : ∀ {vs us}, RepT K g vs us → RepT K g' vs us
  | _, _, .nil => .nil
  | _, _, .cons h r => .cons (h.mono l) (RepT.mono l r)
theorem RepF.mono {K : Fr} {g g' : G} (l : Le g g') : ∀ {vs us}, RepF K g vs us → RepF K g' vs us
  | _, _, .nil => .nil
  | _, _, .cons h r => .cons (h.mono l) (RepF.mono l r)

def ObR (K : Fr) (g : G) (H : Hp) (a : Addr) : O → Prop
  | .lst us => ∃ vs, H a = some (.lst vs) ∧ Reps K g vs us
  | .dK us => ∃ vs, H a = some (.dK vs) ∧ RepK K g vs us
  | .dT us => ∃ vs, H a = some (.dT vs) ∧ RepT K g vs us
  | .dKl us => ∃ od vs, g.F a = some (.frz od (.dK vs)) ∧ H a = some (.frz od (.dK vs)) ∧ RepK K g vs us
  | .ins C us => ∃ dx vs, H a = some (.ins C dx vs) ∧ RepF K g vs us
  | .xd us => ∃ vs, H a = some (.xd vs) ∧ RepF K g vs us
theorem ObR.mono {K : Fr} {g g' : G} {H H' : Hp} {a : Addr} (l : Le g g') (e : H' a = H a) : ∀ {o : O}, ObR K g H a o → ObR K g' H' a o
  | .lst _, ⟨vs, h, r⟩ => ⟨vs, e.trans h, r.mono l⟩
  | .dK _, ⟨vs, h, r⟩ => ⟨vs, e.trans h, r.mono l⟩
  | .dT _, ⟨vs, h, r⟩ => ⟨vs, e.trans h, r.mono l⟩
  | .dKl _, ⟨od, vs, f, h, r⟩ => ⟨od, vs, l.F _ _ f, e.trans h, r.mono l⟩
  | .ins _ _, ⟨dx, vs, h, r⟩ => ⟨dx, vs, e.trans h, r.mono l⟩
  | .xd _, ⟨vs, h, r⟩ => ⟨vs, e.trans h, r.mono l⟩
theorem ObR.is {K : Fr} {g : G} {H : Hp} {a : Addr} : ∀ {o : O}, ObR K g H a o → ∃ u, H a = some u
  | .lst _, ⟨vs, h, r⟩ => ⟨_, h⟩
  | .dK _, ⟨vs, h, r⟩ => ⟨_, h⟩
  | .dT _, ⟨vs, h, r⟩ => ⟨_, h⟩
  | .dKl _, ⟨od, vs, f, h, r⟩ => ⟨_, h⟩
  | .ins _ _, ⟨dx, vs, h, r⟩ => ⟨_, h⟩
  | .xd _, ⟨vs, h, r⟩ => ⟨_, h⟩
/-- the table at P of a def that holds a lambda of the qualified name q: each code object that it tells lasts -/
def TabQ (g : G) (H : Hp) (P : Addr) (q : Str) : Prop := g.F P = none ∧ P ∉ g.al ∧ ∃ ps : Array Value, H P = some (.tbl ps) ∧ TriplesOk ps.toList ∧ ∀ (pos : Pos) (cv : Value), codeAmong pos ps.toList = some cv → ∃ c, cv = .ref c ∧ g.F c = some (LamX.CodeO c q)
theorem TabQ.step {g g' : G} {H H' : Hp} {P : Addr} {q : Str} (t : TabQ g H P q) (l : ∀ a o, g.F a = some o → g'.F a = some o) (h1 : g'.F P = none) (h2 : P ∉ g'.al) (h3 : H' P = H P) : TabQ g' H' P q := by
  obtain ⟨_, _, ps, e1, e2, e3⟩ := t
  exact ⟨h1, h2, ps, h3.trans e1, e2, fun pos cv z => let ⟨c, a, b⟩ := e3 pos cv z; ⟨c, a, l _ _ b⟩⟩
theorem TabQ.is {g : G} {H : Hp} {P : Addr} {q : Str} (t : TabQ g H P q) : ∃ ps, H P = some (.tbl ps) := let ⟨_, _, ps, e, _⟩ := t; ⟨ps, e⟩
theorem TabQ.ne {g : G} {H : Hp} {P p : Addr} {q : Str} (t : TabQ g H P q) (n : H p = none) : P ≠ p := fun z => by
  obtain ⟨ps, e⟩ := t.is
  rw [z, n] at e; cases e
structure HR (K : Fr) (g : G) (H : Hp) (h : Sto) : Prop where
  ex : ∀ a o, g.F a = some o → H a = some o
  len : g.al.length = h.length
  nd : g.al.Nodup
  fr : ∀ a, a ∈ g.al → ∀ u, g.F a = some u → ∃ od vs, u = .frz od (.dK vs)
  ob : ∀ (n : Nat) a o, g.al[n]? = some a → h[n]? = some o → ObR K g H a o
  tb : ∀ d ∈ lamDefs, TabQ g H (He.cT K d.1).2 d.2
  nt : lamDefs ≠ [] → ∀ a ps, g.F a ≠ some (.tbl ps)
section
variable {K : Fr} {g g' : G} {H H' : Hp} {h h' : Sto} {a p : Addr} {vs : List V} {us : List U} {v : V} {u : U} {n : Nat}
theorem HR.sqT (x : HR K g H h) (q : SqT K g.F a vs) : SqT K H a vs := sqt_mono x.ex q
theorem HR.sqL (x : HR K g H h) (q : SqL K g.F a vs) : SqL K H a vs := sql_mono x.ex q
theorem HR.get (x : HR K g H h) {o : O} (e : h[n]? = some o) : ∃ a, g.al[n]? = some a ∧ ObR K g H a o := by
  have h1 : n < g.al.length := by rw [x.len]; exact (List.getElem?_eq_some_iff.mp e).1
  exact ⟨g.al[n], List.getElem?_eq_getElem h1, x.ob n _ o (List.getElem?_eq_getElem h1) e⟩
theorem HR.is (x : HR K g H h) (m : a ∈ g.al) : ∃ u, H a = some u := by
  obtain ⟨n, hn, e⟩ := List.mem_iff_getElem.mp m
  have h1 : n < h.length := by rw [← x.len]; exact hn
  exact ObR.is (x.ob n a h[n] (by rw [List.getElem?_eq_getElem hn, e]) (List.getElem?_eq_getElem h1))
theorem HR.notF (x : HR K g H h) (q : H p = none) : g.F p = none := by
  cases e : g.F p with
  | none => rfl
  | some o => rw [x.ex p o e] at q; cases q
theorem HR.notA (x : HR K g H h) (q : H p = none) : p ∉ g.al := fun m => by
  obtain ⟨u, e⟩ := x.is m
  rw [e] at q; cases q
theorem HR.neA (x : HR K g H h) (q : H p = none) {n : Nat} (e : g.al[n]? = Option.some a) : a ≠ p := fun z => by
  subst z
  exact x.notA q (List.mem_of_getElem? e)
theorem HR.neM (x : HR K g H h) (q : H p = none) (e : a ∈ g.al) : a ≠ p := fun z => by
  subst z
  exact x.notA q e
/-- something that nobody here knows comes -/
theorem HR.skip (x : HR K g H h) (q : H p = none) (o : HO) : HR K g (upd H p o) h where
  ex := fun a u e => by rw [upd_ne (ne_of_none (x.ex a u e) q)]; exact x.ex a u e
  len := x.len
  nd := x.nd
  fr := x.fr
  ob := fun n a u e1 e2 => (x.ob n a u e1 e2).mono (Le.refl g) (upd_ne (x.neA q e1))
  tb := fun d hd => (x.tb d hd).step (fun _ _ z => z) (x.tb d hd).1 (x.tb d hd).2.1 (upd_ne ((x.tb d hd).ne q))
  nt := x.nt
/-- a new thing that lasts -/
def G.put (g : G) (p : Addr) (o : HO) : G := ⟨g.al, upd g.F p o⟩
theorem Le.put (q : g.F p = none) (o : HO) : Le g (g.put p o) := ⟨⟨[], by simp [G.put]⟩, fun a u e => by
  show upd g.F p o a = some u
  rw [upd_ne (ne_of_none e q)]; exact e⟩
theorem HR.put (x : HR K g H h) (q : H p = none) (o : HO) (no : ∀ ps, o ≠ .tbl ps) : HR K (g.put p o) (upd H p o) h where
  ex := fun a u e => by
    by_cases z : a = p
    · subst z
      have e : upd g.F a o a = Option.some u := e
      rw [upd_same] at e; rw [upd_same]; exact e
    · have e : upd g.F p o a = Option.some u := e
      rw [upd_ne z] at e; rw [upd_ne z]; exact x.ex a u e
  len := x.len
  nd := x.nd
  fr := fun a m u e => by
    have e : upd g.F p o a = Option.some u := e
    rw [upd_ne (x.neM q m)] at e; exact x.fr a m u e
  ob := fun n a u e1 e2 => (x.ob n a u e1 e2).mono (Le.put (x.notF q) o) (upd_ne (x.neA q e1))
  tb := fun d hd => (x.tb d hd).step (Le.put (x.notF q) o).F ((upd_ne ((x.tb d hd).ne q)).trans (x.tb d hd).1) (x.tb d hd).2.1 (upd_ne ((x.tb d hd).ne q))
  nt := fun hz a ps e => by
    have e : upd g.F p o a = Option.some (HO.tbl ps) := e
    by_cases z : a = p
    · subst z
      rw [upd_same] at e
      exact no ps (Option.some.inj e)
    · rw [upd_ne z] at e
      exact x.nt hz a ps e
theorem HR.newTup (x : HR K g H h) (q : H p = none) (r : Reps K g vs us) : Le g (g.put p (.tup vs)) ∧ HR K (g.put p (.tup vs)) (upd H p (.tup vs)) h ∧ Rep K (g.put p (.tup vs)) (.ref p) (.tup us) := by
  have l := Le.put (g := g) (x.notF q) (.tup vs)
  exact ⟨l, x.put q _ (fun ps z => nomatch z), .tup (.inl (.inl (show upd g.F p (.tup vs) p = _ from upd_same))) (r.mono l)⟩
/-- a new object of the store -/
def G.new (g : G) (p : Addr) : G := ⟨g.al ++ [p], g.F⟩
theorem Le.new : Le g (g.new p) := ⟨⟨[p], rfl⟩, fun _ _ e => e⟩
theorem HR.new (x : HR K g H h) (q : H p = none) {o : HO} {b : O} (r : ObR K (g.new p) (upd H p o) p b) : HR K (g.new p) (upd H p o) (h ++ [b]) where
  ex := fun a u e => by rw [upd_ne (ne_of_none (x.ex a u e) q)]; exact x.ex a u e
  len := by simp [G.new, x.len]
  nd := by
    show (g.al ++ [p]).Nodup
    rw [List.nodup_append]
    exact ⟨x.nd, by simp, fun a m b mb => by
      rw [List.mem_singleton] at mb
      subst mb
      exact fun z => x.notA q (z ▸ m)⟩
  fr := fun a m => by
    rcases List.mem_append.mp m with m | m
    · exact x.fr a m
    · rw [List.mem_singleton] at m
      subst m
      intro u e
      rw [show (g.new a).F a = none from x.notF q] at e; cases e
  ob := fun n a u e1 e2 => by
    have e1 : (g.al ++ [p])[n]? = Option.some a := e1
    by_cases hn : n < h.length
    · rw [List.getElem?_append_left (by rw [x.len]; exact hn)] at e1
      rw [List.getElem?_append_left hn] at e2
      exact (x.ob n a u e1 e2).mono Le.new (upd_ne (x.neA q e1))
    · have h2 : n < (h ++ [b]).length := (List.getElem?_eq_some_iff.mp e2).1
      have e3 : n = h.length := by simp at h2; omega
      subst e3
      rw [List.getElem?_append_right (Nat.le_refl _), Nat.sub_self] at e2
      rw [List.getElem?_append_right (by rw [x.len]; exact Nat.le_refl _), x.len, Nat.sub_self] at e1
      simp at e1 e2
      subst e1; subst e2
      exact r
  tb := fun d hd => (x.tb d hd).step (fun _ _ z => z) (x.tb d hd).1 (fun m => by
    rcases List.mem_append.mp (show _ ∈ g.al ++ [p] from m) with m | m
    · exact (x.tb d hd).2.1 m
    · rw [List.mem_singleton] at m
      exact (x.tb d hd).ne q m) (upd_ne ((x.tb d hd).ne q))
  nt := x.nt
theorem HR.newRef (x : HR K g H h) : Rep K (g.new p) (.ref p) (.ref h.length) := .ref (by
  show (g.al ++ [p])[h.length]? = _
  rw [← x.len]; simp)
theorem HR.newLst (x : HR K g H h) (q : H p = none) (r : Reps K g vs us) : HR K (g.new p) (upd H p (.lst vs)) (h ++ [.lst us]) :=
  x.new q ⟨vs, upd_same, r.mono Le.new⟩
/-- an object of the store changes -/
theorem HR.set (x : HR K g H h) (e : g.al[n]? = some a) (nf : ∀ od u, H a ≠ some (.frz od u)) {o : HO} {b : O} (r : ObR K g (upd H a o) a b) : HR K g (upd H a o) (h.set n b) where
  ex := fun c u q => by
    have : c ≠ a := fun z => by
      obtain ⟨od, vs, rfl⟩ := x.fr a (List.mem_of_getElem? e) u (z ▸ q)
      exact nf _ _ (z ▸ x.ex c _ q)
    rw [upd_ne this]; exact x.ex c u q
  len := by simp [x.len]
  nd := x.nd
  fr := x.fr
  ob := fun m c u e1 e2 => by
    by_cases hm : m = n
    · subst hm
      rw [e] at e1; cases e1
      have hl : m < h.length := by rw [← x.len]; exact (List.getElem?_eq_some_iff.mp e).1
      rw [List.getElem?_set_self hl] at e2
      cases e2
      exact r
    · rw [List.getElem?_set_ne (Ne.symm hm)] at e2
      have ne : c ≠ a := fun z => by
        subst z
        exact hm (nd_ix x.nd e1 e)
      exact (x.ob m c u e1 e2).mono (Le.refl g) (upd_ne ne)
  tb := fun d hd => (x.tb d hd).step (fun _ _ z => z) (x.tb d hd).1 (x.tb d hd).2.1 (upd_ne fun z => (x.tb d hd).2.1 (z ▸ List.mem_of_getElem? e))
  nt := x.nt
theorem HR.setLst (x : HR K g H h) (e : g.al[n]? = some a) {ws : List V} (nf : H a = some (.lst ws)) (r : Reps K g vs us) : HR K g (upd H a (.lst vs)) (h.set n (.lst us)) := x.set e (fun _ _ z => by rw [nf] at z; cases z) ⟨vs, upd_same, r⟩
theorem HR.lst (x : HR K g H h) (e : h[n]? = some (.lst us)) (q : g.al[n]? = some a) : ∃ vs, H a = some (.lst vs) ∧ Reps K g vs us := x.ob n a _ q e
end

/-! ### the judgements -/
def ER (K : Fr) (g : G) (σ : L2.St) (env : Env') : Prop := σ.length = env.length ∧ ∀ (i : Nat) u, env[i]? = some (some u) → ∃ v, σ[i]? = some (some v) ∧ Rep K g v u
theorem ER.mono {K : Fr} {g g' : G} {σ : L2.St} {env : Env'} (l : Le g g') (e : ER K g σ env) : ER K g' σ env := ⟨e.1, fun i u q => by
  obtain ⟨v, a, b⟩ := e.2 i u q
  exact ⟨v, a, b.mono l⟩⟩
theorem ER.set {K : Fr} {g : G} {σ : L2.St} {env : Env'} {v : V} {u : U} (e : ER K g σ env) (i : Nat) (r : Rep K g v u) : ER K g (σ.set i (some v)) (env.set i (some u)) := by
  refine ⟨by simp [e.1], fun j w q => ?_⟩
  by_cases hj : i = j
  · subst hj
    by_cases hl : i < env.length
    · rw [List.getElem?_set_self hl] at q
      cases q
      exact ⟨v, by rw [List.getElem?_set_self (by rw [e.1]; exact hl)], r⟩
    · rw [List.getElem?_eq_none (by simpa using hl)] at q
      cases q
  · rw [List.getElem?_set_ne hj] at q
    obtain ⟨v', a, b⟩ := e.2 j w q
    exact ⟨v', by rw [List.getElem?_set_ne hj]; exact a, b⟩

/-- what is wished of an exception at the slots σ -/
def atSl (W : WX) (σ : L2.St) : XK := fun c d H => W c d σ H
def WE (K : Fr) (E : XK) (g : G) (r : R U) (Q : VK) : Prop := match r with
  | .ok u h => ∀ v H g', Le g g' → HR K g' H h → Rep K g' v u → Q v H
  | .exc C n h => ∀ H g' d, Le g g' → HR K g' H h → DOf g' n d → E (.ref C) d H
  | .bad => False
def WT (K : Fr) (E : XK) (g : G) (r : R Bool) (Q : Bool → Hp → Prop) : Prop := match r with
  | .ok b h => ∀ H g', Le g g' → HR K g' H h → Q b H
  | .exc C n h => ∀ H g' d, Le g g' → HR K g' H h → DOf g' n d → E (.ref C) d H
  | .bad => False
def WA (K : Fr) (E : XK) (g : G) (r : R (List U)) (Q : List V → Hp → Prop) : Prop := match r with
  | .ok us h => ∀ vs H g', Le g g' → HR K g' H h → Reps K g' vs us → Q vs H
  | .exc C n h => ∀ H g' d, Le g g' → HR K g' H h → DOf g' n d → E (.ref C) d H
  | .bad => False
def WS (K : Fr) (W : WX) (g : G) (r : RS) (D : Ends) : Prop := match r with
  | .nx e h => ∀ σ H g', Le g g' → HR K g' H h → ER K g' σ e → D.nx σ H
  | .rt u h => ∀ v H g', Le g g' → HR K g' H h → Rep K g' v u → D.rt v H
  | .bk e h => ∀ σ H g', Le g g' → HR K g' H h → ER K g' σ e → D.bk σ H
  | .ct e h => ∀ σ H g', Le g g' → HR K g' H h → ER K g' σ e → D.ct σ H
  | .ex C n e h => ∀ σ H g' d, Le g g' → HR K g' H h → ER K g' σ e → DOf g' n d → W (.ref C) d σ H
  | .bad => False
section
variable {K : Fr} {g g' : G} {X : Cx} {E : XK} {W : WX}
theorem WE.mono {r : R U} {Q : VK} (l : Le g g') (w : WE K E g r Q) : WE K E g' r Q := by
  cases r with
  | ok u h => exact fun v H g2 l2 => w v H g2 (l.trans l2)
  | exc C n h => exact fun H g2 d l2 => w H g2 d (l.trans l2)
  | bad => exact w
theorem WT.mono {r : R Bool} {Q : Bool → Hp → Prop} (l : Le g g') (w : WT K E g r Q) : WT K E g' r Q := by
  cases r with
  | ok u h => exact fun H g2 l2 => w H g2 (l.trans l2)
  | exc C n h => exact fun H g2 d l2 => w H g2 d (l.trans l2)
  | bad => exact w
theorem WA.mono {r : R (List U)} {Q : List V → Hp → Prop} (l : Le g g') (w : WA K E g r Q) : WA K E g' r Q := by
  cases r with
  | ok u h => exact fun v H g2 l2 => w v H g2 (l.trans l2)
  | exc C n h => exact fun H g2 d l2 => w H g2 d (l.trans l2)
  | bad => exact w
theorem WS.mono {r : RS} {D : Ends} (l : Le g g') (w : WS K W g r D) : WS K W g' r D := by
  cases r with
  | nx e h => exact fun σ H g2 l2 => w σ H g2 (l.trans l2)
  | rt u h => exact fun v H g2 l2 => w v H g2 (l.trans l2)
  | bk e h => exact fun σ H g2 l2 => w σ H g2 (l.trans l2)
  | ct e h => exact fun σ H g2 l2 => w σ H g2 (l.trans l2)
  | ex C n e h => exact fun σ H g2 d l2 => w σ H g2 d (l.trans l2)
  | bad => exact w
def tM (K : Fr) (W : WX) (m : EM) : TE := fun σ H Q => ∃ g env h, HR K g H h ∧ ER K g σ env ∧ WE K (atSl W σ) g (m env h) Q
def bM (K : Fr) (W : WX) (m : TM) : TT := fun σ H Q => ∃ g env h, HR K g H h ∧ ER K g σ env ∧ WT K (atSl W σ) g (m env h) Q
def aM (K : Fr) (W : WX) (m : AM) : TA := fun σ H Q => ∃ g env h, HR K g H h ∧ ER K g σ env ∧ WA K (atSl W σ) g (m env h) Q
def sM (K : Fr) (W : WX) (m : SM) : TS := fun D σ H => ∃ g env h, HR K g H h ∧ ER K g σ env ∧ WS K W g (m env h) D
theorem PE.weak {e : Expr} {t t' : TE} (p : PE X e t) (h : ∀ σ H Q, t' σ H Q → t σ H Q) : PE X e t' := ⟨fun pins s σ H Q I q => p.run pins s σ H Q I (h σ H Q q)⟩
theorem PT.weak {e : Expr} {t t' : TT} (p : PT X e t) (h : ∀ σ H Q, t' σ H Q → t σ H Q) : PT X e t' := ⟨fun pins s σ H Q I q => p.run pins s σ H Q I (h σ H Q q)⟩
theorem PW.weak {e : Expr} {t t' : TT} (p : PW X e t) (h : ∀ σ H Q, t' σ H Q → t σ H Q) : PW X e t' := ⟨fun wh pins s σ H Q I q => p.run wh pins s σ H Q I (h σ H Q q)⟩
theorem PA.weak {e : List Expr} {t t' : TA} (p : PA X e t) (h : ∀ σ H Q, t' σ H Q → t σ H Q) : PA X e t' := ⟨fun pos pins s σ H Q I q => p.run pos pins s σ H Q I (h σ H Q q)⟩
theorem PS.weak {e : Stmt} {t t' : TS} (p : PS X e t) (h : ∀ D σ H, t' D σ H → t D σ H) : PS X e t' := ⟨fun pins s σ H D I q => p.run pins s σ H D I (h D σ H q)⟩
theorem PSs.weak {e : List Stmt} {t t' : TS} (p : PSs X e t) (h : ∀ D σ H, t' D σ H → t D σ H) : PSs X e t' := ⟨fun pins s σ H D I q => p.run pins s σ H D I (h D σ H q)⟩
theorem PG.weak {e : Expr} {t t' : TG} (p : PG X e t) (h : ∀ v σ H Q, t' v σ H Q → t v σ H Q) : PG X e t' := ⟨fun pins s σ H v u Q I r q => p.run pins s σ H v u Q I r (h v σ H Q q)⟩
end
end Q

set_option Elab.async false
set_option linter.all false
set_option maxRecDepth 100000
set_option maxHeartbeats 1000000
namespace Q
open PySem PySem.Spec PyProof.Rows L2 TL
section
variable {K : Fr} {g g' : G} {E : XK} {W : WX} {X : Cx} {H : Hp} {h : Sto} {v w : V} {x y : U}
/-! ### what a value is -/
/-- the items of a list that stands by itself -/
def mL (h : Sto) : U → Option (List U)
  | .fl us => some us
  | .ref n => match h[n]? with
    | some (.lst us) => some us
    | _ => none
  | _ => none
/-- of any list -/
def aL (h : Sto) : U → Option (List U)
  | .kl us => some us
  | x => mL h x
/-- of a list or a tuple -/
def sL (h : Sto) : U → Option (List U)
  | .tup us => some us
  | x => aL h x
theorem mL_of {us : List U} (hr : HR K g H h) (r : Rep K g v x) (e : mL h x = some us) : ∃ a vs, v = .ref a ∧ H a = some (.lst vs) ∧ Reps K g vs us := by
  cases r with
  | fl q s => cases e; exact ⟨_, _, rfl, hr.ex _ _ q, s⟩
  | ref q =>
    rename_i a n
    cases e2 : h[n]? with
    | none => simp [mL, e2] at e
    | some o =>
      cases o with
      | lst ts =>
        simp [mL, e2] at e
        subst e
        obtain ⟨vs, h1, h2⟩ := hr.ob n a _ q e2
        exact ⟨_, _, rfl, h1, h2⟩
      | _ => simp [mL, e2] at e
  | _ => simp [mL] at e
theorem aL_of {us : List U} (hr : HR K g H h) (r : Rep K g v x) (e : aL h x = some us) : ∃ a vs, v = .ref a ∧ SqL K H a vs ∧ Reps K g vs us := by
  cases r with
  | kl q s => cases e; exact ⟨_, _, rfl, hr.sqL q, s⟩
  | fl q s => cases e; exact ⟨_, _, rfl, .inl (.inl (hr.ex _ _ q)), s⟩
  | ref q =>
    obtain ⟨a, vs, h1, h2, h3⟩ := mL_of hr (.ref q) (show mL h (.ref _) = _ from e)
    exact ⟨a, vs, h1, .inl (.inl h2), h3⟩
  | _ => simp [aL, mL] at e
theorem sL_of {us : List U} (hr : HR K g H h) (r : Rep K g v x) (e : sL h x = some us) : ∃ a vs, v = .ref a ∧ (SqL K H a vs ∨ SqT K H a vs) ∧ Reps K g vs us := by
  cases r with
  | tup q s => cases e; exact ⟨_, _, rfl, .inr (hr.sqT q), s⟩
  | kl q s => cases e; exact ⟨_, _, rfl, .inl (hr.sqL q), s⟩
  | fl q s => cases e; exact ⟨_, _, rfl, .inl (.inl (.inl (hr.ex _ _ q))), s⟩
  | ref q =>
    obtain ⟨a, vs, h1, h2, h3⟩ := mL_of hr (.ref q) (show mL h (.ref _) = _ from e)
    exact ⟨a, vs, h1, .inl (.inl (.inl h2)), h3⟩
  | _ => simp [sL, aL, mL] at e
theorem tup_of {us : List U} (hr : HR K g H h) (r : Rep K g v (.tup us)) : ∃ a vs, v = .ref a ∧ SqT K H a vs ∧ Reps K g vs us := by
  cases r with
  | tup q s => exact ⟨_, _, rfl, hr.sqT q, s⟩

/-- data of any depth -/
def allO {α : Type} (f : U → Option α) : List U → Option (List α)
  | [] => some []
  | u :: us => match f u, allO f us with
    | some d, some ds => some (d :: ds)
    | _, _ => none
def pyd : Nat → Sto → U → Option PyData
  | 0, _, _ => none
  | n + 1, h, x => match x with
    | .non => some .none
    | .bl b => some (.bool b)
    | .int i => some (.int i)
    | .str s => some (.str ⟨s.toArray⟩)
    | .tup us => (allO (pyd n h) us).map .tuple
    | x => match aL h x with
      | some us => (allO (pyd n h) us).map .list
      | none => none
theorem dpAll_of {f : U → Option PyData} (ih : ∀ (v : V) (x : U) (d : PyData), Rep K g v x → f x = some d → Dp K H v d) : ∀ {vs : List V} {us : List U} {ds : List PyData}, Reps K g vs us → allO f us = some ds → DpAll K H vs ds
  | _, _, _, .nil, e => by cases e; exact .nil
  | _, _, ds, .cons r rs, e => by
    unfold allO at e
    split at e
    · rename_i d ds' e1 e2
      cases e
      exact .cons (ih _ _ _ r e1) (dpAll_of ih rs e2)
    · cases e
theorem dp_of (hr : HR K g H h) : ∀ (n : Nat) (v : V) (x : U) (d : PyData), Rep K g v x → pyd n h x = some d → Dp K H v d
  | 0, _, _, _, _, e => by cases e
  | n + 1, v, x, d, r, e => by
    have ls : ∀ {us : List U}, aL h x = some us → (allO (pyd n h) us).map PyData.list = some d → Dp K H v d := by
      intro us e1 e2
      obtain ⟨a, vs, rfl, q, rs⟩ := aL_of hr r e1
      cases e3 : allO (pyd n h) us with
      | none => rw [e3] at e2; cases e2
      | some ds =>
        rw [e3] at e2
        cases e2
        exact .lst q (dpAll_of (dp_of hr n) rs e3)
    cases r with
    | non => cases e; exact .non
    | bl b => cases e; exact .bl b
    | int i => cases e; exact .int i
    | str s => cases e; exact .str _
    | @tup a vs us q rs =>
      have e : (allO (pyd n h) us).map PyData.tuple = some d := e
      cases e3 : allO (pyd n h) us with
      | none => rw [e3] at e; cases e
      | some ds =>
        rw [e3] at e
        cases e
        exact .tup (hr.sqT q) (dpAll_of (dp_of hr n) rs e3)
    | @fl a vs us q rs => exact ls (us := us) rfl e
    | @kl a vs us q rs => exact ls (us := us) rfl e
    | @ref a m q =>
      have e : (match aL h (.ref m) with
        | some us => (allO (pyd n h) us).map PyData.list
        | none => none) = some d := e
      split at e
      · rename_i us e1
        exact ls e1 e
      · cases e
    | xv q => cases e
/-- equality of data -/
def eqP (h : Sto) (x y : U) : Option Bool := match pyd 60 h x, pyd 60 h y with
  | some d, some e => if SeqAt.shaped d = true ∧ SeqAt.shaped e = true then some (PyData.eqv d e) else none
  | _, _ => none
theorem eqP_of {b : Bool} (hr : HR K g H h) (rx : Rep K g v x) (ry : Rep K g w y) (e : eqP h x y = some b) : ∃ d e, Dp K H v d ∧ Dp K H w e ∧ SeqAt.shaped d = true ∧ SeqAt.shaped e = true ∧ PyData.eqv d e = b := by
  unfold eqP at e
  split at e
  · rename_i d1 d2 e1 e2
    split at e
    · rename_i z
      cases e
      exact ⟨d1, d2, dp_of hr _ _ _ _ rx e1, dp_of hr _ _ _ _ ry e2, z.1, z.2, rfl⟩
    · cases e
  · cases e
/-! ### operators by values -/
def BinOK (K : Fr) (r : R2) (f : U → U → Sto → R U) : Prop := ∀ E g H h v w x y Q, HR K g H h → Rep K g v x → Rep K g w y → WE K E g (f x y h) Q → r v w H Q
def mVar (i : Nat) : EM := fun env h => match env[i]? with
  | some (some u) => .ok u h
  | _ => .bad
def mC (u : U) : EM := fun _ h => .ok u h
def mBin (f : U → U → Sto → R U) (a b : EM) : EM := fun env h => (a env h).bind fun x h1 => (b env h1).bind fun y h2 => f x y h2
theorem se_var {i : Nat} {x : Str} {pos : Pos} (hN : X.N[i]? = some x := by rfl) (hv : Vis X.env.scope x := by first | exact Or.inl rfl | exact Or.inr (Or.inl rfl) | exact Or.inr (Or.inr rfl))
    (hd : (x == ("__debug__" : Str)) = false := by decide) (hcd : (x == ("__classdict__" : Str)) = false := by decide) : PE X (.Name x pos) (tM K W (mVar i)) := by
  refine PE.weak (pe_var hN hv hd hcd) fun σ H Q q => ?_
  obtain ⟨g, env, h, hr, er, w⟩ := q
  unfold mVar at w
  split at w
  · rename_i u e
    obtain ⟨v, a, b⟩ := er.2 i u e
    exact ⟨v, a, w v H g (Le.refl g) hr b⟩
  · exact w.elim
theorem se_int {i j pos} : PE X (.Constant (.int i) j pos) (tM K W (mC (.int i))) := PE.weak pe_int fun σ H Q ⟨g, env, h, hr, er, w⟩ => w _ H g (Le.refl g) hr (.int i)
theorem se_bl {i j pos} : PE X (.Constant (.bool i) j pos) (tM K W (mC (.bl i))) := PE.weak pe_bl fun σ H Q ⟨g, env, h, hr, er, w⟩ => w _ H g (Le.refl g) hr (.bl i)
theorem se_non {j pos} : PE X (.Constant .none j pos) (tM K W (mC .non)) := PE.weak pe_non fun σ H Q ⟨g, env, h, hr, er, w⟩ => w _ H g (Le.refl g) hr .non
theorem se_str {x : Str} {s : List Nat} {j pos} (e : x.cps.toList = s := by rfl) : PE X (.Constant (.str x) j pos) (tM K W (mC (.str s))) := by
  subst e
  exact PE.weak pe_str fun σ H Q ⟨g, env, h, hr, er, w⟩ => w _ H g (Le.refl g) hr (.str _)
theorem bin_to {a b : EM} {f : U → U → Sto → R U} {r : R2} (ok : BinOK K r f) {σ : L2.St} {Q : VK} (t : tM K W (mBin f a b) σ H Q) : tOp r (tM K W a) (tM K W b) σ H Q := by
  obtain ⟨g, env, h, hr, er, w⟩ := t
  refine ⟨g, env, h, hr, er, ?_⟩
  unfold mBin at w
  cases ea : a env h with
  | bad => rw [ea] at w; exact w.elim
  | exc C n h => rw [ea] at w; exact w
  | ok x h1 =>
    rw [ea] at w
    have w : WE K (atSl W σ) g ((b env h1).bind fun y h2 => f x y h2) Q := w
    intro v H1 g1 l1 hr1 rv
    refine ⟨g1, env, h1, hr1, er.mono l1, ?_⟩
    cases eb : b env h1 with
    | bad => rw [eb] at w; exact w.elim
    | exc C n h => rw [eb] at w; exact fun H2 g2 d l2 => w H2 g2 d (l1.trans l2)
    | ok y h2 =>
      rw [eb] at w
      intro u H2 g2 l2 hr2 ru
      exact ok _ g2 H2 h2 v u x y Q hr2 (rv.mono l2) ru (WE.mono (l1.trans l2) w)
theorem se_bin {op : Operator} {r : R2} {f : U → U → Sto → R U} {a b : Expr} {ma mb : EM} {pos : Pos} (ho : OpR X (binaryOp op) r) (ok : BinOK K r f) (ha : PE X a (tM K W ma)) (hb : PE X b (tM K W mb)) :
    PE X (.BinOp a op b pos) (tM K W (mBin f ma mb)) := PE.weak (pe_op ho ha hb) fun σ H Q t => bin_to ok t

theorem str_app (s t : List Nat) : ((⟨s.toArray⟩ : Str) ++ (⟨t.toArray⟩ : Str)) = ⟨(s ++ t).toArray⟩ := by
  apply ext_tl
  rw [tl_append, tl_mk, tl_mk, tl_mk]
theorem str_len (s : List Nat) : (⟨s.toArray⟩ : Str).length = s.length := by rw [len_tl, tl_mk]
def uAdd (x y : U) (h : Sto) : R U := match x, y with
  | .int i, .int j => .ok (.int (i + j)) h
  | .str s, .str t => if s.length + t.length ≤ 16000000 then .ok (.str (s ++ t)) h else .bad
  | .tup s, .tup t => if s.length + t.length ≤ 16000000 then .ok (.tup (s ++ t)) h else .bad
  | x, y => match mL h x, mL h y with
    | some us, some ts => if us.length + ts.length ≤ 16000000 then .ok (.ref h.length) (h ++ [.lst (us ++ ts)]) else .bad
    | _, _ => .bad
abbrev rAddA (K : Fr) : R2 := fun x y H Q => (∃ i j, x = V.int i ∧ y = V.int j ∧ Q (.int (i + j)) H) ∨ (∃ i j, x = V.str i ∧ y = V.str j ∧ i.length + j.length ≤ sizeLine ∧ Q (.str (i ++ j)) H) ∨ rCatA K x y H Q ∨ rCat x y H Q
theorem opr_add : OpR X (binaryOp .Add) (rAddA X.K) := op_add.or (op_add_str.or (op_catA.or op_cat))
theorem sz16 {n : Nat} (h : n ≤ 16000000) : n ≤ sizeLine := Nat.le_trans h (by decide)
theorem ok_add : BinOK K (rAddA K) uAdd := by
  intro E g H h v w x y Q hr rx ry t
  unfold uAdd at t
  split at t
  · cases rx; cases ry
    exact .inl ⟨_, _, rfl, rfl, t _ _ g (Le.refl g) hr (.int _)⟩
  · cases rx; cases ry
    split at t
    · rename_i z
      refine .inr (.inl ⟨_, _, rfl, rfl, by rw [str_len, str_len]; exact sz16 z, ?_⟩)
      rw [str_app]
      exact t _ _ g (Le.refl g) hr (.str _)
    · exact t.elim
  · rename_i us ts
    split at t
    · rename_i z
      obtain ⟨a, vs, rfl, h1, r1⟩ := tup_of hr rx
      obtain ⟨b, ws, rfl, h2, r2⟩ := tup_of hr ry
      refine .inr (.inr (.inl ⟨a, b, vs, ws, rfl, rfl, h1, h2, by rw [r1.len, r2.len]; exact sz16 z, fun e => ?_, fun _ e => ?_, fun _ _ p hp => ?_⟩))
      · subst e
        cases r1
        exact t _ _ g (Le.refl g) hr ry
      · subst e
        cases r2
        rw [List.append_nil] at t
        exact t _ _ g (Le.refl g) hr rx
      · obtain ⟨l, a1, a2⟩ := hr.newTup hp (r1.app r2)
        exact t _ _ _ l a1 a2
    · exact t.elim
  · split at t
    · rename_i us ts e1 e2
      split at t
      · rename_i z
        obtain ⟨a, vs, rfl, h1, r1⟩ := mL_of hr rx e1
        obtain ⟨b, ws, rfl, h2, r2⟩ := mL_of hr ry e2
        refine .inr (.inr (.inr ⟨a, b, vs, ws, rfl, rfl, h1, h2, by rw [r1.len, r2.len]; exact sz16 z, fun p hp => ?_⟩))
        exact t _ _ (g.new p) Le.new (hr.newLst hp (r1.app r2)) hr.newRef
      · exact t.elim
    · exact t.elim
theorem se_add {a b : Expr} {ma mb : EM} {pos : Pos} (ha : PE X a (tM X.K W ma)) (hb : PE X b (tM X.K W mb)) : PE X (.BinOp a .Add b pos) (tM X.K W (mBin uAdd ma mb)) := se_bin opr_add ok_add ha hb
/-- ints under a condition -/
def uI (c : Int → Int → Prop) [∀ i j, Decidable (c i j)] (f : Int → Int → Int) (x y : U) (h : Sto) : R U := match x, y with
  | .int i, .int j => if c i j then .ok (.int (f i j)) h else .bad
  | _, _ => .bad
theorem ok_I {C : Int → Int → Prop} {c : Int → Int → Prop} [∀ i j, Decidable (c i j)] {f : Int → Int → Int} (hc : ∀ i j, c i j → C i j) : BinOK K (rI C fun i j => .int (f i j)) (uI c f) := by
  intro E g H h v w x y Q hr rx ry t
  unfold uI at t
  split at t
  · cases rx; cases ry
    split at t
    · rename_i z
      exact ⟨_, _, rfl, rfl, hc _ _ z, t _ _ g (Le.refl g) hr (.int _)⟩
    · exact t.elim
  · exact t.elim
def cT (_ _ : Int) : Prop := True
instance : ∀ i j, Decidable (cT i j) := fun _ _ => isTrue trivial
def cMul (i j : Int) : Prop := (-18446744073709551616 < i ∧ i < 18446744073709551616) ∨ (-18446744073709551616 < j ∧ j < 18446744073709551616)
instance : ∀ i j, Decidable (cMul i j) := fun i j => by unfold cMul; exact inferInstance
def cDiv (_ j : Int) : Prop := 0 < j ∧ j < 1073741824
instance : ∀ i j, Decidable (cDiv i j) := fun i j => by unfold cDiv; exact inferInstance
def cMod (_ j : Int) : Prop := 0 < j
instance : ∀ i j, Decidable (cMod i j) := fun i j => by unfold cMod; exact inferInstance
def cPow (i j : Int) : Prop := 0 ≤ j ∧ j ≤ 1000 ∧ 0 ≤ i ∧ i < 1000
instance : ∀ i j, Decidable (cPow i j) := fun i j => by unfold cPow; exact inferInstance
abbrev uSub := uI cT (fun i j => i - j)
abbrev uMul := uI cMul (fun i j => i * j)
abbrev uDiv := uI cDiv (fun i j => i / j)
abbrev uMod := uI cMod (fun i j => i % j)
abbrev uPow := uI cPow (fun i j => i ^ j.toNat)
theorem se_sub {a b : Expr} {ma mb : EM} {pos : Pos} (ha : PE X a (tM K W ma)) (hb : PE X b (tM K W mb)) : PE X (.BinOp a .Sub b pos) (tM K W (mBin uSub ma mb)) :=
  PE.weak (pe_op op_sub ha hb) fun σ H Q t => bin_to (r := rI0 fun i j => .int (i - j)) (fun E g H h v w x y Q hr rx ry t => by
    obtain ⟨i, j, e1, e2, _, q⟩ := ok_I (C := fun _ _ => True) (c := cT) (fun _ _ _ => trivial) E g H h v w x y Q hr rx ry t
    exact ⟨i, j, e1, e2, q⟩) t
theorem se_mul {a b : Expr} {ma mb : EM} {pos : Pos} (ha : PE X a (tM K W ma)) (hb : PE X b (tM K W mb)) : PE X (.BinOp a .Mult b pos) (tM K W (mBin uMul ma mb)) :=
  se_bin op_mul (ok_I fun i j c => by unfold cMul at c; unfold CMul; omega) ha hb
theorem se_div {a b : Expr} {ma mb : EM} {pos : Pos} (ha : PE X a (tM K W ma)) (hb : PE X b (tM K W mb)) : PE X (.BinOp a .FloorDiv b pos) (tM K W (mBin uDiv ma mb)) := se_bin op_fdiv (ok_I fun _ _ c => c) ha hb
theorem se_mod {a b : Expr} {ma mb : EM} {pos : Pos} (ha : PE X a (tM K W ma)) (hb : PE X b (tM K W mb)) : PE X (.BinOp a .Mod b pos) (tM K W (mBin uMod ma mb)) := se_bin op_mod (ok_I fun _ _ c => c) ha hb
theorem se_pow {a b : Expr} {ma mb : EM} {pos : Pos} (ha : PE X a (tM K W ma)) (hb : PE X b (tM K W mb)) : PE X (.BinOp a .Pow b pos) (tM K W (mBin uPow ma mb)) :=
  se_bin op_pow (ok_I fun i j c => by unfold cPow at c; unfold CPow; omega) ha hb
/-- -a -/
def mNeg (a : EM) : EM := fun env h => (a env h).bind fun x h1 => match x with
  | .int i => .ok (.int (-i)) h1
  | _ => .bad
theorem se_neg {a : Expr} {ma : EM} {pos : Pos} (ha : PE X a (tM K W ma)) : PE X (.UnaryOp .USub a pos) (tM K W (mNeg ma)) := by
  refine PE.weak (pe_un un_neg ha) fun σ H Q ⟨g, env, h, hr, er, w⟩ => ⟨g, env, h, hr, er, ?_⟩
  unfold mNeg at w
  cases ea : ma env h with
  | bad => rw [ea] at w; exact w.elim
  | exc C n h => rw [ea] at w; exact w
  | ok x h1 =>
    rw [ea] at w
    intro v H1 g1 l1 hr1 rv
    cases rv with
    | int i => exact ⟨i, rfl, w _ H1 g1 l1 hr1 (.int _)⟩
    | _ => exact w.elim
/-! ### comparisons -/
def CmpOK (K : Fr) (r : R2) (f : Sto → U → U → Option Bool) : Prop := ∀ g H h v w x y (b : Bool) Q, HR K g H h → Rep K g v x → Rep K g w y → f h x y = some b → Q (.bl b) H → r v w H Q
def oB (o : Option Bool) (h : Sto) : R Bool := match o with
  | some b => .ok b h
  | none => .bad
def bCmp (f : Sto → U → U → Option Bool) (a b : EM) : TM := fun env h => (a env h).bind fun x h1 => (b env h1).bind fun y h2 => oB (f h2 x y) h2
/-- a test as a value -/
def mB (t : TM) : EM := fun env h => (t env h).bind fun b h1 => .ok (.bl b) h1
theorem cmp_to {a b : EM} {f : Sto → U → U → Option Bool} {r : R2} (ok : CmpOK K r f) {σ : L2.St} {Q : VK} {P : Bool → Hp → Prop} (t : bM K W (bCmp f a b) σ H P) (hq : ∀ b H, P b H → Q (.bl b) H) : tOp r (tM K W a) (tM K W b) σ H Q := by
  obtain ⟨g, env, h, hr, er, w⟩ := t
  refine ⟨g, env, h, hr, er, ?_⟩
  unfold bCmp at w
  cases ea : a env h with
  | bad => rw [ea] at w; exact w.elim
  | exc C n h => rw [ea] at w; exact w
  | ok x h1 =>
    rw [ea] at w
    have w : WT K (atSl W σ) g ((b env h1).bind fun y h2 => oB (f h2 x y) h2) P := w
    intro v H1 g1 l1 hr1 rv
    refine ⟨g1, env, h1, hr1, er.mono l1, ?_⟩
    cases eb : b env h1 with
    | bad => rw [eb] at w; exact w.elim
    | exc C n h => rw [eb] at w; exact fun H2 g2 d l2 => w H2 g2 d (l1.trans l2)
    | ok y h2 =>
      rw [eb] at w
      intro u H2 g2 l2 hr2 ru
      have w : WT K (atSl W σ) g (oB (f h2 x y) h2) P := w
      cases ef : f h2 x y with
      | none => rw [ef] at w; exact w.elim
      | some c =>
        rw [ef] at w
        exact ok g2 H2 h2 v u x y c Q hr2 (rv.mono l2) ru ef (hq _ _ (w H2 g2 (l1.trans l2) hr2))
theorem bt_cmp {op : CmpOp} {r : R2} {f : Sto → U → U → Option Bool} {a b : Expr} {ma mb : EM} {pos : Pos} (ho : OpR X (compareOp op) r) (ok : CmpOK K r f) (ha : PE X a (tM K W ma)) (hb : PE X b (tM K W mb)) (hm : behindInMarks op b = false) :
    PT X (.Compare a [op] [b] pos) (bM K W (bCmp f ma mb)) := PT.weak (pt_cmpR ho ha hb hm) fun σ H Q t => cmp_to ok t fun b H q => ⟨b, rfl, q⟩
/-- a test as a value, by a rule of values -/
theorem mB_to {t : TM} {σ : L2.St} {Q : VK} (q : tM K W (mB t) σ H Q) : bM K W t σ H fun b H => Q (.bl b) H := by
  obtain ⟨g, env, h, hr, er, w⟩ := q
  refine ⟨g, env, h, hr, er, ?_⟩
  unfold mB at w
  cases et : t env h with
  | bad => rw [et] at w; exact w.elim
  | exc C n h => rw [et] at w; exact w
  | ok b h1 => rw [et] at w; exact fun H g' l hr' => w _ H g' l hr' (.bl b)
theorem se_cmp {op : CmpOp} {r : R2} {f : Sto → U → U → Option Bool} {a b : Expr} {ma mb : EM} {pos : Pos} (ho : OpR X (compareOp op) r) (ok : CmpOK K r f) (ha : PE X a (tM K W ma)) (hb : PE X b (tM K W mb)) (hm : behindInMarks op b = false) :
    PE X (.Compare a [op] [b] pos) (tM K W (mB (bCmp f ma mb))) := PE.weak (pe_cmpR ho ha hb hm) fun σ H Q t => cmp_to ok (mB_to t) fun b H q => q
def cEq0 (_ : Sto) (x y : U) : Option Bool := match x, y with
  | .int i, .int j => some (decide (i = j))
  | .str i, .str j => some (decide (i = j))
  | .bl i, .bl j => some (decide (i = j))
  | .non, .non => some true
  | .int _, .str _ => some false
  | .str _, .int _ => some false
  | .non, .int _ => some false
  | .int _, .non => some false
  | .non, .str _ => some false
  | .str _, .non => some false
  | .non, .bl _ => some false
  | .bl _, .non => some false
  | .bl _, .str _ => some false
  | .str _, .bl _ => some false
  | _, _ => none
def cEq (h : Sto) (x y : U) : Option Bool := match x, y with
  | .int i, .int j => some (decide (i = j))
  | .str i, .str j => some (decide (i = j))
  | .bl i, .bl j => some (decide (i = j))
  | .non, .non => some true
  | .int _, .str _ => some false
  | .str _, .int _ => some false
  | .non, .int _ => some false
  | .int _, .non => some false
  | .non, .str _ => some false
  | .str _, .non => some false
  | .non, .bl _ => some false
  | .bl _, .non => some false
  | .bl _, .str _ => some false
  | .str _, .bl _ => some false
  | x, y => eqP h x y
theorem cEq_cases (h : Sto) (x y : U) : cEq h x y = cEq0 h x y ∨ cEq h x y = eqP h x y := by
  cases x <;> cases y <;> first | exact .inl rfl | exact .inr rfl
theorem str_eq (s t : List Nat) : ((⟨s.toArray⟩ : Str) = ⟨t.toArray⟩) ↔ s = t := ⟨fun e => by
  have := congrArg tl e
  rwa [tl_mk, tl_mk] at this, fun e => by rw [e]⟩
theorem eq_core {v w : V} {x y : U} {b : Bool} (rx : Rep K g v x) (ry : Rep K g w y) (e : cEq0 h x y = some b) : scal v w = true ∧ decide (v = w) = b := by
  unfold cEq0 at e
  split at e <;> cases rx <;> cases ry <;> cases e <;> refine ⟨rfl, ?_⟩ <;> simp [str_eq]
abbrev rEqA (K : Fr) : R2 := fun x y H Q => rEq x y H Q ∨ rEqD K x y H Q
abbrev rNeA (K : Fr) : R2 := fun x y H Q => rNe x y H Q ∨ rNeD K x y H Q
theorem ok_eq : CmpOK K (rEqA K) cEq := fun g H h v w x y b Q hr rx ry e q => by
  rcases cEq_cases h x y with e2 | e2
  · rw [e2] at e
    obtain ⟨h1, h2⟩ := eq_core rx ry e
    exact .inl ⟨h1, by rw [h2]; exact q⟩
  · rw [e2] at e
    obtain ⟨d1, d2, q1, q2, q3, q4, q5⟩ := eqP_of hr rx ry e
    exact .inr ⟨d1, d2, q1, q2, q3, q4, by rw [q5]; exact q⟩
def cNe (h : Sto) (x y : U) : Option Bool := (cEq h x y).map not
theorem ok_ne : CmpOK K (rNeA K) cNe := fun g H h v w x y b Q hr rx ry e q => by
  unfold cNe at e
  cases e3 : cEq h x y with
  | none => rw [e3] at e; cases e
  | some c =>
    rw [e3] at e
    cases e
    rcases cEq_cases h x y with e2 | e2
    · rw [e2] at e3
      obtain ⟨h1, h2⟩ := eq_core rx ry e3
      exact .inl ⟨h1, by rw [h2]; exact q⟩
    · rw [e2] at e3
      obtain ⟨d1, d2, q1, q2, q3, q4, q5⟩ := eqP_of hr rx ry e3
      exact .inr ⟨d1, d2, q1, q2, q3, q4, by rw [q5]; exact q⟩
theorem hu64 {A : Around} {k : Nat} (hr : Room k A) : A.units + 64 < cLine := by have := hr.un; omega
theorem hu65 {A : Around} {k : Nat} (hr : Room k A) : A.units + 65 < cLine := by have := hr.un; omega
def cI (p : Int → Int → Bool) (_ : Sto) (x y : U) : Option Bool := match x, y with
  | .int i, .int j => some (p i j)
  | _, _ => none
theorem ok_cI {p : Int → Int → Bool} : CmpOK K (rI0 fun i j => .bl (p i j)) (cI p) := fun g H h v w x y b Q hr rx ry e q => by
  unfold cI at e
  split at e
  · cases rx; cases ry; cases e
    exact ⟨_, _, rfl, rfl, q⟩
  · cases e
abbrev cLt := cI fun i j => decide (i < j)
abbrev cLe := cI fun i j => decide (i ≤ j)
abbrev cGt := cI fun i j => decide (j < i)
abbrev cGe := cI fun i j => decide (j ≤ i)
section
variable {a b : Expr} {ma mb : EM} {pos : Pos} (ha : PE X a (tM K W ma)) (hb : PE X b (tM K W mb))
include ha hb
theorem bt_lt : PT X (.Compare a [.Lt] [b] pos) (bM K W (bCmp cLt ma mb)) := bt_cmp op_lt ok_cI ha hb (nomark _)
theorem bt_gt : PT X (.Compare a [.Gt] [b] pos) (bM K W (bCmp cGt ma mb)) := bt_cmp op_gt ok_cI ha hb (nomark _)
end
section
variable {a b : Expr} {ma mb : EM} {pos : Pos} {k : Nat} (hr : Room k X.A) (ha : PE X a (tM X.K W ma)) (hb : PE X b (tM X.K W mb))
include hr ha hb
theorem bt_eq : PT X (.Compare a [.Eq] [b] pos) (bM X.K W (bCmp cEq ma mb)) := bt_cmp (op_eq.or (op_eqD (hu64 hr))) ok_eq ha hb (nomark _)
theorem bt_ne : PT X (.Compare a [.NotEq] [b] pos) (bM X.K W (bCmp cNe ma mb)) := bt_cmp (op_ne.or (op_neD (hu64 hr))) ok_ne ha hb (nomark _)
theorem se_eq : PE X (.Compare a [.Eq] [b] pos) (tM X.K W (mB (bCmp cEq ma mb))) := se_cmp (op_eq.or (op_eqD (hu64 hr))) ok_eq ha hb (nomark _)
end
/-- is None -/
def cIs (_ : Sto) (x y : U) : Option Bool := match y with
  | .non => some (match x with
    | .non => true
    | _ => false)
  | _ => none
def cIsN (h : Sto) (x y : U) : Option Bool := (cIs h x y).map not
theorem is_core {v w : V} {x y : U} {b : Bool} (rx : Rep K g v x) (ry : Rep K g w y) (e : cIs h x y = some b) : w = .non ∧ decide (v = .non) = b := by
  unfold cIs at e
  split at e
  · cases ry
    refine ⟨rfl, ?_⟩
    cases rx <;> cases e <;> simp
  · cases e
theorem ok_is : CmpOK K (fun x y H Q => y = .non ∧ Q (.bl (decide (x = .non))) H) cIs := fun g H h v w x y b Q hr rx ry e q => by
  obtain ⟨h1, h2⟩ := is_core rx ry e
  exact ⟨h1, by rw [h2]; exact q⟩
theorem ok_isN : CmpOK K (fun x y H Q => y = .non ∧ Q (.bl (!decide (x = .non))) H) cIsN := fun g H h v w x y b Q hr rx ry e q => by
  unfold cIsN at e
  cases e2 : cIs h x y with
  | none => rw [e2] at e; cases e
  | some c =>
    rw [e2] at e
    cases e
    obtain ⟨h1, h2⟩ := is_core rx ry e2
    exact ⟨h1, by rw [h2]; exact q⟩
/-- in a list or tuple of flat things -/
def flatU : U → Bool
  | .non => true
  | .bl _ => true
  | .int _ => true
  | .str _ => true
  | _ => false
def eqF : U → U → Bool
  | .non, .non => true
  | .bl a, .bl b => a == b
  | .bl a, .int b => (if a then 1 else 0) == b
  | .int a, .bl b => a == (if b then 1 else 0)
  | .int a, .int b => a == b
  | .str a, .str b => a == b
  | _, _ => false
def inF (x : U) (us : List U) : Bool := us.any fun y => eqF y x
theorem flat_of {v : V} {x : U} (r : Rep K g v x) (f : flatU x = true) : flatV v = true := by cases r <;> first | rfl | cases f
theorem flats_of : ∀ {vs : List V} {us : List U}, Reps K g vs us → us.all flatU = true → vs.all flatV = true
  | _, _, .nil, _ => rfl
  | _, _, .cons h r, f => by
    rw [List.all_cons, Bool.and_eq_true] at f
    rw [List.all_cons, flat_of h f.1, flats_of r f.2]; rfl
theorem eqF_of {v w : V} {x y : U} (rx : Rep K g v x) (ry : Rep K g w y) (fx : flatU x = true) (fy : flatU y = true) : eqV v w = eqF x y := by
  cases rx <;> cases ry <;> first | cases fx; done | cases fy; done | rfl | skip
  rename_i s t
  show ((⟨s.toArray⟩ : Str) == ⟨t.toArray⟩) = (s == t)
  by_cases e : s = t
  · subst e; simp
  · rw [beq_eq_false_iff_ne.mpr e, beq_eq_false_iff_ne.mpr fun z => e ((str_eq s t).mp z)]
theorem inF_of {v : V} {x : U} (rx : Rep K g v x) (fx : flatU x = true) : ∀ {vs : List V} {us : List U}, Reps K g vs us → us.all flatU = true → inV v vs = inF x us
  | _, _, .nil, _ => rfl
  | _, _, .cons h r, f => by
    rw [List.all_cons, Bool.and_eq_true] at f
    show (eqV _ v || inV v _) = (eqF _ x || inF x _)
    rw [eqF_of h rx f.1 fx, inF_of rx fx r f.2]
/-- .. of data -/
def inP (h : Sto) (x y : U) : Option Bool := match pyd 60 h x, pyd 60 h y with
  | some d, some (.list ds) => if SeqAt.shaped d = true ∧ SeqAt.shaped (.list ds) = true then some (ds.any fun z => PyData.eqv z d) else none
  | _, _ => none
def cIn (h : Sto) (x y : U) : Option Bool := match sL h y with
  | some us => if flatU x = true ∧ us.all flatU = true then some (inF x us) else inP h x y
  | none => none
def cNin (h : Sto) (x y : U) : Option Bool := (cIn h x y).map not
abbrev rInA (K : Fr) : R2 := fun x y H Q => rIn K false x y H Q ∨ rInD K x y H Q
abbrev rNinA (K : Fr) : R2 := fun x y H Q => rIn K true x y H Q ∨ rNotInD K x y H Q
theorem ok_nin : CmpOK K (rNinA K) cNin := fun g H h v w x y b Q hr rx ry e q => by
  unfold cNin at e
  cases e0 : cIn h x y with
  | none => rw [e0] at e; cases e
  | some c0 =>
    rw [e0] at e
    cases e
    unfold cIn at e0
    split at e0
    · rename_i us e1
      split at e0
      · rename_i c
        cases e0
        obtain ⟨a, vs, rfl, h1, r1⟩ := sL_of hr ry e1
        refine .inl ⟨a, vs, rfl, h1, flat_of rx c.1, flats_of r1 c.2, ?_⟩
        rw [inF_of rx c.1 r1 c.2]
        exact q
      · unfold inP at e0
        split at e0
        · rename_i d ds e2 e3
          split at e0
          · rename_i z
            cases e0
            exact .inr ⟨d, ds, dp_of hr _ _ _ _ rx e2, dp_of hr _ _ _ _ ry e3, z.1, z.2, q⟩
          · cases e0
        · cases e0
    · cases e0
section
variable {a b : Expr} {ma mb : EM} {pos : Pos} (ha : PE X a (tM X.K W ma)) (hb : PE X b (tM X.K W mb))
include ha hb
theorem bt_is : PT X (.Compare a [.Is] [b] pos) (bM X.K W (bCmp cIs ma mb)) := bt_cmp op_isN ok_is ha hb (nomark _)
theorem bt_isnot : PT X (.Compare a [.IsNot] [b] pos) (bM X.K W (bCmp cIsN ma mb)) := bt_cmp op_notN ok_isN ha hb (nomark _)
theorem se_is : PE X (.Compare a [.Is] [b] pos) (tM X.K W (mB (bCmp cIs ma mb))) := se_cmp op_isN ok_is ha hb (nomark _)
variable {k : Nat} (hr : Room k X.A)
include hr
theorem se_nin (hm : behindInMarks .NotIn b = false := by rfl) : PE X (.Compare a [.NotIn] [b] pos) (tM X.K W (mB (bCmp cNin ma mb))) := se_cmp (op_notIn_seq.or (op_notInD (hu65 hr))) ok_nin ha hb hm
end
end
end Q

set_option Elab.async false
set_option linter.all false
set_option maxRecDepth 100000
set_option maxHeartbeats 1000000
namespace Q
open PySem PySem.Spec PyProof.Rows L2 TL
section
variable {K : Fr} {g g' : G} {E : XK} {W : WX} {X : Cx} {H : Hp} {h : Sto} {v w : V} {x y : U} {a b c e o : Expr} {es rest : List Expr} {ma mb mc me : EM} {ta tb : TM} {pos : Pos}
/-! ### parts -/
/-- from the end of a part to what is behind it -/
theorem wE {r : R U} {f : U → Sto → R U} {Q P : VK} (t : WE K E g (r.bind f) Q) (k : ∀ u h v H g', Le g g' → HR K g' H h → Rep K g' v u → WE K E g' (f u h) Q → P v H) : WE K E g r P := by
  cases r with
  | bad => exact t
  | exc C n h => exact t
  | ok u h => exact fun v H g' l hr rv => k u h v H g' l hr rv (WE.mono l t)
theorem wA {r : R (List U)} {f : List U → Sto → R U} {Q : VK} {P : List V → Hp → Prop} (t : WE K E g (r.bind f) Q) (k : ∀ u h v H g', Le g g' → HR K g' H h → Reps K g' v u → WE K E g' (f u h) Q → P v H) : WA K E g r P := by
  cases r with
  | bad => exact t
  | exc C n h => exact t
  | ok u h => exact fun v H g' l hr rv => k u h v H g' l hr rv (WE.mono l t)
theorem wET {r : R U} {f : U → Sto → R Bool} {Q : Bool → Hp → Prop} {P : VK} (t : WT K E g (r.bind f) Q) (k : ∀ u h v H g', Le g g' → HR K g' H h → Rep K g' v u → WT K E g' (f u h) Q → P v H) : WE K E g r P := by
  cases r with
  | bad => exact t
  | exc C n h => exact t
  | ok u h => exact fun v H g' l hr rv => k u h v H g' l hr rv (WT.mono l t)
theorem wTT {r : R Bool} {f : Bool → Sto → R Bool} {Q P : Bool → Hp → Prop} (t : WT K E g (r.bind f) Q) (k : ∀ u h H g', Le g g' → HR K g' H h → WT K E g' (f u h) Q → P u H) : WT K E g r P := by
  cases r with
  | bad => exact t
  | exc C n h => exact t
  | ok u h => exact fun H g' l hr => k u h H g' l hr (WT.mono l t)
theorem wEA {r : R U} {f : U → Sto → R (List U)} {Q : List V → Hp → Prop} {P : VK} (t : WA K E g (r.bind f) Q) (k : ∀ u h v H g', Le g g' → HR K g' H h → Rep K g' v u → WA K E g' (f u h) Q → P v H) : WE K E g r P := by
  cases r with
  | bad => exact t
  | exc C n h => exact t
  | ok u h => exact fun v H g' l hr rv => k u h v H g' l hr rv (WA.mono l t)
theorem wAA {r : R (List U)} {f : List U → Sto → R (List U)} {Q P : List V → Hp → Prop} (t : WA K E g (r.bind f) Q) (k : ∀ u h v H g', Le g g' → HR K g' H h → Reps K g' v u → WA K E g' (f u h) Q → P v H) : WA K E g r P := by
  cases r with
  | bad => exact t
  | exc C n h => exact t
  | ok u h => exact fun v H g' l hr rv => k u h v H g' l hr rv (WA.mono l t)

/-! ### tests -/
def bAnd (a b : TM) : TM := fun env h => (a env h).bind fun c h1 => if c = true then b env h1 else .ok false h1
def bOr (a b : TM) : TM := fun env h => (a env h).bind fun c h1 => if c = true then .ok true h1 else b env h1
def bNot (a : TM) : TM := fun env h => (a env h).bind fun c h1 => .ok (!c) h1
theorem bw_and1 (ha : PT X a (bM K W ta)) : PW X (.BoolOp .And [a] pos) (bM K W ta) := pw_and1 ha
theorem bw_or1 (ha : PT X a (bM K W ta)) : PW X (.BoolOp .Or [a] pos) (bM K W ta) := pw_or1 ha
theorem bw_and (ha : PT X a (bM K W ta)) (hb : PW X (.BoolOp .And (b :: rest) pos) (bM K W tb)) : PW X (.BoolOp .And (a :: b :: rest) pos) (bM K W (bAnd ta tb)) :=
  PW.weak (pw_and ha hb) fun σ H Q ⟨g, env, h, hr, er, w⟩ => ⟨g, env, h, hr, er, wTT w fun c h1 H1 g1 l1 hr1 w1 => by
    cases c with
    | true => exact ⟨g1, env, h1, hr1, er.mono l1, w1⟩
    | false => exact w1 H1 g1 (Le.refl _) hr1⟩
theorem bw_or (ha : PT X a (bM K W ta)) (hb : PW X (.BoolOp .Or (b :: rest) pos) (bM K W tb)) : PW X (.BoolOp .Or (a :: b :: rest) pos) (bM K W (bOr ta tb)) :=
  PW.weak (pw_or ha hb) fun σ H Q ⟨g, env, h, hr, er, w⟩ => ⟨g, env, h, hr, er, wTT w fun c h1 H1 g1 l1 hr1 w1 => by
    cases c with
    | false => exact ⟨g1, env, h1, hr1, er.mono l1, w1⟩
    | true => exact w1 H1 g1 (Le.refl _) hr1⟩
theorem bt_not (ha : PT X a (bM K W ta)) : PT X (.UnaryOp .Not a pos) (bM K W (bNot ta)) :=
  PT.weak (pt_not ha) fun σ H Q ⟨g, env, h, hr, er, w⟩ => ⟨g, env, h, hr, er, wTT w fun c h1 H1 g1 l1 hr1 w1 => w1 H1 g1 (Le.refl _) hr1⟩
/-- the truth of a value -/
def truU (h : Sto) : U → Option Bool
  | .non => some false
  | .bl b => some b
  | .int i => some (i != 0)
  | .str s => if s.length ≤ 16000000 then some (!s.isEmpty) else none
  | .ref n => match h[n]? with
    | some (.lst us) => some (!us.isEmpty)
    | some (.dK kvs) => some (!kvs.isEmpty)
    | _ => none
  | .tup us => some (!us.isEmpty)
  | .fl us => some (!us.isEmpty)
  | .kl us => some (!us.isEmpty)
  | .xv _ _ _ _ => none
theorem Reps.emp : ∀ {vs : List V} {us : List U}, Reps K g vs us → (!us.isEmpty) = !vs.isEmpty
  | _, _, .nil => rfl
  | _, _, .cons _ _ => rfl
theorem RepK.emp : ∀ {vs us}, RepK K g vs us → (!us.isEmpty) = !vs.isEmpty
  | _, _, .nil => rfl
  | _, _, .cons _ _ => rfl
theorem tru_of {k : Bool} (hr : HR K g H h) (r : Rep K g v x) (q : truU h x = some k) : TruV K v H k := by
  cases r with
  | non => cases q; rfl
  | bl b => cases q; rfl
  | int i => cases q; rfl
  | str s =>
    simp only [truU] at q
    split at q
    · rename_i z
      cases q
      refine ⟨by rw [str_len]; exact sz16 z, ?_⟩
      rw [str_len]
      cases s with
      | nil => rfl
      | cons c r => simp; omega
    · cases q
  | tup t r => cases q; exact .inr (.inl ⟨_, hr.sqT t, r.emp⟩)
  | fl t r => cases q; exact .inl ⟨_, .inl (.inl (hr.ex _ _ t)), r.emp⟩
  | kl t r => cases q; exact .inl ⟨_, hr.sqL t, r.emp⟩
  | ref t =>
    rename_i a n
    simp only [truU] at q
    split at q
    · rename_i us e
      cases q
      obtain ⟨vs, h1, h2⟩ := hr.ob n a _ t e
      exact .inl ⟨_, .inl (.inl h1), h2.emp⟩
    · rename_i us e
      cases q
      obtain ⟨vs, h1, h2⟩ := hr.ob n a _ t e
      exact .inr (.inr ⟨_, h1, h2.emp⟩)
    · cases q
  | xv _ => cases q
def bTru (a : EM) : TM := fun env h => (a env h).bind fun x h1 => oB (truU h1 x) h1
theorem bt_tru (ha : PE X a (tM X.K W ma)) (he : ∀ whole, isTrue a X.env whole = (do let v ← whole; standAt a.pos; holding [v] (truthy v)) := by intro _; rfl) : PT X a (bM X.K W (bTru ma)) :=
  PT.weak (pt_truth ha he) fun σ H Q ⟨g, env, h, hr, er, w⟩ => ⟨g, env, h, hr, er, wET w fun u h1 v H1 g1 l1 hr1 rv w1 => by
    cases et : truU h1 u with
    | none => rw [et] at w1; exact w1.elim
    | some k =>
      rw [et] at w1
      exact ⟨k, tru_of hr1 rv et, w1 H1 g1 (Le.refl _) hr1⟩⟩
/-- and, or, not as values of bools -/
def mAnd (a b : EM) : EM := fun env h => (a env h).bind fun x h1 => match x with
  | .bl true => b env h1
  | .bl false => .ok (.bl false) h1
  | _ => .bad
def mOr (a b : EM) : EM := fun env h => (a env h).bind fun x h1 => match x with
  | .bl false => b env h1
  | .bl true => .ok (.bl true) h1
  | _ => .bad
def mNot (a : EM) : EM := fun env h => (a env h).bind fun x h1 => match x with
  | .bl c => .ok (.bl (!c)) h1
  | _ => .bad
theorem se_one {op} (h : PE X a (tM K W ma)) : PE X (.BoolOp op [a] pos) (tM K W ma) := pe_one h
theorem se_and (ha : PE X a (tM K W ma)) (hb : PE X (.BoolOp .And (b :: rest) pos) (tM K W mb)) : PE X (.BoolOp .And (a :: b :: rest) pos) (tM K W (mAnd ma mb)) :=
  PE.weak (pe_and ha hb) fun σ H Q ⟨g, env, h, hr, er, w⟩ => ⟨g, env, h, hr, er, wE w fun u h1 v H1 g1 l1 hr1 rv w1 => by
    cases rv with
    | bl c =>
      cases c with
      | true => exact ⟨true, rfl, g1, env, h1, hr1, er.mono l1, w1⟩
      | false => exact ⟨false, rfl, w1 _ H1 g1 (Le.refl _) hr1 (.bl _)⟩
    | _ => exact w1.elim⟩
theorem se_not (ha : PE X a (tM K W ma)) : PE X (.UnaryOp .Not a pos) (tM K W (mNot ma)) :=
  PE.weak (pe_not ha) fun σ H Q ⟨g, env, h, hr, er, w⟩ => ⟨g, env, h, hr, er, wE w fun u h1 v H1 g1 l1 hr1 rv w1 => by
    cases rv with
    | bl c => exact ⟨c, rfl, w1 _ H1 g1 (Le.refl _) hr1 (.bl _)⟩
    | _ => exact w1.elim⟩
/-- a if t else b -/
def mIf (t : TM) (a b : EM) : EM := fun env h => (t env h).bind fun c h1 => if c = true then a env h1 else b env h1
/-! ### arguments, displays -/
def aNil : AM := fun _ h => .ok [] h
def aCons (a : EM) (r : AM) : AM := fun env h => (a env h).bind fun x h1 => (r env h1).bind fun xs h2 => .ok (x :: xs) h2
variable {am : AM}
theorem sa_nil : PA X [] (aM K W aNil) := PA.weak pa_nil fun σ H Q ⟨g, env, h, hr, er, w⟩ => w [] H g (Le.refl _) hr .nil
theorem sa_cons (ha : PE X e (tM K W me)) (hr : PA X es (aM K W am)) (hs : starEach (e :: es) X.env = (false, eval e X.env) :: starEach es X.env := by rfl) : PA X (e :: es) (aM K W (aCons me am)) :=
  PA.weak (pa_cons ha hr hs) fun σ H Q ⟨g, env, h, hr, er, w⟩ => ⟨g, env, h, hr, er, wEA w fun u h1 v H1 g1 l1 hr1 rv w1 =>
    ⟨g1, env, h1, hr1, er.mono l1, wAA w1 fun us h2 vs H2 g2 l2 hr2 rvs w2 => w2 _ H2 g2 (Le.refl _) hr2 (.cons (rv.mono l2) rvs)⟩⟩
def mTup (am : AM) : EM := fun env h => (am env h).bind fun us h1 => if us.length ≤ 16000000 then .ok (.tup us) h1 else .bad
def mLst (am : AM) : EM := fun env h => (am env h).bind fun us h1 => if us.length ≤ 16000000 then .ok (.ref h1.length) (h1 ++ [.lst us]) else .bad
theorem se_tup {x1} (ha : PA X es (aM K W am)) : PE X (.Tuple es x1 pos) (tM K W (mTup am)) :=
  PE.weak (pe_tup ha) fun σ H Q ⟨g, env, h, hr, er, w⟩ => ⟨g, env, h, hr, er, wA w fun us h1 vs H1 g1 l1 hr1 rv w1 => by
    split at w1
    · rename_i z
      refine ⟨by rw [rv.len]; exact sz16 z, fun p hp => ?_⟩
      obtain ⟨l, q, r⟩ := hr1.newTup hp rv
      exact w1 _ _ _ l q r
    · exact w1.elim⟩
theorem se_lst (ha : PA X es (aM K W am)) : PE X (.List es pos) (tM K W (mLst am)) :=
  PE.weak (pe_lst ha) fun σ H Q ⟨g, env, h, hr, er, w⟩ => ⟨g, env, h, hr, er, wA w fun us h1 vs H1 g1 l1 hr1 rv w1 => by
    split at w1
    · rename_i z
      exact ⟨by rw [rv.len]; exact sz16 z, fun p hp => w1 _ _ _ Le.new (hr1.newLst hp rv) hr1.newRef⟩
    · exact w1.elim⟩

/-! ### subscripts, slices -/
theorem at_len {α β : Type} {xs : List α} {ys : List β} {i : Int} {v : α} (hl : xs.length = ys.length) (hv : atI xs i = some v) : ∃ j, ixN ys.length i = some j ∧ xs[j]? = some v := by
  unfold atI at hv
  cases e : ixN xs.length i with
  | none => rw [e] at hv; cases hv
  | some j =>
    rw [e] at hv
    exact ⟨j, by rw [← hl]; exact e, hv⟩
theorem Reps.at {vs : List V} {us : List U} {i : Int} {u : U} (r : Reps K g vs us) (q : atI us i = some u) : ∃ v, atI vs i = some v ∧ Rep K g v u := by
  obtain ⟨j, h1, h2⟩ := at_len (ys := vs) r.len.symm q
  obtain ⟨v, h3, h4⟩ := r.get h2
  exact ⟨v, by unfold atI; rw [h1]; exact h3, h4⟩
def oR (o : Option U) (h : Sto) : R U := match o with
  | some u => .ok u h
  | none => .bad
def uIx (x y : U) (h : Sto) : R U := match y with
  | .int i => (match x with
    | .str s => if s.length ≤ 16000000 then oR ((atI s i).map fun c => .str [c]) h else .bad
    | x => match sL h x with
      | some us => oR (atI us i) h
      | none => .bad)
  | _ => .bad
theorem ok_ix : BinOK K (rIx K) uIx := by
  intro E g H h v w x y Q hr rx ry t
  unfold uIx at t
  split at t
  · rename_i i
    cases ry with
    | int _ =>
      split at t
      · rename_i s
        cases rx with
        | str _ =>
          split at t
          · rename_i z
            cases e1 : atI s i with
            | none => rw [e1] at t; exact t.elim
            | some c =>
              rw [e1] at t
              exact .inr (.inr ⟨_, i, c, rfl, rfl, by rw [str_len]; exact sz16 z, by simpa using e1, t _ _ g (Le.refl _) hr (.str [c])⟩)
          · exact t.elim
      · split at t
        · rename_i us e1
          cases e2 : atI us i with
          | none => rw [e2] at t; exact t.elim
          | some u =>
            rw [e2] at t
            obtain ⟨p, vs, rfl, h1, r1⟩ := sL_of hr rx e1
            obtain ⟨z, h2, h3⟩ := r1.at e2
            have fin := t _ _ g (Le.refl _) hr h3
            rcases h1 with h1 | h1
            · exact .inl ⟨p, vs, i, z, rfl, rfl, h1, h2, fin⟩
            · exact .inr (.inl ⟨p, vs, i, z, rfl, rfl, h1, h2, fin⟩)
        · exact t.elim
  · exact t.elim
theorem se_ix (ha : PE X a (tM X.K W ma)) (hb : PE X b (tM X.K W mb)) (hs : PlainIx b := by exact fun _ _ => rfl) : PE X (.Subscript a b pos) (tM X.K W (mBin uIx ma mb)) :=
  PE.weak (pe_ix ix_seq ha hb hs) fun σ H Q t => bin_to ok_ix t
def cut {α : Type} (xs : List α) (lo hi : Option Int) : List α := (xs.drop (HT.sIx xs.length 0 lo)).take (HT.sIx xs.length xs.length hi - HT.sIx xs.length 0 lo)
theorem Reps.cut {vs : List V} {us : List U} (r : Reps K g vs us) (lo hi : Option Int) : Reps K g (cutV vs lo hi) (_root_.Q.cut us lo hi) := by
  unfold cutV _root_.Q.cut
  rw [r.len]
  exact (r.drop _).take _
def uSl (x : U) (lo hi : Option Int) (h : Sto) : R U := match x with
  | .str s => if s.length ≤ 16000000 then .ok (.str (cut s lo hi)) h else .bad
  | .tup us => .ok (.tup (cut us lo hi)) h
  | x => match aL h x with
    | some us => .ok (.ref h.length) (h ++ [.lst (cut us lo hi)])
    | none => .bad
def rSlQ (K : Fr) : V → Option Int → Option Int → Hp → VK → Prop := fun x lo hi H Q => rSlS x lo hi H Q ∨ rSlA K x lo hi H Q ∨ rSlL K x lo hi H Q
theorem sl_all : SlR X (rSlQ X.K) := sl_str.or (sl_tupA.or sl_list)
/-- an optional part of a slice -/
abbrev OM := Env' → Sto → R (Option Int)
def WO (K : Fr) (E : XK) (g : G) (r : R (Option Int)) (Q : Option Int → Hp → Prop) : Prop := match r with
  | .ok b h => ∀ H g', Le g g' → HR K g' H h → Q b H
  | .exc C n h => ∀ H g' d, Le g g' → HR K g' H h → DOf g' n d → E (.ref C) d H
  | .bad => False
def oM (K : Fr) (W : WX) (m : OM) : TO := fun σ H Q => ∃ g env h, HR K g H h ∧ ER K g σ env ∧ WO K (atSl W σ) g (m env h) Q
def oNone : OM := fun _ h => .ok none h
def oSome (a : EM) : OM := fun env h => (a env h).bind fun x h1 => match x with
  | .int i => .ok (some i) h1
  | _ => .bad
theorem PO.weak {X : Cx} {e : Option Expr} {t t' : TO} (p : PO X e t) (h : ∀ σ H Q, t' σ H Q → t σ H Q) : PO X e t' := ⟨fun pins s σ H Q I q => p.run pins s σ H Q I (h σ H Q q)⟩
theorem so_none : PO X none (oM K W oNone) := PO.weak po_none fun σ H Q ⟨g, env, h, hr, er, w⟩ => w H g (Le.refl _) hr
theorem so_some (ha : PE X a (tM K W ma)) : PO X (some a) (oM K W (oSome ma)) := PO.weak (po_some ha) fun σ H Q ⟨g, env, h, hr, er, w⟩ => ⟨g, env, h, hr, er, by
  unfold oSome at w
  cases ea : ma env h with
  | bad => rw [ea] at w; exact w.elim
  | exc C n h => rw [ea] at w; exact w
  | ok u h1 =>
    rw [ea] at w
    intro v H1 g1 l1 hr1 rv
    cases rv with
    | int i => exact ⟨i, rfl, w H1 g1 l1 hr1⟩
    | _ => exact w.elim⟩
def mSl (a : EM) (lo hi : OM) : EM := fun env h => (a env h).bind fun x h1 => (lo env h1).bind fun l h2 => (hi env h2).bind fun u h3 => uSl x l u h3
theorem wOE {r : R (Option Int)} {f : Option Int → Sto → R U} {Q : VK} {P : Option Int → Hp → Prop} (t : WE K E g (r.bind f) Q) (k : ∀ u h H g', Le g g' → HR K g' H h → WE K E g' (f u h) Q → P u H) : WO K E g r P := by
  cases r with
  | bad => exact t
  | exc C n h => exact t
  | ok u h => exact fun H g' l hr => k u h H g' l hr (WE.mono l t)
theorem sl_to {lo hi : Option Int} {Q : VK} (hr : HR K g H h) (rx : Rep K g v x) (t : WE K E g (uSl x lo hi h) Q) : rSlQ K v lo hi H Q := by
  unfold uSl at t
  split at t
  · cases rx
    split at t
    · rename_i s z
      refine .inl ⟨_, rfl, by rw [str_len]; exact sz16 z, ?_⟩
      have e : cutS ⟨s.toArray⟩ lo hi = ⟨(cut s lo hi).toArray⟩ := by
        unfold cutS _root_.Q.cut
        rw [str_len]
      rw [e]
      exact t _ _ g (Le.refl _) hr (.str _)
    · exact t.elim
  · rename_i us
    obtain ⟨p, vs, rfl, h1, r1⟩ := tup_of hr rx
    refine .inr (.inl ⟨p, vs, rfl, h1, fun z => ?_, fun _ q hq => ?_⟩)
    · rw [r1.len] at z
      have e : cut us lo hi = us := by
        unfold _root_.Q.cut
        rw [z.1, z.2]; simp
      rw [e] at t
      exact t _ _ g (Le.refl _) hr rx
    · obtain ⟨l, a1, a2⟩ := hr.newTup hq (r1.cut lo hi)
      exact t _ _ _ l a1 a2
  · split at t
    · rename_i us e1
      obtain ⟨p, vs, rfl, h1, r1⟩ := aL_of hr rx e1
      exact .inr (.inr ⟨p, vs, rfl, h1, fun q hq => t _ _ _ Le.new (hr.newLst hq (r1.cut lo hi)) hr.newRef⟩)
    · exact t.elim
variable {lo hi : Option Expr} {ml mh : OM} {p2 : Pos}
theorem se_sl (he : PE X e (tM X.K W me)) (hl : PO X lo (oM X.K W ml)) (hu : PO X hi (oM X.K W mh)) : PE X (.Subscript e (.Slice lo hi none p2) pos) (tM X.K W (mSl me ml mh)) :=
  PE.weak (pe_slice sl_all he hl hu) fun σ H Q ⟨g, env, h, hr, er, w⟩ => ⟨g, env, h, hr, er, wE w fun u h1 v H1 g1 l1 hr1 rv w1 =>
    ⟨g1, env, h1, hr1, er.mono l1, wOE w1 fun lo h2 H2 g2 l2 hr2 w2 => ⟨g2, env, h2, hr2, er.mono (l1.trans l2), wOE w2 fun hi h3 H3 g3 l3 hr3 w3 =>
      sl_to hr3 (rv.mono (l2.trans l3)) w3⟩⟩⟩

/-! ### calls of the built-ins -/
def CallOK (K : Fr) (r : List V → Hp → VK → Prop) (f : List U → Sto → R U) : Prop := ∀ E g H h vs us Q, HR K g H h → Reps K g vs us → WE K E g (f us h) Q → r vs H Q
def mCB (f : List U → Sto → R U) (am : AM) : EM := fun env h => (am env h).bind f
variable {r : List V → Hp → VK → Prop} {f : List U → Sto → R U} {id T : String} {n : Str} {p : Pos}
theorem cb_to {σ : L2.St} {Q : VK} (ok : CallOK K r f) (q : tM K W (mCB f am) σ H Q) : tCB r (aM K W am) σ H Q := by
  obtain ⟨g, env, h, hr, er, w⟩ := q
  exact ⟨g, env, h, hr, er, wA w fun us h1 vs H1 g1 l1 hr1 rv w1 => ok _ g1 H1 h1 vs us Q hr1 rv w1⟩
theorem se_cb (hc : CallR X (.builtin id) r) (ok : CallOK K r f) (hg : Gl X n) (hm : X.mg n = none) (hv : bootBuiltins n = some (.builtin id)) (ha : PA X (e :: es) (aM K W am)) (hn : n ≠ "__name__" := by decide) (hdb : (n == ("__debug__" : Str)) = false := by decide)
    (he : starEach (e :: es) X.env = (false, eval e X.env) :: starEach es X.env := by rfl) (hpl : (backTo pos (starEach es X.env)).any (·.1) = false := by rfl) : PE X (.Call (.Name n p) (e :: es) [] pos) (tM K W (mCB f am)) :=
  PE.weak (pe_callB hc hg hm hv ha hn hdb he hpl) fun σ H Q q => cb_to ok q
theorem se_ct (hc : CallR X (.type T) r) (ok : CallOK K r f) (hg : Gl X n) (hm : X.mg n = none) (hv : bootBuiltins n = some (.type T)) (ha : PA X (e :: es) (aM K W am)) (hn : n ≠ "__name__" := by decide) (hdb : (n == ("__debug__" : Str)) = false := by decide)
    (he : starEach (e :: es) X.env = (false, eval e X.env) :: starEach es X.env := by rfl) (hpl : (backTo pos (starEach es X.env)).any (·.1) = false := by rfl) : PE X (.Call (.Name n p) (e :: es) [] pos) (tM K W (mCB f am)) :=
  PE.weak (pe_callTy hc hg hm hv ha hn hdb he hpl) fun σ H Q q => cb_to ok q
def uLen (us : List U) (h : Sto) : R U := match us with
  | [.str s] => if s.length ≤ 16000000 then .ok (.int s.length) h else .bad
  | [x] => match sL h x with
    | some us => .ok (.int us.length) h
    | none => .bad
  | _ => .bad
theorem ok_len : CallOK K (fun xs H Q => ∃ x n, xs = [x] ∧ LenV K x H n ∧ Q (.int n) H) uLen := by
  intro E g H h vs us Q hr rv t
  unfold uLen at t
  split at t
  · cases rv with
    | cons r1 r2 =>
      cases r2
      cases r1
      split at t
      · rename_i s z
        exact ⟨_, s.length, rfl, ⟨by rw [str_len]; exact sz16 z, (str_len _).symm⟩, t _ _ g (Le.refl _) hr (.int _)⟩
      · exact t.elim
  · cases rv with
    | cons r1 r2 =>
      cases r2
      split at t
      · rename_i us e1
        obtain ⟨p, vs, rfl, h1, r1⟩ := sL_of hr r1 e1
        refine ⟨_, us.length, rfl, ?_, t _ _ g (Le.refl _) hr (.int _)⟩
        rcases h1 with h1 | h1
        · exact .inl ⟨vs, h1, r1.len.symm⟩
        · exact .inr ⟨vs, h1, r1.len.symm⟩
      · exact t.elim
  · exact t.elim
def uInt (us : List U) (h : Sto) : R U := match us with
  | [.int i] => .ok (.int i) h
  | [.bl b] => .ok (.int (if b then 1 else 0)) h
  | _ => .bad
theorem ok_int : CallOK K (fun xs H Q => (∃ i, xs = [.int i] ∧ Q (.int i) H) ∨ ∃ k, xs = [.bl k] ∧ Q (.int (if k then 1 else 0)) H) uInt := by
  intro E g H h vs us Q hr rv t
  unfold uInt at t
  split at t
  · cases rv with
    | cons r1 r2 => cases r2; cases r1; exact .inl ⟨_, rfl, t _ _ g (Le.refl _) hr (.int _)⟩
  · cases rv with
    | cons r1 r2 => cases r2; cases r1; exact .inr ⟨_, rfl, t _ _ g (Le.refl _) hr (.int _)⟩
  · exact t.elim
def uList (us : List U) (h : Sto) : R U := match us with
  | [x] => match sL h x with
    | some us => .ok (.ref h.length) (h ++ [.lst us])
    | none => .bad
  | _ => .bad
theorem ok_list : CallOK K (fun xs H Q => ∃ p ys, xs = [.ref p] ∧ (SqL K H p ys ∨ SqT K H p ys) ∧ ∀ l, H l = none → Q (.ref l) (upd H l (.lst ys))) uList := by
  intro E g H h vs us Q hr rv t
  unfold uList at t
  split at t
  · cases rv with
    | cons r1 r2 =>
      cases r2
      split at t
      · rename_i us e1
        obtain ⟨p, vs, rfl, h1, r1⟩ := sL_of hr r1 e1
        exact ⟨p, vs, rfl, h1, fun l hl => t _ _ _ Le.new (hr.newLst hl r1) hr.newRef⟩
      · exact t.elim
  · exact t.elim
def uTuple (us : List U) (h : Sto) : R U := match us with
  | [x] => match sL h x with
    | some us => .ok (.tup us) h
    | none => .bad
  | _ => .bad
theorem ok_tuple : CallOK K (fun xs H Q => ∃ p ys, xs = [.ref p] ∧ ((SqL K H p ys ∧ ∀ l, H l = none → Q (.ref l) (upd H l (.tup ys))) ∨ (SqT K H p ys ∧ Q (.ref p) H))) uTuple := by
  intro E g H h vs us Q hr rv t
  unfold uTuple at t
  split at t
  · rename_i x
    cases rv with
    | @cons v0 _ _ _ r1 r2 =>
      cases r2
      have aux : ∀ us, aL h x = some us → WE K E g (.ok (.tup us) h) Q → ∃ p ys, [v0] = [V.ref p] ∧ ((SqL K H p ys ∧ ∀ l, H l = none → Q (.ref l) (upd H l (.tup ys))) ∨ (SqT K H p ys ∧ Q (.ref p) H)) := fun us e1 t => by
        obtain ⟨p, vs, rfl, h1, r2⟩ := aL_of hr r1 e1
        refine ⟨p, vs, rfl, .inl ⟨h1, fun l hl => ?_⟩⟩
        obtain ⟨l1, a1, a2⟩ := hr.newTup hl r2
        exact t _ _ _ l1 a1 a2
      split at t
      · rename_i us e1
        cases r1 with
        | tup q s =>
          cases e1
          exact ⟨_, _, rfl, .inr ⟨hr.sqT q, t _ _ g (Le.refl _) hr (.tup q s)⟩⟩
        | kl q s => exact aux us e1 t
        | fl q s => exact aux us e1 t
        | ref q => exact aux us e1 t
        | _ => simp [sL, aL, mL] at e1
      · exact t.elim
  · exact t.elim
def uMin (us : List U) (h : Sto) : R U := match us with
  | [.int i, .int j] => .ok (.int (if j < i then j else i)) h
  | _ => .bad
def uMax (us : List U) (h : Sto) : R U := match us with
  | [.int i, .int j] => .ok (.int (if j > i then j else i)) h
  | _ => .bad
def uAbs (us : List U) (h : Sto) : R U := match us with
  | [.int i] => .ok (.int (if i < 0 then -i else i)) h
  | _ => .bad
theorem ok_min : CallOK K (fun xs H Q => ∃ i j, xs = [.int i, .int j] ∧ Q (.int (if j < i then j else i)) H) uMin := by
  intro E g H h vs us Q hr rv t
  unfold uMin at t
  split at t
  · cases rv with
    | cons r1 r2 => cases r2 with
      | cons r2 r3 => cases r3; cases r1; cases r2; exact ⟨_, _, rfl, t _ _ g (Le.refl _) hr (.int _)⟩
  · exact t.elim
theorem ok_max : CallOK K (fun xs H Q => ∃ i j, xs = [.int i, .int j] ∧ Q (.int (if j > i then j else i)) H) uMax := by
  intro E g H h vs us Q hr rv t
  unfold uMax at t
  split at t
  · cases rv with
    | cons r1 r2 => cases r2 with
      | cons r2 r3 => cases r3; cases r1; cases r2; exact ⟨_, _, rfl, t _ _ g (Le.refl _) hr (.int _)⟩
  · exact t.elim
section
variable (hg : Gl X n) (hm : X.mg n = none) (ha : PA X (e :: es) (aM X.K W am)) (hn : n ≠ "__name__" := by decide) (hdb : (n == ("__debug__" : Str)) = false := by decide)
    (he : starEach (e :: es) X.env = (false, eval e X.env) :: starEach es X.env := by rfl) (hpl : (backTo pos (starEach es X.env)).any (·.1) = false := by rfl)
include hg hm ha hn hdb he hpl
theorem se_len (hv : bootBuiltins n = some (.builtin "len") := by decide +kernel) : PE X (.Call (.Name n p) (e :: es) [] pos) (tM X.K W (mCB uLen am)) := se_cb call_len ok_len hg hm hv ha hn hdb he hpl
theorem se_int' (hv : bootBuiltins n = some (.type "int") := by decide +kernel) : PE X (.Call (.Name n p) (e :: es) [] pos) (tM X.K W (mCB uInt am)) := se_ct call_int1 ok_int hg hm hv ha hn hdb he hpl
theorem se_list (hv : bootBuiltins n = some (.type "list") := by decide +kernel) : PE X (.Call (.Name n p) (e :: es) [] pos) (tM X.K W (mCB uList am)) := se_ct call_list_of ok_list hg hm hv ha hn hdb he hpl
theorem se_tuple (hv : bootBuiltins n = some (.type "tuple") := by decide +kernel) : PE X (.Call (.Name n p) (e :: es) [] pos) (tM X.K W (mCB uTuple am)) := se_ct call_tuple_of ok_tuple hg hm hv ha hn hdb he hpl
theorem se_min (hc : X.calm = true) (hv : bootBuiltins n = some (.builtin "min") := by decide +kernel) : PE X (.Call (.Name n p) (e :: es) [] pos) (tM X.K W (mCB uMin am)) := se_cb (call_min2 hc) ok_min hg hm hv ha hn hdb he hpl
theorem se_max (hc : X.calm = true) (hv : bootBuiltins n = some (.builtin "max") := by decide +kernel) : PE X (.Call (.Name n p) (e :: es) [] pos) (tM X.K W (mCB uMax am)) := se_cb (call_max2 hc) ok_max hg hm hv ha hn hdb he hpl
end
/-! ### methods of built-in types -/
def MtOK (K : Fr) (r : V → List V → Hp → VK → Prop) (f : U → List U → Sto → R U) : Prop := ∀ E g H h v x vs us Q, HR K g H h → Rep K g v x → Reps K g vs us → WE K E g (f x us h) Q → r v vs H Q
/-- a list's method: the receiver is a list -/
def mLM (f : U → List U → Sto → R U) (o : EM) (am : AM) : EM := fun env h => (o env h).bind fun x h1 => if (aL h1 x).isSome = true then (am env h1).bind fun us h2 => f x us h2 else .bad
theorem lm_to {r : V → List V → Hp → VK → Prop} {f : U → List U → Sto → R U} {mo : EM} {σ : L2.St} {Q : VK} (ok : MtOK K r f) (q : tM K W (mLM f mo am) σ H Q) : tBM K "list" r (tM K W mo) (aM K W am) σ H Q := by
  obtain ⟨g, env, h, hr, er, w⟩ := q
  refine ⟨g, env, h, hr, er, wE w fun u h1 v H1 g1 l1 hr1 rv w1 => ?_⟩
  cases ea : aL h1 u with
  | none => rw [ea] at w1; exact w1.elim
  | some us =>
    rw [ea] at w1
    obtain ⟨a, vs, rfl, h2, r2⟩ := aL_of hr1 rv ea
    exact ⟨.inl ⟨rfl, vs, h2⟩, g1, env, h1, hr1, er.mono l1, wA w1 fun us h2 vs H2 g2 l2 hr2 rvs w2 => ok _ g2 H2 h2 _ u vs us Q hr2 (rv.mono l2) rvs w2⟩
def uApp (x : U) (us : List U) (h : Sto) : R U := match x, us with
  | .ref n, [y] => (match h[n]? with
    | some (.lst xs) => if xs.length < 16000000 then .ok .non (h.set n (.lst (xs ++ [y]))) else .bad
    | _ => .bad)
  | _, _ => .bad
theorem sz16l {n : Nat} (h : n < 16000000) : n < sizeLine := Nat.lt_of_lt_of_le h (by decide)
theorem ok_app : MtOK K rAppend uApp := by
  intro E g H h v x vs us Q hr rx rvs t
  unfold uApp at t
  split at t
  · rename_i n y
    split at t
    · rename_i xs e1
      split at t
      · rename_i z
        cases rx with
        | ref q =>
          rename_i a
          cases rvs with
          | cons r1 r2 =>
            cases r2
            obtain ⟨ws, h1, h2⟩ := hr.ob n a _ q e1
            exact ⟨a, ws, _, rfl, rfl, h1, by rw [h2.len]; exact sz16l z, t _ _ g (Le.refl _) (hr.setLst q h1 (h2.app (.one r1))) .non⟩
      · exact t.elim
    · exact t.elim
  · exact t.elim
def uExt (x : U) (us : List U) (h : Sto) : R U := match x, us with
  | .ref n, [y] => (match h[n]?, mL h y with
    | some (.lst xs), some ys => if xs.length + ys.length ≤ 16000000 then .ok .non (h.set n (.lst (xs ++ ys))) else .bad
    | _, _ => .bad)
  | _, _ => .bad
section
variable {mo : EM} {apos cpos : Pos} (ho : PE X o (tM X.K W mo)) (ha : PA X (e :: es) (aM X.K W am))
    (hfew : ((backTo cpos (starEach (e :: es) X.env)).all (fun x => !x.1) && (backToKw cpos (keywordEach [] X.env)).all (fun x => x.1.isSome)
      && decide ((e :: es).length + ([] : List Keyword).length + (if ([] : List Keyword).isEmpty then 0 else 1) < 30)) = true := by rfl)
    (hline : (apos.endLine == cpos.line) = true := by rfl) (hs : starEach (e :: es) X.env = (false, eval e X.env) :: starEach es X.env := by rfl) (hplain : (backTo cpos (starEach es X.env)).any (·.1) = false := by rfl)
include ho ha hfew hline hs hplain
theorem se_app (hbase : attributeBase o "append" X.env (eval o X.env) = eval o X.env := by rfl) : PE X (.Call (.Attribute o "append" apos) (e :: es) [] cpos) (tM X.K W (mLM uApp mo am)) :=
  PE.weak (pe_bm PySem.F.plainAttrs_list PySem.F.slot_list_append PySem.F.type_list_append mt_append ho ha hbase hfew hline hs hplain) fun σ H Q q => lm_to ok_app q
end
end
end Q

set_option Elab.async false
set_option linter.all false
set_option maxRecDepth 100000
set_option maxHeartbeats 2000000
/-! QZ: zip of two sequences, each a list or a tuple. -/
namespace QZ
open PySem PySem.Spec PyProof.Rows L2
open PySem.Sem (wp)
/-- the kind of a part: a list or a tuple -/
inductive ZK where
  | l | t
def ZK.cls : ZK → String
  | .l => "list_iterator"
  | .t => "tuple_iterator"
def ItIs (k : ZK) (h : Heap) (a p : Addr) (i : Nat) : Prop := match k with
  | .l => h.IsListIter a p i
  | .t => h.IsTupleIter a p i
def SqIs (k : ZK) (h : Heap) (p : Addr) (xs : Array Value) : Prop := match k with
  | .l => h.IsList p xs
  | .t => h.IsTuple p xs
theorem ItIs.ext {k : ZK} {h h' : Heap} {a p b : Addr} {i : Nat} (x : ItIs k h a p i) (q : Heap.ExtBut b h h') (n : a ≠ b) : ItIs k h' a p i := by
  cases k
  · exact Heap.IsListIter.extBut x q n
  · exact Heap.IsTupleIter.extBut x q n
theorem SqIs.ext {k : ZK} {h h' : Heap} {p b : Addr} {xs : Array Value} (x : SqIs k h p xs) (q : Heap.ExtBut b h h') (n : p ≠ b) : SqIs k h' p xs := by
  cases k
  · exact Heap.IsList.extBut x q n
  · exact Heap.IsTuple.extBut x q n
theorem ItIs.mv {k : ZK} {h h' : Heap} {a p : Addr} {i : Nat} (x : ItIs k h a p i) (q : ∀ o, h.get? a = some o → h'.get? a = some o) : ItIs k h' a p i := by
  cases k
  · exact Heap.IsListIter.at x q
  · exact Heap.IsTupleIter.at x q
theorem ItIs.obj {k : ZK} {h : Heap} {a p : Addr} {i : Nat} (x : ItIs k h a p i) : ∃ o, h.get? a = some o ∧ ∀ v, o.data ≠ .cell v := by
  cases k
  · obtain ⟨o, e, _, d⟩ := x; exact ⟨o, e, fun v q => by rw [d] at q; cases q⟩
  · obtain ⟨o, e, _, d⟩ := x; exact ⟨o, e, fun v q => by rw [d] at q; cases q⟩
theorem ItIs.lt {k : ZK} {h : Heap} {a p : Addr} {i : Nat} (x : ItIs k h a p i) : a < h.objs.size := by
  obtain ⟨o, e, _⟩ := x.obj; exact Heap.lt_size e
section
variable {prog : Program} {w : World} {A : Around} {E : Value → Shared → Prop} {s : Shared}
variable {k k' : ZK} {z ti to a b p q : Addr} {i j : Nat} {xs ys : Array Value} {x y u v : Value}
/-- what a turn leaves -/
def Kp (z to a b : Addr) (h h2 : Heap) : Prop := ∀ c o, c ≠ z → c ≠ to → c ≠ a → c ≠ b → h.get? c = some o → h2.get? c = some o
end
def zO1 (k : ZK) (p : Addr) : Obj := { cls := .type k.cls, data := .fields #[.ref p, .int 0 0] }
def zH2 (k k' : ZK) (h : Heap) (p q : Addr) : Heap := (h.push (zO1 k p)).push (zO1 k' q)
def zH3 (k k' : ZK) (h : Heap) (p q : Addr) : Heap := (zH2 k k' h p q).push { cls := .type "tuple", data := .seq #[.ref h.objs.size, .ref (h.push (zO1 k p)).objs.size] }
def zH4 (k k' : ZK) (h : Heap) (p q : Addr) : Heap := (zH3 k k' h p q).push { cls := .type "tuple", data := .seq #[.none, .none] }
def zH5 (k k' : ZK) (h : Heap) (p q : Addr) : Heap := (zH4 k k' h p q).push { cls := .type "zip", data := .fields #[.none, .bool false, .bool false, .ref (zH2 k k' h p q).objs.size, .ref (zH3 k k' h p q).objs.size] }
section
variable {prog : Program} {w : World} {A : Around} {E : Value → Shared → Prop} {s : Shared}
end
/-- a sequence of that kind -/
def SqK (k : ZK) (K : PySem.W.Frag) (H : Hp) (a : Addr) (xs : List V) : Prop := match k with
  | .l => SqL K H a xs
  | .t => SqT K H a xs
def ItzG (k k' : ZK) (K : PySem.W.Frag) (a b : Addr) : It :=
  ⟨fun i H => ∃ (xs ys : List V) (x y : V), SqK k K H a xs ∧ SqK k' K H b ys ∧ xs[i]? = some x ∧ ys[i]? = some y,
    fun i H v H' => ∃ T x y, v = .ref T ∧ H T = none ∧ H' = upd H T (.tup [x, y]) ∧ (∀ xs, SqK k K H a xs → xs[i]? = some x) ∧ ∀ ys, SqK k' K H b ys → ys[i]? = some y,
    fun i H => ∃ xs ys : List V, SqK k K H a xs ∧ SqK k' K H b ys ∧ (xs.length ≤ i ∨ ys.length ≤ i)⟩
def iZipG (K : PySem.W.Frag) (ta : TA) : TI := fun σ H R => ta σ H fun vs H1 => ∃ k k' a b xs ys, vs = [.ref a, .ref b] ∧ SqK k K H1 a xs ∧ SqK k' K H1 b ys ∧ R (ItzG k k' K a b) H1
end QZ

set_option Elab.async false
set_option linter.all false
set_option maxRecDepth 100000
set_option maxHeartbeats 1000000
namespace Q
open PySem PySem.Spec PyProof.Rows L2 TL
/-! ### targets -/
inductive CT where
  | one (i : Nat)
  | tup (is : List Nat)
  | lst (is : List Nat)
  | nst (i : Nat) (is : List Nat)
  | nsl (is : List Nat) (i : Nat)
def CT.ix : CT → List Nat
  | .one i => [i]
  | .tup is => is
  | .lst is => is
  | .nst i is => i :: is
  | .nsl is i => i :: is
def setA {α : Type} : List (Option α) → List Nat → List α → List (Option α)
  | e, i :: is, u :: us => setA (e.set i (some u)) is us
  | e, _, _ => e
def CT.asg (c : CT) (u : U) (env : Env') (h : Sto) : Option Env' := match c with
  | .one i => some (env.set i (some u))
  | .tup is => match u with
    | .tup us => if us.length = is.length then some (setA env is us) else none
    | _ => none
  | .lst is => match mL h u with
    | some us => if us.length = is.length then some (setA env is us) else none
    | none => none
  | .nst i is => match u with
    | .tup [x, .tup us] => if us.length = is.length then some (setA (env.set i (some x)) is us) else none
    | _ => none
  | .nsl is i => match u with
    | .tup [.tup us, x] => if us.length = is.length then some ((setA env is us).set i (some x)) else none
    | _ => none
def gAll : List Nat → TGs
  | [] => gNil
  | i :: is => gCons (gName i) (gAll is)
theorem gAll_to : ∀ (is : List Nat) (vs : List V) (σ : L2.St) (H : Hp) (Q : L2.St → Hp → Prop), vs.length = is.length → Q (setA σ is vs) H → gAll is vs σ H Q
  | [], [], σ, H, Q, _, q => ⟨rfl, q⟩
  | i :: is, v :: vs, σ, H, Q, hl, q => ⟨v, vs, rfl, gAll_to is vs (σ.set i (some v)) H Q (by simpa using hl) q⟩
  | [], _ :: _, _, _, _, hl, _ => by simp at hl
  | _ :: _, [], _, _, _, hl, _ => by simp at hl
theorem ER.setA {K : Fr} {g : G} : ∀ {is : List Nat} {vs : List V} {us : List U} {σ : L2.St} {env : Env'}, ER K g σ env → Reps K g vs us → ER K g (Q.setA σ is vs) (Q.setA env is us)
  | [], _, _, _, _, e, _ => by unfold Q.setA; exact e
  | _ :: _, _, _, _, _, e, .nil => by unfold Q.setA; exact e
  | i :: is, _, _, _, _, e, .cons h r => by unfold Q.setA; exact ER.setA (e.set i h) r
theorem wipe_get (σ : L2.St) : ∀ (vs : List Nat) (j : Nat), (wipe σ vs)[j]? = if j ∈ vs ∧ j < σ.length then some none else σ[j]?
  | [], j => by simp [wipe]
  | v :: vs, j => by
    unfold wipe
    by_cases hv : v = j
    · subst hv
      by_cases hl : v < σ.length
      · rw [List.getElem?_set_self (by rw [wipe_length]; exact hl), if_pos ⟨List.mem_cons_self, hl⟩]
      · rw [List.getElem?_eq_none (by rw [List.length_set, wipe_length]; omega), if_neg (fun z => hl z.2), List.getElem?_eq_none (by omega)]
    · rw [List.getElem?_set_ne hv, wipe_get σ vs j]
      by_cases hj : j ∈ vs ∧ j < σ.length
      · rw [if_pos hj, if_pos ⟨List.mem_cons_of_mem _ hj.1, hj.2⟩]
      · rw [if_neg hj, if_neg fun z => hj ⟨(List.mem_cons.mp z.1).resolve_left (Ne.symm hv), z.2⟩]
theorem wipe_set (σ : L2.St) (vs : List Nat) {i : Nat} (hi : i ∈ vs) (x : Option V) : wipe (σ.set i x) vs = wipe σ vs := by
  apply List.ext_getElem?
  intro j
  rw [wipe_get, wipe_get, List.length_set]
  by_cases hj : j ∈ vs ∧ j < σ.length
  · rw [if_pos hj, if_pos hj]
  · rw [if_neg hj, if_neg hj]
    by_cases e : i = j
    · subst e
      have : ¬ i < σ.length := fun z => hj ⟨hi, z⟩
      rw [List.getElem?_eq_none (by rw [List.length_set]; omega), List.getElem?_eq_none (by omega)]
    · rw [List.getElem?_set_ne e]
theorem wipe_wipe (σ : L2.St) (vs : List Nat) : wipe (wipe σ vs) vs = wipe σ vs := by
  apply List.ext_getElem?
  intro j
  rw [wipe_get, wipe_length, wipe_get]
  by_cases hj : j ∈ vs ∧ j < σ.length
  · rw [if_pos hj, if_pos hj]
  · rw [if_neg hj]
theorem wipe_setA (vs : List Nat) : ∀ (is : List Nat) (xs : List V) (σ : L2.St), (∀ i ∈ is, i ∈ vs) → wipe (setA σ is xs) vs = wipe σ vs
  | [], _, σ, _ => by unfold setA; rfl
  | _ :: _, [], σ, _ => by unfold setA; rfl
  | i :: is, x :: xs, σ, h => by
    unfold setA
    rw [wipe_setA vs is xs _ fun j hj => h j (List.mem_cons_of_mem _ hj), wipe_set σ vs (h i List.mem_cons_self)]
def wipeE (e : Env') : List Nat → Env'
  | [] => e
  | v :: vs => (wipeE e vs).set v none
section
variable {K : Fr} {g g' : G} {E : XK} {W : WX} {X : Cx} {H : Hp} {h : Sto} {v w : V} {x y : U} {σ : L2.St} {env : Env'}
theorem ER.none (e : ER K g σ env) (i : Nat) : ER K g (σ.set i none) (env.set i none) := by
  refine ⟨by simp [e.1], fun j w q => ?_⟩
  by_cases hj : i = j
  · subst hj
    by_cases hl : i < env.length
    · rw [List.getElem?_set_self hl] at q; cases q
    · rw [List.getElem?_eq_none (by simpa using hl)] at q; cases q
  · rw [List.getElem?_set_ne hj] at q
    obtain ⟨v', a, b⟩ := e.2 j w q
    exact ⟨v', by rw [List.getElem?_set_ne hj]; exact a, b⟩
theorem ER.wipe (e : ER K g σ env) : ∀ vs : List Nat, ER K g (L2.wipe σ vs) (wipeE env vs)
  | [] => e
  | v :: vs => (ER.wipe e vs).none v
/-- the targets' reading -/
def CT.rd (K : Fr) : CT → TG
  | .one i => gName i
  | .tup is => gTup K is.length (gAll is)
  | .lst is => gUnl K is.length (gAll is)
  | .nst i is => gTup K 2 (gCons (gName i) (gCons (gTup K is.length (gAll is)) gNil))
  | .nsl is i => gTup K 2 (gCons (gTup K is.length (gAll is)) (gCons (gName i) gNil))
theorem ct_to {c : CT} {u : U} {env' : Env'} {Q : L2.St → Hp → Prop} (hr : HR K g H h) (er : ER K g σ env) (rv : Rep K g v u) (e : c.asg u env h = some env')
    (k : ∀ σ', ER K g σ' env' → (∀ vs : List Nat, (∀ i ∈ c.ix, i ∈ vs) → wipe σ' vs = wipe σ vs) → Q σ' H) : c.rd K v σ H Q := by
  cases c with
  | one i =>
    cases e
    exact k _ (er.set i rv) fun vs hv => wipe_set σ vs (hv i (List.mem_singleton.mpr rfl)) _
  | tup is =>
    unfold CT.asg at e
    cases u with
    | tup us =>
      simp only at e
      split at e
      · rename_i hl
        cases e
        obtain ⟨a, vs, rfl, h1, r1⟩ := tup_of hr rv
        exact ⟨a, vs, rfl, h1, by rw [r1.len]; exact hl, gAll_to is vs σ H Q (by rw [r1.len]; exact hl) (k _ (er.setA r1) fun ws hw => wipe_setA ws is vs σ hw)⟩
      · cases e
    | _ => cases e
  | lst is =>
    unfold CT.asg at e
    cases em : mL h u with
    | none => simp [em] at e
    | some us =>
      simp only [em] at e
      split at e
      · rename_i hl
        cases e
        obtain ⟨a, vs, rfl, h1, r1⟩ := mL_of hr rv em
        exact ⟨a, vs, rfl, .inl (.inl h1), by rw [r1.len]; exact hl, gAll_to is vs σ H Q (by rw [r1.len]; exact hl) (k _ (er.setA r1) fun ws hw => wipe_setA ws is vs σ hw)⟩
      · cases e
  | nst i is =>
    unfold CT.asg at e
    simp only at e
    split at e
    · rename_i x us
      split at e
      · rename_i hl
        cases e
        obtain ⟨a, vs, rfl, h1, r1⟩ := tup_of hr rv
        cases r1 with
        | cons ra rb =>
        cases rb with
        | cons rc rd =>
        cases rd
        obtain ⟨a2, vs2, rfl, h2, r2⟩ := tup_of hr rc
        refine ⟨a, _, rfl, h1, rfl, _, _, rfl, _, _, rfl, a2, vs2, rfl, h2, by rw [r2.len]; exact hl, gAll_to is vs2 _ H _ (by rw [r2.len]; exact hl) ⟨rfl, k _ ((er.set i ra).setA r2) fun ws hw => ?_⟩⟩
        rw [wipe_setA ws is vs2 _ fun j hj => hw j (List.mem_cons_of_mem _ hj), wipe_set σ ws (hw i List.mem_cons_self)]
      · cases e
    · cases e
  | nsl is i =>
    unfold CT.asg at e
    simp only at e
    split at e
    · rename_i us x
      split at e
      · rename_i hl
        cases e
        obtain ⟨a, vs, rfl, h1, r1⟩ := tup_of hr rv
        cases r1 with
        | cons ra rb =>
        cases rb with
        | cons rc rd =>
        cases rd
        obtain ⟨a2, vs2, rfl, h2, r2⟩ := tup_of hr ra
        refine ⟨a, _, rfl, h1, rfl, _, _, rfl, a2, vs2, rfl, h2, by rw [r2.len]; exact hl, gAll_to is vs2 _ H _ (by rw [r2.len]; exact hl) ⟨_, _, rfl, rfl, k _ ((er.setA r2).set i rc) fun ws hw => ?_⟩⟩
        rw [wipe_set _ ws (hw i List.mem_cons_self), wipe_setA ws is vs2 _ fun j hj => hw j (List.mem_cons_of_mem _ hj)]
      · cases e
    · cases e
end

/-! ### what is walked -/
abbrev Chk := List (Nat × List U)
def chkOk (c : Chk) (h : Sto) : Prop := ∀ p ∈ c, h[p.1]? = some (.lst p.2)
abbrev IM' := Env' → Sto → R (Chk × List U)
structure ItOk (K : Fr) (g : G) (J : It) (c : Chk) (us : List U) : Prop where
  go : ∀ g' H h i, Le g g' → HR K g' H h → chkOk c h → i < us.length → J.go i H
  stop : ∀ g' H h, Le g g' → HR K g' H h → chkOk c h → J.stop us.length H
  yl : ∀ g' H h i x H', Le g g' → HR K g' H h → chkOk c h → i < us.length → J.yld i H x H' → ∃ g2 u, Le g' g2 ∧ HR K g2 H' h ∧ us[i]? = some u ∧ Rep K g2 x u
def WI (K : Fr) (E : XK) (g : G) (r : R (Chk × List U)) (P : It → Hp → Prop) : Prop := match r with
  | .ok (c, us) h' => ∀ J H' g', Le g g' → HR K g' H' h' → ItOk K g' J c us → P J H'
  | .exc C n h => ∀ H g' d, Le g g' → HR K g' H h → DOf g' n d → E (.ref C) d H
  | .bad => False
def iM (K : Fr) (W : WX) (m : IM') : TI := fun σ H P => ∃ g env h, HR K g H h ∧ ER K g σ env ∧ WI K (atSl W σ) g (m env h) P
section
variable {K : Fr} {g g' : G} {E : XK} {W : WX} {X : Cx} {H : Hp} {h : Sto} {v w : V} {x y : U} {σ : L2.St} {env : Env'} {a b c e o tg : Expr} {es rest : List Expr} {ma mb mc me : EM} {ta tb : TM} {pos : Pos} {am : AM} {n : Str} {p : Pos}
theorem PI.weak {tg iter : Expr} {t t' : TI} (p : PI X tg iter t) (h : ∀ σ H Q, t' σ H Q → t σ H Q) : PI X tg iter t' := ⟨fun pins s σ H Q I q => p.run pins s σ H Q I (h σ H Q q)⟩
theorem WI.mono {r : R (Chk × List U)} {P : It → Hp → Prop} (l : Le g g') (w : WI K E g r P) : WI K E g' r P := by
  cases r with
  | ok u h => exact fun J H g2 l2 => w J H g2 (l.trans l2)
  | exc C n h => exact fun H g2 d l2 => w H g2 d (l.trans l2)
  | bad => exact w
theorem wAI {r : R (List U)} {f : List U → Sto → R (Chk × List U)} {P : List V → Hp → Prop} {Q : It → Hp → Prop} (t : WI K E g (r.bind f) Q)
    (k : ∀ us h v H g', Le g g' → HR K g' H h → Reps K g' v us → WI K E g' (f us h) Q → P v H) : WA K E g r P := by
  cases r with
  | bad => exact t
  | exc C n h => exact t
  | ok us h1 => exact fun v H1 g1 l1 hr1 rv => k us h1 v H1 g1 l1 hr1 rv (WI.mono l1 t)
theorem wEI {r : R U} {f : U → Sto → R (Chk × List U)} {P : VK} {Q : It → Hp → Prop} (t : WI K E g (r.bind f) Q)
    (k : ∀ us h v H g', Le g g' → HR K g' H h → Rep K g' v us → WI K E g' (f us h) Q → P v H) : WE K E g r P := by
  cases r with
  | bad => exact t
  | exc C n h => exact t
  | ok us h1 => exact fun v H1 g1 l1 hr1 rv => k us h1 v H1 g1 l1 hr1 rv (WI.mono l1 t)
/-- lo, lo + 1, .. -/
def rng (lo : Int) (n : Nat) : List U := (List.range n).map fun i => .int (lo + (i : Nat))
theorem rng_len (lo : Int) (n : Nat) : (rng lo n).length = n := by simp [rng]
theorem rng_get {lo : Int} {n i : Nat} (h : i < n) : (rng lo n)[i]? = some (.int (lo + (i : Nat))) := by simp [rng, h]
theorem it_range {lo : Int} {n : Nat} : ItOk K g (Itr lo n) [] (rng lo n) where
  go := fun _ _ _ i _ _ _ hi => by rw [rng_len] at hi; exact hi
  stop := fun _ _ _ _ _ _ => by rw [rng_len]; exact Nat.le_refl _
  yl := fun g' H h i x H' _ hr _ hi y => by
    rw [rng_len] at hi
    obtain ⟨rfl, rfl⟩ := y
    exact ⟨g', _, Le.refl _, hr, rng_get hi, .int _⟩
def itR1 (am : AM) : IM' := fun env h => (am env h).bind fun us h1 => match us with
  | [.int j] => if -1000000000 ≤ j ∧ j ≤ 1000000000 then .ok ([], rng 0 j.toNat) h1 else .bad
  | _ => .bad
def itR2 (am : AM) : IM' := fun env h => (am env h).bind fun us h1 => match us with
  | [.int i, .int j] => if (-1000000000 ≤ i ∧ i ≤ 1000000000) ∧ (-1000000000 ≤ j ∧ j ≤ 1000000000) then .ok ([], rng i (j - i).toNat) h1 else .bad
  | _ => .bad
theorem si_r1 (hg : Gl X "range") (hm : X.mg "range" = none) (ha : PA X [a] (aM K W am)) (hs : starEach [a] X.env = [(false, eval a X.env)] := by rfl) : PI X tg (.Call (.Name "range" p) [a] [] pos) (iM K W (itR1 am)) :=
  PI.weak (pi_range1 hg hm ha hs) fun σ H Q ⟨g, env, h, hr, er, w⟩ => ⟨g, env, h, hr, er, wAI w fun us h1 v H1 g1 l1 hr1 rv w1 => by
    split at w1
    · split at w1
      · rename_i z
        cases rv with
        | cons r1 r2 =>
          cases r2
          cases r1
          exact ⟨_, rfl, by omega, by omega, w1 _ H1 g1 (Le.refl _) hr1 it_range⟩
      · exact w1.elim
    · exact w1.elim⟩
theorem si_r2 (hg : Gl X "range") (hm : X.mg "range" = none) (ha : PA X [a, b] (aM K W am)) (hs : starEach [a, b] X.env = [(false, eval a X.env), (false, eval b X.env)] := by rfl) (hs2 : starEach [b] X.env = [(false, eval b X.env)] := by rfl) : PI X tg (.Call (.Name "range" p) [a, b] [] pos) (iM K W (itR2 am)) :=
  PI.weak (pi_range2 hg hm ha hs hs2) fun σ H Q ⟨g, env, h, hr, er, w⟩ => ⟨g, env, h, hr, er, wAI w fun us h1 v H1 g1 l1 hr1 rv w1 => by
    split at w1
    · split at w1
      · rename_i z
        cases rv with
        | cons r1 r2 =>
          cases r2 with
          | cons r2 r3 =>
            cases r3
            cases r1
            cases r2
            exact ⟨_, _, rfl, by omega, w1 _ H1 g1 (Le.refl _) hr1 it_range⟩
      · exact w1.elim
    · exact w1.elim⟩
/-- a list, a tuple, a text -/
def chkOf (x : U) (us : List U) : Chk := match x with
  | .ref n => [(n, us)]
  | _ => []
def itE (a : EM) : IM' := fun env h => (a env h).bind fun x h1 => match x with
  | .str s => .ok ([], s.map fun c => .str [c]) h1
  | x => match sL h1 x with
    | some us => .ok (chkOf x us, us) h1
    | none => .bad
/-- an iterable by its value: a list, a tuple or a text -/
def iAny (K : Fr) (tl : TE) : TI := fun σ H P => tl σ H fun x H1 => (∃ a, x = .ref a ∧ (∃ xs, SqL K H1 a xs) ∧ P (Itl K a) H1) ∨ (∃ a, x = .ref a ∧ (∃ xs, SqT K H1 a xs) ∧ P (Itt K a) H1) ∨ ∃ z, x = .str z ∧ P (Its z) H1
theorem pi_any {l : Expr} {tl : TE} (hl : PE X l tl) : PI X tg l (iAny X.K tl) := by
  refine ⟨fun pins s σ H R I h => ?_⟩
  refine thn (hl.run pins s σ H _ I h) fun v s1 ⟨x, H1, I1, r1, q1⟩ => ?_
  rcases q1 with q1 | q1 | q1
  · obtain ⟨a, e, ⟨xs, hq⟩, q⟩ := q1
    subst e
    cases r1
    obtain ⟨its, rv, p, hz⟩ := I1.list hq
    refine wpAny_pyIter_list p.isList ?_
    refine ⟨s1.heap.objs.size, [s1.heap.objs.size], _, _, H1, rfl, I1.kept (t' := s1.toks) fun b o e => Heap.get?_push_of_some _ e, turn_list a _, ⟨_, Heap.get?_push_size _ rfl, rfl, rfl⟩, fun b hb => ?_, q⟩
    have e : b = s1.heap.objs.size := by simpa using hb
    subst e
    exact I1.fpOk (Nat.le_refl _) (I1.hok.fresh (Nat.le_refl _))
  · obtain ⟨a, e, ⟨xs, hq⟩, q⟩ := q1
    subst e
    cases r1
    obtain ⟨its, rv, p, hz⟩ := I1.tuple hq
    refine wpAny_pyIter_tuple (show s1.heap.IsTuple a its.toArray from p) ?_
    refine ⟨s1.heap.objs.size, [s1.heap.objs.size], _, _, H1, rfl, I1.kept (t' := s1.toks) fun b o e => Heap.get?_push_of_some _ e, turn_tuple a _, ⟨_, Heap.get?_push_size _ rfl, rfl, rfl⟩, fun b hb => ?_, q⟩
    have e : b = s1.heap.objs.size := by simpa using hb
    subst e
    exact I1.fpOk (Nat.le_refl _) (I1.hok.fresh (Nat.le_refl _))
  · obtain ⟨z, ex, q⟩ := q1
    subst ex
    obtain ⟨t, rfl⟩ := r1
    cases ha : z.cps.all (· < 128)
    · exact wpAny_pyIter_wide ha (pi_one (tk := s1.toks) I1 _ (turn_str _ z t "str_iterator" (.inr rfl)) ⟨_, Heap.get?_push_size _ rfl, rfl, rfl⟩ q)
    · exact wpAny_pyIter_ascii ha (pi_one (tk := s1.toks) I1 _ (turn_str _ z t "str_ascii_iterator" (.inl rfl)) ⟨_, Heap.get?_push_size _ rfl, rfl, rfl⟩ q)
theorem it_L {a : Addr} {vs : List V} {us : List U} (q : SqL K g.F a vs) (r : Reps K g vs us) : ItOk K g (Itl K a) [] us where
  go := fun g' H h i l hr _ hi => by
    have hv : i < vs.length := by rw [r.len]; exact hi
    exact ⟨vs, vs[i], hr.sqL (sql_mono l.F q), by simp [hv]⟩
  stop := fun g' H h l hr _ => ⟨vs, hr.sqL (sql_mono l.F q), by rw [r.len]; exact Nat.le_refl _⟩
  yl := fun g' H h i x H' l hr _ hi y => by
    obtain ⟨rfl, y⟩ := y
    have hx := y vs (hr.sqL (sql_mono l.F q))
    obtain ⟨u, hu, ru⟩ := r.getV hx
    exact ⟨g', u, Le.refl _, hr, hu, ru.mono l⟩
theorem it_T {a : Addr} {vs : List V} {us : List U} (q : SqT K g.F a vs) (r : Reps K g vs us) : ItOk K g (Itt K a) [] us where
  go := fun g' H h i l hr _ hi => by
    have hv : i < vs.length := by rw [r.len]; exact hi
    exact ⟨vs, vs[i], hr.sqT (sqt_mono l.F q), by simp [hv]⟩
  stop := fun g' H h l hr _ => ⟨vs, hr.sqT (sqt_mono l.F q), by rw [r.len]; exact Nat.le_refl _⟩
  yl := fun g' H h i x H' l hr _ hi y => by
    obtain ⟨rfl, y⟩ := y
    have hx := y vs (hr.sqT (sqt_mono l.F q))
    obtain ⟨u, hu, ru⟩ := r.getV hx
    exact ⟨g', u, Le.refl _, hr, hu, ru.mono l⟩
theorem it_ref {a : Addr} {n : Nat} {us : List U} (q : g.al[n]? = some a) : ItOk K g (Itl K a) [(n, us)] us where
  go := fun g' H h i l hr ck hi => by
    obtain ⟨vs, h1, h2⟩ := hr.ob n a _ (l.get q) (ck (n, us) (List.mem_singleton.mpr rfl))
    have hv : i < vs.length := by rw [h2.len]; exact hi
    exact ⟨vs, vs[i], .inl (.inl h1), by simp [hv]⟩
  stop := fun g' H h l hr ck => by
    obtain ⟨vs, h1, h2⟩ := hr.ob n a _ (l.get q) (ck (n, us) (List.mem_singleton.mpr rfl))
    exact ⟨vs, .inl (.inl h1), by rw [h2.len]; exact Nat.le_refl _⟩
  yl := fun g' H h i x H' l hr ck hi y => by
    obtain ⟨vs, h1, h2⟩ := hr.ob n a _ (l.get q) (ck (n, us) (List.mem_singleton.mpr rfl))
    obtain ⟨rfl, y⟩ := y
    obtain ⟨u, hu, ru⟩ := h2.getV (y vs (.inl (.inl h1)))
    exact ⟨g', u, Le.refl _, hr, hu, ru⟩
theorem it_str {s : List Nat} : ItOk K g (Its ⟨s.toArray⟩) [] (s.map fun c => .str [c]) where
  go := fun g' H h i l hr _ hi => by simpa [Its] using hi
  stop := fun g' H h l hr _ => by simp [Its]
  yl := fun g' H h i x H' l hr _ hi y => by
    obtain ⟨rfl, c, hc, rfl⟩ := y
    refine ⟨g', .str [c], Le.refl _, hr, ?_, .str [c]⟩
    have hc : s[i]? = some c := by simpa using hc
    simp [hc]
theorem si_e (he : PE X e (tM X.K W me)) : PI X tg e (iM X.K W (itE me)) :=
  PI.weak (pi_any he) fun σ H Q ⟨g, env, h, hr, er, w⟩ => ⟨g, env, h, hr, er, wEI w fun u h1 v H1 g1 l1 hr1 rv w1 => by
    cases rv with
    | str s => exact .inr (.inr ⟨_, rfl, w1 _ H1 g1 (Le.refl _) hr1 it_str⟩)
    | tup q r => exact .inr (.inl ⟨_, rfl, ⟨_, hr1.sqT q⟩, w1 _ H1 g1 (Le.refl _) hr1 (it_T q r)⟩)
    | fl q r => exact .inl ⟨_, rfl, ⟨_, .inl (.inl (hr1.ex _ _ q))⟩, w1 _ H1 g1 (Le.refl _) hr1 (it_L (.inl (.inl q)) r)⟩
    | kl q r => exact .inl ⟨_, rfl, ⟨_, hr1.sqL q⟩, w1 _ H1 g1 (Le.refl _) hr1 (it_L q r)⟩
    | @ref a n q =>
      have w1 : WI X.K (atSl W σ) g1 (match sL h1 (.ref n) with
        | some us => (R.ok (chkOf (.ref n) us, us) h1 : R (Chk × List U))
        | none => .bad) Q := w1
      cases es : sL h1 (.ref n) with
      | none => rw [es] at w1; exact w1.elim
      | some us =>
        rw [es] at w1
        obtain ⟨b, vs, hb, h2, r2⟩ := mL_of hr1 (.ref q) (show mL h1 (.ref n) = _ from es)
        cases hb
        exact .inl ⟨_, rfl, ⟨vs, .inl (.inl h2)⟩, w1 _ H1 g1 (Le.refl _) hr1 (it_ref q)⟩
    | _ => exact w1.elim⟩
/-- pairs of the turn and the item; of two lists -/
def pairs (xs ys : List U) : List U := (xs.zip ys).map fun p => .tup [p.1, p.2]
/-- where a list lies: what it holds as long as it is not touched -/
structure LsOk (K : Fr) (g : G) (a : Addr) (c : Chk) (us : List U) : Prop where
  is : ∀ g' H h, Le g g' → HR K g' H h → chkOk c h → ∃ vs, SqL K H a vs ∧ Reps K g' vs us
structure LzOk (K : Fr) (g : G) (k : QZ.ZK) (a : Addr) (c : Chk) (us : List U) : Prop where
  is : ∀ g' H h, Le g g' → HR K g' H h → chkOk c h → ∃ vs, QZ.SqK k K H a vs ∧ Reps K g' vs us
def itZ (am : AM) : IM' := fun env h => (am env h).bind fun us h1 => match us with
  | [x, y] => (match sL h1 x, sL h1 y with
    | some us, some ts => .ok (chkOf x us ++ chkOf y ts, pairs us ts) h1
    | _, _ => .bad)
  | _ => .bad
def itN (am : AM) : IM' := fun env h => (am env h).bind fun us h1 => match us with
  | [x] => (match aL h1 x with
    | some us => .ok (chkOf x us, pairs (rng 0 us.length) us) h1
    | _ => .bad)
  | _ => .bad
variable {tpos : Pos} {elts : List Expr} {kk : Nat}
end
end Q

set_option Elab.async false
set_option linter.all false
set_option maxRecDepth 100000
set_option maxHeartbeats 1000000
namespace Q
open PySem PySem.Spec PyProof.Rows L2 TL
/-! ### statements -/
def mNx : SM := fun env h => .nx env h
def mSeq (a b : SM) : SM := fun env h => match a env h with
  | .nx e h1 => b e h1
  | r => r
def gCT (c : CT) (u : U) (env : Env') (h : Sto) : RS := match c.asg u env h with
  | some e => .nx e h
  | none => .bad
/-- a statement goes on with what a part gives -/
def R.st {α : Type} (r : R α) (env : Env') (f : α → Sto → RS) : RS := match r with
  | .ok a h => f a h
  | .exc C n h => .ex C n env h
  | .bad => .bad
def mAsg (c : CT) (a : EM) : SM := fun env h => (a env h).st env fun u h1 => gCT c u env h1
def mRet (a : EM) : SM := fun env h => (a env h).st env fun u h1 => .rt u h1
def mRetN : SM := fun _ h => .rt .non h
def mDrop (a : EM) : SM := fun env h => (a env h).st env fun _ h1 => .nx env h1
def mIfS (t : TM) (a b : SM) : SM := fun env h => (t env h).st env fun c h1 => if c = true then a env h1 else b env h1
def mBrk : SM := fun env h => .bk env h
def mCnt : SM := fun env h => .ct env h
section
variable {K : Fr} {g g' : G} {E : XK} {W : WX} {X : Cx} {H : Hp} {h : Sto} {v w : V} {x y : U} {σ : L2.St} {env : Env'} {a b c e o tg : Expr} {es rest : List Expr} {ma mb mc me mo : EM} {ta tb : TM} {pos : Pos} {am : AM} {n : Str} {p : Pos}
  {st : Stmt} {sts : List Stmt} {m m1 m2 : SM}
theorem ss_nil : PSs X [] (sM K W mNx) := PSs.weak pss_nil fun D σ H ⟨g, env, h, hr, er, w⟩ => w σ H g (Le.refl _) hr er
theorem ss_cons (h1 : PS X st (sM K W m1)) (h2 : PSs X sts (sM K W m2)) : PSs X (st :: sts) (sM K W (mSeq m1 m2)) :=
  PSs.weak (pss_cons h1 h2) fun D σ H ⟨g, env, h, hr, er, w⟩ => ⟨g, env, h, hr, er, by
    unfold mSeq at w
    cases e1 : m1 env h with
    | nx e h1 =>
      rw [e1] at w
      exact fun σ1 H1 g1 l1 hr1 er1 => ⟨g1, e, h1, hr1, er1, WS.mono l1 w⟩
    | rt u h1 => rw [e1] at w; exact w
    | bk e h1 => rw [e1] at w; exact w
    | ct e h1 => rw [e1] at w; exact w
    | ex C n e h => rw [e1] at w; exact w
    | bad => rw [e1] at w; exact w⟩
theorem ss_one (h1 : PS X st (sM K W m)) : PSs X [st] (sM K W m) := pss_one h1
theorem wAsg {r : R U} {f : U → Sto → RS} {D : Ends} {P : VK} (er : ER K g σ env) (t : WS K W g (r.st env f) D) (k : ∀ u h v H g', Le g g' → HR K g' H h → Rep K g' v u → WS K W g' (f u h) D → P v H) : WE K (atSl W σ) g r P := by
  cases r with
  | bad => exact t
  | exc C n h => exact fun H g' d l hr q => t σ H g' d l hr (er.mono l) q
  | ok u h => exact fun v H g' l hr rv => k u h v H g' l hr rv (WS.mono l t)
theorem wTst {r : R Bool} {f : Bool → Sto → RS} {D : Ends} {P : Bool → Hp → Prop} (er : ER K g σ env) (t : WS K W g (r.st env f) D) (k : ∀ u h H g', Le g g' → HR K g' H h → WS K W g' (f u h) D → P u H) : WT K (atSl W σ) g r P := by
  cases r with
  | bad => exact t
  | exc C n h => exact fun H g' d l hr q => t σ H g' d l hr (er.mono l) q
  | ok u h => exact fun H g' l hr => k u h H g' l hr (WS.mono l t)
theorem gct_to {ct : CT} {D : Ends} {u : U} (hr : HR K g H h) (er : ER K g σ env) (rv : Rep K g v u) (w : WS K W g (gCT ct u env h) D) : ct.rd K v σ H D.nx := by
  unfold gCT at w
  cases e : ct.asg u env h with
  | none => rw [e] at w; exact w.elim
  | some env' =>
    rw [e] at w
    exact ct_to hr er rv e fun σ' er' _ => w σ' H g (Le.refl _) hr er'
theorem asg_to {ct : CT} {D : Ends} (q : sM K W (mAsg ct ma) D σ H) : tAsg (tM K W ma) (ct.rd K) D σ H := by
  obtain ⟨g, env, h, hr, er, w⟩ := q
  exact ⟨g, env, h, hr, er, wAsg er w fun u h1 v H1 g1 l1 hr1 rv w1 => gct_to hr1 (er.mono l1) rv w1⟩
theorem ss_set {i : Nat} {x : Str} {pos' : Pos} (hN : X.N.Nodup) (hi : X.N[i]? = some x) (hx : L2.Loc X.env.scope x) (he : PE X e (tM K W me)) (hs : swapsWith e (some (.Name x pos')) pos.line X.env = pure false := by rfl)
    (hf : X.fn x = true ∨ X.env.scope.names.lookup x = some .local := by first | exact .inl rfl | exact .inr rfl | assumption) : PS X (.Assign [.Name x pos'] e pos) (sM K W (mAsg (.one i) me)) :=
  PS.weak (ps_set hN hi hx he hs hf) fun D σ H q => asg_to q
theorem ss_ret (he : PE X e (tM K W me)) : PS X (.Return (some e) pos) (sM K W (mRet me)) :=
  PS.weak (ps_ret he) fun D σ H ⟨g, env, h, hr, er, w⟩ => ⟨g, env, h, hr, er, wAsg er w fun u h1 v H1 g1 l1 hr1 rv w1 => w1 v H1 g1 (Le.refl _) hr1 rv⟩
theorem ss_expr (he : PE X e (tM K W me)) (hs : swapsWith e none pos.line X.env = pure false := by rfl) : PS X (.Expr e pos) (sM K W (mDrop me)) :=
  PS.weak (ps_expr he hs) fun D σ H ⟨g, env, h, hr, er, w⟩ => ⟨g, env, h, hr, er, wAsg er w fun u h1 v H1 g1 l1 hr1 rv w1 => w1 σ H1 g1 (Le.refl _) hr1 (er.mono l1)⟩
theorem ss_if {sa sb : List Stmt} (hc : PT X c (bM K W ta)) (ha : PSs X sa (sM K W m1)) (hb : PSs X sb (sM K W m2)) : PS X (.If c sa sb pos) (sM K W (mIfS ta m1 m2)) :=
  PS.weak (ps_if hc ha hb) fun D σ H ⟨g, env, h, hr, er, w⟩ => ⟨g, env, h, hr, er, wTst er w fun k h1 H1 g1 l1 hr1 w1 => by
      cases k with
      | true => exact ⟨g1, env, h1, hr1, er.mono l1, w1⟩
      | false => exact ⟨g1, env, h1, hr1, er.mono l1, w1⟩⟩
/-! ### for -/
open Classical in
noncomputable def forL (c : Chk) (ct : CT) (mb : SM) : List U → Env' → Sto → RS
  | [], env, h => if chkOk c h then .nx env h else .bad
  | u :: us, env, h => if chkOk c h then (match ct.asg u env h with
      | some env1 => (match mb env1 h with
        | .nx e h1 => forL c ct mb us e h1
        | .ct e h1 => forL c ct mb us e h1
        | .bk e h1 => .nx e h1
        | r => r)
      | none => .bad) else .bad
noncomputable def mFor (mi : IM') (ct : CT) (mb : SM) : SM := fun env h => (mi env h).st env fun z h1 => forL z.1 ct mb z.2 env h1
theorem for_to {J : It} {c : Chk} {us : List U} {ct : CT} {mb : SM} {tb' : TS} {D : Ends} (hb : ∀ D σ H, sM K W mb D σ H → tb' D σ H) (hr : HR K g H h) (er : ER K g σ env) (ok : ItOk K g J c us) (w : WS K W g (forL c ct mb us env h) D) :
    ∃ W : Nat → Nat → L2.St → Hp → Prop, (∃ m, W 0 m σ H) ∧ ∀ i m σ H, W i m σ H →
      (J.stop i H ∧ D.nx σ H) ∨ (J.go i H ∧ ∃ N : L2.St → Hp → Prop, (∀ σ' H', N σ' H' → ∃ m', m' < m ∧ W (i + 1) m' σ' H') ∧ ∀ x H', J.yld i H x H' → ct.rd K x σ H' fun σ2 H2 => tb' { D with nx := N, ct := N, bk := D.nx } σ2 H2) := by
  refine ⟨fun i m σ H => m = us.length - i ∧ i ≤ us.length ∧ ∃ g' env h, Le g g' ∧ HR K g' H h ∧ ER K g' σ env ∧ WS K W g' (forL c ct mb (us.drop i) env h) D, ⟨us.length, by simp, Nat.zero_le _, g, env, h, Le.refl _, hr, er, w⟩, ?_⟩
  rintro i m σ H ⟨rfl, hi, g', env, h, l, hr, er, w⟩
  by_cases hlt : i < us.length
  · rw [List.drop_eq_getElem_cons hlt] at w
    unfold forL at w
    split at w
    · rename_i ck
      refine .inr ⟨ok.go g' H h i l hr ck hlt, fun σ' H' => i + 1 ≤ us.length ∧ ∃ g2 env h, Le g g2 ∧ HR K g2 H' h ∧ ER K g2 σ' env ∧ WS K W g2 (forL c ct mb (us.drop (i + 1)) env h) D, fun σ' H' q => ⟨us.length - (i + 1), by omega, rfl, q⟩, fun x H' y => ?_⟩
      obtain ⟨g2, u, l2, hr2, hu, ru⟩ := ok.yl g' H h i x H' l hr ck hlt y
      have eu : us[i] = u := by
        rw [List.getElem?_eq_getElem hlt] at hu
        exact Option.some.inj hu
      rw [eu] at w
      cases ea : ct.asg u env h with
      | none => rw [ea] at w; exact w.elim
      | some env1 =>
        rw [ea] at w
        refine ct_to hr2 (er.mono l2) ru ea fun σ2 er2 _ => hb _ _ _ ⟨g2, env1, h, hr2, er2, ?_⟩
        have w := WS.mono l2 w
        simp only at w
        cases eb : mb env1 h with
        | bad => rw [eb] at w; exact w
        | ex C n e h => rw [eb] at w; exact w
        | rt u h1 => rw [eb] at w; exact w
        | bk e h1 => rw [eb] at w; exact w
        | nx e h1 => rw [eb] at w; exact fun σ3 H3 g3 l3 hr3 er3 => ⟨hlt, g3, e, h1, (l.trans l2).trans l3, hr3, er3, WS.mono l3 w⟩
        | ct e h1 => rw [eb] at w; exact fun σ3 H3 g3 l3 hr3 er3 => ⟨hlt, g3, e, h1, (l.trans l2).trans l3, hr3, er3, WS.mono l3 w⟩
    · exact w.elim
  · have e : i = us.length := by omega
    subst e
    rw [List.drop_length] at w
    unfold forL at w
    split at w
    · rename_i ck
      exact .inl ⟨ok.stop g' H h l hr ck, w σ H g' (Le.refl _) hr er⟩
    · exact w.elim
variable {mi : IM'} {ct : CT} {iter : Expr} {body : List Stmt} {mbs : SM}
theorem ss_for (hp : PassesOwn (model X.prog X.w) X.A X.env X.xe) (hc : X.calm = true) (hi : PI X tg iter (iM X.K W mi)) (hg : PG X tg (ct.rd X.K)) (hb : PSs X body (sM X.K W mbs)) (hs : ∀ x, foldedSetIterable iter X.env x = pure x := by intro _; rfl) :
    PS X (.For tg iter body [] pos) (sM X.K W (mFor mi ct mbs)) :=
  PS.weak (ps_for hp hc hi hg hb hs) fun D σ H ⟨g, env, h, hr, er, w⟩ => ⟨g, env, h, hr, er, by
    unfold mFor at w
    cases e : mi env h with
    | bad => rw [e] at w; exact w
    | exc C n h => rw [e] at w; exact fun H g' d l hr q => w σ H g' d l hr (er.mono l) q
    | ok z h1 =>
      obtain ⟨c, us⟩ := z
      rw [e] at w
      exact fun J H1 g1 l1 hr1 ok => for_to (fun _ _ _ q => q) hr1 (er.mono l1) ok (WS.mono l1 w)⟩
theorem pg_one {i : Nat} {x : Str} (hN : X.N.Nodup) (hi : X.N[i]? = some x) (hx : L2.Loc X.env.scope x) (hf : X.fn x = true ∨ X.env.scope.names.lookup x = some .local := by first | exact .inl rfl | exact .inr rfl | assumption) : PG X (.Name x pos) ((CT.one i).rd K) := pg_name hN hi hx hf
theorem pg_tupA {is : List Nat} {elts : List Expr} {kk : Nat} (hc : X.calm = true) (hg : PGs X elts (gAll is)) (hn : (assignEach elts X.env).length = is.length := by rfl) (hst : (assignEach elts X.env).findIdx? (·.1) = none := by rfl) : PG X (.Tuple elts kk pos) ((CT.tup is).rd X.K) := pg_tup hc hg hn hst
theorem pgs_n : PGs X [] (gAll []) := pgs_nil
theorem pgs_c {i : Nat} {x : Str} {is : List Nat} {es : List Expr} (hN : X.N.Nodup) (hi : X.N[i]? = some x) (hx : L2.Loc X.env.scope x) (h2 : PGs X es (gAll is)) (hf : X.fn x = true ∨ X.env.scope.names.lookup x = some .local := by first | exact .inl rfl | exact .inr rfl | assumption)
    (hs : (assignEach (.Name x pos :: es) X.env).map (·.2) = assign (.Name x pos) X.env :: (assignEach es X.env).map (·.2) := by rfl) : PGs X (.Name x pos :: es) (gAll (i :: is)) := pgs_cons (pg_name hN hi hx hf) h2 hs
/-! ### while -/
def whL (t : TM) (mb : SM) : Nat → Env' → Sto → RS
  | 0, _, _ => .bad
  | n + 1, env, h => (t env h).st env fun c h1 => if c = true then (match mb env h1 with
      | .nx e h2 => whL t mb n e h2
      | .ct e h2 => whL t mb n e h2
      | .bk e h2 => .nx e h2
      | r => r) else .nx env h1
def mWhile (n : Nat) (t : TM) (mb : SM) : SM := fun env h => whL t mb n env h
/-! ### comprehensions -/
/-- nothing may be raised here -/
def R.no {α : Type} (r : R α) : R α := match r with
  | .ok a h => .ok a h
  | _ => .bad
abbrev W0 : WX := fun _ _ _ _ => False
open Classical in
noncomputable def lcL (c : Chk) (ct : CT) (t : TM) (me : EM) (n : Nat) (env : Env') : List U → Sto → R U
  | [], h => if chkOk c h then .ok (.ref n) h else .bad
  | u :: us, h => if chkOk c h then (match ct.asg u env h with
      | some env1 => (t env1 h).no.bind fun b h1 => if b = true then (me env1 h1).no.bind fun y h2 => (match h2[n]? with
          | some (.lst acc) => if acc.length < 16000000 then lcL c ct t me n env us (h2.set n (.lst (acc ++ [y]))) else .bad
          | _ => .bad) else lcL c ct t me n env us h1
      | none => .bad) else .bad
noncomputable def mLc (mi : IM') (ct : CT) (t : TM) (me : EM) (vs : List Nat) : EM := fun env h => (mi env h).bind fun z h1 => lcL z.1 ct t me h1.length (wipeE env vs) z.2 (h1 ++ [.lst []])
def bYes : TM := fun _ h => .ok true h
theorem wTno {r : R Bool} {f : Bool → Sto → R U} {Q : VK} {E' : XK} {P : Bool → Hp → Prop} (t : WE K E g (r.no.bind f) Q) (k : ∀ u h H g', Le g g' → HR K g' H h → WE K E g' (f u h) Q → P u H) : WT K E' g r P := by
  cases r with
  | bad => exact t
  | exc C n h => exact t.elim
  | ok u h => exact fun H g' l hr => k u h H g' l hr (WE.mono l t)
theorem wEno {r : R U} {f : U → Sto → R U} {Q P : VK} {E' : XK} (t : WE K E g (r.no.bind f) Q) (k : ∀ u h v H g', Le g g' → HR K g' H h → Rep K g' v u → WE K E g' (f u h) Q → P v H) : WE K E' g r P := by
  cases r with
  | bad => exact t
  | exc C n h => exact t.elim
  | ok u h => exact fun v H g' l hr rv => k u h v H g' l hr rv (WE.mono l t)
theorem lc_to {J : It} {c : Chk} {us : List U} {Q : VK} {vs : List Nat} {tt : TT} {te : TE} {H1 : Hp} {h1 : Sto} {env : Env'} {D : Addr} (hct : ∀ i ∈ ct.ix, i ∈ vs) (ht : ∀ σ H Q, bM K W0 ta σ H Q → tt σ H Q) (he : ∀ σ H Q, tM K W0 me σ H Q → te σ H Q)
    (hr : HR K g H1 h1) (er : ER K g σ env) (ok : ItOk K g J c us) (hD : H1 D = none) (w : WE K E g (lcL c ct ta me h1.length (wipeE env vs) us (h1 ++ [.lst []])) Q) :
    ∃ W : Nat → Nat → Hp → Prop, (∃ m, W 0 m (upd H1 D (.lst []))) ∧ ∀ i m H, W i m H →
      (J.stop i H ∧ Q (.ref D) H) ∨ (J.go i H ∧ ∃ Nx : Hp → Prop, (∀ H', Nx H' → ∃ m', m' < m ∧ W (i + 1) m' H') ∧ ∀ x H', J.yld i H x H' → ct.rd K x (wipe σ vs) H' fun σ2 H2 => wipe σ2 vs = wipe σ vs ∧ tt σ2 H2 fun b H3 =>
        if b = true then te σ2 H3 fun y H4 => ∃ acc, H4 D = some (.lst acc) ∧ acc.length < sizeLine ∧ Nx (upd H4 D (.lst (acc ++ [y]))) else Nx H3) := by
  have hDn : (g.new D).al[h1.length]? = some D := by
    show (g.al ++ [D])[h1.length]? = _
    rw [← hr.len]; simp
  have hr0 : HR K (g.new D) (upd H1 D (.lst [])) (h1 ++ [.lst []]) := hr.newLst hD .nil
  refine ⟨fun i m H => m = us.length - i ∧ i ≤ us.length ∧ ∃ g' h, Le (g.new D) g' ∧ HR K g' H h ∧ WE K E g' (lcL c ct ta me h1.length (wipeE env vs) (us.drop i) h) Q, ⟨us.length, by simp, Nat.zero_le _, g.new D, _, Le.refl _, hr0, WE.mono Le.new w⟩, ?_⟩
  rintro i m H ⟨rfl, hi, g', h, l, hr, w⟩
  have l0 : Le g g' := Le.new.trans l
  have hn' : g'.al[h1.length]? = some D := l.get hDn
  by_cases hlt : i < us.length
  · rw [List.drop_eq_getElem_cons hlt] at w
    unfold lcL at w
    split at w
    · rename_i ck
      refine .inr ⟨ok.go g' H h i l0 hr ck hlt, fun H' => i + 1 ≤ us.length ∧ ∃ g2 h, Le (g.new D) g2 ∧ HR K g2 H' h ∧ WE K E g2 (lcL c ct ta me h1.length (wipeE env vs) (us.drop (i + 1)) h) Q, fun H' q => ⟨us.length - (i + 1), by omega, rfl, q⟩, fun x H' y => ?_⟩
      obtain ⟨g2, u, l2, hr2, hu, ru⟩ := ok.yl g' H h i x H' l0 hr ck hlt y
      have eu : us[i] = u := by
        rw [List.getElem?_eq_getElem hlt] at hu
        exact Option.some.inj hu
      rw [eu] at w
      cases ea : ct.asg u (wipeE env vs) h with
      | none => rw [ea] at w; exact w.elim
      | some env1 =>
        rw [ea] at w
        have w : WE K E g' ((ta env1 h).no.bind _) Q := w
        refine ct_to hr2 ((er.wipe vs).mono (l0.trans l2)) ru ea fun σ2 er2 hw => ⟨by rw [hw vs hct, wipe_wipe], ht _ _ _ ⟨g2, env1, h, hr2, er2, ?_⟩⟩
        refine wTno (WE.mono l2 w) fun b h2 H2 g3 l3 hr3 w3 => ?_
        have er3 := er2.mono l3
        cases b with
        | false => exact ⟨hlt, g3, h2, (l.trans l2).trans l3, hr3, w3⟩
        | true =>
          have w3 : WE K E g3 ((me env1 h2).no.bind _) Q := w3
          refine he _ _ _ ⟨g3, env1, h2, hr3, er3, wEno w3 fun y h3 vy H3 g4 l4 hr4 ry w4 => ?_⟩
          have hn4 : g4.al[h1.length]? = some D := ((l2.trans l3).trans l4).get hn'
          split at w4
          · rename_i acc e4
            split at w4
            · rename_i z
              obtain ⟨vacc, h5, r5⟩ := hr4.ob _ _ _ hn4 e4
              exact ⟨vacc, h5, by rw [r5.len]; exact sz16l z, hlt, g4, _, ((l.trans l2).trans l3).trans l4, hr4.setLst hn4 h5 (r5.app (.one ry)), w4⟩
            · exact w4.elim
          · exact w4.elim
    · exact w.elim
  · have e : i = us.length := by omega
    subst e
    rw [List.drop_length] at w
    unfold lcL at w
    split at w
    · rename_i ck
      exact .inl ⟨ok.stop g' H h l0 hr ck, w (.ref D) H g' (Le.refl _) hr (.ref hn')⟩
    · exact w.elim
theorem lcM_to {vs : List Nat} {tt : TT} {te : TE} {Q : VK} (hct : ∀ i ∈ ct.ix, i ∈ vs) (ht : ∀ σ H Q, bM K W0 ta σ H Q → tt σ H Q) (he : ∀ σ H Q, tM K W0 me σ H Q → te σ H Q) (q : tM K W (mLc mi ct ta me vs) σ H Q) : tLc (iM K W mi) (ct.rd K) tt te vs σ H Q := by
  obtain ⟨g, env, h, hr, er, w⟩ := q
  refine ⟨g, env, h, hr, er, ?_⟩
  unfold mLc at w
  cases e : mi env h with
  | bad => rw [e] at w; exact w
  | exc C n h => rw [e] at w; exact w
  | ok z h1 =>
    obtain ⟨c, us⟩ := z
    rw [e] at w
    have w : WE K (atSl W σ) g (lcL c ct ta me h1.length (wipeE env vs) us (h1 ++ [.lst []])) Q := w
    exact fun J H1 g1 l1 hr1 ok D hD => lc_to hct ht he hr1 (er.mono l1) ok hD (WE.mono l1 w)
abbrev Blk (X : Cx) (scope : Scope) (P : Cx → Prop) : Prop := ∀ (s : Shared) (H : Hp) (C : Addr) (cl : List (Str × Addr)) (fp : List Addr), P (X.blk s H scope (compEnvC scope cl C X.env) fp)
theorem pts_y {X : Cx} : PTs X [] (bM K W bYes) := ⟨fun pins s σ H Q I ⟨g, env, h, hr, er, w⟩ => pts_nil.run pins s σ H Q I (w H g (Le.refl _) hr)⟩
theorem pts_1 {X : Cx} (h : PT X c (bM K W ta)) : PTs X [c] (bM K W ta) := pts_one h
variable {elt : Expr} {ifs : List Expr} {scope : Scope} {own : List (Str × Nat)}
theorem se_lc {vs : List Nat} (hc : X.calm = true) (hN : X.N.Nodup) (hi : PI X tg iter (iM X.K W mi)) (ok : BlkOk X.N X.env.scope scope own) (hv : own.map (·.2) = vs) (hct : ∀ i ∈ ct.ix, i ∈ vs)
    (hg : Blk X scope fun Y => PG Y tg (ct.rd X.K)) (ht : Blk X scope fun Y => PTs Y ifs (bM X.K W0 ta)) (he : Blk X scope fun Y => PE Y elt (tM X.K W0 me)) (hs : ∀ x, foldedSetIterable iter X.env x = pure x := by intro _; rfl) :
    PE X (.ListComp elt [⟨tg, iter, ifs, 0⟩] scope pos) (tM X.K W (mLc mi ct ta me vs)) := by
  subst hv
  exact PE.weak (pe_lc hc hN hi ok hg ht he hs) fun σ H Q q => lcM_to hct (fun _ _ _ z => z) (fun _ _ _ z => z) q
theorem ss_setLc {i : Nat} {y : Str} {py spos : Pos} {vs : List Nat} (hc : X.calm = true) (hN : X.N.Nodup) (hy : X.N[i]? = some y) (hyl : X.env.scope.names.lookup y = some .local) (hsw : swapsWith (.ListComp elt [⟨tg, iter, ifs, 0⟩] scope pos) (some (.Name y py)) spos.line X.env = pure true)
    (hi : PI X tg iter (iM X.K W mi)) (ok : BlkOk X.N X.env.scope scope own) (hv : own.map (·.2) = vs) (hct : ∀ i ∈ ct.ix, i ∈ vs)
    (hg : Blk X scope fun Y => PG Y tg (ct.rd X.K)) (ht : Blk X scope fun Y => PTs Y ifs (bM X.K W0 ta)) (he : Blk X scope fun Y => PE Y elt (tM X.K W0 me)) (hs : ∀ x, foldedSetIterable iter X.env x = pure x := by intro _; rfl) :
    PS X (.Assign [.Name y py] (.ListComp elt [⟨tg, iter, ifs, 0⟩] scope pos) spos) (sM X.K W (mAsg (.one i) (mLc mi ct ta me vs))) := by
  subst hv
  exact PS.weak (L2.ps_setLc hc hN hy hyl hsw hi ok hg ht he hs) fun D σ H ⟨g, env, h, hr, er, w⟩ => by
    have q : tM X.K W (mLc mi ct ta me (own.map (·.2))) σ H fun x H1 => gName i x σ H1 D.nx := ⟨g, env, h, hr, er, wAsg er w fun u h1 v H1 g1 l1 hr1 rv w1 => gct_to (ct := .one i) (K := X.K) hr1 (er.mono l1) rv w1⟩
    exact lcM_to hct (fun _ _ _ z => z) (fun _ _ _ z => z) q
/-! ### stores into lists, += -/
def uSetL (x y z : U) (h : Sto) : Option Sto := match x, y with
  | .ref n, .int k => (match h[n]? with
    | some (.lst us) => (ixN us.length k).map fun j => h.set n (.lst (us.set j z))
    | _ => none)
  | _, _ => none
theorem setL_to {z : U} {vx vy vz : V} {h' : Sto} {Q : Hp → Prop} (hr : HR K g H h) (rx : Rep K g vx x) (ry : Rep K g vy y) (rz : Rep K g vz z) (e : uSetL x y z h = some h') (k : ∀ H', HR K g H' h' → Q H') : rSetL vx vy vz H Q := by
  unfold uSetL at e
  split at e
  · rename_i n i
    split at e
    · rename_i us e1
      cases ei : ixN us.length i with
      | none => rw [ei] at e; cases e
      | some j =>
        rw [ei] at e
        cases e
        cases ry
        cases rx with
        | ref q =>
          rename_i a
          obtain ⟨vs, h1, r1⟩ := hr.ob n a _ q e1
          exact ⟨a, vs, i, j, rfl, rfl, h1, by rw [r1.len]; exact ei, k _ (hr.setLst q h1 (r1.set j rz))⟩
    · cases e
  · cases e
/-- o[i] = e of a list -/
def mSetI (f : U → U → U → Sto → Option Sto) (o i e : EM) : SM := fun env h => (e env h).st env fun z h1 => (o env h1).st env fun x h2 => (i env h2).st env fun y h3 => match f x y z h3 with
  | some h4 => .nx env h4
  | none => .bad
def SetOK (K : Fr) (r : TSet) (f : U → U → U → Sto → Option Sto) : Prop := ∀ g H h vx vy vz x y z h' Q, HR K g H h → Rep K g vx x → Rep K g vy y → Rep K g vz z → f x y z h = some h' → (∀ H', HR K g H' h' → Q H') → r vx vy vz H Q
theorem ok_setL : SetOK K rSetL uSetL := fun g H h vx vy vz x y z h' Q hr rx ry rz e k => setL_to hr rx ry rz e k
theorem seti_to {r : TSet} {f : U → U → U → Sto → Option Sto} {D : Ends} (ok : SetOK K r f) (q : sM K W (mSetI f mo ma me) D σ H) : tAsg (tM K W me) (gSub (tM K W mo) (tM K W ma) r) D σ H := by
  obtain ⟨g, env, h, hr, er, w⟩ := q
  refine ⟨g, env, h, hr, er, wAsg er w fun z h1 vz H1 g1 l1 hr1 rz w1 => ⟨g1, env, h1, hr1, er.mono l1, wAsg (er.mono l1) w1 fun x h2 vx H2 g2 l2 hr2 rx w2 => ⟨g2, env, h2, hr2, er.mono (l1.trans l2), wAsg (er.mono (l1.trans l2)) w2 fun y h3 vy H3 g3 l3 hr3 ry w3 => ?_⟩⟩⟩
  cases e : f x y z h3 with
  | none => rw [e] at w3; exact w3.elim
  | some h4 =>
    rw [e] at w3
    exact ok g3 H3 h3 vx vy vz x y z h4 _ hr3 (rx.mono l3) ry (rz.mono (l2.trans l3)) e fun H4 hr4 => w3 σ H4 g3 (Le.refl _) hr4 (er.mono ((l1.trans l2).trans l3))
variable {i : Expr} {ix : EM} {tpos : Pos}
theorem ss_setI {r : TSet} {f : U → U → U → Sto → Option Sto} (hp : PSet X r) (ok : SetOK K r f) (he : PE X e (tM K W me)) (ho : PE X o (tM K W mo)) (hi : PE X i (tM K W ix))
    (ha : ∀ v, assign (.Subscript o i tpos) X.env v = (do
      let ov ← holding [v] (eval o X.env)
      let iv ← holding [v, ov] (eval i X.env)
      standAt tpos
      holding [v, ov, iv] (setItem ov iv v)
      release [v, ov, iv] []) := by intro _; rfl)
    (hs : swapsWithSole [.Subscript o i tpos] e pos.line X.env = pure false := by rfl) (hw : swappedStores [.Subscript o i tpos] e X.env = pure none := by rfl) (h1 : (assignEach [.Subscript o i tpos] X.env).map (·.2) = [assign (.Subscript o i tpos) X.env] := by rfl) :
    PS X (.Assign [.Subscript o i tpos] e pos) (sM K W (mSetI f mo ix me)) :=
  PS.weak (ps_asg he (pg_sub ho hi hp ha) hs hw h1) fun D σ H q => seti_to ok q
theorem ss_setIL (he : PE X e (tM K W me)) (ho : PE X o (tM K W mo)) (hi : PE X i (tM K W ix))
    (ha : ∀ v, assign (.Subscript o i tpos) X.env v = (do
      let ov ← holding [v] (eval o X.env)
      let iv ← holding [v, ov] (eval i X.env)
      standAt tpos
      holding [v, ov, iv] (setItem ov iv v)
      release [v, ov, iv] []) := by intro _; rfl)
    (hs : swapsWithSole [.Subscript o i tpos] e pos.line X.env = pure false := by rfl) (hw : swappedStores [.Subscript o i tpos] e X.env = pure none := by rfl) (h1 : (assignEach [.Subscript o i tpos] X.env).map (·.2) = [assign (.Subscript o i tpos) X.env] := by rfl) :
    PS X (.Assign [.Subscript o i tpos] e pos) (sM K W (mSetI uSetL mo ix me)) := ss_setI set_list ok_setL he ho hi ha hs hw h1
/-- x += e at a name -/
def uIAdd (x y : U) (h : Sto) : R U := match x, y with
  | .int i, .int j => .ok (.int (i + j)) h
  | .str s, .str t => if s.length + t.length ≤ 16000000 then .ok (.str (s ++ t)) h else .bad
  | _, _ => .bad
abbrev rIAdd : R2 := fun x y H Q => (∃ i j, x = V.int i ∧ y = V.int j ∧ Q (.int (i + j)) H) ∨ (∃ i j, x = V.str i ∧ y = V.str j ∧ i.length + j.length ≤ sizeLine ∧ Q (.str (i ++ j)) H)
abbrev uISub := uI cT (fun i j => i - j)
def mAug (f : U → U → Sto → R U) (i : Nat) (e : EM) : SM := fun env h => match env[i]? with
  | some (some x) => (e env h).st env fun y h1 => (f x y h1).st env fun z h2 => .nx (env.set i (some z)) h2
  | _ => .bad
def uIxL (x y : U) (h : Sto) : R U := match x, y with
  | .ref n, .int i => (match h[n]? with
    | some (.lst us) => oR (atI us i) h
    | _ => .bad)
  | _, _ => .bad
def mAugI (gt : U → U → Sto → R U) (f : U → U → Sto → R U) (st : U → U → U → Sto → Option Sto) (o i e : EM) : SM := fun env h => (o env h).st env fun x h1 => (i env h1).st env fun y h2 => (gt x y h2).st env fun z h3 => (e env h3).st env fun u h4 => (f z u h4).st env fun q h5 => match st x y q h5 with
  | some h6 => .nx env h6
  | none => .bad
end
end Q

set_option Elab.async false
set_option linter.all false
set_option maxRecDepth 100000
set_option maxHeartbeats 1000000
namespace Q
open PySem PySem.Spec PyProof.Rows L2 TL
/-! ### calls of the text's defs -/
abbrev Sem' := List U → Sto → R U
def spM (K : Fr) (n : Nat) (sem : Sem') : Sp := fun vs H Q E => vs.length = n ∧ ∃ g us h, HR K g H h ∧ Reps K g vs us ∧ WE K E g (sem us h) Q
def fnM (n : Nat) (body : SM) : Sem' := fun us h => match body (us.map some ++ List.replicate (n - us.length) none) h with
  | .nx _ h' => .ok .non h'
  | .rt u h' => .ok u h'
  | .ex C n _ h' => .exc C n h'
  | _ => .bad
theorem er_start {K : Fr} {g : G} {N : List Str} : ∀ {vs : List V} {us : List U}, Reps K g vs us → ER K g (L2.start N vs) (us.map some ++ List.replicate (N.length - us.length) none) := by
  intro vs us r
  refine ⟨by simp [L2.start, r.len], fun i u e => ?_⟩
  by_cases hi : i < us.length
  · rw [List.getElem?_append_left (by simpa using hi)] at e
    rw [List.getElem?_map] at e
    cases eu : us[i]? with
    | none => rw [eu] at e; cases e
    | some w =>
      rw [eu] at e
      cases e
      obtain ⟨v, hv, rv⟩ := r.get eu
      refine ⟨v, ?_, rv⟩
      unfold L2.start
      rw [List.getElem?_append_left (by rw [List.length_map, r.len]; exact hi), List.getElem?_map, hv]
      rfl
  · rw [List.getElem?_append_right (by simpa using Nat.le_of_not_lt hi)] at e
    have := List.getElem?_replicate (a := (none : Option U)) (n := N.length - us.length) (i := i - (us.map some).length)
    rw [this] at e
    split at e <;> cases e
section
/-- a def's wish of what it raises -/
abbrev WR (E : XK) : WX := fun c d _ H => E c d H
variable {P : Program} {Wd : World} {K : Fr} {mg : Str → Option Value} {base : Heap}
theorem fn_ok {x qual : Str} {st : Stmt} {f : Addr} {fd : FuncData} {N ps : List Str} {k : Nat} {body : SM} (F : Fun K x qual st f fd) (S : FnScope N ps (defScope st))
    (hb : ∀ (cdv : Value) (A : Around) (outer : List Env) (s : Shared) (H : Hp) (E : XK), Room k (A.deeper (envOfC qual (defScope st) s.heap.objs.size f cdv)) →
      Takes (cxOf (L2.CX P Wd) P Wd K mg base N qual (defScope st) f cdv A outer s H E) (WR E) →
      PassesOwn (model P Wd) (cxOf (L2.CX P Wd) P Wd K mg base N qual (defScope st) f cdv A outer s H E).A (cxOf (L2.CX P Wd) P Wd K mg base N qual (defScope st) f cdv A outer s H E).env (cxOf (L2.CX P Wd) P Wd K mg base N qual (defScope st) f cdv A outer s H E).xe →
      PSs (cxOf (L2.CX P Wd) P Wd K mg base N qual (defScope st) f cdv A outer s H E) (defBody st) (sM K (WR E) body)) : FnOk P Wd K mg base (L2.CX P Wd) (k + 1) f fd ps (spM K ps.length (fnM N.length body)) := by
  refine F.okX S (fun vs H Q E h => h.1) (fun cdv A outer s H vs Q E hr h => ⟨_, hb cdv A outer s H E hr (takes_of rfl rfl rfl rfl) (passes_of rfl), ?_⟩)
  obtain ⟨hl, g, us, h0, hr0, rv, w⟩ := h
  refine ⟨g, us.map some ++ List.replicate (N.length - us.length) none, h0, hr0, er_start rv, ?_⟩
  unfold fnM at w
  cases e : body (us.map some ++ List.replicate (N.length - us.length) none) h0 with
  | nx e1 h1 => rw [e] at w; exact fun σ H1 g1 l1 hr1 _ => w .non H1 g1 l1 hr1 .non
  | rt u h1 => rw [e] at w; exact w
  | bk e1 h1 => rw [e] at w; exact w.elim
  | ct e1 h1 => rw [e] at w; exact w.elim
  | ex C n e1 h1 => rw [e] at w; exact fun σ H1 g1 d l1 hr1 _ q => w H1 g1 d l1 hr1 q
  | bad => rw [e] at w; exact w.elim
/-- nothing is said -/
theorem fn_bad {f : Addr} {fd : FuncData} {ps : List Str} {k n : Nat} (h : ps.length = n) : FnOk P Wd K mg base (L2.CX P Wd) k f fd ps (spM K n fun _ _ => .bad) :=
  ⟨fun vs H Q E q => q.1.trans h.symm, fun A outer s H args us vs Q E hr e0 hb rv q => by
    obtain ⟨_, g, us, h, _, _, w⟩ := q
    exact w.elim⟩
end
section
variable {K : Fr} {g g' : G} {E : XK} {W : WX} {X : Cx} {H : Hp} {h : Sto} {v w : V} {x y : U} {σ : L2.St} {env : Env'} {a b c e o tg : Expr} {es rest : List Expr} {ma mb mc me mo : EM} {ta tb : TM} {pos : Pos} {am : AM} {n : Str} {p : Pos}
def mCall (n : Nat) (sem : Sem') (am : AM) : EM := fun env h => (am env h).bind fun us h1 => if us.length = n then sem us h1 else .bad
variable {sem : Sem'} {f : Addr} {fd : FuncData} {ps : List Str} {k m : Nat}
theorem call_to {Q : VK} (q : tM K W (mCall m sem am) σ H Q) : tCallS (spM K m sem) (fun σ => atSl W σ) (aM K W am) σ H Q := by
  obtain ⟨g, env, h, hr, er, w⟩ := q
  refine ⟨g, env, h, hr, er, wA w fun us h1 vs H1 g1 l1 hr1 rv w1 => ?_⟩
  split at w1
  · rename_i z
    exact ⟨by rw [rv.len]; exact z, g1, us, h1, hr1, rv, w1⟩
  · exact w1.elim
theorem se_call (tk : Takes X W) (F : FnOk X.prog X.w X.K X.mg X.base (L2.CX X.prog X.w) k f fd ps (spM X.K m sem)) (hr : Room k X.A) (hg : Gl X n) (hm : X.mg n = some (.ref f)) (hk : PySem.W.keepIn X.K (.ref f) = true) (hb : Binds X.K fd ps [])
    (ha : PA X (e :: es) (aM X.K W am)) (hdb : (n == ("__debug__" : Str)) = false := by decide) (h2 : starEach (e :: es) X.env = (false, eval e X.env) :: starEach es X.env := by rfl) (h3 : (backTo pos (starEach es X.env)).any (·.1) = false := by rfl) :
    PE X (.Call (.Name n p) (e :: es) [] pos) (tM X.K W (mCall m sem am)) :=
  PE.weak (pe_callS (E := fun σ => atSl W σ) F hr hg hm hk hb (fun σ => passAt tk σ) ha hdb h2 h3) fun σ H Q q => call_to q
theorem pe_callS0 {sp : Sp} {E : L2.St → XK} (F : FnOk X.prog X.w X.K X.mg X.base (L2.CX X.prog X.w) k f fd ps sp) (hr : Room k X.A) (hg : Gl X n) (hm : X.mg n = some (.ref f)) (hk : PySem.W.keepIn X.K (.ref f) = true) (hb : Binds X.K fd ps []) (hx : ∀ σ, PassesAt (L2.CX X.prog X.w) X σ (E σ))
    (hdb : (n == ("__debug__" : Str)) = false := by decide) : PE X (.Call (.Name n p) [] [] pos) (tCallS sp E tNil) := by
  refine ⟨fun pins s σ H Q I h => ?_⟩
  refine wpAny_Call_Name_kw (ld_glob I hg hm ?_ hdb)
  exact PySem.W.callWith_K0 I.kIn hk (run_fnS F hr hb (hx σ) I .nil h)
theorem se_call0 (tk : Takes X W) (F : FnOk X.prog X.w X.K X.mg X.base (L2.CX X.prog X.w) k f fd ps (spM X.K m sem)) (hr : Room k X.A) (hg : Gl X n) (hm : X.mg n = some (.ref f)) (hk : PySem.W.keepIn X.K (.ref f) = true) (hb : Binds X.K fd ps [])
    (hdb : (n == ("__debug__" : Str)) = false := by decide) : PE X (.Call (.Name n p) [] [] pos) (tM X.K W (mCall m sem aNil)) :=
  PE.weak (pe_callS0 (E := fun σ => atSl W σ) F hr hg hm hk hb (fun σ => passAt tk σ) hdb) fun σ H Q q => by
    have q := call_to q
    obtain ⟨g, env, h, hr, er, w⟩ := q
    exact w [] H g (Le.refl _) hr .nil

/-! ### isinstance -/
inductive Ty where
  | bool | int | str | tuple | list | dict
def Ty.nm : Ty → String
  | .bool => "bool" | .int => "int" | .str => "str" | .tuple => "tuple" | .list => "list" | .dict => "dict"
def isU (T : Ty) (h : Sto) : U → Option Bool
  | .non => some false
  | .bl _ => some (match T with | .bool => true | .int => true | _ => false)
  | .int _ => some (match T with | .int => true | _ => false)
  | .str _ => some (match T with | .str => true | _ => false)
  | .tup _ => some (match T with | .tuple => true | _ => false)
  | .fl _ => some (match T with | .list => true | _ => false)
  | .kl _ => some (match T with | .list => true | _ => false)
  | .xv _ _ _ _ => none
  | .ref n => match h[n]? with
    | some (.lst _) => some (match T with | .list => true | _ => false)
    | some (.dK _) => some (match T with | .dict => true | _ => false)
    | some (.dT _) => some (match T with | .dict => true | _ => false)
    | _ => none
theorem tyL {a : Addr} {vs : List V} (q : SqL K H a vs) : TyX K H (.ref a) (.type "list") := by
  rcases q with (q | ⟨o, q⟩) | ⟨o, its, n, q, c, _⟩
  · exact .base (.lst q)
  · exact .base (.frz q)
  · exact .kList q c
theorem tyT {a : Addr} {vs : List V} (q : SqT K H a vs) : TyX K H (.ref a) (.type "tuple") := by
  rcases q with (q | ⟨o, q⟩) | ⟨o, its, n, q, c, _⟩
  · exact .base (.tup q)
  · exact .fTuple q
  · exact .kTuple q c
theorem ty_of {T0 : Ty} {b0 : Bool} (hr : HR K g H h) (r : Rep K g v x) (e0 : isU T0 h x = some b0) : ∃ t, TyX K H v t ∧ ∀ (T : Ty) (b : Bool), isU T h x = some b → PySem.W.kitOne K t (.type T.nm) = some b := by
  cases r with
  | non => exact ⟨_, .base .non, fun T b e => by cases e; exact kit_ty (by cases T <;> decide +kernel)⟩
  | bl c => exact ⟨_, .base (.bl c), fun T b e => by cases e; exact kit_ty (by cases T <;> decide +kernel)⟩
  | int i => exact ⟨_, .base (.int i), fun T b e => by cases e; exact kit_ty (by cases T <;> decide +kernel)⟩
  | str s => exact ⟨_, .base (.str _), fun T b e => by cases e; exact kit_ty (by cases T <;> decide +kernel)⟩
  | tup q s => exact ⟨_, tyT (hr.sqT q), fun T b e => by cases e; exact kit_ty (by cases T <;> decide +kernel)⟩
  | fl q s => exact ⟨_, .base (.lst (hr.ex _ _ q)), fun T b e => by cases e; exact kit_ty (by cases T <;> decide +kernel)⟩
  | kl q s => exact ⟨_, tyL (hr.sqL q), fun T b e => by cases e; exact kit_ty (by cases T <;> decide +kernel)⟩
  | @ref a n q =>
    cases eo : h[n]? with
    | none => simp only [isU, eo] at e0; cases e0
    | some o =>
      cases o with
      | lst us =>
        obtain ⟨vs, h1, _⟩ := hr.ob _ _ _ q eo
        exact ⟨_, .base (.lst h1), fun T b e => by simp only [isU, eo] at e; cases e; exact kit_ty (by cases T <;> decide +kernel)⟩
      | dK us =>
        obtain ⟨vs, h1, _⟩ := hr.ob _ _ _ q eo
        exact ⟨_, .base (.dK h1), fun T b e => by simp only [isU, eo] at e; cases e; exact kit_ty (by cases T <;> decide +kernel)⟩
      | dT us =>
        obtain ⟨vs, h1, _⟩ := hr.ob _ _ _ q eo
        exact ⟨_, .base (.dT h1), fun T b e => by simp only [isU, eo] at e; cases e; exact kit_ty (by cases T <;> decide +kernel)⟩
      | ins C fs => simp only [isU, eo] at e0; cases e0
      | dKl us => simp only [isU, eo] at e0; cases e0
      | xd fs => simp only [isU, eo] at e0; cases e0
  | xv _ => cases e0
def bIs (T : Ty) (a : EM) : TM := fun env h => (a env h).bind fun x h1 => oB (isU T h1 x) h1
def bIs2 (T S : Ty) (a : EM) : TM := fun env h => (a env h).bind fun x h1 => oB ((isU T h1 x).bind fun b => (isU S h1 x).map fun c => b || c) h1
theorem boot_ty (T : Ty) : bootBuiltins (Str.ofString T.nm) = some (.type T.nm) := by cases T <;> decide +kernel
theorem ty_ne (T : Ty) : (Str.ofString T.nm) ≠ "__name__" := by cases T <;> decide
theorem ty_db (T : Ty) : ((Str.ofString T.nm) == ("__debug__" : Str)) = false := by cases T <;> decide
section
variable {T S : Ty} {p2 p3 p4 : Pos} {t2 : Str} (hg : Gl X n) (hm : X.mg n = none) (hv : bootBuiltins n = some (.builtin "isinstance")) (ha : PE X a (tM X.K W ma)) (hn : n ≠ "__name__") (hdb : (n == ("__debug__" : Str)) = false)
include hg hm hv ha hn hdb
theorem isi_core (hgT : Gl X (Str.ofString T.nm)) (hmT : X.mg (Str.ofString T.nm) = none)
    (he : starEach [a, .Name (Str.ofString T.nm) p2] X.env = (false, eval a X.env) :: starEach [.Name (Str.ofString T.nm) p2] X.env) (he2 : starEach [.Name (Str.ofString T.nm) p2] X.env = (false, eval (.Name (Str.ofString T.nm) p2) X.env) :: starEach [] X.env) (hpl : (backTo pos (starEach [.Name (Str.ofString T.nm) p2] X.env)).any (·.1) = false) :
    PE X (.Call (.Name n p) [a, .Name (Str.ofString T.nm) p2] [] pos) (fun σ H Q => bM X.K W (bIs T ma) σ H fun b H => Q (.bl b) H) :=
  PE.weak (pe_callB call_isi hg hm hv (pa_cons ha (pa_cons (pe_bltn (v := .ty T.nm) hgT hmT (boot_ty T) rfl (ty_ne T) (ty_db T)) pa_nil he2) he) hn hdb he hpl) fun σ H Q ⟨g, env, h, hr, er, w⟩ => ⟨g, env, h, hr, er, wET w fun u h1 v H1 g1 l1 hr1 rv w1 => by
    cases e : isU T h1 u with
    | none => rw [e] at w1; exact w1.elim
    | some b =>
      rw [e] at w1
      obtain ⟨t, h2, h3⟩ := ty_of hr1 rv e
      exact ⟨v, .ty T.nm, t, .type T.nm, b, rfl, .ty _, h2, h3 T b e, w1 H1 g1 (Le.refl _) hr1⟩⟩
theorem isi2_core (hgT : Gl X (Str.ofString T.nm)) (hmT : X.mg (Str.ofString T.nm) = none) (hgS : Gl X (Str.ofString S.nm)) (hmS : X.mg (Str.ofString S.nm) = none) {kt : Nat}
    (he : starEach [a, .Tuple [.Name (Str.ofString T.nm) p2, .Name (Str.ofString S.nm) p3] kt p4] X.env = (false, eval a X.env) :: starEach [.Tuple [.Name (Str.ofString T.nm) p2, .Name (Str.ofString S.nm) p3] kt p4] X.env)
    (he2 : starEach [.Tuple [.Name (Str.ofString T.nm) p2, .Name (Str.ofString S.nm) p3] kt p4] X.env = (false, eval (.Tuple [.Name (Str.ofString T.nm) p2, .Name (Str.ofString S.nm) p3] kt p4) X.env) :: starEach [] X.env)
    (he3 : starEach [.Name (Str.ofString T.nm) p2, .Name (Str.ofString S.nm) p3] X.env = (false, eval (.Name (Str.ofString T.nm) p2) X.env) :: starEach [.Name (Str.ofString S.nm) p3] X.env)
    (he4 : starEach [.Name (Str.ofString S.nm) p3] X.env = (false, eval (.Name (Str.ofString S.nm) p3) X.env) :: starEach [] X.env)
    (hpl : (backTo pos (starEach [.Tuple [.Name (Str.ofString T.nm) p2, .Name (Str.ofString S.nm) p3] kt p4] X.env)).any (·.1) = false) :
    PE X (.Call (.Name n p) [a, .Tuple [.Name (Str.ofString T.nm) p2, .Name (Str.ofString S.nm) p3] kt p4] [] pos) (fun σ H Q => bM X.K W (bIs2 T S ma) σ H fun b H => Q (.bl b) H) :=
  PE.weak (pe_callB call_isiT hg hm hv (pa_cons ha (pa_cons (pe_tup (pa_cons (pe_bltn (v := .ty T.nm) hgT hmT (boot_ty T) rfl (ty_ne T) (ty_db T)) (pa_cons (pe_bltn (v := .ty S.nm) hgS hmS (boot_ty S) rfl (ty_ne S) (ty_db S)) pa_nil he4) he3)) pa_nil he2) he) hn hdb he hpl) fun σ H Q ⟨g, env, h, hr, er, w⟩ => ⟨g, env, h, hr, er, wET w fun u h1 v H1 g1 l1 hr1 rv w1 => by
    cases e : isU T h1 u with
    | none => rw [e] at w1; exact w1.elim
    | some b =>
      cases e2 : isU S h1 u with
      | none => rw [e, e2] at w1; exact w1.elim
      | some c =>
        rw [e, e2] at w1
        refine ⟨show 2 ≤ sizeLine by decide, fun q hq => ?_⟩
        have hr2 := hr1.skip hq (.tup [.ty T.nm, .ty S.nm])
        obtain ⟨t', h2, h3⟩ := ty_of hr2 rv e
        refine ⟨v, q, [.ty T.nm, .ty S.nm], t', [.type T.nm, .type S.nm], b || c, rfl, upd_same, .cons (.ty _) (.cons (.ty _) .nil), h2, ?_, w1 _ g1 (Le.refl _) hr2⟩
        refine kitAny_cons (h3 T b e) (fun hb => ?_) (fun hb => by rw [hb]; rfl)
        refine kitAny_cons (h3 S c e2) (fun hc => ?_) (fun hc => by rw [hc]; cases b <;> rfl)
        rw [hb, hc]
        exact kitAny_nil⟩
end
end
end Q

set_option Elab.async false
set_option linter.all false
set_option maxRecDepth 100000
set_option maxHeartbeats 1000000
namespace Q
open PySem PySem.Spec PyProof.Rows L2 TL
section
variable {K : Fr} {g g' : G} {E : XK} {W : WX} {X : Cx} {H : Hp} {h : Sto} {v w : V} {x y : U} {σ : L2.St} {env : Env'} {a b c e o tg : Expr} {es rest : List Expr} {ma mb mc me mo : EM} {ta tb : TM} {pos : Pos} {am : AM} {n : Str} {p : Pos}
/-- from a reading of a bool -/
theorem bt_of {t : TM} (he : PE X e (fun σ H Q => bM K W t σ H fun b H => Q (.bl b) H)) (hw : ∀ whole, isTrue e X.env whole = (do let v ← whole; standAt e.pos; holding [v] (truthy v))) : PT X e (bM K W t) :=
  PT.weak (pt_val he hw) fun σ H Q ⟨g, env, h, hr, er, w⟩ => ⟨g, env, h, hr, er, by
    cases e : t env h with
    | bad => rw [e] at w; exact w
    | exc C n h => rw [e] at w; exact w
    | ok b h1 => rw [e] at w; exact fun H1 g1 l1 hr1 => ⟨b, rfl, w H1 g1 l1 hr1⟩⟩
theorem se_of {t : TM} (he : PE X e (fun σ H Q => bM K W t σ H fun b H => Q (.bl b) H)) : PE X e (tM K W (mB t)) := PE.weak he fun σ H Q q => mB_to q
section
variable {T S : Ty} {p2 p3 p4 : Pos} {kt : Nat}
theorem bt_isi (hg : Gl X "isinstance") (hm : X.mg "isinstance" = none) (ha : PE X a (tM X.K W ma)) (hgT : Gl X (Str.ofString T.nm)) (hmT : X.mg (Str.ofString T.nm) = none)
    (he : starEach [a, .Name (Str.ofString T.nm) p2] X.env = (false, eval a X.env) :: starEach [.Name (Str.ofString T.nm) p2] X.env := by rfl) (he2 : starEach [.Name (Str.ofString T.nm) p2] X.env = (false, eval (.Name (Str.ofString T.nm) p2) X.env) :: starEach [] X.env := by rfl) (hpl : (backTo pos (starEach [.Name (Str.ofString T.nm) p2] X.env)).any (·.1) = false := by rfl)
    (hw : ∀ whole, isTrue (.Call (.Name "isinstance" p) [a, .Name (Str.ofString T.nm) p2] [] pos) X.env whole = (do let v ← whole; standAt pos; holding [v] (truthy v)) := by intro _; rfl) :
    PT X (.Call (.Name "isinstance" p) [a, .Name (Str.ofString T.nm) p2] [] pos) (bM X.K W (bIs T ma)) := bt_of (isi_core hg hm (by decide +kernel) ha (by decide) (by decide) hgT hmT he he2 hpl) hw
theorem se_isi (hg : Gl X "isinstance") (hm : X.mg "isinstance" = none) (ha : PE X a (tM X.K W ma)) (hgT : Gl X (Str.ofString T.nm)) (hmT : X.mg (Str.ofString T.nm) = none)
    (he : starEach [a, .Name (Str.ofString T.nm) p2] X.env = (false, eval a X.env) :: starEach [.Name (Str.ofString T.nm) p2] X.env := by rfl) (he2 : starEach [.Name (Str.ofString T.nm) p2] X.env = (false, eval (.Name (Str.ofString T.nm) p2) X.env) :: starEach [] X.env := by rfl) (hpl : (backTo pos (starEach [.Name (Str.ofString T.nm) p2] X.env)).any (·.1) = false := by rfl) :
    PE X (.Call (.Name "isinstance" p) [a, .Name (Str.ofString T.nm) p2] [] pos) (tM X.K W (mB (bIs T ma))) := se_of (isi_core hg hm (by decide +kernel) ha (by decide) (by decide) hgT hmT he he2 hpl)
theorem bt_isi2 (hg : Gl X "isinstance") (hm : X.mg "isinstance" = none) (ha : PE X a (tM X.K W ma)) (hgT : Gl X (Str.ofString T.nm)) (hmT : X.mg (Str.ofString T.nm) = none) (hgS : Gl X (Str.ofString S.nm)) (hmS : X.mg (Str.ofString S.nm) = none)
    (he : starEach [a, .Tuple [.Name (Str.ofString T.nm) p2, .Name (Str.ofString S.nm) p3] kt p4] X.env = (false, eval a X.env) :: starEach [.Tuple [.Name (Str.ofString T.nm) p2, .Name (Str.ofString S.nm) p3] kt p4] X.env := by rfl)
    (he2 : starEach [.Tuple [.Name (Str.ofString T.nm) p2, .Name (Str.ofString S.nm) p3] kt p4] X.env = (false, eval (.Tuple [.Name (Str.ofString T.nm) p2, .Name (Str.ofString S.nm) p3] kt p4) X.env) :: starEach [] X.env := by rfl)
    (he3 : starEach [.Name (Str.ofString T.nm) p2, .Name (Str.ofString S.nm) p3] X.env = (false, eval (.Name (Str.ofString T.nm) p2) X.env) :: starEach [.Name (Str.ofString S.nm) p3] X.env := by rfl)
    (he4 : starEach [.Name (Str.ofString S.nm) p3] X.env = (false, eval (.Name (Str.ofString S.nm) p3) X.env) :: starEach [] X.env := by rfl)
    (hpl : (backTo pos (starEach [.Tuple [.Name (Str.ofString T.nm) p2, .Name (Str.ofString S.nm) p3] kt p4] X.env)).any (·.1) = false := by rfl)
    (hw : ∀ whole, isTrue (.Call (.Name "isinstance" p) [a, .Tuple [.Name (Str.ofString T.nm) p2, .Name (Str.ofString S.nm) p3] kt p4] [] pos) X.env whole = (do let v ← whole; standAt pos; holding [v] (truthy v)) := by intro _; rfl) :
    PT X (.Call (.Name "isinstance" p) [a, .Tuple [.Name (Str.ofString T.nm) p2, .Name (Str.ofString S.nm) p3] kt p4] [] pos) (bM X.K W (bIs2 T S ma)) := bt_of (isi2_core hg hm (by decide +kernel) ha (by decide) (by decide) hgT hmT hgS hmS he he2 he3 he4 hpl) hw
end
/-! ### texts -/
def strsOf : List U → Option (List (List Nat))
  | [] => some []
  | .str s :: r => (strsOf r).map (s :: ·)
  | _ :: _ => none
/-- a text's method of one argument -/
def mSM1 (f : U → U → Sto → R U) (o a : EM) : EM := fun env h => (o env h).bind fun x h1 => match x with
  | .str s => (a env h1).bind fun y h2 => f (.str s) y h2
  | _ => .bad
def mSM0 (f : U → Sto → R U) (o : EM) : EM := fun env h => (o env h).bind fun x h1 => match x with
  | .str s => f (.str s) h1
  | _ => .bad
def M1OK (K : Fr) (r : V → List V → Hp → VK → Prop) (f : U → U → Sto → R U) : Prop := ∀ E g H h v w s y Q, HR K g H h → Rep K g v (.str s) → Rep K g w y → WE K E g (f (.str s) y h) Q → r v [w] H Q
def M0OK (K : Fr) (r : V → List V → Hp → VK → Prop) (f : U → Sto → R U) : Prop := ∀ E g H h v s Q, HR K g H h → Rep K g v (.str s) → WE K E g (f (.str s) h) Q → r v [] H Q
def uJoin (x y : U) (h : Sto) : R U := match x with
  | .str s => (match (sL h y).bind strsOf with
    | some ss => if (ss.map List.length).sum + ss.length * s.length ≤ 16000000 then .ok (.str (joinL s ss)) h else .bad
    | none => .bad)
  | _ => .bad
end
/-! ### the end -/
def semTrue (sem : Sem') : Prop := ∀ ns : List Int, ns.length ≤ 63 → ∃ h', sem [.kl (ns.map U.int)] [] = .ok (.bl true) h'
/-- all but the tables -/
def notTab (H : Hp) : Hp := fun b => match H b with
  | some (.tbl _) => none
  | o => o
theorem notTab_get {H : Hp} {a : Addr} {o : HO} (e : notTab H a = some o) : H a = some o ∧ ∀ ps, o ≠ .tbl ps := by
  unfold notTab at e
  split at e
  · cases e
  · rename_i hn
    exact ⟨e, fun ps z => hn ps (by rw [e, z])⟩
theorem notTab_of {H : Hp} {a : Addr} {o : HO} (e : H a = some o) (n : ∀ ps, o ≠ .tbl ps) : notTab H a = some o := by
  unfold notTab
  rw [e]
  split
  · rename_i ps z
    exact absurd (Option.some.inj z) (n _)
  · rfl
theorem notTab_tab {H : Hp} {a : Addr} {ps : Array Value} (e : H a = some (.tbl ps)) : notTab H a = none := by
  unfold notTab
  rw [e]
theorem notTab_sql {K : Fr} {H : Hp} {a : Addr} {xs : List V} (h : SqL K H a xs) : SqL K (notTab H) a xs := by
  rcases h with (h | ⟨o, h⟩) | h
  · exact .inl (.inl (notTab_of h fun ps z => nomatch z))
  · exact .inl (.inr ⟨o, notTab_of h fun ps z => nomatch z⟩)
  · exact .inr h
/-- the tables of the defs that hold a lambda are empty at first -/
def Tab0 (K : Fr) (H : Hp) : Prop := ∀ d ∈ lamDefs, H (He.cT K d.1).2 = some (.tbl #[])
theorem sp_end {K : Fr} {sem : Sem'} (ht : semTrue sem) {H : Hp} {a : Addr} {ns : List Int} (hl : ns.length ≤ 63) (hS : SqL K H a (ns.map V.int)) (hT : Tab0 K H) : spM K 1 sem [.ref a] H (fun v _ => v = .bl true) fun _ _ _ => False := by
  obtain ⟨h', e⟩ := ht ns hl
  refine ⟨rfl, ⟨[], notTab H⟩, [.kl (ns.map U.int)], [], ⟨fun a o e => (notTab_get e).1, rfl, List.nodup_nil, fun a m => (nomatch m), fun n a o e => by simp at e, fun d hd => ⟨notTab_tab (hT d hd), (fun m => nomatch m), #[], hT d hd, True.intro, fun pos cv z => by simp [codeAmong] at z⟩, fun _ a ps e => (notTab_get e).2 ps rfl⟩, .cons (.kl (notTab_sql hS) (Reps.ofInts ns)) .nil, ?_⟩
  rw [e]
  intro v H1 g1 l1 hr1 rv
  cases rv
  rfl
/-- the law's promise, whatever its meaning is -/
def spEnd (K : Fr) : Sp := fun vs H Q _ => ∃ (a : Addr) (ns : List Int), vs = [.ref a] ∧ ns.length ≤ 63 ∧ SqL K H a (ns.map V.int) ∧ Tab0 K H ∧ ∀ H', Q (.bl true) H'
theorem fn_end {P : Program} {Wd : World} {K : Fr} {mg : Str → Option Value} {base : Heap} {f : Addr} {fd : FuncData} {ps : List Str} {k : Nat} {sem : Sem'} (ht : semTrue sem) (F : FnOk P Wd K mg base (L2.CX P Wd) k f fd ps (spM K 1 sem)) : FnOk P Wd K mg base (L2.CX P Wd) k f fd ps (spEnd K) :=
  F.imp fun vs H Q E ⟨a, ns, e, hl, hS, hT, q⟩ => by
    subst e
    obtain ⟨hz, g, us, h, hr, rv, w⟩ := sp_end ht hl hS hT
    refine ⟨hz, g, us, h, hr, rv, ?_⟩
    cases es : sem us h with
    | bad => rw [es] at w; exact w
    | exc C n h => rw [es] at w; exact fun H1 g1 d l1 hr1 q => (w H1 g1 d l1 hr1 q).elim
    | ok u h1 =>
      rw [es] at w
      intro v H1 g1 l1 hr1 r1
      have := w v H1 g1 l1 hr1 r1
      subst this
      exact q H1
end Q

set_option Elab.async false
set_option linter.all false
set_option maxRecDepth 100000
set_option maxHeartbeats 1000000
/-! Q8: how meanings are reckoned. -/
namespace Q
open L2
section
variable {env : Env'} {h h1 : Sto} {u x y z : U} {us xs ys : List U} {a b c d : EM} {t s : TM} {m m1 m2 : SM} {am : AM} {α β : Type}
@[simp] theorem e_bind_ok {a : α} {f : α → Sto → R β} : (R.ok a h).bind f = f a h := rfl
@[simp] theorem e_bind_exc {C : Nat} {n : Option Nat} {f : α → Sto → R β} : (R.exc C n h : R α).bind f = .exc C n h := rfl
@[simp] theorem e_bind_bad {f : α → Sto → R β} : (R.bad : R α).bind f = .bad := rfl
@[simp] theorem e_var {i : Nat} : mVar i env h = match env[i]? with | some (some u) => .ok u h | _ => .bad := rfl
@[simp] theorem e_c : mC u env h = .ok u h := rfl
@[simp] theorem e_bin {f : U → U → Sto → R U} : mBin f a b env h = (a env h).bind fun x h1 => (b env h1).bind fun y h2 => f x y h2 := rfl
@[simp] theorem e_neg : mNeg a env h = (a env h).bind fun x h1 => match x with | .int i => .ok (.int (-i)) h1 | _ => .bad := rfl
@[simp] theorem e_add_i {i j : Int} : uAdd (.int i) (.int j) h = .ok (.int (i + j)) h := rfl
@[simp] theorem e_add_s {i j : List Nat} : uAdd (.str i) (.str j) h = if i.length + j.length ≤ 16000000 then .ok (.str (i ++ j)) h else .bad := rfl
@[simp] theorem e_add_ref {n : Nat} : uAdd (.ref n) y h = match mL h (.ref n), mL h y with
    | some us, some ts => if us.length + ts.length ≤ 16000000 then .ok (.ref h.length) (h ++ [.lst (us ++ ts)]) else .bad
    | _, _ => .bad := by cases y <;> rfl
@[simp] theorem e_add_fl : uAdd (.fl us) y h = match mL h y with
    | some ts => if us.length + ts.length ≤ 16000000 then .ok (.ref h.length) (h ++ [.lst (us ++ ts)]) else .bad
    | _ => .bad := by
  have e : uAdd (.fl us) y h = match mL h (.fl us), mL h y with
    | some us, some ts => if us.length + ts.length ≤ 16000000 then .ok (.ref h.length) (h ++ [.lst (us ++ ts)]) else .bad
    | _, _ => .bad := by cases y <;> rfl
  rw [e]
  cases mL h y <;> rfl
@[simp] theorem e_sub_i {i j : Int} : uSub (.int i) (.int j) h = .ok (.int (i - j)) h := rfl
@[simp] theorem e_mul_i {i j : Int} : uMul (.int i) (.int j) h = if cMul i j then .ok (.int (i * j)) h else .bad := rfl
@[simp] theorem e_div_i {i j : Int} : uDiv (.int i) (.int j) h = if cDiv i j then .ok (.int (i / j)) h else .bad := rfl
@[simp] theorem e_mod_i {i j : Int} : uMod (.int i) (.int j) h = if cMod i j then .ok (.int (i % j)) h else .bad := rfl
@[simp] theorem e_pow_i {i j : Int} : uPow (.int i) (.int j) h = if cPow i j then .ok (.int (i ^ j.toNat)) h else .bad := rfl
@[simp] theorem e_isub_i {i j : Int} : uISub (.int i) (.int j) h = .ok (.int (i - j)) h := rfl
@[simp] theorem e_iadd_i {i j : Int} : uIAdd (.int i) (.int j) h = .ok (.int (i + j)) h := rfl
@[simp] theorem e_iadd_s {i j : List Nat} : uIAdd (.str i) (.str j) h = if i.length + j.length ≤ 16000000 then .ok (.str (i ++ j)) h else .bad := rfl
@[simp] theorem e_cmp {f : Sto → U → U → Option Bool} : bCmp f a b env h = (a env h).bind fun x h1 => (b env h1).bind fun y h2 => oB (f h2 x y) h2 := rfl
@[simp] theorem e_oB_some {b : Bool} : oB (some b) h = .ok b h := rfl
@[simp] theorem e_oR_some : oR (some u) h = .ok u h := rfl
@[simp] theorem e_mB : mB t env h = (t env h).bind fun b h1 => .ok (.bl b) h1 := rfl
@[simp] theorem e_eq_i {i j : Int} : cEq h (.int i) (.int j) = some (decide (i = j)) := rfl
@[simp] theorem e_eq_s {i j : List Nat} : cEq h (.str i) (.str j) = some (decide (i = j)) := rfl
@[simp] theorem e_eq_b {i j : Bool} : cEq h (.bl i) (.bl j) = some (decide (i = j)) := rfl
@[simp] theorem e_eq_is {i : Int} {j : List Nat} : cEq h (.int i) (.str j) = some false := rfl
@[simp] theorem e_eq_si {i : Int} {j : List Nat} : cEq h (.str j) (.int i) = some false := rfl
@[simp] theorem e_eq_nn : cEq h .non .non = some true := rfl
@[simp] theorem e_ne : cNe h x y = (cEq h x y).map not := rfl
@[simp] theorem e_lt {i j : Int} {p : Int → Int → Bool} : cI p h (.int i) (.int j) = some (p i j) := rfl
@[simp] theorem e_is : cIs h x .non = some (match x with | .non => true | _ => false) := rfl
@[simp] theorem e_isn : cIsN h x y = (cIs h x y).map not := rfl
@[simp] theorem e_in : cIn h x y = match sL h y with | some us => if flatU x = true ∧ us.all flatU = true then some (inF x us) else inP h x y | none => none := rfl
@[simp] theorem e_nin : cNin h x y = (cIn h x y).map not := rfl
@[simp] theorem e_flat_i {i : Int} : flatU (.int i) = true := rfl
@[simp] theorem e_flat_s {i : List Nat} : flatU (.str i) = true := rfl
@[simp] theorem e_flat_b {i : Bool} : flatU (.bl i) = true := rfl
@[simp] theorem e_flat_n : flatU .non = true := rfl
@[simp] theorem e_mL_ref {n : Nat} : mL h (.ref n) = match h[n]? with | some (.lst us) => some us | _ => none := rfl
@[simp] theorem e_mL_fl : mL h (.fl us) = some us := rfl
@[simp] theorem e_aL_ref {n : Nat} : aL h (.ref n) = match h[n]? with | some (.lst us) => some us | _ => none := rfl
@[simp] theorem e_aL_fl : aL h (.fl us) = some us := rfl
@[simp] theorem e_aL_kl : aL h (.kl us) = some us := rfl
@[simp] theorem e_sL_ref {n : Nat} : sL h (.ref n) = match h[n]? with | some (.lst us) => some us | _ => none := rfl
@[simp] theorem e_sL_fl : sL h (.fl us) = some us := rfl
@[simp] theorem e_sL_kl : sL h (.kl us) = some us := rfl
@[simp] theorem e_sL_tup : sL h (.tup us) = some us := rfl
@[simp] theorem e_and : bAnd t s env h = (t env h).bind fun c h1 => if c = true then s env h1 else .ok false h1 := rfl
@[simp] theorem e_or : bOr t s env h = (t env h).bind fun c h1 => if c = true then .ok true h1 else s env h1 := rfl
@[simp] theorem e_not : bNot t env h = (t env h).bind fun c h1 => .ok (!c) h1 := rfl
@[simp] theorem e_tru : bTru a env h = (a env h).bind fun x h1 => oB (truU h1 x) h1 := rfl
@[simp] theorem e_tru_b {b : Bool} : truU h (.bl b) = some b := rfl
@[simp] theorem e_tru_i {i : Int} : truU h (.int i) = some (i != 0) := rfl
@[simp] theorem e_tru_n : truU h .non = some false := rfl
@[simp] theorem e_mAnd : mAnd a b env h = (a env h).bind fun x h1 => match x with | .bl true => b env h1 | .bl false => .ok (.bl false) h1 | _ => .bad := rfl
@[simp] theorem e_mOr : mOr a b env h = (a env h).bind fun x h1 => match x with | .bl false => b env h1 | .bl true => .ok (.bl true) h1 | _ => .bad := rfl
@[simp] theorem e_mNot : mNot a env h = (a env h).bind fun x h1 => match x with | .bl c => .ok (.bl (!c)) h1 | _ => .bad := rfl
@[simp] theorem e_mIf : mIf t a b env h = (t env h).bind fun c h1 => if c = true then a env h1 else b env h1 := rfl
@[simp] theorem e_aNil : aNil env h = .ok [] h := rfl
@[simp] theorem e_aCons : aCons a am env h = (a env h).bind fun x h1 => (am env h1).bind fun xs h2 => .ok (x :: xs) h2 := rfl
@[simp] theorem e_tup : mTup am env h = (am env h).bind fun us h1 => if us.length ≤ 16000000 then .ok (.tup us) h1 else .bad := rfl
@[simp] theorem e_lst : mLst am env h = (am env h).bind fun us h1 => if us.length ≤ 16000000 then .ok (.ref h1.length) (h1 ++ [.lst us]) else .bad := rfl
@[simp] theorem e_ix_s {s : List Nat} {i : Int} : uIx (.str s) (.int i) h = if s.length ≤ 16000000 then oR ((atI s i).map fun c => .str [c]) h else .bad := rfl
@[simp] theorem e_ix_ref {n : Nat} {i : Int} : uIx (.ref n) (.int i) h = match sL h (.ref n) with | some us => oR (atI us i) h | none => .bad := rfl
@[simp] theorem e_ix_tup {i : Int} : uIx (.tup us) (.int i) h = oR (atI us i) h := rfl
@[simp] theorem e_ix_fl {i : Int} : uIx (.fl us) (.int i) h = oR (atI us i) h := rfl
@[simp] theorem e_ix_kl {i : Int} : uIx (.kl us) (.int i) h = oR (atI us i) h := rfl
@[simp] theorem e_oNone : oNone env h = .ok none h := rfl
@[simp] theorem e_oSome : oSome a env h = (a env h).bind fun x h1 => match x with | .int i => .ok (some i) h1 | _ => .bad := rfl
@[simp] theorem e_sl {lo hi : OM} : mSl a lo hi env h = (a env h).bind fun x h1 => (lo env h1).bind fun l h2 => (hi env h2).bind fun u h3 => uSl x l u h3 := rfl
@[simp] theorem e_sl_s {s : List Nat} {lo hi : Option Int} : uSl (.str s) lo hi h = if s.length ≤ 16000000 then .ok (.str (cut s lo hi)) h else .bad := rfl
@[simp] theorem e_sl_ref {n : Nat} {lo hi : Option Int} : uSl (.ref n) lo hi h = match aL h (.ref n) with | some us => .ok (.ref h.length) (h ++ [.lst (cut us lo hi)]) | none => .bad := rfl
@[simp] theorem e_sl_fl {lo hi : Option Int} : uSl (.fl us) lo hi h = .ok (.ref h.length) (h ++ [.lst (cut us lo hi)]) := rfl
@[simp] theorem e_sl_kl {lo hi : Option Int} : uSl (.kl us) lo hi h = .ok (.ref h.length) (h ++ [.lst (cut us lo hi)]) := rfl
@[simp] theorem e_cb {f : List U → Sto → R U} : mCB f am env h = (am env h).bind f := rfl
@[simp] theorem e_len_s {s : List Nat} : uLen [.str s] h = if s.length ≤ 16000000 then .ok (.int s.length) h else .bad := rfl
@[simp] theorem e_len_ref {n : Nat} : uLen [.ref n] h = match sL h (.ref n) with | some us => .ok (.int us.length) h | none => .bad := rfl
@[simp] theorem e_len_tup : uLen [.tup us] h = .ok (.int us.length) h := rfl
@[simp] theorem e_len_fl : uLen [.fl us] h = .ok (.int us.length) h := rfl
@[simp] theorem e_len_kl : uLen [.kl us] h = .ok (.int us.length) h := rfl
@[simp] theorem e_int_i {i : Int} : uInt [.int i] h = .ok (.int i) h := rfl
@[simp] theorem e_int_b {i : Bool} : uInt [.bl i] h = .ok (.int (if i then 1 else 0)) h := rfl
@[simp] theorem e_list : uList [x] h = match sL h x with | some us => .ok (.ref h.length) (h ++ [.lst us]) | none => .bad := rfl
@[simp] theorem e_tuple : uTuple [x] h = match sL h x with | some us => .ok (.tup us) h | none => .bad := rfl
@[simp] theorem e_min {i j : Int} : uMin [.int i, .int j] h = .ok (.int (if j < i then j else i)) h := rfl
@[simp] theorem e_max {i j : Int} : uMax [.int i, .int j] h = .ok (.int (if j > i then j else i)) h := rfl
@[simp] theorem e_abs {i : Int} : uAbs [.int i] h = .ok (.int (if i < 0 then -i else i)) h := rfl
@[simp] theorem e_lm {f : U → List U → Sto → R U} : mLM f a am env h = (a env h).bind fun x h1 => if (aL h1 x).isSome = true then (am env h1).bind fun us h2 => f x us h2 else .bad := rfl
@[simp] theorem e_app {n : Nat} : uApp (.ref n) [y] h = match h[n]? with | some (.lst xs) => if xs.length < 16000000 then .ok .non (h.set n (.lst (xs ++ [y]))) else .bad | _ => .bad := rfl
@[simp] theorem e_ext {n : Nat} : uExt (.ref n) [y] h = match h[n]?, mL h y with | some (.lst xs), some ys => if xs.length + ys.length ≤ 16000000 then .ok .non (h.set n (.lst (xs ++ ys))) else .bad | _, _ => .bad := rfl
@[simp] theorem e_nx : mNx env h = .nx env h := rfl
@[simp] theorem e_seq_nx {e : Env'} (q : m1 env h = .nx e h1) : mSeq m1 m2 env h = m2 e h1 := by unfold mSeq; rw [q]
@[simp] theorem e_seq_rt (q : m1 env h = .rt u h1) : mSeq m1 m2 env h = .rt u h1 := by unfold mSeq; rw [q]
@[simp] theorem e_seq_ex {C : Nat} {n : Option Nat} {e : Env'} (q : m1 env h = .ex C n e h1) : mSeq m1 m2 env h = .ex C n e h1 := by unfold mSeq; rw [q]
@[simp] theorem e_seq_bk {e : Env'} (q : m1 env h = .bk e h1) : mSeq m1 m2 env h = .bk e h1 := by unfold mSeq; rw [q]
@[simp] theorem e_seq_ct {e : Env'} (q : m1 env h = .ct e h1) : mSeq m1 m2 env h = .ct e h1 := by unfold mSeq; rw [q]
@[simp] theorem e_st_ok {a : α} {f : α → Sto → RS} : (R.ok a h).st env f = f a h := rfl
@[simp] theorem e_st_exc {C : Nat} {n : Option Nat} {f : α → Sto → RS} : (R.exc C n h : R α).st env f = .ex C n env h := rfl
@[simp] theorem e_st_bad {f : α → Sto → RS} : (R.bad : R α).st env f = .bad := rfl
@[simp] theorem e_no_ok {a : α} : (R.ok a h).no = .ok a h := rfl
@[simp] theorem e_asg {k : CT} : mAsg k a env h = (a env h).st env fun u h1 => gCT k u env h1 := rfl
@[simp] theorem e_gct_one {i : Nat} : gCT (.one i) u env h = .nx (env.set i (some u)) h := rfl
@[simp] theorem e_gct_tup {is : List Nat} : gCT (.tup is) (.tup us) env h = if us.length = is.length then .nx (setA env is us) h else .bad := by
  show (match (if us.length = is.length then some (setA env is us) else none) with | some e => RS.nx e h | none => .bad) = _
  by_cases z : us.length = is.length
  · rw [if_pos z, if_pos z]
  · rw [if_neg z, if_neg z]
@[simp] theorem e_ca_one {i : Nat} : (CT.one i).asg u env h = some (env.set i (some u)) := rfl
@[simp] theorem e_ca_tup {is : List Nat} : (CT.tup is).asg (.tup us) env h = if us.length = is.length then some (setA env is us) else none := rfl
@[simp] theorem e_setA_cons {e : Env'} {i : Nat} {is : List Nat} : setA e (i :: is) (u :: us) = setA (e.set i (some u)) is us := by conv => lhs; unfold setA
@[simp] theorem e_setA_nil {e : Env'} {us : List U} : setA e [] us = e := by unfold setA; rfl
@[simp] theorem e_ret : mRet a env h = (a env h).st env fun u h1 => .rt u h1 := rfl
@[simp] theorem e_retN : mRetN env h = .rt .non h := rfl
@[simp] theorem e_drop : mDrop a env h = (a env h).st env fun _ h1 => .nx env h1 := rfl
@[simp] theorem e_ifs' {b : Bool} (q : t env h = .ok b h1) : mIfS t m1 m2 env h = if b = true then m1 env h1 else m2 env h1 := by unfold mIfS; rw [q]; rfl
@[simp] theorem e_brk : mBrk env h = .bk env h := rfl
@[simp] theorem e_cnt : mCnt env h = .ct env h := rfl
@[simp] theorem e_call {n : Nat} {sem : Sem'} : mCall n sem am env h = (am env h).bind fun us h1 => if us.length = n then sem us h1 else .bad := rfl
@[simp] theorem e_isT {T : Ty} : bIs T a env h = (a env h).bind fun x h1 => oB (isU T h1 x) h1 := rfl
@[simp] theorem e_isT2 {T S : Ty} : bIs2 T S a env h = (a env h).bind fun x h1 => oB ((isU T h1 x).bind fun b => (isU S h1 x).map fun c => b || c) h1 := rfl
@[simp] theorem e_set {n : Nat} {k : Int} : uSetL (.ref n) (.int k) z h = match h[n]? with | some (.lst us) => (ixN us.length k).map fun j => h.set n (.lst (us.set j z)) | _ => none := rfl
@[simp] theorem e_seti {f : U → U → U → Sto → Option Sto} : mSetI f a b c env h = (c env h).st env fun z h1 => (a env h1).st env fun x h2 => (b env h2).st env fun y h3 => match f x y z h3 with
  | some h4 => .nx env h4
  | none => .bad := rfl
@[simp] theorem e_aug {f : U → U → Sto → R U} {i : Nat} : mAug f i a env h = match env[i]? with
  | some (some x) => (a env h).st env fun y h1 => (f x y h1).st env fun z h2 => .nx (env.set i (some z)) h2
  | _ => .bad := rfl
@[simp] theorem e_augi {gt f : U → U → Sto → R U} {st : U → U → U → Sto → Option Sto} : mAugI gt f st a b c env h = (a env h).st env fun x h1 => (b env h1).st env fun y h2 => (gt x y h2).st env fun z h3 => (c env h3).st env fun u h4 => (f z u h4).st env fun q h5 => match st x y q h5 with
  | some h6 => .nx env h6
  | none => .bad := rfl
@[simp] theorem e_ixL {n : Nat} {i : Int} : uIxL (.ref n) (.int i) h = match h[n]? with | some (.lst us) => oR (atI us i) h | _ => .bad := rfl
@[simp] theorem e_sm1 {f : U → U → Sto → R U} : mSM1 f a b env h = (a env h).bind fun x h1 => match x with | .str s => (b env h1).bind fun y h2 => f (.str s) y h2 | _ => .bad := rfl
@[simp] theorem e_join {s : List Nat} : uJoin (.str s) y h = match (sL h y).bind strsOf with | some ss => if (ss.map List.length).sum + ss.length * s.length ≤ 16000000 then .ok (.str (TL.joinL s ss)) h else .bad | none => .bad := rfl
def r1Of (us : List U) (h : Sto) : R (Chk × List U) := match us with
  | [.int j] => if -1000000000 ≤ j ∧ j ≤ 1000000000 then .ok ([], rng 0 j.toNat) h else .bad
  | _ => .bad
def r2Of (us : List U) (h : Sto) : R (Chk × List U) := match us with
  | [.int i, .int j] => if (-1000000000 ≤ i ∧ i ≤ 1000000000) ∧ (-1000000000 ≤ j ∧ j ≤ 1000000000) then .ok ([], rng i (j - i).toNat) h else .bad
  | _ => .bad
@[simp] theorem e_r1 : itR1 am env h = (am env h).bind r1Of := rfl
@[simp] theorem e_r2 : itR2 am env h = (am env h).bind r2Of := rfl
@[simp] theorem e_r1i {j : Int} : r1Of [.int j] h = if -1000000000 ≤ j ∧ j ≤ 1000000000 then .ok ([], rng 0 j.toNat) h else .bad := rfl
@[simp] theorem e_r2i {i j : Int} : r2Of [.int i, .int j] h = if (-1000000000 ≤ i ∧ i ≤ 1000000000) ∧ (-1000000000 ≤ j ∧ j ≤ 1000000000) then .ok ([], rng i (j - i).toNat) h else .bad := rfl
def seqOf (x : U) (h : Sto) : R (Chk × List U) := match x with
  | .str s => .ok ([], s.map fun c => .str [c]) h
  | x => match sL h x with
    | some us => .ok (chkOf x us, us) h
    | none => .bad
@[simp] theorem e_itE : itE a env h = (a env h).bind seqOf := rfl
@[simp] theorem e_seq_s {s : List Nat} : seqOf (.str s) h = .ok ([], s.map fun c => .str [c]) h := rfl
@[simp] theorem e_seq_tup : seqOf (.tup us) h = .ok ([], us) h := rfl
@[simp] theorem e_seq_fl : seqOf (.fl us) h = .ok ([], us) h := rfl
@[simp] theorem e_seq_kl : seqOf (.kl us) h = .ok ([], us) h := rfl
@[simp] theorem e_seq_ref {n : Nat} (q : h[n]? = some (.lst us)) : seqOf (.ref n) h = .ok ([(n, us)], us) h := by simp [seqOf, q, chkOf]
def zipOf (us : List U) (h : Sto) : R (Chk × List U) := match us with
  | [x, y] => (match sL h x, sL h y with
    | some us, some ts => .ok (chkOf x us ++ chkOf y ts, pairs us ts) h
    | _, _ => .bad)
  | _ => .bad
def enumOf (us : List U) (h : Sto) : R (Chk × List U) := match us with
  | [x] => (match aL h x with
    | some us => .ok (chkOf x us, pairs (rng 0 us.length) us) h
    | _ => .bad)
  | _ => .bad
@[simp] theorem e_itZ : itZ am env h = (am env h).bind zipOf := rfl
@[simp] theorem e_itN : itN am env h = (am env h).bind enumOf := rfl
@[simp] theorem e_zip : zipOf [x, y] h = match sL h x, sL h y with
    | some us, some ts => .ok (chkOf x us ++ chkOf y ts, pairs us ts) h
    | _, _ => .bad := rfl
@[simp] theorem e_enum : enumOf [x] h = match aL h x with
    | some us => .ok (chkOf x us, pairs (rng 0 us.length) us) h
    | _ => .bad := rfl
@[simp] theorem e_chk_ref {n : Nat} : chkOf (.ref n) us = [(n, us)] := rfl
@[simp] theorem e_chk_fl : chkOf (.fl xs) us = [] := rfl
@[simp] theorem e_chk_kl : chkOf (.kl xs) us = [] := rfl
@[simp] theorem e_chk_tup : chkOf (.tup xs) us = [] := rfl
@[simp] theorem e_yes : bYes env h = .ok true h := rfl
/-! ### the store -/
theorem lt_of_some {n : Nat} (q : (h[n]?).isSome = true) : n < h.length := by
  cases e : h[n]? with
  | none => rw [e] at q; cases q
  | some o => exact (List.getElem?_eq_some_iff.mp e).1
@[simp] theorem st_app {l : Sto} {n : Nat} (q : (h[n]?).isSome = true) : (h ++ l)[n]? = h[n]? := List.getElem?_append_left (lt_of_some q)
@[simp] theorem st_gs {n : Nat} {o : O} (q : (h[n]?).isSome = true) : (h.set n o)[n]? = some o := List.getElem?_set_self (lt_of_some q)
@[simp] theorem st_gn {n k : Nat} {o : O} (q : n ≠ k) : (h.set n o)[k]? = h[k]? := List.getElem?_set_ne q
@[simp] theorem c_mod {i j : Int} : cMod i j ↔ 0 < j := Iff.rfl
@[simp] theorem c_div {i j : Int} : cDiv i j ↔ 0 < j ∧ j < 1073741824 := Iff.rfl
@[simp] theorem c_mul {i j : Int} : cMul i j ↔ (-18446744073709551616 < i ∧ i < 18446744073709551616) ∨ (-18446744073709551616 < j ∧ j < 18446744073709551616) := Iff.rfl
@[simp] theorem c_pow {i j : Int} : cPow i j ↔ 0 ≤ j ∧ j ≤ 1000 ∧ 0 ≤ i ∧ i < 1000 := Iff.rfl
@[simp] theorem st_len {l : Sto} : (h ++ l)[h.length]? = l[0]? := by
  rw [List.getElem?_append_right (Nat.le_refl _), Nat.sub_self]
@[simp] theorem st_lenk {l : Sto} {k : Nat} : (h ++ l)[h.length + k]? = l[k]? := by
  rw [List.getElem?_append_right (Nat.le_add_right _ _), Nat.add_sub_cancel_left]
@[simp] theorem st_set {l : Sto} {o : O} : (h ++ l).set h.length o = h ++ l.set 0 o := by
  rw [List.set_append_right _ _ (Nat.le_refl _), Nat.sub_self]
@[simp] theorem st_setk {l : Sto} {k : Nat} {o : O} : (h ++ l).set (h.length + k) o = h ++ l.set k o := by
  rw [List.set_append_right _ _ (Nat.le_add_right _ _), Nat.add_sub_cancel_left]
@[simp] theorem st_setl {l : Sto} {p : O} {n : Nat} (q : (h[n]?).isSome = true) : (h ++ l).set n p = h.set n p ++ l := List.set_append_left _ _ (lt_of_some q)
end
/-- places in written lists -/
@[simp] theorem at0 {α : Type} {a : α} {l : List α} : atI (a :: l) 0 = some a := atI_nat (j := 0) rfl
@[simp] theorem at1 {α : Type} {a b : α} {l : List α} : atI (a :: b :: l) 1 = some b := atI_nat (j := 1) rfl
@[simp] theorem at2 {α : Type} {a b c : α} {l : List α} : atI (a :: b :: c :: l) 2 = some c := atI_nat (j := 2) rfl
@[simp] theorem at3 {α : Type} {a b c d : α} {l : List α} : atI (a :: b :: c :: d :: l) 3 = some d := atI_nat (j := 3) rfl
@[simp] theorem at4 {α : Type} {a b c d e : α} {l : List α} : atI (a :: b :: c :: d :: e :: l) 4 = some e := atI_nat (j := 4) rfl
@[simp] theorem at5 {α : Type} {a b c d e f : α} {l : List α} : atI (a :: b :: c :: d :: e :: f :: l) 5 = some f := atI_nat (j := 5) rfl
theorem at_ok {α : Type} {l : List α} {i : Int} {x : α} (h0 : 0 ≤ i) (h : l[i.toNat]? = some x) : atI l i = some x := by
  have := atI_nat h
  rwa [Int.toNat_of_nonneg h0] at this
end Q

set_option Elab.async false
set_option linter.all false
set_option maxRecDepth 100000
set_option maxHeartbeats 1000000
/-! QC: instances of the text's own classes. -/
namespace Q
open PySem PySem.Spec PyProof.Rows L2 TL
def putU (f : Str) (v : U) : List (Str × U) → List (Str × U)
  | [] => [(f, v)]
  | (g, x) :: r => if g = f then (g, v) :: r else (g, x) :: putU f v r
section
variable {K : Fr} {g g' : G} {E : XK} {W : WX} {X : Cx} {H : Hp} {h : Sto} {v w : V} {x y : U} {σ : L2.St} {env : Env'} {a b c e o tg : Expr} {es rest : List Expr} {ma mb mc me mo : EM} {ta tb : TM} {pos : Pos} {am : AM} {n : Str} {p : Pos}
theorem RepF.look {f : Str} : ∀ {vs us}, RepF K g vs us → (∀ u, us.lookup f = some u → ∃ v, vs.lookup f = some v ∧ Rep K g v u) ∧ (us.lookup f = none → vs.lookup f = none)
  | _, _, .nil => ⟨(fun u e => nomatch e), fun _ => rfl⟩
  | _, _, .cons (k := k) (v := v) (u := u0) (vs := vs) (us := us) hh r => by
    obtain ⟨i1, i2⟩ := RepF.look (f := f) r
    refine ⟨fun u e => ?_, fun e => ?_⟩
    · rw [List.lookup_cons] at e ⊢
      cases hb : f == k with
      | true => rw [hb] at e; simp only at e; cases e; exact ⟨v, rfl, hh⟩
      | false => rw [hb] at e; simp only at e; exact i1 u e
    · rw [List.lookup_cons] at e ⊢
      cases hb : f == k with
      | true => rw [hb] at e; simp only at e; cases e
      | false => rw [hb] at e; simp only at e; exact i2 e
theorem RepF.put {f : Str} {v : V} {u : U} (hh : Rep K g v u) : ∀ {vs us}, RepF K g vs us → RepF K g (putF f v vs) (putU f u us)
  | _, _, .nil => .cons hh .nil
  | _, _, .cons (k := k) (v := v') (u := u') (vs := vs) (us := us) h' r => by
    show RepF K g (if k = f then (k, v) :: vs else (k, v') :: putF f v vs) (if k = f then (k, u) :: us else (k, u') :: putU f u us)
    split
    · exact .cons hh r
    · exact .cons h' (RepF.put hh r)
theorem RepF.len : ∀ {vs us}, RepF K g vs us → vs.length = us.length
  | _, _, .nil => rfl
  | _, _, .cons _ r => by simp [RepF.len r]
/-- what the written part tells of a class that has the attribute f -/
structure FA (K : Fr) (cs : List Nat) (f : Str) : Prop where
  is : ∀ C, C ∈ cs → Cls K C ∧ NoAttr K C f
/-- the instance at x: its class, its attributes -/
def insU (h : Sto) : U → Option (Nat × List (Str × U))
  | .ref n => match h[n]? with
    | some (.ins C fs) => some (C, fs)
    | _ => none
  | _ => none
theorem ins_of {C : Nat} {us : List (Str × U)} (hr : HR K g H h) (r : Rep K g v x) (e : insU h x = some (C, us)) : ∃ n p dx vs, x = .ref n ∧ v = .ref p ∧ g.al[n]? = some p ∧ h[n]? = some (.ins C us) ∧ H p = some (.ins C dx vs) ∧ RepF K g vs us := by
  cases r with
  | @ref p n q =>
    simp only [insU] at e
    split at e
    · rename_i C' us' e1
      cases e
      obtain ⟨dx, vs, h1, h2⟩ := hr.ob n p _ q e1
      exact ⟨n, p, dx, vs, rfl, rfl, q, e1, h1, h2⟩
    · cases e
  | _ => cases e
/-- o.f -/
def mFld (cs : List Nat) (f : Str) (o : EM) : EM := fun env h => (o env h).bind fun x h1 => match insU h1 x with
  | some (C, fs) => if C ∈ cs then oR (fs.lookup f) h1 else .bad
  | none => .bad
theorem se_fld {cs : List Nat} {f : Str} (T : FA X.K cs f) (he : PE X e (tM X.K W me)) (hb : attributeBase e f X.env (eval e X.env) = eval e X.env := by rfl) : PE X (.Attribute e f pos) (tM X.K W (mFld cs f me)) :=
  PE.weak (pe_fld he hb) fun σ H Q ⟨g, env, h, hr, er, w⟩ => ⟨g, env, h, hr, er, wE w fun u h1 v H1 g1 l1 hr1 rv w1 => by
    split at w1
    · rename_i C fs e1
      split at w1
      · rename_i hc
        obtain ⟨n, q, dx, vs, rfl, rfl, e2, e3, e4, e5⟩ := ins_of hr1 rv e1
        cases el : fs.lookup f with
        | none => rw [el] at w1; exact w1.elim
        | some u =>
          rw [el] at w1
          obtain ⟨z, hz, rz⟩ := e5.look.1 u el
          exact ⟨q, C, dx, vs, z, rfl, e4, (T.is C hc).1, (T.is C hc).2, hz, w1 z H1 g1 (Le.refl _) hr1 rz⟩
      · exact w1.elim
    · exact w1.elim⟩
/-- o.f = e -/
def mSetF (cs : List Nat) (f : Str) (o e : EM) : SM := fun env h => (e env h).st env fun z h1 => (o env h1).st env fun x h2 => match x, insU h2 x with
  | .ref n, some (C, fs) => if C ∈ cs ∧ fs.length < 1000 then .nx env (h2.set n (.ins C (putU f z fs))) else .bad
  | _, _ => .bad
theorem ss_fld {cs : List Nat} {f : Str} {tpos : Pos} (T : FA X.K cs f) (ho : PE X o (tM X.K W mo)) (he : PE X e (tM X.K W me)) (hs : swapsWith e (some (.Attribute o f tpos)) pos.line X.env = pure false := by rfl) : PS X (.Assign [.Attribute o f tpos] e pos) (sM X.K W (mSetF cs f mo me)) :=
  PS.weak (ps_fld ho he hs) fun D σ H ⟨g, env, h, hr, er, w⟩ => ⟨g, env, h, hr, er, wAsg er w fun z h1 vz H1 g1 l1 hr1 rz w1 => ⟨g1, env, h1, hr1, er.mono l1, wAsg (er.mono l1) w1 fun x h2 vx H2 g2 l2 hr2 rx w2 => by
    split at w2
    · rename_i n C fs e1
      split at w2
      · rename_i hc
        obtain ⟨n', q, dx, vs, hn, rfl, e2, e3, e4, e5⟩ := ins_of hr2 rx e1
        cases hn
        refine ⟨q, C, dx, vs, rfl, e4, (T.is C hc.1).1, (T.is C hc.1).2, by rw [e5.len]; exact hc.2, ?_⟩
        exact w2 σ _ g2 (Le.refl _) (hr2.set e2 (fun _ _ z => by rw [e4] at z; cases z) ⟨dx, _, upd_same, e5.put (rz.mono l2)⟩) (er.mono (l1.trans l2))
      · exact w2.elim
    · exact w2.elim⟩⟩
/-- o.f op= e -/
def mAugF (cs : List Nat) (op : U → U → Sto → R U) (f : Str) (o e : EM) : SM := fun env h => (o env h).st env fun x h1 => match x, insU h1 x with
  | .ref n, some (C, fs) => if C ∈ cs then (match fs.lookup f with
    | some u => (e env h1).st env fun y h2 => (op u y h2).st env fun z h3 => (match insU h3 (.ref n) with
      | some (C', fs') => if C' = C ∧ fs'.length < 1000 then .nx env (h3.set n (.ins C (putU f z fs'))) else .bad
      | none => .bad)
    | none => .bad) else .bad
  | _, _ => .bad
/-- o.m(..) -/
def mMeth (C : Nat) (m : Str) (k : Nat) (sem : Sem') (o : EM) (am : AM) : EM := fun env h => (o env h).bind fun x h1 => match insU h1 x with
  | some (C', fs) => if C' = C ∧ fs.lookup m = none then (am env h1).bind fun us h2 => if us.length + 1 = k then sem (x :: us) h2 else .bad else .bad
  | none => .bad
variable {f C : Addr} {fd : FuncData} {ps : List Str} {k j : Nat} {m : Str} {sem : Sem'}
def tMethS (C : Addr) (m : Str) (sp : Sp) (E : L2.St → XK) (to : TE) (t : TA) : TE := fun σ H Q => to σ H fun x H1 => ∃ a dx fs, x = .ref a ∧ H1 a = some (.ins C dx fs) ∧ fs.lookup m = none ∧ t σ H1 fun vs H2 => sp (.ref a :: vs) H2 Q (E σ)
theorem meth_to {Q : VK} (q : tM K W (mMeth C m j sem mo am) σ H Q) : tMethS C m (spM K j sem) (fun σ => atSl W σ) (tM K W mo) (aM K W am) σ H Q := by
  obtain ⟨g, env, h, hr, er, w⟩ := q
  refine ⟨g, env, h, hr, er, wE w fun x h1 v H1 g1 l1 hr1 rv w1 => ?_⟩
  split at w1
  · rename_i C' fs e1
    split at w1
    · rename_i hc
      obtain ⟨n, q, dx, vs, rfl, rfl, e2, e3, e4, e5⟩ := ins_of hr1 rv e1
      have e11 := hc.1
      subst e11
      refine ⟨q, dx, vs, rfl, e4, e5.look.2 hc.2, g1, env, h1, hr1, er.mono l1, wA w1 fun us h2 vs H2 g2 l2 hr2 rvs w2 => ?_⟩
      split at w2
      · rename_i z
        exact ⟨by simp [rvs.len]; exact z, g2, _, h2, hr2, .cons (rv.mono l2) rvs, w2⟩
      · exact w2.elim
    · exact w1.elim
  · exact w1.elim
theorem pe_methS {sp : Sp} {E : L2.St → XK} {apos : Pos} {pl : Sem Bool} {to : TE} {t : TA} (he : PE X o to) (c : Cls X.K C) (hm : Meth X.K C m f) (F : FnOk X.prog X.w X.K X.mg X.base (L2.CX X.prog X.w) k f fd ps sp) (hr : Room k X.A) (hb : Binds X.K fd ps []) (hx : ∀ σ, PassesAt (L2.CX X.prog X.w) X σ (E σ)) (ha : PA X (e :: es) t)
    (hst : starEach (e :: es) X.env = (false, eval e X.env) :: starEach es X.env := by rfl) (hpl : (backTo pos (starEach es X.env)).any (·.1) = false := by rfl)
    (ht : eval (.Call (.Attribute o m apos) (e :: es) [] pos) X.env = (do
      let ov ← eval o X.env
      standAt apos.atName
      let (f, first) ← holding [ov] (getMethod ov m pl)
      callWith pos f first (backTo pos (starEach (e :: es) X.env)) (backToKw pos (keywordEach [] X.env))) := by rfl) :
    PE X (.Call (.Attribute o m apos) (e :: es) [] pos) (tMethS C m sp E to t) := by
  refine ⟨fun pins s σ H Q I h => ?_⟩
  refine PySem.W.methodCall_KW (pl := pl) (thn (he.run pins s σ H _ I h) fun u s1 ⟨x, H1, I1, rx, a, dx, fs, ex, ea, l, q⟩ => ?_) ht
  subst ex
  obtain rfl : u = Value.ref a := rx
  refine getmeth_ok I1 ea c hm l ?_
  refine PySem.W.callWith_K (first := [.ref a]) (h₀ := X.base) I.ok.mod.kin hm.kp (thn (ha.run pos pins s1 σ H1 _ I1 q) fun us s2 ⟨vs, H2, I2, r, q2⟩ => ⟨I2.kIn, ?_⟩) hst hpl
  exact run_fnS (us := .ref a :: us) (vs := .ref a :: vs) F hr hb (hx σ) I2 (.cons rfl r) q2
theorem pe_methS0 {sp : Sp} {E : L2.St → XK} {apos : Pos} {pl : Sem Bool} {to : TE} (he : PE X o to) (c : Cls X.K C) (hm : Meth X.K C m f) (F : FnOk X.prog X.w X.K X.mg X.base (L2.CX X.prog X.w) k f fd ps sp) (hr : Room k X.A) (hb : Binds X.K fd ps []) (hx : ∀ σ, PassesAt (L2.CX X.prog X.w) X σ (E σ))
    (ht : eval (.Call (.Attribute o m apos) [] [] pos) X.env = (do
      let ov ← eval o X.env
      standAt apos.atName
      let (f, first) ← holding [ov] (getMethod ov m pl)
      callWith pos f first (backTo pos (starEach [] X.env)) (backToKw pos (keywordEach [] X.env))) := by rfl) :
    PE X (.Call (.Attribute o m apos) [] [] pos) (tMethS C m sp E to tNil) := by
  refine ⟨fun pins s σ H Q I h => ?_⟩
  refine PySem.W.methodCall_KW (pl := pl) (thn (he.run pins s σ H _ I h) fun u s1 ⟨x, H1, I1, rx, a, dx, fs, ex, ea, l, q⟩ => ?_) ht
  subst ex
  obtain rfl : u = Value.ref a := rx
  refine getmeth_ok I1 ea c hm l ?_
  exact PySem.W.callWith_K0 (first := [.ref a]) I1.kIn hm.kp (run_fnS (us := [.ref a]) (vs := [.ref a]) F hr hb (hx σ) I1 (.cons rfl .nil) q)
theorem se_meth {apos : Pos} {pl : Sem Bool} (tk : Takes X W) (c : Cls X.K C) (hm : Meth X.K C m f) (F : FnOk X.prog X.w X.K X.mg X.base (L2.CX X.prog X.w) k f fd ps (spM X.K j sem)) (hr : Room k X.A) (hb : Binds X.K fd ps []) (he : PE X o (tM X.K W mo)) (ha : PA X (e :: es) (aM X.K W am))
    (hst : starEach (e :: es) X.env = (false, eval e X.env) :: starEach es X.env := by rfl) (hpl : (backTo pos (starEach es X.env)).any (·.1) = false := by rfl)
    (ht : eval (.Call (.Attribute o m apos) (e :: es) [] pos) X.env = (do
      let ov ← eval o X.env
      standAt apos.atName
      let (f, first) ← holding [ov] (getMethod ov m pl)
      callWith pos f first (backTo pos (starEach (e :: es) X.env)) (backToKw pos (keywordEach [] X.env))) := by rfl) : PE X (.Call (.Attribute o m apos) (e :: es) [] pos) (tM X.K W (mMeth C m j sem mo am)) :=
  PE.weak (pe_methS (pl := pl) (E := fun σ => atSl W σ) he c hm F hr hb (fun σ => passAt tk σ) ha hst hpl ht) fun σ H Q q => meth_to q
theorem se_meth0 {apos : Pos} {pl : Sem Bool} (tk : Takes X W) (c : Cls X.K C) (hm : Meth X.K C m f) (F : FnOk X.prog X.w X.K X.mg X.base (L2.CX X.prog X.w) k f fd ps (spM X.K j sem)) (hr : Room k X.A) (hb : Binds X.K fd ps []) (he : PE X o (tM X.K W mo))
    (ht : eval (.Call (.Attribute o m apos) [] [] pos) X.env = (do
      let ov ← eval o X.env
      standAt apos.atName
      let (f, first) ← holding [ov] (getMethod ov m pl)
      callWith pos f first (backTo pos (starEach [] X.env)) (backToKw pos (keywordEach [] X.env))) := by rfl) : PE X (.Call (.Attribute o m apos) [] [] pos) (tM X.K W (mMeth C m j sem mo aNil)) :=
  PE.weak (pe_methS0 (pl := pl) (E := fun σ => atSl W σ) he c hm F hr hb (fun σ => passAt tk σ) ht) fun σ H Q q => by
    have q := meth_to q
    obtain ⟨g, env, h, hr, er, w⟩ := q
    refine ⟨g, env, h, hr, er, ?_⟩
    cases e1 : mo env h with
    | bad => rw [e1] at w; exact w
    | exc C n h => rw [e1] at w; exact w
    | ok x h1 =>
      rw [e1] at w
      intro v H1 g1 l1 hr1 rv
      obtain ⟨a, dx, fs, h1, h2, h3, g2, env2, h4, hr2, er2, w2⟩ := w v H1 g1 l1 hr1 rv
      exact ⟨a, dx, fs, h1, h2, h3, w2 [] H1 g2 (Le.refl _) hr2 .nil⟩
/-- C(..) -/
def mMake (C : Nat) (k : Nat) (sem : Sem') (am : AM) : EM := fun env h => (am env h).bind fun us h1 => if us.length + 1 = k then (match sem (.ref h1.length :: us) (h1 ++ [.ins C []]) with
  | .ok .non h2 => .ok (.ref h1.length) h2
  | _ => .bad) else .bad
theorem make_to {Q : VK} (q : tM K W (mMake C j sem am) σ H Q) : tMake C (spM K j sem) [] E0 (aM K W am) σ H Q := by
  obtain ⟨g, env, h, hr, er, w⟩ := q
  refine ⟨g, env, h, hr, er, wA w fun us h1 vs H1 g1 l1 hr1 rvs w1 => ?_⟩
  intro x dx hx hdx hne
  split at w1
  · rename_i z
    have hr2 := hr1.skip hdx (.own x)
    have hx2 : (upd H1 dx (.own x)) x = none := by rw [upd_ne (Ne.symm hne)]; exact hx
    have hr3 : HR K (g1.new x) (upd (upd H1 dx (.own x)) x (.ins C dx [])) (h1 ++ [.ins C []]) := hr2.new hx2 ⟨dx, [], upd_same, .nil⟩
    have rx : Rep K (g1.new x) (.ref x) (.ref h1.length) := hr1.newRef
    rw [List.append_nil]
    refine ⟨by simp [rvs.len]; exact z, g1.new x, _, _, hr3, .cons rx (rvs.mono Le.new), ?_⟩
    have w1 := WE.mono (Le.new (g := g1) (p := x)) w1
    cases es : sem (.ref h1.length :: us) (h1 ++ [.ins C []]) with
    | bad => rw [es] at w1; exact w1
    | exc C n h => rw [es] at w1; exact w1.elim
    | ok u h2 =>
      rw [es] at w1
      intro v H2 g2 l2 hr4 rv
      cases rv with
      | non => exact ⟨rfl, w1 _ H2 g2 l2 hr4 (rx.mono l2)⟩
      | _ => exact w1.elim
  · exact w1.elim
theorem se_make0 {fI : Addr} (M : Mk X.K C fI) (F : FnOk X.prog X.w X.K X.mg X.base (L2.CX X.prog X.w) k fI fd ps (spM X.K j sem)) (hr : Room (k + 1) X.A) (hg : Gl X n) (hm : X.mg n = some (.ref C)) (hb : Binds X.K fd ps []) (hdb : (n == ("__debug__" : Str)) = false := by decide) :
    PE X (.Call (.Name n p) [] [] pos) (tM X.K W (mMake C j sem aNil)) :=
  PE.weak (pe_make0 M F hr hg hm hb .nil passL hdb) fun σ H Q q => by
    have q := make_to q
    obtain ⟨g, env, h, hr, er, w⟩ := q
    exact w [] H g (Le.refl _) hr .nil
/-- how it is reckoned -/
@[simp] theorem e_fld {cs : List Nat} {f : Str} : mFld cs f mo env h = (mo env h).bind fun x h1 => match insU h1 x with
  | some (C, fs) => if C ∈ cs then oR (fs.lookup f) h1 else .bad
  | none => .bad := rfl
@[simp] theorem e_insU {n : Nat} : insU h (.ref n) = match h[n]? with | some (.ins C fs) => some (C, fs) | _ => none := rfl
@[simp] theorem e_meth {C : Nat} {m : Str} {k : Nat} : mMeth C m k sem mo am env h = (mo env h).bind fun x h1 => match insU h1 x with
  | some (C', fs) => if C' = C ∧ fs.lookup m = none then (am env h1).bind fun us h2 => if us.length + 1 = k then sem (x :: us) h2 else .bad else .bad
  | none => .bad := rfl
@[simp] theorem e_make {C k : Nat} : mMake C k sem am env h = (am env h).bind fun us h1 => if us.length + 1 = k then (match sem (.ref h1.length :: us) (h1 ++ [.ins C []]) with
  | .ok .non h2 => .ok (.ref h1.length) h2
  | _ => .bad) else .bad := rfl
@[simp] theorem e_setf {cs : List Nat} {f : Str} : mSetF cs f mo me env h = (me env h).st env fun z h1 => (mo env h1).st env fun x h2 => match x, insU h2 x with
  | .ref n, some (C, fs) => if C ∈ cs ∧ fs.length < 1000 then .nx env (h2.set n (.ins C (putU f z fs))) else .bad
  | _, _ => .bad := rfl
@[simp] theorem e_augf {cs : List Nat} {op : U → U → Sto → R U} {f : Str} : mAugF cs op f mo me env h = (mo env h).st env fun x h1 => match x, insU h1 x with
  | .ref n, some (C, fs) => if C ∈ cs then (match fs.lookup f with
    | some u => (me env h1).st env fun y h2 => (op u y h2).st env fun z h3 => (match insU h3 (.ref n) with
      | some (C', fs') => if C' = C ∧ fs'.length < 1000 then .nx env (h3.set n (.ins C (putU f z fs'))) else .bad
      | none => .bad)
    | none => .bad) else .bad
  | _, _ => .bad := rfl
end
end Q

set_option Elab.async false
set_option linter.all false
set_option maxRecDepth 100000
set_option maxHeartbeats 1000000
/-! QX: raise of an own exception class, try .. except, the top's numbers. -/
namespace Q
open PySem PySem.Spec PyProof.Rows L2 TL
section
variable {K : Fr} {g g' : G} {E : XK} {W : WX} {X : Cx} {H : Hp} {h : Sto} {σ : L2.St} {env : Env'} {a b c e o tg : Expr} {ma mb mc me mo : EM} {ta tb : TM} {pos : Pos} {m m1 m2 ms : SM}
/-- an exception class of the text without own __init__ -/
structure XC (K : Fr) (mg : Str → Option Value) (x : Str) (C : Addr) : Prop where
  ex : PySem.W.excIn K C [.type "ValueError", .type "Exception", .type "BaseException", .type "object"] "ValueError.__new__" = true
  g : mg x = some (.ref C)
  k : PySem.W.keepIn K (.ref C) = true
  b : PySem.W.subIn K (.ref C) (.type "BaseException") = some true
  t : PySem.W.typeIn K (.ref C) = some (.type "type")
def mRaise (C : Nat) : SM := fun env h => .ex C none env h
/-- nothing may be raised in a suite -/
def RS.no (r : RS) : RS := match r with
  | .ex _ _ _ _ => .bad
  | r => r
/-- try: mb except X: ms; ys: the classes that the clause takes; no others may come -/
def mTry (ys : List Nat) (mb ms : SM) : SM := fun env h => match mb env h with
  | .ex C n env1 h1 => if C ∈ ys then (ms env1 h1).no else .bad
  | r => r
theorem WS.no {r : RS} {D : Ends} {W' : WX} (w : WS K W g r.no D) : WS K W' g r D := by
  cases r with
  | ex C n e h => exact w.elim
  | _ => exact w
@[simp] theorem e_raise {C : Nat} : mRaise C env h = .ex C none env h := rfl
@[simp] theorem e_no_nx {e1 : Env'} : (RS.nx e1 h).no = .nx e1 h := rfl
@[simp] theorem e_no_rt {u : U} : (RS.rt u h).no = .rt u h := rfl
@[simp] theorem e_no_bk {e1 : Env'} : (RS.bk e1 h).no = .bk e1 h := rfl
@[simp] theorem e_no_ct {e1 : Env'} : (RS.ct e1 h).no = .ct e1 h := rfl
/-- a number of the top -/
theorem se_gint {x : Str} {i : Int} (hg : Gl X x) (hm : ∃ t, X.mg x = some (.int i t)) (hdb : (x == ("__debug__" : Str)) = false := by decide) : PE X (.Name x pos) (tM X.K W (mC (.int i))) := by
  obtain ⟨t, hm⟩ := hm
  exact PE.weak (pe_glob (v := .int i) hg hm ⟨_, rfl⟩ hdb) fun σ H Q ⟨g, env, h, hr, er, w⟩ => w _ H g (Le.refl g) hr (.int i)
end
end Q


set_option Elab.async false
set_option linter.all false
set_option maxRecDepth 100000
set_option maxHeartbeats 1000000
/-! QD: dicts, their keys numbers and texts. -/
namespace Q
open PySem PySem.Spec PyProof.Rows L2 TL
def keyU : U → Option DK
  | .int i => some (.inl i)
  | .str s => some (.inr s)
  | _ => none
def valD : List (DK × U) → DK → Option U
  | [], _ => none
  | (j, x) :: r, k => if j = k then some x else valD r k
def repD : List (DK × U) → DK → U → List (DK × U)
  | [], _, _ => []
  | (j, x) :: r, k, v => (if j = k then (j, v) else (j, x)) :: repD r k v
def putD (kvs : List (DK × U)) (k : DK) (v : U) : List (DK × U) := if (valD kvs k).isSome = true then repD kvs k v else kvs ++ [(k, v)]
def aDK (h : Sto) : U → Option (List (DK × U))
  | .ref n => (match h[n]? with
    | some (.dK us) => some us
    | some (.dKl us) => some us
    | _ => none)
  | _ => none
section
variable {K : Fr} {g g' : G} {E : XK} {W : WX} {X : Cx} {H : Hp} {h : Sto} {σ : L2.St} {env : Env'} {a b c e o tg : Expr} {ma mb mc me mo : EM} {ta tb : TM} {pos : Pos} {m m1 m2 ms : SM} {vs : List (Key × V)} {us : List (DK × U)} {u x y : U} {v w : V} {k : DK}
theorem kk_inj : ∀ {j k : DK}, kk j = kk k → j = k
  | .inl i, .inl j, e => by simp only [kk] at e; cases e; rfl
  | .inr s, .inr t, e => by
    simp only [kk] at e
    injection e with e
    injection e with e
    rw [show s = t by simpa using congrArg Array.toList e]
  | .inl _, .inr _, e => by simp only [kk] at e; cases e
  | .inr _, .inl _, e => by simp only [kk] at e; cases e
theorem key_rep (r : Rep K g w y) (e : keyU y = some k) : w = kV (kk k) := by
  cases r <;> simp only [keyU] at e <;> cases e <;> rfl
def RelO' (K : Fr) (g : G) : Option V → Option U → Prop
  | none, none => True
  | some v, some u => Rep K g v u
  | _, _ => False
theorem RepK.val (k : DK) : ∀ {vs us}, RepK K g vs us → RelO' K g (valV vs (kk k)) (valD us k)
  | _, _, .nil => True.intro
  | _, _, .cons (k := j) (v := v) (u := u) (vs := vs) (us := us) h r => by
    unfold valD
    by_cases e : j = k
    · rw [if_pos e, valV_pos (p := (kk j, v)) (by rw [e])]; exact h
    · rw [if_neg e, valV_neg (p := (kk j, v)) (fun z => e (kk_inj z))]; exact RepK.val k r
theorem RepK.len : ∀ {vs us}, RepK K g vs us → vs.length = us.length
  | _, _, .nil => rfl
  | _, _, .cons h r => by simp [RepK.len r]
theorem RepK.rep (k : DK) (rv : Rep K g v u) : ∀ {vs us}, RepK K g vs us → RepK K g (vs.map fun kv => if kv.1 = kk k then (kv.1, v) else kv) (repD us k u)
  | _, _, .nil => .nil
  | _, _, .cons (k := j) h r => by
    unfold repD
    rw [List.map_cons]
    by_cases e : j = k
    · rw [if_pos e, if_pos (by rw [e])]; exact .cons rv (RepK.rep k rv r)
    · rw [if_neg e, if_neg (fun z => e (kk_inj z))]; exact .cons h (RepK.rep k rv r)
theorem RepK.app : ∀ {vs us ws ts}, RepK K g vs us → RepK K g ws ts → RepK K g (vs ++ ws) (us ++ ts)
  | _, _, _, _, .nil, s => s
  | _, _, _, _, .cons h r, s => .cons h (RepK.app r s)
theorem relO_some {o : Option V} {o' : Option U} (r : RelO' K g o o') : o.isSome = o'.isSome := by
  cases o <;> cases o' <;> first | rfl | exact r.elim
theorem RepK.put (r : RepK K g vs us) (rv : Rep K g v u) (k : DK) : RepK K g (putK vs (kk k) v) (putD us k u) := by
  unfold putK putD
  rw [valV_any, relO_some (r.val k)]
  split
  · exact r.rep k rv
  · exact r.app (.cons rv .nil)
theorem aDK_of (hr : HR K g H h) (r : Rep K g v x) (e : aDK h x = some us) : ∃ a n vs, v = .ref a ∧ x = .ref n ∧ g.al[n]? = some a ∧ Rd H a (.dK vs) ∧ RepK K g vs us := by
  cases r with
  | ref q =>
    rename_i a n
    simp only [aDK] at e
    split at e
    · rename_i us' e1
      cases e
      obtain ⟨vs, h1, h2⟩ := hr.ob n a _ q e1
      exact ⟨a, n, vs, rfl, rfl, q, .inl h1, h2⟩
    · rename_i us' e1
      cases e
      obtain ⟨od, vs, _, h1, h2⟩ := hr.ob n a _ q e1
      exact ⟨a, n, vs, rfl, rfl, q, .inr ⟨od, h1⟩, h2⟩
    · cases e
  | _ => cases e
/-- {} -/
def mDNew : EM := fun _ h => .ok (.ref h.length) (h ++ [.dK []])
theorem se_dnew : PE X (.Dict [] [] pos) (tM K W mDNew) :=
  PE.weak pe_dnewK fun σ H Q ⟨g, env, h, hr, er, w⟩ p q => w _ _ _ Le.new (hr.new q ⟨[], upd_same, .nil⟩) hr.newRef
def uDGet (x y : U) (h : Sto) : R U := match aDK h x, keyU y with
  | some us, some k => oR (valD us k) h
  | _, _ => .bad
def cDIn (h : Sto) (y x : U) : Option Bool := match aDK h x, keyU y with
  | some us, some k => some (valD us k).isSome
  | _, _ => none
def cDNin (h : Sto) (y x : U) : Option Bool := match aDK h x, keyU y with
  | some us, some k => some (!(valD us k).isSome)
  | _, _ => none
theorem ok_dnin : CmpOK K (fun y x H Q => ∃ a o, x = .ref a ∧ DGet H a y o ∧ Q (.bl (!o.isSome)) H) cDNin := fun g H h v w x y b Q hr rx ry e q => by
  unfold cDNin at e
  split at e
  · rename_i us k e1 e2
    cases e
    obtain ⟨a, n, vs, rfl, rfl, ha, h1, r1⟩ := aDK_of hr ry e1
    refine ⟨a, _, rfl, ?_, by rw [← relO_some (r1.val k)] at q; exact q⟩
    rw [key_rep rx e2]
    exact .inl ⟨vs, _, h1, rfl, rfl⟩
  · cases e
theorem se_dnin (hu : X.A.units + 1 < cLine) (ha : PE X a (tM K W ma)) (hb : PE X b (tM K W mb)) (h1 : behindInMarks .NotIn b = false := by first | exact nobehind _ (by decide) (by decide) | rfl) : PE X (.Compare a [.NotIn] [b] pos) (tM K W (mB (bCmp cDNin ma mb))) :=
  PE.weak (pe_cmp (pc_dnotin hu ha hb) h1) fun σ H Q t => cmp_to (r := fun y x H Q => ∃ a o, x = .ref a ∧ DGet H a y o ∧ Q (.bl (!o.isSome)) H) ok_dnin (mB_to t) fun b H q => q
/-- o[i] = e of a dict -/
def uDSet (x y z : U) (h : Sto) : Option Sto := match x with
  | .ref n => (match h[n]?, keyU y with
    | some (.dK us), some k => if us.length < 16000000 then some (h.set n (.dK (putD us k z))) else none
    | _, _ => none)
  | _ => none
def rDSet : TSet := fun o i v H Q => ∃ a H4, o = .ref a ∧ DPut H a i v H4 ∧ Q H4
theorem ok_dset : SetOK K rDSet uDSet := fun g H h vx vy vz x y z h' Q hr rx ry rz e k => by
  unfold uDSet at e
  split at e
  · split at e
    · rename_i us kx e1 e2
      split at e
      · rename_i z1
        cases e
        cases rx with
        | ref ha =>
        rename_i a
        obtain ⟨vs, h1, r1⟩ := hr.ob _ a _ ha e1
        refine ⟨a, _, rfl, ?_, k _ (hr.set ha (fun _ _ z => by rw [h1] at z; cases z) ⟨_, upd_same, r1.put rz kx⟩)⟩
        rw [key_rep ry e2]
        exact DPut.k h1 (by rw [r1.len]; exact sz16l z1)
      · cases e
    · cases e
  · cases e
theorem ss_dset {i : Expr} {ix : EM} {tpos : Pos} (hu : X.A.units + 1 < cLine) (he : PE X e (tM K W me)) (ho : PE X o (tM K W mo)) (hi : PE X i (tM K W ix)) (hs : swapsWith e (some (.Subscript o i tpos)) pos.line X.env = pure false := by rfl) :
    PS X (.Assign [.Subscript o i tpos] e pos) (sM K W (mSetI uDSet mo ix me)) :=
  PS.weak (ps_dput hu ho hi he hs) fun D σ H q => seti_to (r := rDSet) ok_dset q
/-- len of a dict -/
def uDLen (us : List U) (h : Sto) : R U := match us with
  | [x] => (match aDK h x with
    | some us => .ok (.int us.length) h
    | none => .bad)
  | _ => .bad
/-- dict(d): a copy -/
def uDCopy (us : List U) (h : Sto) : R U := match us with
  | [x] => (match aDK h x with
    | some us => .ok (.ref h.length) (h ++ [.dK us])
    | none => .bad)
  | _ => .bad
/-! ### displays -/
def pairsD : List U → Option (List (DK × U))
  | [] => some []
  | k :: v :: r => (match keyU k, pairsD r with
    | some k, some kvs => some ((k, v) :: kvs)
    | _, _ => none)
  | _ => none
def mergeD (kvs more : List (DK × U)) : List (DK × U) := more.foldl (fun acc kv => putD acc kv.1 kv.2) kvs
def flat2 (ps : List (V × V)) : List V := ps.flatMap fun p => [p.1, p.2]
structure Prs (X : Cx) (K : Fr) (W : WX) (pos : Pos) (ks : List (Option Expr)) (vs : List Expr) (am : AM) : Prop where
  go : ∃ trs, PPs X pos ks vs trs ∧ ∀ σ H (Q : List V → Hp → Prop) (P : List (V × V) → Hp → Prop), aM K W am σ H Q → (∀ ps H', Q (flat2 ps) H' → P ps H') → tPairs trs σ H P
def mDisp (am : AM) : EM := fun env h => (am env (h ++ [.dK []])).bind fun us h1 => match pairsD us, h1[h.length]? with
  | some kvs, some (.dK []) => if kvs.length ≤ 15 then .ok (.ref h.length) (h1.set h.length (.dK (mergeD [] kvs))) else .bad
  | _, _ => .bad
/-! ### a walk over a dict: it is locked for good -/
def lockU (x : U) (h1 : Sto) : R U := match x with
  | .ref n => (match h1[n]? with
    | some (.dK us) => .ok (.ref n) (h1.set n (.dKl us))
    | some (.dKl us) => .ok (.ref n) h1
    | _ => .bad)
  | _ => .bad
def mLock (m : EM) : EM := fun env h => (m env h).bind lockU
def dkU : DK → U
  | .inl i => .int i
  | .inr s => .str s
theorem RepK.get : ∀ {vs us} {i : Nat} {k : Key} {v : V}, RepK K g vs us → vs[i]? = some (k, v) → ∃ j u, us[i]? = some (j, u) ∧ k = kk j
  | _, _, _, _, _, .nil, h => by simp at h
  | _, _, 0, _, _, .cons h r, e => by simp at e; exact ⟨_, _, rfl, e.1.symm⟩
  | _, _, i + 1, _, _, .cons h r, e => by simpa using RepK.get (i := i) r (by simpa using e)
def itKeys (a : EM) : IM' := fun env h => (mLock a env h).bind fun x h1 => match aDK h1 x with
  | some us => .ok ([], us.map fun p => dkU p.1) h1
  | none => .bad
theorem hu1 {A : Around} {k : Nat} (hr : Room k A) : A.units + 1 < cLine := by have := hu64 hr; omega
end
section
variable {X : Cx} {W : WX} {e : Expr} {es : List Expr} {am : AM} {pos p : Pos} {n : Str}
variable (hg : Gl X n) (hm : X.mg n = none) (ha : PA X (e :: es) (aM X.K W am)) (hn : n ≠ "__name__" := by decide) (hdb : (n == ("__debug__" : Str)) = false := by decide)
    (he : starEach (e :: es) X.env = (false, eval e X.env) :: starEach es X.env := by rfl) (hpl : (backTo pos (starEach es X.env)).any (·.1) = false := by rfl)
include hg hm ha hn hdb he hpl
end
end Q

set_option Elab.async false
set_option linter.all false
set_option maxRecDepth 100000
set_option maxHeartbeats 1000000
/-! QE: more built-ins on lists: sum, max, min, any, all, sorted. -/
namespace Q
open PySem PySem.Spec PyProof.Rows L2 TL
section
variable {K : Fr} {g g' : G} {E : XK} {W : WX} {X : Cx} {H : Hp} {h : Sto} {v w : V} {x y : U} {σ : L2.St} {env : Env'} {e : Expr} {es : List Expr} {am : AM} {pos p : Pos} {n : Str}
def intsU : List U → Option (List Int)
  | [] => some []
  | .int i :: r => (intsU r).map (i :: ·)
  | _ :: _ => none
def blsU : List U → Option (List Bool)
  | [] => some []
  | .bl i :: r => (blsU r).map (i :: ·)
  | _ :: _ => none
/-- a function of the ints of a list -/
def uLI (f : List Int → Option U) (us : List U) (h : Sto) : R U := match us with
  | [x] => match aL h x with
    | some xs => (match intsU xs with
      | some ns => (match f ns with
        | some u => .ok u h
        | none => .bad)
      | none => .bad)
    | none => .bad
  | _ => .bad
def uLB (f : List Bool → U) (us : List U) (h : Sto) : R U := match us with
  | [x] => match aL h x with
    | some xs => (match blsU xs with
      | some ns => .ok (f ns) h
      | none => .bad)
    | none => .bad
  | _ => .bad
def maxL : List Int → Option Int
  | [] => none
  | i :: r => some (r.foldl (fun a b => if b > a then b else a) i)
def minL : List Int → Option Int
  | [] => none
  | i :: r => some (r.foldl (fun a b => if b < a then b else a) i)
abbrev uSum := uLI fun ns => some (.int ns.sum)
abbrev uMax1 := uLI fun ns => (maxL ns).map U.int
abbrev uMin1 := uLI fun ns => (minL ns).map U.int
abbrev uAny := uLB fun bs => .bl (bs.any id)
abbrev uAll := uLB fun bs => .bl (bs.all id)
/-! sorted -/
def insI (i : Int) : List Int → List Int
  | [] => [i]
  | j :: r => if i ≤ j then i :: j :: r else j :: insI i r
def sortI (ns : List Int) : List Int := ns.foldr insI []
def uSortI (us : List U) (h : Sto) : R U := match us with
  | [x] => match aL h x with
    | some xs => (match intsU xs with
      | some ns => .ok (.ref h.length) (h ++ [.lst ((sortI ns).map U.int)])
      | none => .bad)
    | none => .bad
  | _ => .bad
section
variable (hg : Gl X n) (hm : X.mg n = none) (ha : PA X (e :: es) (aM X.K W am)) (hn : n ≠ "__name__" := by decide) (hdb : (n == ("__debug__" : Str)) = false := by decide)
    (he : starEach (e :: es) X.env = (false, eval e X.env) :: starEach es X.env := by rfl) (hpl : (backTo pos (starEach es X.env)).any (·.1) = false := by rfl)
include hg hm ha hn hdb he hpl
end
end
end Q

set_option Elab.async false
set_option linter.all false
set_option maxRecDepth 100000
set_option maxHeartbeats 1000000
/-! QT: texts and written values of the top: ord, index, char in text, text * number, chains of comparisons, global texts and tuples. -/
namespace Q
open PySem PySem.Spec PyProof.Rows L2 TL
open Builtin Builtin.Str
/-! ### the first place of a sign -/
section
variable {K : Fr} {g g' : G} {E : XK} {W : WX} {X : Cx} {H : Hp} {h : Sto} {v w : V} {x y : U} {σ : L2.St} {env : Env'} {a b c o e : Expr} {es : List Expr} {am : AM} {ma mb mc mo me : EM} {pos p apos cpos : Pos} {n : Str}
/-! ### written values of the top -/
/-- a tuple of the written part -/
def KT (K : Fr) (a : Addr) (vs : List V) : Prop := ∃ (o : Obj) (its : Array Value) (n : Nat), K.lookup a = some o ∧ o.cls = .type "tuple" ∧ o.dict = none ∧ o.data = .seq its n ∧ its.size ≤ sizeLine ∧ Vals vs its.toList
/-! ### ord -/
def uOrd (us : List U) (h : Sto) : R U := match us with
  | [.str [c]] => .ok (.int c) h
  | _ => .bad
/-! ### chains of comparisons -/
def mChain (f f' : Sto → U → U → Option Bool) (a b c : EM) : EM := fun env h => (a env h).bind fun x h1 => (b env h1).bind fun y h2 => (oB (f h2 x y) h2).bind fun k h3 => if k = true then (c env h3).bind fun z h4 => (oB (f' h4 y z) h4).bind fun k h5 => .ok (.bl k) h5 else .ok (.bl false) h3
def bChain (f f' : Sto → U → U → Option Bool) (a b c : EM) : TM := fun env h => (a env h).bind fun x h1 => (b env h1).bind fun y h2 => (oB (f h2 x y) h2).bind fun k h3 => if k = true then (c env h3).bind fun z h4 => oB (f' h4 y z) h4 else .ok false h3
/-! ### text * number -/
def uMulS (x y : U) (h : Sto) : R U := match x, y with
  | .str s, .int k => if s.length * k.toNat ≤ 16000000 ∧ k.natAbs ≤ 1000000000 then .ok (.str (List.replicate k.toNat s).flatten) h else .bad
  | _, _ => .bad
theorem fold_app (l : List (Array Nat)) (acc : Array Nat) : (l.foldl (· ++ ·) acc).toList = acc.toList ++ (l.map Array.toList).flatten := by
  induction l generalizing acc with
  | nil => simp
  | cons a r ih => simp [ih]
theorem op_mulS : OpR X (binaryOp .Mult) (fun x y H Q => ∃ (s : List Nat) (k : Int), x = .str ⟨s.toArray⟩ ∧ y = .int k ∧ s.length * k.toNat ≤ 16000000 ∧ k.natAbs ≤ 1000000000 ∧ Q (.str ⟨(List.replicate k.toNat s).flatten.toArray⟩) H) := by
  intro pins t0 σ H x y v u Q I rx ry h
  obtain ⟨s, k, rfl, rfl, hz, hk, q⟩ := h
  obtain ⟨t, rfl⟩ := rx
  obtain ⟨t', rfl⟩ := ry
  have hl : Str.length ⟨s.toArray⟩ = s.length := str_len s
  have e63 : (2 : Int) ^ 63 = 9223372036854775808 := by decide
  have fin : ∀ (z : Str) tk tok, z = ⟨(List.replicate k.toNat s).flatten.toArray⟩ → EP X pins σ Q (.str z tok) { t0 with toks := tk } := fun z tk tok e => ⟨.str z, H, I.tok _, ⟨_, rfl⟩, by rw [e]; exact q⟩
  refine P.mul_str (by rw [decide_eq_false (by omega), decide_eq_false (by omega)]; rfl) (fun h1 _ => ?_) (fun h1 _ => ?_) ?_
  · rw [hl]
    have h2 : (s.length : Int) * k ≤ 16000000 := by
      have : (k.toNat : Int) = k := Int.toNat_of_nonneg (by omega)
      have h6 : ((s.length * k.toNat : Nat) : Int) = (s.length : Int) * k := by rw [Int.natCast_mul, this]
      rw [← h6]
      generalize s.length * k.toNat = m at hz
      omega
    intro hgt
    have h3 : (2 ^ 63 - 1) / k * k ≤ 2 ^ 63 - 1 := Int.ediv_mul_le _ (by omega)
    have h4 : (2 ^ 63 - 1) < ((2 ^ 63 - 1) / k + 1) * k := Int.lt_ediv_add_one_mul_self _ (by omega)
    have h5 : ((2 ^ 63 - 1) / k + 1) * k ≤ (s.length : Int) * k := Int.mul_le_mul_of_nonneg_right (by omega) (by omega)
    omega
  · rw [hl]
    unfold tooLong
    exact decide_eq_false (by have : (16000000 : Nat) ≤ sizeLine := by decide
                              omega)
  · split
    · rename_i h1
      refine ⟨by decide, fin _ _ _ ?_⟩
      have : k.toNat = 0 := by omega
      rw [this]; rfl
    · split
      · rename_i h1 h2
        refine fin _ _ _ ?_
        rw [hl] at h2
        simp at h2
        rcases h2 with h2 | h2
        · subst h2; simp
        · rw [h2]; simp
      · refine ⟨?_, fin _ _ _ ?_⟩
        · show (List.foldl (· ++ ·) #[] (List.replicate k.toNat s.toArray)).size ≤ _
          rw [← Array.length_toList, fold_app, List.map_replicate, List.length_append, List.length_flatten, List.map_replicate, List.sum_replicate_nat]
          have : (16000000 : Nat) ≤ sizeLine := by decide
          rw [Nat.mul_comm] at hz
          show 0 + k.toNat * s.length ≤ _
          omega
        · congr 1
          apply Array.toList_inj.mp
          rw [fold_app]
          simp
theorem ok_mulS : BinOK K (fun x y H Q => ∃ (s : List Nat) (k : Int), x = .str ⟨s.toArray⟩ ∧ y = .int k ∧ s.length * k.toNat ≤ 16000000 ∧ k.natAbs ≤ 1000000000 ∧ Q (.str ⟨(List.replicate k.toNat s).flatten.toArray⟩) H) uMulS := by
  intro E g H h v w x y Q hr rx ry t
  unfold uMulS at t
  split at t
  · cases rx; cases ry
    split at t
    · rename_i s k z
      exact ⟨s, k, rfl, rfl, z.1, z.2, t _ _ g (Le.refl g) hr (.str _)⟩
    · exact t.elim
  · exact t.elim
theorem se_mulS {a b : Expr} (ha : PE X a (tM X.K W ma)) (hb : PE X b (tM X.K W mb)) : PE X (.BinOp a .Mult b pos) (tM X.K W (mBin uMulS ma mb)) := se_bin op_mulS ok_mulS ha hb
/-! ### a sign in a text -/
def cInS (_ : Sto) (x y : U) : Option Bool := match x, y with
  | .str [c], .str z => some (decide (c ∈ z))
  | _, _ => none
def cNinS (h : Sto) (x y : U) : Option Bool := (cInS h x y).map not
/-! ### index -/
def uIndexS (x : U) (y : U) (h : Sto) : R U := match x, y with
  | .str s, .str [c] => (match s.findIdx? (· == c) with
    | some i => .ok (.int i) h
    | none => .bad)
  | _, _ => .bad
def uIndexL (x : U) (us : List U) (h : Sto) : R U := match us with
  | [y] => (match aL h x with
    | some us => if us.all flatU = true ∧ flatU y = true then (match us.findIdx? (fun z => eqF z y) with
      | some i => .ok (.int i) h
      | none => .bad) else .bad
    | none => .bad)
  | _ => .bad
def uIndexT (us : List U) (ts : List U) (h : Sto) : R U := match ts with
  | [.str z] => (match strsOf us with
    | some ss => (match ss.findIdx? (· == z) with
      | some i => .ok (.int i) h
      | none => .bad)
    | none => .bad)
  | _ => .bad
section
variable (ha : PA X (e :: es) (aM X.K W am))
    (hfew : ((backTo cpos (starEach (e :: es) X.env)).all (fun x => !x.1) && (backToKw cpos (keywordEach [] X.env)).all (fun x => x.1.isSome)
      && decide ((e :: es).length + ([] : List Keyword).length + (if ([] : List Keyword).isEmpty then 0 else 1) < 30)) = true := by rfl)
    (hline : (apos.endLine == cpos.line) = true := by rfl) (hs : starEach (e :: es) X.env = (false, eval e X.env) :: starEach es X.env := by rfl) (hplain : (backTo cpos (starEach es X.env)).any (·.1) = false := by rfl)
include ha hfew hline hs hplain
end
end
end Q

set_option Elab.async false
set_option linter.all false
set_option maxRecDepth 100000
set_option maxHeartbeats 1000000
/-! QA: except X as e, where e is only asked for its class. -/
namespace Q
open PySem PySem.Spec PyProof.Rows L2 TL
/-- the name of the exception goes -/
def RS.cl (i : Nat) : RS → RS
  | .nx e h => .nx (e.set i none) h
  | .rt u h => .rt u h
  | .bk e h => .bk (e.set i none) h
  | .ct e h => .ct (e.set i none) h
  | .ex _ _ _ _ => .bad
  | .bad => .bad
def mTryAs (i : Nat) (ys : List Nat) (mb ms : SM) : SM := fun env h => match mb env h with
  | .ex C n env1 h1 => if C ∈ ys ∧ n = none ∧ i < env1.length then (ms (env1.set i none) h1).cl i else .bad
  | r => r
def mIsE (i a : Nat) (b : Bool) : EM := fun env h => match env[i]? with
  | some (some (.xv a' none _ none)) => if a' = a then .ok (.bl b) h else .bad
  | _ => .bad
section
variable {K : Fr} {g g' : G} {E : XK} {W W0 : WX} {X : Cx} {H : Hp} {h : Sto} {σ : L2.St} {env : Env'} {m1 ms : SM} {mx : Nat → SM} {pos : Pos}
theorem WS.cl {r : RS} {D : Ends} {i : Nat} {W' : WX} (w : WS K W g (r.cl i) D) : WS K W' g r { nx := fun σ' H' => D.nx (σ'.set i none) H', rt := D.rt, bk := fun σ' H' => D.bk (σ'.set i none) H', ct := fun σ' H' => D.ct (σ'.set i none) H' } := by
  cases r with
  | nx e h => exact fun σ H g' l hr er => w _ H g' l hr (er.none i)
  | rt u h => exact w
  | bk e h => exact fun σ H g' l hr er => w _ H g' l hr (er.none i)
  | ct e h => exact fun σ H g' l hr er => w _ H g' l hr (er.none i)
  | ex C n e h => exact w.elim
  | bad => exact w.elim
end
end Q

set_option Elab.async false
set_option linter.all false
set_option maxRecDepth 100000
set_option maxHeartbeats 1000000
/-! QR: str(number), list.pop(). -/
namespace Q
open PySem PySem.Spec PyProof.Rows L2 TL
/-- the signs of a number -/
def sInt (i : Int) : List Nat := (toString i).toList.map Char.toNat
section
variable {K : Fr} {g g' : G} {E : XK} {W : WX} {X : Cx} {H : Hp} {h : Sto} {v w : V} {x y : U} {σ : L2.St} {env : Env'} {a b c o e : Expr} {es : List Expr} {am : AM} {ma mb mc mo me : EM} {pos p apos cpos : Pos} {n : Str}
def uStr (us : List U) (h : Sto) : R U := match us with
  | [.int i] => if i.natAbs.log2 < 1920 then .ok (.str (sInt i)) h else .bad
  | _ => .bad
theorem ok_str : CallOK K (fun xs H Q => ∃ i : Int, xs = [.int i] ∧ i.natAbs.log2 < 1920 ∧ Q (.str (toString i)) H) uStr := by
  intro E g H h vs us Q hr rv t
  unfold uStr at t
  split at t
  · rename_i i
    split at t
    · rename_i z
      cases rv with
      | cons r1 r2 =>
        cases r2
        cases r1
        refine ⟨i, rfl, z, ?_⟩
        have : ((toString i : String) : Str) = ⟨(sInt i).toArray⟩ := Str.ofString_eq_toList _
        rw [this]
        exact t _ _ g (Le.refl _) hr (.str _)
    · exact t.elim
  · exact t.elim
/-! ### pop -/
def mLM0 (f : U → List U → Sto → R U) (o : EM) : EM := fun env h => (o env h).bind fun x h1 => if (aL h1 x).isSome = true then f x [] h1 else .bad
def uPop (x : U) (us : List U) (h : Sto) : R U := match x, us with
  | .ref n, [] => (match h[n]? with
    | some (.lst xs) => (match xs[xs.length - 1]? with
      | some y => .ok y (h.set n (.lst xs.dropLast))
      | none => .bad)
    | _ => .bad)
  | _, _ => .bad
/-! ### insert -/
def uIns (x : U) (us : List U) (h : Sto) : R U := match x, us with
  | .ref n, [.int i, y] => (match h[n]? with
    | some (.lst xs) => if xs.length < 16000000 ∧ 0 ≤ i ∧ i < 1000000000000000000 then .ok .non (h.set n (.lst (xs.take i.toNat ++ [y] ++ xs.drop i.toNat))) else .bad
    | _ => .bad)
  | _, _ => .bad
theorem ok_ins : MtOK K (fun x vs H Q => ∃ (l : Addr) (xs : List V) (i : Int) (y : V), x = .ref l ∧ vs = [.int i, y] ∧ H l = some (.lst xs) ∧ xs.length < sizeLine ∧ 0 ≤ i ∧ i < 2 ^ 63 ∧
    Q .non (upd H l (.lst (xs.take i.toNat ++ [y] ++ xs.drop i.toNat)))) uIns := by
  intro E g H h v x vs us Q hr rx rvs t
  unfold uIns at t
  split at t
  · rename_i n i y
    split at t
    · rename_i xs e1
      split at t
      · rename_i z
        cases rx with
        | ref q =>
          rename_i a
          cases rvs with
          | cons r1 r2 =>
            cases r2 with
            | cons r2 r3 =>
              cases r3
              cases r1
              obtain ⟨ws, h1, h2⟩ := hr.ob n a _ q e1
              exact ⟨a, ws, i, _, rfl, rfl, h1, by rw [h2.len]; exact sz16l z.1, z.2.1, by have := z.2.2; omega, t _ _ g (Le.refl _) (hr.setLst q h1 (((h2.take i.toNat).app (.one r2)).app (h2.drop i.toNat))) .non⟩
      · exact t.elim
    · exact t.elim
  · exact t.elim
theorem se_ins {e1 e2 : Expr} (ho : PE X o (tM X.K W mo)) (ha : PA X [e1, e2] (aM X.K W am)) (hbase : attributeBase o "insert" X.env (eval o X.env) = eval o X.env := by rfl)
    (hfew : ((backTo cpos (starEach [e1, e2] X.env)).all (fun x => !x.1) && (backToKw cpos (keywordEach [] X.env)).all (fun x => x.1.isSome)
      && decide ([e1, e2].length + ([] : List Keyword).length + (if ([] : List Keyword).isEmpty then 0 else 1) < 30)) = true := by rfl)
    (hline : (apos.endLine == cpos.line) = true := by rfl) (hs : starEach [e1, e2] X.env = (false, eval e1 X.env) :: starEach [e2] X.env := by rfl) (hplain : (backTo cpos (starEach [e2] X.env)).any (·.1) = false := by rfl) :
    PE X (.Call (.Attribute o "insert" apos) [e1, e2] [] cpos) (tM X.K W (mLM uIns mo am)) :=
  PE.weak (pe_bm PySem.F.plainAttrs_list PySem.F.slot_list_insert PySem.F.type_list_insert mt_insert ho ha hbase hfew hline hs hplain) fun σ H Q q => lm_to ok_ins q
/-! ### [::-1] of a list -/
def uRev (x : U) (h : Sto) : R U := match aL h x with
  | some us => .ok (.ref h.length) (h ++ [.lst us.reverse])
  | none => .bad
def mRev (a : EM) : EM := fun env h => (a env h).bind uRev
theorem se_rev {k : Nat} {p1 p2 p3 : Pos} (ha : PE X a (tM X.K W ma)) : PE X (.Subscript a (.Slice none none (some (.UnaryOp .USub (.Constant (.int 1) k p1) p2)) p3) pos) (tM X.K W (mRev ma)) :=
  PE.weak (pe_revL ha) fun σ H Q ⟨g, env, h, hr, er, w⟩ => ⟨g, env, h, hr, er, wE w fun u h1 v H1 g1 l1 hr1 rv w1 => by
    unfold uRev at w1
    cases e : aL h1 u with
    | none => rw [e] at w1; exact w1.elim
    | some us =>
      rw [e] at w1
      obtain ⟨a, vs, rfl, h2, r2⟩ := aL_of hr1 rv e
      exact ⟨a, vs, rfl, h2, fun p hp => w1 _ _ _ Le.new (hr1.newLst hp r2.rev) hr1.newRef⟩⟩
/-! ### range downwards -/
/-- hi, hi - 1, .. -/
def rngD (hi : Int) (n : Nat) : List U := (List.range n).map fun i => .int (hi - (i : Nat))
theorem rngD_len (lo : Int) (n : Nat) : (rngD lo n).length = n := by simp [rngD]
theorem rngD_get {lo : Int} {n i : Nat} (h : i < n) : (rngD lo n)[i]? = some (.int (lo - (i : Nat))) := by simp [rngD, h]
theorem it_rangeD {lo : Int} {n : Nat} : ItOk K g (Itc lo (-1) n) [] (rngD lo n) where
  go := fun _ _ _ i _ _ _ hi => by rw [rngD_len] at hi; exact hi
  stop := fun _ _ _ _ _ _ => by rw [rngD_len]; exact Nat.le_refl _
  yl := fun g' H h i x H' _ hr _ hi y => by
    rw [rngD_len] at hi
    obtain ⟨rfl, rfl⟩ := y
    refine ⟨g', _, Le.refl _, hr, rngD_get hi, ?_⟩
    have : lo + (i : Nat) * (-1 : Int) = lo - (i : Nat) := by omega
    rw [this]
    exact .int _
def itR3 (am : AM) : IM' := fun env h => (am env h).bind fun us h1 => match us with
  | [.int i, .int j, .int c] => if (-1000000000 ≤ i ∧ i ≤ 1000000000) ∧ (-1000000000 ≤ j ∧ j ≤ 1000000000) ∧ c = -1 then .ok ([], rngD i (i - j).toNat) h1 else .bad
  | _ => .bad
theorem si_r3 {tg : Expr} (hg : Gl X "range") (hm : X.mg "range" = none) (ha : PA X [a, b, c] (aM X.K W am)) (hs : starEach [a, b, c] X.env = (false, eval a X.env) :: starEach [b, c] X.env := by rfl) (hpl : (backTo pos (starEach [b, c] X.env)).any (·.1) = false := by rfl) :
    PI X tg (.Call (.Name "range" p) [a, b, c] [] pos) (iM X.K W (itR3 am)) :=
  PI.weak (pi_range3 hg hm ha hs hpl) fun σ H Q ⟨g, env, h, hr, er, w⟩ => ⟨g, env, h, hr, er, wAI w fun us h1 v H1 g1 l1 hr1 rv w1 => by
    split at w1
    · split at w1
      · rename_i z
        cases rv with
        | cons r1 r2 =>
          cases r2 with
          | cons r2 r3 =>
            cases r3 with
            | cons r3 r4 =>
              cases r4
              cases r1; cases r2; cases r3
              obtain ⟨z1, z2, rfl⟩ := z
              exact ⟨_, _, _, _, rfl, .neg (by omega) (by omega) (by omega) (by omega), w1 _ H1 g1 (Le.refl _) hr1 it_rangeD⟩
      · exact w1.elim
    · exact w1.elim⟩
end
end Q

set_option Elab.async false
set_option linter.all false
set_option maxRecDepth 100000
set_option maxHeartbeats 1000000
/-! QL: a list comprehension out of which an exception comes. -/
namespace PySem
open HandSPX
section
variable {M : Model} {A : Around} {E : Value → Shared → Prop} {s : Shared} {Z : Obj → Prop} {base : Heap} {env c : Env} {outer l : List Env} {L e : Addr}
end
end PySem
namespace L2
open PySem PySem.Spec PyProof.Rows
section
variable {X : Cx} {pins : List (Addr × Obj)} {σ : L2.St} {H3 H' : Hp} {s3 sI s' : Shared} {B h' : Heap} {W : WX}
/-- the block's context, its exceptions taken by xe -/
abbrev Cx.blkX (X : Cx) (s : Shared) (H : Hp) (scope : Scope) (cenv : Env) (fp : List Addr) (xe : Value → Shared → Prop) : Cx := { X.blk s H scope cenv fp with xe := xe }
end
end L2

set_option Elab.async false
set_option linter.all false
set_option maxRecDepth 100000
set_option maxHeartbeats 1000000
/-! QM: comprehensions whose items may raise. -/
namespace Q
open PySem PySem.Spec PyProof.Rows L2 TL
section
variable {K : Fr} {g g' : G} {E : XK} {W : WX} {X : Cx} {H : Hp} {h : Sto} {σ : L2.St} {env : Env'} {tg iter elt : Expr} {ct : CT} {mi : IM'} {ta : TM} {me : EM} {ifs : List Expr} {scope : Scope} {own : List (Str × Nat)} {pos : Pos}
open Classical in
noncomputable def lcLX (c : Chk) (ct : CT) (t : TM) (me : EM) (n : Nat) (env : Env') : List U → Sto → R U
  | [], h => if chkOk c h then .ok (.ref n) h else .bad
  | u :: us, h => if chkOk c h then (match ct.asg u env h with
      | some env1 => (t env1 h).no.bind fun b h1 => if b = true then (me env1 h1).bind fun y h2 => (match h2[n]? with
          | some (.lst acc) => if acc.length < 16000000 then lcLX c ct t me n env us (h2.set n (.lst (acc ++ [y]))) else .bad
          | _ => .bad) else lcLX c ct t me n env us h1
      | none => .bad) else .bad
noncomputable def mLcX (mi : IM') (ct : CT) (t : TM) (me : EM) (vs : List Nat) : EM := fun env h => (mi env h).bind fun z h1 => lcLX z.1 ct t me h1.length (wipeE env vs) z.2 (h1 ++ [.lst []])
abbrev BlkX (X : Cx) (scope : Scope) (P : Cx → Prop) : Prop := ∀ (s : Shared) (H : Hp) (C : Addr) (cl : List (Str × Addr)) (fp : List Addr) (xe : Value → Shared → Prop), P (X.blkX s H scope (compEnvC scope cl C X.env) fp xe)
end
end Q

set_option Elab.async false
set_option linter.all false
set_option maxRecDepth 100000
set_option maxHeartbeats 1000000
/-! QS: sorted of texts, sorted and list of a dict. -/
namespace Q
open PySem PySem.Spec PyProof.Rows L2 TL
def ltL : List Nat → List Nat → Bool
  | [], [] => false
  | [], _ :: _ => true
  | _ :: _, [] => false
  | a :: r, b :: t => a < b || (a == b && ltL r t)
def insS (x : List Nat) : List (List Nat) → List (List Nat)
  | [] => [x]
  | y :: r => if ltL y x = true then y :: insS x r else x :: y :: r
def sortS (ss : List (List Nat)) : List (List Nat) := ss.foldr insS []
abbrev ofL (s : List Nat) : Str := ⟨s.toArray⟩
section
variable {K : Fr} {g g' : G} {E : XK} {W : WX} {X : Cx} {H : Hp} {h : Sto} {v w : V} {x y : U} {σ : L2.St} {env : Env'} {e : Expr} {es : List Expr} {am : AM} {pos p : Pos} {n : Str}
def strsU : List U → Option (List (List Nat))
  | [] => some []
  | .str s :: r => (strsU r).map (s :: ·)
  | _ :: _ => none
def keysS : List (DK × U) → Option (List (List Nat))
  | [] => some []
  | (.inr s, _) :: r => (keysS r).map (s :: ·)
  | _ :: _ => none
/-- sorted of a list of texts -/
def uSortS (us : List U) (h : Sto) : R U := match us with
  | [x] => match aL h x with
    | some xs => (match strsU xs with
      | some ss => if ss.length < 64 then .ok (.ref h.length) (h ++ [.lst ((sortS ss).map U.str)]) else .bad
      | none => .bad)
    | none => .bad
  | _ => .bad
/-- sorted of a dict whose keys are texts -/
abbrev rSortD : List V → Hp → VK → Prop := fun xs H Q => ∃ (a : Addr) (kvs : List (Key × V)) (ks : List Str), xs = [.ref a] ∧ Rd H a (.dK kvs) ∧ kvs.map (·.1) = ks.map Sum.inr ∧ ks.length < 64 ∧
    ∀ ys p, ys.Perm ks → sortedS ys = true → H p = none → Q (.ref p) (upd H p (.lst (ys.map V.str)))
def uSortD (us : List U) (h : Sto) : R U := match us with
  | [x] => match aDK h x with
    | some kvs => (match keysS kvs with
      | some ss => if ss.length < 64 then .ok (.ref h.length) (h ++ [.lst ((sortS ss).map U.str)]) else .bad
      | none => .bad)
    | none => .bad
  | _ => .bad
/-- list of a dict: its keys -/
abbrev rListD : List V → Hp → VK → Prop := fun xs H Q => ∃ (a : Addr) (kvs : List (Key × V)), xs = [.ref a] ∧ Rd H a (.dK kvs) ∧ ∀ p, H p = none → Q (.ref p) (upd H p (.lst (kvs.map fun kv => kV kv.1)))
def uListD (us : List U) (h : Sto) : R U := match us with
  | [x] => match aDK h x with
    | some kvs => .ok (.ref h.length) (h ++ [.lst (kvs.map fun p => dkU p.1)])
    | none => .bad
  | _ => .bad
section
variable (hg : Gl X n) (hm : X.mg n = none) (ha : PA X (e :: es) (aM X.K W am)) (hn : n ≠ "__name__" := by decide) (hdb : (n == ("__debug__" : Str)) = false := by decide)
    (he : starEach (e :: es) X.env = (false, eval e X.env) :: starEach es X.env := by rfl) (hpl : (backTo pos (starEach es X.env)).any (·.1) = false := by rfl)
include hg hm ha hn hdb he hpl
end
end
end Q

set_option Elab.async false
set_option linter.all false
set_option maxRecDepth 100000
set_option maxHeartbeats 1000000
/-! QU: setdefault of a dict, displays with a star. -/
namespace Q
open PySem PySem.Spec PyProof.Rows L2 TL
section
variable {K : Fr} {g g' : G} {W : WX} {X : Cx} {H : Hp} {h : Sto} {σ : L2.St} {env : Env'} {a o : Expr} {mo : EM} {am : AM} {apos cpos pos : Pos} {kvs : List (Key × V)} {k : Key} {z : V} {u r : Value} {s : Shared} {pins : List (Addr × Obj)} {A : Around} {E : Value → Shared → Prop} {ad : Addr}
/-! ### setdefault -/
def rSd (x : V) (vs : List V) (H : Hp) (Q : VK) : Prop := ∃ ad kvs k z, x = .ref ad ∧ vs = [kV k, z] ∧ H ad = some (.dK kvs) ∧ (∀ v, valV kvs k = some v → Q v H) ∧ (valV kvs k = none → kvs.length < sizeLine ∧ Q z (upd H ad (.dK (putK kvs k z))))
def uSd (x : U) (us : List U) (h : Sto) : R U := match x, us with
  | .ref n, [y, z] => (match h[n]?, keyU y with
    | some (.dK kvs), some k => (match valD kvs k with
      | some u => .ok u (h.set n (.dK kvs))
      | none => if kvs.length < 16000000 then .ok z (h.set n (.dK (putD kvs k z))) else .bad)
    | _, _ => .bad)
  | _, _ => .bad
/-- a dict's method: the receiver is a dict -/
def isDK (h : Sto) : U → Bool
  | .ref n => (match h[n]? with
    | some (.dK _) => true
    | _ => false)
  | _ => false
def mDM (f : U → List U → Sto → R U) (o : EM) (am : AM) : EM := fun env h => (o env h).bind fun x h1 => if isDK h1 x = true then (am env h1).bind fun us h2 => f x us h2 else .bad
/-! ### *e in a display -/
def aStar (m : EM) (am : AM) : AM := fun env h => (m env h).bind fun x h1 => match sL h1 x with
  | some us => (am env h1).bind fun ys h2 => .ok (us ++ ys) h2
  | none => .bad
end
end Q

set_option Elab.async false
set_option linter.all false
set_option maxRecDepth 100000
set_option maxHeartbeats 1000000
/-! QV: get of a dict, a list times a number. -/
namespace Q
open PySem PySem.Spec PyProof.Rows L2 TL
section
variable {K : Fr} {g g' : G} {W : WX} {X : Cx} {H : Hp} {h : Sto} {σ : L2.St} {env : Env'} {o e1 e2 : Expr} {mo m1 m2 : EM} {am : AM} {apos cpos pos : Pos} {E : XK} {u : U} {v : V} {k : DK}
def uGet (x : U) (us : List U) (h : Sto) : R U := match us with
  | [y] => (match aDK h x, keyU y with
    | some kvs, some k => .ok ((valD kvs k).getD .non) h
    | _, _ => .bad)
  | [y, z] => (match aDK h x, keyU y with
    | some kvs, some k => .ok ((valD kvs k).getD z) h
    | _, _ => .bad)
  | _ => .bad
def mDG (f : U → List U → Sto → R U) (o : EM) (am : AM) : EM := fun env h => (o env h).bind fun x h1 => if (aDK h1 x).isSome = true then (am env h1).bind fun us h2 => f x us h2 else .bad
/-! ### [x] * k -/
def uMulL (x y : U) (h : Sto) : R U := match mL h x, y with
  | some us, .int k => if us.length * k.toNat ≤ 16000000 ∧ k.natAbs ≤ 1000000000 then .ok (.ref h.length) (h ++ [.lst (List.replicate k.toNat us).flatten]) else .bad
  | _, _ => .bad
end
end Q

set_option Elab.async false
set_option linter.all false
set_option maxRecDepth 100000
set_option maxHeartbeats 1000000
/-! QW: comprehensions of two clauses. -/
namespace Q
open PySem PySem.Spec PyProof.Rows L2 TL
section
variable {K : Fr} {g g' : G} {E : XK} {W : WX} {X : Cx} {H : Hp} {h : Sto} {σ : L2.St} {env : Env'} {ct ct1 : CT} {ta ta1 : TM} {me : EM} {mi mi1 : IM'} {tg iter tg1 iter1 elt : Expr} {ifs ifs1 : List Expr} {scope : Scope} {own : List (Str × Nat)} {pos : Pos}
open Classical in
noncomputable def lcI (c : Chk) (ct : CT) (t : TM) (me : EM) (n : Nat) (env : Env') (k : Sto → R U) : List U → Sto → R U
  | [], h => if chkOk c h then k h else .bad
  | u :: us, h => if chkOk c h then (match ct.asg u env h with
      | some env1 => (t env1 h).no.bind fun b h1 => if b = true then (me env1 h1).no.bind fun y h2 => (match h2[n]? with
          | some (.lst acc) => if acc.length < 16000000 then lcI c ct t me n env k us (h2.set n (.lst (acc ++ [y]))) else .bad
          | _ => .bad) else lcI c ct t me n env k us h1
      | none => .bad) else .bad
open Classical in
noncomputable def lcL2 (c : Chk) (ct : CT) (t : TM) (mi1 : IM') (ct1 : CT) (t1 : TM) (me : EM) (vs1 : List Nat) (n : Nat) (env : Env') : List U → Sto → R U
  | [], h => if chkOk c h then .ok (.ref n) h else .bad
  | u :: us, h => if chkOk c h then (match ct.asg u env h with
      | some env1 => (t env1 h).no.bind fun b h1 => if b = true then (mi1 env1 h1).no.bind fun z h2 => lcI z.1 ct1 t1 me n (wipeE env1 vs1) (fun h3 => lcL2 c ct t mi1 ct1 t1 me vs1 n env us h3) z.2 h2
          else lcL2 c ct t mi1 ct1 t1 me vs1 n env us h1
      | none => .bad) else .bad
noncomputable def mLc2 (mi : IM') (ct : CT) (t : TM) (mi1 : IM') (ct1 : CT) (t1 : TM) (me : EM) (vs vs1 : List Nat) : EM := fun env h => (mi env h).bind fun z h1 => lcL2 z.1 ct t mi1 ct1 t1 me vs1 h1.length (wipeE env vs) z.2 (h1 ++ [.lst []])
end
end Q

set_option Elab.async false
set_option linter.all false
set_option maxRecDepth 100000
set_option maxHeartbeats 1000000
/-! QB: dict comprehensions of one clause; isupper of a text of one sign. -/
namespace Q
open PySem PySem.Spec PyProof.Rows L2 TL
section
variable {K : Fr} {g g' : G} {E : XK} {W : WX} {X : Cx} {H : Hp} {h : Sto} {σ : L2.St} {env : Env'} {ct : CT} {ta : TM} {mk mv : EM} {mi : IM'} {tg iter kx vx : Expr} {ifs : List Expr} {scope : Scope} {own : List (Str × Nat)} {pos : Pos}
open Classical in
noncomputable def dcL (c : Chk) (ct : CT) (t : TM) (mk mv : EM) (n : Nat) (env : Env') : List U → Sto → R U
  | [], h => if chkOk c h then .ok (.ref n) h else .bad
  | u :: us, h => if chkOk c h then (match ct.asg u env h with
      | some env1 => (t env1 h).no.bind fun b h1 => if b = true then (mk env1 h1).no.bind fun y h2 => (mv env1 h2).no.bind fun z h3 => (match h3[n]?, keyU y with
          | some (.dK acc), some k => if acc.length < 16000000 then dcL c ct t mk mv n env us (h3.set n (.dK (putD acc k z))) else .bad
          | _, _ => .bad) else dcL c ct t mk mv n env us h1
      | none => .bad) else .bad
noncomputable def mDc (mi : IM') (ct : CT) (t : TM) (mk mv : EM) (vs : List Nat) : EM := fun env h => (mi env h).bind fun z h1 => dcL z.1 ct t mk mv h1.length (wipeE env vs) z.2 (h1 ++ [.dK []])
/-! ### isupper -/
def uUp (x : U) (h : Sto) : R U := match x with
  | .str [] => .ok (.bl false) h
  | .str [c] => if c < 128 then .ok (.bl (decide (65 ≤ c) && decide (c ≤ 90))) h else .bad
  | _ => .bad
end
end Q

set_option Elab.async false
set_option linter.all false
set_option maxRecDepth 100000
set_option maxHeartbeats 1000000
/-! QI: * and // of great numbers, a tuple times a number, str of a truth, lower of it, split at a sign, c + x.replace(a, b). -/
namespace Q
open PySem PySem.Spec PyProof.Rows L2 TL
section
variable {K : Fr} {g g' : G} {W : WX} {X : Cx} {H : Hp} {h : Sto} {σ : L2.St} {env : Env'} {o a b e : Expr} {es : List Expr} {mo ma mb : EM} {am : AM} {apos cpos pos p : Pos} {E : XK} {u : U} {v : V} {n : Str}
/-! ### great numbers -/
def cMulW (i j : Int) : Prop := i.natAbs.log2 + j.natAbs.log2 < 1000000
instance : ∀ i j, Decidable (cMulW i j) := fun i j => by unfold cMulW; exact inferInstance
def cDivW (_ j : Int) : Prop := 0 < j ∧ j.natAbs.log2 < 9000
instance : ∀ i j, Decidable (cDivW i j) := fun i j => by unfold cDivW; exact inferInstance
abbrev uMulW := uI cMulW fun i j => i * j
abbrev uDivW := uI cDivW fun i j => i / j
/-! ### a tuple times a number -/
def uMulT (x y : U) (h : Sto) : R U := match x, y with
  | .tup us, .int k => if us ≠ [] ∧ 2 ≤ k ∧ k ≤ 1000 ∧ us.length ≤ 1000 then .ok (.tup (List.replicate k.toNat us).flatten) h else .bad
  | _, _ => .bad
/-! ### str of a number, of a truth -/
def kTrue : List Nat := [84, 114, 117, 101]
def kFalse : List Nat := [70, 97, 108, 115, 101]
def uStrV (us : List U) (h : Sto) : R U := match us with
  | [.int i] => if i.natAbs.log2 < 1920 then .ok (.str (sInt i)) h else .bad
  | [.bl b] => .ok (.str (if b = true then kTrue else kFalse)) h
  | _ => .bad
/-! ### lower of what str of a truth gives -/
def uLow (x : U) (h : Sto) : R U := match x with
  | .str s => if s = kTrue then .ok (.str [116, 114, 117, 101]) h else if s = kFalse then .ok (.str [102, 97, 108, 115, 101]) h else .bad
  | _ => .bad
/-! ### split at one sign -/
/-- the pieces between the signs c -/
def splitC (c : Nat) : List Nat → List (List Nat)
  | [] => [[]]
  | x :: r => if x = c then [] :: splitC c r else match splitC c r with
    | p :: ps => (x :: p) :: ps
    | [] => [[x]]
def uSplit (x y : U) (h : Sto) : R U := match x, y with
  | .str s, .str [c] => if s.length ≤ 16000000 then .ok (.ref h.length) (h ++ [.lst ((splitC c s).map .str)]) else .bad
  | _, _ => .bad
/-! ### c + x.replace(a, b): behind the written text a token is out -/
/-- each sign c is turned into z -/
def replC (c : Nat) (z s : List Nat) : List Nat := s.flatMap fun x => if x = c then z else [x]
def mRepA (d : List Nat) (c : Nat) (z : List Nat) (o : EM) : EM := fun env h => (o env h).bind fun x h1 => match x with
  | .str s => if s.length * (z.length + 1) + z.length + d.length ≤ 1000000 then .ok (.str (d ++ replC c z s)) h1 else .bad
  | _ => .bad
/-! ### a list is extended by a tuple -/
def rExtT (K : Fr) : V → List V → Hp → VK → Prop := fun x vs H Q => ∃ l b xs zs, x = .ref l ∧ vs = [.ref b] ∧ H l = some (.lst xs) ∧ SqT K H b zs ∧ xs.length + zs.length ≤ sizeLine ∧ Q .non (upd H l (.lst (xs ++ zs)))
def uExtT (x : U) (us : List U) (h : Sto) : R U := match x, us with
  | .ref n, [.tup ys] => (match h[n]? with
    | some (.lst xs) => if xs.length + ys.length ≤ 16000000 then .ok .non (h.set n (.lst (xs ++ ys))) else .bad
    | _ => .bad)
  | _, _ => .bad
/-! ### == with the empty tuple -/
def rEqE (K : Fr) : R2 := fun x y H Q => ∃ a b xs, x = .ref a ∧ y = .ref b ∧ SqT K H a xs ∧ SqT K H b [] ∧ Q (.bl xs.isEmpty) H
def cEqE (_ : Sto) (x y : U) : Option Bool := match x, y with
  | .tup us, .tup [] => some us.isEmpty
  | _, _ => none
/-! ### what is never reached -/
def mBadE : EM := fun _ _ => .bad
def mBadS : SM := fun _ _ => .bad
end
end Q

set_option Elab.async false
set_option linter.all false
set_option maxRecDepth 100000
set_option maxHeartbeats 1000000
/-! QJ: sorted of pairs of a number and a list of texts, d.update(e), {**d, k: v}, (n, s) <= (m, t). -/
namespace Q
open PySem PySem.Spec PyProof.Rows L2 TL
/-! ### the order -/
abbrev IS := Int × List (List Nat)
def leIS (a b : IS) : Bool := decide (a.1 < b.1 ∨ (a.1 = b.1 ∧ a.2 ≤ b.2))
def encIS (b : V × IS) : PyData := .tuple [.int b.2.1, .list (b.2.2.map fun s => .str (ofL s))]
/-! ### sorted -/
def ItemAt (K : Fr) (H : Hp) (b : V × IS) : Prop := ∃ t l : Addr, b.1 = .ref t ∧ SqT K H t [.int b.2.1, .ref l] ∧ SqL K H l ((b.2.2.map ofL).map V.str)
def rSortT (K : Fr) : List V → Hp → VK → Prop := fun vs H Q => ∃ (a : Addr) (bs : List (V × IS)), vs = [V.ref a] ∧ SqL K H a (bs.map Prod.fst) ∧ (∀ b ∈ bs, ItemAt K H b) ∧
  ∀ p, H p = none → Q (.ref p) (upd H p (.lst ((bs.mergeSort fun p q => leIS p.2 q.2).map Prod.fst)))
section
variable {X : Cx} {pins : List (Addr × Obj)} {σ : L2.St} {H : Hp} {s : Shared}
end
section
variable {K : Fr} {g g' : G} {W : WX} {X : Cx} {H : Hp} {h : Sto} {σ : L2.St} {env : Env'} {o a b e : Expr} {es : List Expr} {mo ma mb : EM} {am : AM} {apos cpos pos p : Pos} {E : XK} {u : U} {v : V} {n : Str}
def keyIS (h : Sto) : U → Option IS
  | .tup [.int n, x] => (match aL h x with
    | some xs => (match strsU xs with
      | some ss => some (n, ss)
      | none => none)
    | none => none)
  | _ => none
def keysT (h : Sto) : List U → Option (List IS)
  | [] => some []
  | x :: r => (match keyIS h x, keysT h r with
    | some k, some ks => some (k :: ks)
    | _, _ => none)
def srtT (us : List U) (ks : List IS) : List U := ((us.zip ks).mergeSort fun p q => leIS p.2 q.2).map Prod.fst
def uSortT (us : List U) (h : Sto) : R U := match us with
  | [x] => (match aL h x with
    | some xs => (match keysT h xs with
      | some ks => .ok (.ref h.length) (h ++ [.lst (srtT xs ks)])
      | none => .bad)
    | none => .bad)
  | _ => .bad
/-! ### d.update(e) -/
def rUpd (x : V) (vs : List V) (H : Hp) (Q : VK) : Prop := ∃ ad od kvs more, x = .ref ad ∧ vs = [.ref od] ∧ ad ≠ od ∧ H ad = some (.dK kvs) ∧ Rd H od (.dK more) ∧ kvs.length + more.length ≤ sizeLine ∧ Q .non (upd H ad (.dK (mergeK kvs more)))
def isRefTo (n : Nat) : U → Bool
  | .ref m => m == n
  | _ => false
def uUpd (x : U) (us : List U) (h : Sto) : R U := match x, us with
  | .ref n, [y] => (match h[n]?, aDK h y with
    | some (.dK kvs), some more => if isRefTo n y = false ∧ kvs.length + more.length ≤ 16000000 then .ok .non (h.set n (.dK (mergeD kvs more))) else .bad
    | _, _ => .bad)
  | _, _ => .bad
/-! ### (n, s) <= (m, t) -/
def rLeP (K : Fr) : R2 := fun x y H Q => ∃ (a b : Addr) (n m : Int) (p q : List Nat), x = .ref a ∧ y = .ref b ∧ SqT K H a [.int n, .str (ofL p)] ∧ SqT K H b [.int m, .str (ofL q)] ∧
  Q (.bl (decide (n < m ∨ (n = m ∧ p ≤ q)))) H
def cLeP (_ : Sto) (x y : U) : Option Bool := match x, y with
  | .tup [.int n, .str p], .tup [.int m, .str q] => some (decide (n < m ∨ (n = m ∧ p ≤ q)))
  | _, _ => none
end
end Q

set_option Elab.async false
set_option linter.all false
set_option maxRecDepth 100000
set_option maxHeartbeats 1000000
/-! QK: {**d, k: v}. -/
namespace PySem
open PySem PySem.Calls PyProof.Rows
section
variable {prog : Program} {w : World} {A : Around} {E : Value → Shared → Prop} {s : Shared} {K : Type} [DecidableEq K] {knd : KeyKind prog w K}
end
section
open L2
variable {prog : Program} {w : World} {A : Around} {E : Value → Shared → Prop} {s : Shared}
end
end PySem
namespace L2
open PySem PySem.Spec PyProof.Rows
/-- {**d, k: v} -/
def tStar (td tk tv : TE) : TE := fun σ H Q => ∀ p, H p = none → td σ (upd H p (.dK [])) fun x H1 => ∃ od more, x = .ref od ∧ p ≠ od ∧ H1 p = some (.dK []) ∧ Rd H1 od (.dK more) ∧
  ∀ p2, upd H1 p (.dK (mergeK [] more)) p2 = none → tk σ (upd (upd H1 p (.dK (mergeK [] more))) p2 (.dK [])) fun y H3 => tv σ H3 fun z H4 => ∃ k acc, y = kV k ∧ p2 ≠ p ∧ H4 p = some (.dK acc) ∧ H4 p2 = some (.dK []) ∧
    acc.length < sizeLine ∧ Q (.ref p) (upd (upd H4 p2 (.dK [(k, z)])) p (.dK (putK acc k z)))
end L2
namespace Q
open PySem PySem.Spec PyProof.Rows L2 TL
section
variable {K : Fr} {g g' : G} {W : WX} {X : Cx} {H : Hp} {h : Sto} {σ : L2.St} {env : Env'} {dx kx vx : Expr} {md mk mv : EM} {pos : Pos} {E : XK}
def mStar (md mk mv : EM) : EM := fun env h => (md env (h ++ [.dK []])).bind fun x h1 => match aDK h1 x, h1[h.length]? with
  | some more, some (.dK []) => if isRefTo h.length x = false ∧ more.length ≤ 16000000 then (mk env (h1.set h.length (.dK (mergeD [] more)) ++ [.dK []])).bind fun y h2 => (mv env h2).bind fun z h3 =>
      (match keyU y, h3[h.length]?, h3[h1.length]? with
      | some k, some (.dK acc), some (.dK []) => if acc.length < 16000000 then .ok (.ref h.length) ((h3.set h1.length (.dK [(k, z)])).set h.length (.dK (putD acc k z))) else .bad
      | _, _, _ => .bad) else .bad
  | _, _ => .bad
end
end Q

set_option Elab.async false
set_option linter.all false
set_option maxRecDepth 100000
set_option maxHeartbeats 1000000
/-! QN: s.find(c, i), c one sign. -/
namespace Q
open PySem PySem.Spec PyProof.Rows L2 TL
open Builtin Builtin.Str
/-- the first place of c from i on -/
def fdF (s : List Nat) (c i : Nat) : Int := match (s.drop i).findIdx? (· == c) with
  | some j => ((i + j : Nat) : Int)
  | none => -1
section
variable {K : Fr} {g g' : G} {W : WX} {X : Cx} {H : Hp} {h : Sto} {σ : L2.St} {env : Env'} {o e : Expr} {es : List Expr} {mo : EM} {am : AM} {apos cpos : Pos} {E : XK}
def uFind (x : U) (us : List U) (h : Sto) : R U := match x, us with
  | .str s, [.str [c], .int i] => if 0 ≤ i then .ok (.int (fdF s c i.toNat)) h else .bad
  | _, _ => .bad
def mFind (mo : EM) (am : AM) : EM := fun env h => (mo env h).bind fun x h1 => match x with
  | .str s => (am env h1).bind (uFind (.str s))
  | _ => .bad
def rFind : V → List V → Hp → VK → Prop := fun x xs H Q => ∃ (a b : Str) (i : Int), x = .str a ∧ xs = [.str b, .int i] ∧ Q (.int (Txt.find3 a b i)) H
end
end Q

set_option Elab.async false
set_option linter.all false
set_option maxRecDepth 100000
set_option maxHeartbeats 2000000
/-! QH: the head by one kernel run; its facts are tests of the part of the heap that the names reach. -/
namespace QH
open PySem PySem.Spec PyProof.Rows L2 Q
abbrev Ts := Fr → Bool
/-- one def, by its statement -/
def dd (at_ : Str × Option Str) (x qual : Str) (st : Stmt) : He.DefD := { at_ := at_, name := x, qual := qual, params := defArgs st, body := defBody st, scope := defScope st }
/-- level by level what the names reach -/
def lvl (g : Addr → Option Obj) : Nat → List Addr → List Addr
  | 0, as => as
  | n + 1, as => as ++ lvl g n (as.flatMap fun a => ((g a).map He.refsD).getD [])
def obs (ts : List Ts) (fn : List He.DefD) (K : Fr) : He.AlD := ((ts.all fun t => t K) && fn.all fun d => d.ok K, fn.map fun d => He.fnW K d.at_)
def obsAt (n : Nat) (ts : List Ts) (fn : List He.DefD) (g : Addr → Option Obj) : He.AlD := obs ts fn (He.frG g (lvl g n [mainGlobals]))
def Says (ts : List Ts) (fn : List He.DefD) (K : Fr) : Prop := obs ts fn K = He.valD fn
def hook (n : Nat) (ts : List Ts) (fn : List He.DefD) : PySem.W.Hook :=
  { α := He.AlD, obs := fun s => obsAt n ts fn s.heap.get?, val := fun _ => He.valD fn, says := fun _ h => ∃ K : Fr, K.In h ∧ Says ts fn K,
    of := fun _ _ z => ⟨_, He.frG_in, z⟩, keeps := fun _ _ _ y k => y.elim fun K y => ⟨K, PySem.W.Frag.In.keeps y.1 k, y.2⟩ }
section
variable {ts : List Ts} {fn : List He.DefD} {K : Fr} {h : Heap} {mg : Str → Option Value}
theorem Says.t (c : Says ts fn K) (i : Nat) {t : Ts} (z : ts[i]? = some t := by rfl) : t K = true := by
  have c1 : ((ts.all fun t => t K) && fn.all fun d => d.ok K) = true := congrArg Prod.fst c
  exact List.all_eq_true.mp (Bool.and_eq_true_iff.mp c1).1 t (List.mem_of_getElem? z)
theorem Says.f (c : Says ts fn K) (i : Nat) {a : Str × Option Str} {x q : Str} {st : Stmt} (z : fn[i]? = some (dd a x q st) := by rfl) : ∃ fd, Fun K x q st (He.fAd K a) fd := by
  have c1 : ((ts.all fun t => t K) && fn.all fun d => d.ok K) = true := congrArg Prod.fst c
  have c2 := List.all_eq_true.mp (Bool.and_eq_true_iff.mp c1).2 _ (List.mem_of_getElem? z)
  have e : fn.map (fun d => He.fnW K d.at_) = fn.map He.DefD.val := congrArg Prod.snd c
  have e1 := congrArg (fun l => l[i]?) e
  simp only [List.getElem?_map, z, Option.map_some] at e1
  obtain ⟨fd, F⟩ := He.DefD.funD (Option.some.inj e1) c2
  obtain ⟨oc, od, dV, kV, doc, pm, an, cdv, ct, osl, r, l, cd, hd, _⟩ := F.ex
  rcases hd with ⟨_, rfl⟩ | ⟨hd, _⟩
  · exact ⟨fd, ⟨oc, od, kV, doc, pm, an, cdv, ct, osl, r, l, cd⟩, F.kp⟩
  · exact absurd rfl hd
/-! ### tests -/
def tGlo (x : Str) : Ts := fun K => (He.Fa.glo x).ok K
def tFree (x : Str) : Ts := fun K => (He.Fa.free x).ok K
def tInt (x : Str) (i : Int) : Ts := fun K => (He.Fa.int x i).ok K
def tStr (x : Str) (z : List Nat) : Ts := fun K => (He.Fa.str x ⟨z.toArray⟩).ok K
def tCls (x : Str) : Ts := fun K => (He.Fa.cls x).ok K
def tNoat (x f : Str) : Ts := fun K => (He.Fa.noat x f).ok K
def tMeth (x m : Str) : Ts := fun K => (He.Fa.meth x m).ok K
def tMkr (x : Str) : Ts := fun K => (He.Fa.mkr x).ok K
def tExc (x : Str) : Ts := fun K => (He.Fa.exc x).ok K
def tExm (x y : Str) : Ts := fun K => (He.Fa.exm x y true).ok K
/-- a tuple of texts -/
def relS : List (List Nat) → List Value → Bool
  | [], [] => true
  | s :: ss, .str t _ :: us => decide (t = ⟨s.toArray⟩) && relS ss us
  | _, _ => false
def tTup (x : Str) (ss : List (List Nat)) : Ts := fun K => match PySem.W.nsIn K mainGlobals x with
  | some (some (.ref a)) => (match K.lookup a with
    | some ⟨.type c, none, .seq its _, _⟩ => decide (c = "tuple") && (decide (its.size ≤ sizeLine) && relS ss its.toList)
    | _ => false)
  | _ => false
def tEc (x : Str) : Ts := fun K => He.eqO (PySem.W.findIn K (.ref (He.ga K x)) "__getattribute__") (some (some (.builtin "BaseException.__getattribute__"))) && (He.eqO (PySem.W.findIn K (.ref (He.ga K x)) "__getattr__") (some none) &&
  (decide (PySem.W.subIn K (.ref (He.ga K x)) (.type "BaseException") = some true) && (PySem.W.hasDictIn K (He.ga K x) && (He.eqO (PySem.W.findIn K (.ref (He.ga K x)) "__class__") (some (some (.builtin "object.__class__"))) &&
  (He.eqO (PySem.W.specialIn K (.builtin "object.__class__") "__get__") (some (some (.builtin "getset_descriptor.__get__"))) && (decide (PySem.W.takesIn K (.builtin "object.__class__") = some true) && decide (PySem.W.mroIn K (He.ga K x) (.type "object") = some true)))))))
def tKitG (x y : Str) (b : Bool) : Ts := fun K => decide (PySem.W.kitOne K (.ref (He.ga K x)) (.ref (He.ga K y)) = some b)
def tKitT (x : Str) (c : String) (b : Bool) : Ts := fun K => decide (PySem.W.kitOne K (.ref (He.ga K x)) (.type c) = some b)
theorem glo (X : K.In h) (G : h.Ns mainGlobals mg) {x : Str} (c : tGlo x K = true) : mg x = some (.ref (He.ga K x)) := He.glo_ok X G c
theorem free (X : K.In h) (G : h.Ns mainGlobals mg) {x : Str} (c : tFree x K = true) : mg x = none := He.free_ok X G c
theorem int (X : K.In h) (G : h.Ns mainGlobals mg) {x : Str} {i : Int} (c : tInt x i K = true) : ∃ t, mg x = some (.int i t) := He.int_ok X G c
theorem str (X : K.In h) (G : h.Ns mainGlobals mg) {x : Str} {z : List Nat} (c : tStr x z K = true) : ∃ t, mg x = some (.str ⟨z.toArray⟩ t) := He.str_ok X G c
theorem cls {x : Str} (c : tCls x K = true) : Cls K (He.ga K x) := He.cls_ok c
theorem noat {x f : Str} (c : tNoat x f K = true) : NoAttr K (He.ga K x) f := He.noat_ok c
theorem meth {x m : Str} (c : tMeth x m K = true) : Meth K (He.ga K x) m (He.fAd K (x, some m)) := He.meth_ok c
theorem mkr {x : Str} (c : tMkr x K = true) : Mk K (He.ga K x) (He.fAd K (x, some "__init__")) := He.mkr_ok c
theorem exc (X : K.In h) (G : h.Ns mainGlobals mg) {x : Str} (c : tExc x K = true) (d : tGlo x K = true) : XC K mg x (He.ga K x) :=
  have ⟨c1, c2, c3, c4⟩ := He.exc_ok c
  ⟨c1, glo X G d, c2, c3, c4⟩
theorem exm {x y : Str} (c : tExm x y K = true) : PySem.W.exmOne K (.ref (He.ga K x)) (.ref (He.ga K y)) = some true := He.exm_ok c
theorem relS_ok : ∀ {ss : List (List Nat)} {us : List Value}, relS ss us = true → Vals ((ss.map fun s => (⟨s.toArray⟩ : Str)).map V.str) us
  | [], [], _ => .nil
  | [], _ :: _, z => nomatch z
  | _ :: _, [], z => nomatch z
  | s :: ss, u :: us, z => by
    cases u with
    | str t k =>
      obtain ⟨z1, z2⟩ := Bool.and_eq_true_iff.mp (show (decide (t = ⟨s.toArray⟩) && relS ss us) = true from z)
      exact .cons ⟨k, by rw [of_decide_eq_true z1]⟩ (relS_ok z2)
    | _ => cases z
theorem tup (X : K.In h) (G : h.Ns mainGlobals mg) {x : Str} {ss : List (List Nat)} (c : tTup x ss K = true) : ∃ a, mg x = some (.ref a) ∧ KT K a ((ss.map fun s => (⟨s.toArray⟩ : Str)).map V.str) := by
  unfold tTup at c
  split at c
  · rename_i a e
    refine ⟨a, PySem.W.mg_of X G e, ?_⟩
    split at c
    · rename_i cn its n sl e1
      obtain ⟨c1, c2⟩ := Bool.and_eq_true_iff.mp c
      obtain ⟨c3, c4⟩ := Bool.and_eq_true_iff.mp c2
      exact ⟨_, its, n, e1, congrArg Value.type (of_decide_eq_true c1), rfl, rfl, of_decide_eq_true c3, relS_ok c4⟩
    · cases c
  · cases c
theorem ec {x : Str} (c : tEc x K = true) : ExcC K (He.ga K x) := by
  unfold tEc at c
  simp only [Bool.and_eq_true] at c
  obtain ⟨c1, c2, c3, c4, c5, c6, c7, c8⟩ := c
  exact ⟨He.eqO_ok c1, He.eqO_ok c2, of_decide_eq_true c3, c4, He.eqO_ok c5, He.eqO_ok c6, of_decide_eq_true c7, of_decide_eq_true c8⟩
theorem fa1 {p : Nat → Prop} {a : Nat} {as : List Nat} (z : p a) (r : ∀ D ∈ as, p D) : ∀ D ∈ a :: as, p D := fun D m => (List.mem_cons.mp m).elim (fun e => e ▸ z) (r D)
theorem fa0 {p : Nat → Prop} : ∀ D ∈ ([] : List Nat), p D := fun _ m => nomatch m
end
/-- the end of a law whose head is told by tests -/
theorem walk {l : PySem.W.OpenLaw} {k : Nat} {q : Program} {loose : List Str} {XP : (Str → Option Value) → Heap → Prop} {ts : List Ts} {fn : List He.DefD} {n : Nat} {d : DefRec} {x : Str}
    (hn : l.most = some 63) (hdf : d.params.defaults = []) (hr : Room k callerA)
    (F : ∀ (w : World) (mg : Str → Option Value) (fa : Addr) (h : Heap) (K : Fr), K.In h → h.Ns mainGlobals mg → mg d.name = some (.ref fa) → Says ts fn K →
      ∃ fd : FuncData, (∀ (s : Shared) (u : Value), BindsTo s fd ⟨[u], []⟩ [(x, u)]) ∧ ∀ base : Heap, K.In base → base.Ns mainGlobals mg → FnOk l.prog w K mg base (L2.CX l.prog w) k fa fd [x] (spEnd K)) (h0 : lamDefs = [] := by rfl) :
    PySem.W.WalkO q loose XP (hook n ts fn).says l.row.toRowW d [] (fun f vs => PySem.call f vs) := by
  refine Att.attach_call hn hdf ?_
  intro w s0 s1 mg mb fa o p1 p2 p3 a vs ns G Y ho hd hc hm hobj hi hl hg
  obtain ⟨K, KX, c⟩ := Y
  obtain ⟨fd, hb, hF⟩ := F w mg fa _ K KX G.T.g hm c
  refine law_call KX G.T.g G.T.b G.T.builtins G.T.nolimit hg hobj hi (Nat.le_trans hl (by decide)) hr hF hb (fun H _ hS => ⟨a, ns, rfl, hl, hS, (fun d hd => by rw [h0] at hd; cases hd), fun _ => rfl⟩) fun H e s' z => ?_
  obtain ⟨_, _, _, _, _, _, _, _, _, _, _, _, z⟩ := z
  exact z
/-! ### the same for texts with lambdas -/
open L2 in
/-- the makers' code objects and their tables -/
class BT (K : Fr) (mg : Str → Option Value) (base : Heap) : Prop where
  tb : ∀ d ∈ lamDefs, LamX.TabB base mg (He.cT K d.1).1 (He.cT K d.1).2
  nd : (lamDefs.map fun d => (He.cT K d.1).2).Nodup
structure TabsSay (K : Fr) (h : Heap) : Prop where
  hd : ∀ d ∈ lamDefs, PySem.W.codeHdIn K (He.cT K d.1).1 (He.cT K d.1).2 = true
  out : ∀ d ∈ lamDefs, K.lookup (He.cT K d.1).2 = none
  empty : ∀ d ∈ lamDefs, h.get? (He.cT K d.1).2 = some { cls := .none, data := .fields #[] }
  nd : (lamDefs.map fun d => (He.cT K d.1).2).Nodup
def obsT (ts : List Ts) (fn : List He.DefD) (g : Addr → Option Obj) (K : Fr) : He.AlD × Bool := (obs ts fn K, He.tabsB g (lamDefs.map (·.1)) K && decide ((lamDefs.map fun d => (He.cT K d.1).2).Nodup))
def obsAtT (n : Nat) (ts : List Ts) (fn : List He.DefD) (g : Addr → Option Obj) : He.AlD × Bool := obsT ts fn g (He.frT g (lvl g n [mainGlobals]))
theorem tabs_say {ts : List Ts} {fn : List He.DefD} {h : Heap} {as : List Addr} (e : obsT ts fn h.get? (He.frT h.get? as) = (He.valD fn, true)) : Says ts fn (He.frT h.get? as) ∧ TabsSay (He.frT h.get? as) h := by
  have e1 : obs ts fn (He.frT h.get? as) = He.valD fn := congrArg Prod.fst e
  have e2 : (He.tabsB h.get? (lamDefs.map (·.1)) (He.frT h.get? as) && decide ((lamDefs.map fun d => (He.cT (He.frT h.get? as) d.1).2).Nodup)) = true := congrArg Prod.snd e
  obtain ⟨h2, h3⟩ := Bool.and_eq_true_iff.mp e2
  have key : ∀ d ∈ lamDefs, PySem.W.codeHdIn (He.frT h.get? as) (He.cT (He.frT h.get? as) d.1).1 (He.cT (He.frT h.get? as) d.1).2 = true ∧ ∃ o, h.get? (He.cT (He.frT h.get? as) d.1).2 = some o ∧ He.emptyTab o = true := fun d hd => by
    obtain ⟨h4, h5⟩ := Bool.and_eq_true_iff.mp (List.all_eq_true.mp h2 d.1 (List.mem_map_of_mem hd))
    refine ⟨h4, ?_⟩
    cases q : h.get? (He.cT (He.frT h.get? as) d.1).2 with
    | none =>
      rw [q] at h5
      cases h5
    | some o =>
      rw [q] at h5
      exact ⟨o, rfl, h5⟩
  refine ⟨e1, fun d hd => (key d hd).1, fun d hd => ?_, fun d hd => ?_, of_decide_eq_true h3⟩
  · obtain ⟨_, o, q, z⟩ := key d hd
    exact He.frT_none q z
  · obtain ⟨_, o, q, z⟩ := key d hd
    rw [q, He.emptyTab_eq z]
def hookT (n : Nat) (ts : List Ts) (fn : List He.DefD) : PySem.W.Hook :=
  { α := He.AlD × Bool, obs := fun s => obsAtT n ts fn s.heap.get?, val := fun _ => (He.valD fn, true), says := fun _ h => ∃ K : Fr, K.In h ∧ Says ts fn K ∧ TabsSay K h,
    of := fun _ _ z => ⟨_, He.frT_in, tabs_say z⟩, keeps := fun _ _ _ y k => y.elim fun K y => ⟨K, PySem.W.Frag.In.keeps y.1 k, y.2.1, ⟨y.2.2.hd, y.2.2.out, fun d hd => k _ _ (y.2.2.empty d hd), y.2.2.nd⟩⟩ }
theorem obsT_eq {n : Nat} {ts : List Ts} {fn : List He.DefD} (s : PySem.W.SharedT) : obsAtT n ts fn (HandSHeadRun.getT s) = (hookT n ts fn).obs s.abs :=
  congrArg (obsAtT n ts fn) (funext fun a => HandSHeadRun.getT_eq s a)
theorem walkT {l : PySem.W.OpenLaw} {k : Nat} {q : Program} {loose : List Str} {XP : (Str → Option Value) → Heap → Prop} {ts : List Ts} {fn : List He.DefD} {n : Nat} {d : DefRec} {x : Str}
    (hn : l.most = some 63) (hdf : d.params.defaults = []) (hr : Room k callerA)
    (F : ∀ (w : World) (mg : Str → Option Value) (fa : Addr) (h : Heap) (K : Fr), K.In h → h.Ns mainGlobals mg → mg d.name = some (.ref fa) → Says ts fn K →
      ∃ fd : FuncData, (∀ (s : Shared) (u : Value), BindsTo s fd ⟨[u], []⟩ [(x, u)]) ∧ ∀ base : Heap, K.In base → base.Ns mainGlobals mg → BT K mg base → FnOk l.prog w K mg base (L2.CX l.prog w) k fa fd [x] (spEnd K)) :
    PySem.W.WalkO q loose XP (hookT n ts fn).says l.row.toRowW d [] (fun f vs => PySem.call f vs) := by
  refine Att.attach_callB hn hdf ?_
  intro w s0 s1 mg mb fa o p1 p2 p3 a vs ns G Y ho hd hc hm hobj hi hl hbits hg
  obtain ⟨K, KX, c, T⟩ := Y
  obtain ⟨fd, hb, hF⟩ := F w mg fa _ K KX G.T.g hm c
  have hcs : ∀ {P : Addr × Addr → Prop}, (∀ d ∈ lamDefs, P (He.cT K d.1)) → ∀ p ∈ lamDefs.map fun d => He.cT K d.1, P p := fun z p hp => by
    obtain ⟨d, hd, e⟩ := List.mem_map.mp hp
    exact e ▸ z d hd
  refine LamX.law_callTs (cs := lamDefs.map fun d => He.cT K d.1) KX G.T.g G.T.b G.T.builtins G.T.nolimit hg (hcs T.empty) (hcs T.out) (hcs fun d hd => PySem.W.codeHd_of_K KX (T.hd d hd)) G.T.bmain hobj hi (Nat.le_trans hl (by decide)) hr (fun base b1 b2 b3 => hF base b1 b2 ⟨fun d hd => b3 _ (List.mem_map_of_mem hd), T.nd⟩) hb
    (fun H hH hS => ⟨a, ns, rfl, hl, hS, fun d hd => hH _ (List.mem_map_of_mem hd), fun _ => rfl⟩) fun H e s' z => ?_
  obtain ⟨_, _, _, _, _, _, _, _, _, _, _, _, z⟩ := z
  exact z
end QH

set_option Elab.async false
set_option linter.all false
set_option maxRecDepth 100000
set_option maxHeartbeats 1000000
/-! QO: a def of the text with the cell __class__ in its closure, as a def that keeps a promise. -/
namespace Q
open PySem PySem.Spec PyProof.Rows L2 TL NdefX
section
variable {CX : CXT} {P : Program} {w : World} {K : PySem.W.Frag} {mg : Str → Option Value} {base : Heap} {N ps : List Str} {F : NF} {f c C : Addr} {k : Nat} {sp : Sp} {doc pm ctv oc oc2 : Value} {od od2 : Option Addr} {osl osl2 : Array (Option Value)} {y0 : Str}
end
end Q
namespace PySem
open PySem PySem.Calls PyProof.Rows
section
variable {prog : Program} {w : World} {A : Around} {c : Code} {E : Value → Shared → Prop} {s : Shared} {env : Env}
end
end PySem
namespace Q
open PySem PySem.Spec PyProof.Rows L2 TL NdefX
end Q
namespace Q
open PySem PySem.Spec PyProof.Rows L2 TL NdefX
end Q
namespace Q
open PySem PySem.Spec PyProof.Rows L2 TL NdefX
end Q
namespace Q
open PySem PySem.Spec PyProof.Rows L2 TL NdefX
end Q
namespace Q
open PySem PySem.Spec PyProof.Rows L2 TL NdefX
/-- what such an __init__ keeps -/
def spInit (C : Addr) (fld : Str) (Pv : V → Prop) : Sp := fun vs H Q _ => ∃ (a : Addr) (v : V), vs = [.ref a, v] ∧ Pv v ∧ H a = some (exo a C none) ∧ ∀ H1 : Hp, (∀ b o, H b = some o → H1 b = some o) → ∀ dx, H1 dx = none → dx ≠ a → Q .non (upd (upd H1 dx (exd dx [(fld, v)])) a (exo a C (some dx)))
end Q

set_option Elab.async false
set_option linter.all false
set_option maxRecDepth 100000
set_option maxHeartbeats 1000000
/-! QP: raise of an exception class with its own __init__ (super().__init__(..) and one field); except C as e, where e.f is read; the tests of the head that say so. -/
namespace Q
open PySem PySem.Spec PyProof.Rows L2 TL NdefX
/-- an exception class of the text whose own __init__ says super() and keeps its argument as a field -/
structure XI (K : Fr) (mg : Str → Option Value) (P : Program) (x : Str) (C : Addr) (fld : Str) (ps : List Str) (Pv : V → Prop) : Prop where
  T : OexC K C
  g : mg x = some (.ref C)
  made : ∃ (fI : Addr) (fd : FuncData), PySem.W.findIn K (.ref C) "__init__" = some (some (.ref fI)) ∧ PySem.W.typeIn K (.ref fI) = some (.type "function") ∧ Binds K fd ps [] ∧
    ∀ (w : World) (base : Heap), FnOk P w K mg base (L2.CX P w) 1 fI fd ps (spInit C fld Pv)
section
variable {K : Fr} {g g' : G} {E : XK} {W W0 : WX} {X : Cx} {H : Hp} {h : Sto} {σ : L2.St} {env : Env'} {m1 ms me : EM} {pos : Pos}
def mRaiseF (C : Nat) (f : Str) (q : U → Bool) (me : EM) : SM := fun env h => match me env h with
  | .ok u h1 => if q u = true then .ex C (some h1.length) env (h1 ++ [.xd [(f, u)]]) else .bad
  | .exc C' n h1 => .ex C' n env h1
  | .bad => .bad
/-! ### except C as e: e.f -/
def mXfE (i a : Nat) (d : Option Nat) (f : Str) : EM := fun env h => match env[i]? with
  | some (some (.xv a' d' _ (some k))) => if a' = a ∧ d' = d then (match h[k]? with
    | some (.xd fs) => (match fs.lookup f with
      | some u => .ok u h
      | none => .bad)
    | _ => .bad) else .bad
  | _ => .bad
/-- in the suite the name holds the field's value: nothing else of e is asked but its class -/
def mTryAsF (i : Nat) (ys : List Nat) (f : Str) (mb ms : SM) : SM := fun env h => match mb env h with
  | .ex C n env1 h1 => (match n with
    | some k => if C ∈ ys ∧ i < env1.length then (match h1[k]? with
      | some (.xd fs) => (match fs.lookup f with
        | some u => (ms (env1.set i (some u)) h1).cl i
        | none => .bad)
      | _ => .bad) else .bad
    | none => .bad)
  | r => r
/-! ### isinstance(e, c), e an exception that has a dict -/
def rIsF (K : Fr) (D a : Addr) (d : Option Addr) : List V → Hp → VK → Prop := fun xs H Q => ∃ (c : V) (cv : Value) (b : Bool), xs = [.ref a, c] ∧ (∀ u, RelV c u → u = cv) ∧ PySem.W.kitOne K (.ref D) cv = some b ∧ (∃ dd fs, d = some dd ∧ H dd = some (.xd fs)) ∧ Q (.bl b) H
def mIsF (i a : Nat) (d : Option Nat) (b : Bool) : EM := fun env h => match env[i]? with
  | some (some (.xv a' d' _ (some k))) => if a' = a ∧ d' = d then (match h[k]? with
    | some (.xd _) => .ok (.bl b) h
    | _ => .bad) else .bad
  | _ => .bad
def isIntU : U → Bool
  | .int i => decide (i.natAbs < 2 ^ 100)
  | _ => false
abbrev PvI : V → Prop := fun v => ∃ i : Int, v = .int i ∧ i.natAbs < 2 ^ 100
end
end Q
namespace QH
open PySem PySem.Spec PyProof.Rows L2 Q NdefX
/-! ### tests of a class with its own __init__ -/
def isNon : Value → Bool
  | .none => true
  | _ => false
theorem isNon_ok : ∀ {v : Value}, isNon v = true → v = .none := fun {v} h => by
  cases v <;> first | rfl | (simp [isNon] at h)
/-- the closure is the cell of the class at C alone -/
def cloB (K : Fr) (C : Addr) (cl : List (Str × Addr)) : Bool := match cl with
  | [(y, c)] => decide (y = "__class__") && (match K.lookup c with
    | some ⟨_, _, .cell (some (.ref D)), _⟩ => decide (D = C)
    | _ => false)
  | _ => false
theorem cloB_ok {K : Fr} {C : Addr} {cl : List (Str × Addr)} (h : cloB K C cl = true) : ∃ c oc od osl, cl = [(("__class__" : Str), c)] ∧ K.lookup c = some ⟨oc, od, .cell (some (.ref C)), osl⟩ := by
  unfold cloB at h
  split at h
  · rename_i y c
    obtain ⟨h1, h2⟩ := Bool.and_eq_true_iff.mp h
    have e := of_decide_eq_true h1
    subst e
    split at h2
    · rename_i oc od D osl e
      have e2 := of_decide_eq_true h2
      subst e2
      exact ⟨c, oc, od, osl, rfl, e⟩
    · cases h2
  · cases h
def codeB (K : Fr) (qual file : Str) (v : Value) : Bool := match v with
  | .ref c => PySem.W.codeIn K (.ref c) qual && (match K.lookup c with
    | some ⟨_, _, .fields vs, _⟩ => (match vs[2]? with
      | some (Value.str z _) => decide (z = file)
      | _ => false)
    | _ => false)
  | _ => false
theorem codeB_ok {K : Fr} {qual file : Str} {v : Value} (h : codeB K qual file v = true) : ∃ c oc vs tf, v = .ref c ∧ PySem.W.codeIn K (.ref c) qual = true ∧ K.lookup c = some oc ∧ oc.data = .fields vs ∧ vs[2]? = some (.str file tf) := by
  unfold codeB at h
  split at h
  · rename_i c
    obtain ⟨h1, h2⟩ := Bool.and_eq_true_iff.mp h
    split at h2
    · rename_i a b vs d e
      split at h2
      · rename_i z tf e3
        have e2 := of_decide_eq_true h2
        subst e2
        exact ⟨c, _, vs, tf, rfl, h1, e, rfl, e3⟩
      · cases h2
    · cases h2
  · cases h
def fdB (K : Fr) (C : Addr) (qual file : Str) (fd : FuncData) : Bool := isNon fd.defaults && (isNon fd.kwdefaults && (fd.annotations.isNone && (cloB K C fd.closure && codeB K qual file fd.code)))
/-- the __init__ of the class x -/
def iAd (K : Fr) (x : Str) : Addr := He.fAd K (x, some "__init__")
def fnWI (K : Fr) (x : Str) : He.FnW := match K.lookup (iAd K x) with
  | some ⟨_, _, .func fd, _⟩ => some (fd.name, fd.qualname, fd.params, fd.body, fd.scope, fd.globals, [], fd.builtins)
  | _ => none
def fnB (K : Fr) (x qual file : Str) : Bool := match K.lookup (iAd K x) with
  | some ⟨_, _, .func fd, _⟩ => fdB K (He.ga K x) qual file fd
  | _ => false
/-- such an __init__, by its class, qualified name, statement and file -/
structure InD where
  x : Str
  qual : Str
  file : Str
  st : Stmt
def InD.nf (d : InD) (c cc : Addr) : NF := ⟨"__init__", d.qual, defArgs d.st, defBody d.st, defScope d.st, [(("__class__" : Str), c)], cc⟩
def InD.val (d : InD) : He.FnW := some ("__init__", d.qual, defArgs d.st, .stmts (defBody d.st), defScope d.st, mainGlobals, [], builtinsNs)
theorem InD.fn {K : Fr} {d : InD} (e : fnWI K d.x = d.val) (h : fnB K d.x d.qual d.file = true) : ∃ c cc oc od osl doc pm ctv oc2 od2 osl2 o3 vs tf, K.lookup (iAd K d.x) = some ⟨oc, od, .func ((d.nf c cc).fd doc pm ctv), osl⟩ ∧ PySem.W.codeIn K (.ref cc) d.qual = true ∧
    K.lookup c = some ⟨oc2, od2, .cell (some (.ref (He.ga K d.x))), osl2⟩ ∧ K.lookup cc = some o3 ∧ o3.data = .fields vs ∧ vs[2]? = some (.str d.file tf) := by
  unfold fnWI at e
  unfold fnB at h
  cases q : K.lookup (iAd K d.x) with
  | none => rw [q] at h; cases h
  | some o =>
    obtain ⟨oc, od, dt, osl⟩ := o
    rw [q] at h e
    cases dt with
    | func fd =>
      obtain ⟨n1, n2, n3, n4, n5, n6, n7, n8, n9, n10, n11, n12, n13, n14, n15⟩ := fd
      have e2 : (some (n1, n2, n3, n4, n5, n6, [], n15) : He.FnW) = d.val := e
      unfold InD.val at e2
      simp only [Option.some.injEq, Prod.mk.injEq] at e2
      obtain ⟨h1, h2, h3, h4, h5, h6, _, h8⟩ := e2
      have hh : fdB K (He.ga K d.x) d.qual d.file ⟨n1, n2, n3, n4, n5, n6, n7, n8, n9, n10, n11, n12, n13, n14, n15⟩ = true := h
      unfold fdB at hh
      simp only [Bool.and_eq_true] at hh
      obtain ⟨k1, k2, k3, k4, k5⟩ := hh
      have k1 := isNon_ok k1
      have k2 := isNon_ok k2
      obtain ⟨c, oc2, od2, osl2, k4, lc⟩ := cloB_ok k4
      obtain ⟨cc, o3, vs, tf, k5, kc, lcc, hd, hv⟩ := codeB_ok k5
      have k3 : n12 = none := by cases n12 with | none => rfl | some _ => cases k3
      subst h1 h2 h3 h4 h5 h6 h8 k1 k2 k3 k4 k5
      exact ⟨c, cc, oc, od, osl, n10, n11, n14, oc2, od2, osl2, o3, vs, tf, rfl, kc, lc, lcc, hd, hv⟩
    | _ => cases h
def clB (C : Addr) : Option Obj → Bool
  | some ⟨.type t, _, .cls cd, sl⟩ => decide (t = "type") && (match cd.mro, sl.toList with
    | .ref C' :: bm, [_, _, _, _, some (.builtin n), _] => decide (C' = C) && (decide (n = "ValueError.__new__") && (!cd.hasDel && (cd.hasDict && PySem.HandSPX.refsVE bm)))
    | _, _ => false)
  | _ => false
def tXi (x fld : Str) : Ts := fun K => clB (He.ga K x) (K.lookup (He.ga K x)) && (He.eqO (PySem.W.findIn K (.ref (He.ga K x)) "__setattr__") (some (some (.builtin "object.__setattr__"))) &&
  (decide (PySem.W.subIn K (.ref (He.ga K x)) (.type "BaseException") = some true) && (decide (PySem.W.typeIn K (.ref (He.ga K x)) = some (.type "type")) && (PySem.W.keepIn K (.ref (He.ga K x)) &&
  (He.eqO (PySem.W.findIn K (.ref (He.ga K x)) "__init__") (some (some (.ref (iAd K x)))) && (decide (PySem.W.typeIn K (.ref (iAd K x)) = some (.type "function")) && (He.eqO (PySem.W.findIn K (.ref (He.ga K x)) fld) (some none) &&
  (decide (PySem.W.mroIn K (He.ga K x) (.ref (He.ga K x)) = some true) && ((match PySem.W.clsIn K (He.ga K x) with
    | some cd => He.eqO (PySem.W.alongIn K "__init__" ((cd.mro.dropWhile (· != .ref (He.ga K x))).drop 1)) (some (some (.builtin "ValueError.__init__")))
    | none => false) && (decide (PySem.W.subIn K (.ref (He.ga K x)) (.type "ValueError") = some true) && He.eqO (PySem.W.nsIn K cStatics "thirdparty.any") (some none)))))))))))
/-- what stands in the program's own top -/
def progB (P : Program) (file : Str) : Bool := ((P.main.file : Str) == file) && !(P.main.scope.names.lookup ("super" : Str)).isSome
section
variable {K : Fr} {h : Heap} {mg : Str → Option Value}
end
/-! ### the head, such classes told, too -/
def refsI (o : Obj) : List Addr := He.refsD o ++ match o.data with
  | .func fd => fd.closure.map (·.2)
  | _ => []
def lvlI (g : Addr → Option Obj) : Nat → List Addr → List Addr
  | 0, as => as
  | n + 1, as => as ++ lvlI g n (as.flatMap fun a => ((g a).map refsI).getD [])
def obsI (ts : List Ts) (fn : List He.DefD) (fi : List InD) (K : Fr) : He.AlD := (((ts.all fun t => t K) && fn.all fun d => d.ok K) && fi.all fun d => fnB K d.x d.qual d.file, (fn.map fun d => He.fnW K d.at_) ++ fi.map fun d => fnWI K d.x)
def valI (fn : List He.DefD) (fi : List InD) : He.AlD := (true, fn.map He.DefD.val ++ fi.map InD.val)
def obsAtI (n : Nat) (ts : List Ts) (fn : List He.DefD) (fi : List InD) (g : Addr → Option Obj) : He.AlD := obsI ts fn fi (He.frG g (lvlI g n [mainGlobals, cStatics]))
def SaysI (ts : List Ts) (fn : List He.DefD) (fi : List InD) (K : Fr) : Prop := obsI ts fn fi K = valI fn fi
def hookI (n : Nat) (ts : List Ts) (fn : List He.DefD) (fi : List InD) : PySem.W.Hook :=
  { α := He.AlD, obs := fun s => obsAtI n ts fn fi s.heap.get?, val := fun _ => valI fn fi, says := fun _ h => ∃ K : Fr, K.In h ∧ SaysI ts fn fi K,
    of := fun _ _ z => ⟨_, He.frG_in, z⟩, keeps := fun _ _ _ y k => y.elim fun K y => ⟨K, PySem.W.Frag.In.keeps y.1 k, y.2⟩ }
theorem SaysI.says {ts : List Ts} {fn : List He.DefD} {fi : List InD} {K : Fr} (c : SaysI ts fn fi K) : Says ts fn K := by
  have c1 : (((ts.all fun t => t K) && fn.all fun d => d.ok K) && fi.all fun d => fnB K d.x d.qual d.file) = true := congrArg Prod.fst c
  have c2 : (fn.map fun d => He.fnW K d.at_) ++ fi.map (fun d => fnWI K d.x) = fn.map He.DefD.val ++ fi.map InD.val := congrArg Prod.snd c
  have c3 := (List.append_inj c2 (by simp)).1
  exact Prod.ext (Bool.and_eq_true_iff.mp c1).1 c3
theorem SaysI.i {ts : List Ts} {fn : List He.DefD} {fi : List InD} {K : Fr} (c : SaysI ts fn fi K) (i : Nat) {d : InD} (z : fi[i]? = some d := by rfl) : fnB K d.x d.qual d.file = true ∧ fnWI K d.x = d.val := by
  have c1 : (((ts.all fun t => t K) && fn.all fun d => d.ok K) && fi.all fun d => fnB K d.x d.qual d.file) = true := congrArg Prod.fst c
  have c2 : (fn.map fun d => He.fnW K d.at_) ++ fi.map (fun d => fnWI K d.x) = fn.map He.DefD.val ++ fi.map InD.val := congrArg Prod.snd c
  have c3 := (List.append_inj c2 (by simp)).2
  have c4 := congrArg (fun l => l[i]?) c3
  simp only [List.getElem?_map, z, Option.map_some] at c4
  exact ⟨List.all_eq_true.mp (Bool.and_eq_true_iff.mp c1).2 d (List.mem_of_getElem? z), Option.some.inj c4⟩
/-- except C as e: e.f may be read -/
def tXf (x f : Str) : Ts := fun K => xfB K (He.ga K x) && He.eqO (PySem.W.findIn K (.ref (He.ga K x)) f) (some none)
end QH

set_option Elab.async false
set_option linter.all false
set_option maxRecDepth 100000
set_option maxHeartbeats 1000000
/-! QF: int(text of digits). -/
namespace Q
open PySem PySem.Spec PyProof.Rows L2 TL
/-- the number that a row of digits tells -/
def dVal (s : List Nat) : Int := ((s.foldl (fun a c => a * 10 + (c - 48)) 0 : Nat) : Int)
def isDig (c : Nat) : Bool := decide (48 ≤ c ∧ c ≤ 57)
section
variable {K : Fr} {g g' : G} {E : XK} {W : WX} {X : Cx} {H : Hp} {h : Sto} {σ : L2.St} {e : Expr} {es : List Expr} {am : AM} {pos p : Pos} {n : Str}
def uIntS (us : List U) (h : Sto) : R U := match us with
  | [.str s] => if s.all isDig = true ∧ s ≠ [] ∧ s.length ≤ 640 then .ok (.int (dVal s)) h else .bad
  | _ => .bad
end
end Q

set_option Elab.async false
set_option linter.all false
set_option maxRecDepth 100000
set_option maxHeartbeats 1000000
/-! QG: list.index among data, str of a number or a text. -/
namespace Q
open PySem PySem.Spec PyProof.Rows L2 TL
section
variable {K : Fr} {g g' : G} {E : XK} {W : WX} {X : Cx} {H : Hp} {h : Sto} {σ : L2.St} {o e : Expr} {es : List Expr} {mo : EM} {am : AM} {pos p apos cpos : Pos} {n : Str}
def uIndexD (x : U) (us : List U) (h : Sto) : R U := match us with
  | [y] => (match pyd 60 h x, pyd 60 h y with
    | some (.list ds), some d => if SeqAt.shaped (.list ds) = true ∧ SeqAt.shaped d = true then (match ds.findIdx? fun z => PyData.eqv z d with
      | some i => .ok (.int i) h
      | none => .bad) else .bad
    | _, _ => .bad)
  | _ => .bad
theorem ok_indexD : MtOK K (rIndexD K) uIndexD := fun E g H h v x vs us Q hr rx rv t => by
  unfold uIndexD at t
  split at t
  · rename_i y
    split at t
    · rename_i ds d e1 e2
      split at t
      · rename_i sh
        split at t
        · rename_i i e3
          cases rv with
          | cons ry r2 =>
            cases r2
            have q1 := dp_of hr _ _ _ _ rx e1
            have q2 := dp_of hr _ _ _ _ ry e2
            obtain ⟨hi, w1, w2⟩ := List.findIdx?_eq_some_iff_getElem.mp e3
            obtain ⟨a, rfl⟩ : ∃ a, v = .ref a := by
              cases q1 with
              | lst hs ha => exact ⟨_, rfl⟩
            refine ⟨a, _, d, ds, i, ds[i], rfl, rfl, q1, q2, sh.1, sh.2, List.getElem?_eq_getElem hi, w1, fun m z' hm hz' => ?_, t _ _ g (Le.refl _) hr (.int _)⟩
            obtain ⟨hm', e4⟩ := List.getElem?_eq_some_iff.mp hz'
            subst e4
            have := w2 m hm
            simpa using this
        · exact t.elim
      · exact t.elim
    · exact t.elim
  · exact t.elim
theorem se_indexD {k : Nat} (hr : Room k X.A) (ho : PE X o (tM X.K W mo)) (ha : PA X (e :: es) (aM X.K W am))
    (hfew : ((backTo cpos (starEach (e :: es) X.env)).all (fun x => !x.1) && (backToKw cpos (keywordEach [] X.env)).all (fun x => x.1.isSome)
      && decide ((e :: es).length + ([] : List Keyword).length + (if ([] : List Keyword).isEmpty then 0 else 1) < 30)) = true := by rfl)
    (hline : (apos.endLine == cpos.line) = true := by rfl) (hs : starEach (e :: es) X.env = (false, eval e X.env) :: starEach es X.env := by rfl) (hplain : (backTo cpos (starEach es X.env)).any (·.1) = false := by rfl)
    (hbase : attributeBase o "index" X.env (eval o X.env) = eval o X.env := by rfl) : PE X (.Call (.Attribute o "index" apos) (e :: es) [] cpos) (tM X.K W (mLM uIndexD mo am)) :=
  PE.weak (pe_bm PySem.F.plainAttrs_list PySem.F.slot_list_index PySem.F.type_list_index (mt_indexD (hu65 hr)) ho ha hbase hfew hline hs hplain) fun σ H Q q => lm_to ok_indexD q
def uStrT (us : List U) (h : Sto) : R U := match us with
  | [.int i] => if i.natAbs.log2 < 1920 then .ok (.str (sInt i)) h else .bad
  | [.str s] => .ok (.str s) h
  | _ => .bad
end
end Q

set_option Elab.async false
set_option linter.all false
set_option maxRecDepth 100000
set_option maxHeartbeats 1000000
/-! QY: a dict of the top that nobody changes, texts to numbers: n[e] and n.get(e, d). -/
namespace Q
open PySem PySem.Spec PyProof.Rows L2 TL
abbrev TabL := List (List Nat × Int)
def tabV (kvs : TabL) (s : List Nat) : Option Int := (kvs.find? fun p => p.1 = s).map (·.2)
/-- the entries -/
def EntW (W : World) : List DictEntry → TabL → Prop
  | [], [] => True
  | e :: es, p :: ps => ((∃ t, e.key = .str ⟨p.1.toArray⟩ t) ∧ e.hash = hashStr W ⟨p.1.toArray⟩ ∧ ∃ t, e.val = .int p.2 t) ∧ EntW W es ps
  | _, _ => False
structure KD (K : Fr) (W : World) (a : Addr) (kvs : TabL) : Prop where
  ex : ∃ (o : Obj) (es : Array DictEntry) (ep : Nat), K.lookup a = some o ∧ o.ExactDict ∧ o.data = .dict es ep ∧ EntW W es.toList kvs
  nd : (kvs.map (·.1)).Nodup
  ns : (a == sysModules) = false
abbrev tabK (kvs : TabL) : List (Key × V) := kvs.map fun p => (kk (.inr p.1), V.int p.2)
theorem entW_ok {P : Program} {W : World} : ∀ {es : List DictEntry} {kvs : TabL}, EntW W es kvs → ∃ vs : List (Key × Value), KV (tabK kvs) vs ∧ Pairs (mixKind P W) es vs ∧ vs.map (·.1) = kvs.map (fun p => kk (.inr p.1)) ∧ ∀ e ∈ es, ∃ k, (mixKind P W).is k e.key = true ∧ e.hash = (mixKind P W).hash k
  | [], [], _ => ⟨[], .nil, .nil, rfl, fun _ m => by cases m⟩
  | e :: es, p :: ps, ⟨⟨⟨t, e1⟩, e2, u, e3⟩, r⟩ => by
    obtain ⟨vs, h1, h2, h3, h4⟩ := entW_ok (P := P) r
    have hi : (mixKind P W).is (kk (.inr p.1)) e.key = true := by rw [e1]; exact mixKind_str P W _ t
    refine ⟨(kk (.inr p.1), .int p.2 u) :: vs, .cons ⟨rfl, u, rfl⟩ h1, .cons hi e3 h2, by rw [List.map_cons, h3]; rfl, fun x m => ?_⟩
    rcases List.mem_cons.mp m with rfl | m
    · exact ⟨_, hi, e2⟩
    · exact h4 x m
section
variable {K : Fr} {g g' : G} {W : WX} {X : Cx} {H : Hp} {h : Sto} {σ : L2.St} {env : Env'} {e f : Expr} {m mf : EM} {pos p apos cpos : Pos} {E : XK} {pins : List (Addr × Obj)} {s : Shared} {a : Addr} {kvs : TabL} {n : Str} {A : Around} {Ex : Value → Shared → Prop}
theorem KD.at (I : Inv X pins σ H s) (k : KD X.K X.w a kvs) : ∃ vs, KV (tabK kvs) vs ∧ s.heap.DictOf (mixKind X.prog X.w) a vs := by
  obtain ⟨⟨o, es, ep, h1, h2, h3, h4⟩, nd, -⟩ := k
  obtain ⟨vs, r1, r2, r3, r4⟩ := entW_ok (P := X.prog) h4
  refine ⟨vs, r1, o, es, ep, I.kIn a o h1, h2, h3, fun x m => r4 x (Array.mem_toList_iff.mpr m), r2, ?_⟩
  rw [r3]
  have : kvs.map (fun p => (kk (.inr p.1) : Key)) = (kvs.map (·.1)).map fun s => kk (.inr s) := by rw [List.map_map]; rfl
  rw [this]
  exact List.Pairwise.map _ (fun x y hxy e => hxy (by injection (kk_inj e))) nd
def tKGet (kvs : TabL) (ty : TE) : TE := fun σ H Q => ty σ H fun y H1 => ∃ z i, y = V.str ⟨z.toArray⟩ ∧ tabV kvs z = some i ∧ Q (.int i) H1
def tKGet2 (kvs : TabL) (ty tx : TE) : TE := fun σ H Q => ty σ H fun y H1 => tx σ H1 fun x H2 => ∃ z, y = V.str ⟨z.toArray⟩ ∧ Q (((tabV kvs z).map V.int).getD x) H2
def mTab (kvs : TabL) (m : EM) : EM := fun env h => (m env h).bind fun x h1 => match x with
  | .str s => (match tabV kvs s with
    | some i => .ok (.int i) h1
    | none => .bad)
  | _ => .bad
def uTabG (kvs : TabL) (x y : U) (h : Sto) : R U := match x, y with
  | .str s, .int j => .ok (.int ((tabV kvs s).getD j)) h
  | _, _ => .bad
end
end Q
namespace QH
open PySem PySem.Spec PyProof.Rows L2 Q
/-! ### the head, such dicts told, too: their hashes are the world's -/
def relD : TabL → List DictEntry → Bool
  | [], [] => true
  | p :: ps, ⟨_, .str t _, .int i _⟩ :: es => (decide (t = ⟨p.1.toArray⟩) && decide (i = p.2)) && relD ps es
  | _, _ => false
def dictB (kvs : TabL) : Option Obj → Bool
  | some ⟨.type c, none, .dict es _, sl⟩ => (decide (c = "dict") && decide (sl.size = 0)) && relD kvs es.toList
  | _ => false
def tDic (x : Str) (kvs : TabL) : Ts := fun K => match PySem.W.nsIn K mainGlobals x with
  | some (some (.ref a)) => dictB kvs (K.lookup a) && (decide (kvs.map (·.1)).Nodup && !(a == sysModules))
  | _ => false
def hashB : Option Obj → List Int
  | some ⟨_, _, .dict es _, _⟩ => es.toList.map (·.hash)
  | _ => []
def hashD (x : Str) (K : Fr) : List Int := match PySem.W.nsIn K mainGlobals x with
  | some (some (.ref a)) => hashB (K.lookup a)
  | _ => []
def hashW (w : World) (kvs : TabL) : List Int := kvs.map fun p => hashStr w ⟨p.1.toArray⟩
abbrev DiL := List (Str × TabL)
abbrev AlJ := He.AlD × List (List Int)
def obsJ (ts : List Ts) (fn : List He.DefD) (fi : List InD) (fd : DiL) (K : Fr) : AlJ := (obsI ts fn fi K, fd.map fun d => hashD d.1 K)
def valJ (fn : List He.DefD) (fi : List InD) (fd : DiL) (w : World) : AlJ := (valI fn fi, fd.map fun d => hashW w d.2)
def obsAtJ (n : Nat) (ts : List Ts) (fn : List He.DefD) (fi : List InD) (fd : DiL) (g : Addr → Option Obj) : AlJ := obsJ ts fn fi fd (He.frG g (lvlI g n [mainGlobals, cStatics]))
def SaysJ (ts : List Ts) (fn : List He.DefD) (fi : List InD) (fd : DiL) (w : World) (K : Fr) : Prop := obsJ ts fn fi fd K = valJ fn fi fd w
def hookJ (n : Nat) (ts : List Ts) (fn : List He.DefD) (fi : List InD) (fd : DiL) : PySem.W.Hook :=
  { α := AlJ, obs := fun s => obsAtJ n ts fn fi fd s.heap.get?, val := fun w => valJ fn fi fd w, says := fun w h => ∃ K : Fr, K.In h ∧ SaysJ ts fn fi fd w K,
    of := fun _ _ z => ⟨_, He.frG_in, z⟩, keeps := fun _ _ _ y k => y.elim fun K y => ⟨K, PySem.W.Frag.In.keeps y.1 k, y.2⟩ }
theorem SaysJ.i {ts : List Ts} {fn : List He.DefD} {fi : List InD} {fd : DiL} {w : World} {K : Fr} (c : SaysJ ts fn fi fd w K) : SaysI ts fn fi K := congrArg Prod.fst c
theorem SaysJ.d {ts : List Ts} {fn : List He.DefD} {fi : List InD} {fd : DiL} {w : World} {K : Fr} (c : SaysJ ts fn fi fd w K) (i : Nat) {d : Str × TabL} (z : fd[i]? = some d := by rfl) : hashD d.1 K = hashW w d.2 := by
  have c2 : (fd.map fun d => hashD d.1 K) = fd.map fun d => hashW w d.2 := congrArg Prod.snd c
  have c4 := congrArg (fun l => l[i]?) c2
  simp only [List.getElem?_map, z, Option.map_some] at c4
  exact Option.some.inj c4
/-! a display of a dict at the top asks the world how one name is read: both answers are run -/
def setFT (w : World) (b : Bool) : World := { w with params := { w.params with followText := fun row => if row = "special-get-raises" then b else w.params.followText row } }
end QH

set_option Elab.async false
set_option linter.all false
set_option maxRecDepth 100000
set_option maxHeartbeats 1000000
/-! QAB: an instance whose __init__ may raise. -/
namespace Q
open PySem PySem.Spec PyProof.Rows L2 TL
section
variable {K : Fr} {g g' : G} {W : WX} {X : Cx} {H : Hp} {h : Sto} {σ : L2.St} {env : Env'} {e : Expr} {es : List Expr} {pos : Pos} {am : AM} {n : Str} {p : Pos} {f C : Addr} {fd : FuncData} {ps : List Str} {k j : Nat} {sem : Sem'} {sp : Sp} {E : L2.St → XK} {t : TA} {CX : CXT}
def tMakeS (C : Addr) (sp : Sp) (E : L2.St → XK) (t : TA) : TE := fun σ H Q => t σ H fun vs H1 => ∀ x dx, H1 x = none → H1 dx = none → dx ≠ x → sp (.ref x :: vs) (upd (upd H1 dx (.own x)) x (.ins C dx [])) (fun v H2 => v = .non ∧ Q (.ref x) H2) (E σ)
/-- C(..), what __init__ raises goes on -/
def mMakeX (C : Nat) (k : Nat) (sem : Sem') (am : AM) : EM := fun env h => (am env h).bind fun us h1 => if us.length + 1 = k then (match sem (.ref h1.length :: us) (h1 ++ [.ins C []]) with
  | .ok .non h2 => .ok (.ref h1.length) h2
  | .exc C' m h2 => .exc C' m h2
  | _ => .bad) else .bad
@[simp] theorem e_makeX {C k : Nat} : mMakeX C k sem am env h = (am env h).bind fun us h1 => if us.length + 1 = k then (match sem (.ref h1.length :: us) (h1 ++ [.ins C []]) with
  | .ok .non h2 => .ok (.ref h1.length) h2
  | .exc C' m h2 => .exc C' m h2
  | _ => .bad) else .bad := rfl
end
end Q

set_option Elab.async false
set_option linter.all false
set_option maxRecDepth 100000
set_option maxHeartbeats 1000000
/-! QAC: an exception class right below Exception, with its own __init__ (super().__init__(..) and one field). -/
namespace Q
open PySem PySem.Spec PyProof.Rows L2 TL NdefX
/-- what the written part says of a class right below Exception -/
structure OexE (K : Fr) (C : Addr) : Prop where
  cls : ∃ nm q N bs sn sub ab col dd k0 k1 k2 k3 k5, K.lookup C = some (excClassObj nm q C N bs PySem.ESX.exTail true sn sub ab col dd k0 k1 k2 k3 k5 "Exception.__new__")
  sa : PySem.W.findIn K (.ref C) "__setattr__" = some (some (.builtin "object.__setattr__"))
  exC : PySem.W.subIn K (.ref C) (.type "BaseException") = some true
  tyC : PySem.W.typeIn K (.ref C) = some (.type "type")
  kC : PySem.W.keepIn K (.ref C) = true
/-- self.f = e in such an __init__ -/
def tOstE (K : Fr) (f : Str) (to te : TE) : TS := fun D σ H => te σ H fun y H1 => to σ H1 fun x H2 => ∃ a C : Addr, x = .ref a ∧ OexE K C ∧ PySem.W.findIn K (.ref C) f = some none ∧
  H2 a = some (exo a C none) ∧ ∀ dx, H2 dx = none → dx ≠ a → D.nx σ (upd (upd H2 dx (exd dx [(f, y)])) a (exo a C (some dx)))
end Q
namespace Q
open PySem PySem.Spec PyProof.Rows L2 TL NdefX
end Q
namespace Q
open PySem PySem.Spec PyProof.Rows L2 TL NdefX
end Q
namespace Q
open PySem PySem.Spec PyProof.Rows L2 TL NdefX
end Q
namespace Q
open PySem PySem.Spec PyProof.Rows L2 TL NdefX
/-- an exception class of the text whose own __init__ says super() and keeps its argument as a field -/
structure XIE (K : Fr) (mg : Str → Option Value) (P : Program) (x : Str) (C : Addr) (fld : Str) (ps : List Str) (Pv : V → Prop) : Prop where
  T : OexE K C
  g : mg x = some (.ref C)
  made : ∃ (fI : Addr) (fd : FuncData), PySem.W.findIn K (.ref C) "__init__" = some (some (.ref fI)) ∧ PySem.W.typeIn K (.ref fI) = some (.type "function") ∧ Binds K fd ps [] ∧
    ∀ (w : World) (base : Heap), FnOk P w K mg base (L2.CX P w) 1 fI fd ps (spInit C fld Pv)
section
variable {K : Fr} {g g' : G} {E : XK} {W W0 : WX} {X : Cx} {H : Hp} {h : Sto} {σ : L2.St} {env : Env'} {m1 ms me : EM} {pos : Pos}
end
end Q
namespace QH
open PySem PySem.Spec PyProof.Rows L2 Q NdefX
def clBE (C : Addr) : Option Obj → Bool
  | some ⟨.type t, _, .cls cd, sl⟩ => decide (t = "type") && (match cd.mro, sl.toList with
    | .ref C' :: bm, [_, _, _, _, some (.builtin n), _] => decide (C' = C) && (decide (n = "Exception.__new__") && (!cd.hasDel && (cd.hasDict && decide (bm = PySem.ESX.exTail))))
    | _, _ => false)
  | _ => false
def tXiE (x fld : Str) : Ts := fun K => clBE (He.ga K x) (K.lookup (He.ga K x)) && (He.eqO (PySem.W.findIn K (.ref (He.ga K x)) "__setattr__") (some (some (.builtin "object.__setattr__"))) &&
  (decide (PySem.W.subIn K (.ref (He.ga K x)) (.type "BaseException") = some true) && (decide (PySem.W.typeIn K (.ref (He.ga K x)) = some (.type "type")) && (PySem.W.keepIn K (.ref (He.ga K x)) &&
  (He.eqO (PySem.W.findIn K (.ref (He.ga K x)) "__init__") (some (some (.ref (iAd K x)))) && (decide (PySem.W.typeIn K (.ref (iAd K x)) = some (.type "function")) && (He.eqO (PySem.W.findIn K (.ref (He.ga K x)) fld) (some none) &&
  (decide (PySem.W.mroIn K (He.ga K x) (.ref (He.ga K x)) = some true) && ((match PySem.W.clsIn K (He.ga K x) with
    | some cd => He.eqO (PySem.W.alongIn K "__init__" ((cd.mro.dropWhile (· != .ref (He.ga K x))).drop 1)) (some (some (.builtin "Exception.__init__")))
    | none => false) && (decide (PySem.W.subIn K (.ref (He.ga K x)) (.type "Exception") = some true) && He.eqO (PySem.W.nsIn K cStatics "thirdparty.any") (some none)))))))))))
section
variable {K : Fr} {h : Heap} {mg : Str → Option Value}
end
end QH

set_option Elab.async false
set_option linter.all false
set_option maxRecDepth 100000
set_option maxHeartbeats 2000000
/-! QAD: list(zip(x, y)), each a list or a tuple. -/
namespace QZ
open PySem PySem.Spec PyProof.Rows L2
open PySem.Sem (wp)
section
variable {prog : Program} {w : World} {A : Around} {E : Value → Shared → Prop} {s : Shared} {k k' : ZK} {z ti to a b p q T : Addr} {i j : Nat} {xs ys : Array Value} {x y u v : Value} {f : Bool} {oT : Obj}
/-- what a turn leaves, the tuple that was given out being still there -/
def Kh (z a b : Addr) (h h2 : Heap) : Prop := ∀ c o, c ≠ z → c ≠ a → c ≠ b → h.get? c = some o → h2.get? c = some o
/-- the zip between two turns: the tuple is its own, or the one given out lies at N or above -/
structure ZSt (k k' : ZK) (h : Heap) (z ti to a b p q : Addr) (N i : Nat) : Prop where
  hI : IsPair h ti (.ref a) (.ref b)
  h1 : ItIs k h a p i
  h2 : ItIs k' h b q i
  hz : (IsZip h z ti to .none ∧ ∃ u v, IsPair h to u v) ∨ ∃ T f oT, IsZipHeld h z ti to T f ∧ h.get? T = some oT ∧ N ≤ T
theorem ZSt.mv {h h' : Heap} {N : Nat} (x : ZSt k k' h z ti to a b p q N i) (S : Addr) (n1 : S ≠ z) (n2 : S ≠ ti) (n3 : S ≠ to) (n4 : S ≠ a) (n5 : S ≠ b) (n6 : S < N) (kp : ∀ c o, c ≠ S → h.get? c = some o → h'.get? c = some o) : ZSt k k' h' z ti to a b p q N i := by
  obtain ⟨hI, h1, h2, hz⟩ := x
  refine ⟨kp _ _ n2.symm hI, h1.mv fun o e => kp _ o n4.symm e, h2.mv fun o e => kp _ o n5.symm e, ?_⟩
  rcases hz with ⟨hz, u, v, hO⟩ | ⟨T, f, oT, hz, hT, hTN⟩
  · exact .inl ⟨kp _ _ n1.symm hz, u, v, kp _ _ n3.symm hO⟩
  · exact .inr ⟨T, f, oT, kp _ _ n1.symm hz, kp _ _ (Nat.ne_of_gt (Nat.lt_of_lt_of_le n6 hTN)) hT, hTN⟩
theorem SqIs.mv {k : ZK} {h h' : Heap} {p : Addr} {xs : Array Value} (x : SqIs k h p xs) (q : ∀ o, h.get? p = some o → h'.get? p = some o) : SqIs k h' p xs := by
  cases k
  · exact Heap.IsList.at x q
  · exact Heap.IsTuple.at x q
/-- the pairs that were given out: the j-th lies at N + j -/
def Prs (h : Heap) (N : Nat) (xs ys : Array Value) (i : Nat) : Prop := ∀ j, j < i → ∃ x y, xs[j]? = some x ∧ ys[j]? = some y ∧ IsPair h (N + j) x y
end
/-- H with a new list at S, its pairs from N on -/
def lzH (H : Hp) (S N : Nat) (ps : List (V × V)) : Hp := fun c => if c = S then some (.lst ((List.range ps.length).map fun j => V.ref (N + j))) else if N ≤ c then (match ps[c - N]? with
  | some p => some (.tup [p.1, p.2])
  | none => H c) else H c
/-- list(zip(..)) -/
def tLz (K : PySem.W.Frag) (ta : TA) : TE := fun σ H Q => ta σ H fun vs H1 => ∃ k k' a b xs ys, vs = [.ref a, .ref b] ∧ SqK k K H1 a xs ∧ SqK k' K H1 b ys ∧ (xs.zip ys).length ≤ 16000000 ∧
  ∀ S N, H1 S = none → S < N → (∀ c, N ≤ c → H1 c = none) → Q (.ref S) (lzH H1 S N (xs.zip ys))
end QZ
namespace Q
open PySem PySem.Spec PyProof.Rows L2 TL
section
variable {K : Fr} {g g' : G} {E : XK} {W : WX} {X : Cx} {H : Hp} {h : Sto} {σ : L2.St} {env : Env'} {a b : Expr} {am : AM} {p1 p2 pos1 pos2 : Pos}
/-- the pairs alone -/
def lzU (H : Hp) (N : Nat) (ps : List (V × V)) : Hp := fun c => if N ≤ c then (match ps[c - N]? with
  | some p => some (.tup [p.1, p.2])
  | none => H c) else H c
/-- list(zip(..)) -/
def mLZ (am : AM) : EM := fun env h => (am env h).bind fun us h1 => match us with
  | [x, y] => (match sL h1 x, sL h1 y with
    | some us, some ts => if us.length ≤ 16000000 then .ok (.ref h1.length) (h1 ++ [.lst (pairs us ts)]) else .bad
    | _, _ => .bad)
  | _ => .bad
@[simp] theorem e_LZ : mLZ am env h = (am env h).bind fun us h1 => match us with
  | [x, y] => (match sL h1 x, sL h1 y with
    | some us, some ts => if us.length ≤ 16000000 then .ok (.ref h1.length) (h1 ++ [.lst (pairs us ts)]) else .bad
    | _, _ => .bad)
  | _ => .bad := rfl
end
end Q

set_option Elab.async false
set_option linter.all false
set_option maxRecDepth 100000
set_option maxHeartbeats 1000000
/-! QAE: for .. in reversed(list); a field of any value; a suite that is one assignment. -/
namespace Q
open PySem PySem.Spec PyProof.Rows L2 TL
section
variable {K : Fr} {g g' : G} {E : XK} {W : WX} {X : Cx} {H : Hp} {h : Sto} {σ : L2.St} {env : Env'} {a : Expr} {am : AM} {p pos : Pos} {tg : Expr}
def itRv (am : AM) : IM' := fun env h => (am env h).bind fun us h1 => match us with
  | [x] => (match aL h1 x with
    | some us => .ok (chkOf x us, us.reverse) h1
    | _ => .bad)
  | _ => .bad
@[simp] theorem e_itRv : itRv am env h = (am env h).bind fun us h1 => match us with
  | [x] => (match aL h1 x with
    | some us => .ok (chkOf x us, us.reverse) h1
    | _ => .bad)
  | _ => .bad := rfl
/-! a field of any value -/
def isAnyU : U → Bool := fun _ => true
abbrev PvA : V → Prop := fun _ => True
end
end Q

set_option Elab.async false
set_option linter.all false
set_option maxRecDepth 100000
set_option maxHeartbeats 1000000
/-! QAF: a def whose last parameter has the default None. -/
namespace Q
open PySem PySem.Spec PyProof.Rows L2 TL
section
variable {P : Program} {Wd : World} {K : Fr} {mg : Str → Option Value} {base : Heap}
/-- such a def, by its statement -/
abbrev FunN (K : Fr) (x qual : Str) (st : Stmt) (f : Addr) (fd : FuncData) : Prop := FunD K x qual (defArgs st) (defBody st) (defScope st) [V.non] [] f fd
variable {X : Cx} {W : WX} {a : Expr} {me : EM} {p pos : Pos} {n : Str} {C : Addr} {fd : FuncData} {ps : List Str} {k j : Nat} {sem : Sem'}
end
end Q
namespace QH
open PySem PySem.Spec PyProof.Rows L2 Q
/-- one def whose last parameter has the default None -/
def ddN (at_ : Str × Option Str) (x qual : Str) (st : Stmt) : He.DefD := { at_ := at_, name := x, qual := qual, params := defArgs st, body := defBody st, scope := defScope st, dfl := [.non] }
end QH

set_option Elab.async false
set_option linter.all false
set_option maxRecDepth 100000
set_option maxHeartbeats 2000000
/-! QAG: dict(zip(x, y)), each a list or a tuple; tuples of numbers and texts of the top; dicts of the top, texts to such tuples. -/
namespace QZ
open PySem PySem.Spec PyProof.Rows L2
open PySem.Sem (wp)
theorem ItIs.th {k : ZK} {h : Heap} {a p : Addr} {i : Nat} (x : ItIs k h a p i) : ∃ o, h.get? a = some o := by
  cases k
  · exact let ⟨o, e, _⟩ := x; ⟨o, e⟩
  · exact let ⟨o, e, _⟩ := x; ⟨o, e⟩
theorem SqIs.th {k : ZK} {h : Heap} {p : Addr} {xs : Array Value} (x : SqIs k h p xs) : ∃ o, h.get? p = some o := by
  cases k
  · exact let ⟨o, e, _⟩ := x; ⟨o, e⟩
  · exact let ⟨o, e, _⟩ := x; ⟨o, e⟩
def tDz (K : PySem.W.Frag) (ta : TA) : TE := fun σ H Q => ta σ H fun vs H1 => ∃ (k k' : ZK) (a b : Addr) (ks : List Key) (ys : List V), vs = [.ref a, .ref b] ∧ SqK k K H1 a (ks.map kV) ∧ SqK k' K H1 b ys ∧ (ks.zip ys).length ≤ 16000000 ∧
  ∀ p, H1 p = none → Q (.ref p) (upd H1 p (.dK (mergeK [] (ks.zip ys))))
end QZ
namespace Q
open PySem PySem.Spec PyProof.Rows L2 TL
section
variable {K : Fr} {g g' : G} {E : XK} {W : WX} {X : Cx} {H : Hp} {h : Sto} {σ : L2.St} {env : Env'} {a b e : Expr} {m : EM} {am : AM} {p p1 p2 pos pos1 pos2 : Pos} {n : Str}
/-- texts and numbers as keys -/
def keysUL : List U → Option (List DK)
  | [] => some []
  | u :: us => match keyU u, keysUL us with
    | some k, some ks => some (k :: ks)
    | _, _ => none
/-- dict(zip(..)) -/
def mDZ (am : AM) : EM := fun env h => (am env h).bind fun us h1 => match us with
  | [x, y] => (match sL h1 x, sL h1 y with
    | some us, some ts => if us.length ≤ 16000000 then (match keysUL us with
      | some ks => .ok (.ref h1.length) (h1 ++ [.dK (mergeD [] (ks.zip ts))])
      | none => .bad) else .bad
    | _, _ => .bad)
  | _ => .bad
@[simp] theorem e_DZ : mDZ am env h = (am env h).bind fun us h1 => match us with
  | [x, y] => (match sL h1 x, sL h1 y with
    | some us, some ts => if us.length ≤ 16000000 then (match keysUL us with
      | some ks => .ok (.ref h1.length) (h1 ++ [.dK (mergeD [] (ks.zip ts))])
      | none => .bad) else .bad
    | _, _ => .bad)
  | _ => .bad := rfl
/-! ### tuples of numbers and texts of the top -/
abbrev AtL := List (Int ⊕ List Nat)
def atU : Int ⊕ List Nat → U
  | .inl i => .int i
  | .inr s => .str s
def atV : Int ⊕ List Nat → V
  | .inl i => .int i
  | .inr s => .str ⟨s.toArray⟩
/-! ### dicts of the top: texts to such tuples -/
abbrev TbL := List (List Nat × AtL)
def tbV (kvs : TbL) (s : List Nat) : Option AtL := (kvs.find? fun p => p.1 = s).map (·.2)
def EntB (K : Fr) (W : World) : List DictEntry → TbL → Prop
  | [], [] => True
  | e :: es, p :: ps => ((∃ t, e.key = .str ⟨p.1.toArray⟩ t) ∧ e.hash = hashStr W ⟨p.1.toArray⟩ ∧ ∃ b, e.val = .ref b ∧ KT K b (p.2.map atV)) ∧ EntB K W es ps
  | _, _ => False
structure KDB (K : Fr) (W : World) (a : Addr) (kvs : TbL) : Prop where
  ex : ∃ (o : Obj) (es : Array DictEntry) (ep : Nat), K.lookup a = some o ∧ o.ExactDict ∧ o.data = .dict es ep ∧ EntB K W es.toList kvs
  nd : (kvs.map (·.1)).Nodup
theorem entB_ok {P : Program} {W : World} : ∀ {es : List DictEntry} {kvs : TbL}, EntB K W es kvs → ∃ (vs : List (Key × Value)) (kv : List (Key × V)), KV kv vs ∧ Pairs (mixKind P W) es vs ∧ vs.map (·.1) = kvs.map (fun p => (kk (.inr p.1) : Key)) ∧
      (∀ x ∈ es, ∃ k, (mixKind P W).is k x.key = true ∧ x.hash = (mixKind P W).hash k) ∧ ∀ z l, tbV kvs z = some l → ∃ b, valV kv (kk (.inr z)) = some (.ref b) ∧ KT K b (l.map atV)
  | [], [], _ => ⟨[], [], .nil, .nil, rfl, (fun _ m => by cases m), fun z l e => by simp [tbV] at e⟩
  | e :: es, p :: ps, ⟨⟨⟨t, e1⟩, e2, b, e3, kt⟩, r⟩ => by
    obtain ⟨vs, kv, h1, h2, h3, h4, h5⟩ := entB_ok (P := P) r
    have hi : (mixKind P W).is (kk (.inr p.1)) e.key = true := by rw [e1]; exact mixKind_str P W _ t
    refine ⟨(kk (.inr p.1), .ref b) :: vs, (kk (.inr p.1), .ref b) :: kv, .cons ⟨rfl, rfl⟩ h1, .cons hi e3 h2, by rw [List.map_cons, h3]; rfl, fun x m => ?_, fun z l q => ?_⟩
    · rcases List.mem_cons.mp m with rfl | m
      · exact ⟨_, hi, e2⟩
      · exact h4 x m
    · unfold tbV at q
      rw [List.find?_cons] at q
      by_cases ez : p.1 = z
      · rw [decide_eq_true ez] at q
        cases q
        exact ⟨b, valV_pos (p := (kk (.inr p.1), V.ref b)) (by rw [ez]), kt⟩
      · rw [decide_eq_false ez] at q
        obtain ⟨b', q1, q2⟩ := h5 z l q
        exact ⟨b', (valV_neg (p := (kk (.inr p.1), V.ref b)) (fun q => ez (by injection (kk_inj (show kk (.inr p.1) = kk (.inr z) from q))))).trans q1, q2⟩
theorem KDB.at {kvs : TbL} {pins : List (Addr × Obj)} {s : Shared} {a : Addr} (I : Inv X pins σ H s) (k : KDB X.K X.w a kvs) : ∃ (vs : List (Key × Value)) (kv : List (Key × V)), KV kv vs ∧ s.heap.DictOf (mixKind X.prog X.w) a vs ∧
    ∀ z l, tbV kvs z = some l → ∃ b, valV kv (kk (.inr z)) = some (.ref b) ∧ KT X.K b (l.map atV) := by
  obtain ⟨⟨o, es, ep, h1, h2, h3, h4⟩, nd⟩ := k
  obtain ⟨vs, kv, r1, r2, r3, r4, r5⟩ := entB_ok (P := X.prog) h4
  refine ⟨vs, kv, r1, ⟨o, es, ep, I.kIn a o h1, h2, h3, fun x m => r4 x (Array.mem_toList_iff.mpr m), r2, ?_⟩, r5⟩
  rw [r3]
  have : kvs.map (fun p => (kk (.inr p.1) : Key)) = (kvs.map (·.1)).map fun s => kk (.inr s) := by rw [List.map_map]; rfl
  rw [this]
  exact List.Pairwise.map _ (fun x y hxy e => hxy (by injection (kk_inj e))) nd
def tKGetB (K : Fr) (kvs : TbL) (ty : TE) : TE := fun σ H Q => ty σ H fun y H1 => ∃ z l, y = V.str ⟨z.toArray⟩ ∧ tbV kvs z = some l ∧ ∀ b, KT K b (l.map atV) → Q (.ref b) H1
def mTabB (kvs : TbL) (m : EM) : EM := fun env h => (m env h).bind fun x h1 => match x with
  | .str s => (match tbV kvs s with
    | some l => .ok (.tup (l.map atU)) h1
    | none => .bad)
  | _ => .bad
end
end Q
namespace QH
open PySem PySem.Spec PyProof.Rows L2 Q
section
variable {K : Fr} {h : Heap} {mg : Str → Option Value}
def relA : AtL → List Value → Bool
  | [], [] => true
  | .inr s :: ss, .str t _ :: us => decide (t = ⟨s.toArray⟩) && relA ss us
  | .inl i :: ss, .int j _ :: us => decide (j = i) && relA ss us
  | _, _ => false
def tupB (l : AtL) : Option Obj → Bool
  | some ⟨.type c, none, .seq its _, _⟩ => decide (c = "tuple") && (decide (its.size ≤ sizeLine) && relA l its.toList)
  | _ => false
def tAt (x : Str) (l : AtL) : Ts := fun K => match PySem.W.nsIn K mainGlobals x with
  | some (some (.ref a)) => tupB l (K.lookup a)
  | _ => false
theorem relA_ok : ∀ {l : AtL} {us : List Value}, relA l us = true → Vals (l.map atV) us
  | [], [], _ => .nil
  | [], _ :: _, z => nomatch z
  | .inl _ :: _, [], z => nomatch z
  | .inr _ :: _, [], z => nomatch z
  | .inr s :: ss, u :: us, z => by
    cases u with
    | str t k =>
      obtain ⟨z1, z2⟩ := Bool.and_eq_true_iff.mp (show (decide (t = ⟨s.toArray⟩) && relA ss us) = true from z)
      exact .cons ⟨k, by rw [of_decide_eq_true z1]⟩ (relA_ok z2)
    | _ => cases z
  | .inl i :: ss, u :: us, z => by
    cases u with
    | int j k =>
      obtain ⟨z1, z2⟩ := Bool.and_eq_true_iff.mp (show (decide (j = i) && relA ss us) = true from z)
      exact .cons ⟨k, by rw [of_decide_eq_true z1]⟩ (relA_ok z2)
    | _ => cases z
theorem tupB_ok {l : AtL} {a : Addr} (c : tupB l (K.lookup a) = true) : KT K a (l.map atV) := by
  unfold tupB at c
  split at c
  · rename_i cn its n sl e1
    obtain ⟨c1, c2⟩ := Bool.and_eq_true_iff.mp c
    obtain ⟨c3, c4⟩ := Bool.and_eq_true_iff.mp c2
    exact ⟨_, its, n, e1, congrArg Value.type (of_decide_eq_true c1), rfl, rfl, of_decide_eq_true c3, relA_ok c4⟩
  · cases c
theorem at_ (X : K.In h) (G : h.Ns mainGlobals mg) {x : Str} {l : AtL} (c : tAt x l K = true) : ∃ a, mg x = some (.ref a) ∧ KT K a (l.map atV) := by
  unfold tAt at c
  split at c
  · rename_i a e
    exact ⟨a, PySem.W.mg_of X G e, tupB_ok c⟩
  · cases c
def relDB (K : Fr) : TbL → List DictEntry → Bool
  | [], [] => true
  | p :: ps, ⟨_, .str t _, .ref b⟩ :: es => (decide (t = ⟨p.1.toArray⟩) && tupB p.2 (K.lookup b)) && relDB K ps es
  | _, _ => false
def dictBB (K : Fr) (kvs : TbL) : Option Obj → Bool
  | some ⟨.type c, none, .dict es _, sl⟩ => (decide (c = "dict") && decide (sl.size = 0)) && relDB K kvs es.toList
  | _ => false
def tDicB (x : Str) (kvs : TbL) : Ts := fun K => match PySem.W.nsIn K mainGlobals x with
  | some (some (.ref a)) => dictBB K kvs (K.lookup a) && decide (kvs.map (·.1)).Nodup
  | _ => false
/-- the keys, for the hashes -/
abbrev tbK (kvs : TbL) : TabL := kvs.map fun p => (p.1, 0)
end
end QH

set_option Elab.async false
set_option linter.all false
set_option maxRecDepth 100000
set_option maxHeartbeats 2000000
/-! QAH: sorted(xs, key=lambda x: x[0]) of tuples whose first part is a pair of numbers. -/
namespace QH
open PySem PySem.Spec PyProof.Rows L2 Q
section
variable {prog : Program} {w : World} {A : Around} {E : Value → Shared → Prop} {s : Shared}
abbrev lamArgs (x : Str) (an : Option Expr) (ap : Pos) : Arguments := { posonlyargs := [], args := [{ arg := x, annotation := an, pos := ap }], vararg := none, kwonlyargs := [], kw_defaults := [], kwarg := none, defaults := [] }
abbrev lamScope (x : Str) : Scope := { kind := .function, names := [(x, .local)], isGenerator := false, isCoroutine := false, more := [] }
theorem lam_first {f c' a : Addr} {items : Array Value} {v0 : Value} {q x : Str} {an : Option Expr} {ap p1 p2 p3 : Pos} {j0 : Nat} {cl : List (Str × Addr)} {pm ctv : Value} {Q : Value → Shared → Prop}
    (hf : s.heap.get? f = some (PySem.W.kla_obj "<lambda>" q (lamArgs x an ap) (.Subscript (.Name x p1) (.Constant (.int 0) j0 p2) p3) (lamScope x) cl pm c' ctv)) (hcd : s.heap.CodeRec (.ref c') q)
    (ht : IsTup s.heap a items) (h0 : items[0]? = some v0) (hbind : bindArgs (PySem.W.kla_fn "<lambda>" q (lamArgs x an ap) (.Subscript (.Name x p1) (.Constant (.int 0) j0 p2) p3) (lamScope x) cl pm (.ref c') ctv) ⟨[.ref a], []⟩ = pure [(x, .ref a)]) (lim : s.heap.NoLimit) (hroom : A.depth < recursionLimit) (hdb : (x == ("__debug__" : Str)) = false)
    (hQ : ∀ h' tk, (∀ b o, s.heap.get? b = some o → h'.get? b = some o) → Q v0 { s with heap := h', toks := tk }) :
    wpAny (model prog w) A (call (.ref f) [.ref a]) Q E s := by
  refine wpAny_call (PySem.W.kla_callFunE hroom hf rfl rfl rfl rfl hcd ?_)
  rw [hbind]
  refine wpAny_pure (wpAny_newFunctionEnv (fun y hy => ?_) (fun y hy => ?_) (fun h₁ hns hsb => ⟨lim.fresh _ hsb, ?_⟩) rfl)
  · rw [List.mem_singleton.mp hy]; exact fun z => nomatch z
  · rw [List.mem_singleton.mp hy]
    show [(x, NameKind.local)].lookup x = _
    simp [List.lookup]
  show codeAny _ _ (.expr (.Subscript (.Name x p1) (.Constant (.int 0) j0 p2) p3) (PySem.W.envX q (lamScope x) s.heap.objs.size f (.ref c') cl)) _ _
  have kp : ∀ b o, s.heap.get? b = some o → h₁.get? b = some o := fun b o e => hsb.extBut b o (Nat.ne_of_lt (Heap.lt_size e)) (Heap.get?_push_of_some _ e)
  refine PySem.W.kla_codeExpr (Subscript_ (wpAny_Name (wpAny_loadName_local rfl ?_ hns (v := .ref a) ?_ (wpAny_Constant_int (item_tuple (ht.keeps kp) (by decide) (by decide) (j := 0) ?_ h0 ?_))) hdb))
  · show [(x, NameKind.local)].lookup x = _
    simp [List.lookup]
  · show ([(x, Value.ref a)].reverse).lookup x = _
    simp [List.lookup]
  · have : 0 < items.size := (Array.getElem?_eq_some_iff.mp h0).1
    unfold seqIndex?
    simp [this]
  · exact hQ _ _ kp
example (q : Str) (cl : List (Str × Addr)) (pm cv ctv v : Value) (an : Option Expr) (ap : Pos) (body : Expr) (sc : Scope) : bindArgs (PySem.W.kla_fn "<lambda>" q (lamArgs "each" an ap) body sc cl pm cv ctv) ⟨[v], []⟩ = pure [(("each" : Str), v)] := by rfl
end
section
variable {K : Fr} {g g' : G} {W : WX} {X : Cx} {H : Hp} {h : Sto} {σ : L2.St} {env : Env'} {e : Expr} {me : EM} {E : XK} {u : U} {v : V}
/-! ### the lambda is made -/
theorem obr_nt {a : Addr} : ∀ {o : O}, ObR K g H a o → ∃ u, H a = some u ∧ (∀ ps, u ≠ .tbl ps) ∧ ∀ φ, u ≠ .ext φ
  | .lst _, ⟨vs, h, r⟩ => ⟨_, h, (fun _ z => nomatch z), (fun _ z => nomatch z)⟩
  | .dK _, ⟨vs, h, r⟩ => ⟨_, h, (fun _ z => nomatch z), (fun _ z => nomatch z)⟩
  | .dT _, ⟨vs, h, r⟩ => ⟨_, h, (fun _ z => nomatch z), (fun _ z => nomatch z)⟩
  | .dKl _, ⟨od, vs, f, h, r⟩ => ⟨_, h, (fun _ z => nomatch z), (fun _ z => nomatch z)⟩
  | .ins _ _, ⟨dx, vs, h, r⟩ => ⟨_, h, (fun _ z => nomatch z), (fun _ z => nomatch z)⟩
  | .xd _, ⟨vs, h, r⟩ => ⟨_, h, (fun _ z => nomatch z), (fun _ z => nomatch z)⟩
abbrev tabsL (K : Fr) : List (Addr × Str) := lamDefs.map fun d => ((He.cT K d.1).2, d.2)
theorem tabs_of (hr : HR K g H h) : LamX.Tabs (tabsL K) H := fun p hp => by
  obtain ⟨d, hd, e⟩ := List.mem_map.mp hp
  subst e
  obtain ⟨_, _, ps, e1, e2, e3⟩ := hr.tb d hd
  exact ⟨ps, e1, e2, fun pos cv z => let ⟨c, a, b⟩ := e3 pos cv z; ⟨c, a, hr.ex _ _ b⟩⟩
/-- what the lambda's making leaves: the tables may have grown -/
theorem hr_lam {H1 : Hp} (hz : lamDefs ≠ []) (hr : HR K g H h) (eN : LamX.ExtN H H1) (T1 : LamX.Tabs (tabsL K) H1) : ∃ g', Le g g' ∧ HR K g' H1 h := by
  classical
  have up : ∀ b o, g.F b = some o → H1 b = some o := fun b o z => eN b o (hr.ex b o z) fun ps q => hr.nt hz b ps (z.trans (by rw [q]))
  have alx : ∀ b, b ∈ g.al → ∃ u, H b = some u ∧ H1 b = some u ∧ ∀ φ, u ≠ .ext φ := fun b hb => by
    obtain ⟨n, hn, e⟩ := List.mem_iff_getElem.mp hb
    have h1 : n < h.length := by rw [← hr.len]; exact hn
    obtain ⟨u, q1, q2, q3⟩ := obr_nt (hr.ob n b h[n] (by rw [List.getElem?_eq_getElem hn, e]) (List.getElem?_eq_getElem h1))
    exact ⟨u, q1, eN b u q1 q2, q3⟩
  let F' : Hp := fun b => match g.F b with
    | some o => some o
    | none => if b ∉ g.al ∧ ∃ q, H1 b = some (LamX.CodeO b q) then H1 b else none
  have fo : ∀ b o, g.F b = some o → F' b = some o := fun b o z => by
    show (match g.F b with | some o => some o | none => _) = some o
    rw [z]
  have fn : ∀ b, g.F b = none → F' b = if b ∉ g.al ∧ ∃ q, H1 b = some (LamX.CodeO b q) then H1 b else none := fun b z => by
    show (match g.F b with | some o => some o | none => _) = _
    rw [z]
  have fcase : ∀ b o, F' b = some o → g.F b = some o ∨ (g.F b = none ∧ b ∉ g.al ∧ H1 b = some o ∧ ∃ q, o = LamX.CodeO b q) := fun b o z => by
    cases q : g.F b with
    | some u => rw [fo b u q] at z; exact .inl z
    | none =>
      rw [fn b q] at z
      split at z
      · rename_i c
        obtain ⟨c1, q', c2⟩ := c
        exact .inr ⟨rfl, c1, z, q', Option.some.inj (z.symm.trans c2)⟩
      · cases z
  refine ⟨⟨g.al, F'⟩, ⟨⟨[], by simp⟩, fo⟩, ⟨fun b o z => ?_, hr.len, hr.nd, fun a m u z => ?_, fun n a o e1 e2 => ?_, fun d hd => ?_, fun _ a ps z => ?_⟩⟩
  · rcases fcase b o z with q | ⟨_, _, q, _⟩
    · exact up b o q
    · exact q
  · rcases fcase a u z with q | ⟨_, q, _, _⟩
    · exact hr.fr a m u q
    · exact absurd m q
  · have q := hr.ob n a o e1 e2
    obtain ⟨u, q1, q2, _⟩ := obr_nt q
    exact q.mono ⟨⟨[], by simp⟩, fo⟩ ((eN a u q1 q2).trans q1.symm)
  · obtain ⟨t1, t2, _⟩ := hr.tb d hd
    obtain ⟨ps, e1, e2, e3⟩ := T1 _ (List.mem_map_of_mem hd)
    refine ⟨?_, t2, ps, e1, e2, fun pos cv z => ?_⟩
    · show F' _ = none
      rw [fn _ t1]
      split
      · rename_i c
        obtain ⟨_, q', c2⟩ := c
        rw [e1] at c2
        exact absurd (Option.some.inj c2).symm (LamX.codeO_ne ps)
      · rfl
    · obtain ⟨c, e4, e5⟩ := e3 pos cv z
      refine ⟨c, e4, ?_⟩
      show F' c = _
      cases q : g.F c with
      | some u => exact (fo c u q).trans ((up c u q).symm.trans e5)
      | none =>
        have nm : c ∉ g.al := fun m => by
          obtain ⟨u, _, q2, q3⟩ := alx c m
          rw [e5] at q2
          exact q3 _ (Option.some.inj q2).symm
        exact (fn c q).trans ((if_pos ⟨nm, d.2, e5⟩).trans e5)
  · rcases fcase a _ z with q | ⟨_, _, _, q', q⟩
    · exact hr.nt hz a ps q
    · exact LamX.codeO_ne ps q.symm
/-! ### sorted(xs, key=lambda x: x[0]) -/
def kxU : U → Int
  | .tup (.tup [.int i, .int _] :: _) => i
  | _ => 0
def kyU : U → Int
  | .tup (.tup [.int _, .int j] :: _) => j
  | _ => 0
def keyedU : U → Bool
  | .tup (.tup [.int _, .int _] :: _) => true
  | _ => false
def leU (u v : U) : Bool := decide (kxU u < kxU v ∨ (kxU u = kxU v ∧ kyU u ≤ kyU v))
def uSortK (x : U) (h : Sto) : R U := match aL h x with
  | some us => if us.all keyedU = true ∧ us.length ≤ 16000000 then .ok (.ref h.length) (h ++ [.lst (us.mergeSort leU)]) else .bad
  | none => .bad
def mSortK (m : EM) : EM := fun env h => (m env h).bind uSortK
def encK (u : U) : PyData := .tuple [.int (kxU u), .int (kyU u)]
abbrev encP (p : V × U) : PyData := encK p.2
theorem dataLe_P : PySem.W.dataLe false encP = fun p q => leU p.2 q.2 := by
  have := PySem.W.dataLe_ii (fun p : V × U => kxU p.2) (fun p => kyU p.2)
  rw [show encP = fun p => .tuple [.int (kxU p.2), .int (kyU p.2)] from rfl, this]
  rfl
variable {pins : List (Addr × Obj)} {s : Shared}
theorem keyed_is {u : U} (k : keyedU u = true) : ∃ i j us, u = .tup (.tup [.int i, .int j] :: us) := by
  unfold keyedU at k
  split at k
  · exact ⟨_, _, _, rfl⟩
  · cases k
theorem key_item (I : Inv X pins σ H s) (hr : HR X.K g H h) {w : Value} (r : Rep X.K g v u) (rv : RelV v w) (k : keyedU u = true) : ∃ a items v0, w = .ref a ∧ IsTup s.heap a items ∧ items[0]? = some v0 ∧ Reads s.heap v0 (encK u) [] := by
  obtain ⟨i, j, us, rfl⟩ := keyed_is k
  cases r with
  | tup q rs =>
    cases rs with
    | cons r1 r2 =>
      cases r1 with
      | tup q1 rs1 =>
        cases rs1 with
        | cons ra rb =>
          cases rb with
          | cons rc rd =>
            cases ra; cases rc; cases rd
            obtain ⟨its, vs, t, _⟩ := I.tuple (hr.sqT q)
            obtain ⟨its1, vs1, ⟨o1, e1, c1, n1, d1⟩, _⟩ := I.tuple (hr.sqT q1)
            cases vs with
            | cons va vb =>
              cases rv
              cases va
              refine ⟨_, _, _, rfl, t, rfl, ?_⟩
              cases vs1 with
              | cons wa wb =>
                cases wb with
                | cons wc wd =>
                  cases wd
                  obtain ⟨t1, rfl⟩ := wa
                  obtain ⟨t2, rfl⟩ := wc
                  exact Reads.tuple e1 c1 d1 (.cons (.int _ _) (.cons (.int _ _) .nil))
theorem each_key (I : Inv X pins σ H s) (hr : HR X.K g H h) : ∀ {vs : List V} {us : List U} {ws : List Value}, Vals vs ws → Reps X.K g vs us → us.all keyedU = true → PySem.W.EachIs (fun w (p : V × U) => RelV p.1 w ∧ Rep X.K g p.1 p.2 ∧ keyedU p.2 = true) ws (vs.zip us)
  | [], [], _, r, _, _ => by cases r; exact .nil
  | v :: vs, u :: us, _, r, rs, k => by
    obtain ⟨k1, k2⟩ := Bool.and_eq_true_iff.mp (show (keyedU u && us.all keyedU) = true from k)
    cases r with
    | cons ra rb =>
      cases rs with
      | cons sa sb => exact .cons ⟨ra, sa, k1⟩ (each_key I hr rb sb k2)
theorem key_back : ∀ {bs : List (V × U)} {ws : List Value}, PySem.W.EachIs (fun w (p : V × U) => RelV p.1 w ∧ Rep K g p.1 p.2 ∧ keyedU p.2 = true) ws bs → Vals (bs.map Prod.fst) ws ∧ Reps K g (bs.map Prod.fst) (bs.map Prod.snd)
  | [], _, .nil => ⟨.nil, .nil⟩
  | _ :: _, _, .cons z r => ⟨.cons z.1 (key_back r).1, .cons z.2.1 (key_back r).2⟩
theorem se_sortK {d : (Str × Option Str) × Str} {x : Str} {an : Option Expr} {ap p0 p1 p2 p3 lpos kpos pos : Pos} {j0 : Nat} (B : BT X.K X.mg X.base) (hd : d ∈ lamDefs) (hcode : X.env.code = .ref (He.cT X.K d.1).1) (hq : X.env.qual ++ "<lambda>" = d.2)
    (hrm : Room 1 X.A) (hg : Gl X "sorted") (hm : X.mg "sorted" = none) (he : PE X e (tM X.K W me))
    (hbind : ∀ (q : Str) (cl : List (Str × Addr)) (pm cv ctv v : Value), bindArgs (PySem.W.kla_fn "<lambda>" q (lamArgs x an ap) (.Subscript (.Name x p1) (.Constant (.int 0) j0 p2) p3) (lamScope x) cl pm cv ctv) ⟨[v], []⟩ = pure [(x, v)] := by intros; rfl)
    (hx : (x == ("__debug__" : Str)) = false := by decide) (hs : starEach [e] X.env = [(false, eval e X.env)] := by rfl) (hv : bootBuiltins "sorted" = some (.builtin "sorted") := by decide +kernel) :
    PE X (.Call (.Name "sorted" p0) [e] [{ arg := some "key", value := .Lambda (lamArgs x an ap) (.Subscript (.Name x p1) (.Constant (.int 0) j0 p2) p3) (lamScope x) lpos, pos := kpos }] pos) (tM X.K W (mSortK me)) := by
  refine ⟨fun pins s σ H Q I t => ?_⟩
  obtain ⟨g, env, h, hr, er, w⟩ := t
  refine wpAny_Call_Name_kw (ld_blt I hg hm hv ?_ (by decide) (by decide))
  have e1 : backTo pos (starEach [e] X.env) = (false, eval e X.env) :: backTo pos (starEach [] X.env) := by rw [hs] <;> rfl
  refine PyProof.Rows.callWith_kw (e := e) (rest := []) ?_ e1 (by rw [hs] <;> rfl) (by rfl) (by rfl)
  rw [e1]
  refine Calls.spliced_cons (thn (he.run pins s σ H (fun v1 H1 => ∃ u1 h1 g1, Le g g1 ∧ HR X.K g1 H1 h1 ∧ Rep X.K g1 v1 u1 ∧ WE X.K (atSl W σ) g1 (uSortK u1 h1) Q) I ⟨g, env, h, hr, er, wE w fun u1 h1 v1 H1 g1 l1 hr1 r1 w1 => ⟨u1, h1, g1, l1, hr1, r1, w1⟩⟩) fun u s1 ⟨v1, H1, I1, rv1, q⟩ => ?_)
  obtain ⟨u1, h1, g1, l1, hr1, r1, w1⟩ := q
  refine Calls.spliced_nil ?_
  unfold uSortK at w1
  split at w1
  case h_2 => exact w1.elim
  rename_i us e2
  split at w1
  case isFalse => exact w1.elim
  rename_i hk
  have nq : ∀ p ∈ tabsL X.K, p.1 = (He.cT X.K d.1).2 → p.2 = X.env.qual ++ "<lambda>" := fun p hp z => by
    obtain ⟨d', hd', e3⟩ := List.mem_map.mp hp
    subst e3
    have z : (He.cT X.K d'.1).2 = (He.cT X.K d.1).2 := z
    have : d' = d := by
      have nd := B.nd
      obtain ⟨i, hi, ei⟩ := List.mem_iff_getElem.mp hd'
      obtain ⟨j, hj, ej⟩ := List.mem_iff_getElem.mp hd
      have hij : i = j := by
        exact nd_ix nd (x := (He.cT X.K d.1).2) (by simp [List.getElem?_eq_getElem hi, ei, z]) (by simp [List.getElem?_eq_getElem hj, ej])
      subst hij
      rw [← ei, ← ej]
    show d'.2 = _
    rw [this, hq]
  refine PyProof.Rows.kwAll_cons (LamX.lam_make2 (T := tabsL X.K) I1 (B.tb d hd) hcode (by rw [hq]; exact List.mem_map_of_mem hd) nq (tabs_of hr1) rfl (fun y hy q => by rw [List.mem_singleton.mp hy] at q; cases q) fun f c' pm ctv H2 s2 I2 eN T2 hf hfn hfr hco => PyProof.Rows.kwAll_nil ?_)
  obtain ⟨g2, l2, hr2⟩ := hr_lam (List.ne_nil_of_mem hd) hr1 eN T2
  have r2 := r1.mono l2
  obtain ⟨a, vs, rfl, hL, rs⟩ := aL_of hr2 r2 e2
  cases rv1
  obtain ⟨its, rvs, pl, hz⟩ := I2.list hL
  obtain ⟨⟨oc, ws, tq, hoc, hdc, hvc⟩, _, _⟩ := I2.hok c' _ hco
  have hlen : (vs.zip us).length = vs.length := by rw [List.length_zip, rs.len, Nat.min_self]
  refine PySem.W.sorted_key_data (β := V × U) (b := false) encP (vs := its) (bs := vs.zip us) (R := fun w (p : V × U) => RelV p.1 w ∧ Rep X.K g2 p.1 p.2 ∧ keyedU p.2 = true) pl.isList (each_key I2 hr2 rvs rs hk.1) (PySem.W.AllAlike.of fun b c => ?_) (PySem.W.Sortable.tuples fun b => ⟨_, _, rfl⟩) (by rw [hlen]; exact hz) (fun p _ => ?_)
    (ksk_s1 _ _) (fun x => ksk_l1 _ _) (fun x => ksk_t1 _ _) (fun w p hR _ hh tk kp => ?_) fun out c h' tk kp fresh hD hol eo => ?_
  · simp [encP, encK, PySem.W.alike, PySem.W.alikeAll]
  · have := hrm.un
    simp [encP, encK, PyData.depth, PyData.depthAll]
    omega
  · obtain ⟨hR1, hR2, hR3⟩ := hR
    obtain ⟨a0, items, v0, rfl, ht, h0, hrd⟩ := key_item I2 hr2 hR2 hR1 hR3
    exact lam_first (kp _ _ hf) ⟨c', oc, ws, tq, rfl, kp _ _ hoc, hdc, hvc⟩ (ht.keeps kp) h0 (hbind _ _ _ _ _ _) (I2.nolimit.keeps kp) (by have := hrm.dp; show X.A.depth < _; omega) hx fun h3 tk3 kp3 => ⟨h3, tk3, rfl, kp3, PyProof.Rows.Reads.keeps (fun b o z => kp3 _ _ (kp _ _ z)) hrd⟩
  · rw [dataLe_P] at eo
    obtain ⟨z1, z2⟩ := key_back eo
    have hsnd : ((vs.zip us).mergeSort fun p q => leU p.2 q.2).map Prod.snd = us.mergeSort leU := by
      rw [List.map_mergeSort (s := leU) (fun _ _ _ _ => rfl), List.map_snd_zip (by rw [rs.len]; exact Nat.le_refl _)]
    rw [hsnd] at z2
    have hlen2 : (((vs.zip us).mergeSort fun p q => leU p.2 q.2).map Prod.fst).length ≤ sizeLine := by rw [List.length_map, List.length_mergeSort, hlen]; exact hz
    have hp : H2 (s2.heap.objs.size + 1) = none := I2.hok.fresh (Nat.le_succ _)
    have J := I2.laid (a := s2.heap.objs.size + 1) (o := .lst (((vs.zip us).mergeSort fun p q => leU p.2 q.2).map Prod.fst)) (t' := tk) kp (Nat.le_succ _) ⟨hlen2, out, c, z1, hD⟩
    refine ⟨.ref _, _, J, rfl, ?_⟩
    refine w1 _ _ _ (l2.trans Le.new) (hr2.newLst hp z2) ?_
    exact hr2.newRef
def uSortKs : List U → Sto → R U
  | [x], h => uSortK x h
  | _, _ => .bad
theorem sortKs_eq : mCB uSortKs (aCons me aNil) = mSortK me := by
  funext env h
  unfold mCB aCons aNil mSortK
  cases me env h <;> rfl
theorem se_sortKs {d : (Str × Option Str) × Str} {x : Str} {an : Option Expr} {ap p0 p1 p2 p3 lpos kpos pos : Pos} {j0 : Nat} (B : BT X.K X.mg X.base) (hd : d ∈ lamDefs) (hcode : X.env.code = .ref (He.cT X.K d.1).1) (hq : X.env.qual ++ "<lambda>" = d.2)
    (hrm : Room 1 X.A) (hg : Gl X "sorted") (hm : X.mg "sorted" = none) (he : PE X e (tM X.K W me))
    (hbind : ∀ (q : Str) (cl : List (Str × Addr)) (pm cv ctv v : Value), bindArgs (PySem.W.kla_fn "<lambda>" q (lamArgs x an ap) (.Subscript (.Name x p1) (.Constant (.int 0) j0 p2) p3) (lamScope x) cl pm cv ctv) ⟨[v], []⟩ = pure [(x, v)] := by intros; rfl)
    (hx : (x == ("__debug__" : Str)) = false := by decide) (hs : starEach [e] X.env = [(false, eval e X.env)] := by rfl) (hv : bootBuiltins "sorted" = some (.builtin "sorted") := by decide +kernel) :
    PE X (.Call (.Name "sorted" p0) [e] [{ arg := some "key", value := .Lambda (lamArgs x an ap) (.Subscript (.Name x p1) (.Constant (.int 0) j0 p2) p3) (lamScope x) lpos, pos := kpos }] pos) (tM X.K W (mCB uSortKs (aCons me aNil))) := by
  rw [sortKs_eq]
  exact se_sortK B hd hcode hq hrm hg hm he hbind hx hs hv
end
section
variable {P : Program} {Wd : World} {K : Fr} {mg : Str → Option Value} {base : Heap}
/-- a def whose code object is asked for (it makes a lambda) -/
theorem fn_okL {x qual : Str} {st : Stmt} {f : Addr} {fd : FuncData} {N ps : List Str} {k : Nat} {body : SM} {a : Str × Option Str} (ef : f = He.fAd K a) (F : Fun K x qual st f fd) (S : FnScope N ps (defScope st))
    (hb : ∀ (cdv : Value) (hc : cdv = .ref (He.cT K a).1) (A : Around) (outer : List Env) (s : Shared) (H : Hp) (E : XK), Room k (A.deeper (envOfC qual (defScope st) s.heap.objs.size f cdv)) →
      Takes (cxOf (L2.CX P Wd) P Wd K mg base N qual (defScope st) f cdv A outer s H E) (WR E) →
      PassesOwn (model P Wd) (cxOf (L2.CX P Wd) P Wd K mg base N qual (defScope st) f cdv A outer s H E).A (cxOf (L2.CX P Wd) P Wd K mg base N qual (defScope st) f cdv A outer s H E).env (cxOf (L2.CX P Wd) P Wd K mg base N qual (defScope st) f cdv A outer s H E).xe →
      PSs (cxOf (L2.CX P Wd) P Wd K mg base N qual (defScope st) f cdv A outer s H E) (defBody st) (sM K (WR E) body)) : FnOk P Wd K mg base (L2.CX P Wd) (k + 1) f fd ps (spM K ps.length (fnM N.length body)) := by
  have ex := F.ex
  obtain ⟨oc, od, kV, doc, pm, an, cdv, ct, osl, efd, lk, hcd⟩ := ex
  obtain ⟨c, hc⟩ := He.codeIn_ref hcd
  have hcT : cdv = .ref (He.cT K a).1 := by
    have : He.codeOf K a = c := He.codeOf_eq (p := a) (c := c) (by rw [← ef]; exact lk) (by rw [efd]; exact hc)
    rw [hc, ← this]
    rfl
  subst efd
  refine fn_of lk hcd S (fun vs H Q E h => h.1) fun A outer s H vs Q E hr h => ⟨_, hb cdv hcT A outer s H E hr (takes_of rfl rfl rfl rfl) (passes_of rfl), ?_⟩
  obtain ⟨hl, g, us, h0, hr0, rv, w⟩ := h
  refine ⟨g, us.map some ++ List.replicate (N.length - us.length) none, h0, hr0, er_start rv, ?_⟩
  unfold fnM at w
  cases e : body (us.map some ++ List.replicate (N.length - us.length) none) h0 with
  | nx e1 h1 => rw [e] at w; exact fun σ H1 g1 l1 hr1 _ => w .non H1 g1 l1 hr1 .non
  | rt u h1 => rw [e] at w; exact w
  | bk e1 h1 => rw [e] at w; exact w.elim
  | ct e1 h1 => rw [e] at w; exact w.elim
  | ex C n e1 h1 => rw [e] at w; exact fun σ H1 g1 d l1 hr1 _ q => w H1 g1 d l1 hr1 q
  | bad => rw [e] at w; exact w.elim
end
end QH

set_option Elab.async false
set_option linter.all false
/-! PDef: pure meanings. The second layer: values without a store, owned things as trees. Nothing of the kit is used here. -/
namespace P
abbrev DK := Sum Int (List Nat)
/-- data that nobody changes any more -/
inductive D where
  | non | bl (b : Bool) | int (i : Int) | str (s : List Nat) | tup (ds : List D) | lst (ds : List D) | kl (ds : List D)
  | dK (kvs : List (DK × D)) | dT (kvs : List (List DK × D)) | ins (C : Nat) (fs : List (String × D)) | dKl (kvs : List (DK × D))
  deriving Inhabited, Repr
/-- what a slot holds: data, or a thing that only this slot knows (a tree of such things) -/
inductive T where
  | hole | leaf (d : D) | ls (ds : List D) | lT (ts : List T) | dK (kvs : List (DK × D)) | dT (kvs : List (List DK × D)) | is (C : Nat) (fs : List (String × T))
  deriving Inhabited, Repr
mutual
/-- the tree is nobody's any more -/
def T.fz : T → Option D
  | .hole => none
  | .leaf d => some d
  | .ls ds => some (.lst ds)
  | .lT ts => match T.fzs ts with
    | some ds => some (.lst ds)
    | none => none
  | .dK kvs => some (.dK kvs)
  | .dT kvs => some (.dT kvs)
  | .is C fs => match T.fzf fs with
    | some ds => some (.ins C ds)
    | none => none
def T.fzs : List T → Option (List D)
  | [] => some []
  | t :: ts => match T.fz t, T.fzs ts with
    | some d, some ds => some (d :: ds)
    | _, _ => none
def T.fzf : List (String × T) → Option (List (String × D))
  | [] => some []
  | (f, t) :: r => match T.fz t, T.fzf r with
    | some d, some ds => some ((f, d) :: ds)
    | _, _ => none
end
def leaves : List (String × T) → Option (List (String × D))
  | [] => some []
  | (f, .leaf d) :: r => (leaves r).map ((f, d) :: ·)
  | _ :: _ => none
/-- what a slot's thing looks like from above -/
def T.vw : T → Option D
  | .leaf d => some d
  | .ls ds => some (.lst ds)
  | .dK kvs => some (.dK kvs)
  | .dT kvs => some (.dT kvs)
  | .is C fs => (leaves fs).map (.ins C)
  | _ => none
mutual
/-- no list, dict or object in it -/
def D.flat : D → Bool
  | .tup ds => D.flats ds
  | .non => true
  | .bl _ => true
  | .int _ => true
  | .str _ => true
  | _ => false
def D.flats : List D → Bool
  | [] => true
  | d :: ds => d.flat && D.flats ds
end
mutual
def T.flat : T → Bool
  | .hole => true
  | .leaf d => d.flat
  | .ls ds => D.flats ds
  | .lT ts => T.flats ts
  | .dK kvs => D.flats (kvs.map (·.2))
  | .dT kvs => D.flats (kvs.map (·.2))
  | .is _ fs => T.flatf fs
def T.flats : List T → Bool
  | [] => true
  | t :: ts => t.flat && T.flats ts
def T.flatf : List (String × T) → Bool
  | [] => true
  | (_, t) :: r => t.flat && T.flatf r
end
/-! places -/
def ixN (n : Nat) (i : Int) : Option Nat := if 0 ≤ i then (if i < n then some i.toNat else none) else if -(n : Int) ≤ i then some (i + n).toNat else none
def atI {α : Type} (l : List α) (i : Int) : Option α := (ixN l.length i).bind fun k => l[k]?
def putF {α : Type} (f : String) (v : α) : List (String × α) → List (String × α)
  | [] => [(f, v)]
  | (g, x) :: r => if g = f then (g, v) :: r else (g, x) :: putF f v r
inductive Ac where
  | fld (Cs : List Nat) (f : String) | ix (i : Int)
def T.get1 : T → Ac → Option T
  | .lT ts, .ix i => atI ts i
  | .ls ds, .ix i => (atI ds i).map .leaf
  | .is C fs, .fld Cs f => if C ∈ Cs then fs.lookup f else none
  | .leaf (.ins C fs), .fld Cs f => if C ∈ Cs then (fs.lookup f).map .leaf else none
  | .leaf (.lst ds), .ix i => (atI ds i).map .leaf
  | .leaf (.tup ds), .ix i => (atI ds i).map .leaf
  | _, _ => none
def T.set1 : T → Ac → T → T
  | .lT ts, .ix i, s => match ixN ts.length i with
    | some k => .lT (ts.set k s)
    | none => .lT ts
  | .is C fs, .fld _ f, s => .is C (putF f s fs)
  | t, _, _ => t
def T.get : T → List Ac → Option T
  | t, [] => some t
  | t, a :: r => match t.get1 a with
    | some s => s.get r
    | none => none
def T.set : T → List Ac → T → T
  | _, [], s => s
  | t, a :: r, s => match t.get1 a with
    | some u => t.set1 a (u.set r s)
    | none => t
abbrev Env := List T
inductive PR (α : Type) where
  | ok (a : α) (e : Env)
  | exc (C : Nat) (x : Option (List (String × D))) (e : Env)
  | bad
  deriving Repr
inductive PRS where
  | nx (e : Env)
  | rt (t : T) (e : Env)
  | bk (e : Env)
  | ct (e : Env)
  | ex (C : Nat) (x : Option (List (String × D))) (e : Env)
  | bad
  deriving Repr
inductive PF where
  | ok (t : T) (ws : List T)
  | exc (C : Nat) (x : Option (List (String × D)))
  | bad
  deriving Repr
def PR.bind {α β : Type} (r : PR α) (f : α → Env → PR β) : PR β := match r with
  | .ok a e => f a e
  | .exc C x e => .exc C x e
  | .bad => .bad
def PR.st {α : Type} (r : PR α) (f : α → Env → PRS) : PRS := match r with
  | .ok a e => f a e
  | .exc C x e => .ex C x e
  | .bad => .bad
/-- only what ends well -/
def PR.no {α : Type} (r : PR α) : PR α := match r with
  | .ok a e => .ok a e
  | _ => .bad
def PRS.no (r : PRS) : PRS := match r with
  | .ex _ _ _ => .bad
  | r => r
abbrev PE := Env → PR D
abbrev PT := Env → PR T
abbrev PB := Env → PR Bool
abbrev PDs := Env → PR (List D)
abbrev PTs := Env → PR (List T)
abbrev PO := Env → PR (Option Int)
abbrev PS := Env → PRS
abbrev PSem := List T → PF
def oE {α : Type} (o : Option α) (e : Env) : PR α := match o with
  | some a => .ok a e
  | none => .bad
/-! ### expressions -/
def pVar (i : Nat) : PE := fun e => match e[i]? with
  | some (.leaf d) => .ok d e
  | _ => .bad
/-- the thing in the slot becomes data -/
def pFv (i : Nat) : PE := fun e => match e[i]? with
  | some t => (match t.fz with
    | some d => .ok d (e.set i (.leaf d))
    | none => .bad)
  | none => .bad
/-- it is only looked at -/
def pVw (i : Nat) : PE := fun e => match e[i]? with
  | some t => oE t.vw e
  | none => .bad
/-- it leaves the slot -/
def pMv (i : Nat) : PT := fun e => match e[i]? with
  | some .hole => .bad
  | some t => .ok t (e.set i .hole)
  | none => .bad
def pC (d : D) : PE := fun e => .ok d e
def pLf (a : PE) : PT := fun e => (a e).bind fun d e1 => .ok (.leaf d) e1
def pFz (a : PT) : PE := fun e => (a e).bind fun t e1 => oE t.fz e1
def pBin (g : D → D → Option D) (a b : PE) : PE := fun e => (a e).bind fun x e1 => (b e1).bind fun y e2 => oE (g x y) e2
def pUn (g : D → Option D) (a : PE) : PE := fun e => (a e).bind fun x e1 => oE (g x) e1
def cMul (i j : Int) : Prop := i.natAbs ≤ 9000000000000000000 ∨ j.natAbs ≤ 9000000000000000000
instance : ∀ i j, Decidable (cMul i j) := fun i j => by unfold cMul; exact inferInstance
def gSub : D → D → Option D
  | .int i, .int j => some (.int (i - j))
  | _, _ => none
def gMul : D → D → Option D
  | .int i, .int j => if cMul i j then some (.int (i * j)) else none
  | _, _ => none
def gDiv : D → D → Option D
  | .int i, .int j => if 0 < j ∧ j.natAbs < 1073741824 then some (.int (i / j)) else none
  | _, _ => none
def gMod : D → D → Option D
  | .int i, .int j => if 0 < j then some (.int (i % j)) else none
  | _, _ => none
def gPow : D → D → Option D
  | .int i, .int j => if 0 ≤ j ∧ j.natAbs ≤ 1000 ∧ 0 ≤ i ∧ i.natAbs < 1000 then some (.int (i ^ j.toNat)) else none
  | _, _ => none
def gNeg : D → Option D
  | .int i => some (.int (-i))
  | _ => none
def gNot : D → Option D
  | .bl b => some (.bl (!b))
  | _ => none
/-- the sum: numbers, texts, lists (a new one) -/
def tAdd : D → D → Option T
  | .int i, .int j => some (.leaf (.int (i + j)))
  | .str s, .str t => if s.length + t.length ≤ 16000000 then some (.leaf (.str (s ++ t))) else none
  | .lst s, .lst t => if s.length + t.length ≤ 16000000 then some (.ls (s ++ t)) else none
  | .tup s, .tup t => if s.length + t.length ≤ 16000000 then some (.leaf (.tup (s ++ t))) else none
  | _, _ => none
def pAdd (a b : PE) : PT := fun e => (a e).bind fun x e1 => (b e1).bind fun y e2 => oE (tAdd x y) e2
def pAnd (a b : PE) : PE := fun e => (a e).bind fun x e1 => match x with
  | .bl true => b e1
  | .bl false => .ok (.bl false) e1
  | _ => .bad
def pOr (a b : PE) : PE := fun e => (a e).bind fun x e1 => match x with
  | .bl false => b e1
  | .bl true => .ok (.bl true) e1
  | _ => .bad
def pIf (t : PB) (a b : PE) : PE := fun e => (t e).bind fun c e1 => if c = true then a e1 else b e1
def pIfT (t : PB) (a b : PT) : PT := fun e => (t e).bind fun c e1 => if c = true then a e1 else b e1
def dNil : PDs := fun e => .ok [] e
def dCons (a : PE) (r : PDs) : PDs := fun e => (a e).bind fun d e1 => (r e1).bind fun ds e2 => .ok (d :: ds) e2
def tNil : PTs := fun e => .ok [] e
def tCons (a : PT) (r : PTs) : PTs := fun e => (a e).bind fun d e1 => (r e1).bind fun ds e2 => .ok (d :: ds) e2
def pTup (am : PDs) : PE := fun e => (am e).bind fun ds e1 => if ds.length ≤ 16000000 then .ok (.tup ds) e1 else .bad
def pLst (am : PDs) : PT := fun e => (am e).bind fun ds e1 => if ds.length ≤ 16000000 then .ok (.ls ds) e1 else .bad
def pLsT (am : PTs) : PT := fun e => (am e).bind fun ds e1 => if ds.length ≤ 16000000 then .ok (.lT ds) e1 else .bad
def gIx : D → D → Option D
  | .kl ds, .int i => atI ds i
  | .str s, .int i => if s.length ≤ 16000000 then (atI s i).map fun c => .str [c] else none
  | .lst ds, .int i => atI ds i
  | .tup ds, .int i => atI ds i
  | _, _ => none
/-- a part of a list -/
def sIx (n d : Nat) : Option Int → Nat
  | none => d
  | some i => if i < 0 then (i + n).toNat else min i.toNat n
def cut {α : Type} (xs : List α) (lo hi : Option Int) : List α := (xs.drop (sIx xs.length 0 lo)).take (sIx xs.length xs.length hi - sIx xs.length 0 lo)
def oNo : PO := fun e => .ok none e
def oSo (a : PE) : PO := fun e => (a e).bind fun x e1 => match x with
  | .int i => .ok (some i) e1
  | _ => .bad
def tSl : D → Option Int → Option Int → Option T
  | .str s, lo, hi => if s.length ≤ 16000000 then some (.leaf (.str (cut s lo hi))) else none
  | .tup us, lo, hi => some (.leaf (.tup (cut us lo hi)))
  | .lst us, lo, hi => some (.ls (cut us lo hi))
  | _, _, _ => none
def pSl (a : PE) (lo hi : PO) : PT := fun e => (a e).bind fun x e1 => (lo e1).bind fun l e2 => (hi e2).bind fun u e3 => oE (tSl x l u) e3
def gFld (Cs : List Nat) (f : String) : D → Option D
  | .ins C fs => if C ∈ Cs then fs.lookup f else none
  | _ => none
/-- calls of built-ins on data -/
def pCB (g : List D → Option D) (am : PDs) : PE := fun e => (am e).bind fun ds e1 => oE (g ds) e1
def pCT (g : List D → Option T) (am : PDs) : PT := fun e => (am e).bind fun ds e1 => oE (g ds) e1
def gLen : List D → Option D
  | [.kl ds] => some (.int ds.length)
  | [.str s] => if s.length ≤ 16000000 then some (.int s.length) else none
  | [.lst ds] => some (.int ds.length)
  | [.tup ds] => some (.int ds.length)
  | _ => none
def gInt : List D → Option D
  | [.int i] => some (.int i)
  | [.bl b] => some (.int (if b then 1 else 0))
  | _ => none
def gList : List D → Option T
  | [.kl ds] => some (.ls ds)
  | [.lst ds] => some (.ls ds)
  | [.tup ds] => some (.ls ds)
  | _ => none
def gTuple : List D → Option D
  | [.lst ds] => some (.tup ds)
  | [.tup ds] => some (.tup ds)
  | _ => none
def gMin : List D → Option D
  | [.int i, .int j] => some (.int (if j < i then j else i))
  | _ => none
def gMax : List D → Option D
  | [.int i, .int j] => some (.int (if j > i then j else i))
  | _ => none
def gAbs : List D → Option D
  | [.int i] => some (.int (if i < 0 then -i else i))
  | _ => none
def strL : List D → Option (List (List Nat))
  | [] => some []
  | .str s :: r => match strL r with
    | some ss => some (s :: ss)
    | none => none
  | _ :: _ => none
def joinL (s : List Nat) : List (List Nat) → List Nat
  | [] => []
  | [x] => x
  | x :: y :: r => x ++ (s ++ joinL s (y :: r))
def gJoin (s : List Nat) : D → Option D
  | .lst ds => (strL ds).bind fun ss => if (ss.map List.length).sum + ss.length * s.length ≤ 16000000 then some (.str (joinL s ss)) else none
  | .tup ds => (strL ds).bind fun ss => if (ss.map List.length).sum + ss.length * s.length ≤ 16000000 then some (.str (joinL s ss)) else none
  | _ => none
/-- a text's method of one argument -/
def pSM1 (g : List Nat → D → Option D) (a b : PE) : PE := fun e => (a e).bind fun x e1 => match x with
  | .str s => (b e1).bind fun y e2 => oE (g s y) e2
  | _ => .bad
/-! ### tests -/
mutual
def D.eq : D → D → Bool
  | .non, .non => true
  | .bl a, .bl b => a == b
  | .bl a, .int j => (if a then 1 else 0) == j
  | .int i, .bl b => i == (if b then 1 else 0)
  | .int i, .int j => i == j
  | .str x, .str y => x == y
  | .lst xs, .lst ys => D.eqs xs ys
  | .tup xs, .tup ys => D.eqs xs ys
  | _, _ => false
def D.eqs : List D → List D → Bool
  | [], [] => true
  | x :: xs, y :: ys => D.eq x y && D.eqs xs ys
  | [], _ :: _ => false
  | _ :: _, [] => false
end
mutual
/-- nested at most so deep, no dict, no object -/
def D.ok : Nat → D → Bool
  | _, .non => true
  | _, .bl _ => true
  | _, .int _ => true
  | _, .str s => s.all (· < 1114112)
  | 0, _ => false
  | n + 1, .tup ds => D.oks n ds
  | n + 1, .lst ds => D.oks n ds
  | _, _ => false
def D.oks : Nat → List D → Bool
  | _, [] => true
  | n, d :: ds => D.ok n d && D.oks n ds
end
def atom : D → Bool
  | .non => true
  | .bl _ => true
  | .int _ => true
  | .str _ => true
  | _ => false
/-- a number beside a truth -/
def mixed : D → D → Bool
  | .bl _, .int _ => true
  | .int _, .bl _ => true
  | _, _ => false
def cEq (x y : D) : Option Bool := if (atom x && atom y && !mixed x y) || (D.ok 50 x && D.ok 50 y) then some (D.eq x y) else none
def cNe (x y : D) : Option Bool := (cEq x y).map not
def cI (p : Int → Int → Bool) : D → D → Option Bool
  | .int i, .int j => some (p i j)
  | _, _ => none
abbrev cLt := cI fun i j => decide (i < j)
abbrev cLe := cI fun i j => decide (i ≤ j)
abbrev cGt := cI fun i j => decide (j < i)
abbrev cGe := cI fun i j => decide (j ≤ i)
def cIs : D → D → Option Bool
  | .non, .non => some true
  | _, .non => some false
  | _, _ => none
def cIsN (x y : D) : Option Bool := (cIs x y).map not
def cIn0 (x : D) (ds : List D) : Option Bool := if (atom x && ds.all atom) || (D.ok 50 x && D.oks 49 ds) then some (ds.any fun y => D.eq y x) else none
def keyOf : D → Option DK
  | .int i => some (.inl i)
  | .str s => some (.inr s)
  | _ => none
def keysOf : List D → Option (List DK)
  | [] => some []
  | d :: ds => match keyOf d, keysOf ds with
    | some k, some ks => some (k :: ks)
    | _, _ => none
def cIn : D → D → Option Bool
  | x, .lst ds => cIn0 x ds
  | x, .tup ds => if (atom x && ds.all atom) then some (ds.any fun y => D.eq y x) else none
  | _, _ => none
def cNin (x y : D) : Option Bool := (cIn x y).map not
def tCmp (f : D → D → Option Bool) (a b : PE) : PB := fun e => (a e).bind fun x e1 => (b e1).bind fun y e2 => oE (f x y) e2
def pB (t : PB) : PE := fun e => (t e).bind fun b e1 => .ok (.bl b) e1
def tAnd (a b : PB) : PB := fun e => (a e).bind fun c e1 => if c = true then b e1 else .ok false e1
def tOr (a b : PB) : PB := fun e => (a e).bind fun c e1 => if c = true then .ok true e1 else b e1
def tNot (a : PB) : PB := fun e => (a e).bind fun c e1 => .ok (!c) e1
def truD : D → Option Bool
  | .non => some false
  | .bl b => some b
  | .int i => some (i != 0)
  | .str s => if s.length ≤ 16000000 then some (!s.isEmpty) else none
  | .tup us => some (!us.isEmpty)
  | .lst us => some (!us.isEmpty)
  | .dK us => some (!us.isEmpty)
  | _ => none
def tTru (a : PE) : PB := fun e => (a e).bind fun x e1 => oE (truD x) e1
def tYes : PB := fun e => .ok true e
inductive Ty where
  | bool | int | str | tuple | list | dict
def isD (T : Ty) : D → Option Bool
  | .non => some false
  | .bl _ => some (match T with | .bool => true | .int => true | _ => false)
  | .int _ => some (match T with | .int => true | _ => false)
  | .str _ => some (match T with | .str => true | _ => false)
  | .tup _ => some (match T with | .tuple => true | _ => false)
  | .lst _ => some (match T with | .list => true | _ => false)
  | .kl _ => some (match T with | .list => true | _ => false)
  | .dK _ => some (match T with | .dict => true | _ => false)
  | .dT _ => some (match T with | .dict => true | _ => false)
  | .ins _ _ => none
  | .dKl _ => none
def tIs (T : Ty) (a : PE) : PB := fun e => (a e).bind fun x e1 => oE (isD T x) e1
def tIs2 (T S : Ty) (a : PE) : PB := fun e => (a e).bind fun x e1 => oE ((isD T x).bind fun b => (isD S x).map fun c => b || c) e1
/-! ### paths -/
inductive Pth where
  | var (i : Nat) | fld (p : Pth) (Cs : List Nat) (f : String) | ix (p : Pth) (a : PE)
def Pth.root : Pth → Nat
  | .var i => i
  | .fld p _ _ => p.root
  | .ix p _ => p.root
def Pth.isVar : Pth → Bool
  | .var _ => true
  | _ => false
def getP (i : Nat) (r : List Ac) (e : Env) : Option T := match e[i]? with
  | some t => t.get r
  | none => none
def setP (i : Nat) (r : List Ac) (s : T) (e : Env) : Env := match e[i]? with
  | some t => e.set i (t.set r s)
  | none => e
/-- the path leads somewhere -/
def atP (i : Nat) (r : List Ac) (e : Env) : PR (List Ac) := match getP i r e with
  | some .hole => .bad
  | some _ => .ok r e
  | none => .bad
def Pth.ev : Pth → Env → PR (List Ac)
  | .var i, e => atP i [] e
  | .fld p Cs f, e => (p.ev e).bind fun r e1 => atP p.root (r ++ [.fld Cs f]) e1
  | .ix p a, e => (p.ev e).bind fun r e1 => (a e1).bind fun x e2 => match x with
    | .int i => atP p.root (r ++ [.ix i]) e2
    | _ => .bad
/-- what stands at a path, to be kept -/
def pRd (p : Pth) : PE := fun e => (p.ev e).bind fun r e1 => match getP p.root r e1 with
  | some (.leaf d) => .ok d e1
  | some t => (match t.fz with
    | some d => .ok d (setP p.root r (.leaf d) e1)
    | none => .bad)
  | none => .bad
/-- .. to be looked at -/
def pVp (p : Pth) : PE := fun e => (p.ev e).bind fun r e1 => match getP p.root r e1 with
  | some t => oE t.vw e1
  | none => .bad
/-- a change of the list at a path, behind values -/
def pUpd (p : Pth) (a : PDs) (g : T → List D → Option (D × T)) : PE := fun e => (p.ev e).bind fun r e1 => match getP p.root r e1 with
  | some (.ls _) => (a e1).bind fun ds e2 => (match getP p.root r e2 with
    | some t => (match g t ds with
      | some (d, s) => .ok d (setP p.root r s e2)
      | none => .bad)
    | none => .bad)
  | _ => .bad
def uApp : T → List D → Option (D × T)
  | .ls xs, [d] => if xs.length < 16000000 then some (.non, .ls (xs ++ [d])) else none
  | _, _ => none
def uExt : T → List D → Option (D × T)
  | .ls xs, [.lst ys] => if xs.length + ys.length ≤ 16000000 then some (.non, .ls (xs ++ ys)) else none
  | _, _ => none
/-! ### calls -/
def callR (r : PF) (e : Env) : PR T := match r with
  | .ok t _ => .ok t e
  | .exc C x => .exc C x e
  | .bad => .bad
def pCall (n : Nat) (sem : PSem) (am : PDs) : PT := fun e => (am e).bind fun ds e1 => if ds.length = n then callR (sem (ds.map .leaf)) e1 else .bad
def insT (k : Nat) (s : T) (ds : List D) : List T := (ds.take k).map .leaf ++ s :: (ds.drop k).map .leaf
/-- the argument at place k is the slot i, which the call may change -/
def pCallV (n k i : Nat) (sem : PSem) (am : PDs) : PT := fun e => match e[i]? with
  | some .hole => .bad
  | none => .bad
  | some _ => (am e).bind fun ds e1 => match e1[i]? with
    | some s => (if ds.length + 1 = n ∧ k ≤ ds.length then (match sem (insT k s ds) with
      | .ok t [w] => .ok t (e1.set i w)
      | .exc C x => .exc C x (e1.set i .hole)
      | _ => .bad) else .bad)
    | none => .bad
/-- .. which is only looked at during the call -/
def pCallB (n k i : Nat) (sem : PSem) (am : PDs) : PT := fun e => match e[i]? with
  | some .hole => .bad
  | none => .bad
  | some _ => (am e).bind fun ds e1 => match e1[i]? with
    | some s => (match s.fz with
      | some d => (if ds.length + 1 = n ∧ k ≤ ds.length then (match sem (insT k (.leaf d) ds) with
        | .ok t _ => if t.flat = true then .ok t e1 else .bad
        | .exc C none => .exc C none e1
        | _ => .bad) else .bad)
      | none => .bad)
    | none => .bad
/-- a method of the object at a path, which it may change -/
def pMeth (C : Nat) (m : String) (n : Nat) (sem : PSem) (p : Pth) (am : PDs) : PT := fun e => (p.ev e).bind fun r e1 => match getP p.root r e1 with
  | some (.is C1 fs) => (if C1 = C ∧ fs.lookup m = none then (am e1).bind fun ds e2 => (match getP p.root r e2 with
    | some (.is C2 fs2) => (if ds.length + 1 = n then (match sem (.is C2 fs2 :: ds.map .leaf) with
      | .ok t [w] => .ok t (setP p.root r w e2)
      | .exc C x => .exc C x (setP p.root r .hole e2)
      | _ => .bad) else .bad)
    | _ => .bad) else .bad)
  | _ => .bad
/-- .. which is only looked at -/
def pMethB (C : Nat) (m : String) (n : Nat) (sem : PSem) (p : Pth) (am : PDs) : PT := fun e => (p.ev e).bind fun r e1 => match getP p.root r e1 with
  | some (.is C1 fs) => (if C1 = C ∧ fs.lookup m = none then (am e1).bind fun ds e2 => (match getP p.root r e2 with
    | some (.is C2 fs2) => (match (T.is C2 fs2).fz with
      | some d => (if ds.length + 1 = n then (match sem (.leaf d :: ds.map .leaf) with
        | .ok t _ => if t.flat = true then .ok t e2 else .bad
        | .exc C none => .exc C none e2
        | _ => .bad) else .bad)
      | none => .bad)
    | _ => .bad) else .bad)
  | _ => .bad
/-- a method of an object that is data -/
def pMethD (C : Nat) (m : String) (n : Nat) (sem : PSem) (o : PE) (am : PDs) : PT := fun e => (o e).bind fun x e1 => match x with
  | .ins C1 fs => (if C1 = C ∧ fs.lookup m = none then (am e1).bind fun ds e2 => (if ds.length + 1 = n then callR (sem (.leaf (.ins C1 fs) :: ds.map .leaf)) e2 else .bad) else .bad)
  | _ => .bad
/-- a new object -/
def pMake (C n : Nat) (sem : PSem) (am : PDs) : PT := fun e => (am e).bind fun ds e1 => if ds.length + 1 = n then (match sem (.is C [] :: ds.map .leaf) with
  | .ok (.leaf .non) [w] => .ok w e1
  | _ => .bad) else .bad
/-! ### statements -/
def sNx : PS := fun e => .nx e
def sSeq (a b : PS) : PS := fun e => match a e with
  | .nx e1 => b e1
  | r => r
def sAsg (i : Nat) (a : PT) : PS := fun e => (a e).st fun t e1 => .nx (e1.set i t)
def setA : Env → List Nat → List D → Env
  | e, i :: is, d :: ds => setA (e.set i (.leaf d)) is ds
  | e, _, _ => e
/-- targets -/
inductive CT where
  | one (i : Nat) | tup (is : List Nat) | lst (is : List Nat) | nst (i : Nat) (is : List Nat) | nsl (is : List Nat) (i : Nat)
def CT.ix : CT → List Nat
  | .one i => [i]
  | .tup is => is
  | .lst is => is
  | .nst i is => i :: is
  | .nsl is i => i :: is
def CT.asg (c : CT) (d : D) (e : Env) : Option Env := match c, d with
  | .one i, d => some (e.set i (.leaf d))
  | .tup is, .tup ds => if ds.length = is.length then some (setA e is ds) else none
  | .lst is, .lst ds => if ds.length = is.length then some (setA e is ds) else none
  | .nst i is, .tup [x, .tup ds] => if ds.length = is.length then some (setA (e.set i (.leaf x)) is ds) else none
  | .nsl is i, .tup [.tup ds, x] => if ds.length = is.length then some ((setA e is ds).set i (.leaf x)) else none
  | _, _ => none
def sUnp (c : CT) (a : PE) : PS := fun e => (a e).st fun d e1 => match c.asg d e1 with
  | some e2 => .nx e2
  | none => .bad
def sRet (a : PT) : PS := fun e => (a e).st fun t e1 => .rt t e1
def sRetN : PS := fun e => .rt (.leaf .non) e
def sDrop (a : PT) : PS := fun e => (a e).st fun _ e1 => .nx e1
def sIf (t : PB) (a b : PS) : PS := fun e => (t e).st fun c e1 => if c = true then a e1 else b e1
def sBrk : PS := fun e => .bk e
def sCnt : PS := fun e => .ct e
/-- names that are not read any more -/
def kill : List Nat → Env → Env
  | [], e => e
  | i :: is, e => kill is (e.set i .hole)
def forL (K : List Nat) (c : CT) (b : PS) : List D → Env → PRS
  | [], e => .nx (kill K e)
  | d :: ds, e => match c.asg d (kill K e) with
    | some e1 => (match b e1 with
      | .nx e2 => forL K c b ds e2
      | .ct e2 => forL K c b ds e2
      | .bk e2 => .nx (kill K e2)
      | r => r)
    | none => .bad
def sFor (K : List Nat) (it : PDs) (c : CT) (b : PS) : PS := fun e => (it e).st fun ds e1 => forL K c b ds e1
def whL (K : List Nat) (t : PB) (b : PS) : Nat → Env → PRS
  | 0, _ => .bad
  | n + 1, e => (t (kill K e)).st fun c e1 => if c = true then (match b e1 with
      | .nx e2 => whL K t b n e2
      | .ct e2 => whL K t b n e2
      | .bk e2 => .nx (kill K e2)
      | r => r) else .nx e1
def sWhile (K : List Nat) (n : Nat) (t : PB) (b : PS) : PS := fun e => whL K t b n e
/-! iteration -/
def rng (lo : Int) (n : Nat) : List D := (List.range n).map fun i => .int (lo + (i : Nat))
/-- what is walked, out of arguments -/
def iOp (g : List D → Option (List D)) (am : PDs) : PDs := fun e => (am e).bind fun ds e1 => oE (g ds) e1
def gR1 : List D → Option (List D)
  | [.int j] => if j.natAbs ≤ 1000000000 then some (rng 0 j.toNat) else none
  | _ => none
def gR2 : List D → Option (List D)
  | [.int i, .int j] => if i.natAbs ≤ 1000000000 ∧ j.natAbs ≤ 1000000000 then some (rng i (j - i).toNat) else none
  | _ => none
abbrev iR1 := iOp gR1
abbrev iR2 := iOp gR2
def seqD : D → Option (List D)
  | .kl ds => some ds
  | .str s => some (s.map fun c => .str [c])
  | .lst ds => some ds
  | .tup ds => some ds
  | _ => none
def iE (a : PE) : PDs := fun e => (a e).bind fun x e1 => oE (seqD x) e1
def pairs (xs ys : List D) : List D := (xs.zip ys).map fun p => .tup [p.1, p.2]
def sqD : D → Option (List D)
  | .lst ds => some ds
  | .tup ds => some ds
  | .kl ds => some ds
  | _ => none
def gZ : List D → Option (List D)
  | [x, y] => (match sqD x, sqD y with
    | some us, some ts => some (pairs us ts)
    | _, _ => none)
  | _ => none
def gN : List D → Option (List D)
  | [.lst us] => some (pairs (rng 0 us.length) us)
  | _ => none
abbrev iZ := iOp gZ
abbrev iN := iOp gN
/-- comprehensions -/
def lcL (c : CT) (t : PB) (a : PE) (vs : List Nat) : List D → List D → Env → PR (List D)
  | [], acc, e => .ok acc e
  | d :: ds, acc, e => match c.asg d (kill vs e) with
    | some e1 => (t e1).no.bind fun b e2 => if b = true then (a e2).no.bind fun y e3 => if acc.length < 16000000 then lcL c t a vs ds (acc ++ [y]) e3 else .bad else lcL c t a vs ds acc e2
    | none => .bad
def pLc (it : PDs) (c : CT) (t : PB) (a : PE) (vs : List Nat) : PT := fun e => (it e).bind fun ds e1 => (lcL c t a vs ds [] e1).bind fun r e2 => .ok (.ls r) (kill vs e2)
/-- .. whose items are trees -/
def lcT (c : CT) (a : PT) (vs : List Nat) : List D → List T → Env → PR (List T)
  | [], acc, e => .ok acc e
  | d :: ds, acc, e => match c.asg d (kill vs e) with
    | some e1 => (a e1).no.bind fun y e3 => if acc.length < 16000000 then lcT c a vs ds (acc ++ [y]) e3 else .bad
    | none => .bad
def pLcT (it : PDs) (c : CT) (a : PT) (vs : List Nat) : PT := fun e => (it e).bind fun ds e1 => (lcT c a vs ds [] e1).bind fun r e2 => .ok (.lT r) (kill vs e2)
/-! stores -/
def sSetI (p : Pth) (i a : PE) : PS := fun e => (a e).st fun d e1 => (p.ev e1).st fun r e2 => (i e2).st fun x e3 => match x, getP p.root r e3 with
  | .int k, some (.ls ds) => (match ixN ds.length k with
    | some j => .nx (setP p.root r (.ls (ds.set j d)) e3)
    | none => .bad)
  | _, _ => .bad
def sAug (g : D → D → Option D) (i : Nat) (a : PE) : PS := fun e => match e[i]? with
  | some (.leaf x) => (a e).st fun y e1 => (match g x y with
    | some z => .nx (e1.set i (.leaf z))
    | none => .bad)
  | _ => .bad
def gIAdd : D → D → Option D
  | .int i, .int j => some (.int (i + j))
  | .str s, .str t => if s.length + t.length ≤ 16000000 then some (.str (s ++ t)) else none
  | _, _ => none
def sAugI (g : D → D → Option D) (p : Pth) (i a : PE) : PS := fun e => (p.ev e).st fun r e1 => (i e1).st fun x e2 => match x, getP p.root r e2 with
  | .int k, some (.ls ds) => (match atI ds k with
    | some z => (a e2).st fun y e3 => (match g z y, getP p.root r e3 with
      | some w, some (.ls ds2) => (match ixN ds2.length k with
        | some j => .nx (setP p.root r (.ls (ds2.set j w)) e3)
        | none => .bad)
      | _, _ => .bad)
    | none => .bad)
  | _, _ => .bad
def sSetF (Cs : List Nat) (f : String) (p : Pth) (a : PT) : PS := fun e => (a e).st fun t e1 => (p.ev e1).st fun r e2 => match getP p.root r e2 with
  | some (.is C fs) => if C ∈ Cs ∧ fs.length < 1000 then .nx (setP p.root r (.is C (putF f t fs)) e2) else .bad
  | _ => .bad
def sAugF (Cs : List Nat) (g : D → D → Option D) (f : String) (p : Pth) (a : PE) : PS := fun e => (p.ev e).st fun r e1 => match getP p.root r e1 with
  | some (.is C fs) => if C ∈ Cs then (match fs.lookup f with
    | some (.leaf z) => (a e1).st fun y e3 => (match g z y, getP p.root r e3 with
      | some w, some (.is C2 fs2) => if C2 = C ∧ fs2.length < 1000 then .nx (setP p.root r (.is C2 (putF f (.leaf w) fs2)) e3) else .bad
      | _, _ => .bad)
    | _ => .bad) else .bad
  | _ => .bad
/-! exceptions -/
def sRaise (C : Nat) : PS := fun e => .ex C none e
def sTry (ys : List Nat) (b s : PS) : PS := fun e => match b e with
  | .ex C _ e1 => if C ∈ ys then (s e1).no else .bad
  | r => r
/-! ### defs -/
def pick {α : Type} : List Bool → List α → List α
  | true :: m, a :: l => a :: pick m l
  | false :: m, _ :: l => pick m l
  | _, _ => []
def pFn (n : Nat) (mask : List Bool) (body : PS) : PSem := fun ts => if mask.length ≤ ts.length then (match body (ts ++ List.replicate (n - ts.length) .hole) with
  | .nx e => .ok (.leaf .non) (pick mask e)
  | .rt t e => .ok t (pick mask e)
  | .ex C x _ => .exc C x
  | _ => .bad) else .bad
/-! ### dicts whose keys are numbers and texts -/
def valK : List (DK × D) → DK → Option D
  | [], _ => none
  | (j, x) :: r, k => if j = k then some x else valK r k
def repK : List (DK × D) → DK → D → List (DK × D)
  | [], _, _ => []
  | (j, x) :: r, k, v => (if j = k then (j, v) else (j, x)) :: repK r k v
def putK (kvs : List (DK × D)) (k : DK) (v : D) : List (DK × D) := if (valK kvs k).isSome = true then repK kvs k v else kvs ++ [(k, v)]
def gDGet : D → D → Option D
  | .dK kvs, y => (keyOf y).bind fun k => valK kvs k
  | .dKl kvs, y => (keyOf y).bind fun k => valK kvs k
  | _, _ => none
def cDIn : D → D → Option Bool
  | y, .dK kvs => (keyOf y).map fun k => (valK kvs k).isSome
  | y, .dKl kvs => (keyOf y).map fun k => (valK kvs k).isSome
  | _, _ => none
def cDNin (y x : D) : Option Bool := (cDIn y x).map not
def gDLen : List D → Option D
  | [.dK kvs] => some (.int kvs.length)
  | [.dKl kvs] => some (.int kvs.length)
  | _ => none
def gDCopy : List D → Option T
  | [.dK kvs] => some (.dK kvs)
  | [.dKl kvs] => some (.dK kvs)
  | _ => none
def pDNew : PT := fun e => .ok (.dK []) e
def sSetK (p : Pth) (i a : PE) : PS := fun e => (a e).st fun d e1 => (p.ev e1).st fun r e2 => (i e2).st fun x e3 => match keyOf x, getP p.root r e3 with
  | some k, some (.dK ds) => if ds.length < 16000000 then .nx (setP p.root r (.dK (putK ds k d)) e3) else .bad
  | _, _ => .bad
def pairsK : List D → Option (List (DK × D))
  | [] => some []
  | k :: v :: r => (match keyOf k, pairsK r with
    | some k, some kvs => some ((k, v) :: kvs)
    | _, _ => none)
  | _ => none
def mergeP (kvs more : List (DK × D)) : List (DK × D) := more.foldl (fun acc kv => putK acc kv.1 kv.2) kvs
/-- a display: keys and values in turn -/
def pDisp (am : PDs) : PT := fun e => (am e).bind fun ds e1 => match pairsK ds with
  | some kvs => if kvs.length ≤ 15 then .ok (.dK (mergeP [] kvs)) e1 else .bad
  | none => .bad
def dkD : DK → D
  | .inl i => .int i
  | .inr s => .str s
/-- a walk over the keys of the dict in a slot, which nobody changes any more -/
def iKv (i : Nat) : PDs := fun e => match e[i]? with
  | some (.dK kvs) => .ok (kvs.map fun p => dkD p.1) (e.set i (.leaf (.dKl kvs)))
  | some (.leaf (.dKl kvs)) => .ok (kvs.map fun p => dkD p.1) e
  | _ => .bad
/-! ### more built-ins -/
def intsD : List D → Option (List Int)
  | [] => some []
  | .int i :: r => (intsD r).map (i :: ·)
  | _ :: _ => none
def blsD : List D → Option (List Bool)
  | [] => some []
  | .bl i :: r => (blsD r).map (i :: ·)
  | _ :: _ => none
/-- a function of the numbers of a list -/
def gLI (f : List Int → Option Int) : List D → Option D
  | [.lst ds] => (intsD ds).bind fun ns => (f ns).map .int
  | [.kl ds] => (intsD ds).bind fun ns => (f ns).map .int
  | _ => none
def gLB (f : List Bool → Bool) : List D → Option D
  | [.lst ds] => (blsD ds).map fun bs => .bl (f bs)
  | _ => none
def maxL : List Int → Option Int
  | [] => none
  | i :: r => some (r.foldl (fun a b => if b > a then b else a) i)
def minL : List Int → Option Int
  | [] => none
  | i :: r => some (r.foldl (fun a b => if b < a then b else a) i)
abbrev gSum := gLI fun ns => some ns.sum
abbrev gMax1 := gLI maxL
abbrev gMin1 := gLI minL
abbrev gAny := gLB fun bs => bs.any id
abbrev gAll := gLB fun bs => bs.all id
def insI (i : Int) : List Int → List Int
  | [] => [i]
  | j :: r => if i ≤ j then i :: j :: r else j :: insI i r
def sortI (ns : List Int) : List Int := ns.foldr insI []
def gSortI : List D → Option T
  | [.lst ds] => (intsD ds).map fun ns => .ls ((sortI ns).map .int)
  | [.kl ds] => (intsD ds).map fun ns => .ls ((sortI ns).map .int)
  | _ => none
/-! ### texts, places, chains -/
def gOrd : List D → Option D
  | [.str [c]] => some (.int c)
  | _ => none
def pChain (f f' : D → D → Option Bool) (a b c : PE) : PE := fun e => (a e).bind fun x e1 => (b e1).bind fun y e2 => (oE (f x y) e2).bind fun k e3 => if k = true then (c e3).bind fun z e4 => (oE (f' y z) e4).bind fun k e5 => .ok (.bl k) e5 else .ok (.bl false) e3
def gMulS : D → D → Option D
  | .str s, .int k => if s.length * k.toNat ≤ 16000000 ∧ k.natAbs ≤ 1000000000 then some (.str (List.replicate k.toNat s).flatten) else none
  | _, _ => none
/-- a sign in a text -/
def cInS : D → D → Option Bool
  | .str [c], .str z => some (decide (c ∈ z))
  | _, _ => none
def cNinS (x y : D) : Option Bool := (cInS x y).map not
/-- the first place of a sign in a text -/
def gIndexS (s : List Nat) : D → Option D
  | .str [c] => (s.findIdx? (· == c)).map fun (i : Nat) => D.int i
  | _ => none
/-- .. of a plain value in a list -/
def gIndexL : D → D → Option D
  | .lst ds, y => if ds.all atom = true ∧ atom y = true then (ds.findIdx? fun z => D.eq z y).map fun (i : Nat) => D.int i else none
  | _, _ => none
def pIndexL (a b : PE) : PE := fun e => (a e).bind fun x e1 => match x with
  | .lst ds => (b e1).bind fun y e2 => oE (gIndexL (.lst ds) y) e2
  | _ => .bad
/-- .. of a text in a written tuple -/
def gIndexT (ss : List (List Nat)) : List D → Option D
  | [.str z] => (ss.findIdx? (· == z)).map fun (i : Nat) => D.int i
  | _ => none
/-- the name of an exception goes -/
def PRS.cl (i : Nat) : PRS → PRS
  | .nx e => .nx (e.set i .hole)
  | .rt t e => .rt t (e.set i .hole)
  | .bk e => .bk (e.set i .hole)
  | .ct e => .ct (e.set i .hole)
  | .ex _ _ _ => .bad
  | .bad => .bad
def sTryAs (i : Nat) (ys : List Nat) (b s : PS) : PS := fun e => match b e with
  | .ex C x e1 => if C ∈ ys ∧ x = none ∧ i < e1.length then (s (e1.set i .hole)).cl i else .bad
  | r => r
/-! ### more of lists and numbers -/
def sInt (i : Int) : List Nat := (toString i).toList.map Char.toNat
def gStr : List D → Option D
  | [.int i] => if i.natAbs.log2 < 1920 then some (.str (sInt i)) else none
  | _ => none
def uPop : T → List D → Option (D × T)
  | .ls us, [] => (us[us.length - 1]?).map fun y => (y, .ls us.dropLast)
  | _, _ => none
def uIns : T → List D → Option (D × T)
  | .ls us, [.int i, d] => if us.length < 16000000 ∧ 0 ≤ i ∧ i < 1000000000000000000 then some (.non, .ls (us.take i.toNat ++ [d] ++ us.drop i.toNat)) else none
  | _, _ => none
/-- [::-1] of a list: a new one -/
def gRev : D → Option T
  | .lst us => some (.ls us.reverse)
  | .kl us => some (.ls us.reverse)
  | _ => none
def pRev (a : PE) : PT := fun e => (a e).bind fun x e1 => oE (gRev x) e1
def rngD (hi : Int) (n : Nat) : List D := (List.range n).map fun i => .int (hi - (i : Nat))
def gR3 : List D → Option (List D)
  | [.int i, .int j, .int c] => if i.natAbs ≤ 1000000000 ∧ j.natAbs ≤ 1000000000 ∧ c = -1 then some (rngD i (i - j).toNat) else none
  | _ => none
abbrev iR3 := iOp gR3
/-! ### comprehensions whose items may raise -/
def lcLX (c : CT) (t : PB) (a : PE) (vs : List Nat) : List D → List D → Env → PR (List D)
  | [], acc, e => .ok acc e
  | d :: ds, acc, e => match c.asg d (kill vs e) with
    | some e1 => (t e1).no.bind fun b e2 => if b = true then (a e2).bind fun y e3 => if acc.length < 16000000 then lcLX c t a vs ds (acc ++ [y]) e3 else .bad else lcLX c t a vs ds acc e2
    | none => .bad
/-- behind a comprehension: its names are gone -/
def PR.kl {α β : Type} (vs : List Nat) (f : α → β) : PR α → PR β
  | .ok a e => .ok (f a) (kill vs e)
  | .exc C x e => .exc C x (kill vs e)
  | .bad => .bad
def pLcX (it : PDs) (c : CT) (t : PB) (a : PE) (vs : List Nat) : PT := fun e => (it e).bind fun ds e1 => (lcLX c t a vs ds [] e1).kl vs .ls
/-! ### a number that only the kernel sees through (so that nobody walks a long range while a proof is read) -/
def kA (n : Nat) (i : Int) : Int := if n = 0 then i else kA (n / 2) i
termination_by n
decreasing_by omega
def kI (i : Int) : Int := kA 1 i
end P

set_option Elab.async false
set_option linter.all false
set_option maxRecDepth 100000
set_option maxHeartbeats 1000000
/-! PS1: what it means that a meaning over the store does as a pure meaning says. -/
namespace P
open Q (U O Sto Env' R RS EM TM AM SM Sem')
abbrev fs' (f : String) : PySem.Str := PySem.Str.ofString f
section
variable (cc : Nat → Nat) (h : Sto) (F : Nat → Prop)
mutual
inductive Dn : U → D → Prop
  | non : Dn .non .non
  | bl (b : Bool) : Dn (.bl b) (.bl b)
  | int (i : Int) : Dn (.int i) (.int i)
  | str (s : List Nat) : Dn (.str s) (.str s)
  | tup {us : List U} {ds : List D} (r : Dns us ds) : Dn (.tup us) (.tup ds)
  | fl {us : List U} {ds : List D} (r : Dns us ds) : Dn (.fl us) (.lst ds)
  | kl {us : List U} {ds : List D} (r : Dns us ds) : Dn (.kl us) (.kl ds)
  | lst {n : Nat} {us : List U} {ds : List D} (f : F n) (e : h[n]? = some (.lst us)) (r : Dns us ds) : Dn (.ref n) (.lst ds)
  | dK {n : Nat} {us : List (Q.DK × U)} {ds : List (DK × D)} (f : F n) (e : h[n]? = some (.dK us)) (k : us.map Prod.fst = ds.map Prod.fst) (r : Dns (us.map Prod.snd) (ds.map Prod.snd)) : Dn (.ref n) (.dK ds)
  | dT {n : Nat} {us : List (List Q.DK × U)} {ds : List (List DK × D)} (f : F n) (e : h[n]? = some (.dT us)) (k : us.map Prod.fst = ds.map Prod.fst) (r : Dns (us.map Prod.snd) (ds.map Prod.snd)) : Dn (.ref n) (.dT ds)
  | ins {n C : Nat} {us : List (PySem.Str × U)} {ds : List (String × D)} (f : F n) (e : h[n]? = some (.ins (cc C) us)) (k : us.map Prod.fst = ds.map fun p => fs' p.1) (r : Dns (us.map Prod.snd) (ds.map Prod.snd)) : Dn (.ref n) (.ins C ds)
  | dKl {n : Nat} {us : List (Q.DK × U)} {ds : List (DK × D)} (f : F n) (e : h[n]? = some (.dKl us)) (k : us.map Prod.fst = ds.map Prod.fst) (r : Dns (us.map Prod.snd) (ds.map Prod.snd)) : Dn (.ref n) (.dKl ds)
inductive Dns : List U → List D → Prop
  | nil : Dns [] []
  | cons {u : U} {d : D} {us : List U} {ds : List D} (x : Dn u d) (r : Dns us ds) : Dns (u :: us) (d :: ds)
end
mutual
inductive Ow : U → T → List Nat → Prop
  | hole (u : U) : Ow u .hole []
  | leaf {u : U} {d : D} (r : Dn cc h F u d) : Ow u (.leaf d) []
  | ls {n : Nat} {us : List U} {ds : List D} (e : h[n]? = some (.lst us)) (r : Dns cc h F us ds) : Ow (.ref n) (.ls ds) [n]
  | lT {n : Nat} {us : List U} {ts : List T} {fp : List Nat} (e : h[n]? = some (.lst us)) (r : Ows us ts fp) : Ow (.ref n) (.lT ts) (n :: fp)
  | dK {n : Nat} {us : List (Q.DK × U)} {ds : List (DK × D)} (e : h[n]? = some (.dK us)) (k : us.map Prod.fst = ds.map Prod.fst) (r : Dns cc h F (us.map Prod.snd) (ds.map Prod.snd)) : Ow (.ref n) (.dK ds) [n]
  | dT {n : Nat} {us : List (List Q.DK × U)} {ds : List (List DK × D)} (e : h[n]? = some (.dT us)) (k : us.map Prod.fst = ds.map Prod.fst) (r : Dns cc h F (us.map Prod.snd) (ds.map Prod.snd)) : Ow (.ref n) (.dT ds) [n]
  | is {n C : Nat} {us : List (PySem.Str × U)} {ts : List (String × T)} {fp : List Nat} (e : h[n]? = some (.ins (cc C) us)) (k : us.map Prod.fst = ts.map fun p => fs' p.1) (r : Ows (us.map Prod.snd) (ts.map Prod.snd) fp) : Ow (.ref n) (.is C ts) (n :: fp)
inductive Ows : List U → List T → List Nat → Prop
  | nil : Ows [] [] []
  | cons {u : U} {t : T} {us : List U} {ts : List T} {f1 f2 : List Nat} (x : Ow u t f1) (r : Ows us ts f2) : Ows (u :: us) (t :: ts) (f1 ++ f2)
end
/-- a slot -/
def Os (o : Option U) (t : T) (f : List Nat) : Prop := match o with
  | some u => Ow cc h F u t f
  | none => t = .hole ∧ f = []
inductive Ev : Env' → Env → List Nat → Prop
  | nil : Ev [] [] []
  | cons {o : Option U} {t : T} {env : Env'} {e : Env} {f1 f2 : List Nat} (x : Os cc h F o t f1) (r : Ev env e f2) : Ev (o :: env) (t :: e) (f1 ++ f2)
/-- what stands at the top -/
def Tp (u : U) : D → Prop
  | .lst ds => ∃ us, Q.mL h u = some us ∧ Dns cc h F us ds
  | .dK ds => ∃ n us, u = .ref n ∧ h[n]? = some (.dK us) ∧ us.map Prod.fst = ds.map Prod.fst ∧ Dns cc h F (us.map Prod.snd) (ds.map Prod.snd)
  | .dT ds => ∃ n us, u = .ref n ∧ h[n]? = some (.dT us) ∧ us.map Prod.fst = ds.map Prod.fst ∧ Dns cc h F (us.map Prod.snd) (ds.map Prod.snd)
  | .ins C ds => ∃ n us, u = .ref n ∧ h[n]? = some (.ins (cc C) us) ∧ us.map Prod.fst = (ds.map fun p => fs' p.1) ∧ Dns cc h F (us.map Prod.snd) (ds.map Prod.snd)
  | d => Dn cc h F u d
end
/-- what is frozen stays -/
structure Stab (h : Sto) (F : Nat → Prop) (h' : Sto) (F' : Nat → Prop) : Prop where
  le : ∀ n, F n → F' n
  eq : ∀ n, F n → h'[n]? = h[n]?
/-- .. and what is in f -/
def Keep (f : List Nat) (h h' : Sto) : Prop := ∀ n ∈ f, h'[n]? = h[n]?
structure SR (h : Sto) (F : Nat → Prop) (fp : List Nat) : Prop where
  nd : fp.Nodup
  lt : ∀ n ∈ fp, n < h.length
  fF : ∀ n ∈ fp, ¬ F n
  Fl : ∀ n, F n → n < h.length
structure Fr (h : Sto) (F : Nat → Prop) (fp : List Nat) (h' : Sto) (F' : Nat → Prop) (fp' : List Nat) : Prop where
  len : h.length ≤ h'.length
  eq : ∀ n, n < h.length → n ∉ fp → h'[n]? = h[n]?
  le : ∀ n, F n → F' n
  new : ∀ n, F' n → F n ∨ n ∈ fp ∨ h.length ≤ n
  own : ∀ n ∈ fp', n ∈ fp ∨ h.length ≤ n
  sr : SR h' F' fp'
/-- nothing that was there is another one -/
def Sm (h h' : Sto) : Prop := ∀ n, n < h.length → h'[n]? = h[n]?
section
variable {cc : Nat → Nat} {h h' h1 h2 : Sto} {F F' F1 F2 : Nat → Prop} {u : U} {d : D} {us : List U} {ds : List D} {t : T} {ts : List T} {f f1 f2 fp fp' fp1 fp2 : List Nat} {env env' : Env'} {e e' : Env}
theorem Stab.refl : Stab h F h F := ⟨fun _ x => x, fun _ _ => rfl⟩
theorem Stab.trans (a : Stab h F h1 F1) (b : Stab h1 F1 h2 F2) : Stab h F h2 F2 := ⟨fun n x => b.le n (a.le n x), fun n x => (b.eq n (a.le n x)).trans (a.eq n x)⟩
mutual
theorem Dn.mono (s : Stab h F h' F') : ∀ {u : U} {d : D}, Dn cc h F u d → Dn cc h' F' u d
  | _, _, .non => .non
  | _, _, .bl b => .bl b
  | _, _, .int b => .int b
  | _, _, .str b => .str b
  | _, _, .tup r => .tup (Dns.mono s r)
  | _, _, .fl r => .fl (Dns.mono s r)
  | _, _, .kl r => .kl (Dns.mono s r)
  | _, _, .lst f e r => .lst (s.le _ f) ((s.eq _ f).trans e) (Dns.mono s r)
  | _, _, .dK f e k r => .dK (s.le _ f) ((s.eq _ f).trans e) k (Dns.mono s r)
  | _, _, .dT f e k r => .dT (s.le _ f) ((s.eq _ f).trans e) k (Dns.mono s r)
  | _, _, .dKl f e k r => .dKl (s.le _ f) ((s.eq _ f).trans e) k (Dns.mono s r)
  | _, _, .ins f e k r => .ins (s.le _ f) ((s.eq _ f).trans e) k (Dns.mono s r)
theorem Dns.mono (s : Stab h F h' F') : ∀ {us : List U} {ds : List D}, Dns cc h F us ds → Dns cc h' F' us ds
  | _, _, .nil => .nil
  | _, _, .cons x r => .cons (Dn.mono s x) (Dns.mono s r)
end
theorem keep_l {h h' : Sto} (k : Keep (f1 ++ f2) h h') : Keep f1 h h' := fun n m => k n (List.mem_append_left _ m)
theorem keep_r {h h' : Sto} (k : Keep (f1 ++ f2) h h') : Keep f2 h h' := fun n m => k n (List.mem_append_right _ m)
mutual
theorem Ow.mono (s : Stab h F h' F') : ∀ {u : U} {t : T} {f : List Nat}, Keep f h h' → Ow cc h F u t f → Ow cc h' F' u t f
  | _, _, _, _, .hole u => .hole u
  | _, _, _, _, .leaf r => .leaf (r.mono s)
  | _, _, _, k, .ls e r => .ls ((k _ (List.mem_singleton.mpr rfl)).trans e) (r.mono s)
  | _, _, _, k, .lT e r => .lT ((k _ List.mem_cons_self).trans e) (Ows.mono s (fun n m => k n (List.mem_cons_of_mem _ m)) r)
  | _, _, _, k, .dK e q r => .dK ((k _ (List.mem_singleton.mpr rfl)).trans e) q (r.mono s)
  | _, _, _, k, .dT e q r => .dT ((k _ (List.mem_singleton.mpr rfl)).trans e) q (r.mono s)
  | _, _, _, k, .is e q r => .is ((k _ List.mem_cons_self).trans e) q (Ows.mono s (fun n m => k n (List.mem_cons_of_mem _ m)) r)
theorem Ows.mono (s : Stab h F h' F') : ∀ {us : List U} {ts : List T} {f : List Nat}, Keep f h h' → Ows cc h F us ts f → Ows cc h' F' us ts f
  | _, _, _, _, .nil => .nil
  | _, _, _, k, .cons x r => .cons (Ow.mono s (keep_l k) x) (Ows.mono s (keep_r k) r)
end
theorem Os.mono (s : Stab h F h' F') {o : Option U} (k : Keep f h h') (x : Os cc h F o t f) : Os cc h' F' o t f := by
  cases o with
  | none => exact x
  | some u => exact Ow.mono s k x
theorem Ev.mono (s : Stab h F h' F') : ∀ {env : Env'} {e : Env} {f : List Nat}, Keep f h h' → Ev cc h F env e f → Ev cc h' F' env e f
  | _, _, _, _, .nil => .nil
  | _, _, _, k, .cons x r => .cons (x.mono s (keep_l k)) (Ev.mono s (keep_r k) r)
theorem Tp.mono (s : Stab h F h' F') (sr : SR h F fp) (k : Sm h h') (x : Tp cc h F u d) : Tp cc h' F' u d := by
  have g : ∀ {n : Nat} {o : O}, h[n]? = some o → h'[n]? = some o := fun {n o} q => (k n (List.getElem?_eq_some_iff.mp q).1).trans q
  cases d with
  | lst ds =>
    obtain ⟨us, a, r⟩ := x
    refine ⟨us, ?_, r.mono s⟩
    cases u with
    | ref n =>
      simp only [Q.e_mL_ref] at a ⊢
      split at a
      · rename_i q; rw [g q]; exact a
      · cases a
    | _ => exact a
  | dK ds => obtain ⟨n, us, a, b, c, r⟩ := x; exact ⟨n, us, a, g b, c, r.mono s⟩
  | dT ds => obtain ⟨n, us, a, b, c, r⟩ := x; exact ⟨n, us, a, g b, c, r.mono s⟩
  | ins C ds => obtain ⟨n, us, a, b, c, r⟩ := x; exact ⟨n, us, a, g b, c, r.mono s⟩
  | _ => exact Dn.mono s x
theorem Dn.tp (x : Dn cc h F u d) : Tp cc h F u d := by
  cases x with
  | fl r => exact ⟨_, rfl, r⟩
  | kl r => exact Dn.kl r
  | lst f e r => exact ⟨_, by rw [Q.e_mL_ref, e], r⟩
  | dK f e k r => exact ⟨_, _, rfl, e, k, r⟩
  | dT f e k r => exact ⟨_, _, rfl, e, k, r⟩
  | dKl f e k r => exact .dKl f e k r
  | ins f e k r => exact ⟨_, _, rfl, e, k, r⟩
  | non => exact Dn.non
  | bl b => exact Dn.bl b
  | int b => exact Dn.int b
  | str b => exact Dn.str b
  | tup r => exact Dn.tup r
/-! frames -/
theorem SR.perm (p : fp.Perm fp') (x : SR h F fp) : SR h F fp' := ⟨p.nodup_iff.mp x.nd, fun n m => x.lt n (p.mem_iff.mpr m), fun n m => x.fF n (p.mem_iff.mpr m), x.Fl⟩
theorem SR.sub (x : SR h F fp) (s : fp'.Sublist fp) : SR h F fp' := ⟨x.nd.sublist s, fun n m => x.lt n (s.subset m), fun n m => x.fF n (s.subset m), x.Fl⟩
theorem SR.left (x : SR h F (f1 ++ f2)) : SR h F f1 := x.sub (List.sublist_append_left _ _)
theorem SR.right (x : SR h F (f1 ++ f2)) : SR h F f2 := x.sub (List.sublist_append_right _ _)
theorem Fr.refl (x : SR h F fp) : Fr h F fp h F fp := ⟨Nat.le_refl _, fun _ _ _ => rfl, fun _ y => y, fun _ y => .inl y, fun _ y => .inl y, x⟩
theorem Fr.trans (a : Fr h F fp h1 F1 fp1) (b : Fr h1 F1 fp1 h2 F2 fp2) : Fr h F fp h2 F2 fp2 where
  len := Nat.le_trans a.len b.len
  eq := fun n l m => by
    have : n ∉ fp1 := fun z => by
      rcases a.own n z with y | y
      · exact m y
      · omega
    rw [b.eq n (Nat.lt_of_lt_of_le l a.len) this, a.eq n l m]
  le := fun n x => b.le n (a.le n x)
  new := fun n x => by
    rcases b.new n x with y | y | y
    · exact a.new n y
    · rcases a.own n y with z | z
      · exact .inr (.inl z)
      · exact .inr (.inr z)
    · exact .inr (.inr (Nat.le_trans a.len y))
  own := fun n x => by
    rcases b.own n x with y | y
    · exact a.own n y
    · exact .inr (Nat.le_trans a.len y)
  sr := b.sr
theorem Fr.perm (a : Fr h F fp h1 F1 fp1) (p : fp1.Perm fp2) : Fr h F fp h1 F1 fp2 := ⟨a.len, a.eq, a.le, a.new, fun n m => a.own n (p.mem_iff.mpr m), a.sr.perm p⟩
theorem Fr.sub (a : Fr h F fp h1 F1 fp1) (s : fp2.Sublist fp1) : Fr h F fp h1 F1 fp2 := ⟨a.len, a.eq, a.le, a.new, fun n m => a.own n (s.subset m), a.sr.sub s⟩
theorem Fr.permL (a : Fr h F fp h1 F1 fp1) (p : fp.Perm fp2) : Fr h F fp2 h1 F1 fp1 := ⟨a.len, fun n l m => a.eq n l fun z => m (p.mem_iff.mp z), a.le, fun n x => (a.new n x).imp_right fun y => y.imp_left p.mem_iff.mp, fun n m => (a.own n m).imp_left p.mem_iff.mp, a.sr⟩
theorem Fr.stab (a : Fr h F fp h1 F1 fp1) (x : SR h F fp) : Stab h F h1 F1 := ⟨a.le, fun n y => a.eq n (x.Fl n y) fun m => x.fF n m y⟩
/-- something is held meanwhile -/
theorem Fr.hold (a : Fr h F f2 h1 F1 fp1) (x : SR h F (f1 ++ f2)) : Fr h F (f1 ++ f2) h1 F1 (f1 ++ fp1) where
  len := a.len
  eq := fun n l m => a.eq n l fun z => m (List.mem_append_right _ z)
  le := a.le
  new := fun n y => (a.new n y).imp_right fun y => y.imp_left (List.mem_append_right _)
  own := fun n m => by
    rcases List.mem_append.mp m with m | m
    · exact .inl (List.mem_append_left _ m)
    · exact (a.own n m).imp_left (List.mem_append_right _)
  sr := by
    have nd := List.nodup_append.mp x.nd
    refine ⟨List.nodup_append.mpr ⟨nd.1, a.sr.nd, fun p hp q hq z => ?_⟩, fun n m => ?_, fun n m y => ?_, a.sr.Fl⟩
    · subst z
      rcases a.own p hq with y | y
      · exact nd.2.2 p hp p y rfl
      · exact absurd (x.lt p (List.mem_append_left _ hp)) (by omega)
    · rcases List.mem_append.mp m with m | m
      · exact Nat.lt_of_lt_of_le (x.lt n (List.mem_append_left _ m)) a.len
      · exact a.sr.lt n m
    · rcases List.mem_append.mp m with m | m
      · rcases a.new n y with z | z | z
        · exact x.fF n (List.mem_append_left _ m) z
        · exact nd.2.2 n m n z rfl
        · exact absurd (x.lt n (List.mem_append_left _ m)) (by omega)
      · exact a.sr.fF n m y
theorem Fr.kept (a : Fr h F f2 h1 F1 fp1) (x : SR h F (f1 ++ f2)) : Keep f1 h h1 := fun n m => a.eq n (x.lt n (List.mem_append_left _ m)) fun z => (List.nodup_append.mp x.nd).2.2 n m n z rfl
/-- a new thing -/
theorem SR.app (x : SR h F fp) (o : O) : SR (h ++ [o]) F (h.length :: fp) where
  nd := List.nodup_cons.mpr ⟨fun m => absurd (x.lt _ m) (by omega), x.nd⟩
  lt := fun n m => by
    rcases List.mem_cons.mp m with rfl | m
    · simp
    · have := x.lt n m; simp; omega
  fF := fun n m y => by
    rcases List.mem_cons.mp m with rfl | m
    · exact absurd (x.Fl _ y) (by omega)
    · exact x.fF n m y
  Fl := fun n y => by have := x.Fl n y; simp; omega
theorem Fr.app (x : SR h F fp) (o : O) : Fr h F fp (h ++ [o]) F (h.length :: fp) where
  len := by simp
  eq := fun n l _ => List.getElem?_append_left l
  le := fun _ y => y
  new := fun _ y => .inl y
  own := fun n m => by
    rcases List.mem_cons.mp m with rfl | m
    · exact .inr (Nat.le_refl _)
    · exact .inl m
  sr := x.app o
theorem Sm.app (h : Sto) (l : Sto) : Sm h (h ++ l) := fun n q => List.getElem?_append_left q
theorem Sm.refl (h : Sto) : Sm h h := fun _ _ => rfl
theorem Sm.trans (l : h.length ≤ h1.length) (a : Sm h h1) (b : Sm h1 h2) : Sm h h2 := fun n q => (b n (by omega)).trans (a n q)
theorem Keep.app (x : SR h F fp) (l : Sto) : Keep fp h (h ++ l) := fun n m => List.getElem?_append_left (x.lt n m)
theorem Stab.app (x : SR h F fp) (l : Sto) : Stab h F (h ++ l) F := ⟨fun _ y => y, fun n y => List.getElem?_append_left (x.Fl n y)⟩
/-- what is owned becomes frozen -/
theorem SR.freeze (x : SR h F (f1 ++ f2)) : SR h (fun n => F n ∨ n ∈ f1) f2 where
  nd := x.right.nd
  lt := x.right.lt
  fF := fun n m y => by
    rcases y with y | y
    · exact x.right.fF n m y
    · exact (List.nodup_append.mp x.nd).2.2 n y n m rfl
  Fl := fun n y => by
    rcases y with y | y
    · exact x.Fl n y
    · exact x.lt n (List.mem_append_left _ y)
theorem Fr.freeze (x : SR h F (f1 ++ f2)) : Fr h F (f1 ++ f2) h (fun n => F n ∨ n ∈ f1) f2 where
  len := Nat.le_refl _
  eq := fun _ _ _ => rfl
  le := fun _ y => .inl y
  new := fun n y => y.imp_right fun y => .inl (List.mem_append_left _ y)
  own := fun n m => .inl (List.mem_append_right _ m)
  sr := x.freeze
theorem Stab.freeze (f1 : List Nat) : Stab h F h (fun n => F n ∨ n ∈ f1) := ⟨fun _ y => .inl y, fun _ _ => rfl⟩
/-- an owned thing changes -/
theorem SR.set (x : SR h F fp) {n : Nat} (o : O) : SR (h.set n o) F fp := ⟨x.nd, fun k m => by simpa using x.lt k m, x.fF, fun k m => by simpa using x.Fl k m⟩
theorem Fr.set (x : SR h F fp) {n : Nat} (m : n ∈ fp) (o : O) : Fr h F fp (h.set n o) F fp where
  len := by simp
  eq := fun k _ z => List.getElem?_set_ne (by intro y; subst y; exact z m)
  le := fun _ y => y
  new := fun _ y => .inl y
  own := fun _ y => .inl y
  sr := x.set o
theorem Stab.set (x : SR h F fp) {n : Nat} (m : n ∈ fp) (o : O) : Stab h F (h.set n o) F := ⟨fun _ y => y, fun k y => List.getElem?_set_ne (by intro z; subst z; exact x.fF n m y)⟩
theorem Keep.set {n : Nat} (o : O) (m : n ∉ f) : Keep f h (h.set n o) := fun k y => List.getElem?_set_ne (by intro z; subst z; exact m y)
/-! freezing -/
mutual
theorem Ow.frz : ∀ {u : U} {t : T} {f : List Nat} {d : D}, Ow cc h F u t f → t.fz = some d → ∀ G : Nat → Prop, (∀ n, F n → G n) → (∀ n ∈ f, G n) → Dn cc h G u d
  | _, _, _, _, .hole u, q, G, a, b => by cases q
  | _, _, _, _, .leaf r, q, G, a, b => by cases q; exact r.mono ⟨a, fun _ _ => rfl⟩
  | _, _, _, _, .ls e r, q, G, a, b => by cases q; exact .lst (b _ (List.mem_singleton.mpr rfl)) e (r.mono ⟨a, fun _ _ => rfl⟩)
  | _, _, _, d, .lT (ts := ts) e r, q, G, a, b => by
    unfold T.fz at q
    cases q1 : T.fzs ts with
    | none => rw [q1] at q; cases q
    | some ds =>
      rw [q1] at q
      cases q
      exact .lst (b _ List.mem_cons_self) e (Ows.frz r q1 G a fun n m => b n (List.mem_cons_of_mem _ m))
  | _, _, _, _, .dK e k r, q, G, a, b => by cases q; exact .dK (b _ (List.mem_singleton.mpr rfl)) e k (r.mono ⟨a, fun _ _ => rfl⟩)
  | _, _, _, _, .dT e k r, q, G, a, b => by cases q; exact .dT (b _ (List.mem_singleton.mpr rfl)) e k (r.mono ⟨a, fun _ _ => rfl⟩)
  | _, _, _, d, .is (us := us) (ts := ts) e k r, q, G, a, b => by
    unfold T.fz at q
    cases q1 : T.fzf ts with
    | none => rw [q1] at q; cases q
    | some ds =>
      rw [q1] at q
      cases q
      have q2 : ∀ {ts : List (String × T)} {ds : List (String × D)}, T.fzf ts = some ds → T.fzs (ts.map Prod.snd) = some (ds.map Prod.snd) ∧ ts.map Prod.fst = ds.map Prod.fst := by
        intro ts
        induction ts with
        | nil => intro ds q; cases q; exact ⟨rfl, rfl⟩
        | cons p r ih =>
          obtain ⟨g, t⟩ := p
          intro ds q
          unfold T.fzf at q
          cases q3 : T.fz t with
          | none => rw [q3] at q; cases q
          | some d =>
            cases q4 : T.fzf r with
            | none => rw [q3, q4] at q; cases q
            | some ds' =>
              rw [q3, q4] at q
              cases q
              obtain ⟨i1, i2⟩ := ih q4
              refine ⟨?_, by simp [i2]⟩
              simp only [List.map_cons]
              unfold T.fzs
              rw [q3, i1]
      obtain ⟨q3, q4⟩ := q2 q1
      have k2 : us.map Prod.fst = ds.map fun p => fs' p.1 := by
        rw [k]
        have : (ts.map Prod.fst).map fs' = (ds.map Prod.fst).map fs' := by rw [q4]
        simpa [List.map_map, Function.comp_def] using this
      exact .ins (b _ List.mem_cons_self) e k2 (Ows.frz r q3 G a fun n m => b n (List.mem_cons_of_mem _ m))
theorem Ows.frz : ∀ {us : List U} {ts : List T} {f : List Nat} {ds : List D}, Ows cc h F us ts f → T.fzs ts = some ds → ∀ G : Nat → Prop, (∀ n, F n → G n) → (∀ n ∈ f, G n) → Dns cc h G us ds
  | _, _, _, _, .nil, q, G, a, b => by cases q; exact .nil
  | _, _, _, _, .cons (t := t) (ts := ts) x r, q, G, a, b => by
    unfold T.fzs at q
    cases q1 : T.fz t with
    | none => rw [q1] at q; cases q
    | some d =>
      cases q2 : T.fzs ts with
      | none => rw [q1, q2] at q; cases q
      | some ds =>
        rw [q1, q2] at q
        cases q
        exact .cons (Ow.frz x q1 G a fun n m => b n (List.mem_append_left _ m)) (Ows.frz r q2 G a fun n m => b n (List.mem_append_right _ m))
end
/-! flat data -/
mutual
theorem Dn.flat : ∀ {u : U} {d : D}, Dn cc h F u d → d.flat = true → ∀ h' G, Dn cc h' G u d
  | _, _, .non, _, _, _ => .non
  | _, _, .bl b, _, _, _ => .bl b
  | _, _, .int b, _, _, _ => .int b
  | _, _, .str b, _, _, _ => .str b
  | _, _, .tup r, q, h', G => .tup (Dns.flat r q h' G)
  | _, _, .fl r, q, _, _ => by cases q
  | _, _, .kl r, q, _, _ => by cases q
  | _, _, .lst f e r, q, _, _ => by cases q
  | _, _, .dK f e k r, q, _, _ => by cases q
  | _, _, .dT f e k r, q, _, _ => by cases q
  | _, _, .dKl f e k r, q, _, _ => by cases q
  | _, _, .ins f e k r, q, _, _ => by cases q
theorem Dns.flat : ∀ {us : List U} {ds : List D}, Dns cc h F us ds → D.flats ds = true → ∀ h' G, Dns cc h' G us ds
  | _, _, .nil, _, _, _ => .nil
  | _, _, .cons x r, q, h', G => by
    unfold D.flats at q
    rw [Bool.and_eq_true] at q
    exact .cons (Dn.flat x q.1 h' G) (Dns.flat r q.2 h' G)
end
mutual
theorem Ow.flt : ∀ {u : U} {t : T} {f : List Nat}, Ow cc h F u t f → t.flat = true → ∀ G, Ow cc h G u t f
  | _, _, _, .hole u, _, _ => .hole u
  | _, _, _, .leaf r, q, G => .leaf (r.flat q h G)
  | _, _, _, .ls e r, q, G => .ls e (r.flat q h G)
  | _, _, _, .lT e r, q, G => .lT e (Ows.flt r q G)
  | _, _, _, .dK e k r, q, G => .dK e k (r.flat q h G)
  | _, _, _, .dT e k r, q, G => .dT e k (r.flat q h G)
  | _, _, _, .is (ts := ts) e k r, q, G => .is e k (Ows.flt r (by
      have : ∀ ts : List (String × T), T.flatf ts = T.flats (ts.map Prod.snd) := by
        intro ts
        induction ts with
        | nil => rfl
        | cons p r ih => obtain ⟨g, t⟩ := p; unfold T.flatf; rw [ih]; simp only [List.map_cons]; conv => rhs; unfold T.flats
      rw [← this]; exact q) G)
theorem Ows.flt : ∀ {us : List U} {ts : List T} {f : List Nat}, Ows cc h F us ts f → T.flats ts = true → ∀ G, Ows cc h G us ts f
  | _, _, _, .nil, _, _ => .nil
  | _, _, _, .cons x r, q, G => by
    unfold T.flats at q
    rw [Bool.and_eq_true] at q
    exact .cons (Ow.flt x q.1 G) (Ows.flt r q.2 G)
end
end
end P

set_option Elab.async false
set_option linter.all false
set_option maxRecDepth 100000
set_option maxHeartbeats 1000000
/-! PS2: places in slots and trees; outcomes. -/
namespace P
open Q (U O Sto Env' R RS EM TM AM SM Sem')
section
variable {cc : Nat → Nat} {h h' h1 h2 : Sto} {F F' F1 F2 : Nat → Prop} {u : U} {d : D} {us : List U} {ds : List D} {t : T} {ts : List T} {f f1 f2 fp fp' fp1 fp2 : List Nat} {env env' : Env'} {e e' : Env} {i : Nat}
theorem perm_mid {a b c : List Nat} : (a ++ (b ++ c)).Perm (b ++ (a ++ c)) := by
  rw [← List.append_assoc, ← List.append_assoc]
  exact List.Perm.append_right c List.perm_append_comm
/-- a slot and the others -/
theorem Ev.at : ∀ {env : Env'} {e : Env} {fp : List Nat} {i : Nat} {t : T}, Ev cc h F env e fp → e[i]? = some t → ∃ o f1 f2, env[i]? = some o ∧ Os cc h F o t f1 ∧ fp.Perm (f1 ++ f2) ∧
    ∀ h' F' o' t' f1', Stab h F h' F' → Keep f2 h h' → Os cc h' F' o' t' f1' → ∃ fp', Ev cc h' F' (env.set i o') (e.set i t') fp' ∧ fp'.Perm (f1' ++ f2)
  | _, _, _, _, _, .nil, q => by simp at q
  | _, _, _, 0, _, .cons (o := o) (f1 := f1) (f2 := f2) x r, q => by
    simp at q; subst q
    exact ⟨o, f1, f2, rfl, x, .refl _, fun h' F' o' t' f1' s k y => ⟨f1' ++ f2, .cons y (r.mono s k), .refl _⟩⟩
  | _, _, _, i + 1, _, .cons (o := o) (f1 := f1) (f2 := f2) x r, q => by
    obtain ⟨o2, g1, g2, a, b, p, z⟩ := Ev.at (i := i) r (by simpa using q)
    refine ⟨o2, g1, f1 ++ g2, by simpa using a, b, (p.append_left f1).trans perm_mid, fun h' F' o' t' f1' s k y => ?_⟩
    obtain ⟨fp', ev, p'⟩ := z h' F' o' t' f1' s (keep_r k) y
    exact ⟨f1 ++ fp', .cons (x.mono s (keep_l k)) ev, (p'.append_left f1).trans perm_mid⟩
theorem Ev.len : ∀ {env : Env'} {e : Env} {fp : List Nat}, Ev cc h F env e fp → env.length = e.length
  | _, _, _, .nil => rfl
  | _, _, _, .cons _ r => by simp [Ev.len r]
theorem list_set_same {α : Type} : ∀ {l : List α} {i : Nat} {x : α}, l[i]? = some x → l.set i x = l
  | [], _, _, q => by simp at q
  | a :: l, 0, x, q => by simp at q; simp [q]
  | a :: l, i + 1, x, q => by simp at q; simp [list_set_same q]
/-- the slot's thing goes -/
theorem Ev.hole (x : Ev cc h F env e fp) (i : Nat) : ∃ fp', Ev cc h F env (e.set i .hole) fp' ∧ ∃ f1, fp.Perm (f1 ++ fp') := by
  cases q : e[i]? with
  | none => exact ⟨fp, by rw [List.set_eq_of_length_le (by simpa using q)]; exact x, [], .refl _⟩
  | some t =>
    obtain ⟨o, f1, f2, a, b, p, z⟩ := x.at q
    obtain ⟨fp', ev, p'⟩ := z h F o .hole [] .refl (fun _ _ => rfl) (by
      cases o with
      | none => exact ⟨rfl, rfl⟩
      | some u => exact .hole u)
    rw [list_set_same a] at ev
    exact ⟨fp', ev, f1, p.trans (List.Perm.append_left f1 p'.symm)⟩
/-- another value in the slot -/
theorem Ev.put (x : Ev cc h F env e fp) (i : Nat) (o : Option U) (y : Os cc h F o t f) : ∃ fp', Ev cc h F (env.set i o) (e.set i t) (fp') ∧ ∃ g f1 f2, fp.Perm (f1 ++ f2) ∧ fp'.Perm (g ++ f2) ∧ g.Sublist f := by
  by_cases hi : i < e.length
  · obtain ⟨o1, f1, f2, a, b, p, z⟩ := x.at (List.getElem?_eq_getElem hi)
    obtain ⟨fp', ev, p'⟩ := z h F o t f .refl (fun _ _ => rfl) y
    exact ⟨fp', ev, f, f1, f2, p, p', .refl _⟩
  · have hl := x.len
    rw [List.set_eq_of_length_le (by omega), List.set_eq_of_length_le (by omega)]
    exact ⟨fp, x, [], [], fp, .refl _, .refl _, List.nil_sublist _⟩
theorem Ev.putD (x : Ev cc h F env e fp) (i : Nat) {u : U} {d : D} (y : Dn cc h F u d) : ∃ fp', Ev cc h F (env.set i (some u)) (e.set i (.leaf d)) fp' ∧ ∃ f1, fp.Perm (f1 ++ fp') := by
  obtain ⟨fp', ev, g, f1, f2, p, p', s⟩ := x.put i (some u) (show Os cc h F (some u) (.leaf d) [] from .leaf y)
  have : g = [] := List.sublist_nil.mp s
  subst this
  exact ⟨fp', ev, f1, p.trans (List.Perm.append_left f1 (by simpa using p'.symm))⟩
/-! trees -/
def at1 (h : Sto) : U → Ac → Option U
  | u, .ix i => (match Q.sL h u with
    | some us => L2.atI us i
    | none => none)
  | .ref n, .fld _ f => (match h[n]? with
    | some (.ins _ fs) => fs.lookup (fs' f)
    | _ => none)
  | _, _ => none
def atU (h : Sto) : U → List Ac → Option U
  | u, [] => some u
  | u, a :: r => match at1 h u a with
    | some v => atU h v r
    | none => none
theorem sL_mono (k : Sm h h') {us : List U} (q : Q.sL h u = some us) : Q.sL h' u = some us := by
  cases u with
  | ref n =>
    simp only [Q.e_sL_ref] at q ⊢
    split at q
    · rename_i q1
      rw [(k n (List.getElem?_eq_some_iff.mp q1).1).trans q1]; exact q
    · cases q
  | _ => exact q
theorem at1_mono (k : Sm h h') {v : U} {a : Ac} (q : at1 h u a = some v) : at1 h' u a = some v := by
  cases a with
  | ix i =>
    have q : (match Q.sL h u with
      | some us => L2.atI us i
      | none => none) = some v := by cases u <;> exact q
    have g : at1 h' u (.ix i) = (match Q.sL h' u with
      | some us => L2.atI us i
      | none => none) := by cases u <;> rfl
    rw [g]
    cases q1 : Q.sL h u with
    | none => rw [q1] at q; cases q
    | some us => rw [q1] at q; rw [sL_mono k q1]; exact q
  | fld Cs f =>
    cases u with
    | ref n =>
      simp only [at1] at q ⊢
      split at q
      · rename_i q1
        rw [(k n (List.getElem?_eq_some_iff.mp q1).1).trans q1]; exact q
      · cases q
    | _ => cases q
theorem atU_mono (k : Sm h h') : ∀ {u v : U} {r : List Ac}, atU h u r = some v → atU h' u r = some v
  | u, v, [], q => q
  | u, v, a :: r, q => by
    unfold atU at q ⊢
    cases q1 : at1 h u a with
    | none => rw [q1] at q; cases q
    | some w => rw [q1] at q; rw [at1_mono k q1]; exact atU_mono k q
theorem atU_app : ∀ (u : U) (r s : List Ac), atU h u (r ++ s) = (atU h u r).bind fun v => atU h v s
  | u, [], s => by
    have : atU h u [] = some u := by unfold atU; rfl
    rw [this]; rfl
  | u, a :: r, s => by
    have e1 : atU h u ((a :: r) ++ s) = (match at1 h u a with
      | some v => atU h v (r ++ s)
      | none => none) := by show atU h u (a :: (r ++ s)) = _; conv => lhs; unfold atU
    have e2 : atU h u (a :: r) = (match at1 h u a with
      | some v => atU h v r
      | none => none) := by conv => lhs; unfold atU
    rw [e1, e2]
    cases at1 h u a with
    | none => rfl
    | some v => exact atU_app v r s
theorem get_cons (t : T) (a : Ac) (r : List Ac) : t.get (a :: r) = (t.get1 a).bind fun v => v.get r := by
  conv => lhs; unfold T.get
  cases t.get1 a <;> rfl
theorem get_app : ∀ (t : T) (r s : List Ac), t.get (r ++ s) = (t.get r).bind fun v => v.get s
  | t, [], s => by
    have : t.get [] = some t := by unfold T.get; rfl
    rw [this]; rfl
  | t, a :: r, s => by
    rw [List.cons_append, get_cons, get_cons]
    cases t.get1 a with
    | none => rfl
    | some v => exact get_app v r s
theorem Dns.get : ∀ {us : List U} {ds : List D} {i : Nat} {d : D}, Dns cc h F us ds → ds[i]? = some d → ∃ u, us[i]? = some u ∧ Dn cc h F u d
  | _, _, _, _, .nil, q => by simp at q
  | _, _, 0, _, .cons x r, q => by simp at q; subst q; exact ⟨_, rfl, x⟩
  | _, _, i + 1, _, .cons x r, q => by simpa using Dns.get (i := i) r (by simpa using q)
theorem Dns.len : ∀ {us : List U} {ds : List D}, Dns cc h F us ds → us.length = ds.length
  | _, _, .nil => rfl
  | _, _, .cons _ r => by simp [Dns.len r]
theorem Dns.at {i : Int} {d : D} (r : Dns cc h F us ds) (q : P.atI ds i = some d) : ∃ u, L2.atI us i = some u ∧ Dn cc h F u d := by
  have q : L2.atI ds i = some d := q
  unfold L2.atI at q ⊢
  rw [r.len]
  cases q1 : L2.ixN ds.length i with
  | none => rw [q1] at q; cases q
  | some k =>
    rw [q1] at q
    exact r.get q
theorem Ows.len : ∀ {us : List U} {ts : List T} {f : List Nat}, Ows cc h F us ts f → us.length = ts.length
  | _, _, _, .nil => rfl
  | _, _, _, .cons _ r => by simp [Ows.len r]
theorem Ows.at : ∀ {us : List U} {ts : List T} {fp : List Nat} {i : Nat} {t : T}, Ows cc h F us ts fp → ts[i]? = some t → ∃ o f1 f2, us[i]? = some o ∧ Ow cc h F o t f1 ∧ fp.Perm (f1 ++ f2) ∧
    ∀ h' F' o' t' f1', Stab h F h' F' → Keep f2 h h' → Ow cc h' F' o' t' f1' → ∃ fp', Ows cc h' F' (us.set i o') (ts.set i t') fp' ∧ fp'.Perm (f1' ++ f2)
  | _, _, _, _, _, .nil, q => by simp at q
  | _, _, _, 0, _, .cons (u := o) (f1 := f1) (f2 := f2) x r, q => by
    simp at q; subst q
    exact ⟨o, f1, f2, rfl, x, .refl _, fun h' F' o' t' f1' s k y => ⟨f1' ++ f2, .cons y (r.mono s k), .refl _⟩⟩
  | _, _, _, i + 1, _, .cons (u := o) (f1 := f1) (f2 := f2) x r, q => by
    obtain ⟨o2, g1, g2, a, b, p, z⟩ := Ows.at (i := i) r (by simpa using q)
    refine ⟨o2, g1, f1 ++ g2, by simpa using a, b, (p.append_left f1).trans perm_mid, fun h' F' o' t' f1' s k y => ?_⟩
    obtain ⟨fp', ev, p'⟩ := z h' F' o' t' f1' s (keep_r k) y
    exact ⟨f1 ++ fp', .cons (x.mono s (keep_l k)) ev, (p'.append_left f1).trans perm_mid⟩
theorem fs_inj {f g : String} (e : fs' f = fs' g) : f = g := by
  have e : PySem.Str.ofString f = PySem.Str.ofString g := e
  rw [PySem.Str.ofString_eq_toList, PySem.Str.ofString_eq_toList] at e
  injection e with e
  have e := congrArg Array.toList e
  simp only [List.toList_toArray] at e
  have : Function.Injective Char.toNat := fun a b q => Char.toNat_inj.mp q
  have := List.map_inj_right (fun a b q => this q) |>.mp e
  exact String.toList_inj.mp this
/-- the place of a field -/
theorem look_at {α β : Type} : ∀ {us : List (PySem.Str × α)} {ts : List (String × β)} {f : String} {t : β}, us.map Prod.fst = (ts.map fun p => fs' p.1) → ts.lookup f = some t → ∃ i, (ts.map Prod.snd)[i]? = some t ∧
    (∀ v, (us.map Prod.snd)[i]? = some v → us.lookup (fs' f) = some v) ∧ ∀ s, (putF f s ts).map Prod.snd = (ts.map Prod.snd).set i s ∧ (putF f s ts).map Prod.fst = ts.map Prod.fst
  | us, [], f, t, _, q => by simp at q
  | [], (g, x) :: ts, f, t, e, q => by simp at e
  | (k, u) :: us, (g, x) :: ts, f, t, e, q => by
    simp only [List.map_cons, List.cons.injEq] at e
    obtain ⟨e1, e2⟩ := e
    by_cases c : f = g
    · subst c
      rw [List.lookup_cons_self] at q
      cases q
      refine ⟨0, rfl, fun v z => ?_, fun s => ?_⟩
      · simp at z; subst z; rw [e1]; simp
      · unfold putF; rw [if_pos rfl]
        exact ⟨rfl, rfl⟩
    · have c1 : (f == g) = false := by simpa using c
      rw [List.lookup_cons, c1] at q
      obtain ⟨i, a, b, d⟩ := look_at e2 q
      refine ⟨i + 1, by simpa using a, fun v z => ?_, fun s => ?_⟩
      · rw [e1, List.lookup_cons]
        have : (fs' f == fs' g) = false := by
          rw [beq_eq_false_iff_ne]
          exact fun z => c (fs_inj z)
        rw [this]
        exact b v (by simpa using z)
      · unfold putF
        rw [if_neg (fun z => c z.symm)]
        obtain ⟨d1, d2⟩ := d s
        exact ⟨by simp [d1], by simp [d2]⟩
/-- a field's store -/
theorem put_at {w : U} {s : T} {f0 : List Nat} (x : Ow cc h F w s f0) {f : String} : ∀ {us : List (PySem.Str × U)} {ts : List (String × T)} {fp : List Nat}, us.map Prod.fst = (ts.map fun p => fs' p.1) → Ows cc h F (us.map Prod.snd) (ts.map Prod.snd) fp →
    (Q.putU (fs' f) w us).map Prod.fst = ((putF f s ts).map fun p => fs' p.1) ∧ ∃ fp', Ows cc h F ((Q.putU (fs' f) w us).map Prod.snd) ((putF f s ts).map Prod.snd) fp' ∧ ∃ f1 f2, fp.Perm (f1 ++ f2) ∧ fp'.Perm (f0 ++ f2)
  | [], [], fp, _, r => by
    cases r
    exact ⟨rfl, f0 ++ [], .cons x .nil, [], [], .refl _, .refl _⟩
  | _ :: _, [], _, e, _ => by simp at e
  | [], _ :: _, _, e, _ => by simp at e
  | (k, u) :: us, (g, t) :: ts, fp, e, r => by
    simp only [List.map_cons, List.cons.injEq] at e
    obtain ⟨e1, e2⟩ := e
    simp only [List.map_cons] at r
    cases r with
    | @cons _ _ _ _ f1 f2 a b =>
      unfold Q.putU putF
      by_cases c : g = f
      · subst c
        rw [if_pos e1, if_pos rfl]
        exact ⟨by simp [e1, e2], f0 ++ f2, .cons x b, f1, f2, .refl _, .refl _⟩
      · rw [if_neg (fun z => c (fs_inj (e1.symm.trans z))), if_neg c]
        obtain ⟨i1, fp', i2, g1, g2, i3, i4⟩ := put_at x (f := f) e2 b
        refine ⟨by simp [e1, i1], f1 ++ fp', .cons a i2, g1, f1 ++ g2, (i3.append_left f1).trans perm_mid, (i4.append_left f1).trans perm_mid⟩
/-- a place in a tree -/
def T.isLeaf : T → Bool
  | .leaf _ => true
  | _ => false
theorem leaf_get : ∀ (r : List Ac) {d : D} {s : T}, (T.leaf d).get r = some s → s.isLeaf = true
  | [], d, s, q => by unfold T.get at q; cases q; rfl
  | a :: r, d, s, q => by
    unfold T.get at q
    cases q1 : (T.leaf d).get1 a with
    | none => rw [q1] at q; cases q
    | some v =>
      rw [q1] at q
      have : ∃ d', v = .leaf d' := by
        unfold T.get1 at q1
        split at q1 <;> first | cases q1; done | skip
        all_goals (rename_i hh; cases hh)
        all_goals (try (split at q1; case isFalse => cases q1))
        all_goals (obtain ⟨w, _, rfl⟩ := Option.map_eq_some_iff.mp q1; exact ⟨w, rfl⟩)
      obtain ⟨d', rfl⟩ := this
      exact leaf_get r q
theorem Dn.at1 {a : Ac} {s : T} (x : Dn cc h F u d) (q : (T.leaf d).get1 a = some s) : ∃ v d', at1 h u a = some v ∧ s = .leaf d' ∧ Dn cc h F v d' := by
  cases a with
  | ix i =>
    have g : P.at1 h u (.ix i) = (match Q.sL h u with
      | some us => L2.atI us i
      | none => none) := by cases u <;> rfl
    rw [g]
    cases x with
    | tup r =>
      obtain ⟨w, q1, rfl⟩ := Option.map_eq_some_iff.mp q
      obtain ⟨v, a1, a2⟩ := r.at q1
      exact ⟨v, w, a1, rfl, a2⟩
    | fl r =>
      obtain ⟨w, q1, rfl⟩ := Option.map_eq_some_iff.mp q
      obtain ⟨v, a1, a2⟩ := r.at q1
      exact ⟨v, w, a1, rfl, a2⟩
    | lst f e r =>
      obtain ⟨w, q1, rfl⟩ := Option.map_eq_some_iff.mp q
      obtain ⟨v, a1, a2⟩ := r.at q1
      exact ⟨v, w, by rw [Q.e_sL_ref, e]; exact a1, rfl, a2⟩
    | _ => cases q
  | fld Cs f =>
    cases x with
    | @ins n C us ds f' e k r =>
      have q : (if C ∈ Cs then (ds.lookup f).map T.leaf else none) = some s := q
      split at q
      case isFalse => cases q
      obtain ⟨w, q1, rfl⟩ := Option.map_eq_some_iff.mp q
      obtain ⟨i, a1, a2, _⟩ := look_at k q1
      obtain ⟨v, b1, b2⟩ := r.get a1
      refine ⟨v, w, ?_, rfl, b2⟩
      unfold P.at1
      simp only [e]
      exact a2 v b1
    | _ => cases q
theorem Ow.at1 {a : Ac} {s : T} (x : Ow cc h F u t f) (q : t.get1 a = some s) : ∃ v f1 f2, at1 h u a = some v ∧ Ow cc h F v s f1 ∧ f.Perm (f1 ++ f2) ∧
    (s.isLeaf = false → ∀ h' F' s' f1', Stab h F h' F' → Keep f2 h h' → Ow cc h' F' v s' f1' → ∃ f', Ow cc h' F' u (t.set1 a s') f' ∧ f'.Perm (f1' ++ f2)) := by
  cases x with
  | hole u => cases a <;> cases q
  | leaf r =>
    obtain ⟨v, d', a1, rfl, a2⟩ := r.at1 q
    exact ⟨v, [], [], a1, .leaf a2, .refl _, fun z => by cases z⟩
  | @ls n us ds e r =>
    cases a with
    | ix i =>
      obtain ⟨w, q1, rfl⟩ := Option.map_eq_some_iff.mp q
      obtain ⟨v, a1, a2⟩ := r.at q1
      refine ⟨v, [], [n], ?_, .leaf a2, .refl _, fun z => by cases z⟩
      show (match Q.sL h (.ref n) with | some us => L2.atI us i | none => none) = _
      rw [Q.e_sL_ref, e]; exact a1
    | fld Cs f => cases q
  | @lT n us ts fp e r =>
    cases a with
    | ix i =>
      have q : P.atI ts i = some s := q
      unfold P.atI at q
      cases q1 : P.ixN ts.length i with
      | none => rw [q1] at q; cases q
      | some k =>
        rw [q1] at q
        obtain ⟨v, f1, f2, a1, a2, a3, a4⟩ := r.at (i := k) q
        refine ⟨v, f1, n :: f2, ?_, a2, ?_, fun _ h' F' s' f1' st k2 y => ?_⟩
        · show (match Q.sL h (.ref n) with | some us => L2.atI us i | none => none) = _
          rw [Q.e_sL_ref, e]
          show L2.atI us i = _
          unfold L2.atI
          rw [r.len, show L2.ixN ts.length i = some k from q1]
          exact a1
        · exact (a3.cons n).trans List.perm_middle.symm
        · obtain ⟨fp', b1, b2⟩ := a4 h' F' v s' f1' st (fun m z => k2 m (List.mem_cons_of_mem _ z)) y
          rw [list_set_same a1] at b1
          refine ⟨n :: fp', ?_, (b2.cons n).trans List.perm_middle.symm⟩
          have g : (T.lT ts).set1 (.ix i) s' = .lT (ts.set k s') := by
            show (match P.ixN ts.length i with | some k => T.lT (ts.set k s') | none => T.lT ts) = _
            rw [q1]
          rw [g]
          exact .lT ((k2 n List.mem_cons_self).trans e) b1
    | fld Cs f => cases q
  | dK e k r => cases a <;> cases q
  | dT e k r => cases a <;> cases q
  | @is n C us ts fp e k r =>
    cases a with
    | ix i => cases q
    | fld Cs f =>
      have q : (if C ∈ Cs then ts.lookup f else none) = some s := q
      split at q
      case isFalse => cases q
      obtain ⟨i, a1, a2, a3⟩ := look_at k q
      obtain ⟨v, f1, f2, b1, b2, b3, b4⟩ := r.at a1
      refine ⟨v, f1, n :: f2, ?_, b2, (b3.cons n).trans List.perm_middle.symm, fun _ h' F' s' f1' st k2 y => ?_⟩
      · unfold P.at1
        simp only [e]
        exact a2 v b1
      · obtain ⟨fp', c1, c2⟩ := b4 h' F' v s' f1' st (fun m z => k2 m (List.mem_cons_of_mem _ z)) y
        rw [list_set_same b1] at c1
        obtain ⟨d1, d2⟩ := a3 s'
        refine ⟨n :: fp', ?_, (c2.cons n).trans List.perm_middle.symm⟩
        unfold T.set1
        refine .is ((k2 n List.mem_cons_self).trans e) ?_ (by rw [d1]; exact c1)
        rw [k]
        have : (ts.map Prod.fst).map fs' = ((putF f s' ts).map Prod.fst).map fs' := by rw [d2]
        simpa [List.map_map, Function.comp_def] using this
theorem get_nil (t : T) : t.get [] = some t := by unfold T.get; rfl
theorem set_nil (t s : T) : t.set [] s = s := by unfold T.set; rfl
theorem atU_nil (h : Sto) (u : U) : atU h u [] = some u := by unfold atU; rfl
theorem Ow.at : ∀ (r : List Ac) {u : U} {t : T} {f : List Nat} {s : T}, Ow cc h F u t f → t.get r = some s → ∃ v f1 f2, atU h u r = some v ∧ Ow cc h F v s f1 ∧ f.Perm (f1 ++ f2) ∧
    (s.isLeaf = false → ∀ h' F' s' f1', Stab h F h' F' → Keep f2 h h' → Ow cc h' F' v s' f1' → ∃ f', Ow cc h' F' u (t.set r s') f' ∧ f'.Perm (f1' ++ f2))
  | [], u, t, f, s, x, q => by
    rw [get_nil] at q
    cases q
    refine ⟨u, f, [], atU_nil _ _, x, by simp, fun _ h' F' s' f1' st k y => ⟨f1', by rw [set_nil]; exact y, by simp⟩⟩
  | a :: r, u, t, f, s, x, q => by
    unfold T.get at q
    cases q1 : t.get1 a with
    | none => rw [q1] at q; cases q
    | some w =>
      rw [q1] at q
      obtain ⟨v, f1, f2, a1, a2, a3, a4⟩ := x.at1 q1
      obtain ⟨v', g1, g2, b1, b2, b3, b4⟩ := Ow.at r a2 q
      refine ⟨v', g1, g2 ++ f2, ?_, b2, ?_, fun z h' F' s' f1' st k y => ?_⟩
      · unfold atU; rw [a1]; exact b1
      · rw [← List.append_assoc]; exact a3.trans (b3.append_right f2)
      · obtain ⟨f', c1, c2⟩ := b4 z h' F' s' f1' st (keep_l k) y
        have wl : w.isLeaf = false := by
          cases w with
          | leaf d => rw [leaf_get r q] at z; cases z
          | _ => rfl
        obtain ⟨f'', d1, d2⟩ := a4 wl h' F' (w.set r s') f' st (keep_r k) c1
        refine ⟨f'', ?_, ?_⟩
        · unfold T.set; rw [q1]; exact d1
        · rw [← List.append_assoc]; exact d2.trans (c2.append_right f2)
/-- a place below a slot -/
theorem Ev.pt {i : Nat} {r : List Ac} {s : T} (x : Ev cc h F env e fp) (q : getP i r e = some s) (nl : s ≠ .hole) : ∃ o v f1 f2, env[i]? = some (some o) ∧ atU h o r = some v ∧ Ow cc h F v s f1 ∧ fp.Perm (f1 ++ f2) ∧
    (s.isLeaf = false → ∀ h' F' s' f1', Stab h F h' F' → Keep f2 h h' → Ow cc h' F' v s' f1' → ∃ fp', Ev cc h' F' env (setP i r s' e) fp' ∧ fp'.Perm (f1' ++ f2)) := by
  unfold getP at q
  cases q1 : e[i]? with
  | none => rw [q1] at q; cases q
  | some t =>
    rw [q1] at q
    obtain ⟨o, f1, f2, a1, a2, a3, a4⟩ := x.at q1
    cases o with
    | none =>
      obtain ⟨rfl, rfl⟩ := a2
      cases r with
      | nil => have q : T.get .hole [] = some s := q; rw [get_nil] at q; cases q; exact absurd rfl nl
      | cons a r => have q : T.get .hole (a :: r) = some s := q; unfold T.get at q; cases a <;> cases q
    | some o =>
      obtain ⟨v, g1, g2, b1, b2, b3, b4⟩ := Ow.at r a2 q
      refine ⟨o, v, g1, g2 ++ f2, a1, b1, b2, ?_, fun z h' F' s' f1' st k y => ?_⟩
      · rw [← List.append_assoc]; exact a3.trans (b3.append_right f2)
      · obtain ⟨f', c1, c2⟩ := b4 z h' F' s' f1' st (keep_l k) y
        obtain ⟨fp', d1, d2⟩ := a4 h' F' (some o) (t.set r s') f' st (keep_r k) c1
        rw [list_set_same a1] at d1
        refine ⟨fp', ?_, ?_⟩
        · unfold setP; rw [q1]; exact d1
        · rw [← List.append_assoc]; exact d2.trans (c2.append_right f2)
end
end P

set_option Elab.async false
set_option linter.all false
set_option maxRecDepth 100000
set_option maxHeartbeats 1000000
/-! PS3: expressions and tests do as their pure meanings say. -/
namespace P
open Q (U O Sto Env' R RS EM TM AM SM Sem')
section
variable (cc : Nat → Nat)
def Xd (h : Sto) (F : Nat → Prop) : Option Nat → Option (List (String × D)) → Prop
  | none, none => True
  | some n, some fs => F n ∧ ∃ us, h[n]? = some (.xd us) ∧ us.map Prod.fst = (fs.map fun p => fs' p.1) ∧ Dns cc h F (us.map Prod.snd) (fs.map Prod.snd)
  | _, _ => False
def Out {α β : Type} (q : Bool) (Rel : Sto → (Nat → Prop) → α → β → List Nat → Prop) (h : Sto) (F : Nat → Prop) (fp : List Nat) (env : Env') (r : R α) (s : PR β) : Prop := match s with
  | .ok b e' => ∃ a h' F' f1 f2, r = .ok a h' ∧ Rel h' F' a b f1 ∧ Ev cc h' F' env e' f2 ∧ Fr h F fp h' F' (f1 ++ f2) ∧ (q = true → Sm h h')
  | .exc C x e' => ∃ n h' F' f2, r = .exc (cc C) n h' ∧ Ev cc h' F' env e' f2 ∧ Fr h F fp h' F' f2 ∧ Xd cc h' F' n x
  | .bad => True
def Sim {α β : Type} (q : Bool) (Rel : Sto → (Nat → Prop) → α → β → List Nat → Prop) (m : Env' → Sto → R α) (p : Env → PR β) : Prop :=
  ∀ h F env e fp, Ev cc h F env e fp → SR h F fp → Out cc q Rel h F fp env (m env h) (p e)
def RD (h : Sto) (F : Nat → Prop) (u : U) (d : D) (f : List Nat) : Prop := f = [] ∧ Dn cc h F u d
def RX (s : Bool) (h : Sto) (F : Nat → Prop) (u : U) (d : D) (f : List Nat) : Prop := f = [] ∧ (if s = true then Dn cc h F u d else Tp cc h F u d)
def RT (h : Sto) (F : Nat → Prop) (u : U) (t : T) (f : List Nat) : Prop := Ow cc h F u t f
def RE {α : Type} (h : Sto) (F : Nat → Prop) (a b : α) (f : List Nat) : Prop := f = [] ∧ a = b
def RDs (h : Sto) (F : Nat → Prop) (u : List U) (d : List D) (f : List Nat) : Prop := f = [] ∧ Dns cc h F u d
def RTs (h : Sto) (F : Nat → Prop) (u : List U) (d : List T) (f : List Nat) : Prop := Ows cc h F u d f
/-- arguments: data, or one that is only looked at -/
def RA (s : Bool) (h : Sto) (F : Nat → Prop) (us : List U) (ds : List D) (f : List Nat) : Prop := f = [] ∧ (if s = true then Dns cc h F us ds else ∃ u d, us = [u] ∧ ds = [d] ∧ Tp cc h F u d)
end
section
variable {cc : Nat → Nat} {h h' h1 h2 : Sto} {F F' F1 F2 : Nat → Prop} {u : U} {d : D} {us : List U} {ds : List D} {t : T} {ts : List T} {f f1 f2 fp fp' fp1 fp2 : List Nat} {env env' : Env'} {e e' : Env} {i : Nat} {q s s1 s2 : Bool}
  {α β γ δ : Type}
theorem Out.ret0 {Rel : Sto → (Nat → Prop) → α → β → List Nat → Prop} {a : α} {b : β} (r : Rel h F a b []) (x : Ev cc h F env e fp) (sr : SR h F fp) : Out cc q Rel h F fp env (.ok a h) (.ok b e) :=
  ⟨a, h, F, [], fp, rfl, r, x, Fr.refl sr, fun _ => Sm.refl h⟩
theorem Out.bind {R1 : Sto → (Nat → Prop) → α → β → List Nat → Prop} {R2 : Sto → (Nat → Prop) → γ → δ → List Nat → Prop} {r : R α} {s : PR β} {g : α → Sto → R γ} {p : β → Env → PR δ} (o : Out cc q R1 h F fp env r s)
    (k : ∀ a b h1 F1 e1 f1 f2, R1 h1 F1 a b f1 → Ev cc h1 F1 env e1 f2 → Fr h F fp h1 F1 (f1 ++ f2) → (q = true → Sm h h1) → Out cc q R2 h1 F1 (f1 ++ f2) env (g a h1) (p b e1)) : Out cc q R2 h F fp env (r.bind g) (s.bind p) := by
  cases s with
  | bad => trivial
  | exc C x e' =>
    obtain ⟨n, h', F', f2, e1, b⟩ := o
    exact ⟨n, h', F', f2, by rw [e1]; rfl, b⟩
  | ok b e' =>
    obtain ⟨a, h1, F1, f1, f2, e1, r1, x1, fr, sm⟩ := o
    have := k a b h1 F1 e' f1 f2 r1 x1 fr sm
    rw [e1]
    show Out cc q R2 h F fp env (g a h1) (p b e')
    cases e2 : p b e' with
    | bad => trivial
    | exc C x e'' =>
      rw [e2] at this
      obtain ⟨n, h', F', f3, a1, a2, a3, a4⟩ := this
      exact ⟨n, h', F', f3, a1, a2, fr.trans a3, a4⟩
    | ok c e'' =>
      rw [e2] at this
      obtain ⟨a', h', F', f3, f4, a1, a2, a3, a4, a5⟩ := this
      exact ⟨a', h', F', f3, f4, a1, a2, a3, fr.trans a4, fun z => Sm.trans fr.len (sm z) (a5 z)⟩
theorem Out.hold {R2 R3 : Sto → (Nat → Prop) → α → β → List Nat → Prop} {r : R α} {s : PR β} (o : Out cc q R2 h F f2 env r s) (sr : SR h F (f1 ++ f2))
    (k : ∀ a b h' F' f', R2 h' F' a b f' → Stab h F h' F' → Keep f1 h h' → R3 h' F' a b (f1 ++ f')) : Out cc q R3 h F (f1 ++ f2) env r s := by
  cases s with
  | bad => trivial
  | exc C x e' =>
    obtain ⟨n, h', F', f3, a1, a2, a3, a4⟩ := o
    exact ⟨n, h', F', f3, a1, a2, (a3.hold sr).sub (List.sublist_append_right _ _), a4⟩
  | ok b e' =>
    obtain ⟨a, h', F', f3, f4, a1, a2, a3, a4, a5⟩ := o
    exact ⟨a, h', F', f1 ++ f3, f4, a1, k a b h' F' f3 a2 (a4.stab sr.right) (a4.kept sr), a3, by rw [List.append_assoc]; exact a4.hold sr, a5⟩
/-- what was held is given up -/
theorem Out.drop {R2 : Sto → (Nat → Prop) → α → β → List Nat → Prop} {r : R α} {s : PR β} (o : Out cc q R2 h F f2 env r s) (sr : SR h F (f1 ++ f2)) : Out cc q R2 h F (f1 ++ f2) env r s := by
  cases s with
  | bad => trivial
  | exc C x e' =>
    obtain ⟨n, h', F', f3, a1, a2, a3, a4⟩ := o
    exact ⟨n, h', F', f3, a1, a2, (a3.hold sr).sub (List.sublist_append_right _ _), a4⟩
  | ok b e' =>
    obtain ⟨a, h', F', f3, f4, a1, a2, a3, a4, a5⟩ := o
    exact ⟨a, h', F', f3, f4, a1, a2, a3, (a4.hold sr).sub (List.sublist_append_right _ _), a5⟩
theorem Out.rel {R2 R3 : Sto → (Nat → Prop) → α → β → List Nat → Prop} {r : R α} {s : PR β} (o : Out cc q R2 h F fp env r s) (k : ∀ a b h' F' f', R2 h' F' a b f' → R3 h' F' a b f') : Out cc q R3 h F fp env r s := by
  cases s with
  | bad => trivial
  | exc C x e' => exact o
  | ok b e' =>
    obtain ⟨a, h', F', f3, f4, a1, a2, a3⟩ := o
    exact ⟨a, h', F', f3, f4, a1, k _ _ _ _ _ a2, a3⟩
/-- a change of the result alone -/
theorem Out.bind0 {R1 : Sto → (Nat → Prop) → α → β → List Nat → Prop} {R2 : Sto → (Nat → Prop) → γ → δ → List Nat → Prop} {r : R α} {s : PR β} {g : α → Sto → R γ} {p : β → Env → PR δ} (sr : SR h F fp) (o : Out cc q R1 h F fp env r s)
    (k : ∀ a b h1 F1 e1 f2, R1 h1 F1 a b [] → Ev cc h1 F1 env e1 f2 → SR h1 F1 f2 → Stab h F h1 F1 → (q = true → Sm h h1) → Out cc q R2 h1 F1 f2 env (g a h1) (p b e1)) (n : ∀ a b h F f, R1 h F a b f → f = []) : Out cc q R2 h F fp env (r.bind g) (s.bind p) :=
  o.bind fun a b h1 F1 e1 f1 f2 r1 x1 fr sm => by
    have := n _ _ _ _ _ r1
    subst this
    exact k a b h1 F1 e1 f2 r1 x1 fr.sr (fr.stab sr) sm
theorem rd_nil : ∀ (a : U) (b : D) (h : Sto) (F : Nat → Prop) (f : List Nat), RD cc h F a b f → f = [] := fun _ _ _ _ _ x => x.1
theorem rx_nil {s : Bool} : ∀ (a : U) (b : D) (h : Sto) (F : Nat → Prop) (f : List Nat), RX cc s h F a b f → f = [] := fun _ _ _ _ _ x => x.1
theorem ra_nil {s : Bool} : ∀ (a : List U) (b : List D) (h : Sto) (F : Nat → Prop) (f : List Nat), RA cc s h F a b f → f = [] := fun _ _ _ _ _ x => x.1
theorem rds_nil : ∀ (a : List U) (b : List D) (h : Sto) (F : Nat → Prop) (f : List Nat), RDs cc h F a b f → f = [] := fun _ _ _ _ _ x => x.1
theorem re_nil : ∀ (a b : α) (h : Sto) (F : Nat → Prop) (f : List Nat), RE h F a b f → f = [] := fun _ _ _ _ _ x => x.1
theorem RX.tp (x : RX cc s h F u d f) : Tp cc h F u d := by
  obtain ⟨_, x⟩ := x
  split at x
  · exact x.tp
  · exact x
theorem RX.later (x : RX cc s h F u d f) (sr : SR h F fp) (st : Stab h F h1 F1) (sm : q = true → Sm h h1) (z : s = true ∨ q = true) : Tp cc h1 F1 u d := by
  rcases z with z | z
  · subst z
    have y : Dn cc h F u d := by have := x.2; simpa using this
    exact (y.mono st).tp
  · exact Tp.mono st sr (sm z) x.tp
theorem RD.rx (x : RD cc h F u d f) : RX cc true h F u d f := ⟨x.1, by simpa using x.2⟩
theorem Sim.rx {m : EM} {p : PE} (a : Sim cc q (RD cc) m p) : Sim cc q (RX cc true) m p := fun h F env e fp x sr => (a h F env e fp x sr).rel fun _ _ _ _ _ r => r.rx
theorem Sim.rd {m : EM} {p : PE} (a : Sim cc q (RX cc true) m p) : Sim cc q (RD cc) m p := fun h F env e fp x sr => (a h F env e fp x sr).rel fun _ _ _ _ _ r => ⟨r.1, by have := r.2; simpa using this⟩
theorem Sim.weak {Rel : Sto → (Nat → Prop) → α → β → List Nat → Prop} {m : Env' → Sto → R α} {p : Env → PR β} (a : Sim cc true Rel m p) : Sim cc false Rel m p := fun h F env e fp x sr => by
  have := a h F env e fp x sr
  cases e1 : p e with
  | bad => trivial
  | exc C y e' => rw [e1] at this; exact this
  | ok b e' =>
    rw [e1] at this
    obtain ⟨a, h', F', f1, f2, a1, a2, a3, a4, a5⟩ := this
    exact ⟨a, h', F', f1, f2, a1, a2, a3, a4, fun z => by cases z⟩
/-! slots -/
theorem sim_var {i : Nat} : Sim cc q (RD cc) (Q.mVar i) (pVar i) := fun h F env e fp x sr => by
  unfold pVar
  split
  · rename_i d q1
    obtain ⟨o, f1, f2, a1, a2, a3, _⟩ := x.at q1
    cases o with
    | none => cases a2.1
    | some u =>
      cases a2 with
      | leaf r => exact ⟨u, h, F, [], fp, by rw [Q.e_var, a1], ⟨rfl, r⟩, x, Fr.refl sr, fun _ => Sm.refl h⟩
  · trivial
theorem leaves_of : ∀ {us : List (PySem.Str × U)} {ts : List (String × T)} {ds : List (String × D)} {f : List Nat}, leaves ts = some ds → Ows cc h F (us.map Prod.snd) (ts.map Prod.snd) f → us.map Prod.fst = (ts.map fun p => fs' p.1) → us.map Prod.fst = (ds.map fun p => fs' p.1) ∧ Dns cc h F (us.map Prod.snd) (ds.map Prod.snd)
  | [], [], ds, f, q, _, _ => by cases q; exact ⟨rfl, .nil⟩
  | _ :: _, [], _, _, _, _, e => by simp at e
  | [], _ :: _, _, _, _, _, e => by simp at e
  | (k, u) :: us, (g, t) :: ts, ds, f, q, r, e => by
    simp only [List.map_cons, List.cons.injEq] at e
    cases t with
    | leaf d =>
      unfold leaves at q
      obtain ⟨ds', q1, rfl⟩ := Option.map_eq_some_iff.mp q
      simp only [List.map_cons] at r
      cases r with
      | cons a b =>
        obtain ⟨i1, i2⟩ := leaves_of q1 b e.2
        cases a with
        | leaf a => exact ⟨by simp [e.1, i1], .cons a i2⟩
    | _ => cases q
theorem Ow.vw (x : Ow cc h F u t f) (q : t.vw = some d) : Tp cc h F u d := by
  cases x with
  | leaf r => cases q; exact r.tp
  | ls e r => cases q; exact ⟨_, by rw [Q.e_mL_ref, e], r⟩
  | dK e k r => cases q; exact ⟨_, _, rfl, e, k, r⟩
  | dT e k r => cases q; exact ⟨_, _, rfl, e, k, r⟩
  | is e k r =>
    obtain ⟨ds, q1, rfl⟩ := Option.map_eq_some_iff.mp q
    obtain ⟨a, b⟩ := leaves_of q1 r k
    exact ⟨_, _, rfl, e, a, b⟩
  | hole u => cases q
  | lT e r => cases q
theorem sim_vw {i : Nat} : Sim cc q (RX cc false) (Q.mVar i) (pVw i) := fun h F env e fp x sr => by
  unfold pVw
  split
  · rename_i t q1
    obtain ⟨o, f1, f2, a1, a2, a3, _⟩ := x.at q1
    cases q2 : t.vw with
    | none => trivial
    | some d =>
      cases o with
      | none => obtain ⟨rfl, _⟩ := a2; cases q2
      | some u => exact ⟨u, h, F, [], fp, by rw [Q.e_var, a1], ⟨rfl, Ow.vw a2 q2⟩, x, Fr.refl sr, fun _ => Sm.refl h⟩
  · trivial
theorem sim_fv {i : Nat} : Sim cc q (RD cc) (Q.mVar i) (pFv i) := fun h F env e fp x sr => by
  unfold pFv
  split
  · rename_i t q1
    split
    · rename_i d q2
      obtain ⟨o, f1, f2, a1, a2, a3, a4⟩ := x.at q1
      cases o with
      | none => obtain ⟨rfl, _⟩ := a2; cases q2
      | some u =>
        have dn := Ow.frz a2 q2 (fun n => F n ∨ n ∈ f1) (fun _ y => .inl y) (fun _ y => .inr y)
        obtain ⟨fp', b1, b2⟩ := a4 h (fun n => F n ∨ n ∈ f1) (some u) (.leaf d) [] (Stab.freeze f1) (fun _ _ => rfl) (.leaf dn)
        rw [list_set_same a1] at b1
        exact ⟨u, h, _, [], fp', by rw [Q.e_var, a1], ⟨rfl, dn⟩, b1, ((Fr.freeze (sr.perm a3)).perm b2.symm).permL a3.symm, fun _ => Sm.refl h⟩
    · trivial
  · trivial
theorem sim_mv {i : Nat} : Sim cc q (RT cc) (Q.mVar i) (pMv i) := fun h F env e fp x sr => by
  unfold pMv
  split
  · trivial
  · rename_i t nh q1
    obtain ⟨o, f1, f2, a1, a2, a3, a4⟩ := x.at q1
    cases o with
    | none => obtain ⟨rfl, _⟩ := a2; exact (nh rfl).elim
    | some u =>
      obtain ⟨fp', b1, b2⟩ := a4 h F (some u) .hole [] .refl (fun _ _ => rfl) (.hole u)
      rw [list_set_same a1] at b1
      exact ⟨u, h, F, f1, fp', by rw [Q.e_var, a1], a2, b1, (Fr.refl sr).perm (a3.trans (List.Perm.append_left f1 b2.symm)), fun _ => Sm.refl h⟩
  · trivial
theorem sim_c {u : U} {d : D} (r : ∀ h F, Dn cc h F u d) : Sim cc q (RD cc) (Q.mC u) (pC d) := fun h F env e fp x sr => Out.ret0 ⟨rfl, r h F⟩ x sr
theorem sim_lf {m : EM} {p : PE} (a : Sim cc q (RD cc) m p) : Sim cc q (RT cc) m (pLf p) := fun h F env e fp x sr => by
  have := a h F env e fp x sr
  unfold pLf
  cases e1 : p e with
  | bad => trivial
  | exc C y e' => rw [e1] at this; exact this
  | ok b e' =>
    rw [e1] at this
    obtain ⟨a, h', F', f1, f2, a1, a2, a3⟩ := this
    obtain ⟨rfl, dn⟩ := a2
    exact ⟨a, h', F', [], f2, a1, .leaf dn, a3⟩
theorem sim_fz {m : EM} {p : PT} (a : Sim cc q (RT cc) m p) : Sim cc q (RD cc) m (pFz p) := fun h F env e fp x sr => by
  have := a h F env e fp x sr
  unfold pFz
  cases e1 : p e with
  | bad => trivial
  | exc C y e' => rw [e1] at this; exact this
  | ok b e' =>
    rw [e1] at this
    obtain ⟨u, h', F', f1, f2, a1, a2, a3, a4, a5⟩ := this
    show Out cc q (RD cc) h F fp env _ (oE b.fz e')
    cases q1 : b.fz with
    | none => trivial
    | some d =>
      have dn := Ow.frz a2 q1 (fun n => F' n ∨ n ∈ f1) (fun _ y => .inl y) (fun _ y => .inr y)
      exact ⟨u, h', _, [], f2, a1, ⟨rfl, dn⟩, Ev.mono (Stab.freeze f1) (fun _ _ => rfl) a3, a4.trans (Fr.freeze a4.sr), a5⟩
/-! ### operators -/
def OpB (cc : Nat → Nat) {α β : Type} (f : U → U → Sto → R α) (g : D → D → Option β) (Rel : Sto → (Nat → Prop) → α → β → List Nat → Prop) : Prop :=
  ∀ (q : Bool) (h : Sto) (F : Nat → Prop) (fp : List Nat) (env : Env') (e : Env) (u1 : U) (d1 : D) (u2 : U) (d2 : D), Ev cc h F env e fp → SR h F fp → Tp cc h F u1 d1 → Tp cc h F u2 d2 → Out cc q Rel h F fp env (f u1 u2 h) (oE (g d1 d2) e)
theorem sim_two {f : U → U → Sto → R α} {g : D → D → Option β} {Rel : Sto → (Nat → Prop) → α → β → List Nat → Prop} (ok : OpB cc f g Rel) {ma mb : EM} {pa pb : PE} (a : Sim cc q (RX cc s1) ma pa) (b : Sim cc q (RX cc s2) mb pb) (z : s1 = true ∨ q = true) :
    Sim cc q Rel (fun env h => (ma env h).bind fun x h1 => (mb env h1).bind fun y h2 => f x y h2) (fun e => (pa e).bind fun x e1 => (pb e1).bind fun y e2 => oE (g x y) e2) := fun h F env e fp x sr =>
  Out.bind0 sr (a h F env e fp x sr) (fun u d h1 F1 e1 f2 r1 x1 sr1 st sm => Out.bind0 sr1 (b h1 F1 env e1 f2 x1 sr1) (fun u2 d2 h2 F2 e2 f3 r2 x2 sr2 st2 sm2 => ok q h2 F2 f3 env e2 u d u2 d2 x2 sr2 (r1.later sr1 st2 sm2 z) r2.tp) rx_nil) rx_nil
theorem sim_bin {f : U → U → Sto → R U} {g : D → D → Option D} (ok : OpB cc f g (RD cc)) {ma mb : EM} {pa pb : PE} (a : Sim cc q (RX cc s1) ma pa) (b : Sim cc q (RX cc s2) mb pb) (z : s1 = true ∨ q = true) : Sim cc q (RD cc) (Q.mBin f ma mb) (pBin g pa pb) := sim_two ok a b z
theorem sim_add' {f : U → U → Sto → R U} (ok : OpB cc f tAdd (RT cc)) {ma mb : EM} {pa pb : PE} (a : Sim cc q (RX cc s1) ma pa) (b : Sim cc q (RX cc s2) mb pb) (z : s1 = true ∨ q = true) : Sim cc q (RT cc) (Q.mBin f ma mb) (pAdd pa pb) := sim_two ok a b z
theorem op_int {c : Int → Int → Prop} [∀ i j, Decidable (c i j)] {f : Int → Int → Int} {g : D → D → Option D} (hg : ∀ i j, g (.int i) (.int j) = if c i j then some (.int (f i j)) else none) (hn : ∀ x y, (∀ i j, x = .int i → y = .int j → False) → g x y = none) : OpB cc (Q.uI c f) g (RD cc) := by
  intro q h F fp env e u1 d1 u2 d2 x sr t1 t2
  by_cases z : ∃ i j, d1 = .int i ∧ d2 = .int j
  · obtain ⟨i, j, rfl, rfl⟩ := z
    cases t1; cases t2
    rw [hg]
    by_cases y : c i j
    · rw [if_pos y]
      have : Q.uI c f (.int i) (.int j) h = .ok (.int (f i j)) h := by unfold Q.uI; simp only; rw [if_pos y]
      rw [this]
      exact Out.ret0 ⟨rfl, .int _⟩ x sr
    · rw [if_neg y]; trivial
  · rw [hn d1 d2 fun i j a b => z ⟨i, j, a, b⟩]; trivial
end
end P

set_option Elab.async false
set_option linter.all false
set_option maxRecDepth 100000
set_option maxHeartbeats 1000000
/-! PS4: operators, tests, lists of arguments. -/
namespace P
open Q (U O Sto Env' R RS EM TM AM SM Sem')
section
variable {cc : Nat → Nat} {h h' h1 h2 : Sto} {F F' F1 F2 : Nat → Prop} {u : U} {d : D} {us : List U} {ds : List D} {t : T} {ts : List T} {f f1 f2 fp fp' fp1 fp2 : List Nat} {env env' : Env'} {e e' : Env} {i : Nat} {q s s1 s2 : Bool}
  {α β γ δ : Type}
theorem op_sub : OpB cc Q.uSub gSub (RD cc) := op_int (fun i j => by show some _ = _; rw [if_pos (show Q.cT i j from trivial)]) (fun x y n => by unfold gSub; split <;> first | rfl | exact (n _ _ rfl rfl).elim)
theorem op_int' {c : Int → Int → Prop} [∀ i j, Decidable (c i j)] {c2 : Int → Int → Prop} [∀ i j, Decidable (c2 i j)] {f : Int → Int → Int} {g : D → D → Option D} (hc : ∀ i j, c2 i j → c i j) (hg : ∀ i j, g (.int i) (.int j) = if c2 i j then some (.int (f i j)) else none) (hn : ∀ x y, (∀ i j, x = .int i → y = .int j → False) → g x y = none) : OpB cc (Q.uI c f) g (RD cc) := by
  intro q h F fp env e u1 d1 u2 d2 x sr t1 t2
  by_cases z : ∃ i j, d1 = .int i ∧ d2 = .int j
  · obtain ⟨i, j, rfl, rfl⟩ := z
    cases t1; cases t2
    rw [hg]
    by_cases y : c2 i j
    · rw [if_pos y]
      have : Q.uI c f (.int i) (.int j) h = .ok (.int (f i j)) h := by unfold Q.uI; simp only; rw [if_pos (hc i j y)]
      rw [this]
      exact Out.ret0 ⟨rfl, .int _⟩ x sr
    · rw [if_neg y]; trivial
  · rw [hn d1 d2 fun i j a b => z ⟨i, j, a, b⟩]; trivial
theorem op_mul : OpB cc Q.uMul gMul (RD cc) := op_int' (c := Q.cMul) (c2 := P.cMul) (f := fun i j => i * j) (fun i j h => by unfold P.cMul at h; unfold Q.cMul; omega) (fun i j => rfl) (fun x y n => by unfold gMul; split <;> first | rfl | exact (n _ _ rfl rfl).elim)
theorem op_div : OpB cc Q.uDiv gDiv (RD cc) := op_int' (c := Q.cDiv) (c2 := fun _ j => 0 < j ∧ j.natAbs < 1073741824) (f := fun i j => i / j) (fun i j h => by unfold Q.cDiv; omega) (fun i j => rfl) (fun x y n => by unfold gDiv; split <;> first | rfl | exact (n _ _ rfl rfl).elim)
theorem op_mod : OpB cc Q.uMod gMod (RD cc) := op_int (c := Q.cMod) (f := fun i j => i % j) (fun i j => by
  show (if 0 < j then some (D.int (i % j)) else none) = _
  by_cases z : 0 < j
  · rw [if_pos z, if_pos (show Q.cMod i j from z)]
  · rw [if_neg z, if_neg (show ¬ Q.cMod i j from z)]) (fun x y n => by unfold gMod; split <;> first | rfl | exact (n _ _ rfl rfl).elim)
theorem op_pow : OpB cc Q.uPow gPow (RD cc) := op_int' (c := Q.cPow) (c2 := fun i j => 0 ≤ j ∧ j.natAbs ≤ 1000 ∧ 0 ≤ i ∧ i.natAbs < 1000) (f := fun i j => i ^ j.toNat) (fun i j h => by unfold Q.cPow; omega) (fun i j => rfl) (fun x y n => by unfold gPow; split <;> first | rfl | exact (n _ _ rfl rfl).elim)
theorem Dns.app : ∀ {us : List U} {ds : List D} {vs : List U} {es : List D}, Dns cc h F us ds → Dns cc h F vs es → Dns cc h F (us ++ vs) (ds ++ es)
  | _, _, _, _, .nil, y => y
  | _, _, _, _, .cons x r, y => .cons x (Dns.app r y)
theorem Dns.take : ∀ (n : Nat) {us : List U} {ds : List D}, Dns cc h F us ds → Dns cc h F (us.take n) (ds.take n)
  | 0, _, _, _ => by simp; exact .nil
  | n + 1, _, _, .nil => by simp; exact .nil
  | n + 1, _, _, .cons x r => by simp; exact .cons x (Dns.take n r)
theorem Dns.drop : ∀ (n : Nat) {us : List U} {ds : List D}, Dns cc h F us ds → Dns cc h F (us.drop n) (ds.drop n)
  | 0, _, _, r => by simpa using r
  | n + 1, _, _, .nil => by simp; exact .nil
  | n + 1, _, _, .cons x r => by simp; exact Dns.drop n r
theorem Dns.set : ∀ (n : Nat) {us : List U} {ds : List D} {u : U} {d : D}, Dns cc h F us ds → Dn cc h F u d → Dns cc h F (us.set n u) (ds.set n d)
  | _, _, _, _, _, .nil, _ => by simp; exact .nil
  | 0, _, _, _, _, .cons x r, y => .cons y r
  | n + 1, _, _, _, _, .cons x r, y => .cons x (Dns.set n r y)
theorem cut_eq {α : Type} (xs : List α) (lo hi : Option Int) : P.cut xs lo hi = Q.cut xs lo hi := by
  have : ∀ n d o, P.sIx n d o = HT.sIx n d o := fun n d o => by cases o <;> rfl
  unfold P.cut Q.cut
  rw [this, this]
theorem Dns.cut {us : List U} {ds : List D} (r : Dns cc h F us ds) (lo hi : Option Int) : Dns cc h F (Q.cut us lo hi) (P.cut ds lo hi) := by
  rw [cut_eq]
  unfold Q.cut
  rw [r.len]
  exact (r.drop _).take _
/-- a new list -/
theorem out_new {us : List U} {ds : List D} (x : Ev cc h F env e fp) (sr : SR h F fp) (r : Dns cc h F us ds) : Out cc q (RT cc) h F fp env (.ok (.ref h.length) (h ++ [.lst us])) (.ok (.ls ds) e) := by
  have st := Stab.app sr [O.lst us]
  exact ⟨_, _, F, [h.length], fp, rfl, .ls (by rw [List.getElem?_append_right (Nat.le_refl _), Nat.sub_self]; rfl) (r.mono st), x.mono st (Keep.app sr _), Fr.app sr _, fun _ => Sm.app h _⟩
theorem aL_of_mL {u : U} {us : List U} (q : Q.mL h u = some us) : Q.aL h u = some us := by cases u <;> first | exact q | cases q
theorem sL_of_mL {u : U} {us : List U} (q : Q.mL h u = some us) : Q.sL h u = some us := by cases u <;> first | exact q | cases q
theorem op_add : OpB cc Q.uAdd tAdd (RT cc) := by
  intro q h F fp env e u1 d1 u2 d2 x sr t1 t2
  unfold tAdd
  split
  · cases t1; cases t2
    exact Out.ret0 (.leaf (.int _)) x sr
  · rename_i s t
    cases t1; cases t2
    split
    · rename_i z
      rw [Q.e_add_s, if_pos z]
      exact Out.ret0 (.leaf (.str _)) x sr
    · trivial
  · rename_i s t
    obtain ⟨us, a1, a2⟩ := t1
    obtain ⟨vs, b1, b2⟩ := t2
    split
    · rename_i z
      have g : Q.uAdd u1 u2 h = (match Q.mL h u1, Q.mL h u2 with
        | some us, some ts => if us.length + ts.length ≤ 16000000 then .ok (.ref h.length) (h ++ [.lst (us ++ ts)]) else .bad
        | _, _ => .bad) := by
        cases u1 <;> first | (cases a1; done) | (cases u2 <;> first | rfl | (cases b1; done))
      rw [g, a1, b1]
      simp only
      rw [if_pos (by rw [a2.len, b2.len]; exact z)]
      exact out_new x sr (a2.app b2)
    · trivial
  · rename_i s t
    cases t1 with
    | @tup us _ r1 =>
    cases t2 with
    | @tup vs _ r2 =>
    split
    · rename_i z
      show Out cc q (RT cc) _ _ _ _ (if us.length + vs.length ≤ 16000000 then R.ok (.tup (us ++ vs)) h else .bad) _
      rw [if_pos (by rw [r1.len, r2.len]; exact z)]
      exact Out.ret0 (.leaf (.tup (r1.app r2))) x sr
    · trivial
  · trivial

/-! ### arguments -/
theorem sim_dnil : Sim cc q (RDs cc) Q.aNil dNil := fun h F env e fp x sr => Out.ret0 ⟨rfl, .nil⟩ x sr
theorem sim_dcons {m : EM} {p : PE} {am : AM} {pa : PDs} (a : Sim cc q (RD cc) m p) (b : Sim cc q (RDs cc) am pa) : Sim cc q (RDs cc) (Q.aCons m am) (dCons p pa) := fun h F env e fp x sr =>
  Out.bind0 sr (a h F env e fp x sr) (fun u d h1 F1 e1 f2 r1 x1 sr1 st sm => Out.bind0 sr1 (b h1 F1 env e1 f2 x1 sr1) (fun us ds h2 F2 e2 f3 r2 x2 sr2 st2 sm2 => Out.ret0 ⟨rfl, .cons (r1.2.mono st2) r2.2⟩ x2 sr2) rds_nil) rd_nil
theorem sim_ra {am : AM} {pa : PDs} (a : Sim cc q (RDs cc) am pa) : Sim cc q (RA cc true) am pa := fun h F env e fp x sr => (a h F env e fp x sr).rel fun _ _ _ _ _ r => ⟨r.1, by simpa using r.2⟩
theorem sim_one {m : EM} {p : PE} (a : Sim cc q (RX cc s) m p) : Sim cc q (RA cc false) (Q.aCons m Q.aNil) (dCons p dNil) := fun h F env e fp x sr =>
  Out.bind0 sr (a h F env e fp x sr) (fun u d h1 F1 e1 f2 r1 x1 sr1 st sm => Out.ret0 ⟨rfl, u, d, rfl, rfl, r1.tp⟩ x1 sr1) rx_nil
theorem sim_tnil : Sim cc q (RTs cc) Q.aNil tNil := fun h F env e fp x sr => Out.ret0 .nil x sr
theorem sim_tup {am : AM} {pa : PDs} (a : Sim cc q (RDs cc) am pa) : Sim cc q (RD cc) (Q.mTup am) (pTup pa) := fun h F env e fp x sr =>
  Out.bind0 sr (a h F env e fp x sr) (fun us ds h1 F1 e1 f2 r1 x1 sr1 st sm => by
    by_cases z : ds.length ≤ 16000000
    · rw [if_pos z, if_pos (by rw [r1.2.len]; exact z)]
      exact Out.ret0 ⟨rfl, .tup r1.2⟩ x1 sr1
    · rw [if_neg z]; trivial) rds_nil
theorem sim_lst {am : AM} {pa : PDs} (a : Sim cc q (RDs cc) am pa) : Sim cc q (RT cc) (Q.mLst am) (pLst pa) := fun h F env e fp x sr =>
  Out.bind0 sr (a h F env e fp x sr) (fun us ds h1 F1 e1 f2 r1 x1 sr1 st sm => by
    by_cases z : ds.length ≤ 16000000
    · rw [if_pos z, if_pos (by rw [r1.2.len]; exact z)]
      exact out_new x1 sr1 r1.2
    · rw [if_neg z]; trivial) rds_nil
theorem sim_lsT {am : AM} {pa : PTs} (a : Sim cc q (RTs cc) am pa) : Sim cc q (RT cc) (Q.mLst am) (pLsT pa) := fun h F env e fp x sr =>
  (a h F env e fp x sr).bind fun us ts h1 F1 e1 f1 f2 r1 x1 fr sm => by
    by_cases z : ts.length ≤ 16000000
    · rw [if_pos z, if_pos (by rw [Ows.len r1]; exact z)]
      have sr1 := fr.sr
      have st := Stab.app sr1 [O.lst us]
      refine ⟨_, _, F1, h1.length :: f1, f2, rfl, .lT (by rw [List.getElem?_append_right (Nat.le_refl _), Nat.sub_self]; rfl) (Ows.mono st (Keep.app sr1.left _) r1), x1.mono st (Keep.app sr1.right _), Fr.app sr1 _, fun _ => Sm.app _ _⟩
    · rw [if_neg z]; trivial
/-! ### more operators -/
theorem op_ix : OpB cc Q.uIx gIx (RD cc) := by
  intro q h F fp env e u1 d1 u2 d2 x sr t1 t2
  have lst : ∀ {us : List U} {ds : List D} {i : Int}, (∀ s, u1 ≠ .str s) → Q.sL h u1 = some us → Dns cc h F us ds → Out cc q (RD cc) h F fp env (Q.uIx u1 (.int i) h) (oE (atI ds i) e) := by
    intro us ds i ns a r
    have g : Q.uIx u1 (.int i) h = (match Q.sL h u1 with
      | some us => Q.oR (L2.atI us i) h
      | none => .bad) := by cases u1 <;> first | rfl | exact (ns _ rfl).elim
    cases q1 : atI ds i with
    | none => trivial
    | some d =>
      obtain ⟨v, b1, b2⟩ := r.at q1
      rw [g, a]
      simp only [b1]
      exact Out.ret0 ⟨rfl, b2⟩ x sr
  unfold gIx
  split
  · cases t2; cases t1 with
    | kl r => exact lst (fun _ z => by cases z) rfl r
  · rename_i s i
    cases t1; cases t2
    rw [Q.e_ix_s]
    by_cases z : s.length ≤ 16000000
    · rw [if_pos z, if_pos z]
      cases q1 : atI s i with
      | none => trivial
      | some c =>
        have q1 : L2.atI s i = some c := q1
        rw [q1]
        exact Out.ret0 ⟨rfl, .str _⟩ x sr
    · rw [if_neg z, if_neg z]; trivial
  · cases t2
    obtain ⟨us, a, r⟩ := t1
    exact lst (fun s z => by subst z; cases a) (sL_of_mL a) r
  · cases t2; cases t1 with
    | tup r => exact lst (fun _ z => by cases z) rfl r
  · trivial
theorem sim_ono : Sim cc q RE Q.oNone oNo := fun h F env e fp x sr => Out.ret0 ⟨rfl, rfl⟩ x sr
theorem sim_oso {m : EM} {p : PE} (a : Sim cc q (RD cc) m p) : Sim cc q RE (Q.oSome m) (oSo p) := fun h F env e fp x sr =>
  Out.bind0 sr (a h F env e fp x sr) (fun u d h1 F1 e1 f2 r1 x1 sr1 st sm => by
    have r := r1.2
    cases r with
    | int i => exact Out.ret0 ⟨rfl, rfl⟩ x1 sr1
    | _ => trivial) rd_nil
theorem sim_sl {m : EM} {p : PE} {lo hi : Q.OM} {plo phi : PO} (a : Sim cc q (RX cc s) m p) (b : Sim cc q RE lo plo) (c : Sim cc q RE hi phi) (z : s = true ∨ q = true) : Sim cc q (RT cc) (Q.mSl m lo hi) (pSl p plo phi) := fun h F env e fp x sr =>
  Out.bind0 sr (a h F env e fp x sr) (fun u d h1 F1 e1 f2 r1 x1 sr1 st sm => Out.bind0 sr1 (b h1 F1 env e1 f2 x1 sr1) (fun l l' h2 F2 e2 f3 r2 x2 sr2 st2 sm2 => Out.bind0 sr2 (c h2 F2 env e2 f3 x2 sr2) (fun v v' h3 F3 e3 f4 r3 x3 sr3 st3 sm3 => by
    obtain ⟨_, rfl⟩ := r2
    obtain ⟨_, rfl⟩ := r3
    have t1 : Tp cc h3 F3 u d := r1.later sr1 (st2.trans st3) (fun y => by
      intro n l
      have hl : n < h2.length := by
        cases g : h1[n]? with
        | none => have := List.getElem?_eq_none_iff.mp g; omega
        | some o =>
          have := sm2 y n l
          rw [g] at this
          exact (List.getElem?_eq_some_iff.mp this).1
      rw [sm3 y n hl, sm2 y n l]) z
    cases d with
    | str s2 =>
      cases t1
      rw [Q.e_sl_s]
      show Out cc q (RT cc) _ _ _ _ _ (oE (if s2.length ≤ 16000000 then some (.leaf (.str (P.cut s2 l v))) else none) e3)
      by_cases w : s2.length ≤ 16000000
      · rw [if_pos w, if_pos w, cut_eq]
        exact Out.ret0 (.leaf (.str _)) x3 sr3
      · rw [if_neg w, if_neg w]; trivial
    | tup us =>
      cases t1 with
      | @tup us' _ r => exact Out.ret0 (.leaf (.tup (r.cut _ _))) x3 sr3
    | lst us =>
      obtain ⟨us', a1, r⟩ := t1
      have g : Q.uSl u l v h3 = .ok (.ref h3.length) (h3 ++ [.lst (Q.cut us' l v)]) := by
        cases u with
        | ref n => rw [Q.e_sl_ref, aL_of_mL a1]
        | fl w => cases a1; rfl
        | _ => cases a1
      rw [g]
      exact out_new x3 sr3 (r.cut _ _)
    | _ => trivial) re_nil) re_nil) rx_nil
theorem sim_neg {m : EM} {p : PE} (a : Sim cc q (RD cc) m p) : Sim cc q (RD cc) (Q.mNeg m) (pUn gNeg p) := fun h F env e fp x sr =>
  Out.bind0 sr (a h F env e fp x sr) (fun u d h1 F1 e1 f2 r1 x1 sr1 st sm => by
    have r := r1.2
    cases r with
    | int i => exact Out.ret0 ⟨rfl, .int _⟩ x1 sr1
    | _ => trivial) rd_nil
theorem sim_not {m : EM} {p : PE} (a : Sim cc q (RD cc) m p) : Sim cc q (RD cc) (Q.mNot m) (pUn gNot p) := fun h F env e fp x sr =>
  Out.bind0 sr (a h F env e fp x sr) (fun u d h1 F1 e1 f2 r1 x1 sr1 st sm => by
    have r := r1.2
    cases r with
    | bl i => exact Out.ret0 ⟨rfl, .bl _⟩ x1 sr1
    | _ => trivial) rd_nil
theorem sim_and {m m2 : EM} {p p2 : PE} (a : Sim cc q (RD cc) m p) (b : Sim cc q (RD cc) m2 p2) : Sim cc q (RD cc) (Q.mAnd m m2) (pAnd p p2) := fun h F env e fp x sr =>
  Out.bind0 sr (a h F env e fp x sr) (fun u d h1 F1 e1 f2 r1 x1 sr1 st sm => by
    have r := r1.2
    cases r with
    | bl i =>
      cases i with
      | true => exact b _ _ _ _ _ x1 sr1
      | false => exact Out.ret0 ⟨rfl, .bl _⟩ x1 sr1
    | _ => trivial) rd_nil
/-! ### tests -/
theorem sim_tand {t t2 : TM} {p p2 : PB} (a : Sim cc q RE t p) (b : Sim cc q RE t2 p2) : Sim cc q RE (Q.bAnd t t2) (tAnd p p2) := fun h F env e fp x sr =>
  Out.bind0 sr (a h F env e fp x sr) (fun u d h1 F1 e1 f2 r1 x1 sr1 st sm => by
    obtain ⟨_, rfl⟩ := r1
    cases u with
    | true => exact b _ _ _ _ _ x1 sr1
    | false => exact Out.ret0 ⟨rfl, rfl⟩ x1 sr1) re_nil
theorem sim_tor {t t2 : TM} {p p2 : PB} (a : Sim cc q RE t p) (b : Sim cc q RE t2 p2) : Sim cc q RE (Q.bOr t t2) (tOr p p2) := fun h F env e fp x sr =>
  Out.bind0 sr (a h F env e fp x sr) (fun u d h1 F1 e1 f2 r1 x1 sr1 st sm => by
    obtain ⟨_, rfl⟩ := r1
    cases u with
    | false => exact b _ _ _ _ _ x1 sr1
    | true => exact Out.ret0 ⟨rfl, rfl⟩ x1 sr1) re_nil
theorem sim_tnot {t : TM} {p : PB} (a : Sim cc q RE t p) : Sim cc q RE (Q.bNot t) (tNot p) := fun h F env e fp x sr =>
  Out.bind0 sr (a h F env e fp x sr) (fun u d h1 F1 e1 f2 r1 x1 sr1 st sm => by
    obtain ⟨_, rfl⟩ := r1
    exact Out.ret0 ⟨rfl, rfl⟩ x1 sr1) re_nil
theorem sim_b {t : TM} {p : PB} (a : Sim cc q RE t p) : Sim cc q (RD cc) (Q.mB t) (pB p) := fun h F env e fp x sr =>
  Out.bind0 sr (a h F env e fp x sr) (fun u d h1 F1 e1 f2 r1 x1 sr1 st sm => by
    obtain ⟨_, rfl⟩ := r1
    exact Out.ret0 ⟨rfl, .bl _⟩ x1 sr1) re_nil
theorem sim_tru {m : EM} {p : PE} (a : Sim cc q (RX cc s) m p) : Sim cc q RE (Q.bTru m) (tTru p) := fun h F env e fp x sr =>
  Out.bind0 sr (a h F env e fp x sr) (fun u d h1 F1 e1 f2 r1 x1 sr1 st sm => by
    have t1 := r1.tp
    have done : ∀ b, Q.truU h1 u = some b → Out cc q RE h1 F1 f2 env (Q.oB (Q.truU h1 u) h1) (oE (some b) e1) := fun b z => by
      rw [z]; exact Out.ret0 ⟨rfl, rfl⟩ x1 sr1
    have em : ∀ {us : List U} {ds : List D}, Dns cc h1 F1 us ds → (!us.isEmpty) = !ds.isEmpty := fun r => by cases r <;> rfl
    cases d with
    | non => cases t1; exact done _ rfl
    | bl b => cases t1; exact done _ rfl
    | int b => cases t1; exact done _ rfl
    | str s2 =>
      cases t1
      unfold truD
      by_cases w : s2.length ≤ 16000000
      · simp only [if_pos w]; exact done _ (by show (if s2.length ≤ 16000000 then some (!s2.isEmpty) else none) = _; rw [if_pos w])
      · simp only [if_neg w]; trivial
    | tup ds => cases t1 with | tup r => exact done _ (by rw [← em r]; rfl)
    | lst ds =>
      obtain ⟨us, a1, r⟩ := t1
      refine done _ ?_
      rw [← em r]
      cases u with
      | ref n =>
        simp only [Q.e_mL_ref] at a1
        split at a1
        · rename_i q1; cases a1; unfold Q.truU; simp only [q1]
        · cases a1
      | fl w => cases a1; rfl
      | _ => cases a1
    | dK ds =>
      obtain ⟨n, us, rfl, a1, a2, r⟩ := t1
      refine done _ ?_
      unfold Q.truU
      simp only [a1]
      congr 1
      cases us with
      | nil => cases ds with
        | nil => rfl
        | cons _ _ => simp at a2
      | cons _ _ => cases ds with
        | nil => simp at a2
        | cons _ _ => rfl
    | _ => trivial) rx_nil
end
end P

set_option Elab.async false
set_option linter.all false
set_option maxRecDepth 100000
set_option maxHeartbeats 1000000
/-! PS5: comparisons, built-ins, comprehensions, iteration. -/
namespace P
open Q (U O Sto Env' R RS EM TM AM SM Sem')
section
variable {cc : Nat → Nat} {h h' h1 h2 : Sto} {F F' F1 F2 : Nat → Prop} {u : U} {d : D} {us : List U} {ds : List D} {t : T} {ts : List T} {f f1 f2 fp fp' fp1 fp2 : List Nat} {env env' : Env'} {e e' : Env} {i : Nat} {q s s1 s2 : Bool}
  {α β γ δ : Type}
/-! data as the lower layer knows it -/
mutual
def py : D → PySem.PyData
  | .non => .none
  | .bl b => .bool b
  | .int i => .int i
  | .str s => .str ⟨s.toArray⟩
  | .tup ds => .tuple (pys ds)
  | .lst ds => .list (pys ds)
  | _ => .none
def pys : List D → List PySem.PyData
  | [] => []
  | d :: ds => py d :: pys ds
end
mutual
theorem pyd_of : ∀ {d : D} {u : U} {n m : Nat}, Dn cc h F u d → D.ok n d = true → n < m → Q.pyd m h u = some (py d)
  | .non, _, n, m + 1, .non, _, _ => by unfold py; rfl
  | .bl b, _, n, m + 1, .bl _, _, _ => by unfold py; rfl
  | .int b, _, n, m + 1, .int _, _, _ => by unfold py; rfl
  | .str b, _, n, m + 1, .str _, _, _ => by unfold py; rfl
  | .tup ds, _, n, m + 1, .tup (us := us) r, q, l => by
    cases n with
    | zero => simp [D.ok] at q
    | succ n =>
      simp only [D.ok] at q
      show (Q.allO (Q.pyd m h) us).map PySem.PyData.tuple = _
      rw [pyds_of r q (by omega)]
      unfold py; rfl
  | .lst ds, _, n, m + 1, .fl (us := us) r, q, l => by
    cases n with
    | zero => simp [D.ok] at q
    | succ n =>
      simp only [D.ok] at q
      show (Q.allO (Q.pyd m h) us).map PySem.PyData.list = _
      rw [pyds_of r q (by omega)]
      unfold py; rfl
  | .lst ds, _, n, m + 1, .lst (us := us) f e r, q, l => by
    cases n with
    | zero => simp [D.ok] at q
    | succ n =>
      simp only [D.ok] at q
      rename_i k
      show (match Q.aL h (.ref k) with | some us => (Q.allO (Q.pyd m h) us).map PySem.PyData.list | none => none) = _
      rw [Q.e_aL_ref, e]
      simp only
      rw [pyds_of r q (by omega)]
      unfold py; rfl
  | .kl ds, _, n, _, .kl _, q, _ => by cases n <;> simp [D.ok] at q
  | .dK ds, _, n, _, .dK _ _ _ _, q, _ => by cases n <;> simp [D.ok] at q
  | .dT ds, _, n, _, .dT _ _ _ _, q, _ => by cases n <;> simp [D.ok] at q
  | .dKl ds, _, n, _, .dKl _ _ _ _, q, _ => by cases n <;> simp [D.ok] at q
  | .ins C ds, _, n, _, .ins _ _ _ _, q, _ => by cases n <;> simp [D.ok] at q
theorem pyds_of : ∀ {ds : List D} {us : List U} {n m : Nat}, Dns cc h F us ds → D.oks n ds = true → n < m → Q.allO (Q.pyd m h) us = some (pys ds)
  | [], _, _, _, .nil, _, _ => by unfold Q.allO pys; rfl
  | d :: ds, _, n, m, .cons x r, q, l => by
    unfold D.oks at q
    rw [Bool.and_eq_true] at q
    unfold Q.allO
    rw [pyd_of x q.1 l, pyds_of r q.2 l]
    simp only [pys]
end
mutual
theorem lay_py : ∀ {d : D} {n : Nat}, D.ok n d = true → PySem.PyData.canLay0 (py d) = true ∧ PySem.PyData.depth (py d) ≤ n
  | .non, n, _ => by simp [py, PySem.PyData.canLay0, PySem.PyData.depth]
  | .bl b, n, _ => by simp [py, PySem.PyData.canLay0, PySem.PyData.depth]
  | .int b, n, _ => by simp [py, PySem.PyData.canLay0, PySem.PyData.depth]
  | .str b, n, q => by
    refine ⟨?_, by simp [py, PySem.PyData.depth]⟩
    have q : b.all (· < 1114112) = true := by cases n <;> simpa [D.ok] using q
    simp only [py, PySem.PyData.canLay0, PySem.PyData.strOk]
    simpa using q
  | .tup ds, 0, q => by simp [D.ok] at q
  | .tup ds, n + 1, q => by
    simp only [D.ok] at q
    obtain ⟨a, b⟩ := lay_pys q
    simp only [py, PySem.PyData.canLay0, PySem.PyData.depth]
    exact ⟨a, by omega⟩
  | .lst ds, 0, q => by simp [D.ok] at q
  | .lst ds, n + 1, q => by
    simp only [D.ok] at q
    obtain ⟨a, b⟩ := lay_pys q
    simp only [py, PySem.PyData.canLay0, PySem.PyData.depth]
    exact ⟨a, by omega⟩
  | .kl ds, n, q => by cases n <;> simp [D.ok] at q
  | .dK ds, n, q => by cases n <;> simp [D.ok] at q
  | .dT ds, n, q => by cases n <;> simp [D.ok] at q
  | .dKl ds, n, q => by cases n <;> simp [D.ok] at q
  | .ins C ds, n, q => by cases n <;> simp [D.ok] at q
theorem lay_pys : ∀ {ds : List D} {n : Nat}, D.oks n ds = true → PySem.PyData.canLayAll0 (pys ds) = true ∧ PySem.PyData.depthAll (pys ds) ≤ n
  | [], n, _ => by simp [pys, PySem.PyData.canLayAll0, PySem.PyData.depthAll]
  | d :: ds, n, q => by
    unfold D.oks at q
    rw [Bool.and_eq_true] at q
    obtain ⟨a1, a2⟩ := lay_py q.1
    obtain ⟨b1, b2⟩ := lay_pys q.2
    simp only [pys, PySem.PyData.canLayAll0, PySem.PyData.depthAll]
    exact ⟨by rw [a1, b1]; rfl, by omega⟩
end
theorem str_beq (s t : List Nat) : ((⟨s.toArray⟩ : PySem.Str) == ⟨t.toArray⟩) = (s == t) := by
  by_cases e : s = t
  · subst e; simp
  · rw [beq_eq_false_iff_ne.mpr e, beq_eq_false_iff_ne.mpr fun z => e ((Q.str_eq s t).mp z)]
mutual
theorem eqv_py : ∀ {d e : D} {n m : Nat}, D.ok n d = true → D.ok m e = true → PySem.PyData.eqv (py d) (py e) = D.eq d e
  | d, e, n, m, a, b => by
    cases d with
    | tup ds =>
      cases n with
      | zero => simp [D.ok] at a
      | succ n =>
        cases e with
        | tup es =>
          cases m with
          | zero => simp [D.ok] at b
          | succ m =>
            simp only [D.ok] at a b
            simp only [py, PySem.PyData.eqv, D.eq]
            exact eqv_pys a b
        | kl _ => cases m <;> simp [D.ok] at b
        | dK _ => cases m <;> simp [D.ok] at b
        | dT _ => cases m <;> simp [D.ok] at b
        | dKl _ => cases m <;> simp [D.ok] at b
        | ins _ _ => cases m <;> simp [D.ok] at b
        | _ => simp [py, PySem.PyData.eqv, D.eq]
    | lst ds =>
      cases n with
      | zero => simp [D.ok] at a
      | succ n =>
        cases e with
        | lst es =>
          cases m with
          | zero => simp [D.ok] at b
          | succ m =>
            simp only [D.ok] at a b
            simp only [py, PySem.PyData.eqv, D.eq]
            exact eqv_pys a b
        | kl _ => cases m <;> simp [D.ok] at b
        | dK _ => cases m <;> simp [D.ok] at b
        | dT _ => cases m <;> simp [D.ok] at b
        | dKl _ => cases m <;> simp [D.ok] at b
        | ins _ _ => cases m <;> simp [D.ok] at b
        | _ => simp [py, PySem.PyData.eqv, D.eq]
    | kl _ => cases n <;> simp [D.ok] at a
    | dK _ => cases n <;> simp [D.ok] at a
    | dT _ => cases n <;> simp [D.ok] at a
    | dKl _ => cases n <;> simp [D.ok] at a
    | ins _ _ => cases n <;> simp [D.ok] at a
    | str x =>
      cases e with
      | str y => simp only [py, PySem.PyData.eqv, D.eq]; exact str_beq x y
      | kl _ => cases m <;> simp [D.ok] at b
      | dK _ => cases m <;> simp [D.ok] at b
      | dT _ => cases m <;> simp [D.ok] at b
      | dKl _ => cases m <;> simp [D.ok] at b
      | ins _ _ => cases m <;> simp [D.ok] at b
      | _ => simp [py, PySem.PyData.eqv, D.eq]
    | _ =>
      cases e with
      | kl _ => cases m <;> simp [D.ok] at b
      | dK _ => cases m <;> simp [D.ok] at b
      | dT _ => cases m <;> simp [D.ok] at b
      | dKl _ => cases m <;> simp [D.ok] at b
      | ins _ _ => cases m <;> simp [D.ok] at b
      | _ => simp [py, PySem.PyData.eqv, D.eq]
theorem eqv_pys : ∀ {ds es : List D} {n m : Nat}, D.oks n ds = true → D.oks m es = true → PySem.PyData.eqvAll (pys ds) (pys es) = D.eqs ds es
  | [], [], _, _, _, _ => by simp [pys, PySem.PyData.eqvAll, D.eqs]
  | [], _ :: _, _, _, _, _ => by simp [pys, PySem.PyData.eqvAll, D.eqs]
  | _ :: _, [], _, _, _, _ => by simp [pys, PySem.PyData.eqvAll, D.eqs]
  | d :: ds, e :: es, n, m, a, b => by
    unfold D.oks at a b
    rw [Bool.and_eq_true] at a b
    simp only [pys, PySem.PyData.eqvAll, D.eqs]
    rw [eqv_py a.1 b.1, eqv_pys a.2 b.2]
end
theorem shaped_py {n : Nat} (a : D.ok n d = true) (l : n ≤ 60) : PySem.SeqAt.shaped (py d) = true := by
  obtain ⟨b, c⟩ := lay_py a
  show (PySem.PyData.canLay0 (py d) && decide (PySem.PyData.depth (py d) ≤ 64)) = true
  rw [b]
  simp; omega
theorem pyd_tp {n m : Nat} (x : Tp cc h F u d) (q : D.ok n d = true) (l : n < m) : Q.pyd m h u = some (py d) := by
  cases d with
  | lst ds =>
    obtain ⟨us, a, r⟩ := x
    cases n with
    | zero => simp [D.ok] at q
    | succ n =>
      cases m with
      | zero => omega
      | succ m =>
        simp only [D.ok] at q
        have g : Q.pyd (m + 1) h u = (Q.allO (Q.pyd m h) us).map PySem.PyData.list := by
          cases u with
          | fl w => cases a; rfl
          | ref k =>
            show (match Q.aL h (.ref k) with | some us => (Q.allO (Q.pyd m h) us).map PySem.PyData.list | none => none) = _
            rw [aL_of_mL a]
          | _ => cases a
        rw [g, pyds_of r q (by omega)]
        simp only [py]; rfl
  | dK _ => cases n <;> simp [D.ok] at q
  | dT _ => cases n <;> simp [D.ok] at q
  | ins _ _ => cases n <;> simp [D.ok] at q
  | _ => exact pyd_of x q l
/-! ### comparisons -/
def CmpD (cc : Nat → Nat) (f : Sto → U → U → Option Bool) (g : D → D → Option Bool) : Prop := ∀ h F u1 d1 u2 d2 b, Tp cc h F u1 d1 → Tp cc h F u2 d2 → g d1 d2 = some b → f h u1 u2 = some b
theorem sim_cmp {f : Sto → U → U → Option Bool} {g : D → D → Option Bool} (ok : CmpD cc f g) {ma mb : EM} {pa pb : PE} (a : Sim cc q (RX cc s1) ma pa) (b : Sim cc q (RX cc s2) mb pb) (z : s1 = true ∨ q = true) : Sim cc q RE (Q.bCmp f ma mb) (tCmp g pa pb) :=
  sim_two (f := fun x y h => Q.oB (f h x y) h) (fun q h F fp env e u1 d1 u2 d2 x sr t1 t2 => by
    cases e1 : g d1 d2 with
    | none => trivial
    | some b =>
      show Out cc q RE h F fp env (Q.oB (f h u1 u2) h) _
      rw [ok h F u1 d1 u2 d2 b t1 t2 e1]
      exact Out.ret0 ⟨rfl, rfl⟩ x sr) a b z
theorem cmp_int {p : Int → Int → Bool} : CmpD cc (Q.cI p) (P.cI p) := fun h F u1 d1 u2 d2 b t1 t2 e => by
  unfold P.cI at e
  split at e
  · cases t1; cases t2; cases e; rfl
  · cases e
theorem cmp_lt : CmpD cc Q.cLt P.cLt := cmp_int
theorem cmp_gt : CmpD cc Q.cGt P.cGt := cmp_int
theorem atom_tp (x : Tp cc h F u d) (a : atom d = true) : (d = .non ∧ u = .non) ∨ (∃ b, d = .bl b ∧ u = .bl b) ∨ (∃ i, d = .int i ∧ u = .int i) ∨ ∃ s, d = .str s ∧ u = .str s := by
  cases d with
  | non => cases x; exact .inl ⟨rfl, rfl⟩
  | bl b => cases x; exact .inr (.inl ⟨_, rfl, rfl⟩)
  | int b => cases x; exact .inr (.inr (.inl ⟨_, rfl, rfl⟩))
  | str b => cases x; exact .inr (.inr (.inr ⟨_, rfl, rfl⟩))
  | _ => cases a
theorem deep_tp {n : Nat} (x : Tp cc h F u d) (a : ¬ atom d = true) (c : D.ok n d = true) : (∃ us, u = .tup us) ∨ (∃ us, u = .fl us) ∨ ∃ n, u = .ref n := by
  cases d with
  | tup ds => cases x with | tup r => exact .inl ⟨_, rfl⟩
  | lst ds => obtain ⟨us, a, _⟩ := x; cases u <;> first | exact .inr (.inl ⟨_, rfl⟩) | exact .inr (.inr ⟨_, rfl⟩) | cases a
  | non => exact absurd rfl a
  | bl _ => exact absurd rfl a
  | int _ => exact absurd rfl a
  | str _ => exact absurd rfl a
  | _ => cases n <;> simp [D.ok] at c
theorem cmp_eq : CmpD cc Q.cEq P.cEq := fun h F u1 d1 u2 d2 b t1 t2 e => by
  unfold P.cEq at e
  split at e
  · rename_i c
    cases e
    rw [Bool.or_eq_true, Bool.and_eq_true, Bool.and_eq_true, Bool.and_eq_true] at c
    have deep : D.ok 50 d1 = true → D.ok 50 d2 = true → Q.eqP h u1 u2 = some (D.eq d1 d2) := fun a1 a2 => by
      unfold Q.eqP
      rw [pyd_tp t1 a1 (by decide), pyd_tp t2 a2 (by decide)]
      simp only
      rw [if_pos ⟨shaped_py a1 (by decide), shaped_py a2 (by decide)⟩, eqv_py a1 a2]
    by_cases at1 : atom d1 = true
    · by_cases at2 : atom d2 = true
      · rcases atom_tp t1 at1 with ⟨rfl, rfl⟩ | ⟨b1, rfl, rfl⟩ | ⟨b1, rfl, rfl⟩ | ⟨b1, rfl, rfl⟩ <;> rcases atom_tp t2 at2 with ⟨rfl, rfl⟩ | ⟨b2, rfl, rfl⟩ | ⟨b2, rfl, rfl⟩ | ⟨b2, rfl, rfl⟩ <;> first
          | (simp [Q.cEq, D.eq]; done)
          | (simp only [Q.cEq, D.eq]; congr 1; by_cases z : b1 = b2 <;> simp [z]; done)
          | (exact deep (by simp [D.ok]) (by simp [D.ok]))
      · rcases c with ⟨⟨_, c⟩, _⟩ | ⟨c1, c2⟩
        · exact absurd c at2
        · have d2' : Q.cEq h u1 u2 = Q.eqP h u1 u2 := by
            rcases deep_tp t2 at2 c2 with ⟨us, rfl⟩ | ⟨us, rfl⟩ | ⟨n, rfl⟩ <;> cases u1 <;> rfl
          rw [d2', deep c1 c2]
    · rcases c with ⟨⟨c, _⟩, _⟩ | ⟨c1, c2⟩
      · exact absurd c at1
      · have d1' : Q.cEq h u1 u2 = Q.eqP h u1 u2 := by
          rcases deep_tp t1 at1 c1 with ⟨us, rfl⟩ | ⟨us, rfl⟩ | ⟨n, rfl⟩ <;> cases u2 <;> rfl
        rw [d1', deep c1 c2]
  · cases e
theorem cmp_ne : CmpD cc Q.cNe P.cNe := fun h F u1 d1 u2 d2 b t1 t2 e => by
  unfold P.cNe at e
  unfold Q.cNe
  cases e1 : P.cEq d1 d2 with
  | none => rw [e1] at e; cases e
  | some c => rw [e1] at e; rw [cmp_eq h F u1 d1 u2 d2 c t1 t2 e1]; exact e
theorem cmp_is : CmpD cc Q.cIs P.cIs := fun h F u1 d1 u2 d2 b t1 t2 e => by
  cases d2 with
  | non =>
    cases t2
    cases d1 with
    | non => cases t1; cases e; rfl
    | lst ds => cases e; obtain ⟨us, a, _⟩ := t1; cases u1 <;> first | rfl | cases a
    | dK ds => cases e; obtain ⟨n, us, rfl, _⟩ := t1; rfl
    | dT ds => cases e; obtain ⟨n, us, rfl, _⟩ := t1; rfl
    | ins C ds => cases e; obtain ⟨n, us, rfl, _⟩ := t1; rfl
    | _ => cases e; cases t1; rfl
  | _ => unfold P.cIs at e; split at e <;> first | (rename_i z; cases z; done) | cases e
theorem cmp_isn : CmpD cc Q.cIsN P.cIsN := fun h F u1 d1 u2 d2 b t1 t2 e => by
  unfold P.cIsN at e
  unfold Q.cIsN
  cases e1 : P.cIs d1 d2 with
  | none => rw [e1] at e; cases e
  | some c => rw [e1] at e; rw [cmp_is h F u1 d1 u2 d2 c t1 t2 e1]; exact e
end
end P

set_option Elab.async false
set_option linter.all false
set_option maxRecDepth 100000
set_option maxHeartbeats 1000000
/-! PS6: membership, built-ins, fields, changes at places. -/
namespace P
open Q (U O Sto Env' R RS EM TM AM SM Sem')
section
variable {cc : Nat → Nat} {h h' h1 h2 : Sto} {F F' F1 F2 : Nat → Prop} {u : U} {d : D} {us : List U} {ds : List D} {t : T} {ts : List T} {f f1 f2 fp fp' fp1 fp2 : List Nat} {env env' : Env'} {e e' : Env} {i : Nat} {q s s1 s2 : Bool}
  {α β γ δ : Type}
theorem eqF_D {u v : U} {d e : D} (x : Tp cc h F u d) (y : Tp cc h F v e) (a : atom d = true) (b : atom e = true) : Q.eqF u v = D.eq d e := by
  rcases atom_tp x a with ⟨rfl, rfl⟩ | ⟨b1, rfl, rfl⟩ | ⟨b1, rfl, rfl⟩ | ⟨b1, rfl, rfl⟩ <;> rcases atom_tp y b with ⟨rfl, rfl⟩ | ⟨b2, rfl, rfl⟩ | ⟨b2, rfl, rfl⟩ | ⟨b2, rfl, rfl⟩ <;> simp [Q.eqF, D.eq]
theorem atom_flat (x : Tp cc h F u d) (a : atom d = true) : Q.flatU u = true := by
  rcases atom_tp x a with ⟨rfl, rfl⟩ | ⟨b1, rfl, rfl⟩ | ⟨b1, rfl, rfl⟩ | ⟨b1, rfl, rfl⟩ <;> rfl
theorem flat_atom (x : Dn cc h F u d) (a : Q.flatU u = true) : atom d = true := by cases x <;> first | rfl | cases a
theorem inF_D (x : Tp cc h F u d) (a : atom d = true) : ∀ {us : List U} {ds : List D}, Dns cc h F us ds → ds.all atom = true → Q.inF u us = (ds.any fun y => D.eq y d) ∧ us.all Q.flatU = true
  | _, _, .nil, _ => ⟨rfl, rfl⟩
  | _, _, .cons y r, b => by
    rw [List.all_cons, Bool.and_eq_true] at b
    obtain ⟨i1, i2⟩ := inF_D x a r b.2
    refine ⟨?_, by rw [List.all_cons, atom_flat y.tp b.1, i2]; rfl⟩
    show (Q.eqF _ u || Q.inF u _) = _
    rw [List.any_cons, i1, eqF_D y.tp x b.1 a]
theorem all_atom : ∀ {us : List U} {ds : List D}, Dns cc h F us ds → us.all Q.flatU = true → ds.all atom = true
  | _, _, .nil, _ => rfl
  | _, _, .cons y r, b => by
    rw [List.all_cons, Bool.and_eq_true] at b
    rw [List.all_cons, flat_atom y b.1, all_atom r b.2]; rfl
theorem tp_atom (x : Tp cc h F u d) (a : Q.flatU u = true) : atom d = true := by
  cases d with
  | lst ds => obtain ⟨us, b, _⟩ := x; cases u <;> first | cases a; done | cases b
  | dK ds => obtain ⟨n, us, rfl, _⟩ := x; cases a
  | dT ds => obtain ⟨n, us, rfl, _⟩ := x; cases a
  | ins C ds => obtain ⟨n, us, rfl, _⟩ := x; cases a
  | _ => exact flat_atom x a
theorem any_py {n m : Nat} (a : D.ok n d = true) : ∀ {ds : List D}, D.oks m ds = true → ((pys ds).any fun z => PySem.PyData.eqv z (py d)) = ds.any fun y => D.eq y d
  | [], _ => by simp [pys]
  | y :: ds, b => by
    unfold D.oks at b
    rw [Bool.and_eq_true] at b
    simp only [pys, List.any_cons]
    rw [eqv_py b.1 a, any_py a b.2]
theorem cmp_in : CmpD cc Q.cIn P.cIn := fun h F u1 d1 u2 d2 b t1 t2 e => by
  cases d2 with
  | lst ds =>
    obtain ⟨us, a, r⟩ := t2
    have e : P.cIn0 d1 ds = some b := by cases d1 <;> exact e
    unfold P.cIn0 at e
    split at e
    · rename_i c
      cases e
      unfold Q.cIn
      rw [sL_of_mL a]
      simp only
      by_cases w : Q.flatU u1 = true ∧ us.all Q.flatU = true
      · rw [if_pos w]
        rw [(inF_D t1 (tp_atom t1 w.1) r (all_atom r w.2)).1]
      · rw [if_neg w]
        rw [Bool.or_eq_true, Bool.and_eq_true, Bool.and_eq_true] at c
        rcases c with c | c
        · exact absurd ⟨atom_flat t1 c.1, (inF_D t1 c.1 r c.2).2⟩ w
        · have o2 : D.ok 50 (.lst ds) = true := by simp only [D.ok]; exact c.2
          have p2 := pyd_tp (m := 60) (show Tp cc h F u2 (.lst ds) from ⟨us, a, r⟩) o2 (by decide)
          unfold Q.inP
          rw [pyd_tp t1 c.1 (by decide), p2]
          simp only [py]
          have s2 := shaped_py o2 (by decide)
          simp only [py] at s2
          rw [if_pos ⟨shaped_py c.1 (by decide), s2⟩, any_py c.1 c.2]
    · cases e
  | tup ds =>
    cases t2 with
    | @tup us _ r =>
      have e : (if (atom d1 && ds.all atom) = true then some (ds.any fun y => D.eq y d1) else none) = some b := by cases d1 <;> exact e
      split at e
      · rename_i c
        cases e
        rw [Bool.and_eq_true] at c
        obtain ⟨i1, i2⟩ := inF_D t1 c.1 r c.2
        show (if Q.flatU u1 = true ∧ us.all Q.flatU = true then some (Q.inF u1 us) else _) = _
        rw [if_pos ⟨atom_flat t1 c.1, i2⟩, i1]
      · cases e
  | _ => cases d1 <;> cases e
theorem cmp_nin : CmpD cc Q.cNin P.cNin := fun h F u1 d1 u2 d2 b t1 t2 e => by
  unfold P.cNin at e
  unfold Q.cNin
  cases e1 : P.cIn d1 d2 with
  | none => rw [e1] at e; cases e
  | some c => rw [e1] at e; rw [cmp_in h F u1 d1 u2 d2 c t1 t2 e1]; exact e
/-! isinstance -/
def tyQ : Ty → Q.Ty
  | .bool => .bool | .int => .int | .str => .str | .tuple => .tuple | .list => .list | .dict => .dict
theorem is_tp (T : Ty) (x : Tp cc h F u d) {b : Bool} (e : isD T d = some b) : Q.isU (tyQ T) h u = some b := by
  rw [← e]
  cases d with
  | lst ds =>
    obtain ⟨us, a, _⟩ := x
    cases u with
    | ref n =>
      simp only [Q.e_mL_ref] at a
      split at a
      · rename_i z; unfold Q.isU; simp only [z]; cases T <;> rfl
      · cases a
    | fl w => cases T <;> rfl
    | _ => cases a
  | dK ds => obtain ⟨n, us, rfl, a, _⟩ := x; unfold Q.isU; simp only [a]; cases T <;> rfl
  | dT ds => obtain ⟨n, us, rfl, a, _⟩ := x; unfold Q.isU; simp only [a]; cases T <;> rfl
  | ins C ds => cases e
  | dKl ds => cases e
  | _ => cases x <;> cases T <;> rfl
theorem sim_is {T : Ty} {m : EM} {p : PE} (a : Sim cc q (RX cc s) m p) : Sim cc q RE (Q.bIs (tyQ T) m) (tIs T p) := fun h F env e fp x sr =>
  Out.bind0 sr (a h F env e fp x sr) (fun u d h1 F1 e1 f2 r1 x1 sr1 st sm => by
    cases q1 : isD T d with
    | none => trivial
    | some b => rw [is_tp T r1.tp q1]; exact Out.ret0 ⟨rfl, rfl⟩ x1 sr1) rx_nil
theorem sim_is2 {T S : Ty} {m : EM} {p : PE} (a : Sim cc q (RX cc s) m p) : Sim cc q RE (Q.bIs2 (tyQ T) (tyQ S) m) (tIs2 T S p) := fun h F env e fp x sr =>
  Out.bind0 sr (a h F env e fp x sr) (fun u d h1 F1 e1 f2 r1 x1 sr1 st sm => by
    cases q1 : isD T d with
    | none => trivial
    | some b =>
      cases q2 : isD S d with
      | none => trivial
      | some c =>
        rw [is_tp T r1.tp q1, is_tp S r1.tp q2]
        exact Out.ret0 ⟨rfl, rfl⟩ x1 sr1) rx_nil
/-! ### built-ins -/
def OpL (cc : Nat → Nat) {α β : Type} (s : Bool) (f : List U → Sto → R α) (g : List D → Option β) (Rel : Sto → (Nat → Prop) → α → β → List Nat → Prop) : Prop :=
  ∀ (q : Bool) (h : Sto) (F : Nat → Prop) (fp : List Nat) (env : Env') (e : Env) (us : List U) (ds : List D), Ev cc h F env e fp → SR h F fp → RA cc s h F us ds [] → Out cc q Rel h F fp env (f us h) (oE (g ds) e)
theorem sim_cb {f : List U → Sto → R U} {g : List D → Option D} (ok : OpL cc s f g (RD cc)) {am : AM} {pa : PDs} (a : Sim cc q (RA cc s) am pa) : Sim cc q (RD cc) (Q.mCB f am) (pCB g pa) := fun h F env e fp x sr =>
  Out.bind0 sr (a h F env e fp x sr) (fun us ds h1 F1 e1 f2 r1 x1 sr1 st sm => ok q h1 F1 f2 env e1 us ds x1 sr1 r1) ra_nil
theorem sim_ct {f : List U → Sto → R U} {g : List D → Option T} (ok : OpL cc s f g (RT cc)) {am : AM} {pa : PDs} (a : Sim cc q (RA cc s) am pa) : Sim cc q (RT cc) (Q.mCB f am) (pCT g pa) := fun h F env e fp x sr =>
  Out.bind0 sr (a h F env e fp x sr) (fun us ds h1 F1 e1 f2 r1 x1 sr1 st sm => ok q h1 F1 f2 env e1 us ds x1 sr1 r1) ra_nil
theorem ra_one {d : D} (x : RA cc s h F us [d] f) : ∃ u, us = [u] ∧ Tp cc h F u d := by
  obtain ⟨_, x⟩ := x
  split at x
  · cases x with
    | cons y r => cases r; exact ⟨_, rfl, y.tp⟩
  · obtain ⟨u, d', rfl, z, t⟩ := x
    cases z
    exact ⟨u, rfl, t⟩
theorem op_len : OpL cc s Q.uLen gLen (RD cc) := by
  intro q h F fp env e us ds x sr r
  unfold gLen
  split
  · obtain ⟨u, rfl, t⟩ := ra_one r
    cases t with
    | kl r =>
      rw [Q.e_len_kl, r.len]
      exact Out.ret0 ⟨rfl, .int _⟩ x sr
  · rename_i s2
    obtain ⟨u, rfl, t⟩ := ra_one r
    cases t
    rw [Q.e_len_s]
    by_cases z : s2.length ≤ 16000000
    · rw [if_pos z, if_pos z]; exact Out.ret0 ⟨rfl, .int _⟩ x sr
    · rw [if_neg z, if_neg z]; trivial
  · obtain ⟨u, rfl, t⟩ := ra_one r
    obtain ⟨us, a, r⟩ := t
    have g : Q.uLen [u] h = .ok (.int us.length) h := by
      cases u with
      | ref n => rw [Q.e_len_ref, sL_of_mL a]
      | fl w => cases a; rfl
      | _ => cases a
    rw [g, r.len]
    exact Out.ret0 ⟨rfl, .int _⟩ x sr
  · obtain ⟨u, rfl, t⟩ := ra_one r
    cases t with
    | tup r => rw [Q.e_len_tup, r.len]; exact Out.ret0 ⟨rfl, .int _⟩ x sr
  · trivial
theorem op_int1 : OpL cc s Q.uInt gInt (RD cc) := by
  intro q h F fp env e us ds x sr r
  unfold gInt
  split
  · obtain ⟨u, rfl, t⟩ := ra_one r; cases t; exact Out.ret0 ⟨rfl, .int _⟩ x sr
  · obtain ⟨u, rfl, t⟩ := ra_one r; cases t; exact Out.ret0 ⟨rfl, .int _⟩ x sr
  · trivial
theorem op_list : OpL cc s Q.uList gList (RT cc) := by
  intro q h F fp env e us ds x sr r
  have go : ∀ {u : U} {us : List U} {ds : List D}, Q.sL h u = some us → Dns cc h F us ds → Out cc q (RT cc) h F fp env (Q.uList [u] h) (oE (some (T.ls ds)) e) := fun a r => by
    rw [Q.e_list, a]; exact out_new x sr r
  unfold gList
  split
  · obtain ⟨u, rfl, t⟩ := ra_one r; cases t with | kl r => exact go rfl r
  · obtain ⟨u, rfl, t⟩ := ra_one r; obtain ⟨us, a, r⟩ := t; exact go (sL_of_mL a) r
  · obtain ⟨u, rfl, t⟩ := ra_one r; cases t with | tup r => exact go rfl r
  · trivial
theorem op_tuple : OpL cc s Q.uTuple gTuple (RD cc) := by
  intro q h F fp env e us ds x sr r
  unfold gTuple
  split
  · obtain ⟨u, rfl, t⟩ := ra_one r; obtain ⟨us, a, r⟩ := t
    rw [Q.e_tuple, sL_of_mL a]; exact Out.ret0 ⟨rfl, .tup r⟩ x sr
  · obtain ⟨u, rfl, t⟩ := ra_one r; cases t with | tup r => rw [Q.e_tuple]; exact Out.ret0 ⟨rfl, .tup r⟩ x sr
  · trivial
theorem ra_two {d1 d2 : D} (x : RA cc true h F us [d1, d2] f) : ∃ u1 u2, us = [u1, u2] ∧ Dn cc h F u1 d1 ∧ Dn cc h F u2 d2 := by
  obtain ⟨_, x⟩ := x
  simp only [if_true] at x
  cases x with
  | cons y r => cases r with | cons z w => cases w; exact ⟨_, _, rfl, y, z⟩
theorem op_min : OpL cc true Q.uMin gMin (RD cc) := by
  intro q h F fp env e us ds x sr r
  unfold gMin
  split
  · obtain ⟨u1, u2, rfl, a, b⟩ := ra_two r; cases a; cases b; rw [Q.e_min]; exact Out.ret0 ⟨rfl, .int _⟩ x sr
  · trivial
theorem op_max : OpL cc true Q.uMax gMax (RD cc) := by
  intro q h F fp env e us ds x sr r
  unfold gMax
  split
  · obtain ⟨u1, u2, rfl, a, b⟩ := ra_two r; cases a; cases b; rw [Q.e_max]; exact Out.ret0 ⟨rfl, .int _⟩ x sr
  · trivial
/-! texts -/
end
end P

set_option Elab.async false
set_option linter.all false
set_option maxRecDepth 100000
set_option maxHeartbeats 1000000
/-! PS7: paths. -/
namespace P
open Q (U O Sto Env' R RS EM TM AM SM Sem')
section
variable {cc : Nat → Nat} {h h' h1 h2 : Sto} {F F' F1 F2 : Nat → Prop} {u v : U} {d : D} {us : List U} {ds : List D} {t : T} {ts : List T} {f f1 f2 fp fp' fp1 fp2 : List Nat} {env env' : Env'} {e e' : Env} {i : Nat} {q s s1 s2 : Bool}
  {α β γ δ : Type}
/-- fields of data -/
theorem op_fld {Cs : List Nat} {g : String} {m : EM} {p : PE} (a : Sim cc q (RX cc s) m p) : Sim cc q (RD cc) (Q.mFld (Cs.map cc) (fs' g) m) (pUn (gFld Cs g) p) := fun h F env e fp x sr =>
  Out.bind0 sr (a h F env e fp x sr) (fun u d h1 F1 e1 f2 r1 x1 sr1 st sm => by
    have t := r1.tp
    cases d with
    | ins C fs =>
      obtain ⟨n, us, rfl, a1, a2, a3⟩ := t
      show Out cc q (RD cc) _ _ _ _ _ (oE (if C ∈ Cs then fs.lookup g else none) e1)
      by_cases z : C ∈ Cs
      · rw [if_pos z]
        cases q1 : fs.lookup g with
        | none => trivial
        | some y =>
          obtain ⟨i, b1, b2, _⟩ := look_at a2 q1
          obtain ⟨v, c1, c2⟩ := a3.get b1
          rw [Q.e_insU, a1]
          simp only
          rw [if_pos (List.mem_map_of_mem (f := cc) z), b2 v c1]
          exact Out.ret0 ⟨rfl, c2⟩ x1 sr1
      · rw [if_neg z]; trivial
    | _ => trivial) rx_nil
/-! ### paths -/
def RP (env : Env') (p : Pth) (h : Sto) (F : Nat → Prop) (u : U) (r : List Ac) (f : List Nat) : Prop := f = [] ∧ (∃ o, env[p.root]? = some (some o) ∧ atU h o r = some u) ∧ (p.isVar = true → r = [])
def SimP (cc : Nat → Nat) (m : EM) (p : Pth) : Prop := ∀ h F env e fp, Ev cc h F env e fp → SR h F fp → Out cc true (RP env p) h F fp env (m env h) (p.ev e)
theorem rp_nil {p : Pth} : ∀ (a : U) (b : List Ac) (h : Sto) (F : Nat → Prop) (f : List Nat), RP env p h F a b f → f = [] := fun _ _ _ _ _ x => x.1
theorem atP_cases (r : List Ac) : atP i r e = .bad ∨ (atP i r e = .ok r e ∧ ∃ t, getP i r e = some t ∧ t ≠ .hole) := by
  unfold atP
  split
  · exact .inl rfl
  · rename_i t nh q1
    exact .inr ⟨rfl, t, q1, nh⟩
  · exact .inl rfl
theorem simP_var {i : Nat} : SimP cc (Q.mVar i) (.var i) := fun h F env e fp x sr => by
  show Out cc true (RP env (.var i)) h F fp env _ (atP i [] e)
  rcases atP_cases (i := i) (e := e) [] with z | ⟨z, t, q1, nh⟩
  · rw [z]; trivial
  · rw [z]
    obtain ⟨o, v, f1, f2, a1, a2, _⟩ := x.pt q1 nh
    rw [atU_nil] at a2
    cases a2
    exact ⟨o, h, F, [], fp, by rw [Q.e_var, a1], ⟨rfl, ⟨o, a1, atU_nil _ _⟩, fun _ => rfl⟩, x, Fr.refl sr, fun _ => Sm.refl h⟩
theorem getP_app {r : List Ac} {a : Ac} {s : T} (q : getP i (r ++ [a]) e = some s) : ∃ t, getP i r e = some t ∧ t.get1 a = some s := by
  unfold getP at q ⊢
  cases q1 : e[i]? with
  | none => rw [q1] at q; cases q
  | some t =>
    rw [q1] at q
    simp only at q ⊢
    rw [get_app] at q
    cases q2 : t.get r with
    | none => rw [q2] at q; cases q
    | some w =>
      rw [q2] at q
      refine ⟨w, rfl, ?_⟩
      have q : w.get [a] = some s := q
      rw [get_cons] at q
      cases q3 : w.get1 a with
      | none => rw [q3] at q; cases q
      | some w' => rw [q3] at q; have q : w'.get [] = some s := q; rw [get_nil] at q; exact q
/-- what a path that leads somewhere gives below -/
theorem Ev.up {r : List Ac} {a : Ac} {s : T} {o : U} (x : Ev cc h F env e fp) (q : getP i (r ++ [a]) e = some s) (nh : s ≠ .hole) (ho : env[i]? = some (some o)) : ∃ t u, getP i r e = some t ∧ t.get1 a = some s ∧ atU h o r = some u ∧ ∃ f1, Ow cc h F u t f1 := by
  obtain ⟨t, q1, q2⟩ := getP_app q
  have nt : t ≠ .hole := fun z => by subst z; cases a <;> cases q2
  obtain ⟨o', v, f1, f2, a1, a2, a3, _⟩ := x.pt q1 nt
  rw [ho] at a1
  cases a1
  exact ⟨t, v, q1, q2, a2, f1, a3⟩
theorem simP_fld {m : EM} {p : Pth} {Cs : List Nat} {g : String} (a : SimP cc m p) : SimP cc (Q.mFld (Cs.map cc) (fs' g) m) (.fld p Cs g) := fun h F env e fp x sr =>
  Out.bind0 sr (a h F env e fp x sr) (fun u r h1 F1 e1 f2 r1 x1 sr1 st sm => by
    obtain ⟨_, ⟨o, b1, b2⟩, _⟩ := r1
    show Out cc true (RP env (.fld p Cs g)) _ _ _ _ _ (atP p.root (r ++ [.fld Cs g]) e1)
    rcases atP_cases (i := p.root) (e := e1) (r ++ [.fld Cs g]) with z | ⟨z, s, q1, nh⟩
    · rw [z]; trivial
    · rw [z]
      obtain ⟨t, u', c1, c2, c3, fo, c4⟩ := x1.up q1 nh b1
      rw [b2] at c3
      cases c3
      obtain ⟨v, g1, g2, d1, _⟩ := c4.at1 c2
      have key : Q.mFld (Cs.map cc) (fs' g) (Q.mC u) env h1 = .ok v h1 := by
        cases c4 with
        | @is n C us ts fp e1 k r' =>
          have c2 : (if C ∈ Cs then ts.lookup g else none) = some s := c2
          split at c2
          case isFalse => cases c2
          rename_i hC
          have d1 : (match h1[n]? with
            | some (.ins _ fs) => fs.lookup (fs' g)
            | _ => none) = some v := d1
          rw [e1] at d1
          rw [Q.e_fld, Q.e_c, Q.e_bind_ok, Q.e_insU, e1]
          simp only at d1 ⊢
          rw [if_pos (List.mem_map_of_mem (f := cc) hC), d1]; rfl
        | leaf dn =>
          cases dn with
          | @ins n C us ds fF e1 k r' =>
            have c2 : (if C ∈ Cs then (ds.lookup g).map T.leaf else none) = some s := c2
            split at c2
            case isFalse => cases c2
            rename_i hC
            have d1 : (match h1[n]? with
              | some (.ins _ fs) => fs.lookup (fs' g)
              | _ => none) = some v := d1
            rw [e1] at d1
            rw [Q.e_fld, Q.e_c, Q.e_bind_ok, Q.e_insU, e1]
            simp only at d1 ⊢
            rw [if_pos (List.mem_map_of_mem (f := cc) hC), d1]; rfl
          | _ => cases c2
        | _ => cases c2
      rw [Q.e_fld, Q.e_c, Q.e_bind_ok] at key
      rw [key]
      refine ⟨v, h1, F1, [], f2, rfl, ⟨rfl, ⟨o, b1, ?_⟩, fun z => by cases z⟩, x1, Fr.refl sr1, fun _ => Sm.refl _⟩
      rw [atU_app, b2]
      show atU h1 u [.fld Cs g] = some v
      unfold atU
      rw [d1]
      exact atU_nil _ _) rp_nil
theorem simP_ix {m mi : EM} {p : Pth} {pi : PE} (a : SimP cc m p) (b : Sim cc true (RD cc) mi pi) : SimP cc (Q.mBin Q.uIx m mi) (.ix p pi) := fun h F env e fp x sr =>
  Out.bind0 sr (a h F env e fp x sr) (fun u r h1 F1 e1 f2 r1 x1 sr1 st sm => Out.bind0 sr1 (b h1 F1 env e1 f2 x1 sr1) (fun w d h2 F2 e2 f3 r2 x2 sr2 st2 sm2 => by
    obtain ⟨_, ⟨o, b1, b2⟩, _⟩ := r1
    have b2 := atU_mono (sm2 rfl) b2
    obtain ⟨_, r2⟩ := r2
    cases r2 with
    | int k =>
      show Out cc true (RP env (.ix p pi)) _ _ _ _ _ (atP p.root (r ++ [.ix k]) e2)
      rcases atP_cases (i := p.root) (e := e2) (r ++ [.ix k]) with z | ⟨z, s, q1, nh⟩
      · rw [z]; trivial
      · rw [z]
        obtain ⟨t, u', c1, c2, c3, fo, c4⟩ := x2.up q1 nh b1
        rw [b2] at c3
        cases c3
        obtain ⟨v, g1, g2, d1, _⟩ := c4.at1 c2
        have d1' : (match Q.sL h2 u with
          | some us => L2.atI us k
          | none => none) = some v := by
          have : at1 h2 u (.ix k) = (match Q.sL h2 u with
            | some us => L2.atI us k
            | none => none) := by cases u <;> rfl
          rw [← this]; exact d1
        have key : Q.uIx u (.int k) h2 = .ok v h2 := by
          cases q5 : Q.sL h2 u with
          | none => rw [q5] at d1'; cases d1'
          | some us =>
            rw [q5] at d1'
            have g : Q.uIx u (.int k) h2 = (match Q.sL h2 u with
              | some us => Q.oR (L2.atI us k) h2
              | none => .bad) := by cases u <;> first | rfl | (cases q5; done)
            rw [g, q5]
            simp only at d1' ⊢
            rw [d1']; rfl
        rw [key]
        refine ⟨v, h2, F2, [], f3, rfl, ⟨rfl, ⟨o, b1, ?_⟩, fun z => by cases z⟩, x2, Fr.refl sr2, fun _ => Sm.refl _⟩
        rw [atU_app, b2]
        show atU h2 u [.ix k] = some v
        unfold atU
        rw [d1]
        exact atU_nil _ _
    | _ => trivial) rd_nil) rp_nil
theorem Out.anyQ {Rel : Sto → (Nat → Prop) → α → β → List Nat → Prop} {r : R α} {s : PR β} (o : Out cc true Rel h F fp env r s) : Out cc q Rel h F fp env r s := by
  cases s with
  | bad => trivial
  | exc C x e' => exact o
  | ok b e' =>
    obtain ⟨a, h', F', f3, f4, a1, a2, a3, a4, a5⟩ := o
    exact ⟨a, h', F', f3, f4, a1, a2, a3, a4, fun _ => a5 rfl⟩
/-- reading -/
theorem Out.bindP {R2 : Sto → (Nat → Prop) → U → δ → List Nat → Prop} {m : EM} {p : Pth} {k : List Ac → Env → PR δ} (a : SimP cc m p) (x : Ev cc h F env e fp) (sr : SR h F fp)
    (z : ∀ u r h1 F1 e1 f2, (∃ o, env[p.root]? = some (some o) ∧ atU h1 o r = some u) → Ev cc h1 F1 env e1 f2 → SR h1 F1 f2 → Stab h F h1 F1 → Out cc q R2 h1 F1 f2 env (.ok u h1) (k r e1)) : Out cc q R2 h F fp env (m env h) ((p.ev e).bind k) := by
  have : m env h = (m env h).bind fun u h1 => .ok u h1 := by cases m env h <;> rfl
  rw [this]
  exact Out.bind0 sr (Out.anyQ (a h F env e fp x sr)) (fun u r h1 F1 e1 f2 r1 x1 sr1 st sm => z u r h1 F1 e1 f2 r1.2.1 x1 sr1 st) rp_nil
theorem sim_vp {m : EM} {p : Pth} (a : SimP cc m p) : Sim cc q (RX cc false) m (pVp p) := fun h F env e fp x sr =>
  Out.bindP a x sr fun u r h1 F1 e1 f2 ⟨o, b1, b2⟩ x1 sr1 st => by
    split
    · rename_i t q1
      cases q2 : t.vw with
      | none => trivial
      | some d =>
        obtain ⟨o', v, g1, g2, c1, c2, c3, c4, _⟩ := x1.pt q1 (fun z => by subst z; cases q2)
        rw [b1] at c1; cases c1
        rw [b2] at c2; cases c2
        exact Out.ret0 ⟨rfl, c3.vw q2⟩ x1 sr1
    · trivial
/-! changes -/
def UpdOk (cc : Nat → Nat) (s : Bool) (f : U → List U → Sto → R U) (g : T → List D → Option (D × T)) : Prop := ∀ h F v t us ds d t' f1, Ow cc h F v t f1 → RA cc s h F us ds [] → g t ds = some (d, t') → t.isLeaf = false ∧
  ∃ n o u, n ∈ f1 ∧ f v us h = .ok u (h.set n o) ∧ ∀ fp, SR h F (f1 ++ fp) → Dn cc (h.set n o) F u d ∧ Ow cc (h.set n o) F v t' f1
/-- evaluated parts behind a path: the path is still there -/
theorem path_later {p : Pth} {q : Bool} {Rel : Sto → (Nat → Prop) → α → β → List Nat → Prop} {r : List Ac} {o u : U} {s : R α} {k : PR β} (b2 : atU h o r = some u) (b3 : p.isVar = true → r = []) (z : p.isVar = true ∨ q = true) (bb : Out cc q Rel h F fp env s k) :
    Out cc false (fun h' F' a b f => Rel h' F' a b f ∧ atU h' o r = some u) h F fp env s k := by
  cases k with
  | bad => trivial
  | exc C y e' => exact bb
  | ok y e' =>
    obtain ⟨a, h', F', f3, f4, a1, a2, a3, a4, a5⟩ := bb
    refine ⟨a, h', F', f3, f4, a1, ⟨a2, ?_⟩, a3, a4, fun z => by cases z⟩
    rcases z with z | z
    · have := b3 z
      subst this
      rw [atU_nil] at b2 ⊢
      exact b2
    · exact atU_mono (a5 z) b2
/-- a place changes -/
theorem out_set {i : Nat} {r : List Ac} {t' : T} {n : Nat} {ob : O} {Rel : Sto → (Nat → Prop) → α → β → List Nat → Prop} {a : α} {b : β} {g1 g2 : List Nat} (sr : SR h F fp) (c4 : fp.Perm (g1 ++ g2)) (n1 : n ∈ g1)
    (c5 : ∀ h' F' s' f1', Stab h F h' F' → Keep g2 h h' → Ow cc h' F' u s' f1' → ∃ fp', Ev cc h' F' env (setP i r s' e) fp' ∧ fp'.Perm (f1' ++ g2)) {g3 : List Nat} (n2 : Ow cc (h.set n ob) F u t' g3) (g3s : g3.Sublist g1) (n3 : Rel (h.set n ob) F a b []) : Out cc false Rel h F fp env (.ok a (h.set n ob)) (.ok b (setP i r t' e)) := by
  have sr' := sr.perm c4
  have n4 : n ∉ g2 := fun m => (List.nodup_append.mp sr'.nd).2.2 n n1 n m rfl
  obtain ⟨fp', d1, d2⟩ := c5 (h.set n ob) F t' g3 (Stab.set sr' (List.mem_append_left _ n1) ob) (Keep.set ob n4) n2
  exact ⟨a, _, F, [], fp', rfl, n3, d1, (((Fr.set sr' (List.mem_append_left _ n1) ob).sub (g3s.append_right g2)).perm d2.symm).permL c4.symm, fun z => by cases z⟩
theorem sim_upd {f : U → List U → Sto → R U} {g : T → List D → Option (D × T)} (ok : UpdOk cc s f g) {m : EM} {p : Pth} {am : AM} {pa : PDs} (a : SimP cc m p) (b : Sim cc q (RA cc s) am pa) (z : p.isVar = true ∨ q = true) : Sim cc false (RD cc) (Q.mLM f m am) (pUpd p pa g) := fun h F env e fp x sr =>
  Out.bind0 sr (Out.anyQ (a h F env e fp x sr)) (fun u r h1 F1 e1 f2 r1 x1 sr1 st sm => by
    obtain ⟨_, ⟨o, b1, b2⟩, b3⟩ := r1
    cases q1 : getP p.root r e1 with
    | none => trivial
    | some t =>
      cases t with
      | ls xs =>
        have al : (Q.aL h1 u).isSome = true := by
          obtain ⟨o', v, g1, g2, c1, c2, c3, _⟩ := x1.pt q1 (fun z => by cases z)
          rw [b1] at c1; cases c1
          rw [b2] at c2; cases c2
          cases c3 with
          | ls e r => rw [Q.e_aL_ref, e]; rfl
        rw [if_pos al]
        refine Out.bind0 sr1 (path_later b2 b3 z (b h1 F1 env e1 f2 x1 sr1)) (fun us ds h2 F2 e2 f3 r2 x2 sr2 st2 sm2 => ?_) (fun _ _ _ _ _ x => x.1.1)
        obtain ⟨ra, b2⟩ := r2
        cases q2 : getP p.root r e2 with
        | none => trivial
        | some t =>
          simp only
          cases q3 : g t ds with
          | none => trivial
          | some dt =>
            obtain ⟨d, t'⟩ := dt
            simp only
            have nh : t ≠ .hole := fun z => by
              subst z
              obtain ⟨_, n, o, u', m, _⟩ := ok h2 F2 (.ref 0) .hole us ds d t' [] (.hole _) ra q3
              cases m
            obtain ⟨o', v, g1, g2, c1, c2, c3, c4, c5⟩ := x2.pt q2 nh
            rw [b1] at c1; cases c1
            rw [b2] at c2; cases c2
            obtain ⟨lf, n, ob, u', m1, m2, m3⟩ := ok h2 F2 u t us ds d t' g1 c3 ra q3
            obtain ⟨m4, m5⟩ := m3 g2 (sr2.perm c4)
            rw [m2]
            exact out_set sr2 c4 m1 (c5 lf) m5 (List.Sublist.refl _) ⟨rfl, m4⟩
      | _ => trivial) rp_nil
theorem upd_app : UpdOk cc true Q.uApp P.uApp := by
  intro h F v t us ds d t' f1 w r q
  cases t with
  | ls xs =>
    cases ds with
    | nil => cases q
    | cons d1 ds =>
      cases ds with
      | cons _ _ => cases q
      | nil =>
        have q : (if xs.length < 16000000 then some (D.non, T.ls (xs ++ [d1])) else none) = some (d, t') := q
        split at q
        case isFalse => cases q
        rename_i hz
        cases q
        obtain ⟨_, r⟩ := r
        simp only [if_true] at r
        cases r with
        | @cons u _ _ _ y r =>
          cases r
          cases w with
          | @ls n ys _ e rr =>
            refine ⟨rfl, n, .lst (ys ++ [u]), .non, List.mem_singleton.mpr rfl, ?_, fun fp sr => ?_⟩
            · rw [Q.e_app, e]; simp only; rw [if_pos (by rw [rr.len]; exact hz)]
            · have st := Stab.set sr (List.mem_append_left _ (List.mem_singleton.mpr rfl)) (O.lst (ys ++ [u]))
              exact ⟨.non, .ls (by rw [List.getElem?_set_self (List.getElem?_eq_some_iff.mp e).1]) ((rr.app (.cons y .nil)).mono st)⟩
  | _ => cases q
end
end P

set_option Elab.async false
set_option linter.all false
set_option maxRecDepth 100000
set_option maxHeartbeats 1000000
/-! PS8: what is walked, comprehensions. -/
namespace P
open Q (U O Sto Env' R RS EM TM AM SM Sem')
section
variable {cc : Nat → Nat} {h h' h1 h2 : Sto} {F F' F1 F2 : Nat → Prop} {u v : U} {d : D} {us : List U} {ds : List D} {t : T} {ts : List T} {f f1 f2 fp fp' fp1 fp2 : List Nat} {env env' : Env'} {e e' : Env} {i : Nat} {q s s1 s2 : Bool}
  {α β γ δ : Type}
/-- what is walked is frozen -/
def RI (cc : Nat → Nat) (h : Sto) (F : Nat → Prop) (a : Q.Chk × List U) (b : List D) (f : List Nat) : Prop := f = [] ∧ Dns cc h F a.2 b ∧ ∀ p ∈ a.1, F p.1 ∧ h[p.1]? = some (.lst p.2)
theorem ri_nil : ∀ (a : Q.Chk × List U) (b : List D) (h : Sto) (F : Nat → Prop) (f : List Nat), RI cc h F a b f → f = [] := fun _ _ _ _ _ x => x.1
def ChkF (h : Sto) (F : Nat → Prop) (c : Q.Chk) : Prop := ∀ p ∈ c, F p.1 ∧ h[p.1]? = some (.lst p.2)
theorem ChkF.mono {c : Q.Chk} (x : ChkF h F c) (st : Stab h F h' F') : ChkF h' F' c := fun p m => ⟨st.le _ (x p m).1, (st.eq _ (x p m).1).trans (x p m).2⟩
theorem ChkF.ok {c : Q.Chk} (x : ChkF h F c) : Q.chkOk c h := fun p m => (x p m).2
theorem rng_dns (lo : Int) (n : Nat) : Dns cc h F (Q.rng lo n) (P.rng lo n) := by
  have : ∀ l : List Nat, Dns cc h F (l.map fun i => U.int (lo + (i : Nat))) (l.map fun i => D.int (lo + (i : Nat))) := by
    intro l
    induction l with
    | nil => exact .nil
    | cons x r ih => exact .cons (.int _) ih
  exact this _
theorem sim_r1 {am : AM} {pa : PDs} (a : Sim cc q (RDs cc) am pa) : Sim cc q (RI cc) (Q.itR1 am) (iR1 pa) := fun h F env e fp x sr =>
  Out.bind0 sr (a h F env e fp x sr) (fun us ds h1 F1 e1 f2 r1 x1 sr1 st sm => by
    obtain ⟨_, r⟩ := r1
    cases q1 : gR1 ds with
    | none => trivial
    | some l =>
      unfold gR1 at q1
      split at q1
      case h_2 => cases q1
      rename_i j
      split at q1
      case isFalse => cases q1
      rename_i z
      cases q1
      cases r with
      | cons y r =>
        cases r; cases y
        simp only; rw [if_pos (by omega)]
        exact Out.ret0 ⟨rfl, rng_dns _ _, fun _ m => nomatch m⟩ x1 sr1) rds_nil
theorem sim_r2 {am : AM} {pa : PDs} (a : Sim cc q (RDs cc) am pa) : Sim cc q (RI cc) (Q.itR2 am) (iR2 pa) := fun h F env e fp x sr =>
  Out.bind0 sr (a h F env e fp x sr) (fun us ds h1 F1 e1 f2 r1 x1 sr1 st sm => by
    obtain ⟨_, r⟩ := r1
    cases q1 : gR2 ds with
    | none => trivial
    | some l =>
      unfold gR2 at q1
      split at q1
      case h_2 => cases q1
      rename_i j
      split at q1
      case isFalse => cases q1
      rename_i z
      cases q1
      cases r with
      | cons y r =>
        cases r with
        | cons y2 r =>
        cases r; cases y; cases y2
        simp only; rw [if_pos (by omega)]
        exact Out.ret0 ⟨rfl, rng_dns _ _, fun _ m => nomatch m⟩ x1 sr1) rds_nil
theorem sim_ie {m : EM} {p : PE} (a : Sim cc q (RD cc) m p) : Sim cc q (RI cc) (Q.itE m) (iE p) := fun h F env e fp x sr =>
  Out.bind0 sr (a h F env e fp x sr) (fun u d h1 F1 e1 f2 r1 x1 sr1 st sm => by
    obtain ⟨_, r⟩ := r1
    cases r with
    | str s =>
      refine Out.ret0 ⟨rfl, ?_, fun _ m => nomatch m⟩ x1 sr1
      have : ∀ l : List Nat, Dns cc h1 F1 (l.map fun c => U.str [c]) (l.map fun c => D.str [c]) := by
        intro l
        induction l with
        | nil => exact .nil
        | cons x r ih => exact .cons (.str _) ih
      exact this _
    | tup r => exact Out.ret0 (a := ([], _)) ⟨rfl, r, fun _ m => nomatch m⟩ x1 sr1
    | fl r => exact Out.ret0 (a := ([], _)) ⟨rfl, r, fun _ m => nomatch m⟩ x1 sr1
    | kl r => exact Out.ret0 (a := ([], _)) ⟨rfl, r, fun _ m => nomatch m⟩ x1 sr1
    | @lst n us _ fF e r =>
      show Out cc q (RI cc) h1 F1 f2 env (match Q.sL h1 (.ref n) with | some us => R.ok (Q.chkOf (.ref n) us, us) h1 | none => .bad) _
      rw [Q.e_sL_ref, e]
      exact Out.ret0 ⟨rfl, r, fun p m => by
        have : p = (n, us) := by simpa [Q.chkOf] using m
        subst this
        exact ⟨fF, e⟩⟩ x1 sr1
    | _ => trivial) rd_nil
/-! ### targets -/
/-- another frame of the same slots where the pure one has nothing -/
theorem Ev.swap : ∀ {env env' : Env'} {e : Env} {fp : List Nat}, Ev cc h F env e fp → env'.length = env.length → (∀ (i : Nat) (t : T), e[i]? = some t → t ≠ T.hole → env'[i]? = env[i]?) → Ev cc h F env' e fp
  | [], [], _, _, .nil, _, _ => .nil
  | [], _ :: _, _, _, _, l, _ => by simp at l
  | _ :: _, [], _, _, _, l, _ => by simp at l
  | o :: env, o' :: env', _, _, .cons (t := t) (f1 := f1) x r, l, k => by
    have r' := Ev.swap r (by simpa using l) fun i t q n => by simpa using k (i + 1) t (by simpa using q) n
    by_cases z : t = .hole
    · subst z
      have hf : f1 = [] := by
        cases o with
        | none => exact x.2
        | some u => cases x; rfl
      subst hf
      refine .cons ?_ r'
      cases o' with
      | none => exact ⟨rfl, rfl⟩
      | some u => exact .hole u
    · have : o' = o := by simpa using k 0 t rfl z
      subst this
      exact .cons x r'
theorem kill_get : ∀ (K : List Nat) (e : Env) (i : Nat) (t : T), (P.kill K e)[i]? = some t → t ≠ T.hole → i ∉ K ∧ e[i]? = some t
  | [], e, i, t, q, n => ⟨by simp, q⟩
  | k :: K, e, i, t, q, n => by
    obtain ⟨a, b⟩ := kill_get K (e.set k .hole) i t q n
    by_cases z : k = i
    · subst z
      have : k < e.length := by have := (List.getElem?_eq_some_iff.mp b).1; simpa using this
      rw [List.getElem?_set_self this] at b
      exact absurd (Option.some.inj b).symm n
    · rw [List.getElem?_set_ne z] at b
      exact ⟨by simp [a, Ne.symm z], b⟩
theorem Ev.kill : ∀ (K : List Nat) {e : Env} {fp : List Nat}, Ev cc h F env e fp → ∃ fp', Ev cc h F env (kill K e) fp' ∧ ∃ f1, fp.Perm (f1 ++ fp')
  | [], e, fp, x => ⟨fp, x, [], .refl _⟩
  | k :: K, e, fp, x => by
    obtain ⟨fp1, x1, f1, p1⟩ := x.hole k
    obtain ⟨fp2, x2, f2, p2⟩ := Ev.kill K x1
    exact ⟨fp2, x2, f1 ++ f2, by rw [List.append_assoc]; exact p1.trans (p2.append_left f1)⟩
theorem wipe_get : ∀ (vs : List Nat) (env : Env') (i : Nat), i ∉ vs → (Q.wipeE env vs)[i]? = env[i]?
  | [], env, i, _ => rfl
  | v :: vs, env, i, n => by
    show ((Q.wipeE env vs).set v none)[i]? = _
    rw [List.getElem?_set_ne (fun z => n (by simp [z])), wipe_get vs env i (fun z => n (List.mem_cons_of_mem _ z))]
theorem wipe_len : ∀ (vs : List Nat) (env : Env'), (Q.wipeE env vs).length = env.length
  | [], env => rfl
  | v :: vs, env => by show ((Q.wipeE env vs).set v none).length = _; rw [List.length_set, wipe_len vs env]
/-- frames alike but at the slots that are killed -/
theorem Ev.swapK {vs : List Nat} (x : Ev cc h F env (P.kill vs e) fp) (l : env'.length = env.length) (k : ∀ i, i ∉ vs → env'[i]? = env[i]?) : Ev cc h F env' (P.kill vs e) fp :=
  x.swap l fun i t q n => k i (kill_get vs e i t q n).1
theorem setA_get {α : Type} : ∀ {env : List (Option α)} {is : List Nat} {us : List α} {i : Nat}, i ∉ is → (Q.setA env is us)[i]? = env[i]?
  | env, [], us, i, _ => by unfold Q.setA; rfl
  | env, j :: is, [], i, _ => by unfold Q.setA; rfl
  | env, j :: is, u :: us, i, n => by
    unfold Q.setA
    rw [setA_get (fun z => n (List.mem_cons_of_mem _ z)), List.getElem?_set_ne (fun z => n (by simp [z]))]
theorem setA_len {α : Type} : ∀ {env : List (Option α)} {is : List Nat} {us : List α}, (Q.setA env is us).length = env.length
  | env, [], us => by unfold Q.setA; rfl
  | env, j :: is, [] => by unfold Q.setA; rfl
  | env, j :: is, u :: us => by unfold Q.setA; rw [setA_len]; simp
def ctQ : CT → Q.CT
  | .one i => .one i
  | .tup is => .tup is
  | .lst is => .lst is
  | .nst i is => .nst i is
  | .nsl is i => .nsl is i
theorem Ev.setA : ∀ {is : List Nat} {us : List U} {ds : List D} {env : Env'} {e : Env} {fp : List Nat}, Ev cc h F env e fp → Dns cc h F us ds → us.length = is.length → ∃ fp', Ev cc h F (Q.setA env is us) (P.setA e is ds) fp' ∧ ∃ f1, fp.Perm (f1 ++ fp')
  | [], _, _, env, e, fp, x, _, _ => by unfold Q.setA P.setA; exact ⟨fp, x, [], .refl _⟩
  | i :: is, _, _, env, e, fp, x, .nil, l => by simp at l
  | i :: is, _, _, env, e, fp, x, .cons (u := u) y r, l => by
    unfold Q.setA P.setA
    obtain ⟨fp1, x1, f1, p1⟩ := x.putD i y
    obtain ⟨fp3, x3, f3, p3⟩ := Ev.setA x1 r (by simpa using l)
    refine ⟨fp3, x3, f1 ++ f3, ?_⟩
    rw [List.append_assoc]
    exact p1.trans (p3.append_left f1)
/-- a target takes data -/
theorem ct_asg {c : CT} {e1 : Env} (x : Ev cc h F env e fp) (y : Dn cc h F u d) (q1 : c.asg d e = some e1) : ∃ env1, (ctQ c).asg u env h = some env1 ∧ env1.length = env.length ∧ (∀ i, i ∉ c.ix → env1[i]? = env[i]?) ∧ ∃ fp', Ev cc h F env1 e1 fp' ∧ ∃ f1, fp.Perm (f1 ++ fp') := by
  cases c with
  | one i =>
    have q1 : some (e.set i (.leaf d)) = some e1 := by cases d <;> exact q1
    cases q1
    obtain ⟨fp1, x1, f1, p1⟩ := x.putD i y
    exact ⟨env.set i (some u), rfl, by simp, fun j n => List.getElem?_set_ne (fun z => n (by simp [CT.ix, z])), fp1, x1, f1, p1⟩
  | tup is =>
    cases y with
    | @tup us ds r =>
      have q1 : (if ds.length = is.length then some (P.setA e is ds) else none) = some e1 := q1
      split at q1
      case isFalse => cases q1
      rename_i hl
      cases q1
      obtain ⟨fp1, x1, f1, p1⟩ := x.setA r (by rw [r.len]; exact hl)
      refine ⟨Q.setA env is us, ?_, setA_len, fun j n => setA_get n, fp1, x1, f1, p1⟩
      show (if us.length = is.length then some (Q.setA env is us) else none) = _
      rw [if_pos (by rw [r.len]; exact hl)]
    | _ => cases q1
  | lst is =>
    cases d with
    | lst ds =>
      obtain ⟨us, a1, r⟩ := y.tp
      have q1 : (if ds.length = is.length then some (P.setA e is ds) else none) = some e1 := q1
      split at q1
      case isFalse => cases q1
      rename_i hl
      cases q1
      obtain ⟨fp1, x1, f1, p1⟩ := x.setA r (by rw [r.len]; exact hl)
      refine ⟨Q.setA env is us, ?_, setA_len, fun j n => setA_get n, fp1, x1, f1, p1⟩
      show (match Q.mL h u with | some us => if us.length = is.length then some (Q.setA env is us) else none | none => none) = _
      rw [a1]
      simp only
      rw [if_pos (by rw [r.len]; exact hl)]
    | _ => cases q1
  | nst i is =>
    unfold CT.asg at q1
    split at q1 <;> try (cases q1; done)
    all_goals try contradiction
    rename_i i' is' xd ds hq
    cases hq
    split at q1
    case isFalse => cases q1
    rename_i hl
    cases q1
    cases y with
    | tup r =>
    cases r with
    | cons ya yr =>
    cases yr with
    | cons yb yr2 =>
    cases yr2
    cases yb with
    | @tup us _ r =>
    obtain ⟨fp1, x1, f1, p1⟩ := x.putD i ya
    obtain ⟨fp2, x2, f2, p2⟩ := x1.setA r (by rw [r.len]; exact hl)
    refine ⟨Q.setA (env.set i (some _)) is us, ?_, by rw [setA_len]; simp, fun j n => ?_, fp2, x2, f1 ++ f2, ?_⟩
    · show (if us.length = is.length then some (Q.setA (env.set i (some _)) is us) else none) = _
      rw [if_pos (by rw [r.len]; exact hl)]
    · rw [setA_get (fun z => n (List.mem_cons_of_mem _ z)), List.getElem?_set_ne (fun z => n (by simp [CT.ix, z]))]
    · rw [List.append_assoc]; exact p1.trans (p2.append_left f1)
  | nsl is i =>
    unfold CT.asg at q1
    split at q1 <;> try (cases q1; done)
    all_goals try contradiction
    rename_i is' i' ds xd hq
    cases hq
    split at q1
    case isFalse => cases q1
    rename_i hl
    cases q1
    cases y with
    | tup r =>
    cases r with
    | cons ya yr =>
    cases yr with
    | cons yb yr2 =>
    cases yr2
    cases ya with
    | @tup us _ r =>
    obtain ⟨fp1, x1, f1, p1⟩ := x.setA r (by rw [r.len]; exact hl)
    obtain ⟨fp2, x2, f2, p2⟩ := x1.putD i yb
    refine ⟨(Q.setA env is us).set i (some _), ?_, by simp [setA_len], fun j n => ?_, fp2, x2, f1 ++ f2, ?_⟩
    · show (if us.length = is.length then some ((Q.setA env is us).set i (some _)) else none) = _
      rw [if_pos (by rw [r.len]; exact hl)]
    · rw [List.getElem?_set_ne (fun z => n (by simp [CT.ix, z])), setA_get (fun z => n (List.mem_cons_of_mem _ z))]
    · rw [List.append_assoc]; exact p1.trans (p2.append_left f1)
/-! ### comprehensions -/
theorem lc_go {c : CT} {t : TM} {me : EM} {pt : PB} {pe : PE} {vs : List Nat} {n : Nat} {env0 : Env'} (ht : Sim cc q RE t pt) (he : Sim cc q (RD cc) me pe) (hc : ∀ i ∈ c.ix, i ∈ vs) :
    ∀ {us : List U} {ds : List D} {accU : List U} {accD : List D} {ck : Q.Chk} {h : Sto} {F : Nat → Prop} {e : Env} {fp : List Nat}, Dns cc h F us ds → ChkF h F ck → h[n]? = some (.lst accU) → Dns cc h F accU accD → Ev cc h F env0 (kill vs e) fp → SR h F (n :: fp) →
      match lcL c pt pe vs ds accD e with
      | .ok r e' => ∃ h' F' f2 accU', Q.lcL ck (ctQ c) t me n env0 us h = .ok (.ref n) h' ∧ h'[n]? = some (.lst accU') ∧ Dns cc h' F' accU' r ∧ Ev cc h' F' env0 (kill vs e') f2 ∧ Fr h F (n :: fp) h' F' (n :: f2) ∧ (q = true → ∀ k, k < h.length → k ≠ n → h'[k]? = h[k]?)
      | .exc _ _ _ => False
      | .bad => True
  | _, _, accU, accD, ck, h, F, e, fp, .nil, k, hn, ra, x, sr => by
    unfold lcL Q.lcL
    rw [if_pos k.ok]
    exact ⟨h, F, fp, accU, rfl, hn, ra, x, Fr.refl sr, fun _ _ _ _ => rfl⟩
  | _, _, accU, accD, ck, h, F, e, fp, .cons (us := us) (ds := ds) (u := u) (d := d) y r, k, hn, ra, x, sr => by
    unfold lcL
    cases q1 : c.asg d (kill vs e) with
    | none => trivial
    | some e1 =>
      obtain ⟨env1, a1, al, a2, fp1, x1, g1, p1⟩ := ct_asg x y q1
      have sr1 : SR h F (n :: fp1) := (sr.perm (p1.cons n)).sub ((List.sublist_append_right g1 fp1).cons₂ n)
      have srs : SR h F ([n] ++ fp1) := sr1
      have tt := ht h F env1 e1 fp1 x1 srs.right
      unfold Q.lcL
      rw [if_pos k.ok, a1]
      simp only
      cases q2 : pt e1 with
      | bad => trivial
      | exc C z e' => trivial
      | ok b e2 =>
        rw [q2] at tt
        obtain ⟨b', h2, F2, f3, f4, b1, ⟨rfl, rfl⟩, x2, fr2, sm2⟩ := tt
        rw [b1]
        have fr2' : Fr h F ([n] ++ fp1) h2 F2 ([n] ++ f4) := fr2.hold srs
        have keep2 : h2[n]? = h[n]? := fr2.kept srs n (List.mem_singleton.mpr rfl)
        have st2 := fr2'.stab srs
        show match (if b' = true then (pe e2).no.bind fun y e3 => if accD.length < 16000000 then lcL c pt pe vs ds (accD ++ [y]) e3 else .bad else lcL c pt pe vs ds accD e2) with
          | .ok r e' => ∃ h' F' f2 accU', (if b' = true then (me env1 h2).no.bind fun y h2 => (match h2[n]? with
              | some (.lst acc) => if acc.length < 16000000 then Q.lcL ck (ctQ c) t me n env0 us (h2.set n (.lst (acc ++ [y]))) else .bad
              | _ => .bad) else Q.lcL ck (ctQ c) t me n env0 us h2) = .ok (.ref n) h' ∧ h'[n]? = some (.lst accU') ∧ Dns cc h' F' accU' r ∧ Ev cc h' F' env0 (kill vs e') f2 ∧ Fr h F (n :: fp) h' F' (n :: f2) ∧ (q = true → ∀ k, k < h.length → k ≠ n → h'[k]? = h[k]?)
          | .exc _ _ _ => False
          | .bad => True
        have fr0 : Fr h F (n :: fp) h2 F2 (n :: f4) := by
          have z : Fr h F (n :: fp) h F (n :: fp1) := (Fr.refl sr).perm (p1.cons n) |>.sub ((List.sublist_append_right g1 fp1).cons₂ n)
          exact z.trans fr2'
        have x2' : ∀ {h3 F3 e3 f5}, Ev cc h3 F3 env1 e3 f5 → ∃ f6, Ev cc h3 F3 env0 (kill vs e3) f6 ∧ ∃ f7, f5.Perm (f7 ++ f6) := fun {h3 F3 e3 f5} x => by
          obtain ⟨f6, y6, f7, p7⟩ := x.kill vs
          exact ⟨f6, y6.swapK al.symm (fun i n => (a2 i (fun z => n (hc i z))).symm), f7, p7⟩
        cases b' with
        | false =>
          rw [if_neg (by decide)]
          obtain ⟨f6, y6, f7, p7⟩ := x2' x2
          have srn : SR h2 F2 (n :: f6) := (fr2'.sr.perm (p7.cons n)).sub ((List.sublist_append_right f7 f6).cons₂ n)
          have ih := lc_go (accU := accU) (accD := accD) (ck := ck) (e := e2) ht he hc (r.mono st2) (k.mono st2) (keep2.trans hn) (ra.mono st2) y6 srn
          cases q3 : lcL c pt pe vs ds accD e2 with
          | bad => trivial
          | exc C z e' => rw [q3] at ih; exact ih.elim
          | ok rr e' =>
            rw [q3] at ih
            obtain ⟨h', F', g2, accU', c1, c2, c3, c4, c5, c6⟩ := ih
            rw [if_neg (by decide)]
            refine ⟨h', F', g2, accU', c1, c2, c3, c4, (fr0.perm (p7.cons n) |>.sub ((List.sublist_append_right f7 f6).cons₂ n)).trans c5, fun z k1 l1 n1 => ?_⟩
            rw [c6 z k1 (Nat.lt_of_lt_of_le l1 fr2.len) n1, sm2 z k1 l1]
        | true =>
          rw [if_pos rfl]
          have ee := he h2 F2 env1 e2 f4 x2 fr2'.sr.right
          cases q3 : pe e2 with
          | bad => trivial
          | exc C z e' => trivial
          | ok yv e3 =>
            rw [q3] at ee
            obtain ⟨uv, h3, F3, f5, f8, d1, ⟨rfl, d2⟩, x3, fr3, sm3⟩ := ee
            have fr3' : Fr h2 F2 ([n] ++ f4) h3 F3 ([n] ++ f8) := fr3.hold fr2'.sr
            have keep3 : h3[n]? = h2[n]? := fr3.kept fr2'.sr n (List.mem_singleton.mpr rfl)
            have st3 := fr3'.stab fr2'.sr
            have hn3 : h3[n]? = some (.lst accU) := (keep3.trans keep2).trans hn
            show match (if accD.length < 16000000 then lcL c pt pe vs ds (accD ++ [yv]) e3 else .bad) with
              | .ok r e' => _
              | .exc _ _ _ => False
              | .bad => True
            by_cases hz : accD.length < 16000000
            case neg => rw [if_neg hz]; trivial
            rw [if_pos hz]
            have hl : n < h3.length := (List.getElem?_eq_some_iff.mp hn3).1
            have sr3 : SR h3 F3 ([n] ++ f8) := fr3'.sr
            have frs : Fr h3 F3 ([n] ++ f8) (h3.set n (.lst (accU ++ [uv]))) F3 ([n] ++ f8) := Fr.set sr3 (List.mem_append_left _ (List.mem_singleton.mpr rfl)) _
            have sts := frs.stab sr3
            obtain ⟨f6, y6, f7, p7⟩ := x2' (x3.mono sts (Keep.set _ (fun m => (List.nodup_append.mp sr3.nd).2.2 n (List.mem_singleton.mpr rfl) n m rfl)))
            have srn : SR (h3.set n (.lst (accU ++ [uv]))) F3 (n :: f6) := (frs.sr.perm (p7.cons n)).sub ((List.sublist_append_right f7 f6).cons₂ n)
            have sta := (st2.trans st3).trans sts
            have ih := lc_go (accU := accU ++ [uv]) (accD := accD ++ [yv]) (ck := ck) (e := e3) ht he hc (r.mono sta) (k.mono sta) (List.getElem?_set_self hl) ((ra.mono sta).app (.cons (d2.mono sts) .nil)) y6 srn
            cases q4 : lcL c pt pe vs ds (accD ++ [yv]) e3 with
            | bad => trivial
            | exc C z e' => rw [q4] at ih; exact ih.elim
            | ok rr e' =>
              rw [q4] at ih
              obtain ⟨h', F', g2, accU', c1, c2, c3, c4, c5, c6⟩ := ih
              refine ⟨h', F', g2, accU', ?_, c2, c3, c4, (((fr0.trans fr3').trans frs).perm (p7.cons n) |>.sub ((List.sublist_append_right f7 f6).cons₂ n)).trans c5, fun z k1 l1 n1 => ?_⟩
              · rw [if_pos rfl, d1]
                show (match h3[n]? with
                  | some (.lst acc) => if acc.length < 16000000 then Q.lcL ck (ctQ c) t me n env0 us (h3.set n (.lst (acc ++ [uv]))) else .bad
                  | _ => .bad) = _
                rw [hn3]
                simp only
                rw [if_pos (by rw [ra.len]; exact hz)]
                exact c1
              · have l2 : k1 < h2.length := Nat.lt_of_lt_of_le l1 fr2.len
                have l3 : k1 < h3.length := Nat.lt_of_lt_of_le l2 fr3.len
                rw [c6 z k1 (by simpa using l3) n1, List.getElem?_set_ne (Ne.symm n1), sm3 z k1 l2, sm2 z k1 l1]
end
end P

set_option Elab.async false
set_option linter.all false
set_option maxRecDepth 100000
set_option maxHeartbeats 1000000
/-! PS9: comprehensions, statements. -/
namespace P
open Q (U O Sto Env' R RS EM TM AM SM Sem')
section
variable {cc : Nat → Nat} {h h' h1 h2 : Sto} {F F' F1 F2 : Nat → Prop} {u v : U} {d : D} {us : List U} {ds : List D} {t : T} {ts : List T} {f f1 f2 fp fp' fp1 fp2 : List Nat} {env env' : Env'} {e e' : Env} {i : Nat} {q s s1 s2 : Bool}
  {α β γ δ : Type}
/-- slots of a def: N of them -/
def SimN (cc : Nat → Nat) {α β : Type} (N : Nat) (q : Bool) (Rel : Sto → (Nat → Prop) → α → β → List Nat → Prop) (m : Env' → Sto → R α) (p : Env → PR β) : Prop :=
  ∀ h F env e fp, env.length = N → Ev cc h F env e fp → SR h F fp → Out cc q Rel h F fp env (m env h) (p e)
theorem Sim.n {Rel : Sto → (Nat → Prop) → α → β → List Nat → Prop} {m : Env' → Sto → R α} {p : Env → PR β} {N : Nat} (a : Sim cc q Rel m p) : SimN cc N q Rel m p := fun h F env e fp _ x sr => a h F env e fp x sr
theorem sim_lc {mi : Q.IM'} {pi : PDs} {c : CT} {t : TM} {me : EM} {pt : PB} {pe : PE} {vs : List Nat} (hi : Sim cc q (RI cc) mi pi) (ht : Sim cc q RE t pt) (he : Sim cc q (RD cc) me pe) (hc : ∀ i ∈ c.ix, i ∈ vs) : Sim cc q (RT cc) (Q.mLc mi (ctQ c) t me vs) (pLc pi c pt pe vs) := fun h F env e fp x sr =>
  Out.bind0 sr (hi h F env e fp x sr) (fun z ds h1 F1 e1 f2 r1 x1 sr1 st sm => by
    obtain ⟨ck, us⟩ := z
    obtain ⟨_, r, kf⟩ := r1
    show Out cc q (RT cc) h1 F1 f2 env (Q.lcL ck (ctQ c) t me h1.length (Q.wipeE env vs) us (h1 ++ [.lst []])) ((lcL c pt pe vs ds [] e1).bind fun r e2 => .ok (.ls r) (kill vs e2))
    have sta := Stab.app sr1 [O.lst []]
    obtain ⟨f6, y6, f7, p7⟩ := (x1.mono sta (Keep.app sr1 _)).kill vs
    have y7 := y6.swapK (wipe_len vs env) (fun i n => wipe_get vs env i n)
    have fra := Fr.app sr1 (O.lst [])
    have frs : Fr h1 F1 f2 (h1 ++ [.lst []]) F1 (h1.length :: f6) := (fra.perm (p7.cons _)).sub ((List.sublist_append_right f7 f6).cons₂ _)
    have go := lc_go (c := c) (vs := vs) (n := h1.length) (env0 := Q.wipeE env vs) (accU := []) (accD := []) (e := e1) (q := q) ht he hc (r.mono sta) (ChkF.mono kf sta) (by rw [List.getElem?_append_right (Nat.le_refl _), Nat.sub_self]; rfl) .nil y7 frs.sr
    cases q1 : lcL c pt pe vs ds [] e1 with
    | bad => trivial
    | exc C z e' => rw [q1] at go; exact go.elim
    | ok rr e' =>
      rw [q1] at go
      obtain ⟨h', F', g2, accU', c1, c2, c3, c4, c5, c6⟩ := go
      refine ⟨_, h', F', [h1.length], g2, c1, .ls c2 c3, c4.swapK (wipe_len vs env).symm (fun i n => (wipe_get vs env i n).symm), frs.trans c5, fun z k l => ?_⟩
      rw [c6 z k (by simp; omega) (by omega), List.getElem?_append_left l]) ri_nil
theorem Ows.app : ∀ {us : List U} {ts : List T} {vs : List U} {rs : List T} {f1 f2 : List Nat}, Ows cc h F us ts f1 → Ows cc h F vs rs f2 → Ows cc h F (us ++ vs) (ts ++ rs) (f1 ++ f2)
  | _, _, _, _, _, _, .nil, y => y
  | _, _, _, _, _, f2, .cons (f1 := g1) (f2 := g2) x r, y => by rw [List.append_assoc]; exact .cons x (Ows.app r y)
theorem Ow.one {f : List Nat} (x : Ow cc h F u t f) : Ows cc h F [u] [t] f := by
  have := Ows.cons x (.nil (cc := cc) (h := h) (F := F))
  rwa [List.append_nil] at this
theorem lcT_go {c : CT} {me : EM} {pe : PT} {vs : List Nat} {n : Nat} {env0 : Env'} (he : Sim cc q (RT cc) me pe) (hc : ∀ i ∈ c.ix, i ∈ vs) :
    ∀ {us : List U} {ds : List D} {accU : List U} {accT : List T} {fa : List Nat} {ck : Q.Chk} {h : Sto} {F : Nat → Prop} {e : Env} {fp : List Nat}, Dns cc h F us ds → ChkF h F ck → h[n]? = some (.lst accU) → Ows cc h F accU accT fa → Ev cc h F env0 (kill vs e) fp → SR h F ((n :: fa) ++ fp) →
      match lcT c pe vs ds accT e with
      | .ok r e' => ∃ h' F' f2 fa' accU', Q.lcL ck (ctQ c) Q.bYes me n env0 us h = .ok (.ref n) h' ∧ h'[n]? = some (.lst accU') ∧ Ows cc h' F' accU' r fa' ∧ Ev cc h' F' env0 (kill vs e') f2 ∧ Fr h F ((n :: fa) ++ fp) h' F' ((n :: fa') ++ f2) ∧ (q = true → ∀ k, k < h.length → k ≠ n → h'[k]? = h[k]?)
      | .exc _ _ _ => False
      | .bad => True
  | _, _, accU, accT, fa, ck, h, F, e, fp, .nil, k, hn, ra, x, sr => by
    unfold lcT Q.lcL
    rw [if_pos k.ok]
    exact ⟨h, F, fp, fa, accU, rfl, hn, ra, x, Fr.refl sr, fun _ _ _ _ => rfl⟩
  | _, _, accU, accT, fa, ck, h, F, e, fp, .cons (us := us) (ds := ds) (u := u) (d := d) y r, k, hn, ra, x, sr => by
    unfold lcT
    cases q1 : c.asg d (kill vs e) with
    | none => trivial
    | some e1 =>
      obtain ⟨env1, a1, al, a2, fp1, x1, g1, p1⟩ := ct_asg x y q1
      have srs : SR h F ((n :: fa) ++ fp1) := (sr.perm (p1.append_left (n :: fa))).sub ((List.sublist_append_right g1 fp1).append_left (n :: fa))
      have fr1 : Fr h F ((n :: fa) ++ fp) h F ((n :: fa) ++ fp1) := ((Fr.refl sr).perm (p1.append_left (n :: fa))).sub ((List.sublist_append_right g1 fp1).append_left (n :: fa))
      have ee := he h F env1 e1 fp1 x1 srs.right
      unfold Q.lcL
      rw [if_pos k.ok, a1]
      simp only [Q.e_yes, Q.e_no_ok, Q.e_bind_ok, if_true]
      have x2' : ∀ {h3 F3 e3 f5}, Ev cc h3 F3 env1 e3 f5 → ∃ f6, Ev cc h3 F3 env0 (kill vs e3) f6 ∧ ∃ f7, f5.Perm (f7 ++ f6) := fun {h3 F3 e3 f5} x => by
        obtain ⟨f6, y6, f7, p7⟩ := x.kill vs
        exact ⟨f6, y6.swapK al.symm (fun i n => (a2 i (fun z => n (hc i z))).symm), f7, p7⟩
      cases q3 : pe e1 with
      | bad => trivial
      | exc C z e' => trivial
      | ok yv e3 =>
        rw [q3] at ee
        obtain ⟨uv, h3, F3, f5, f8, d1, d2, x3, fr3, sm3⟩ := ee
        have fr3' : Fr h F ((n :: fa) ++ fp1) h3 F3 ((n :: fa) ++ (f5 ++ f8)) := fr3.hold srs
        have kp := fr3.kept srs
        have st3 := fr3'.stab srs
        have hn3 : h3[n]? = some (.lst accU) := (kp n List.mem_cons_self).trans hn
        show match (if accT.length < 16000000 then lcT c pe vs ds (accT ++ [yv]) e3 else .bad) with
          | .ok r e' => _
          | .exc _ _ _ => False
          | .bad => True
        by_cases hz : accT.length < 16000000
        case neg => rw [if_neg hz]; trivial
        rw [if_pos hz]
        have hl : n < h3.length := (List.getElem?_eq_some_iff.mp hn3).1
        have sr3 : SR h3 F3 ((n :: fa) ++ (f5 ++ f8)) := fr3'.sr
        have frs : Fr h3 F3 ((n :: fa) ++ (f5 ++ f8)) (h3.set n (.lst (accU ++ [uv]))) F3 ((n :: fa) ++ (f5 ++ f8)) := Fr.set sr3 (List.mem_append_left _ List.mem_cons_self) _
        have sts := frs.stab sr3
        have nn : n ∉ fa ∧ n ∉ f5 ∧ n ∉ f8 := by
          have nd := sr3.nd
          simp only [List.cons_append, List.nodup_cons, List.mem_append, not_or] at nd
          exact nd.1
        obtain ⟨f6, y6, f7, p7⟩ := x2' (x3.mono sts (Keep.set _ nn.2.2))
        have acc' : Ows cc (h3.set n (.lst (accU ++ [uv]))) F3 (accU ++ [uv]) (accT ++ [yv]) (fa ++ f5) :=
          (Ows.mono (st3.trans sts) (fun m mm => by
            rw [List.getElem?_set_ne (by intro z; subst z; exact nn.1 mm)]
            exact kp m (List.mem_cons_of_mem _ mm)) ra).app (Ow.one (Ow.mono sts (Keep.set _ nn.2.1) d2))
        have pp : ((n :: fa) ++ (f5 ++ f8)).Perm (f7 ++ ((n :: (fa ++ f5)) ++ f6)) := by
          have e1 : (n :: fa) ++ (f5 ++ f8) = (n :: (fa ++ f5)) ++ f8 := by simp
          rw [e1]
          exact (p7.append_left _).trans perm_mid
        have srn : SR (h3.set n (.lst (accU ++ [uv]))) F3 ((n :: (fa ++ f5)) ++ f6) := (frs.sr.perm pp).right
        have frn : Fr h F ((n :: fa) ++ fp) (h3.set n (.lst (accU ++ [uv]))) F3 ((n :: (fa ++ f5)) ++ f6) := (((fr1.trans fr3').trans frs).perm pp).sub (List.sublist_append_right _ _)
        have sta := st3.trans sts
        have ih := lcT_go (accU := accU ++ [uv]) (accT := accT ++ [yv]) (ck := ck) (e := e3) he hc (r.mono sta) (k.mono sta) (List.getElem?_set_self hl) acc' y6 srn
        cases q4 : lcT c pe vs ds (accT ++ [yv]) e3 with
        | bad => trivial
        | exc C z e' => rw [q4] at ih; exact ih.elim
        | ok rr e' =>
          rw [q4] at ih
          obtain ⟨h', F', g2, fa', accU', c1, c2, c3, c4, c5, c6⟩ := ih
          refine ⟨h', F', g2, fa', accU', ?_, c2, c3, c4, frn.trans c5, fun z k1 l1 n1 => ?_⟩
          · rw [d1]
            show (match h3[n]? with
              | some (.lst acc) => if acc.length < 16000000 then Q.lcL ck (ctQ c) Q.bYes me n env0 us (h3.set n (.lst (acc ++ [uv]))) else .bad
              | _ => .bad) = _
            rw [hn3]
            simp only
            rw [if_pos (by rw [Ows.len ra]; exact hz)]
            exact c1
          · have l3 : k1 < h3.length := Nat.lt_of_lt_of_le l1 fr3.len
            rw [c6 z k1 (by simpa using l3) n1, List.getElem?_set_ne (Ne.symm n1), sm3 z k1 l1]
theorem sim_lcT {mi : Q.IM'} {pi : PDs} {c : CT} {me : EM} {pe : PT} {vs : List Nat} (hi : Sim cc q (RI cc) mi pi) (he : Sim cc q (RT cc) me pe) (hc : ∀ i ∈ c.ix, i ∈ vs) : Sim cc q (RT cc) (Q.mLc mi (ctQ c) Q.bYes me vs) (pLcT pi c pe vs) := fun h F env e fp x sr =>
  Out.bind0 sr (hi h F env e fp x sr) (fun z ds h1 F1 e1 f2 r1 x1 sr1 st sm => by
    obtain ⟨ck, us⟩ := z
    obtain ⟨_, r, kf⟩ := r1
    show Out cc q (RT cc) h1 F1 f2 env (Q.lcL ck (ctQ c) Q.bYes me h1.length (Q.wipeE env vs) us (h1 ++ [.lst []])) ((lcT c pe vs ds [] e1).bind fun r e2 => .ok (.lT r) (kill vs e2))
    have sta := Stab.app sr1 [O.lst []]
    obtain ⟨f6, y6, f7, p7⟩ := (x1.mono sta (Keep.app sr1 _)).kill vs
    have y7 := y6.swapK (wipe_len vs env) (fun i n => wipe_get vs env i n)
    have fra := Fr.app sr1 (O.lst [])
    have frs : Fr h1 F1 f2 (h1 ++ [.lst []]) F1 ((h1.length :: []) ++ f6) := (fra.perm (p7.cons _)).sub ((List.sublist_append_right f7 f6).cons₂ _)
    have go := lcT_go (c := c) (vs := vs) (n := h1.length) (env0 := Q.wipeE env vs) (accU := []) (accT := []) (fa := []) (e := e1) (q := q) he hc (r.mono sta) (ChkF.mono kf sta) (by rw [List.getElem?_append_right (Nat.le_refl _), Nat.sub_self]; rfl) .nil y7 frs.sr
    cases q1 : lcT c pe vs ds [] e1 with
    | bad => trivial
    | exc C z e' => rw [q1] at go; exact go.elim
    | ok rr e' =>
      rw [q1] at go
      obtain ⟨h', F', g2, fa', accU', c1, c2, c3, c4, c5, c6⟩ := go
      refine ⟨_, h', F', h1.length :: fa', g2, c1, .lT c2 c3, c4.swapK (wipe_len vs env).symm (fun i n => (wipe_get vs env i n).symm), frs.trans c5, fun z k l => ?_⟩
      rw [c6 z k (by simp; omega) (by omega), List.getElem?_append_left l]) ri_nil
/-! ### statements -/
/-- the slots that the mask keeps hold what they held -/
def Kp (m : List Bool) (env env' : Env') : Prop := pick m env' = pick m env
def OutS (cc : Nat → Nat) (m : List Bool) (h : Sto) (F : Nat → Prop) (fp : List Nat) (env : Env') (r : RS) (s : PRS) : Prop := match s with
  | .nx e' => ∃ env' h' F' f2, r = .nx env' h' ∧ Ev cc h' F' env' e' f2 ∧ Fr h F fp h' F' f2 ∧ Kp m env env'
  | .bk e' => ∃ env' h' F' f2, r = .bk env' h' ∧ Ev cc h' F' env' e' f2 ∧ Fr h F fp h' F' f2 ∧ Kp m env env'
  | .ct e' => ∃ env' h' F' f2, r = .ct env' h' ∧ Ev cc h' F' env' e' f2 ∧ Fr h F fp h' F' f2 ∧ Kp m env env'
  | .rt t e' => ∃ u env' h' F' f1 f2, r = .rt u h' ∧ Ow cc h' F' u t f1 ∧ Ev cc h' F' env' e' f2 ∧ Fr h F fp h' F' (f1 ++ f2) ∧ Kp m env env'
  | .ex C x e' => ∃ n env' h' F' f2, r = .ex (cc C) n env' h' ∧ Ev cc h' F' env' e' f2 ∧ Fr h F fp h' F' f2 ∧ Xd cc h' F' n x ∧ Kp m env env'
  | .bad => True
def SimS (cc : Nat → Nat) (m : List Bool) (ms : SM) (p : PS) : Prop := ∀ h F env e fp, Ev cc h F env e fp → SR h F fp → OutS cc m h F fp env (ms env h) (p e)
theorem OutS.trans {mk : List Bool} {r : RS} {s : PRS} (fr : Fr h F fp h1 F1 fp1) (k : Kp mk env env') (o : OutS cc mk h1 F1 fp1 env' r s) : OutS cc mk h F fp env r s := by
  cases s with
  | nx e' => obtain ⟨env2, h', F', f2, a, b, c, d⟩ := o; exact ⟨env2, h', F', f2, a, b, fr.trans c, d.trans k⟩
  | bk e' => obtain ⟨env2, h', F', f2, a, b, c, d⟩ := o; exact ⟨env2, h', F', f2, a, b, fr.trans c, d.trans k⟩
  | ct e' => obtain ⟨env2, h', F', f2, a, b, c, d⟩ := o; exact ⟨env2, h', F', f2, a, b, fr.trans c, d.trans k⟩
  | rt t e' => obtain ⟨u, env2, h', F', f1, f2, a, b, c, d, e⟩ := o; exact ⟨u, env2, h', F', f1, f2, a, b, c, fr.trans d, e.trans k⟩
  | ex C x e' => obtain ⟨n, env2, h', F', f2, a, b, c, d, e⟩ := o; exact ⟨n, env2, h', F', f2, a, b, fr.trans c, d, e.trans k⟩
  | bad => trivial
theorem Kp.refl {m : List Bool} (env : Env') : Kp m env env := rfl
theorem OutS.st {mk : List Bool} {R1 : Sto → (Nat → Prop) → α → β → List Nat → Prop} {r : R α} {s : PR β} {g : α → Sto → RS} {p : β → Env → PRS} (o : Out cc q R1 h F fp env r s)
    (k : ∀ a b h1 F1 e1 f1 f2, R1 h1 F1 a b f1 → Ev cc h1 F1 env e1 f2 → Fr h F fp h1 F1 (f1 ++ f2) → (q = true → Sm h h1) → OutS cc mk h1 F1 (f1 ++ f2) env (g a h1) (p b e1)) : OutS cc mk h F fp env (Q.R.st r env g) (s.st p) := by
  cases s with
  | bad => trivial
  | exc C x e' =>
    obtain ⟨n, h', F', f2, e1, a, b, c⟩ := o
    exact ⟨n, env, h', F', f2, by rw [e1]; rfl, a, b, c, Kp.refl env⟩
  | ok b e' =>
    obtain ⟨a, h1, F1, f1, f2, e1, r1, x1, fr, sm⟩ := o
    rw [e1]
    exact OutS.trans fr (Kp.refl env) (k a b h1 F1 e' f1 f2 r1 x1 fr sm)
theorem OutS.st0 {mk : List Bool} {R1 : Sto → (Nat → Prop) → α → β → List Nat → Prop} {r : R α} {s : PR β} {g : α → Sto → RS} {p : β → Env → PRS} (sr : SR h F fp) (o : Out cc q R1 h F fp env r s)
    (k : ∀ a b h1 F1 e1 f2, R1 h1 F1 a b [] → Ev cc h1 F1 env e1 f2 → SR h1 F1 f2 → Stab h F h1 F1 → (q = true → Sm h h1) → OutS cc mk h1 F1 f2 env (g a h1) (p b e1)) (n : ∀ a b h F f, R1 h F a b f → f = []) : OutS cc mk h F fp env (Q.R.st r env g) (s.st p) :=
  OutS.st o fun a b h1 F1 e1 f1 f2 r1 x1 fr sm => by
    have := n _ _ _ _ _ r1
    subst this
    exact k a b h1 F1 e1 f2 r1 x1 fr.sr (fr.stab sr) sm
variable {mk : List Bool}
theorem ss_nx : SimS cc mk Q.mNx sNx := fun h F env e fp x sr => ⟨env, h, F, fp, rfl, x, Fr.refl sr, Kp.refl env⟩
theorem ss_seq {m1 m2 : SM} {p1 p2 : PS} (a : SimS cc mk m1 p1) (b : SimS cc mk m2 p2) : SimS cc mk (Q.mSeq m1 m2) (sSeq p1 p2) := fun h F env e fp x sr => by
  have := a h F env e fp x sr
  unfold Q.mSeq sSeq
  cases q1 : p1 e with
  | nx e1 =>
    rw [q1] at this
    obtain ⟨env', h', F', f2, a1, a2, a3, a4⟩ := this
    rw [a1]
    exact OutS.trans a3 a4 (b h' F' env' e1 f2 a2 a3.sr)
  | rt t e1 => rw [q1] at this; obtain ⟨u, env2, h', F', f1, f2, a, r⟩ := this; rw [a]; exact ⟨u, env2, h', F', f1, f2, rfl, r⟩
  | bk e1 => rw [q1] at this; obtain ⟨env2, h', F', f2, a, r⟩ := this; rw [a]; exact ⟨env2, h', F', f2, rfl, r⟩
  | ct e1 => rw [q1] at this; obtain ⟨env2, h', F', f2, a, r⟩ := this; rw [a]; exact ⟨env2, h', F', f2, rfl, r⟩
  | ex C y e1 => rw [q1] at this; obtain ⟨n, env2, h', F', f2, a, r⟩ := this; rw [a]; exact ⟨n, env2, h', F', f2, rfl, r⟩
  | bad => trivial
theorem pick_set {α : Type} : ∀ {m : List Bool} {i : Nat} {l : List α} {x : α}, m.getD i false = false → pick m (l.set i x) = pick m l
  | [], i, l, x, _ => by simp [pick]
  | b :: m, i, [], x, _ => by simp
  | b :: m, 0, a :: l, x, q => by simp at q; subst q; simp [pick]
  | b :: m, i + 1, a :: l, x, q => by
    have := pick_set (m := m) (i := i) (l := l) (x := x) (by simpa using q)
    cases b <;> simp [pick, this]
theorem Kp.set {i : Nat} {o : Option U} (z : mk.getD i false = false) : Kp mk env (env.set i o) := pick_set z
theorem ss_asg {i : Nat} {m : EM} {p : PT} (a : Sim cc q (RT cc) m p) (z : mk.getD i false = false := by rfl) : SimS cc mk (Q.mAsg (.one i) m) (sAsg i p) := fun h F env e fp x sr =>
  OutS.st (a h F env e fp x sr) fun u t h1 F1 e1 f1 f2 r1 x1 fr sm => by
    obtain ⟨fp', ev, g, g1, g2, p1, p2, sub⟩ := x1.put i (some u) (show Os cc h1 F1 (some u) t f1 from r1)
    refine ⟨env.set i (some u), h1, F1, fp', rfl, ev, ?_, Kp.set z⟩
    have pp : (f1 ++ f2).Perm (g1 ++ (f1 ++ g2)) := (p1.append_left f1).trans perm_mid
    exact (((Fr.refl fr.sr).perm pp).sub ((sub.append_right g2).trans (List.sublist_append_right g1 _))).perm p2.symm
theorem ss_ret {m : EM} {p : PT} (a : Sim cc q (RT cc) m p) : SimS cc mk (Q.mRet m) (sRet p) := fun h F env e fp x sr =>
  OutS.st (a h F env e fp x sr) fun u t h1 F1 e1 f1 f2 r1 x1 fr sm => ⟨u, env, h1, F1, f1, f2, rfl, r1, x1, Fr.refl fr.sr, Kp.refl env⟩
theorem ss_drop {m : EM} {p : PT} (a : Sim cc q (RT cc) m p) : SimS cc mk (Q.mDrop m) (sDrop p) := fun h F env e fp x sr =>
  OutS.st (a h F env e fp x sr) fun u t h1 F1 e1 f1 f2 r1 x1 fr sm => ⟨env, h1, F1, f2, rfl, x1, (Fr.refl fr.sr).sub (List.sublist_append_right _ _), Kp.refl env⟩
theorem ss_if {t : TM} {pt : PB} {m1 m2 : SM} {p1 p2 : PS} (c : Sim cc q RE t pt) (a : SimS cc mk m1 p1) (b : SimS cc mk m2 p2) : SimS cc mk (Q.mIfS t m1 m2) (sIf pt p1 p2) := fun h F env e fp x sr =>
  OutS.st0 sr (c h F env e fp x sr) (fun u d h1 F1 e1 f2 r1 x1 sr1 st sm => by
    obtain ⟨_, rfl⟩ := r1
    cases u with
    | true => exact a _ _ _ _ _ x1 sr1
    | false => exact b _ _ _ _ _ x1 sr1) re_nil
end
end P

set_option Elab.async false
set_option linter.all false
set_option maxRecDepth 100000
set_option maxHeartbeats 1000000
/-! PS10: loops, stores, exceptions. -/
namespace P
open Q (U O Sto Env' R RS EM TM AM SM Sem')
section
variable {cc : Nat → Nat} {h h' h1 h2 : Sto} {F F' F1 F2 : Nat → Prop} {u v : U} {d : D} {us : List U} {ds : List D} {t : T} {ts : List T} {f f1 f2 fp fp' fp1 fp2 : List Nat} {env env' : Env'} {e e' : Env} {i : Nat} {q s s1 s2 : Bool}
  {α β γ δ : Type} {mk : List Bool}
theorem kp_off {m : List Bool} : ∀ {l l' : Env'}, l'.length = l.length → (∀ i, m.getD i false = true → l'[i]? = l[i]?) → pick m l' = pick m l := by
  induction m with
  | nil => intro l l' _ _; simp [pick]
  | cons b m ih =>
    intro l l' hl k
    cases l with
    | nil => have : l' = [] := List.length_eq_zero_iff.mp (by simpa using hl); subst this; rfl
    | cons x l =>
      cases l' with
      | nil => simp at hl
      | cons x' l' =>
        have := ih (l := l) (l' := l') (by simpa using hl) fun i q => by simpa using k (i + 1) (by simpa using q)
        cases b with
        | false => simpa [pick] using this
        | true =>
          have h0 : x' = x := by simpa using k 0 rfl
          subst h0
          simp [pick, this]
theorem kp_asg {c : CT} {env1 : Env'} (z : (c.ix.all fun i => !mk.getD i false) = true) (al : env1.length = env.length) (a2 : ∀ i, i ∉ c.ix → env1[i]? = env[i]?) : Kp mk env env1 :=
  kp_off al fun i q => a2 i fun m => by
    have := List.all_eq_true.mp z i m
    rw [q] at this
    cases this
theorem for_go {c : CT} {mb : SM} {pb : PS} {K : List Nat} {ck : Q.Chk} (hb : SimS cc mk mb pb) (z : (c.ix.all fun i => !mk.getD i false) = true) :
    ∀ {us : List U} {ds : List D} {h : Sto} {F : Nat → Prop} {env : Env'} {e : Env} {fp : List Nat}, Dns cc h F us ds → ChkF h F ck → Ev cc h F env e fp → SR h F fp → OutS cc mk h F fp env (Q.forL ck (ctQ c) mb us env h) (forL K c pb ds e)
  | _, _, h, F, env, e, fp, .nil, k, x, sr => by
    unfold Q.forL forL
    rw [if_pos k.ok]
    obtain ⟨fp1, x1, f1, p1⟩ := x.kill K
    exact ⟨env, h, F, fp1, rfl, x1, ((Fr.refl sr).perm p1).sub (List.sublist_append_right _ _), Kp.refl env⟩
  | _, _, h, F, env, e, fp, .cons (us := us) (ds := ds) (u := u) (d := d) y r, k, x, sr => by
    obtain ⟨fp1, x1, f1, p1⟩ := x.kill K
    have fr1 : Fr h F fp h F fp1 := ((Fr.refl sr).perm p1).sub (List.sublist_append_right _ _)
    unfold forL
    cases q1 : c.asg d (kill K e) with
    | none => trivial
    | some e1 =>
      obtain ⟨env1, a1, al, a2, fp2, x2, g1, p2⟩ := ct_asg x1 y q1
      have fr2 : Fr h F fp h F fp2 := (fr1.perm p2).sub (List.sublist_append_right _ _)
      have kp := kp_asg (mk := mk) z al a2
      unfold Q.forL
      rw [if_pos k.ok, a1]
      simp only
      have bb := hb h F env1 e1 fp2 x2 fr2.sr
      cases q2 : pb e1 with
      | bad => trivial
      | nx e2 =>
        rw [q2] at bb
        obtain ⟨env2, h2, F2, f2, b1, b2, b3, b4⟩ := bb
        rw [b1]
        exact OutS.trans (fr2.trans b3) (b4.trans kp) (for_go hb z (r.mono (b3.stab fr2.sr)) (k.mono (b3.stab fr2.sr)) b2 b3.sr)
      | ct e2 =>
        rw [q2] at bb
        obtain ⟨env2, h2, F2, f2, b1, b2, b3, b4⟩ := bb
        rw [b1]
        exact OutS.trans (fr2.trans b3) (b4.trans kp) (for_go hb z (r.mono (b3.stab fr2.sr)) (k.mono (b3.stab fr2.sr)) b2 b3.sr)
      | bk e2 =>
        rw [q2] at bb
        obtain ⟨env2, h2, F2, f2, b1, b2, b3, b4⟩ := bb
        rw [b1]
        obtain ⟨fp3, x3, f3, p3⟩ := b2.kill K
        exact ⟨env2, h2, F2, fp3, rfl, x3, ((fr2.trans b3).perm p3).sub (List.sublist_append_right _ _), b4.trans kp⟩
      | rt t e2 =>
        rw [q2] at bb
        obtain ⟨u, env2, h2, F2, f1, f2, b1, b2, b3, b4, b5⟩ := bb
        rw [b1]
        exact ⟨u, env2, h2, F2, f1, f2, rfl, b2, b3, fr2.trans b4, b5.trans kp⟩
      | ex C y e2 =>
        rw [q2] at bb
        obtain ⟨n, env2, h2, F2, f2, b1, b2, b3, b4, b5⟩ := bb
        rw [b1]
        exact ⟨n, env2, h2, F2, f2, rfl, b2, fr2.trans b3, b4, b5.trans kp⟩
theorem ss_for {K : List Nat} {c : CT} {mi : Q.IM'} {pi : PDs} {mb : SM} {pb : PS} (hi : Sim cc q (RI cc) mi pi) (hb : SimS cc mk mb pb) (z : (c.ix.all fun i => !mk.getD i false) = true := by rfl) : SimS cc mk (Q.mFor mi (ctQ c) mb) (sFor K pi c pb) := fun h F env e fp x sr =>
  OutS.st0 sr (hi h F env e fp x sr) (fun a ds h1 F1 e1 f2 r1 x1 sr1 st sm => for_go hb z r1.2.1 r1.2.2 x1 sr1) ri_nil
theorem OutS.no {r : RS} {s : PRS} (o : OutS cc mk h F fp env r s) : OutS cc mk h F fp env (Q.RS.no r) s.no := by
  cases s with
  | nx e' => obtain ⟨env2, h', F', f2, a, b⟩ := o; rw [a]; exact ⟨env2, h', F', f2, rfl, b⟩
  | bk e' => obtain ⟨env2, h', F', f2, a, b⟩ := o; rw [a]; exact ⟨env2, h', F', f2, rfl, b⟩
  | ct e' => obtain ⟨env2, h', F', f2, a, b⟩ := o; rw [a]; exact ⟨env2, h', F', f2, rfl, b⟩
  | rt t e' => obtain ⟨u, env2, h', F', f1, f2, a, b⟩ := o; rw [a]; exact ⟨u, env2, h', F', f1, f2, rfl, b⟩
  | ex C x e' => trivial
  | bad => trivial
/-! stores -/
theorem OutS.stP {m : EM} {p : Pth} {g : U → Sto → RS} {k : List Ac → Env → PRS} (a : SimP cc m p) (x : Ev cc h F env e fp) (sr : SR h F fp)
    (z : ∀ u r h1 F1 e1 f2, (∃ o, env[p.root]? = some (some o) ∧ atU h1 o r = some u) → (p.isVar = true → r = []) → Ev cc h1 F1 env e1 f2 → SR h1 F1 f2 → Stab h F h1 F1 → OutS cc mk h1 F1 f2 env (g u h1) (k r e1)) : OutS cc mk h F fp env (Q.R.st (m env h) env g) ((p.ev e).st k) :=
  OutS.st0 sr (a h F env e fp x sr) (fun u r h1 F1 e1 f2 r1 x1 sr1 st sm => z u r h1 F1 e1 f2 r1.2.1 r1.2.2 x1 sr1 st) rp_nil
/-- a place changes, in a statement -/
theorem outS_set {i : Nat} {r : List Ac} {t' : T} {n : Nat} {ob : O} {g1 g2 : List Nat} (sr : SR h F fp) (c4 : fp.Perm (g1 ++ g2)) (n1 : n ∈ g1)
    (c5 : ∀ h' F' s' f1', Stab h F h' F' → Keep g2 h h' → Ow cc h' F' u s' f1' → ∃ fp', Ev cc h' F' env (setP i r s' e) fp' ∧ fp'.Perm (f1' ++ g2)) {g3 : List Nat} (n2 : Ow cc (h.set n ob) F u t' g3) (g3s : g3.Sublist g1) : OutS cc mk h F fp env (.nx env (h.set n ob)) (.nx (setP i r t' e)) := by
  have sr' := sr.perm c4
  have n4 : n ∉ g2 := fun m => (List.nodup_append.mp sr'.nd).2.2 n n1 n m rfl
  obtain ⟨fp', d1, d2⟩ := c5 (h.set n ob) F t' g3 (Stab.set sr' (List.mem_append_left _ n1) ob) (Keep.set ob n4) n2
  exact ⟨env, _, F, fp', rfl, d1, (((Fr.set sr' (List.mem_append_left _ n1) ob).sub (g3s.append_right g2)).perm d2.symm).permL c4.symm, Kp.refl env⟩
theorem ss_setI {m mi me : EM} {p : Pth} {pi pa : PE} (ap : SimP cc m p) (b : Sim cc q (RD cc) mi pi) (a : Sim cc s (RD cc) me pa) (z : p.isVar = true ∨ q = true) : SimS cc mk (Q.mSetI Q.uSetL m mi me) (sSetI p pi pa) := fun h F env e fp x sr =>
  OutS.st0 sr (a h F env e fp x sr) (fun ud d h1 F1 e1 f1 r1 x1 sr1 st1 sm1 => OutS.stP ap x1 sr1 fun u r h2 F2 e2 f2 ⟨o, b1, b2⟩ b3 x2 sr2 st2 =>
    OutS.st0 sr2 (path_later b2 b3 z (b h2 F2 env e2 f2 x2 sr2)) (fun ui di h3 F3 e3 f3 r3 x3 sr3 st3 sm3 => by
      obtain ⟨⟨_, r3⟩, b2⟩ := r3
      cases r3 with
      | int k =>
        cases q1 : getP p.root r e3 with
        | none => trivial
        | some t =>
          cases t with
          | ls xs =>
            obtain ⟨o', v, g1, g2, c1, c2, c3, c4, c5⟩ := x3.pt q1 (fun z => by cases z)
            rw [b1] at c1; cases c1
            rw [b2] at c2; cases c2
            cases c3 with
            | @ls n ys _ en rr =>
              show OutS cc mk h3 F3 f3 env (match Q.uSetL (.ref n) (.int k) ud h3 with | some h4 => RS.nx env h4 | none => .bad) (match ixN xs.length k with | some j => .nx (setP p.root r (.ls (xs.set j d)) e3) | none => .bad)
              cases q2 : ixN xs.length k with
              | none => trivial
              | some j =>
                have q2' : L2.ixN ys.length k = some j := by rw [rr.len]; exact q2
                rw [Q.e_set, en]
                simp only [q2', Option.map]
                have sr4 := sr3.perm c4
                have stn := Stab.set sr4 (List.mem_append_left _ (List.mem_singleton.mpr rfl)) (O.lst (ys.set j ud))
                exact outS_set sr3 c4 (List.mem_singleton.mpr rfl) (c5 rfl) (.ls (by rw [List.getElem?_set_self (List.getElem?_eq_some_iff.mp en).1]) ((rr.set j (r1.2.mono (st2.trans st3))).mono stn)) (List.Sublist.refl _)
          | _ => trivial
      | _ => trivial) (fun _ _ _ _ _ x => x.1.1)) rd_nil
end
end P

set_option Elab.async false
set_option linter.all false
set_option maxRecDepth 100000
set_option maxHeartbeats 1000000
/-! PS11: stores by an operator, fields, calls, defs. -/
namespace P
open Q (U O Sto Env' R RS EM TM AM SM Sem')
section
variable {cc : Nat → Nat} {h h' h1 h2 : Sto} {F F' F1 F2 : Nat → Prop} {u v : U} {d : D} {us : List U} {ds : List D} {t : T} {ts : List T} {f f1 f2 fp fp' fp1 fp2 : List Nat} {env env' : Env'} {e e' : Env} {i : Nat} {q s s1 s2 : Bool}
  {α β γ δ : Type} {mk : List Bool}
/-! fields -/
theorem insU_is {n C : Nat} {us : List (PySem.Str × U)} (e : h[n]? = some (.ins C us)) : Q.insU h (.ref n) = some (C, us) := by rw [Q.e_insU, e]
theorem keys_len {us : List (PySem.Str × U)} {ts : List (String × T)} (k : us.map Prod.fst = (ts.map fun p => fs' p.1)) : us.length = ts.length := by simpa using congrArg List.length k
theorem put_st {g : String} {w : U} {s : T} {f0 : List Nat} {n C : Nat} {us : List (PySem.Str × U)} {ts : List (String × T)} {fp1 g2 : List Nat} (sr : SR h F (f0 ++ ((n :: fp1) ++ g2))) (en : h[n]? = some (.ins (cc C) us)) (k : us.map Prod.fst = (ts.map fun p => fs' p.1)) (r : Ows cc h F (us.map Prod.snd) (ts.map Prod.snd) fp1) (y : Ow cc h F w s f0) :
    ∃ g3 fd, Ow cc (h.set n (.ins (cc C) (Q.putU (fs' g) w us))) F (.ref n) (.is C (putF g s ts)) g3 ∧ (f0 ++ (n :: fp1)).Perm (fd ++ g3) := by
  have nd := sr.nd
  have hn : n ∉ f0 ∧ n ∉ fp1 := by
    rw [List.nodup_append] at nd
    obtain ⟨_, nd2, nd3⟩ := nd
    refine ⟨fun m => nd3 n m n (by simp) rfl, ?_⟩
    simp only [List.cons_append, List.nodup_cons, List.mem_append, not_or] at nd2
    exact nd2.1.1
  have st := Stab.set sr (n := n) (List.mem_append_right _ (List.mem_append_left _ List.mem_cons_self)) (O.ins (cc C) (Q.putU (fs' g) w us))
  obtain ⟨i1, fp', i2, f1, f2, p1, p2⟩ := put_at y (f := g) k r
  have nfp : n ∉ fp' := fun m => by
    rcases List.mem_append.mp (p2.mem_iff.mp m) with m | m
    · exact hn.1 m
    · exact hn.2 (p1.mem_iff.mpr (List.mem_append_right _ m))
  refine ⟨n :: fp', f1, .is (by rw [List.getElem?_set_self (List.getElem?_eq_some_iff.mp en).1]) i1 (Ows.mono st (Keep.set _ nfp) i2), ?_⟩
  have a : (f0 ++ (n :: fp1)).Perm (n :: (f0 ++ fp1)) := List.perm_middle
  have b : (f0 ++ fp1).Perm (f1 ++ fp') := by
    have := p1.append_left f0
    refine this.trans (perm_mid.trans (p2.symm.append_left f1))
  exact a.trans ((b.cons n).trans List.perm_middle.symm)
theorem outS_fld {i : Nat} {r : List Ac} {g : String} {w : U} {s : T} {f0 : List Nat} {n C : Nat} {us : List (PySem.Str × U)} {ts : List (String × T)} {fpi g2 : List Nat} (sr : SR h F (f0 ++ fp)) (en : h[n]? = some (.ins (cc C) us)) (k : us.map Prod.fst = (ts.map fun p => fs' p.1)) (rr : Ows cc h F (us.map Prod.snd) (ts.map Prod.snd) fpi) (y : Ow cc h F w s f0) (c4 : fp.Perm ((n :: fpi) ++ g2))
    (c5 : ∀ h' F' s' f1', Stab h F h' F' → Keep g2 h h' → Ow cc h' F' (.ref n) s' f1' → ∃ fp', Ev cc h' F' env (setP i r s' e) fp' ∧ fp'.Perm (f1' ++ g2)) : OutS cc mk h F (f0 ++ fp) env (.nx env (h.set n (.ins (cc C) (Q.putU (fs' g) w us)))) (.nx (setP i r (.is C (putF g s ts)) e)) := by
  have srp : SR h F (f0 ++ ((n :: fpi) ++ g2)) := sr.perm (c4.append_left f0)
  obtain ⟨g3, fd, k1, k2⟩ := put_st (g := g) srp en k rr y
  have n4 : n ∉ g2 := fun m => by
    have nd := srp.right.nd
    exact (List.nodup_append.mp nd).2.2 n List.mem_cons_self n m rfl
  have nin : n ∈ (f0 ++ ((n :: fpi) ++ g2)) := List.mem_append_right _ (List.mem_append_left _ List.mem_cons_self)
  have st := Stab.set srp nin (O.ins (cc C) (Q.putU (fs' g) w us))
  obtain ⟨fp', m1, m2⟩ := c5 _ F _ g3 st (Keep.set _ n4) k1
  refine ⟨env, _, F, fp', rfl, m1, ?_, Kp.refl env⟩
  have frs := Fr.set srp nin (O.ins (cc C) (Q.putU (fs' g) w us))
  have pp : (f0 ++ ((n :: fpi) ++ g2)).Perm (fd ++ fp') := by
    have e1 : (f0 ++ ((n :: fpi) ++ g2)) = (f0 ++ (n :: fpi)) ++ g2 := by simp
    rw [e1]
    refine (k2.append_right g2).trans ?_
    rw [List.append_assoc]
    exact (m2.symm.append_left fd)
  exact ((frs.perm pp).sub (List.sublist_append_right _ _)).permL (c4.symm.append_left f0)
theorem ss_setF {Cs : List Nat} {g : String} {m me : EM} {p : Pth} {pa : PT} (ap : SimP cc m p) (a : Sim cc s (RT cc) me pa) : SimS cc mk (Q.mSetF (Cs.map cc) (fs' g) m me) (sSetF Cs g p pa) := fun h F env e fp x sr =>
  OutS.st (a h F env e fp x sr) fun w t h1 F1 e1 f1 f2 r1 x1 fr1 sm1 => by
    have aa := ap h1 F1 env e1 f2 x1 fr1.sr.right
    show OutS cc mk h1 F1 (f1 ++ f2) env (Q.R.st (m env h1) env _) ((p.ev e1).st _)
    cases q0 : p.ev e1 with
    | bad => trivial
    | exc C y e' =>
      rw [q0] at aa
      obtain ⟨n, h', F', f3, b1, b2, b3, b4⟩ := aa
      rw [b1]
      exact ⟨n, env, h', F', f3, rfl, b2, (b3.hold fr1.sr).sub (List.sublist_append_right _ _), b4, Kp.refl env⟩
    | ok r e2 =>
      rw [q0] at aa
      obtain ⟨u, h2, F2, f3, f4, b1, ⟨rfl, ⟨o, d1, d2⟩, _⟩, x2, fr2, sm2⟩ := aa
      rw [b1]
      have fr2' := fr2.hold fr1.sr
      have y2 : Ow cc h2 F2 w t f1 := Ow.mono (fr2.stab fr1.sr.right) (fr2.kept fr1.sr) r1
      refine OutS.trans fr2' (Kp.refl env) ?_
      simp only [Q.e_st_ok, PR.st, List.nil_append]
      cases q1 : getP p.root r e2 with
      | none => trivial
      | some tt =>
        cases tt with
        | is C fs =>
          obtain ⟨o', v, g1, g2, c1, c2, c3, c4, c5⟩ := x2.pt q1 (fun z => by cases z)
          rw [d1] at c1; cases c1
          rw [d2] at c2; cases c2
          simp only
          by_cases z : C ∈ Cs ∧ fs.length < 1000
          · rw [if_pos z]
            cases c3 with
            | @is n _ us' _ fpi en k rr =>
              simp only [insU_is en]
              rw [if_pos ⟨List.mem_map_of_mem (f := cc) z.1, by rw [keys_len k]; exact z.2⟩]
              exact outS_fld fr2'.sr en k rr y2 c4 (c5 rfl)
          · rw [if_neg z]; trivial
        | _ => trivial
end
end P

set_option Elab.async false
set_option linter.all false
set_option maxRecDepth 100000
set_option maxHeartbeats 1000000
/-! PS12: calls, defs, the end. -/
namespace P
open Q (U O Sto Env' R RS EM TM AM SM Sem')
section
variable {cc : Nat → Nat} {h h' h1 h2 : Sto} {F F' F1 F2 : Nat → Prop} {u v : U} {d : D} {us : List U} {ds : List D} {t : T} {ts : List T} {f f1 f2 fp fp' fp1 fp2 : List Nat} {env env' : Env'} {e e' : Env} {i : Nat} {q s s1 s2 : Bool}
  {α β γ δ : Type} {mk : List Bool}
def SimF (cc : Nat → Nat) (mask : List Bool) (sem : Sem') (ps : PSem) : Prop := ∀ h F us ts fp, Ows cc h F us ts fp → SR h F fp → match ps ts with
  | .ok t ws => ∃ u h' F' f1 f2, sem us h = .ok u h' ∧ Ow cc h' F' u t f1 ∧ Ows cc h' F' (pick mask us) ws f2 ∧ Fr h F fp h' F' (f1 ++ f2)
  | .exc C x => ∃ n h' F', sem us h = .exc (cc C) n h' ∧ Fr h F fp h' F' [] ∧ Xd cc h' F' n x
  | .bad => True
theorem Dns.ows : ∀ {us : List U} {ds : List D}, Dns cc h F us ds → Ows cc h F us (ds.map .leaf) []
  | _, _, .nil => .nil
  | _, _, .cons x r => .cons (f1 := []) (f2 := []) (.leaf x) (Dns.ows r)
/-- a call with data alone, some things held meanwhile -/
theorem call_out {mask : List Bool} {sem : Sem'} {ps : PSem} (ok : SimF cc mask sem ps) {us : List U} {ts : List T} {fa : List Nat} (x : Ev cc h F env e fp) (sr : SR h F (fa ++ fp)) (r : Ows cc h F us ts fa) : 
    match ps ts with
    | .ok t ws => ∃ u h' F' f1 f2, sem us h = .ok u h' ∧ Ow cc h' F' u t f1 ∧ Ows cc h' F' (pick mask us) ws f2 ∧ Ev cc h' F' env e fp ∧ Fr h F (fa ++ fp) h' F' (f1 ++ (f2 ++ fp)) ∧ Keep fp h h' ∧ Stab h F h' F' ∧ (fa = [] → Sm h h')
    | .exc C x => ∃ n h' F', sem us h = .exc (cc C) n h' ∧ Ev cc h' F' env e fp ∧ Fr h F (fa ++ fp) h' F' fp ∧ Xd cc h' F' n x ∧ Keep fp h h' ∧ Stab h F h' F'
    | .bad => True := by
  have o := ok h F us ts fa r sr.left
  have sr' : SR h F (fp ++ fa) := sr.perm List.perm_append_comm
  cases q1 : ps ts with
  | bad => trivial
  | exc C x =>
    rw [q1] at o
    obtain ⟨n, h', F', a1, a2, a3⟩ := o
    have k := a2.kept sr'
    have st := a2.stab sr.left
    refine ⟨n, h', F', a1, (by assumption : Ev cc h F env e fp).mono st k, ?_, a3, k, st⟩
    have := (a2.hold sr').permL List.perm_append_comm
    simpa using this
  | ok t ws =>
    rw [q1] at o
    obtain ⟨u, h', F', f1, f2, a1, a2, a3, a4⟩ := o
    have k := a4.kept sr'
    have st := a4.stab sr.left
    refine ⟨u, h', F', f1, f2, a1, a2, a3, x.mono st k, ?_, k, st, fun z => ?_⟩
    · have := (a4.hold sr').permL List.perm_append_comm
      refine this.perm ?_
      rw [← List.append_assoc f1]
      exact List.perm_append_comm
    · subst z
      exact fun n l => a4.eq n l (by simp)
theorem sim_call {mask : List Bool} {n : Nat} {sem : Sem'} {ps : PSem} (ok : SimF cc mask sem ps) {am : AM} {pa : PDs} (a : Sim cc q (RDs cc) am pa) : Sim cc q (RT cc) (Q.mCall n sem am) (pCall n ps pa) := fun h F env e fp x sr =>
  Out.bind0 sr (a h F env e fp x sr) (fun us ds h1 F1 e1 f2 r1 x1 sr1 st sm => by
    by_cases z : ds.length = n
    case neg => rw [if_neg z]; trivial
    rw [if_pos z, if_pos (by rw [r1.2.len]; exact z)]
    have o := call_out ok (fa := []) x1 sr1 r1.2.ows
    cases q1 : ps (ds.map .leaf) with
    | bad => trivial
    | exc C y =>
      rw [q1] at o
      obtain ⟨n, h', F', a1, a2, a3, a4, _⟩ := o
      exact ⟨n, h', F', f2, a1, a2, a3, a4⟩
    | ok t ws =>
      rw [q1] at o
      obtain ⟨u, h', F', f3, f4, a1, a2, a3, a4, a5, _, _, a6⟩ := o
      exact ⟨u, h', F', f3, f2, a1, a2, a4, a5.sub ((List.sublist_append_right f4 f2).append_left f3), fun _ => a6 rfl⟩) rds_nil
/-! an argument that is a slot -/
def RAV (cc : Nat → Nat) (v : U) (k : Nat) (h : Sto) (F : Nat → Prop) (us : List U) (ds : List D) (f : List Nat) : Prop := f = [] ∧ ∃ us1 us2 ds1 ds2, us = us1 ++ v :: us2 ∧ us1.length = k ∧ ds = ds1 ++ ds2 ∧ Dns cc h F us1 ds1 ∧ Dns cc h F us2 ds2
def SimAV (cc : Nat → Nat) (q : Bool) (i k : Nat) (am : AM) (pa : PDs) : Prop := ∀ h F env e fp v, Ev cc h F env e fp → SR h F fp → env[i]? = some (some v) → Out cc q (RAV cc v k) h F fp env (am env h) (pa e)
theorem rav_nil {v : U} {k : Nat} : ∀ (a : List U) (b : List D) (h : Sto) (F : Nat → Prop) (f : List Nat), RAV cc v k h F a b f → f = [] := fun _ _ _ _ _ x => x.1
theorem av_0 {i : Nat} {am : AM} {pa : PDs} (a : Sim cc q (RDs cc) am pa) : SimAV cc q i 0 (Q.aCons (Q.mVar i) am) pa := fun h F env e fp v x sr hv => by
  have : Q.aCons (Q.mVar i) am env h = (am env h).bind fun us h2 => .ok (v :: us) h2 := by
    show (Q.mVar i env h).bind _ = _
    rw [Q.e_var, hv]; rfl
  rw [this]
  have p : pa e = (pa e).bind fun ds e2 => .ok ds e2 := by cases pa e <;> rfl
  rw [p]
  exact Out.bind0 sr (a h F env e fp x sr) (fun us ds h1 F1 e1 f2 r1 x1 sr1 st sm => Out.ret0 ⟨rfl, [], us, [], ds, rfl, rfl, rfl, .nil, r1.2⟩ x1 sr1) rds_nil
theorem av_s {i k : Nat} {me : EM} {pe : PE} {am : AM} {pa : PDs} (b : Sim cc q (RD cc) me pe) (a : SimAV cc q i k am pa) : SimAV cc q i (k + 1) (Q.aCons me am) (dCons pe pa) := fun h F env e fp v x sr hv =>
  Out.bind0 sr (b h F env e fp x sr) (fun u d h1 F1 e1 f2 r1 x1 sr1 st sm => Out.bind0 sr1 (a h1 F1 env e1 f2 v x1 sr1 hv) (fun us ds h2 F2 e2 f3 r2 x2 sr2 st2 sm2 => by
    obtain ⟨_, us1, us2, ds1, ds2, rfl, rfl, rfl, y1, y2⟩ := r2
    exact Out.ret0 ⟨rfl, u :: us1, us2, d :: ds1, ds2, rfl, rfl, rfl, .cons (r1.2.mono st2) y1, y2⟩ x2 sr2) rav_nil) rd_nil
theorem insT_eq {ds1 ds2 : List D} {s : T} : insT ds1.length s (ds1 ++ ds2) = ds1.map .leaf ++ s :: ds2.map .leaf := by
  unfold insT
  rw [List.take_left' rfl, List.drop_left' rfl]
theorem rav_ows {us1 us2 : List U} {ds1 ds2 : List D} {s : T} {fs : List Nat} (y1 : Dns cc h F us1 ds1) (y2 : Dns cc h F us2 ds2) (w : Ow cc h F v s fs) : Ows cc h F (us1 ++ v :: us2) (ds1.map .leaf ++ s :: ds2.map .leaf) fs := by
  have b := Ows.app (y1.ows) (Ows.cons w y2.ows)
  simpa using b
theorem slot_val {i : Nat} {t : T} (x : Ev cc h F env e fp) (q1 : e[i]? = some t) (nh : t ≠ .hole) : ∃ v, env[i]? = some (some v) := by
  obtain ⟨o, f1, f2, a1, a2, _⟩ := x.at q1
  cases o with
  | none => exact absurd a2.1 nh
  | some v => exact ⟨v, a1⟩
/-! methods -/
theorem look_none {α β : Type} {g : String} : ∀ {us : List (PySem.Str × α)} {ts : List (String × β)}, us.map Prod.fst = (ts.map fun p => fs' p.1) → ts.lookup g = none → us.lookup (fs' g) = none
  | [], _, _, _ => rfl
  | _ :: _, [], k, _ => by simp at k
  | (a1, a2) :: us, (b1, b2) :: ts, k, zC => by
    simp only [List.map_cons, List.cons.injEq] at k
    rw [List.lookup_cons] at zC ⊢
    rw [k.1]
    by_cases z : g = b1
    · subst z; simp at zC
    · have z1 : (g == b1) = false := by simpa using z
      have z2 : (fs' g == fs' b1) = false := by rw [beq_eq_false_iff_ne]; exact fun w => z (fs_inj w)
      rw [z1] at zC
      rw [z2]
      exact look_none k.2 zC
theorem sim_methD {mask : List Bool} {C n : Nat} {g : String} {sem : Sem'} {ps : PSem} (ok : SimF cc mask sem ps) {mo : EM} {po : PE} {am : AM} {pa : PDs} (b : Sim cc q (RD cc) mo po) (a : Sim cc q (RDs cc) am pa) : Sim cc q (RT cc) (Q.mMeth (cc C) (fs' g) n sem mo am) (pMethD C g n ps po pa) := fun h F env e fp x sr =>
  Out.bind0 sr (b h F env e fp x sr) (fun uo o h1 F1 e1 f2 r1 x1 sr1 st sm => by
    obtain ⟨_, r1⟩ := r1
    cases o with
    | ins C1 fs =>
      simp only
      by_cases zC : C1 = C ∧ fs.lookup g = none
      case neg => rw [if_neg zC]; trivial
      rw [if_pos zC]
      obtain ⟨rfl, zC⟩ := zC
      cases r1 with
      | @ins m _ us0 _ fF en k rr =>
        have lk : us0.lookup (fs' g) = none := look_none k zC
        simp only [insU_is en]
        rw [if_pos ⟨trivial, lk⟩]
        refine Out.bind0 sr1 (a h1 F1 env e1 f2 x1 sr1) (fun us ds h2 F2 e2 f3 r2 x2 sr2 st2 sm2 => ?_) rds_nil
        by_cases z : ds.length + 1 = n
        case neg => rw [if_neg z]; trivial
        rw [if_pos z, if_pos (by rw [r2.2.len]; exact z)]
        have dn : Dn cc h2 F2 (.ref m) (.ins C1 fs) := (Dn.ins fF en k rr).mono st2
        have o := call_out ok (fa := []) x2 sr2 (.cons (f1 := []) (f2 := []) (.leaf dn) r2.2.ows)
        cases q1 : ps (.leaf (.ins C1 fs) :: ds.map .leaf) with
        | bad => trivial
        | exc C y =>
          rw [q1] at o
          obtain ⟨n, h', F', a1, a2, a3, a4, _⟩ := o
          exact ⟨n, h', F', f3, a1, a2, a3, a4⟩
        | ok t ws =>
          rw [q1] at o
          obtain ⟨u, h', F', f4, f5, a1, a2, a3, a4, a5, _, _, a6⟩ := o
          exact ⟨u, h', F', f4, f3, a1, a2, a4, a5.sub ((List.sublist_append_right f5 f3).append_left f4), fun _ => a6 rfl⟩
    | _ => trivial) rd_nil
theorem sim_meth {C n : Nat} {g : String} {sem : Sem'} {ps : PSem} (ok : SimF cc [true] sem ps) {m : EM} {p : Pth} {am : AM} {pa : PDs} (ap : SimP cc m p) (a : Sim cc q (RDs cc) am pa) (z : p.isVar = true ∨ q = true) : Sim cc false (RT cc) (Q.mMeth (cc C) (fs' g) n sem m am) (pMeth C g n ps p pa) := fun h F env e fp x sr =>
  Out.bind0 sr (Out.anyQ (ap h F env e fp x sr)) (fun u r h1 F1 e1 f2 r1 x1 sr1 st sm => by
    obtain ⟨_, ⟨o, b1, b2⟩, b3⟩ := r1
    cases q1 : getP p.root r e1 with
    | none => trivial
    | some t =>
      cases t with
      | is C1 fs =>
        simp only
        by_cases zC : C1 = C ∧ fs.lookup g = none
        case neg => rw [if_neg zC]; trivial
        rw [if_pos zC]
        obtain ⟨rfl, zC⟩ := zC
        obtain ⟨o', v, g1, g2, c1, c2, c3, c4, c5⟩ := x1.pt q1 (fun z => by cases z)
        rw [b1] at c1; cases c1
        rw [b2] at c2; cases c2
        cases c3 with
        | @is m0 _ us0 _ fpi en k rr =>
          simp only [insU_is en]
          rw [if_pos ⟨trivial, look_none k zC⟩]
          refine Out.bind0 sr1 (path_later b2 b3 z (a h1 F1 env e1 f2 x1 sr1)) (fun us ds h2 F2 e2 f3 r2 x2 sr2 st2 sm2 => ?_) (fun _ _ _ _ _ x => x.1.1)
          obtain ⟨r2, b2⟩ := r2
          cases q2 : getP p.root r e2 with
          | none => trivial
          | some t =>
            cases t with
            | is C2 fs2 =>
              simp only
              by_cases z : ds.length + 1 = n
              case neg => rw [if_neg z]; trivial
              rw [if_pos z, if_pos (by rw [r2.2.len]; exact z)]
              obtain ⟨o2, v2, k1, k2, a1, a2, a3, a4, a5⟩ := x2.pt q2 (fun z => by cases z)
              rw [b1] at a1; cases a1
              rw [b2] at a2; cases a2
              have srp := sr2.perm a4
              have sr3 : SR h2 F2 (k2 ++ k1) := srp.perm List.perm_append_comm
              have rr : Ows cc h2 F2 (.ref m0 :: us) (.is C2 fs2 :: ds.map .leaf) k1 := by
                have := Ows.cons a3 r2.2.ows
                simpa using this
              have oo := ok h2 F2 _ _ k1 rr srp.left
              cases q3 : ps (.is C2 fs2 :: ds.map .leaf) with
              | bad => trivial
              | exc C y =>
                rw [q3] at oo
                obtain ⟨m, h', F', b1, b2, b3⟩ := oo
                obtain ⟨fp', d1, d2⟩ := a5 rfl h' F' .hole [] (b2.stab srp.left) (b2.kept sr3) (.hole _)
                refine ⟨m, h', F', fp', b1, d1, ?_, b3⟩
                exact ((b2.hold sr3).permL (List.perm_append_comm.trans a4.symm)).perm (by simpa using d2.symm)
              | ok t ws =>
                rw [q3] at oo
                obtain ⟨u, h', F', f4, f5, b1, b2, b3, b4⟩ := oo
                cases ws with
                | nil => trivial
                | cons w ws =>
                  cases ws with
                  | cons _ _ => trivial
                  | nil =>
                    have b3' : Ows cc h' F' [.ref m0] [w] f5 := by
                      have : pick [true] (U.ref m0 :: us) = [U.ref m0] := by cases us <;> rfl
                      rw [this] at b3; exact b3
                    cases b3' with
                    | @cons _ _ _ _ fw _ b6 b5 =>
                      cases b5
                      obtain ⟨fp', d1, d2⟩ := a5 rfl h' F' w fw (b4.stab srp.left) (b4.kept sr3) b6
                      refine ⟨u, h', F', f4, fp', b1, b2, d1, ?_, fun z => by cases z⟩
                      refine ((b4.hold sr3).permL (List.perm_append_comm.trans a4.symm)).perm ?_
                      have : (k2 ++ (f4 ++ (fw ++ []))).Perm (f4 ++ (fw ++ k2)) := by
                        rw [List.append_nil]
                        exact perm_mid.trans (List.perm_append_comm.append_left f4)
                      exact this.trans (d2.symm.append_left f4)
            | _ => trivial
      | _ => trivial) rp_nil
theorem sim_make {C n : Nat} {sem : Sem'} {ps : PSem} (ok : SimF cc [true] sem ps) {am : AM} {pa : PDs} (a : Sim cc q (RDs cc) am pa) : Sim cc q (RT cc) (Q.mMake (cc C) n sem am) (pMake C n ps pa) := fun h F env e fp x sr =>
  Out.bind0 sr (a h F env e fp x sr) (fun us ds h1 F1 e1 f2 r1 x1 sr1 st sm => by
    by_cases z : ds.length + 1 = n
    case neg => rw [if_neg z]; trivial
    rw [if_pos z, if_pos (by rw [r1.2.len]; exact z)]
    have sta := Stab.app sr1 [O.ins (cc C) []]
    have fra := Fr.app sr1 (O.ins (cc C) [])
    have x2 := x1.mono sta (Keep.app sr1 _)
    have nw : Ow cc (h1 ++ [O.ins (cc C) []]) F1 (.ref h1.length) (.is C []) [h1.length] := .is (us := []) (by rw [List.getElem?_append_right (Nat.le_refl _), Nat.sub_self]; rfl) rfl .nil
    have rr : Ows cc (h1 ++ [O.ins (cc C) []]) F1 (.ref h1.length :: us) (.is C [] :: ds.map .leaf) [h1.length] := by
      have := Ows.cons nw (r1.2.mono sta).ows
      simpa using this
    have srs : SR (h1 ++ [O.ins (cc C) []]) F1 ([h1.length] ++ f2) := fra.sr
    have o := call_out ok (fa := [h1.length]) x2 srs rr
    cases q1 : ps (.is C [] :: ds.map .leaf) with
    | bad => trivial
    | exc C y => trivial
    | ok t ws =>
      rw [q1] at o
      obtain ⟨u, h', F', f4, f5, a1, a2, a3, a4, a5, kf, _, a6⟩ := o
      cases t with
      | leaf dd =>
        cases dd with
        | non =>
          cases a2 with
          | leaf a2 =>
          cases a2
          cases ws with
          | nil => trivial
          | cons w ws =>
            cases ws with
            | cons _ _ => trivial
            | nil =>
              have a3 : Ows cc h' F' [.ref h1.length] [w] f5 := by
                have : pick [true] (U.ref h1.length :: us) = [U.ref h1.length] := by cases us <;> rfl
                rw [this] at a3; exact a3
              cases a3 with
              | @cons _ _ _ _ fw _ b3 b5 =>
                cases b5
                rw [List.append_nil] at a5
                rw [a1]
                refine ⟨_, h', F', fw, f2, rfl, b3, a4, fra.trans a5, fun _ k l => ?_⟩
                have : k < (h1 ++ [O.ins (cc C) []]).length := by simp; omega
                by_cases m : k ∈ f2
                · rw [kf k m, List.getElem?_append_left l]
                · have a7 := (fra.trans a5)
                  exact a7.eq k l m
        | _ => trivial
      | _ => trivial) rds_nil
/-! ### defs -/
theorem evs_of : ∀ {us : List U} {ts : List T} {fp : List Nat} (k : Nat), Ows cc h F us ts fp → Ev cc h F (us.map some ++ List.replicate k none) (ts ++ List.replicate k .hole) fp
  | _, _, _, 0, .nil => .nil
  | _, _, _, k + 1, .nil => by
    have r : Ev cc h F (([] : List U).map some ++ List.replicate k none) (([] : List T) ++ List.replicate k .hole) [] := evs_of k .nil
    exact Ev.cons (o := none) (t := .hole) (f1 := []) (f2 := []) ⟨rfl, rfl⟩ r
  | _, _, _, k, .cons (f1 := f1) (f2 := f2) x r => .cons (o := some _) x (evs_of k r)
/-- what the mask keeps -/
theorem ev_pick : ∀ {m : List Bool} {env : Env'} {e : Env} {fp : List Nat} {us : List U}, Ev cc h F env e fp → pick m env = (pick m us).map some → ∃ f, Ows cc h F (pick m us) (pick m e) f ∧ f.Sublist fp
  | [], env, e, fp, us, x, k => by
    have e1 : pick ([] : List Bool) us = [] := by simp [pick]
    have e2 : pick ([] : List Bool) e = [] := by simp [pick]
    rw [e1, e2]
    exact ⟨[], .nil, List.nil_sublist _⟩
  | b :: m, _, _, _, us, .nil, k => by
    have e2 : pick (b :: m) ([] : Env) = [] := by cases b <;> simp [pick]
    have e3 : pick (b :: m) ([] : Env') = [] := by cases b <;> simp [pick]
    rw [e3] at k
    have e1 : pick (b :: m) us = [] := List.map_eq_nil_iff.mp k.symm
    rw [e1, e2]
    exact ⟨[], .nil, List.nil_sublist _⟩
  | false :: m, _, _, _, us, .cons (env := env0) (f1 := f1) (f2 := f2) x r, k => by
    cases us with
    | nil =>
      have e1 : pick (false :: m) ([] : List U) = [] := by simp [pick]
      rw [e1] at k ⊢
      simp only [pick] at k ⊢
      have k2 : pick m env0 = (pick m ([] : List U)).map some := by
        have : pick m ([] : List U) = [] := by cases m with
          | nil => simp [pick]
          | cons b m => cases b <;> simp [pick]
        rw [this]; exact k
      obtain ⟨f, a, b⟩ := ev_pick r k2
      have : pick m ([] : List U) = [] := by cases m with
        | nil => simp [pick]
        | cons b m => cases b <;> simp [pick]
      rw [this] at a
      exact ⟨f, a, b.trans (List.sublist_append_right _ _)⟩
    | cons u us =>
      simp only [pick] at k ⊢
      obtain ⟨f, a, b⟩ := ev_pick r k
      exact ⟨f, a, b.trans (List.sublist_append_right _ _)⟩
  | true :: m, _, _, _, us, .cons (o := o) (t := t) (f1 := f1) (f2 := f2) x r, k => by
    cases us with
    | nil => simp [pick] at k
    | cons u us =>
      simp only [pick, List.map_cons, List.cons.injEq] at k ⊢
      obtain ⟨rfl, k⟩ := k
      obtain ⟨f, a, b⟩ := ev_pick r k
      exact ⟨f1 ++ f, .cons x a, b.append_left f1⟩
theorem pick_map : ∀ {m : List Bool} {us : List U} {k : Nat}, m.length ≤ us.length → pick m (us.map some ++ List.replicate k none) = (pick m us).map some
  | [], us, k, _ => by simp [pick]
  | b :: m, [], k, l => by simp at l
  | true :: m, u :: us, k, l => by
    have := pick_map (m := m) (us := us) (k := k) (by simpa using l)
    simp [pick, this]
  | false :: m, u :: us, k, l => by
    have := pick_map (m := m) (us := us) (k := k) (by simpa using l)
    simp [pick, this]
theorem simF_fn {n : Nat} {mask : List Bool} {mb : SM} {pb : PS} (a : SimS cc mask mb pb) : SimF cc mask (Q.fnM n mb) (pFn n mask pb) := fun h F us ts fp r sr => by
  by_cases hl : mask.length ≤ us.length
  · have x := evs_of (n - us.length) r
    rw [r.len] at x
    have o := a h F _ _ fp x sr
    rw [← r.len] at o
    have kp : ∀ {env' : Env'}, Kp mask (us.map some ++ List.replicate (n - us.length) none) env' → pick mask env' = (pick mask us).map some := fun k => k.trans (pick_map hl)
    unfold pFn Q.fnM
    rw [if_pos (by rw [← r.len]; exact hl)]
    rw [r.len] at o ⊢
    cases q1 : pb (ts ++ List.replicate (n - ts.length) .hole) with
    | bad => trivial
    | bk e1 => trivial
    | ct e1 => trivial
    | nx e1 =>
      rw [q1] at o
      obtain ⟨env', h', F', f2, a1, a2, a3, a4⟩ := o
      rw [← r.len] at a4
      obtain ⟨f, b1, b2⟩ := ev_pick a2 (kp a4)
      exact ⟨.non, h', F', [], f, by rw [a1], .leaf .non, b1, a3.sub b2⟩
    | rt t e1 =>
      rw [q1] at o
      obtain ⟨u, env', h', F', f1, f2, a1, a2, a3, a4, a5⟩ := o
      rw [← r.len] at a5
      obtain ⟨f, b1, b2⟩ := ev_pick a3 (kp a5)
      exact ⟨u, h', F', f1, f, by rw [a1], a2, b1, a4.sub (b2.append_left f1)⟩
    | ex C y e1 =>
      rw [q1] at o
      obtain ⟨m, env', h', F', f2, a1, a2, a3, a4, a5⟩ := o
      exact ⟨m, h', F', by rw [a1], a3.sub (List.nil_sublist _), a4⟩
  · unfold pFn
    rw [if_neg (by rw [← r.len]; exact hl)]
    trivial
theorem simF_bad {mask : List Bool} {sem : Sem'} : SimF cc mask sem (fun _ => .bad) := fun _ _ _ _ _ _ _ => trivial
/-! ### the end -/
theorem sem_true {sem : Sem'} {ps : PSem} (ok : SimF cc [] sem ps) (ht : ∀ ns : List Int, ns.length ≤ 63 → ∃ ws, ps [.leaf (.kl (ns.map .int))] = .ok (.leaf (.bl true)) ws) : Q.semTrue sem := fun ns hl => by
  obtain ⟨ws, e⟩ := ht ns hl
  have dn : Dns cc [] (fun _ => False) (ns.map U.int) (ns.map D.int) := by
    have : ∀ l : List Int, Dns cc [] (fun _ => False) (l.map U.int) (l.map D.int) := fun l => by
      induction l with
      | nil => exact .nil
      | cons x r ih => exact .cons (.int _) ih
    exact this ns
  have o := ok [] (fun _ => False) [.kl (ns.map U.int)] [.leaf (.kl (ns.map .int))] [] (.cons (f1 := []) (f2 := []) (.leaf (.kl dn)) .nil) ⟨List.nodup_nil, (fun _ m => nomatch m), (fun _ m => nomatch m), (fun _ m => m.elim)⟩
  rw [e] at o
  obtain ⟨u, h', F', f1, f2, a1, a2, _⟩ := o
  cases a2 with
  | leaf a2 =>
    cases a2
    exact ⟨h', a1⟩
end
end P

set_option Elab.async false
set_option linter.all false
set_option maxRecDepth 100000
set_option maxHeartbeats 1000000
/-! PS13: things that are only looked at during a call. -/
namespace P
open Q (U O Sto Env' R RS EM TM AM SM Sem')
section
variable {cc : Nat → Nat} {h h' h1 h2 : Sto} {F F' F1 F2 : Nat → Prop} {u v : U} {d : D} {us : List U} {ds : List D} {t : T} {ts : List T} {f f1 f2 fp fp' fp1 fp2 : List Nat} {env env' : Env'} {e e' : Env} {i : Nat} {q s s1 s2 : Bool}
  {α β γ δ : Type} {mk : List Bool}
theorem sim_yes : Sim cc q RE Q.bYes tYes := fun h F env e fp x sr => Out.ret0 ⟨rfl, rfl⟩ x sr
/-- a call with data, where what is in fb is lent -/
theorem lent_out {mask : List Bool} {sem : Sem'} {ps : PSem} (ok : SimF cc mask sem ps) {us : List U} {ts : List T} {fb : List Nat} (x : Ev cc h F env e fp) (sr : SR h F fp) (sub : ∀ n ∈ fb, n ∈ fp) (r : Ows cc h (fun n => F n ∨ n ∈ fb) us ts []) :
    match ps ts with
    | .ok t _ => t.flat = true → ∃ u h' f1, sem us h = .ok u h' ∧ Ow cc h' F u t f1 ∧ Ev cc h' F env e fp ∧ Fr h F fp h' F (f1 ++ fp) ∧ Sm h h'
    | .exc C none => ∃ n h', sem us h = .exc (cc C) n h' ∧ Ev cc h' F env e fp ∧ Fr h F fp h' F fp ∧ Xd cc h' F n none
    | _ => True := by
  have srF : SR h (fun n => F n ∨ n ∈ fb) [] := ⟨List.nodup_nil, (fun _ m => nomatch m), (fun _ m => nomatch m), fun n y => y.elim (sr.Fl n) fun m => sr.lt n (sub n m)⟩
  have o := ok h _ us ts [] r srF
  have keepAll : ∀ {h' : Sto} {F' : Nat → Prop} {f : List Nat}, Fr h (fun n => F n ∨ n ∈ fb) [] h' F' f → Sm h h' := fun fr n l => fr.eq n l (by simp)
  cases q1 : ps ts with
  | bad => trivial
  | exc C y =>
    rw [q1] at o
    obtain ⟨n, h', F', a1, a2, a3⟩ := o
    cases y with
    | some y => trivial
    | none =>
      have sm := keepAll a2
      have st : Stab h F h' F := ⟨fun _ y => y, fun n y => sm n (sr.Fl n y)⟩
      have n0 : n = none := by cases n with
        | none => rfl
        | some n => exact a3.elim
      subst n0
      exact ⟨none, h', a1, x.mono st (fun n m => sm n (sr.lt n m)), ⟨a2.len, fun n l _ => sm n l, fun _ y => y, fun _ y => .inl y, fun _ y => .inl y, ⟨sr.nd, fun n m => Nat.lt_of_lt_of_le (sr.lt n m) a2.len, sr.fF, fun n y => Nat.lt_of_lt_of_le (sr.Fl n y) a2.len⟩⟩, trivial⟩
  | ok t ws =>
    rw [q1] at o
    obtain ⟨u, h', F', f1, f2, a1, a2, a3, a4⟩ := o
    intro fl
    have sm := keepAll a4
    have st : Stab h F h' F := ⟨fun _ y => y, fun n y => sm n (sr.Fl n y)⟩
    have nw : ∀ n ∈ f1, h.length ≤ n := fun n m => by
      rcases a4.own n (List.mem_append_left _ m) with y | y
      · cases y
      · exact y
    refine ⟨u, h', f1, a1, a2.flt fl F, x.mono st (fun n m => sm n (sr.lt n m)), ?_, sm⟩
    refine ⟨a4.len, fun n l _ => sm n l, fun _ y => y, fun _ y => .inl y, fun n m => ?_, ?_⟩
    · rcases List.mem_append.mp m with m | m
      · exact .inr (nw n m)
      · exact .inl m
    · refine ⟨List.nodup_append.mpr ⟨a4.sr.left.nd, sr.nd, fun a ha b hb z => ?_⟩, fun n m => ?_, fun n m y => ?_, fun n y => Nat.lt_of_lt_of_le (sr.Fl n y) a4.len⟩
      · subst z
        exact absurd (sr.lt a hb) (by have := nw a ha; omega)
      · rcases List.mem_append.mp m with m | m
        · exact a4.sr.lt n (List.mem_append_left _ m)
        · exact Nat.lt_of_lt_of_le (sr.lt n m) a4.len
      · rcases List.mem_append.mp m with m | m
        · exact absurd (sr.Fl n y) (by have := nw n m; omega)
        · exact sr.fF n m y
theorem sim_callB {n k i : Nat} {mask : List Bool} {sem : Sem'} {ps : PSem} (ok : SimF cc mask sem ps) {am : AM} {pa : PDs} (a : SimAV cc q i k am pa) : Sim cc q (RT cc) (Q.mCall n sem am) (pCallB n k i ps pa) := fun h F env e fp x sr => by
  unfold pCallB
  split
  · trivial
  · trivial
  rename_i s0 nh0 q0
  obtain ⟨v, hv⟩ := slot_val x q0 nh0
  refine Out.bind0 sr (a h F env e fp v x sr hv) (fun us ds h1 F1 e1 f2 r1 x1 sr1 st sm => ?_) rav_nil
  obtain ⟨_, us1, us2, ds1, ds2, rfl, rfl, rfl, y1, y2⟩ := r1
  cases q1 : e1[i]? with
  | none => trivial
  | some s =>
    simp only
    cases qf : s.fz with
    | none => trivial
    | some sd =>
      simp only
      by_cases z : (ds1 ++ ds2).length + 1 = n ∧ us1.length ≤ (ds1 ++ ds2).length
      case neg => rw [if_neg z]; trivial
      rw [if_pos z, if_pos (by have := y1.len; have := y2.len; simp at z ⊢; omega)]
      obtain ⟨o, g1, g2, c1, c2, c3, c4⟩ := x1.at q1
      rw [hv] at c1; cases c1
      have ts : insT us1.length (.leaf sd) (ds1 ++ ds2) = ds1.map .leaf ++ .leaf sd :: ds2.map .leaf := by rw [y1.len]; exact insT_eq
      rw [ts]
      have stg : Stab h1 F1 h1 (fun n => F1 n ∨ n ∈ g1) := Stab.freeze g1
      have dn := Ow.frz c2 qf (fun n => F1 n ∨ n ∈ g1) (fun _ y => .inl y) (fun _ y => .inr y)
      have rr := rav_ows (y1.mono stg) (y2.mono stg) (.leaf dn)
      have o := lent_out ok x1 sr1 (fun n m => c3.mem_iff.mpr (List.mem_append_left _ m)) rr
      cases q2 : ps (ds1.map .leaf ++ .leaf sd :: ds2.map .leaf) with
      | bad => trivial
      | exc C y =>
        cases y with
        | some y => trivial
        | none =>
          rw [q2] at o
          obtain ⟨m, h', b1, b2, b3, b4⟩ := o
          exact ⟨m, h', F1, f2, b1, b2, b3, b4⟩
      | ok t ws =>
        rw [q2] at o
        show Out cc q (RT cc) h1 F1 f2 env _ (if t.flat = true then .ok t e1 else .bad)
        by_cases fl : t.flat = true
        case neg => rw [if_neg fl]; trivial
        rw [if_pos fl]
        obtain ⟨u, h', f3, b1, b2, b3, b4, b5⟩ := o fl
        exact ⟨u, h', F1, f3, f2, b1, b2, b3, b4, fun _ => b5⟩
theorem sim_methB {C n : Nat} {g : String} {mask : List Bool} {sem : Sem'} {ps : PSem} (ok : SimF cc mask sem ps) {m : EM} {p : Pth} {am : AM} {pa : PDs} (ap : SimP cc m p) (a : Sim cc q (RDs cc) am pa) (z : p.isVar = true ∨ q = true) : Sim cc false (RT cc) (Q.mMeth (cc C) (fs' g) n sem m am) (pMethB C g n ps p pa) := fun h F env e fp x sr =>
  Out.bind0 sr (Out.anyQ (ap h F env e fp x sr)) (fun u r h1 F1 e1 f2 r1 x1 sr1 st sm => by
    obtain ⟨_, ⟨o, b1, b2⟩, b3⟩ := r1
    cases q1 : getP p.root r e1 with
    | none => trivial
    | some t =>
      cases t with
      | is C1 fs =>
        simp only
        by_cases zC : C1 = C ∧ fs.lookup g = none
        case neg => rw [if_neg zC]; trivial
        rw [if_pos zC]
        obtain ⟨rfl, zC⟩ := zC
        obtain ⟨o', v, g1, g2, c1, c2, c3, c4, c5⟩ := x1.pt q1 (fun z => by cases z)
        rw [b1] at c1; cases c1
        rw [b2] at c2; cases c2
        cases c3 with
        | @is m0 _ us0 _ fpi en k rr =>
          simp only [insU_is en]
          rw [if_pos ⟨trivial, look_none k zC⟩]
          refine Out.bind0 sr1 (path_later b2 b3 z (a h1 F1 env e1 f2 x1 sr1)) (fun us ds h2 F2 e2 f3 r2 x2 sr2 st2 sm2 => ?_) (fun _ _ _ _ _ x => x.1.1)
          obtain ⟨r2, b2⟩ := r2
          cases q2 : getP p.root r e2 with
          | none => trivial
          | some t =>
            cases t with
            | is C2 fs2 =>
              simp only
              cases qf : (T.is C2 fs2).fz with
              | none => trivial
              | some sd =>
                simp only
                by_cases z : ds.length + 1 = n
                case neg => rw [if_neg z]; trivial
                rw [if_pos z, if_pos (by rw [r2.2.len]; exact z)]
                obtain ⟨o2, v2, k1, k2, a1, a2, a3, a4, a5⟩ := x2.pt q2 (fun z => by cases z)
                rw [b1] at a1; cases a1
                rw [b2] at a2; cases a2
                have stg : Stab h2 F2 h2 (fun n => F2 n ∨ n ∈ k1) := Stab.freeze k1
                have dn := Ow.frz a3 qf (fun n => F2 n ∨ n ∈ k1) (fun _ y => .inl y) (fun _ y => .inr y)
                have o := lent_out ok x2 sr2 (fun n m => a4.mem_iff.mpr (List.mem_append_left _ m)) (.cons (f1 := []) (f2 := []) (.leaf dn) (r2.2.mono stg).ows)
                cases q3 : ps (.leaf sd :: ds.map .leaf) with
                | bad => trivial
                | exc C y =>
                  cases y with
                  | some y => trivial
                  | none =>
                    rw [q3] at o
                    obtain ⟨m, h', b1, b2, b3, b4⟩ := o
                    exact ⟨m, h', F2, f3, b1, b2, b3, b4⟩
                | ok t ws =>
                  rw [q3] at o
                  show Out cc false (RT cc) h2 F2 f3 env _ (if t.flat = true then .ok t e2 else .bad)
                  by_cases fl : t.flat = true
                  case neg => rw [if_neg fl]; trivial
                  rw [if_pos fl]
                  obtain ⟨u, h', f4, b1, b2, b3, b4, b5⟩ := o fl
                  exact ⟨u, h', F2, f4, f3, b1, b2, b3, b4, fun _ => b5⟩
            | _ => trivial
      | _ => trivial) rp_nil
end
end P


set_option Elab.async false
set_option linter.all false
set_option maxRecDepth 100000
set_option maxHeartbeats 1000000
/-! PSD: dicts. -/
namespace P
open Q (U O Sto Env' R RS EM TM AM SM Sem')
section
variable {cc : Nat → Nat} {h h' h1 h2 : Sto} {F F' F1 F2 : Nat → Prop} {u : U} {d : D} {t : T} {ts : List T} {f f1 f2 fp fp' fp1 fp2 : List Nat} {env env' : Env'} {e e' : Env} {q s s1 s2 : Bool} {mk : List Bool}
theorem keyU_of {k : DK} (x : Dn cc h F u d) (e : keyOf d = some k) : Q.keyU u = some k := by
  cases x <;> simp only [keyOf] at e <;> cases e <;> rfl
theorem keyU_tp {k : DK} (x : Tp cc h F u d) (e : keyOf d = some k) : Q.keyU u = some k := by
  cases d <;> simp only [keyOf] at e <;> first | exact keyU_of (show Dn cc h F u _ from x) (by simpa only [keyOf] using e) | cases e
theorem val_rel (k : DK) : ∀ {us : List (Q.DK × U)} {ds : List (DK × D)}, us.map Prod.fst = ds.map Prod.fst → Dns cc h F (us.map Prod.snd) (ds.map Prod.snd) →
    (∃ u d, Q.valD us k = some u ∧ valK ds k = some d ∧ Dn cc h F u d) ∨ (Q.valD us k = none ∧ valK ds k = none)
  | [], [], _, _ => .inr ⟨rfl, rfl⟩
  | [], _ :: _, a, _ => by simp at a
  | _ :: _, [], a, _ => by simp at a
  | (i, u) :: us, (j, d) :: ds, a, r => by
    rw [List.map_cons, List.map_cons] at a r
    cases r with
    | cons x r =>
      injection a with a1 a2
      cases a1
      unfold Q.valD valK
      by_cases z : i = k
      · rw [if_pos z, if_pos z]; exact .inl ⟨u, d, rfl, rfl, x⟩
      · rw [if_neg z, if_neg z]; exact val_rel k a2 r
theorem val_some {k : DK} {us : List (Q.DK × U)} {ds : List (DK × D)} (a : us.map Prod.fst = ds.map Prod.fst) (r : Dns cc h F (us.map Prod.snd) (ds.map Prod.snd)) : (Q.valD us k).isSome = (valK ds k).isSome := by
  rcases val_rel k a r with ⟨u, d, e1, e2, _⟩ | ⟨e1, e2⟩ <;> rw [e1, e2] <;> rfl
theorem rep_rel (k : DK) (x : Dn cc h F u d) : ∀ {us : List (Q.DK × U)} {ds : List (DK × D)}, us.map Prod.fst = ds.map Prod.fst → Dns cc h F (us.map Prod.snd) (ds.map Prod.snd) →
    (Q.repD us k u).map Prod.fst = (repK ds k d).map Prod.fst ∧ Dns cc h F ((Q.repD us k u).map Prod.snd) ((repK ds k d).map Prod.snd)
  | [], [], _, _ => ⟨rfl, .nil⟩
  | [], _ :: _, a, _ => by simp at a
  | _ :: _, [], a, _ => by simp at a
  | (i, u2) :: us, (j, d2) :: ds, a, r => by
    rw [List.map_cons, List.map_cons] at a r
    cases r with
    | cons x2 r =>
      injection a with a1 a2
      cases a1
      obtain ⟨b1, b2⟩ := rep_rel k x a2 r
      unfold Q.repD repK
      by_cases z : i = k
      · rw [if_pos z, if_pos z, List.map_cons, List.map_cons, List.map_cons, List.map_cons, b1]; exact ⟨rfl, .cons x b2⟩
      · rw [if_neg z, if_neg z, List.map_cons, List.map_cons, List.map_cons, List.map_cons, b1]; exact ⟨rfl, .cons x2 b2⟩
theorem dns_app' : ∀ {us ws : List U} {ds es : List D}, Dns cc h F us ds → Dns cc h F ws es → Dns cc h F (us ++ ws) (ds ++ es)
  | _, _, _, _, .nil, s => s
  | _, _, _, _, .cons x r, s => .cons x (dns_app' r s)
theorem put_rel (k : DK) (x : Dn cc h F u d) {us : List (Q.DK × U)} {ds : List (DK × D)} (a : us.map Prod.fst = ds.map Prod.fst) (r : Dns cc h F (us.map Prod.snd) (ds.map Prod.snd)) :
    (Q.putD us k u).map Prod.fst = (putK ds k d).map Prod.fst ∧ Dns cc h F ((Q.putD us k u).map Prod.snd) ((putK ds k d).map Prod.snd) := by
  unfold Q.putD putK
  rw [val_some a r]
  split
  · exact rep_rel k x a r
  · rw [List.map_append, List.map_append, List.map_append, List.map_append, a]; exact ⟨rfl, dns_app' r (.cons x .nil)⟩
theorem aDK_ref {n : Nat} {us : List (Q.DK × U)} (e : h[n]? = some (.dK us)) : Q.aDK h (.ref n) = some us := by simp only [Q.aDK, e]
theorem aDK_refl {n : Nat} {us : List (Q.DK × U)} (e : h[n]? = some (.dKl us)) : Q.aDK h (.ref n) = some us := by simp only [Q.aDK, e]
/-- a dict, locked or not -/
theorem tp_dk {kvs : List (DK × D)} (x : Tp cc h F u (.dK kvs) ∨ Tp cc h F u (.dKl kvs)) : ∃ us, Q.aDK h u = some us ∧ us.map Prod.fst = kvs.map Prod.fst ∧ Dns cc h F (us.map Prod.snd) (kvs.map Prod.snd) := by
  rcases x with x | x
  · obtain ⟨n, us, rfl, b, c, r⟩ := x; exact ⟨us, aDK_ref b, c, r⟩
  · have x : Dn cc h F u (.dKl kvs) := x
    cases x with | dKl f e k r => exact ⟨_, aDK_refl e, k, r⟩
theorem cmp_din : CmpD cc Q.cDIn cDIn := fun h F u1 d1 u2 d2 b t1 t2 e => by
  have go : ∀ {kvs : List (DK × D)}, (Tp cc h F u2 (.dK kvs) ∨ Tp cc h F u2 (.dKl kvs)) → ((keyOf d1).map fun k => (valK kvs k).isSome) = some b → Q.cDIn h u1 u2 = some b := fun {kvs} t e => by
    obtain ⟨us, c1, c2, r⟩ := tp_dk t
    cases e1 : keyOf d1 with
    | none => rw [e1] at e; cases e
    | some k =>
      rw [e1] at e
      cases e
      unfold Q.cDIn
      rw [c1, keyU_tp t1 e1]
      simp only [val_some c2 r]
  unfold cDIn at e
  split at e
  · exact go (.inl t2) e
  · exact go (.inr t2) e
  · cases e
theorem cmp_dnin : CmpD cc Q.cDNin cDNin := fun h F u1 d1 u2 d2 b t1 t2 e => by
  unfold cDNin at e
  cases e1 : cDIn d1 d2 with
  | none => rw [e1] at e; cases e
  | some k =>
    rw [e1] at e
    cases e
    have := cmp_din h F u1 d1 u2 d2 k t1 t2 e1
    unfold Q.cDIn at this
    unfold Q.cDNin
    split at this
    · cases this; rfl
    · cases this
theorem out_newK {us : List (Q.DK × U)} {ds : List (DK × D)} (x : Ev cc h F env e fp) (sr : SR h F fp) (k : us.map Prod.fst = ds.map Prod.fst) (r : Dns cc h F (us.map Prod.snd) (ds.map Prod.snd)) : Out cc q (RT cc) h F fp env (.ok (.ref h.length) (h ++ [.dK us])) (.ok (.dK ds) e) := by
  have st := Stab.app sr [O.dK us]
  exact ⟨_, _, F, [h.length], fp, rfl, .dK (by rw [List.getElem?_append_right (Nat.le_refl _), Nat.sub_self]; rfl) k (r.mono st), x.mono st (Keep.app sr _), Fr.app sr _, fun _ => Sm.app h _⟩
theorem sim_dnew : Sim cc q (RT cc) Q.mDNew pDNew := fun h F env e fp x sr => out_newK (us := []) (ds := []) x sr rfl .nil
theorem ss_setK {m mi me : EM} {p : Pth} {pi pa : PE} (ap : SimP cc m p) (b : Sim cc q (RD cc) mi pi) (a : Sim cc s (RD cc) me pa) (z : p.isVar = true ∨ q = true) : SimS cc mk (Q.mSetI Q.uDSet m mi me) (sSetK p pi pa) := fun h F env e fp x sr =>
  OutS.st0 sr (a h F env e fp x sr) (fun ud d h1 F1 e1 f1 r1 x1 sr1 st1 sm1 => OutS.stP ap x1 sr1 fun u r h2 F2 e2 f2 ⟨o, b1, b2⟩ b3 x2 sr2 st2 =>
    OutS.st0 sr2 (path_later b2 b3 z (b h2 F2 env e2 f2 x2 sr2)) (fun ui di h3 F3 e3 f3 r3 x3 sr3 st3 sm3 => by
      obtain ⟨⟨_, r3⟩, b2⟩ := r3
      cases q0 : keyOf di with
      | none => trivial
      | some k =>
        cases q1 : getP p.root r e3 with
        | none => trivial
        | some t =>
          cases t with
          | dK xs =>
            obtain ⟨o', v, g1, g2, c1, c2, c3, c4, c5⟩ := x3.pt q1 (fun z => by cases z)
            rw [b1] at c1; cases c1
            rw [b2] at c2; cases c2
            cases c3 with
            | @dK n ys _ en kk rr =>
              have ql : ys.length = xs.length := by simpa using congrArg List.length kk
              show OutS cc mk h3 F3 f3 env (match Q.uDSet (.ref n) ui ud h3 with | some h4 => RS.nx env h4 | none => .bad) (if xs.length < 16000000 then .nx (setP p.root r (.dK (putK xs k d)) e3) else .bad)
              by_cases q2 : xs.length < 16000000
              · unfold Q.uDSet
                rw [if_pos q2]
                simp only [en, keyU_of r3 q0]
                rw [if_pos (by rw [ql]; exact q2)]
                have sr4 := sr3.perm c4
                have stn := Stab.set sr4 (List.mem_append_left _ (List.mem_singleton.mpr rfl)) (O.dK (Q.putD ys k ud))
                obtain ⟨k1, k2⟩ := put_rel k (r1.2.mono (st2.trans st3)) kk rr
                exact outS_set sr3 c4 (List.mem_singleton.mpr rfl) (c5 rfl) (.dK (by rw [List.getElem?_set_self (List.getElem?_eq_some_iff.mp en).1]) k1 (k2.mono stn)) (List.Sublist.refl _)
              · rw [if_neg q2]; trivial
          | _ => trivial) (fun _ _ _ _ _ x => x.1.1)) rd_nil
end
end P

set_option Elab.async false
set_option linter.all false
set_option maxRecDepth 100000
set_option maxHeartbeats 1000000
/-! PSE: more built-ins on lists. -/
namespace P
open Q (U O Sto Env' R RS EM TM AM SM Sem')
section
variable {cc : Nat → Nat} {h h' h1 h2 : Sto} {F F' F1 F2 : Nat → Prop} {u : U} {d : D} {us : List U} {ds : List D} {t : T} {ts : List T} {f f1 f2 fp fp' fp1 fp2 : List Nat} {env env' : Env'} {e e' : Env} {i : Nat} {q s s1 s2 : Bool}
/-- what leaves all as it was may stand anywhere -/
theorem Sim.qu {α β : Type} {Rel : Sto → (Nat → Prop) → α → β → List Nat → Prop} {m : Env' → Sto → R α} {p : Env → PR β} (a : Sim cc true Rel m p) : Sim cc q Rel m p := fun h F env e fp x sr => by
  have := a h F env e fp x sr
  unfold Out at this ⊢
  cases q1 : p e with
  | ok b e' => rw [q1] at this; obtain ⟨a, h', F', f1, f2, r1, r2, r3, r4, r5⟩ := this; exact ⟨a, h', F', f1, f2, r1, r2, r3, r4, fun _ => r5 rfl⟩
  | exc C z e' => rw [q1] at this; exact this
  | bad => trivial
end
end P

set_option Elab.async false
set_option linter.all false
set_option maxRecDepth 100000
set_option maxHeartbeats 1000000
/-! PST: texts, places, chains, except X as e. -/
namespace P
open Q (U O Sto Env' R RS EM TM AM SM Sem')
section
variable {cc : Nat → Nat} {h h' h1 h2 : Sto} {F F' F1 F2 : Nat → Prop} {u : U} {d : D} {us : List U} {ds : List D} {t : T} {ts : List T} {f f1 f2 fp fp' fp1 fp2 : List Nat} {env env' : Env'} {e e' : Env} {i : Nat} {q s s1 s2 : Bool} {mk : List Bool}
theorem op_mulS : OpB cc Q.uMulS gMulS (RD cc) := by
  intro q h F fp env e u1 d1 u2 d2 x sr t1 t2
  unfold gMulS
  split
  · rename_i s k
    cases t1; cases t2
    show Out cc q (RD cc) h F fp env (if s.length * k.toNat ≤ 16000000 ∧ k.natAbs ≤ 1000000000 then R.ok (.str (List.replicate k.toNat s).flatten) h else .bad) _
    by_cases z : s.length * k.toNat ≤ 16000000 ∧ k.natAbs ≤ 1000000000
    · rw [if_pos z, if_pos z]; exact Out.ret0 ⟨rfl, .str _⟩ x sr
    · rw [if_neg z, if_neg z]; trivial
  · trivial
/-! except X as e -/
theorem Ev.clr (x : Ev cc h F env e fp) (i : Nat) : ∃ fp', Ev cc h F (env.set i none) (e.set i .hole) fp' ∧ ∃ g, fp.Perm (g ++ fp') := by
  obtain ⟨fp', b, g, f1, f2, q1, q2, q3⟩ := x.put i none (t := .hole) (f := []) ⟨rfl, rfl⟩
  have : g = [] := List.sublist_nil.mp q3
  subst this
  exact ⟨fp', b, f1, q1.trans (List.Perm.append_left f1 q2.symm)⟩
theorem Kp.clr {env2 : Env'} {i : Nat} (z : (!mk.getD i false) = true) (k : Kp mk env env2) : Kp mk env (env2.set i none) := by
  refine Eq.trans (kp_off (by simp) fun j hj => ?_) k
  have : i ≠ j := fun e => by subst e; rw [hj] at z; cases z
  rw [List.getElem?_set_ne this]
theorem OutS.cl {r : RS} {s : PRS} (z : (!mk.getD i false) = true) (o : OutS cc mk h F fp env r s) : OutS cc mk h F fp env (r.cl i) (s.cl i) := by
  cases s with
  | nx e' =>
    obtain ⟨env2, h', F', f2, a, b, c, d⟩ := o
    rw [a]
    obtain ⟨fp', b', g, p⟩ := b.clr i
    exact ⟨_, h', F', fp', rfl, b', (c.perm p).sub (List.sublist_append_right g fp'), d.clr z⟩
  | bk e' =>
    obtain ⟨env2, h', F', f2, a, b, c, d⟩ := o
    rw [a]
    obtain ⟨fp', b', g, p⟩ := b.clr i
    exact ⟨_, h', F', fp', rfl, b', (c.perm p).sub (List.sublist_append_right g fp'), d.clr z⟩
  | ct e' =>
    obtain ⟨env2, h', F', f2, a, b, c, d⟩ := o
    rw [a]
    obtain ⟨fp', b', g, p⟩ := b.clr i
    exact ⟨_, h', F', fp', rfl, b', (c.perm p).sub (List.sublist_append_right g fp'), d.clr z⟩
  | rt t e' =>
    obtain ⟨u, env2, h', F', f1, f2, a, b0, b, c, d⟩ := o
    rw [a]
    obtain ⟨fp', b', g, p⟩ := b.clr i
    have pp : (f1 ++ f2).Perm (g ++ (f1 ++ fp')) := (List.Perm.append_left f1 p).trans (List.perm_append_comm_assoc f1 g fp')
    exact ⟨u, _, h', F', f1, fp', rfl, b0, b', (c.perm pp).sub (List.sublist_append_right g (f1 ++ fp')), d.clr z⟩
  | ex C x e' => trivial
  | bad => trivial
end
end P

set_option Elab.async false
set_option linter.all false
set_option maxRecDepth 100000
set_option maxHeartbeats 1000000
/-! PSR: str(number), pop, insert, [::-1], range downwards. -/
namespace P
open Q (U O Sto Env' R RS EM TM AM SM Sem')
section
variable {cc : Nat → Nat} {h h' h1 h2 : Sto} {F F' F1 F2 : Nat → Prop} {u : U} {d : D} {us : List U} {ds : List D} {t : T} {ts : List T} {f f1 f2 fp fp' fp1 fp2 : List Nat} {env env' : Env'} {e e' : Env} {i : Nat} {q s s1 s2 : Bool} {mk : List Bool}
theorem Dns.dropLast {us : List U} {ds : List D} (r : Dns cc h F us ds) : Dns cc h F us.dropLast ds.dropLast := by
  rw [List.dropLast_eq_take, List.dropLast_eq_take, r.len]
  exact r.take _
theorem Dns.rev : ∀ {us : List U} {ds : List D}, Dns cc h F us ds → Dns cc h F us.reverse ds.reverse
  | _, _, .nil => .nil
  | _, _, .cons x r => by rw [List.reverse_cons, List.reverse_cons]; exact r.rev.app (.cons x .nil)
theorem upd_ins : UpdOk cc true Q.uIns P.uIns := by
  intro h F v t us ds d t' f1 w r q
  unfold P.uIns at q
  split at q
  · rename_i xs i d1
    split at q
    case isFalse => cases q
    rename_i hz
    cases q
    obtain ⟨_, r⟩ := r
    simp only [if_true] at r
    cases r with
    | @cons u1 _ _ _ y1 r =>
      cases r with
      | @cons u _ _ _ y r =>
        cases r
        cases y1
        cases w with
        | @ls n ys _ e rr =>
          refine ⟨rfl, n, .lst (ys.take i.toNat ++ [u] ++ ys.drop i.toNat), .non, List.mem_singleton.mpr rfl, ?_, fun fp sr => ?_⟩
          · show (match h[n]? with | some (.lst xs) => _ | _ => _) = _
            rw [e]
            simp only
            rw [if_pos (by rw [rr.len]; exact hz)]
          · have st := Stab.set sr (List.mem_append_left _ (List.mem_singleton.mpr rfl)) (O.lst (ys.take i.toNat ++ [u] ++ ys.drop i.toNat))
            exact ⟨.non, .ls (by rw [List.getElem?_set_self (List.getElem?_eq_some_iff.mp e).1]) ((((rr.take _).app (.cons y .nil)).app (rr.drop _)).mono st)⟩
  · cases q
theorem sim_rev {m : EM} {p : PE} (a : Sim cc q (RX cc s) m p) : Sim cc q (RT cc) (Q.mRev m) (pRev p) := fun h F env e fp x sr =>
  Out.bind0 sr (a h F env e fp x sr) (fun u d h1 F1 e1 f2 r1 x1 sr1 st sm => by
    have t1 := r1.tp
    cases d with
    | lst us =>
      obtain ⟨us', a1, r⟩ := t1
      have g : Q.uRev u h1 = .ok (.ref h1.length) (h1 ++ [.lst us'.reverse]) := by
        unfold Q.uRev
        rw [aL_of_mL a1]
      show Out cc q (RT cc) h1 F1 f2 env (Q.uRev u h1) _
      rw [g]
      exact out_new x1 sr1 r.rev
    | kl us =>
      cases t1 with
      | @kl us' _ r =>
        exact out_new x1 sr1 r.rev
    | _ => trivial) rx_nil
theorem rngD_dns (lo : Int) (n : Nat) : Dns cc h F (Q.rngD lo n) (P.rngD lo n) := by
  unfold Q.rngD P.rngD
  have : ∀ l : List Nat, Dns cc h F (l.map fun i => U.int (lo - (i : Nat))) (l.map fun i => D.int (lo - (i : Nat))) := fun l => by
    induction l with
    | nil => exact .nil
    | cons x r ih => exact .cons (.int _) ih
  exact this _
theorem sim_r3 {am : AM} {pa : PDs} (a : Sim cc q (RDs cc) am pa) : Sim cc q (RI cc) (Q.itR3 am) (iR3 pa) := fun h F env e fp x sr =>
  Out.bind0 sr (a h F env e fp x sr) (fun us ds h1 F1 e1 f2 r1 x1 sr1 st sm => by
    obtain ⟨_, r⟩ := r1
    cases q1 : gR3 ds with
    | none => trivial
    | some l =>
      unfold gR3 at q1
      split at q1
      case h_2 => cases q1
      rename_i i j c
      split at q1
      case isFalse => cases q1
      rename_i z
      cases q1
      cases r with
      | cons y1 r =>
        cases r with
        | cons y2 r =>
          cases r with
          | cons y3 r =>
            cases r; cases y1; cases y2; cases y3
            simp only; rw [if_pos (by omega)]
            exact Out.ret0 ⟨rfl, rngD_dns _ _, fun _ m => nomatch m⟩ x1 sr1) rds_nil
end
end P

set_option Elab.async false
set_option linter.all false
set_option maxRecDepth 100000
set_option maxHeartbeats 1000000
/-! PSX: comprehensions whose items may raise. -/
namespace P
open Q (U O Sto Env' R RS EM TM AM SM Sem')
section
variable {cc : Nat → Nat} {h h' h1 h2 : Sto} {F F' F1 F2 : Nat → Prop} {u : U} {d : D} {us : List U} {ds : List D} {t : T} {ts : List T} {f f1 f2 fp fp' fp1 fp2 : List Nat} {env env' : Env'} {e e' : Env} {i : Nat} {q s s1 s2 : Bool} {mk : List Bool}
end
end P

set_option Elab.async false
set_option linter.all false
/-! PDefB: sorted texts, keys, locked dicts, things that are lent by a path, that are handed over. -/
namespace P
def ltL : List Nat → List Nat → Bool
  | [], [] => false
  | [], _ :: _ => true
  | _ :: _, [] => false
  | a :: r, b :: t => a < b || (a == b && ltL r t)
def insS (x : List Nat) : List (List Nat) → List (List Nat)
  | [] => [x]
  | y :: r => if ltL y x = true then y :: insS x r else x :: y :: r
def sortS (ss : List (List Nat)) : List (List Nat) := ss.foldr insS []
def strsD : List D → Option (List (List Nat))
  | [] => some []
  | .str s :: r => (strsD r).map (s :: ·)
  | _ :: _ => none
def keysS : List (DK × D) → Option (List (List Nat))
  | [] => some []
  | (.inr s, _) :: r => (keysS r).map (s :: ·)
  | _ :: _ => none
def srtS (o : Option (List (List Nat))) : Option T := match o with
  | some ss => if ss.length < 64 then some (.ls ((sortS ss).map .str)) else none
  | none => none
def gSortS : List D → Option T
  | [.lst ds] => srtS (strsD ds)
  | [.kl ds] => srtS (strsD ds)
  | _ => none
def gSortD : List D → Option T
  | [.dK kvs] => srtS (keysS kvs)
  | [.dKl kvs] => srtS (keysS kvs)
  | _ => none
def gListD : List D → Option T
  | [.dK kvs] => some (.ls (kvs.map fun p => dkD p.1))
  | [.dKl kvs] => some (.ls (kvs.map fun p => dkD p.1))
  | _ => none
/-- a dict becomes data that nobody changes any more, so that it may be walked -/
def pLk (a : PT) : PE := fun e => (a e).bind fun t e1 => match t with
  | .dK kvs => .ok (.dKl kvs) e1
  | .leaf (.dKl kvs) => .ok (.dKl kvs) e1
  | _ => .bad
/-- a call whose first argument stands at a path and is only looked at -/
def pCallBP (n : Nat) (sem : PSem) (p : Pth) (am : PDs) : PT := fun e => (p.ev e).bind fun r e1 => (am e1).bind fun ds e2 => match getP p.root r e2 with
  | some t => (match t.fz with
    | some d => (if ds.length + 1 = n then (match sem (.leaf d :: ds.map .leaf) with
      | .ok t _ => if t.flat = true then .ok t e2 else .bad
      | .exc C none => .exc C none e2
      | _ => .bad) else .bad)
    | none => .bad)
  | none => .bad
/-- a call to which things are handed over -/
def pCallO (n : Nat) (sem : PSem) (am : PTs) : PT := fun e => (am e).bind fun ts e1 => if ts.length = n then callR (sem ts) e1 else .bad
/-- one of the things in a list that is nobody's -/
def pIxT (a : PT) (b : PE) : PT := fun e => (a e).bind fun t e1 => (b e1).bind fun x e2 => match t, x with
  | .lT ts, .int i => oE (atI ts i) e2
  | _, _ => .bad
/-- what stands at a path is taken away -/
def pMvP (p : Pth) : PT := fun e => (p.ev e).bind fun r e1 => match getP p.root r e1 with
  | some .hole => .bad
  | some (.leaf d) => .ok (.leaf d) e1
  | some t => .ok t (setP p.root r .hole e1)
  | none => .bad
end P

set_option Elab.async false
set_option linter.all false
set_option maxRecDepth 100000
set_option maxHeartbeats 1000000
/-! PSY: sorted texts, keys, locked dicts, things that are lent by a path, that are handed over. -/
namespace P
open Q (U O Sto Env' R RS EM TM AM SM Sem')
section
variable {cc : Nat → Nat} {h h' h1 h2 : Sto} {F F' F1 F2 : Nat → Prop} {u v : U} {d : D} {us : List U} {ds : List D} {t : T} {ts : List T} {f f1 f2 fp fp' fp1 fp2 : List Nat} {env env' : Env'} {e e' : Env} {i : Nat} {q s s1 s2 : Bool} {mk : List Bool}
end
end P

set_option Elab.async false
set_option linter.all false
/-! PDefC: setdefault, *e in a display. -/
namespace P
/-- a change of the dict at a path -/
def pUpdD (p : Pth) (a : PDs) (g : T → List D → Option (D × T)) : PE := fun e => (p.ev e).bind fun r e1 => match getP p.root r e1 with
  | some (.dK _) => (a e1).bind fun ds e2 => (match getP p.root r e2 with
    | some t => (match g t ds with
      | some (d, s) => .ok d (setP p.root r s e2)
      | none => .bad)
    | none => .bad)
  | _ => .bad
def uSd : T → List D → Option (D × T)
  | .dK kvs, [x, d] => (match keyOf x with
    | some k => (match valK kvs k with
      | some y => some (y, .dK kvs)
      | none => if kvs.length < 16000000 then some (d, .dK (putK kvs k d)) else none)
    | none => none)
  | _, _ => none
def sqS : D → Option (List D)
  | .kl us => some us
  | .lst us => some us
  | .tup us => some us
  | _ => none
def dStar (a : PE) (b : PDs) : PDs := fun e => (a e).bind fun x e1 => match sqS x with
  | some us => (b e1).bind fun ys e2 => .ok (us ++ ys) e2
  | none => .bad
end P

set_option Elab.async false
set_option linter.all false
set_option maxRecDepth 100000
set_option maxHeartbeats 1000000
/-! PSU: setdefault, *e in a display. -/
namespace P
open Q (U O Sto Env' R RS EM TM AM SM Sem')
section
variable {cc : Nat → Nat} {h h' h1 h2 : Sto} {F F' F1 F2 : Nat → Prop} {u : U} {d : D} {us : List U} {ds : List D} {t : T} {ts : List T} {f f1 f2 fp fp' fp1 fp2 : List Nat} {env env' : Env'} {e e' : Env} {i : Nat} {q s s1 s2 : Bool} {mk : List Bool}
end
end P

set_option Elab.async false
set_option linter.all false
/-! PDefD: get of a dict, a list times a number. -/
namespace P
def gG (kvs : List (DK × D)) : List D → Option D
  | [y] => (keyOf y).map fun k => (valK kvs k).getD .non
  | [y, z] => (keyOf y).map fun k => (valK kvs k).getD z
  | _ => none
def pGet (a : PE) (b : PDs) : PE := fun e => (a e).bind fun x e1 => match x with
  | .dK kvs => (b e1).bind fun ds e2 => oE (gG kvs ds) e2
  | .dKl kvs => (b e1).bind fun ds e2 => oE (gG kvs ds) e2
  | _ => .bad
def tMulL : D → D → Option T
  | .lst us, .int k => if us.length * k.toNat ≤ 16000000 ∧ k.natAbs ≤ 1000000000 then some (.ls (List.replicate k.toNat us).flatten) else none
  | _, _ => none
def pMulL (a b : PE) : PT := fun e => (a e).bind fun x e1 => (b e1).bind fun y e2 => oE (tMulL x y) e2
end P

set_option Elab.async false
set_option linter.all false
set_option maxRecDepth 100000
set_option maxHeartbeats 1000000
/-! PSV: get of a dict, a list times a number. -/
namespace P
open Q (U O Sto Env' R RS EM TM AM SM Sem')
section
variable {cc : Nat → Nat} {h h' h1 h2 : Sto} {F F' F1 F2 : Nat → Prop} {u : U} {d : D} {us : List U} {ds : List D} {t : T} {ts : List T} {f f1 f2 fp fp' fp1 fp2 : List Nat} {env env' : Env'} {e e' : Env} {i : Nat} {q s s1 s2 : Bool} {mk : List Bool}
end
end P

set_option Elab.async false
set_option linter.all false
/-! PDefE: comprehensions of two clauses. -/
namespace P
def lcL2 (c : CT) (t : PB) (it1 : PDs) (c1 : CT) (t1 : PB) (a : PE) (vs vs1 : List Nat) : List D → List D → Env → PR (List D)
  | [], acc, e => .ok acc e
  | d :: ds, acc, e => match c.asg d (kill vs e) with
    | some e1 => (t e1).no.bind fun b e2 => if b = true then (it1 e2).no.bind fun ds1 e3 => (lcL c1 t1 a vs1 ds1 acc e3).bind fun acc e4 => lcL2 c t it1 c1 t1 a vs vs1 ds acc (kill vs1 e4)
        else lcL2 c t it1 c1 t1 a vs vs1 ds acc e2
    | none => .bad
def pLc2 (it : PDs) (c : CT) (t : PB) (it1 : PDs) (c1 : CT) (t1 : PB) (a : PE) (vs vs1 : List Nat) : PT := fun e => (it e).bind fun ds e1 => (lcL2 c t it1 c1 t1 a vs vs1 ds [] e1).bind fun r e2 => .ok (.ls r) (kill vs e2)
end P

set_option Elab.async false
set_option linter.all false
set_option maxRecDepth 100000
set_option maxHeartbeats 1000000
/-! PSW: comprehensions of two clauses. -/
namespace P
open Q (U O Sto Env' R RS EM TM AM SM Sem')
section
variable {cc : Nat → Nat} {h h' h1 h2 : Sto} {F F' F1 F2 : Nat → Prop} {u : U} {d : D} {us : List U} {ds : List D} {t : T} {ts : List T} {f f1 f2 fp fp' fp1 fp2 : List Nat} {env env' : Env'} {e e' : Env} {i : Nat} {q s s1 s2 : Bool} {mk : List Bool}
end
end P

set_option Elab.async false
set_option linter.all false
/-! PDefF: dict comprehensions of one clause; isupper; a change of a list that nobody owns. -/
namespace P
def dcL (c : CT) (t : PB) (pk pv : PE) (vs : List Nat) : List D → List (DK × D) → Env → PR (List (DK × D))
  | [], acc, e => .ok acc e
  | d :: ds, acc, e => match c.asg d (kill vs e) with
    | some e1 => (t e1).no.bind fun b e2 => if b = true then (pk e2).no.bind fun y e3 => (pv e3).no.bind fun z e4 => (match keyOf y with
        | some k => if acc.length < 16000000 then dcL c t pk pv vs ds (putK acc k z) e4 else .bad
        | none => .bad) else dcL c t pk pv vs ds acc e2
    | none => .bad
def pDc (it : PDs) (c : CT) (t : PB) (pk pv : PE) (vs : List Nat) : PT := fun e => (it e).bind fun ds e1 => (dcL c t pk pv vs ds [] e1).bind fun r e2 => .ok (.dK r) (kill vs e2)
def gUp : List Nat → Option D
  | [] => some (.bl false)
  | [c] => if c < 128 then some (.bl (decide (65 ≤ c) && decide (c ≤ 90))) else none
  | _ => none
def pSM0 (g : List Nat → Option D) (a : PE) : PE := fun e => (a e).bind fun x e1 => match x with
  | .str s => oE (g s) e1
  | _ => .bad
/-- a change of a list that the expression makes, and that nobody keeps -/
def pUpdT (o : PT) (a : PDs) (g : T → List D → Option (D × T)) : PE := fun e => (o e).bind fun t e1 => match t with
  | .ls xs => (a e1).bind fun ds e2 => (match g (.ls xs) ds with
    | some (d, _) => .ok d e2
    | none => .bad)
  | _ => .bad
/-- a dict that a slot owns is locked where it stands, and stays there as data -/
def pLkV (i : Nat) : PE := fun e => match e[i]? with
  | some (.dK kvs) => .ok (.dKl kvs) (e.set i (.leaf (.dKl kvs)))
  | some (.leaf (.dKl kvs)) => .ok (.dKl kvs) e
  | _ => .bad
end P

set_option Elab.async false
set_option linter.all false
set_option maxRecDepth 100000
set_option maxHeartbeats 1000000
/-! PSF: dict comprehensions of one clause. -/
namespace P
open Q (U O Sto Env' R RS EM TM AM SM Sem')
section
variable {cc : Nat → Nat} {h h' h1 h2 : Sto} {F F' F1 F2 : Nat → Prop} {u : U} {d : D} {us : List U} {ds : List D} {t : T} {ts : List T} {f f1 f2 fp fp' fp1 fp2 : List Nat} {env env' : Env'} {e e' : Env} {i : Nat} {q s s1 s2 : Bool} {mk : List Bool}
theorem Out.qF {α β : Type} {Rel : Sto → (Nat → Prop) → α → β → List Nat → Prop} {r : R α} {s : PR β} (o : Out cc q Rel h F fp env r s) : Out cc false Rel h F fp env r s := by
  cases s with
  | bad => trivial
  | exc C x e' => exact o
  | ok b e' =>
    obtain ⟨a, h', F', f3, f4, a1, a2, a3, a4, a5⟩ := o
    exact ⟨a, h', F', f3, f4, a1, a2, a3, a4, fun z => by cases z⟩
theorem sim_updT {f : U → List U → Sto → R U} {g : T → List D → Option (D × T)} (ok : UpdOk cc s f g) {m : EM} {o : PT} {am : AM} {pa : PDs} (a : Sim cc q (RT cc) m o) (b : Sim cc q (RA cc s) am pa) : Sim cc false (RD cc) (Q.mLM f m am) (pUpdT o pa g) := fun h F env e fp x sr =>
  (Out.qF (a h F env e fp x sr)).bind fun u t h1 F1 e1 f1 f2 r1 x1 fr sm => by
    cases t with
    | ls xs =>
      have al : (Q.aL h1 u).isSome = true := by
        cases r1 with
        | ls e r => rw [Q.e_aL_ref, e]; rfl
      show Out cc false (RD cc) h1 F1 (f1 ++ f2) env (if (Q.aL h1 u).isSome = true then (am env h1).bind fun us h2 => f u us h2 else .bad) ((pa e1).bind fun ds e2 => (match g (.ls xs) ds with
        | some (d, _) => .ok d e2
        | none => .bad))
      rw [if_pos al]
      refine Out.bind ((Out.qF (b h1 F1 env e1 f2 x1 fr.sr.right)).hold (R3 := fun h' F' us ds f' => f' = f1 ∧ RA cc s h' F' us ds [] ∧ Ow cc h' F' u (.ls xs) f1) fr.sr fun us ds h' F' f' ra st kp => ?_) fun us ds h2 F2 e2 fA f4 r2 x2 fr2 sm2 => ?_
      · have e0 : f' = [] := ra.1
        subst e0
        exact ⟨List.append_nil _, ra, Ow.mono st kp r1⟩
      · obtain ⟨rfl, ra, w⟩ := r2
        cases q3 : g (.ls xs) ds with
        | none => trivial
        | some dt =>
          obtain ⟨d, t'⟩ := dt
          obtain ⟨lf, n, ob, u', m1, m2, m3⟩ := ok h2 F2 u _ us ds d t' _ w ra q3
          obtain ⟨m4, m5⟩ := m3 f4 fr2.sr
          have nn : n ∉ f4 := fun z => (List.nodup_append.mp fr2.sr.nd).2.2 n m1 n z rfl
          have stt := Stab.set fr2.sr (List.mem_append_left _ m1) ob
          show Out cc false (RD cc) h2 F2 _ env (f u us h2) (.ok d e2)
          rw [m2]
          exact ⟨u', _, F2, [], f4, rfl, ⟨rfl, m4⟩, x2.mono stt (Keep.set ob nn), (Fr.set fr2.sr (List.mem_append_left _ m1) ob).sub (List.sublist_append_right _ _), fun z => by cases z⟩
    | _ => trivial
end
end P

set_option Elab.async false
set_option linter.all false
/-! PDefG: great numbers, a tuple times a number, str of a truth, lower, split, replace, what is never reached. -/
namespace P
def cMulW (i j : Int) : Prop := i.natAbs.log2 + j.natAbs.log2 < 1000000
instance : ∀ i j, Decidable (cMulW i j) := fun i j => by unfold cMulW; exact inferInstance
def cDivW (j : Int) : Prop := 0 < j ∧ j.natAbs.log2 < 9000
instance : ∀ j, Decidable (cDivW j) := fun j => by unfold cDivW; exact inferInstance
def gMulW : D → D → Option D
  | .int i, .int j => if cMulW i j then some (.int (i * j)) else none
  | _, _ => none
def gDivW : D → D → Option D
  | .int i, .int j => if cDivW j then some (.int (i / j)) else none
  | _, _ => none
def gMulT : D → D → Option D
  | .tup us, .int k => if 0 < us.length ∧ 2 ≤ k ∧ k ≤ 1000 ∧ us.length ≤ 1000 then some (.tup (List.replicate k.toNat us).flatten) else none
  | _, _ => none
def kTrue : List Nat := [84, 114, 117, 101]
def kFalse : List Nat := [70, 97, 108, 115, 101]
def gStrV : List D → Option D
  | [.int i] => if i.natAbs.log2 < 1920 then some (.str (sInt i)) else none
  | [.bl b] => some (.str (if b = true then kTrue else kFalse))
  | _ => none
def gLow (s : List Nat) : Option D := if s = kTrue then some (.str [116, 114, 117, 101]) else if s = kFalse then some (.str [102, 97, 108, 115, 101]) else none
def splitC (c : Nat) : List Nat → List (List Nat)
  | [] => [[]]
  | x :: r => if x = c then [] :: splitC c r else match splitC c r with
    | p :: ps => (x :: p) :: ps
    | [] => [[x]]
def gSplit (s : List Nat) : D → Option T
  | .str [c] => if s.length ≤ 16000000 then some (.ls ((splitC c s).map .str)) else none
  | _ => none
/-- a text's method of one argument that gives a new list -/
def pSM1T (g : List Nat → D → Option T) (a b : PE) : PT := fun e => (a e).bind fun x e1 => match x with
  | .str s => (b e1).bind fun y e2 => oE (g s y) e2
  | _ => .bad
def replC (c : Nat) (z s : List Nat) : List Nat := s.flatMap fun x => if x = c then z else [x]
def pRepA (d : List Nat) (c : Nat) (z : List Nat) (a : PE) : PE := fun e => (a e).bind fun x e1 => match x with
  | .str s => if s.length * (z.length + 1) + z.length + d.length ≤ 1000000 then .ok (.str (d ++ replC c z s)) e1 else .bad
  | _ => .bad
def uExtT : T → List D → Option (D × T)
  | .ls us, [.tup ds] => if us.length + ds.length ≤ 16000000 then some (.non, .ls (us ++ ds)) else none
  | _, _ => none
def cEqE : D → D → Option Bool
  | .tup us, .tup [] => some us.isEmpty
  | _, _ => none
def pBadE : PE := fun _ => .bad
def pBadT : PT := fun _ => .bad
def sBad : PS := fun _ => .bad
def pBadD : PDs := fun _ => .bad
end P

set_option Elab.async false
set_option linter.all false
set_option maxRecDepth 100000
set_option maxHeartbeats 1000000
/-! PSG: great numbers, a tuple times a number, str of a truth, lower, split, replace, what is never reached. -/
namespace P
open Q (U O Sto Env' R RS EM TM AM SM Sem')
section
variable {cc : Nat → Nat} {h h' h1 h2 : Sto} {F F' F1 F2 : Nat → Prop} {u : U} {d : D} {us : List U} {ds : List D} {t : T} {ts : List T} {f f1 f2 fp fp' fp1 fp2 : List Nat} {env env' : Env'} {e e' : Env} {i : Nat} {q s s1 s2 : Bool} {mk : List Bool}
end
end P

set_option Elab.async false
set_option linter.all false
/-! PDefH: sorted of pairs of a number and a list of texts, d.update(e), {**d, k: v}, (n, s) <= (m, t). -/
namespace P
abbrev IS := Int × List (List Nat)
def leIS (a b : IS) : Bool := decide (a.1 < b.1 ∨ (a.1 = b.1 ∧ a.2 ≤ b.2))
def keyIS : D → Option IS
  | .tup [.int n, .lst xs] => (strsD xs).map fun ss => (n, ss)
  | _ => none
def keysT : List D → Option (List IS)
  | [] => some []
  | x :: r => match keyIS x, keysT r with
    | some k, some ks => some (k :: ks)
    | _, _ => none
def srtT (ds : List D) (ks : List IS) : List D := ((ds.zip ks).mergeSort fun p q => leIS p.2 q.2).map Prod.fst
def gSortT : List D → Option T
  | [.lst ds] => (keysT ds).map fun ks => .ls (srtT ds ks)
  | _ => none
def uUpd : T → List D → Option (D × T)
  | .dK kvs, [.dK more] => if kvs.length + more.length ≤ 16000000 then some (.non, .dK (mergeP kvs more)) else none
  | _, _ => none
def sDK : D → Option (List (DK × D))
  | .dK kvs => some kvs
  | .dKl kvs => some kvs
  | _ => none
def pStar (pd pk pv : PE) : PT := fun e => (pd e).bind fun d e1 => match sDK d with
  | some kvs => if kvs.length ≤ 16000000 then (pk e1).bind fun x e2 => (pv e2).bind fun y e3 => (match keyOf x with
      | some k => if (mergeP [] kvs).length < 16000000 then .ok (.dK (putK (mergeP [] kvs) k y)) e3 else .bad
      | none => .bad) else .bad
  | none => .bad
def cLeP : D → D → Option Bool
  | .tup [.int n, .str p], .tup [.int m, .str q] => some (decide (n < m ∨ (n = m ∧ p ≤ q)))
  | _, _ => none
end P

set_option Elab.async false
set_option linter.all false
set_option maxRecDepth 100000
set_option maxHeartbeats 1000000
/-! PSH: sorted of pairs of a number and a list of texts, d.update(e), {**d, k: v}, (n, s) <= (m, t). -/
namespace P
open Q (U O Sto Env' R RS EM TM AM SM Sem')
section
variable {cc : Nat → Nat} {h h' h1 h2 : Sto} {F F' F1 F2 : Nat → Prop} {u : U} {d : D} {us : List U} {ds : List D} {t : T} {ts : List T} {f f1 f2 fp fp' fp1 fp2 : List Nat} {env env' : Env'} {e e' : Env} {i : Nat} {q s s1 s2 : Bool} {mk : List Bool}
/-! ### d.update(e) -/
/-! ### {**d, k: v} -/
end
end P

set_option Elab.async false
set_option linter.all false
/-! PDefI: s.find(c, i), c one sign. -/
namespace P
def fdF (s : List Nat) (c i : Nat) : Int := match (s.drop i).findIdx? (· == c) with
  | some j => ((i + j : Nat) : Int)
  | none => -1
def gFind (s : List Nat) : List D → Option D
  | [.str [c], .int i] => if 0 ≤ i then some (.int (fdF s c i.toNat)) else none
  | _ => none
def pFind (a : PE) (b : PDs) : PE := fun e => (a e).bind fun x e1 => match x with
  | .str s => (b e1).bind fun ds e2 => oE (gFind s ds) e2
  | _ => .bad
end P

set_option Elab.async false
set_option linter.all false
set_option maxRecDepth 100000
set_option maxHeartbeats 1000000
/-! PSI: s.find(c, i), c one sign. -/
namespace P
open Q (U O Sto Env' R RS EM TM AM SM Sem')
section
variable {cc : Nat → Nat} {h h' h1 h2 : Sto} {F F' F1 F2 : Nat → Prop} {u : U} {d : D} {us : List U} {ds : List D} {f f1 f2 fp : List Nat} {env : Env'} {e e' : Env} {q s : Bool}
end
end P

set_option Elab.async false
set_option linter.all false
/-! PDefJ: raise of a class with a field, except C as e where the field is read (the name stands for the field's value). -/
namespace P
def sRaiseF (C : Nat) (f : String) (q : D → Bool) (pe : PE) : PS := fun e => (pe e).st fun d e1 => if q d = true then .ex C (some [(f, d)]) e1 else .bad
def sTryAsF (i : Nat) (ys : List Nat) (f : String) (b s : PS) : PS := fun e => match b e with
  | .ex C x e1 => (match x with
    | some fs => if C ∈ ys ∧ i < e1.length then (match fs.lookup f with
      | some d => (s (e1.set i (.leaf d))).cl i
      | none => .bad) else .bad
    | none => .bad)
  | r => r
def isIntD : D → Bool
  | .int i => decide (i.natAbs < 2 ^ 100)
  | _ => false
/-- int(text of digits) -/
def dVal (s : List Nat) : Int := ((s.foldl (fun a c => a * 10 + (c - 48)) 0 : Nat) : Int)
def isDig (c : Nat) : Bool := decide (48 ≤ c ∧ c ≤ 57)
def gIntS : List D → Option D
  | [.str s] => if s.all isDig = true ∧ s ≠ [] ∧ s.length ≤ 640 then some (.int (dVal s)) else none
  | _ => none
end P

set_option Elab.async false
set_option linter.all false
set_option maxRecDepth 100000
set_option maxHeartbeats 1000000
/-! PSJ: raise with a field, except C as e: e.f. -/
namespace P
open Q (U O Sto Env' R RS EM TM AM SM Sem')
section
variable {cc : Nat → Nat} {h h' h1 h2 : Sto} {F F' F1 F2 : Nat → Prop} {u : U} {d : D} {us : List U} {ds : List D} {f f1 f2 fp : List Nat} {env : Env'} {e e' : Env} {q s : Bool} {mk : List Bool} {i : Nat}
theorem Kp.put {env2 : Env'} {o : Option U} (z : (!mk.getD i false) = true) (k : Kp mk env env2) : Kp mk env (env2.set i o) := by
  refine Eq.trans (kp_off (by simp) fun j hj => ?_) k
  have : i ≠ j := fun e => by subst e; rw [hj] at z; cases z
  rw [List.getElem?_set_ne this]
end
end P

set_option Elab.async false
set_option linter.all false
/-! PDefK: list.index among data, str of a number or a text. -/
namespace P
def gIndexD : D → D → Option D
  | .lst ds, y => if D.ok 50 (.lst ds) = true ∧ D.ok 50 y = true then (ds.findIdx? fun z => D.eq z y).map fun (i : Nat) => D.int i else none
  | _, _ => none
def pIndexD (a b : PE) : PE := fun e => (a e).bind fun x e1 => match x with
  | .lst ds => (b e1).bind fun y e2 => oE (gIndexD (.lst ds) y) e2
  | _ => .bad
def gStrT : List D → Option D
  | [.int i] => if i.natAbs.log2 < 1920 then some (.str (sInt i)) else none
  | [.str s] => some (.str s)
  | _ => none
def xflat : Option (List (String × D)) → Bool
  | none => true
  | some fs => fs.all fun p => atom p.2
/-- a method of an object that is only looked at; an exception's fields may come out of it -/
def pMethBX (C : Nat) (m : String) (n : Nat) (sem : PSem) (p : Pth) (am : PDs) : PT := fun e => (p.ev e).bind fun r e1 => match getP p.root r e1 with
  | some (.is C1 fs) => (if C1 = C ∧ fs.lookup m = none then (am e1).bind fun ds e2 => (match getP p.root r e2 with
    | some (.is C2 fs2) => (match (T.is C2 fs2).fz with
      | some d => (if ds.length + 1 = n then (match sem (.leaf d :: ds.map .leaf) with
        | .ok t _ => if t.flat = true then .ok t e2 else .bad
        | .exc C x => if xflat x = true then .exc C x e2 else .bad
        | _ => .bad) else .bad)
      | none => .bad)
    | _ => .bad) else .bad)
  | _ => .bad
end P

set_option Elab.async false
set_option linter.all false
set_option maxRecDepth 100000
set_option maxHeartbeats 1000000
/-! PSK: list.index among data, str of a number or a text. -/
namespace P
open Q (U O Sto Env' R RS EM TM AM SM Sem')
section
variable {cc : Nat → Nat} {h h' h1 h2 : Sto} {F F' F1 F2 : Nat → Prop} {u : U} {d : D} {us : List U} {ds : List D} {f f1 f2 fp : List Nat} {env : Env'} {e e' : Env} {q s s1 : Bool}
theorem idx_py {n m : Nat} (a : D.ok n d = true) : ∀ {ds : List D}, D.oks m ds = true → ((pys ds).findIdx? fun z => PySem.PyData.eqv z (py d)) = ds.findIdx? fun y => D.eq y d
  | [], _ => by simp [pys]
  | y :: ds, b => by
    unfold D.oks at b
    rw [Bool.and_eq_true] at b
    simp only [pys, List.findIdx?_cons]
    rw [eqv_py b.1 a, idx_py a b.2]
theorem sim_indexD {ma mb : EM} {pa pb : PE} (a : Sim cc q (RX cc s1) ma pa) (b : Sim cc q (RD cc) mb pb) (z : s1 = true ∨ q = true) : Sim cc q (RD cc) (Q.mLM Q.uIndexD ma (Q.aCons mb Q.aNil)) (pIndexD pa pb) := fun h F env e fp x sr =>
  Out.bind0 sr (a h F env e fp x sr) (fun u d h1 F1 e1 f2 r1 x1 sr1 st sm => by
    cases d with
    | lst ds =>
      obtain ⟨us, a1, a2⟩ := r1.tp
      rw [if_pos (by rw [aL_of_mL a1]; rfl)]
      have bb := b h1 F1 env e1 f2 x1 sr1
      show Out cc q (RD cc) h1 F1 f2 env (Q.R.bind (Q.R.bind (mb env h1) fun x h2 => (Q.R.ok [] h2).bind fun xs h3 => Q.R.ok (x :: xs) h3) fun us h2 => Q.uIndexD u us h2) _
      have e0 : (Q.R.bind (Q.R.bind (mb env h1) fun x h2 => (Q.R.ok [] h2).bind fun xs h3 => Q.R.ok (x :: xs) h3) fun us h2 => Q.uIndexD u us h2) = (mb env h1).bind fun y h2 => Q.uIndexD u [y] h2 := by
        cases mb env h1 <;> rfl
      rw [e0]
      exact Out.bind0 sr1 bb (fun u2 d2 h2 F2 e2 f3 r2 x2 sr2 st2 sm2 => by
        obtain ⟨us, a1, a2⟩ := r1.later sr1 st2 sm2 z
        show Out cc q (RD cc) h2 F2 f3 env _ (oE (if D.ok 50 (.lst ds) = true ∧ D.ok 50 d2 = true then (ds.findIdx? fun z => D.eq z d2).map fun (i : Nat) => D.int i else none) e2)
        split
        · rename_i c
          have p1 := pyd_tp (m := 60) (show Tp cc h2 F2 u (.lst ds) from ⟨us, a1, a2⟩) c.1 (by decide)
          have p2 := pyd_tp (m := 60) r2.2.tp c.2 (by decide)
          have s2 := shaped_py c.1 (by decide)
          simp only [py] at s2 p1
          unfold Q.uIndexD
          simp only [p1, p2]
          rw [if_pos ⟨s2, shaped_py c.2 (by decide)⟩]
          have ok2 : D.oks 49 ds = true := by have := c.1; simpa only [D.ok] using this
          rw [idx_py c.2 ok2]
          cases ds.findIdx? fun z => D.eq z d2 with
          | none => trivial
          | some i => exact Out.ret0 ⟨rfl, .int _⟩ x2 sr2
        · trivial) rd_nil
    | _ => trivial) rx_nil
mutual
theorem ow_nx {n : Nat} {w : List (PySem.Str × U)} (hn : h[n]? = some (.xd w)) : ∀ {u : U} {t : T} {f : List Nat}, Ow cc h F u t f → n ∉ f
  | _, _, _, .hole u => by simp
  | _, _, _, .leaf r => by simp
  | _, _, _, .ls e r => fun m => by rw [List.mem_singleton.mp m, e] at hn; cases hn
  | _, _, _, .lT e r => fun m => (List.mem_cons.mp m).elim (fun z => by rw [z, e] at hn; cases hn) (ows_nx hn r)
  | _, _, _, .dK e q r => fun m => by rw [List.mem_singleton.mp m, e] at hn; cases hn
  | _, _, _, .dT e q r => fun m => by rw [List.mem_singleton.mp m, e] at hn; cases hn
  | _, _, _, .is e q r => fun m => (List.mem_cons.mp m).elim (fun z => by rw [z, e] at hn; cases hn) (ows_nx hn r)
theorem ows_nx {n : Nat} {w : List (PySem.Str × U)} (hn : h[n]? = some (.xd w)) : ∀ {us : List U} {ts : List T} {f : List Nat}, Ows cc h F us ts f → n ∉ f
  | _, _, _, .nil => by simp
  | _, _, _, .cons x r => fun m => (List.mem_append.mp m).elim (ow_nx hn x) (ows_nx hn r)
end
end
end P

set_option Elab.async false
set_option linter.all false
/-! PDefL: a dict of the top that nobody changes. -/
namespace P
def tabV (kvs : List (List Nat × Int)) (s : List Nat) : Option Int := (kvs.find? fun p => p.1 = s).map (·.2)
def gTab (kvs : List (List Nat × Int)) : D → Option D
  | .str s => (tabV kvs s).map D.int
  | _ => none
def gTabG (kvs : List (List Nat × Int)) : D → D → Option D
  | .str s, .int j => some (.int ((tabV kvs s).getD j))
  | _, _ => none
end P

set_option Elab.async false
set_option linter.all false
set_option maxRecDepth 100000
set_option maxHeartbeats 1000000
/-! PSL: a dict of the top that nobody changes. -/
namespace P
open Q (U O Sto Env' R RS EM TM AM SM Sem')
section
variable {cc : Nat → Nat} {h h' h1 h2 : Sto} {F F' F1 F2 : Nat → Prop} {u : U} {d : D} {f f1 f2 fp : List Nat} {env : Env'} {e e' : Env} {q s s1 : Bool} {kvs : List (List Nat × Int)}
end
end P

set_option Elab.async false
set_option linter.all false
/-! PDefM: an object whose __init__ may raise. -/
namespace P
def pMakeX (C n : Nat) (sem : PSem) (am : PDs) : PT := fun e => (am e).bind fun ds e1 => if ds.length + 1 = n then (match sem (.is C [] :: ds.map .leaf) with
  | .ok (.leaf .non) [w] => .ok w e1
  | .exc C' x => .exc C' x e1
  | _ => .bad) else .bad
end P

set_option Elab.async false
set_option linter.all false
set_option maxRecDepth 100000
set_option maxHeartbeats 1000000
/-! PSM: an object whose __init__ may raise. -/
namespace P
open Q (U O Sto Env' R RS EM TM AM SM Sem')
section
variable {cc : Nat → Nat} {h h' h1 h2 : Sto} {F F' F1 F2 : Nat → Prop} {u : U} {d : D} {f f1 f2 fp : List Nat} {env : Env'} {e e' : Env} {q s s1 : Bool}
end
end P

set_option Elab.async false
set_option linter.all false
/-! PDefN: defs whose changed arguments outlive an exception; list(zip(..)); reversed(list). -/
namespace P
inductive PFX where
  | ok (t : T) (ws : List T)
  | exc (C : Nat) (x : Option (List (String × D))) (ws : List T)
  | bad
  deriving Repr
abbrev PSemX := List T → PFX
def pFnX (n : Nat) (mask : List Bool) (body : PS) : PSemX := fun ts => if mask.length ≤ ts.length then (match body (ts ++ List.replicate (n - ts.length) .hole) with
  | .nx e => .ok (.leaf .non) (pick mask e)
  | .rt t e => .ok t (pick mask e)
  | .ex C x e => .exc C x (pick mask e)
  | _ => .bad) else .bad
/-- a method of the object at a path, which it may change, also where it raises -/
def pMethX (C : Nat) (m : String) (n : Nat) (sem : PSemX) (p : Pth) (am : PDs) : PT := fun e => (p.ev e).bind fun r e1 => match getP p.root r e1 with
  | some (.is C1 fs) => (if C1 = C ∧ fs.lookup m = none then (am e1).bind fun ds e2 => (match getP p.root r e2 with
    | some (.is C2 fs2) => (if ds.length + 1 = n then (match sem (.is C2 fs2 :: ds.map .leaf) with
      | .ok t [w] => .ok t (setP p.root r w e2)
      | .exc C x [w] => .exc C x (setP p.root r w e2)
      | _ => .bad) else .bad)
    | _ => .bad) else .bad)
  | _ => .bad
def isAnyD : D → Bool := fun _ => true
/-- list(zip(..)) -/
def pLZ (am : PDs) : PT := fun e => (am e).bind fun ds e1 => match ds with
  | [x, y] => (match sqD x, sqD y with
    | some us, some ts => if us.length ≤ 16000000 then .ok (.ls (pairs us ts)) e1 else .bad
    | _, _ => .bad)
  | _ => .bad
/-- what reversed(..) walks -/
def gRv : List D → Option (List D)
  | [.lst us] => some us.reverse
  | _ => none
abbrev iRv := iOp gRv
/-- a walk over the keys of the dict at a path, which nobody changes any more -/
def iKp (p : Pth) : PDs := fun e => (p.ev e).bind fun r e1 => match getP p.root r e1 with
  | some (.dK kvs) => .ok (kvs.map fun q => dkD q.1) (setP p.root r (.leaf (.dKl kvs)) e1)
  | some (.leaf (.dKl kvs)) => .ok (kvs.map fun q => dkD q.1) e1
  | _ => .bad
end P

set_option Elab.async false
set_option linter.all false
set_option maxRecDepth 100000
set_option maxHeartbeats 1000000
/-! PSN: the same, that the store meanings do so. -/
namespace P
open Q (U O Sto Env' R RS EM TM AM SM Sem')
section
variable {cc : Nat → Nat} {h h' h1 h2 : Sto} {F F' F1 F2 : Nat → Prop} {u v : U} {d : D} {us : List U} {ds : List D} {t : T} {ts : List T} {f f1 f2 fp fp' fp1 fp2 : List Nat} {env env' : Env'} {e e' : Env} {i : Nat} {q s s1 s2 : Bool} {mk : List Bool}
def SimX (cc : Nat → Nat) (mask : List Bool) (sem : Sem') (ps : PSemX) : Prop := ∀ h F us ts fp, Ows cc h F us ts fp → SR h F fp → match ps ts with
  | .ok t ws => ∃ u h' F' f1 f2, sem us h = .ok u h' ∧ Ow cc h' F' u t f1 ∧ Ows cc h' F' (pick mask us) ws f2 ∧ Fr h F fp h' F' (f1 ++ f2)
  | .exc C x ws => ∃ n h' F' f2, sem us h = .exc (cc C) n h' ∧ Ows cc h' F' (pick mask us) ws f2 ∧ Fr h F fp h' F' f2 ∧ Xd cc h' F' n x
  | .bad => True
end
end P

set_option Elab.async false
set_option linter.all false
/-! PDefO: dict(zip(..)); tuples of numbers and texts of the top, dicts of the top with such tuples. -/
namespace P
def pDZ (am : PDs) : PT := fun e => (am e).bind fun ds e1 => match ds with
  | [x, y] => (match sqD x, sqD y with
    | some us, some ts => if us.length ≤ 16000000 then (match keysOf us with
      | some ks => .ok (.dK (mergeP [] (ks.zip ts))) e1
      | none => .bad) else .bad
    | _, _ => .bad)
  | _ => .bad
abbrev AtL := List (Int ⊕ List Nat)
def atD : Int ⊕ List Nat → D
  | .inl i => .int i
  | .inr s => .str s
abbrev TbL := List (List Nat × AtL)
def tbV (kvs : TbL) (s : List Nat) : Option AtL := (kvs.find? fun p => p.1 = s).map (·.2)
def gTabB (kvs : TbL) : D → Option D
  | .str s => (tbV kvs s).map fun l => .tup (l.map atD)
  | _ => none
/-- a walk over the keys of a dict that is locked -/
def iKd (a : PE) : PDs := fun e => (a e).bind fun d e1 => match d with
  | .dKl kvs => .ok (kvs.map fun q => dkD q.1) e1
  | _ => .bad
end P

set_option Elab.async false
set_option linter.all false
set_option maxRecDepth 100000
set_option maxHeartbeats 1000000
/-! PSO: the same, that the store meanings do so. -/
namespace P
open Q (U O Sto Env' R RS EM TM AM SM Sem')
section
variable {cc : Nat → Nat} {h h' h1 h2 : Sto} {F F' F1 F2 : Nat → Prop} {u v : U} {d : D} {us : List U} {ds : List D} {t : T} {ts : List T} {f f1 f2 fp fp' fp1 fp2 : List Nat} {env env' : Env'} {e e' : Env} {i : Nat} {q s s1 s2 : Bool} {mk : List Bool}
end
end P

set_option Elab.async false
set_option linter.all false
/-! PDefP: sorted(xs, key=lambda x: x[0]), the first parts pairs of numbers. -/
namespace P
def kxD : D → Int
  | .tup (.tup [.int i, .int _] :: _) => i
  | _ => 0
def kyD : D → Int
  | .tup (.tup [.int _, .int j] :: _) => j
  | _ => 0
def keyedD : D → Bool
  | .tup (.tup [.int _, .int _] :: _) => true
  | _ => false
def leD (u v : D) : Bool := decide (kxD u < kxD v ∨ (kxD u = kxD v ∧ kyD u ≤ kyD v))
def gSortK : List D → Option T
  | [.lst ds] => if ds.all keyedD = true ∧ ds.length ≤ 16000000 then some (.ls (ds.mergeSort leD)) else none
  | _ => none
/-- a thing is appended to the list of things at a path -/
def pUpT (p : Pth) (a : PT) : PE := fun e => (p.ev e).bind fun r e1 => match getP p.root r e1 with
  | some (.lT _) => (a e1).bind fun t e2 => (match getP p.root r e2 with
    | some (.lT ts) => if ts.length < 16000000 then .ok .non (setP p.root r (.lT (ts ++ [t])) e2) else .bad
    | _ => .bad)
  | _ => .bad
/-- a thing is put at a place of the list of things at a path -/
def sSetIT (p : Pth) (i : PE) (a : PT) : PS := fun e => (a e).st fun t e1 => (p.ev e1).st fun r e2 => (i e2).st fun x e3 => match x, getP p.root r e3 with
  | .int k, some (.lT ts) => (match ixN ts.length k with
    | some j => .nx (setP p.root r (.lT (ts.set j t)) e3)
    | none => .bad)
  | _, _ => .bad
/-- a call of two arguments, a slot and a path, both only looked at -/
def pCallBB (sem : PSem) (i : Nat) (p : Pth) : PT := fun e => match e[i]? with
  | some .hole => .bad
  | none => .bad
  | some _ => (p.ev e).bind fun r e1 => match e1[i]?, getP p.root r e1 with
    | some s, some t => (match s.fz, t.fz with
      | some d, some b => (match sem [.leaf d, .leaf b] with
        | .ok t _ => if t.flat = true then .ok t e1 else .bad
        | .exc C none => .exc C none e1
        | _ => .bad)
      | _, _ => .bad)
    | _, _ => .bad
/-- a comprehension over a list that is only looked at -/
def pLcV.go (c : CT) (t : PB) (a : PE) (vs : List Nat) (x : D) (e : Env) : PR T := match x with
  | .lst ds => (lcL c t a vs ds [] e).bind fun r e2 => .ok (.ls r) (kill vs e2)
  | _ => .bad
def pLcV (it : PE) (c : CT) (t : PB) (a : PE) (vs : List Nat) : PT := fun e => (it e).bind fun x e1 => pLcV.go c t a vs x e1
end P

set_option Elab.async false
set_option linter.all false
set_option maxRecDepth 100000
set_option maxHeartbeats 1000000
/-! PSP: the same, that the store meanings do so. -/
namespace P
open Q (U O Sto Env' R RS EM TM AM SM Sem')
section
variable {cc : Nat → Nat} {h h' h1 h2 : Sto} {F F' F1 F2 : Nat → Prop} {u v : U} {d : D} {us : List U} {ds : List D} {t : T} {ts : List T} {f f1 f2 fp fp' fp1 fp2 : List Nat} {env env' : Env'} {e e' : Env} {i : Nat} {q s s1 s2 : Bool} {mk : List Bool}
theorem keyed_rel (r : Dn cc h F u d) (k : keyedD d = true) : QH.keyedU u = true ∧ QH.kxU u = kxD d ∧ QH.kyU u = kyD d := by
  unfold keyedD at k
  split at k
  · cases r with
    | tup rs =>
      cases rs with
      | cons r1 r2 =>
        cases r1 with
        | tup rs1 =>
          cases rs1 with
          | cons a b =>
            cases b with
            | cons c d =>
              cases a; cases c; cases d
              exact ⟨rfl, rfl, rfl⟩
  · cases k
theorem keyed_all : ∀ {us : List U} {ds : List D}, Dns cc h F us ds → ds.all keyedD = true → us.all QH.keyedU = true
  | _, _, .nil, _ => rfl
  | _, _, .cons (d := d) (ds := ds) x r, k => by
    obtain ⟨k1, k2⟩ := Bool.and_eq_true_iff.mp (show (keyedD d && List.all ds keyedD) = true from k)
    exact Bool.and_eq_true_iff.mpr ⟨(keyed_rel x k1).1, keyed_all r k2⟩
theorem dns_pairs : ∀ {us : List U} {ds : List D}, Dns cc h F us ds → ∃ cs : List (U × D), cs.map Prod.fst = us ∧ cs.map Prod.snd = ds ∧ ∀ c ∈ cs, Dn cc h F c.1 c.2
  | _, _, .nil => ⟨[], rfl, rfl, by simp⟩
  | _, _, .cons (u := u) (d := d) x r => by
    obtain ⟨cs, a, b, c⟩ := dns_pairs r
    exact ⟨(u, d) :: cs, by simp [a], by simp [b], fun z m => (List.mem_cons.mp m).elim (fun e => by subst e; exact x) (c z)⟩
theorem dns_of : ∀ {cs : List (U × D)}, (∀ c ∈ cs, Dn cc h F c.1 c.2) → Dns cc h F (cs.map Prod.fst) (cs.map Prod.snd)
  | [], _ => .nil
  | b :: bs, hb => .cons (hb b (.head _)) (dns_of fun c m => hb c (.tail _ m))
theorem sortK_rel (r : Dns cc h F us ds) (k : ds.all keyedD = true) : Dns cc h F (us.mergeSort QH.leU) (ds.mergeSort leD) := by
  obtain ⟨cs, a, b, c⟩ := dns_pairs r
  subst a; subst b
  have key : ∀ p ∈ cs, QH.kxU p.1 = kxD p.2 ∧ QH.kyU p.1 = kyD p.2 := fun p hp => (keyed_rel (c p hp) (List.all_eq_true.mp k p.2 (List.mem_map_of_mem hp))).2
  have z1 : (cs.map Prod.fst).mergeSort QH.leU = (cs.mergeSort fun p q => leD p.2 q.2).map Prod.fst := by
    rw [List.map_mergeSort]
    intro p hp q hq
    unfold QH.leU leD
    rw [(key p hp).1, (key p hp).2, (key q hq).1, (key q hq).2]
  have z2 : (cs.map Prod.snd).mergeSort leD = (cs.mergeSort fun p q => leD p.2 q.2).map Prod.snd := by
    rw [List.map_mergeSort]; intros; rfl
  rw [z1, z2]
  exact dns_of fun p hp => c p (List.mem_mergeSort.mp hp)
theorem op_sortK : OpL cc s QH.uSortKs gSortK (RT cc) := by
  intro q h F fp env e us ds x sr r
  unfold gSortK
  split
  · rename_i xs
    obtain ⟨u, rfl, t⟩ := ra_one r
    obtain ⟨us, a, r⟩ := t
    split
    · rename_i z
      have hl : us.length = xs.length := r.len
      show Out cc q (RT cc) h F fp env (QH.uSortK u h) _
      unfold QH.uSortK
      simp only [aL_of_mL a]
      rw [if_pos ⟨keyed_all r z.1, by rw [hl]; exact z.2⟩]
      exact out_new x sr (sortK_rel r z.1)
    · trivial
  · trivial
/-! ### trees in lists of trees -/
theorem sim_upT {m ma : EM} {p : Pth} {pa : PT} (a : SimP cc m p) (b : Sim cc q (RT cc) ma pa) (z : p.isVar = true ∨ q = true) : Sim cc false (RD cc) (Q.mLM Q.uApp m (Q.aCons ma Q.aNil)) (pUpT p pa) := fun h F env e fp x sr =>
  Out.bind0 sr (Out.anyQ (a h F env e fp x sr)) (fun u r h1 F1 e1 f2 r1 x1 sr1 st sm => by
    obtain ⟨_, ⟨o, b1, b2⟩, b3⟩ := r1
    cases q1 : getP p.root r e1 with
    | none => trivial
    | some t =>
      cases t with
      | lT xs =>
        have al : (Q.aL h1 u).isSome = true := by
          obtain ⟨o', v, g1, g2, c1, c2, c3, _⟩ := x1.pt q1 (fun z => by cases z)
          rw [b1] at c1; cases c1
          rw [b2] at c2; cases c2
          cases c3 with
          | lT e r => rw [Q.e_aL_ref, e]; rfl
        rw [if_pos al]
        have ea : ((Q.aCons ma Q.aNil) env h1).bind (fun us h2 => Q.uApp u us h2) = (ma env h1).bind fun y h2 => Q.uApp u [y] h2 := by
          unfold Q.aCons Q.aNil
          cases ma env h1 <;> rfl
        rw [ea]
        refine Out.bind (path_later b2 b3 z (b h1 F1 env e1 f2 x1 sr1)) (fun y t h2 F2 e2 f3 f4 r2 x2 fr2 sm2 => ?_)
        obtain ⟨r2, b2⟩ := r2
        show Out cc false (RD cc) h2 F2 (f3 ++ f4) env _ (match getP p.root r e2 with | some (.lT ts) => if ts.length < 16000000 then PR.ok D.non (setP p.root r (.lT (ts ++ [t])) e2) else .bad | _ => .bad)
        cases q2 : getP p.root r e2 with
        | none => trivial
        | some t2 =>
          cases t2 with
          | lT ts =>
            simp only
            by_cases hz : ts.length < 16000000
            case neg => rw [if_neg hz]; trivial
            rw [if_pos hz]
            obtain ⟨o', v, g1, g2, c1, c2, c3, c4, c5⟩ := x2.pt q2 (fun z => by cases z)
            rw [b1] at c1; cases c1
            rw [b2] at c2; cases c2
            cases c3 with
            | @lT n ys _ fpL en rr =>
              rw [Q.e_app, en]
              simp only
              rw [if_pos (by rw [rr.len]; exact hz)]
              have pp : (f3 ++ f4).Perm ((n :: (fpL ++ f3)) ++ g2) := by
                refine (c4.append_left f3).trans ?_
                have : (f3 ++ (n :: fpL ++ g2)).Perm ((n :: fpL) ++ (f3 ++ g2)) := perm_mid
                refine this.trans ?_
                simp
              have sr' := fr2.sr.perm pp
              have nn : n ∉ fpL ++ f3 := by
                have nd := sr'.nd
                simp only [List.cons_append, List.nodup_cons, List.mem_append, not_or] at nd
                rw [List.mem_append]
                exact fun m => m.elim nd.1.1.1 nd.1.1.2
              have st2 := Stab.set sr' (n := n) (List.mem_append_left _ List.mem_cons_self) (O.lst (ys ++ [y]))
              exact out_set fr2.sr pp List.mem_cons_self (c5 rfl) (.lT (by rw [List.getElem?_set_self (List.getElem?_eq_some_iff.mp en).1]) (Ows.mono st2 (Keep.set _ nn) (rr.app (Ow.one r2)))) (List.Sublist.refl _) ⟨rfl, .non⟩
          | _ => trivial
      | _ => trivial) rp_nil
theorem ss_setIT {mk : List Bool} {m mi me : EM} {p : Pth} {pi : PE} {pa : PT} (ap : SimP cc m p) (b : Sim cc q (RD cc) mi pi) (a : Sim cc s (RT cc) me pa) (z : p.isVar = true ∨ q = true) : SimS cc mk (Q.mSetI Q.uSetL m mi me) (sSetIT p pi pa) := fun h F env e fp x sr =>
  OutS.st (a h F env e fp x sr) fun w t h1 F1 e1 f1 f2 r1 x1 fr1 sm1 => by
    have aa := ap h1 F1 env e1 f2 x1 fr1.sr.right
    show OutS cc mk h1 F1 (f1 ++ f2) env (Q.R.st (m env h1) env _) ((p.ev e1).st _)
    cases q0 : p.ev e1 with
    | bad => trivial
    | exc C y e' =>
      rw [q0] at aa
      obtain ⟨n, h', F', f3, b1, b2, b3, b4⟩ := aa
      rw [b1]
      exact ⟨n, env, h', F', f3, rfl, b2, (b3.hold fr1.sr).sub (List.sublist_append_right _ _), b4, Kp.refl env⟩
    | ok r e2 =>
      rw [q0] at aa
      obtain ⟨u, h2, F2, f3, f4, b1, ⟨rfl, ⟨o, d1, d2⟩, d3⟩, x2, fr2, sm2⟩ := aa
      rw [b1]
      have fr2' := fr2.hold fr1.sr
      have y2 : Ow cc h2 F2 w t f1 := Ow.mono (fr2.stab fr1.sr.right) (fr2.kept fr1.sr) r1
      refine OutS.trans fr2' (Kp.refl env) ?_
      simp only [Q.e_st_ok, PR.st, List.nil_append]
      have bb := path_later d2 d3 z (b h2 F2 env e2 f4 x2 fr2'.sr.right)
      show OutS cc mk h2 F2 (f1 ++ f4) env (Q.R.st (mi env h2) env _) ((pi e2).st _)
      cases q3 : pi e2 with
      | bad => trivial
      | exc C y e' =>
        rw [q3] at bb
        obtain ⟨n, h', F', f3, b1, b2, b3, b4⟩ := bb
        rw [b1]
        exact ⟨n, env, h', F', f3, rfl, b2, (b3.hold fr2'.sr).sub (List.sublist_append_right _ _), b4, Kp.refl env⟩
      | ok di e3 =>
        rw [q3] at bb
        obtain ⟨ui, h3, F3, f5, f6, b1, ⟨⟨rfl, rdi⟩, d2⟩, x3, fr3, sm3⟩ := bb
        rw [b1]
        have fr3' := fr3.hold fr2'.sr
        have y3 : Ow cc h3 F3 w t f1 := Ow.mono (fr3.stab fr2'.sr.right) (fr3.kept fr2'.sr) y2
        refine OutS.trans fr3' (Kp.refl env) ?_
        simp only [Q.e_st_ok, PR.st, List.nil_append]
        cases rdi with
        | int k =>
          cases q1 : getP p.root r e3 with
          | none => trivial
          | some tt =>
            cases tt with
            | lT ts =>
              obtain ⟨o', v, g1, g2, c1, c2, c3, c4, c5⟩ := x3.pt q1 (fun z => by cases z)
              rw [d1] at c1; cases c1
              rw [d2] at c2; cases c2
              cases c3 with
              | @lT n ys _ fpL en rr =>
                show OutS cc mk h3 F3 (f1 ++ f6) env (match Q.uSetL (.ref n) (.int k) w h3 with | some h4 => RS.nx env h4 | none => .bad) (match ixN ts.length k with | some j => .nx (setP p.root r (.lT (ts.set j t)) e3) | none => .bad)
                cases q2 : ixN ts.length k with
                | none => trivial
                | some j =>
                  have q2' : L2.ixN ys.length k = some j := by rw [rr.len]; exact q2
                  rw [Q.e_set, en]
                  simp only [q2', Option.map]
                  have hj : j < ts.length := by
                    unfold ixN at q2
                    split at q2
                    · split at q2
                      · cases q2; omega
                      · cases q2
                    · split at q2
                      · cases q2; omega
                      · cases q2
                  obtain ⟨o2, k1, k2, i1, i2, i3, i4⟩ := rr.at (List.getElem?_eq_getElem hj)
                  -- the footprint: n, the old thing's k1, the others' k2, the new thing's f1, what is else g2
                  have pp : (f1 ++ f6).Perm (k1 ++ ((n :: (f1 ++ k2)) ++ g2)) := by
                    refine (c4.append_left f1).trans ?_
                    refine ((((i3.cons n).append_right g2)).append_left f1).trans ?_
                    have e1 : (f1 ++ (n :: (k1 ++ k2) ++ g2)).Perm ((n :: (k1 ++ k2)) ++ (f1 ++ g2)) := perm_mid
                    refine e1.trans ?_
                    have e2 : ((n :: (k1 ++ k2)) ++ (f1 ++ g2)).Perm (k1 ++ (n :: (k2 ++ (f1 ++ g2)))) := by
                      have : ((n :: (k1 ++ k2)) ++ (f1 ++ g2)) = n :: (k1 ++ (k2 ++ (f1 ++ g2))) := by simp
                      rw [this]
                      exact List.perm_middle.symm
                    refine e2.trans (List.Perm.append_left k1 ?_)
                    have e3 : (n :: (k2 ++ (f1 ++ g2))).Perm (n :: (f1 ++ (k2 ++ g2))) := List.Perm.cons n perm_mid
                    refine e3.trans ?_
                    simp
                  have sr' := (fr3'.sr.perm pp).right
                  have nn : n ∉ f1 ++ k2 := by
                    have nd := sr'.nd
                    simp only [List.cons_append, List.nodup_cons, List.mem_append, not_or] at nd
                    rw [List.mem_append]
                    exact fun m => m.elim nd.1.1.1 nd.1.1.2
                  have n4 : n ∉ g2 := by
                    have nd := sr'.nd
                    simp only [List.cons_append, List.nodup_cons, List.mem_append, not_or] at nd
                    exact nd.1.2
                  have stn := Stab.set sr' (n := n) (List.mem_append_left _ List.mem_cons_self) (O.lst (ys.set j w))
                  obtain ⟨fpN, j1, j2⟩ := i4 (h3.set n (O.lst (ys.set j w))) F3 w t f1 stn (Keep.set _ fun m => nn (List.mem_append_right _ m)) (Ow.mono stn (Keep.set _ fun m => nn (List.mem_append_left _ m)) y3)
                  obtain ⟨fp', m1, m2⟩ := c5 rfl (h3.set n (O.lst (ys.set j w))) F3 (.lT (ts.set j t)) (n :: fpN) stn (Keep.set _ n4) (.lT (by rw [List.getElem?_set_self (List.getElem?_eq_some_iff.mp en).1]) j1)
                  refine ⟨env, _, F3, fp', rfl, m1, ?_, Kp.refl env⟩
                  have frs := Fr.set (fr3'.sr.perm pp) (n := n) (List.mem_append_right _ (List.mem_append_left _ List.mem_cons_self)) (O.lst (ys.set j w))
                  have p3 : fp'.Perm ((n :: (f1 ++ k2)) ++ g2) := m2.trans ((j2.cons n).append_right g2)
                  exact ((frs.sub (List.sublist_append_right _ _)).perm p3.symm).permL pp.symm
            | _ => trivial
        | _ => trivial
theorem sim_callBB {i : Nat} {mask : List Bool} {sem : Sem'} {ps : PSem} (ok : SimF cc mask sem ps) {m : EM} {p : Pth} (ap : SimP cc m p) : Sim cc q (RT cc) (Q.mCall 2 sem (Q.aCons (Q.mVar i) (Q.aCons m Q.aNil))) (pCallBB ps i p) := fun h F env e fp x sr => by
  unfold pCallBB
  split
  · trivial
  · trivial
  rename_i s0 nh0 q0
  obtain ⟨v, hv⟩ := slot_val x q0 nh0
  have ec : Q.mCall 2 sem (Q.aCons (Q.mVar i) (Q.aCons m Q.aNil)) env h = (m env h).bind fun u h1 => sem [v, u] h1 := by
    show R.bind (R.bind (Q.mVar i env h) _) _ = _
    rw [Q.e_var, hv]
    show R.bind (R.bind (R.bind (m env h) _) _) _ = _
    cases m env h <;> rfl
  rw [ec]
  exact Out.bind0 sr (Out.anyQ (ap h F env e fp x sr)) (fun u r h1 F1 e1 f2 r1 x1 sr1 st sm => by
    obtain ⟨_, ⟨o, b1, b2⟩, b3⟩ := r1
    cases q1 : e1[i]? with
    | none => trivial
    | some s =>
      cases q2 : getP p.root r e1 with
      | none => trivial
      | some t =>
        simp only
        cases qf : s.fz with
        | none => trivial
        | some d =>
          cases qg : t.fz with
          | none => trivial
          | some b =>
            simp only
            obtain ⟨o1, g1, g2, c1, c2, c3, _⟩ := x1.at q1
            rw [hv] at c1; cases c1
            obtain ⟨o2, v2, k1, k2, a1, a2, a3, a4, _⟩ := x1.pt q2 (fun z => by subst z; cases qg)
            rw [b1] at a1; cases a1
            rw [b2] at a2; cases a2
            have dn1 := Ow.frz c2 qf (fun n => F1 n ∨ n ∈ g1 ++ k1) (fun _ y => .inl y) (fun _ y => .inr (List.mem_append_left _ y))
            have dn2 := Ow.frz a3 qg (fun n => F1 n ∨ n ∈ g1 ++ k1) (fun _ y => .inl y) (fun _ y => .inr (List.mem_append_right _ y))
            have o := lent_out ok x1 sr1 (fb := g1 ++ k1) (fun n m => (List.mem_append.mp m).elim (fun m => c3.mem_iff.mpr (List.mem_append_left _ m)) fun m => a4.mem_iff.mpr (List.mem_append_left _ m)) (.cons (f1 := []) (f2 := []) (.leaf dn1) (.cons (f1 := []) (f2 := []) (.leaf dn2) .nil))
            cases q3 : ps [.leaf d, .leaf b] with
            | bad => trivial
            | exc C y =>
              cases y with
              | some y => trivial
              | none =>
                rw [q3] at o
                obtain ⟨m, h', b1, b2, b3, b4⟩ := o
                exact ⟨m, h', F1, f2, b1, b2, b3, b4⟩
            | ok t ws =>
              rw [q3] at o
              show Out cc q (RT cc) h1 F1 f2 env _ (if t.flat = true then .ok t e1 else .bad)
              by_cases fl : t.flat = true
              case neg => rw [if_neg fl]; trivial
              rw [if_pos fl]
              obtain ⟨u, h', f3, b1, b2, b3, b4, b5⟩ := o fl
              exact ⟨u, h', F1, f3, f2, b1, b2, b3, b4, fun _ => b5⟩) rp_nil
/-! ### a comprehension over a list that is only looked at -/
def ChkS (n : Nat) (h : Sto) (c : Q.Chk) : Prop := ∀ p ∈ c, p.1 < h.length ∧ p.1 ≠ n ∧ h[p.1]? = some (.lst p.2)
theorem ChkS.ok {n : Nat} {c : Q.Chk} (x : ChkS n h c) : Q.chkOk c h := fun p m => (x p m).2.2
theorem ChkS.mono {n : Nat} {c : Q.Chk} (x : ChkS n h c) (l : h.length ≤ h'.length) (e : ∀ j, j < h.length → j ≠ n → h'[j]? = h[j]?) : ChkS n h' c := fun p m => ⟨Nat.lt_of_lt_of_le (x p m).1 l, (x p m).2.1, (e _ (x p m).1 (x p m).2.1).trans (x p m).2.2⟩
theorem lc_goV {c : CT} {t : TM} {me : EM} {pt : PB} {pe : PE} {vs : List Nat} {n : Nat} {env0 : Env'} (hq : q = true) (ht : Sim cc q RE t pt) (he : Sim cc q (RD cc) me pe) (hc : ∀ i ∈ c.ix, i ∈ vs) :
    ∀ {us : List U} {ds : List D} {accU : List U} {accD : List D} {ck : Q.Chk} {h : Sto} {F : Nat → Prop} {e : Env} {fp : List Nat}, Dns cc h F us ds → ChkS n h ck → h[n]? = some (.lst accU) → Dns cc h F accU accD → Ev cc h F env0 (kill vs e) fp → SR h F (n :: fp) →
      match lcL c pt pe vs ds accD e with
      | .ok r e' => ∃ h' F' f2 accU', Q.lcL ck (ctQ c) t me n env0 us h = .ok (.ref n) h' ∧ h'[n]? = some (.lst accU') ∧ Dns cc h' F' accU' r ∧ Ev cc h' F' env0 (kill vs e') f2 ∧ Fr h F (n :: fp) h' F' (n :: f2) ∧ (q = true → ∀ k, k < h.length → k ≠ n → h'[k]? = h[k]?)
      | .exc _ _ _ => False
      | .bad => True
  | _, _, accU, accD, ck, h, F, e, fp, .nil, k, hn, ra, x, sr => by
    unfold lcL Q.lcL
    rw [if_pos k.ok]
    exact ⟨h, F, fp, accU, rfl, hn, ra, x, Fr.refl sr, fun _ _ _ _ => rfl⟩
  | _, _, accU, accD, ck, h, F, e, fp, .cons (us := us) (ds := ds) (u := u) (d := d) y r, k, hn, ra, x, sr => by
    unfold lcL
    cases q1 : c.asg d (kill vs e) with
    | none => trivial
    | some e1 =>
      obtain ⟨env1, a1, al, a2, fp1, x1, g1, p1⟩ := ct_asg x y q1
      have sr1 : SR h F (n :: fp1) := (sr.perm (p1.cons n)).sub ((List.sublist_append_right g1 fp1).cons₂ n)
      have srs : SR h F ([n] ++ fp1) := sr1
      have tt := ht h F env1 e1 fp1 x1 srs.right
      unfold Q.lcL
      rw [if_pos k.ok, a1]
      simp only
      cases q2 : pt e1 with
      | bad => trivial
      | exc C z e' => trivial
      | ok b e2 =>
        rw [q2] at tt
        obtain ⟨b', h2, F2, f3, f4, b1, ⟨rfl, rfl⟩, x2, fr2, sm2⟩ := tt
        rw [b1]
        have fr2' : Fr h F ([n] ++ fp1) h2 F2 ([n] ++ f4) := fr2.hold srs
        have keep2 : h2[n]? = h[n]? := fr2.kept srs n (List.mem_singleton.mpr rfl)
        have st2 := fr2'.stab srs
        show match (if b' = true then (pe e2).no.bind fun y e3 => if accD.length < 16000000 then lcL c pt pe vs ds (accD ++ [y]) e3 else .bad else lcL c pt pe vs ds accD e2) with
          | .ok r e' => ∃ h' F' f2 accU', (if b' = true then (me env1 h2).no.bind fun y h2 => (match h2[n]? with
              | some (.lst acc) => if acc.length < 16000000 then Q.lcL ck (ctQ c) t me n env0 us (h2.set n (.lst (acc ++ [y]))) else .bad
              | _ => .bad) else Q.lcL ck (ctQ c) t me n env0 us h2) = .ok (.ref n) h' ∧ h'[n]? = some (.lst accU') ∧ Dns cc h' F' accU' r ∧ Ev cc h' F' env0 (kill vs e') f2 ∧ Fr h F (n :: fp) h' F' (n :: f2) ∧ (q = true → ∀ k, k < h.length → k ≠ n → h'[k]? = h[k]?)
          | .exc _ _ _ => False
          | .bad => True
        have fr0 : Fr h F (n :: fp) h2 F2 (n :: f4) := by
          have z : Fr h F (n :: fp) h F (n :: fp1) := (Fr.refl sr).perm (p1.cons n) |>.sub ((List.sublist_append_right g1 fp1).cons₂ n)
          exact z.trans fr2'
        have x2' : ∀ {h3 F3 e3 f5}, Ev cc h3 F3 env1 e3 f5 → ∃ f6, Ev cc h3 F3 env0 (kill vs e3) f6 ∧ ∃ f7, f5.Perm (f7 ++ f6) := fun {h3 F3 e3 f5} x => by
          obtain ⟨f6, y6, f7, p7⟩ := x.kill vs
          exact ⟨f6, y6.swapK al.symm (fun i n => (a2 i (fun z => n (hc i z))).symm), f7, p7⟩
        cases b' with
        | false =>
          rw [if_neg (by decide)]
          obtain ⟨f6, y6, f7, p7⟩ := x2' x2
          have srn : SR h2 F2 (n :: f6) := (fr2'.sr.perm (p7.cons n)).sub ((List.sublist_append_right f7 f6).cons₂ n)
          have ih := lc_goV (accU := accU) (accD := accD) (ck := ck) (e := e2) hq ht he hc (r.mono st2) (k.mono fr2.len fun j l _ => sm2 hq j l) (keep2.trans hn) (ra.mono st2) y6 srn
          cases q3 : lcL c pt pe vs ds accD e2 with
          | bad => trivial
          | exc C z e' => rw [q3] at ih; exact ih.elim
          | ok rr e' =>
            rw [q3] at ih
            obtain ⟨h', F', g2, accU', c1, c2, c3, c4, c5, c6⟩ := ih
            rw [if_neg (by decide)]
            refine ⟨h', F', g2, accU', c1, c2, c3, c4, (fr0.perm (p7.cons n) |>.sub ((List.sublist_append_right f7 f6).cons₂ n)).trans c5, fun z k1 l1 n1 => ?_⟩
            rw [c6 z k1 (Nat.lt_of_lt_of_le l1 fr2.len) n1, sm2 z k1 l1]
        | true =>
          rw [if_pos rfl]
          have ee := he h2 F2 env1 e2 f4 x2 fr2'.sr.right
          cases q3 : pe e2 with
          | bad => trivial
          | exc C z e' => trivial
          | ok yv e3 =>
            rw [q3] at ee
            obtain ⟨uv, h3, F3, f5, f8, d1, ⟨rfl, d2⟩, x3, fr3, sm3⟩ := ee
            have fr3' : Fr h2 F2 ([n] ++ f4) h3 F3 ([n] ++ f8) := fr3.hold fr2'.sr
            have keep3 : h3[n]? = h2[n]? := fr3.kept fr2'.sr n (List.mem_singleton.mpr rfl)
            have st3 := fr3'.stab fr2'.sr
            have hn3 : h3[n]? = some (.lst accU) := (keep3.trans keep2).trans hn
            show match (if accD.length < 16000000 then lcL c pt pe vs ds (accD ++ [yv]) e3 else .bad) with
              | .ok r e' => _
              | .exc _ _ _ => False
              | .bad => True
            by_cases hz : accD.length < 16000000
            case neg => rw [if_neg hz]; trivial
            rw [if_pos hz]
            have hl : n < h3.length := (List.getElem?_eq_some_iff.mp hn3).1
            have sr3 : SR h3 F3 ([n] ++ f8) := fr3'.sr
            have frs : Fr h3 F3 ([n] ++ f8) (h3.set n (.lst (accU ++ [uv]))) F3 ([n] ++ f8) := Fr.set sr3 (List.mem_append_left _ (List.mem_singleton.mpr rfl)) _
            have sts := frs.stab sr3
            obtain ⟨f6, y6, f7, p7⟩ := x2' (x3.mono sts (Keep.set _ (fun m => (List.nodup_append.mp sr3.nd).2.2 n (List.mem_singleton.mpr rfl) n m rfl)))
            have srn : SR (h3.set n (.lst (accU ++ [uv]))) F3 (n :: f6) := (frs.sr.perm (p7.cons n)).sub ((List.sublist_append_right f7 f6).cons₂ n)
            have sta := (st2.trans st3).trans sts
            have ih := lc_goV (accU := accU ++ [uv]) (accD := accD ++ [yv]) (ck := ck) (e := e3) hq ht he hc (r.mono sta) (k.mono (by simp; exact Nat.le_trans fr2.len fr3.len) fun j l nj => (List.getElem?_set_ne (Ne.symm nj)).trans ((sm3 hq j (Nat.lt_of_lt_of_le l fr2.len)).trans (sm2 hq j l))) (List.getElem?_set_self hl) ((ra.mono sta).app (.cons (d2.mono sts) .nil)) y6 srn
            cases q4 : lcL c pt pe vs ds (accD ++ [yv]) e3 with
            | bad => trivial
            | exc C z e' => rw [q4] at ih; exact ih.elim
            | ok rr e' =>
              rw [q4] at ih
              obtain ⟨h', F', g2, accU', c1, c2, c3, c4, c5, c6⟩ := ih
              refine ⟨h', F', g2, accU', ?_, c2, c3, c4, (((fr0.trans fr3').trans frs).perm (p7.cons n) |>.sub ((List.sublist_append_right f7 f6).cons₂ n)).trans c5, fun z k1 l1 n1 => ?_⟩
              · rw [if_pos rfl, d1]
                show (match h3[n]? with
                  | some (.lst acc) => if acc.length < 16000000 then Q.lcL ck (ctQ c) t me n env0 us (h3.set n (.lst (acc ++ [uv]))) else .bad
                  | _ => .bad) = _
                rw [hn3]
                simp only
                rw [if_pos (by rw [ra.len]; exact hz)]
                exact c1
              · have l2 : k1 < h2.length := Nat.lt_of_lt_of_le l1 fr2.len
                have l3 : k1 < h3.length := Nat.lt_of_lt_of_le l2 fr3.len
                rw [c6 z k1 (by simpa using l3) n1, List.getElem?_set_ne (Ne.symm n1), sm3 z k1 l2, sm2 z k1 l1]
theorem sim_lcV {m : EM} {pi : PE} {c : CT} {t : TM} {me : EM} {pt : PB} {pe : PE} {vs : List Nat} (hi : Sim cc true (RX cc false) m pi) (ht : Sim cc true RE t pt) (he : Sim cc true (RD cc) me pe) (hc : ∀ i ∈ c.ix, i ∈ vs) : Sim cc q (RT cc) (Q.mLc (Q.itE m) (ctQ c) t me vs) (pLcV pi c pt pe vs) := fun h F env e fp x sr =>
  have ev : Q.mLc (Q.itE m) (ctQ c) t me vs env h = (m env h).bind fun u h1 => (Q.seqOf u h1).bind fun z h1 => Q.lcL z.1 (ctQ c) t me h1.length (Q.wipeE env vs) z.2 (h1 ++ [.lst []]) := by
    unfold Q.mLc
    rw [Q.e_itE]
    cases m env h <;> rfl
  ev ▸ Out.anyQ (Out.bind0 sr (hi h F env e fp x sr) (fun u d h1 F1 e1 f2 r1 x1 sr1 st sm => by
    have tp := r1.tp
    unfold pLcV.go
    cases d with
    | lst ds =>
      obtain ⟨us, al, r⟩ := tp
      have es : ∃ ck, Q.seqOf u h1 = .ok (ck, us) h1 ∧ ChkS h1.length (h1 ++ [.lst []]) ck := by
        cases u with
        | ref n =>
          rw [Q.e_mL_ref] at al
          cases e0 : h1[n]? with
          | none => rw [e0] at al; cases al
          | some o =>
            rw [e0] at al
            cases o with
            | lst us' =>
              cases al
              have hl : n < h1.length := (List.getElem?_eq_some_iff.mp e0).1
              exact ⟨[(n, us)], Q.e_seq_ref e0, fun p m => by
                have : p = (n, us) := by simpa using m
                subst this
                exact ⟨by simp; omega, by show n ≠ h1.length; omega, by show (h1 ++ [O.lst []])[n]? = _; rw [List.getElem?_append_left hl]; exact e0⟩⟩
            | _ => cases al
        | fl us' => cases al; exact ⟨[], rfl, fun p m => nomatch m⟩
        | _ => cases al
      obtain ⟨ck, es, kf⟩ := es
      rw [es]
      show Out cc true (RT cc) h1 F1 f2 env (Q.lcL ck (ctQ c) t me h1.length (Q.wipeE env vs) us (h1 ++ [.lst []])) ((lcL c pt pe vs ds [] e1).bind fun r e2 => .ok (.ls r) (kill vs e2))
      have sta := Stab.app sr1 [O.lst []]
      obtain ⟨f6, y6, f7, p7⟩ := (x1.mono sta (Keep.app sr1 _)).kill vs
      have y7 := y6.swapK (wipe_len vs env) (fun i n => wipe_get vs env i n)
      have fra := Fr.app sr1 (O.lst [])
      have frs : Fr h1 F1 f2 (h1 ++ [.lst []]) F1 (h1.length :: f6) := (fra.perm (p7.cons _)).sub ((List.sublist_append_right f7 f6).cons₂ _)
      have go := lc_goV (c := c) (vs := vs) (n := h1.length) (env0 := Q.wipeE env vs) (accU := []) (accD := []) (e := e1) (q := true) rfl ht he hc (r.mono sta) kf (by rw [List.getElem?_append_right (Nat.le_refl _), Nat.sub_self]; rfl) .nil y7 frs.sr
      cases q1 : lcL c pt pe vs ds [] e1 with
      | bad => trivial
      | exc C z e' => rw [q1] at go; exact go.elim
      | ok rr e' =>
        rw [q1] at go
        obtain ⟨h', F', g2, accU', c1, c2, c3, c4, c5, c6⟩ := go
        refine ⟨_, h', F', [h1.length], g2, c1, .ls c2 c3, c4.swapK (wipe_len vs env).symm (fun i n => (wipe_get vs env i n).symm), frs.trans c5, fun z k l => ?_⟩
        rw [c6 z k (by simp; omega) (by omega), List.getElem?_append_left l]
    | _ => trivial) rx_nil)
end
end P

set_option Elab.async false
set_option linter.all false
set_option maxRecDepth 100000
set_option maxHeartbeats 1000000
/-! PLem: how pure meanings are reckoned. -/
namespace P
section
variable {α β : Type} {a : α} {e e1 e2 : Env} {d x y : D} {ds us : List D} {i j : Int} {k n : Nat} {t : T} {ts : List T} {C : Nat}
@[simp] theorem r_ok {f : α → Env → PR β} : (PR.ok a e).bind f = f a e := rfl
@[simp] theorem r_exc {z : Option (List (String × D))} {f : α → Env → PR β} : (PR.exc C z e : PR α).bind f = .exc C z e := rfl
@[simp] theorem r_bad {f : α → Env → PR β} : (PR.bad : PR α).bind f = .bad := rfl
@[simp] theorem r_st {f : α → Env → PRS} : (PR.ok a e).st f = f a e := rfl
@[simp] theorem r_stx {z : Option (List (String × D))} {f : α → Env → PRS} : (PR.exc C z e : PR α).st f = .ex C z e := rfl
@[simp] theorem r_stb {f : α → Env → PRS} : (PR.bad : PR α).st f = .bad := rfl
@[simp] theorem r_no : (PR.ok a e).no = .ok a e := rfl
@[simp] theorem r_snx : (PRS.nx e).no = .nx e := rfl
@[simp] theorem r_srt : (PRS.rt t e).no = .rt t e := rfl
@[simp] theorem r_some : oE (some a) e = .ok a e := rfl
@[simp] theorem r_none : oE (none : Option α) e = .bad := rfl
/-! trees -/
@[simp] theorem fz_leaf : (T.leaf d).fz = some d := rfl
@[simp] theorem fz_ls : (T.ls ds).fz = some (.lst ds) := rfl
@[simp] theorem fz_dK {kvs : List (DK × D)} : (T.dK kvs).fz = some (.dK kvs) := rfl
@[simp] theorem fz_dT {kvs : List (List DK × D)} : (T.dT kvs).fz = some (.dT kvs) := rfl
@[simp] theorem fz_lT : (T.lT ts).fz = match T.fzs ts with | some ds => some (.lst ds) | none => none := by
  conv => lhs; unfold T.fz
  all_goals (cases T.fzs ts <;> rfl)
@[simp] theorem fz_is {fs : List (String × T)} : (T.is C fs).fz = match T.fzf fs with | some ds => some (.ins C ds) | none => none := by
  conv => lhs; unfold T.fz
  all_goals (cases T.fzf fs <;> rfl)
@[simp] theorem fzs_nil : T.fzs [] = some [] := rfl
@[simp] theorem fzs_cons : T.fzs (t :: ts) = match t.fz, T.fzs ts with | some d, some ds => some (d :: ds) | _, _ => none := by
  conv => lhs; unfold T.fzs
  all_goals (cases t.fz <;> cases T.fzs ts <;> rfl)
@[simp] theorem fzf_nil : T.fzf [] = some [] := rfl
@[simp] theorem fzf_cons {f : String} {r : List (String × T)} : T.fzf ((f, t) :: r) = match t.fz, T.fzf r with | some d, some ds => some ((f, d) :: ds) | _, _ => none := by
  conv => lhs; unfold T.fzf
  all_goals (cases t.fz <;> cases T.fzf r <;> rfl)
@[simp] theorem vw_leaf : (T.leaf d).vw = some d := rfl
@[simp] theorem vw_ls : (T.ls ds).vw = some (.lst ds) := rfl
@[simp] theorem vw_dK {kvs : List (DK × D)} : (T.dK kvs).vw = some (.dK kvs) := rfl
@[simp] theorem vw_dT {kvs : List (List DK × D)} : (T.dT kvs).vw = some (.dT kvs) := rfl
theorem fzs_ls : ∀ ds : List (List D), T.fzs (ds.map .ls) = some (ds.map .lst)
  | [] => rfl
  | d :: ds => by simp [fzs_ls ds]
@[simp] theorem get_nil' : t.get [] = some t := by unfold T.get; rfl
@[simp] theorem get_cons' {c : Ac} {r : List Ac} : t.get (c :: r) = match t.get1 c with | some s => s.get r | none => none := by
  conv => lhs; unfold T.get
  all_goals (cases t.get1 c <;> rfl)
@[simp] theorem set_nil' {s : T} : t.set [] s = s := by unfold T.set; rfl
@[simp] theorem set_cons' {c : Ac} {r : List Ac} {s : T} : t.set (c :: r) s = match t.get1 c with | some u => t.set1 c (u.set r s) | none => t := by
  conv => lhs; unfold T.set
  all_goals (cases t.get1 c <;> rfl)
@[simp] theorem g1_lT : (T.lT ts).get1 (.ix i) = atI ts i := rfl
@[simp] theorem g1_ls : (T.ls ds).get1 (.ix i) = (atI ds i).map .leaf := rfl
@[simp] theorem g1_is {fs : List (String × T)} {Cs : List Nat} {f : String} : (T.is C fs).get1 (.fld Cs f) = if C ∈ Cs then fs.lookup f else none := rfl
@[simp] theorem g1_ins {fs : List (String × D)} {Cs : List Nat} {f : String} : (T.leaf (.ins C fs)).get1 (.fld Cs f) = if C ∈ Cs then (fs.lookup f).map .leaf else none := rfl
@[simp] theorem g1_ll : (T.leaf (.lst ds)).get1 (.ix i) = (atI ds i).map .leaf := rfl
@[simp] theorem g1_lt : (T.leaf (.tup ds)).get1 (.ix i) = (atI ds i).map .leaf := rfl
@[simp] theorem s1_lT {s : T} : (T.lT ts).set1 (.ix i) s = match ixN ts.length i with | some k => .lT (ts.set k s) | none => .lT ts := rfl
@[simp] theorem s1_is {fs : List (String × T)} {Cs : List Nat} {f : String} {s : T} : (T.is C fs).set1 (.fld Cs f) s = .is C (putF f s fs) := rfl
@[simp] theorem getP_def {r : List Ac} : getP k r e = match e[k]? with | some t => t.get r | none => none := rfl
@[simp] theorem setP_def {r : List Ac} {s : T} : setP k r s e = match e[k]? with | some t => e.set k (t.set r s) | none => e := rfl
@[simp] theorem atP_def {r : List Ac} : atP k r e = match getP k r e with | some .hole => .bad | some _ => .ok r e | none => .bad := rfl
@[simp] theorem ev_pvar : (Pth.var k).ev e = atP k [] e := rfl
@[simp] theorem ev_pfld {p : Pth} {Cs : List Nat} {f : String} : (Pth.fld p Cs f).ev e = (p.ev e).bind fun r e1 => atP p.root (r ++ [.fld Cs f]) e1 := rfl
@[simp] theorem ev_pix {p : Pth} {b : PE} : (Pth.ix p b).ev e = (p.ev e).bind fun r e1 => (b e1).bind fun x e2 => match x with | .int i => atP p.root (r ++ [.ix i]) e2 | _ => .bad := rfl
@[simp] theorem root_var : (Pth.var k).root = k := rfl
@[simp] theorem root_fld {p : Pth} {Cs : List Nat} {f : String} : (Pth.fld p Cs f).root = p.root := rfl
@[simp] theorem root_ix {p : Pth} {b : PE} : (Pth.ix p b).root = p.root := rfl
/-! expressions -/
variable {pa pb pc : PE} {ta tb : PT} {b1 b2 : PB} {am : PDs} {g : D → D → Option D} {g1 : D → Option D}
@[simp] theorem v_var : pVar k e = match e[k]? with | some (.leaf d) => .ok d e | _ => .bad := rfl
@[simp] theorem v_fv : pFv k e = match e[k]? with | some t => (match t.fz with | some d => .ok d (e.set k (.leaf d)) | none => .bad) | none => .bad := rfl
@[simp] theorem v_vw : pVw k e = match e[k]? with | some t => oE t.vw e | none => .bad := rfl
@[simp] theorem v_mv : pMv k e = match e[k]? with | some .hole => .bad | some t => .ok t (e.set k .hole) | none => .bad := rfl
@[simp] theorem v_c : pC d e = .ok d e := rfl
@[simp] theorem v_lf : pLf pa e = (pa e).bind fun d e1 => .ok (.leaf d) e1 := rfl
@[simp] theorem v_fz : pFz ta e = (ta e).bind fun t e1 => oE t.fz e1 := rfl
@[simp] theorem v_bin : pBin g pa pb e = (pa e).bind fun x e1 => (pb e1).bind fun y e2 => oE (g x y) e2 := rfl
@[simp] theorem v_un : pUn g1 pa e = (pa e).bind fun x e1 => oE (g1 x) e1 := rfl
@[simp] theorem v_add : pAdd pa pb e = (pa e).bind fun x e1 => (pb e1).bind fun y e2 => oE (tAdd x y) e2 := rfl
@[simp] theorem v_and : pAnd pa pb e = (pa e).bind fun x e1 => match x with | .bl true => pb e1 | .bl false => .ok (.bl false) e1 | _ => .bad := rfl
@[simp] theorem v_or : pOr pa pb e = (pa e).bind fun x e1 => match x with | .bl false => pb e1 | .bl true => .ok (.bl true) e1 | _ => .bad := rfl
@[simp] theorem v_if : pIf b1 pa pb e = (b1 e).bind fun c e1 => if c = true then pa e1 else pb e1 := rfl
@[simp] theorem v_ifT : pIfT b1 ta tb e = (b1 e).bind fun c e1 => if c = true then ta e1 else tb e1 := rfl
@[simp] theorem v_dnil : dNil e = .ok [] e := rfl
@[simp] theorem v_dcons : dCons pa am e = (pa e).bind fun d e1 => (am e1).bind fun ds e2 => .ok (d :: ds) e2 := rfl
@[simp] theorem v_tnil : tNil e = .ok [] e := rfl
@[simp] theorem v_tcons {at' : PTs} : tCons ta at' e = (ta e).bind fun d e1 => (at' e1).bind fun ds e2 => .ok (d :: ds) e2 := rfl
@[simp] theorem v_tup : pTup am e = (am e).bind fun ds e1 => if ds.length ≤ 16000000 then .ok (.tup ds) e1 else .bad := rfl
@[simp] theorem v_lst : pLst am e = (am e).bind fun ds e1 => if ds.length ≤ 16000000 then .ok (.ls ds) e1 else .bad := rfl
@[simp] theorem v_lsT {at' : PTs} : pLsT at' e = (at' e).bind fun ds e1 => if ds.length ≤ 16000000 then .ok (.lT ds) e1 else .bad := rfl
@[simp] theorem v_ono : oNo e = .ok none e := rfl
@[simp] theorem v_oso : oSo pa e = (pa e).bind fun x e1 => match x with | .int i => .ok (some i) e1 | _ => .bad := rfl
@[simp] theorem v_sl {lo hi : PO} : pSl pa lo hi e = (pa e).bind fun x e1 => (lo e1).bind fun l e2 => (hi e2).bind fun u e3 => oE (tSl x l u) e3 := rfl
@[simp] theorem v_cb {f : List D → Option D} : pCB f am e = (am e).bind fun ds e1 => oE (f ds) e1 := rfl
@[simp] theorem v_ct {f : List D → Option T} : pCT f am e = (am e).bind fun ds e1 => oE (f ds) e1 := rfl
@[simp] theorem v_sm1 {f : List Nat → D → Option D} : pSM1 f pa pb e = (pa e).bind fun x e1 => match x with | .str s => (pb e1).bind fun y e2 => oE (f s y) e2 | _ => .bad := rfl
@[simp] theorem v_b : pB b1 e = (b1 e).bind fun b e1 => .ok (.bl b) e1 := rfl
@[simp] theorem v_cmp {f : D → D → Option Bool} : tCmp f pa pb e = (pa e).bind fun x e1 => (pb e1).bind fun y e2 => oE (f x y) e2 := rfl
@[simp] theorem v_tand : tAnd b1 b2 e = (b1 e).bind fun c e1 => if c = true then b2 e1 else .ok false e1 := rfl
@[simp] theorem v_tor : tOr b1 b2 e = (b1 e).bind fun c e1 => if c = true then .ok true e1 else b2 e1 := rfl
@[simp] theorem v_tnot : tNot b1 e = (b1 e).bind fun c e1 => .ok (!c) e1 := rfl
@[simp] theorem v_tru : tTru pa e = (pa e).bind fun x e1 => oE (truD x) e1 := rfl
@[simp] theorem v_yes : tYes e = .ok true e := rfl
@[simp] theorem v_is {A : Ty} : tIs A pa e = (pa e).bind fun x e1 => oE (isD A x) e1 := rfl
@[simp] theorem v_is2 {A B : Ty} : tIs2 A B pa e = (pa e).bind fun x e1 => oE ((isD A x).bind fun b => (isD B x).map fun c => b || c) e1 := rfl
@[simp] theorem v_rd {p : Pth} : pRd p e = (p.ev e).bind fun r e1 => match getP p.root r e1 with | some (.leaf d) => .ok d e1 | some t => (match t.fz with | some d => .ok d (setP p.root r (.leaf d) e1) | none => .bad) | none => .bad := rfl
@[simp] theorem v_vp {p : Pth} : pVp p e = (p.ev e).bind fun r e1 => match getP p.root r e1 with | some t => oE t.vw e1 | none => .bad := rfl
@[simp] theorem v_upd {p : Pth} {f : T → List D → Option (D × T)} : pUpd p am f e = (p.ev e).bind fun r e1 => match getP p.root r e1 with
  | some (.ls _) => (am e1).bind fun ds e2 => (match getP p.root r e2 with
    | some t => (match f t ds with
      | some (d, s) => .ok d (setP p.root r s e2)
      | none => .bad)
    | none => .bad)
  | _ => .bad := rfl
@[simp] theorem v_app : uApp (.ls us) [d] = if us.length < 16000000 then some (.non, .ls (us ++ [d])) else none := rfl
@[simp] theorem v_ext : uExt (.ls us) [.lst ds] = if us.length + ds.length ≤ 16000000 then some (.non, .ls (us ++ ds)) else none := rfl
/-! operators -/
@[simp] theorem o_sub : gSub (.int i) (.int j) = some (.int (i - j)) := rfl
@[simp] theorem o_mul : gMul (.int i) (.int j) = if cMul i j then some (.int (i * j)) else none := rfl
@[simp] theorem o_div : gDiv (.int i) (.int j) = if 0 < j ∧ j.natAbs < 1073741824 then some (.int (i / j)) else none := rfl
@[simp] theorem o_mod : gMod (.int i) (.int j) = if 0 < j then some (.int (i % j)) else none := rfl
@[simp] theorem o_pow : gPow (.int i) (.int j) = if 0 ≤ j ∧ j.natAbs ≤ 1000 ∧ 0 ≤ i ∧ i.natAbs < 1000 then some (.int (i ^ j.toNat)) else none := rfl
@[simp] theorem o_neg : gNeg (.int i) = some (.int (-i)) := rfl
@[simp] theorem o_not {b : Bool} : gNot (.bl b) = some (.bl (!b)) := rfl
@[simp] theorem o_add : tAdd (.int i) (.int j) = some (.leaf (.int (i + j))) := rfl
@[simp] theorem o_adds {s t : List Nat} : tAdd (.str s) (.str t) = if s.length + t.length ≤ 16000000 then some (.leaf (.str (s ++ t))) else none := rfl
@[simp] theorem o_addl : tAdd (.lst us) (.lst ds) = if us.length + ds.length ≤ 16000000 then some (.ls (us ++ ds)) else none := rfl
@[simp] theorem o_addt : tAdd (.tup us) (.tup ds) = if us.length + ds.length ≤ 16000000 then some (.leaf (.tup (us ++ ds))) else none := rfl
@[simp] theorem o_iadd : gIAdd (.int i) (.int j) = some (.int (i + j)) := rfl
@[simp] theorem o_iadds {s t : List Nat} : gIAdd (.str s) (.str t) = if s.length + t.length ≤ 16000000 then some (.str (s ++ t)) else none := rfl
@[simp] theorem o_ixs {s : List Nat} : gIx (.str s) (.int i) = if s.length ≤ 16000000 then (atI s i).map fun c => .str [c] else none := rfl
@[simp] theorem o_ixl : gIx (.lst ds) (.int i) = atI ds i := rfl
@[simp] theorem o_ixt : gIx (.tup ds) (.int i) = atI ds i := rfl
@[simp] theorem o_ixk : gIx (.kl ds) (.int i) = atI ds i := rfl
@[simp] theorem o_sls {s : List Nat} {lo hi : Option Int} : tSl (.str s) lo hi = if s.length ≤ 16000000 then some (.leaf (.str (cut s lo hi))) else none := rfl
@[simp] theorem o_slt {lo hi : Option Int} : tSl (.tup us) lo hi = some (.leaf (.tup (cut us lo hi))) := rfl
@[simp] theorem o_sll {lo hi : Option Int} : tSl (.lst us) lo hi = some (.ls (cut us lo hi)) := rfl
@[simp] theorem o_fld {Cs : List Nat} {f : String} {fs : List (String × D)} : gFld Cs f (.ins C fs) = if C ∈ Cs then fs.lookup f else none := rfl
@[simp] theorem o_lens {s : List Nat} : gLen [.str s] = if s.length ≤ 16000000 then some (.int s.length) else none := rfl
@[simp] theorem o_lenl : gLen [.lst ds] = some (.int ds.length) := rfl
@[simp] theorem o_lent : gLen [.tup ds] = some (.int ds.length) := rfl
@[simp] theorem o_lenk : gLen [.kl ds] = some (.int ds.length) := rfl
@[simp] theorem o_int : gInt [.int i] = some (.int i) := rfl
@[simp] theorem o_intb {b : Bool} : gInt [.bl b] = some (.int (if b then 1 else 0)) := rfl
@[simp] theorem o_listl : gList [.lst ds] = some (.ls ds) := rfl
@[simp] theorem o_listt : gList [.tup ds] = some (.ls ds) := rfl
@[simp] theorem o_listk : gList [.kl ds] = some (.ls ds) := rfl
@[simp] theorem o_tupl : gTuple [.lst ds] = some (.tup ds) := rfl
@[simp] theorem o_tupt : gTuple [.tup ds] = some (.tup ds) := rfl
@[simp] theorem o_min : gMin [.int i, .int j] = some (.int (if j < i then j else i)) := rfl
@[simp] theorem o_max : gMax [.int i, .int j] = some (.int (if j > i then j else i)) := rfl
@[simp] theorem o_abs : gAbs [.int i] = some (.int (if i < 0 then -i else i)) := rfl
@[simp] theorem o_joinl {s : List Nat} : gJoin s (.lst ds) = (strL ds).bind fun ss => if (ss.map List.length).sum + ss.length * s.length ≤ 16000000 then some (.str (joinL s ss)) else none := rfl
@[simp] theorem c_cI {p : Int → Int → Bool} : cI p (.int i) (.int j) = some (p i j) := rfl
@[simp] theorem c_ne : cNe x y = (cEq x y).map not := rfl
@[simp] theorem c_isn : cIs .non .non = some true := rfl
@[simp] theorem c_isx : cIsN x y = (cIs x y).map not := rfl
@[simp] theorem c_nin : cNin x y = (cIn x y).map not := rfl
@[simp] theorem c_eqi : cEq (.int i) (.int j) = some (decide (i = j)) := by
  show (if _ then some (D.eq (.int i) (.int j)) else none) = _
  rw [if_pos (by rfl)]
  simp only [D.eq]; congr 1
@[simp] theorem c_eqs {s t : List Nat} : cEq (.str s) (.str t) = some (decide (s = t)) := by
  show (if _ then some (D.eq (.str s) (.str t)) else none) = _
  rw [if_pos (by rfl)]
  simp only [D.eq]
  by_cases h : s = t <;> simp [h]
@[simp] theorem c_eqb {b c : Bool} : cEq (.bl b) (.bl c) = some (decide (b = c)) := by cases b <;> cases c <;> rfl
@[simp] theorem c_eqis {s : List Nat} : cEq (.int i) (.str s) = some false := rfl
@[simp] theorem c_eqsi {s : List Nat} : cEq (.str s) (.int i) = some false := rfl
@[simp] theorem c_inl : cIn x (.lst ds) = cIn0 x ds := by cases x <;> rfl
theorem cMul_l' (h1 : -1000000000000000000 < i) (h2 : i < 1000000000000000000) : cMul i j := .inl (by omega)
@[simp] theorem cMul_r (h : j.natAbs ≤ 9000000000000000000) : cMul i j := .inr h
@[simp] theorem cMul_l (h : i.natAbs ≤ 9000000000000000000) : cMul i j := .inl h
@[simp] theorem t_non : truD .non = some false := rfl
@[simp] theorem t_bl {b : Bool} : truD (.bl b) = some b := rfl
@[simp] theorem t_int : truD (.int i) = some (i != 0) := rfl
@[simp] theorem t_str {s : List Nat} : truD (.str s) = if s.length ≤ 16000000 then some (!s.isEmpty) else none := rfl
@[simp] theorem t_lst : truD (.lst ds) = some (!ds.isEmpty) := rfl
@[simp] theorem t_tup : truD (.tup ds) = some (!ds.isEmpty) := rfl
/-! places -/
theorem ixN_nat {j : Nat} (h : j < n) : ixN n (j : Int) = some j := by
  unfold ixN
  rw [if_pos (by omega), if_pos (by omega)]; rfl
theorem atI_nat {l : List α} {j : Nat} : atI l (j : Int) = l[j]? := by
  unfold atI
  by_cases h : j < l.length
  · rw [ixN_nat h]; rfl
  · unfold ixN
    rw [if_pos (by omega), if_neg (by omega), List.getElem?_eq_none (by omega)]; rfl
@[simp] theorem atI_cast {l : List α} {j : Nat} : atI l (j : Int) = l[j]? := atI_nat
@[simp] theorem atI_0 {l : List α} : atI l 0 = l[0]? := atI_nat (j := 0)
@[simp] theorem atI_2 {l : List α} : atI l 2 = l[2]? := atI_nat (j := 2)
@[simp] theorem atI_3 {l : List α} : atI l 3 = l[3]? := atI_nat (j := 3)
@[simp] theorem atI_4 {l : List α} : atI l 4 = l[4]? := atI_nat (j := 4)
@[simp] theorem atI_5 {l : List α} : atI l 5 = l[5]? := atI_nat (j := 5)
@[simp] theorem atI_6 {l : List α} : atI l 6 = l[6]? := atI_nat (j := 6)
@[simp] theorem atI_7 {l : List α} : atI l 7 = l[7]? := atI_nat (j := 7)
@[simp] theorem atI_8 {l : List α} : atI l 8 = l[8]? := atI_nat (j := 8)
@[simp] theorem atI_9 {l : List α} : atI l 9 = l[9]? := atI_nat (j := 9)
@[simp] theorem atI_10 {l : List α} : atI l 10 = l[10]? := atI_nat (j := 10)
@[simp] theorem atI_11 {l : List α} : atI l 11 = l[11]? := atI_nat (j := 11)
@[simp] theorem atI_12 {l : List α} : atI l 12 = l[12]? := atI_nat (j := 12)
@[simp] theorem atI_13 {l : List α} : atI l 13 = l[13]? := atI_nat (j := 13)
@[simp] theorem atI_1 {l : List α} : atI l 1 = l[1]? := atI_nat (j := 1)
theorem atI_pos {l : List α} (h : 0 ≤ i) : atI l i = l[i.toNat]? := by
  have := atI_nat (l := l) (j := i.toNat)
  rwa [Int.toNat_of_nonneg h] at this
@[simp] theorem put_nil {f : String} {v : α} : putF f v [] = [(f, v)] := rfl
@[simp] theorem put_cons {f g : String} {v w : α} {r : List (String × α)} : putF f v ((g, w) :: r) = if g = f then (g, v) :: r else (g, w) :: putF f v r := rfl
/-! slices -/
theorem cut_to {l : List α} (h : 0 ≤ i) : cut l none (some i) = l.take i.toNat := by
  unfold cut sIx
  simp only [List.drop_zero, Nat.sub_zero]
  rw [if_neg (by omega)]
  by_cases h : i.toNat ≤ l.length
  · rw [Nat.min_eq_left h]
  · rw [Nat.min_eq_right (by omega), List.take_of_length_le (Nat.le_refl _), List.take_of_length_le (by omega)]
theorem cut_from {l : List α} (h : 0 ≤ i) : cut l (some i) none = l.drop i.toNat := by
  unfold cut sIx
  simp only []
  rw [if_neg (by omega)]
  by_cases h : i.toNat ≤ l.length
  · rw [Nat.min_eq_left h, List.take_of_length_le (by simp)]
  · rw [Nat.min_eq_right (by omega), List.drop_of_length_le (Nat.le_refl _), List.drop_of_length_le (by omega)]; simp
@[simp] theorem cut_toN {l : List α} : cut l none (some (k : Int)) = l.take k := by rw [cut_to (by omega)]; rfl
@[simp] theorem cut_fromN {l : List α} : cut l (some (k : Int)) none = l.drop k := by rw [cut_from (by omega)]; rfl
/-! statements -/
variable {m1 m2 : PS} {K : List Nat} {c : CT} {b : PS}
@[simp] theorem s_nx : sNx e = .nx e := rfl
@[simp] theorem s_seq : sSeq m1 m2 e = match m1 e with | .nx e1 => m2 e1 | r => r := rfl
@[simp] theorem s_asg : sAsg k ta e = (ta e).st fun t e1 => .nx (e1.set k t) := rfl
@[simp] theorem s_unp : sUnp c pa e = (pa e).st fun d e1 => match c.asg d e1 with | some e2 => .nx e2 | none => .bad := rfl
@[simp] theorem s_one : (CT.one k).asg d e = some (e.set k (.leaf d)) := by cases d <;> rfl
@[simp] theorem s_tup {is : List Nat} : (CT.tup is).asg (.tup us) e = if us.length = is.length then some (setA e is us) else none := rfl
@[simp] theorem s_lst {is : List Nat} : (CT.lst is).asg (.lst us) e = if us.length = is.length then some (setA e is us) else none := rfl
@[simp] theorem s_setA_c {i : Nat} {is : List Nat} : setA e (i :: is) (d :: us) = setA (e.set i (.leaf d)) is us := rfl
@[simp] theorem s_setA_n : setA e [] us = e := by unfold setA; rfl
@[simp] theorem s_ret : sRet ta e = (ta e).st fun t e1 => .rt t e1 := rfl
@[simp] theorem s_retN : sRetN e = .rt (.leaf .non) e := rfl
@[simp] theorem s_drop : sDrop ta e = (ta e).st fun _ e1 => .nx e1 := rfl
@[simp] theorem s_if : sIf b1 m1 m2 e = (b1 e).st fun c e1 => if c = true then m1 e1 else m2 e1 := rfl
@[simp] theorem s_brk : sBrk e = .bk e := rfl
@[simp] theorem s_cnt : sCnt e = .ct e := rfl
@[simp] theorem kill_nil : kill [] e = e := rfl
@[simp] theorem kill_cons : kill (k :: K) e = kill K (e.set k .hole) := rfl
@[simp] theorem s_for {it : PDs} : sFor K it c b e = (it e).st fun ds e1 => forL K c b ds e1 := rfl
@[simp] theorem s_while {t : PB} : sWhile K n t b e = whL K t b n e := rfl
@[simp] theorem i_op {f : List D → Option (List D)} : iOp f am e = (am e).bind fun ds e1 => oE (f ds) e1 := rfl
@[simp] theorem i_r1 : gR1 [.int j] = if j.natAbs ≤ 1000000000 then some (rng 0 j.toNat) else none := rfl
@[simp] theorem i_r2 : gR2 [.int i, .int j] = if i.natAbs ≤ 1000000000 ∧ j.natAbs ≤ 1000000000 then some (rng i (j - i).toNat) else none := rfl
@[simp] theorem i_e : iE pa e = (pa e).bind fun x e1 => oE (seqD x) e1 := rfl
@[simp] theorem i_str {s : List Nat} : seqD (.str s) = some (s.map fun c => .str [c]) := rfl
@[simp] theorem i_lst : seqD (.lst ds) = some ds := rfl
@[simp] theorem i_tup : seqD (.tup ds) = some ds := rfl
@[simp] theorem i_kl : seqD (.kl ds) = some ds := rfl
@[simp] theorem i_z {x y : D} : gZ [x, y] = match sqD x, sqD y with | some us, some ts => some (pairs us ts) | _, _ => none := rfl
@[simp] theorem sq_l : sqD (.lst ds) = some ds := rfl
@[simp] theorem sq_t : sqD (.tup ds) = some ds := rfl
@[simp] theorem sq_k : sqD (.kl ds) = some ds := rfl
@[simp] theorem i_n : gN [.lst us] = some (pairs (rng 0 us.length) us) := rfl
@[simp] theorem s_setI {p : Pth} : sSetI p pb pa e = (pa e).st fun d e1 => (p.ev e1).st fun r e2 => (pb e2).st fun x e3 => match x, getP p.root r e3 with
  | .int k, some (.ls ds) => (match ixN ds.length k with
    | some j => .nx (setP p.root r (.ls (ds.set j d)) e3)
    | none => .bad)
  | _, _ => .bad := rfl
@[simp] theorem s_aug : sAug g k pa e = match e[k]? with
  | some (.leaf x) => (pa e).st fun y e1 => (match g x y with
    | some z => .nx (e1.set k (.leaf z))
    | none => .bad)
  | _ => .bad := rfl
@[simp] theorem s_augI {p : Pth} : sAugI g p pb pa e = (p.ev e).st fun r e1 => (pb e1).st fun x e2 => match x, getP p.root r e2 with
  | .int k, some (.ls ds) => (match atI ds k with
    | some z => (pa e2).st fun y e3 => (match g z y, getP p.root r e3 with
      | some w, some (.ls ds2) => (match ixN ds2.length k with
        | some j => .nx (setP p.root r (.ls (ds2.set j w)) e3)
        | none => .bad)
      | _, _ => .bad)
    | none => .bad)
  | _, _ => .bad := rfl
@[simp] theorem s_setF {p : Pth} {Cs : List Nat} {f : String} : sSetF Cs f p ta e = (ta e).st fun t e1 => (p.ev e1).st fun r e2 => match getP p.root r e2 with
  | some (.is C fs) => if C ∈ Cs ∧ fs.length < 1000 then .nx (setP p.root r (.is C (putF f t fs)) e2) else .bad
  | _ => .bad := rfl
@[simp] theorem s_augF {p : Pth} {Cs : List Nat} {f : String} : sAugF Cs g f p pa e = (p.ev e).st fun r e1 => match getP p.root r e1 with
  | some (.is C fs) => if C ∈ Cs then (match fs.lookup f with
    | some (.leaf z) => (pa e1).st fun y e3 => (match g z y, getP p.root r e3 with
      | some w, some (.is C2 fs2) => if C2 = C ∧ fs2.length < 1000 then .nx (setP p.root r (.is C2 (putF f (.leaf w) fs2)) e3) else .bad
      | _, _ => .bad)
    | _ => .bad) else .bad
  | _ => .bad := rfl
@[simp] theorem s_raise : sRaise C e = .ex C none e := rfl
@[simp] theorem s_try {ys : List Nat} : sTry ys m1 m2 e = match m1 e with | .ex C _ e1 => if C ∈ ys then (m2 e1).no else .bad | r => r := rfl
/-! calls -/
variable {sem : PSem}
@[simp] theorem l_ok {ws : List T} : callR (.ok t ws) e = .ok t e := rfl
@[simp] theorem l_exc {z : Option (List (String × D))} : callR (.exc C z) e = .exc C z e := rfl
@[simp] theorem l_call : pCall n sem am e = (am e).bind fun ds e1 => if ds.length = n then callR (sem (ds.map .leaf)) e1 else .bad := rfl
@[simp] theorem l_insT {s : T} : insT k s ds = (ds.take k).map .leaf ++ s :: (ds.drop k).map .leaf := rfl
@[simp] theorem l_callV {k i : Nat} : pCallV n k i sem am e = match e[i]? with
  | some .hole => .bad
  | none => .bad
  | some _ => (am e).bind fun ds e1 => match e1[i]? with
    | some s => (if ds.length + 1 = n ∧ k ≤ ds.length then (match sem (insT k s ds) with
      | .ok t [w] => .ok t (e1.set i w)
      | .exc C x => .exc C x (e1.set i .hole)
      | _ => .bad) else .bad)
    | none => .bad := rfl
@[simp] theorem l_callB {k i : Nat} : pCallB n k i sem am e = match e[i]? with
  | some .hole => .bad
  | none => .bad
  | some _ => (am e).bind fun ds e1 => match e1[i]? with
    | some s => (match s.fz with
      | some d => (if ds.length + 1 = n ∧ k ≤ ds.length then (match sem (insT k (.leaf d) ds) with
        | .ok t _ => if t.flat = true then .ok t e1 else .bad
        | .exc C none => .exc C none e1
        | _ => .bad) else .bad)
      | none => .bad)
    | none => .bad := rfl
@[simp] theorem l_meth {m : String} {p : Pth} : pMeth C m n sem p am e = (p.ev e).bind fun r e1 => match getP p.root r e1 with
  | some (.is C1 fs) => (if C1 = C ∧ fs.lookup m = none then (am e1).bind fun ds e2 => (match getP p.root r e2 with
    | some (.is C2 fs2) => (if ds.length + 1 = n then (match sem (.is C2 fs2 :: ds.map .leaf) with
      | .ok t [w] => .ok t (setP p.root r w e2)
      | .exc C x => .exc C x (setP p.root r .hole e2)
      | _ => .bad) else .bad)
    | _ => .bad) else .bad)
  | _ => .bad := rfl
@[simp] theorem l_methB {m : String} {p : Pth} : pMethB C m n sem p am e = (p.ev e).bind fun r e1 => match getP p.root r e1 with
  | some (.is C1 fs) => (if C1 = C ∧ fs.lookup m = none then (am e1).bind fun ds e2 => (match getP p.root r e2 with
    | some (.is C2 fs2) => (match (T.is C2 fs2).fz with
      | some d => (if ds.length + 1 = n then (match sem (.leaf d :: ds.map .leaf) with
        | .ok t _ => if t.flat = true then .ok t e2 else .bad
        | .exc C none => .exc C none e2
        | _ => .bad) else .bad)
      | none => .bad)
    | _ => .bad) else .bad)
  | _ => .bad := rfl
@[simp] theorem l_methD {m : String} : pMethD C m n sem pa am e = (pa e).bind fun x e1 => match x with
  | .ins C1 fs => (if C1 = C ∧ fs.lookup m = none then (am e1).bind fun ds e2 => (if ds.length + 1 = n then callR (sem (.leaf (.ins C1 fs) :: ds.map .leaf)) e2 else .bad) else .bad)
  | _ => .bad := rfl
@[simp] theorem l_make : pMake C n sem am e = (am e).bind fun ds e1 => if ds.length + 1 = n then (match sem (.is C [] :: ds.map .leaf) with
  | .ok (.leaf .non) [w] => .ok w e1
  | _ => .bad) else .bad := rfl
@[simp] theorem pick_t {α : Type} {m : List Bool} {a : α} {l : List α} : pick (true :: m) (a :: l) = a :: pick m l := rfl
@[simp] theorem pick_f {α : Type} {m : List Bool} {a : α} {l : List α} : pick (false :: m) (a :: l) = pick m l := rfl
@[simp] theorem pick_n {α : Type} {l : List α} : pick [] l = [] := by cases l <;> rfl
@[simp] theorem f_fn {mask : List Bool} : pFn n mask m1 ts = if mask.length ≤ ts.length then (match m1 (ts ++ List.replicate (n - ts.length) .hole) with
  | .nx e => .ok (.leaf .non) (pick mask e)
  | .rt t e => .ok t (pick mask e)
  | .ex C x _ => .exc C x
  | _ => .bad) else .bad := rfl
end
/-! ### loops -/
section
variable {K : List Nat} {c : CT} {b : PS} {σ : Type}
theorem kill_set : ∀ (K : List Nat) (e : Env) (k : Nat), kill K (e.set k .hole) = (kill K e).set k .hole
  | [], e, k => rfl
  | j :: K, e, k => by
    rw [kill_cons, kill_cons]
    by_cases h : k = j
    · subst h; rw [List.set_set, kill_set K e k, List.set_set]
    · rw [List.set_comm _ _ h, kill_set K]
theorem kill_idem : ∀ (K : List Nat) (e : Env), kill K (kill K e) = kill K e
  | [], e => rfl
  | k :: K, e => by rw [kill_cons, kill_cons, kill_set, kill_idem K, kill_set, List.set_set]
/-- how a turn ends -/
def fin (K : List Nat) : PRS → PRS
  | .nx e => .nx (kill K e)
  | .ct e => .nx (kill K e)
  | .bk e => .bk (kill K e)
  | r => r
def turn (K : List Nat) (c : CT) (b : PS) (d : D) (e : Env) : PRS := match c.asg d e with
  | some e1 => fin K (b e1)
  | none => .bad
@[simp] theorem fin_nx {e : Env} : fin K (.nx e) = .nx (kill K e) := rfl
@[simp] theorem fin_ct {e : Env} : fin K (.ct e) = .nx (kill K e) := rfl
@[simp] theorem fin_bk {e : Env} : fin K (.bk e) = .bk (kill K e) := rfl
@[simp] theorem fin_rt {t : T} {e : Env} : fin K (.rt t e) = .rt t e := rfl
@[simp] theorem fin_ex {C : Nat} {x : Option (List (String × D))} {e : Env} : fin K (.ex C x e) = .ex C x e := rfl
@[simp] theorem turn_def {d : D} {e : Env} : turn K c b d e = match c.asg d e with | some e1 => fin K (b e1) | none => .bad := rfl
theorem for_nil {e : Env} : forL K c b [] e = .nx (kill K e) := rfl
theorem for_kill : ∀ (ds : List D) (e : Env), forL K c b ds (kill K e) = forL K c b ds e
  | [], e => by rw [for_nil, for_nil, kill_idem]
  | d :: ds, e => by unfold forL; rw [kill_idem]
theorem for_cons {d : D} {ds : List D} {e : Env} : forL K c b (d :: ds) e = match turn K c b d (kill K e) with
    | .nx e1 => forL K c b ds e1
    | .bk e1 => .nx e1
    | r => r := by
  conv => lhs; unfold forL
  unfold turn
  cases c.asg d (kill K e) with
  | none => rfl
  | some e1 =>
    simp only
    cases b e1 with
    | nx e2 => exact (for_kill ds e2).symm
    | ct e2 => exact (for_kill ds e2).symm
    | _ => rfl
theorem turn_kill {d : D} {e e1 : Env} (h1 : turn K c b d e = .nx e1) : kill K e1 = e1 := by
  unfold turn at h1
  cases q : c.asg d e with
  | none => rw [q] at h1; cases h1
  | some e2 =>
    rw [q] at h1
    simp only at h1
    cases q2 : b e2 with
    | nx e2 => rw [q2] at h1; cases h1; exact kill_idem _ _
    | ct e2 => rw [q2] at h1; cases h1; exact kill_idem _ _
    | _ => rw [q2] at h1; cases h1
/-- something holds between two turns -/
theorem for_inv (I : Nat → Env → Prop) : ∀ (ds : List D) {j : Nat} {e : Env}, I j (kill K e) → (∀ i d e, ds[i]? = some d → I (j + i) e → ∃ e1, turn K c b d e = .nx e1 ∧ I (j + i + 1) e1) → ∃ e1, forL K c b ds e = .nx e1 ∧ I (j + ds.length) e1
  | [], j, e, h, _ => ⟨_, for_nil, h⟩
  | d :: ds, j, e, h, st => by
    obtain ⟨e1, h1, p1⟩ := st 0 d _ rfl h
    rw [for_cons, h1]
    have := for_inv I ds (j := j + 1) (e := e1) (by rw [turn_kill h1]; exact p1) fun i d e hd p => by
      have := st (i + 1) d e (by simpa using hd) (by rw [show j + (i + 1) = j + 1 + i by omega]; exact p)
      rwa [show j + (i + 1) = j + 1 + i by omega] at this
    rwa [show j + (d :: ds).length = j + 1 + ds.length by simp; omega]
/-- a search -/
theorem for_find (E : Env) (p : D → Bool) (r : D → T) (g : D → Env) : ∀ (ds : List D) {e : Env}, kill K e = E → (∀ d, d ∈ ds → turn K c b d E = if p d = true then .rt (r d) (g d) else .nx E) → forL K c b ds e = match ds.find? p with
    | some d => .rt (r d) (g d)
    | none => .nx E
  | [], e, h, _ => by rw [for_nil, h]; rfl
  | d :: ds, e, h, st => by
    rw [for_cons, h, st d List.mem_cons_self]
    by_cases hp : p d = true
    · rw [if_pos hp, List.find?_cons_of_pos hp]
    · rw [if_neg hp, List.find?_cons_of_neg hp]
      exact for_find E p r g ds (by rw [← h, kill_idem]) fun d m => st d (List.mem_cons_of_mem _ m)
/-! while -/
/-! comprehensions -/
def lcT1 (c : CT) (t : PB) (a : PE) (vs : List Nat) (d : D) (e : Env) : PR (Option D) := match c.asg d e with
  | some e1 => (t e1).no.bind fun b e2 => if b = true then (a e2).no.bind fun y e3 => .ok (some y) (kill vs e3) else .ok none (kill vs e2)
  | none => .bad
@[simp] theorem lcT1_def {t : PB} {a : PE} {vs : List Nat} {d : D} {e : Env} : lcT1 c t a vs d e = match c.asg d e with
  | some e1 => (t e1).no.bind fun b e2 => if b = true then (a e2).no.bind fun y e3 => .ok (some y) (kill vs e3) else .ok none (kill vs e2)
  | none => .bad := rfl
/-- a state is carried, something is asked of the items -/
theorem lc_inv {t : PB} {a : PE} {vs : List Nat} (I : Nat → List D → Env → Prop) : ∀ (ds acc : List D) {j : Nat} {e : Env}, acc.length + ds.length < 16000000 → I j acc (kill vs e) →
    (∀ i d acc e, ds[i]? = some d → I (j + i) acc e → ∃ o e1, lcT1 c t a vs d e = .ok o e1 ∧ I (j + i + 1) (acc ++ o.toList) e1) → ∃ r e1, (lcL c t a vs ds acc e).bind (fun r e => .ok r (kill vs e)) = .ok r e1 ∧ I (j + ds.length) r e1
  | [], acc, j, e, _, h, _ => ⟨acc, kill vs e, by unfold lcL; rfl, h⟩
  | d :: ds, acc, j, e, hz, h, st => by
    obtain ⟨o, e1, h1, p1⟩ := st 0 d acc _ rfl h
    have next := fun (acc' : List D) (hl : acc'.length ≤ acc.length + 1) (e2 : Env) (p : I (j + 1) acc' (kill vs e2)) => lc_inv I ds acc' (j := j + 1) (e := e2) (by simp at hz; omega) p fun i d acc e hd p => by
      have := st (i + 1) d acc e (by simpa using hd) (by rw [show j + (i + 1) = j + 1 + i by omega]; exact p)
      rwa [show j + (i + 1) = j + 1 + i by omega] at this
    rw [show j + (d :: ds).length = j + 1 + ds.length by simp; omega]
    unfold lcL
    unfold lcT1 at h1
    cases q : c.asg d (kill vs e) with
    | none => rw [q] at h1; cases h1
    | some e0 =>
      rw [q] at h1
      simp only at h1 ⊢
      cases q2 : t e0 with
      | bad => rw [q2] at h1; cases h1
      | exc C x e' => rw [q2] at h1; cases h1
      | ok bv e2 =>
        rw [q2] at h1
        cases bv with
        | false =>
          have h1 : PR.ok (none : Option D) (kill vs e2) = .ok o e1 := h1
          cases h1
          have p1 : I (j + 1) acc (kill vs e2) := by simpa using p1
          exact next acc (by omega) e2 p1
        | true =>
          have h1 : ((a e2).no.bind fun y e3 => PR.ok (some y) (kill vs e3)) = .ok o e1 := h1
          show ∃ r e1, PR.bind ((a e2).no.bind fun y e3 => if acc.length < 16000000 then lcL c t a vs ds (acc ++ [y]) e3 else .bad) _ = _ ∧ _
          cases q3 : a e2 with
          | bad => rw [q3] at h1; cases h1
          | exc C x e' => rw [q3] at h1; cases h1
          | ok y e3 =>
            rw [q3] at h1
            have h1 : PR.ok (some y) (kill vs e3) = .ok o e1 := h1
            cases h1
            rw [r_no, r_ok, if_pos (by simp at hz; omega)]
            exact next (acc ++ [y]) (by simp) e3 p1
def lcR (c : CT) (t : PB) (a : PE) (vs : List Nat) (ds : List D) (e : Env) : PR (List D) := (lcL c t a vs ds [] e).bind fun r e => .ok r (kill vs e)
@[simp] theorem v_lc {it : PDs} {t : PB} {a : PE} {vs : List Nat} {e : Env} : pLc it c t a vs e = (it e).bind fun ds e1 => (lcR c t a vs ds e1).bind fun r e2 => .ok (.ls r) e2 := by
  unfold pLc lcR
  cases it e with
  | bad => rfl
  | exc C x e1 => rfl
  | ok ds e1 => simp only [r_ok]; cases lcL c t a vs ds [] e1 <;> rfl
/-- nothing is carried -/
theorem lc_pure {t : PB} {a : PE} {vs : List Nat} (E : Env) (f : D → Option D) (ds : List D) {e : Env} (h : kill vs e = E) (hz : ds.length < 16000000) (st : ∀ d, d ∈ ds → lcT1 c t a vs d E = .ok (f d) E) : (lcL c t a vs ds [] e).bind (fun r e => .ok r (kill vs e)) = .ok (ds.filterMap f) E := by
  obtain ⟨r, e1, q, rfl, rfl⟩ := lc_inv (c := c) (t := t) (a := a) (vs := vs) (fun i acc e => acc = (ds.take i).filterMap f ∧ e = E) ds [] (j := 0) (e := e) (by simpa using hz) ⟨by simp, h⟩ (by
    rintro i d acc e hd ⟨rfl, rfl⟩
    refine ⟨f d, e, st d (List.mem_of_getElem? hd), ?_, rfl⟩
    rw [Nat.zero_add, List.take_add_one, hd, List.filterMap_append]
    cases h : f d <;> simp [List.filterMap_cons, h])
  rw [q]
  simp
theorem lc_map {t : PB} {a : PE} {vs : List Nat} (E : Env) (f : D → D) (ds : List D) {e : Env} (h : kill vs e = E) (hz : ds.length < 16000000) (st : ∀ d, d ∈ ds → lcT1 c t a vs d E = .ok (some (f d)) E) : (lcL c t a vs ds [] e).bind (fun r e => .ok r (kill vs e)) = .ok (ds.map f) E := by
  rw [lc_pure E (fun d => some (f d)) ds h hz st]
  simp
theorem rng_len {lo : Int} {n : Nat} : (rng lo n).length = n := by simp [rng]
theorem rng_get {lo : Int} {n i : Nat} {d : D} (h : (rng lo n)[i]? = some d) : i < n ∧ d = .int (lo + i) := by
  unfold rng at h
  rw [List.getElem?_map] at h
  cases q : (List.range n)[i]? with
  | none => rw [q] at h; cases h
  | some k =>
    rw [q] at h
    obtain ⟨a, b⟩ := List.getElem?_eq_some_iff.mp q
    simp at a b
    subst b
    cases h
    exact ⟨a, rfl⟩
theorem rng_mem {lo : Int} {n : Nat} {d : D} (h : d ∈ rng lo n) : ∃ i : Nat, i < n ∧ d = .int (lo + i) := by
  obtain ⟨i, a, rfl⟩ := List.mem_map.mp h
  exact ⟨i, by simpa using a, rfl⟩
/-! loops that stand in a goal: generalize hF : forL _ _ _ _ _ = F, then one of these -/
theorem for_st {F : PRS} {ds : List D} {e : Env} (hF : forL K c b ds e = F) (E : σ → Env) (R : Nat → σ → Prop) (s0 : σ) (h0 : kill K e = E s0) (r0 : R 0 s0)
    (st : ∀ i d s, ds[i]? = some d → R i s → ∃ s', turn K c b d (E s) = .nx (E s') ∧ R (i + 1) s') : ∃ s, F = .nx (E s) ∧ R ds.length s := by
  obtain ⟨e1, q, s, rfl, r⟩ := for_inv (K := K) (c := c) (b := b) (fun i e => ∃ s, e = E s ∧ R i s) ds (j := 0) (e := e) ⟨s0, h0, r0⟩ (by
    rintro i d e hd ⟨s, rfl, r⟩
    rw [Nat.zero_add] at r
    obtain ⟨s', a, b⟩ := st i d s hd r
    exact ⟨_, a, s', rfl, by rw [Nat.zero_add]; exact b⟩)
  rw [Nat.zero_add] at r
  exact ⟨s, hF.symm.trans q, r⟩
theorem for_fi {F : PRS} {ds : List D} {e : Env} (hF : forL K c b ds e = F) (E : Env) (p : D → Bool) (r : D → T) (g : D → Env) (h0 : kill K e = E) (st : ∀ d, d ∈ ds → turn K c b d E = if p d = true then .rt (r d) (g d) else .nx E) : F = match ds.find? p with
    | some d => .rt (r d) (g d)
    | none => .nx E := hF.symm.trans (for_find E p r g ds h0 st)
/-- nothing is carried, no turn ends the loop -/
theorem for_all {F : PRS} {ds : List D} {e : Env} (hF : forL K c b ds e = F) (E : Env) (h0 : kill K e = E) (st : ∀ d, d ∈ ds → turn K c b d E = .nx E) : F = .nx E := by
  have := for_fi hF E (fun _ => false) (fun _ => .hole) (fun _ => []) h0 (by intro d m; rw [st d m]; rfl)
  rw [this]
  cases q : ds.find? fun _ => false with
  | none => rfl
  | some d => have := List.find?_some q; cases this
theorem lc_fi {t : PB} {a : PE} {vs : List Nat} {F : PR (List D)} {ds : List D} {e : Env} (hF : lcR c t a vs ds e = F) (E : Env) (f : D → Option D) (h : kill vs e = E) (hz : ds.length < 16000000) (st : ∀ d, d ∈ ds → lcT1 c t a vs d E = .ok (f d) E) : F = .ok (ds.filterMap f) E := hF.symm.trans (lc_pure E f ds h hz st)
theorem lc_ma {t : PB} {a : PE} {vs : List Nat} {F : PR (List D)} {ds : List D} {e : Env} (hF : lcR c t a vs ds e = F) (E : Env) (f : D → D) (h : kill vs e = E) (hz : ds.length < 16000000) (st : ∀ d, d ∈ ds → lcT1 c t a vs d E = .ok (some (f d)) E) : F = .ok (ds.map f) E := hF.symm.trans (lc_map E f ds h hz st)
end
/-! dicts -/
section
variable {e : Env} {pa pb : PE} {kvs : List (DK × D)} {y : D} {i : Nat} {am : PDs}
@[simp] theorem d_get : gDGet (.dK kvs) y = (keyOf y).bind fun k => valK kvs k := rfl
@[simp] theorem d_getl : gDGet (.dKl kvs) y = (keyOf y).bind fun k => valK kvs k := rfl
@[simp] theorem d_in : cDIn y (.dK kvs) = (keyOf y).map fun k => (valK kvs k).isSome := by unfold cDIn; cases y <;> rfl
@[simp] theorem d_inl : cDIn y (.dKl kvs) = (keyOf y).map fun k => (valK kvs k).isSome := by unfold cDIn; cases y <;> rfl
@[simp] theorem d_nin {x : D} : cDNin y x = (cDIn y x).map not := rfl
@[simp] theorem d_new : pDNew e = .ok (.dK []) e := rfl
@[simp] theorem d_disp : pDisp am e = (am e).bind fun ds e1 => match pairsK ds with
  | some kvs => if kvs.length ≤ 15 then .ok (.dK (mergeP [] kvs)) e1 else .bad
  | none => .bad := rfl
@[simp] theorem d_set {p : Pth} : sSetK p pb pa e = (pa e).st fun d e1 => (p.ev e1).st fun r e2 => (pb e2).st fun x e3 => match keyOf x, getP p.root r e3 with
  | some k, some (.dK ds) => if ds.length < 16000000 then .nx (setP p.root r (.dK (putK ds k d)) e3) else .bad
  | _, _ => .bad := rfl
@[simp] theorem d_kv : iKv i e = match e[i]? with
  | some (.dK kvs) => .ok (kvs.map fun p => dkD p.1) (e.set i (.leaf (.dKl kvs)))
  | some (.leaf (.dKl kvs)) => .ok (kvs.map fun p => dkD p.1) e
  | _ => .bad := rfl
@[simp] theorem d_key : ∀ {k : DK}, keyOf (dkD k) = some k
  | .inl _ => rfl
  | .inr _ => rfl
@[simp] theorem d_keyi {j : Int} : keyOf (.int j) = some (.inl j) := rfl
@[simp] theorem d_keys {s : List Nat} : keyOf (.str s) = some (.inr s) := rfl
end
/-! more built-ins -/
section
variable {ds : List D} {f : List Int → Option Int} {fb : List Bool → Bool}
@[simp] theorem b_li : gLI f [.lst ds] = (intsD ds).bind fun ns => (f ns).map .int := rfl
@[simp] theorem b_lb : gLB fb [.lst ds] = (blsD ds).map fun bs => .bl (fb bs) := rfl
@[simp] theorem b_sortI : gSortI [.lst ds] = (intsD ds).map fun ns => .ls ((sortI ns).map .int) := rfl
@[simp] theorem b_intsD : ∀ ns : List Int, intsD (ns.map .int) = some ns
  | [] => rfl
  | n :: r => by simp [intsD, b_intsD r]
@[simp] theorem b_blsD : ∀ ns : List Bool, blsD (ns.map .bl) = some ns
  | [] => rfl
  | n :: r => by simp [blsD, b_blsD r]
end
/-! conditions that omega sees: simp (disch := omega) [if_le, if_lt] -/
theorem if_le {α : Type} {a b : Nat} {x y : α} (h : a ≤ b) : (if a ≤ b then x else y) = x := if_pos h
theorem if_lt {α : Type} {a b : Nat} {x y : α} (h : a < b) : (if a < b then x else y) = x := if_pos h
/-! membership -/
section
variable {f a : List Nat} {ds : List D} {i : Int}
@[simp] theorem D_eq_ss : D.eq (.str a) (.str f) = decide (f = a) := by
  simp only [D.eq]
  by_cases h : f = a
  · subst h; simp
  · simp [h]; intro z; exact absurd z.symm h
@[simp] theorem D_eq_ii {j : Int} : D.eq (.int j) (.int i) = decide (i = j) := by
  simp only [D.eq]
  by_cases h : i = j
  · subst h; simp
  · simp [h]; intro z; exact absurd z.symm h
@[simp] theorem D_eq_is : D.eq (.int i) (.str f) = false := by simp [D.eq]
@[simp] theorem D_eq_si : D.eq (.str f) (.int i) = false := by simp [D.eq]
@[simp] theorem atom_str : atom (.str f) = true := rfl
@[simp] theorem atom_int : atom (.int i) = true := rfl
@[simp] theorem atom_bl {b : Bool} : atom (.bl b) = true := rfl
@[simp] theorem atom_non : atom .non = true := rfl
@[simp] theorem atom_tup : atom (.tup ds) = false := rfl
@[simp] theorem atom_lst : atom (.lst ds) = false := rfl
@[simp] theorem c_in_st : cIn (.str f) (.tup ds) = if ds.all atom = true then some (ds.any fun y => D.eq y (.str f)) else none := by
  show (if (atom (.str f) && ds.all atom) = true then _ else _) = _
  simp
@[simp] theorem c_in_it : cIn (.int i) (.tup ds) = if ds.all atom = true then some (ds.any fun y => D.eq y (.int i)) else none := by
  show (if (atom (.int i) && ds.all atom) = true then _ else _) = _
  simp
end
/-! the greatest and the least -/
/-! texts, places, chains -/
section
variable {e : Env} {pa pb pc : PE} {s z : List Nat} {c k : Nat} {i : Int} {f f' : D → D → Option Bool} {ds : List D} {y : D} {ss : List (List Nat)}
@[simp] theorem x_ord : gOrd [.str [c]] = some (.int c) := rfl
@[simp] theorem x_chain : pChain f f' pa pb pc e = (pa e).bind fun x e1 => (pb e1).bind fun y e2 => (oE (f x y) e2).bind fun k e3 => if k = true then (pc e3).bind fun z e4 => (oE (f' y z) e4).bind fun k e5 => .ok (.bl k) e5 else .ok (.bl false) e3 := rfl
@[simp] theorem x_mulS : gMulS (.str s) (.int i) = if s.length * i.toNat ≤ 16000000 ∧ i.natAbs ≤ 1000000000 then some (.str (List.replicate i.toNat s).flatten) else none := rfl
@[simp] theorem x_inS : cInS (.str [c]) (.str z) = some (decide (c ∈ z)) := rfl
@[simp] theorem x_ninS : cNinS (.str [c]) (.str z) = some (!decide (c ∈ z)) := rfl
@[simp] theorem x_indexS : gIndexS s (.str [c]) = (s.findIdx? (· == c)).map fun (i : Nat) => D.int i := rfl
@[simp] theorem x_indexL : gIndexL (.lst ds) y = if ds.all atom = true ∧ atom y = true then (ds.findIdx? fun z => D.eq z y).map fun (i : Nat) => D.int i else none := rfl
@[simp] theorem x_pindexL : pIndexL pa pb e = (pa e).bind fun x e1 => match x with | .lst ds => (pb e1).bind fun y e2 => oE (gIndexL (.lst ds) y) e2 | _ => .bad := rfl
@[simp] theorem x_indexT : gIndexT ss [.str z] = (ss.findIdx? (· == z)).map fun (i : Nat) => D.int i := rfl
@[simp] theorem x_tryAs {ys : List Nat} {b w : PS} : sTryAs k ys b w e = match b e with
  | .ex C x e1 => if C ∈ ys ∧ x = none ∧ k < e1.length then (w (e1.set k .hole)).cl k else .bad
  | r => r := rfl
@[simp] theorem x_clnx : (PRS.nx e).cl k = .nx (e.set k .hole) := rfl
@[simp] theorem x_clrt {t : T} : (PRS.rt t e).cl k = .rt t (e.set k .hole) := rfl
end
/-! ### comprehensions whose items may raise -/
section
variable {α β : Type} {e : Env} {it : PDs} {c : CT} {t : PB} {a : PE} {vs : List Nat}
@[simp] theorem y_lcX : pLcX it c t a vs e = (it e).bind fun ds e1 => (lcLX c t a vs ds [] e1).kl vs .ls := rfl
@[simp] theorem y_klok {f : α → β} {x : α} : (PR.ok x e).kl vs f = .ok (f x) (kill vs e) := rfl
@[simp] theorem y_klex {f : α → β} {C : Nat} {x : Option (List (String × D))} : (PR.exc C x e : PR α).kl vs f = .exc C x (kill vs e) := rfl
end
theorem kA_eq (n : Nat) (i : Int) : kA n i = i := by
  induction n using Nat.strongRecOn with
  | _ n ih =>
    unfold kA
    split
    · rfl
    · exact ih _ (by omega)
@[simp] theorem kI_eq (i : Int) : kI i = i := kA_eq 1 i
end P

set_option Elab.async false
set_option linter.all false
set_option maxRecDepth 100000
set_option maxHeartbeats 1000000
/-! PLemB: how the rest of the pure meanings is reckoned. -/
namespace P
section
variable {α β : Type} {e e1 e2 E : Env} {d x : D} {ds us : List D} {n : Nat} {t : T} {ts : List T} {pa : PT} {pb : PE} {sem : PSem} {am : PDs} {at' : PTs} {p : Pth} {kvs : List (DK × D)} {it : PDs} {c : CT} {a : PT} {vs : List Nat}
@[simp] theorem w_lk : pLk pa e = (pa e).bind fun t e1 => match t with
  | .dK kvs => .ok (.dKl kvs) e1
  | .leaf (.dKl kvs) => .ok (.dKl kvs) e1
  | _ => .bad := rfl
@[simp] theorem w_callBP : pCallBP n sem p am e = (p.ev e).bind fun r e1 => (am e1).bind fun ds e2 => match getP p.root r e2 with
  | some t => (match t.fz with
    | some d => (if ds.length + 1 = n then (match sem (.leaf d :: ds.map .leaf) with
      | .ok t _ => if t.flat = true then .ok t e2 else .bad
      | .exc C none => .exc C none e2
      | _ => .bad) else .bad)
    | none => .bad)
  | none => .bad := rfl
@[simp] theorem w_callO : pCallO n sem at' e = (at' e).bind fun ts e1 => if ts.length = n then callR (sem ts) e1 else .bad := rfl
@[simp] theorem w_ixT : pIxT pa pb e = (pa e).bind fun t e1 => (pb e1).bind fun x e2 => match t, x with
  | .lT ts, .int i => oE (atI ts i) e2
  | _, _ => .bad := rfl
@[simp] theorem w_mvP : pMvP p e = (p.ev e).bind fun r e1 => match getP p.root r e1 with
  | some .hole => .bad
  | some (.leaf d) => .ok (.leaf d) e1
  | some t => .ok t (setP p.root r .hole e1)
  | none => .bad := rfl
@[simp] theorem w_sortS : gSortS [.lst ds] = srtS (strsD ds) := rfl
@[simp] theorem w_sortD : gSortD [.dK kvs] = srtS (keysS kvs) := rfl
@[simp] theorem w_sortDl : gSortD [.dKl kvs] = srtS (keysS kvs) := rfl
@[simp] theorem w_listD : gListD [.dK kvs] = some (.ls (kvs.map fun p => dkD p.1)) := rfl
@[simp] theorem w_listDl : gListD [.dKl kvs] = some (.ls (kvs.map fun p => dkD p.1)) := rfl
@[simp] theorem w_strs : ∀ ss : List (List Nat), strsD (ss.map .str) = some ss
  | [] => rfl
  | s :: r => by simp [strsD, w_strs r]
theorem lcT_ma (E : Env) (f : D → T) : ∀ (ds : List D) (acc : List T) (e : Env), kill vs e = E → acc.length + ds.length < 16000000 → (∀ d ∈ ds, ∃ e1 e3, c.asg d E = some e1 ∧ a e1 = .ok (f d) e3 ∧ kill vs e3 = E) →
    ∃ e', lcT c a vs ds acc e = .ok (acc ++ ds.map f) e' ∧ kill vs e' = E
  | [], acc, e, hk, _, _ => ⟨e, by unfold lcT; simp, hk⟩
  | d :: ds, acc, e, hk, hz, st => by
    obtain ⟨e1, e3, h1, h2, h3⟩ := st d List.mem_cons_self
    simp only [List.length_cons] at hz
    obtain ⟨e', h4, h5⟩ := lcT_ma E f ds (acc ++ [f d]) e3 h3 (by simp; omega) fun d m => st d (List.mem_cons_of_mem _ m)
    refine ⟨e', ?_, h5⟩
    unfold lcT
    rw [hk, h1]
    simp only [h2, r_no, r_ok]
    rw [if_pos (by omega), h4]
    simp
theorem lcT_run (E : Env) (f : D → T) (hi : it e = .ok ds e1) (hk : kill vs e1 = E) (hz : ds.length < 16000000) (st : ∀ d ∈ ds, ∃ e1 e3, c.asg d E = some e1 ∧ a e1 = .ok (f d) e3 ∧ kill vs e3 = E) : pLcT it c a vs e = .ok (.lT (ds.map f)) E := by
  obtain ⟨e', h1, h2⟩ := lcT_ma E f ds [] e1 hk (by simpa using hz) st
  unfold pLcT
  rw [hi, r_ok, h1, r_ok, h2]
  rfl
theorem flats_all : ∀ ds : List D, D.flats ds = ds.all D.flat
  | [] => by unfold D.flats; rfl
  | d :: ds => by unfold D.flats; rw [flats_all ds]; rfl
@[simp] theorem fl_tup : D.flat (.tup ds) = ds.all D.flat := by
  conv => lhs; unfold D.flat
  exact flats_all ds
@[simp] theorem fl_int {i : Int} : D.flat (.int i) = true := by unfold D.flat; rfl
@[simp] theorem fl_str {s : List Nat} : D.flat (.str s) = true := by unfold D.flat; rfl
@[simp] theorem fl_bl {b : Bool} : D.flat (.bl b) = true := by unfold D.flat; rfl
@[simp] theorem fl_non : D.flat .non = true := by unfold D.flat; rfl
@[simp] theorem tfl_leaf : T.flat (.leaf d) = d.flat := by unfold T.flat; rfl
@[simp] theorem tfl_ls : T.flat (.ls ds) = ds.all D.flat := by
  conv => lhs; unfold T.flat
  exact flats_all ds
theorem tflats_all : ∀ ts : List T, T.flats ts = ts.all T.flat
  | [] => by unfold T.flats; rfl
  | d :: ds => by unfold T.flats; rw [tflats_all ds]; rfl
@[simp] theorem tfl_lT : T.flat (.lT ts) = ts.all T.flat := by
  conv => lhs; unfold T.flat
  exact tflats_all ts
@[simp] theorem tfl_dK : T.flat (.dK kvs) = (kvs.map (·.2)).all D.flat := by
  conv => lhs; unfold T.flat
  exact flats_all _
@[simp] theorem tfl_nil : T.flatf [] = true := by unfold T.flatf; rfl
@[simp] theorem tfl_cons {g : String} {r : List (String × T)} : T.flatf ((g, t) :: r) = (t.flat && T.flatf r) := by
  conv => lhs; unfold T.flatf
@[simp] theorem tfl_is {C : Nat} {fs : List (String × T)} : T.flat (.is C fs) = T.flatf fs := by
  conv => lhs; unfold T.flat
end
end P

set_option Elab.async false
set_option linter.all false
set_option maxRecDepth 100000
set_option maxHeartbeats 1000000
/-! PLemC: how setdefault and *e are reckoned. -/
namespace P
section
variable {e : Env} {d x : D} {ds us : List D} {pb : PE} {am : PDs} {p : Pth} {kvs : List (DK × D)} {i : Int} {s : List Nat}
@[simp] theorem x_updD {f : T → List D → Option (D × T)} : pUpdD p am f e = (p.ev e).bind fun r e1 => match getP p.root r e1 with
  | some (.dK _) => (am e1).bind fun ds e2 => (match getP p.root r e2 with
    | some t => (match f t ds with
      | some (d, s) => .ok d (setP p.root r s e2)
      | none => .bad)
    | none => .bad)
  | _ => .bad := rfl
@[simp] theorem x_sdi : uSd (.dK kvs) [.int i, d] = (match valK kvs (.inl i) with
  | some y => some (y, .dK kvs)
  | none => if kvs.length < 16000000 then some (d, .dK (putK kvs (.inl i) d)) else none) := rfl
@[simp] theorem x_sds : uSd (.dK kvs) [.str s, d] = (match valK kvs (.inr s) with
  | some y => some (y, .dK kvs)
  | none => if kvs.length < 16000000 then some (d, .dK (putK kvs (.inr s) d)) else none) := rfl
@[simp] theorem x_sql : sqS (.lst us) = some us := rfl
@[simp] theorem x_sqk : sqS (.kl us) = some us := rfl
@[simp] theorem x_sqt : sqS (.tup us) = some us := rfl
@[simp] theorem x_star : dStar pb am e = (pb e).bind fun x e1 => match sqS x with
  | some us => (am e1).bind fun ys e2 => .ok (us ++ ys) e2
  | none => .bad := rfl
end
end P

set_option Elab.async false
set_option linter.all false
set_option maxRecDepth 100000
set_option maxHeartbeats 1000000
/-! PLemD: how get and list times number are reckoned. -/
namespace P
section
variable {e : Env} {x y z : D} {ds us : List D} {pa pb : PE} {am : PDs} {kvs : List (DK × D)} {k : Int}
@[simp] theorem x_get : pGet pa am e = (pa e).bind fun x e1 => match x with
  | .dK kvs => (am e1).bind fun ds e2 => oE (gG kvs ds) e2
  | .dKl kvs => (am e1).bind fun ds e2 => oE (gG kvs ds) e2
  | _ => .bad := rfl
@[simp] theorem x_g1 : gG kvs [y] = (keyOf y).map fun k => (valK kvs k).getD .non := rfl
@[simp] theorem x_g2 : gG kvs [y, z] = (keyOf y).map fun k => (valK kvs k).getD z := rfl
@[simp] theorem x_mulL : pMulL pa pb e = (pa e).bind fun x e1 => (pb e1).bind fun y e2 => oE (tMulL x y) e2 := rfl
@[simp] theorem x_tmulL : tMulL (.lst us) (.int k) = if us.length * k.toNat ≤ 16000000 ∧ k.natAbs ≤ 1000000000 then some (.ls (List.replicate k.toNat us).flatten) else none := rfl
end
end P

set_option Elab.async false
set_option linter.all false
set_option maxRecDepth 100000
set_option maxHeartbeats 1000000
/-! PLemE: how comprehensions of two clauses are reckoned. -/
namespace P
section
variable {it it1 : PDs} {c c1 : CT} {t t1 : PB} {a : PE} {vs vs1 : List Nat} {e : Env}
def lcR2 (c : CT) (t : PB) (it1 : PDs) (c1 : CT) (t1 : PB) (a : PE) (vs vs1 : List Nat) (ds : List D) (e : Env) : PR (List D) := (lcL2 c t it1 c1 t1 a vs vs1 ds [] e).bind fun r e => .ok r (kill vs e)
@[simp] theorem v_lc2 : pLc2 it c t it1 c1 t1 a vs vs1 e = (it e).bind fun ds e1 => (lcR2 c t it1 c1 t1 a vs vs1 ds e1).bind fun r e2 => .ok (.ls r) e2 := by
  unfold pLc2 lcR2
  cases it e with
  | ok ds e1 =>
    show (lcL2 c t it1 c1 t1 a vs vs1 ds [] e1).bind _ = _
    show _ = ((lcL2 c t it1 c1 t1 a vs vs1 ds [] e1).bind _).bind _
    cases lcL2 c t it1 c1 t1 a vs vs1 ds [] e1 <;> rfl
  | _ => rfl
end
end P

set_option Elab.async false
set_option linter.all false
set_option maxRecDepth 100000
set_option maxHeartbeats 1000000
/-! PLemF: how dict comprehensions, isupper and changes of lists that nobody owns are reckoned. -/
namespace P
section
variable {it : PDs} {c : CT} {t : PB} {pk pv a : PE} {o : PT} {am : PDs} {vs : List Nat} {e : Env} {s : List Nat} {g : T → List D → Option (D × T)} {x : Nat}
def dcR (c : CT) (t : PB) (pk pv : PE) (vs : List Nat) (ds : List D) (e : Env) : PR (List (DK × D)) := (dcL c t pk pv vs ds [] e).bind fun r e => .ok r (kill vs e)
@[simp] theorem v_dc : pDc it c t pk pv vs e = (it e).bind fun ds e1 => (dcR c t pk pv vs ds e1).bind fun r e2 => .ok (.dK r) e2 := by
  unfold pDc dcR
  cases it e with
  | ok ds e1 =>
    show (dcL c t pk pv vs ds [] e1).bind _ = _
    show _ = ((dcL c t pk pv vs ds [] e1).bind _).bind _
    cases dcL c t pk pv vs ds [] e1 <;> rfl
  | _ => rfl
@[simp] theorem v_sm0 {f : List Nat → Option D} : pSM0 f a e = (a e).bind fun x e1 => match x with | .str s => oE (f s) e1 | _ => .bad := rfl
@[simp] theorem x_up0 : gUp [] = some (.bl false) := rfl
@[simp] theorem x_up1 : gUp [x] = if x < 128 then some (.bl (decide (65 ≤ x) && decide (x ≤ 90))) else none := rfl
@[simp] theorem v_updT : pUpdT o am g e = (o e).bind fun t e1 => match t with
  | .ls xs => (am e1).bind fun ds e2 => (match g (.ls xs) ds with
    | some (d, _) => .ok d e2
    | none => .bad)
  | _ => .bad := rfl
end
end P

set_option Elab.async false
set_option linter.all false
set_option maxHeartbeats 1000000
/-! PLemG: how these are reckoned. -/
namespace P
section
variable {e : Env} {d x y : D} {ds us : List D} {pa pb : PE} {i j k : Int} {c : Nat} {s z : List Nat} {b : Bool} {g : List Nat → D → Option T}
@[simp] theorem z_mulW : gMulW (.int i) (.int j) = if cMulW i j then some (.int (i * j)) else none := rfl
@[simp] theorem z_divW : gDivW (.int i) (.int j) = if cDivW j then some (.int (i / j)) else none := rfl
@[simp] theorem z_mulT : gMulT (.tup us) (.int k) = if 0 < us.length ∧ 2 ≤ k ∧ k ≤ 1000 ∧ us.length ≤ 1000 then some (.tup (List.replicate k.toNat us).flatten) else none := rfl
@[simp] theorem z_strI : gStrV [.int i] = if i.natAbs.log2 < 1920 then some (.str (sInt i)) else none := rfl
@[simp] theorem z_strB : gStrV [.bl b] = some (.str (if b = true then kTrue else kFalse)) := rfl
@[simp] theorem z_split : gSplit s (.str [c]) = if s.length ≤ 16000000 then some (.ls ((splitC c s).map .str)) else none := rfl
@[simp] theorem z_sm1t : pSM1T g pa pb e = (pa e).bind fun x e1 => match x with | .str s => (pb e1).bind fun y e2 => oE (g s y) e2 | _ => .bad := rfl
@[simp] theorem z_repA : pRepA s c z pa e = (pa e).bind fun x e1 => match x with | .str t => if t.length * (z.length + 1) + z.length + s.length ≤ 1000000 then .ok (.str (s ++ replC c z t)) e1 else .bad | _ => .bad := rfl
@[simp] theorem z_extT : uExtT (.ls us) [.tup ds] = if us.length + ds.length ≤ 16000000 then some (.non, .ls (us ++ ds)) else none := rfl
@[simp] theorem z_eqE : cEqE (.tup us) (.tup []) = some us.isEmpty := rfl
end
end P

set_option Elab.async false
set_option linter.all false
/-! PLemH: lemmas on PDefH. -/
namespace P
@[simp] theorem h_star {pd pk pv : PE} {e : Env} : pStar pd pk pv e = (pd e).bind fun d e1 => match sDK d with
  | some kvs => if kvs.length ≤ 16000000 then (pk e1).bind fun x e2 => (pv e2).bind fun y e3 => (match keyOf x with
      | some k => if (mergeP [] kvs).length < 16000000 then .ok (.dK (putK (mergeP [] kvs) k y)) e3 else .bad
      | none => .bad) else .bad
  | none => .bad := rfl
@[simp] theorem h_sdk {kvs : List (DK × D)} : sDK (.dK kvs) = some kvs := rfl
@[simp] theorem h_sdkl {kvs : List (DK × D)} : sDK (.dKl kvs) = some kvs := rfl
@[simp] theorem h_sortT {ds : List D} : gSortT [.lst ds] = (keysT ds).map fun ks => .ls (srtT ds ks) := rfl
@[simp] theorem h_upd {kvs more : List (DK × D)} : P.uUpd (.dK kvs) [.dK more] = if kvs.length + more.length ≤ 16000000 then some (.non, .dK (mergeP kvs more)) else none := rfl
@[simp] theorem h_leP {n m : Int} {p q : List Nat} : cLeP (.tup [.int n, .str p]) (.tup [.int m, .str q]) = some (decide (n < m ∨ (n = m ∧ p ≤ q))) := rfl
end P

set_option Elab.async false
set_option linter.all false
/-! PLemI: lemmas on PDefI. -/
namespace P
@[simp] theorem i_find {a : PE} {b : PDs} {e : Env} : pFind a b e = (a e).bind fun x e1 => match x with
  | .str s => (b e1).bind fun ds e2 => oE (gFind s ds) e2
  | _ => .bad := rfl
@[simp] theorem i_gfind {s : List Nat} {c : Nat} {i : Int} : gFind s [.str [c], .int i] = if 0 ≤ i then some (.int (fdF s c i.toNat)) else none := rfl
end P

set_option Elab.async false
set_option linter.all false
/-! PLemJ: lemmas on PDefJ. -/
namespace P
@[simp] theorem j_raiseF {C : Nat} {f : String} {q : D → Bool} {pe : PE} {e : Env} : sRaiseF C f q pe e = (pe e).st fun d e1 => if q d = true then .ex C (some [(f, d)]) e1 else .bad := rfl
@[simp] theorem j_isInt {i : Int} : isIntD (.int i) = decide (i.natAbs < 2 ^ 100) := rfl
@[simp] theorem j_tryAsF {k : Nat} {ys : List Nat} {f : String} {b w : PS} {e : Env} : sTryAsF k ys f b w e = match b e with
  | .ex C x e1 => (match x with
    | some fs => if C ∈ ys ∧ k < e1.length then (match fs.lookup f with
      | some d => (w (e1.set k (.leaf d))).cl k
      | none => .bad) else .bad
    | none => .bad)
  | r => r := rfl
@[simp] theorem j_intS {s : List Nat} : gIntS [.str s] = if s.all isDig = true ∧ s ≠ [] ∧ s.length ≤ 640 then some (.int (dVal s)) else none := rfl
end P

set_option Elab.async false
set_option linter.all false
/-! PLemK: lemmas on PDefK. -/
namespace P
@[simp] theorem k_indexD {a b : PE} {e : Env} : pIndexD a b e = (a e).bind fun x e1 => match x with | .lst ds => (b e1).bind fun y e2 => oE (gIndexD (.lst ds) y) e2 | _ => .bad := rfl
@[simp] theorem k_strI {i : Int} : gStrT [.int i] = if i.natAbs.log2 < 1920 then some (.str (sInt i)) else none := rfl
@[simp] theorem k_strS {s : List Nat} : gStrT [.str s] = some (.str s) := rfl
@[simp] theorem k_xnone : xflat none = true := rfl
@[simp] theorem k_xone {f : String} {d : D} : xflat (some [(f, d)]) = atom d := by simp [xflat]
@[simp] theorem k_methBX {C n : Nat} {m : String} {sem : PSem} {p : Pth} {am : PDs} {e : Env} : pMethBX C m n sem p am e = (p.ev e).bind fun r e1 => match getP p.root r e1 with
  | some (.is C1 fs) => (if C1 = C ∧ fs.lookup m = none then (am e1).bind fun ds e2 => (match getP p.root r e2 with
    | some (.is C2 fs2) => (match (T.is C2 fs2).fz with
      | some d => (if ds.length + 1 = n then (match sem (.leaf d :: ds.map .leaf) with
        | .ok t _ => if t.flat = true then .ok t e2 else .bad
        | .exc C x => if xflat x = true then .exc C x e2 else .bad
        | _ => .bad) else .bad)
      | none => .bad)
    | _ => .bad) else .bad)
  | _ => .bad := rfl
@[simp] theorem k_flatb {b : Bool} : (T.leaf (.bl b)).flat = true := rfl
@[simp] theorem k_flati {i : Int} : (T.leaf (.int i)).flat = true := rfl
@[simp] theorem k_flats {s : List Nat} : (T.leaf (.str s)).flat = true := rfl
@[simp] theorem k_flatn : (T.leaf .non).flat = true := rfl
end P

set_option Elab.async false
set_option linter.all false
/-! PLemL: lemmas on PDefL. -/
namespace P
@[simp] theorem k_tab {kvs : List (List Nat × Int)} {s : List Nat} : gTab kvs (.str s) = (tabV kvs s).map D.int := rfl
@[simp] theorem k_tabG {kvs : List (List Nat × Int)} {s : List Nat} {j : Int} : gTabG kvs (.str s) (.int j) = some (.int ((tabV kvs s).getD j)) := rfl
end P

set_option Elab.async false
set_option linter.all false
/-! PLemM: lemmas on PDefM. -/
namespace P
@[simp] theorem l_makeX {C n : Nat} {sem : PSem} {am : PDs} {e : Env} : pMakeX C n sem am e = (am e).bind fun ds e1 => if ds.length + 1 = n then (match sem (.is C [] :: ds.map .leaf) with
  | .ok (.leaf .non) [w] => .ok w e1
  | .exc C' x => .exc C' x e1
  | _ => .bad) else .bad := rfl
end P

set_option Elab.async false
set_option linter.all false
set_option maxRecDepth 100000
set_option maxHeartbeats 2000000
/-! PLemN: reckoning of PDefN. -/
namespace P
section
variable {e : Env} {am : PDs} {C n : Nat} {m : String} {sem : PSemX} {p : Pth} {m1 : PS} {mask : List Bool} {ts : List T} {x y : D}
@[simp] theorem f_fnX : pFnX n mask m1 ts = if mask.length ≤ ts.length then (match m1 (ts ++ List.replicate (n - ts.length) .hole) with
  | .nx e => .ok (.leaf .non) (pick mask e)
  | .rt t e => .ok t (pick mask e)
  | .ex C x e => .exc C x (pick mask e)
  | _ => .bad) else .bad := rfl
@[simp] theorem l_methX : pMethX C m n sem p am e = (p.ev e).bind fun r e1 => match getP p.root r e1 with
  | some (.is C1 fs) => (if C1 = C ∧ fs.lookup m = none then (am e1).bind fun ds e2 => (match getP p.root r e2 with
    | some (.is C2 fs2) => (if ds.length + 1 = n then (match sem (.is C2 fs2 :: ds.map .leaf) with
      | .ok t [w] => .ok t (setP p.root r w e2)
      | .exc C x [w] => .exc C x (setP p.root r w e2)
      | _ => .bad) else .bad)
    | _ => .bad) else .bad)
  | _ => .bad := rfl
@[simp] theorem v_LZ : pLZ am e = (am e).bind fun ds e1 => match ds with
  | [x, y] => (match sqD x, sqD y with
    | some us, some ts => if us.length ≤ 16000000 then .ok (.ls (pairs us ts)) e1 else .bad
    | _, _ => .bad)
  | _ => .bad := rfl
@[simp] theorem i_rv {us : List D} : gRv [.lst us] = some us.reverse := rfl
@[simp] theorem any_d {d : D} : isAnyD d = true := rfl
@[simp] theorem i_kp : iKp p e = (p.ev e).bind fun r e1 => match getP p.root r e1 with
  | some (.dK kvs) => .ok (kvs.map fun q => dkD q.1) (setP p.root r (.leaf (.dKl kvs)) e1)
  | some (.leaf (.dKl kvs)) => .ok (kvs.map fun q => dkD q.1) e1
  | _ => .bad := rfl
end
end P

set_option Elab.async false
set_option linter.all false
set_option maxRecDepth 100000
set_option maxHeartbeats 2000000
/-! PLemO: reckoning of PDefO. -/
namespace P
section
variable {e : Env} {am : PDs} {kvs : TbL} {s : List Nat} {i : Int} {r : AtL}
@[simp] theorem v_DZ : pDZ am e = (am e).bind fun ds e1 => match ds with
  | [x, y] => (match sqD x, sqD y with
    | some us, some ts => if us.length ≤ 16000000 then (match keysOf us with
      | some ks => .ok (.dK (mergeP [] (ks.zip ts))) e1
      | none => .bad) else .bad
    | _, _ => .bad)
  | _ => .bad := rfl
@[simp] theorem o_tabB : gTabB kvs (.str s) = (tbV kvs s).map fun l => .tup (l.map atD) := rfl
@[simp] theorem i_kd {p : PE} : iKd p e = (p e).bind fun d e1 => match d with
  | .dKl kvs => .ok (kvs.map fun q => dkD q.1) e1
  | _ => .bad := rfl
end
end P

set_option Elab.async false
set_option linter.all false
set_option maxRecDepth 100000
/-! PLemP: reckoning of PDefP. -/
namespace P
section
variable {e : Env} {c : CT} {t : PB} {a it : PE} {vs : List Nat} {x : D} {ds : List D} {p : Pth} {ta : PT} {pb : PE} {sem : PSem} {i : Nat}
theorem p_sortK (h : ds.all keyedD = true) (hl : ds.length ≤ 16000000) : gSortK [.lst ds] = some (.ls (ds.mergeSort leD)) := if_pos ⟨h, hl⟩
@[simp] theorem p_upT : pUpT p ta e = (p.ev e).bind fun r e1 => match getP p.root r e1 with
  | some (.lT _) => (ta e1).bind fun t e2 => (match getP p.root r e2 with
    | some (.lT ts) => if ts.length < 16000000 then .ok .non (setP p.root r (.lT (ts ++ [t])) e2) else .bad
    | _ => .bad)
  | _ => .bad := rfl
@[simp] theorem p_setIT : sSetIT p pb ta e = (ta e).st fun t e1 => (p.ev e1).st fun r e2 => (pb e2).st fun x e3 => match x, getP p.root r e3 with
  | .int k, some (.lT ts) => (match ixN ts.length k with
    | some j => .nx (setP p.root r (.lT (ts.set j t)) e3)
    | none => .bad)
  | _, _ => .bad := rfl
@[simp] theorem p_callBB : pCallBB sem i p e = match e[i]? with
  | some .hole => .bad
  | none => .bad
  | some _ => (p.ev e).bind fun r e1 => match e1[i]?, getP p.root r e1 with
    | some s, some t => (match s.fz, t.fz with
      | some d, some b => (match sem [.leaf d, .leaf b] with
        | .ok t _ => if t.flat = true then .ok t e1 else .bad
        | .exc C none => .exc C none e1
        | _ => .bad)
      | _, _ => .bad)
    | _, _ => .bad := rfl
@[simp] theorem p_lcV : pLcV it c t a vs e = (it e).bind fun x e1 => match x with
  | .lst ds => (lcR c t a vs ds e1).bind fun r e2 => .ok (.ls r) e2
  | _ => .bad := by
  unfold pLcV
  cases it e with
  | ok x e1 =>
    show pLcV.go c t a vs x e1 = _
    cases x with
    | lst ds =>
      show (lcL c t a vs ds [] e1).bind _ = (lcR c t a vs ds e1).bind _
      unfold lcR
      cases lcL c t a vs ds [] e1 <;> rfl
    | _ => rfl
  | _ => rfl
end
end P

set_option Elab.async false
set_option linter.all false
set_option maxRecDepth 100000
set_option maxHeartbeats 2000000
/-! PLaw: what many laws share. -/
namespace P
def lawMix : PSem := pFn 3 [] (sSeq (sAsg 2 (pLf (pBin gMod (pCB gInt (dCons (pFz (pAdd (pFz (pAdd (pBin gMul (pCB gInt (dCons (pVar 0) dNil)) (pC (.int 48271))) (pBin gMul (pVar 1) (pC (.int 69621))))) (pC (.int 12345)))) dNil)) (pC (.int 2147483647)))))
    (sSeq (sAsg 2 (pLf (pBin gMod (pCB gInt (dCons (pFz (pAdd (pFz (pAdd (pBin gMul (pVar 2) (pVar 2)) (pBin gMul (pVar 1) (pC (.int 40692))))) (pC (.int 1)))) dNil)) (pC (.int 2147483399)))))
    (sRet (pLf (pBin gMod (pBin gDiv (pVar 2) (pC (.int 5))) (pC (.int 9973)))))))
def lawDraws : PSem := pFn 5 [] (sSeq (sAsg 1 (pLst dNil))
    (sSeq (sFor [2, 3, 4] (iR1 (dCons (pCB gMin (dCons (pC (.int 63)) (dCons (pCB gLen (dCons (pVar 0) dNil)) dNil))) dNil)) (.one 2) (sSeq (sAsg 3 (pLf (pCB gInt (dCons (pBin gIx (pVar 0) (pVar 2)) dNil))))
    (sIf (tCmp cLt (pVar 3) (pBin gPow (pC (.int 10)) (pC (.int 18)))) (sDrop (pLf (pUpd (.var 1) (dCons (pFz (pCall 2 lawMix (dCons (pVar 3) (dCons (pVar 2) dNil)))) dNil) uApp))) (sFor [4] (iR1 (dCons (pC (.int 60)) dNil)) (.one 4) (sIf (tCmp cGt (pVar 3) (pC (.int 0))) (sSeq (sDrop (pLf (pUpd (.var 1) (dCons (pBin gMod (pCB gInt (dCons (pVar 3) dNil)) (pC (.int 9973))) dNil) uApp)))
    (sAsg 3 (pLf (pBin gDiv (pVar 3) (pC (.int 9973)))))) sNx)))))
    (sRet (pMv 1))))
def lawAt : PSem := pFn 2 [] (sSeq (sIf (tCmp cLt (pVar 1) (pCB gLen (dCons (pVar 0) dNil))) (sRet (pLf (pBin gIx (pVar 0) (pVar 1)))) sNx)
    (sSeq (sIf (tCmp cEq (pCB gLen (dCons (pVar 0) dNil)) (pC (.int 0))) (sRet (pCall 2 lawMix (dCons (pVar 1) (dCons (pC (.int 77)) dNil)))) sNx)
    (sRet (pCall 2 lawMix (dCons (pFz (pAdd (pBin gIx (pVar 0) (pBin gMod (pCB gInt (dCons (pVar 1) dNil)) (pCB gLen (dCons (pVar 0) dNil)))) (pBin gMul (pVar 1) (pC (.int 131))))) (dCons (pVar 1) dNil))))))
def lawNext : PSem := pFn 2 [true] (sSeq (sAugI gIAdd (.var 0) (pC (.int 1)) (pC (.int 1)))
    (sRet (pLf (pBin gMod (pFz (pCall 2 lawAt (dCons (pBin gIx (pVw 0) (pC (.int 0))) (dCons (pBin gIx (pVw 0) (pC (.int 1))) dNil)))) (pVar 1)))))
def lawIsInt : PSem := pFn 1 [] (sRet (pLf (pAnd (pB (tIs .int (pVar 0))) (pUn gNot (pB (tIs .bool (pVar 0)))))))
def lawSame : Nat → PSem
  | 0 => fun _ => .bad
  | n + 1 => pFn 3 [] (sSeq (sIf (tIs2 .list .tuple (pVar 1)) (sSeq (sIf (tOr (tCmp cNe (pB (tIs .list (pVar 1))) (pB (tIs .list (pVar 0)))) (tCmp cNe (pB (tIs .tuple (pVar 1))) (pB (tIs .tuple (pVar 0))))) (sRet (pLf (pC (.bl false)))) sNx)
    (sSeq (sIf (tCmp cNe (pCB gLen (dCons (pVar 0) dNil)) (pCB gLen (dCons (pVar 1) dNil))) (sRet (pLf (pC (.bl false)))) sNx)
    (sSeq (sFor [2] (iR1 (dCons (pCB gLen (dCons (pVar 1) dNil)) dNil)) (.one 2) (sIf (tNot (tTru (pFz (pCall 2 (lawSame n) (dCons (pBin gIx (pVar 0) (pVar 2)) (dCons (pBin gIx (pVar 1) (pVar 2)) dNil)))))) (sRet (pLf (pC (.bl false)))) sNx))
    (sRet (pLf (pC (.bl true))))))) sNx)
    (sSeq (sIf (tCmp cIs (pVar 1) (pC .non)) (sRet (pLf (pB (tCmp cIs (pVar 0) (pC .non))))) sNx)
    (sSeq (sIf (tIs .bool (pVar 1)) (sRet (pLf (pAnd (pB (tIs .bool (pVar 0))) (pB (tCmp cEq (pVar 0) (pVar 1)))))) sNx)
    (sSeq (sIf (tIs .int (pVar 1)) (sRet (pLf (pAnd (pFz (pCall 1 lawIsInt (dCons (pVar 0) dNil))) (pB (tCmp cEq (pVar 0) (pVar 1)))))) sNx)
    (sRet (pLf (pAnd (pB (tIs .str (pVar 0))) (pB (tCmp cEq (pVar 0) (pVar 1))))))))))
/-- lists of natural numbers -/
abbrev In (l : List Nat) : List D := l.map fun (n : Nat) => D.int (n : Int)
def mixF (c k : Int) : Int :=
  ((c * 48271 + k * 69621 + 12345) % 2147483647 * ((c * 48271 + k * 69621 + 12345) % 2147483647) + k * 40692 + 1) % 2147483399 / 5 % 9973
theorem mixF_bd (c k : Int) : 0 ≤ mixF c k ∧ mixF c k < 9973 := ⟨Int.emod_nonneg _ (by decide), Int.emod_lt_of_pos _ (by decide)⟩
def mixN (c k : Int) : Nat := (mixF c k).toNat
theorem mixN_lt (c k : Int) : mixN c k < 9973 := by have := mixF_bd c k; unfold mixN; omega
theorem mixN_eq (c k : Int) : mixF c k = (mixN c k : Int) := by have := mixF_bd c k; unfold mixN; omega
theorem lawMix_ok (c k : Int) : lawMix [.leaf (.int c), .leaf (.int k)] = .ok (.leaf (.int (mixN c k))) [] := by
  rw [← mixN_eq]
  have h1 : 0 ≤ (c * 48271 + k * 69621 + 12345) % 2147483647 := Int.emod_nonneg _ (by decide)
  have h2 : (c * 48271 + k * 69621 + 12345) % 2147483647 < 2147483647 := Int.emod_lt_of_pos _ (by decide)
  unfold lawMix mixF
  simp
  generalize (c * 48271 + k * 69621 + 12345) % 2147483647 = z at h1 h2 ⊢
  have h3 : cMul z z := cMul_l' (by omega) (by omega)
  simp [h3]
/-- all draws are small -/
def Dr (vs : List Nat) : Prop := ∀ v ∈ vs, v < 9973
theorem lawDraws_ok {ns : List Int} (hn : ns.length ≤ 63) : ∃ vs, lawDraws [.leaf (.kl (ns.map .int))] = .ok (.ls (In vs)) [] ∧ Dr vs := by
  unfold lawDraws
  have hm : (if (ns.length : Int) < 63 then (ns.length : Int) else 63) = ns.length := by split <;> omega
  have hz : ns.length ≤ 1000000000 := by omega
  simp [hm, hz]
  generalize hF : forL _ _ _ _ _ = F
  obtain ⟨vs, rfl, d, -⟩ := for_st hF (fun vs => [T.leaf (.kl (ns.map .int)), T.ls (In vs), .hole, .hole, .hole]) (fun i vs => Dr vs ∧ vs.length ≤ 60 * i) [] (by simp) ⟨by simp [Dr], by simp⟩ (by
    rintro i d vs hd ⟨dr, l⟩
    obtain ⟨hi, rfl⟩ := rng_get hd
    have hg : ns[i]? = some ns[i] := List.getElem?_eq_getElem hi
    have hl : vs.length < 16000000 := by omega
    by_cases c : ns[i] < 1000000000000000000
    · refine ⟨vs ++ [mixN ns[i] i], by simp [hg, c, lawMix_ok, hl], ?_, by simp; omega⟩
      intro v m
      rcases List.mem_append.mp m with m | m
      · exact dr v m
      · rw [List.mem_singleton.mp m]; exact mixN_lt _ _
    · simp [hg, c]
      generalize hF2 : forL _ _ _ _ _ = F2
      obtain ⟨⟨ws, y⟩, rfl, d2, l2⟩ := for_st hF2 (fun (s : List Nat × Int) => [T.leaf (.kl (ns.map .int)), T.ls (In s.1), .leaf (.int i), .leaf (.int s.2), .hole]) (fun j s => Dr s.1 ∧ s.1.length ≤ 60 * i + j) (vs, ns[i]) (by simp) ⟨dr, by omega⟩ (by
        rintro j d ⟨ws, y⟩ hd ⟨dr, l⟩
        obtain ⟨hj, rfl⟩ := rng_get hd
        simp only at dr l
        have hl : ws.length < 16000000 := by omega
        by_cases c : 0 < y
        · have e1 : ((y % 9973).toNat : Int) = y % 9973 := by omega
          refine ⟨(ws ++ [(y % 9973).toNat], y / 9973), by simp [c, hl, e1, -Int.ofNat_toNat], ?_, by simp; omega⟩
          intro v m
          rcases List.mem_append.mp m with m | m
          · exact dr v m
          · rw [List.mem_singleton.mp m]; omega
        · exact ⟨(ws, y), by simp [c], dr, by simp; omega⟩)
      refine ⟨ws, by simp, d2, ?_⟩
      rw [rng_len] at l2
      simp at l2; omega)
  exact ⟨vs, by simp, d⟩
/-- what _law_at gives -/
def atN (vs : List Nat) (i : Nat) : Nat :=
  if i < vs.length then vs.getD i 0 else if vs = [] then mixN i 77 else mixN (vs.getD (i % vs.length) 0 + i * 131) i
theorem lawAt_int {vs : List Nat} {j : Int} (h : 0 ≤ j) : lawAt [.leaf (.lst (In vs)), .leaf (.int j)] = .ok (.leaf (.int (atN vs j.toNat))) [] := by
  unfold lawAt atN
  have ej : ((j.toNat : Nat) : Int) = j := Int.toNat_of_nonneg h
  simp only [ej]
  by_cases c : j < vs.length
  · have c' : j.toNat < vs.length := by omega
    have hg : atI (In vs) j = some (.int (vs.getD j.toNat 0 : Nat)) := by
      rw [atI_pos h, List.getElem?_map, List.getD_eq_getElem?_getD, List.getElem?_eq_getElem c']; rfl
    simp [c, c', hg]
  · have c' : ¬ j.toNat < vs.length := by omega
    by_cases z : vs = []
    · have h0 : ¬ j < 0 := by omega
      subst z; simp [lawMix_ok, h0]
    · have hp : 0 < vs.length := List.length_pos_iff.mpr z
      have hm : j.toNat % vs.length < vs.length := Nat.mod_lt _ hp
      have e1 : atI (In vs) (j % (vs.length : Int)) = some (.int (vs.getD (j.toNat % vs.length) 0 : Nat)) := by
        have : j % (vs.length : Int) = ((j.toNat % vs.length : Nat) : Int) := by rw [Int.natCast_emod, ej]
        rw [this, atI_nat, List.getElem?_map, List.getD_eq_getElem?_getD, List.getElem?_eq_getElem hm]; rfl
      have hl : ¬ (vs.length : Int) = 0 := by omega
      generalize vs.getD (j.toNat % vs.length) 0 = w at e1 ⊢
      simp [c, c', z, hp, e1, lawMix_ok]
theorem lawAt_ok (vs : List Nat) (i : Nat) : lawAt [.leaf (.lst (In vs)), .leaf (.int i)] = .ok (.leaf (.int (atN vs i))) [] := lawAt_int (by omega)
/-- the state of a drawing -/
abbrev stT (vs : List Nat) (i : Nat) : T := .ls [.lst (In vs), .int (i : Int)]
theorem lawNext_ok {vs : List Nat} (i : Nat) {L : Int} (h : 0 < L) : lawNext [stT vs i, .leaf (.int L)] = .ok (.leaf (.int ((atN vs (i + 1) : Int) % L))) [stT vs (i + 1)] := by
  have e1 : lawAt [.leaf (.lst (In vs)), .leaf (.int ((i : Int) + 1))] = .ok (.leaf (.int (atN vs (i + 1)))) [] := lawAt_ok vs (i + 1)
  have e2 : T.ls [.lst (In vs), .int ((i + 1 : Nat) : Int)] = T.ls [.lst (In vs), .int ((i : Int) + 1)] := rfl
  unfold lawNext stT
  rw [e2]
  simp [ixN, e1, h]
theorem nx (vs : List Nat) (i : Nat) {L : Int} (h : 0 < L) : ∃ v : Nat, (v : Int) < L ∧ lawNext [stT vs i, .leaf (.int L)] = .ok (.leaf (.int v)) [stT vs (i + 1)] := by
  have h1 := Int.emod_nonneg (atN vs (i + 1) : Int) (show L ≠ 0 by omega)
  refine ⟨((atN vs (i + 1) : Int) % L).toNat, ?_, ?_⟩
  · rw [Int.toNat_of_nonneg h1]; exact Int.emod_lt_of_pos _ h
  · rw [lawNext_ok i h, Int.toNat_of_nonneg h1]
/-- nested at most so deep, no list too long, no dict -/
def D.sm : Nat → D → Bool
  | 0, _ => false
  | _, .non => true
  | _, .bl _ => true
  | _, .int _ => true
  | _, .str _ => true
  | n + 1, .tup ds => decide (ds.length ≤ 1000000) && ds.all (D.sm n)
  | n + 1, .lst ds => decide (ds.length ≤ 1000000) && ds.all (D.sm n)
  | _, _ => false
theorem lawSame_ok : ∀ (n : Nat) (d : D), D.sm n d = true → lawSame n [.leaf d, .leaf d] = .ok (.leaf (.bl true)) []
  | 0, d, h => by simp [D.sm] at h
  | n + 1, .non, h => by unfold lawSame; simp [isD, cIs]
  | n + 1, .bl b, h => by unfold lawSame; simp [isD, cIs]
  | n + 1, .int b, h => by
    have : lawIsInt [.leaf (.int b)] = .ok (.leaf (.bl true)) [] := by unfold lawIsInt; simp [isD]
    unfold lawSame; simp [isD, cIs, this]
  | n + 1, .str b, h => by unfold lawSame; simp [isD, cIs]
  | n + 1, .tup ds, h => by
    simp only [D.sm, Bool.and_eq_true, decide_eq_true_eq, List.all_eq_true] at h
    have hz : ds.length ≤ 1000000000 := by omega
    unfold lawSame; simp [isD, hz]
    generalize hF : forL _ _ _ _ _ = F
    have := for_all hF [.leaf (.tup ds), .leaf (.tup ds), .hole] (by simp) (by
      intro d m
      obtain ⟨i, hi, rfl⟩ := rng_mem m
      have hg : ds[i]? = some ds[i] := List.getElem?_eq_getElem hi
      have ih := lawSame_ok n ds[i] (h.2 _ (List.getElem_mem hi))
      simp [hg, ih])
    subst this
    simp
  | n + 1, .lst ds, h => by
    simp only [D.sm, Bool.and_eq_true, decide_eq_true_eq, List.all_eq_true] at h
    have hz : ds.length ≤ 1000000000 := by omega
    unfold lawSame; simp [isD, hz]
    generalize hF : forL _ _ _ _ _ = F
    have := for_all hF [.leaf (.lst ds), .leaf (.lst ds), .hole] (by simp) (by
      intro d m
      obtain ⟨i, hi, rfl⟩ := rng_mem m
      have hg : ds[i]? = some ds[i] := List.getElem?_eq_getElem hi
      have ih := lawSame_ok n ds[i] (h.2 _ (List.getElem_mem hi))
      simp [hg, ih])
    subst this
    simp
  | n + 1, .kl ds, h => by simp [D.sm] at h
  | n + 1, .dK ds, h => by simp [D.sm] at h
  | n + 1, .dT ds, h => by simp [D.sm] at h
  | n + 1, .dKl ds, h => by simp [D.sm] at h
  | n + 1, .ins _ ds, h => by simp [D.sm] at h
@[simp] theorem sm_int {n : Nat} {i : Int} : D.sm (n + 1) (.int i) = true := rfl
@[simp] theorem sm_str {n : Nat} {i : List Nat} : D.sm (n + 1) (.str i) = true := rfl
@[simp] theorem sm_bl {n : Nat} {i : Bool} : D.sm (n + 1) (.bl i) = true := rfl
@[simp] theorem sm_non {n : Nat} : D.sm (n + 1) .non = true := rfl
@[simp] theorem sm_tup {n : Nat} {ds : List D} : D.sm (n + 1) (.tup ds) = (decide (ds.length ≤ 1000000) && ds.all (D.sm n)) := rfl
@[simp] theorem sm_lst {n : Nat} {ds : List D} : D.sm (n + 1) (.lst ds) = (decide (ds.length ≤ 1000000) && ds.all (D.sm n)) := rfl
/-! equality of data -/
mutual
theorem D.eq_refl : ∀ {d : D} {n : Nat}, D.ok n d = true → D.eq d d = true
  | .non, _, _ => by simp [D.eq]
  | .bl b, _, _ => by simp [D.eq]
  | .int b, _, _ => by simp [D.eq]
  | .str b, _, _ => by simp [D.eq]
  | .tup ds, 0, h => by simp [D.ok] at h
  | .tup ds, n + 1, h => by simp only [D.ok] at h; simp only [D.eq]; exact D.eqs_refl h
  | .lst ds, 0, h => by simp [D.ok] at h
  | .lst ds, n + 1, h => by simp only [D.ok] at h; simp only [D.eq]; exact D.eqs_refl h
  | .kl _, n, h => by cases n <;> simp [D.ok] at h
  | .dK _, n, h => by cases n <;> simp [D.ok] at h
  | .dT _, n, h => by cases n <;> simp [D.ok] at h
  | .dKl _, n, h => by cases n <;> simp [D.ok] at h
  | .ins _ _, n, h => by cases n <;> simp [D.ok] at h
theorem D.eqs_refl : ∀ {ds : List D} {n : Nat}, D.oks n ds = true → D.eqs ds ds = true
  | [], _, _ => by simp [D.eqs]
  | d :: ds, n, h => by
    unfold D.oks at h
    rw [Bool.and_eq_true] at h
    unfold D.eqs
    rw [D.eq_refl h.1, D.eqs_refl h.2]; rfl
end
@[simp] theorem oks_nil {n : Nat} : D.oks n [] = true := by unfold D.oks; rfl
@[simp] theorem oks_cons {n : Nat} {d : D} {ds : List D} : D.oks n (d :: ds) = (D.ok n d && D.oks n ds) := by conv => lhs; unfold D.oks
theorem oks_all {n : Nat} : ∀ {ds : List D}, D.oks n ds = ds.all (D.ok n)
  | [] => by simp
  | d :: ds => by simp [oks_all (ds := ds)]
@[simp] theorem ok_int {n : Nat} {i : Int} : D.ok n (.int i) = true := by cases n <;> simp [D.ok]
@[simp] theorem ok_bl {n : Nat} {i : Bool} : D.ok n (.bl i) = true := by cases n <;> simp [D.ok]
@[simp] theorem ok_non {n : Nat} : D.ok n .non = true := by cases n <;> simp [D.ok]
@[simp] theorem ok_str {n : Nat} {s : List Nat} : D.ok n (.str s) = s.all (· < 1114112) := by cases n <;> simp [D.ok]
@[simp] theorem ok_tup {n : Nat} {ds : List D} : D.ok (n + 1) (.tup ds) = D.oks n ds := by simp [D.ok]
@[simp] theorem ok_lst {n : Nat} {ds : List D} : D.ok (n + 1) (.lst ds) = D.oks n ds := by simp [D.ok]
theorem oks_In {n : Nat} {l : List Nat} : D.oks n (In l) = true := by rw [oks_all]; simp
theorem eqs_In : ∀ {l m : List Nat}, D.eqs (In l) (In m) = decide (l = m)
  | [], [] => by simp [D.eqs]
  | [], _ :: _ => by simp [D.eqs]
  | _ :: _, [] => by simp [D.eqs]
  | x :: l, y :: m => by
    simp only [List.map_cons, D.eqs, D.eq]
    rw [eqs_In (l := l) (m := m)]
    by_cases h : x = y
    · subst h; simp
    · have : ¬ (x : Int) = (y : Int) := by omega
      simp [h, this]
@[simp] theorem cEq_In {l m : List Nat} : cEq (.lst (In l)) (.lst (In m)) = some (decide (l = m)) := by
  unfold cEq
  have : (D.ok 50 (.lst (In l)) && D.ok 50 (.lst (In m))) = true := by
    rw [ok_lst, ok_lst, oks_In, oks_In]; rfl
  rw [this]
  simp [D.eq, eqs_In]
end P

set_option Elab.async false
set_option linter.all false
set_option maxRecDepth 100000
set_option maxHeartbeats 2000000
/-! PLawB: what the laws k20 to k33 share. -/
namespace P
def lawNextB : PSem := pFn 4 [true] (sSeq (sIf (tAnd (tCmp cEq (pBin gIx (pVw 0) (pC (.int 2))) (pC (.int 0))) (tCmp cLt (pBin gIx (pVw 0) (pC (.int 1))) (pCB gLen (dCons (pBin gIx (pVw 0) (pC (.int 0))) dNil)))) (sSeq (sAsg 2 (pLf (pBin gIx (pBin gIx (pVw 0) (pC (.int 0))) (pBin gIx (pVw 0) (pC (.int 1))))))
    (sSeq (sAugI gIAdd (.var 0) (pC (.int 1)) (pC (.int 1)))
    (sIf (tCmp cGe (pVar 2) (pBin gPow (pC (.int 10)) (pC (.int 18)))) (sSetI (.var 0) (pC (.int 2)) (pVar 2)) (sSetI (.var 0) (pC (.int 3)) (pBin gMod (pCB gInt (dCons (pFz (pAdd (pFz (pAdd (pBin gMul (pBin gIx (pVw 0) (pC (.int 3))) (pC (.int 48271))) (pBin gMod (pCB gInt (dCons (pVar 2) dNil)) (pC (.int 2147483647))))) (pC (.int 7)))) dNil)) (pC (.int 2147483647))))))) sNx)
    (sSeq (sIf (tCmp cGt (pBin gIx (pVw 0) (pC (.int 2))) (pC (.int 0))) (sSeq (sAsg 3 (pLf (pBin gMod (pCB gInt (dCons (pBin gIx (pVw 0) (pC (.int 2))) dNil)) (pVar 1))))
    (sSeq (sSetI (.var 0) (pC (.int 2)) (pBin gDiv (pBin gIx (pVw 0) (pC (.int 2))) (pVar 1)))
    (sRet (pLf (pVar 3))))) sNx)
    (sSeq (sSetI (.var 0) (pC (.int 3)) (pBin gMod (pCB gInt (dCons (pFz (pAdd (pBin gMul (pBin gIx (pVw 0) (pC (.int 3))) (pC (.int 69621))) (pC (.int 12345)))) dNil)) (pC (.int 2147483647))))
    (sRet (pLf (pBin gMod (pCB gInt (dCons (pBin gDiv (pBin gIx (pVw 0) (pC (.int 3))) (pC (.int 7))) dNil)) (pVar 1)))))))
def lawSameB : Nat → PSem
  | 0 => fun _ => .bad
  | n + 1 => pFn 3 [] (sSeq (sIf (tCmp cIs (pVar 1) (pC .non)) (sRet (pLf (pB (tCmp cIs (pVar 0) (pC .non))))) sNx)
    (sSeq (sIf (tIs .bool (pVar 1)) (sRet (pLf (pAnd (pB (tIs .bool (pVar 0))) (pB (tCmp cEq (pVar 0) (pVar 1)))))) sNx)
    (sSeq (sIf (tIs .int (pVar 1)) (sRet (pLf (pAnd (pB (tIs .int (pVar 0))) (pAnd (pUn gNot (pB (tIs .bool (pVar 0)))) (pB (tCmp cEq (pVar 0) (pVar 1))))))) sNx)
    (sSeq (sIf (tIs .str (pVar 1)) (sRet (pLf (pAnd (pB (tIs .str (pVar 0))) (pB (tCmp cEq (pVar 0) (pVar 1)))))) sNx)
    (sSeq (sIf (tAnd (tIs .tuple (pVar 1)) (tNot (tIs .tuple (pVar 0)))) (sRet (pLf (pC (.bl false)))) sNx)
    (sSeq (sIf (tAnd (tIs .list (pVar 1)) (tNot (tIs .list (pVar 0)))) (sRet (pLf (pC (.bl false)))) sNx)
    (sSeq (sIf (tCmp cNe (pCB gLen (dCons (pVar 0) dNil)) (pCB gLen (dCons (pVar 1) dNil))) (sRet (pLf (pC (.bl false)))) sNx)
    (sSeq (sFor [2] (iR1 (dCons (pCB gLen (dCons (pVar 1) dNil)) dNil)) (.one 2) (sIf (tNot (tTru (pFz (pCall 2 (lawSameB n) (dCons (pBin gIx (pVar 0) (pVar 2)) (dCons (pBin gIx (pVar 1) (pVar 2)) dNil)))))) (sRet (pLf (pC (.bl false)))) sNx))
    (sRet (pLf (pC (.bl true))))))))))))
/-- the state of a drawing -/
structure NS where
  ns : List Int
  i : Nat
  a : Int
  b : Int
def NS.one (s : NS) : NS := if s.a = 0 ∧ s.i < s.ns.length then (if 1000000000000000000 ≤ s.ns.getD s.i 0 then { s with i := s.i + 1, a := s.ns.getD s.i 0 } else { s with i := s.i + 1, b := (s.b * 48271 + s.ns.getD s.i 0 % 2147483647 + 7) % 2147483647 }) else s
def nxS (s : NS) (L : Int) : NS := if 0 < s.one.a then { s.one with a := s.one.a / L } else { s.one with b := (s.one.b * 69621 + 12345) % 2147483647 }
def nxV (s : NS) (L : Int) : Int := if 0 < s.one.a then s.one.a % L else ((s.one.b * 69621 + 12345) % 2147483647) / 7 % L
abbrev stB (s : NS) (r : List D) : T := .ls (.lst (s.ns.map .int) :: .int s.i :: .int s.a :: .int s.b :: r)
end P

set_option Elab.async false
set_option linter.all false
set_option maxRecDepth 100000
set_option maxHeartbeats 2000000
/-! PLawC: the drawing of k25 to k28 (great limits). -/
namespace P
def lawNextW : PSem := pFn 4 [true] (sSeq (sIf (tAnd (tCmp cEq (pBin gIx (pVw 0) (pC (.int 2))) (pC (.int 0))) (tCmp cLt (pBin gIx (pVw 0) (pC (.int 1))) (pCB gLen (dCons (pBin gIx (pVw 0) (pC (.int 0))) dNil)))) (sSeq (sAsg 2 (pLf (pBin gIx (pBin gIx (pVw 0) (pC (.int 0))) (pBin gIx (pVw 0) (pC (.int 1))))))
    (sSeq (sAugI gIAdd (.var 0) (pC (.int 1)) (pC (.int 1)))
    (sIf (tCmp cGe (pVar 2) (pBin gPow (pC (.int 10)) (pC (.int 18)))) (sSetI (.var 0) (pC (.int 2)) (pVar 2)) (sSetI (.var 0) (pC (.int 3)) (pBin gMod (pCB gInt (dCons (pFz (pAdd (pFz (pAdd (pBin gMul (pBin gIx (pVw 0) (pC (.int 3))) (pC (.int 48271))) (pBin gMod (pCB gInt (dCons (pVar 2) dNil)) (pC (.int 2147483647))))) (pC (.int 7)))) dNil)) (pC (.int 2147483647))))))) sNx)
    (sSeq (sIf (tCmp cGt (pBin gIx (pVw 0) (pC (.int 2))) (pC (.int 0))) (sSeq (sAsg 3 (pLf (pBin gMod (pCB gInt (dCons (pBin gIx (pVw 0) (pC (.int 2))) dNil)) (pVar 1))))
    (sSeq (sSetI (.var 0) (pC (.int 2)) (pBin gDivW (pBin gIx (pVw 0) (pC (.int 2))) (pVar 1)))
    (sRet (pLf (pVar 3))))) sNx)
    (sSeq (sSetI (.var 0) (pC (.int 3)) (pBin gMod (pCB gInt (dCons (pFz (pAdd (pBin gMul (pBin gIx (pVw 0) (pC (.int 3))) (pC (.int 69621))) (pC (.int 12345)))) dNil)) (pC (.int 2147483647))))
    (sRet (pLf (pBin gMod (pCB gInt (dCons (pBin gDivW (pBin gIx (pVw 0) (pC (.int 3))) (pC (.int 7))) dNil)) (pVar 1)))))))
end P

set_option Elab.async false
set_option linter.all false
set_option maxRecDepth 100000
set_option maxHeartbeats 4000000
namespace LAW
open PySem PySem.Spec PyProof.Rows L2 TL Q
def topS (i : Nat) : Stmt := PySem.Challenge.pw_quillrun_k01_deeds_in_force.main.body.getD i (.Pass ⟨0, 0, 0, 0⟩)
abbrev s_law_mix : Stmt := topS 6
abbrev s_law_draws : Stmt := topS 7
abbrev s_law_modules : Stmt := topS 16
abbrev s_law_at : Stmt := topS 8
abbrev s_law_letters : Stmt := topS 17
abbrev s_law_forces : Stmt := topS 12
abbrev s_law_changes : Stmt := topS 13
abbrev s_law_inserted : Stmt := topS 11
abbrev s_law_row : Stmt := topS 14
abbrev s_law_last : Stmt := topS 15
abbrev s_law_deed : Stmt := topS 18
abbrev s_law_visible : Stmt := topS 19
abbrev s_law_triples : Stmt := topS 20
abbrev s_law_rows_of : Stmt := topS 21
abbrev s_Deeds__init__ : Stmt := inClass (topS 4) 0
abbrev s_Deeds_add : Stmt := inClass (topS 4) 2
abbrev s_law_deeds : Stmt := topS 22
abbrev s_Deeds_copy : Stmt := inClass (topS 4) 3
abbrev s_law_is_integer : Stmt := topS 9
abbrev s_law_same : Stmt := topS 10
abbrev s_Deeds_forces : Stmt := inClass (topS 4) 4
abbrev s_Deeds_in_force : Stmt := inClass (topS 4) 5
abbrev s_Deeds_counts : Stmt := inClass (topS 4) 1
abbrev s_law_is_forced : Stmt := topS 23
abbrev s_law : Stmt := topS 24
def hd_F : List He.DefD := ([QH.dd ("_law_mix", none) "_law_mix" "_law_mix" s_law_mix,
  QH.dd ("_law_draws", none) "_law_draws" "_law_draws" s_law_draws,
  QH.dd ("_law_modules", none) "_law_modules" "_law_modules" s_law_modules,
  QH.dd ("_law_at", none) "_law_at" "_law_at" s_law_at,
  QH.dd ("_law_letters", none) "_law_letters" "_law_letters" s_law_letters,
  QH.dd ("_law_forces", none) "_law_forces" "_law_forces" s_law_forces,
  QH.dd ("_law_changes", none) "_law_changes" "_law_changes" s_law_changes,
  QH.dd ("_law_inserted", none) "_law_inserted" "_law_inserted" s_law_inserted,
  QH.dd ("_law_row", none) "_law_row" "_law_row" s_law_row,
  QH.dd ("_law_last", none) "_law_last" "_law_last" s_law_last,
  QH.dd ("_law_deed", none) "_law_deed" "_law_deed" s_law_deed,
  QH.dd ("_law_visible", none) "_law_visible" "_law_visible" s_law_visible,
  QH.dd ("_law_triples", none) "_law_triples" "_law_triples" s_law_triples,
  QH.dd ("_law_rows_of", none) "_law_rows_of" "_law_rows_of" s_law_rows_of,
  QH.dd ("Deeds", some "__init__") "__init__" "Deeds.__init__" s_Deeds__init__,
  QH.dd ("Deeds", some "add") "add" "Deeds.add" s_Deeds_add,
  QH.dd ("_law_deeds", none) "_law_deeds" "_law_deeds" s_law_deeds,
  QH.dd ("Deeds", some "copy") "copy" "Deeds.copy" s_Deeds_copy,
  QH.dd ("_law_is_integer", none) "_law_is_integer" "_law_is_integer" s_law_is_integer,
  QH.dd ("_law_same", none) "_law_same" "_law_same" s_law_same,
  QH.dd ("Deeds", some "forces") "forces" "Deeds.forces" s_Deeds_forces,
  QH.dd ("Deeds", some "in_force") "in_force" "Deeds.in_force" s_Deeds_in_force,
  QH.dd ("Deeds", some "counts") "counts" "Deeds.counts" s_Deeds_counts,
  QH.dd ("_law_is_forced", none) "_law_is_forced" "_law_is_forced" s_law_is_forced,
  QH.dd ("law", none) "law" "law" s_law] : List He.DefD)
def hd_T : List QH.Ts := ([QH.tGlo "_law_mix",
  QH.tGlo "_law_draws",
  QH.tGlo "_law_modules",
  QH.tGlo "_law_at",
  QH.tGlo "_law_letters",
  QH.tGlo "_law_forces",
  QH.tGlo "_law_changes",
  QH.tGlo "_law_inserted",
  QH.tGlo "_law_row",
  QH.tGlo "_law_last",
  QH.tGlo "_law_deed",
  QH.tGlo "_law_visible",
  QH.tGlo "_law_triples",
  QH.tGlo "_law_rows_of",
  QH.tMeth "Deeds" "__init__",
  QH.tMeth "Deeds" "add",
  QH.tGlo "_law_deeds",
  QH.tMeth "Deeds" "copy",
  QH.tGlo "_law_is_integer",
  QH.tGlo "_law_same",
  QH.tMeth "Deeds" "forces",
  QH.tMeth "Deeds" "in_force",
  QH.tMeth "Deeds" "counts",
  QH.tGlo "_law_is_forced",
  QH.tGlo "law",
  QH.tFree "bool",
  QH.tFree "int",
  QH.tFree "isinstance",
  QH.tFree "len",
  QH.tFree "list"] : List QH.Ts) ++ ([QH.tFree "max",
  QH.tFree "min",
  QH.tFree "range",
  QH.tFree "sorted",
  QH.tFree "str",
  QH.tFree "tuple",
  QH.tCls "Deeds",
  QH.tGlo "Deeds",
  QH.tMkr "Deeds",
  QH.tInt "REPLICAS" 8,
  QH.tNoat "Deeds" "rows"] : List QH.Ts)
def hd_N : List PySem.Str := (["_wall",
  "REPLICAS",
  "inserted",
  "Deeds",
  "_law_mix",
  "_law_draws",
  "_law_at",
  "_law_is_integer",
  "_law_same",
  "_law_inserted",
  "_law_forces",
  "_law_changes",
  "_law_row",
  "_law_last",
  "_law_modules",
  "_law_letters",
  "_law_deed",
  "_law_visible",
  "_law_triples",
  "_law_rows_of",
  "_law_deeds",
  "_law_is_forced"] : List PySem.Str)
abbrev hd_R : PySem.W.OpenRow := PySem.W.OpenLaw.row PySem.Challenge.rw_quillrun_k01_deeds_in_force
abbrev hd_Q : Program := PySem.W.view hd_R.prog [24]
abbrev hd_K : PySem.W.Hook := QH.hookT 5 hd_T hd_F
def hd_O (s : PySem.W.SharedT) : He.AlD × Bool := QH.obsAtT 5 hd_T hd_F (HandSHeadRun.getT s)
set_option maxHeartbeats 0 in
theorem hd_run (w : World) : HandSHeadRun.RunEq hd_R hd_Q hd_K hd_O 30000 hd_N w := by
  intro os
  kernel_rfl
end LAW

set_option Elab.async false
set_option linter.all false
set_option maxRecDepth 100000
set_option maxHeartbeats 4000000
namespace LAW
open PySem PySem.Spec PyProof.Rows L2 TL Q
noncomputable def m_law_mix (cc : Nat → Nat) : Sem' := fnM 3 (mSeq (mAsg (.one 2) (mBin uMod (mCB uInt (aCons (mBin uAdd (mBin uAdd (mBin uMul (mCB uInt (aCons (mVar 0) aNil)) (mC (.int 48271))) (mBin uMul (mVar 1) (mC (.int 69621)))) (mC (.int 12345))) aNil)) (mC (.int 2147483647))))
    (mSeq (mAsg (.one 2) (mBin uMod (mCB uInt (aCons (mBin uAdd (mBin uAdd (mBin uMul (mVar 2) (mVar 2)) (mBin uMul (mVar 1) (mC (.int 40692)))) (mC (.int 1))) aNil)) (mC (.int 2147483399))))
    (mRet (mBin uMod (mBin uDiv (mVar 2) (mC (.int 5))) (mC (.int 9973))))))
noncomputable def m_law_draws (cc : Nat → Nat) : Sem' := fnM 5 (mSeq (mAsg (.one 1) (mLst aNil))
    (mSeq (mFor (itR1 (aCons (mCB uMin (aCons (mC (.int 63)) (aCons (mCB uLen (aCons (mVar 0) aNil)) aNil))) aNil)) (.one 2) (mSeq (mAsg (.one 3) (mCB uInt (aCons (mBin uIx (mVar 0) (mVar 2)) aNil)))
    (mIfS (bCmp cLt (mVar 3) (mBin uPow (mC (.int 10)) (mC (.int 18)))) (mDrop (mLM uApp (mVar 1) (aCons (mCall 2 (m_law_mix cc) (aCons (mVar 3) (aCons (mVar 2) aNil))) aNil))) (mFor (itR1 (aCons (mC (.int 60)) aNil)) (.one 4) (mIfS (bCmp cGt (mVar 3) (mC (.int 0))) (mSeq (mDrop (mLM uApp (mVar 1) (aCons (mBin uMod (mCB uInt (aCons (mVar 3) aNil)) (mC (.int 9973))) aNil)))
    (mAsg (.one 3) (mBin uDiv (mVar 3) (mC (.int 9973))))) mNx)))))
    (mRet (mVar 1))))
noncomputable def m_law_modules (cc : Nat → Nat) : Sem' := fnM 0 (mRet (mLst (aCons (mC (.str [109, 97, 105, 110])) (aCons (mC (.str [97])) (aCons (mC (.str [97, 32, 98, 39, 91, 93])) (aCons (mBin uMulS (mC (.str [122])) (mC (.int 40))) aNil))))))
noncomputable def m_law_at (cc : Nat → Nat) : Sem' := fnM 2 (mSeq (mIfS (bCmp cLt (mVar 1) (mCB uLen (aCons (mVar 0) aNil))) (mRet (mBin uIx (mVar 0) (mVar 1))) mNx)
    (mSeq (mIfS (bCmp cEq (mCB uLen (aCons (mVar 0) aNil)) (mC (.int 0))) (mRet (mCall 2 (m_law_mix cc) (aCons (mVar 1) (aCons (mC (.int 77)) aNil)))) mNx)
    (mRet (mCall 2 (m_law_mix cc) (aCons (mBin uAdd (mBin uIx (mVar 0) (mBin uMod (mCB uInt (aCons (mVar 1) aNil)) (mCB uLen (aCons (mVar 0) aNil)))) (mBin uMul (mVar 1) (mC (.int 131)))) (aCons (mVar 1) aNil))))))
noncomputable def m_law_letters (cc : Nat → Nat) : Sem' := fnM 5 (mSeq (mAsg (.one 2) (mC (.str [32, 33, 34, 35, 36, 38, 39, 40, 41, 42, 43, 44, 45, 46, 47, 48, 49, 50, 51, 52, 53, 54, 55, 56, 57, 58, 59, 60, 61, 62, 63, 64, 65, 66, 67, 68, 69, 70, 71, 72, 73, 74, 75, 76, 77, 78, 79, 80, 81, 82, 83, 84, 85, 86, 87, 88, 89, 90, 91, 92, 93, 94, 95, 96, 97, 98, 99, 100, 101, 102, 103, 104, 105, 106, 107, 108, 109, 110, 111, 112, 113, 114, 115, 116, 117, 118, 119, 120, 121, 122, 123, 124, 125, 126, 10])))
    (mSeq (mAsg (.one 3) (mC (.str [])))
    (mSeq (mFor (itR1 (aCons (mBin uMod (mCall 2 (m_law_at cc) (aCons (mVar 0) (aCons (mVar 1) aNil))) (mC (.int 5))) aNil)) (.one 4) (mAsg (.one 3) (mBin uAdd (mVar 3) (mBin uIx (mVar 2) (mBin uMod (mBin uAdd (mCall 2 (m_law_at cc) (aCons (mVar 0) (aCons (mBin uAdd (mVar 1) (mC (.int 1))) aNil))) (mBin uMul (mC (.int 37)) (mVar 4))) (mC (.int 95)))))))
    (mRet (mVar 3)))))
noncomputable def m_law_forces (cc : Nat → Nat) : Sem' := fnM 6 (mSeq (mAsg (.one 1) (mLst aNil))
    (mSeq (mFor (itR1 (aCons (mCB uLen (aCons (mVar 0) aNil)) aNil)) (.one 2) (mSeq (mAsg (.one 3) (mBin uSub (mCB uLen (aCons (mVar 0) aNil)) (mVar 2)))
    (mSeq (mAsg (.one 4) (mLc (itR1 (aCons (mCB uLen (aCons (mVar 1) aNil)) aNil)) (.one 5) (bAnd (bTru (mBin uIx (mVar 1) (mVar 5))) (bCmp cEq (mBin uIx (mVar 0) (mBin uSub (mBin uSub (mCB uLen (aCons (mVar 0) aNil)) (mC (.int 1))) (mVar 5))) (mTup (aCons (mC (.str [98, 97, 99, 107])) (aCons (mVar 3) aNil))))) (mVar 5) [5]))
    (mDrop (mLM uApp (mVar 1) (aCons (mB (bCmp cEq (mCB uLen (aCons (mVar 4) aNil)) (mC (.int 0)))) aNil))))))
    (mRet (mLc (itR1 (aCons (mCB uLen (aCons (mVar 0) aNil)) aNil)) (.one 2) bYes (mBin uIx (mVar 1) (mBin uSub (mBin uSub (mCB uLen (aCons (mVar 0) aNil)) (mC (.int 1))) (mVar 2))) [2]))))
noncomputable def m_law_changes (cc : Nat → Nat) : Sem' := fnM 6 (mSeq (mAsg (.one 2) (mLst aNil))
    (mSeq (mFor (itR1 (aCons (mC (.int 8)) aNil)) (.one 3) (mSeq (mAsg (.one 4) (mCall 1 (m_law_forces cc) (aCons (mBin uIx (mVar 0) (mVar 3)) aNil)))
    (mFor (itR1 (aCons (mCB uLen (aCons (mBin uIx (mVar 0) (mVar 3)) aNil)) aNil)) (.one 5) (mIfS (bAnd (bCmp cEq (mBin uIx (mBin uIx (mBin uIx (mVar 0) (mVar 3)) (mVar 5)) (mC (.int 0))) (mC (.str [99, 104, 97, 110, 103, 101]))) (bCmp cEq (mBin uIx (mBin uIx (mBin uIx (mVar 0) (mVar 3)) (mVar 5)) (mC (.int 1))) (mVar 1))) (mDrop (mLM uApp (mVar 2) (aCons (mTup (aCons (mVar 3) (aCons (mBin uIx (mBin uIx (mVar 0) (mVar 3)) (mVar 5)) (aCons (mBin uIx (mVar 4) (mVar 5)) aNil)))) aNil))) mNx))))
    (mRet (mVar 2))))
noncomputable def m_law_inserted (cc : Nat → Nat) : Sem' := fnM 5 (mSeq (mAsg (.one 2) (mLst aNil))
    (mSeq (mAsg (.one 3) (mBin uIx (mVar 1) (mC (.int 3))))
    (mSeq (mFor (itR1 (aCons (mCB uLen (aCons (mBin uIx (mVar 1) (mC (.int 5))) aNil)) aNil)) (.one 4) (mSeq (mDrop (mLM uApp (mVar 2) (aCons (mTup (aCons (mTup (aCons (mBin uAdd (mBin uIx (mVar 1) (mC (.int 4))) (mVar 4)) (aCons (mVar 0) aNil))) (aCons (mVar 3) (aCons (mBin uIx (mBin uIx (mVar 1) (mC (.int 5))) (mVar 4)) aNil)))) aNil)))
    (mAsg (.one 3) (mTup (aCons (mBin uAdd (mBin uIx (mVar 1) (mC (.int 4))) (mVar 4)) (aCons (mVar 0) aNil))))))
    (mRet (mVar 2)))))
noncomputable def m_law_row (cc : Nat → Nat) : Sem' := fnM 13 (mSeq (mAsg (.one 2) (mLst aNil))
    (mSeq (mAsg (.one 3) (mLst aNil))
    (mSeq (mFor (itE (mCall 2 (m_law_changes cc) (aCons (mVar 0) (aCons (mVar 1) aNil)))) (.tup [4, 5, 6]) (mSeq (mFor (itE (mCall 2 (m_law_inserted cc) (aCons (mVar 4) (aCons (mVar 5) aNil)))) (.tup [7, 8, 9]) (mDrop (mLM uApp (mVar 3) (aCons (mTup (aCons (mVar 7) (aCons (mVar 8) (aCons (mVar 9) (aCons (mVar 6) aNil))))) aNil))))
    (mIfS (bTru (mVar 6)) (mAsg (.one 2) (mBin uAdd (mVar 2) (mCB uList (aCons (mBin uIx (mVar 5) (mC (.int 2))) aNil)))) mNx)))
    (mSeq (mAsg (.one 10) (mLst aNil))
    (mSeq (mFor (itE (mCB QH.uSortKs (aCons (mVar 3) aNil))) (.tup [7, 8, 9, 6]) (mSeq (mAsg (.one 11) (mC (.int 0)))
    (mSeq (mIfS (bCmp cIsN (mVar 8) (mC .non)) (mAsg (.one 11) (mBin uAdd (mLM uIndexD (mLc (itE (mVar 10)) (.one 12) bYes (mBin uIx (mVar 12) (mC (.int 0))) [12]) (aCons (mVar 8) aNil)) (mC (.int 1)))) mNx)
    (mDrop (mLM uIns (mVar 10) (aCons (mVar 11) (aCons (mTup (aCons (mVar 7) (aCons (mVar 9) (aCons (mAnd (mVar 6) (mB (bCmp cNin (mVar 7) (mVar 2)))) aNil)))) aNil)))))))
    (mRet (mVar 10)))))))
noncomputable def m_law_last (cc : Nat → Nat) : Sem' := fnM 4 (mSeq (mAsg (.one 1) (mC (.int 0)))
    (mSeq (mFor (itE (mVar 0)) (.one 2) (mFor (itE (mVar 2)) (.one 3) (mIfS (bCmp cEq (mBin uIx (mVar 3) (mC (.int 0))) (mC (.str [99, 104, 97, 110, 103, 101]))) (mAsg (.one 1) (mCB uMax (aCons (mVar 1) (aCons (mBin uAdd (mBin uIx (mVar 3) (mC (.int 4))) (mCB uLen (aCons (mBin uIx (mVar 3) (mC (.int 5))) aNil))) aNil)))) mNx)))
    (mRet (mVar 1))))
noncomputable def m_law_deed (cc : Nat → Nat) : Sem' := fnM 14 (mSeq (mAsg (.one 4) (mBin uIx (mVar 2) (mVar 3)))
    (mSeq (mIfS (bAnd (bCmp cEq (mBin uMod (mCall 2 (m_law_at cc) (aCons (mVar 0) (aCons (mVar 1) aNil))) (mC (.int 4))) (mC (.int 3))) (bCmp cGt (mCB uLen (aCons (mVar 4) aNil)) (mC (.int 0)))) (mRet (mTup (aCons (mC (.str [98, 97, 99, 107])) (aCons (mBin uAdd (mC (.int 1)) (mBin uMod (mCall 2 (m_law_at cc) (aCons (mVar 0) (aCons (mBin uAdd (mVar 1) (mC (.int 1))) aNil))) (mCB uLen (aCons (mVar 4) aNil)))) aNil)))) mNx)
    (mSeq (mAsg (.one 5) (mBin uIx (mCall 0 (m_law_modules cc) aNil) (mBin uDiv (mBin uMod (mCall 2 (m_law_at cc) (aCons (mVar 0) (aCons (mBin uAdd (mVar 1) (mC (.int 1))) aNil))) (mC (.int 16))) (mC (.int 5)))))
    (mSeq (mAsg (.one 6) (mLc (itE (mCall 2 (m_law_row cc) (aCons (mVar 2) (aCons (mVar 5) aNil)))) (.one 7) bYes (mBin uIx (mVar 7) (mC (.int 0))) [7]))
    (mSeq (mAsg (.one 8) (mLst aNil))
    (mSeq (mFor (itR1 (aCons (mBin uMod (mCall 2 (m_law_at cc) (aCons (mVar 0) (aCons (mBin uAdd (mVar 1) (mC (.int 2))) aNil))) (mC (.int 4))) aNil)) (.one 9) (mIfS (bCmp cGt (mCB uLen (aCons (mVar 6) aNil)) (mC (.int 0))) (mDrop (mLM uApp (mVar 8) (aCons (mBin uIx (mVar 6) (mBin uMod (mCall 2 (m_law_at cc) (aCons (mVar 0) (aCons (mBin uAdd (mBin uAdd (mVar 1) (mC (.int 3))) (mVar 9)) aNil))) (mCB uLen (aCons (mVar 6) aNil)))) aNil))) mNx))
    (mSeq (mAsg (.one 10) (mC .non))
    (mSeq (mIfS (bAnd (bCmp cGt (mCB uLen (aCons (mVar 6) aNil)) (mC (.int 0))) (bCmp cNe (mBin uMod (mCall 2 (m_law_at cc) (aCons (mVar 0) (aCons (mBin uAdd (mVar 1) (mC (.int 7))) aNil))) (mC (.int 5))) (mC (.int 0)))) (mAsg (.one 10) (mBin uIx (mVar 6) (mBin uMod (mBin uDiv (mCall 2 (m_law_at cc) (aCons (mVar 0) (aCons (mBin uAdd (mVar 1) (mC (.int 7))) aNil))) (mC (.int 5))) (mCB uLen (aCons (mVar 6) aNil))))) mNx)
    (mSeq (mAsg (.one 11) (mC (.int 1)))
    (mSeq (mFor (itE (mBin uAdd (mVar 8) (mLst (aCons (mVar 10) aNil)))) (.one 12) (mIfS (bCmp cIsN (mVar 12) (mC .non)) (mAsg (.one 11) (mCB uMax (aCons (mVar 11) (aCons (mBin uAdd (mBin uIx (mVar 12) (mC (.int 0))) (mC (.int 1))) aNil)))) mNx))
    (mSeq (mFor (itE (mVar 4)) (.one 13) (mIfS (bCmp cEq (mBin uIx (mVar 13) (mC (.int 0))) (mC (.str [99, 104, 97, 110, 103, 101]))) (mAsg (.one 11) (mCB uMax (aCons (mVar 11) (aCons (mBin uAdd (mBin uIx (mVar 13) (mC (.int 4))) (mCB uLen (aCons (mBin uIx (mVar 13) (mC (.int 5))) aNil))) aNil)))) mNx))
    (mSeq (mAsg (.one 11) (mBin uAdd (mVar 11) (mBin uIx (mLst (aCons (mC (.int 0)) (aCons (mC (.int 0)) (aCons (mC (.int 1)) (aCons (mC (.int 5)) aNil))))) (mBin uMod (mCall 2 (m_law_at cc) (aCons (mVar 0) (aCons (mBin uAdd (mVar 1) (mC (.int 8))) aNil))) (mC (.int 4))))))
    (mSeq (mIfS (bCmp cEq (mBin uMod (mBin uDiv (mCall 2 (m_law_at cc) (aCons (mVar 0) (aCons (mBin uAdd (mVar 1) (mC (.int 8))) aNil))) (mC (.int 4))) (mC (.int 2))) (mC (.int 0))) (mAsg (.one 11) (mCB uMax (aCons (mVar 11) (aCons (mBin uAdd (mCall 1 (m_law_last cc) (aCons (mVar 2) aNil)) (mC (.int 1))) aNil)))) mNx)
    (mRet (mTup (aCons (mC (.str [99, 104, 97, 110, 103, 101])) (aCons (mVar 5) (aCons (mCB uTuple (aCons (mVar 8) aNil)) (aCons (mVar 10) (aCons (mVar 11) (aCons (mCall 2 (m_law_letters cc) (aCons (mVar 0) (aCons (mBin uAdd (mVar 1) (mC (.int 9))) aNil))) aNil)))))))))))))))))))))
noncomputable def m_law_visible (cc : Nat → Nat) : Sem' := fnM 3 (mRet (mLc (itR1 (aCons (mC (.int 8)) aNil)) (.one 2) bYes (mSl (mBin uIx (mVar 0) (mVar 2)) oNone (oSome (mBin uIx (mVar 1) (mVar 2)))) [2]))
noncomputable def m_law_triples (cc : Nat → Nat) : Sem' := fnM 13 (mSeq (mAsg (.one 4) (mLc (itR1 (aCons (mC (.int 8)) aNil)) (.one 5) bYes (mLst aNil) [5]))
    (mSeq (mAsg (.one 6) (mLst aNil))
    (mSeq (mFor (itR1 (aCons (mVar 3) aNil)) (.one 5) (mDrop (mLM uApp (mVar 6) (aCons (mLc (itR1 (aCons (mC (.int 8)) aNil)) (.one 7) bYes (mC (.int 0)) [7]) aNil))))
    (mSeq (mAsg (.one 8) (mLst aNil))
    (mSeq (mFor (itR1 (aCons (mVar 2) aNil)) (.one 5) (mSeq (mAsg (.one 9) (mBin uAdd (mVar 1) (mBin uMul (mC (.int 16)) (mVar 5))))
    (mSeq (mAsg (.one 10) (mBin uMod (mCall 2 (m_law_at cc) (aCons (mVar 0) (aCons (mVar 9) aNil))) (mVar 3)))
    (mSeq (mAsg (.one 11) (mBin uMod (mCall 2 (m_law_at cc) (aCons (mVar 0) (aCons (mBin uAdd (mVar 9) (mC (.int 1))) aNil))) (mBin uAdd (mVar 3) (mC (.int 1)))))
    (mSeq (mIfS (bCmp cLt (mVar 11) (mVar 3)) (mSetI uSetL (mVar 6) (mVar 10) (mLc (itR1 (aCons (mC (.int 8)) aNil)) (.one 7) bYes (mCB uMax (aCons (mBin uIx (mBin uIx (mVar 6) (mVar 10)) (mVar 7)) (aCons (mBin uIx (mBin uIx (mVar 6) (mVar 11)) (mVar 7)) aNil))) [7])) mNx)
    (mSeq (mAsg (.one 12) (mCall 4 (m_law_deed cc) (aCons (mVar 0) (aCons (mBin uAdd (mVar 9) (mC (.int 2))) (aCons (mCall 2 (m_law_visible cc) (aCons (mVar 4) (aCons (mBin uIx (mVar 6) (mVar 10)) aNil))) (aCons (mVar 10) aNil))))))
    (mSeq (mDrop (mLM uApp (mBin uIx (mVar 4) (mVar 10)) (aCons (mVar 12) aNil)))
    (mSeq (mSetI uSetL (mBin uIx (mVar 6) (mVar 10)) (mVar 10) (mCB uLen (aCons (mBin uIx (mVar 4) (mVar 10)) aNil)))
    (mDrop (mLM uApp (mVar 8) (aCons (mTup (aCons (mVar 10) (aCons (mCB uLen (aCons (mBin uIx (mVar 4) (mVar 10)) aNil)) (aCons (mVar 12) aNil)))) aNil)))))))))))
    (mRet (mVar 8)))))))
noncomputable def m_law_rows_of (cc : Nat → Nat) : Sem' := fnM 6 (mSeq (mAsg (.one 1) (mLc (itR1 (aCons (mC (.int 8)) aNil)) (.one 2) bYes (mLst aNil) [2]))
    (mSeq (mFor (itE (mVar 0)) (.tup [3, 4, 5]) (mDrop (mLM uApp (mBin uIx (mVar 1) (mVar 3)) (aCons (mVar 5) aNil))))
    (mRet (mVar 1))))
noncomputable def m_Deeds__init__ (cc : Nat → Nat) : Sem' := fnM 2 (mSetF [cc 0] "rows" (mVar 0) (mLc (itR1 (aCons (mC (.int 8)) aNil)) (.one 1) bYes (mLst aNil) [1]))
noncomputable def m_Deeds_add (cc : Nat → Nat) : Sem' := fnM 3 (mDrop (mLM uApp (mBin uIx (mFld [cc 0] "rows" (mVar 0)) (mVar 1)) (aCons (mVar 2) aNil)))
noncomputable def m_law_deeds (cc : Nat → Nat) : Sem' := fnM 5 (mSeq (mAsg (.one 1) (mMake (cc 0) 1 (m_Deeds__init__ cc) aNil))
    (mSeq (mFor (itE (mVar 0)) (.tup [2, 3, 4]) (mDrop (mMeth (cc 0) "add" 3 (m_Deeds_add cc) (mVar 1) (aCons (mVar 2) (aCons (mVar 4) aNil)))))
    (mRet (mVar 1))))
noncomputable def m_Deeds_copy (cc : Nat → Nat) : Sem' := fnM 3 (mSeq (mAsg (.one 1) (mMake (cc 0) 1 (m_Deeds__init__ cc) aNil))
    (mSeq (mSetF [cc 0] "rows" (mVar 1) (mLc (itE (mFld [cc 0] "rows" (mVar 0))) (.one 2) bYes (mCB uList (aCons (mVar 2) aNil)) [2]))
    (mRet (mVar 1))))
noncomputable def m_law_is_integer (cc : Nat → Nat) : Sem' := fnM 1 (mRet (mAnd (mB (bIs .int (mVar 0))) (mNot (mB (bIs .bool (mVar 0))))))
noncomputable def m_law_same (cc : Nat → Nat) : Nat → Sem'
  | 0 => fun _ _ => .bad
  | n + 1 => fnM 3 (mSeq (mIfS (bIs2 .list .tuple (mVar 1)) (mSeq (mIfS (bOr (bCmp cNe (mB (bIs .list (mVar 1))) (mB (bIs .list (mVar 0)))) (bCmp cNe (mB (bIs .tuple (mVar 1))) (mB (bIs .tuple (mVar 0))))) (mRet (mC (.bl false))) mNx)
    (mSeq (mIfS (bCmp cNe (mCB uLen (aCons (mVar 0) aNil)) (mCB uLen (aCons (mVar 1) aNil))) (mRet (mC (.bl false))) mNx)
    (mSeq (mFor (itR1 (aCons (mCB uLen (aCons (mVar 1) aNil)) aNil)) (.one 2) (mIfS (bNot (bTru (mCall 2 (m_law_same cc n) (aCons (mBin uIx (mVar 0) (mVar 2)) (aCons (mBin uIx (mVar 1) (mVar 2)) aNil))))) (mRet (mC (.bl false))) mNx))
    (mRet (mC (.bl true)))))) mNx)
    (mSeq (mIfS (bCmp cIs (mVar 1) (mC .non)) (mRet (mB (bCmp cIs (mVar 0) (mC .non)))) mNx)
    (mSeq (mIfS (bIs .bool (mVar 1)) (mRet (mAnd (mB (bIs .bool (mVar 0))) (mB (bCmp cEq (mVar 0) (mVar 1))))) mNx)
    (mSeq (mIfS (bIs .int (mVar 1)) (mRet (mAnd (mCall 1 (m_law_is_integer cc) (aCons (mVar 0) aNil)) (mB (bCmp cEq (mVar 0) (mVar 1))))) mNx)
    (mRet (mAnd (mB (bIs .str (mVar 0))) (mB (bCmp cEq (mVar 0) (mVar 1)))))))))
noncomputable def m_Deeds_forces (cc : Nat → Nat) : Sem' := fnM 7 (mSeq (mAsg (.one 2) (mBin uIx (mFld [cc 0] "rows" (mVar 0)) (mVar 1)))
    (mSeq (mAsg (.one 3) mDNew)
    (mSeq (mAsg (.one 4) (mLst aNil))
    (mSeq (mFor (itR3 (aCons (mCB uLen (aCons (mVar 2) aNil)) (aCons (mC (.int 0)) (aCons (mNeg (mC (.int 1))) aNil)))) (.one 5) (mSeq (mAsg (.one 6) (mB (bCmp cDNin (mVar 5) (mVar 3))))
    (mSeq (mIfS (bAnd (bTru (mVar 6)) (bCmp cEq (mBin uIx (mBin uIx (mVar 2) (mBin uSub (mVar 5) (mC (.int 1)))) (mC (.int 0))) (mC (.str [98, 97, 99, 107])))) (mSetI uDSet (mVar 3) (mBin uIx (mBin uIx (mVar 2) (mBin uSub (mVar 5) (mC (.int 1)))) (mC (.int 1))) (mC (.bl true))) mNx)
    (mDrop (mLM uApp (mVar 4) (aCons (mVar 6) aNil))))))
    (mRet (mRev (mVar 4)))))))
noncomputable def m_Deeds_in_force (cc : Nat → Nat) : Sem' := fnM 3 (mRet (mBin uIx (mMeth (cc 0) "forces" 2 (m_Deeds_forces cc) (mVar 0) (aCons (mVar 1) aNil)) (mBin uSub (mVar 2) (mC (.int 1)))))
noncomputable def m_Deeds_counts (cc : Nat → Nat) : Sem' := fnM 2 (mRet (mLc (itE (mFld [cc 0] "rows" (mVar 0))) (.one 1) bYes (mCB uLen (aCons (mVar 1) aNil)) [1]))
noncomputable def m_law_is_forced (cc : Nat → Nat) : Sem' := fnM 8 (mSeq (mIfS (bOr (bNot (bTru (mCall 2 (m_law_same cc 8) (aCons (mFld [cc 0] "rows" (mVar 1)) (aCons (mVar 0) aNil))))) (bNot (bTru (mCall 2 (m_law_same cc 8) (aCons (mMeth (cc 0) "counts" 1 (m_Deeds_counts cc) (mVar 1) aNil) (aCons (mLc (itE (mVar 0)) (.one 2) bYes (mCB uLen (aCons (mVar 2) aNil)) [2]) aNil)))))) (mRet (mC (.bl false))) mNx)
    (mSeq (mFor (itR1 (aCons (mC (.int 8)) aNil)) (.one 3) (mSeq (mAsg (.one 4) (mLc (itR2 (aCons (mC (.int 1)) (aCons (mBin uAdd (mCB uLen (aCons (mBin uIx (mVar 0) (mVar 3)) aNil)) (mC (.int 1))) aNil))) (.one 5) bYes (mMeth (cc 0) "in_force" 3 (m_Deeds_in_force cc) (mVar 1) (aCons (mVar 3) (aCons (mVar 5) aNil))) [5]))
    (mSeq (mIfS (bNot (bTru (mCall 2 (m_law_same cc 8) (aCons (mVar 4) (aCons (mCall 1 (m_law_forces cc) (aCons (mBin uIx (mVar 0) (mVar 3)) aNil)) aNil))))) (mRet (mC (.bl false))) mNx)
    (mFor (itR2 (aCons (mC (.int 1)) (aCons (mBin uAdd (mCB uLen (aCons (mVar 4) aNil)) (mC (.int 1))) aNil))) (.one 5) (mSeq (mAsg (.one 6) (mLc (itR2 (aCons (mVar 5) (aCons (mCB uLen (aCons (mVar 4) aNil)) aNil))) (.one 7) (bAnd (bTru (mBin uIx (mVar 4) (mVar 7))) (bCmp cEq (mBin uIx (mBin uIx (mVar 0) (mVar 3)) (mVar 7)) (mTup (aCons (mC (.str [98, 97, 99, 107])) (aCons (mVar 5) aNil))))) (mVar 7) [7]))
    (mIfS (bCmp cNe (mBin uIx (mVar 4) (mBin uSub (mVar 5) (mC (.int 1)))) (mB (bCmp cEq (mCB uLen (aCons (mVar 6) aNil)) (mC (.int 0))))) (mRet (mC (.bl false))) mNx))))))
    (mRet (mC (.bl true)))))
noncomputable def m_law (cc : Nat → Nat) : Sem' := fnM 7 (mSeq (mAsg (.one 1) (mCall 1 (m_law_draws cc) (aCons (mVar 0) aNil)))
    (mSeq (mAsg (.one 2) (mCall 4 (m_law_triples cc) (aCons (mVar 1) (aCons (mC (.int 20)) (aCons (mBin uMod (mCall 2 (m_law_at cc) (aCons (mVar 1) (aCons (mC (.int 0)) aNil))) (mC (.int 31))) (aCons (mBin uAdd (mC (.int 1)) (mBin uMod (mCall 2 (m_law_at cc) (aCons (mVar 1) (aCons (mC (.int 1)) aNil))) (mC (.int 8)))) aNil))))))
    (mSeq (mAsg (.one 3) (mCall 1 (m_law_rows_of cc) (aCons (mVar 2) aNil)))
    (mSeq (mAsg (.one 4) (mCall 1 (m_law_deeds cc) (aCons (mVar 2) aNil)))
    (mSeq (mIfS (bOr (bNot (bTru (mCall 2 (m_law_same cc 8) (aCons (mC (.int 8)) (aCons (mC (.int 8)) aNil))))) (bNot (bTru (mCall 2 (m_law_is_forced cc) (aCons (mVar 3) (aCons (mVar 4) aNil)))))) (mRet (mC (.bl false))) mNx)
    (mSeq (mAsg (.one 5) (mMeth (cc 0) "copy" 1 (m_Deeds_copy cc) (mVar 4) aNil))
    (mSeq (mAsg (.one 6) (mBin uMod (mCall 2 (m_law_at cc) (aCons (mVar 1) (aCons (mC (.int 2)) aNil))) (mC (.int 8))))
    (mSeq (mIfS (bCmp cEq (mBin uMod (mCall 2 (m_law_at cc) (aCons (mVar 1) (aCons (mC (.int 3)) aNil))) (mC (.int 2))) (mC (.int 0))) (mDrop (mMeth (cc 0) "add" 3 (m_Deeds_add cc) (mVar 4) (aCons (mVar 6) (aCons (mTup (aCons (mC (.str [99, 104, 97, 110, 103, 101])) (aCons (mC (.str [97])) (aCons (mTup aNil) (aCons (mC .non) (aCons (mC (.int 9999)) (aCons (mC (.str [120])) aNil))))))) aNil)))) (mSeq (mDrop (mMeth (cc 0) "add" 3 (m_Deeds_add cc) (mVar 5) (aCons (mVar 6) (aCons (mTup (aCons (mC (.str [99, 104, 97, 110, 103, 101])) (aCons (mC (.str [97])) (aCons (mTup aNil) (aCons (mC .non) (aCons (mC (.int 9999)) (aCons (mC (.str [120])) aNil))))))) aNil))))
    (mAsg (.one 5) (mVar 4))))
    (mSeq (mDrop (mLM uApp (mMeth (cc 0) "counts" 1 (m_Deeds_counts cc) (mVar 4) aNil) (aCons (mC (.int 3)) aNil)))
    (mRet (mCall 2 (m_law_is_forced cc) (aCons (mVar 3) (aCons (mVar 5) aNil)))))))))))))
end LAW

set_option Elab.async false
set_option linter.all false
set_option maxRecDepth 100000
namespace LAW
open P
def p_law_mix : PSem := pFn 3 [] (sSeq (sAsg 2 (pLf (pBin gMod (pCB gInt (dCons (pFz (pAdd (pFz (pAdd (pBin gMul (pCB gInt (dCons (pVar 0) dNil)) (pC (.int 48271))) (pBin gMul (pVar 1) (pC (.int 69621))))) (pC (.int 12345)))) dNil)) (pC (.int 2147483647)))))
    (sSeq (sAsg 2 (pLf (pBin gMod (pCB gInt (dCons (pFz (pAdd (pFz (pAdd (pBin gMul (pVar 2) (pVar 2)) (pBin gMul (pVar 1) (pC (.int 40692))))) (pC (.int 1)))) dNil)) (pC (.int 2147483399)))))
    (sRet (pLf (pBin gMod (pBin gDiv (pVar 2) (pC (.int 5))) (pC (.int 9973)))))))
def p_law_draws : PSem := pFn 5 [] (sSeq (sAsg 1 (pLst dNil))
    (sSeq (sFor [2, 3, 4] (iR1 (dCons (pCB gMin (dCons (pC (.int 63)) (dCons (pCB gLen (dCons (pVar 0) dNil)) dNil))) dNil)) (.one 2) (sSeq (sAsg 3 (pLf (pCB gInt (dCons (pBin gIx (pVar 0) (pVar 2)) dNil))))
    (sIf (tCmp cLt (pVar 3) (pBin gPow (pC (.int 10)) (pC (.int 18)))) (sDrop (pLf (pUpd (.var 1) (dCons (pFz (pCall 2 p_law_mix (dCons (pVar 3) (dCons (pVar 2) dNil)))) dNil) uApp))) (sFor [4] (iR1 (dCons (pC (.int 60)) dNil)) (.one 4) (sIf (tCmp cGt (pVar 3) (pC (.int 0))) (sSeq (sDrop (pLf (pUpd (.var 1) (dCons (pBin gMod (pCB gInt (dCons (pVar 3) dNil)) (pC (.int 9973))) dNil) uApp)))
    (sAsg 3 (pLf (pBin gDiv (pVar 3) (pC (.int 9973)))))) sNx)))))
    (sRet (pMv 1))))
def p_law_modules : PSem := pFn 0 [] (sRet (pLst (dCons (pC (.str [109, 97, 105, 110])) (dCons (pC (.str [97])) (dCons (pC (.str [97, 32, 98, 39, 91, 93])) (dCons (pBin gMulS (pC (.str [122])) (pC (.int 40))) dNil))))))
def p_law_at : PSem := pFn 2 [] (sSeq (sIf (tCmp cLt (pVar 1) (pCB gLen (dCons (pVar 0) dNil))) (sRet (pLf (pBin gIx (pVar 0) (pVar 1)))) sNx)
    (sSeq (sIf (tCmp cEq (pCB gLen (dCons (pVar 0) dNil)) (pC (.int 0))) (sRet (pCall 2 p_law_mix (dCons (pVar 1) (dCons (pC (.int 77)) dNil)))) sNx)
    (sRet (pCall 2 p_law_mix (dCons (pFz (pAdd (pBin gIx (pVar 0) (pBin gMod (pCB gInt (dCons (pVar 1) dNil)) (pCB gLen (dCons (pVar 0) dNil)))) (pBin gMul (pVar 1) (pC (.int 131))))) (dCons (pVar 1) dNil))))))
def p_law_letters : PSem := pFn 5 [] (sSeq (sAsg 2 (pLf (pC (.str [32, 33, 34, 35, 36, 38, 39, 40, 41, 42, 43, 44, 45, 46, 47, 48, 49, 50, 51, 52, 53, 54, 55, 56, 57, 58, 59, 60, 61, 62, 63, 64, 65, 66, 67, 68, 69, 70, 71, 72, 73, 74, 75, 76, 77, 78, 79, 80, 81, 82, 83, 84, 85, 86, 87, 88, 89, 90, 91, 92, 93, 94, 95, 96, 97, 98, 99, 100, 101, 102, 103, 104, 105, 106, 107, 108, 109, 110, 111, 112, 113, 114, 115, 116, 117, 118, 119, 120, 121, 122, 123, 124, 125, 126, 10]))))
    (sSeq (sAsg 3 (pLf (pC (.str []))))
    (sSeq (sFor [4] (iR1 (dCons (pBin gMod (pFz (pCall 2 p_law_at (dCons (pVar 0) (dCons (pVar 1) dNil)))) (pC (.int 5))) dNil)) (.one 4) (sAsg 3 (pLf (pFz (pAdd (pVar 3) (pBin gIx (pVar 2) (pBin gMod (pFz (pAdd (pFz (pCall 2 p_law_at (dCons (pVar 0) (dCons (pFz (pAdd (pVar 1) (pC (.int 1)))) dNil)))) (pBin gMul (pC (.int 37)) (pVar 4)))) (pC (.int 95)))))))))
    (sRet (pLf (pVar 3))))))
def p_law_forces : PSem := pFn 6 [] (sSeq (sAsg 1 (pLst dNil))
    (sSeq (sFor [2, 3, 4, 5] (iR1 (dCons (pCB gLen (dCons (pVar 0) dNil)) dNil)) (.one 2) (sSeq (sAsg 3 (pLf (pBin gSub (pCB gLen (dCons (pVar 0) dNil)) (pVar 2))))
    (sSeq (sAsg 4 (pLf (pFz (pLc (iR1 (dCons (pCB gLen (dCons (pVw 1) dNil)) dNil)) (.one 5) (tAnd (tTru (pBin gIx (pVw 1) (pVar 5))) (tCmp cEq (pBin gIx (pVar 0) (pBin gSub (pBin gSub (pCB gLen (dCons (pVar 0) dNil)) (pC (.int 1))) (pVar 5))) (pTup (dCons (pC (.str [98, 97, 99, 107])) (dCons (pVar 3) dNil))))) (pVar 5) [5]))))
    (sDrop (pLf (pUpd (.var 1) (dCons (pB (tCmp cEq (pCB gLen (dCons (pVar 4) dNil)) (pC (.int 0)))) dNil) uApp))))))
    (sRet (pLc (iR1 (dCons (pCB gLen (dCons (pVar 0) dNil)) dNil)) (.one 2) tYes (pBin gIx (pVw 1) (pBin gSub (pBin gSub (pCB gLen (dCons (pVar 0) dNil)) (pC (.int 1))) (pVar 2))) [2]))))
def p_law_changes : PSem := pFn 6 [] (sSeq (sAsg 2 (pLst dNil))
    (sSeq (sFor [3, 4, 5] (iR1 (dCons (pC (.int 8)) dNil)) (.one 3) (sSeq (sAsg 4 (pLf (pFz (pCall 1 p_law_forces (dCons (pBin gIx (pVar 0) (pVar 3)) dNil)))))
    (sFor [5] (iR1 (dCons (pCB gLen (dCons (pBin gIx (pVar 0) (pVar 3)) dNil)) dNil)) (.one 5) (sIf (tAnd (tCmp cEq (pBin gIx (pBin gIx (pBin gIx (pVar 0) (pVar 3)) (pVar 5)) (pC (.int 0))) (pC (.str [99, 104, 97, 110, 103, 101]))) (tCmp cEq (pBin gIx (pBin gIx (pBin gIx (pVar 0) (pVar 3)) (pVar 5)) (pC (.int 1))) (pVar 1))) (sDrop (pLf (pUpd (.var 2) (dCons (pTup (dCons (pVar 3) (dCons (pBin gIx (pBin gIx (pVar 0) (pVar 3)) (pVar 5)) (dCons (pBin gIx (pVar 4) (pVar 5)) dNil)))) dNil) uApp))) sNx))))
    (sRet (pMv 2))))
def p_law_inserted : PSem := pFn 5 [] (sSeq (sAsg 2 (pLst dNil))
    (sSeq (sAsg 3 (pLf (pBin gIx (pVar 1) (pC (.int 3)))))
    (sSeq (sFor [4] (iR1 (dCons (pCB gLen (dCons (pBin gIx (pVar 1) (pC (.int 5))) dNil)) dNil)) (.one 4) (sSeq (sDrop (pLf (pUpd (.var 2) (dCons (pTup (dCons (pTup (dCons (pFz (pAdd (pBin gIx (pVar 1) (pC (.int 4))) (pVar 4))) (dCons (pVar 0) dNil))) (dCons (pVar 3) (dCons (pBin gIx (pBin gIx (pVar 1) (pC (.int 5))) (pVar 4)) dNil)))) dNil) uApp)))
    (sAsg 3 (pLf (pTup (dCons (pFz (pAdd (pBin gIx (pVar 1) (pC (.int 4))) (pVar 4))) (dCons (pVar 0) dNil)))))))
    (sRet (pMv 2)))))
def p_law_row : PSem := pFn 13 [] (sSeq (sAsg 2 (pLf (pFz (pLst dNil))))
    (sSeq (sAsg 3 (pLst dNil))
    (sSeq (sFor [4, 5, 6, 7, 8, 9] (iE (pFz (pCall 2 p_law_changes (dCons (pVar 0) (dCons (pVar 1) dNil))))) (.tup [4, 5, 6]) (sSeq (sFor [7, 8, 9] (iE (pFz (pCall 2 p_law_inserted (dCons (pVar 4) (dCons (pVar 5) dNil))))) (.tup [7, 8, 9]) (sDrop (pLf (pUpd (.var 3) (dCons (pTup (dCons (pVar 7) (dCons (pVar 8) (dCons (pVar 9) (dCons (pVar 6) dNil))))) dNil) uApp))))
    (sIf (tTru (pVar 6)) (sAsg 2 (pLf (pFz (pAdd (pVar 2) (pFz (pCT gList (dCons (pBin gIx (pVar 5) (pC (.int 2))) dNil))))))) sNx)))
    (sSeq (sAsg 10 (pLst dNil))
    (sSeq (sFor [6, 7, 8, 9, 11, 12] (iE (pFz (pCT gSortK (dCons (pVw 3) dNil)))) (.tup [7, 8, 9, 6]) (sSeq (sAsg 11 (pLf (pC (.int 0))))
    (sSeq (sIf (tCmp cIsN (pVar 8) (pC .non)) (sAsg 11 (pLf (pFz (pAdd (pIndexD (pFz (pLcV (pVw 10) (.one 12) tYes (pBin gIx (pVar 12) (pC (.int 0))) [12])) (pVar 8)) (pC (.int 1)))))) sNx)
    (sDrop (pLf (pUpd (.var 10) (dCons (pVar 11) (dCons (pTup (dCons (pVar 7) (dCons (pVar 9) (dCons (pAnd (pVar 6) (pB (tCmp cNin (pVar 7) (pVar 2)))) dNil)))) dNil)) uIns))))))
    (sRet (pMv 10)))))))
def p_law_last : PSem := pFn 4 [] (sSeq (sAsg 1 (pLf (pC (.int 0))))
    (sSeq (sFor [2, 3] (iE (pVar 0)) (.one 2) (sFor [3] (iE (pVar 2)) (.one 3) (sIf (tCmp cEq (pBin gIx (pVar 3) (pC (.int 0))) (pC (.str [99, 104, 97, 110, 103, 101]))) (sAsg 1 (pLf (pCB gMax (dCons (pVar 1) (dCons (pFz (pAdd (pBin gIx (pVar 3) (pC (.int 4))) (pCB gLen (dCons (pBin gIx (pVar 3) (pC (.int 5))) dNil)))) dNil))))) sNx)))
    (sRet (pLf (pVar 1)))))
def p_law_deed : PSem := pFn 14 [] (sSeq (sAsg 4 (pLf (pBin gIx (pVar 2) (pVar 3))))
    (sSeq (sIf (tAnd (tCmp cEq (pBin gMod (pFz (pCall 2 p_law_at (dCons (pVar 0) (dCons (pVar 1) dNil)))) (pC (.int 4))) (pC (.int 3))) (tCmp cGt (pCB gLen (dCons (pVar 4) dNil)) (pC (.int 0)))) (sRet (pLf (pTup (dCons (pC (.str [98, 97, 99, 107])) (dCons (pFz (pAdd (pC (.int 1)) (pBin gMod (pFz (pCall 2 p_law_at (dCons (pVar 0) (dCons (pFz (pAdd (pVar 1) (pC (.int 1)))) dNil)))) (pCB gLen (dCons (pVar 4) dNil))))) dNil))))) sNx)
    (sSeq (sAsg 5 (pLf (pBin gIx (pFz (pCall 0 p_law_modules dNil)) (pBin gDiv (pBin gMod (pFz (pCall 2 p_law_at (dCons (pVar 0) (dCons (pFz (pAdd (pVar 1) (pC (.int 1)))) dNil)))) (pC (.int 16))) (pC (.int 5))))))
    (sSeq (sAsg 6 (pLf (pFz (pLc (iE (pFz (pCall 2 p_law_row (dCons (pVar 2) (dCons (pVar 5) dNil))))) (.one 7) tYes (pBin gIx (pVar 7) (pC (.int 0))) [7]))))
    (sSeq (sAsg 8 (pLst dNil))
    (sSeq (sFor [9] (iR1 (dCons (pBin gMod (pFz (pCall 2 p_law_at (dCons (pVar 0) (dCons (pFz (pAdd (pVar 1) (pC (.int 2)))) dNil)))) (pC (.int 4))) dNil)) (.one 9) (sIf (tCmp cGt (pCB gLen (dCons (pVar 6) dNil)) (pC (.int 0))) (sDrop (pLf (pUpd (.var 8) (dCons (pBin gIx (pVar 6) (pBin gMod (pFz (pCall 2 p_law_at (dCons (pVar 0) (dCons (pFz (pAdd (pFz (pAdd (pVar 1) (pC (.int 3)))) (pVar 9))) dNil)))) (pCB gLen (dCons (pVar 6) dNil)))) dNil) uApp))) sNx))
    (sSeq (sAsg 10 (pLf (pC .non)))
    (sSeq (sIf (tAnd (tCmp cGt (pCB gLen (dCons (pVar 6) dNil)) (pC (.int 0))) (tCmp cNe (pBin gMod (pFz (pCall 2 p_law_at (dCons (pVar 0) (dCons (pFz (pAdd (pVar 1) (pC (.int 7)))) dNil)))) (pC (.int 5))) (pC (.int 0)))) (sAsg 10 (pLf (pBin gIx (pVar 6) (pBin gMod (pBin gDiv (pFz (pCall 2 p_law_at (dCons (pVar 0) (dCons (pFz (pAdd (pVar 1) (pC (.int 7)))) dNil)))) (pC (.int 5))) (pCB gLen (dCons (pVar 6) dNil)))))) sNx)
    (sSeq (sAsg 11 (pLf (pC (.int 1))))
    (sSeq (sFor [12] (iE (pFz (pAdd (pVw 8) (pFz (pLst (dCons (pVar 10) dNil)))))) (.one 12) (sIf (tCmp cIsN (pVar 12) (pC .non)) (sAsg 11 (pLf (pCB gMax (dCons (pVar 11) (dCons (pFz (pAdd (pBin gIx (pVar 12) (pC (.int 0))) (pC (.int 1)))) dNil))))) sNx))
    (sSeq (sFor [13] (iE (pVar 4)) (.one 13) (sIf (tCmp cEq (pBin gIx (pVar 13) (pC (.int 0))) (pC (.str [99, 104, 97, 110, 103, 101]))) (sAsg 11 (pLf (pCB gMax (dCons (pVar 11) (dCons (pFz (pAdd (pBin gIx (pVar 13) (pC (.int 4))) (pCB gLen (dCons (pBin gIx (pVar 13) (pC (.int 5))) dNil)))) dNil))))) sNx))
    (sSeq (sAsg 11 (pLf (pFz (pAdd (pVar 11) (pBin gIx (pFz (pLst (dCons (pC (.int 0)) (dCons (pC (.int 0)) (dCons (pC (.int 1)) (dCons (pC (.int 5)) dNil)))))) (pBin gMod (pFz (pCall 2 p_law_at (dCons (pVar 0) (dCons (pFz (pAdd (pVar 1) (pC (.int 8)))) dNil)))) (pC (.int 4))))))))
    (sSeq (sIf (tCmp cEq (pBin gMod (pBin gDiv (pFz (pCall 2 p_law_at (dCons (pVar 0) (dCons (pFz (pAdd (pVar 1) (pC (.int 8)))) dNil)))) (pC (.int 4))) (pC (.int 2))) (pC (.int 0))) (sAsg 11 (pLf (pCB gMax (dCons (pVar 11) (dCons (pFz (pAdd (pFz (pCall 1 p_law_last (dCons (pVar 2) dNil))) (pC (.int 1)))) dNil))))) sNx)
    (sRet (pLf (pTup (dCons (pC (.str [99, 104, 97, 110, 103, 101])) (dCons (pVar 5) (dCons (pCB gTuple (dCons (pVw 8) dNil)) (dCons (pVar 10) (dCons (pVar 11) (dCons (pFz (pCall 2 p_law_letters (dCons (pVar 0) (dCons (pFz (pAdd (pVar 1) (pC (.int 9)))) dNil)))) dNil))))))))))))))))))))))
def p_law_visible : PSem := pFn 3 [] (sRet (pLcT (iR1 (dCons (pC (.int 8)) dNil)) (.one 2) (pSl (pBin gIx (pVar 0) (pVar 2)) oNo (oSo (pBin gIx (pVar 1) (pVar 2)))) [2]))
def p_law_triples : PSem := pFn 13 [] (sSeq (sAsg 4 (pLcT (iR1 (dCons (pC (.int 8)) dNil)) (.one 5) (pLst dNil) [5]))
    (sSeq (sAsg 6 (pLsT tNil))
    (sSeq (sFor [5, 7] (iR1 (dCons (pVar 3) dNil)) (.one 5) (sDrop (pLf (pUpT (.var 6) (pLc (iR1 (dCons (pC (.int 8)) dNil)) (.one 7) tYes (pC (.int 0)) [7])))))
    (sSeq (sAsg 8 (pLst dNil))
    (sSeq (sFor [5, 7, 9, 10, 11, 12] (iR1 (dCons (pVar 2) dNil)) (.one 5) (sSeq (sAsg 9 (pLf (pFz (pAdd (pVar 1) (pBin gMul (pC (.int 16)) (pVar 5))))))
    (sSeq (sAsg 10 (pLf (pBin gMod (pFz (pCall 2 p_law_at (dCons (pVar 0) (dCons (pVar 9) dNil)))) (pVar 3))))
    (sSeq (sAsg 11 (pLf (pBin gMod (pFz (pCall 2 p_law_at (dCons (pVar 0) (dCons (pFz (pAdd (pVar 9) (pC (.int 1)))) dNil)))) (pFz (pAdd (pVar 3) (pC (.int 1)))))))
    (sSeq (sIf (tCmp cLt (pVar 11) (pVar 3)) (sSetIT (.var 6) (pVar 10) (pLc (iR1 (dCons (pC (.int 8)) dNil)) (.one 7) tYes (pCB gMax (dCons (pBin gIx (pVp (.ix (.var 6) (pVar 10))) (pVar 7)) (dCons (pBin gIx (pVp (.ix (.var 6) (pVar 11))) (pVar 7)) dNil))) [7])) sNx)
    (sSeq (sAsg 12 (pLf (pFz (pCall 4 p_law_deed (dCons (pVar 0) (dCons (pFz (pAdd (pVar 9) (pC (.int 2)))) (dCons (pFz (pCallBB p_law_visible 4 (.ix (.var 6) (pVar 10)))) (dCons (pVar 10) dNil))))))))
    (sSeq (sDrop (pLf (pUpd (.ix (.var 4) (pVar 10)) (dCons (pVar 12) dNil) uApp)))
    (sSeq (sSetI (.ix (.var 6) (pVar 10)) (pVar 10) (pCB gLen (dCons (pVp (.ix (.var 4) (pVar 10))) dNil)))
    (sDrop (pLf (pUpd (.var 8) (dCons (pTup (dCons (pVar 10) (dCons (pCB gLen (dCons (pVp (.ix (.var 4) (pVar 10))) dNil)) (dCons (pVar 12) dNil)))) dNil) uApp)))))))))))
    (sRet (pMv 8)))))))
def p_law_rows_of : PSem := pFn 6 [] (sSeq (sAsg 1 (pLcT (iR1 (dCons (pC (.int 8)) dNil)) (.one 2) (pLst dNil) [2]))
    (sSeq (sFor [3, 4, 5] (iE (pVar 0)) (.tup [3, 4, 5]) (sDrop (pLf (pUpd (.ix (.var 1) (pVar 3)) (dCons (pVar 5) dNil) uApp))))
    (sRet (pMv 1))))
def p_Deeds__init__ : PSem := pFn 2 [true] (sSetF [0] "rows" (.var 0) (pLcT (iR1 (dCons (pC (.int 8)) dNil)) (.one 1) (pLst dNil) [1]))
def p_Deeds_add : PSem := pFn 3 [true] (sDrop (pLf (pUpd (.ix (.fld (.var 0) [0] "rows") (pVar 1)) (dCons (pVar 2) dNil) uApp)))
def p_law_deeds : PSem := pFn 5 [] (sSeq (sAsg 1 (pMake 0 1 p_Deeds__init__ dNil))
    (sSeq (sFor [2, 3, 4] (iE (pVar 0)) (.tup [2, 3, 4]) (sDrop (pMeth 0 "add" 3 p_Deeds_add (.var 1) (dCons (pVar 2) (dCons (pVar 4) dNil)))))
    (sRet (pMv 1))))
def p_Deeds_copy : PSem := pFn 3 [] (sSeq (sAsg 1 (pMake 0 1 p_Deeds__init__ dNil))
    (sSeq (sSetF [0] "rows" (.var 1) (pLcT (iE (pUn (gFld [0] "rows") (pVar 0))) (.one 2) (pCT gList (dCons (pVar 2) dNil)) [2]))
    (sRet (pMv 1))))
def p_law_is_integer : PSem := pFn 1 [] (sRet (pLf (pAnd (pB (tIs .int (pVar 0))) (pUn gNot (pB (tIs .bool (pVar 0)))))))
def p_law_same : Nat → PSem
  | 0 => fun _ => .bad
  | n + 1 => pFn 3 [] (sSeq (sIf (tIs2 .list .tuple (pVar 1)) (sSeq (sIf (tOr (tCmp cNe (pB (tIs .list (pVar 1))) (pB (tIs .list (pVar 0)))) (tCmp cNe (pB (tIs .tuple (pVar 1))) (pB (tIs .tuple (pVar 0))))) (sRet (pLf (pC (.bl false)))) sNx)
    (sSeq (sIf (tCmp cNe (pCB gLen (dCons (pVar 0) dNil)) (pCB gLen (dCons (pVar 1) dNil))) (sRet (pLf (pC (.bl false)))) sNx)
    (sSeq (sFor [2] (iR1 (dCons (pCB gLen (dCons (pVar 1) dNil)) dNil)) (.one 2) (sIf (tNot (tTru (pFz (pCall 2 (p_law_same n) (dCons (pBin gIx (pVar 0) (pVar 2)) (dCons (pBin gIx (pVar 1) (pVar 2)) dNil)))))) (sRet (pLf (pC (.bl false)))) sNx))
    (sRet (pLf (pC (.bl true))))))) sNx)
    (sSeq (sIf (tCmp cIs (pVar 1) (pC .non)) (sRet (pLf (pB (tCmp cIs (pVar 0) (pC .non))))) sNx)
    (sSeq (sIf (tIs .bool (pVar 1)) (sRet (pLf (pAnd (pB (tIs .bool (pVar 0))) (pB (tCmp cEq (pVar 0) (pVar 1)))))) sNx)
    (sSeq (sIf (tIs .int (pVar 1)) (sRet (pLf (pAnd (pFz (pCall 1 p_law_is_integer (dCons (pVar 0) dNil))) (pB (tCmp cEq (pVar 0) (pVar 1)))))) sNx)
    (sRet (pLf (pAnd (pB (tIs .str (pVar 0))) (pB (tCmp cEq (pVar 0) (pVar 1))))))))))
def p_Deeds_forces : PSem := pFn 7 [] (sSeq (sAsg 2 (pLf (pBin gIx (pUn (gFld [0] "rows") (pVar 0)) (pVar 1))))
    (sSeq (sAsg 3 pDNew)
    (sSeq (sAsg 4 (pLst dNil))
    (sSeq (sFor [5, 6] (iR3 (dCons (pCB gLen (dCons (pVar 2) dNil)) (dCons (pC (.int 0)) (dCons (pUn gNeg (pC (.int 1))) dNil)))) (.one 5) (sSeq (sAsg 6 (pLf (pB (tCmp cDNin (pVar 5) (pVw 3)))))
    (sSeq (sIf (tAnd (tTru (pVar 6)) (tCmp cEq (pBin gIx (pBin gIx (pVar 2) (pBin gSub (pVar 5) (pC (.int 1)))) (pC (.int 0))) (pC (.str [98, 97, 99, 107])))) (sSetK (.var 3) (pBin gIx (pBin gIx (pVar 2) (pBin gSub (pVar 5) (pC (.int 1)))) (pC (.int 1))) (pC (.bl true))) sNx)
    (sDrop (pLf (pUpd (.var 4) (dCons (pVar 6) dNil) uApp))))))
    (sRet (pRev (pVw 4)))))))
def p_Deeds_in_force : PSem := pFn 3 [] (sRet (pLf (pBin gIx (pFz (pMethD 0 "forces" 2 p_Deeds_forces (pVar 0) (dCons (pVar 1) dNil))) (pBin gSub (pVar 2) (pC (.int 1))))))
def p_Deeds_counts : PSem := pFn 2 [] (sRet (pLc (iE (pUn (gFld [0] "rows") (pVar 0))) (.one 1) tYes (pCB gLen (dCons (pVar 1) dNil)) [1]))
def p_law_is_forced : PSem := pFn 8 [] (sSeq (sIf (tOr (tNot (tTru (pFz (pCall 2 (p_law_same 8) (dCons (pUn (gFld [0] "rows") (pVar 1)) (dCons (pVar 0) dNil)))))) (tNot (tTru (pFz (pCall 2 (p_law_same 8) (dCons (pFz (pMethD 0 "counts" 1 p_Deeds_counts (pVar 1) dNil)) (dCons (pFz (pLc (iE (pVar 0)) (.one 2) tYes (pCB gLen (dCons (pVar 2) dNil)) [2])) dNil))))))) (sRet (pLf (pC (.bl false)))) sNx)
    (sSeq (sFor [3, 4, 5, 6, 7] (iR1 (dCons (pC (.int 8)) dNil)) (.one 3) (sSeq (sAsg 4 (pLf (pFz (pLc (iR2 (dCons (pC (.int 1)) (dCons (pFz (pAdd (pCB gLen (dCons (pBin gIx (pVar 0) (pVar 3)) dNil)) (pC (.int 1)))) dNil))) (.one 5) tYes (pFz (pMethD 0 "in_force" 3 p_Deeds_in_force (pVar 1) (dCons (pVar 3) (dCons (pVar 5) dNil)))) [5]))))
    (sSeq (sIf (tNot (tTru (pFz (pCall 2 (p_law_same 8) (dCons (pVar 4) (dCons (pFz (pCall 1 p_law_forces (dCons (pBin gIx (pVar 0) (pVar 3)) dNil))) dNil)))))) (sRet (pLf (pC (.bl false)))) sNx)
    (sFor [5, 6, 7] (iR2 (dCons (pC (.int 1)) (dCons (pFz (pAdd (pCB gLen (dCons (pVar 4) dNil)) (pC (.int 1)))) dNil))) (.one 5) (sSeq (sAsg 6 (pLf (pFz (pLc (iR2 (dCons (pVar 5) (dCons (pCB gLen (dCons (pVar 4) dNil)) dNil))) (.one 7) (tAnd (tTru (pBin gIx (pVar 4) (pVar 7))) (tCmp cEq (pBin gIx (pBin gIx (pVar 0) (pVar 3)) (pVar 7)) (pTup (dCons (pC (.str [98, 97, 99, 107])) (dCons (pVar 5) dNil))))) (pVar 7) [7]))))
    (sIf (tCmp cNe (pBin gIx (pVar 4) (pBin gSub (pVar 5) (pC (.int 1)))) (pB (tCmp cEq (pCB gLen (dCons (pVar 6) dNil)) (pC (.int 0))))) (sRet (pLf (pC (.bl false)))) sNx))))))
    (sRet (pLf (pC (.bl true))))))
def p_law : PSem := pFn 7 [] (sSeq (sAsg 1 (pLf (pFz (pCall 1 p_law_draws (dCons (pVar 0) dNil)))))
    (sSeq (sAsg 2 (pLf (pFz (pCall 4 p_law_triples (dCons (pVar 1) (dCons (pC (.int 20)) (dCons (pBin gMod (pFz (pCall 2 p_law_at (dCons (pVar 1) (dCons (pC (.int 0)) dNil)))) (pC (.int 31))) (dCons (pFz (pAdd (pC (.int 1)) (pBin gMod (pFz (pCall 2 p_law_at (dCons (pVar 1) (dCons (pC (.int 1)) dNil)))) (pC (.int 8))))) dNil))))))))
    (sSeq (sAsg 3 (pLf (pFz (pCall 1 p_law_rows_of (dCons (pVar 2) dNil)))))
    (sSeq (sAsg 4 (pCall 1 p_law_deeds (dCons (pVar 2) dNil)))
    (sSeq (sIf (tOr (tNot (tTru (pFz (pCall 2 (p_law_same 8) (dCons (pC (.int 8)) (dCons (pC (.int 8)) dNil)))))) (tNot (tTru (pFz (pCallB 2 1 4 p_law_is_forced (dCons (pVar 3) dNil)))))) (sRet (pLf (pC (.bl false)))) sNx)
    (sSeq (sAsg 5 (pMethB 0 "copy" 1 p_Deeds_copy (.var 4) dNil))
    (sSeq (sAsg 6 (pLf (pBin gMod (pFz (pCall 2 p_law_at (dCons (pVar 1) (dCons (pC (.int 2)) dNil)))) (pC (.int 8)))))
    (sSeq (sIf (tCmp cEq (pBin gMod (pFz (pCall 2 p_law_at (dCons (pVar 1) (dCons (pC (.int 3)) dNil)))) (pC (.int 2))) (pC (.int 0))) (sDrop (pMeth 0 "add" 3 p_Deeds_add (.var 4) (dCons (pVar 6) (dCons (pTup (dCons (pC (.str [99, 104, 97, 110, 103, 101])) (dCons (pC (.str [97])) (dCons (pTup dNil) (dCons (pC .non) (dCons (pC (.int 9999)) (dCons (pC (.str [120])) dNil))))))) dNil)))) (sSeq (sDrop (pMeth 0 "add" 3 p_Deeds_add (.var 5) (dCons (pVar 6) (dCons (pTup (dCons (pC (.str [99, 104, 97, 110, 103, 101])) (dCons (pC (.str [97])) (dCons (pTup dNil) (dCons (pC .non) (dCons (pC (.int 9999)) (dCons (pC (.str [120])) dNil))))))) dNil))))
    (sAsg 5 (pLf (pFv 4)))))
    (sSeq (sDrop (pLf (pUpdT (pMethD 0 "counts" 1 p_Deeds_counts (pFv 4) dNil) (dCons (pC (.int 3)) dNil) uApp)))
    (sRet (pCall 2 p_law_is_forced (dCons (pVar 3) (dCons (pFv 5) dNil)))))))))))))
end LAW

set_option Elab.async false
set_option linter.all false
set_option maxRecDepth 100000
set_option maxHeartbeats 4000000
/-! K01MathA: deeds, what is in force. -/
namespace LAW
open P
theorem draws_eq : p_law_draws = lawDraws := rfl
theorem at_eq : p_law_at = lawAt := rfl
theorem same_eq : ∀ n, p_law_same n = lawSame n
  | 0 => rfl
  | n + 1 => by
    unfold p_law_same lawSame
    rw [same_eq n]
    rfl
theorem same_ok (n : Nat) (d : D) (h : D.sm n d = true) : p_law_same n [.leaf d, .leaf d] = .ok (.leaf (.bl true)) [] := by rw [same_eq]; exact lawSame_ok n d h
theorem at_ok (vs : List Nat) (i : Nat) : p_law_at [.leaf (.lst (In vs)), .leaf (.int i)] = .ok (.leaf (.int (atN vs i))) [] := by rw [at_eq]; exact lawAt_ok vs i
/-- a mark: its number, its replica -/
abbrev Mrk := Nat × Nat
inductive Dd where
  | bk (p : Nat)
  | ch (m : List Nat) (rm : List Mrk) (bh : Option Mrk) (n : Nat) (x : List Nat)
  deriving DecidableEq
abbrev sChange : List Nat := [99, 104, 97, 110, 103, 101]
abbrev sBack : List Nat := [98, 97, 99, 107]
def dM (m : Mrk) : D := .tup [.int m.1, .int m.2]
def dO : Option Mrk → D
  | none => .non
  | some m => dM m
def dD : Dd → D
  | .bk p => .tup [.str sBack, .int p]
  | .ch m rm bh n x => .tup [.str sChange, .str m, .tup (rm.map dM), dO bh, .int n, .str x]
abbrev dR (r : List Dd) : D := .lst (r.map dD)
abbrev dRs (rs : List (List Dd)) : D := .lst (rs.map dR)
/-- texts of signs -/
def Tx (s : List Nat) : Prop := ∀ c ∈ s, c < 1114112
def OkD : Dd → Prop
  | .bk _ => True
  | .ch m _ _ _ x => Tx m ∧ Tx x
theorem tx_all {s : List Nat} (h : Tx s) : s.all (· < 1114112) = true := by rw [List.all_eq_true]; intro c m; simpa using h c m
theorem okM {n : Nat} (m : Mrk) : D.ok (n + 1) (dM m) = true := by simp [dM]
theorem okO {n : Nat} (m : Option Mrk) : D.ok (n + 1) (dO m) = true := by cases m <;> simp [dO, okM]
theorem okMs {n : Nat} (ms : List Mrk) : D.oks (n + 1) (ms.map dM) = true := by
  rw [oks_all, List.all_map, List.all_eq_true]
  intro m _
  exact okM m
theorem okDd {n : Nat} {d : Dd} (h : OkD d) : D.ok (n + 3) (dD d) = true := by
  cases d with
  | bk p => simp [dD]
  | ch m rm bh k x =>
    obtain ⟨h1, h2⟩ := h
    have e1 := okO (n := n + 1) bh
    have e2 := okMs (n := n) rm
    simp only [dD, ok_tup, oks_cons, oks_nil, ok_str, tx_all h1, tx_all h2, ok_int, Bool.and_true, e1, e2]
    decide
theorem eqM (a b : Mrk) : D.eq (dM a) (dM b) = decide (a = b) := by
  obtain ⟨a1, a2⟩ := a
  obtain ⟨b1, b2⟩ := b
  simp only [dM, D.eq, D.eqs, Bool.and_true, Prod.mk.injEq]
  rw [Bool.eq_iff_iff]
  simp
  omega
theorem eqDb (d : Dd) (p : Nat) : D.eq (dD d) (dD (.bk p)) = decide (d = .bk p) := by
  cases d with
  | bk q =>
    simp only [dD, D.eq, D.eqs, Bool.and_true, Dd.bk.injEq]
    rw [Bool.eq_iff_iff]
    simp
    omega
  | ch m rm bh n x => simp [dD, D.eq, D.eqs]
theorem cEq_back {d : Dd} (h : OkD d) (p : Nat) : cEq (dD d) (.tup [.str sBack, .int p]) = some (decide (d = .bk p)) := by
  have e := eqDb d p
  have o1 := okDd (n := 47) h
  have o2 : D.ok 50 (dD (.bk p)) = true := okDd (n := 47) (d := .bk p) True.intro
  rw [← e]
  show cEq (dD d) (dD (.bk p)) = _
  generalize hx : dD (.bk p) = x at o2 ⊢
  have hx' : ∃ l, x = .tup l := ⟨_, hx.symm⟩
  obtain ⟨l, rfl⟩ := hx'
  have hd' : ∃ l, dD d = .tup l := by cases d <;> exact ⟨_, rfl⟩
  obtain ⟨l2, hd'⟩ := hd'
  rw [hd'] at o1 ⊢
  unfold cEq
  simp [o1, o2]
/-! what is in force -/
def takers (R : List Dd) (fs : List Bool) (p : Nat) : List Nat := (List.range fs.length).filter fun j => fs.getD j false && decide (R[j]? = some (.bk p))
def fStep (R : List Dd) (fs : List Bool) : List Bool := fs ++ [(takers R fs (R.length - fs.length)).isEmpty]
def fL (R : List Dd) : Nat → List Bool
  | 0 => []
  | k + 1 => fStep R (fL R k)
theorem fL_len (R : List Dd) : ∀ k, (fL R k).length = k
  | 0 => rfl
  | k + 1 => by unfold fL fStep; simp [fL_len R k]
/-- what is in force of a row -/
def forces (row : List Dd) : List Bool := (fL row.reverse row.length).reverse
theorem forces_len (row : List Dd) : (forces row).length = row.length := by unfold forces; rw [List.length_reverse, fL_len]
theorem rng_eq (n : Nat) : rng 0 n = (List.range n).map fun i => D.int (i : Nat) := by unfold rng; simp
abbrev Bl (l : List Bool) : List D := l.map .bl
end LAW

set_option Elab.async false
set_option linter.all false
set_option maxRecDepth 100000
set_option maxHeartbeats 4000000
/-! K01MathB: the law's forces, the program's forces. -/
namespace LAW
open P
/-- the numbers of which p says so -/
def fI (p : Nat → Bool) : D → Option D
  | .int j => if p j.toNat = true then some (.int j) else none
  | _ => none
theorem fI_int (p : Nat → Bool) (j : Nat) : fI p (.int j) = if p j = true then some (.int j) else none := rfl
theorem fm_rng (n : Nat) (p : Nat → Bool) : ((List.range n).map fun i => D.int (i : Nat)).filterMap (fI p) = ((List.range n).filter p).map fun i => D.int (i : Nat) := by
  induction List.range n with
  | nil => rfl
  | cons i l ih =>
    rw [List.map_cons, List.filterMap_cons, fI_int, ih]
    by_cases h : p i = true
    · rw [if_pos h, List.filter_cons_of_pos h]; rfl
    · rw [if_neg h, List.filter_cons_of_neg h]
theorem fL_get (R : List Dd) (k j : Nat) (h : j < k) : (fL R k)[j]? = some ((fL R k).getD j false) := by
  rw [List.getD_eq_getElem?_getD, List.getElem?_eq_getElem (by rw [fL_len]; exact h)]
  rfl
theorem rev_get {row : List Dd} {j : Nat} (h : j < row.length) : row.reverse[j]? = row[row.length - 1 - j]? := List.getElem?_reverse h
theorem lforces_ok {row : List Dd} (hk : ∀ d ∈ row, OkD d) (hl : row.length ≤ 1000) : p_law_forces [.leaf (dR row)] = .ok (.ls (Bl (forces row))) [] := by
  have hz : row.length ≤ 1000000000 := by omega
  unfold p_law_forces
  simp [hz]
  generalize hF : forL _ _ _ _ _ = F
  obtain ⟨fs, rfl, e⟩ := for_st hF (fun fs => [T.leaf (dR row), T.ls (Bl fs), .hole, .hole, .hole, .hole]) (fun i fs => fs = fL row.reverse i) [] (by simp) rfl (by
    rintro i d fs hd rfl
    obtain ⟨hi, rfl⟩ := rng_get hd
    have hlen := fL_len row.reverse i
    have h1 : i ≤ 1000000000 := by omega
    refine ⟨fL row.reverse (i + 1), ?_, rfl⟩
    simp [hlen, h1]
    generalize hL : lcR _ _ _ _ _ _ = L
    have := lc_fi hL [T.leaf (dR row), T.ls (Bl (fL row.reverse i)), .leaf (.int i), .leaf (.int (row.length - i)), .hole, .hole]
      (fI fun j => (fL row.reverse i).getD j false && decide (row.reverse[j]? = some (.bk (row.length - i)))) (by simp) (by simp [rng_len]; omega) (by
      intro d hd
      obtain ⟨j, hj, rfl⟩ := rng_mem hd
      have g1 := fL_get row.reverse i j hj
      have hj2 : j < row.length := by omega
      have g2 : atI (row.map dD) ((row.length : Int) - 1 - j) = some (dD (row[row.length - 1 - j]'(by omega))) := by
        rw [show ((row.length : Int) - 1 - j) = ((row.length - 1 - j : Nat) : Int) by omega, atI_nat, List.getElem?_map, List.getElem?_eq_getElem (by omega)]
        rfl
      have g3 := cEq_back (hk (row[row.length - 1 - j]'(by omega)) (List.getElem_mem _)) (row.length - i)
      have g4 : (((row.length - i : Nat) : Int)) = (row.length : Int) - i := by omega
      rw [g4] at g3
      rw [show (0 : Int) + (j : Nat) = (j : Nat) by omega, fI_int]
      have g5 : row.reverse[j]? = some (row[row.length - 1 - j]'(by omega)) := by rw [rev_get hj2, List.getElem?_eq_getElem (by omega)]
      cases hb : (fL row.reverse i).getD j false with
      | false =>
        rw [hb] at g1
        simp [atI_nat, g1]
      | true =>
        rw [hb] at g1
        simp [atI_nat, g1, g2, g3, g5]
        by_cases c : row[row.length - 1 - j]'(by omega) = .bk (row.length - i) <;> simp [c])
    rw [this, rng_eq, fm_rng]
    have ht : ((List.range i).filter fun j => (fL row.reverse i).getD j false && decide (row.reverse[j]? = some (.bk (row.length - i)))) = takers row.reverse (fL row.reverse i) (row.reverse.length - i) := by
      unfold takers
      rw [hlen, List.length_reverse]
    simp only [ht]
    have hl2 : i < 16000000 := by omega
    simp [hlen, hl2]
    show _ = Bl (fStep row.reverse (fL row.reverse i))
    unfold fStep
    rw [hlen]
    have q : decide (takers row.reverse (fL row.reverse i) (row.length - i) = []) = (takers row.reverse (fL row.reverse i) (row.reverse.length - i)).isEmpty := by
      rw [List.length_reverse]
      cases takers row.reverse (fL row.reverse i) (row.length - i) <;> simp
    rw [q]
    simp [Bl])
  subst e
  have rl : (rng 0 row.length).length = row.length := rng_len
  rw [rl]
  have hlen := fL_len row.reverse row.length
  simp [hz]
  generalize hL : lcR _ _ _ _ _ _ = L
  have := lc_ma hL [T.leaf (dR row), T.ls (Bl (fL row.reverse row.length)), .hole, .hole, .hole, .hole]
    (fun d => match d with | .int j => .bl ((forces row).getD j.toNat false) | d => d) (by simp) (by simp [rng_len]; omega) (by
    intro d hd
    obtain ⟨j, hj, rfl⟩ := rng_mem hd
    have g1 := fL_get row.reverse row.length (row.length - 1 - j) (by omega)
    have g2 : ((row.length : Int) - 1 - (j : Nat)) = ((row.length - 1 - j : Nat) : Int) := by omega
    have g3 : (forces row).getD j false = (fL row.reverse row.length).getD (row.length - 1 - j) false := by
      unfold forces
      rw [List.getD_eq_getElem?_getD, List.getElem?_reverse (by rw [hlen]; exact hj), hlen, List.getD_eq_getElem?_getD]
    rw [← g3] at g1
    rw [show (0 : Int) + (j : Nat) = (j : Nat) by omega]
    show _ = PR.ok (some (D.bl ((forces row).getD j false))) _
    generalize (forces row).getD j false = b at g1
    simp [g2, atI_nat, g1])
  rw [this, rng_eq, List.map_map]
  simp
  have hf := forces_len row
  apply List.ext_getElem
  · rw [List.length_map, List.length_range, List.length_map, hf]
  · intro j h1 h2
    have h3 : j < (forces row).length := by simpa using h2
    simp only [List.getElem_map, List.getElem_range, Function.comp]
    show D.bl ((forces row).getD j false) = _
    rw [List.getD_eq_getElem?_getD, List.getElem?_eq_getElem h3]
    rfl
end LAW

set_option Elab.async false
set_option linter.all false
set_option maxRecDepth 100000
set_option maxHeartbeats 4000000
/-! K01MathC: Deeds.forces, in_force, counts. -/
namespace LAW
open P
theorem val_rep {k j : DK} {v : D} : ∀ {kvs : List (DK × D)}, valK (repK kvs k v) j = if k = j ∧ (valK kvs k).isSome = true then some v else valK kvs j
  | [] => by simp [repK, valK]
  | (a, x) :: r => by
    have ih := val_rep (k := k) (j := j) (v := v) (kvs := r)
    unfold repK
    by_cases h1 : a = k
    · subst h1
      by_cases h2 : a = j
      · simp [valK, h2]
      · simp [valK, h2, ih]
    · by_cases h2 : a = j
      · subst h2
        have h3 : ¬ k = a := fun z => h1 z.symm
        simp [valK, h1, h3]
      · simp [valK, h1, h2, ih]
theorem val_app {kvs : List (DK × D)} {k j : DK} {v : D} : valK (kvs ++ [(k, v)]) j = if (valK kvs j).isSome = true then valK kvs j else if k = j then some v else none := by
  induction kvs with
  | nil => simp [valK]
  | cons p r ih =>
    obtain ⟨a, x⟩ := p
    by_cases h : a = j
    · simp [valK, h]
    · simp [valK, h, ih]
theorem val_put (kvs : List (DK × D)) (k : DK) (v : D) (j : DK) : valK (putK kvs k v) j = if k = j then some v else valK kvs j := by
  unfold putK
  by_cases h : (valK kvs k).isSome = true
  · rw [if_pos h, val_rep]
    by_cases e : k = j
    · rw [if_pos ⟨e, h⟩, if_pos e]
    · rw [if_neg (fun z => e z.1), if_neg e]
  · rw [if_neg h, val_app]
    have hn : valK kvs k = none := by cases q : valK kvs k with | none => rfl | some _ => rw [q] at h; simp at h
    by_cases e : k = j
    · subst e; rw [hn, if_pos rfl]; simp
    · rw [if_neg e, if_neg e]
      cases valK kvs j <;> rfl
theorem put_len (kvs : List (DK × D)) (k : DK) (v : D) : (putK kvs k v).length ≤ kvs.length + 1 := by
  unfold putK
  split
  · have : ∀ l : List (DK × D), (repK l k v).length = l.length := by
      intro l
      induction l with
      | nil => rfl
      | cons p r ih => obtain ⟨a, x⟩ := p; simp [repK, ih]
    rw [this]; omega
  · simp
/-- the deeds of the program -/
abbrev dDs (rs : List (List Dd)) : D := .ins 0 [("rows", dRs rs)]
theorem takers_mem {R : List Dd} {fs : List Bool} {p : Nat} : takers R fs p ≠ [] ↔ ∃ j : Nat, fs[j]? = some true ∧ R[j]? = some (Dd.bk p) := by
  unfold takers
  rw [← List.length_pos_iff, List.length_pos_iff_exists_mem]
  constructor
  · rintro ⟨j, hj⟩
    rw [List.mem_filter] at hj
    obtain ⟨h1, h2⟩ := hj
    rw [Bool.and_eq_true] at h2
    have hl : j < fs.length := by simpa using h1
    refine ⟨j, ?_, by simpa using h2.2⟩
    have := h2.1
    rw [List.getD_eq_getElem?_getD, List.getElem?_eq_getElem hl] at this
    rw [List.getElem?_eq_getElem hl]
    exact congrArg some this
  · rintro ⟨j, h1, h2⟩
    have hl : j < fs.length := (List.getElem?_eq_some_iff.mp h1).1
    refine ⟨j, List.mem_filter.mpr ⟨by simpa using hl, ?_⟩⟩
    rw [Bool.and_eq_true, List.getD_eq_getElem?_getD, h1]
    exact ⟨rfl, by simpa using h2⟩
theorem rngD_len {hi : Int} {n : Nat} : (rngD hi n).length = n := by simp [rngD]
theorem rngD_get {hi : Int} {n i : Nat} {d : D} (h : (rngD hi n)[i]? = some d) : i < n ∧ d = .int (hi - i) := by
  unfold rngD at h
  rw [List.getElem?_map] at h
  by_cases c : i < n
  · rw [List.getElem?_range c] at h
    cases h
    exact ⟨c, rfl⟩
  · rw [List.getElem?_eq_none (by simpa using c)] at h; cases h
theorem dD0 (d : Dd) : ∃ x r, dD d = .tup (x :: r) ∧ x = .str (match d with | .bk _ => sBack | _ => sChange) ∧ (∀ p, d = .bk p → r = [.int p]) := by
  cases d with
  | bk p => exact ⟨_, _, rfl, rfl, fun q e => by cases e; rfl⟩
  | ch m rm bh n x => exact ⟨_, _, rfl, rfl, fun q e => by cases e⟩
theorem dforces_ok {rs : List (List Dd)} {r : Nat} {row : List Dd} (hr : rs[r]? = some row) (hl : row.length ≤ 1000) : p_Deeds_forces [.leaf (dDs rs), .leaf (.int r)] = .ok (.ls (Bl (forces row))) [] := by
  have hz : row.length ≤ 1000000000 := by omega
  have g0 : atI (rs.map dR) (r : Int) = some (dR row) := by rw [atI_nat, List.getElem?_map, hr]; rfl
  unfold p_Deeds_forces
  have e3 : gR3 [.int (row.length : Nat), .int 0, .int (-1)] = some (rngD (row.length : Nat) row.length) := by
    show (if (row.length : Int).natAbs ≤ 1000000000 ∧ (0 : Int).natAbs ≤ 1000000000 ∧ (-1 : Int) = -1 then some (rngD (row.length : Int) ((row.length : Int) - 0).toNat) else none) = _
    rw [if_pos ⟨by omega, by decide, rfl⟩]
    simp
  have e3' : gR3 [.int (row.length : Nat), .int 0, .int (-(1 : Int))] = some (rngD (row.length : Nat) row.length) := e3
  simp [List.lookup, g0, e3']
  generalize hF : forL _ _ _ _ _ = F
  obtain ⟨⟨fs, kvs⟩, rfl, e, -, -⟩ := for_st hF (fun (s : List Bool × List (DK × D)) => [T.leaf (dDs rs), .leaf (.int r), .leaf (dR row), .dK s.2, T.ls (Bl s.1), .hole, .hole])
    (fun i s => s.1 = fL row.reverse i ∧ s.2.length ≤ i ∧ ∀ p : Nat, (valK s.2 (.inl (p : Int))).isSome = true ↔ ∃ j : Nat, s.1[j]? = some true ∧ row.reverse[j]? = some (Dd.bk p)) ([], []) (by simp) ⟨rfl, by simp, by simp [valK]⟩ (by
    rintro i d ⟨fs, kvs⟩ hd ⟨h1, h2, h3⟩
    simp only at h1 h2 h3
    subst h1
    obtain ⟨hi, rfl⟩ := rngD_get hd
    have hlen := fL_len row.reverse i
    have hkl : kvs.length < 16000000 := by omega
    have hfl : (fL row.reverse i).length < 16000000 := by omega
    have np : ((row.length : Int) - (i : Nat)) = ((row.length - i : Nat) : Int) := by omega
    have np1 : ((row.length : Int) - (i : Nat) - 1) = ((row.length - 1 - i : Nat) : Int) := by omega
    have hidx : row.length - 1 - i < row.length := by omega
    have g1 : atI (row.map dD) ((row.length : Int) - (i : Nat) - 1) = some (dD row[row.length - 1 - i]) := by
      rw [np1, atI_nat, List.getElem?_map, List.getElem?_eq_getElem hidx]; rfl
    have g5 : row.reverse[i]? = some row[row.length - 1 - i] := by rw [rev_get hi, List.getElem?_eq_getElem hidx]
    obtain ⟨x, rr, ed, ex, er⟩ := dD0 row[row.length - 1 - i]
    have fs1 : fL row.reverse (i + 1) = fL row.reverse i ++ [!(valK kvs (.inl ((row.length - i : Nat) : Int))).isSome] := by
      show fStep row.reverse (fL row.reverse i) = _
      unfold fStep
      rw [hlen, List.length_reverse]
      congr 2
      have hm := h3 (row.length - i)
      rw [← takers_mem] at hm
      cases hv : (valK kvs (.inl ((row.length - i : Nat) : Int))).isSome with
      | true => rw [hv] at hm; simpa using hm.mp rfl
      | false =>
        rw [hv] at hm
        have : takers row.reverse (fL row.reverse i) (row.length - i) = [] := by
          by_cases z : takers row.reverse (fL row.reverse i) (row.length - i) = []
          · exact z
          · exact absurd (hm.mpr z) (by simp)
        rw [this]; rfl
    have key : ∀ (b : Bool), (fL row.reverse i ++ [b]).length = i + 1 := by intro b; simp [hlen]
    have snoc : ∀ (b : Bool) (p : Nat), (∃ j : Nat, (fL row.reverse i ++ [b])[j]? = some true ∧ row.reverse[j]? = some (Dd.bk p)) ↔ (∃ j : Nat, (fL row.reverse i)[j]? = some true ∧ row.reverse[j]? = some (Dd.bk p)) ∨ (b = true ∧ row[row.length - 1 - i] = .bk p) := by
      intro b p
      constructor
      · rintro ⟨j, a1, a2⟩
        have hj : j < i + 1 := by
          have := (List.getElem?_eq_some_iff.mp a1).1
          rwa [key b] at this
        by_cases c : j < i
        · left
          rw [List.getElem?_append_left (by rw [hlen]; exact c)] at a1
          exact ⟨j, a1, a2⟩
        · have : j = i := by omega
          subst this
          right
          rw [List.getElem?_append_right (by rw [hlen]; exact Nat.le_refl _), hlen, Nat.sub_self] at a1
          rw [g5] at a2
          exact ⟨by simpa using a1, Option.some.inj a2⟩
      · rintro (⟨j, a1, a2⟩ | ⟨a1, a2⟩)
        · exact ⟨j, by rw [List.getElem?_append_left (List.getElem?_eq_some_iff.mp a1).1]; exact a1, a2⟩
        · subst a1
          exact ⟨i, by rw [List.getElem?_append_right (by rw [hlen]; exact Nat.le_refl _), hlen, Nat.sub_self]; rfl, by rw [g5, a2]⟩
    cases hv : (valK kvs (.inl ((row.length - i : Nat) : Int))).isSome with
    | true =>
      rw [hv] at fs1
      refine ⟨(fL row.reverse (i + 1), kvs), ?_, rfl, by show kvs.length ≤ i + 1; omega, fun p => ?_⟩
      · rw [fs1]
        simp [np, hv, hfl]
      · show _ ↔ ∃ j : Nat, (fL row.reverse (i + 1))[j]? = some true ∧ _
        rw [h3 p, fs1, snoc]
        simp
    | false =>
      rw [hv] at fs1
      cases hb : row[row.length - 1 - i] with
      | bk q =>
        rw [hb] at ed ex
        have er := er q hb
        subst ex er
        refine ⟨(fL row.reverse (i + 1), putK kvs (.inl q) (.bl true)), ?_, rfl, by have := put_len kvs (.inl (q : Int)) (.bl true); simp only; omega, fun p => ?_⟩
        · rw [fs1]
          rw [hb, ed] at g1
          rw [np] at g1
          simp [np, hv, hfl, hkl, g1]
        · show (valK (putK kvs (.inl (q : Int)) (.bl true)) (.inl (p : Int))).isSome = true ↔ ∃ j : Nat, (fL row.reverse (i + 1))[j]? = some true ∧ _
          rw [val_put, fs1, snoc, ← h3 p, hb]
          by_cases c : q = p
          · subst c; simp
          · have c1 : ¬ ((Sum.inl (q : Int) : DK) = .inl (p : Int)) := fun z => c (by injection z with z; omega)
            have c2 : ¬ Dd.bk q = Dd.bk p := fun z => c (by injection z)
            rw [if_neg c1]
            simp [c2]
      | ch m rm bh n xx =>
        rw [hb] at ed ex
        subst ex
        refine ⟨(fL row.reverse (i + 1), kvs), ?_, rfl, by show kvs.length ≤ i + 1; omega, fun p => ?_⟩
        · rw [fs1]
          rw [hb, ed] at g1
          rw [np] at g1
          simp [np, hv, hfl, g1]
        · show _ ↔ ∃ j : Nat, (fL row.reverse (i + 1))[j]? = some true ∧ _
          rw [h3 p, fs1, snoc, hb]
          simp)
  simp only at e
  subst e
  rw [rngD_len]
  simp [pRev, gRev, forces, Bl]
end LAW

set_option Elab.async false
set_option linter.all false
set_option maxRecDepth 100000
set_option maxHeartbeats 4000000
/-! K01MathD: inserted, changes. -/
namespace LAW
open P
section
variable {α : Type} {a b c d e f : α}
theorem a6_0 : atI [a, b, c, d, e, f] 0 = some a := rfl
theorem a6_1 : atI [a, b, c, d, e, f] 1 = some b := rfl
theorem a6_2 : atI [a, b, c, d, e, f] 2 = some c := rfl
theorem a6_3 : atI [a, b, c, d, e, f] 3 = some d := rfl
theorem a6_4 : atI [a, b, c, d, e, f] 4 = some e := rfl
theorem a6_5 : atI [a, b, c, d, e, f] 5 = some f := rfl
theorem a3_0 : atI [a, b, c] 0 = some a := rfl
theorem a2_0 : atI [a, b] 0 = some a := rfl
theorem a2_1 : atI [a, b] 1 = some b := rfl
end
/-- a character that is inserted: its mark, the one before it, itself -/
abbrev In3 := Mrk × Option Mrk × Nat
def ins (r : Nat) : Option Mrk → Nat → List Nat → List In3
  | _, _, [] => []
  | b, n, c :: x => ((n, r), b, c) :: ins r (some (n, r)) (n + 1) x
def dI (i : In3) : D := .tup [dM i.1, dO i.2.1, .str [i.2.2]]
theorem ins_len (r : Nat) : ∀ (b : Option Mrk) (n : Nat) (x : List Nat), (ins r b n x).length = x.length
  | _, _, [] => rfl
  | b, n, c :: x => by unfold ins; rw [List.length_cons, List.length_cons, ins_len r]
theorem ins_get (r : Nat) : ∀ (b : Option Mrk) (n : Nat) (x : List Nat) (k : Nat) (h : k < x.length), (ins r b n x)[k]? = some ((n + k, r), (if k = 0 then b else some (n + k - 1, r)), x[k])
  | b, n, c :: x, 0, _ => by simp [ins]
  | b, n, c :: x, k + 1, h => by
    have := ins_get r (some (n, r)) (n + 1) x k (by simpa using h)
    unfold ins
    rw [List.getElem?_cons_succ, this]
    simp only [List.getElem_cons_succ, Nat.add_eq_zero_iff]
    by_cases c : k = 0
    · subst c; simp
    · simp only [if_neg c, Option.some.injEq, Prod.mk.injEq]
      refine ⟨⟨by omega, trivial⟩, ?_, trivial⟩
      rw [if_neg (by omega)]
      congr 2; omega
theorem dD_ch (m : List Nat) (rm : List Mrk) (bh : Option Mrk) (n : Nat) (x : List Nat) : dD (.ch m rm bh n x) = .tup [.str sChange, .str m, .tup (rm.map dM), dO bh, .int n, .str x] := rfl
theorem linserted_ok (r : Nat) {m : List Nat} {rm : List Mrk} {bh : Option Mrk} {n : Nat} {x : List Nat} (hx : x.length ≤ 1000) : p_law_inserted [.leaf (.int r), .leaf (dD (.ch m rm bh n x))] = .ok (.ls ((ins r bh n x).map dI)) [] := by
  have h1 : x.length ≤ 1000000000 := by omega
  have h2 : x.length ≤ 16000000 := by omega
  unfold p_law_inserted
  rw [dD_ch]
  generalize hrm : D.tup (rm.map dM) = RM
  simp [a6_3, a6_5, h1, h2]
  generalize hF : forL _ _ _ _ _ = F
  obtain ⟨k, rfl, e⟩ := for_st hF (fun (k : Nat) => [.leaf (.int r), .leaf (.tup [.str sChange, .str m, RM, dO bh, .int n, .str x]), .ls (((ins r bh n x).take k).map dI), .leaf (dO (if k = 0 then bh else some (n + k - 1, r))), .hole]) (fun i k => k = i) 0 (by simp) rfl (by
    rintro i d k hd rfl
    obtain ⟨hi, rfl⟩ := rng_get hd
    have g := ins_get r bh n x k hi
    have hl := ins_len r bh n x
    have hz : ((ins r bh n x).take k).length < 16000000 := by rw [List.length_take]; omega
    refine ⟨k + 1, ?_, rfl⟩
    have e1 : (ins r bh n x).take (k + 1) = (ins r bh n x).take k ++ [((n + k, r), (if k = 0 then bh else some (n + k - 1, r)), x[k])] := by
      rw [List.take_add_one, g]; rfl
    rw [e1, List.map_append]
    generalize (ins r bh n x).take k = acc at hz
    have e2 : atI x ((0 : Int) + (k : Nat)) = some x[k] := by rw [show (0 : Int) + (k : Nat) = ((k : Nat) : Int) by omega, atI_nat, List.getElem?_eq_getElem hi]
    have e2' : atI x (k : Int) = some x[k] := by rw [atI_nat, List.getElem?_eq_getElem hi]
    have e3 : ((n : Int) + (k : Nat)) = ((n + k : Nat) : Int) := by omega
    simp [a6_3, a6_4, a6_5, e2', h2, hz, dI, dM, dO])
  subst e
  rw [rng_len]
  have : (ins r bh n x).take x.length = ins r bh n x := List.take_of_length_le (by rw [ins_len]; exact Nat.le_refl _)
  rw [this]
  simp
end LAW

set_option Elab.async false
set_option linter.all false
set_option maxRecDepth 100000
set_option maxHeartbeats 4000000
/-! K01MathE: the changes of a module. -/
namespace LAW
open P
def isCh (m : List Nat) : Dd → Bool
  | .ch m' _ _ _ _ => decide (m' = m)
  | _ => false
/-- a change with its replica, and whether it is in force -/
abbrev C3 := Nat × Dd × Bool
def chR (r : Nat) (m : List Nat) (l : List (Dd × Bool)) : List C3 := (l.filter fun p => isCh m p.1).map fun p => (r, p.1, p.2)
def chs (rs : List (List Dd)) (m : List Nat) : List C3 := (List.range 8).flatMap fun r => chR r m ((rs.getD r []).zip (forces (rs.getD r [])))
def dC (c : C3) : D := .tup [.int c.1, dD c.2.1, .bl c.2.2]
/-- rows of eight replicas, of deeds in order, not too many -/
structure Rws (rs : List (List Dd)) : Prop where
  len : rs.length = 8
  ok : ∀ row ∈ rs, ∀ d ∈ row, OkD d
  few : ∀ row ∈ rs, row.length ≤ 100
  x : ∀ row ∈ rs, ∀ d ∈ row, ∀ m rm bh n x, d = .ch m rm bh n x → x.length ≤ 100 ∧ rm.length ≤ 1000 ∧ m.length ≤ 100
theorem Rws.at {rs : List (List Dd)} (w : Rws rs) {r : Nat} (h : r < 8) : ∃ row, rs[r]? = some row ∧ row ∈ rs ∧ rs.getD r [] = row := by
  have hl : r < rs.length := by rw [w.len]; exact h
  exact ⟨rs[r], List.getElem?_eq_getElem hl, List.getElem_mem hl, by rw [List.getD_eq_getElem?_getD, List.getElem?_eq_getElem hl]; rfl⟩
theorem chR_app (r : Nat) (m : List Nat) (a b : List (Dd × Bool)) : chR r m (a ++ b) = chR r m a ++ chR r m b := by simp [chR]
theorem chR_len (r : Nat) (m : List Nat) (a : List (Dd × Bool)) : (chR r m a).length ≤ a.length := by simp [chR]; exact List.length_filter_le _ _
theorem dRs_at {rs : List (List Dd)} {r : Nat} {row : List Dd} (h : rs[r]? = some row) : atI (rs.map dR) (r : Int) = some (dR row) := by
  rw [atI_nat, List.getElem?_map, h]; rfl
theorem dR_at {row : List Dd} {k : Nat} (h : k < row.length) : atI (row.map dD) (k : Int) = some (dD row[k]) := by
  rw [atI_nat, List.getElem?_map, List.getElem?_eq_getElem h]; rfl
theorem Bl_at {l : List Bool} {k : Nat} (h : k < l.length) : atI (Bl l) (k : Int) = some (.bl l[k]) := by
  rw [atI_nat, List.getElem?_map, List.getElem?_eq_getElem h]; rfl
theorem lchanges_ok {rs : List (List Dd)} (w : Rws rs) (m : List Nat) : p_law_changes [.leaf (dRs rs), .leaf (.str m)] = .ok (.ls ((chs rs m).map dC)) [] := by
  unfold p_law_changes
  simp
  generalize hF : forL _ _ _ _ _ = F
  obtain ⟨i, rfl, e⟩ := for_st hF (fun (i : Nat) => [.leaf (dRs rs), .leaf (.str m), .ls (((List.range i).flatMap fun r => chR r m ((rs.getD r []).zip (forces (rs.getD r [])))).map dC), .hole, .hole, .hole]) (fun j i => i = j) 0 (by simp) rfl (by
    rintro j d i hd rfl
    obtain ⟨hi, rfl⟩ := rng_get hd
    obtain ⟨row, h1, h2, h3⟩ := w.at (r := i) (by simpa using hi)
    have hlen := w.few row h2
    have g0 := dRs_at h1
    have hfo := lforces_ok (fun d m => w.ok row h2 d m) (by omega)
    have hz : row.length ≤ 1000000000 := by omega
    refine ⟨i + 1, ?_, rfl⟩
    have e1 : ∀ k, k ≤ i → ((List.range k).flatMap fun r => chR r m ((rs.getD r []).zip (forces (rs.getD r [])))).length ≤ 100 * k := by
      intro k hk
      induction k with
      | zero => simp
      | succ k ih =>
        rw [List.range_succ, List.flatMap_append, List.length_append]
        have := ih (by omega)
        obtain ⟨row', a1, a2, a3⟩ := w.at (r := k) (by have : i < 8 := by simpa using hi
                                                       omega)
        have l1 := chR_len k m (row'.zip (forces row'))
        have l2 := w.few row' a2
        simp only [List.flatMap_cons, List.flatMap_nil, List.append_nil, a3]
        rw [List.length_zip, forces_len, Nat.min_self] at l1
        omega
    have e2 := e1 i (Nat.le_refl i)
    rw [List.range_succ, List.flatMap_append]
    simp only [List.flatMap_cons, List.flatMap_nil, List.append_nil, h3]
    generalize ((List.range i).flatMap fun r => chR r m ((rs.getD r []).zip (forces (rs.getD r [])))) = acc at e2
    have hi8 : i < 8 := by simpa using hi
    simp [g0, hfo, hz]
    generalize hG : forL _ _ _ _ _ = G
    obtain ⟨k, rfl, e⟩ := for_st hG (fun (k : Nat) => [.leaf (dRs rs), .leaf (.str m), .ls ((acc ++ chR i m ((row.zip (forces row)).take k)).map dC), .leaf (.int i), .leaf (.lst (Bl (forces row))), .hole]) (fun j k => k = j) 0 (by simp [chR]) rfl (by
      rintro j d k hd rfl
      obtain ⟨hk, rfl⟩ := rng_get hd
      have gd := dR_at hk
      have hkf : k < (forces row).length := by rw [forces_len]; exact hk
      have gb := Bl_at hkf
      have gz : (row.zip (forces row))[k]? = some (row[k], (forces row)[k]) := by
        rw [List.getElem?_zip_eq_some]
        exact ⟨List.getElem?_eq_getElem hk, List.getElem?_eq_getElem hkf⟩
      refine ⟨k + 1, ?_, rfl⟩
      rw [List.take_add_one, gz, chR_app]
      have hl2 : (acc ++ chR i m ((row.zip (forces row)).take k)).length < 16000000 := by
        have := chR_len i m ((row.zip (forces row)).take k)
        rw [List.length_take, List.length_zip, forces_len, Nat.min_self] at this
        rw [List.length_append]; omega
      rw [← List.append_assoc]
      generalize acc ++ chR i m ((row.zip (forces row)).take k) = A at hl2
      cases hd : row[k] with
      | bk p =>
        rw [hd] at gd
        simp [g0, gd, dD, a2_0, a2_1, chR, isCh]
      | ch m' rm bh n x =>
        rw [hd] at gd
        rw [dD_ch] at gd
        by_cases c : m' = m
        · subst c
          simp [g0, gd, gb, a6_0, a6_1, hl2, chR, isCh, dC, dD_ch]
        · simp [g0, gd, a6_0, a6_1, c, chR, isCh])
    subst e
    rw [rng_len]
    have : (row.zip (forces row)).take row.length = row.zip (forces row) := List.take_of_length_le (by rw [List.length_zip]; omega)
    rw [this]
    simp)
  subst e
  rw [rng_len]
  simp [chs]
end LAW

set_option Elab.async false
set_option linter.all false
set_option maxRecDepth 100000
set_option maxHeartbeats 4000000
/-! K01MathF: the law's row. -/
namespace LAW
open P
/-- what is found: a mark, the one before it, the character, in force -/
abbrev Fd := Mrk × Option Mrk × Nat × Bool
/-- a character of a row: its mark, itself, seen -/
abbrev Rw := Mrk × Nat × Bool
def fdsOf (c : C3) : List Fd := match c.2.1 with
  | .ch _ _ bh n x => (ins c.1 bh n x).map fun i => (i.1, i.2.1, i.2.2, c.2.2)
  | _ => []
def rmsOf (c : C3) : List Mrk := match c.2.1 with
  | .ch _ rm _ _ _ => if c.2.2 = true then rm else []
  | _ => []
def fds (rs : List (List Dd)) (m : List Nat) : List Fd := (chs rs m).flatMap fdsOf
def rms (rs : List (List Dd)) (m : List Nat) : List Mrk := (chs rs m).flatMap rmsOf
def dF (f : Fd) : D := .tup [dM f.1, dO f.2.1, .str [f.2.2.1], .bl f.2.2.2]
def dW (w : Rw) : D := .tup [dM w.1, .str [w.2.1], .bl w.2.2]
def leM (a b : Mrk) : Bool := decide (a.1 < b.1 ∨ (a.1 = b.1 ∧ a.2 ≤ b.2))
def leF (f g : Fd) : Bool := leM f.1 g.1
def rStep (rm : List Mrk) (acc : List Rw) (f : Fd) : Option (List Rw) := match f.2.1 with
  | none => some ((f.1, f.2.2.1, f.2.2.2 && !decide (f.1 ∈ rm)) :: acc)
  | some b => (acc.findIdx? fun z => decide (z.1 = b)).map fun i => acc.take (i + 1) ++ (f.1, f.2.2.1, f.2.2.2 && !decide (f.1 ∈ rm)) :: acc.drop (i + 1)
def rowO (rm : List Mrk) (l : List Fd) : Option (List Rw) := l.foldl (fun o f => o.bind fun a => rStep rm a f) (some [])
theorem fold_none (rm : List Mrk) : ∀ l : List Fd, l.foldl (fun o f => o.bind fun a => rStep rm a f) none = none
  | [] => rfl
  | _ :: l => fold_none rm l
theorem rowO_pre {rm : List Mrk} {a b : List Fd} {acc : List Rw} (h : rowO rm (a ++ b) = some acc) : ∃ x, rowO rm a = some x := by
  unfold rowO at h ⊢
  rw [List.foldl_append] at h
  cases e : a.foldl (fun o f => o.bind fun a => rStep rm a f) (some []) with
  | some x => exact ⟨x, rfl⟩
  | none => rw [e, fold_none] at h; cases h
theorem rowO_snoc {rm : List Mrk} {a : List Fd} {f : Fd} {x y : List Rw} (h : rowO rm a = some x) (g : rowO rm (a ++ [f]) = some y) : rStep rm x f = some y := by
  unfold rowO at h g
  rw [List.foldl_append, h] at g
  exact g
theorem rStep_len {rm : List Mrk} {x y : List Rw} {f : Fd} (h : rStep rm x f = some y) : y.length = x.length + 1 := by
  unfold rStep at h
  split at h
  · cases h; rfl
  · cases e : x.findIdx? _ with
    | none => rw [e] at h; cases h
    | some i =>
      rw [e] at h; cases h
      simp; omega
theorem kx_dF (f : Fd) : kxD (dF f) = f.1.1 ∧ kyD (dF f) = f.1.2 ∧ keyedD (dF f) = true := ⟨rfl, rfl, rfl⟩
theorem sort_dF (l : List Fd) : (l.map dF).mergeSort leD = (l.mergeSort leF).map dF := by
  rw [List.map_mergeSort]
  intro a _ b _
  unfold leF leM leD
  rw [(kx_dF a).1, (kx_dF a).2.1, (kx_dF b).1, (kx_dF b).2.1, decide_eq_decide]
  omega
theorem keyed_all (l : List Fd) : (l.map dF).all keyedD = true := by
  rw [List.all_map, List.all_eq_true]
  intro f _
  exact (kx_dF f).2.2
theorem in_marks (mk : Mrk) (rm : List Mrk) : cIn0 (dM mk) (rm.map dM) = some (decide (mk ∈ rm)) := by
  have o1 : D.ok 50 (dM mk) = true := okM mk
  have o2 : D.oks 49 (rm.map dM) = true := okMs rm
  unfold cIn0
  rw [if_pos (by rw [o1, o2]; simp)]
  have : ((rm.map dM).any fun y => D.eq y (dM mk)) = decide (mk ∈ rm) := by
    rw [List.any_map, Bool.eq_iff_iff, List.any_eq_true]
    simp [eqM]
  rw [this]
theorem cIs_dM (b : Mrk) : cIs (dM b) .non = some false := rfl
theorem v_indexD {a b : PE} {e : Env} : pIndexD a b e = (a e).bind fun x e1 => match x with
  | .lst ds => (b e1).bind fun y e2 => oE (gIndexD (.lst ds) y) e2
  | _ => .bad := rfl
theorem index_marks (b : Mrk) (acc : List Rw) : gIndexD (.lst (acc.map fun w => dM w.1)) (dM b) = (acc.findIdx? fun z => decide (z.1 = b)).map fun (i : Nat) => D.int i := by
  have o1 : D.ok 50 (dM b) = true := okM b
  have o2 : D.ok 50 (.lst (acc.map fun w => dM w.1)) = true := by
    rw [ok_lst]
    have := okMs (n := 48) (acc.map (·.1))
    rwa [List.map_map] at this
  show (if _ then _ else _) = _
  rw [if_pos ⟨o2, o1⟩, List.findIdx?_map]
  congr 2
  funext z
  exact eqM z.1 b
end LAW

set_option Elab.async false
set_option linter.all false
set_option maxRecDepth 100000
set_option maxHeartbeats 4000000
/-! K01MathG: the law's row, whole. -/
namespace LAW
open P
theorem chs_is {rs : List (List Dd)} {m : List Nat} {c : C3} (h : c ∈ chs rs m) : c.1 < 8 ∧ ∃ row, rs.getD c.1 [] = row ∧ c.2.1 ∈ row ∧ ∃ rm bh n x, c.2.1 = .ch m rm bh n x := by
  unfold chs at h
  obtain ⟨r, hr, h⟩ := List.mem_flatMap.mp h
  unfold chR at h
  obtain ⟨p, hp, rfl⟩ := List.mem_map.mp h
  obtain ⟨hp1, hp2⟩ := List.mem_filter.mp hp
  refine ⟨by simpa using hr, _, rfl, (List.of_mem_zip hp1).1, ?_⟩
  show ∃ rm bh n x, p.1 = _
  cases q : p.1 with
  | bk p => rw [q] at hp2; cases hp2
  | ch m' rm bh n x =>
    rw [q] at hp2
    have : m' = m := by simpa [isCh] using hp2
    subst this
    exact ⟨rm, bh, n, x, rfl⟩
theorem getD_mem {rs : List (List Dd)} {r : Nat} {d : Dd} (h : d ∈ rs.getD r []) : rs.getD r [] ∈ rs := by
  rw [List.getD_eq_getElem?_getD] at h ⊢
  cases e : rs[r]? with
  | none => rw [e] at h; cases h
  | some row => exact List.mem_of_getElem? e
theorem chs_bd {rs : List (List Dd)} (w : Rws rs) {m : List Nat} {c : C3} (h : c ∈ chs rs m) : ∃ rm bh n x, c.2.1 = .ch m rm bh n x ∧ x.length ≤ 100 ∧ rm.length ≤ 1000 := by
  obtain ⟨_, row, h1, h2, rm, bh, n, x, h3⟩ := chs_is h
  subst h1
  have := w.x _ (getD_mem h2) _ h2 m rm bh n x h3
  exact ⟨rm, bh, n, x, h3, this.1, this.2.1⟩
theorem chs_len {rs : List (List Dd)} (w : Rws rs) (m : List Nat) : (chs rs m).length ≤ 800 := by
  unfold chs
  have e1 : ∀ k, k ≤ 8 → ((List.range k).flatMap fun r => chR r m ((rs.getD r []).zip (forces (rs.getD r [])))).length ≤ 100 * k := by
    intro k hk
    induction k with
    | zero => simp
    | succ k ih =>
      rw [List.range_succ, List.flatMap_append, List.length_append]
      have := ih (by omega)
      obtain ⟨row', a1, a2, a3⟩ := w.at (r := k) (by omega)
      have l1 := chR_len k m (row'.zip (forces row'))
      have l2 := w.few row' a2
      simp only [List.flatMap_cons, List.flatMap_nil, List.append_nil, a3]
      rw [List.length_zip, forces_len, Nat.min_self] at l1
      omega
  exact e1 8 (by omega)
theorem flat_len {α β : Type} (f : α → List β) (B : Nat) : ∀ l : List α, (∀ a ∈ l, (f a).length ≤ B) → (l.flatMap f).length ≤ B * l.length
  | [], _ => by simp
  | a :: l, h => by
    have h1 := h a List.mem_cons_self
    have h2 := flat_len f B l fun b m => h b (List.mem_cons_of_mem _ m)
    rw [List.flatMap_cons, List.length_append, List.length_cons, Nat.mul_add]
    omega
theorem fdsOf_len {rs : List (List Dd)} (w : Rws rs) {m : List Nat} {c : C3} (h : c ∈ chs rs m) : (fdsOf c).length ≤ 100 ∧ (rmsOf c).length ≤ 1000 := by
  obtain ⟨rm, bh, n, x, e, h1, h2⟩ := chs_bd w h
  unfold fdsOf rmsOf
  rw [e]
  simp only
  constructor
  · rw [List.length_map, ins_len]; exact h1
  · split
    · exact h2
    · simp
theorem lrow_ok {rs : List (List Dd)} (w : Rws rs) {m : List Nat} {acc : List Rw} (hs : rowO (rms rs m) ((fds rs m).mergeSort leF) = some acc) : p_law_row [.leaf (dRs rs), .leaf (.str m)] = .ok (.ls (acc.map dW)) [] := by
  unfold p_law_row
  simp [lchanges_ok w m]
  have cl := chs_len w m
  generalize hF : forL [4, 5, 6, 7, 8, 9] _ _ _ _ = F
  obtain ⟨k, rfl, e⟩ := for_st hF (fun (k : Nat) => [.leaf (dRs rs), .leaf (.str m), .leaf (.lst ((((chs rs m).take k).flatMap rmsOf).map dM)), .ls ((((chs rs m).take k).flatMap fdsOf).map dF), .hole, .hole, .hole, .hole, .hole, .hole, .hole, .hole, .hole]) (fun j k => k = j) 0 (by simp) rfl (by
    rintro j d k hd rfl
    rw [List.getElem?_map] at hd
    cases hc : (chs rs m)[k]? with
    | none => rw [hc] at hd; cases hd
    | some c =>
      rw [hc] at hd
      cases hd
      have hmem : c ∈ chs rs m := List.mem_of_getElem? hc
      have hkl : k < (chs rs m).length := (List.getElem?_eq_some_iff.mp hc).1
      obtain ⟨rm, bh, n, x, e, h1, h2⟩ := chs_bd w hmem
      have L1 : (((chs rs m).take k).flatMap rmsOf).length ≤ 1000 * k := by
        have := flat_len rmsOf 1000 ((chs rs m).take k) fun a ha => (fdsOf_len w (List.mem_of_mem_take ha)).2
        rw [List.length_take] at this
        omega
      have L2 : (((chs rs m).take k).flatMap fdsOf).length ≤ 100 * k := by
        have := flat_len fdsOf 100 ((chs rs m).take k) fun a ha => (fdsOf_len w (List.mem_of_mem_take ha)).1
        rw [List.length_take] at this
        omega
      refine ⟨k + 1, ?_, rfl⟩
      rw [List.take_add_one, hc, List.flatMap_append, List.flatMap_append]
      simp only [Option.toList, List.flatMap_cons, List.flatMap_nil, List.append_nil]
      obtain ⟨r, d, f⟩ := c
      simp only at e
      subst e
      have e1 : fdsOf (r, .ch m rm bh n x, f) = (ins r bh n x).map fun i => (i.1, i.2.1, i.2.2, f) := rfl
      have e2 : rmsOf (r, .ch m rm bh n x, f) = if f = true then rm else [] := rfl
      rw [e1, e2]
      generalize ((chs rs m).take k).flatMap rmsOf = A at L1
      generalize ((chs rs m).take k).flatMap fdsOf = B at L2
      have hin := linserted_ok r (m := m) (rm := rm) (bh := bh) (n := n) (x := x) (by omega)
      have hil := ins_len r bh n x
      simp [dC, hin]
      generalize hG : forL _ _ _ _ _ = G
      obtain ⟨q, rfl, e⟩ := for_st hG (fun (q : Nat) => [.leaf (dRs rs), .leaf (.str m), .leaf (.lst (A.map dM)), .ls ((B ++ (((ins r bh n x).take q).map fun i => (i.1, i.2.1, i.2.2, f))).map dF), .leaf (.int r), .leaf (dD (.ch m rm bh n x)), .leaf (.bl f), .hole, .hole, .hole, .hole, .hole, .hole]) (fun j q => q = j) 0 (by simp) rfl (by
        rintro j d q hd rfl
        rw [List.getElem?_map] at hd
        cases hi : (ins r bh n x)[q]? with
        | none => rw [hi] at hd; cases hd
        | some i =>
          rw [hi] at hd
          cases hd
          have hq : q < (ins r bh n x).length := (List.getElem?_eq_some_iff.mp hi).1
          have hz : (B ++ (((ins r bh n x).take q).map fun i => (i.1, i.2.1, i.2.2, f))).length < 16000000 := by
            rw [List.length_append, List.length_map, List.length_take]; omega
          refine ⟨q + 1, ?_, rfl⟩
          rw [List.take_add_one, hi]
          simp only [Option.toList, List.map_append, List.map_cons, List.map_nil]
          rw [← List.append_assoc, ← List.map_append]
          generalize B ++ (((ins r bh n x).take q).map fun i => (i.1, i.2.1, i.2.2, f)) = C at hz
          simp [dI, hz, dF])
      subst e
      rw [List.length_map]
      have : (ins r bh n x).take (ins r bh n x).length = ins r bh n x := List.take_length
      rw [this]
      have hA : A.length + rm.length ≤ 16000000 := by omega
      cases f with
      | true => simp [dD_ch, a6_2, hA]
      | false => simp)
  subst e
  rw [List.length_map]
  have t0 : (chs rs m).take (chs rs m).length = chs rs m := List.take_length
  rw [t0]
  show _ = _
  have L2 : (fds rs m).length ≤ 80000 := by
    have := flat_len fdsOf 100 (chs rs m) fun a ha => (fdsOf_len w ha).1
    unfold fds
    omega
  change ((fun x => x) _ = _)
  rw [show (chs rs m).flatMap rmsOf = rms rs m from rfl, show (chs rs m).flatMap fdsOf = fds rs m from rfl]
  generalize rms rs m = RM at hs
  have hsl : ((fds rs m).mergeSort leF).length ≤ 80000 := by rw [List.length_mergeSort]; exact L2
  have hsk := p_sortK (keyed_all (fds rs m)) (by rw [List.length_map]; omega)
  rw [sort_dF] at hsk
  generalize (fds rs m).mergeSort leF = L at hs hsk hsl
  simp [hsk]
  generalize hF : forL _ _ _ _ _ = F
  obtain ⟨x, rfl, e⟩ := for_st hF (fun (x : List Rw) => [.leaf (dRs rs), .leaf (.str m), .leaf (.lst (RM.map dM)), .ls ((fds rs m).map dF), .hole, .hole, .hole, .hole, .hole, .hole, .ls (x.map dW), .hole, .hole]) (fun j x => rowO RM (L.take j) = some x ∧ x.length = j) [] (by simp) ⟨rfl, rfl⟩ (by
    rintro j d x hd ⟨hx, hxl⟩
    rw [List.getElem?_map] at hd
    cases hi : L[j]? with
    | none => rw [hi] at hd; cases hd
    | some f =>
      rw [hi] at hd
      cases hd
      have hj : j < L.length := (List.getElem?_eq_some_iff.mp hi).1
      have e1 : L.take (j + 1) = L.take j ++ [f] := by rw [List.take_add_one, hi]; rfl
      obtain ⟨y, hy⟩ : ∃ y, rowO RM (L.take (j + 1)) = some y := rowO_pre (b := L.drop (j + 1)) (by rw [List.take_append_drop]; exact hs)
      have hst := rowO_snoc hx (by rw [← e1]; exact hy)
      have hyl := rStep_len hst
      refine ⟨y, ?_, hy, by omega⟩
      obtain ⟨mk, bh, c, fo⟩ := f
      have hz : x.length < 16000000 := by omega
      have hn := in_marks mk RM
      unfold rStep at hst
      simp only at hst
      cases bh with
      | none =>
        simp only at hst
        cases hst
        cases fo <;> simp [dF, dO, cIs, hn, uIns, hz, dW]
      | some b =>
        simp only at hst
        have hix := index_marks b x
        cases hfi : x.findIdx? (fun z => decide (z.1 = b)) with
        | none => rw [hfi] at hst; cases hst
        | some i =>
          rw [hfi] at hst hix
          cases hst
          have ilt : i < x.length := (List.findIdx?_eq_some_iff_getElem.mp hfi).1
          have hi1 : i + 1 < 1000000000000000000 := by omega
          have ei : ((i : Int) + 1).toNat = i + 1 := by omega
          have c1 : (0 : Int) ≤ (i : Int) + 1 := by omega
          have c2 : (i : Int) + 1 < 1000000000000000000 := by omega
          simp [dF, dO, cIs_dM, v_indexD]
          generalize hL : lcR _ _ _ _ _ _ = L'
          have hl := lc_ma hL [.leaf (dRs rs), .leaf (.str m), .leaf (.lst (RM.map dM)), .ls ((fds rs m).map dF), .hole, .hole, .leaf (.bl fo), .leaf (dM mk), .leaf (dM b), .leaf (.str [c]), .ls (x.map dW), .leaf (.int 0), .hole]
            (fun d => match d with | .tup (y :: _) => y | d => d) (by simp) (by simp; omega) (by
            intro d hd
            obtain ⟨w, hw, rfl⟩ := List.mem_map.mp hd
            simp [dW, a3_0])
          rw [hl, List.map_map]
          have hcomp : ((fun d => match d with | D.tup (y :: _) => y | d => d) ∘ dW) = fun w : Rw => dM w.1 := rfl
          rw [hcomp]
          simp [hix, hn]
          cases fo <;> simp [hn, uIns, hz, c1, c2, ei, dW])
  obtain ⟨e, -⟩ := e
  have : L.take L.length = L := List.take_length
  rw [List.length_map, this, hs] at e
  cases e
  simp
end LAW

set_option Elab.async false
set_option linter.all false
set_option maxRecDepth 100000
set_option maxHeartbeats 4000000
/-! K01MathH: a row there is. -/
namespace LAW
open P
/-- each one's forerunner is found, with a smaller number -/
def Wf (l : List Fd) : Prop := ∀ f ∈ l, ∀ b, f.2.1 = some b → ∃ g ∈ l, g.1 = b ∧ b.1 < f.1.1
theorem leM_trans {a b c : Mrk} (h1 : leM a b = true) (h2 : leM b c = true) : leM a c = true := by
  unfold leM at *
  simp only [decide_eq_true_eq] at *
  omega
theorem leM_total (a b : Mrk) : (leM a b || leM b a) = true := by
  unfold leM
  simp only [Bool.or_eq_true, decide_eq_true_eq]
  omega
theorem sort_pw (l : List Fd) : (l.mergeSort leF).Pairwise fun a b => leM a.1 b.1 = true :=
  List.pairwise_mergeSort (le := leF) (fun a b c h1 h2 => leM_trans h1 h2) (fun a b => leM_total a.1 b.1) l
theorem rStep_perm {rm : List Mrk} {x y : List Rw} {f : Fd} (h : rStep rm x f = some y) : (y.map (·.1)).Perm (f.1 :: x.map (·.1)) := by
  unfold rStep at h
  split at h
  · cases h; simp
  · cases e : x.findIdx? _ with
    | none => rw [e] at h; cases h
    | some i =>
      rw [e] at h; cases h
      rw [List.map_append, List.map_cons]
      refine List.perm_middle.trans ?_
      rw [← List.map_append, List.take_append_drop]
theorem rStep_some {rm : List Mrk} {x : List Rw} {f : Fd} (h : ∀ b, f.2.1 = some b → b ∈ x.map (·.1)) : ∃ y, rStep rm x f = some y := by
  unfold rStep
  split
  · exact ⟨_, rfl⟩
  · rename_i b hb
    obtain ⟨w, hw, e⟩ := List.mem_map.mp (h b hb)
    cases q : x.findIdx? fun z => decide (z.1 = b) with
    | some i => exact ⟨_, rfl⟩
    | none =>
      rw [List.findIdx?_eq_none_iff] at q
      have := q w hw
      simp [e] at this
theorem row_some {l : List Fd} (w : Wf l) (rm : List Mrk) : ∃ acc, rowO rm (l.mergeSort leF) = some acc ∧ (acc.map (·.1)).Perm (l.map (·.1)) := by
  have pw := sort_pw l
  have pm : (l.mergeSort leF).Perm l := List.mergeSort_perm l leF
  have w' : Wf (l.mergeSort leF) := fun f hf b hb => by
    obtain ⟨g, a1, a2, a3⟩ := w f (pm.mem_iff.mp hf) b hb
    exact ⟨g, pm.mem_iff.mpr a1, a2, a3⟩
  generalize l.mergeSort leF = L at pw pm w'
  have go : ∀ j, j ≤ L.length → ∃ x, rowO rm (L.take j) = some x ∧ (x.map (·.1)).Perm ((L.take j).map (·.1)) := by
    intro j hj
    induction j with
    | zero => exact ⟨[], rfl, by simp⟩
    | succ j ih =>
      obtain ⟨x, h1, h2⟩ := ih (by omega)
      have hlt : j < L.length := by omega
      have e1 : L.take (j + 1) = L.take j ++ [L[j]] := by rw [List.take_add_one, List.getElem?_eq_getElem hlt]; rfl
      obtain ⟨y, hy⟩ := rStep_some (rm := rm) (x := x) (f := L[j]) (fun b hb => by
        obtain ⟨g, a1, a2, a3⟩ := w' _ (List.getElem_mem hlt) b hb
        obtain ⟨k, hk, ek⟩ := List.mem_iff_getElem.mp a1
        have hkj : k < j := by
          rcases Nat.lt_trichotomy k j with z | z | z
          · exact z
          · subst z; subst ek; rw [a2] at a3; omega
          · have := List.pairwise_iff_getElem.mp pw j k hlt hk z
            rw [ek, a2] at this
            unfold leM at this
            simp only [decide_eq_true_eq] at this
            omega
        refine h2.mem_iff.mpr ?_
        rw [← a2]
        refine List.mem_map_of_mem ?_
        rw [List.mem_take_iff_getElem]
        exact ⟨k, by omega, ek⟩)
      refine ⟨y, ?_, ?_⟩
      · rw [e1]
        unfold rowO at h1 ⊢
        rw [List.foldl_append, h1]
        exact hy
      · rw [e1, List.map_append]
        refine (rStep_perm hy).trans ?_
        refine (h2.cons _).trans ?_
        exact (List.perm_append_singleton _ _).symm
  obtain ⟨x, h1, h2⟩ := go L.length (Nat.le_refl _)
  rw [List.take_length] at h1 h2
  exact ⟨x, h1, h2.trans (pm.map _)⟩
end LAW

set_option Elab.async false
set_option linter.all false
set_option maxRecDepth 100000
set_option maxHeartbeats 4000000
/-! K01MathI: what is seen by a replica. -/
namespace LAW
open P
theorem fds_mem {rs : List (List Dd)} {r i k : Nat} {m : List Nat} {rm : List Mrk} {bh : Option Mrk} {n : Nat} {x : List Nat} (hr : r < 8) (h : (rs.getD r [])[i]? = some (.ch m rm bh n x)) (hk : k < x.length) : ∃ f ∈ fds rs m, f.1 = (n + k, r) ∧ f.2.1 = if k = 0 then bh else some (n + k - 1, r) := by
  have hf : i < (forces (rs.getD r [])).length := by rw [forces_len]; exact (List.getElem?_eq_some_iff.mp h).1
  have hz : ((rs.getD r []).zip (forces (rs.getD r [])))[i]? = some (.ch m rm bh n x, (forces (rs.getD r []))[i]) := by
    rw [List.getElem?_zip_eq_some]
    exact ⟨h, List.getElem?_eq_getElem hf⟩
  have hc : (r, .ch m rm bh n x, (forces (rs.getD r []))[i]) ∈ chs rs m := by
    unfold chs
    refine List.mem_flatMap.mpr ⟨r, by simpa using hr, ?_⟩
    unfold chR
    exact List.mem_map.mpr ⟨_, List.mem_filter.mpr ⟨List.mem_of_getElem? hz, by simp [isCh]⟩, rfl⟩
  have hi := ins_get r bh n x k hk
  refine ⟨((n + k, r), (if k = 0 then bh else some (n + k - 1, r)), x[k], (forces (rs.getD r []))[i]), ?_, rfl, rfl⟩
  unfold fds
  refine List.mem_flatMap.mpr ⟨_, hc, ?_⟩
  exact List.mem_map.mpr ⟨_, List.mem_of_getElem? hi, rfl⟩
theorem fds_inv {rs : List (List Dd)} {m : List Nat} {f : Fd} (h : f ∈ fds rs m) : ∃ (r i : Nat) (rm : List Mrk) (bh : Option Mrk) (n : Nat) (x : List Nat) (k : Nat), r < 8 ∧ (rs.getD r [])[i]? = some (Dd.ch m rm bh n x) ∧ k < x.length ∧ f.1 = (n + k, r) ∧ f.2.1 = if k = 0 then bh else some (n + k - 1, r) := by
  unfold fds at h
  obtain ⟨c, hc, h⟩ := List.mem_flatMap.mp h
  obtain ⟨hr, row, e1, e2, rm, bh, n, x, e3⟩ := chs_is hc
  obtain ⟨i, hi, ei⟩ := List.mem_iff_getElem.mp e2
  unfold fdsOf at h
  rw [e3] at h
  obtain ⟨z, hz, rfl⟩ := List.mem_map.mp h
  obtain ⟨k, hk, ek⟩ := List.mem_iff_getElem.mp hz
  rw [ins_len] at hk
  have := ins_get c.1 bh n x k hk
  rw [List.getElem?_eq_getElem (by rw [ins_len]; exact hk), ek] at this
  cases this
  exact ⟨c.1, i, rm, bh, n, x, k, hr, by rw [e1, List.getElem?_eq_getElem hi, ei, e3], hk, rfl, rfl⟩
/-- a mark that stands in a module -/
def Mks (rs : List (List Dd)) (m : List Nat) (b : Mrk) : Prop := ∃ f ∈ fds rs m, f.1 = b
/-- the counts' part of the rows -/
def vis (rs : List (List Dd)) (c : List Nat) : List (List Dd) := (List.range 8).map fun k => (rs.getD k []).take (c.getD k 0)
theorem vis_len {rs : List (List Dd)} {c : List Nat} : (vis rs c).length = 8 := by simp [vis]
theorem vis_get {rs : List (List Dd)} {c : List Nat} {k : Nat} (h : k < 8) : (vis rs c).getD k [] = (rs.getD k []).take (c.getD k 0) := by
  unfold vis
  rw [List.getD_eq_getElem?_getD, List.getElem?_map, List.getElem?_range h]
  rfl
/-- what a deed leans on is there: its forerunner, what it removes -/
def Dep (P : Mrk → Prop) : Dd → Prop
  | .bk _ => True
  | .ch _ rm bh n _ => (∀ b, bh = some b → P b ∧ b.1 < n) ∧ ∀ b ∈ rm, P b ∧ b.1 < n
theorem Dep.mono {P Q : Mrk → Prop} (h : ∀ b, P b → Q b) : ∀ {d : Dd}, Dep P d → Dep Q d
  | .bk _, _ => True.intro
  | .ch _ _ _ _ _, ⟨h1, h2⟩ => ⟨fun b e => ⟨h b (h1 b e).1, (h1 b e).2⟩, fun b e => ⟨h b (h2 b e).1, (h2 b e).2⟩⟩
def mOf : Dd → List Nat
  | .bk _ => []
  | .ch m _ _ _ _ => m
/-- closed -/
def Cl (rs : List (List Dd)) : Prop := ∀ r : Nat, r < 8 → ∀ (i : Nat) (d : Dd), (rs.getD r [])[i]? = some d → Dep (Mks rs (mOf d)) d
theorem cl_wf {rs : List (List Dd)} (c : Cl rs) (m : List Nat) : Wf (fds rs m) := fun f hf b hb => by
  obtain ⟨r, i, rm, bh, n, x, k, hr, h, hk, e1, e2⟩ := fds_inv hf
  rw [e2] at hb
  by_cases z : k = 0
  · rw [if_pos z] at hb
    obtain ⟨⟨g, hg, eg⟩, hl⟩ := (c r hr i _ h).1 b hb
    exact ⟨g, hg, eg, by rw [e1]; show b.1 < n + k; omega⟩
  · rw [if_neg z] at hb
    cases hb
    obtain ⟨g, hg, eg, _⟩ := fds_mem hr h (show k - 1 < x.length by omega)
    exact ⟨g, hg, by rw [eg]; congr 1; omega, by rw [e1]; show n + k - 1 < n + k; omega⟩
/-- the rows are a part of others -/
def Part (rs ss : List (List Dd)) : Prop := ∀ r : Nat, r < 8 → ∀ (i : Nat) (d : Dd), (rs.getD r [])[i]? = some d → (ss.getD r [])[i]? = some d
theorem Mks.mono {rs ss : List (List Dd)} (p : Part rs ss) {m : List Nat} {b : Mrk} (h : Mks rs m b) : Mks ss m b := by
  obtain ⟨f, hf, e⟩ := h
  obtain ⟨r, i, rm, bh, n, x, k, hr, h, hk, e1, _⟩ := fds_inv hf
  obtain ⟨g, hg, eg, _⟩ := fds_mem hr (p r hr i _ h) hk
  exact ⟨g, hg, by rw [eg, ← e1, e]⟩
theorem vis_at {rs : List (List Dd)} {c : List Nat} {r i : Nat} (hr : r < 8) : ((vis rs c).getD r [])[i]? = if i < c.getD r 0 then (rs.getD r [])[i]? else none := by
  rw [vis_get hr, List.getElem?_take]
theorem vis_part {rs ss : List (List Dd)} {c c' : List Nat} (h : ∀ r : Nat, r < 8 → ∀ i : Nat, i < c.getD r 0 → ∀ d : Dd, (rs.getD r [])[i]? = some d → (ss.getD r [])[i]? = some d ∧ i < c'.getD r 0) : Part (vis rs c) (vis ss c') := fun r hr i d e => by
  rw [vis_at hr] at e ⊢
  split at e
  · rename_i z
    obtain ⟨a, b⟩ := h r hr i z d e
    rw [if_pos b]; exact a
  · cases e
/-- two closed parts make a closed one -/
theorem cl_max {rs : List (List Dd)} {a b c : List Nat} (ha : Cl (vis rs a)) (hb : Cl (vis rs b)) (hc : ∀ r, r < 8 → c.getD r 0 = max (a.getD r 0) (b.getD r 0)) : Cl (vis rs c) := fun r hr i d e => by
  rw [vis_at hr] at e
  split at e
  case isFalse => cases e
  rename_i z
  rw [hc r hr] at z
  have pa : Part (vis rs a) (vis rs c) := vis_part fun r hr i hi d hd => ⟨hd, by rw [hc r hr]; omega⟩
  have pb : Part (vis rs b) (vis rs c) := vis_part fun r hr i hi d hd => ⟨hd, by rw [hc r hr]; omega⟩
  by_cases y : i < a.getD r 0
  · exact (ha r hr i d (by rw [vis_at hr, if_pos y]; exact e)).mono fun m h => h.mono pa
  · exact (hb r hr i d (by rw [vis_at hr, if_pos (by omega)]; exact e)).mono fun m h => h.mono pb
end LAW

set_option Elab.async false
set_option linter.all false
set_option maxRecDepth 100000
set_option maxHeartbeats 4000000
/-! K01MathJ: the law's drawing: letters, modules, the greatest number, what is seen. -/
namespace LAW
open P
def lStep (a : Nat) : Dd → Nat
  | .bk _ => a
  | .ch _ _ _ n x => max a (n + x.length)
def lastR (a : Nat) (row : List Dd) : Nat := row.foldl lStep a
def lastN (rs : List (List Dd)) : Nat := rs.foldl lastR 0
theorem max_if (a b : Nat) : (if (a : Int) < (b : Int) then (b : Int) else (a : Int)) = ((max a b : Nat) : Int) := by
  split <;> omega
theorem llast_ok {rs : List (List Dd)} (w : Rws rs) : p_law_last [.leaf (dRs rs)] = .ok (.leaf (.int (lastN rs))) [] := by
  unfold p_law_last
  simp
  generalize hF : forL _ _ _ _ _ = F
  obtain ⟨k, rfl, e⟩ := for_st hF (fun (k : Nat) => [.leaf (dRs rs), .leaf (.int ((rs.take k).foldl lastR 0 : Nat)), .hole, .hole]) (fun j k => k = j) 0 (by simp) rfl (by
    rintro j d k hd rfl
    rw [List.getElem?_map] at hd
    cases hi : rs[k]? with
    | none => rw [hi] at hd; cases hd
    | some row =>
      rw [hi] at hd; cases hd
      have hmem : row ∈ rs := List.mem_of_getElem? hi
      refine ⟨k + 1, ?_, rfl⟩
      rw [List.take_add_one, hi, List.foldl_append]
      simp only [Option.toList, List.foldl_cons, List.foldl_nil]
      generalize (rs.take k).foldl lastR 0 = a
      simp
      generalize hG : forL _ _ _ _ _ = G
      obtain ⟨q, rfl, e⟩ := for_st hG (fun (q : Nat) => [.leaf (dRs rs), .leaf (.int ((row.take q).foldl lStep a : Nat)), .leaf (dR row), .hole]) (fun j q => q = j) 0 (by simp) rfl (by
        rintro j d q hd rfl
        rw [List.getElem?_map] at hd
        cases hi : row[q]? with
        | none => rw [hi] at hd; cases hd
        | some d =>
          rw [hi] at hd; cases hd
          refine ⟨q + 1, ?_, rfl⟩
          rw [List.take_add_one, hi, List.foldl_append]
          simp only [Option.toList, List.foldl_cons, List.foldl_nil]
          generalize (row.take q).foldl lStep a = b
          have hx := w.x row hmem d (List.mem_of_getElem? hi)
          cases d with
          | bk p => simp [dD, a2_0, lStep]
          | ch m rm bh n x =>
            have h2 : x.length ≤ 16000000 := by have := (hx m rm bh n x rfl).1; omega
            have := max_if b (n + x.length)
            rw [Int.natCast_add] at this
            simp [dD_ch, a6_0, a6_4, a6_5, h2, lStep]
            omega)
      subst e
      have : row.take (row.map dD).length = row := by rw [List.length_map, List.take_length]
      rw [this]
      simp [lastR])
  subst e
  have : rs.take (rs.map dR).length = rs := by rw [List.length_map, List.take_length]
  rw [this]
  simp [lastN]
def mods : List (List Nat) := [[109, 97, 105, 110], [97], [97, 32, 98, 39, 91, 93], List.replicate 40 122]
theorem lmods_ok : p_law_modules [] = .ok (.ls (mods.map .str)) [] := by
  unfold p_law_modules
  simp [mods]
theorem mods_ok : ∀ m ∈ mods, Tx m ∧ m.length ≤ 40 ∧ 1 ≤ m.length := by
  intro m h
  have : mods.all (fun m => m.all (· < 1114112) && decide (m.length ≤ 40) && decide (1 ≤ m.length)) = true := by decide +kernel
  have h2 := List.all_eq_true.mp this m h
  simp only [Bool.and_eq_true, decide_eq_true_eq] at h2
  exact ⟨fun c hc => by simpa using List.all_eq_true.mp h2.1.1 c hc, h2.1.2, h2.2⟩
theorem lletters_ok (vs : List Nat) (i : Nat) : ∃ x, p_law_letters [.leaf (.lst (In vs)), .leaf (.int i)] = .ok (.leaf (.str x)) [] ∧ x.length ≤ 4 ∧ Tx x := by
  unfold p_law_letters
  have h5 : ((atN vs i : Int) % 5).natAbs ≤ 1000000000 := by omega
  simp [at_ok, h5]
  generalize hF : forL _ _ _ _ _ = F
  generalize hC : ([32, 33, 34, 35, 36, 38, 39, 40, 41, 42, 43, 44, 45, 46, 47, 48, 49, 50, 51, 52, 53, 54, 55, 56, 57, 58, 59, 60, 61, 62, 63, 64, 65, 66, 67, 68, 69, 70, 71, 72, 73, 74, 75, 76, 77, 78, 79, 80, 81, 82, 83, 84, 85, 86, 87, 88, 89, 90, 91, 92, 93, 94, 95, 96, 97, 98, 99, 100, 101, 102, 103, 104, 105, 106, 107, 108, 109, 110, 111, 112, 113, 114, 115, 116, 117, 118, 119, 120, 121, 122, 123, 124, 125, 126, 10] : List Nat) = C at hF
  have hCl : C.length = 95 := by rw [← hC]; rfl
  have hCx : Tx C := by
    intro c h
    have : C.all (· < 1114112) = true := by rw [← hC]; decide +kernel
    simpa using List.all_eq_true.mp this c h
  obtain ⟨x, rfl, h1, h2⟩ := for_st hF (fun (x : List Nat) => [.leaf (.lst (In vs)), .leaf (.int i), .leaf (.str C), .leaf (.str x), .hole]) (fun j x => x.length = j ∧ Tx x) [] (by simp) ⟨rfl, by intro c h; cases h⟩ (by
    rintro j d x hd ⟨h1, h2⟩
    obtain ⟨hj, rfl⟩ := rng_get hd
    have hj4 : j < 5 := by omega
    have e0 : ((i : Int) + 1) = ((i + 1 : Nat) : Int) := by omega
    have e1 : (((atN vs (i + 1) : Nat) : Int) + 37 * (0 + (j : Nat))) % 95 = (((atN vs (i + 1) + 37 * j) % 95 : Nat) : Int) := by omega
    have hlt : (atN vs (i + 1) + 37 * j) % 95 < C.length := by rw [hCl]; omega
    have e2 : atI C ((((atN vs (i + 1) + 37 * j) % 95 : Nat) : Int)) = some C[(atN vs (i + 1) + 37 * j) % 95] := by rw [atI_nat, List.getElem?_eq_getElem hlt]
    have a1 := at_ok vs (i + 1)
    rw [← e0] at a1
    have h3 : C.length ≤ 16000000 := by omega
    have h4 : x.length + 1 ≤ 16000000 := by omega
    rw [← e1] at e2
    rw [show (0 : Int) + ((j : Nat) : Int) = ((j : Nat) : Int) by omega] at e2 ⊢
    refine ⟨x ++ [C[(atN vs (i + 1) + 37 * j) % 95]], by simp [a1, e2, h3, h4], by simp [h1], ?_⟩
    intro c hc
    rcases List.mem_append.mp hc with hc | hc
    · exact h2 c hc
    · rw [List.mem_singleton.mp hc]; exact hCx _ (List.getElem_mem _))
  refine ⟨x, by simp, ?_, h2⟩
  rw [rng_len] at h1
  omega
theorem lvisible_ok {rs : List (List Dd)} (w : Rws rs) {c : List Nat} (hc : c.length = 8) : p_law_visible [.leaf (dRs rs), .leaf (.lst (In c))] = .ok (.lT ((vis rs c).map fun row => .ls (row.map dD))) [] := by
  unfold p_law_visible
  simp
  rw [lcT_run (E := [.leaf (dRs rs), .leaf (.lst (In c)), .hole]) (ds := rng 0 8) (e1 := [.leaf (dRs rs), .leaf (.lst (In c)), .hole]) (f := fun d => match d with | .int j => .ls (((rs.getD j.toNat []).take (c.getD j.toNat 0)).map dD) | _ => .hole) (by simp) (by simp) (by rw [rng_len]; omega) (by
    intro d hd
    obtain ⟨j, hj, rfl⟩ := rng_mem hd
    obtain ⟨row, h1, h2, h3⟩ := w.at (r := j) hj
    have g1 := dRs_at h1
    have g2 : atI (In c) (j : Int) = some (.int (c.getD j 0 : Nat)) := by
      rw [atI_nat, List.getElem?_map, List.getElem?_eq_getElem (by omega), List.getD_eq_getElem?_getD, List.getElem?_eq_getElem (by omega)]; rfl
    refine ⟨[.leaf (dRs rs), .leaf (.lst (In c)), .leaf (.int j)], [.leaf (dRs rs), .leaf (.lst (In c)), .leaf (.int j)], by simp [CT.asg], ?_, by simp⟩
    rw [show (0 : Int) + (j : Nat) = ((j : Nat) : Int) by omega]
    simp [g1, g2]
    rw [h1]
    rfl)]
  rw [rng_eq, List.map_map]
  unfold vis
  rw [List.map_map]
  rfl
end LAW

set_option Elab.async false
set_option linter.all false
set_option maxRecDepth 100000
set_option maxHeartbeats 4000000
/-! K01MathK: a drawn deed. -/
namespace LAW
open P
/-- a deed that may come next: r's own row, what it sees -/
def Good (rs : List (List Dd)) (own : List Dd) : Dd → Prop
  | .bk p => 1 ≤ p ∧ p ≤ own.length
  | .ch m rm bh n x => m ∈ mods ∧ rm.length ≤ 3 ∧ Dep (Mks rs m) (.ch m rm bh n x) ∧ 1 ≤ n ∧ (∀ m' rm' bh' n' x', Dd.ch m' rm' bh' n' x' ∈ own → n' + x'.length ≤ n) ∧ x.length ≤ 4 ∧ Tx x
theorem seq_nx {A Y : PS} {e e1 : Env} (h : A e = .nx e1) : sSeq A Y e = Y e1 := by rw [s_seq, h]
theorem seq_rt {A Y : PS} {e e1 : Env} {t : T} (h : A e = .rt t e1) : sSeq A Y e = .rt t e1 := by rw [s_seq, h]
theorem fn_ex {n : Nat} {m1 : PS} {ts : List T} {Q : Dd → Prop} (h : ∃ d e, m1 (ts ++ List.replicate (n - ts.length) .hole) = .rt (.leaf (dD d)) e ∧ Q d) : ∃ d, pFn n [] m1 ts = .ok (.leaf (dD d)) [] ∧ Q d := by
  obtain ⟨d, e, h1, h2⟩ := h
  exact ⟨d, by simp [h1], h2⟩
def mxM (a : Nat) : Option Mrk → Nat
  | none => a
  | some m => max a (m.1 + 1)
theorem mx_le (l : List (Option Mrk)) : ∀ a, a ≤ l.foldl mxM a ∧ ∀ m, some m ∈ l → m.1 < l.foldl mxM a := by
  induction l with
  | nil => intro a; exact ⟨Nat.le_refl _, fun m h => by cases h⟩
  | cons x l ih =>
    intro a
    obtain ⟨h1, h2⟩ := ih (mxM a x)
    have h0 : a ≤ mxM a x := by cases x <;> simp [mxM]; omega
    rw [List.foldl_cons]
    refine ⟨by omega, fun m hm => ?_⟩
    rcases List.mem_cons.mp hm with e | hm
    · subst e
      have : m.1 < mxM a (some m) := by simp [mxM]; omega
      omega
    · exact h2 m hm
theorem lst_le (l : List Dd) : ∀ a, a ≤ lastR a l ∧ ∀ m rm bh n x, Dd.ch m rm bh n x ∈ l → n + x.length ≤ lastR a l := by
  induction l with
  | nil => intro a; exact ⟨Nat.le_refl _, fun m rm bh n x h => by cases h⟩
  | cons d l ih =>
    intro a
    have e : lastR a (d :: l) = lastR (lStep a d) l := rfl
    obtain ⟨h1, h2⟩ := ih (lStep a d)
    have h0 : a ≤ lStep a d := by cases d <;> simp [lStep]; omega
    rw [e]
    refine ⟨by omega, fun m rm bh n x hm => ?_⟩
    rcases List.mem_cons.mp hm with z | hm
    · subst z
      have : n + x.length ≤ lStep a (.ch m rm bh n x) := by simp [lStep]; omega
      omega
    · exact h2 m rm bh n x hm
theorem ldeed_ok {rs : List (List Dd)} (w : Rws rs) (cl : Cl rs) {vs : List Nat} {i r : Nat} {own : List Dd} (hr : rs[r]? = some own) : ∃ d, p_law_deed [.leaf (.lst (In vs)), .leaf (.int i), .leaf (dRs rs), .leaf (.int r)] = .ok (.leaf (dD d)) [] ∧ Good rs own d := by
  have g0 := dRs_at hr
  have hmem : own ∈ rs := List.mem_of_getElem? hr
  have hof := w.few own hmem
  have e1 : ((i : Int) + 1) = ((i + 1 : Nat) : Int) := by omega
  have e2 : ((i : Int) + 2) = ((i + 2 : Nat) : Int) := by omega
  have e7 : ((i : Int) + 7) = ((i + 7 : Nat) : Int) := by omega
  have e8 : ((i : Int) + 8) = ((i + 8 : Nat) : Int) := by omega
  have e9 : ((i : Int) + 9) = ((i + 9 : Nat) : Int) := by omega
  have a0 := at_ok vs i
  have a1 := at_ok vs (i + 1)
  have a2 := at_ok vs (i + 2)
  have a7 := at_ok vs (i + 7)
  have a8 := at_ok vs (i + 8)
  rw [← e1] at a1
  rw [← e2] at a2
  rw [← e7] at a7
  rw [← e8] at a8
  unfold p_law_deed
  refine fn_ex ?_
  simp only [List.length_cons, List.length_nil, List.cons_append, List.nil_append, List.replicate]
  rw [seq_nx (e1 := [.leaf (.lst (In vs)), .leaf (.int i), .leaf (dRs rs), .leaf (.int r), .leaf (dR own), .hole, .hole, .hole, .hole, .hole, .hole, .hole, .hole, .hole]) (by simp [g0])]
  by_cases c1 : (atN vs i : Int) % 4 = 3 ∧ 0 < own.length
  · obtain ⟨c1, hl⟩ := c1
    have hl' : (0 : Int) < (own.length : Int) := by omega
    refine ⟨.bk (1 + atN vs (i + 1) % own.length), _, seq_rt (t := .leaf (dD (.bk (1 + atN vs (i + 1) % own.length)))) (e1 := [.leaf (.lst (In vs)), .leaf (.int i), .leaf (dRs rs), .leaf (.int r), .leaf (dR own), .hole, .hole, .hole, .hole, .hole, .hole, .hole, .hole, .hole]) ?_, by omega, by have := Nat.mod_lt (atN vs (i + 1)) hl; omega⟩
    simp [c1, hl, a0, a1, hl', dD]
  · rw [seq_nx (e1 := [.leaf (.lst (In vs)), .leaf (.int i), .leaf (dRs rs), .leaf (.int r), .leaf (dR own), .hole, .hole, .hole, .hole, .hole, .hole, .hole, .hole, .hole]) (by
      by_cases d1 : (atN vs i : Int) % 4 = 3
      · have d2 : ¬ 0 < own.length := fun z => c1 ⟨d1, z⟩
        simp [a0, d1, d2]
      · simp [a0, d1])]
    -- the module
    have hk5 : atN vs (i + 1) % 16 / 5 < mods.length := by
      have : mods.length = 4 := rfl
      omega
    have e5 : ((atN vs (i + 1) : Nat) : Int) % 16 / 5 = ((atN vs (i + 1) % 16 / 5 : Nat) : Int) := by omega
    have g5 : atI (mods.map D.str) (((atN vs (i + 1) : Nat) : Int) % 16 / 5) = some (.str mods[atN vs (i + 1) % 16 / 5]) := by
      rw [e5, atI_nat, List.getElem?_map, List.getElem?_eq_getElem hk5]; rfl
    have hmm : mods[atN vs (i + 1) % 16 / 5] ∈ mods := List.getElem_mem _
    generalize mods[atN vs (i + 1) % 16 / 5] = m at g5 hmm
    rw [seq_nx (e1 := [.leaf (.lst (In vs)), .leaf (.int i), .leaf (dRs rs), .leaf (.int r), .leaf (dR own), .leaf (.str m), .hole, .hole, .hole, .hole, .hole, .hole, .hole, .hole]) (by simp [lmods_ok, a1, g5])]
    -- the marks of the row
    obtain ⟨acc, hacc, hperm⟩ := row_some (cl_wf cl m) (rms rs m)
    have hrow := lrow_ok w hacc
    have hlen : acc.length ≤ 80000 := by
      have h1 := hperm.length_eq
      rw [List.length_map, List.length_map] at h1
      have := flat_len fdsOf 100 (chs rs m) fun a ha => (fdsOf_len w ha).1
      have h2 := chs_len w m
      unfold fds at h1
      omega
    have hmk : ∀ b ∈ acc.map (·.1), Mks rs m b := fun b hb => by
      obtain ⟨f, hf, e⟩ := List.mem_map.mp (hperm.mem_iff.mp hb)
      exact ⟨f, hf, e⟩
    have hmap : (acc.map dW).map (fun d => match d with | .tup (y :: _) => y | d => d) = (acc.map (·.1)).map dM := by
      rw [List.map_map, List.map_map]; rfl
    have hmkl : (acc.map (·.1)).length ≤ 80000 := by rw [List.length_map]; exact hlen
    rw [seq_nx (e1 := [.leaf (.lst (In vs)), .leaf (.int i), .leaf (dRs rs), .leaf (.int r), .leaf (dR own), .leaf (.str m), .leaf (.lst ((acc.map (·.1)).map dM)), .hole, .hole, .hole, .hole, .hole, .hole, .hole]) (by
      simp [hrow]
      generalize hL : lcR _ _ _ _ _ _ = L'
      have hl := lc_ma hL [.leaf (.lst (In vs)), .leaf (.int i), .leaf (dRs rs), .leaf (.int r), .leaf (dR own), .leaf (.str m), .hole, .hole, .hole, .hole, .hole, .hole, .hole, .hole]
        (fun d => match d with | .tup (y :: _) => y | d => d) (by simp) (by simp; omega) (by
        intro d hd
        obtain ⟨w, hw, rfl⟩ := List.mem_map.mp hd
        simp [dW, a3_0])
      rw [hl, hmap]
      simp)]
    generalize acc.map (·.1) = mk at hmk hmkl
    -- what is removed
    rw [seq_nx (e1 := [.leaf (.lst (In vs)), .leaf (.int i), .leaf (dRs rs), .leaf (.int r), .leaf (dR own), .leaf (.str m), .leaf (.lst (mk.map dM)), .hole, .ls [], .hole, .hole, .hole, .hole, .hole]) (by simp)]
    obtain ⟨rm, hrm, hrl, hrmem⟩ : ∃ rm : List Mrk, sFor [9] (iR1 (dCons (pBin gMod (pFz (pCall 2 p_law_at (dCons (pVar 0) (dCons (pFz (pAdd (pVar 1) (pC (.int 2)))) dNil)))) (pC (.int 4))) dNil)) (.one 9) (sIf (tCmp cGt (pCB gLen (dCons (pVar 6) dNil)) (pC (.int 0))) (sDrop (pLf (pUpd (.var 8) (dCons (pBin gIx (pVar 6) (pBin gMod (pFz (pCall 2 p_law_at (dCons (pVar 0) (dCons (pFz (pAdd (pFz (pAdd (pVar 1) (pC (.int 3)))) (pVar 9))) dNil)))) (pCB gLen (dCons (pVar 6) dNil)))) dNil) uApp))) sNx)
        [.leaf (.lst (In vs)), .leaf (.int i), .leaf (dRs rs), .leaf (.int r), .leaf (dR own), .leaf (.str m), .leaf (.lst (mk.map dM)), .hole, .ls [], .hole, .hole, .hole, .hole, .hole] =
        .nx [.leaf (.lst (In vs)), .leaf (.int i), .leaf (dRs rs), .leaf (.int r), .leaf (dR own), .leaf (.str m), .leaf (.lst (mk.map dM)), .hole, .ls (rm.map dM), .hole, .hole, .hole, .hole, .hole] ∧ rm.length ≤ 3 ∧ ∀ b ∈ rm, b ∈ mk := by
      have h4 : ((atN vs (i + 2) : Int) % 4).natAbs ≤ 1000000000 := by omega
      simp [a2, h4]
      generalize hF : forL _ _ _ _ _ = F
      obtain ⟨rm, rfl, q1, q2⟩ := for_st hF (fun (rm : List Mrk) => [.leaf (.lst (In vs)), .leaf (.int i), .leaf (dRs rs), .leaf (.int r), .leaf (dR own), .leaf (.str m), .leaf (.lst (mk.map dM)), .hole, .ls (rm.map dM), .hole, .hole, .hole, .hole, .hole]) (fun j rm => rm.length ≤ j ∧ ∀ b ∈ rm, b ∈ mk) [] (by simp) ⟨by simp, by simp⟩ (by
        rintro j d rm hd ⟨q1, q2⟩
        obtain ⟨hj, rfl⟩ := rng_get hd
        by_cases hmk0 : 0 < mk.length
        · have e3 : ((i : Int) + 3 + ((0 : Int) + (j : Nat))) = ((i + 3 + j : Nat) : Int) := by omega
          have a3 := at_ok vs (i + 3 + j)
          rw [← e3] at a3
          have hlt := Nat.mod_lt (atN vs (i + 3 + j)) hmk0
          have gm : atI (mk.map dM) (((atN vs (i + 3 + j) : Nat) : Int) % (mk.length : Int)) = some (dM mk[atN vs (i + 3 + j) % mk.length]) := by
            rw [show ((atN vs (i + 3 + j) : Nat) : Int) % (mk.length : Int) = ((atN vs (i + 3 + j) % mk.length : Nat) : Int) by omega, atI_nat, List.getElem?_map, List.getElem?_eq_getElem hlt]; rfl
          have hz : rm.length < 16000000 := by omega
          have hmk0' : (0 : Int) < (mk.length : Int) := by omega
          refine ⟨rm ++ [mk[atN vs (i + 3 + j) % mk.length]], by simp at a3; simp [hmk0, a3, gm, hz], by simp; omega, fun b hb => ?_⟩
          rcases List.mem_append.mp hb with hb | hb
          · exact q2 b hb
          · rw [List.mem_singleton.mp hb]; exact List.getElem_mem _
        · exact ⟨rm, by simp [hmk0], by omega, q2⟩)
      rw [rng_len] at q1
      exact ⟨rm, rfl, by omega, fun a b h => q2 (a, b) h⟩
    rw [seq_nx hrm]
    rw [seq_nx (e1 := [.leaf (.lst (In vs)), .leaf (.int i), .leaf (dRs rs), .leaf (.int r), .leaf (dR own), .leaf (.str m), .leaf (.lst (mk.map dM)), .hole, .ls (rm.map dM), .hole, .leaf .non, .hole, .hole, .hole]) (by simp)]
    -- behind which character
    obtain ⟨bh, hbh, hbm⟩ : ∃ bh : Option Mrk, sIf (tAnd (tCmp cGt (pCB gLen (dCons (pVar 6) dNil)) (pC (.int 0))) (tCmp cNe (pBin gMod (pFz (pCall 2 p_law_at (dCons (pVar 0) (dCons (pFz (pAdd (pVar 1) (pC (.int 7)))) dNil)))) (pC (.int 5))) (pC (.int 0)))) (sAsg 10 (pLf (pBin gIx (pVar 6) (pBin gMod (pBin gDiv (pFz (pCall 2 p_law_at (dCons (pVar 0) (dCons (pFz (pAdd (pVar 1) (pC (.int 7)))) dNil)))) (pC (.int 5))) (pCB gLen (dCons (pVar 6) dNil)))))) sNx
        [.leaf (.lst (In vs)), .leaf (.int i), .leaf (dRs rs), .leaf (.int r), .leaf (dR own), .leaf (.str m), .leaf (.lst (mk.map dM)), .hole, .ls (rm.map dM), .hole, .leaf .non, .hole, .hole, .hole] =
        .nx [.leaf (.lst (In vs)), .leaf (.int i), .leaf (dRs rs), .leaf (.int r), .leaf (dR own), .leaf (.str m), .leaf (.lst (mk.map dM)), .hole, .ls (rm.map dM), .hole, .leaf (dO bh), .hole, .hole, .hole] ∧ ∀ b, bh = some b → b ∈ mk := by
      by_cases hmk0 : 0 < mk.length
      · by_cases h5 : (atN vs (i + 7) : Int) % 5 = 0
        · exact ⟨none, by simp [hmk0, a7, h5, dO], fun b e => by cases e⟩
        · have hlt := Nat.mod_lt (atN vs (i + 7) / 5) hmk0
          have gm : atI (mk.map dM) (((atN vs (i + 7) : Nat) : Int) / 5 % (mk.length : Int)) = some (dM mk[atN vs (i + 7) / 5 % mk.length]) := by
            rw [show ((atN vs (i + 7) : Nat) : Int) / 5 % (mk.length : Int) = ((atN vs (i + 7) / 5 % mk.length : Nat) : Int) by rw [Int.natCast_emod, Int.natCast_ediv]; rfl, atI_nat, List.getElem?_map, List.getElem?_eq_getElem hlt]; rfl
          have hmk0' : (0 : Int) < (mk.length : Int) := by omega
          exact ⟨some mk[atN vs (i + 7) / 5 % mk.length], by simp [hmk0, a7, h5, gm, dO], fun b e => by cases e; exact List.getElem_mem _⟩
      · exact ⟨none, by simp [hmk0, dO], fun b e => by cases e⟩
    rw [seq_nx hbh]
    rw [seq_nx (e1 := [.leaf (.lst (In vs)), .leaf (.int i), .leaf (dRs rs), .leaf (.int r), .leaf (dR own), .leaf (.str m), .leaf (.lst (mk.map dM)), .hole, .ls (rm.map dM), .hole, .leaf (dO bh), .leaf (.int (1 : Nat)), .hole, .hole]) (by simp)]
    -- its number
    have hcat : (rm.map dM ++ [dO bh]) = (rm.map some ++ [bh]).map dO := by rw [List.map_append, List.map_map]; rfl
    have hz3 : rm.length + 1 ≤ 16000000 := by omega
    generalize hos : rm.map some ++ [bh] = os at hcat
    rw [seq_nx (e1 := [.leaf (.lst (In vs)), .leaf (.int i), .leaf (dRs rs), .leaf (.int r), .leaf (dR own), .leaf (.str m), .leaf (.lst (mk.map dM)), .hole, .ls (rm.map dM), .hole, .leaf (dO bh), .leaf (.int (os.foldl mxM 1 : Nat)), .hole, .hole]) (by
      simp [hz3]
      rw [hcat]
      generalize hF : forL _ _ _ _ _ = F
      obtain ⟨k, rfl, e⟩ := for_st hF (fun (k : Nat) => [.leaf (.lst (In vs)), .leaf (.int i), .leaf (dRs rs), .leaf (.int r), .leaf (dR own), .leaf (.str m), .leaf (.lst (mk.map dM)), .hole, .ls (rm.map dM), .hole, .leaf (dO bh), .leaf (.int ((os.take k).foldl mxM 1 : Nat)), .hole, .hole]) (fun j k => k = j) 0 (by simp) rfl (by
        rintro j d k hd rfl
        rw [List.getElem?_map] at hd
        cases hi : os[k]? with
        | none => rw [hi] at hd; cases hd
        | some o =>
          rw [hi] at hd; cases hd
          refine ⟨k + 1, ?_, rfl⟩
          rw [List.take_add_one, hi, List.foldl_append]
          simp only [Option.toList, List.foldl_cons, List.foldl_nil]
          generalize (os.take k).foldl mxM 1 = a
          cases o with
          | none => simp [dO, cIs, mxM]
          | some b =>
            have := max_if a (b.1 + 1)
            rw [Int.natCast_add] at this
            simp [dO, cIs_dM, dM, a2_0, mxM]
            have hc : cIs (D.tup [D.int b.1, D.int b.2]) D.non = some false := rfl
            simp [hc, a2_0]
            omega)
      subst e
      have : os.take (os.map dO).length = os := by rw [List.length_map, List.take_length]
      rw [this])]
    obtain ⟨o1, o2⟩ := mx_le os 1
    generalize os.foldl mxM 1 = n1 at o1 o2
    have bmk : ∀ b, some b ∈ os → b ∈ mk ∧ b.1 < n1 := fun b hb => by
      refine ⟨?_, o2 b hb⟩
      rw [← hos] at hb
      rcases List.mem_append.mp hb with hb | hb
      · obtain ⟨c, hc, e⟩ := List.mem_map.mp hb
        cases e
        exact hrmem b hc
      · exact hbm b (List.mem_singleton.mp hb).symm
    have rmk : ∀ b ∈ rm, some b ∈ os := fun b hb => by rw [← hos]; exact List.mem_append_left _ (List.mem_map_of_mem hb)
    have bhk : ∀ b, bh = some b → some b ∈ os := fun b hb => by rw [← hos, hb]; exact List.mem_append_right _ (List.mem_singleton.mpr rfl)
    rw [seq_nx (e1 := [.leaf (.lst (In vs)), .leaf (.int i), .leaf (dRs rs), .leaf (.int r), .leaf (dR own), .leaf (.str m), .leaf (.lst (mk.map dM)), .hole, .ls (rm.map dM), .hole, .leaf (dO bh), .leaf (.int (lastR n1 own : Nat)), .hole, .hole]) (by
      simp
      generalize hF : forL _ _ _ _ _ = F
      obtain ⟨k, rfl, e⟩ := for_st hF (fun (k : Nat) => [.leaf (.lst (In vs)), .leaf (.int i), .leaf (dRs rs), .leaf (.int r), .leaf (dR own), .leaf (.str m), .leaf (.lst (mk.map dM)), .hole, .ls (rm.map dM), .hole, .leaf (dO bh), .leaf (.int ((own.take k).foldl lStep n1 : Nat)), .hole, .hole]) (fun j k => k = j) 0 (by simp) rfl (by
        rintro j d k hd rfl
        rw [List.getElem?_map] at hd
        cases hi : own[k]? with
        | none => rw [hi] at hd; cases hd
        | some d =>
          rw [hi] at hd; cases hd
          have hx := w.x own hmem d (List.mem_of_getElem? hi)
          refine ⟨k + 1, ?_, rfl⟩
          rw [List.take_add_one, hi, List.foldl_append]
          simp only [Option.toList, List.foldl_cons, List.foldl_nil]
          generalize (own.take k).foldl lStep n1 = a
          cases d with
          | bk p => simp [dD, a2_0, lStep]
          | ch m' rm' bh' n x =>
            have h2 : x.length ≤ 16000000 := by have := (hx m' rm' bh' n x rfl).1; omega
            have := max_if a (n + x.length)
            rw [Int.natCast_add] at this
            simp [dD_ch, a6_0, a6_4, a6_5, h2, lStep]
            omega)
      subst e
      have : own.take (own.map dD).length = own := by rw [List.length_map, List.take_length]
      rw [this]
      rfl)]
    obtain ⟨p1, p2⟩ := lst_le own n1
    generalize lastR n1 own = n2 at p1 p2
    obtain ⟨ad, had⟩ : ∃ ad : Nat, atI [D.int 0, D.int 0, D.int 1, D.int 5] (((atN vs (i + 8) : Nat) : Int) % 4) = some (.int ad) := by
      have : atN vs (i + 8) % 4 < 4 := Nat.mod_lt _ (by decide)
      rw [show ((atN vs (i + 8) : Nat) : Int) % 4 = ((atN vs (i + 8) % 4 : Nat) : Int) by omega, atI_nat]
      generalize atN vs (i + 8) % 4 = k at this
      match k, this with
      | 0, _ => exact ⟨0, rfl⟩
      | 1, _ => exact ⟨0, rfl⟩
      | 2, _ => exact ⟨1, rfl⟩
      | 3, _ => exact ⟨5, rfl⟩
    rw [seq_nx (e1 := [.leaf (.lst (In vs)), .leaf (.int i), .leaf (dRs rs), .leaf (.int r), .leaf (dR own), .leaf (.str m), .leaf (.lst (mk.map dM)), .hole, .ls (rm.map dM), .hole, .leaf (dO bh), .leaf (.int (n2 + ad : Nat)), .hole, .hole]) (by simp [a8, had])]
    obtain ⟨n4, h4, l4⟩ : ∃ n4 : Nat, sIf (tCmp cEq (pBin gMod (pBin gDiv (pFz (pCall 2 p_law_at (dCons (pVar 0) (dCons (pFz (pAdd (pVar 1) (pC (.int 8)))) dNil)))) (pC (.int 4))) (pC (.int 2))) (pC (.int 0))) (sAsg 11 (pLf (pCB gMax (dCons (pVar 11) (dCons (pFz (pAdd (pFz (pCall 1 p_law_last (dCons (pVar 2) dNil))) (pC (.int 1)))) dNil))))) sNx
        [.leaf (.lst (In vs)), .leaf (.int i), .leaf (dRs rs), .leaf (.int r), .leaf (dR own), .leaf (.str m), .leaf (.lst (mk.map dM)), .hole, .ls (rm.map dM), .hole, .leaf (dO bh), .leaf (.int (n2 + ad : Nat)), .hole, .hole] =
        .nx [.leaf (.lst (In vs)), .leaf (.int i), .leaf (dRs rs), .leaf (.int r), .leaf (dR own), .leaf (.str m), .leaf (.lst (mk.map dM)), .hole, .ls (rm.map dM), .hole, .leaf (dO bh), .leaf (.int (n4 : Nat)), .hole, .hole] ∧ n2 ≤ n4 := by
      by_cases c : ((atN vs (i + 8) : Nat) : Int) / 4 % 2 = 0
      · have hl := llast_ok w
        have := max_if (n2 + ad) (lastN rs + 1)
        rw [Int.natCast_add, Int.natCast_add] at this
        refine ⟨max (n2 + ad) (lastN rs + 1), ?_, by omega⟩
        simp [a8, c, hl]
        omega
      · exact ⟨n2 + ad, by simp [a8, c], by omega⟩
    rw [seq_nx h4]
    obtain ⟨x, hx, hxl, hxt⟩ := lletters_ok vs (i + 9)
    rw [← e9] at hx
    have hz3' : rm.length ≤ 16000000 := by omega
    refine ⟨.ch m rm bh n4 x, [.leaf (.lst (In vs)), .leaf (.int i), .leaf (dRs rs), .leaf (.int r), .leaf (dR own), .leaf (.str m), .leaf (.lst (mk.map dM)), .hole, .ls (rm.map dM), .hole, .leaf (dO bh), .leaf (.int (n4 : Nat)), .hole, .hole], by simp [hx, dD_ch], hmm, hrl, ⟨fun b hb => ?_, fun b hb => ?_⟩, by omega, fun m' rm' bh' n' x' hm => by have := p2 m' rm' bh' n' x' hm; omega, hxl, hxt⟩
    · have := bmk b (bhk b hb)
      exact ⟨hmk b this.1, by omega⟩
    · have := bmk b (rmk b hb)
      exact ⟨hmk b this.1, by omega⟩
end LAW

set_option Elab.async false
set_option linter.all false
set_option maxRecDepth 100000
set_option maxHeartbeats 4000000
/-! K01MathL: what holds of the rows while they are drawn. -/
namespace LAW
open P
def Own (own : List Dd) : Dd → Prop
  | .bk p => 1 ≤ p ∧ p ≤ own.length
  | .ch m rm _ n x => m ∈ mods ∧ rm.length ≤ 3 ∧ 1 ≤ n ∧ (∀ m' rm' bh' n' x', Dd.ch m' rm' bh' n' x' ∈ own → n' + x'.length ≤ n) ∧ x.length ≤ 4 ∧ Tx x
def His (row : List Dd) : Prop := ∀ (i : Nat) (d : Dd), row[i]? = some d → Own (row.take i) d
theorem Good.own {rs : List (List Dd)} {own : List Dd} : ∀ {d : Dd}, Good rs own d → Own own d
  | .bk _, h => h
  | .ch _ _ _ _ _, ⟨h1, h2, _, h3, h4, h5, h6⟩ => ⟨h1, h2, h3, h4, h5, h6⟩
theorem Good.dep {rs : List (List Dd)} {own : List Dd} : ∀ {d : Dd}, Good rs own d → Dep (Mks rs (mOf d)) d
  | .bk _, _ => True.intro
  | .ch _ _ _ _ _, ⟨_, _, h, _⟩ => h
theorem his_snoc {row : List Dd} {d : Dd} (h : His row) (o : Own row d) : His (row ++ [d]) := fun i e he => by
  by_cases c : i < row.length
  · rw [List.getElem?_append_left c] at he
    rw [List.take_append_of_le_length (by omega)]
    exact h i e he
  · have hl := (List.getElem?_eq_some_iff.mp he).1
    simp at hl
    have : i = row.length := by omega
    subst this
    rw [List.getElem?_append_right (Nat.le_refl _), Nat.sub_self] at he
    cases he
    rw [List.take_append_of_le_length (Nat.le_refl _), List.take_length]
    exact o
theorem own_ok {own : List Dd} : ∀ {d : Dd}, Own own d → OkD d
  | .bk _, _ => True.intro
  | .ch _ _ _ _ _, ⟨h1, _, _, _, _, h6⟩ => ⟨(mods_ok _ h1).1, h6⟩
/-- rows as they are drawn: each deed fits its row -/
structure Drawn (n : Nat) (rs : List (List Dd)) : Prop where
  len : rs.length = 8
  few : ∀ r : Nat, (rs.getD r []).length ≤ n
  his : ∀ r : Nat, His (rs.getD r [])
theorem mem_getD {rs : List (List Dd)} {row : List Dd} (h : row ∈ rs) : ∃ r : Nat, rs.getD r [] = row := by
  obtain ⟨r, hr, e⟩ := List.mem_iff_getElem.mp h
  exact ⟨r, by rw [List.getD_eq_getElem?_getD, List.getElem?_eq_getElem hr, e]; rfl⟩
theorem Drawn.rws {n : Nat} {rs : List (List Dd)} (w : Drawn n rs) (hn : n ≤ 100) : Rws rs where
  len := w.len
  ok := fun row h d hd => by
    obtain ⟨r, rfl⟩ := mem_getD h
    obtain ⟨i, hi, e⟩ := List.mem_iff_getElem.mp hd
    exact own_ok (w.his r i d (by rw [List.getElem?_eq_getElem hi, e]))
  few := fun row h => by
    obtain ⟨r, rfl⟩ := mem_getD h
    exact Nat.le_trans (w.few r) hn
  x := fun row h d hd m rm bh k x e => by
    obtain ⟨r, rfl⟩ := mem_getD h
    obtain ⟨i, hi, e2⟩ := List.mem_iff_getElem.mp hd
    have := w.his r i d (by rw [List.getElem?_eq_getElem hi, e2])
    subst e
    obtain ⟨h1, h2, _, _, h5, _⟩ := this
    have := (mods_ok _ h1).2.1
    exact ⟨by omega, by omega, by omega⟩
theorem vis_drawn {n : Nat} {rs : List (List Dd)} (w : Drawn n rs) (c : List Nat) : Drawn n (vis rs c) where
  len := vis_len
  few := fun r => by
    by_cases h : r < 8
    · rw [vis_get h, List.length_take]
      have := w.few r; omega
    · rw [List.getD_eq_getElem?_getD, List.getElem?_eq_none (by rw [vis_len]; omega)]; simp
  his := fun r i d e => by
    by_cases h : r < 8
    · rw [vis_get h] at e ⊢
      rw [List.getElem?_take] at e
      split at e
      · rename_i z
        have := w.his r i d e
        rw [List.take_take, Nat.min_eq_left (by omega)]
        exact this
      · cases e
    · have hn : (vis rs c).getD r [] = [] := by rw [List.getD_eq_getElem?_getD, List.getElem?_eq_none (by rw [vis_len]; omega)]; rfl
      rw [hn] at e; simp at e
/-- one more deed of a replica -/
def addD (rs : List (List Dd)) (r : Nat) (d : Dd) : List (List Dd) := rs.set r (rs.getD r [] ++ [d])
theorem addD_len {rs : List (List Dd)} {r : Nat} {d : Dd} : (addD rs r d).length = rs.length := by simp [addD]
theorem addD_get {rs : List (List Dd)} {r k : Nat} {d : Dd} (hr : r < rs.length) : (addD rs r d).getD k [] = if k = r then rs.getD r [] ++ [d] else rs.getD k [] := by
  unfold addD
  rw [List.getD_eq_getElem?_getD]
  by_cases h : k = r
  · subst h
    rw [List.getElem?_set_self hr, if_pos rfl]; rfl
  · rw [List.getElem?_set_ne (Ne.symm h), if_neg h, List.getD_eq_getElem?_getD]
theorem Drawn.add {n : Nat} {rs : List (List Dd)} (w : Drawn n rs) {r : Nat} (hr : r < 8) {d : Dd} (o : Own (rs.getD r []) d) : Drawn (n + 1) (addD rs r d) where
  len := by rw [addD_len, w.len]
  few := fun k => by
    rw [addD_get (by rw [w.len]; exact hr)]
    split
    · have := w.few r; simp at this ⊢; omega
    · have := w.few k; omega
  his := fun k => by
    rw [addD_get (by rw [w.len]; exact hr)]
    split
    · exact his_snoc (w.his r) o
    · exact w.his k
/-- counts that lie within the rows -/
def Within (rs : List (List Dd)) (c : List Nat) : Prop := c.length = 8 ∧ ∀ k, k < 8 → c.getD k 0 ≤ (rs.getD k []).length
theorem vis_add {rs : List (List Dd)} {c : List Nat} {r : Nat} {d : Dd} (hl : rs.length = 8) (hr : r < 8) (h : Within rs c) : vis (addD rs r d) c = vis rs c := by
  unfold vis
  apply List.map_congr_left
  intro k hk
  have hk : k < 8 := by simpa using hk
  rw [addD_get (by rw [hl]; exact hr)]
  split
  · rename_i e
    subst e
    rw [List.take_append_of_le_length (h.2 k hk)]
  · rfl
theorem within_add {rs : List (List Dd)} {c : List Nat} {r : Nat} {d : Dd} (hl : rs.length = 8) (hr : r < 8) (h : Within rs c) : Within (addD rs r d) c := ⟨h.1, fun k hk => by
  have := h.2 k hk
  rw [addD_get (by rw [hl]; exact hr)]
  split
  · rename_i e
    subst e
    rw [List.length_append]; omega
  · exact this⟩
/-- the counts, one more of r -/
theorem set_get {c : List Nat} {r k n : Nat} (hr : r < c.length) : (c.set r n).getD k 0 = if k = r then n else c.getD k 0 := by
  rw [List.getD_eq_getElem?_getD]
  by_cases h : k = r
  · subst h
    rw [List.getElem?_set_self hr, if_pos rfl]; rfl
  · rw [List.getElem?_set_ne (Ne.symm h), if_neg h, List.getD_eq_getElem?_getD]
theorem cl_add {rs : List (List Dd)} {c : List Nat} {r : Nat} {d : Dd} (hl : rs.length = 8) (hr : r < 8) (h : Within rs c) (hc : Cl (vis rs c)) (ho : c.getD r 0 = (rs.getD r []).length) (hd : Dep (Mks (vis rs c) (mOf d)) d) :
    Cl (vis (addD rs r d) (c.set r ((rs.getD r []).length + 1))) := by
  have part : Part (vis rs c) (vis (addD rs r d) (c.set r ((rs.getD r []).length + 1))) := vis_part fun k hk i hi e he => by
    rw [addD_get (by rw [hl]; exact hr), set_get (by rw [h.1]; exact hr)]
    split
    · rename_i z
      subst z
      have := (List.getElem?_eq_some_iff.mp he).1
      exact ⟨by rw [List.getElem?_append_left this]; exact he, by omega⟩
    · exact ⟨he, hi⟩
  intro k hk i e he
  rw [vis_at hk] at he
  split at he
  case isFalse => cases he
  rename_i z
  rw [addD_get (by rw [hl]; exact hr)] at he
  rw [set_get (by rw [h.1]; exact hr)] at z
  by_cases hkr : k = r
  · subst hkr
    rw [if_pos rfl] at he z
    by_cases hi : i < (rs.getD k []).length
    · rw [List.getElem?_append_left hi] at he
      exact (hc k hk i e (by rw [vis_at hk, if_pos (by omega)]; exact he)).mono fun b m => m.mono part
    · have : i = (rs.getD k []).length := by omega
      subst this
      rw [List.getElem?_append_right (Nat.le_refl _), Nat.sub_self] at he
      cases he
      exact hd.mono fun b m => m.mono part
  · rw [if_neg hkr] at he z
    exact (hc k hk i e (by rw [vis_at hk, if_pos z]; exact he)).mono fun b m => m.mono part
end LAW

set_option Elab.async false
set_option linter.all false
set_option maxRecDepth 100000
set_option maxHeartbeats 4000000
/-! K01MathM: the drawn triples. -/
namespace LAW
open P
/-- a triple: replica, place, deed -/
abbrev Tr := Nat × Nat × Dd
def dT (t : Tr) : D := .tup [.int t.1, .int t.2.1, dD t.2.2]
def rowsOf (l : List Tr) : List (List Dd) := l.foldl (fun rs t => addD rs t.1 t.2.2) (List.replicate 8 [])
theorem rowsOf_snoc (l : List Tr) (t : Tr) : rowsOf (l ++ [t]) = addD (rowsOf l) t.1 t.2.2 := by simp [rowsOf, List.foldl_append]
abbrev tR (rs : List (List Dd)) : T := .lT (rs.map fun row => .ls (row.map dD))
abbrev tC (cs : List (List Nat)) : T := .lT (cs.map fun c => .ls (In c))
theorem tR_fz (rs : List (List Dd)) : T.fzs (rs.map fun row => T.ls (row.map dD)) = some (rs.map dR) := by
  have := fzs_ls (rs.map fun row => row.map dD)
  rw [List.map_map, List.map_map] at this
  exact this
theorem flat_dM (m : Mrk) : (dM m).flat = true := by simp [dM]
theorem flat_dD (d : Dd) : (dD d).flat = true := by
  cases d with
  | bk p => simp [dD]
  | ch m rm bh n x =>
    have : (rm.map dM).all D.flat = true := by rw [List.all_map, List.all_eq_true]; intro b _; exact flat_dM b
    have h2 : (dO bh).flat = true := by cases bh <;> simp [dO, flat_dM]
    simp [dD_ch, h2]
    intro a b _
    exact flat_dM (a, b)
theorem flat_tR (rs : List (List Dd)) : (tR rs).flat = true := by
  rw [tfl_lT, List.all_map, List.all_eq_true]
  intro row _
  show T.flat (.ls (row.map dD)) = true
  rw [tfl_ls, List.all_map, List.all_eq_true]
  intro d _
  exact flat_dD d
def mxC (a b : List Nat) : List Nat := (List.range 8).map fun k => max (a.getD k 0) (b.getD k 0)
theorem mxC_get {a b : List Nat} {k : Nat} (h : k < 8) : (mxC a b).getD k 0 = max (a.getD k 0) (b.getD k 0) := by
  unfold mxC
  rw [List.getD_eq_getElem?_getD, List.getElem?_map, List.getElem?_range h]
  rfl
theorem mxC_len {a b : List Nat} : (mxC a b).length = 8 := by simp [mxC]
/-- what holds of the rows and the counts behind n triples -/
structure Ist (most n : Nat) (l : List Tr) (cs : List (List Nat)) : Prop where
  tl : l.length = n
  dr : Drawn n (rowsOf l)
  cl : cs.length = most
  wi : ∀ c ∈ cs, Within (rowsOf l) c
  clo : ∀ c ∈ cs, Cl (vis (rowsOf l) c)
  ful : ∀ (q : Nat) (c : List Nat), cs[q]? = some c → c.getD q 0 = ((rowsOf l).getD q []).length
  non : ∀ q : Nat, most ≤ q → (rowsOf l).getD q [] = []
  tr : ∀ t ∈ l, t.1 < most
theorem ist_nil {most : Nat} : Ist most 0 [] (List.replicate most (List.replicate 8 0)) where
  tl := rfl
  dr := ⟨rfl, fun r => by
    show ((List.replicate 8 ([] : List Dd)).getD r []).length ≤ 0
    rw [List.getD_eq_getElem?_getD, List.getElem?_replicate]; split <;> simp, fun r i d e => by
    have : (rowsOf []).getD r [] = [] := by
      show (List.replicate 8 ([] : List Dd)).getD r [] = []
      rw [List.getD_eq_getElem?_getD, List.getElem?_replicate]; split <;> rfl
    rw [this] at e; cases e⟩
  cl := by simp
  wi := fun c h => by
    rw [List.eq_of_mem_replicate h]
    refine ⟨by simp, fun k hk => ?_⟩
    rw [List.getD_eq_getElem?_getD, List.getElem?_replicate, if_pos hk]
    exact Nat.zero_le _
  clo := fun c h => by
    rw [List.eq_of_mem_replicate h]
    intro r hr i d e
    rw [vis_at hr] at e
    split at e
    · rename_i z
      rw [List.getD_eq_getElem?_getD, List.getElem?_replicate, if_pos hr] at z
      exact absurd z (Nat.not_lt_zero _)
    · cases e
  ful := fun q c h => by
    have : c = List.replicate 8 0 := List.eq_of_mem_replicate (List.mem_of_getElem? h)
    subst this
    have e1 : (rowsOf []).getD q [] = [] := by
      show (List.replicate 8 ([] : List Dd)).getD q [] = []
      rw [List.getD_eq_getElem?_getD, List.getElem?_replicate]; split <;> rfl
    rw [e1, List.getD_eq_getElem?_getD, List.getElem?_replicate]
    split <;> rfl
  non := fun q _ => by
    show (List.replicate 8 ([] : List Dd)).getD q [] = []
    rw [List.getD_eq_getElem?_getD, List.getElem?_replicate]; split <;> rfl
  tr := fun t h => by cases h
/-- the turn of a replica that learns of another one's deeds -/
theorem Ist.learn {most n : Nat} {l : List Tr} {cs : List (List Nat)} (I : Ist most n l cs) (hm : most ≤ 8) {r q : Nat} {a b : List Nat} (ha : cs[r]? = some a) (hb : cs[q]? = some b) : Ist most n l (cs.set r (mxC a b)) := by
  have wa := I.wi a (List.mem_of_getElem? ha)
  have wb := I.wi b (List.mem_of_getElem? hb)
  have hrl : r < cs.length := (List.getElem?_eq_some_iff.mp ha).1
  have w : Within (rowsOf l) (mxC a b) := ⟨mxC_len, fun k hk => by rw [mxC_get hk]; have := wa.2 k hk; have := wb.2 k hk; omega⟩
  have c : Cl (vis (rowsOf l) (mxC a b)) := cl_max (I.clo a (List.mem_of_getElem? ha)) (I.clo b (List.mem_of_getElem? hb)) fun k hk => mxC_get hk
  refine ⟨I.tl, I.dr, by rw [List.length_set]; exact I.cl, fun x hx => ?_, fun x hx => ?_, fun k x hk => ?_, I.non, I.tr⟩
  · rcases List.mem_or_eq_of_mem_set hx with hx | hx
    · exact I.wi x hx
    · rw [hx]; exact w
  · rcases List.mem_or_eq_of_mem_set hx with hx | hx
    · exact I.clo x hx
    · rw [hx]; exact c
  · by_cases hkr : k = r
    · subst hkr
      rw [List.getElem?_set_self hrl] at hk
      cases hk
      have hk8 : k < 8 := by rw [I.cl] at hrl; omega
      rw [mxC_get hk8]
      have h1 := I.ful k a ha
      have h2 := wb.2 k hk8
      omega
    · rw [List.getElem?_set_ne (Ne.symm hkr)] at hk
      exact I.ful k x hk
theorem Ist.add {most n : Nat} {l : List Tr} {cs : List (List Nat)} (I : Ist most n l cs) (hm : most ≤ 8) {r p : Nat} {c : List Nat} {d : Dd} (hc : cs[r]? = some c) (g : Good (vis (rowsOf l) c) ((rowsOf l).getD r []) d) :
    Ist most (n + 1) (l ++ [(r, p, d)]) (cs.set r (c.set r (((rowsOf l).getD r []).length + 1))) := by
  have hrl : r < cs.length := (List.getElem?_eq_some_iff.mp hc).1
  have hr : r < 8 := by rw [I.cl] at hrl; omega
  have hl := I.dr.len
  have wc := I.wi c (List.mem_of_getElem? hc)
  have er := rowsOf_snoc l (r, p, d)
  simp only at er
  refine ⟨by simp [I.tl], by rw [er]; exact I.dr.add hr g.own, by rw [List.length_set]; exact I.cl, fun x hx => ?_, fun x hx => ?_, fun k x hk => ?_, fun q hq => ?_, fun t ht => ?_⟩
  · rw [er]
    rcases List.mem_or_eq_of_mem_set hx with hx | hx
    · exact within_add hl hr (I.wi x hx)
    · subst hx
      refine ⟨by rw [List.length_set]; exact wc.1, fun k hk => ?_⟩
      rw [set_get (by rw [wc.1]; exact hr), addD_get (by rw [hl]; exact hr)]
      split
      · simp
      · exact wc.2 k hk
  · rw [er]
    rcases List.mem_or_eq_of_mem_set hx with hx | hx
    · rw [vis_add hl hr (I.wi x hx)]; exact I.clo x hx
    · subst hx
      exact cl_add hl hr wc (I.clo c (List.mem_of_getElem? hc)) (I.ful r c hc) g.dep
  · rw [er, addD_get (by rw [hl]; exact hr)]
    by_cases hkr : k = r
    · subst hkr
      rw [List.getElem?_set_self hrl] at hk
      cases hk
      rw [set_get (by rw [wc.1]; exact hr), if_pos rfl, if_pos rfl]
      simp
    · rw [List.getElem?_set_ne (Ne.symm hkr)] at hk
      rw [if_neg hkr]
      exact I.ful k x hk
  · rw [er, addD_get (by rw [hl]; exact hr)]
    rw [I.cl] at hrl
    rw [if_neg (by omega)]
    exact I.non q hq
  · rcases List.mem_append.mp ht with ht | ht
    · exact I.tr t ht
    · rw [List.mem_singleton.mp ht]
      rw [I.cl] at hrl; exact hrl
/-- all rows together are closed -/
theorem Ist.closed {most n : Nat} {l : List Tr} {cs : List (List Nat)} (I : Ist most n l cs) : Cl (rowsOf l) := fun r hr i d e => by
  by_cases hm : r < most
  · have hrl : r < cs.length := by rw [I.cl]; exact hm
    have hc : cs[r]? = some cs[r] := List.getElem?_eq_getElem hrl
    have hmem := List.getElem_mem hrl
    have p : Part (vis (rowsOf l) cs[r]) (rowsOf l) := fun k hk i d e => by
      rw [vis_at hk] at e
      split at e
      · exact e
      · cases e
    refine (I.clo _ hmem r hr i d ?_).mono fun b m => m.mono p
    rw [vis_at hr, if_pos ?_]
    · exact e
    · rw [I.ful r _ hc]
      exact (List.getElem?_eq_some_iff.mp e).1
  · rw [I.non r (by omega)] at e; cases e
end LAW

set_option Elab.async false
set_option linter.all false
set_option maxRecDepth 100000
set_option maxHeartbeats 4000000
/-! K01MathN: the triples are drawn. -/
namespace LAW
open P
theorem fn_ex2 {n : Nat} {m1 : PS} {ts : List T} {Q : List Tr → List (List Nat) → Prop} (h : ∃ l cs e, m1 (ts ++ List.replicate (n - ts.length) .hole) = .rt (.ls (l.map dT)) e ∧ Q l cs) : ∃ l cs, pFn n [] m1 ts = .ok (.ls (l.map dT)) [] ∧ Q l cs := by
  obtain ⟨l, cs, e, h1, h2⟩ := h
  exact ⟨l, cs, by simp [h1], h2⟩
theorem tC_at {cs : List (List Nat)} {r : Nat} {c : List Nat} (h : cs[r]? = some c) : atI (cs.map fun c => T.ls (In c)) (r : Int) = some (.ls (In c)) := by
  rw [atI_nat, List.getElem?_map, h]; rfl
theorem tR_at {rs : List (List Dd)} {r : Nat} {c : List Dd} (h : rs[r]? = some c) : atI (rs.map fun row => T.ls (row.map dD)) (r : Int) = some (.ls (c.map dD)) := by
  rw [atI_nat, List.getElem?_map, h]; rfl
def z8 : List Nat := List.replicate 8 0
theorem ltriples_ok {vs : List Nat} {start steps most : Nat} (h1 : 1 ≤ most) (h8 : most ≤ 8) (hs : steps ≤ 30) : ∃ l cs, p_law_triples [.leaf (.lst (In vs)), .leaf (.int start), .leaf (.int steps), .leaf (.int most)] = .ok (.ls (l.map dT)) [] ∧ Ist most steps l cs := by
  unfold p_law_triples
  refine fn_ex2 ?_
  simp only [List.length_cons, List.length_nil, List.cons_append, List.nil_append, List.replicate]
  rw [seq_nx (e1 := [.leaf (.lst (In vs)), .leaf (.int start), .leaf (.int steps), .leaf (.int most), tR (rowsOf []), .hole, .hole, .hole, .hole, .hole, .hole, .hole, .hole]) (by
    rw [s_asg, lcT_run (E := [.leaf (.lst (In vs)), .leaf (.int start), .leaf (.int steps), .leaf (.int most), .hole, .hole, .hole, .hole, .hole, .hole, .hole, .hole, .hole]) (ds := rng 0 8) (e1 := [.leaf (.lst (In vs)), .leaf (.int start), .leaf (.int steps), .leaf (.int most), .hole, .hole, .hole, .hole, .hole, .hole, .hole, .hole, .hole]) (f := fun _ => .ls []) (by simp) (by simp) (by rw [rng_len]; omega) (by
      intro d hd
      exact ⟨_, _, s_one, by simp; rfl, by simp⟩)]
    rfl)]
  rw [seq_nx (e1 := [.leaf (.lst (In vs)), .leaf (.int start), .leaf (.int steps), .leaf (.int most), tR (rowsOf []), .hole, tC [], .hole, .hole, .hole, .hole, .hole, .hole]) (by simp)]
  rw [seq_nx (e1 := [.leaf (.lst (In vs)), .leaf (.int start), .leaf (.int steps), .leaf (.int most), tR (rowsOf []), .hole, tC (List.replicate most z8), .hole, .hole, .hole, .hole, .hole, .hole]) (by
    have hm : most ≤ 1000000000 := by omega
    simp [hm]
    generalize hF : forL _ _ _ _ _ = F
    obtain ⟨k, rfl, e⟩ := for_st hF (fun (k : Nat) => [.leaf (.lst (In vs)), .leaf (.int start), .leaf (.int steps), .leaf (.int most), tR (rowsOf []), .hole, tC (List.replicate k z8), .hole, .hole, .hole, .hole, .hole, .hole]) (fun j k => k = j) 0 (by simp) rfl (by
      rintro j d k hd rfl
      obtain ⟨hj, rfl⟩ := rng_get hd
      refine ⟨k + 1, ?_, rfl⟩
      have hk : k < 16000000 := by omega
      simp [hk]
      generalize hL : lcR _ _ _ _ _ _ = L'
      have hl := lc_ma hL [.leaf (.lst (In vs)), .leaf (.int start), .leaf (.int steps), .leaf (.int most), tR (rowsOf []), .leaf (.int k), tC (List.replicate k z8), .hole, .hole, .hole, .hole, .hole, .hole] (fun _ => .int 0) (by simp) (by rw [rng_len]; omega) (by
        intro d hd
        obtain ⟨i, hi, rfl⟩ := rng_mem hd
        simp)
      rw [hl]
      simp [hk]
      rw [List.replicate_succ']
      rfl)
    subst e
    rw [rng_len])]
  rw [seq_nx (e1 := [.leaf (.lst (In vs)), .leaf (.int start), .leaf (.int steps), .leaf (.int most), tR (rowsOf []), .hole, tC (List.replicate most z8), .hole, .ls (([] : List Tr).map dT), .hole, .hole, .hole, .hole]) (by simp)]
  suffices hh : ∃ l cs, sFor [5, 7, 9, 10, 11, 12] (iR1 (dCons (pVar 2) dNil)) (.one 5) (sSeq (sAsg 9 (pLf (pFz (pAdd (pVar 1) (pBin gMul (pC (.int 16)) (pVar 5))))))
    (sSeq (sAsg 10 (pLf (pBin gMod (pFz (pCall 2 p_law_at (dCons (pVar 0) (dCons (pVar 9) dNil)))) (pVar 3))))
    (sSeq (sAsg 11 (pLf (pBin gMod (pFz (pCall 2 p_law_at (dCons (pVar 0) (dCons (pFz (pAdd (pVar 9) (pC (.int 1)))) dNil)))) (pFz (pAdd (pVar 3) (pC (.int 1)))))))
    (sSeq (sIf (tCmp cLt (pVar 11) (pVar 3)) (sSetIT (.var 6) (pVar 10) (pLc (iR1 (dCons (pC (.int 8)) dNil)) (.one 7) tYes (pCB gMax (dCons (pBin gIx (pVp (.ix (.var 6) (pVar 10))) (pVar 7)) (dCons (pBin gIx (pVp (.ix (.var 6) (pVar 11))) (pVar 7)) dNil))) [7])) sNx)
    (sSeq (sAsg 12 (pLf (pFz (pCall 4 p_law_deed (dCons (pVar 0) (dCons (pFz (pAdd (pVar 9) (pC (.int 2)))) (dCons (pFz (pCallBB p_law_visible 4 (.ix (.var 6) (pVar 10)))) (dCons (pVar 10) dNil))))))))
    (sSeq (sDrop (pLf (pUpd (.ix (.var 4) (pVar 10)) (dCons (pVar 12) dNil) uApp)))
    (sSeq (sSetI (.ix (.var 6) (pVar 10)) (pVar 10) (pCB gLen (dCons (pVp (.ix (.var 4) (pVar 10))) dNil)))
    (sDrop (pLf (pUpd (.var 8) (dCons (pTup (dCons (pVar 10) (dCons (pCB gLen (dCons (pVp (.ix (.var 4) (pVar 10))) dNil)) (dCons (pVar 12) dNil)))) dNil) uApp))))))))))
      [.leaf (.lst (In vs)), .leaf (.int start), .leaf (.int steps), .leaf (.int most), tR (rowsOf []), .hole, tC (List.replicate most z8), .hole, .ls (([] : List Tr).map dT), .hole, .hole, .hole, .hole] =
      .nx [.leaf (.lst (In vs)), .leaf (.int start), .leaf (.int steps), .leaf (.int most), tR (rowsOf l), .hole, tC cs, .hole, .ls (l.map dT), .hole, .hole, .hole, .hole] ∧ Ist most steps l cs by
    obtain ⟨l, cs, h, I⟩ := hh
    rw [seq_nx h]
    exact ⟨l, cs, _, by simp; rfl, I⟩
  have hst : steps ≤ 1000000000 := by omega
  rw [s_for]
  rw [show (iR1 (dCons (pVar 2) dNil) [.leaf (.lst (In vs)), .leaf (.int start), .leaf (.int steps), .leaf (.int most), tR (rowsOf []), .hole, tC (List.replicate most z8), .hole, .ls (([] : List Tr).map dT), .hole, .hole, .hole, .hole]) = .ok (rng 0 steps) [.leaf (.lst (In vs)), .leaf (.int start), .leaf (.int steps), .leaf (.int most), tR (rowsOf []), .hole, tC (List.replicate most z8), .hole, .ls (([] : List Tr).map dT), .hole, .hole, .hole, .hole] by simp [hst]]
  rw [r_st]
  generalize hF : forL _ _ _ _ _ = F
  obtain ⟨⟨l, cs⟩, rfl, I⟩ := for_st hF (fun (s : List Tr × List (List Nat)) => [.leaf (.lst (In vs)), .leaf (.int start), .leaf (.int steps), .leaf (.int most), tR (rowsOf s.1), .hole, tC s.2, .hole, .ls (s.1.map dT), .hole, .hole, .hole, .hole]) (fun j s => Ist most j s.1 s.2) ([], List.replicate most z8) (by simp) ist_nil (by
    rintro j d ⟨l, cs⟩ hd I
    obtain ⟨hj, rfl⟩ := rng_get hd
    simp only at I
    rw [show (0 : Int) + (j : Nat) = (j : Nat) by omega]
    simp only [turn_def, s_one, List.set]
    obtain ⟨b, hb⟩ : ∃ b : Nat, b = start + 16 * j := ⟨_, rfl⟩
    rw [seq_nx (e1 := [.leaf (.lst (In vs)), .leaf (.int start), .leaf (.int steps), .leaf (.int most), tR (rowsOf l), .leaf (.int j), tC cs, .hole, .ls (l.map dT), .leaf (.int b), .hole, .hole, .hole]) (by simp [hb])]
    obtain ⟨r, hr⟩ : ∃ r : Nat, r = atN vs b % most := ⟨_, rfl⟩
    have hrm : r < most := by rw [hr]; exact Nat.mod_lt _ (by omega)
    have hm0 : 0 < most := by omega
    rw [seq_nx (e1 := [.leaf (.lst (In vs)), .leaf (.int start), .leaf (.int steps), .leaf (.int most), tR (rowsOf l), .leaf (.int j), tC cs, .hole, .ls (l.map dT), .leaf (.int b), .leaf (.int r), .hole, .hole]) (by simp [at_ok, hr, hm0, Int.natCast_emod])]
    obtain ⟨o, ho⟩ : ∃ o : Nat, o = atN vs (b + 1) % (most + 1) := ⟨_, rfl⟩
    have hm1 : (0 : Int) < (most : Int) + 1 := by omega
    have eb1 : ((b : Int) + 1) = ((b + 1 : Nat) : Int) := by omega
    have a1 := at_ok vs (b + 1)
    rw [← eb1] at a1
    rw [seq_nx (e1 := [.leaf (.lst (In vs)), .leaf (.int start), .leaf (.int steps), .leaf (.int most), tR (rowsOf l), .leaf (.int j), tC cs, .hole, .ls (l.map dT), .leaf (.int b), .leaf (.int r), .leaf (.int o), .hole]) (by simp [a1, ho, hm1, Int.natCast_emod])]
    obtain ⟨cs', hcs, I'⟩ : ∃ cs', sIf (tCmp cLt (pVar 11) (pVar 3)) (sSetIT (.var 6) (pVar 10) (pLc (iR1 (dCons (pC (.int 8)) dNil)) (.one 7) tYes (pCB gMax (dCons (pBin gIx (pVp (.ix (.var 6) (pVar 10))) (pVar 7)) (dCons (pBin gIx (pVp (.ix (.var 6) (pVar 11))) (pVar 7)) dNil))) [7])) sNx
        [.leaf (.lst (In vs)), .leaf (.int start), .leaf (.int steps), .leaf (.int most), tR (rowsOf l), .leaf (.int j), tC cs, .hole, .ls (l.map dT), .leaf (.int b), .leaf (.int r), .leaf (.int o), .hole] =
        .nx [.leaf (.lst (In vs)), .leaf (.int start), .leaf (.int steps), .leaf (.int most), tR (rowsOf l), .leaf (.int j), tC cs', .hole, .ls (l.map dT), .leaf (.int b), .leaf (.int r), .leaf (.int o), .hole] ∧ Ist most j l cs' := by
      by_cases hom : o < most
      · obtain ⟨a, ha⟩ : ∃ a, cs[r]? = some a := ⟨_, List.getElem?_eq_getElem (by rw [I.cl]; exact hrm)⟩
        obtain ⟨a2, ha2⟩ : ∃ a, cs[o]? = some a := ⟨_, List.getElem?_eq_getElem (by rw [I.cl]; exact hom)⟩
        have wa := (I.wi a (List.mem_of_getElem? ha)).1
        have wb := (I.wi a2 (List.mem_of_getElem? ha2)).1
        have g1 := tC_at ha
        have g2 := tC_at ha2
        have hx : ixN cs.length (r : Int) = some r := ixN_nat (by rw [I.cl]; exact hrm)
        refine ⟨_, ?_, I.learn h8 ha ha2⟩
        simp [hom, g1, hx]
        generalize hL : lcR _ _ _ _ _ _ = L'
        have hl := lc_ma hL [.leaf (.lst (In vs)), .leaf (.int start), .leaf (.int steps), .leaf (.int most), tR (rowsOf l), .leaf (.int j), tC cs, .hole, .ls (l.map dT), .leaf (.int b), .leaf (.int r), .leaf (.int o), .hole] (fun d => match d with | .int k => .int (max (a.getD k.toNat 0) (a2.getD k.toNat 0) : Nat) | d => d) (by simp) (by rw [rng_len]; omega) (by
          intro d hd
          obtain ⟨k, hk, rfl⟩ := rng_mem hd
          rw [show (0 : Int) + (k : Nat) = (k : Nat) by omega]
          have q1 : atI (In a) (k : Int) = some (.int (a.getD k 0 : Nat)) := by
            rw [atI_nat, List.getElem?_map, List.getElem?_eq_getElem (by omega), List.getD_eq_getElem?_getD, List.getElem?_eq_getElem (by omega)]; rfl
          have q2 : atI (In a2) (k : Int) = some (.int (a2.getD k 0 : Nat)) := by
            rw [atI_nat, List.getElem?_map, List.getElem?_eq_getElem (by omega), List.getD_eq_getElem?_getD, List.getElem?_eq_getElem (by omega)]; rfl
          have := max_if (a.getD k 0) (a2.getD k 0)
          show lcT1 _ _ _ _ _ _ = .ok (some (.int ((max (a.getD k 0) (a2.getD k 0) : Nat) : Int))) _
          generalize a.getD k 0 = x at q1 this ⊢
          generalize a2.getD k 0 = y at q2 this ⊢
          simp [g1, g2, q1, q2]
          omega)
        rw [hl]
        simp [g1, hx]
        rw [rng_eq, List.map_map]
        unfold mxC In
        rw [List.map_map]
        congr 2
      · exact ⟨cs, by simp [hom], I⟩
    rw [seq_nx hcs]
    clear I hcs
    have I := I'
    clear I'
    -- the deed
    obtain ⟨c, hc⟩ : ∃ c, cs'[r]? = some c := ⟨_, List.getElem?_eq_getElem (by rw [I.cl]; exact hrm)⟩
    have wc := I.wi c (List.mem_of_getElem? hc)
    have ful := I.ful r c hc
    have hl8 := I.dr.len
    have hr8 : r < 8 := by omega
    have dr := vis_drawn I.dr c
    have wv := dr.rws (by omega)
    obtain ⟨own, hown⟩ : ∃ own, (rowsOf l)[r]? = some own := ⟨_, List.getElem?_eq_getElem (by omega)⟩
    have hgo : (rowsOf l).getD r [] = own := by rw [List.getD_eq_getElem?_getD, hown]; rfl
    rw [hgo] at ful
    have hvo : (vis (rowsOf l) c)[r]? = some own := by
      have hv := vis_get (rs := rowsOf l) (c := c) hr8
      rw [hgo, ful, List.take_length] at hv
      rw [← hv, List.getD_eq_getElem?_getD, List.getElem?_eq_getElem (by rw [vis_len]; omega)]; rfl
    obtain ⟨d, hd, gd⟩ := ldeed_ok wv (I.clo c (List.mem_of_getElem? hc)) (vs := vs) (i := b + 2) hvo
    have hv := lvisible_ok (I.dr.rws (by omega)) wc.1
    have gc := tC_at hc
    have gr := tR_at hown
    have fz1 := tR_fz (rowsOf l)
    have fl1 := flat_tR (vis (rowsOf l) c)
    have fz2 := tR_fz (vis (rowsOf l) c)
    have eb2 : ((b : Int) + 2) = ((b + 2 : Nat) : Int) := by omega
    rw [← eb2] at hd
    rw [seq_nx (e1 := [.leaf (.lst (In vs)), .leaf (.int start), .leaf (.int steps), .leaf (.int most), tR (rowsOf l), .leaf (.int j), tC cs', .hole, .ls (l.map dT), .leaf (.int b), .leaf (.int r), .leaf (.int o), .leaf (dD d)]) (by simp [gc, fz1, hv, fl1, fz2, hd])]
    have hof : own.length ≤ j := by have := I.dr.few r; rw [hgo] at this; exact this
    have hof2 : own.length < 16000000 := by omega
    have hof3 : own.length + 1 ≤ 16000000 := by omega
    have hx1 : ixN (rowsOf l).length (r : Int) = some r := ixN_nat (by omega)
    have hx2 : ixN cs'.length (r : Int) = some r := ixN_nat (by rw [I.cl]; exact hrm)
    have hx3 : ixN c.length (r : Int) = some r := ixN_nat (by rw [wc.1]; exact hr8)
    have hj2 : l.length < 16000000 := by rw [I.tl]; omega
    have ea : (rowsOf l).set r (own ++ [d]) = addD (rowsOf l) r d := by unfold addD; rw [hgo]
    rw [seq_nx (e1 := [.leaf (.lst (In vs)), .leaf (.int start), .leaf (.int steps), .leaf (.int most), tR (addD (rowsOf l) r d), .leaf (.int j), tC cs', .hole, .ls (l.map dT), .leaf (.int b), .leaf (.int r), .leaf (.int o), .leaf (dD d)]) (by
      simp [gr, hx1, hof2]
      rw [← ea, List.map_set]
      simp)]
    have gr2 : atI ((addD (rowsOf l) r d).map fun row => T.ls (row.map dD)) (r : Int) = some (.ls ((own ++ [d]).map dD)) := tR_at (by rw [← ea, List.getElem?_set_self (by omega)])
    rw [seq_nx (e1 := [.leaf (.lst (In vs)), .leaf (.int start), .leaf (.int steps), .leaf (.int most), tR (addD (rowsOf l) r d), .leaf (.int j), tC (cs'.set r (c.set r (own.length + 1))), .hole, .ls (l.map dT), .leaf (.int b), .leaf (.int r), .leaf (.int o), .leaf (dD d)]) (by
      simp [gr2, gc, hx2, hx3, hof3])]
    refine ⟨(l ++ [(r, own.length + 1, d)], cs'.set r (c.set r (own.length + 1))), ?_, ?_⟩
    · simp only [rowsOf_snoc]
      simp [gr2, hj2, hof3, dT]
    · have := I.add h8 hc (d := d) (p := own.length + 1) (by rw [hgo]; exact gd)
      rw [hgo] at this
      exact this)
  rw [rng_len] at I
  exact ⟨l, cs, rfl, I⟩
end LAW

set_option Elab.async false
set_option linter.all false
set_option maxRecDepth 100000
set_option maxHeartbeats 4000000
/-! K01MathO: rows and deeds from triples. -/
namespace LAW
open P
abbrev oD (rs : List (List Dd)) : T := .is 0 [("rows", tR rs)]
theorem fz_oD (rs : List (List Dd)) : (oD rs).fz = some (.ins 0 [("rows", dRs rs)]) := by
  simp [tR_fz]
theorem snoc_ind {α : Type} {Q : List α → Prop} (h0 : Q []) (h1 : ∀ l a, Q l → Q (l ++ [a])) (l : List α) : Q l := by
  have : ∀ l : List α, Q l.reverse := by
    intro l
    induction l with
    | nil => exact h0
    | cons a l ih => rw [List.reverse_cons]; exact h1 _ _ ih
  have := this l.reverse
  rw [List.reverse_reverse] at this
  exact this
theorem rowsOf_len : ∀ l : List Tr, (rowsOf l).length = 8 := fun l => snoc_ind (Q := fun l => (rowsOf l).length = 8) rfl (fun l t ih => by rw [rowsOf_snoc, addD_len, ih]) l
theorem take_rows {l : List Tr} {k : Nat} {t : Tr} (h : l[k]? = some t) : rowsOf (l.take (k + 1)) = addD (rowsOf (l.take k)) t.1 t.2.2 := by
  rw [List.take_add_one, h]
  exact rowsOf_snoc _ _
theorem rowsOf_few (l : List Tr) : (∀ t ∈ l, t.1 < 8) → ∀ r : Nat, ((rowsOf l).getD r []).length ≤ l.length := by
  refine snoc_ind (Q := fun l => (∀ t ∈ l, t.1 < 8) → ∀ r : Nat, ((rowsOf l).getD r []).length ≤ l.length) ?_ ?_ l
  · intro _ r
    exact (ist_nil (most := 0)).dr.few r
  · intro l t ih h r
    have := ih (fun t ht => h t (List.mem_append_left _ ht))
    rw [rowsOf_snoc, addD_get (by rw [rowsOf_len]; exact h t (by simp))]
    split
    · have := this t.1; simp only [List.length_append, List.length_cons, List.length_nil]; omega
    · have := this r; simp only [List.length_append, List.length_cons, List.length_nil]; omega
theorem add_t {rs : List (List Dd)} {r : Nat} {d : Dd} (hr : r < rs.length) (hz : (rs.getD r []).length < 16000000) : ∃ own, rs[r]? = some own ∧ ixN rs.length (r : Int) = some r ∧ own.length < 16000000 ∧ (rs.map fun row => T.ls (row.map dD)).set r (.ls (own.map dD ++ [dD d])) = (addD rs r d).map fun row => T.ls (row.map dD) := by
  have e : rs[r]? = some rs[r] := List.getElem?_eq_getElem hr
  have g : rs.getD r [] = rs[r] := by rw [List.getD_eq_getElem?_getD, e]; rfl
  refine ⟨rs[r], e, ixN_nat hr, by rw [g] at hz; exact hz, ?_⟩
  unfold addD
  rw [g, List.map_set]
  simp
theorem empt {a b c d f : T} : pLcT (iR1 (dCons (pC (.int 8)) dNil)) (.one 2) (pLst dNil) [2] [a, b, .hole, c, d, f] = .ok (tR (rowsOf [])) [a, b, .hole, c, d, f] := by
  rw [lcT_run (E := [a, b, .hole, c, d, f]) (ds := rng 0 8) (e1 := [a, b, .hole, c, d, f]) (f := fun _ => .ls []) (by simp) (by simp) (by rw [rng_len]; omega) (by
      intro d hd
      exact ⟨_, _, s_one, by simp; rfl, by simp⟩)]
  rfl
theorem lrows_of_ok {l : List Tr} (h : ∀ t ∈ l, t.1 < 8) (hl : l.length ≤ 1000) : p_law_rows_of [.leaf (.lst (l.map dT))] = .ok (tR (rowsOf l)) [] := by
  unfold p_law_rows_of
  simp only [f_fn]
  simp [empt]
  generalize hF : forL _ _ _ _ _ = F
  obtain ⟨k, rfl, e⟩ := for_st hF (fun (k : Nat) => [.leaf (.lst (l.map dT)), tR (rowsOf (l.take k)), .hole, .hole, .hole, .hole]) (fun j k => k = j) 0 (by simp) rfl (by
    rintro j d k hd rfl
    rw [List.getElem?_map] at hd
    cases hi : l[k]? with
    | none => rw [hi] at hd; cases hd
    | some t =>
      rw [hi] at hd; cases hd
      refine ⟨k + 1, ?_, rfl⟩
      have ht : t.1 < 8 := h t (List.mem_of_getElem? hi)
      have hf := rowsOf_few (l.take k) (fun t m => h t (List.mem_of_mem_take m)) t.1
      rw [List.length_take] at hf
      rw [take_rows hi]
      have hl8 := rowsOf_len (l.take k)
      generalize rowsOf (l.take k) = rs at hf hl8 ⊢
      obtain ⟨own, h1, h2, h3, h4⟩ := add_t (rs := rs) (r := t.1) (d := t.2.2) (by omega) (by omega)
      have g := tR_at h1
      simp [dT, g, h2, h3, h4])
  subst e
  have : l.take (l.map dT).length = l := by rw [List.length_map, List.take_length]
  rw [this]
  simp
theorem dinit_ok : p_Deeds__init__ [.is 0 []] = .ok (.leaf .non) [oD (rowsOf [])] := by
  unfold p_Deeds__init__
  simp only [f_fn]
  simp
  rw [lcT_run (E := [.is 0 [], .hole]) (ds := rng 0 8) (e1 := [.is 0 [], .hole]) (f := fun _ => .ls []) (by simp) (by simp) (by rw [rng_len]; omega) (by
      intro d hd
      exact ⟨_, _, s_one, by simp; rfl, by simp⟩)]
  simp
  rfl
theorem dadd_ok {rs : List (List Dd)} {r : Nat} {d : Dd} (hr : r < rs.length) (hz : (rs.getD r []).length < 16000000) : p_Deeds_add [oD rs, .leaf (.int r), .leaf (dD d)] = .ok (.leaf .non) [oD (addD rs r d)] := by
  unfold p_Deeds_add
  obtain ⟨own, h1, h2, h3, h4⟩ := add_t (d := d) hr hz
  have g := tR_at h1
  simp [g, h2, h3, h4]
theorem dcopy_ok {rs : List (List Dd)} (w : Rws rs) : p_Deeds_copy [.leaf (.ins 0 [("rows", dRs rs)])] = .ok (oD rs) [] := by
  unfold p_Deeds_copy
  simp [dinit_ok]
  rw [lcT_run (E := [.leaf (.ins 0 [("rows", dRs rs)]), oD (rowsOf []), .hole]) (ds := rs.map dR) (e1 := [.leaf (.ins 0 [("rows", dRs rs)]), oD (rowsOf []), .hole]) (f := fun d => match d with | .lst ds => .ls ds | _ => .hole) (by simp) (by simp) (by rw [List.length_map, w.len]; omega) (by
      intro d hd
      obtain ⟨row, hm, rfl⟩ := List.mem_map.mp hd
      have := w.few row hm
      have hz : row.length ≤ 16000000 := by omega
      exact ⟨_, _, s_one, by simp [hz]; rfl, by simp⟩)]
  rw [List.map_map]
  simp
theorem dcounts_ok {rs : List (List Dd)} (w : Rws rs) : p_Deeds_counts [.leaf (.ins 0 [("rows", dRs rs)])] = .ok (.ls (rs.map fun row => .int (row.length : Nat))) [] := by
  unfold p_Deeds_counts
  simp
  generalize hL : lcR _ _ _ _ _ _ = L'
  have hl := lc_ma hL [.leaf (.ins 0 [("rows", dRs rs)]), .hole] (fun d => match d with | .lst ds => .int (ds.length : Nat) | d => d) (by simp) (by rw [List.length_map, w.len]; omega) (by
    intro d hd
    obtain ⟨row, hm, rfl⟩ := List.mem_map.mp hd
    have := w.few row hm
    have hz : row.length ≤ 16000000 := by omega
    simp [hz])
  rw [hl, List.map_map]
  simp
end LAW

set_option Elab.async false
set_option linter.all false
set_option maxRecDepth 100000
set_option maxHeartbeats 4000000
/-! K01MathP: what is in force, by the law. -/
namespace LAW
open P
theorem fL_pref (R : List Dd) {j k : Nat} (h : j < k) : ∀ n, k ≤ n → (fL R n)[j]? = (fL R k)[j]? := by
  intro n hn
  induction n with
  | zero => omega
  | succ n ih =>
    by_cases c : k ≤ n
    · rw [← ih c]
      show (fStep R (fL R n))[j]? = _
      unfold fStep
      rw [List.getElem?_append_left (by rw [fL_len]; omega)]
    · have : k = n + 1 := by omega
      rw [this]
theorem fL_at (R : List Dd) {k n : Nat} (h : k < n) : (fL R n)[k]? = some (takers R (fL R k) (R.length - k)).isEmpty := by
  rw [fL_pref R (Nat.lt_succ_self k) n h]
  show (fStep R (fL R k))[k]? = _
  unfold fStep
  rw [List.getElem?_append_right (by rw [fL_len]; exact Nat.le_refl _), fL_len, Nat.sub_self]
  rfl
/-- a deed is in force unless a later one that is in force takes it back -/
theorem forces_law {row : List Dd} {p : Nat} (h1 : 1 ≤ p) (h2 : p ≤ row.length) : (forces row).getD (p - 1) false = true ↔ ¬ ∃ j : Nat, p ≤ j ∧ (forces row)[j]? = some true ∧ row[j]? = some (.bk p) := by
  have hl := fL_len row.reverse row.length
  have rev : ∀ j, j < row.length → (forces row)[j]? = (fL row.reverse row.length)[row.length - 1 - j]? := fun j hj => by
    unfold forces
    rw [List.getElem?_reverse (by rw [hl]; exact hj), hl]
  have e1 : (forces row).getD (p - 1) false = (takers row.reverse (fL row.reverse (row.length - p)) p).isEmpty := by
    rw [List.getD_eq_getElem?_getD, rev (p - 1) (by omega), show row.length - 1 - (p - 1) = row.length - p by omega, fL_at row.reverse (by omega), List.length_reverse, show row.length - (row.length - p) = p by omega]
    rfl
  have e2 : takers row.reverse (fL row.reverse (row.length - p)) p ≠ [] ↔ ∃ j : Nat, p ≤ j ∧ (forces row)[j]? = some true ∧ row[j]? = some (.bk p) := by
    rw [takers_mem]
    constructor
    · rintro ⟨j, a1, a2⟩
      have hj : j < row.length - p := by
        have := (List.getElem?_eq_some_iff.mp a1).1
        rwa [fL_len] at this
      refine ⟨row.length - 1 - j, by omega, ?_, ?_⟩
      · rw [rev _ (by omega), show row.length - 1 - (row.length - 1 - j) = j by omega, fL_pref row.reverse hj row.length (by omega)]
        exact a1
      · rw [rev_get (by omega)] at a2
        exact a2
    · rintro ⟨j, hp, a1, a2⟩
      have hj := (List.getElem?_eq_some_iff.mp a2).1
      refine ⟨row.length - 1 - j, ?_, ?_⟩
      · rw [rev _ hj, fL_pref row.reverse (j := row.length - 1 - j) (k := row.length - p) (by omega) row.length (by omega)] at a1
        exact a1
      · rw [rev_get (by omega), show row.length - 1 - (row.length - 1 - j) = j by omega]
        exact a2
  rw [e1, ← e2]
  cases takers row.reverse (fL row.reverse (row.length - p)) p <;> simp
theorem dinf_ok {rs : List (List Dd)} {r p : Nat} {row : List Dd} (hr : rs[r]? = some row) (hl : row.length ≤ 1000) (h1 : 1 ≤ p) (h2 : p ≤ row.length) : p_Deeds_in_force [.leaf (dDs rs), .leaf (.int r), .leaf (.int p)] = .ok (.leaf (.bl ((forces row).getD (p - 1) false))) [] := by
  have hf := dforces_ok hr hl
  have g : atI (Bl (forces row)) ((p : Int) - 1) = some (.bl ((forces row).getD (p - 1) false)) := by
    have : p - 1 < (forces row).length := by rw [forces_len]; omega
    rw [show ((p : Int) - 1) = ((p - 1 : Nat) : Int) by omega, atI_nat, List.getElem?_map, List.getElem?_eq_getElem this, List.getD_eq_getElem?_getD, List.getElem?_eq_getElem this]
    rfl
  unfold p_Deeds_in_force
  generalize (forces row).getD (p - 1) false = b at g ⊢
  simp [List.lookup, hf, g]
theorem sm_dM {n : Nat} {m : Mrk} : D.sm (n + 2) (dM m) = true := by simp [dM]
theorem sm_dD {n : Nat} {d : Dd} (h : OkD d) (hx : ∀ m rm bh k x, d = .ch m rm bh k x → rm.length ≤ 100000) : D.sm (n + 4) (dD d) = true := by
  cases d with
  | bk p => simp [dD]
  | ch m rm bh k x =>
    have := hx m rm bh k x rfl
    have h1 : (rm.map dM).all (D.sm (n + 2)) = true := by rw [List.all_map, List.all_eq_true]; intro m _; exact sm_dM
    have h2 : D.sm (n + 3) (dO bh) = true := by cases bh <;> simp [dO, sm_dM]
    have h3 : rm.length ≤ 1000000 := by omega
    rw [dD_ch, sm_tup]
    simp only [List.all_cons, List.all_nil, sm_str, sm_int, sm_tup, h1, h2, List.length_map]
    simp [h3]
theorem sm_dRs {n : Nat} {rs : List (List Dd)} (w : Rws rs) : D.sm (n + 6) (dRs rs) = true := by
  rw [sm_lst, Bool.and_eq_true, List.all_map, List.all_eq_true]
  refine ⟨by rw [List.length_map, w.len]; rfl, fun row h => ?_⟩
  have hf := w.few row h
  show D.sm (n + 5) (dR row) = true
  rw [sm_lst, Bool.and_eq_true, List.all_map, List.all_eq_true]
  refine ⟨by rw [List.length_map]; simp; omega, fun d hd => ?_⟩
  refine sm_dD (w.ok row h d hd) fun m rm bh k x e => ?_
  have := w.x row h d hd m rm bh k x e
  omega
end LAW

set_option Elab.async false
set_option linter.all false
set_option maxRecDepth 100000
set_option maxHeartbeats 4000000
/-! K01MathQ: the law says that the deeds tell the rows. -/
namespace LAW
open P
theorem rng1_map (n : Nat) (f : Nat → D) : ((rng 1 n).map fun d => match d with | .int p => f p.toNat | d => d) = (List.range n).map fun i => f (i + 1) := by
  unfold rng
  rw [List.map_map]
  apply List.map_congr_left
  intro i _
  show f ((1 : Int) + (i : Nat)).toNat = _
  congr 1
  omega
theorem filt_nil {l : List D} {f : D → Option D} : (l.filterMap f).length = 0 ↔ ∀ d ∈ l, f d = none := by
  rw [List.length_eq_zero_iff, List.filterMap_eq_nil_iff]
theorem isf_ok {rs : List (List Dd)} (w : Rws rs) : p_law_is_forced [.leaf (dRs rs), .leaf (dDs rs)] = .ok (.leaf (.bl true)) [] := by
  have hlen : (rs.map fun row => D.int (row.length : Nat)).length ≤ 1000000 := by rw [List.length_map, w.len]; omega
  have s1 := same_ok 8 (dRs rs) (sm_dRs (n := 2) w)
  have s2 := same_ok 8 (.lst (rs.map fun row => D.int (row.length : Nat))) (by
    rw [sm_lst, Bool.and_eq_true, List.all_map, List.all_eq_true]
    exact ⟨by simpa using hlen, fun row _ => rfl⟩)
  have hc := dcounts_ok w
  unfold p_law_is_forced
  simp [List.lookup, s1, hc]
  generalize hL : lcR _ _ _ _ _ _ = L'
  have hl := lc_ma hL [.leaf (dRs rs), .leaf (dDs rs), .hole, .hole, .hole, .hole, .hole, .hole] (fun d => match d with | .lst ds => .int (ds.length : Nat) | d => d) (by simp) (by rw [List.length_map, w.len]; omega) (by
    intro d hd
    obtain ⟨row, hm, rfl⟩ := List.mem_map.mp hd
    have := w.few row hm
    have hz : row.length ≤ 16000000 := by omega
    simp [hz])
  rw [hl, List.map_map]
  have e0 : (rs.map ((fun d => match d with | .lst ds => D.int (ds.length : Nat) | d => d) ∘ dR)) = rs.map fun row => D.int (row.length : Nat) := by
    apply List.map_congr_left
    intro row _
    show D.int ((row.map dD).length : Nat) = _
    rw [List.length_map]
  rw [e0]
  simp [s2]
  generalize hF : forL _ _ _ _ _ = F
  have := for_all hF [.leaf (dRs rs), .leaf (dDs rs), .hole, .hole, .hole, .hole, .hole, .hole] (by simp) (by
    intro d hd
    obtain ⟨r, hr, rfl⟩ := rng_mem hd
    rw [show (0 : Int) + (r : Nat) = (r : Nat) by omega]
    obtain ⟨row, g1, hm, -⟩ := w.at hr
    have g := dRs_at g1
    have hf := w.few row hm
    have hz : row.length ≤ 16000000 := by omega
    have hz2 : ((row.length : Int) + 1).natAbs ≤ 1000000000 := by omega
    have hfl := forces_len row
    simp only [turn_def, s_one, List.set]
    rw [seq_nx (e1 := [.leaf (dRs rs), .leaf (dDs rs), .hole, .leaf (.int r), .leaf (.lst (Bl (forces row))), .hole, .hole, .hole]) (by
      simp [g, hz, hz2]
      generalize hL : lcR _ _ _ _ _ _ = L'
      have hl := lc_ma hL [.leaf (dRs rs), .leaf (dDs rs), .hole, .leaf (.int r), .hole, .hole, .hole, .hole] (fun d => match d with | .int p => .bl ((forces row).getD (p.toNat - 1) false) | d => d) (by simp) (by rw [rng_len]; omega) (by
        intro d hd
        obtain ⟨i, hi, rfl⟩ := rng_mem hd
        rw [show (1 : Int) + (i : Nat) = ((i + 1 : Nat) : Int) by omega]
        have hq := dinf_ok g1 (by omega) (p := i + 1) (by omega) (by omega)
        show lcT1 _ _ _ _ _ _ = .ok (some (.bl ((forces row).getD (i + 1 - 1) false))) _
        generalize (forces row).getD (i + 1 - 1) false = b at hq ⊢
        rw [Int.natCast_add] at hq ⊢
        simp at hq
        simp [List.lookup, hq])
      rw [hl, rng1_map row.length fun p => .bl ((forces row).getD (p - 1) false)]
      have : ((List.range row.length).map fun i => D.bl ((forces row).getD (i + 1 - 1) false)) = Bl (forces row) := by
        apply List.ext_getElem
        · rw [List.length_map, List.length_range, List.length_map, hfl]
        · intro j h1 h2
          have h3 : j < (forces row).length := by simpa using h2
          simp only [List.getElem_map, List.getElem_range, Nat.add_sub_cancel]
          rw [List.getD_eq_getElem?_getD, List.getElem?_eq_getElem h3]
          rfl
      rw [this]
      simp)]
    have s3 := same_ok 8 (.lst (Bl (forces row))) (by
      rw [sm_lst, Bool.and_eq_true, List.all_map, List.all_eq_true]
      exact ⟨by simp [hfl]; omega, fun b _ => rfl⟩)
    have hlf := lforces_ok (w.ok row hm) (by omega)
    rw [seq_nx (e1 := [.leaf (dRs rs), .leaf (dDs rs), .hole, .leaf (.int r), .leaf (.lst (Bl (forces row))), .hole, .hole, .hole]) (by simp [g, hlf, s3])]
    have hz3 : (forces row).length ≤ 16000000 := by omega
    have hz4 : (((forces row).length : Int) + 1).natAbs ≤ 1000000000 := by omega
    simp [hz3, hz4]
    generalize hG : forL _ _ _ _ _ = G
    have := for_all hG [.leaf (dRs rs), .leaf (dDs rs), .hole, .leaf (.int r), .leaf (.lst (Bl (forces row))), .hole, .hole, .hole] (by simp) (by
      intro d hd
      obtain ⟨i, hi, rfl⟩ := rng_mem hd
      obtain ⟨p, hp⟩ : ∃ p : Nat, p = i + 1 := ⟨_, rfl⟩
      rw [show (1 : Int) + (i : Nat) = (p : Int) by omega]
      have law := forces_law (row := row) (p := p) (by omega) (by omega)
      have gp : atI (Bl (forces row)) ((p : Int) - 1) = some (.bl ((forces row).getD (p - 1) false)) := by
        have : p - 1 < (forces row).length := by omega
        rw [show ((p : Int) - 1) = ((p - 1 : Nat) : Int) by omega, atI_nat, List.getElem?_map, List.getElem?_eq_getElem this, List.getD_eq_getElem?_getD, List.getElem?_eq_getElem this]
        rfl
      obtain ⟨ls, hls, hls0, hlz⟩ : ∃ ls : List D, (sAsg 6 (pLf (pFz (pLc (iR2 (dCons (pVar 5) (dCons (pCB gLen (dCons (pVar 4) dNil)) dNil))) (.one 7) (tAnd (tTru (pBin gIx (pVar 4) (pVar 7))) (tCmp cEq (pBin gIx (pBin gIx (pVar 0) (pVar 3)) (pVar 7)) (pTup (dCons (pC (.str [98, 97, 99, 107])) (dCons (pVar 5) dNil))))) (pVar 7) [7]))))
          [.leaf (dRs rs), .leaf (dDs rs), .hole, .leaf (.int r), .leaf (.lst (Bl (forces row))), .leaf (.int p), .hole, .hole] = .nx [.leaf (dRs rs), .leaf (dDs rs), .hole, .leaf (.int r), .leaf (.lst (Bl (forces row))), .leaf (.int p), .leaf (.lst ls), .hole] ∧ (ls.length = 0 ↔ ¬ ∃ j : Nat, p ≤ j ∧ (forces row)[j]? = some true ∧ row[j]? = some (.bk p)) ∧ ls.length ≤ 1000 := by
        have hp2 : p ≤ 1000000000 := by omega
        have hz5 : (forces row).length ≤ 1000000000 := by omega
        refine ⟨((rng p ((forces row).length - p)).filterMap (fI fun j => (forces row).getD j false && decide (row[j]? = some (.bk p)))), ?_, ?_, ?_⟩
        · simp [hz3, hp2, hz5]
          generalize hL : lcR _ _ _ _ _ _ = L'
          have hl := lc_fi hL [.leaf (dRs rs), .leaf (dDs rs), .hole, .leaf (.int r), .leaf (.lst (Bl (forces row))), .leaf (.int p), .hole, .hole] (fI fun j => (forces row).getD j false && decide (row[j]? = some (.bk p))) (by simp) (by rw [rng_len]; omega) (by
            intro d hd
            obtain ⟨k, hk, rfl⟩ := rng_mem hd
            obtain ⟨j, hj⟩ : ∃ j : Nat, j = p + k := ⟨_, rfl⟩
            rw [show (p : Int) + (k : Nat) = (j : Int) by omega, fI_int]
            have hjr : j < row.length := by omega
            have g1 : atI (Bl (forces row)) (j : Int) = some (.bl ((forces row).getD j false)) := by
              rw [atI_nat, List.getElem?_map, List.getElem?_eq_getElem (by omega), List.getD_eq_getElem?_getD, List.getElem?_eq_getElem (by omega)]
              rfl
            have g2 := dR_at hjr
            have g3 := cEq_back (w.ok row hm row[j] (List.getElem_mem _)) p
            have g4 : row[j]? = some row[j] := List.getElem?_eq_getElem hjr
            rw [g4]
            generalize (forces row).getD j false = b at g1 ⊢
            generalize row[j] = dj at g2 g3 g4 ⊢
            cases b with
            | false => simp [g1]
            | true =>
              simp [g, g1, g2, g3]
              by_cases c : dj = .bk p <;> simp [c])
          rw [hl]
          simp
        · rw [filt_nil]
          constructor
          · rintro h ⟨j, q1, q2, q3⟩
            have hjr := (List.getElem?_eq_some_iff.mp q3).1
            have := h (.int j) (by
              unfold rng
              refine List.mem_map.mpr ⟨j - p, ?_, ?_⟩
              · rw [List.mem_range]; omega
              · congr 1; omega)
            rw [fI_int, List.getD_eq_getElem?_getD, q2, q3] at this
            simp at this
          · intro h d hd
            obtain ⟨k, hk, rfl⟩ := rng_mem hd
            obtain ⟨j, hj⟩ : ∃ j : Nat, j = p + k := ⟨_, rfl⟩
            rw [show (p : Int) + (k : Nat) = (j : Int) by omega, fI_int]
            by_cases c : row[j]? = some (.bk p)
            · by_cases c2 : (forces row).getD j false = true
              · exact absurd ⟨j, by omega, by
                  have h3 : j < (forces row).length := by omega
                  rw [List.getD_eq_getElem?_getD, List.getElem?_eq_getElem h3] at c2
                  rw [List.getElem?_eq_getElem h3]
                  exact congrArg some c2, c⟩ h
              · rw [if_neg]; intro z; rw [Bool.and_eq_true] at z; exact c2 z.1
            · rw [if_neg]; intro z; rw [Bool.and_eq_true] at z; exact c (by simpa using z.2)
        · refine Nat.le_trans (List.length_filterMap_le _ _) ?_
          rw [rng_len]; omega
      simp only [turn_def, s_one, List.set]
      rw [seq_nx hls]
      generalize (forces row).getD (p - 1) false = b at law gp
      rw [← hls0] at law
      have hlz2 : ls.length ≤ 16000000 := by omega
      simp [gp, hlz2]
      rw [List.length_eq_zero_iff] at law
      have : b = decide (ls = []) := by rw [Bool.eq_iff_iff, decide_eq_true_iff]; exact law
      simp [this])
    subst this
    simp)
  subst this
  simp
end LAW

set_option Elab.async false
set_option linter.all false
set_option maxRecDepth 100000
set_option maxHeartbeats 4000000
/-! K01Math: the deeds of the law. -/
namespace LAW
open P
theorem ldeeds_ok {l : List Tr} (h : ∀ t ∈ l, t.1 < 8) (hl : l.length ≤ 1000) : p_law_deeds [.leaf (.lst (l.map dT))] = .ok (oD (rowsOf l)) [] := by
  unfold p_law_deeds
  simp only [f_fn]
  simp [dinit_ok]
  generalize hF : forL _ _ _ _ _ = F
  obtain ⟨k, rfl, e⟩ := for_st hF (fun (k : Nat) => [.leaf (.lst (l.map dT)), oD (rowsOf (l.take k)), .hole, .hole, .hole]) (fun j k => k = j) 0 (by simp) rfl (by
    rintro j d k hd rfl
    rw [List.getElem?_map] at hd
    cases hi : l[k]? with
    | none => rw [hi] at hd; cases hd
    | some t =>
      rw [hi] at hd; cases hd
      refine ⟨k + 1, ?_, rfl⟩
      have ht : t.1 < 8 := h t (List.mem_of_getElem? hi)
      have hf := rowsOf_few (l.take k) (fun t m => h t (List.mem_of_mem_take m)) t.1
      rw [List.length_take] at hf
      rw [take_rows hi]
      have hl8 := rowsOf_len (l.take k)
      generalize rowsOf (l.take k) = rs at hf hl8 ⊢
      have ha := dadd_ok (rs := rs) (r := t.1) (d := t.2.2) (by omega) (by omega)
      simp [dT, List.lookup, ha])
  subst e
  have : l.take (l.map dT).length = l := by rw [List.length_map, List.take_length]
  rw [this]
  simp
def dX : Dd := .ch [97] [] none 9999 [120]
theorem dX_eq : dD dX = .tup [.str [99, 104, 97, 110, 103, 101], .str [97], .tup [], .non, .int 9999, .str [120]] := rfl
theorem rws_add {rs : List (List Dd)} (w : Rws rs) {r : Nat} (hr : r < 8) (hf : (rs.getD r []).length < 100) : Rws (addD rs r dX) := by
  obtain ⟨row, g1, hm, g2⟩ := w.at hr
  have mem : ∀ x ∈ addD rs r dX, x ∈ rs ∨ x = row ++ [dX] := fun x hx => by
    unfold addD at hx
    rw [g2] at hx
    exact List.mem_or_eq_of_mem_set hx
  rw [g2] at hf
  refine ⟨by rw [addD_len, w.len], fun x hx d hd => ?_, fun x hx => ?_, fun x hx d hd => ?_⟩
  · rcases mem x hx with h | h
    · exact w.ok x h d hd
    · subst h
      rcases List.mem_append.mp hd with h | h
      · exact w.ok row hm d h
      · rw [List.mem_singleton.mp h]
        refine ⟨fun c hc => ?_, fun c hc => ?_⟩
        · rw [List.mem_singleton.mp hc]; decide
        · rw [List.mem_singleton.mp hc]; decide
  · rcases mem x hx with h | h
    · exact w.few x h
    · subst h; simp; omega
  · rcases mem x hx with h | h
    · exact w.x x h d hd
    · subst h
      rcases List.mem_append.mp hd with h | h
      · exact w.x row hm d h
      · intro m rm bh n x e
        rw [List.mem_singleton.mp h] at e
        cases e
        decide
theorem p_true (ns : List Int) (hn : ns.length ≤ 63) : ∃ ws, p_law [.leaf (.kl (ns.map .int))] = .ok (.leaf (.bl true)) ws := by
  obtain ⟨vs, hv, -⟩ := lawDraws_ok hn
  rw [← draws_eq] at hv
  obtain ⟨l, cs, ht, I⟩ := ltriples_ok (vs := vs) (start := 20) (steps := atN vs 0 % 31) (most := 1 + atN vs 1 % 8) (by omega) (by omega) (by omega)
  have w := I.dr.rws (by omega)
  have h8 : ∀ t ∈ l, t.1 < 8 := fun t m => by have := I.tr t m; omega
  have hl30 : l.length ≤ 30 := by rw [I.tl]; omega
  have hl : l.length ≤ 1000 := by omega
  have hro := lrows_of_ok h8 hl
  have hde := ldeeds_ok h8 hl
  have hif := isf_ok w
  have hco := dcopy_ok w
  have s8 := same_ok 8 (.int 8) rfl
  have fz := fz_oD (rowsOf l)
  have fzt := tR_fz (rowsOf l)
  have a0 := at_ok vs 0
  have a1 := at_ok vs 1
  have a2 := at_ok vs 2
  have a3 := at_ok vs 3
  have few := rowsOf_few l h8
  have hl8 := rowsOf_len l
  generalize hrs : rowsOf l = rs at *
  obtain ⟨r, hr⟩ : ∃ r : Nat, r = atN vs 2 % 8 := ⟨_, rfl⟩
  have hr8 : r < 8 := by omega
  have hadd := dadd_ok (rs := rs) (r := r) (d := dX) (by omega) (by have := few r; omega)
  have wa := rws_add w hr8 (by have := few r; omega)
  have fza := fz_oD (addD rs r dX)
  have hca := dcounts_ok wa
  have hlz : ((addD rs r dX).map fun row => D.int (row.length : Nat)).length < 16000000 := by rw [List.length_map, addD_len]; omega
  unfold p_law
  refine ⟨[], ?_⟩
  suffices hh : ∃ e, (sSeq (sAsg 1 (pLf (pFz (pCall 1 p_law_draws (dCons (pVar 0) dNil))))) (sSeq (sAsg 2 (pLf (pFz (pCall 4 p_law_triples (dCons (pVar 1) (dCons (pC (.int 20)) (dCons (pBin gMod (pFz (pCall 2 p_law_at (dCons (pVar 1) (dCons (pC (.int 0)) dNil)))) (pC (.int 31))) (dCons (pFz (pAdd (pC (.int 1)) (pBin gMod (pFz (pCall 2 p_law_at (dCons (pVar 1) (dCons (pC (.int 1)) dNil)))) (pC (.int 8))))) dNil))))))))
    (sSeq (sAsg 3 (pLf (pFz (pCall 1 p_law_rows_of (dCons (pVar 2) dNil)))))
    (sSeq (sAsg 4 (pCall 1 p_law_deeds (dCons (pVar 2) dNil)))
    (sSeq (sIf (tOr (tNot (tTru (pFz (pCall 2 (p_law_same 8) (dCons (pC (.int 8)) (dCons (pC (.int 8)) dNil)))))) (tNot (tTru (pFz (pCallB 2 1 4 p_law_is_forced (dCons (pVar 3) dNil)))))) (sRet (pLf (pC (.bl false)))) sNx)
    (sSeq (sAsg 5 (pMethB 0 "copy" 1 p_Deeds_copy (.var 4) dNil))
    (sSeq (sAsg 6 (pLf (pBin gMod (pFz (pCall 2 p_law_at (dCons (pVar 1) (dCons (pC (.int 2)) dNil)))) (pC (.int 8)))))
    (sSeq (sIf (tCmp cEq (pBin gMod (pFz (pCall 2 p_law_at (dCons (pVar 1) (dCons (pC (.int 3)) dNil)))) (pC (.int 2))) (pC (.int 0))) (sDrop (pMeth 0 "add" 3 p_Deeds_add (.var 4) (dCons (pVar 6) (dCons (pTup (dCons (pC (.str [99, 104, 97, 110, 103, 101])) (dCons (pC (.str [97])) (dCons (pTup dNil) (dCons (pC .non) (dCons (pC (.int 9999)) (dCons (pC (.str [120])) dNil))))))) dNil)))) (sSeq (sDrop (pMeth 0 "add" 3 p_Deeds_add (.var 5) (dCons (pVar 6) (dCons (pTup (dCons (pC (.str [99, 104, 97, 110, 103, 101])) (dCons (pC (.str [97])) (dCons (pTup dNil) (dCons (pC .non) (dCons (pC (.int 9999)) (dCons (pC (.str [120])) dNil))))))) dNil))))
    (sAsg 5 (pLf (pFv 4)))))
    (sSeq (sDrop (pLf (pUpdT (pMethD 0 "counts" 1 p_Deeds_counts (pFv 4) dNil) (dCons (pC (.int 3)) dNil) uApp)))
    (sRet (pCall 2 p_law_is_forced (dCons (pVar 3) (dCons (pFv 5) dNil))))))))))))) [.leaf (.kl (ns.map .int)), .hole, .hole, .hole, .hole, .hole, .hole] = .rt (.leaf (.bl true)) e by
    obtain ⟨e, h⟩ := hh
    simp only [f_fn]
    simp only [List.length_cons, List.length_nil, List.cons_append, List.nil_append, List.replicate]
    rw [h]
    rfl
  rw [seq_nx (e1 := [.leaf (.kl (ns.map .int)), .leaf (.lst (In vs)), .hole, .hole, .hole, .hole, .hole]) (by simp [hv])]
  have e31 : (((atN vs 0 % 31 : Nat)) : Int) = (atN vs 0 : Int) % 31 := by omega
  have e8 : (((1 + atN vs 1 % 8 : Nat)) : Int) = 1 + (atN vs 1 : Int) % 8 := by omega
  rw [e31, e8] at ht
  rw [seq_nx (e1 := [.leaf (.kl (ns.map .int)), .leaf (.lst (In vs)), .leaf (.lst (l.map dT)), .hole, .hole, .hole, .hole]) (by
    have := ht
    simp at this a0 a1
    simp [a0, a1, this])]
  rw [seq_nx (e1 := [.leaf (.kl (ns.map .int)), .leaf (.lst (In vs)), .leaf (.lst (l.map dT)), .leaf (dRs rs), .hole, .hole, .hole]) (by simp [hro, fzt])]
  rw [seq_nx (e1 := [.leaf (.kl (ns.map .int)), .leaf (.lst (In vs)), .leaf (.lst (l.map dT)), .leaf (dRs rs), oD rs, .hole, .hole]) (by simp [hde])]
  rw [seq_nx (e1 := [.leaf (.kl (ns.map .int)), .leaf (.lst (In vs)), .leaf (.lst (l.map dT)), .leaf (dRs rs), oD rs, .hole, .hole]) (by
    simp only [oD] at fz ⊢
    simp [s8, fz, hif])]
  rw [seq_nx (e1 := [.leaf (.kl (ns.map .int)), .leaf (.lst (In vs)), .leaf (.lst (l.map dT)), .leaf (dRs rs), oD rs, oD rs, .hole]) (by
    have fl := flat_tR rs
    simp only [oD] at hco ⊢
    simp [fzt, hco, List.lookup, fl])]
  rw [seq_nx (e1 := [.leaf (.kl (ns.map .int)), .leaf (.lst (In vs)), .leaf (.lst (l.map dT)), .leaf (dRs rs), oD rs, oD rs, .leaf (.int r)]) (by simp at a2; simp [a2, hr])]
  rw [dX_eq] at hadd
  have fzta := tR_fz (addD rs r dX)
  have hlz2 : (addD rs r dX).length < 16000000 := by rw [addD_len]; omega
  by_cases c : (atN vs 3 : Int) % 2 = 0
  · rw [seq_nx (e1 := [.leaf (.kl (ns.map .int)), .leaf (.lst (In vs)), .leaf (.lst (l.map dT)), .leaf (dRs rs), oD (addD rs r dX), oD rs, .leaf (.int r)]) (by
      simp only [oD] at hadd ⊢
      simp at a3
      simp [a3, c, List.lookup, hadd])]
    rw [seq_nx (e1 := [.leaf (.kl (ns.map .int)), .leaf (.lst (In vs)), .leaf (.lst (l.map dT)), .leaf (dRs rs), .leaf (dDs (addD rs r dX)), oD rs, .leaf (.int r)]) (by
      simp [fzta, List.lookup, hca, hlz2])]
    exact ⟨_, by simp [fzt, hif]; rfl⟩
  · rw [seq_nx (e1 := [.leaf (.kl (ns.map .int)), .leaf (.lst (In vs)), .leaf (.lst (l.map dT)), .leaf (dRs rs), .leaf (dDs rs), .leaf (dDs rs), .leaf (.int r)]) (by
      simp only [oD] at hadd ⊢
      simp at a3
      simp [a3, c, List.lookup, hadd, fzt])]
    rw [seq_nx (e1 := [.leaf (.kl (ns.map .int)), .leaf (.lst (In vs)), .leaf (.lst (l.map dT)), .leaf (dRs rs), .leaf (dDs rs), .leaf (dDs rs), .leaf (.int r)]) (by
      have hlz3 : rs.length < 16000000 := by omega
      have hc := dcounts_ok w
      simp [fzt, List.lookup, hc, hlz3])]
    exact ⟨_, by simp [hif]; rfl⟩
end LAW

set_option Elab.async false
set_option linter.all false
set_option maxRecDepth 100000
set_option maxHeartbeats 4000000
namespace LAW
open P
theorem sim_law_mix (cc : Nat → Nat) : SimF cc [] (m_law_mix cc) p_law_mix := by
  unfold m_law_mix p_law_mix
  exact simF_fn (ss_seq (ss_asg (q := true) (i := 2) (sim_lf (sim_bin op_mod (Sim.rx (sim_cb op_int1 (sim_one (Sim.rx (sim_fz (Sim.qu (sim_add' op_add (Sim.rx (sim_fz (Sim.qu (sim_add' op_add (Sim.rx (sim_bin op_mul (Sim.rx (sim_cb op_int1 (sim_one (Sim.rx (sim_var (i := 0)))))) (Sim.rx (sim_c fun _ _ => .int _)) (Or.inl rfl))) (Sim.rx (sim_bin op_mul (Sim.rx (sim_var (i := 1))) (Sim.rx (sim_c fun _ _ => .int _)) (Or.inl rfl))) (Or.inr rfl))))) (Sim.rx (sim_c fun _ _ => .int _)) (Or.inr rfl)))))))) (Sim.rx (sim_c fun _ _ => .int _)) (Or.inl rfl))))
    (ss_seq (ss_asg (q := true) (i := 2) (sim_lf (sim_bin op_mod (Sim.rx (sim_cb op_int1 (sim_one (Sim.rx (sim_fz (Sim.qu (sim_add' op_add (Sim.rx (sim_fz (Sim.qu (sim_add' op_add (Sim.rx (sim_bin op_mul (Sim.rx (sim_var (i := 2))) (Sim.rx (sim_var (i := 2))) (Or.inl rfl))) (Sim.rx (sim_bin op_mul (Sim.rx (sim_var (i := 1))) (Sim.rx (sim_c fun _ _ => .int _)) (Or.inl rfl))) (Or.inr rfl))))) (Sim.rx (sim_c fun _ _ => .int _)) (Or.inr rfl)))))))) (Sim.rx (sim_c fun _ _ => .int _)) (Or.inl rfl))))
    (ss_ret (q := true) (sim_lf (sim_bin op_mod (Sim.rx (sim_bin op_div (Sim.rx (sim_var (i := 2))) (Sim.rx (sim_c fun _ _ => .int _)) (Or.inl rfl))) (Sim.rx (sim_c fun _ _ => .int _)) (Or.inl rfl))))))
theorem sim_law_draws (cc : Nat → Nat) : SimF cc [] (m_law_draws cc) p_law_draws := by
  unfold m_law_draws p_law_draws
  exact simF_fn (ss_seq (ss_asg (q := true) (i := 1) (sim_lst sim_dnil))
    (ss_seq (ss_for (q := true) (c := (.one 2)) (sim_r1 (sim_dcons (sim_cb op_min (sim_ra (sim_dcons (sim_c fun _ _ => .int _) (sim_dcons (sim_cb op_len (sim_one (Sim.rx (sim_var (i := 0))))) sim_dnil)))) sim_dnil)) (ss_seq (ss_asg (q := true) (i := 3) (sim_lf (sim_cb op_int1 (sim_one (Sim.rx (Sim.qu (sim_bin op_ix (Sim.rx (sim_var (i := 0))) (Sim.rx (sim_var (i := 2))) (Or.inr rfl))))))))
    (ss_if (q := true) (Sim.qu (sim_cmp cmp_lt (Sim.rx (sim_var (i := 3))) (Sim.rx (sim_bin op_pow (Sim.rx (sim_c fun _ _ => .int _)) (Sim.rx (sim_c fun _ _ => .int _)) (Or.inl rfl))) (Or.inr rfl))) (ss_drop (q := false) (sim_lf (sim_upd (q := true) upd_app (simP_var (i := 1)) (sim_ra (sim_dcons (sim_fz (sim_call (sim_law_mix cc) (sim_dcons (sim_var (i := 3)) (sim_dcons (sim_var (i := 2)) sim_dnil)))) sim_dnil)) (by first | exact Or.inl rfl | exact Or.inr rfl)))) (ss_for (q := true) (c := (.one 4)) (sim_r1 (sim_dcons (sim_c fun _ _ => .int _) sim_dnil)) (ss_if (q := true) (Sim.qu (sim_cmp cmp_gt (Sim.rx (sim_var (i := 3))) (Sim.rx (sim_c fun _ _ => .int _)) (Or.inr rfl))) (ss_seq (ss_drop (q := false) (sim_lf (sim_upd (q := true) upd_app (simP_var (i := 1)) (sim_ra (sim_dcons (sim_bin op_mod (Sim.rx (sim_cb op_int1 (sim_one (Sim.rx (sim_var (i := 3)))))) (Sim.rx (sim_c fun _ _ => .int _)) (Or.inl rfl)) sim_dnil)) (by first | exact Or.inl rfl | exact Or.inr rfl))))
    (ss_asg (q := true) (i := 3) (sim_lf (sim_bin op_div (Sim.rx (sim_var (i := 3))) (Sim.rx (sim_c fun _ _ => .int _)) (Or.inl rfl))))) ss_nx)))))
    (ss_ret (q := true) (sim_mv (i := 1)))))
theorem sim_law_modules (cc : Nat → Nat) : SimF cc [] (m_law_modules cc) p_law_modules := by
  unfold m_law_modules p_law_modules
  exact simF_fn (ss_ret (q := true) (sim_lst (sim_dcons (sim_c fun _ _ => .str _) (sim_dcons (sim_c fun _ _ => .str _) (sim_dcons (sim_c fun _ _ => .str _) (sim_dcons (sim_bin op_mulS (Sim.rx (sim_c fun _ _ => .str _)) (Sim.rx (sim_c fun _ _ => .int _)) (Or.inl rfl)) sim_dnil))))))
theorem sim_law_at (cc : Nat → Nat) : SimF cc [] (m_law_at cc) p_law_at := by
  unfold m_law_at p_law_at
  exact simF_fn (ss_seq (ss_if (q := true) (Sim.qu (sim_cmp cmp_lt (Sim.rx (sim_var (i := 1))) (Sim.rx (sim_cb op_len (sim_one (Sim.rx (sim_var (i := 0)))))) (Or.inr rfl))) (ss_ret (q := true) (sim_lf (Sim.qu (sim_bin op_ix (Sim.rx (sim_var (i := 0))) (Sim.rx (sim_var (i := 1))) (Or.inr rfl))))) ss_nx)
    (ss_seq (ss_if (q := true) (Sim.qu (sim_cmp cmp_eq (Sim.rx (sim_cb op_len (sim_one (Sim.rx (sim_var (i := 0)))))) (Sim.rx (sim_c fun _ _ => .int _)) (Or.inr rfl))) (ss_ret (q := true) (sim_call (sim_law_mix cc) (sim_dcons (sim_var (i := 1)) (sim_dcons (sim_c fun _ _ => .int _) sim_dnil)))) ss_nx)
    (ss_ret (q := true) (sim_call (sim_law_mix cc) (sim_dcons (sim_fz (Sim.qu (sim_add' op_add (Sim.rx (Sim.qu (sim_bin op_ix (Sim.rx (sim_var (i := 0))) (Sim.rx (sim_bin op_mod (Sim.rx (sim_cb op_int1 (sim_one (Sim.rx (sim_var (i := 1)))))) (Sim.rx (sim_cb op_len (sim_one (Sim.rx (sim_var (i := 0)))))) (Or.inl rfl))) (Or.inr rfl)))) (Sim.rx (sim_bin op_mul (Sim.rx (sim_var (i := 1))) (Sim.rx (sim_c fun _ _ => .int _)) (Or.inl rfl))) (Or.inr rfl)))) (sim_dcons (sim_var (i := 1)) sim_dnil))))))
theorem sim_law_letters (cc : Nat → Nat) : SimF cc [] (m_law_letters cc) p_law_letters := by
  unfold m_law_letters p_law_letters
  exact simF_fn (ss_seq (ss_asg (q := true) (i := 2) (sim_lf (sim_c fun _ _ => .str _)))
    (ss_seq (ss_asg (q := true) (i := 3) (sim_lf (sim_c fun _ _ => .str _)))
    (ss_seq (ss_for (q := true) (c := (.one 4)) (sim_r1 (sim_dcons (sim_bin op_mod (Sim.rx (sim_fz (sim_call (sim_law_at cc) (sim_dcons (sim_var (i := 0)) (sim_dcons (sim_var (i := 1)) sim_dnil))))) (Sim.rx (sim_c fun _ _ => .int _)) (Or.inl rfl)) sim_dnil)) (ss_asg (q := true) (i := 3) (sim_lf (sim_fz (Sim.qu (sim_add' op_add (Sim.rx (sim_var (i := 3))) (Sim.rx (Sim.qu (sim_bin op_ix (Sim.rx (sim_var (i := 2))) (Sim.rx (sim_bin op_mod (Sim.rx (sim_fz (Sim.qu (sim_add' op_add (Sim.rx (sim_fz (sim_call (sim_law_at cc) (sim_dcons (sim_var (i := 0)) (sim_dcons (sim_fz (Sim.qu (sim_add' op_add (Sim.rx (sim_var (i := 1))) (Sim.rx (sim_c fun _ _ => .int _)) (Or.inr rfl)))) sim_dnil))))) (Sim.rx (sim_bin op_mul (Sim.rx (sim_c fun _ _ => .int _)) (Sim.rx (sim_var (i := 4))) (Or.inl rfl))) (Or.inr rfl))))) (Sim.rx (sim_c fun _ _ => .int _)) (Or.inl rfl))) (Or.inr rfl)))) (Or.inr rfl)))))))
    (ss_ret (q := true) (sim_lf (sim_var (i := 3)))))))
theorem sim_law_forces (cc : Nat → Nat) : SimF cc [] (m_law_forces cc) p_law_forces := by
  unfold m_law_forces p_law_forces
  exact simF_fn (ss_seq (ss_asg (q := true) (i := 1) (sim_lst sim_dnil))
    (ss_seq (ss_for (q := true) (c := (.one 2)) (sim_r1 (sim_dcons (sim_cb op_len (sim_one (Sim.rx (sim_var (i := 0))))) sim_dnil)) (ss_seq (ss_asg (q := true) (i := 3) (sim_lf (sim_bin op_sub (Sim.rx (sim_cb op_len (sim_one (Sim.rx (sim_var (i := 0)))))) (Sim.rx (sim_var (i := 2))) (Or.inl rfl))))
    (ss_seq (ss_asg (q := true) (i := 4) (sim_lf (sim_fz (sim_lc (c := (.one 5)) (sim_r1 (sim_dcons (sim_cb op_len (sim_one (sim_vw (i := 1)))) sim_dnil)) (sim_tand (sim_tru (Sim.rx (Sim.qu (sim_bin op_ix (sim_vw (i := 1)) (Sim.rx (sim_var (i := 5))) (Or.inr rfl))))) (Sim.qu (sim_cmp cmp_eq (Sim.rx (Sim.qu (sim_bin op_ix (Sim.rx (sim_var (i := 0))) (Sim.rx (sim_bin op_sub (Sim.rx (sim_bin op_sub (Sim.rx (sim_cb op_len (sim_one (Sim.rx (sim_var (i := 0)))))) (Sim.rx (sim_c fun _ _ => .int _)) (Or.inl rfl))) (Sim.rx (sim_var (i := 5))) (Or.inl rfl))) (Or.inr rfl)))) (Sim.rx (sim_tup (sim_dcons (sim_c fun _ _ => .str _) (sim_dcons (sim_var (i := 3)) sim_dnil)))) (Or.inr rfl)))) (sim_var (i := 5)) (by decide)))))
    (ss_drop (q := false) (sim_lf (sim_upd (q := true) upd_app (simP_var (i := 1)) (sim_ra (sim_dcons (sim_b (Sim.qu (sim_cmp cmp_eq (Sim.rx (sim_cb op_len (sim_one (Sim.rx (sim_var (i := 4)))))) (Sim.rx (sim_c fun _ _ => .int _)) (Or.inr rfl)))) sim_dnil)) (by first | exact Or.inl rfl | exact Or.inr rfl)))))))
    (ss_ret (q := true) (sim_lc (c := (.one 2)) (sim_r1 (sim_dcons (sim_cb op_len (sim_one (Sim.rx (sim_var (i := 0))))) sim_dnil)) sim_yes (Sim.qu (sim_bin op_ix (sim_vw (i := 1)) (Sim.rx (sim_bin op_sub (Sim.rx (sim_bin op_sub (Sim.rx (sim_cb op_len (sim_one (Sim.rx (sim_var (i := 0)))))) (Sim.rx (sim_c fun _ _ => .int _)) (Or.inl rfl))) (Sim.rx (sim_var (i := 2))) (Or.inl rfl))) (Or.inr rfl))) (by decide)))))
theorem sim_law_changes (cc : Nat → Nat) : SimF cc [] (m_law_changes cc) p_law_changes := by
  unfold m_law_changes p_law_changes
  exact simF_fn (ss_seq (ss_asg (q := true) (i := 2) (sim_lst sim_dnil))
    (ss_seq (ss_for (q := true) (c := (.one 3)) (sim_r1 (sim_dcons (sim_c fun _ _ => .int _) sim_dnil)) (ss_seq (ss_asg (q := true) (i := 4) (sim_lf (sim_fz (sim_call (sim_law_forces cc) (sim_dcons (Sim.qu (sim_bin op_ix (Sim.rx (sim_var (i := 0))) (Sim.rx (sim_var (i := 3))) (Or.inr rfl))) sim_dnil)))))
    (ss_for (q := true) (c := (.one 5)) (sim_r1 (sim_dcons (sim_cb op_len (sim_one (Sim.rx (Sim.qu (sim_bin op_ix (Sim.rx (sim_var (i := 0))) (Sim.rx (sim_var (i := 3))) (Or.inr rfl)))))) sim_dnil)) (ss_if (q := true) (sim_tand (Sim.qu (sim_cmp cmp_eq (Sim.rx (Sim.qu (sim_bin op_ix (Sim.rx (Sim.qu (sim_bin op_ix (Sim.rx (Sim.qu (sim_bin op_ix (Sim.rx (sim_var (i := 0))) (Sim.rx (sim_var (i := 3))) (Or.inr rfl)))) (Sim.rx (sim_var (i := 5))) (Or.inr rfl)))) (Sim.rx (sim_c fun _ _ => .int _)) (Or.inr rfl)))) (Sim.rx (sim_c fun _ _ => .str _)) (Or.inr rfl))) (Sim.qu (sim_cmp cmp_eq (Sim.rx (Sim.qu (sim_bin op_ix (Sim.rx (Sim.qu (sim_bin op_ix (Sim.rx (Sim.qu (sim_bin op_ix (Sim.rx (sim_var (i := 0))) (Sim.rx (sim_var (i := 3))) (Or.inr rfl)))) (Sim.rx (sim_var (i := 5))) (Or.inr rfl)))) (Sim.rx (sim_c fun _ _ => .int _)) (Or.inr rfl)))) (Sim.rx (sim_var (i := 1))) (Or.inr rfl)))) (ss_drop (q := false) (sim_lf (sim_upd (q := true) upd_app (simP_var (i := 2)) (sim_ra (sim_dcons (sim_tup (sim_dcons (sim_var (i := 3)) (sim_dcons (Sim.qu (sim_bin op_ix (Sim.rx (Sim.qu (sim_bin op_ix (Sim.rx (sim_var (i := 0))) (Sim.rx (sim_var (i := 3))) (Or.inr rfl)))) (Sim.rx (sim_var (i := 5))) (Or.inr rfl))) (sim_dcons (Sim.qu (sim_bin op_ix (Sim.rx (sim_var (i := 4))) (Sim.rx (sim_var (i := 5))) (Or.inr rfl))) sim_dnil)))) sim_dnil)) (by first | exact Or.inl rfl | exact Or.inr rfl)))) ss_nx))))
    (ss_ret (q := true) (sim_mv (i := 2)))))
theorem sim_law_inserted (cc : Nat → Nat) : SimF cc [] (m_law_inserted cc) p_law_inserted := by
  unfold m_law_inserted p_law_inserted
  exact simF_fn (ss_seq (ss_asg (q := true) (i := 2) (sim_lst sim_dnil))
    (ss_seq (ss_asg (q := true) (i := 3) (sim_lf (Sim.qu (sim_bin op_ix (Sim.rx (sim_var (i := 1))) (Sim.rx (sim_c fun _ _ => .int _)) (Or.inr rfl)))))
    (ss_seq (ss_for (q := true) (c := (.one 4)) (sim_r1 (sim_dcons (sim_cb op_len (sim_one (Sim.rx (Sim.qu (sim_bin op_ix (Sim.rx (sim_var (i := 1))) (Sim.rx (sim_c fun _ _ => .int _)) (Or.inr rfl)))))) sim_dnil)) (ss_seq (ss_drop (q := false) (sim_lf (sim_upd (q := true) upd_app (simP_var (i := 2)) (sim_ra (sim_dcons (sim_tup (sim_dcons (sim_tup (sim_dcons (sim_fz (Sim.qu (sim_add' op_add (Sim.rx (Sim.qu (sim_bin op_ix (Sim.rx (sim_var (i := 1))) (Sim.rx (sim_c fun _ _ => .int _)) (Or.inr rfl)))) (Sim.rx (sim_var (i := 4))) (Or.inr rfl)))) (sim_dcons (sim_var (i := 0)) sim_dnil))) (sim_dcons (sim_var (i := 3)) (sim_dcons (Sim.qu (sim_bin op_ix (Sim.rx (Sim.qu (sim_bin op_ix (Sim.rx (sim_var (i := 1))) (Sim.rx (sim_c fun _ _ => .int _)) (Or.inr rfl)))) (Sim.rx (sim_var (i := 4))) (Or.inr rfl))) sim_dnil)))) sim_dnil)) (by first | exact Or.inl rfl | exact Or.inr rfl))))
    (ss_asg (q := true) (i := 3) (sim_lf (sim_tup (sim_dcons (sim_fz (Sim.qu (sim_add' op_add (Sim.rx (Sim.qu (sim_bin op_ix (Sim.rx (sim_var (i := 1))) (Sim.rx (sim_c fun _ _ => .int _)) (Or.inr rfl)))) (Sim.rx (sim_var (i := 4))) (Or.inr rfl)))) (sim_dcons (sim_var (i := 0)) sim_dnil)))))))
    (ss_ret (q := true) (sim_mv (i := 2))))))
theorem sim_law_row (cc : Nat → Nat) : SimF cc [] (m_law_row cc) p_law_row := by
  unfold m_law_row p_law_row
  exact simF_fn (ss_seq (ss_asg (q := true) (i := 2) (sim_lf (sim_fz (sim_lst sim_dnil))))
    (ss_seq (ss_asg (q := true) (i := 3) (sim_lst sim_dnil))
    (ss_seq (ss_for (q := true) (c := (.tup [4, 5, 6])) (sim_ie (sim_fz (sim_call (sim_law_changes cc) (sim_dcons (sim_var (i := 0)) (sim_dcons (sim_var (i := 1)) sim_dnil))))) (ss_seq (ss_for (q := true) (c := (.tup [7, 8, 9])) (sim_ie (sim_fz (sim_call (sim_law_inserted cc) (sim_dcons (sim_var (i := 4)) (sim_dcons (sim_var (i := 5)) sim_dnil))))) (ss_drop (q := false) (sim_lf (sim_upd (q := true) upd_app (simP_var (i := 3)) (sim_ra (sim_dcons (sim_tup (sim_dcons (sim_var (i := 7)) (sim_dcons (sim_var (i := 8)) (sim_dcons (sim_var (i := 9)) (sim_dcons (sim_var (i := 6)) sim_dnil))))) sim_dnil)) (by first | exact Or.inl rfl | exact Or.inr rfl)))))
    (ss_if (q := true) (sim_tru (Sim.rx (sim_var (i := 6)))) (ss_asg (q := true) (i := 2) (sim_lf (sim_fz (Sim.qu (sim_add' op_add (Sim.rx (sim_var (i := 2))) (Sim.rx (sim_fz (sim_ct op_list (sim_one (Sim.rx (Sim.qu (sim_bin op_ix (Sim.rx (sim_var (i := 5))) (Sim.rx (sim_c fun _ _ => .int _)) (Or.inr rfl)))))))) (Or.inr rfl)))))) ss_nx)))
    (ss_seq (ss_asg (q := true) (i := 10) (sim_lst sim_dnil))
    (ss_seq (ss_for (q := true) (c := (.tup [7, 8, 9, 6])) (sim_ie (sim_fz (sim_ct op_sortK (sim_one (sim_vw (i := 3)))))) (ss_seq (ss_asg (q := true) (i := 11) (sim_lf (sim_c fun _ _ => .int _)))
    (ss_seq (ss_if (q := true) (Sim.qu (sim_cmp cmp_isn (Sim.rx (sim_var (i := 8))) (Sim.rx (sim_c fun _ _ => .non)) (Or.inr rfl))) (ss_asg (q := true) (i := 11) (sim_lf (sim_fz (Sim.qu (sim_add' op_add (Sim.rx (Sim.qu (sim_indexD (Sim.rx (sim_fz (sim_lcV (c := (.one 12)) (sim_vw (i := 10)) sim_yes (Sim.qu (sim_bin op_ix (Sim.rx (sim_var (i := 12))) (Sim.rx (sim_c fun _ _ => .int _)) (Or.inr rfl))) (by decide)))) (sim_var (i := 8)) (Or.inr rfl)))) (Sim.rx (sim_c fun _ _ => .int _)) (Or.inr rfl)))))) ss_nx)
    (ss_drop (q := false) (sim_lf (sim_upd (q := true) upd_ins (simP_var (i := 10)) (sim_ra (sim_dcons (sim_var (i := 11)) (sim_dcons (sim_tup (sim_dcons (sim_var (i := 7)) (sim_dcons (sim_var (i := 9)) (sim_dcons (sim_and (sim_var (i := 6)) (sim_b (Sim.qu (sim_cmp cmp_nin (Sim.rx (sim_var (i := 7))) (Sim.rx (sim_var (i := 2))) (Or.inr rfl))))) sim_dnil)))) sim_dnil))) (by first | exact Or.inl rfl | exact Or.inr rfl)))))))
    (ss_ret (q := true) (sim_mv (i := 10))))))))
theorem sim_law_last (cc : Nat → Nat) : SimF cc [] (m_law_last cc) p_law_last := by
  unfold m_law_last p_law_last
  exact simF_fn (ss_seq (ss_asg (q := true) (i := 1) (sim_lf (sim_c fun _ _ => .int _)))
    (ss_seq (ss_for (q := true) (c := (.one 2)) (sim_ie (sim_var (i := 0))) (ss_for (q := true) (c := (.one 3)) (sim_ie (sim_var (i := 2))) (ss_if (q := true) (Sim.qu (sim_cmp cmp_eq (Sim.rx (Sim.qu (sim_bin op_ix (Sim.rx (sim_var (i := 3))) (Sim.rx (sim_c fun _ _ => .int _)) (Or.inr rfl)))) (Sim.rx (sim_c fun _ _ => .str _)) (Or.inr rfl))) (ss_asg (q := true) (i := 1) (sim_lf (sim_cb op_max (sim_ra (sim_dcons (sim_var (i := 1)) (sim_dcons (sim_fz (Sim.qu (sim_add' op_add (Sim.rx (Sim.qu (sim_bin op_ix (Sim.rx (sim_var (i := 3))) (Sim.rx (sim_c fun _ _ => .int _)) (Or.inr rfl)))) (Sim.rx (sim_cb op_len (sim_one (Sim.rx (Sim.qu (sim_bin op_ix (Sim.rx (sim_var (i := 3))) (Sim.rx (sim_c fun _ _ => .int _)) (Or.inr rfl))))))) (Or.inr rfl)))) sim_dnil)))))) ss_nx)))
    (ss_ret (q := true) (sim_lf (sim_var (i := 1))))))
theorem sim_law_deed (cc : Nat → Nat) : SimF cc [] (m_law_deed cc) p_law_deed := by
  unfold m_law_deed p_law_deed
  exact simF_fn (ss_seq (ss_asg (q := true) (i := 4) (sim_lf (Sim.qu (sim_bin op_ix (Sim.rx (sim_var (i := 2))) (Sim.rx (sim_var (i := 3))) (Or.inr rfl)))))
    (ss_seq (ss_if (q := true) (sim_tand (Sim.qu (sim_cmp cmp_eq (Sim.rx (sim_bin op_mod (Sim.rx (sim_fz (sim_call (sim_law_at cc) (sim_dcons (sim_var (i := 0)) (sim_dcons (sim_var (i := 1)) sim_dnil))))) (Sim.rx (sim_c fun _ _ => .int _)) (Or.inl rfl))) (Sim.rx (sim_c fun _ _ => .int _)) (Or.inr rfl))) (Sim.qu (sim_cmp cmp_gt (Sim.rx (sim_cb op_len (sim_one (Sim.rx (sim_var (i := 4)))))) (Sim.rx (sim_c fun _ _ => .int _)) (Or.inr rfl)))) (ss_ret (q := true) (sim_lf (sim_tup (sim_dcons (sim_c fun _ _ => .str _) (sim_dcons (sim_fz (Sim.qu (sim_add' op_add (Sim.rx (sim_c fun _ _ => .int _)) (Sim.rx (sim_bin op_mod (Sim.rx (sim_fz (sim_call (sim_law_at cc) (sim_dcons (sim_var (i := 0)) (sim_dcons (sim_fz (Sim.qu (sim_add' op_add (Sim.rx (sim_var (i := 1))) (Sim.rx (sim_c fun _ _ => .int _)) (Or.inr rfl)))) sim_dnil))))) (Sim.rx (sim_cb op_len (sim_one (Sim.rx (sim_var (i := 4)))))) (Or.inl rfl))) (Or.inr rfl)))) sim_dnil))))) ss_nx)
    (ss_seq (ss_asg (q := true) (i := 5) (sim_lf (Sim.qu (sim_bin op_ix (Sim.rx (sim_fz (sim_call (sim_law_modules cc) sim_dnil))) (Sim.rx (sim_bin op_div (Sim.rx (sim_bin op_mod (Sim.rx (sim_fz (sim_call (sim_law_at cc) (sim_dcons (sim_var (i := 0)) (sim_dcons (sim_fz (Sim.qu (sim_add' op_add (Sim.rx (sim_var (i := 1))) (Sim.rx (sim_c fun _ _ => .int _)) (Or.inr rfl)))) sim_dnil))))) (Sim.rx (sim_c fun _ _ => .int _)) (Or.inl rfl))) (Sim.rx (sim_c fun _ _ => .int _)) (Or.inl rfl))) (Or.inr rfl)))))
    (ss_seq (ss_asg (q := true) (i := 6) (sim_lf (sim_fz (sim_lc (c := (.one 7)) (sim_ie (sim_fz (sim_call (sim_law_row cc) (sim_dcons (sim_var (i := 2)) (sim_dcons (sim_var (i := 5)) sim_dnil))))) sim_yes (Sim.qu (sim_bin op_ix (Sim.rx (sim_var (i := 7))) (Sim.rx (sim_c fun _ _ => .int _)) (Or.inr rfl))) (by decide)))))
    (ss_seq (ss_asg (q := true) (i := 8) (sim_lst sim_dnil))
    (ss_seq (ss_for (q := true) (c := (.one 9)) (sim_r1 (sim_dcons (sim_bin op_mod (Sim.rx (sim_fz (sim_call (sim_law_at cc) (sim_dcons (sim_var (i := 0)) (sim_dcons (sim_fz (Sim.qu (sim_add' op_add (Sim.rx (sim_var (i := 1))) (Sim.rx (sim_c fun _ _ => .int _)) (Or.inr rfl)))) sim_dnil))))) (Sim.rx (sim_c fun _ _ => .int _)) (Or.inl rfl)) sim_dnil)) (ss_if (q := true) (Sim.qu (sim_cmp cmp_gt (Sim.rx (sim_cb op_len (sim_one (Sim.rx (sim_var (i := 6)))))) (Sim.rx (sim_c fun _ _ => .int _)) (Or.inr rfl))) (ss_drop (q := false) (sim_lf (sim_upd (q := true) upd_app (simP_var (i := 8)) (sim_ra (sim_dcons (Sim.qu (sim_bin op_ix (Sim.rx (sim_var (i := 6))) (Sim.rx (sim_bin op_mod (Sim.rx (sim_fz (sim_call (sim_law_at cc) (sim_dcons (sim_var (i := 0)) (sim_dcons (sim_fz (Sim.qu (sim_add' op_add (Sim.rx (sim_fz (Sim.qu (sim_add' op_add (Sim.rx (sim_var (i := 1))) (Sim.rx (sim_c fun _ _ => .int _)) (Or.inr rfl))))) (Sim.rx (sim_var (i := 9))) (Or.inr rfl)))) sim_dnil))))) (Sim.rx (sim_cb op_len (sim_one (Sim.rx (sim_var (i := 6)))))) (Or.inl rfl))) (Or.inr rfl))) sim_dnil)) (by first | exact Or.inl rfl | exact Or.inr rfl)))) ss_nx))
    (ss_seq (ss_asg (q := true) (i := 10) (sim_lf (sim_c fun _ _ => .non)))
    (ss_seq (ss_if (q := true) (sim_tand (Sim.qu (sim_cmp cmp_gt (Sim.rx (sim_cb op_len (sim_one (Sim.rx (sim_var (i := 6)))))) (Sim.rx (sim_c fun _ _ => .int _)) (Or.inr rfl))) (Sim.qu (sim_cmp cmp_ne (Sim.rx (sim_bin op_mod (Sim.rx (sim_fz (sim_call (sim_law_at cc) (sim_dcons (sim_var (i := 0)) (sim_dcons (sim_fz (Sim.qu (sim_add' op_add (Sim.rx (sim_var (i := 1))) (Sim.rx (sim_c fun _ _ => .int _)) (Or.inr rfl)))) sim_dnil))))) (Sim.rx (sim_c fun _ _ => .int _)) (Or.inl rfl))) (Sim.rx (sim_c fun _ _ => .int _)) (Or.inr rfl)))) (ss_asg (q := true) (i := 10) (sim_lf (Sim.qu (sim_bin op_ix (Sim.rx (sim_var (i := 6))) (Sim.rx (sim_bin op_mod (Sim.rx (sim_bin op_div (Sim.rx (sim_fz (sim_call (sim_law_at cc) (sim_dcons (sim_var (i := 0)) (sim_dcons (sim_fz (Sim.qu (sim_add' op_add (Sim.rx (sim_var (i := 1))) (Sim.rx (sim_c fun _ _ => .int _)) (Or.inr rfl)))) sim_dnil))))) (Sim.rx (sim_c fun _ _ => .int _)) (Or.inl rfl))) (Sim.rx (sim_cb op_len (sim_one (Sim.rx (sim_var (i := 6)))))) (Or.inl rfl))) (Or.inr rfl))))) ss_nx)
    (ss_seq (ss_asg (q := true) (i := 11) (sim_lf (sim_c fun _ _ => .int _)))
    (ss_seq (ss_for (q := true) (c := (.one 12)) (sim_ie (sim_fz (Sim.qu (sim_add' op_add (sim_vw (i := 8)) (Sim.rx (sim_fz (sim_lst (sim_dcons (sim_var (i := 10)) sim_dnil)))) (Or.inr rfl))))) (ss_if (q := true) (Sim.qu (sim_cmp cmp_isn (Sim.rx (sim_var (i := 12))) (Sim.rx (sim_c fun _ _ => .non)) (Or.inr rfl))) (ss_asg (q := true) (i := 11) (sim_lf (sim_cb op_max (sim_ra (sim_dcons (sim_var (i := 11)) (sim_dcons (sim_fz (Sim.qu (sim_add' op_add (Sim.rx (Sim.qu (sim_bin op_ix (Sim.rx (sim_var (i := 12))) (Sim.rx (sim_c fun _ _ => .int _)) (Or.inr rfl)))) (Sim.rx (sim_c fun _ _ => .int _)) (Or.inr rfl)))) sim_dnil)))))) ss_nx))
    (ss_seq (ss_for (q := true) (c := (.one 13)) (sim_ie (sim_var (i := 4))) (ss_if (q := true) (Sim.qu (sim_cmp cmp_eq (Sim.rx (Sim.qu (sim_bin op_ix (Sim.rx (sim_var (i := 13))) (Sim.rx (sim_c fun _ _ => .int _)) (Or.inr rfl)))) (Sim.rx (sim_c fun _ _ => .str _)) (Or.inr rfl))) (ss_asg (q := true) (i := 11) (sim_lf (sim_cb op_max (sim_ra (sim_dcons (sim_var (i := 11)) (sim_dcons (sim_fz (Sim.qu (sim_add' op_add (Sim.rx (Sim.qu (sim_bin op_ix (Sim.rx (sim_var (i := 13))) (Sim.rx (sim_c fun _ _ => .int _)) (Or.inr rfl)))) (Sim.rx (sim_cb op_len (sim_one (Sim.rx (Sim.qu (sim_bin op_ix (Sim.rx (sim_var (i := 13))) (Sim.rx (sim_c fun _ _ => .int _)) (Or.inr rfl))))))) (Or.inr rfl)))) sim_dnil)))))) ss_nx))
    (ss_seq (ss_asg (q := true) (i := 11) (sim_lf (sim_fz (Sim.qu (sim_add' op_add (Sim.rx (sim_var (i := 11))) (Sim.rx (Sim.qu (sim_bin op_ix (Sim.rx (sim_fz (sim_lst (sim_dcons (sim_c fun _ _ => .int _) (sim_dcons (sim_c fun _ _ => .int _) (sim_dcons (sim_c fun _ _ => .int _) (sim_dcons (sim_c fun _ _ => .int _) sim_dnil))))))) (Sim.rx (sim_bin op_mod (Sim.rx (sim_fz (sim_call (sim_law_at cc) (sim_dcons (sim_var (i := 0)) (sim_dcons (sim_fz (Sim.qu (sim_add' op_add (Sim.rx (sim_var (i := 1))) (Sim.rx (sim_c fun _ _ => .int _)) (Or.inr rfl)))) sim_dnil))))) (Sim.rx (sim_c fun _ _ => .int _)) (Or.inl rfl))) (Or.inr rfl)))) (Or.inr rfl))))))
    (ss_seq (ss_if (q := true) (Sim.qu (sim_cmp cmp_eq (Sim.rx (sim_bin op_mod (Sim.rx (sim_bin op_div (Sim.rx (sim_fz (sim_call (sim_law_at cc) (sim_dcons (sim_var (i := 0)) (sim_dcons (sim_fz (Sim.qu (sim_add' op_add (Sim.rx (sim_var (i := 1))) (Sim.rx (sim_c fun _ _ => .int _)) (Or.inr rfl)))) sim_dnil))))) (Sim.rx (sim_c fun _ _ => .int _)) (Or.inl rfl))) (Sim.rx (sim_c fun _ _ => .int _)) (Or.inl rfl))) (Sim.rx (sim_c fun _ _ => .int _)) (Or.inr rfl))) (ss_asg (q := true) (i := 11) (sim_lf (sim_cb op_max (sim_ra (sim_dcons (sim_var (i := 11)) (sim_dcons (sim_fz (Sim.qu (sim_add' op_add (Sim.rx (sim_fz (sim_call (sim_law_last cc) (sim_dcons (sim_var (i := 2)) sim_dnil)))) (Sim.rx (sim_c fun _ _ => .int _)) (Or.inr rfl)))) sim_dnil)))))) ss_nx)
    (ss_ret (q := true) (sim_lf (sim_tup (sim_dcons (sim_c fun _ _ => .str _) (sim_dcons (sim_var (i := 5)) (sim_dcons (sim_cb op_tuple (sim_one (sim_vw (i := 8)))) (sim_dcons (sim_var (i := 10)) (sim_dcons (sim_var (i := 11)) (sim_dcons (sim_fz (sim_call (sim_law_letters cc) (sim_dcons (sim_var (i := 0)) (sim_dcons (sim_fz (Sim.qu (sim_add' op_add (Sim.rx (sim_var (i := 1))) (Sim.rx (sim_c fun _ _ => .int _)) (Or.inr rfl)))) sim_dnil)))) sim_dnil))))))))))))))))))))))
theorem sim_law_visible (cc : Nat → Nat) : SimF cc [] (m_law_visible cc) p_law_visible := by
  unfold m_law_visible p_law_visible
  exact simF_fn (ss_ret (q := true) (sim_lcT (c := (.one 2)) (sim_r1 (sim_dcons (sim_c fun _ _ => .int _) sim_dnil)) (Sim.qu (sim_sl (Sim.rx (Sim.qu (sim_bin op_ix (Sim.rx (sim_var (i := 0))) (Sim.rx (sim_var (i := 2))) (Or.inr rfl)))) sim_ono (sim_oso (Sim.qu (sim_bin op_ix (Sim.rx (sim_var (i := 1))) (Sim.rx (sim_var (i := 2))) (Or.inr rfl)))) (Or.inr rfl))) (by decide)))
theorem sim_law_triples (cc : Nat → Nat) : SimF cc [] (m_law_triples cc) p_law_triples := by
  unfold m_law_triples p_law_triples
  exact simF_fn (ss_seq (ss_asg (q := true) (i := 4) (sim_lcT (c := (.one 5)) (sim_r1 (sim_dcons (sim_c fun _ _ => .int _) sim_dnil)) (sim_lst sim_dnil) (by decide)))
    (ss_seq (ss_asg (q := true) (i := 6) (sim_lsT sim_tnil))
    (ss_seq (ss_for (q := true) (c := (.one 5)) (sim_r1 (sim_dcons (sim_var (i := 3)) sim_dnil)) (ss_drop (q := false) (sim_lf (sim_upT (q := true) (simP_var (i := 6)) (sim_lc (c := (.one 7)) (sim_r1 (sim_dcons (sim_c fun _ _ => .int _) sim_dnil)) sim_yes (sim_c fun _ _ => .int _) (by decide)) (by first | exact Or.inl rfl | exact Or.inr rfl)))))
    (ss_seq (ss_asg (q := true) (i := 8) (sim_lst sim_dnil))
    (ss_seq (ss_for (q := true) (c := (.one 5)) (sim_r1 (sim_dcons (sim_var (i := 2)) sim_dnil)) (ss_seq (ss_asg (q := true) (i := 9) (sim_lf (sim_fz (Sim.qu (sim_add' op_add (Sim.rx (sim_var (i := 1))) (Sim.rx (sim_bin op_mul (Sim.rx (sim_c fun _ _ => .int _)) (Sim.rx (sim_var (i := 5))) (Or.inl rfl))) (Or.inr rfl))))))
    (ss_seq (ss_asg (q := true) (i := 10) (sim_lf (sim_bin op_mod (Sim.rx (sim_fz (sim_call (sim_law_at cc) (sim_dcons (sim_var (i := 0)) (sim_dcons (sim_var (i := 9)) sim_dnil))))) (Sim.rx (sim_var (i := 3))) (Or.inl rfl))))
    (ss_seq (ss_asg (q := true) (i := 11) (sim_lf (sim_bin op_mod (Sim.rx (sim_fz (sim_call (sim_law_at cc) (sim_dcons (sim_var (i := 0)) (sim_dcons (sim_fz (Sim.qu (sim_add' op_add (Sim.rx (sim_var (i := 9))) (Sim.rx (sim_c fun _ _ => .int _)) (Or.inr rfl)))) sim_dnil))))) (Sim.rx (sim_fz (Sim.qu (sim_add' op_add (Sim.rx (sim_var (i := 3))) (Sim.rx (sim_c fun _ _ => .int _)) (Or.inr rfl))))) (Or.inl rfl))))
    (ss_seq (ss_if (q := true) (Sim.qu (sim_cmp cmp_lt (Sim.rx (sim_var (i := 11))) (Sim.rx (sim_var (i := 3))) (Or.inr rfl))) (ss_setIT (s := true) (q := true) (simP_var (i := 6)) (sim_var (i := 10)) (sim_lc (c := (.one 7)) (sim_r1 (sim_dcons (sim_c fun _ _ => .int _) sim_dnil)) sim_yes (sim_cb op_max (sim_ra (sim_dcons (Sim.qu (sim_bin op_ix (sim_vp (simP_ix (simP_var (i := 6)) (sim_var (i := 10)))) (Sim.rx (sim_var (i := 7))) (Or.inr rfl))) (sim_dcons (Sim.qu (sim_bin op_ix (sim_vp (simP_ix (simP_var (i := 6)) (sim_var (i := 11)))) (Sim.rx (sim_var (i := 7))) (Or.inr rfl))) sim_dnil)))) (by decide)) (by first | exact Or.inl rfl | exact Or.inr rfl)) ss_nx)
    (ss_seq (ss_asg (q := true) (i := 12) (sim_lf (sim_fz (sim_call (sim_law_deed cc) (sim_dcons (sim_var (i := 0)) (sim_dcons (sim_fz (Sim.qu (sim_add' op_add (Sim.rx (sim_var (i := 9))) (Sim.rx (sim_c fun _ _ => .int _)) (Or.inr rfl)))) (sim_dcons (sim_fz (sim_callBB (i := 4) (sim_law_visible cc) (simP_ix (simP_var (i := 6)) (sim_var (i := 10))))) (sim_dcons (sim_var (i := 10)) sim_dnil))))))))
    (ss_seq (ss_drop (q := false) (sim_lf (sim_upd (q := true) upd_app (simP_ix (simP_var (i := 4)) (sim_var (i := 10))) (sim_ra (sim_dcons (sim_var (i := 12)) sim_dnil)) (by first | exact Or.inl rfl | exact Or.inr rfl))))
    (ss_seq (ss_setI (s := true) (q := true) (simP_ix (simP_var (i := 6)) (sim_var (i := 10))) (sim_var (i := 10)) (sim_cb op_len (sim_one (sim_vp (simP_ix (simP_var (i := 4)) (sim_var (i := 10)))))) (by first | exact Or.inl rfl | exact Or.inr rfl))
    (ss_drop (q := false) (sim_lf (sim_upd (q := true) upd_app (simP_var (i := 8)) (sim_ra (sim_dcons (sim_tup (sim_dcons (sim_var (i := 10)) (sim_dcons (sim_cb op_len (sim_one (sim_vp (simP_ix (simP_var (i := 4)) (sim_var (i := 10)))))) (sim_dcons (sim_var (i := 12)) sim_dnil)))) sim_dnil)) (by first | exact Or.inl rfl | exact Or.inr rfl))))))))))))
    (ss_ret (q := true) (sim_mv (i := 8))))))))
theorem sim_law_rows_of (cc : Nat → Nat) : SimF cc [] (m_law_rows_of cc) p_law_rows_of := by
  unfold m_law_rows_of p_law_rows_of
  exact simF_fn (ss_seq (ss_asg (q := true) (i := 1) (sim_lcT (c := (.one 2)) (sim_r1 (sim_dcons (sim_c fun _ _ => .int _) sim_dnil)) (sim_lst sim_dnil) (by decide)))
    (ss_seq (ss_for (q := true) (c := (.tup [3, 4, 5])) (sim_ie (sim_var (i := 0))) (ss_drop (q := false) (sim_lf (sim_upd (q := true) upd_app (simP_ix (simP_var (i := 1)) (sim_var (i := 3))) (sim_ra (sim_dcons (sim_var (i := 5)) sim_dnil)) (by first | exact Or.inl rfl | exact Or.inr rfl)))))
    (ss_ret (q := true) (sim_mv (i := 1)))))
theorem sim_Deeds__init__ (cc : Nat → Nat) : SimF cc [true] (m_Deeds__init__ cc) p_Deeds__init__ := by
  unfold m_Deeds__init__ p_Deeds__init__
  exact simF_fn (ss_setF (s := true) (Cs := [0]) (g := "rows") (simP_var (i := 0)) (sim_lcT (c := (.one 1)) (sim_r1 (sim_dcons (sim_c fun _ _ => .int _) sim_dnil)) (sim_lst sim_dnil) (by decide)))
theorem sim_Deeds_add (cc : Nat → Nat) : SimF cc [true] (m_Deeds_add cc) p_Deeds_add := by
  unfold m_Deeds_add p_Deeds_add
  exact simF_fn (ss_drop (q := false) (sim_lf (sim_upd (q := true) upd_app (simP_ix (simP_fld (Cs := [0]) (g := "rows") (simP_var (i := 0))) (sim_var (i := 1))) (sim_ra (sim_dcons (sim_var (i := 2)) sim_dnil)) (by first | exact Or.inl rfl | exact Or.inr rfl))))
theorem sim_law_deeds (cc : Nat → Nat) : SimF cc [] (m_law_deeds cc) p_law_deeds := by
  unfold m_law_deeds p_law_deeds
  exact simF_fn (ss_seq (ss_asg (q := true) (i := 1) (sim_make (C := 0) (sim_Deeds__init__ cc) sim_dnil))
    (ss_seq (ss_for (q := true) (c := (.tup [2, 3, 4])) (sim_ie (sim_var (i := 0))) (ss_drop (q := false) (sim_meth (q := true) (sim_Deeds_add cc) (simP_var (i := 1)) (sim_dcons (sim_var (i := 2)) (sim_dcons (sim_var (i := 4)) sim_dnil)) (by first | exact Or.inl rfl | exact Or.inr rfl))))
    (ss_ret (q := true) (sim_mv (i := 1)))))
theorem sim_Deeds_copy (cc : Nat → Nat) : SimF cc [] (m_Deeds_copy cc) p_Deeds_copy := by
  unfold m_Deeds_copy p_Deeds_copy
  exact simF_fn (ss_seq (ss_asg (q := true) (i := 1) (sim_make (C := 0) (sim_Deeds__init__ cc) sim_dnil))
    (ss_seq (ss_setF (s := true) (Cs := [0]) (g := "rows") (simP_var (i := 1)) (sim_lcT (c := (.one 2)) (sim_ie (op_fld (Cs := [0]) (g := "rows") (Sim.rx (sim_var (i := 0))))) (sim_ct op_list (sim_one (Sim.rx (sim_var (i := 2))))) (by decide)))
    (ss_ret (q := true) (sim_mv (i := 1)))))
theorem sim_law_is_integer (cc : Nat → Nat) : SimF cc [] (m_law_is_integer cc) p_law_is_integer := by
  unfold m_law_is_integer p_law_is_integer
  exact simF_fn (ss_ret (q := true) (sim_lf (sim_and (sim_b (sim_is (T := .int) (Sim.rx (sim_var (i := 0))))) (sim_not (sim_b (sim_is (T := .bool) (Sim.rx (sim_var (i := 0)))))))))
theorem simg_law_same (cc : Nat → Nat) : ∀ n : Nat, SimF cc [] (m_law_same cc n) (p_law_same n)
  | 0 => (by unfold m_law_same p_law_same; exact simF_bad)
  | n + 1 => by
    obtain ih_law_same := simg_law_same cc n
    exact (by
      unfold m_law_same p_law_same
      exact simF_fn (ss_seq (ss_if (q := true) (sim_is2 (T := .list) (S := .tuple) (Sim.rx (sim_var (i := 1)))) (ss_seq (ss_if (q := true) (sim_tor (Sim.qu (sim_cmp cmp_ne (Sim.rx (sim_b (sim_is (T := .list) (Sim.rx (sim_var (i := 1)))))) (Sim.rx (sim_b (sim_is (T := .list) (Sim.rx (sim_var (i := 0)))))) (Or.inr rfl))) (Sim.qu (sim_cmp cmp_ne (Sim.rx (sim_b (sim_is (T := .tuple) (Sim.rx (sim_var (i := 1)))))) (Sim.rx (sim_b (sim_is (T := .tuple) (Sim.rx (sim_var (i := 0)))))) (Or.inr rfl)))) (ss_ret (q := true) (sim_lf (sim_c fun _ _ => .bl _))) ss_nx)
    (ss_seq (ss_if (q := true) (Sim.qu (sim_cmp cmp_ne (Sim.rx (sim_cb op_len (sim_one (Sim.rx (sim_var (i := 0)))))) (Sim.rx (sim_cb op_len (sim_one (Sim.rx (sim_var (i := 1)))))) (Or.inr rfl))) (ss_ret (q := true) (sim_lf (sim_c fun _ _ => .bl _))) ss_nx)
    (ss_seq (ss_for (q := true) (c := (.one 2)) (sim_r1 (sim_dcons (sim_cb op_len (sim_one (Sim.rx (sim_var (i := 1))))) sim_dnil)) (ss_if (q := true) (sim_tnot (sim_tru (Sim.rx (sim_fz (sim_call ih_law_same (sim_dcons (Sim.qu (sim_bin op_ix (Sim.rx (sim_var (i := 0))) (Sim.rx (sim_var (i := 2))) (Or.inr rfl))) (sim_dcons (Sim.qu (sim_bin op_ix (Sim.rx (sim_var (i := 1))) (Sim.rx (sim_var (i := 2))) (Or.inr rfl))) sim_dnil))))))) (ss_ret (q := true) (sim_lf (sim_c fun _ _ => .bl _))) ss_nx))
    (ss_ret (q := true) (sim_lf (sim_c fun _ _ => .bl _)))))) ss_nx)
    (ss_seq (ss_if (q := true) (Sim.qu (sim_cmp cmp_is (Sim.rx (sim_var (i := 1))) (Sim.rx (sim_c fun _ _ => .non)) (Or.inr rfl))) (ss_ret (q := true) (sim_lf (sim_b (Sim.qu (sim_cmp cmp_is (Sim.rx (sim_var (i := 0))) (Sim.rx (sim_c fun _ _ => .non)) (Or.inr rfl)))))) ss_nx)
    (ss_seq (ss_if (q := true) (sim_is (T := .bool) (Sim.rx (sim_var (i := 1)))) (ss_ret (q := true) (sim_lf (sim_and (sim_b (sim_is (T := .bool) (Sim.rx (sim_var (i := 0))))) (sim_b (Sim.qu (sim_cmp cmp_eq (Sim.rx (sim_var (i := 0))) (Sim.rx (sim_var (i := 1))) (Or.inr rfl))))))) ss_nx)
    (ss_seq (ss_if (q := true) (sim_is (T := .int) (Sim.rx (sim_var (i := 1)))) (ss_ret (q := true) (sim_lf (sim_and (sim_fz (sim_call (sim_law_is_integer cc) (sim_dcons (sim_var (i := 0)) sim_dnil))) (sim_b (Sim.qu (sim_cmp cmp_eq (Sim.rx (sim_var (i := 0))) (Sim.rx (sim_var (i := 1))) (Or.inr rfl))))))) ss_nx)
    (ss_ret (q := true) (sim_lf (sim_and (sim_b (sim_is (T := .str) (Sim.rx (sim_var (i := 0))))) (sim_b (Sim.qu (sim_cmp cmp_eq (Sim.rx (sim_var (i := 0))) (Sim.rx (sim_var (i := 1))) (Or.inr rfl))))))))))))
theorem sim_law_same (cc : Nat → Nat) (n : Nat) : SimF cc [] (m_law_same cc n) (p_law_same n) := (simg_law_same cc n)
theorem sim_Deeds_forces (cc : Nat → Nat) : SimF cc [] (m_Deeds_forces cc) p_Deeds_forces := by
  unfold m_Deeds_forces p_Deeds_forces
  exact simF_fn (ss_seq (ss_asg (q := true) (i := 2) (sim_lf (Sim.qu (sim_bin op_ix (Sim.rx (op_fld (Cs := [0]) (g := "rows") (Sim.rx (sim_var (i := 0))))) (Sim.rx (sim_var (i := 1))) (Or.inr rfl)))))
    (ss_seq (ss_asg (q := true) (i := 3) sim_dnew)
    (ss_seq (ss_asg (q := true) (i := 4) (sim_lst sim_dnil))
    (ss_seq (ss_for (q := true) (c := (.one 5)) (sim_r3 (sim_dcons (sim_cb op_len (sim_one (Sim.rx (sim_var (i := 2))))) (sim_dcons (sim_c fun _ _ => .int _) (sim_dcons (sim_neg (sim_c fun _ _ => .int _)) sim_dnil)))) (ss_seq (ss_asg (q := true) (i := 6) (sim_lf (sim_b (sim_cmp cmp_dnin (Sim.rx (sim_var (i := 5))) (sim_vw (i := 3)) (Or.inl rfl)))))
    (ss_seq (ss_if (q := true) (sim_tand (sim_tru (Sim.rx (sim_var (i := 6)))) (Sim.qu (sim_cmp cmp_eq (Sim.rx (Sim.qu (sim_bin op_ix (Sim.rx (Sim.qu (sim_bin op_ix (Sim.rx (sim_var (i := 2))) (Sim.rx (sim_bin op_sub (Sim.rx (sim_var (i := 5))) (Sim.rx (sim_c fun _ _ => .int _)) (Or.inl rfl))) (Or.inr rfl)))) (Sim.rx (sim_c fun _ _ => .int _)) (Or.inr rfl)))) (Sim.rx (sim_c fun _ _ => .str _)) (Or.inr rfl)))) (ss_setK (s := true) (q := true) (simP_var (i := 3)) (Sim.qu (sim_bin op_ix (Sim.rx (Sim.qu (sim_bin op_ix (Sim.rx (sim_var (i := 2))) (Sim.rx (sim_bin op_sub (Sim.rx (sim_var (i := 5))) (Sim.rx (sim_c fun _ _ => .int _)) (Or.inl rfl))) (Or.inr rfl)))) (Sim.rx (sim_c fun _ _ => .int _)) (Or.inr rfl))) (sim_c fun _ _ => .bl _) (by first | exact Or.inl rfl | exact Or.inr rfl)) ss_nx)
    (ss_drop (q := false) (sim_lf (sim_upd (q := true) upd_app (simP_var (i := 4)) (sim_ra (sim_dcons (sim_var (i := 6)) sim_dnil)) (by first | exact Or.inl rfl | exact Or.inr rfl)))))))
    (ss_ret (q := true) (sim_rev (sim_vw (i := 4))))))))
theorem sim_Deeds_in_force (cc : Nat → Nat) : SimF cc [] (m_Deeds_in_force cc) p_Deeds_in_force := by
  unfold m_Deeds_in_force p_Deeds_in_force
  exact simF_fn (ss_ret (q := true) (sim_lf (Sim.qu (sim_bin op_ix (Sim.rx (sim_fz (sim_methD (sim_Deeds_forces cc) (sim_var (i := 0)) (sim_dcons (sim_var (i := 1)) sim_dnil)))) (Sim.rx (sim_bin op_sub (Sim.rx (sim_var (i := 2))) (Sim.rx (sim_c fun _ _ => .int _)) (Or.inl rfl))) (Or.inr rfl)))))
theorem sim_Deeds_counts (cc : Nat → Nat) : SimF cc [] (m_Deeds_counts cc) p_Deeds_counts := by
  unfold m_Deeds_counts p_Deeds_counts
  exact simF_fn (ss_ret (q := true) (sim_lc (c := (.one 1)) (sim_ie (op_fld (Cs := [0]) (g := "rows") (Sim.rx (sim_var (i := 0))))) sim_yes (sim_cb op_len (sim_one (Sim.rx (sim_var (i := 1))))) (by decide)))
theorem sim_law_is_forced (cc : Nat → Nat) : SimF cc [] (m_law_is_forced cc) p_law_is_forced := by
  unfold m_law_is_forced p_law_is_forced
  exact simF_fn (ss_seq (ss_if (q := true) (sim_tor (sim_tnot (sim_tru (Sim.rx (sim_fz (sim_call (sim_law_same cc 8) (sim_dcons (op_fld (Cs := [0]) (g := "rows") (Sim.rx (sim_var (i := 1)))) (sim_dcons (sim_var (i := 0)) sim_dnil))))))) (sim_tnot (sim_tru (Sim.rx (sim_fz (sim_call (sim_law_same cc 8) (sim_dcons (sim_fz (sim_methD (sim_Deeds_counts cc) (sim_var (i := 1)) sim_dnil)) (sim_dcons (sim_fz (sim_lc (c := (.one 2)) (sim_ie (sim_var (i := 0))) sim_yes (sim_cb op_len (sim_one (Sim.rx (sim_var (i := 2))))) (by decide))) sim_dnil)))))))) (ss_ret (q := true) (sim_lf (sim_c fun _ _ => .bl _))) ss_nx)
    (ss_seq (ss_for (q := true) (c := (.one 3)) (sim_r1 (sim_dcons (sim_c fun _ _ => .int _) sim_dnil)) (ss_seq (ss_asg (q := true) (i := 4) (sim_lf (sim_fz (sim_lc (c := (.one 5)) (sim_r2 (sim_dcons (sim_c fun _ _ => .int _) (sim_dcons (sim_fz (Sim.qu (sim_add' op_add (Sim.rx (sim_cb op_len (sim_one (Sim.rx (Sim.qu (sim_bin op_ix (Sim.rx (sim_var (i := 0))) (Sim.rx (sim_var (i := 3))) (Or.inr rfl))))))) (Sim.rx (sim_c fun _ _ => .int _)) (Or.inr rfl)))) sim_dnil))) sim_yes (sim_fz (sim_methD (sim_Deeds_in_force cc) (sim_var (i := 1)) (sim_dcons (sim_var (i := 3)) (sim_dcons (sim_var (i := 5)) sim_dnil)))) (by decide)))))
    (ss_seq (ss_if (q := true) (sim_tnot (sim_tru (Sim.rx (sim_fz (sim_call (sim_law_same cc 8) (sim_dcons (sim_var (i := 4)) (sim_dcons (sim_fz (sim_call (sim_law_forces cc) (sim_dcons (Sim.qu (sim_bin op_ix (Sim.rx (sim_var (i := 0))) (Sim.rx (sim_var (i := 3))) (Or.inr rfl))) sim_dnil))) sim_dnil))))))) (ss_ret (q := true) (sim_lf (sim_c fun _ _ => .bl _))) ss_nx)
    (ss_for (q := true) (c := (.one 5)) (sim_r2 (sim_dcons (sim_c fun _ _ => .int _) (sim_dcons (sim_fz (Sim.qu (sim_add' op_add (Sim.rx (sim_cb op_len (sim_one (Sim.rx (sim_var (i := 4)))))) (Sim.rx (sim_c fun _ _ => .int _)) (Or.inr rfl)))) sim_dnil))) (ss_seq (ss_asg (q := true) (i := 6) (sim_lf (sim_fz (sim_lc (c := (.one 7)) (sim_r2 (sim_dcons (sim_var (i := 5)) (sim_dcons (sim_cb op_len (sim_one (Sim.rx (sim_var (i := 4))))) sim_dnil))) (sim_tand (sim_tru (Sim.rx (Sim.qu (sim_bin op_ix (Sim.rx (sim_var (i := 4))) (Sim.rx (sim_var (i := 7))) (Or.inr rfl))))) (Sim.qu (sim_cmp cmp_eq (Sim.rx (Sim.qu (sim_bin op_ix (Sim.rx (Sim.qu (sim_bin op_ix (Sim.rx (sim_var (i := 0))) (Sim.rx (sim_var (i := 3))) (Or.inr rfl)))) (Sim.rx (sim_var (i := 7))) (Or.inr rfl)))) (Sim.rx (sim_tup (sim_dcons (sim_c fun _ _ => .str _) (sim_dcons (sim_var (i := 5)) sim_dnil)))) (Or.inr rfl)))) (sim_var (i := 7)) (by decide)))))
    (ss_if (q := true) (Sim.qu (sim_cmp cmp_ne (Sim.rx (Sim.qu (sim_bin op_ix (Sim.rx (sim_var (i := 4))) (Sim.rx (sim_bin op_sub (Sim.rx (sim_var (i := 5))) (Sim.rx (sim_c fun _ _ => .int _)) (Or.inl rfl))) (Or.inr rfl)))) (Sim.rx (sim_b (Sim.qu (sim_cmp cmp_eq (Sim.rx (sim_cb op_len (sim_one (Sim.rx (sim_var (i := 6)))))) (Sim.rx (sim_c fun _ _ => .int _)) (Or.inr rfl))))) (Or.inr rfl))) (ss_ret (q := true) (sim_lf (sim_c fun _ _ => .bl _))) ss_nx))))))
    (ss_ret (q := true) (sim_lf (sim_c fun _ _ => .bl _)))))
theorem sim_law (cc : Nat → Nat) : SimF cc [] (m_law cc) p_law := by
  unfold m_law p_law
  exact simF_fn (ss_seq (ss_asg (q := true) (i := 1) (sim_lf (sim_fz (sim_call (sim_law_draws cc) (sim_dcons (sim_var (i := 0)) sim_dnil)))))
    (ss_seq (ss_asg (q := true) (i := 2) (sim_lf (sim_fz (sim_call (sim_law_triples cc) (sim_dcons (sim_var (i := 1)) (sim_dcons (sim_c fun _ _ => .int _) (sim_dcons (sim_bin op_mod (Sim.rx (sim_fz (sim_call (sim_law_at cc) (sim_dcons (sim_var (i := 1)) (sim_dcons (sim_c fun _ _ => .int _) sim_dnil))))) (Sim.rx (sim_c fun _ _ => .int _)) (Or.inl rfl)) (sim_dcons (sim_fz (Sim.qu (sim_add' op_add (Sim.rx (sim_c fun _ _ => .int _)) (Sim.rx (sim_bin op_mod (Sim.rx (sim_fz (sim_call (sim_law_at cc) (sim_dcons (sim_var (i := 1)) (sim_dcons (sim_c fun _ _ => .int _) sim_dnil))))) (Sim.rx (sim_c fun _ _ => .int _)) (Or.inl rfl))) (Or.inr rfl)))) sim_dnil))))))))
    (ss_seq (ss_asg (q := true) (i := 3) (sim_lf (sim_fz (sim_call (sim_law_rows_of cc) (sim_dcons (sim_var (i := 2)) sim_dnil)))))
    (ss_seq (ss_asg (q := true) (i := 4) (sim_call (sim_law_deeds cc) (sim_dcons (sim_var (i := 2)) sim_dnil)))
    (ss_seq (ss_if (q := true) (sim_tor (sim_tnot (sim_tru (Sim.rx (sim_fz (sim_call (sim_law_same cc 8) (sim_dcons (sim_c fun _ _ => .int _) (sim_dcons (sim_c fun _ _ => .int _) sim_dnil))))))) (sim_tnot (sim_tru (Sim.rx (sim_fz (sim_callB (k := 1) (i := 4) (sim_law_is_forced cc) (av_s (sim_var (i := 3)) (av_0 sim_dnil)))))))) (ss_ret (q := true) (sim_lf (sim_c fun _ _ => .bl _))) ss_nx)
    (ss_seq (ss_asg (q := false) (i := 5) (sim_methB (q := true) (sim_Deeds_copy cc) (simP_var (i := 4)) sim_dnil (by first | exact Or.inl rfl | exact Or.inr rfl)))
    (ss_seq (ss_asg (q := true) (i := 6) (sim_lf (sim_bin op_mod (Sim.rx (sim_fz (sim_call (sim_law_at cc) (sim_dcons (sim_var (i := 1)) (sim_dcons (sim_c fun _ _ => .int _) sim_dnil))))) (Sim.rx (sim_c fun _ _ => .int _)) (Or.inl rfl))))
    (ss_seq (ss_if (q := true) (Sim.qu (sim_cmp cmp_eq (Sim.rx (sim_bin op_mod (Sim.rx (sim_fz (sim_call (sim_law_at cc) (sim_dcons (sim_var (i := 1)) (sim_dcons (sim_c fun _ _ => .int _) sim_dnil))))) (Sim.rx (sim_c fun _ _ => .int _)) (Or.inl rfl))) (Sim.rx (sim_c fun _ _ => .int _)) (Or.inr rfl))) (ss_drop (q := false) (sim_meth (q := true) (sim_Deeds_add cc) (simP_var (i := 4)) (sim_dcons (sim_var (i := 6)) (sim_dcons (sim_tup (sim_dcons (sim_c fun _ _ => .str _) (sim_dcons (sim_c fun _ _ => .str _) (sim_dcons (sim_tup sim_dnil) (sim_dcons (sim_c fun _ _ => .non) (sim_dcons (sim_c fun _ _ => .int _) (sim_dcons (sim_c fun _ _ => .str _) sim_dnil))))))) sim_dnil)) (by first | exact Or.inl rfl | exact Or.inr rfl))) (ss_seq (ss_drop (q := false) (sim_meth (q := true) (sim_Deeds_add cc) (simP_var (i := 5)) (sim_dcons (sim_var (i := 6)) (sim_dcons (sim_tup (sim_dcons (sim_c fun _ _ => .str _) (sim_dcons (sim_c fun _ _ => .str _) (sim_dcons (sim_tup sim_dnil) (sim_dcons (sim_c fun _ _ => .non) (sim_dcons (sim_c fun _ _ => .int _) (sim_dcons (sim_c fun _ _ => .str _) sim_dnil))))))) sim_dnil)) (by first | exact Or.inl rfl | exact Or.inr rfl)))
    (ss_asg (q := true) (i := 5) (sim_lf (sim_fv (i := 4))))))
    (ss_seq (ss_drop (q := false) (sim_lf (sim_updT (q := false) upd_app (sim_methD (sim_Deeds_counts cc) (sim_fv (i := 4)) sim_dnil) (sim_ra (sim_dcons (sim_c fun _ _ => .int _) sim_dnil)))))
    (ss_ret (q := true) (sim_call (sim_law_is_forced cc) (sim_dcons (sim_var (i := 3)) (sim_dcons (sim_fv (i := 5)) sim_dnil)))))))))))))
theorem law_true (cc : Nat → Nat) : Q.semTrue (m_law cc) := by
  have h := sim_law cc
  have t := p_true
  generalize m_law cc = m at h ⊢
  generalize p_law = p at h t
  exact P.sem_true h t
end LAW

set_option Elab.async false
set_option linter.all false
set_option maxRecDepth 100000
set_option maxHeartbeats 4000000
namespace LAW
open PySem PySem.Spec PyProof.Rows L2 TL Q
abbrev n_law_mix : List Str := ["_law_cell", "_law_k", "_law_value"]
theorem sc_law_mix : FnScope n_law_mix ["_law_cell", "_law_k"] (defScope s_law_mix) := ⟨rfl, rfl, rfl, by decide +kernel, rfl, by decide +kernel, by decide +kernel⟩
abbrev n_law_draws : List Str := ["_law_script", "_law_draws_here", "_law_k", "_law_cell", "_law_place"]
theorem sc_law_draws : FnScope n_law_draws ["_law_script"] (defScope s_law_draws) := ⟨rfl, rfl, rfl, by decide +kernel, rfl, by decide +kernel, by decide +kernel⟩
abbrev n_law_modules : List Str := []
theorem sc_law_modules : FnScope n_law_modules [] (defScope s_law_modules) := ⟨rfl, rfl, rfl, by decide +kernel, rfl, by decide +kernel, by decide +kernel⟩
abbrev n_law_at : List Str := ["_law_draws_here", "_law_index"]
theorem sc_law_at : FnScope n_law_at ["_law_draws_here", "_law_index"] (defScope s_law_at) := ⟨rfl, rfl, rfl, by decide +kernel, rfl, by decide +kernel, by decide +kernel⟩
abbrev n_law_letters : List Str := ["_law_draws_here", "_law_index", "_law_chars", "_law_text", "_law_k"]
theorem sc_law_letters : FnScope n_law_letters ["_law_draws_here", "_law_index"] (defScope s_law_letters) := ⟨rfl, rfl, rfl, by decide +kernel, rfl, by decide +kernel, by decide +kernel⟩
abbrev n_law_forces : List Str := ["_law_row_here", "_law_forces_here", "_law_k", "_law_place", "_law_takers", "_law_j"]
theorem sc_law_forces : FnScope n_law_forces ["_law_row_here"] (defScope s_law_forces) := ⟨rfl, rfl, rfl, by decide +kernel, rfl, by decide +kernel, by decide +kernel⟩
abbrev n_law_changes : List Str := ["_law_rows", "_law_module", "_law_found", "_law_replica", "_law_forces_here", "_law_k"]
theorem sc_law_changes : FnScope n_law_changes ["_law_rows", "_law_module"] (defScope s_law_changes) := ⟨rfl, rfl, rfl, by decide +kernel, rfl, by decide +kernel, by decide +kernel⟩
abbrev n_law_inserted : List Str := ["_law_replica", "_law_deed_here", "_law_found", "_law_behind", "_law_k"]
theorem sc_law_inserted : FnScope n_law_inserted ["_law_replica", "_law_deed_here"] (defScope s_law_inserted) := ⟨rfl, rfl, rfl, by decide +kernel, rfl, by decide +kernel, by decide +kernel⟩
abbrev n_law_row : List Str := ["_law_rows", "_law_module", "_law_removed", "_law_found", "_law_replica", "_law_deed_here", "_law_force", "_law_mark", "_law_behind", "_law_char", "_law_row_here", "_law_at_here", "_law_each"]
theorem sc_law_row : FnScope n_law_row ["_law_rows", "_law_module"] (defScope s_law_row) := ⟨rfl, rfl, rfl, by decide +kernel, rfl, by decide +kernel, by decide +kernel⟩
abbrev n_law_last : List Str := ["_law_rows", "_law_last_here", "_law_row_here", "_law_deed_here"]
theorem sc_law_last : FnScope n_law_last ["_law_rows"] (defScope s_law_last) := ⟨rfl, rfl, rfl, by decide +kernel, rfl, by decide +kernel, by decide +kernel⟩
abbrev n_law_deed : List Str := ["_law_draws_here", "_law_index", "_law_rows", "_law_replica", "_law_own", "_law_module", "_law_marks", "_law_each", "_law_removed", "_law_k", "_law_behind", "_law_number", "_law_mark", "_law_deed_here"]
theorem sc_law_deed : FnScope n_law_deed ["_law_draws_here", "_law_index", "_law_rows", "_law_replica"] (defScope s_law_deed) := ⟨rfl, rfl, rfl, by decide +kernel, rfl, by decide +kernel, by decide +kernel⟩
abbrev n_law_visible : List Str := ["_law_rows", "_law_counts", "_law_k"]
theorem sc_law_visible : FnScope n_law_visible ["_law_rows", "_law_counts"] (defScope s_law_visible) := ⟨rfl, rfl, rfl, by decide +kernel, rfl, by decide +kernel, by decide +kernel⟩
abbrev n_law_triples : List Str := ["_law_draws_here", "_law_start", "_law_steps", "_law_most", "_law_rows", "_law_k", "_law_counts", "_law_j", "_law_triples_here", "_law_base", "_law_replica", "_law_other", "_law_deed_here"]
theorem sc_law_triples : FnScope n_law_triples ["_law_draws_here", "_law_start", "_law_steps", "_law_most"] (defScope s_law_triples) := ⟨rfl, rfl, rfl, by decide +kernel, rfl, by decide +kernel, by decide +kernel⟩
abbrev n_law_rows_of : List Str := ["_law_triples_here", "_law_rows", "_law_k", "_law_replica", "_law_place", "_law_deed_here"]
theorem sc_law_rows_of : FnScope n_law_rows_of ["_law_triples_here"] (defScope s_law_rows_of) := ⟨rfl, rfl, rfl, by decide +kernel, rfl, by decide +kernel, by decide +kernel⟩
abbrev n_Deeds__init__ : List Str := ["self", "_"]
theorem sc_Deeds__init__ : FnScope n_Deeds__init__ ["self"] (defScope s_Deeds__init__) := ⟨rfl, rfl, rfl, by decide +kernel, rfl, by decide +kernel, by decide +kernel⟩
abbrev n_Deeds_add : List Str := ["self", "replica", "deed"]
theorem sc_Deeds_add : FnScope n_Deeds_add ["self", "replica", "deed"] (defScope s_Deeds_add) := ⟨rfl, rfl, rfl, by decide +kernel, rfl, by decide +kernel, by decide +kernel⟩
abbrev n_law_deeds : List Str := ["_law_triples_here", "_law_deeds_here", "_law_replica", "_law_place", "_law_deed_here"]
theorem sc_law_deeds : FnScope n_law_deeds ["_law_triples_here"] (defScope s_law_deeds) := ⟨rfl, rfl, rfl, by decide +kernel, rfl, by decide +kernel, by decide +kernel⟩
abbrev n_Deeds_copy : List Str := ["self", "result", "row"]
theorem sc_Deeds_copy : FnScope n_Deeds_copy ["self"] (defScope s_Deeds_copy) := ⟨rfl, rfl, rfl, by decide +kernel, rfl, by decide +kernel, by decide +kernel⟩
abbrev n_law_is_integer : List Str := ["_law_actual"]
theorem sc_law_is_integer : FnScope n_law_is_integer ["_law_actual"] (defScope s_law_is_integer) := ⟨rfl, rfl, rfl, by decide +kernel, rfl, by decide +kernel, by decide +kernel⟩
abbrev n_law_same : List Str := ["_law_actual", "_law_expected", "_law_k"]
theorem sc_law_same : FnScope n_law_same ["_law_actual", "_law_expected"] (defScope s_law_same) := ⟨rfl, rfl, rfl, by decide +kernel, rfl, by decide +kernel, by decide +kernel⟩
abbrev n_Deeds_forces : List Str := ["self", "replica", "row", "taken", "result", "place", "in_force"]
theorem sc_Deeds_forces : FnScope n_Deeds_forces ["self", "replica"] (defScope s_Deeds_forces) := ⟨rfl, rfl, rfl, by decide +kernel, rfl, by decide +kernel, by decide +kernel⟩
abbrev n_Deeds_in_force : List Str := ["self", "replica", "place"]
theorem sc_Deeds_in_force : FnScope n_Deeds_in_force ["self", "replica", "place"] (defScope s_Deeds_in_force) := ⟨rfl, rfl, rfl, by decide +kernel, rfl, by decide +kernel, by decide +kernel⟩
abbrev n_Deeds_counts : List Str := ["self", "row"]
theorem sc_Deeds_counts : FnScope n_Deeds_counts ["self"] (defScope s_Deeds_counts) := ⟨rfl, rfl, rfl, by decide +kernel, rfl, by decide +kernel, by decide +kernel⟩
abbrev n_law_is_forced : List Str := ["_law_rows", "_law_deeds_here", "_law_row_here", "_law_replica", "_law_told", "_law_place", "_law_later", "_law_k"]
theorem sc_law_is_forced : FnScope n_law_is_forced ["_law_rows", "_law_deeds_here"] (defScope s_law_is_forced) := ⟨rfl, rfl, rfl, by decide +kernel, rfl, by decide +kernel, by decide +kernel⟩
abbrev n_law : List Str := ["_law_script", "_law_draws_here", "_law_triples_here", "_law_rows", "_law_deeds_here", "_law_other", "_law_replica"]
theorem sc_law : FnScope n_law ["_law_script"] (defScope s_law) := ⟨rfl, rfl, rfl, by decide +kernel, rfl, by decide +kernel, by decide +kernel⟩
structure Txt (K : Fr) (mg : Str → Option Value) where
  cc : Nat → Nat
  a_law_mix : Addr
  fd_law_mix : FuncData
  F_law_mix : Fun K "_law_mix" "_law_mix" s_law_mix a_law_mix fd_law_mix
  b_law_mix : Binds K fd_law_mix ["_law_cell", "_law_k"] []
  g_law_mix : mg "_law_mix" = some (.ref a_law_mix)
  a_law_draws : Addr
  fd_law_draws : FuncData
  F_law_draws : Fun K "_law_draws" "_law_draws" s_law_draws a_law_draws fd_law_draws
  b_law_draws : Binds K fd_law_draws ["_law_script"] []
  g_law_draws : mg "_law_draws" = some (.ref a_law_draws)
  a_law_modules : Addr
  fd_law_modules : FuncData
  F_law_modules : Fun K "_law_modules" "_law_modules" s_law_modules a_law_modules fd_law_modules
  b_law_modules : Binds K fd_law_modules [] []
  g_law_modules : mg "_law_modules" = some (.ref a_law_modules)
  a_law_at : Addr
  fd_law_at : FuncData
  F_law_at : Fun K "_law_at" "_law_at" s_law_at a_law_at fd_law_at
  b_law_at : Binds K fd_law_at ["_law_draws_here", "_law_index"] []
  g_law_at : mg "_law_at" = some (.ref a_law_at)
  a_law_letters : Addr
  fd_law_letters : FuncData
  F_law_letters : Fun K "_law_letters" "_law_letters" s_law_letters a_law_letters fd_law_letters
  b_law_letters : Binds K fd_law_letters ["_law_draws_here", "_law_index"] []
  g_law_letters : mg "_law_letters" = some (.ref a_law_letters)
  a_law_forces : Addr
  fd_law_forces : FuncData
  F_law_forces : Fun K "_law_forces" "_law_forces" s_law_forces a_law_forces fd_law_forces
  b_law_forces : Binds K fd_law_forces ["_law_row_here"] []
  g_law_forces : mg "_law_forces" = some (.ref a_law_forces)
  a_law_changes : Addr
  fd_law_changes : FuncData
  F_law_changes : Fun K "_law_changes" "_law_changes" s_law_changes a_law_changes fd_law_changes
  b_law_changes : Binds K fd_law_changes ["_law_rows", "_law_module"] []
  g_law_changes : mg "_law_changes" = some (.ref a_law_changes)
  a_law_inserted : Addr
  fd_law_inserted : FuncData
  F_law_inserted : Fun K "_law_inserted" "_law_inserted" s_law_inserted a_law_inserted fd_law_inserted
  b_law_inserted : Binds K fd_law_inserted ["_law_replica", "_law_deed_here"] []
  g_law_inserted : mg "_law_inserted" = some (.ref a_law_inserted)
  a_law_row : Addr
  fd_law_row : FuncData
  F_law_row : Fun K "_law_row" "_law_row" s_law_row a_law_row fd_law_row
  b_law_row : Binds K fd_law_row ["_law_rows", "_law_module"] []
  e_law_row : a_law_row = He.fAd K ("_law_row", none)
  g_law_row : mg "_law_row" = some (.ref a_law_row)
  a_law_last : Addr
  fd_law_last : FuncData
  F_law_last : Fun K "_law_last" "_law_last" s_law_last a_law_last fd_law_last
  b_law_last : Binds K fd_law_last ["_law_rows"] []
  g_law_last : mg "_law_last" = some (.ref a_law_last)
  a_law_deed : Addr
  fd_law_deed : FuncData
  F_law_deed : Fun K "_law_deed" "_law_deed" s_law_deed a_law_deed fd_law_deed
  b_law_deed : Binds K fd_law_deed ["_law_draws_here", "_law_index", "_law_rows", "_law_replica"] []
  g_law_deed : mg "_law_deed" = some (.ref a_law_deed)
  a_law_visible : Addr
  fd_law_visible : FuncData
  F_law_visible : Fun K "_law_visible" "_law_visible" s_law_visible a_law_visible fd_law_visible
  b_law_visible : Binds K fd_law_visible ["_law_rows", "_law_counts"] []
  g_law_visible : mg "_law_visible" = some (.ref a_law_visible)
  a_law_triples : Addr
  fd_law_triples : FuncData
  F_law_triples : Fun K "_law_triples" "_law_triples" s_law_triples a_law_triples fd_law_triples
  b_law_triples : Binds K fd_law_triples ["_law_draws_here", "_law_start", "_law_steps", "_law_most"] []
  g_law_triples : mg "_law_triples" = some (.ref a_law_triples)
  a_law_rows_of : Addr
  fd_law_rows_of : FuncData
  F_law_rows_of : Fun K "_law_rows_of" "_law_rows_of" s_law_rows_of a_law_rows_of fd_law_rows_of
  b_law_rows_of : Binds K fd_law_rows_of ["_law_triples_here"] []
  g_law_rows_of : mg "_law_rows_of" = some (.ref a_law_rows_of)
  a_Deeds__init__ : Addr
  fd_Deeds__init__ : FuncData
  F_Deeds__init__ : Fun K "__init__" "Deeds.__init__" s_Deeds__init__ a_Deeds__init__ fd_Deeds__init__
  b_Deeds__init__ : Binds K fd_Deeds__init__ ["self"] []
  me_Deeds__init__ : Meth K (cc 0) "__init__" a_Deeds__init__
  a_Deeds_add : Addr
  fd_Deeds_add : FuncData
  F_Deeds_add : Fun K "add" "Deeds.add" s_Deeds_add a_Deeds_add fd_Deeds_add
  b_Deeds_add : Binds K fd_Deeds_add ["self", "replica", "deed"] []
  me_Deeds_add : Meth K (cc 0) "add" a_Deeds_add
  a_law_deeds : Addr
  fd_law_deeds : FuncData
  F_law_deeds : Fun K "_law_deeds" "_law_deeds" s_law_deeds a_law_deeds fd_law_deeds
  b_law_deeds : Binds K fd_law_deeds ["_law_triples_here"] []
  g_law_deeds : mg "_law_deeds" = some (.ref a_law_deeds)
  a_Deeds_copy : Addr
  fd_Deeds_copy : FuncData
  F_Deeds_copy : Fun K "copy" "Deeds.copy" s_Deeds_copy a_Deeds_copy fd_Deeds_copy
  b_Deeds_copy : Binds K fd_Deeds_copy ["self"] []
  me_Deeds_copy : Meth K (cc 0) "copy" a_Deeds_copy
  a_law_is_integer : Addr
  fd_law_is_integer : FuncData
  F_law_is_integer : Fun K "_law_is_integer" "_law_is_integer" s_law_is_integer a_law_is_integer fd_law_is_integer
  b_law_is_integer : Binds K fd_law_is_integer ["_law_actual"] []
  g_law_is_integer : mg "_law_is_integer" = some (.ref a_law_is_integer)
  a_law_same : Addr
  fd_law_same : FuncData
  F_law_same : Fun K "_law_same" "_law_same" s_law_same a_law_same fd_law_same
  b_law_same : Binds K fd_law_same ["_law_actual", "_law_expected"] []
  g_law_same : mg "_law_same" = some (.ref a_law_same)
  a_Deeds_forces : Addr
  fd_Deeds_forces : FuncData
  F_Deeds_forces : Fun K "forces" "Deeds.forces" s_Deeds_forces a_Deeds_forces fd_Deeds_forces
  b_Deeds_forces : Binds K fd_Deeds_forces ["self", "replica"] []
  me_Deeds_forces : Meth K (cc 0) "forces" a_Deeds_forces
  a_Deeds_in_force : Addr
  fd_Deeds_in_force : FuncData
  F_Deeds_in_force : Fun K "in_force" "Deeds.in_force" s_Deeds_in_force a_Deeds_in_force fd_Deeds_in_force
  b_Deeds_in_force : Binds K fd_Deeds_in_force ["self", "replica", "place"] []
  me_Deeds_in_force : Meth K (cc 0) "in_force" a_Deeds_in_force
  a_Deeds_counts : Addr
  fd_Deeds_counts : FuncData
  F_Deeds_counts : Fun K "counts" "Deeds.counts" s_Deeds_counts a_Deeds_counts fd_Deeds_counts
  b_Deeds_counts : Binds K fd_Deeds_counts ["self"] []
  me_Deeds_counts : Meth K (cc 0) "counts" a_Deeds_counts
  a_law_is_forced : Addr
  fd_law_is_forced : FuncData
  F_law_is_forced : Fun K "_law_is_forced" "_law_is_forced" s_law_is_forced a_law_is_forced fd_law_is_forced
  b_law_is_forced : Binds K fd_law_is_forced ["_law_rows", "_law_deeds_here"] []
  g_law_is_forced : mg "_law_is_forced" = some (.ref a_law_is_forced)
  a_law : Addr
  fd_law : FuncData
  F_law : Fun K "law" "law" s_law a_law fd_law
  b_law : Binds K fd_law ["_law_script"] []
  g_law : mg "law" = some (.ref a_law)
  z_bool : mg "bool" = none
  z_int : mg "int" = none
  z_isinstance : mg "isinstance" = none
  z_len : mg "len" = none
  z_list : mg "list" = none
  z_max : mg "max" = none
  z_min : mg "min" = none
  z_range : mg "range" = none
  z_sorted : mg "sorted" = none
  z_str : mg "str" = none
  z_tuple : mg "tuple" = none
  cl_Deeds : Cls K (cc 0)
  gc_Deeds : mg "Deeds" = some (.ref (cc 0))
  mk_Deeds : Mk K (cc 0) a_Deeds__init__
  n_REPLICAS : ∃ t, mg "REPLICAS" = some (.int 8 t)
  fa_rows : FA K [cc 0] "rows"
section
variable {P : Program} {W : World} {K : Fr} {mg : Str → Option Value} {base : Heap} [hB : QH.BT K mg base]
theorem ok_law_mix (T : Txt K mg) : FnOk P W K mg base (L2.CX P W) 1 T.a_law_mix T.fd_law_mix ["_law_cell", "_law_k"] (spM K 2 (m_law_mix T.cc)) :=
  fn_ok (k := 0) T.F_law_mix sc_law_mix fun cdv A outer s H E hr tk hp => (ss_cons (ss_set (i := 2) sc_law_mix.nd rfl (by first | exact Or.inl rfl | exact Or.inr rfl) (se_mod (se_int' (by rfl) T.z_int (sa_cons (se_add (se_add (se_mul (se_int' (by rfl) T.z_int (sa_cons (se_var (i := 0)) sa_nil)) se_int) (se_mul (se_var (i := 1)) se_int)) se_int) sa_nil)) se_int))
    (ss_cons (ss_set (i := 2) sc_law_mix.nd rfl (by first | exact Or.inl rfl | exact Or.inr rfl) (se_mod (se_int' (by rfl) T.z_int (sa_cons (se_add (se_add (se_mul (se_var (i := 2)) (se_var (i := 2))) (se_mul (se_var (i := 1)) se_int)) se_int) sa_nil)) se_int))
    (ss_one (ss_ret (se_mod (se_div (se_var (i := 2)) se_int) se_int)))))
theorem ok_law_draws (T : Txt K mg) : FnOk P W K mg base (L2.CX P W) 2 T.a_law_draws T.fd_law_draws ["_law_script"] (spM K 1 (m_law_draws T.cc)) :=
  fn_ok (k := 1) T.F_law_draws sc_law_draws fun cdv A outer s H E hr tk hp => (ss_cons (ss_set (i := 1) sc_law_draws.nd rfl (by first | exact Or.inl rfl | exact Or.inr rfl) (se_lst sa_nil))
    (ss_cons (ss_for hp rfl (si_r1 (by rfl) T.z_range (sa_cons (se_min (by rfl) T.z_min (sa_cons se_int (sa_cons (se_len (by rfl) T.z_len (sa_cons (se_var (i := 0)) sa_nil)) sa_nil)) (hc := rfl)) sa_nil)) (pg_one (i := 2) sc_law_draws.nd rfl (by first | exact Or.inl rfl | exact Or.inr rfl)) (ss_cons (ss_set (i := 3) sc_law_draws.nd rfl (by first | exact Or.inl rfl | exact Or.inr rfl) (se_int' (by rfl) T.z_int (sa_cons (se_ix (se_var (i := 0)) (se_var (i := 2))) sa_nil)))
    (ss_one (ss_if (bt_lt (se_var (i := 3)) (se_pow se_int se_int)) (ss_one (ss_expr (se_app (se_var (i := 1)) (sa_cons (se_call tk (ok_law_mix (base := base) T) (hr.mono (by omega)) (by rfl) T.g_law_mix T.F_law_mix.kp T.b_law_mix (sa_cons (se_var (i := 3)) (sa_cons (se_var (i := 2)) sa_nil))) sa_nil)))) (ss_one (ss_for hp rfl (si_r1 (by rfl) T.z_range (sa_cons se_int sa_nil)) (pg_one (i := 4) sc_law_draws.nd rfl (by first | exact Or.inl rfl | exact Or.inr rfl)) (ss_one (ss_if (bt_gt (se_var (i := 3)) se_int) (ss_cons (ss_expr (se_app (se_var (i := 1)) (sa_cons (se_mod (se_int' (by rfl) T.z_int (sa_cons (se_var (i := 3)) sa_nil)) se_int) sa_nil)))
    (ss_one (ss_set (i := 3) sc_law_draws.nd rfl (by first | exact Or.inl rfl | exact Or.inr rfl) (se_div (se_var (i := 3)) se_int)))) ss_nil))))))))
    (ss_one (ss_ret (se_var (i := 1))))))
theorem ok_law_modules (T : Txt K mg) : FnOk P W K mg base (L2.CX P W) 1 T.a_law_modules T.fd_law_modules [] (spM K 0 (m_law_modules T.cc)) :=
  fn_ok (k := 0) T.F_law_modules sc_law_modules fun cdv A outer s H E hr tk hp => (ss_one (ss_ret (se_lst (sa_cons (se_str (by decide +kernel)) (sa_cons (se_str (by decide +kernel)) (sa_cons (se_str (by decide +kernel)) (sa_cons (se_mulS (se_str (by decide +kernel)) se_int) sa_nil)))))))
theorem ok_law_at (T : Txt K mg) : FnOk P W K mg base (L2.CX P W) 2 T.a_law_at T.fd_law_at ["_law_draws_here", "_law_index"] (spM K 2 (m_law_at T.cc)) :=
  fn_ok (k := 1) T.F_law_at sc_law_at fun cdv A outer s H E hr tk hp => (ss_cons (ss_if (bt_lt (se_var (i := 1)) (se_len (by rfl) T.z_len (sa_cons (se_var (i := 0)) sa_nil))) (ss_one (ss_ret (se_ix (se_var (i := 0)) (se_var (i := 1))))) ss_nil)
    (ss_cons (ss_if (bt_eq hr (se_len (by rfl) T.z_len (sa_cons (se_var (i := 0)) sa_nil)) se_int) (ss_one (ss_ret (se_call tk (ok_law_mix (base := base) T) (hr.mono (by omega)) (by rfl) T.g_law_mix T.F_law_mix.kp T.b_law_mix (sa_cons (se_var (i := 1)) (sa_cons se_int sa_nil))))) ss_nil)
    (ss_one (ss_ret (se_call tk (ok_law_mix (base := base) T) (hr.mono (by omega)) (by rfl) T.g_law_mix T.F_law_mix.kp T.b_law_mix (sa_cons (se_add (se_ix (se_var (i := 0)) (se_mod (se_int' (by rfl) T.z_int (sa_cons (se_var (i := 1)) sa_nil)) (se_len (by rfl) T.z_len (sa_cons (se_var (i := 0)) sa_nil)))) (se_mul (se_var (i := 1)) se_int)) (sa_cons (se_var (i := 1)) sa_nil)))))))
theorem ok_law_letters (T : Txt K mg) : FnOk P W K mg base (L2.CX P W) 3 T.a_law_letters T.fd_law_letters ["_law_draws_here", "_law_index"] (spM K 2 (m_law_letters T.cc)) :=
  fn_ok (k := 2) T.F_law_letters sc_law_letters fun cdv A outer s H E hr tk hp => (ss_cons (ss_set (i := 2) sc_law_letters.nd rfl (by first | exact Or.inl rfl | exact Or.inr rfl) (se_str (by decide +kernel)))
    (ss_cons (ss_set (i := 3) sc_law_letters.nd rfl (by first | exact Or.inl rfl | exact Or.inr rfl) (se_str (by decide +kernel)))
    (ss_cons (ss_for hp rfl (si_r1 (by rfl) T.z_range (sa_cons (se_mod (se_call tk (ok_law_at (base := base) T) (hr.mono (by omega)) (by rfl) T.g_law_at T.F_law_at.kp T.b_law_at (sa_cons (se_var (i := 0)) (sa_cons (se_var (i := 1)) sa_nil))) se_int) sa_nil)) (pg_one (i := 4) sc_law_letters.nd rfl (by first | exact Or.inl rfl | exact Or.inr rfl)) (ss_one (ss_set (i := 3) sc_law_letters.nd rfl (by first | exact Or.inl rfl | exact Or.inr rfl) (se_add (se_var (i := 3)) (se_ix (se_var (i := 2)) (se_mod (se_add (se_call tk (ok_law_at (base := base) T) (hr.mono (by omega)) (by rfl) T.g_law_at T.F_law_at.kp T.b_law_at (sa_cons (se_var (i := 0)) (sa_cons (se_add (se_var (i := 1)) se_int) sa_nil))) (se_mul se_int (se_var (i := 4)))) se_int))))))
    (ss_one (ss_ret (se_var (i := 3)))))))
theorem ok_law_forces (T : Txt K mg) : FnOk P W K mg base (L2.CX P W) 1 T.a_law_forces T.fd_law_forces ["_law_row_here"] (spM K 1 (m_law_forces T.cc)) :=
  fn_ok (k := 0) T.F_law_forces sc_law_forces fun cdv A outer s H E hr tk hp => (ss_cons (ss_set (i := 1) sc_law_forces.nd rfl (by first | exact Or.inl rfl | exact Or.inr rfl) (se_lst sa_nil))
    (ss_cons (ss_for hp rfl (si_r1 (by rfl) T.z_range (sa_cons (se_len (by rfl) T.z_len (sa_cons (se_var (i := 0)) sa_nil)) sa_nil)) (pg_one (i := 2) sc_law_forces.nd rfl (by first | exact Or.inl rfl | exact Or.inr rfl)) (ss_cons (ss_set (i := 3) sc_law_forces.nd rfl (by first | exact Or.inl rfl | exact Or.inr rfl) (se_sub (se_len (by rfl) T.z_len (sa_cons (se_var (i := 0)) sa_nil)) (se_var (i := 2))))
    (ss_cons (ss_setLc (i := 4) rfl sc_law_forces.nd rfl rfl (sw_true rfl rfl rfl (by decide +kernel)) (si_r1 (by rfl) T.z_range (sa_cons (se_len (by rfl) T.z_len (sa_cons (se_var (i := 1)) sa_nil)) sa_nil)) (blkOk_by (own := [("_law_j", 5)]) (N := n_law_forces) (sc := defScope s_law_forces) (by decide +kernel)) rfl (by decide) (fun _ _ _ _ _ => (pg_one (i := 5) sc_law_forces.nd rfl (by first | exact Or.inl rfl | exact Or.inr rfl))) (fun _ _ _ _ _ => (pts_1 (PW.pt (bw_and (bt_tru (se_ix (se_var (i := 1)) (se_var (i := 5)))) (bw_and1 (bt_eq hr (se_ix (se_var (i := 0)) (se_sub (se_sub (se_len (by rfl) T.z_len (sa_cons (se_var (i := 0)) sa_nil)) se_int) (se_var (i := 5)))) (se_tup (sa_cons (se_str (by decide +kernel)) (sa_cons (se_var (i := 3)) sa_nil))))))))) (fun _ _ _ _ _ => (se_var (i := 5))))
    (ss_one (ss_expr (se_app (se_var (i := 1)) (sa_cons (se_eq hr (se_len (by rfl) T.z_len (sa_cons (se_var (i := 4)) sa_nil)) se_int) sa_nil)))))))
    (ss_one (ss_ret (se_lc rfl sc_law_forces.nd (si_r1 (by rfl) T.z_range (sa_cons (se_len (by rfl) T.z_len (sa_cons (se_var (i := 0)) sa_nil)) sa_nil)) (blkOk_by (own := [("_law_k", 2)]) (N := n_law_forces) (sc := defScope s_law_forces) (by decide +kernel)) rfl (by decide) (fun _ _ _ _ _ => (pg_one (i := 2) sc_law_forces.nd rfl (by first | exact Or.inl rfl | exact Or.inr rfl))) (fun _ _ _ _ _ => pts_y) (fun _ _ _ _ _ => (se_ix (se_var (i := 1)) (se_sub (se_sub (se_len (by rfl) T.z_len (sa_cons (se_var (i := 0)) sa_nil)) se_int) (se_var (i := 2))))))))))
theorem ok_law_changes (T : Txt K mg) : FnOk P W K mg base (L2.CX P W) 2 T.a_law_changes T.fd_law_changes ["_law_rows", "_law_module"] (spM K 2 (m_law_changes T.cc)) :=
  fn_ok (k := 1) T.F_law_changes sc_law_changes fun cdv A outer s H E hr tk hp => (ss_cons (ss_set (i := 2) sc_law_changes.nd rfl (by first | exact Or.inl rfl | exact Or.inr rfl) (se_lst sa_nil))
    (ss_cons (ss_for hp rfl (si_r1 (by rfl) T.z_range (sa_cons se_int sa_nil)) (pg_one (i := 3) sc_law_changes.nd rfl (by first | exact Or.inl rfl | exact Or.inr rfl)) (ss_cons (ss_set (i := 4) sc_law_changes.nd rfl (by first | exact Or.inl rfl | exact Or.inr rfl) (se_call tk (ok_law_forces (base := base) T) (hr.mono (by omega)) (by rfl) T.g_law_forces T.F_law_forces.kp T.b_law_forces (sa_cons (se_ix (se_var (i := 0)) (se_var (i := 3))) sa_nil)))
    (ss_one (ss_for hp rfl (si_r1 (by rfl) T.z_range (sa_cons (se_len (by rfl) T.z_len (sa_cons (se_ix (se_var (i := 0)) (se_var (i := 3))) sa_nil)) sa_nil)) (pg_one (i := 5) sc_law_changes.nd rfl (by first | exact Or.inl rfl | exact Or.inr rfl)) (ss_one (ss_if (PW.pt (bw_and (bt_eq hr (se_ix (se_ix (se_ix (se_var (i := 0)) (se_var (i := 3))) (se_var (i := 5))) se_int) (se_str (by decide +kernel))) (bw_and1 (bt_eq hr (se_ix (se_ix (se_ix (se_var (i := 0)) (se_var (i := 3))) (se_var (i := 5))) se_int) (se_var (i := 1)))))) (ss_one (ss_expr (se_app (se_var (i := 2)) (sa_cons (se_tup (sa_cons (se_var (i := 3)) (sa_cons (se_ix (se_ix (se_var (i := 0)) (se_var (i := 3))) (se_var (i := 5))) (sa_cons (se_ix (se_var (i := 4)) (se_var (i := 5))) sa_nil)))) sa_nil)))) ss_nil))))))
    (ss_one (ss_ret (se_var (i := 2))))))
theorem ok_law_inserted (T : Txt K mg) : FnOk P W K mg base (L2.CX P W) 1 T.a_law_inserted T.fd_law_inserted ["_law_replica", "_law_deed_here"] (spM K 2 (m_law_inserted T.cc)) :=
  fn_ok (k := 0) T.F_law_inserted sc_law_inserted fun cdv A outer s H E hr tk hp => (ss_cons (ss_set (i := 2) sc_law_inserted.nd rfl (by first | exact Or.inl rfl | exact Or.inr rfl) (se_lst sa_nil))
    (ss_cons (ss_set (i := 3) sc_law_inserted.nd rfl (by first | exact Or.inl rfl | exact Or.inr rfl) (se_ix (se_var (i := 1)) se_int))
    (ss_cons (ss_for hp rfl (si_r1 (by rfl) T.z_range (sa_cons (se_len (by rfl) T.z_len (sa_cons (se_ix (se_var (i := 1)) se_int) sa_nil)) sa_nil)) (pg_one (i := 4) sc_law_inserted.nd rfl (by first | exact Or.inl rfl | exact Or.inr rfl)) (ss_cons (ss_expr (se_app (se_var (i := 2)) (sa_cons (se_tup (sa_cons (se_tup (sa_cons (se_add (se_ix (se_var (i := 1)) se_int) (se_var (i := 4))) (sa_cons (se_var (i := 0)) sa_nil))) (sa_cons (se_var (i := 3)) (sa_cons (se_ix (se_ix (se_var (i := 1)) se_int) (se_var (i := 4))) sa_nil)))) sa_nil)))
    (ss_one (ss_set (i := 3) sc_law_inserted.nd rfl (by first | exact Or.inl rfl | exact Or.inr rfl) (se_tup (sa_cons (se_add (se_ix (se_var (i := 1)) se_int) (se_var (i := 4))) (sa_cons (se_var (i := 0)) sa_nil)))))))
    (ss_one (ss_ret (se_var (i := 2)))))))
theorem ok_law_row (T : Txt K mg) : FnOk P W K mg base (L2.CX P W) 3 T.a_law_row T.fd_law_row ["_law_rows", "_law_module"] (spM K 2 (m_law_row T.cc)) :=
  QH.fn_okL (k := 2) (a := ("_law_row", none)) T.e_law_row T.F_law_row sc_law_row fun cdv hc A outer s H E hr tk hp => (ss_cons (ss_set (i := 2) sc_law_row.nd rfl (by first | exact Or.inl rfl | exact Or.inr rfl) (se_lst sa_nil))
    (ss_cons (ss_set (i := 3) sc_law_row.nd rfl (by first | exact Or.inl rfl | exact Or.inr rfl) (se_lst sa_nil))
    (ss_cons (ss_for hp rfl (si_e (se_call tk (ok_law_changes (base := base) T) (hr.mono (by omega)) (by rfl) T.g_law_changes T.F_law_changes.kp T.b_law_changes (sa_cons (se_var (i := 0)) (sa_cons (se_var (i := 1)) sa_nil)))) (pg_tupA (is := [4, 5, 6]) rfl (pgs_c (i := 4) sc_law_row.nd rfl (by first | exact Or.inl rfl | exact Or.inr rfl) (pgs_c (i := 5) sc_law_row.nd rfl (by first | exact Or.inl rfl | exact Or.inr rfl) (pgs_c (i := 6) sc_law_row.nd rfl (by first | exact Or.inl rfl | exact Or.inr rfl) pgs_n)))) (ss_cons (ss_for hp rfl (si_e (se_call tk (ok_law_inserted (base := base) T) (hr.mono (by omega)) (by rfl) T.g_law_inserted T.F_law_inserted.kp T.b_law_inserted (sa_cons (se_var (i := 4)) (sa_cons (se_var (i := 5)) sa_nil)))) (pg_tupA (is := [7, 8, 9]) rfl (pgs_c (i := 7) sc_law_row.nd rfl (by first | exact Or.inl rfl | exact Or.inr rfl) (pgs_c (i := 8) sc_law_row.nd rfl (by first | exact Or.inl rfl | exact Or.inr rfl) (pgs_c (i := 9) sc_law_row.nd rfl (by first | exact Or.inl rfl | exact Or.inr rfl) pgs_n)))) (ss_one (ss_expr (se_app (se_var (i := 3)) (sa_cons (se_tup (sa_cons (se_var (i := 7)) (sa_cons (se_var (i := 8)) (sa_cons (se_var (i := 9)) (sa_cons (se_var (i := 6)) sa_nil))))) sa_nil)))))
    (ss_one (ss_if (bt_tru (se_var (i := 6))) (ss_one (ss_set (i := 2) sc_law_row.nd rfl (by first | exact Or.inl rfl | exact Or.inr rfl) (se_add (se_var (i := 2)) (se_list (by rfl) T.z_list (sa_cons (se_ix (se_var (i := 5)) se_int) sa_nil))))) ss_nil))))
    (ss_cons (ss_set (i := 10) sc_law_row.nd rfl (by first | exact Or.inl rfl | exact Or.inr rfl) (se_lst sa_nil))
    (ss_cons (ss_for hp rfl (si_e (QH.se_sortKs (d := (("_law_row", none), "_law_row.<locals>.<lambda>")) hB (by decide) hc (by rfl) (hr.mono (by omega)) (by rfl) T.z_sorted (se_var (i := 3)))) (pg_tupA (is := [7, 8, 9, 6]) rfl (pgs_c (i := 7) sc_law_row.nd rfl (by first | exact Or.inl rfl | exact Or.inr rfl) (pgs_c (i := 8) sc_law_row.nd rfl (by first | exact Or.inl rfl | exact Or.inr rfl) (pgs_c (i := 9) sc_law_row.nd rfl (by first | exact Or.inl rfl | exact Or.inr rfl) (pgs_c (i := 6) sc_law_row.nd rfl (by first | exact Or.inl rfl | exact Or.inr rfl) pgs_n))))) (ss_cons (ss_set (i := 11) sc_law_row.nd rfl (by first | exact Or.inl rfl | exact Or.inr rfl) se_int)
    (ss_cons (ss_if (bt_isnot (se_var (i := 8)) se_non) (ss_one (ss_set (i := 11) sc_law_row.nd rfl (by first | exact Or.inl rfl | exact Or.inr rfl) (se_add (se_indexD hr (se_lc rfl sc_law_row.nd (si_e (se_var (i := 10))) (blkOk_by (own := [("_law_each", 12)]) (N := n_law_row) (sc := defScope s_law_row) (by decide +kernel)) rfl (by decide) (fun _ _ _ _ _ => (pg_one (i := 12) sc_law_row.nd rfl (by first | exact Or.inl rfl | exact Or.inr rfl))) (fun _ _ _ _ _ => pts_y) (fun _ _ _ _ _ => (se_ix (se_var (i := 12)) se_int))) (sa_cons (se_var (i := 8)) sa_nil)) se_int))) ss_nil)
    (ss_one (ss_expr (se_ins (se_var (i := 10)) (sa_cons (se_var (i := 11)) (sa_cons (se_tup (sa_cons (se_var (i := 7)) (sa_cons (se_var (i := 9)) (sa_cons (se_and (se_var (i := 6)) (se_one (se_nin (se_var (i := 7)) (se_var (i := 2)) hr))) sa_nil)))) sa_nil))))))))
    (ss_one (ss_ret (se_var (i := 10)))))))))
theorem ok_law_last (T : Txt K mg) : FnOk P W K mg base (L2.CX P W) 1 T.a_law_last T.fd_law_last ["_law_rows"] (spM K 1 (m_law_last T.cc)) :=
  fn_ok (k := 0) T.F_law_last sc_law_last fun cdv A outer s H E hr tk hp => (ss_cons (ss_set (i := 1) sc_law_last.nd rfl (by first | exact Or.inl rfl | exact Or.inr rfl) se_int)
    (ss_cons (ss_for hp rfl (si_e (se_var (i := 0))) (pg_one (i := 2) sc_law_last.nd rfl (by first | exact Or.inl rfl | exact Or.inr rfl)) (ss_one (ss_for hp rfl (si_e (se_var (i := 2))) (pg_one (i := 3) sc_law_last.nd rfl (by first | exact Or.inl rfl | exact Or.inr rfl)) (ss_one (ss_if (bt_eq hr (se_ix (se_var (i := 3)) se_int) (se_str (by decide +kernel))) (ss_one (ss_set (i := 1) sc_law_last.nd rfl (by first | exact Or.inl rfl | exact Or.inr rfl) (se_max (by rfl) T.z_max (sa_cons (se_var (i := 1)) (sa_cons (se_add (se_ix (se_var (i := 3)) se_int) (se_len (by rfl) T.z_len (sa_cons (se_ix (se_var (i := 3)) se_int) sa_nil))) sa_nil)) (hc := rfl)))) ss_nil)))))
    (ss_one (ss_ret (se_var (i := 1))))))
theorem ok_law_deed (T : Txt K mg) : FnOk P W K mg base (L2.CX P W) 4 T.a_law_deed T.fd_law_deed ["_law_draws_here", "_law_index", "_law_rows", "_law_replica"] (spM K 4 (m_law_deed T.cc)) :=
  fn_ok (k := 3) T.F_law_deed sc_law_deed fun cdv A outer s H E hr tk hp => (ss_cons (ss_set (i := 4) sc_law_deed.nd rfl (by first | exact Or.inl rfl | exact Or.inr rfl) (se_ix (se_var (i := 2)) (se_var (i := 3))))
    (ss_cons (ss_if (PW.pt (bw_and (bt_eq hr (se_mod (se_call tk (ok_law_at (base := base) T) (hr.mono (by omega)) (by rfl) T.g_law_at T.F_law_at.kp T.b_law_at (sa_cons (se_var (i := 0)) (sa_cons (se_var (i := 1)) sa_nil))) se_int) se_int) (bw_and1 (bt_gt (se_len (by rfl) T.z_len (sa_cons (se_var (i := 4)) sa_nil)) se_int)))) (ss_one (ss_ret (se_tup (sa_cons (se_str (by decide +kernel)) (sa_cons (se_add se_int (se_mod (se_call tk (ok_law_at (base := base) T) (hr.mono (by omega)) (by rfl) T.g_law_at T.F_law_at.kp T.b_law_at (sa_cons (se_var (i := 0)) (sa_cons (se_add (se_var (i := 1)) se_int) sa_nil))) (se_len (by rfl) T.z_len (sa_cons (se_var (i := 4)) sa_nil)))) sa_nil))))) ss_nil)
    (ss_cons (ss_set (i := 5) sc_law_deed.nd rfl (by first | exact Or.inl rfl | exact Or.inr rfl) (se_ix (se_call0 tk (ok_law_modules (base := base) T) (hr.mono (by omega)) (by rfl) T.g_law_modules T.F_law_modules.kp T.b_law_modules) (se_div (se_mod (se_call tk (ok_law_at (base := base) T) (hr.mono (by omega)) (by rfl) T.g_law_at T.F_law_at.kp T.b_law_at (sa_cons (se_var (i := 0)) (sa_cons (se_add (se_var (i := 1)) se_int) sa_nil))) se_int) se_int)))
    (ss_cons (ss_setLc (i := 6) rfl sc_law_deed.nd rfl rfl (sw_true rfl rfl rfl (by decide +kernel)) (si_e (se_call tk (ok_law_row (base := base) T) (hr.mono (by omega)) (by rfl) T.g_law_row T.F_law_row.kp T.b_law_row (sa_cons (se_var (i := 2)) (sa_cons (se_var (i := 5)) sa_nil)))) (blkOk_by (own := [("_law_each", 7)]) (N := n_law_deed) (sc := defScope s_law_deed) (by decide +kernel)) rfl (by decide) (fun _ _ _ _ _ => (pg_one (i := 7) sc_law_deed.nd rfl (by first | exact Or.inl rfl | exact Or.inr rfl))) (fun _ _ _ _ _ => pts_y) (fun _ _ _ _ _ => (se_ix (se_var (i := 7)) se_int)))
    (ss_cons (ss_set (i := 8) sc_law_deed.nd rfl (by first | exact Or.inl rfl | exact Or.inr rfl) (se_lst sa_nil))
    (ss_cons (ss_for hp rfl (si_r1 (by rfl) T.z_range (sa_cons (se_mod (se_call tk (ok_law_at (base := base) T) (hr.mono (by omega)) (by rfl) T.g_law_at T.F_law_at.kp T.b_law_at (sa_cons (se_var (i := 0)) (sa_cons (se_add (se_var (i := 1)) se_int) sa_nil))) se_int) sa_nil)) (pg_one (i := 9) sc_law_deed.nd rfl (by first | exact Or.inl rfl | exact Or.inr rfl)) (ss_one (ss_if (bt_gt (se_len (by rfl) T.z_len (sa_cons (se_var (i := 6)) sa_nil)) se_int) (ss_one (ss_expr (se_app (se_var (i := 8)) (sa_cons (se_ix (se_var (i := 6)) (se_mod (se_call tk (ok_law_at (base := base) T) (hr.mono (by omega)) (by rfl) T.g_law_at T.F_law_at.kp T.b_law_at (sa_cons (se_var (i := 0)) (sa_cons (se_add (se_add (se_var (i := 1)) se_int) (se_var (i := 9))) sa_nil))) (se_len (by rfl) T.z_len (sa_cons (se_var (i := 6)) sa_nil)))) sa_nil)))) ss_nil)))
    (ss_cons (ss_set (i := 10) sc_law_deed.nd rfl (by first | exact Or.inl rfl | exact Or.inr rfl) se_non)
    (ss_cons (ss_if (PW.pt (bw_and (bt_gt (se_len (by rfl) T.z_len (sa_cons (se_var (i := 6)) sa_nil)) se_int) (bw_and1 (bt_ne hr (se_mod (se_call tk (ok_law_at (base := base) T) (hr.mono (by omega)) (by rfl) T.g_law_at T.F_law_at.kp T.b_law_at (sa_cons (se_var (i := 0)) (sa_cons (se_add (se_var (i := 1)) se_int) sa_nil))) se_int) se_int)))) (ss_one (ss_set (i := 10) sc_law_deed.nd rfl (by first | exact Or.inl rfl | exact Or.inr rfl) (se_ix (se_var (i := 6)) (se_mod (se_div (se_call tk (ok_law_at (base := base) T) (hr.mono (by omega)) (by rfl) T.g_law_at T.F_law_at.kp T.b_law_at (sa_cons (se_var (i := 0)) (sa_cons (se_add (se_var (i := 1)) se_int) sa_nil))) se_int) (se_len (by rfl) T.z_len (sa_cons (se_var (i := 6)) sa_nil)))))) ss_nil)
    (ss_cons (ss_set (i := 11) sc_law_deed.nd rfl (by first | exact Or.inl rfl | exact Or.inr rfl) se_int)
    (ss_cons (ss_for hp rfl (si_e (se_add (se_var (i := 8)) (se_lst (sa_cons (se_var (i := 10)) sa_nil)))) (pg_one (i := 12) sc_law_deed.nd rfl (by first | exact Or.inl rfl | exact Or.inr rfl)) (ss_one (ss_if (bt_isnot (se_var (i := 12)) se_non) (ss_one (ss_set (i := 11) sc_law_deed.nd rfl (by first | exact Or.inl rfl | exact Or.inr rfl) (se_max (by rfl) T.z_max (sa_cons (se_var (i := 11)) (sa_cons (se_add (se_ix (se_var (i := 12)) se_int) se_int) sa_nil)) (hc := rfl)))) ss_nil)))
    (ss_cons (ss_for hp rfl (si_e (se_var (i := 4))) (pg_one (i := 13) sc_law_deed.nd rfl (by first | exact Or.inl rfl | exact Or.inr rfl)) (ss_one (ss_if (bt_eq hr (se_ix (se_var (i := 13)) se_int) (se_str (by decide +kernel))) (ss_one (ss_set (i := 11) sc_law_deed.nd rfl (by first | exact Or.inl rfl | exact Or.inr rfl) (se_max (by rfl) T.z_max (sa_cons (se_var (i := 11)) (sa_cons (se_add (se_ix (se_var (i := 13)) se_int) (se_len (by rfl) T.z_len (sa_cons (se_ix (se_var (i := 13)) se_int) sa_nil))) sa_nil)) (hc := rfl)))) ss_nil)))
    (ss_cons (ss_set (i := 11) sc_law_deed.nd rfl (by first | exact Or.inl rfl | exact Or.inr rfl) (se_add (se_var (i := 11)) (se_ix (se_lst (sa_cons se_int (sa_cons se_int (sa_cons se_int (sa_cons se_int sa_nil))))) (se_mod (se_call tk (ok_law_at (base := base) T) (hr.mono (by omega)) (by rfl) T.g_law_at T.F_law_at.kp T.b_law_at (sa_cons (se_var (i := 0)) (sa_cons (se_add (se_var (i := 1)) se_int) sa_nil))) se_int))))
    (ss_cons (ss_if (bt_eq hr (se_mod (se_div (se_call tk (ok_law_at (base := base) T) (hr.mono (by omega)) (by rfl) T.g_law_at T.F_law_at.kp T.b_law_at (sa_cons (se_var (i := 0)) (sa_cons (se_add (se_var (i := 1)) se_int) sa_nil))) se_int) se_int) se_int) (ss_one (ss_set (i := 11) sc_law_deed.nd rfl (by first | exact Or.inl rfl | exact Or.inr rfl) (se_max (by rfl) T.z_max (sa_cons (se_var (i := 11)) (sa_cons (se_add (se_call tk (ok_law_last (base := base) T) (hr.mono (by omega)) (by rfl) T.g_law_last T.F_law_last.kp T.b_law_last (sa_cons (se_var (i := 2)) sa_nil)) se_int) sa_nil)) (hc := rfl)))) ss_nil)
    (ss_one (ss_ret (se_tup (sa_cons (se_str (by decide +kernel)) (sa_cons (se_var (i := 5)) (sa_cons (se_tuple (by rfl) T.z_tuple (sa_cons (se_var (i := 8)) sa_nil)) (sa_cons (se_var (i := 10)) (sa_cons (se_var (i := 11)) (sa_cons (se_call tk (ok_law_letters (base := base) T) (hr.mono (by omega)) (by rfl) T.g_law_letters T.F_law_letters.kp T.b_law_letters (sa_cons (se_var (i := 0)) (sa_cons (se_add (se_var (i := 1)) se_int) sa_nil))) sa_nil))))))))))))))))))))))
theorem ok_law_visible (T : Txt K mg) : FnOk P W K mg base (L2.CX P W) 1 T.a_law_visible T.fd_law_visible ["_law_rows", "_law_counts"] (spM K 2 (m_law_visible T.cc)) :=
  fn_ok (k := 0) T.F_law_visible sc_law_visible fun cdv A outer s H E hr tk hp => (ss_one (ss_ret (se_lc rfl sc_law_visible.nd (si_r1 (by rfl) T.z_range (sa_cons se_int sa_nil)) (blkOk_by (own := [("_law_k", 2)]) (N := n_law_visible) (sc := defScope s_law_visible) (by decide +kernel)) rfl (by decide) (fun _ _ _ _ _ => (pg_one (i := 2) sc_law_visible.nd rfl (by first | exact Or.inl rfl | exact Or.inr rfl))) (fun _ _ _ _ _ => pts_y) (fun _ _ _ _ _ => (se_sl (se_ix (se_var (i := 0)) (se_var (i := 2))) so_none (so_some (se_ix (se_var (i := 1)) (se_var (i := 2)))))))))
theorem ok_law_triples (T : Txt K mg) : FnOk P W K mg base (L2.CX P W) 5 T.a_law_triples T.fd_law_triples ["_law_draws_here", "_law_start", "_law_steps", "_law_most"] (spM K 4 (m_law_triples T.cc)) :=
  fn_ok (k := 4) T.F_law_triples sc_law_triples fun cdv A outer s H E hr tk hp => (ss_cons (ss_setLc (i := 4) rfl sc_law_triples.nd rfl rfl (sw_true rfl rfl rfl (by decide +kernel)) (si_r1 (by rfl) T.z_range (sa_cons se_int sa_nil)) (blkOk_by (own := [("_law_k", 5)]) (N := n_law_triples) (sc := defScope s_law_triples) (by decide +kernel)) rfl (by decide) (fun _ _ _ _ _ => (pg_one (i := 5) sc_law_triples.nd rfl (by first | exact Or.inl rfl | exact Or.inr rfl))) (fun _ _ _ _ _ => pts_y) (fun _ _ _ _ _ => (se_lst sa_nil)))
    (ss_cons (ss_set (i := 6) sc_law_triples.nd rfl (by first | exact Or.inl rfl | exact Or.inr rfl) (se_lst sa_nil))
    (ss_cons (ss_for hp rfl (si_r1 (by rfl) T.z_range (sa_cons (se_var (i := 3)) sa_nil)) (pg_one (i := 5) sc_law_triples.nd rfl (by first | exact Or.inl rfl | exact Or.inr rfl)) (ss_one (ss_expr (se_app (se_var (i := 6)) (sa_cons (se_lc rfl sc_law_triples.nd (si_r1 (by rfl) T.z_range (sa_cons se_int sa_nil)) (blkOk_by (own := [("_law_j", 7)]) (N := n_law_triples) (sc := defScope s_law_triples) (by decide +kernel)) rfl (by decide) (fun _ _ _ _ _ => (pg_one (i := 7) sc_law_triples.nd rfl (by first | exact Or.inl rfl | exact Or.inr rfl))) (fun _ _ _ _ _ => pts_y) (fun _ _ _ _ _ => se_int)) sa_nil)))))
    (ss_cons (ss_set (i := 8) sc_law_triples.nd rfl (by first | exact Or.inl rfl | exact Or.inr rfl) (se_lst sa_nil))
    (ss_cons (ss_for hp rfl (si_r1 (by rfl) T.z_range (sa_cons (se_var (i := 2)) sa_nil)) (pg_one (i := 5) sc_law_triples.nd rfl (by first | exact Or.inl rfl | exact Or.inr rfl)) (ss_cons (ss_set (i := 9) sc_law_triples.nd rfl (by first | exact Or.inl rfl | exact Or.inr rfl) (se_add (se_var (i := 1)) (se_mul se_int (se_var (i := 5)))))
    (ss_cons (ss_set (i := 10) sc_law_triples.nd rfl (by first | exact Or.inl rfl | exact Or.inr rfl) (se_mod (se_call tk (ok_law_at (base := base) T) (hr.mono (by omega)) (by rfl) T.g_law_at T.F_law_at.kp T.b_law_at (sa_cons (se_var (i := 0)) (sa_cons (se_var (i := 9)) sa_nil))) (se_var (i := 3))))
    (ss_cons (ss_set (i := 11) sc_law_triples.nd rfl (by first | exact Or.inl rfl | exact Or.inr rfl) (se_mod (se_call tk (ok_law_at (base := base) T) (hr.mono (by omega)) (by rfl) T.g_law_at T.F_law_at.kp T.b_law_at (sa_cons (se_var (i := 0)) (sa_cons (se_add (se_var (i := 9)) se_int) sa_nil))) (se_add (se_var (i := 3)) se_int)))
    (ss_cons (ss_if (bt_lt (se_var (i := 11)) (se_var (i := 3))) (ss_one (ss_setIL (se_lc rfl sc_law_triples.nd (si_r1 (by rfl) T.z_range (sa_cons se_int sa_nil)) (blkOk_by (own := [("_law_j", 7)]) (N := n_law_triples) (sc := defScope s_law_triples) (by decide +kernel)) rfl (by decide) (fun _ _ _ _ _ => (pg_one (i := 7) sc_law_triples.nd rfl (by first | exact Or.inl rfl | exact Or.inr rfl))) (fun _ _ _ _ _ => pts_y) (fun _ _ _ _ _ => (se_max (by rfl) T.z_max (sa_cons (se_ix (se_ix (se_var (i := 6)) (se_var (i := 10))) (se_var (i := 7))) (sa_cons (se_ix (se_ix (se_var (i := 6)) (se_var (i := 11))) (se_var (i := 7))) sa_nil)) (hc := rfl)))) (se_var (i := 6)) (se_var (i := 10)))) ss_nil)
    (ss_cons (ss_set (i := 12) sc_law_triples.nd rfl (by first | exact Or.inl rfl | exact Or.inr rfl) (se_call tk (ok_law_deed (base := base) T) (hr.mono (by omega)) (by rfl) T.g_law_deed T.F_law_deed.kp T.b_law_deed (sa_cons (se_var (i := 0)) (sa_cons (se_add (se_var (i := 9)) se_int) (sa_cons (se_call tk (ok_law_visible (base := base) T) (hr.mono (by omega)) (by rfl) T.g_law_visible T.F_law_visible.kp T.b_law_visible (sa_cons (se_var (i := 4)) (sa_cons (se_ix (se_var (i := 6)) (se_var (i := 10))) sa_nil))) (sa_cons (se_var (i := 10)) sa_nil))))))
    (ss_cons (ss_expr (se_app (se_ix (se_var (i := 4)) (se_var (i := 10))) (sa_cons (se_var (i := 12)) sa_nil)))
    (ss_cons (ss_setIL (se_len (by rfl) T.z_len (sa_cons (se_ix (se_var (i := 4)) (se_var (i := 10))) sa_nil)) (se_ix (se_var (i := 6)) (se_var (i := 10))) (se_var (i := 10)))
    (ss_one (ss_expr (se_app (se_var (i := 8)) (sa_cons (se_tup (sa_cons (se_var (i := 10)) (sa_cons (se_len (by rfl) T.z_len (sa_cons (se_ix (se_var (i := 4)) (se_var (i := 10))) sa_nil)) (sa_cons (se_var (i := 12)) sa_nil)))) sa_nil))))))))))))
    (ss_one (ss_ret (se_var (i := 8)))))))))
theorem ok_law_rows_of (T : Txt K mg) : FnOk P W K mg base (L2.CX P W) 1 T.a_law_rows_of T.fd_law_rows_of ["_law_triples_here"] (spM K 1 (m_law_rows_of T.cc)) :=
  fn_ok (k := 0) T.F_law_rows_of sc_law_rows_of fun cdv A outer s H E hr tk hp => (ss_cons (ss_setLc (i := 1) rfl sc_law_rows_of.nd rfl rfl (sw_true rfl rfl rfl (by decide +kernel)) (si_r1 (by rfl) T.z_range (sa_cons se_int sa_nil)) (blkOk_by (own := [("_law_k", 2)]) (N := n_law_rows_of) (sc := defScope s_law_rows_of) (by decide +kernel)) rfl (by decide) (fun _ _ _ _ _ => (pg_one (i := 2) sc_law_rows_of.nd rfl (by first | exact Or.inl rfl | exact Or.inr rfl))) (fun _ _ _ _ _ => pts_y) (fun _ _ _ _ _ => (se_lst sa_nil)))
    (ss_cons (ss_for hp rfl (si_e (se_var (i := 0))) (pg_tupA (is := [3, 4, 5]) rfl (pgs_c (i := 3) sc_law_rows_of.nd rfl (by first | exact Or.inl rfl | exact Or.inr rfl) (pgs_c (i := 4) sc_law_rows_of.nd rfl (by first | exact Or.inl rfl | exact Or.inr rfl) (pgs_c (i := 5) sc_law_rows_of.nd rfl (by first | exact Or.inl rfl | exact Or.inr rfl) pgs_n)))) (ss_one (ss_expr (se_app (se_ix (se_var (i := 1)) (se_var (i := 3))) (sa_cons (se_var (i := 5)) sa_nil)))))
    (ss_one (ss_ret (se_var (i := 1))))))
theorem ok_Deeds__init__ (T : Txt K mg) : FnOk P W K mg base (L2.CX P W) 1 T.a_Deeds__init__ T.fd_Deeds__init__ ["self"] (spM K 1 (m_Deeds__init__ T.cc)) :=
  fn_ok (k := 0) T.F_Deeds__init__ sc_Deeds__init__ fun cdv A outer s H E hr tk hp => (ss_one (ss_fld T.fa_rows (se_var (i := 0)) (se_lc rfl sc_Deeds__init__.nd (si_r1 (by rfl) T.z_range (sa_cons (se_gint (by rfl) T.n_REPLICAS) sa_nil)) (blkOk_by (own := [("_", 1)]) (N := n_Deeds__init__) (sc := defScope s_Deeds__init__) (by decide +kernel)) rfl (by decide) (fun _ _ _ _ _ => (pg_one (i := 1) sc_Deeds__init__.nd rfl (by first | exact Or.inl rfl | exact Or.inr rfl))) (fun _ _ _ _ _ => pts_y) (fun _ _ _ _ _ => (se_lst sa_nil)))))
theorem ok_Deeds_add (T : Txt K mg) : FnOk P W K mg base (L2.CX P W) 1 T.a_Deeds_add T.fd_Deeds_add ["self", "replica", "deed"] (spM K 3 (m_Deeds_add T.cc)) :=
  fn_ok (k := 0) T.F_Deeds_add sc_Deeds_add fun cdv A outer s H E hr tk hp => (ss_one (ss_expr (se_app (se_ix (se_fld T.fa_rows (se_var (i := 0))) (se_var (i := 1))) (sa_cons (se_var (i := 2)) sa_nil))))
theorem ok_law_deeds (T : Txt K mg) : FnOk P W K mg base (L2.CX P W) 3 T.a_law_deeds T.fd_law_deeds ["_law_triples_here"] (spM K 1 (m_law_deeds T.cc)) :=
  fn_ok (k := 2) T.F_law_deeds sc_law_deeds fun cdv A outer s H E hr tk hp => (ss_cons (ss_set (i := 1) sc_law_deeds.nd rfl (by first | exact Or.inl rfl | exact Or.inr rfl) (se_make0 T.mk_Deeds (ok_Deeds__init__ (base := base) T) (hr.mono (by omega)) (by rfl) T.gc_Deeds T.b_Deeds__init__))
    (ss_cons (ss_for hp rfl (si_e (se_var (i := 0))) (pg_tupA (is := [2, 3, 4]) rfl (pgs_c (i := 2) sc_law_deeds.nd rfl (by first | exact Or.inl rfl | exact Or.inr rfl) (pgs_c (i := 3) sc_law_deeds.nd rfl (by first | exact Or.inl rfl | exact Or.inr rfl) (pgs_c (i := 4) sc_law_deeds.nd rfl (by first | exact Or.inl rfl | exact Or.inr rfl) pgs_n)))) (ss_one (ss_expr (se_meth tk T.cl_Deeds T.me_Deeds_add (ok_Deeds_add (base := base) T) (hr.mono (by omega)) T.b_Deeds_add (se_var (i := 1)) (sa_cons (se_var (i := 2)) (sa_cons (se_var (i := 4)) sa_nil))))))
    (ss_one (ss_ret (se_var (i := 1))))))
theorem ok_Deeds_copy (T : Txt K mg) : FnOk P W K mg base (L2.CX P W) 3 T.a_Deeds_copy T.fd_Deeds_copy ["self"] (spM K 1 (m_Deeds_copy T.cc)) :=
  fn_ok (k := 2) T.F_Deeds_copy sc_Deeds_copy fun cdv A outer s H E hr tk hp => (ss_cons (ss_set (i := 1) sc_Deeds_copy.nd rfl (by first | exact Or.inl rfl | exact Or.inr rfl) (se_make0 T.mk_Deeds (ok_Deeds__init__ (base := base) T) (hr.mono (by omega)) (by rfl) T.gc_Deeds T.b_Deeds__init__))
    (ss_cons (ss_fld T.fa_rows (se_var (i := 1)) (se_lc rfl sc_Deeds_copy.nd (si_e (se_fld T.fa_rows (se_var (i := 0)))) (blkOk_by (own := [("row", 2)]) (N := n_Deeds_copy) (sc := defScope s_Deeds_copy) (by decide +kernel)) rfl (by decide) (fun _ _ _ _ _ => (pg_one (i := 2) sc_Deeds_copy.nd rfl (by first | exact Or.inl rfl | exact Or.inr rfl))) (fun _ _ _ _ _ => pts_y) (fun _ _ _ _ _ => (se_list (by rfl) T.z_list (sa_cons (se_var (i := 2)) sa_nil)))))
    (ss_one (ss_ret (se_var (i := 1))))))
theorem ok_law_is_integer (T : Txt K mg) : FnOk P W K mg base (L2.CX P W) 1 T.a_law_is_integer T.fd_law_is_integer ["_law_actual"] (spM K 1 (m_law_is_integer T.cc)) :=
  fn_ok (k := 0) T.F_law_is_integer sc_law_is_integer fun cdv A outer s H E hr tk hp => (ss_one (ss_ret (se_and (se_isi (T := .int) (by rfl) T.z_isinstance (se_var (i := 0)) (by rfl) T.z_int) (se_one (se_not (se_isi (T := .bool) (by rfl) T.z_isinstance (se_var (i := 0)) (by rfl) T.z_bool))))))
theorem okg_law_same (T : Txt K mg) : ∀ n : Nat, FnOk P W K mg base (L2.CX P W) (1 + n) T.a_law_same T.fd_law_same ["_law_actual", "_law_expected"] (spM K 2 (m_law_same T.cc n))
  | 0 => (by unfold m_law_same; exact fn_bad rfl)
  | n + 1 => by
    obtain ih_law_same := okg_law_same T n
    exact (by
      unfold m_law_same
      exact fn_ok (k := 1 + n) T.F_law_same sc_law_same fun cdv A outer s H E hr tk hp => (ss_cons (ss_if (bt_isi2 (T := .list) (S := .tuple) (by rfl) T.z_isinstance (se_var (i := 1)) (by rfl) T.z_list (by rfl) T.z_tuple) (ss_cons (ss_if (PW.pt (bw_or (bt_ne hr (se_isi (T := .list) (by rfl) T.z_isinstance (se_var (i := 1)) (by rfl) T.z_list) (se_isi (T := .list) (by rfl) T.z_isinstance (se_var (i := 0)) (by rfl) T.z_list)) (bw_or1 (bt_ne hr (se_isi (T := .tuple) (by rfl) T.z_isinstance (se_var (i := 1)) (by rfl) T.z_tuple) (se_isi (T := .tuple) (by rfl) T.z_isinstance (se_var (i := 0)) (by rfl) T.z_tuple))))) (ss_one (ss_ret se_bl)) ss_nil)
    (ss_cons (ss_if (bt_ne hr (se_len (by rfl) T.z_len (sa_cons (se_var (i := 0)) sa_nil)) (se_len (by rfl) T.z_len (sa_cons (se_var (i := 1)) sa_nil))) (ss_one (ss_ret se_bl)) ss_nil)
    (ss_cons (ss_for hp rfl (si_r1 (by rfl) T.z_range (sa_cons (se_len (by rfl) T.z_len (sa_cons (se_var (i := 1)) sa_nil)) sa_nil)) (pg_one (i := 2) sc_law_same.nd rfl (by first | exact Or.inl rfl | exact Or.inr rfl)) (ss_one (ss_if (bt_not (bt_tru (se_call tk ih_law_same hr (by rfl) T.g_law_same T.F_law_same.kp T.b_law_same (sa_cons (se_ix (se_var (i := 0)) (se_var (i := 2))) (sa_cons (se_ix (se_var (i := 1)) (se_var (i := 2))) sa_nil))))) (ss_one (ss_ret se_bl)) ss_nil)))
    (ss_one (ss_ret se_bl))))) ss_nil)
    (ss_cons (ss_if (bt_is (se_var (i := 1)) se_non) (ss_one (ss_ret (se_is (se_var (i := 0)) se_non))) ss_nil)
    (ss_cons (ss_if (bt_isi (T := .bool) (by rfl) T.z_isinstance (se_var (i := 1)) (by rfl) T.z_bool) (ss_one (ss_ret (se_and (se_isi (T := .bool) (by rfl) T.z_isinstance (se_var (i := 0)) (by rfl) T.z_bool) (se_one (se_eq hr (se_var (i := 0)) (se_var (i := 1))))))) ss_nil)
    (ss_cons (ss_if (bt_isi (T := .int) (by rfl) T.z_isinstance (se_var (i := 1)) (by rfl) T.z_int) (ss_one (ss_ret (se_and (se_call tk (ok_law_is_integer (base := base) T) (hr.mono (by omega)) (by rfl) T.g_law_is_integer T.F_law_is_integer.kp T.b_law_is_integer (sa_cons (se_var (i := 0)) sa_nil)) (se_one (se_eq hr (se_var (i := 0)) (se_var (i := 1))))))) ss_nil)
    (ss_one (ss_ret (se_and (se_isi (T := .str) (by rfl) T.z_isinstance (se_var (i := 0)) (by rfl) T.z_str) (se_one (se_eq hr (se_var (i := 0)) (se_var (i := 1))))))))))))
theorem ok_law_same (T : Txt K mg) (n : Nat) : FnOk P W K mg base (L2.CX P W) (1 + n) T.a_law_same T.fd_law_same ["_law_actual", "_law_expected"] (spM K 2 (m_law_same T.cc n)) := (okg_law_same (base := base) T n)
theorem ok_Deeds_forces (T : Txt K mg) : FnOk P W K mg base (L2.CX P W) 1 T.a_Deeds_forces T.fd_Deeds_forces ["self", "replica"] (spM K 2 (m_Deeds_forces T.cc)) :=
  fn_ok (k := 0) T.F_Deeds_forces sc_Deeds_forces fun cdv A outer s H E hr tk hp => (ss_cons (ss_set (i := 2) sc_Deeds_forces.nd rfl (by first | exact Or.inl rfl | exact Or.inr rfl) (se_ix (se_fld T.fa_rows (se_var (i := 0))) (se_var (i := 1))))
    (ss_cons (ss_set (i := 3) sc_Deeds_forces.nd rfl (by first | exact Or.inl rfl | exact Or.inr rfl) se_dnew)
    (ss_cons (ss_set (i := 4) sc_Deeds_forces.nd rfl (by first | exact Or.inl rfl | exact Or.inr rfl) (se_lst sa_nil))
    (ss_cons (ss_for hp rfl (si_r3 (by rfl) T.z_range (sa_cons (se_len (by rfl) T.z_len (sa_cons (se_var (i := 2)) sa_nil)) (sa_cons se_int (sa_cons (se_neg se_int) sa_nil)))) (pg_one (i := 5) sc_Deeds_forces.nd rfl (by first | exact Or.inl rfl | exact Or.inr rfl)) (ss_cons (ss_set (i := 6) sc_Deeds_forces.nd rfl (by first | exact Or.inl rfl | exact Or.inr rfl) (se_dnin (hu1 hr) (se_var (i := 5)) (se_var (i := 3))))
    (ss_cons (ss_if (PW.pt (bw_and (bt_tru (se_var (i := 6))) (bw_and1 (bt_eq hr (se_ix (se_ix (se_var (i := 2)) (se_sub (se_var (i := 5)) se_int)) se_int) (se_str (by decide +kernel)))))) (ss_one (ss_dset (hu1 hr) se_bl (se_var (i := 3)) (se_ix (se_ix (se_var (i := 2)) (se_sub (se_var (i := 5)) se_int)) se_int))) ss_nil)
    (ss_one (ss_expr (se_app (se_var (i := 4)) (sa_cons (se_var (i := 6)) sa_nil)))))))
    (ss_one (ss_ret (se_rev (se_var (i := 4)))))))))
theorem ok_Deeds_in_force (T : Txt K mg) : FnOk P W K mg base (L2.CX P W) 2 T.a_Deeds_in_force T.fd_Deeds_in_force ["self", "replica", "place"] (spM K 3 (m_Deeds_in_force T.cc)) :=
  fn_ok (k := 1) T.F_Deeds_in_force sc_Deeds_in_force fun cdv A outer s H E hr tk hp => (ss_one (ss_ret (se_ix (se_meth tk T.cl_Deeds T.me_Deeds_forces (ok_Deeds_forces (base := base) T) (hr.mono (by omega)) T.b_Deeds_forces (se_var (i := 0)) (sa_cons (se_var (i := 1)) sa_nil)) (se_sub (se_var (i := 2)) se_int))))
theorem ok_Deeds_counts (T : Txt K mg) : FnOk P W K mg base (L2.CX P W) 1 T.a_Deeds_counts T.fd_Deeds_counts ["self"] (spM K 1 (m_Deeds_counts T.cc)) :=
  fn_ok (k := 0) T.F_Deeds_counts sc_Deeds_counts fun cdv A outer s H E hr tk hp => (ss_one (ss_ret (se_lc rfl sc_Deeds_counts.nd (si_e (se_fld T.fa_rows (se_var (i := 0)))) (blkOk_by (own := [("row", 1)]) (N := n_Deeds_counts) (sc := defScope s_Deeds_counts) (by decide +kernel)) rfl (by decide) (fun _ _ _ _ _ => (pg_one (i := 1) sc_Deeds_counts.nd rfl (by first | exact Or.inl rfl | exact Or.inr rfl))) (fun _ _ _ _ _ => pts_y) (fun _ _ _ _ _ => (se_len (by rfl) T.z_len (sa_cons (se_var (i := 1)) sa_nil))))))
theorem ok_law_is_forced (T : Txt K mg) : FnOk P W K mg base (L2.CX P W) 10 T.a_law_is_forced T.fd_law_is_forced ["_law_rows", "_law_deeds_here"] (spM K 2 (m_law_is_forced T.cc)) :=
  fn_ok (k := 9) T.F_law_is_forced sc_law_is_forced fun cdv A outer s H E hr tk hp => (ss_cons (ss_if (PW.pt (bw_or (bt_not (bt_tru (se_call tk (ok_law_same (base := base) T 8) (hr.mono (by omega)) (by rfl) T.g_law_same T.F_law_same.kp T.b_law_same (sa_cons (se_fld T.fa_rows (se_var (i := 1))) (sa_cons (se_var (i := 0)) sa_nil))))) (bw_or1 (bt_not (bt_tru (se_call tk (ok_law_same (base := base) T 8) (hr.mono (by omega)) (by rfl) T.g_law_same T.F_law_same.kp T.b_law_same (sa_cons (se_meth0 tk T.cl_Deeds T.me_Deeds_counts (ok_Deeds_counts (base := base) T) (hr.mono (by omega)) T.b_Deeds_counts (se_var (i := 1))) (sa_cons (se_lc rfl sc_law_is_forced.nd (si_e (se_var (i := 0))) (blkOk_by (own := [("_law_row_here", 2)]) (N := n_law_is_forced) (sc := defScope s_law_is_forced) (by decide +kernel)) rfl (by decide) (fun _ _ _ _ _ => (pg_one (i := 2) sc_law_is_forced.nd rfl (by first | exact Or.inl rfl | exact Or.inr rfl))) (fun _ _ _ _ _ => pts_y) (fun _ _ _ _ _ => (se_len (by rfl) T.z_len (sa_cons (se_var (i := 2)) sa_nil)))) sa_nil)))))))) (ss_one (ss_ret se_bl)) ss_nil)
    (ss_cons (ss_for hp rfl (si_r1 (by rfl) T.z_range (sa_cons se_int sa_nil)) (pg_one (i := 3) sc_law_is_forced.nd rfl (by first | exact Or.inl rfl | exact Or.inr rfl)) (ss_cons (ss_set (i := 4) sc_law_is_forced.nd rfl (by first | exact Or.inl rfl | exact Or.inr rfl) (se_lc rfl sc_law_is_forced.nd (si_r2 (by rfl) T.z_range (sa_cons se_int (sa_cons (se_add (se_len (by rfl) T.z_len (sa_cons (se_ix (se_var (i := 0)) (se_var (i := 3))) sa_nil)) se_int) sa_nil))) (blkOk_by (own := [("_law_place", 5)]) (N := n_law_is_forced) (sc := defScope s_law_is_forced) (by decide +kernel)) rfl (by decide) (fun _ _ _ _ _ => (pg_one (i := 5) sc_law_is_forced.nd rfl (by first | exact Or.inl rfl | exact Or.inr rfl))) (fun _ _ _ _ _ => pts_y) (fun _ _ _ _ _ => (se_meth takes0 T.cl_Deeds T.me_Deeds_in_force (ok_Deeds_in_force (base := base) T) (hr.mono (by omega)) T.b_Deeds_in_force (se_var (i := 1)) (sa_cons (se_var (i := 3)) (sa_cons (se_var (i := 5)) sa_nil))))))
    (ss_cons (ss_if (bt_not (bt_tru (se_call tk (ok_law_same (base := base) T 8) (hr.mono (by omega)) (by rfl) T.g_law_same T.F_law_same.kp T.b_law_same (sa_cons (se_var (i := 4)) (sa_cons (se_call tk (ok_law_forces (base := base) T) (hr.mono (by omega)) (by rfl) T.g_law_forces T.F_law_forces.kp T.b_law_forces (sa_cons (se_ix (se_var (i := 0)) (se_var (i := 3))) sa_nil)) sa_nil))))) (ss_one (ss_ret se_bl)) ss_nil)
    (ss_one (ss_for hp rfl (si_r2 (by rfl) T.z_range (sa_cons se_int (sa_cons (se_add (se_len (by rfl) T.z_len (sa_cons (se_var (i := 4)) sa_nil)) se_int) sa_nil))) (pg_one (i := 5) sc_law_is_forced.nd rfl (by first | exact Or.inl rfl | exact Or.inr rfl)) (ss_cons (ss_setLc (i := 6) rfl sc_law_is_forced.nd rfl rfl (sw_true rfl rfl rfl (by decide +kernel)) (si_r2 (by rfl) T.z_range (sa_cons (se_var (i := 5)) (sa_cons (se_len (by rfl) T.z_len (sa_cons (se_var (i := 4)) sa_nil)) sa_nil))) (blkOk_by (own := [("_law_k", 7)]) (N := n_law_is_forced) (sc := defScope s_law_is_forced) (by decide +kernel)) rfl (by decide) (fun _ _ _ _ _ => (pg_one (i := 7) sc_law_is_forced.nd rfl (by first | exact Or.inl rfl | exact Or.inr rfl))) (fun _ _ _ _ _ => (pts_1 (PW.pt (bw_and (bt_tru (se_ix (se_var (i := 4)) (se_var (i := 7)))) (bw_and1 (bt_eq hr (se_ix (se_ix (se_var (i := 0)) (se_var (i := 3))) (se_var (i := 7))) (se_tup (sa_cons (se_str (by decide +kernel)) (sa_cons (se_var (i := 5)) sa_nil))))))))) (fun _ _ _ _ _ => (se_var (i := 7))))
    (ss_one (ss_if (bt_ne hr (se_ix (se_var (i := 4)) (se_sub (se_var (i := 5)) se_int)) (se_eq hr (se_len (by rfl) T.z_len (sa_cons (se_var (i := 6)) sa_nil)) se_int)) (ss_one (ss_ret se_bl)) ss_nil))))))))
    (ss_one (ss_ret se_bl))))
theorem ok_law (T : Txt K mg) : FnOk P W K mg base (L2.CX P W) 11 T.a_law T.fd_law ["_law_script"] (spM K 1 (m_law T.cc)) :=
  fn_ok (k := 10) T.F_law sc_law fun cdv A outer s H E hr tk hp => (ss_cons (ss_set (i := 1) sc_law.nd rfl (by first | exact Or.inl rfl | exact Or.inr rfl) (se_call tk (ok_law_draws (base := base) T) (hr.mono (by omega)) (by rfl) T.g_law_draws T.F_law_draws.kp T.b_law_draws (sa_cons (se_var (i := 0)) sa_nil)))
    (ss_cons (ss_set (i := 2) sc_law.nd rfl (by first | exact Or.inl rfl | exact Or.inr rfl) (se_call tk (ok_law_triples (base := base) T) (hr.mono (by omega)) (by rfl) T.g_law_triples T.F_law_triples.kp T.b_law_triples (sa_cons (se_var (i := 1)) (sa_cons se_int (sa_cons (se_mod (se_call tk (ok_law_at (base := base) T) (hr.mono (by omega)) (by rfl) T.g_law_at T.F_law_at.kp T.b_law_at (sa_cons (se_var (i := 1)) (sa_cons se_int sa_nil))) se_int) (sa_cons (se_add se_int (se_mod (se_call tk (ok_law_at (base := base) T) (hr.mono (by omega)) (by rfl) T.g_law_at T.F_law_at.kp T.b_law_at (sa_cons (se_var (i := 1)) (sa_cons se_int sa_nil))) se_int)) sa_nil))))))
    (ss_cons (ss_set (i := 3) sc_law.nd rfl (by first | exact Or.inl rfl | exact Or.inr rfl) (se_call tk (ok_law_rows_of (base := base) T) (hr.mono (by omega)) (by rfl) T.g_law_rows_of T.F_law_rows_of.kp T.b_law_rows_of (sa_cons (se_var (i := 2)) sa_nil)))
    (ss_cons (ss_set (i := 4) sc_law.nd rfl (by first | exact Or.inl rfl | exact Or.inr rfl) (se_call tk (ok_law_deeds (base := base) T) (hr.mono (by omega)) (by rfl) T.g_law_deeds T.F_law_deeds.kp T.b_law_deeds (sa_cons (se_var (i := 2)) sa_nil)))
    (ss_cons (ss_if (PW.pt (bw_or (bt_not (bt_tru (se_call tk (ok_law_same (base := base) T 8) (hr.mono (by omega)) (by rfl) T.g_law_same T.F_law_same.kp T.b_law_same (sa_cons (se_gint (by rfl) T.n_REPLICAS) (sa_cons se_int sa_nil))))) (bw_or1 (bt_not (bt_tru (se_call tk (ok_law_is_forced (base := base) T) (hr.mono (by omega)) (by rfl) T.g_law_is_forced T.F_law_is_forced.kp T.b_law_is_forced (sa_cons (se_var (i := 3)) (sa_cons (se_var (i := 4)) sa_nil)))))))) (ss_one (ss_ret se_bl)) ss_nil)
    (ss_cons (ss_set (i := 5) sc_law.nd rfl (by first | exact Or.inl rfl | exact Or.inr rfl) (se_meth0 tk T.cl_Deeds T.me_Deeds_copy (ok_Deeds_copy (base := base) T) (hr.mono (by omega)) T.b_Deeds_copy (se_var (i := 4))))
    (ss_cons (ss_set (i := 6) sc_law.nd rfl (by first | exact Or.inl rfl | exact Or.inr rfl) (se_mod (se_call tk (ok_law_at (base := base) T) (hr.mono (by omega)) (by rfl) T.g_law_at T.F_law_at.kp T.b_law_at (sa_cons (se_var (i := 1)) (sa_cons se_int sa_nil))) se_int))
    (ss_cons (ss_if (bt_eq hr (se_mod (se_call tk (ok_law_at (base := base) T) (hr.mono (by omega)) (by rfl) T.g_law_at T.F_law_at.kp T.b_law_at (sa_cons (se_var (i := 1)) (sa_cons se_int sa_nil))) se_int) se_int) (ss_one (ss_expr (se_meth tk T.cl_Deeds T.me_Deeds_add (ok_Deeds_add (base := base) T) (hr.mono (by omega)) T.b_Deeds_add (se_var (i := 4)) (sa_cons (se_var (i := 6)) (sa_cons (se_tup (sa_cons (se_str (by decide +kernel)) (sa_cons (se_str (by decide +kernel)) (sa_cons (se_tup sa_nil) (sa_cons se_non (sa_cons se_int (sa_cons (se_str (by decide +kernel)) sa_nil))))))) sa_nil))))) (ss_cons (ss_expr (se_meth tk T.cl_Deeds T.me_Deeds_add (ok_Deeds_add (base := base) T) (hr.mono (by omega)) T.b_Deeds_add (se_var (i := 5)) (sa_cons (se_var (i := 6)) (sa_cons (se_tup (sa_cons (se_str (by decide +kernel)) (sa_cons (se_str (by decide +kernel)) (sa_cons (se_tup sa_nil) (sa_cons se_non (sa_cons se_int (sa_cons (se_str (by decide +kernel)) sa_nil))))))) sa_nil))))
    (ss_one (ss_set (i := 5) sc_law.nd rfl (by first | exact Or.inl rfl | exact Or.inr rfl) (se_var (i := 4))))))
    (ss_cons (ss_expr (se_app (se_meth0 tk T.cl_Deeds T.me_Deeds_counts (ok_Deeds_counts (base := base) T) (hr.mono (by omega)) T.b_Deeds_counts (se_var (i := 4))) (sa_cons se_int sa_nil)))
    (ss_one (ss_ret (se_call tk (ok_law_is_forced (base := base) T) (hr.mono (by omega)) (by rfl) T.g_law_is_forced T.F_law_is_forced.kp T.b_law_is_forced (sa_cons (se_var (i := 3)) (sa_cons (se_var (i := 5)) sa_nil))))))))))))))
end
end LAW

set_option Elab.async false
set_option linter.all false
set_option maxRecDepth 100000
set_option maxHeartbeats 4000000
namespace LAW
open PySem PySem.Spec PyProof.Rows L2 TL Q
theorem hd_txt {K : Fr} {h : Heap} {mg : Str → Option Value} (X : K.In h) (G : h.Ns mainGlobals mg) (c : QH.Says hd_T hd_F K) {fdL : FuncData} (FL : Fun K "law" "law" s_law (He.fAd K ("law", none)) fdL) :
    ∃ T : Txt K mg, T.a_law = He.fAd K ("law", none) ∧ T.fd_law = fdL := by
  obtain ⟨d0, F0⟩ := c.f 0 (a := ("_law_mix", none)) (x := "_law_mix") (q := "_law_mix") (st := s_law_mix) rfl
  obtain ⟨d1, F1⟩ := c.f 1 (a := ("_law_draws", none)) (x := "_law_draws") (q := "_law_draws") (st := s_law_draws) rfl
  obtain ⟨d2, F2⟩ := c.f 2 (a := ("_law_modules", none)) (x := "_law_modules") (q := "_law_modules") (st := s_law_modules) rfl
  obtain ⟨d3, F3⟩ := c.f 3 (a := ("_law_at", none)) (x := "_law_at") (q := "_law_at") (st := s_law_at) rfl
  obtain ⟨d4, F4⟩ := c.f 4 (a := ("_law_letters", none)) (x := "_law_letters") (q := "_law_letters") (st := s_law_letters) rfl
  obtain ⟨d5, F5⟩ := c.f 5 (a := ("_law_forces", none)) (x := "_law_forces") (q := "_law_forces") (st := s_law_forces) rfl
  obtain ⟨d6, F6⟩ := c.f 6 (a := ("_law_changes", none)) (x := "_law_changes") (q := "_law_changes") (st := s_law_changes) rfl
  obtain ⟨d7, F7⟩ := c.f 7 (a := ("_law_inserted", none)) (x := "_law_inserted") (q := "_law_inserted") (st := s_law_inserted) rfl
  obtain ⟨d8, F8⟩ := c.f 8 (a := ("_law_row", none)) (x := "_law_row") (q := "_law_row") (st := s_law_row) rfl
  obtain ⟨d9, F9⟩ := c.f 9 (a := ("_law_last", none)) (x := "_law_last") (q := "_law_last") (st := s_law_last) rfl
  obtain ⟨d10, F10⟩ := c.f 10 (a := ("_law_deed", none)) (x := "_law_deed") (q := "_law_deed") (st := s_law_deed) rfl
  obtain ⟨d11, F11⟩ := c.f 11 (a := ("_law_visible", none)) (x := "_law_visible") (q := "_law_visible") (st := s_law_visible) rfl
  obtain ⟨d12, F12⟩ := c.f 12 (a := ("_law_triples", none)) (x := "_law_triples") (q := "_law_triples") (st := s_law_triples) rfl
  obtain ⟨d13, F13⟩ := c.f 13 (a := ("_law_rows_of", none)) (x := "_law_rows_of") (q := "_law_rows_of") (st := s_law_rows_of) rfl
  obtain ⟨d14, F14⟩ := c.f 14 (a := ("Deeds", some "__init__")) (x := "__init__") (q := "Deeds.__init__") (st := s_Deeds__init__) rfl
  obtain ⟨d15, F15⟩ := c.f 15 (a := ("Deeds", some "add")) (x := "add") (q := "Deeds.add") (st := s_Deeds_add) rfl
  obtain ⟨d16, F16⟩ := c.f 16 (a := ("_law_deeds", none)) (x := "_law_deeds") (q := "_law_deeds") (st := s_law_deeds) rfl
  obtain ⟨d17, F17⟩ := c.f 17 (a := ("Deeds", some "copy")) (x := "copy") (q := "Deeds.copy") (st := s_Deeds_copy) rfl
  obtain ⟨d18, F18⟩ := c.f 18 (a := ("_law_is_integer", none)) (x := "_law_is_integer") (q := "_law_is_integer") (st := s_law_is_integer) rfl
  obtain ⟨d19, F19⟩ := c.f 19 (a := ("_law_same", none)) (x := "_law_same") (q := "_law_same") (st := s_law_same) rfl
  obtain ⟨d20, F20⟩ := c.f 20 (a := ("Deeds", some "forces")) (x := "forces") (q := "Deeds.forces") (st := s_Deeds_forces) rfl
  obtain ⟨d21, F21⟩ := c.f 21 (a := ("Deeds", some "in_force")) (x := "in_force") (q := "Deeds.in_force") (st := s_Deeds_in_force) rfl
  obtain ⟨d22, F22⟩ := c.f 22 (a := ("Deeds", some "counts")) (x := "counts") (q := "Deeds.counts") (st := s_Deeds_counts) rfl
  obtain ⟨d23, F23⟩ := c.f 23 (a := ("_law_is_forced", none)) (x := "_law_is_forced") (q := "_law_is_forced") (st := s_law_is_forced) rfl
  exact ⟨⟨fun i => match i with | 0 => He.ga K "Deeds" | _ => 0,
    He.fAd K ("_law_mix", none), _, F0, F0.binds (ps := ["_law_cell", "_law_k"]) (fun _ _ _ _ _ _ us hl => match us, hl with | [_, _], _ => rfl),
    QH.glo X G (c.t 0 rfl),
    He.fAd K ("_law_draws", none), _, F1, F1.binds (ps := ["_law_script"]) (fun _ _ _ _ _ _ us hl => match us, hl with | [_], _ => rfl),
    QH.glo X G (c.t 1 rfl),
    He.fAd K ("_law_modules", none), _, F2, F2.binds (ps := []) (fun _ _ _ _ _ _ us hl => match us, hl with | [], _ => rfl),
    QH.glo X G (c.t 2 rfl),
    He.fAd K ("_law_at", none), _, F3, F3.binds (ps := ["_law_draws_here", "_law_index"]) (fun _ _ _ _ _ _ us hl => match us, hl with | [_, _], _ => rfl),
    QH.glo X G (c.t 3 rfl),
    He.fAd K ("_law_letters", none), _, F4, F4.binds (ps := ["_law_draws_here", "_law_index"]) (fun _ _ _ _ _ _ us hl => match us, hl with | [_, _], _ => rfl),
    QH.glo X G (c.t 4 rfl),
    He.fAd K ("_law_forces", none), _, F5, F5.binds (ps := ["_law_row_here"]) (fun _ _ _ _ _ _ us hl => match us, hl with | [_], _ => rfl),
    QH.glo X G (c.t 5 rfl),
    He.fAd K ("_law_changes", none), _, F6, F6.binds (ps := ["_law_rows", "_law_module"]) (fun _ _ _ _ _ _ us hl => match us, hl with | [_, _], _ => rfl),
    QH.glo X G (c.t 6 rfl),
    He.fAd K ("_law_inserted", none), _, F7, F7.binds (ps := ["_law_replica", "_law_deed_here"]) (fun _ _ _ _ _ _ us hl => match us, hl with | [_, _], _ => rfl),
    QH.glo X G (c.t 7 rfl),
    He.fAd K ("_law_row", none), _, F8, F8.binds (ps := ["_law_rows", "_law_module"]) (fun _ _ _ _ _ _ us hl => match us, hl with | [_, _], _ => rfl),
    rfl,
    QH.glo X G (c.t 8 rfl),
    He.fAd K ("_law_last", none), _, F9, F9.binds (ps := ["_law_rows"]) (fun _ _ _ _ _ _ us hl => match us, hl with | [_], _ => rfl),
    QH.glo X G (c.t 9 rfl),
    He.fAd K ("_law_deed", none), _, F10, F10.binds (ps := ["_law_draws_here", "_law_index", "_law_rows", "_law_replica"]) (fun _ _ _ _ _ _ us hl => match us, hl with | [_, _, _, _], _ => rfl),
    QH.glo X G (c.t 10 rfl),
    He.fAd K ("_law_visible", none), _, F11, F11.binds (ps := ["_law_rows", "_law_counts"]) (fun _ _ _ _ _ _ us hl => match us, hl with | [_, _], _ => rfl),
    QH.glo X G (c.t 11 rfl),
    He.fAd K ("_law_triples", none), _, F12, F12.binds (ps := ["_law_draws_here", "_law_start", "_law_steps", "_law_most"]) (fun _ _ _ _ _ _ us hl => match us, hl with | [_, _, _, _], _ => rfl),
    QH.glo X G (c.t 12 rfl),
    He.fAd K ("_law_rows_of", none), _, F13, F13.binds (ps := ["_law_triples_here"]) (fun _ _ _ _ _ _ us hl => match us, hl with | [_], _ => rfl),
    QH.glo X G (c.t 13 rfl),
    He.fAd K ("Deeds", some "__init__"), _, F14, F14.binds (ps := ["self"]) (fun _ _ _ _ _ _ us hl => match us, hl with | [_], _ => rfl),
    QH.meth (c.t 14 rfl),
    He.fAd K ("Deeds", some "add"), _, F15, F15.binds (ps := ["self", "replica", "deed"]) (fun _ _ _ _ _ _ us hl => match us, hl with | [_, _, _], _ => rfl),
    QH.meth (c.t 15 rfl),
    He.fAd K ("_law_deeds", none), _, F16, F16.binds (ps := ["_law_triples_here"]) (fun _ _ _ _ _ _ us hl => match us, hl with | [_], _ => rfl),
    QH.glo X G (c.t 16 rfl),
    He.fAd K ("Deeds", some "copy"), _, F17, F17.binds (ps := ["self"]) (fun _ _ _ _ _ _ us hl => match us, hl with | [_], _ => rfl),
    QH.meth (c.t 17 rfl),
    He.fAd K ("_law_is_integer", none), _, F18, F18.binds (ps := ["_law_actual"]) (fun _ _ _ _ _ _ us hl => match us, hl with | [_], _ => rfl),
    QH.glo X G (c.t 18 rfl),
    He.fAd K ("_law_same", none), _, F19, F19.binds (ps := ["_law_actual", "_law_expected"]) (fun _ _ _ _ _ _ us hl => match us, hl with | [_, _], _ => rfl),
    QH.glo X G (c.t 19 rfl),
    He.fAd K ("Deeds", some "forces"), _, F20, F20.binds (ps := ["self", "replica"]) (fun _ _ _ _ _ _ us hl => match us, hl with | [_, _], _ => rfl),
    QH.meth (c.t 20 rfl),
    He.fAd K ("Deeds", some "in_force"), _, F21, F21.binds (ps := ["self", "replica", "place"]) (fun _ _ _ _ _ _ us hl => match us, hl with | [_, _, _], _ => rfl),
    QH.meth (c.t 21 rfl),
    He.fAd K ("Deeds", some "counts"), _, F22, F22.binds (ps := ["self"]) (fun _ _ _ _ _ _ us hl => match us, hl with | [_], _ => rfl),
    QH.meth (c.t 22 rfl),
    He.fAd K ("_law_is_forced", none), _, F23, F23.binds (ps := ["_law_rows", "_law_deeds_here"]) (fun _ _ _ _ _ _ us hl => match us, hl with | [_, _], _ => rfl),
    QH.glo X G (c.t 23 rfl),
    He.fAd K ("law", none), _, FL, FL.binds (ps := ["_law_script"]) (fun _ _ _ _ _ _ us hl => match us, hl with | [_], _ => rfl),
    QH.glo X G (c.t 24 rfl),
    QH.free X G (c.t 25 rfl),
    QH.free X G (c.t 26 rfl),
    QH.free X G (c.t 27 rfl),
    QH.free X G (c.t 28 rfl),
    QH.free X G (c.t 29 rfl),
    QH.free X G (c.t 30 rfl),
    QH.free X G (c.t 31 rfl),
    QH.free X G (c.t 32 rfl),
    QH.free X G (c.t 33 rfl),
    QH.free X G (c.t 34 rfl),
    QH.free X G (c.t 35 rfl),
    QH.cls (c.t 36 rfl),
    QH.glo X G (c.t 37 rfl),
    QH.mkr (c.t 38 rfl),
    QH.int X G (c.t 39 rfl),
    ⟨(QH.fa1 ⟨QH.cls (c.t 36 rfl), QH.noat (c.t 40 rfl)⟩ QH.fa0)⟩⟩, rfl, rfl⟩
theorem hd_all {l : PySem.W.OpenLaw} {w : World} {K : Fr} {h : Heap} {mg : Str → Option Value} {fa : Addr} (X : K.In h) (G : h.Ns mainGlobals mg) (hfa : mg "law" = some (.ref fa)) (c : QH.Says hd_T hd_F K) :
    ∃ fd : FuncData, (∀ (s : Shared) (v : Value), BindsTo s fd ⟨[v], []⟩ [("_law_script", v)]) ∧ ∀ base : Heap, K.In base → base.Ns mainGlobals mg → QH.BT K mg base → FnOk l.prog w K mg base (L2.CX l.prog w) 11 fa fd ["_law_script"] (spEnd K) := by
  obtain ⟨fdL, FL⟩ := c.f 24 (a := ("law", none)) (x := "law") (q := "law") (st := s_law) rfl
  have e := hfa.symm.trans (QH.glo X G (c.t 24 rfl))
  cases e
  obtain ⟨T, e1, e2⟩ := hd_txt X G c FL
  refine ⟨fdL, fun s v => ?_, fun base _ _ hB => ?_⟩
  · obtain ⟨_, _, _, _, _, _, _, _, _, e, _, _⟩ := FL.ex
    rw [e]
    exact .of_eq rfl
  · have z := fn_end (law_true T.cc) (ok_law (P := l.prog) (W := w) (base := base) T)
    rw [e1, e2] at z
    exact z
end LAW
open PySem PySem.W PyProof.Rows in
set_option maxRecDepth 100000 in
set_option maxHeartbeats 0 in
theorem PySem.Challenge.cw_quillrun_k01_deeds_in_force_holds : PySem.Challenge.rw_quillrun_k01_deeds_in_force.Holds := by
  w_on; o_law
  refine HandSHeadRun.head_any (r := OpenLaw.row PySem.Challenge.rw_quillrun_k01_deeds_in_force) (q := view (OpenLaw.row PySem.Challenge.rw_quillrun_k01_deeds_in_force).prog [24]) (H := LAW.hd_K) (ob := LAW.hd_O) (M := 30000) (loose := LAW.hd_N) (d := HandSHeadRun.topDef (OpenLaw.row PySem.Challenge.rw_quillrun_k01_deeds_in_force).prog 24) (kwd := []) (fun s => QH.obsT_eq s)
    (by kernel_rfl) (fun s => by kernel_rfl) LAW.hd_run (by kernel_rfl) (by kernel_rfl) (by kernel_rfl) (by rfl) (by first | assumption | decide +kernel) (by decide +kernel) ⟨rfl, rfl, rfl, rfl, rfl, by decide +kernel⟩ ?hw ?hc
  case hw => w_witness2
  case hc =>
    refine QH.walkT (l := PySem.Challenge.rw_quillrun_k01_deeds_in_force) (k := 11) (x := "_law_script") (ts := LAW.hd_T) (fn := LAW.hd_F) rfl (by kernel_rfl) ⟨rfl, by decide, by decide⟩ ?F
    intro w mg fa h K KX G hm c
    have e : (HandSHeadRun.topDef (OpenLaw.row PySem.Challenge.rw_quillrun_k01_deeds_in_force).prog 24).name = ("law" : PySem.Str) := by kernel_rfl
    rw [e] at hm
    exact LAW.hd_all KX G hm c

