import PyProof.Rows.All
import Wide.All
import OpenK.AllK
import Wide.FinOn
import HandS.ForMost
import HandS.IsInst
import HandS.Flow
import HandS.Walk
import HandS.WordsExc
import HandS.Exc
import HandS.TryOnly
import HandS.ExcOwn
import HandS.ExcInit
import HandS.ExcField
import HandS.Deep
import HandS.TupAny
import HandS.Zip
import HandS.NoneIn
import HandS.Dict
import HandS.WordsDict
import HandS.Iter
import HandS.SortInts
import HandS.StrMore
import HandS.Replace
import HandS.Codes
import HandS.Strs
import PyProof.StrLawsOcc
import PyProof.StrOps2
import HandS.ExcIs
import HandS.List
import HandS.More
import HandS.Style
import HandS.Comp
import HandS.Star
import KE.KDictLaws
import HandS.DictComp
import HandS.Wide
import HandS.TupMul
import HandS.ReplaceLit
import HandS.ReplaceList
import PyProof.StrLawsTight
import PyProof.StrLawsChain
import KE.SortData
import HandS.TupLe
import PyProof.FString5
import PyProof.DictUpdate
import KE.KStateDown
import Lean
import HandS.Ends
import HandS.Words
import HandS.Defaults
import HandS.Head0
import HandS.Head1
import HandS.Head2
import HandS.HeadHook1
import HandS.HeadHook2
import PySem.Challenge.RW_quillrun_k08_components_in_order
set_option Elab.async false
set_option linter.all false
set_option maxRecDepth 100000
/-! The layer Q: meanings (plain Lean functions over plain values and a store) of the text's defs, and why the machine does as they say. -/
namespace Q
open PySem PySem.Spec PyProof.Rows L2 TL

abbrev Fr := PySem.W.Frag
/-- plain values: fl a list that nobody changes any more, kl one of the written part, ref an object of the store, xv an exception in hand (its addresses, its class, its fields' place in the store) -/
inductive U where
  | non | bl (b : Bool) | int (i : Int) | str (s : List Nat) | tup (us : List U) | fl (us : List U) | kl (us : List U) | ref (n : Nat) | xv (a : Nat) (d : Option Nat) (C : Nat) (n : Option Nat)
/-- keys of dicts -/
abbrev DK := Sum Int (List Nat)
inductive O where
  | lst (us : List U)
  | dK (kvs : List (DK × U))
  | dT (kvs : List (List DK × U))
  | dKl (kvs : List (DK × U))
  | ins (C : Nat) (fs : List (Str × U))
  | xd (fs : List (Str × U))
abbrev Sto := List O
abbrev Env' := List (Option U)
inductive R (α : Type) where
  | ok (a : α) (h : Sto)
  | exc (C : Nat) (n : Option Nat) (h : Sto)
  | bad
inductive RS where
  | nx (e : Env') (h : Sto)
  | rt (u : U) (h : Sto)
  | bk (e : Env') (h : Sto)
  | ct (e : Env') (h : Sto)
  | ex (C : Nat) (n : Option Nat) (e : Env') (h : Sto)
  | bad
abbrev EM := Env' → Sto → R U
abbrev TM := Env' → Sto → R Bool
abbrev AM := Env' → Sto → R (List U)
abbrev SM := Env' → Sto → RS
abbrev GM := U → Env' → Sto → RS
abbrev IM := Env' → Sto → R (Option (Nat × List U) × List U)
def R.bind {α β : Type} (r : R α) (f : α → Sto → R β) : R β := match r with
  | .ok a h => f a h
  | .exc C n h => .exc C n h
  | .bad => .bad
structure G where
  al : List Addr
  F : Hp
structure Le (g g' : G) : Prop where
  al : ∃ b, g'.al = g.al ++ b
  F : ∀ a o, g.F a = some o → g'.F a = some o
theorem Le.refl (g : G) : Le g g := ⟨⟨[], by simp⟩, fun _ _ h => h⟩
theorem Le.trans {a b c : G} (x : Le a b) (y : Le b c) : Le a c := by
  obtain ⟨u, e1⟩ := x.al
  obtain ⟨v, e2⟩ := y.al
  exact ⟨⟨u ++ v, by rw [e2, e1, List.append_assoc]⟩, fun q o h => y.F q o (x.F q o h)⟩
theorem Le.get {g g' : G} (l : Le g g') {n : Nat} {a : Addr} (h : g.al[n]? = some a) : g'.al[n]? = some a := by
  obtain ⟨b, e⟩ := l.al
  rw [e, List.getElem?_append_left (List.getElem?_eq_some_iff.mp h).1]
  exact h

/-- the address of an exception's fields -/
def DOf (g : G) : Option Nat → Option Addr → Prop
  | none, d => d = none
  | some k, d => ∃ a, d = some a ∧ g.al[k]? = some a
theorem DOf.mono {g g' : G} (l : Le g g') : ∀ {n : Option Nat} {d : Option Addr}, DOf g n d → DOf g' n d
  | none, _, h => h
  | some _, _, ⟨a, e, h⟩ => ⟨a, e, l.get h⟩
mutual
inductive Rep (K : Fr) (g : G) : V → U → Prop
  | non : Rep K g .non .non
  | bl (b : Bool) : Rep K g (.bl b) (.bl b)
  | int (i : Int) : Rep K g (.int i) (.int i)
  | str (s : List Nat) : Rep K g (.str ⟨s.toArray⟩) (.str s)
  | tup {a : Addr} {vs : List V} {us : List U} (h : SqT K g.F a vs) (r : Reps K g vs us) : Rep K g (.ref a) (.tup us)
  | fl {a : Addr} {vs : List V} {us : List U} (h : g.F a = some (.lst vs)) (r : Reps K g vs us) : Rep K g (.ref a) (.fl us)
  | kl {a : Addr} {vs : List V} {us : List U} (h : SqL K g.F a vs) (r : Reps K g vs us) : Rep K g (.ref a) (.kl us)
  | ref {a : Addr} {n : Nat} (h : g.al[n]? = some a) : Rep K g (.ref a) (.ref n)
  | xv {a C : Nat} {d : Option Nat} {n : Option Nat} (h : DOf g n d) : Rep K g (.ref a) (.xv a d C n)
inductive Reps (K : Fr) (g : G) : List V → List U → Prop
  | nil : Reps K g [] []
  | cons {v : V} {u : U} {vs : List V} {us : List U} (h : Rep K g v u) (r : Reps K g vs us) : Reps K g (v :: vs) (u :: us)
end

theorem rd_mono {F F' : Hp} {a : Addr} {u : HO} (e : ∀ a o, F a = some o → F' a = some o) (h : Rd F a u) : Rd F' a u := by
  rcases h with h | ⟨o, h⟩
  · exact .inl (e a _ h)
  · exact .inr ⟨o, e a _ h⟩
theorem sql_mono {K : Fr} {F F' : Hp} {a : Addr} {xs : List V} (e : ∀ a o, F a = some o → F' a = some o) (h : SqL K F a xs) : SqL K F' a xs := by
  rcases h with h | h
  · exact .inl (rd_mono e h)
  · exact .inr h
theorem sqt_mono {K : Fr} {F F' : Hp} {a : Addr} {xs : List V} (e : ∀ a o, F a = some o → F' a = some o) (h : SqT K F a xs) : SqT K F' a xs := by
  rcases h with h | h
  · exact .inl (rd_mono e h)
  · exact .inr h

mutual
theorem Rep.mono {K : Fr} {g g' : G} (l : Le g g') : ∀ {v : V} {u : U}, Rep K g v u → Rep K g' v u
  | _, _, .non => .non
  | _, _, .bl b => .bl b
  | _, _, .int i => .int i
  | _, _, .str s => .str s
  | _, _, .tup h r => .tup (sqt_mono l.F h) (Reps.mono l r)
  | _, _, .fl h r => .fl (l.F _ _ h) (Reps.mono l r)
  | _, _, .kl h r => .kl (sql_mono l.F h) (Reps.mono l r)
  | _, _, .ref h => .ref (l.get h)
  | _, _, .xv h => .xv (h.mono l)
theorem Reps.mono {K : Fr} {g g' : G} (l : Le g g') : ∀ {vs : List V} {us : List U}, Reps K g vs us → Reps K g' vs us
  | _, _, .nil => .nil
  | _, _, .cons h r => .cons (Rep.mono l h) (Reps.mono l r)
end
section
variable {K : Fr} {g g' : G} {vs ws : List V} {us ts : List U} {v : V} {u : U}
theorem Reps.len : ∀ {vs : List V} {us : List U}, Reps K g vs us → vs.length = us.length
  | _, _, .nil => rfl
  | _, _, .cons _ r => by simp [Reps.len r]
theorem Reps.app : ∀ {vs ws : List V} {us ts : List U}, Reps K g vs us → Reps K g ws ts → Reps K g (vs ++ ws) (us ++ ts)
  | _, _, _, _, .nil, s => s
  | _, _, _, _, .cons h r, s => .cons h (Reps.app r s)
theorem Reps.one (h : Rep K g v u) : Reps K g [v] [u] := .cons h .nil
theorem Reps.get : ∀ {vs : List V} {us : List U} {i : Nat} {u : U}, Reps K g vs us → us[i]? = some u → ∃ v, vs[i]? = some v ∧ Rep K g v u
  | _, _, _, _, .nil, h => by simp at h
  | _, _, 0, _, .cons h r, e => by simp at e; subst e; exact ⟨_, rfl, h⟩
  | _, _, i + 1, _, .cons h r, e => by simpa using Reps.get (i := i) r (by simpa using e)
theorem Reps.getV : ∀ {vs : List V} {us : List U} {i : Nat} {v : V}, Reps K g vs us → vs[i]? = some v → ∃ u, us[i]? = some u ∧ Rep K g v u
  | _, _, _, _, .nil, h => by simp at h
  | _, _, 0, _, .cons h r, e => by simp at e; subst e; exact ⟨_, rfl, h⟩
  | _, _, i + 1, _, .cons h r, e => by simpa using Reps.getV (i := i) r (by simpa using e)
theorem Reps.drop : ∀ {vs : List V} {us : List U} (i : Nat), Reps K g vs us → Reps K g (vs.drop i) (us.drop i)
  | _, _, 0, r => r
  | _, _, _ + 1, .nil => .nil
  | _, _, i + 1, .cons _ r => Reps.drop i r
theorem Reps.take : ∀ {vs : List V} {us : List U} (i : Nat), Reps K g vs us → Reps K g (vs.take i) (us.take i)
  | _, _, 0, _ => .nil
  | _, _, _ + 1, .nil => .nil
  | _, _, i + 1, .cons h r => .cons h (Reps.take i r)
theorem Reps.set : ∀ {vs : List V} {us : List U} (i : Nat) {v : V} {u : U}, Rep K g v u → Reps K g vs us → Reps K g (vs.set i v) (us.set i u)
  | _, _, _, _, _, _, .nil => .nil
  | _, _, 0, _, _, h, .cons _ r => .cons h r
  | _, _, i + 1, _, _, h, .cons h' r => .cons h' (Reps.set i h r)
theorem Reps.erase : ∀ {vs : List V} {us : List U} (i : Nat), Reps K g vs us → Reps K g (vs.eraseIdx i) (us.eraseIdx i)
  | _, _, _, .nil => .nil
  | _, _, 0, .cons _ r => r
  | _, _, i + 1, .cons h r => .cons h (Reps.erase i r)
theorem Reps.dropLast : ∀ {vs : List V} {us : List U}, Reps K g vs us → Reps K g vs.dropLast us.dropLast := fun {vs us} r => by
  rw [List.dropLast_eq_take, List.dropLast_eq_take, r.len]
  exact r.take _
/-- ints, texts -/
theorem Reps.ints : ∀ {vs : List V} {ns : List Int}, Reps K g vs (ns.map U.int) → vs = ns.map V.int
  | _, [], .nil => rfl
  | _, _ :: _, .cons h r => by cases h; rw [Reps.ints r]; rfl
theorem Reps.ofInts : ∀ (ns : List Int), Reps K g (ns.map V.int) (ns.map U.int)
  | [] => .nil
  | n :: r => .cons (.int n) (Reps.ofInts r)
theorem Reps.strs : ∀ {vs : List V} {ns : List (List Nat)}, Reps K g vs (ns.map U.str) → vs = (ns.map fun s => (⟨s.toArray⟩ : Str)).map V.str
  | _, [], .nil => rfl
  | _, _ :: _, .cons h r => by cases h; rw [Reps.strs r]; rfl
end

/-- a key -/
def kk : DK → Key
  | .inl i => .inl i
  | .inr s => .inr ⟨s.toArray⟩
inductive RepK (K : Fr) (g : G) : List (Key × V) → List (DK × U) → Prop
  | nil : RepK K g [] []
  | cons {k : DK} {v : V} {u : U} {vs us} (h : Rep K g v u) (r : RepK K g vs us) : RepK K g ((kk k, v) :: vs) ((k, u) :: us)
inductive RepT (K : Fr) (g : G) : List (List Key × V) → List (List DK × U) → Prop
  | nil : RepT K g [] []
  | cons {k : List DK} {v : V} {u : U} {vs us} (h : Rep K g v u) (r : RepT K g vs us) : RepT K g ((k.map kk, v) :: vs) ((k, u) :: us)
inductive RepF (K : Fr) (g : G) : List (Str × V) → List (Str × U) → Prop
  | nil : RepF K g [] []
  | cons {k : Str} {v : V} {u : U} {vs us} (h : Rep K g v u) (r : RepF K g vs us) : RepF K g ((k, v) :: vs) ((k, u) :: us)
theorem RepK.mono {K : Fr} {g g' : G} (l : Le g g') : ∀ {vs us}, RepK K g vs us → RepK K g' vs us
  | _, _, .nil => .nil
  | _, _, .cons h r => .cons (h.mono l) (RepK.mono l r)
theorem RepT.mono {K : Fr} {g g' : G} (l : Le g g') : ∀ {vs us}, RepT K g vs us → RepT K g' vs us
  | _, _, .nil => .nil
  | _, _, .cons h r => .cons (h.mono l) (RepT.mono l r)
theorem RepF.mono {K : Fr} {g g' : G} (l : Le g g') : ∀ {vs us}, RepF K g vs us → RepF K g' vs us
  | _, _, .nil => .nil
  | _, _, .cons h r => .cons (h.mono l) (RepF.mono l r)

def ObR (K : Fr) (g : G) (H : Hp) (a : Addr) : O → Prop
  | .lst us => ∃ vs, H a = some (.lst vs) ∧ Reps K g vs us
  | .dK us => ∃ vs, H a = some (.dK vs) ∧ RepK K g vs us
  | .dT us => ∃ vs, H a = some (.dT vs) ∧ RepT K g vs us
  | .dKl us => ∃ od vs, g.F a = some (.frz od (.dK vs)) ∧ H a = some (.frz od (.dK vs)) ∧ RepK K g vs us
  | .ins C us => ∃ dx vs, H a = some (.ins C dx vs) ∧ RepF K g vs us
  | .xd us => ∃ vs, H a = some (.xd vs) ∧ RepF K g vs us
theorem ObR.mono {K : Fr} {g g' : G} {H H' : Hp} {a : Addr} (l : Le g g') (e : H' a = H a) : ∀ {o : O}, ObR K g H a o → ObR K g' H' a o
  | .lst _, ⟨vs, h, r⟩ => ⟨vs, e.trans h, r.mono l⟩
  | .dK _, ⟨vs, h, r⟩ => ⟨vs, e.trans h, r.mono l⟩
  | .dT _, ⟨vs, h, r⟩ => ⟨vs, e.trans h, r.mono l⟩
  | .dKl _, ⟨od, vs, f, h, r⟩ => ⟨od, vs, l.F _ _ f, e.trans h, r.mono l⟩
  | .ins _ _, ⟨dx, vs, h, r⟩ => ⟨dx, vs, e.trans h, r.mono l⟩
  | .xd _, ⟨vs, h, r⟩ => ⟨vs, e.trans h, r.mono l⟩
theorem ObR.is {K : Fr} {g : G} {H : Hp} {a : Addr} : ∀ {o : O}, ObR K g H a o → ∃ u, H a = some u
  | .lst _, ⟨vs, h, r⟩ => ⟨_, h⟩
  | .dK _, ⟨vs, h, r⟩ => ⟨_, h⟩
  | .dT _, ⟨vs, h, r⟩ => ⟨_, h⟩
  | .dKl _, ⟨od, vs, f, h, r⟩ => ⟨_, h⟩
  | .ins _ _, ⟨dx, vs, h, r⟩ => ⟨_, h⟩
  | .xd _, ⟨vs, h, r⟩ => ⟨_, h⟩
structure HR (K : Fr) (g : G) (H : Hp) (h : Sto) : Prop where
  ex : ∀ a o, g.F a = some o → H a = some o
  len : g.al.length = h.length
  nd : g.al.Nodup
  fr : ∀ a, a ∈ g.al → ∀ u, g.F a = some u → ∃ od vs, u = .frz od (.dK vs)
  ob : ∀ (n : Nat) a o, g.al[n]? = some a → h[n]? = some o → ObR K g H a o
section
variable {K : Fr} {g g' : G} {H H' : Hp} {h h' : Sto} {a p : Addr} {vs : List V} {us : List U} {v : V} {u : U} {n : Nat}
theorem HR.sqT (x : HR K g H h) (q : SqT K g.F a vs) : SqT K H a vs := sqt_mono x.ex q
theorem HR.sqL (x : HR K g H h) (q : SqL K g.F a vs) : SqL K H a vs := sql_mono x.ex q
theorem HR.get (x : HR K g H h) {o : O} (e : h[n]? = some o) : ∃ a, g.al[n]? = some a ∧ ObR K g H a o := by
  have h1 : n < g.al.length := by rw [x.len]; exact (List.getElem?_eq_some_iff.mp e).1
  exact ⟨g.al[n], List.getElem?_eq_getElem h1, x.ob n _ o (List.getElem?_eq_getElem h1) e⟩
theorem HR.is (x : HR K g H h) (m : a ∈ g.al) : ∃ u, H a = some u := by
  obtain ⟨n, hn, e⟩ := List.mem_iff_getElem.mp m
  have h1 : n < h.length := by rw [← x.len]; exact hn
  exact ObR.is (x.ob n a h[n] (by rw [List.getElem?_eq_getElem hn, e]) (List.getElem?_eq_getElem h1))
theorem HR.notF (x : HR K g H h) (q : H p = none) : g.F p = none := by
  cases e : g.F p with
  | none => rfl
  | some o => rw [x.ex p o e] at q; cases q
theorem HR.notA (x : HR K g H h) (q : H p = none) : p ∉ g.al := fun m => by
  obtain ⟨u, e⟩ := x.is m
  rw [e] at q; cases q
theorem HR.neA (x : HR K g H h) (q : H p = none) {n : Nat} (e : g.al[n]? = Option.some a) : a ≠ p := fun z => by
  subst z
  exact x.notA q (List.mem_of_getElem? e)
theorem HR.neM (x : HR K g H h) (q : H p = none) (e : a ∈ g.al) : a ≠ p := fun z => by
  subst z
  exact x.notA q e
/-- something that nobody here knows comes -/
theorem HR.skip (x : HR K g H h) (q : H p = none) (o : HO) : HR K g (upd H p o) h where
  ex := fun a u e => by rw [upd_ne (ne_of_none (x.ex a u e) q)]; exact x.ex a u e
  len := x.len
  nd := x.nd
  fr := x.fr
  ob := fun n a u e1 e2 => (x.ob n a u e1 e2).mono (Le.refl g) (upd_ne (x.neA q e1))
/-- a new thing that lasts -/
def G.put (g : G) (p : Addr) (o : HO) : G := ⟨g.al, upd g.F p o⟩
theorem Le.put (q : g.F p = none) (o : HO) : Le g (g.put p o) := ⟨⟨[], by simp [G.put]⟩, fun a u e => by
  show upd g.F p o a = some u
  rw [upd_ne (ne_of_none e q)]; exact e⟩
theorem HR.put (x : HR K g H h) (q : H p = none) (o : HO) : HR K (g.put p o) (upd H p o) h where
  ex := fun a u e => by
    by_cases z : a = p
    · subst z
      have e : upd g.F a o a = Option.some u := e
      rw [upd_same] at e; rw [upd_same]; exact e
    · have e : upd g.F p o a = Option.some u := e
      rw [upd_ne z] at e; rw [upd_ne z]; exact x.ex a u e
  len := x.len
  nd := x.nd
  fr := fun a m u e => by
    have e : upd g.F p o a = Option.some u := e
    rw [upd_ne (x.neM q m)] at e; exact x.fr a m u e
  ob := fun n a u e1 e2 => (x.ob n a u e1 e2).mono (Le.put (x.notF q) o) (upd_ne (x.neA q e1))
theorem HR.newTup (x : HR K g H h) (q : H p = none) (r : Reps K g vs us) : Le g (g.put p (.tup vs)) ∧ HR K (g.put p (.tup vs)) (upd H p (.tup vs)) h ∧ Rep K (g.put p (.tup vs)) (.ref p) (.tup us) := by
  have l := Le.put (g := g) (x.notF q) (.tup vs)
  exact ⟨l, x.put q _, .tup (.inl (.inl (show upd g.F p (.tup vs) p = _ from upd_same))) (r.mono l)⟩
/-- a new object of the store -/
def G.new (g : G) (p : Addr) : G := ⟨g.al ++ [p], g.F⟩
theorem Le.new : Le g (g.new p) := ⟨⟨[p], rfl⟩, fun _ _ e => e⟩
theorem HR.new (x : HR K g H h) (q : H p = none) {o : HO} {b : O} (r : ObR K (g.new p) (upd H p o) p b) : HR K (g.new p) (upd H p o) (h ++ [b]) where
  ex := fun a u e => by rw [upd_ne (ne_of_none (x.ex a u e) q)]; exact x.ex a u e
  len := by simp [G.new, x.len]
  nd := by
    show (g.al ++ [p]).Nodup
    rw [List.nodup_append]
    exact ⟨x.nd, by simp, fun a m b mb => by
      rw [List.mem_singleton] at mb
      subst mb
      exact fun z => x.notA q (z ▸ m)⟩
  fr := fun a m => by
    rcases List.mem_append.mp m with m | m
    · exact x.fr a m
    · rw [List.mem_singleton] at m
      subst m
      intro u e
      rw [show (g.new a).F a = none from x.notF q] at e; cases e
  ob := fun n a u e1 e2 => by
    have e1 : (g.al ++ [p])[n]? = Option.some a := e1
    by_cases hn : n < h.length
    · rw [List.getElem?_append_left (by rw [x.len]; exact hn)] at e1
      rw [List.getElem?_append_left hn] at e2
      exact (x.ob n a u e1 e2).mono Le.new (upd_ne (x.neA q e1))
    · have h2 : n < (h ++ [b]).length := (List.getElem?_eq_some_iff.mp e2).1
      have e3 : n = h.length := by simp at h2; omega
      subst e3
      rw [List.getElem?_append_right (Nat.le_refl _), Nat.sub_self] at e2
      rw [List.getElem?_append_right (by rw [x.len]; exact Nat.le_refl _), x.len, Nat.sub_self] at e1
      simp at e1 e2
      subst e1; subst e2
      exact r
theorem HR.newRef (x : HR K g H h) : Rep K (g.new p) (.ref p) (.ref h.length) := .ref (by
  show (g.al ++ [p])[h.length]? = _
  rw [← x.len]; simp)
theorem HR.newLst (x : HR K g H h) (q : H p = none) (r : Reps K g vs us) : HR K (g.new p) (upd H p (.lst vs)) (h ++ [.lst us]) :=
  x.new q ⟨vs, upd_same, r.mono Le.new⟩
/-- an object of the store changes -/
theorem HR.set (x : HR K g H h) (e : g.al[n]? = some a) (nf : ∀ od u, H a ≠ some (.frz od u)) {o : HO} {b : O} (r : ObR K g (upd H a o) a b) : HR K g (upd H a o) (h.set n b) where
  ex := fun c u q => by
    have : c ≠ a := fun z => by
      obtain ⟨od, vs, rfl⟩ := x.fr a (List.mem_of_getElem? e) u (z ▸ q)
      exact nf _ _ (z ▸ x.ex c _ q)
    rw [upd_ne this]; exact x.ex c u q
  len := by simp [x.len]
  nd := x.nd
  fr := x.fr
  ob := fun m c u e1 e2 => by
    by_cases hm : m = n
    · subst hm
      rw [e] at e1; cases e1
      have hl : m < h.length := by rw [← x.len]; exact (List.getElem?_eq_some_iff.mp e).1
      rw [List.getElem?_set_self hl] at e2
      cases e2
      exact r
    · rw [List.getElem?_set_ne (Ne.symm hm)] at e2
      have ne : c ≠ a := fun z => by
        subst z
        exact hm (nd_ix x.nd e1 e)
      exact (x.ob m c u e1 e2).mono (Le.refl g) (upd_ne ne)
theorem HR.setLst (x : HR K g H h) (e : g.al[n]? = some a) {ws : List V} (nf : H a = some (.lst ws)) (r : Reps K g vs us) : HR K g (upd H a (.lst vs)) (h.set n (.lst us)) := x.set e (fun _ _ z => by rw [nf] at z; cases z) ⟨vs, upd_same, r⟩
/-- a dict is locked for good -/
theorem HR.lock (x : HR K g H h) (e : g.al[n]? = some a) {ws : List (Key × V)} {us : List (DK × U)} (nf : H a = some (.dK ws)) (r : RepK K g ws us) (od : Obj) : Le g (g.put a (.frz od (.dK ws))) ∧ HR K (g.put a (.frz od (.dK ws))) (upd H a (.frz od (.dK ws))) (h.set n (.dKl us)) := by
  have f0 : g.F a = none := by
    cases f : g.F a with
    | none => rfl
    | some u =>
      obtain ⟨od', vs', rfl⟩ := x.fr a (List.mem_of_getElem? e) u f
      rw [x.ex _ _ f] at nf; cases nf
  have l := Le.put f0 (.frz od (.dK ws))
  refine ⟨l, ⟨fun c u q => ?_, by simp [G.put, x.len], x.nd, fun c m u q => ?_, fun m c u e1 e2 => ?_⟩⟩
  · by_cases z : c = a
    · subst z
      have q : upd g.F c (.frz od (.dK ws)) c = Option.some u := q
      rw [upd_same] at q; rw [upd_same]; exact q
    · have q : upd g.F a (.frz od (.dK ws)) c = Option.some u := q
      rw [upd_ne z] at q; rw [upd_ne z]; exact x.ex c u q
  · have q : upd g.F a (.frz od (.dK ws)) c = Option.some u := q
    by_cases z : c = a
    · subst z
      rw [upd_same] at q; cases q
      exact ⟨_, _, rfl⟩
    · rw [upd_ne z] at q; exact x.fr c m u q
  · by_cases hm : m = n
    · subst hm
      have e1 : g.al[m]? = Option.some c := e1
      rw [e] at e1; cases e1
      have hl : m < h.length := by rw [← x.len]; exact (List.getElem?_eq_some_iff.mp e).1
      rw [List.getElem?_set_self hl] at e2
      cases e2
      exact ⟨od, ws, show upd g.F a (.frz od (.dK ws)) a = _ from upd_same, upd_same, r.mono l⟩
    · rw [List.getElem?_set_ne (Ne.symm hm)] at e2
      have ne : c ≠ a := fun z => by
        subst z
        exact hm (nd_ix x.nd e1 e)
      exact (x.ob m c u e1 e2).mono l (upd_ne ne)
theorem HR.lst (x : HR K g H h) (e : h[n]? = some (.lst us)) (q : g.al[n]? = some a) : ∃ vs, H a = some (.lst vs) ∧ Reps K g vs us := x.ob n a _ q e
end

/-! ### the judgements -/
def ER (K : Fr) (g : G) (σ : L2.St) (env : Env') : Prop := σ.length = env.length ∧ ∀ (i : Nat) u, env[i]? = some (some u) → ∃ v, σ[i]? = some (some v) ∧ Rep K g v u
theorem ER.mono {K : Fr} {g g' : G} {σ : L2.St} {env : Env'} (l : Le g g') (e : ER K g σ env) : ER K g' σ env := ⟨e.1, fun i u q => by
  obtain ⟨v, a, b⟩ := e.2 i u q
  exact ⟨v, a, b.mono l⟩⟩
theorem ER.set {K : Fr} {g : G} {σ : L2.St} {env : Env'} {v : V} {u : U} (e : ER K g σ env) (i : Nat) (r : Rep K g v u) : ER K g (σ.set i (some v)) (env.set i (some u)) := by
  refine ⟨by simp [e.1], fun j w q => ?_⟩
  by_cases hj : i = j
  · subst hj
    by_cases hl : i < env.length
    · rw [List.getElem?_set_self hl] at q
      cases q
      exact ⟨v, by rw [List.getElem?_set_self (by rw [e.1]; exact hl)], r⟩
    · rw [List.getElem?_eq_none (by simpa using hl)] at q
      cases q
  · rw [List.getElem?_set_ne hj] at q
    obtain ⟨v', a, b⟩ := e.2 j w q
    exact ⟨v', by rw [List.getElem?_set_ne hj]; exact a, b⟩

/-- what is wished of an exception at the slots σ -/
def atSl (W : WX) (σ : L2.St) : XK := fun c d H => W c d σ H
def WE (K : Fr) (E : XK) (g : G) (r : R U) (Q : VK) : Prop := match r with
  | .ok u h => ∀ v H g', Le g g' → HR K g' H h → Rep K g' v u → Q v H
  | .exc C n h => ∀ H g' d, Le g g' → HR K g' H h → DOf g' n d → E (.ref C) d H
  | .bad => False
def WT (K : Fr) (E : XK) (g : G) (r : R Bool) (Q : Bool → Hp → Prop) : Prop := match r with
  | .ok b h => ∀ H g', Le g g' → HR K g' H h → Q b H
  | .exc C n h => ∀ H g' d, Le g g' → HR K g' H h → DOf g' n d → E (.ref C) d H
  | .bad => False
def WA (K : Fr) (E : XK) (g : G) (r : R (List U)) (Q : List V → Hp → Prop) : Prop := match r with
  | .ok us h => ∀ vs H g', Le g g' → HR K g' H h → Reps K g' vs us → Q vs H
  | .exc C n h => ∀ H g' d, Le g g' → HR K g' H h → DOf g' n d → E (.ref C) d H
  | .bad => False
def WS (K : Fr) (W : WX) (g : G) (r : RS) (D : Ends) : Prop := match r with
  | .nx e h => ∀ σ H g', Le g g' → HR K g' H h → ER K g' σ e → D.nx σ H
  | .rt u h => ∀ v H g', Le g g' → HR K g' H h → Rep K g' v u → D.rt v H
  | .bk e h => ∀ σ H g', Le g g' → HR K g' H h → ER K g' σ e → D.bk σ H
  | .ct e h => ∀ σ H g', Le g g' → HR K g' H h → ER K g' σ e → D.ct σ H
  | .ex C n e h => ∀ σ H g' d, Le g g' → HR K g' H h → ER K g' σ e → DOf g' n d → W (.ref C) d σ H
  | .bad => False
section
variable {K : Fr} {g g' : G} {X : Cx} {E : XK} {W : WX}
theorem WE.mono {r : R U} {Q : VK} (l : Le g g') (w : WE K E g r Q) : WE K E g' r Q := by
  cases r with
  | ok u h => exact fun v H g2 l2 => w v H g2 (l.trans l2)
  | exc C n h => exact fun H g2 d l2 => w H g2 d (l.trans l2)
  | bad => exact w
theorem WT.mono {r : R Bool} {Q : Bool → Hp → Prop} (l : Le g g') (w : WT K E g r Q) : WT K E g' r Q := by
  cases r with
  | ok u h => exact fun H g2 l2 => w H g2 (l.trans l2)
  | exc C n h => exact fun H g2 d l2 => w H g2 d (l.trans l2)
  | bad => exact w
theorem WA.mono {r : R (List U)} {Q : List V → Hp → Prop} (l : Le g g') (w : WA K E g r Q) : WA K E g' r Q := by
  cases r with
  | ok u h => exact fun v H g2 l2 => w v H g2 (l.trans l2)
  | exc C n h => exact fun H g2 d l2 => w H g2 d (l.trans l2)
  | bad => exact w
theorem WS.mono {r : RS} {D : Ends} (l : Le g g') (w : WS K W g r D) : WS K W g' r D := by
  cases r with
  | nx e h => exact fun σ H g2 l2 => w σ H g2 (l.trans l2)
  | rt u h => exact fun v H g2 l2 => w v H g2 (l.trans l2)
  | bk e h => exact fun σ H g2 l2 => w σ H g2 (l.trans l2)
  | ct e h => exact fun σ H g2 l2 => w σ H g2 (l.trans l2)
  | ex C n e h => exact fun σ H g2 d l2 => w σ H g2 d (l.trans l2)
  | bad => exact w
def tM (K : Fr) (W : WX) (m : EM) : TE := fun σ H Q => ∃ g env h, HR K g H h ∧ ER K g σ env ∧ WE K (atSl W σ) g (m env h) Q
def bM (K : Fr) (W : WX) (m : TM) : TT := fun σ H Q => ∃ g env h, HR K g H h ∧ ER K g σ env ∧ WT K (atSl W σ) g (m env h) Q
def aM (K : Fr) (W : WX) (m : AM) : TA := fun σ H Q => ∃ g env h, HR K g H h ∧ ER K g σ env ∧ WA K (atSl W σ) g (m env h) Q
def sM (K : Fr) (W : WX) (m : SM) : TS := fun D σ H => ∃ g env h, HR K g H h ∧ ER K g σ env ∧ WS K W g (m env h) D
theorem PE.weak {e : Expr} {t t' : TE} (p : PE X e t) (h : ∀ σ H Q, t' σ H Q → t σ H Q) : PE X e t' := ⟨fun pins s σ H Q I q => p.run pins s σ H Q I (h σ H Q q)⟩
theorem PT.weak {e : Expr} {t t' : TT} (p : PT X e t) (h : ∀ σ H Q, t' σ H Q → t σ H Q) : PT X e t' := ⟨fun pins s σ H Q I q => p.run pins s σ H Q I (h σ H Q q)⟩
theorem PW.weak {e : Expr} {t t' : TT} (p : PW X e t) (h : ∀ σ H Q, t' σ H Q → t σ H Q) : PW X e t' := ⟨fun wh pins s σ H Q I q => p.run wh pins s σ H Q I (h σ H Q q)⟩
theorem PA.weak {e : List Expr} {t t' : TA} (p : PA X e t) (h : ∀ σ H Q, t' σ H Q → t σ H Q) : PA X e t' := ⟨fun pos pins s σ H Q I q => p.run pos pins s σ H Q I (h σ H Q q)⟩
theorem PS.weak {e : Stmt} {t t' : TS} (p : PS X e t) (h : ∀ D σ H, t' D σ H → t D σ H) : PS X e t' := ⟨fun pins s σ H D I q => p.run pins s σ H D I (h D σ H q)⟩
theorem PSs.weak {e : List Stmt} {t t' : TS} (p : PSs X e t) (h : ∀ D σ H, t' D σ H → t D σ H) : PSs X e t' := ⟨fun pins s σ H D I q => p.run pins s σ H D I (h D σ H q)⟩
theorem PG.weak {e : Expr} {t t' : TG} (p : PG X e t) (h : ∀ v σ H Q, t' v σ H Q → t v σ H Q) : PG X e t' := ⟨fun pins s σ H v u Q I r q => p.run pins s σ H v u Q I r (h v σ H Q q)⟩
end
end Q

set_option Elab.async false
set_option linter.all false
set_option maxRecDepth 100000
set_option maxHeartbeats 1000000
namespace Q
open PySem PySem.Spec PyProof.Rows L2 TL
section
variable {K : Fr} {g g' : G} {E : XK} {W : WX} {X : Cx} {H : Hp} {h : Sto} {v w : V} {x y : U}
/-! ### what a value is -/
/-- the items of a list that stands by itself -/
def mL (h : Sto) : U → Option (List U)
  | .fl us => some us
  | .ref n => match h[n]? with
    | some (.lst us) => some us
    | _ => none
  | _ => none
/-- of any list -/
def aL (h : Sto) : U → Option (List U)
  | .kl us => some us
  | x => mL h x
/-- of a list or a tuple -/
def sL (h : Sto) : U → Option (List U)
  | .tup us => some us
  | x => aL h x
theorem mL_of {us : List U} (hr : HR K g H h) (r : Rep K g v x) (e : mL h x = some us) : ∃ a vs, v = .ref a ∧ H a = some (.lst vs) ∧ Reps K g vs us := by
  cases r with
  | fl q s => cases e; exact ⟨_, _, rfl, hr.ex _ _ q, s⟩
  | ref q =>
    rename_i a n
    cases e2 : h[n]? with
    | none => simp [mL, e2] at e
    | some o =>
      cases o with
      | lst ts =>
        simp [mL, e2] at e
        subst e
        obtain ⟨vs, h1, h2⟩ := hr.ob n a _ q e2
        exact ⟨_, _, rfl, h1, h2⟩
      | _ => simp [mL, e2] at e
  | _ => simp [mL] at e
theorem aL_of {us : List U} (hr : HR K g H h) (r : Rep K g v x) (e : aL h x = some us) : ∃ a vs, v = .ref a ∧ SqL K H a vs ∧ Reps K g vs us := by
  cases r with
  | kl q s => cases e; exact ⟨_, _, rfl, hr.sqL q, s⟩
  | fl q s => cases e; exact ⟨_, _, rfl, .inl (.inl (hr.ex _ _ q)), s⟩
  | ref q =>
    obtain ⟨a, vs, h1, h2, h3⟩ := mL_of hr (.ref q) (show mL h (.ref _) = _ from e)
    exact ⟨a, vs, h1, .inl (.inl h2), h3⟩
  | _ => simp [aL, mL] at e
theorem sL_of {us : List U} (hr : HR K g H h) (r : Rep K g v x) (e : sL h x = some us) : ∃ a vs, v = .ref a ∧ (SqL K H a vs ∨ SqT K H a vs) ∧ Reps K g vs us := by
  cases r with
  | tup q s => cases e; exact ⟨_, _, rfl, .inr (hr.sqT q), s⟩
  | kl q s => cases e; exact ⟨_, _, rfl, .inl (hr.sqL q), s⟩
  | fl q s => cases e; exact ⟨_, _, rfl, .inl (.inl (.inl (hr.ex _ _ q))), s⟩
  | ref q =>
    obtain ⟨a, vs, h1, h2, h3⟩ := mL_of hr (.ref q) (show mL h (.ref _) = _ from e)
    exact ⟨a, vs, h1, .inl (.inl (.inl h2)), h3⟩
  | _ => simp [sL, aL, mL] at e
theorem tup_of {us : List U} (hr : HR K g H h) (r : Rep K g v (.tup us)) : ∃ a vs, v = .ref a ∧ SqT K H a vs ∧ Reps K g vs us := by
  cases r with
  | tup q s => exact ⟨_, _, rfl, hr.sqT q, s⟩

/-- data of any depth -/
def allO {α : Type} (f : U → Option α) : List U → Option (List α)
  | [] => some []
  | u :: us => match f u, allO f us with
    | some d, some ds => some (d :: ds)
    | _, _ => none
def pyd : Nat → Sto → U → Option PyData
  | 0, _, _ => none
  | n + 1, h, x => match x with
    | .non => some .none
    | .bl b => some (.bool b)
    | .int i => some (.int i)
    | .str s => some (.str ⟨s.toArray⟩)
    | .tup us => (allO (pyd n h) us).map .tuple
    | x => match aL h x with
      | some us => (allO (pyd n h) us).map .list
      | none => none
theorem dpAll_of {f : U → Option PyData} (ih : ∀ (v : V) (x : U) (d : PyData), Rep K g v x → f x = some d → Dp K H v d) : ∀ {vs : List V} {us : List U} {ds : List PyData}, Reps K g vs us → allO f us = some ds → DpAll K H vs ds
  | _, _, _, .nil, e => by cases e; exact .nil
  | _, _, ds, .cons r rs, e => by
    unfold allO at e
    split at e
    · rename_i d ds' e1 e2
      cases e
      exact .cons (ih _ _ _ r e1) (dpAll_of ih rs e2)
    · cases e
theorem dp_of (hr : HR K g H h) : ∀ (n : Nat) (v : V) (x : U) (d : PyData), Rep K g v x → pyd n h x = some d → Dp K H v d
  | 0, _, _, _, _, e => by cases e
  | n + 1, v, x, d, r, e => by
    have ls : ∀ {us : List U}, aL h x = some us → (allO (pyd n h) us).map PyData.list = some d → Dp K H v d := by
      intro us e1 e2
      obtain ⟨a, vs, rfl, q, rs⟩ := aL_of hr r e1
      cases e3 : allO (pyd n h) us with
      | none => rw [e3] at e2; cases e2
      | some ds =>
        rw [e3] at e2
        cases e2
        exact .lst q (dpAll_of (dp_of hr n) rs e3)
    cases r with
    | non => cases e; exact .non
    | bl b => cases e; exact .bl b
    | int i => cases e; exact .int i
    | str s => cases e; exact .str _
    | @tup a vs us q rs =>
      have e : (allO (pyd n h) us).map PyData.tuple = some d := e
      cases e3 : allO (pyd n h) us with
      | none => rw [e3] at e; cases e
      | some ds =>
        rw [e3] at e
        cases e
        exact .tup (hr.sqT q) (dpAll_of (dp_of hr n) rs e3)
    | @fl a vs us q rs => exact ls (us := us) rfl e
    | @kl a vs us q rs => exact ls (us := us) rfl e
    | @ref a m q =>
      have e : (match aL h (.ref m) with
        | some us => (allO (pyd n h) us).map PyData.list
        | none => none) = some d := e
      split at e
      · rename_i us e1
        exact ls e1 e
      · cases e
    | xv q => cases e
/-- equality of data -/
def eqP (h : Sto) (x y : U) : Option Bool := match pyd 60 h x, pyd 60 h y with
  | some d, some e => if SeqAt.shaped d = true ∧ SeqAt.shaped e = true then some (PyData.eqv d e) else none
  | _, _ => none
theorem eqP_of {b : Bool} (hr : HR K g H h) (rx : Rep K g v x) (ry : Rep K g w y) (e : eqP h x y = some b) : ∃ d e, Dp K H v d ∧ Dp K H w e ∧ SeqAt.shaped d = true ∧ SeqAt.shaped e = true ∧ PyData.eqv d e = b := by
  unfold eqP at e
  split at e
  · rename_i d1 d2 e1 e2
    split at e
    · rename_i z
      cases e
      exact ⟨d1, d2, dp_of hr _ _ _ _ rx e1, dp_of hr _ _ _ _ ry e2, z.1, z.2, rfl⟩
    · cases e
  · cases e
/-! ### operators by values -/
def BinOK (K : Fr) (r : R2) (f : U → U → Sto → R U) : Prop := ∀ E g H h v w x y Q, HR K g H h → Rep K g v x → Rep K g w y → WE K E g (f x y h) Q → r v w H Q
def mVar (i : Nat) : EM := fun env h => match env[i]? with
  | some (some u) => .ok u h
  | _ => .bad
def mC (u : U) : EM := fun _ h => .ok u h
def mBin (f : U → U → Sto → R U) (a b : EM) : EM := fun env h => (a env h).bind fun x h1 => (b env h1).bind fun y h2 => f x y h2
theorem se_var {i : Nat} {x : Str} {pos : Pos} (hN : X.N[i]? = some x := by rfl) (hv : Vis X.env.scope x := by first | exact Or.inl rfl | exact Or.inr (Or.inl rfl) | exact Or.inr (Or.inr rfl))
    (hd : (x == ("__debug__" : Str)) = false := by decide) (hcd : (x == ("__classdict__" : Str)) = false := by decide) : PE X (.Name x pos) (tM K W (mVar i)) := by
  refine PE.weak (pe_var hN hv hd hcd) fun σ H Q q => ?_
  obtain ⟨g, env, h, hr, er, w⟩ := q
  unfold mVar at w
  split at w
  · rename_i u e
    obtain ⟨v, a, b⟩ := er.2 i u e
    exact ⟨v, a, w v H g (Le.refl g) hr b⟩
  · exact w.elim
theorem se_int {i j pos} : PE X (.Constant (.int i) j pos) (tM K W (mC (.int i))) := PE.weak pe_int fun σ H Q ⟨g, env, h, hr, er, w⟩ => w _ H g (Le.refl g) hr (.int i)
theorem se_bl {i j pos} : PE X (.Constant (.bool i) j pos) (tM K W (mC (.bl i))) := PE.weak pe_bl fun σ H Q ⟨g, env, h, hr, er, w⟩ => w _ H g (Le.refl g) hr (.bl i)
theorem se_non {j pos} : PE X (.Constant .none j pos) (tM K W (mC .non)) := PE.weak pe_non fun σ H Q ⟨g, env, h, hr, er, w⟩ => w _ H g (Le.refl g) hr .non
theorem se_str {x : Str} {s : List Nat} {j pos} (e : x.cps.toList = s := by rfl) : PE X (.Constant (.str x) j pos) (tM K W (mC (.str s))) := by
  subst e
  exact PE.weak pe_str fun σ H Q ⟨g, env, h, hr, er, w⟩ => w _ H g (Le.refl g) hr (.str _)
theorem bin_to {a b : EM} {f : U → U → Sto → R U} {r : R2} (ok : BinOK K r f) {σ : L2.St} {Q : VK} (t : tM K W (mBin f a b) σ H Q) : tOp r (tM K W a) (tM K W b) σ H Q := by
  obtain ⟨g, env, h, hr, er, w⟩ := t
  refine ⟨g, env, h, hr, er, ?_⟩
  unfold mBin at w
  cases ea : a env h with
  | bad => rw [ea] at w; exact w.elim
  | exc C n h => rw [ea] at w; exact w
  | ok x h1 =>
    rw [ea] at w
    have w : WE K (atSl W σ) g ((b env h1).bind fun y h2 => f x y h2) Q := w
    intro v H1 g1 l1 hr1 rv
    refine ⟨g1, env, h1, hr1, er.mono l1, ?_⟩
    cases eb : b env h1 with
    | bad => rw [eb] at w; exact w.elim
    | exc C n h => rw [eb] at w; exact fun H2 g2 d l2 => w H2 g2 d (l1.trans l2)
    | ok y h2 =>
      rw [eb] at w
      intro u H2 g2 l2 hr2 ru
      exact ok _ g2 H2 h2 v u x y Q hr2 (rv.mono l2) ru (WE.mono (l1.trans l2) w)
theorem se_bin {op : Operator} {r : R2} {f : U → U → Sto → R U} {a b : Expr} {ma mb : EM} {pos : Pos} (ho : OpR X (binaryOp op) r) (ok : BinOK K r f) (ha : PE X a (tM K W ma)) (hb : PE X b (tM K W mb)) :
    PE X (.BinOp a op b pos) (tM K W (mBin f ma mb)) := PE.weak (pe_op ho ha hb) fun σ H Q t => bin_to ok t

theorem str_app (s t : List Nat) : ((⟨s.toArray⟩ : Str) ++ (⟨t.toArray⟩ : Str)) = ⟨(s ++ t).toArray⟩ := by
  apply ext_tl
  rw [tl_append, tl_mk, tl_mk, tl_mk]
theorem str_len (s : List Nat) : (⟨s.toArray⟩ : Str).length = s.length := by rw [len_tl, tl_mk]
def uAdd (x y : U) (h : Sto) : R U := match x, y with
  | .int i, .int j => .ok (.int (i + j)) h
  | .str s, .str t => if s.length + t.length ≤ 16000000 then .ok (.str (s ++ t)) h else .bad
  | .tup s, .tup t => if s.length + t.length ≤ 16000000 then .ok (.tup (s ++ t)) h else .bad
  | x, y => match mL h x, mL h y with
    | some us, some ts => if us.length + ts.length ≤ 16000000 then .ok (.ref h.length) (h ++ [.lst (us ++ ts)]) else .bad
    | _, _ => .bad
abbrev rAddA (K : Fr) : R2 := fun x y H Q => (∃ i j, x = V.int i ∧ y = V.int j ∧ Q (.int (i + j)) H) ∨ (∃ i j, x = V.str i ∧ y = V.str j ∧ i.length + j.length ≤ sizeLine ∧ Q (.str (i ++ j)) H) ∨ rCatA K x y H Q ∨ rCat x y H Q
theorem opr_add : OpR X (binaryOp .Add) (rAddA X.K) := op_add.or (op_add_str.or (op_catA.or op_cat))
theorem sz16 {n : Nat} (h : n ≤ 16000000) : n ≤ sizeLine := Nat.le_trans h (by decide)
theorem ok_add : BinOK K (rAddA K) uAdd := by
  intro E g H h v w x y Q hr rx ry t
  unfold uAdd at t
  split at t
  · cases rx; cases ry
    exact .inl ⟨_, _, rfl, rfl, t _ _ g (Le.refl g) hr (.int _)⟩
  · cases rx; cases ry
    split at t
    · rename_i z
      refine .inr (.inl ⟨_, _, rfl, rfl, by rw [str_len, str_len]; exact sz16 z, ?_⟩)
      rw [str_app]
      exact t _ _ g (Le.refl g) hr (.str _)
    · exact t.elim
  · rename_i us ts
    split at t
    · rename_i z
      obtain ⟨a, vs, rfl, h1, r1⟩ := tup_of hr rx
      obtain ⟨b, ws, rfl, h2, r2⟩ := tup_of hr ry
      refine .inr (.inr (.inl ⟨a, b, vs, ws, rfl, rfl, h1, h2, by rw [r1.len, r2.len]; exact sz16 z, fun e => ?_, fun _ e => ?_, fun _ _ p hp => ?_⟩))
      · subst e
        cases r1
        exact t _ _ g (Le.refl g) hr ry
      · subst e
        cases r2
        rw [List.append_nil] at t
        exact t _ _ g (Le.refl g) hr rx
      · obtain ⟨l, a1, a2⟩ := hr.newTup hp (r1.app r2)
        exact t _ _ _ l a1 a2
    · exact t.elim
  · split at t
    · rename_i us ts e1 e2
      split at t
      · rename_i z
        obtain ⟨a, vs, rfl, h1, r1⟩ := mL_of hr rx e1
        obtain ⟨b, ws, rfl, h2, r2⟩ := mL_of hr ry e2
        refine .inr (.inr (.inr ⟨a, b, vs, ws, rfl, rfl, h1, h2, by rw [r1.len, r2.len]; exact sz16 z, fun p hp => ?_⟩))
        exact t _ _ (g.new p) Le.new (hr.newLst hp (r1.app r2)) hr.newRef
      · exact t.elim
    · exact t.elim
theorem se_add {a b : Expr} {ma mb : EM} {pos : Pos} (ha : PE X a (tM X.K W ma)) (hb : PE X b (tM X.K W mb)) : PE X (.BinOp a .Add b pos) (tM X.K W (mBin uAdd ma mb)) := se_bin opr_add ok_add ha hb
/-- ints under a condition -/
def uI (c : Int → Int → Prop) [∀ i j, Decidable (c i j)] (f : Int → Int → Int) (x y : U) (h : Sto) : R U := match x, y with
  | .int i, .int j => if c i j then .ok (.int (f i j)) h else .bad
  | _, _ => .bad
theorem ok_I {C : Int → Int → Prop} {c : Int → Int → Prop} [∀ i j, Decidable (c i j)] {f : Int → Int → Int} (hc : ∀ i j, c i j → C i j) : BinOK K (rI C fun i j => .int (f i j)) (uI c f) := by
  intro E g H h v w x y Q hr rx ry t
  unfold uI at t
  split at t
  · cases rx; cases ry
    split at t
    · rename_i z
      exact ⟨_, _, rfl, rfl, hc _ _ z, t _ _ g (Le.refl g) hr (.int _)⟩
    · exact t.elim
  · exact t.elim
def cT (_ _ : Int) : Prop := True
instance : ∀ i j, Decidable (cT i j) := fun _ _ => isTrue trivial
def cMul (i j : Int) : Prop := (-18446744073709551616 < i ∧ i < 18446744073709551616) ∨ (-18446744073709551616 < j ∧ j < 18446744073709551616)
instance : ∀ i j, Decidable (cMul i j) := fun i j => by unfold cMul; exact inferInstance
def cDiv (_ j : Int) : Prop := 0 < j ∧ j < 1073741824
instance : ∀ i j, Decidable (cDiv i j) := fun i j => by unfold cDiv; exact inferInstance
def cMod (_ j : Int) : Prop := 0 < j
instance : ∀ i j, Decidable (cMod i j) := fun i j => by unfold cMod; exact inferInstance
def cPow (i j : Int) : Prop := 0 ≤ j ∧ j ≤ 1000 ∧ 0 ≤ i ∧ i < 1000
instance : ∀ i j, Decidable (cPow i j) := fun i j => by unfold cPow; exact inferInstance
abbrev uSub := uI cT (fun i j => i - j)
abbrev uMul := uI cMul (fun i j => i * j)
abbrev uDiv := uI cDiv (fun i j => i / j)
abbrev uMod := uI cMod (fun i j => i % j)
abbrev uPow := uI cPow (fun i j => i ^ j.toNat)
theorem se_mul {a b : Expr} {ma mb : EM} {pos : Pos} (ha : PE X a (tM K W ma)) (hb : PE X b (tM K W mb)) : PE X (.BinOp a .Mult b pos) (tM K W (mBin uMul ma mb)) :=
  se_bin op_mul (ok_I fun i j c => by unfold cMul at c; unfold CMul; omega) ha hb
theorem se_div {a b : Expr} {ma mb : EM} {pos : Pos} (ha : PE X a (tM K W ma)) (hb : PE X b (tM K W mb)) : PE X (.BinOp a .FloorDiv b pos) (tM K W (mBin uDiv ma mb)) := se_bin op_fdiv (ok_I fun _ _ c => c) ha hb
theorem se_mod {a b : Expr} {ma mb : EM} {pos : Pos} (ha : PE X a (tM K W ma)) (hb : PE X b (tM K W mb)) : PE X (.BinOp a .Mod b pos) (tM K W (mBin uMod ma mb)) := se_bin op_mod (ok_I fun _ _ c => c) ha hb
theorem se_pow {a b : Expr} {ma mb : EM} {pos : Pos} (ha : PE X a (tM K W ma)) (hb : PE X b (tM K W mb)) : PE X (.BinOp a .Pow b pos) (tM K W (mBin uPow ma mb)) :=
  se_bin op_pow (ok_I fun i j c => by unfold cPow at c; unfold CPow; omega) ha hb
/-- -a -/
def mNeg (a : EM) : EM := fun env h => (a env h).bind fun x h1 => match x with
  | .int i => .ok (.int (-i)) h1
  | _ => .bad
/-! ### comparisons -/
def CmpOK (K : Fr) (r : R2) (f : Sto → U → U → Option Bool) : Prop := ∀ g H h v w x y (b : Bool) Q, HR K g H h → Rep K g v x → Rep K g w y → f h x y = some b → Q (.bl b) H → r v w H Q
def oB (o : Option Bool) (h : Sto) : R Bool := match o with
  | some b => .ok b h
  | none => .bad
def bCmp (f : Sto → U → U → Option Bool) (a b : EM) : TM := fun env h => (a env h).bind fun x h1 => (b env h1).bind fun y h2 => oB (f h2 x y) h2
/-- a test as a value -/
def mB (t : TM) : EM := fun env h => (t env h).bind fun b h1 => .ok (.bl b) h1
theorem cmp_to {a b : EM} {f : Sto → U → U → Option Bool} {r : R2} (ok : CmpOK K r f) {σ : L2.St} {Q : VK} {P : Bool → Hp → Prop} (t : bM K W (bCmp f a b) σ H P) (hq : ∀ b H, P b H → Q (.bl b) H) : tOp r (tM K W a) (tM K W b) σ H Q := by
  obtain ⟨g, env, h, hr, er, w⟩ := t
  refine ⟨g, env, h, hr, er, ?_⟩
  unfold bCmp at w
  cases ea : a env h with
  | bad => rw [ea] at w; exact w.elim
  | exc C n h => rw [ea] at w; exact w
  | ok x h1 =>
    rw [ea] at w
    have w : WT K (atSl W σ) g ((b env h1).bind fun y h2 => oB (f h2 x y) h2) P := w
    intro v H1 g1 l1 hr1 rv
    refine ⟨g1, env, h1, hr1, er.mono l1, ?_⟩
    cases eb : b env h1 with
    | bad => rw [eb] at w; exact w.elim
    | exc C n h => rw [eb] at w; exact fun H2 g2 d l2 => w H2 g2 d (l1.trans l2)
    | ok y h2 =>
      rw [eb] at w
      intro u H2 g2 l2 hr2 ru
      have w : WT K (atSl W σ) g (oB (f h2 x y) h2) P := w
      cases ef : f h2 x y with
      | none => rw [ef] at w; exact w.elim
      | some c =>
        rw [ef] at w
        exact ok g2 H2 h2 v u x y c Q hr2 (rv.mono l2) ru ef (hq _ _ (w H2 g2 (l1.trans l2) hr2))
theorem bt_cmp {op : CmpOp} {r : R2} {f : Sto → U → U → Option Bool} {a b : Expr} {ma mb : EM} {pos : Pos} (ho : OpR X (compareOp op) r) (ok : CmpOK K r f) (ha : PE X a (tM K W ma)) (hb : PE X b (tM K W mb)) (hm : behindInMarks op b = false) :
    PT X (.Compare a [op] [b] pos) (bM K W (bCmp f ma mb)) := PT.weak (pt_cmpR ho ha hb hm) fun σ H Q t => cmp_to ok t fun b H q => ⟨b, rfl, q⟩
/-- a test as a value, by a rule of values -/
theorem mB_to {t : TM} {σ : L2.St} {Q : VK} (q : tM K W (mB t) σ H Q) : bM K W t σ H fun b H => Q (.bl b) H := by
  obtain ⟨g, env, h, hr, er, w⟩ := q
  refine ⟨g, env, h, hr, er, ?_⟩
  unfold mB at w
  cases et : t env h with
  | bad => rw [et] at w; exact w.elim
  | exc C n h => rw [et] at w; exact w
  | ok b h1 => rw [et] at w; exact fun H g' l hr' => w _ H g' l hr' (.bl b)
theorem se_cmp {op : CmpOp} {r : R2} {f : Sto → U → U → Option Bool} {a b : Expr} {ma mb : EM} {pos : Pos} (ho : OpR X (compareOp op) r) (ok : CmpOK K r f) (ha : PE X a (tM K W ma)) (hb : PE X b (tM K W mb)) (hm : behindInMarks op b = false) :
    PE X (.Compare a [op] [b] pos) (tM K W (mB (bCmp f ma mb))) := PE.weak (pe_cmpR ho ha hb hm) fun σ H Q t => cmp_to ok (mB_to t) fun b H q => q
def cEq0 (_ : Sto) (x y : U) : Option Bool := match x, y with
  | .int i, .int j => some (decide (i = j))
  | .str i, .str j => some (decide (i = j))
  | .bl i, .bl j => some (decide (i = j))
  | .non, .non => some true
  | .int _, .str _ => some false
  | .str _, .int _ => some false
  | .non, .int _ => some false
  | .int _, .non => some false
  | .non, .str _ => some false
  | .str _, .non => some false
  | .non, .bl _ => some false
  | .bl _, .non => some false
  | .bl _, .str _ => some false
  | .str _, .bl _ => some false
  | _, _ => none
def cEq (h : Sto) (x y : U) : Option Bool := match x, y with
  | .int i, .int j => some (decide (i = j))
  | .str i, .str j => some (decide (i = j))
  | .bl i, .bl j => some (decide (i = j))
  | .non, .non => some true
  | .int _, .str _ => some false
  | .str _, .int _ => some false
  | .non, .int _ => some false
  | .int _, .non => some false
  | .non, .str _ => some false
  | .str _, .non => some false
  | .non, .bl _ => some false
  | .bl _, .non => some false
  | .bl _, .str _ => some false
  | .str _, .bl _ => some false
  | x, y => eqP h x y
theorem cEq_cases (h : Sto) (x y : U) : cEq h x y = cEq0 h x y ∨ cEq h x y = eqP h x y := by
  cases x <;> cases y <;> first | exact .inl rfl | exact .inr rfl
theorem str_eq (s t : List Nat) : ((⟨s.toArray⟩ : Str) = ⟨t.toArray⟩) ↔ s = t := ⟨fun e => by
  have := congrArg tl e
  rwa [tl_mk, tl_mk] at this, fun e => by rw [e]⟩
theorem eq_core {v w : V} {x y : U} {b : Bool} (rx : Rep K g v x) (ry : Rep K g w y) (e : cEq0 h x y = some b) : scal v w = true ∧ decide (v = w) = b := by
  unfold cEq0 at e
  split at e <;> cases rx <;> cases ry <;> cases e <;> refine ⟨rfl, ?_⟩ <;> simp [str_eq]
abbrev rEqA (K : Fr) : R2 := fun x y H Q => rEq x y H Q ∨ rEqD K x y H Q
abbrev rNeA (K : Fr) : R2 := fun x y H Q => rNe x y H Q ∨ rNeD K x y H Q
theorem ok_eq : CmpOK K (rEqA K) cEq := fun g H h v w x y b Q hr rx ry e q => by
  rcases cEq_cases h x y with e2 | e2
  · rw [e2] at e
    obtain ⟨h1, h2⟩ := eq_core rx ry e
    exact .inl ⟨h1, by rw [h2]; exact q⟩
  · rw [e2] at e
    obtain ⟨d1, d2, q1, q2, q3, q4, q5⟩ := eqP_of hr rx ry e
    exact .inr ⟨d1, d2, q1, q2, q3, q4, by rw [q5]; exact q⟩
def cNe (h : Sto) (x y : U) : Option Bool := (cEq h x y).map not
theorem ok_ne : CmpOK K (rNeA K) cNe := fun g H h v w x y b Q hr rx ry e q => by
  unfold cNe at e
  cases e3 : cEq h x y with
  | none => rw [e3] at e; cases e
  | some c =>
    rw [e3] at e
    cases e
    rcases cEq_cases h x y with e2 | e2
    · rw [e2] at e3
      obtain ⟨h1, h2⟩ := eq_core rx ry e3
      exact .inl ⟨h1, by rw [h2]; exact q⟩
    · rw [e2] at e3
      obtain ⟨d1, d2, q1, q2, q3, q4, q5⟩ := eqP_of hr rx ry e3
      exact .inr ⟨d1, d2, q1, q2, q3, q4, by rw [q5]; exact q⟩
theorem hu64 {A : Around} {k : Nat} (hr : Room k A) : A.units + 64 < cLine := by have := hr.un; omega
theorem hu65 {A : Around} {k : Nat} (hr : Room k A) : A.units + 65 < cLine := by have := hr.un; omega
def cI (p : Int → Int → Bool) (_ : Sto) (x y : U) : Option Bool := match x, y with
  | .int i, .int j => some (p i j)
  | _, _ => none
theorem ok_cI {p : Int → Int → Bool} : CmpOK K (rI0 fun i j => .bl (p i j)) (cI p) := fun g H h v w x y b Q hr rx ry e q => by
  unfold cI at e
  split at e
  · cases rx; cases ry; cases e
    exact ⟨_, _, rfl, rfl, q⟩
  · cases e
abbrev cLt := cI fun i j => decide (i < j)
abbrev cLe := cI fun i j => decide (i ≤ j)
abbrev cGt := cI fun i j => decide (j < i)
abbrev cGe := cI fun i j => decide (j ≤ i)
section
variable {a b : Expr} {ma mb : EM} {pos : Pos} (ha : PE X a (tM K W ma)) (hb : PE X b (tM K W mb))
include ha hb
theorem bt_lt : PT X (.Compare a [.Lt] [b] pos) (bM K W (bCmp cLt ma mb)) := bt_cmp op_lt ok_cI ha hb (nomark _)
theorem bt_gt : PT X (.Compare a [.Gt] [b] pos) (bM K W (bCmp cGt ma mb)) := bt_cmp op_gt ok_cI ha hb (nomark _)
end
section
variable {a b : Expr} {ma mb : EM} {pos : Pos} {k : Nat} (hr : Room k X.A) (ha : PE X a (tM X.K W ma)) (hb : PE X b (tM X.K W mb))
include hr ha hb
theorem bt_eq : PT X (.Compare a [.Eq] [b] pos) (bM X.K W (bCmp cEq ma mb)) := bt_cmp (op_eq.or (op_eqD (hu64 hr))) ok_eq ha hb (nomark _)
theorem bt_ne : PT X (.Compare a [.NotEq] [b] pos) (bM X.K W (bCmp cNe ma mb)) := bt_cmp (op_ne.or (op_neD (hu64 hr))) ok_ne ha hb (nomark _)
theorem se_eq : PE X (.Compare a [.Eq] [b] pos) (tM X.K W (mB (bCmp cEq ma mb))) := se_cmp (op_eq.or (op_eqD (hu64 hr))) ok_eq ha hb (nomark _)
end
/-- is None -/
def cIs (_ : Sto) (x y : U) : Option Bool := match y with
  | .non => some (match x with
    | .non => true
    | _ => false)
  | _ => none
def cIsN (h : Sto) (x y : U) : Option Bool := (cIs h x y).map not
theorem is_core {v w : V} {x y : U} {b : Bool} (rx : Rep K g v x) (ry : Rep K g w y) (e : cIs h x y = some b) : w = .non ∧ decide (v = .non) = b := by
  unfold cIs at e
  split at e
  · cases ry
    refine ⟨rfl, ?_⟩
    cases rx <;> cases e <;> simp
  · cases e
theorem ok_is : CmpOK K (fun x y H Q => y = .non ∧ Q (.bl (decide (x = .non))) H) cIs := fun g H h v w x y b Q hr rx ry e q => by
  obtain ⟨h1, h2⟩ := is_core rx ry e
  exact ⟨h1, by rw [h2]; exact q⟩
/-- in a list or tuple of flat things -/
def flatU : U → Bool
  | .non => true
  | .bl _ => true
  | .int _ => true
  | .str _ => true
  | _ => false
def eqF : U → U → Bool
  | .non, .non => true
  | .bl a, .bl b => a == b
  | .bl a, .int b => (if a then 1 else 0) == b
  | .int a, .bl b => a == (if b then 1 else 0)
  | .int a, .int b => a == b
  | .str a, .str b => a == b
  | _, _ => false
def inF (x : U) (us : List U) : Bool := us.any fun y => eqF y x
theorem flat_of {v : V} {x : U} (r : Rep K g v x) (f : flatU x = true) : flatV v = true := by cases r <;> first | rfl | cases f
theorem flats_of : ∀ {vs : List V} {us : List U}, Reps K g vs us → us.all flatU = true → vs.all flatV = true
  | _, _, .nil, _ => rfl
  | _, _, .cons h r, f => by
    rw [List.all_cons, Bool.and_eq_true] at f
    rw [List.all_cons, flat_of h f.1, flats_of r f.2]; rfl
theorem eqF_of {v w : V} {x y : U} (rx : Rep K g v x) (ry : Rep K g w y) (fx : flatU x = true) (fy : flatU y = true) : eqV v w = eqF x y := by
  cases rx <;> cases ry <;> first | cases fx; done | cases fy; done | rfl | skip
  rename_i s t
  show ((⟨s.toArray⟩ : Str) == ⟨t.toArray⟩) = (s == t)
  by_cases e : s = t
  · subst e; simp
  · rw [beq_eq_false_iff_ne.mpr e, beq_eq_false_iff_ne.mpr fun z => e ((str_eq s t).mp z)]
theorem inF_of {v : V} {x : U} (rx : Rep K g v x) (fx : flatU x = true) : ∀ {vs : List V} {us : List U}, Reps K g vs us → us.all flatU = true → inV v vs = inF x us
  | _, _, .nil, _ => rfl
  | _, _, .cons h r, f => by
    rw [List.all_cons, Bool.and_eq_true] at f
    show (eqV _ v || inV v _) = (eqF _ x || inF x _)
    rw [eqF_of h rx f.1 fx, inF_of rx fx r f.2]
/-- .. of data -/
def inP (h : Sto) (x y : U) : Option Bool := match pyd 60 h x, pyd 60 h y with
  | some d, some (.list ds) => if SeqAt.shaped d = true ∧ SeqAt.shaped (.list ds) = true then some (ds.any fun z => PyData.eqv z d) else none
  | _, _ => none
def cIn (h : Sto) (x y : U) : Option Bool := match sL h y with
  | some us => if flatU x = true ∧ us.all flatU = true then some (inF x us) else inP h x y
  | none => none
def cNin (h : Sto) (x y : U) : Option Bool := (cIn h x y).map not
abbrev rInA (K : Fr) : R2 := fun x y H Q => rIn K false x y H Q ∨ rInD K x y H Q
abbrev rNinA (K : Fr) : R2 := fun x y H Q => rIn K true x y H Q ∨ rNotInD K x y H Q
theorem ok_in : CmpOK K (rInA K) cIn := fun g H h v w x y b Q hr rx ry e q => by
  unfold cIn at e
  split at e
  · rename_i us e1
    split at e
    · rename_i c
      cases e
      obtain ⟨a, vs, rfl, h1, r1⟩ := sL_of hr ry e1
      refine .inl ⟨a, vs, rfl, h1, flat_of rx c.1, flats_of r1 c.2, ?_⟩
      rw [inF_of rx c.1 r1 c.2]
      exact q
    · unfold inP at e
      split at e
      · rename_i d ds e2 e3
        split at e
        · rename_i z
          cases e
          exact .inr ⟨d, ds, dp_of hr _ _ _ _ rx e2, dp_of hr _ _ _ _ ry e3, z.1, z.2, q⟩
        · cases e
      · cases e
  · cases e
theorem ok_nin : CmpOK K (rNinA K) cNin := fun g H h v w x y b Q hr rx ry e q => by
  unfold cNin at e
  cases e0 : cIn h x y with
  | none => rw [e0] at e; cases e
  | some c0 =>
    rw [e0] at e
    cases e
    unfold cIn at e0
    split at e0
    · rename_i us e1
      split at e0
      · rename_i c
        cases e0
        obtain ⟨a, vs, rfl, h1, r1⟩ := sL_of hr ry e1
        refine .inl ⟨a, vs, rfl, h1, flat_of rx c.1, flats_of r1 c.2, ?_⟩
        rw [inF_of rx c.1 r1 c.2]
        exact q
      · unfold inP at e0
        split at e0
        · rename_i d ds e2 e3
          split at e0
          · rename_i z
            cases e0
            exact .inr ⟨d, ds, dp_of hr _ _ _ _ rx e2, dp_of hr _ _ _ _ ry e3, z.1, z.2, q⟩
          · cases e0
        · cases e0
    · cases e0
section
variable {a b : Expr} {ma mb : EM} {pos : Pos} (ha : PE X a (tM X.K W ma)) (hb : PE X b (tM X.K W mb))
include ha hb
theorem bt_is : PT X (.Compare a [.Is] [b] pos) (bM X.K W (bCmp cIs ma mb)) := bt_cmp op_isN ok_is ha hb (nomark _)
theorem se_is : PE X (.Compare a [.Is] [b] pos) (tM X.K W (mB (bCmp cIs ma mb))) := se_cmp op_isN ok_is ha hb (nomark _)
variable {k : Nat} (hr : Room k X.A)
include hr
theorem bt_in (hm : behindInMarks .In b = false := by rfl) : PT X (.Compare a [.In] [b] pos) (bM X.K W (bCmp cIn ma mb)) := bt_cmp (op_in_seq.or (op_inD (hu65 hr))) ok_in ha hb hm
theorem bt_nin (hm : behindInMarks .NotIn b = false := by rfl) : PT X (.Compare a [.NotIn] [b] pos) (bM X.K W (bCmp cNin ma mb)) := bt_cmp (op_notIn_seq.or (op_notInD (hu65 hr))) ok_nin ha hb hm
theorem se_in (hm : behindInMarks .In b = false := by rfl) : PE X (.Compare a [.In] [b] pos) (tM X.K W (mB (bCmp cIn ma mb))) := se_cmp (op_in_seq.or (op_inD (hu65 hr))) ok_in ha hb hm
theorem se_nin (hm : behindInMarks .NotIn b = false := by rfl) : PE X (.Compare a [.NotIn] [b] pos) (tM X.K W (mB (bCmp cNin ma mb))) := se_cmp (op_notIn_seq.or (op_notInD (hu65 hr))) ok_nin ha hb hm
end
end
end Q

set_option Elab.async false
set_option linter.all false
set_option maxRecDepth 100000
set_option maxHeartbeats 1000000
namespace Q
open PySem PySem.Spec PyProof.Rows L2 TL
section
variable {K : Fr} {g g' : G} {E : XK} {W : WX} {X : Cx} {H : Hp} {h : Sto} {v w : V} {x y : U} {a b c e o : Expr} {es rest : List Expr} {ma mb mc me : EM} {ta tb : TM} {pos : Pos}
/-! ### parts -/
/-- from the end of a part to what is behind it -/
theorem wE {r : R U} {f : U → Sto → R U} {Q P : VK} (t : WE K E g (r.bind f) Q) (k : ∀ u h v H g', Le g g' → HR K g' H h → Rep K g' v u → WE K E g' (f u h) Q → P v H) : WE K E g r P := by
  cases r with
  | bad => exact t
  | exc C n h => exact t
  | ok u h => exact fun v H g' l hr rv => k u h v H g' l hr rv (WE.mono l t)
theorem wA {r : R (List U)} {f : List U → Sto → R U} {Q : VK} {P : List V → Hp → Prop} (t : WE K E g (r.bind f) Q) (k : ∀ u h v H g', Le g g' → HR K g' H h → Reps K g' v u → WE K E g' (f u h) Q → P v H) : WA K E g r P := by
  cases r with
  | bad => exact t
  | exc C n h => exact t
  | ok u h => exact fun v H g' l hr rv => k u h v H g' l hr rv (WE.mono l t)
theorem wET {r : R U} {f : U → Sto → R Bool} {Q : Bool → Hp → Prop} {P : VK} (t : WT K E g (r.bind f) Q) (k : ∀ u h v H g', Le g g' → HR K g' H h → Rep K g' v u → WT K E g' (f u h) Q → P v H) : WE K E g r P := by
  cases r with
  | bad => exact t
  | exc C n h => exact t
  | ok u h => exact fun v H g' l hr rv => k u h v H g' l hr rv (WT.mono l t)
theorem wTT {r : R Bool} {f : Bool → Sto → R Bool} {Q P : Bool → Hp → Prop} (t : WT K E g (r.bind f) Q) (k : ∀ u h H g', Le g g' → HR K g' H h → WT K E g' (f u h) Q → P u H) : WT K E g r P := by
  cases r with
  | bad => exact t
  | exc C n h => exact t
  | ok u h => exact fun H g' l hr => k u h H g' l hr (WT.mono l t)
theorem wEA {r : R U} {f : U → Sto → R (List U)} {Q : List V → Hp → Prop} {P : VK} (t : WA K E g (r.bind f) Q) (k : ∀ u h v H g', Le g g' → HR K g' H h → Rep K g' v u → WA K E g' (f u h) Q → P v H) : WE K E g r P := by
  cases r with
  | bad => exact t
  | exc C n h => exact t
  | ok u h => exact fun v H g' l hr rv => k u h v H g' l hr rv (WA.mono l t)
theorem wAA {r : R (List U)} {f : List U → Sto → R (List U)} {Q P : List V → Hp → Prop} (t : WA K E g (r.bind f) Q) (k : ∀ u h v H g', Le g g' → HR K g' H h → Reps K g' v u → WA K E g' (f u h) Q → P v H) : WA K E g r P := by
  cases r with
  | bad => exact t
  | exc C n h => exact t
  | ok u h => exact fun v H g' l hr rv => k u h v H g' l hr rv (WA.mono l t)

/-! ### tests -/
def bAnd (a b : TM) : TM := fun env h => (a env h).bind fun c h1 => if c = true then b env h1 else .ok false h1
def bOr (a b : TM) : TM := fun env h => (a env h).bind fun c h1 => if c = true then .ok true h1 else b env h1
def bNot (a : TM) : TM := fun env h => (a env h).bind fun c h1 => .ok (!c) h1
theorem bw_and1 (ha : PT X a (bM K W ta)) : PW X (.BoolOp .And [a] pos) (bM K W ta) := pw_and1 ha
theorem bw_or1 (ha : PT X a (bM K W ta)) : PW X (.BoolOp .Or [a] pos) (bM K W ta) := pw_or1 ha
theorem bw_and (ha : PT X a (bM K W ta)) (hb : PW X (.BoolOp .And (b :: rest) pos) (bM K W tb)) : PW X (.BoolOp .And (a :: b :: rest) pos) (bM K W (bAnd ta tb)) :=
  PW.weak (pw_and ha hb) fun σ H Q ⟨g, env, h, hr, er, w⟩ => ⟨g, env, h, hr, er, wTT w fun c h1 H1 g1 l1 hr1 w1 => by
    cases c with
    | true => exact ⟨g1, env, h1, hr1, er.mono l1, w1⟩
    | false => exact w1 H1 g1 (Le.refl _) hr1⟩
theorem bw_or (ha : PT X a (bM K W ta)) (hb : PW X (.BoolOp .Or (b :: rest) pos) (bM K W tb)) : PW X (.BoolOp .Or (a :: b :: rest) pos) (bM K W (bOr ta tb)) :=
  PW.weak (pw_or ha hb) fun σ H Q ⟨g, env, h, hr, er, w⟩ => ⟨g, env, h, hr, er, wTT w fun c h1 H1 g1 l1 hr1 w1 => by
    cases c with
    | false => exact ⟨g1, env, h1, hr1, er.mono l1, w1⟩
    | true => exact w1 H1 g1 (Le.refl _) hr1⟩
theorem bt_not (ha : PT X a (bM K W ta)) : PT X (.UnaryOp .Not a pos) (bM K W (bNot ta)) :=
  PT.weak (pt_not ha) fun σ H Q ⟨g, env, h, hr, er, w⟩ => ⟨g, env, h, hr, er, wTT w fun c h1 H1 g1 l1 hr1 w1 => w1 H1 g1 (Le.refl _) hr1⟩
/-- the truth of a value -/
def truU (h : Sto) : U → Option Bool
  | .non => some false
  | .bl b => some b
  | .int i => some (i != 0)
  | .str s => if s.length ≤ 16000000 then some (!s.isEmpty) else none
  | .ref n => match h[n]? with
    | some (.lst us) => some (!us.isEmpty)
    | some (.dK kvs) => some (!kvs.isEmpty)
    | _ => none
  | .tup us => some (!us.isEmpty)
  | .fl us => some (!us.isEmpty)
  | .kl us => some (!us.isEmpty)
  | .xv _ _ _ _ => none
theorem Reps.emp : ∀ {vs : List V} {us : List U}, Reps K g vs us → (!us.isEmpty) = !vs.isEmpty
  | _, _, .nil => rfl
  | _, _, .cons _ _ => rfl
theorem RepK.emp : ∀ {vs us}, RepK K g vs us → (!us.isEmpty) = !vs.isEmpty
  | _, _, .nil => rfl
  | _, _, .cons _ _ => rfl
theorem tru_of {k : Bool} (hr : HR K g H h) (r : Rep K g v x) (q : truU h x = some k) : TruV K v H k := by
  cases r with
  | non => cases q; rfl
  | bl b => cases q; rfl
  | int i => cases q; rfl
  | str s =>
    simp only [truU] at q
    split at q
    · rename_i z
      cases q
      refine ⟨by rw [str_len]; exact sz16 z, ?_⟩
      rw [str_len]
      cases s with
      | nil => rfl
      | cons c r => simp; omega
    · cases q
  | tup t r => cases q; exact .inr (.inl ⟨_, hr.sqT t, r.emp⟩)
  | fl t r => cases q; exact .inl ⟨_, .inl (.inl (hr.ex _ _ t)), r.emp⟩
  | kl t r => cases q; exact .inl ⟨_, hr.sqL t, r.emp⟩
  | ref t =>
    rename_i a n
    simp only [truU] at q
    split at q
    · rename_i us e
      cases q
      obtain ⟨vs, h1, h2⟩ := hr.ob n a _ t e
      exact .inl ⟨_, .inl (.inl h1), h2.emp⟩
    · rename_i us e
      cases q
      obtain ⟨vs, h1, h2⟩ := hr.ob n a _ t e
      exact .inr (.inr ⟨_, h1, h2.emp⟩)
    · cases q
  | xv _ => cases q
def bTru (a : EM) : TM := fun env h => (a env h).bind fun x h1 => oB (truU h1 x) h1
theorem bt_tru (ha : PE X a (tM X.K W ma)) (he : ∀ whole, isTrue a X.env whole = (do let v ← whole; standAt a.pos; holding [v] (truthy v)) := by intro _; rfl) : PT X a (bM X.K W (bTru ma)) :=
  PT.weak (pt_truth ha he) fun σ H Q ⟨g, env, h, hr, er, w⟩ => ⟨g, env, h, hr, er, wET w fun u h1 v H1 g1 l1 hr1 rv w1 => by
    cases et : truU h1 u with
    | none => rw [et] at w1; exact w1.elim
    | some k =>
      rw [et] at w1
      exact ⟨k, tru_of hr1 rv et, w1 H1 g1 (Le.refl _) hr1⟩⟩
/-- and, or, not as values of bools -/
def mAnd (a b : EM) : EM := fun env h => (a env h).bind fun x h1 => match x with
  | .bl true => b env h1
  | .bl false => .ok (.bl false) h1
  | _ => .bad
def mOr (a b : EM) : EM := fun env h => (a env h).bind fun x h1 => match x with
  | .bl false => b env h1
  | .bl true => .ok (.bl true) h1
  | _ => .bad
def mNot (a : EM) : EM := fun env h => (a env h).bind fun x h1 => match x with
  | .bl c => .ok (.bl (!c)) h1
  | _ => .bad
theorem se_one {op} (h : PE X a (tM K W ma)) : PE X (.BoolOp op [a] pos) (tM K W ma) := pe_one h
theorem se_and (ha : PE X a (tM K W ma)) (hb : PE X (.BoolOp .And (b :: rest) pos) (tM K W mb)) : PE X (.BoolOp .And (a :: b :: rest) pos) (tM K W (mAnd ma mb)) :=
  PE.weak (pe_and ha hb) fun σ H Q ⟨g, env, h, hr, er, w⟩ => ⟨g, env, h, hr, er, wE w fun u h1 v H1 g1 l1 hr1 rv w1 => by
    cases rv with
    | bl c =>
      cases c with
      | true => exact ⟨true, rfl, g1, env, h1, hr1, er.mono l1, w1⟩
      | false => exact ⟨false, rfl, w1 _ H1 g1 (Le.refl _) hr1 (.bl _)⟩
    | _ => exact w1.elim⟩
theorem se_or (ha : PE X a (tM K W ma)) (hb : PE X (.BoolOp .Or (b :: rest) pos) (tM K W mb)) : PE X (.BoolOp .Or (a :: b :: rest) pos) (tM K W (mOr ma mb)) :=
  PE.weak (pe_or ha hb) fun σ H Q ⟨g, env, h, hr, er, w⟩ => ⟨g, env, h, hr, er, wE w fun u h1 v H1 g1 l1 hr1 rv w1 => by
    cases rv with
    | bl c =>
      cases c with
      | false => exact ⟨false, rfl, g1, env, h1, hr1, er.mono l1, w1⟩
      | true => exact ⟨true, rfl, w1 _ H1 g1 (Le.refl _) hr1 (.bl _)⟩
    | _ => exact w1.elim⟩
theorem se_not (ha : PE X a (tM K W ma)) : PE X (.UnaryOp .Not a pos) (tM K W (mNot ma)) :=
  PE.weak (pe_not ha) fun σ H Q ⟨g, env, h, hr, er, w⟩ => ⟨g, env, h, hr, er, wE w fun u h1 v H1 g1 l1 hr1 rv w1 => by
    cases rv with
    | bl c => exact ⟨c, rfl, w1 _ H1 g1 (Le.refl _) hr1 (.bl _)⟩
    | _ => exact w1.elim⟩
/-- a if t else b -/
def mIf (t : TM) (a b : EM) : EM := fun env h => (t env h).bind fun c h1 => if c = true then a env h1 else b env h1
/-! ### arguments, displays -/
def aNil : AM := fun _ h => .ok [] h
def aCons (a : EM) (r : AM) : AM := fun env h => (a env h).bind fun x h1 => (r env h1).bind fun xs h2 => .ok (x :: xs) h2
variable {am : AM}
theorem sa_nil : PA X [] (aM K W aNil) := PA.weak pa_nil fun σ H Q ⟨g, env, h, hr, er, w⟩ => w [] H g (Le.refl _) hr .nil
theorem sa_cons (ha : PE X e (tM K W me)) (hr : PA X es (aM K W am)) (hs : starEach (e :: es) X.env = (false, eval e X.env) :: starEach es X.env := by rfl) : PA X (e :: es) (aM K W (aCons me am)) :=
  PA.weak (pa_cons ha hr hs) fun σ H Q ⟨g, env, h, hr, er, w⟩ => ⟨g, env, h, hr, er, wEA w fun u h1 v H1 g1 l1 hr1 rv w1 =>
    ⟨g1, env, h1, hr1, er.mono l1, wAA w1 fun us h2 vs H2 g2 l2 hr2 rvs w2 => w2 _ H2 g2 (Le.refl _) hr2 (.cons (rv.mono l2) rvs)⟩⟩
def mTup (am : AM) : EM := fun env h => (am env h).bind fun us h1 => if us.length ≤ 16000000 then .ok (.tup us) h1 else .bad
def mLst (am : AM) : EM := fun env h => (am env h).bind fun us h1 => if us.length ≤ 16000000 then .ok (.ref h1.length) (h1 ++ [.lst us]) else .bad
theorem se_tup {x1} (ha : PA X es (aM K W am)) : PE X (.Tuple es x1 pos) (tM K W (mTup am)) :=
  PE.weak (pe_tup ha) fun σ H Q ⟨g, env, h, hr, er, w⟩ => ⟨g, env, h, hr, er, wA w fun us h1 vs H1 g1 l1 hr1 rv w1 => by
    split at w1
    · rename_i z
      refine ⟨by rw [rv.len]; exact sz16 z, fun p hp => ?_⟩
      obtain ⟨l, q, r⟩ := hr1.newTup hp rv
      exact w1 _ _ _ l q r
    · exact w1.elim⟩
theorem se_lst (ha : PA X es (aM K W am)) : PE X (.List es pos) (tM K W (mLst am)) :=
  PE.weak (pe_lst ha) fun σ H Q ⟨g, env, h, hr, er, w⟩ => ⟨g, env, h, hr, er, wA w fun us h1 vs H1 g1 l1 hr1 rv w1 => by
    split at w1
    · rename_i z
      exact ⟨by rw [rv.len]; exact sz16 z, fun p hp => w1 _ _ _ Le.new (hr1.newLst hp rv) hr1.newRef⟩
    · exact w1.elim⟩

/-! ### subscripts, slices -/
theorem at_len {α β : Type} {xs : List α} {ys : List β} {i : Int} {v : α} (hl : xs.length = ys.length) (hv : atI xs i = some v) : ∃ j, ixN ys.length i = some j ∧ xs[j]? = some v := by
  unfold atI at hv
  cases e : ixN xs.length i with
  | none => rw [e] at hv; cases hv
  | some j =>
    rw [e] at hv
    exact ⟨j, by rw [← hl]; exact e, hv⟩
theorem Reps.at {vs : List V} {us : List U} {i : Int} {u : U} (r : Reps K g vs us) (q : atI us i = some u) : ∃ v, atI vs i = some v ∧ Rep K g v u := by
  obtain ⟨j, h1, h2⟩ := at_len (ys := vs) r.len.symm q
  obtain ⟨v, h3, h4⟩ := r.get h2
  exact ⟨v, by unfold atI; rw [h1]; exact h3, h4⟩
def oR (o : Option U) (h : Sto) : R U := match o with
  | some u => .ok u h
  | none => .bad
def uIx (x y : U) (h : Sto) : R U := match y with
  | .int i => (match x with
    | .str s => if s.length ≤ 16000000 then oR ((atI s i).map fun c => .str [c]) h else .bad
    | x => match sL h x with
      | some us => oR (atI us i) h
      | none => .bad)
  | _ => .bad
theorem ok_ix : BinOK K (rIx K) uIx := by
  intro E g H h v w x y Q hr rx ry t
  unfold uIx at t
  split at t
  · rename_i i
    cases ry with
    | int _ =>
      split at t
      · rename_i s
        cases rx with
        | str _ =>
          split at t
          · rename_i z
            cases e1 : atI s i with
            | none => rw [e1] at t; exact t.elim
            | some c =>
              rw [e1] at t
              exact .inr (.inr ⟨_, i, c, rfl, rfl, by rw [str_len]; exact sz16 z, by simpa using e1, t _ _ g (Le.refl _) hr (.str [c])⟩)
          · exact t.elim
      · split at t
        · rename_i us e1
          cases e2 : atI us i with
          | none => rw [e2] at t; exact t.elim
          | some u =>
            rw [e2] at t
            obtain ⟨p, vs, rfl, h1, r1⟩ := sL_of hr rx e1
            obtain ⟨z, h2, h3⟩ := r1.at e2
            have fin := t _ _ g (Le.refl _) hr h3
            rcases h1 with h1 | h1
            · exact .inl ⟨p, vs, i, z, rfl, rfl, h1, h2, fin⟩
            · exact .inr (.inl ⟨p, vs, i, z, rfl, rfl, h1, h2, fin⟩)
        · exact t.elim
  · exact t.elim
theorem se_ix (ha : PE X a (tM X.K W ma)) (hb : PE X b (tM X.K W mb)) (hs : PlainIx b := by exact fun _ _ => rfl) : PE X (.Subscript a b pos) (tM X.K W (mBin uIx ma mb)) :=
  PE.weak (pe_ix ix_seq ha hb hs) fun σ H Q t => bin_to ok_ix t
def cut {α : Type} (xs : List α) (lo hi : Option Int) : List α := (xs.drop (HT.sIx xs.length 0 lo)).take (HT.sIx xs.length xs.length hi - HT.sIx xs.length 0 lo)
theorem Reps.cut {vs : List V} {us : List U} (r : Reps K g vs us) (lo hi : Option Int) : Reps K g (cutV vs lo hi) (_root_.Q.cut us lo hi) := by
  unfold cutV _root_.Q.cut
  rw [r.len]
  exact (r.drop _).take _
def uSl (x : U) (lo hi : Option Int) (h : Sto) : R U := match x with
  | .str s => if s.length ≤ 16000000 then .ok (.str (cut s lo hi)) h else .bad
  | .tup us => .ok (.tup (cut us lo hi)) h
  | x => match aL h x with
    | some us => .ok (.ref h.length) (h ++ [.lst (cut us lo hi)])
    | none => .bad
def rSlQ (K : Fr) : V → Option Int → Option Int → Hp → VK → Prop := fun x lo hi H Q => rSlS x lo hi H Q ∨ rSlA K x lo hi H Q ∨ rSlL K x lo hi H Q
/-- an optional part of a slice -/
abbrev OM := Env' → Sto → R (Option Int)
def WO (K : Fr) (E : XK) (g : G) (r : R (Option Int)) (Q : Option Int → Hp → Prop) : Prop := match r with
  | .ok b h => ∀ H g', Le g g' → HR K g' H h → Q b H
  | .exc C n h => ∀ H g' d, Le g g' → HR K g' H h → DOf g' n d → E (.ref C) d H
  | .bad => False
def oM (K : Fr) (W : WX) (m : OM) : TO := fun σ H Q => ∃ g env h, HR K g H h ∧ ER K g σ env ∧ WO K (atSl W σ) g (m env h) Q
def oNone : OM := fun _ h => .ok none h
def oSome (a : EM) : OM := fun env h => (a env h).bind fun x h1 => match x with
  | .int i => .ok (some i) h1
  | _ => .bad
theorem PO.weak {X : Cx} {e : Option Expr} {t t' : TO} (p : PO X e t) (h : ∀ σ H Q, t' σ H Q → t σ H Q) : PO X e t' := ⟨fun pins s σ H Q I q => p.run pins s σ H Q I (h σ H Q q)⟩
def mSl (a : EM) (lo hi : OM) : EM := fun env h => (a env h).bind fun x h1 => (lo env h1).bind fun l h2 => (hi env h2).bind fun u h3 => uSl x l u h3
variable {lo hi : Option Expr} {ml mh : OM} {p2 : Pos}
/-! ### calls of the built-ins -/
def CallOK (K : Fr) (r : List V → Hp → VK → Prop) (f : List U → Sto → R U) : Prop := ∀ E g H h vs us Q, HR K g H h → Reps K g vs us → WE K E g (f us h) Q → r vs H Q
def mCB (f : List U → Sto → R U) (am : AM) : EM := fun env h => (am env h).bind f
variable {r : List V → Hp → VK → Prop} {f : List U → Sto → R U} {id T : String} {n : Str} {p : Pos}
theorem cb_to {σ : L2.St} {Q : VK} (ok : CallOK K r f) (q : tM K W (mCB f am) σ H Q) : tCB r (aM K W am) σ H Q := by
  obtain ⟨g, env, h, hr, er, w⟩ := q
  exact ⟨g, env, h, hr, er, wA w fun us h1 vs H1 g1 l1 hr1 rv w1 => ok _ g1 H1 h1 vs us Q hr1 rv w1⟩
theorem se_cb (hc : CallR X (.builtin id) r) (ok : CallOK K r f) (hg : Gl X n) (hm : X.mg n = none) (hv : bootBuiltins n = some (.builtin id)) (ha : PA X (e :: es) (aM K W am)) (hn : n ≠ "__name__" := by decide) (hdb : (n == ("__debug__" : Str)) = false := by decide)
    (he : starEach (e :: es) X.env = (false, eval e X.env) :: starEach es X.env := by rfl) (hpl : (backTo pos (starEach es X.env)).any (·.1) = false := by rfl) : PE X (.Call (.Name n p) (e :: es) [] pos) (tM K W (mCB f am)) :=
  PE.weak (pe_callB hc hg hm hv ha hn hdb he hpl) fun σ H Q q => cb_to ok q
theorem se_ct (hc : CallR X (.type T) r) (ok : CallOK K r f) (hg : Gl X n) (hm : X.mg n = none) (hv : bootBuiltins n = some (.type T)) (ha : PA X (e :: es) (aM K W am)) (hn : n ≠ "__name__" := by decide) (hdb : (n == ("__debug__" : Str)) = false := by decide)
    (he : starEach (e :: es) X.env = (false, eval e X.env) :: starEach es X.env := by rfl) (hpl : (backTo pos (starEach es X.env)).any (·.1) = false := by rfl) : PE X (.Call (.Name n p) (e :: es) [] pos) (tM K W (mCB f am)) :=
  PE.weak (pe_callTy hc hg hm hv ha hn hdb he hpl) fun σ H Q q => cb_to ok q
def uLen (us : List U) (h : Sto) : R U := match us with
  | [.str s] => if s.length ≤ 16000000 then .ok (.int s.length) h else .bad
  | [x] => match sL h x with
    | some us => .ok (.int us.length) h
    | none => .bad
  | _ => .bad
theorem ok_len : CallOK K (fun xs H Q => ∃ x n, xs = [x] ∧ LenV K x H n ∧ Q (.int n) H) uLen := by
  intro E g H h vs us Q hr rv t
  unfold uLen at t
  split at t
  · cases rv with
    | cons r1 r2 =>
      cases r2
      cases r1
      split at t
      · rename_i s z
        exact ⟨_, s.length, rfl, ⟨by rw [str_len]; exact sz16 z, (str_len _).symm⟩, t _ _ g (Le.refl _) hr (.int _)⟩
      · exact t.elim
  · cases rv with
    | cons r1 r2 =>
      cases r2
      split at t
      · rename_i us e1
        obtain ⟨p, vs, rfl, h1, r1⟩ := sL_of hr r1 e1
        refine ⟨_, us.length, rfl, ?_, t _ _ g (Le.refl _) hr (.int _)⟩
        rcases h1 with h1 | h1
        · exact .inl ⟨vs, h1, r1.len.symm⟩
        · exact .inr ⟨vs, h1, r1.len.symm⟩
      · exact t.elim
  · exact t.elim
def uInt (us : List U) (h : Sto) : R U := match us with
  | [.int i] => .ok (.int i) h
  | [.bl b] => .ok (.int (if b then 1 else 0)) h
  | _ => .bad
theorem ok_int : CallOK K (fun xs H Q => (∃ i, xs = [.int i] ∧ Q (.int i) H) ∨ ∃ k, xs = [.bl k] ∧ Q (.int (if k then 1 else 0)) H) uInt := by
  intro E g H h vs us Q hr rv t
  unfold uInt at t
  split at t
  · cases rv with
    | cons r1 r2 => cases r2; cases r1; exact .inl ⟨_, rfl, t _ _ g (Le.refl _) hr (.int _)⟩
  · cases rv with
    | cons r1 r2 => cases r2; cases r1; exact .inr ⟨_, rfl, t _ _ g (Le.refl _) hr (.int _)⟩
  · exact t.elim
def uList (us : List U) (h : Sto) : R U := match us with
  | [x] => match sL h x with
    | some us => .ok (.ref h.length) (h ++ [.lst us])
    | none => .bad
  | _ => .bad
theorem ok_list : CallOK K (fun xs H Q => ∃ p ys, xs = [.ref p] ∧ (SqL K H p ys ∨ SqT K H p ys) ∧ ∀ l, H l = none → Q (.ref l) (upd H l (.lst ys))) uList := by
  intro E g H h vs us Q hr rv t
  unfold uList at t
  split at t
  · cases rv with
    | cons r1 r2 =>
      cases r2
      split at t
      · rename_i us e1
        obtain ⟨p, vs, rfl, h1, r1⟩ := sL_of hr r1 e1
        exact ⟨p, vs, rfl, h1, fun l hl => t _ _ _ Le.new (hr.newLst hl r1) hr.newRef⟩
      · exact t.elim
  · exact t.elim
def uTuple (us : List U) (h : Sto) : R U := match us with
  | [x] => match sL h x with
    | some us => .ok (.tup us) h
    | none => .bad
  | _ => .bad
def uMin (us : List U) (h : Sto) : R U := match us with
  | [.int i, .int j] => .ok (.int (if j < i then j else i)) h
  | _ => .bad
def uMax (us : List U) (h : Sto) : R U := match us with
  | [.int i, .int j] => .ok (.int (if j > i then j else i)) h
  | _ => .bad
def uAbs (us : List U) (h : Sto) : R U := match us with
  | [.int i] => .ok (.int (if i < 0 then -i else i)) h
  | _ => .bad
theorem ok_min : CallOK K (fun xs H Q => ∃ i j, xs = [.int i, .int j] ∧ Q (.int (if j < i then j else i)) H) uMin := by
  intro E g H h vs us Q hr rv t
  unfold uMin at t
  split at t
  · cases rv with
    | cons r1 r2 => cases r2 with
      | cons r2 r3 => cases r3; cases r1; cases r2; exact ⟨_, _, rfl, t _ _ g (Le.refl _) hr (.int _)⟩
  · exact t.elim
section
variable (hg : Gl X n) (hm : X.mg n = none) (ha : PA X (e :: es) (aM X.K W am)) (hn : n ≠ "__name__" := by decide) (hdb : (n == ("__debug__" : Str)) = false := by decide)
    (he : starEach (e :: es) X.env = (false, eval e X.env) :: starEach es X.env := by rfl) (hpl : (backTo pos (starEach es X.env)).any (·.1) = false := by rfl)
include hg hm ha hn hdb he hpl
theorem se_len (hv : bootBuiltins n = some (.builtin "len") := by decide +kernel) : PE X (.Call (.Name n p) (e :: es) [] pos) (tM X.K W (mCB uLen am)) := se_cb call_len ok_len hg hm hv ha hn hdb he hpl
theorem se_int' (hv : bootBuiltins n = some (.type "int") := by decide +kernel) : PE X (.Call (.Name n p) (e :: es) [] pos) (tM X.K W (mCB uInt am)) := se_ct call_int1 ok_int hg hm hv ha hn hdb he hpl
theorem se_list (hv : bootBuiltins n = some (.type "list") := by decide +kernel) : PE X (.Call (.Name n p) (e :: es) [] pos) (tM X.K W (mCB uList am)) := se_ct call_list_of ok_list hg hm hv ha hn hdb he hpl
theorem se_min (hc : X.calm = true) (hv : bootBuiltins n = some (.builtin "min") := by decide +kernel) : PE X (.Call (.Name n p) (e :: es) [] pos) (tM X.K W (mCB uMin am)) := se_cb (call_min2 hc) ok_min hg hm hv ha hn hdb he hpl
end
/-! ### methods of built-in types -/
def MtOK (K : Fr) (r : V → List V → Hp → VK → Prop) (f : U → List U → Sto → R U) : Prop := ∀ E g H h v x vs us Q, HR K g H h → Rep K g v x → Reps K g vs us → WE K E g (f x us h) Q → r v vs H Q
/-- a list's method: the receiver is a list -/
def mLM (f : U → List U → Sto → R U) (o : EM) (am : AM) : EM := fun env h => (o env h).bind fun x h1 => if (aL h1 x).isSome = true then (am env h1).bind fun us h2 => f x us h2 else .bad
theorem lm_to {r : V → List V → Hp → VK → Prop} {f : U → List U → Sto → R U} {mo : EM} {σ : L2.St} {Q : VK} (ok : MtOK K r f) (q : tM K W (mLM f mo am) σ H Q) : tBM K "list" r (tM K W mo) (aM K W am) σ H Q := by
  obtain ⟨g, env, h, hr, er, w⟩ := q
  refine ⟨g, env, h, hr, er, wE w fun u h1 v H1 g1 l1 hr1 rv w1 => ?_⟩
  cases ea : aL h1 u with
  | none => rw [ea] at w1; exact w1.elim
  | some us =>
    rw [ea] at w1
    obtain ⟨a, vs, rfl, h2, r2⟩ := aL_of hr1 rv ea
    exact ⟨.inl ⟨rfl, vs, h2⟩, g1, env, h1, hr1, er.mono l1, wA w1 fun us h2 vs H2 g2 l2 hr2 rvs w2 => ok _ g2 H2 h2 _ u vs us Q hr2 (rv.mono l2) rvs w2⟩
def uApp (x : U) (us : List U) (h : Sto) : R U := match x, us with
  | .ref n, [y] => (match h[n]? with
    | some (.lst xs) => if xs.length < 16000000 then .ok .non (h.set n (.lst (xs ++ [y]))) else .bad
    | _ => .bad)
  | _, _ => .bad
theorem sz16l {n : Nat} (h : n < 16000000) : n < sizeLine := Nat.lt_of_lt_of_le h (by decide)
theorem ok_app : MtOK K rAppend uApp := by
  intro E g H h v x vs us Q hr rx rvs t
  unfold uApp at t
  split at t
  · rename_i n y
    split at t
    · rename_i xs e1
      split at t
      · rename_i z
        cases rx with
        | ref q =>
          rename_i a
          cases rvs with
          | cons r1 r2 =>
            cases r2
            obtain ⟨ws, h1, h2⟩ := hr.ob n a _ q e1
            exact ⟨a, ws, _, rfl, rfl, h1, by rw [h2.len]; exact sz16l z, t _ _ g (Le.refl _) (hr.setLst q h1 (h2.app (.one r1))) .non⟩
      · exact t.elim
    · exact t.elim
  · exact t.elim
def uExt (x : U) (us : List U) (h : Sto) : R U := match x, us with
  | .ref n, [y] => (match h[n]?, mL h y with
    | some (.lst xs), some ys => if xs.length + ys.length ≤ 16000000 then .ok .non (h.set n (.lst (xs ++ ys))) else .bad
    | _, _ => .bad)
  | _, _ => .bad
section
variable {mo : EM} {apos cpos : Pos} (ho : PE X o (tM X.K W mo)) (ha : PA X (e :: es) (aM X.K W am))
    (hfew : ((backTo cpos (starEach (e :: es) X.env)).all (fun x => !x.1) && (backToKw cpos (keywordEach [] X.env)).all (fun x => x.1.isSome)
      && decide ((e :: es).length + ([] : List Keyword).length + (if ([] : List Keyword).isEmpty then 0 else 1) < 30)) = true := by rfl)
    (hline : (apos.endLine == cpos.line) = true := by rfl) (hs : starEach (e :: es) X.env = (false, eval e X.env) :: starEach es X.env := by rfl) (hplain : (backTo cpos (starEach es X.env)).any (·.1) = false := by rfl)
include ho ha hfew hline hs hplain
theorem se_app (hbase : attributeBase o "append" X.env (eval o X.env) = eval o X.env := by rfl) : PE X (.Call (.Attribute o "append" apos) (e :: es) [] cpos) (tM X.K W (mLM uApp mo am)) :=
  PE.weak (pe_bm PySem.F.plainAttrs_list PySem.F.slot_list_append PySem.F.type_list_append mt_append ho ha hbase hfew hline hs hplain) fun σ H Q q => lm_to ok_app q
end
end
end Q

set_option Elab.async false
set_option linter.all false
set_option maxRecDepth 100000
set_option maxHeartbeats 2000000
/-! QZ: zip of two sequences, each a list or a tuple. -/
namespace QZ
open PySem PySem.Spec PyProof.Rows L2
open PySem.Sem (wp)
/-- the kind of a part: a list or a tuple -/
inductive ZK where
  | l | t
def ZK.cls : ZK → String
  | .l => "list_iterator"
  | .t => "tuple_iterator"
def ItIs (k : ZK) (h : Heap) (a p : Addr) (i : Nat) : Prop := match k with
  | .l => h.IsListIter a p i
  | .t => h.IsTupleIter a p i
def SqIs (k : ZK) (h : Heap) (p : Addr) (xs : Array Value) : Prop := match k with
  | .l => h.IsList p xs
  | .t => h.IsTuple p xs
theorem ItIs.mv {k : ZK} {h h' : Heap} {a p : Addr} {i : Nat} (x : ItIs k h a p i) (q : ∀ o, h.get? a = some o → h'.get? a = some o) : ItIs k h' a p i := by
  cases k
  · exact Heap.IsListIter.at x q
  · exact Heap.IsTupleIter.at x q
theorem ItIs.obj {k : ZK} {h : Heap} {a p : Addr} {i : Nat} (x : ItIs k h a p i) : ∃ o, h.get? a = some o ∧ ∀ v, o.data ≠ .cell v := by
  cases k
  · obtain ⟨o, e, _, d⟩ := x; exact ⟨o, e, fun v q => by rw [d] at q; cases q⟩
  · obtain ⟨o, e, _, d⟩ := x; exact ⟨o, e, fun v q => by rw [d] at q; cases q⟩
theorem ItIs.lt {k : ZK} {h : Heap} {a p : Addr} {i : Nat} (x : ItIs k h a p i) : a < h.objs.size := by
  obtain ⟨o, e, _⟩ := x.obj; exact Heap.lt_size e
section
variable {prog : Program} {w : World} {A : Around} {E : Value → Shared → Prop} {s : Shared}
variable {k k' : ZK} {z ti to a b p q : Addr} {i j : Nat} {xs ys : Array Value} {x y u v : Value}
/-- what a turn leaves -/
def Kp (z to a b : Addr) (h h2 : Heap) : Prop := ∀ c o, c ≠ z → c ≠ to → c ≠ a → c ≠ b → h.get? c = some o → h2.get? c = some o
end
def zO1 (k : ZK) (p : Addr) : Obj := { cls := .type k.cls, data := .fields #[.ref p, .int 0 0] }
def zH2 (k k' : ZK) (h : Heap) (p q : Addr) : Heap := (h.push (zO1 k p)).push (zO1 k' q)
def zH3 (k k' : ZK) (h : Heap) (p q : Addr) : Heap := (zH2 k k' h p q).push { cls := .type "tuple", data := .seq #[.ref h.objs.size, .ref (h.push (zO1 k p)).objs.size] }
def zH4 (k k' : ZK) (h : Heap) (p q : Addr) : Heap := (zH3 k k' h p q).push { cls := .type "tuple", data := .seq #[.none, .none] }
def zH5 (k k' : ZK) (h : Heap) (p q : Addr) : Heap := (zH4 k k' h p q).push { cls := .type "zip", data := .fields #[.none, .bool false, .bool false, .ref (zH2 k k' h p q).objs.size, .ref (zH3 k k' h p q).objs.size] }
section
variable {prog : Program} {w : World} {A : Around} {E : Value → Shared → Prop} {s : Shared}
end
/-- a sequence of that kind -/
def SqK (k : ZK) (K : PySem.W.Frag) (H : Hp) (a : Addr) (xs : List V) : Prop := match k with
  | .l => SqL K H a xs
  | .t => SqT K H a xs
def ItzG (k k' : ZK) (K : PySem.W.Frag) (a b : Addr) : It :=
  ⟨fun i H => ∃ (xs ys : List V) (x y : V), SqK k K H a xs ∧ SqK k' K H b ys ∧ xs[i]? = some x ∧ ys[i]? = some y,
    fun i H v H' => ∃ T x y, v = .ref T ∧ H T = none ∧ H' = upd H T (.tup [x, y]) ∧ (∀ xs, SqK k K H a xs → xs[i]? = some x) ∧ ∀ ys, SqK k' K H b ys → ys[i]? = some y,
    fun i H => ∃ xs ys : List V, SqK k K H a xs ∧ SqK k' K H b ys ∧ (xs.length ≤ i ∨ ys.length ≤ i)⟩
def iZipG (K : PySem.W.Frag) (ta : TA) : TI := fun σ H R => ta σ H fun vs H1 => ∃ k k' a b xs ys, vs = [.ref a, .ref b] ∧ SqK k K H1 a xs ∧ SqK k' K H1 b ys ∧ R (ItzG k k' K a b) H1
end QZ

set_option Elab.async false
set_option linter.all false
set_option maxRecDepth 100000
set_option maxHeartbeats 1000000
namespace Q
open PySem PySem.Spec PyProof.Rows L2 TL
/-! ### targets -/
inductive CT where
  | one (i : Nat)
  | tup (is : List Nat)
  | lst (is : List Nat)
  | nst (i : Nat) (is : List Nat)
  | nsl (is : List Nat) (i : Nat)
def CT.ix : CT → List Nat
  | .one i => [i]
  | .tup is => is
  | .lst is => is
  | .nst i is => i :: is
  | .nsl is i => i :: is
def setA {α : Type} : List (Option α) → List Nat → List α → List (Option α)
  | e, i :: is, u :: us => setA (e.set i (some u)) is us
  | e, _, _ => e
def CT.asg (c : CT) (u : U) (env : Env') (h : Sto) : Option Env' := match c with
  | .one i => some (env.set i (some u))
  | .tup is => match u with
    | .tup us => if us.length = is.length then some (setA env is us) else none
    | _ => none
  | .lst is => match mL h u with
    | some us => if us.length = is.length then some (setA env is us) else none
    | none => none
  | .nst i is => match u with
    | .tup [x, .tup us] => if us.length = is.length then some (setA (env.set i (some x)) is us) else none
    | _ => none
  | .nsl is i => match u with
    | .tup [.tup us, x] => if us.length = is.length then some ((setA env is us).set i (some x)) else none
    | _ => none
def gAll : List Nat → TGs
  | [] => gNil
  | i :: is => gCons (gName i) (gAll is)
theorem gAll_to : ∀ (is : List Nat) (vs : List V) (σ : L2.St) (H : Hp) (Q : L2.St → Hp → Prop), vs.length = is.length → Q (setA σ is vs) H → gAll is vs σ H Q
  | [], [], σ, H, Q, _, q => ⟨rfl, q⟩
  | i :: is, v :: vs, σ, H, Q, hl, q => ⟨v, vs, rfl, gAll_to is vs (σ.set i (some v)) H Q (by simpa using hl) q⟩
  | [], _ :: _, _, _, _, hl, _ => by simp at hl
  | _ :: _, [], _, _, _, hl, _ => by simp at hl
theorem ER.setA {K : Fr} {g : G} : ∀ {is : List Nat} {vs : List V} {us : List U} {σ : L2.St} {env : Env'}, ER K g σ env → Reps K g vs us → ER K g (Q.setA σ is vs) (Q.setA env is us)
  | [], _, _, _, _, e, _ => by unfold Q.setA; exact e
  | _ :: _, _, _, _, _, e, .nil => by unfold Q.setA; exact e
  | i :: is, _, _, _, _, e, .cons h r => by unfold Q.setA; exact ER.setA (e.set i h) r
theorem wipe_get (σ : L2.St) : ∀ (vs : List Nat) (j : Nat), (wipe σ vs)[j]? = if j ∈ vs ∧ j < σ.length then some none else σ[j]?
  | [], j => by simp [wipe]
  | v :: vs, j => by
    unfold wipe
    by_cases hv : v = j
    · subst hv
      by_cases hl : v < σ.length
      · rw [List.getElem?_set_self (by rw [wipe_length]; exact hl), if_pos ⟨List.mem_cons_self, hl⟩]
      · rw [List.getElem?_eq_none (by rw [List.length_set, wipe_length]; omega), if_neg (fun z => hl z.2), List.getElem?_eq_none (by omega)]
    · rw [List.getElem?_set_ne hv, wipe_get σ vs j]
      by_cases hj : j ∈ vs ∧ j < σ.length
      · rw [if_pos hj, if_pos ⟨List.mem_cons_of_mem _ hj.1, hj.2⟩]
      · rw [if_neg hj, if_neg fun z => hj ⟨(List.mem_cons.mp z.1).resolve_left (Ne.symm hv), z.2⟩]
theorem wipe_set (σ : L2.St) (vs : List Nat) {i : Nat} (hi : i ∈ vs) (x : Option V) : wipe (σ.set i x) vs = wipe σ vs := by
  apply List.ext_getElem?
  intro j
  rw [wipe_get, wipe_get, List.length_set]
  by_cases hj : j ∈ vs ∧ j < σ.length
  · rw [if_pos hj, if_pos hj]
  · rw [if_neg hj, if_neg hj]
    by_cases e : i = j
    · subst e
      have : ¬ i < σ.length := fun z => hj ⟨hi, z⟩
      rw [List.getElem?_eq_none (by rw [List.length_set]; omega), List.getElem?_eq_none (by omega)]
    · rw [List.getElem?_set_ne e]
theorem wipe_wipe (σ : L2.St) (vs : List Nat) : wipe (wipe σ vs) vs = wipe σ vs := by
  apply List.ext_getElem?
  intro j
  rw [wipe_get, wipe_length, wipe_get]
  by_cases hj : j ∈ vs ∧ j < σ.length
  · rw [if_pos hj, if_pos hj]
  · rw [if_neg hj]
theorem wipe_setA (vs : List Nat) : ∀ (is : List Nat) (xs : List V) (σ : L2.St), (∀ i ∈ is, i ∈ vs) → wipe (setA σ is xs) vs = wipe σ vs
  | [], _, σ, _ => by unfold setA; rfl
  | _ :: _, [], σ, _ => by unfold setA; rfl
  | i :: is, x :: xs, σ, h => by
    unfold setA
    rw [wipe_setA vs is xs _ fun j hj => h j (List.mem_cons_of_mem _ hj), wipe_set σ vs (h i List.mem_cons_self)]
def wipeE (e : Env') : List Nat → Env'
  | [] => e
  | v :: vs => (wipeE e vs).set v none
section
variable {K : Fr} {g g' : G} {E : XK} {W : WX} {X : Cx} {H : Hp} {h : Sto} {v w : V} {x y : U} {σ : L2.St} {env : Env'}
theorem ER.none (e : ER K g σ env) (i : Nat) : ER K g (σ.set i none) (env.set i none) := by
  refine ⟨by simp [e.1], fun j w q => ?_⟩
  by_cases hj : i = j
  · subst hj
    by_cases hl : i < env.length
    · rw [List.getElem?_set_self hl] at q; cases q
    · rw [List.getElem?_eq_none (by simpa using hl)] at q; cases q
  · rw [List.getElem?_set_ne hj] at q
    obtain ⟨v', a, b⟩ := e.2 j w q
    exact ⟨v', by rw [List.getElem?_set_ne hj]; exact a, b⟩
theorem ER.wipe (e : ER K g σ env) : ∀ vs : List Nat, ER K g (L2.wipe σ vs) (wipeE env vs)
  | [] => e
  | v :: vs => (ER.wipe e vs).none v
/-- the targets' reading -/
def CT.rd (K : Fr) : CT → TG
  | .one i => gName i
  | .tup is => gTup K is.length (gAll is)
  | .lst is => gUnl K is.length (gAll is)
  | .nst i is => gTup K 2 (gCons (gName i) (gCons (gTup K is.length (gAll is)) gNil))
  | .nsl is i => gTup K 2 (gCons (gTup K is.length (gAll is)) (gCons (gName i) gNil))
theorem ct_to {c : CT} {u : U} {env' : Env'} {Q : L2.St → Hp → Prop} (hr : HR K g H h) (er : ER K g σ env) (rv : Rep K g v u) (e : c.asg u env h = some env')
    (k : ∀ σ', ER K g σ' env' → (∀ vs : List Nat, (∀ i ∈ c.ix, i ∈ vs) → wipe σ' vs = wipe σ vs) → Q σ' H) : c.rd K v σ H Q := by
  cases c with
  | one i =>
    cases e
    exact k _ (er.set i rv) fun vs hv => wipe_set σ vs (hv i (List.mem_singleton.mpr rfl)) _
  | tup is =>
    unfold CT.asg at e
    cases u with
    | tup us =>
      simp only at e
      split at e
      · rename_i hl
        cases e
        obtain ⟨a, vs, rfl, h1, r1⟩ := tup_of hr rv
        exact ⟨a, vs, rfl, h1, by rw [r1.len]; exact hl, gAll_to is vs σ H Q (by rw [r1.len]; exact hl) (k _ (er.setA r1) fun ws hw => wipe_setA ws is vs σ hw)⟩
      · cases e
    | _ => cases e
  | lst is =>
    unfold CT.asg at e
    cases em : mL h u with
    | none => simp [em] at e
    | some us =>
      simp only [em] at e
      split at e
      · rename_i hl
        cases e
        obtain ⟨a, vs, rfl, h1, r1⟩ := mL_of hr rv em
        exact ⟨a, vs, rfl, .inl (.inl h1), by rw [r1.len]; exact hl, gAll_to is vs σ H Q (by rw [r1.len]; exact hl) (k _ (er.setA r1) fun ws hw => wipe_setA ws is vs σ hw)⟩
      · cases e
  | nst i is =>
    unfold CT.asg at e
    simp only at e
    split at e
    · rename_i x us
      split at e
      · rename_i hl
        cases e
        obtain ⟨a, vs, rfl, h1, r1⟩ := tup_of hr rv
        cases r1 with
        | cons ra rb =>
        cases rb with
        | cons rc rd =>
        cases rd
        obtain ⟨a2, vs2, rfl, h2, r2⟩ := tup_of hr rc
        refine ⟨a, _, rfl, h1, rfl, _, _, rfl, _, _, rfl, a2, vs2, rfl, h2, by rw [r2.len]; exact hl, gAll_to is vs2 _ H _ (by rw [r2.len]; exact hl) ⟨rfl, k _ ((er.set i ra).setA r2) fun ws hw => ?_⟩⟩
        rw [wipe_setA ws is vs2 _ fun j hj => hw j (List.mem_cons_of_mem _ hj), wipe_set σ ws (hw i List.mem_cons_self)]
      · cases e
    · cases e
  | nsl is i =>
    unfold CT.asg at e
    simp only at e
    split at e
    · rename_i us x
      split at e
      · rename_i hl
        cases e
        obtain ⟨a, vs, rfl, h1, r1⟩ := tup_of hr rv
        cases r1 with
        | cons ra rb =>
        cases rb with
        | cons rc rd =>
        cases rd
        obtain ⟨a2, vs2, rfl, h2, r2⟩ := tup_of hr ra
        refine ⟨a, _, rfl, h1, rfl, _, _, rfl, a2, vs2, rfl, h2, by rw [r2.len]; exact hl, gAll_to is vs2 _ H _ (by rw [r2.len]; exact hl) ⟨_, _, rfl, rfl, k _ ((er.setA r2).set i rc) fun ws hw => ?_⟩⟩
        rw [wipe_set _ ws (hw i List.mem_cons_self), wipe_setA ws is vs2 _ fun j hj => hw j (List.mem_cons_of_mem _ hj)]
      · cases e
    · cases e
end

/-! ### what is walked -/
abbrev Chk := List (Nat × List U)
def chkOk (c : Chk) (h : Sto) : Prop := ∀ p ∈ c, h[p.1]? = some (.lst p.2)
abbrev IM' := Env' → Sto → R (Chk × List U)
structure ItOk (K : Fr) (g : G) (J : It) (c : Chk) (us : List U) : Prop where
  go : ∀ g' H h i, Le g g' → HR K g' H h → chkOk c h → i < us.length → J.go i H
  stop : ∀ g' H h, Le g g' → HR K g' H h → chkOk c h → J.stop us.length H
  yl : ∀ g' H h i x H', Le g g' → HR K g' H h → chkOk c h → i < us.length → J.yld i H x H' → ∃ g2 u, Le g' g2 ∧ HR K g2 H' h ∧ us[i]? = some u ∧ Rep K g2 x u
def WI (K : Fr) (E : XK) (g : G) (r : R (Chk × List U)) (P : It → Hp → Prop) : Prop := match r with
  | .ok (c, us) h' => ∀ J H' g', Le g g' → HR K g' H' h' → ItOk K g' J c us → P J H'
  | .exc C n h => ∀ H g' d, Le g g' → HR K g' H h → DOf g' n d → E (.ref C) d H
  | .bad => False
def iM (K : Fr) (W : WX) (m : IM') : TI := fun σ H P => ∃ g env h, HR K g H h ∧ ER K g σ env ∧ WI K (atSl W σ) g (m env h) P
section
variable {K : Fr} {g g' : G} {E : XK} {W : WX} {X : Cx} {H : Hp} {h : Sto} {v w : V} {x y : U} {σ : L2.St} {env : Env'} {a b c e o tg : Expr} {es rest : List Expr} {ma mb mc me : EM} {ta tb : TM} {pos : Pos} {am : AM} {n : Str} {p : Pos}
theorem PI.weak {tg iter : Expr} {t t' : TI} (p : PI X tg iter t) (h : ∀ σ H Q, t' σ H Q → t σ H Q) : PI X tg iter t' := ⟨fun pins s σ H Q I q => p.run pins s σ H Q I (h σ H Q q)⟩
theorem WI.mono {r : R (Chk × List U)} {P : It → Hp → Prop} (l : Le g g') (w : WI K E g r P) : WI K E g' r P := by
  cases r with
  | ok u h => exact fun J H g2 l2 => w J H g2 (l.trans l2)
  | exc C n h => exact fun H g2 d l2 => w H g2 d (l.trans l2)
  | bad => exact w
theorem wAI {r : R (List U)} {f : List U → Sto → R (Chk × List U)} {P : List V → Hp → Prop} {Q : It → Hp → Prop} (t : WI K E g (r.bind f) Q)
    (k : ∀ us h v H g', Le g g' → HR K g' H h → Reps K g' v us → WI K E g' (f us h) Q → P v H) : WA K E g r P := by
  cases r with
  | bad => exact t
  | exc C n h => exact t
  | ok us h1 => exact fun v H1 g1 l1 hr1 rv => k us h1 v H1 g1 l1 hr1 rv (WI.mono l1 t)
theorem wEI {r : R U} {f : U → Sto → R (Chk × List U)} {P : VK} {Q : It → Hp → Prop} (t : WI K E g (r.bind f) Q)
    (k : ∀ us h v H g', Le g g' → HR K g' H h → Rep K g' v us → WI K E g' (f us h) Q → P v H) : WE K E g r P := by
  cases r with
  | bad => exact t
  | exc C n h => exact t
  | ok us h1 => exact fun v H1 g1 l1 hr1 rv => k us h1 v H1 g1 l1 hr1 rv (WI.mono l1 t)
/-- lo, lo + 1, .. -/
def rng (lo : Int) (n : Nat) : List U := (List.range n).map fun i => .int (lo + (i : Nat))
theorem rng_len (lo : Int) (n : Nat) : (rng lo n).length = n := by simp [rng]
theorem rng_get {lo : Int} {n i : Nat} (h : i < n) : (rng lo n)[i]? = some (.int (lo + (i : Nat))) := by simp [rng, h]
theorem it_range {lo : Int} {n : Nat} : ItOk K g (Itr lo n) [] (rng lo n) where
  go := fun _ _ _ i _ _ _ hi => by rw [rng_len] at hi; exact hi
  stop := fun _ _ _ _ _ _ => by rw [rng_len]; exact Nat.le_refl _
  yl := fun g' H h i x H' _ hr _ hi y => by
    rw [rng_len] at hi
    obtain ⟨rfl, rfl⟩ := y
    exact ⟨g', _, Le.refl _, hr, rng_get hi, .int _⟩
def itR1 (am : AM) : IM' := fun env h => (am env h).bind fun us h1 => match us with
  | [.int j] => if -1000000000 ≤ j ∧ j ≤ 1000000000 then .ok ([], rng 0 j.toNat) h1 else .bad
  | _ => .bad
def itR2 (am : AM) : IM' := fun env h => (am env h).bind fun us h1 => match us with
  | [.int i, .int j] => if (-1000000000 ≤ i ∧ i ≤ 1000000000) ∧ (-1000000000 ≤ j ∧ j ≤ 1000000000) then .ok ([], rng i (j - i).toNat) h1 else .bad
  | _ => .bad
theorem si_r1 (hg : Gl X "range") (hm : X.mg "range" = none) (ha : PA X [a] (aM K W am)) (hs : starEach [a] X.env = [(false, eval a X.env)] := by rfl) : PI X tg (.Call (.Name "range" p) [a] [] pos) (iM K W (itR1 am)) :=
  PI.weak (pi_range1 hg hm ha hs) fun σ H Q ⟨g, env, h, hr, er, w⟩ => ⟨g, env, h, hr, er, wAI w fun us h1 v H1 g1 l1 hr1 rv w1 => by
    split at w1
    · split at w1
      · rename_i z
        cases rv with
        | cons r1 r2 =>
          cases r2
          cases r1
          exact ⟨_, rfl, by omega, by omega, w1 _ H1 g1 (Le.refl _) hr1 it_range⟩
      · exact w1.elim
    · exact w1.elim⟩
/-- a list, a tuple, a text -/
def chkOf (x : U) (us : List U) : Chk := match x with
  | .ref n => [(n, us)]
  | _ => []
def itE (a : EM) : IM' := fun env h => (a env h).bind fun x h1 => match x with
  | .str s => .ok ([], s.map fun c => .str [c]) h1
  | x => match sL h1 x with
    | some us => .ok (chkOf x us, us) h1
    | none => .bad
/-- an iterable by its value: a list, a tuple or a text -/
def iAny (K : Fr) (tl : TE) : TI := fun σ H P => tl σ H fun x H1 => (∃ a, x = .ref a ∧ (∃ xs, SqL K H1 a xs) ∧ P (Itl K a) H1) ∨ (∃ a, x = .ref a ∧ (∃ xs, SqT K H1 a xs) ∧ P (Itt K a) H1) ∨ ∃ z, x = .str z ∧ P (Its z) H1
theorem pi_any {l : Expr} {tl : TE} (hl : PE X l tl) : PI X tg l (iAny X.K tl) := by
  refine ⟨fun pins s σ H R I h => ?_⟩
  refine thn (hl.run pins s σ H _ I h) fun v s1 ⟨x, H1, I1, r1, q1⟩ => ?_
  rcases q1 with q1 | q1 | q1
  · obtain ⟨a, e, ⟨xs, hq⟩, q⟩ := q1
    subst e
    cases r1
    obtain ⟨its, rv, p, hz⟩ := I1.list hq
    refine wpAny_pyIter_list p.isList ?_
    refine ⟨s1.heap.objs.size, [s1.heap.objs.size], _, _, H1, rfl, I1.kept (t' := s1.toks) fun b o e => Heap.get?_push_of_some _ e, turn_list a _, ⟨_, Heap.get?_push_size _ rfl, rfl, rfl⟩, fun b hb => ?_, q⟩
    have e : b = s1.heap.objs.size := by simpa using hb
    subst e
    exact I1.fpOk (Nat.le_refl _) (I1.hok.fresh (Nat.le_refl _))
  · obtain ⟨a, e, ⟨xs, hq⟩, q⟩ := q1
    subst e
    cases r1
    obtain ⟨its, rv, p, hz⟩ := I1.tuple hq
    refine wpAny_pyIter_tuple (show s1.heap.IsTuple a its.toArray from p) ?_
    refine ⟨s1.heap.objs.size, [s1.heap.objs.size], _, _, H1, rfl, I1.kept (t' := s1.toks) fun b o e => Heap.get?_push_of_some _ e, turn_tuple a _, ⟨_, Heap.get?_push_size _ rfl, rfl, rfl⟩, fun b hb => ?_, q⟩
    have e : b = s1.heap.objs.size := by simpa using hb
    subst e
    exact I1.fpOk (Nat.le_refl _) (I1.hok.fresh (Nat.le_refl _))
  · obtain ⟨z, ex, q⟩ := q1
    subst ex
    obtain ⟨t, rfl⟩ := r1
    cases ha : z.cps.all (· < 128)
    · exact wpAny_pyIter_wide ha (pi_one (tk := s1.toks) I1 _ (turn_str _ z t "str_iterator" (.inr rfl)) ⟨_, Heap.get?_push_size _ rfl, rfl, rfl⟩ q)
    · exact wpAny_pyIter_ascii ha (pi_one (tk := s1.toks) I1 _ (turn_str _ z t "str_ascii_iterator" (.inl rfl)) ⟨_, Heap.get?_push_size _ rfl, rfl, rfl⟩ q)
theorem it_L {a : Addr} {vs : List V} {us : List U} (q : SqL K g.F a vs) (r : Reps K g vs us) : ItOk K g (Itl K a) [] us where
  go := fun g' H h i l hr _ hi => by
    have hv : i < vs.length := by rw [r.len]; exact hi
    exact ⟨vs, vs[i], hr.sqL (sql_mono l.F q), by simp [hv]⟩
  stop := fun g' H h l hr _ => ⟨vs, hr.sqL (sql_mono l.F q), by rw [r.len]; exact Nat.le_refl _⟩
  yl := fun g' H h i x H' l hr _ hi y => by
    obtain ⟨rfl, y⟩ := y
    have hx := y vs (hr.sqL (sql_mono l.F q))
    obtain ⟨u, hu, ru⟩ := r.getV hx
    exact ⟨g', u, Le.refl _, hr, hu, ru.mono l⟩
theorem it_T {a : Addr} {vs : List V} {us : List U} (q : SqT K g.F a vs) (r : Reps K g vs us) : ItOk K g (Itt K a) [] us where
  go := fun g' H h i l hr _ hi => by
    have hv : i < vs.length := by rw [r.len]; exact hi
    exact ⟨vs, vs[i], hr.sqT (sqt_mono l.F q), by simp [hv]⟩
  stop := fun g' H h l hr _ => ⟨vs, hr.sqT (sqt_mono l.F q), by rw [r.len]; exact Nat.le_refl _⟩
  yl := fun g' H h i x H' l hr _ hi y => by
    obtain ⟨rfl, y⟩ := y
    have hx := y vs (hr.sqT (sqt_mono l.F q))
    obtain ⟨u, hu, ru⟩ := r.getV hx
    exact ⟨g', u, Le.refl _, hr, hu, ru.mono l⟩
theorem it_ref {a : Addr} {n : Nat} {us : List U} (q : g.al[n]? = some a) : ItOk K g (Itl K a) [(n, us)] us where
  go := fun g' H h i l hr ck hi => by
    obtain ⟨vs, h1, h2⟩ := hr.ob n a _ (l.get q) (ck (n, us) (List.mem_singleton.mpr rfl))
    have hv : i < vs.length := by rw [h2.len]; exact hi
    exact ⟨vs, vs[i], .inl (.inl h1), by simp [hv]⟩
  stop := fun g' H h l hr ck => by
    obtain ⟨vs, h1, h2⟩ := hr.ob n a _ (l.get q) (ck (n, us) (List.mem_singleton.mpr rfl))
    exact ⟨vs, .inl (.inl h1), by rw [h2.len]; exact Nat.le_refl _⟩
  yl := fun g' H h i x H' l hr ck hi y => by
    obtain ⟨vs, h1, h2⟩ := hr.ob n a _ (l.get q) (ck (n, us) (List.mem_singleton.mpr rfl))
    obtain ⟨rfl, y⟩ := y
    obtain ⟨u, hu, ru⟩ := h2.getV (y vs (.inl (.inl h1)))
    exact ⟨g', u, Le.refl _, hr, hu, ru⟩
theorem it_str {s : List Nat} : ItOk K g (Its ⟨s.toArray⟩) [] (s.map fun c => .str [c]) where
  go := fun g' H h i l hr _ hi => by simpa [Its] using hi
  stop := fun g' H h l hr _ => by simp [Its]
  yl := fun g' H h i x H' l hr _ hi y => by
    obtain ⟨rfl, c, hc, rfl⟩ := y
    refine ⟨g', .str [c], Le.refl _, hr, ?_, .str [c]⟩
    have hc : s[i]? = some c := by simpa using hc
    simp [hc]
theorem si_e (he : PE X e (tM X.K W me)) : PI X tg e (iM X.K W (itE me)) :=
  PI.weak (pi_any he) fun σ H Q ⟨g, env, h, hr, er, w⟩ => ⟨g, env, h, hr, er, wEI w fun u h1 v H1 g1 l1 hr1 rv w1 => by
    cases rv with
    | str s => exact .inr (.inr ⟨_, rfl, w1 _ H1 g1 (Le.refl _) hr1 it_str⟩)
    | tup q r => exact .inr (.inl ⟨_, rfl, ⟨_, hr1.sqT q⟩, w1 _ H1 g1 (Le.refl _) hr1 (it_T q r)⟩)
    | fl q r => exact .inl ⟨_, rfl, ⟨_, .inl (.inl (hr1.ex _ _ q))⟩, w1 _ H1 g1 (Le.refl _) hr1 (it_L (.inl (.inl q)) r)⟩
    | kl q r => exact .inl ⟨_, rfl, ⟨_, hr1.sqL q⟩, w1 _ H1 g1 (Le.refl _) hr1 (it_L q r)⟩
    | @ref a n q =>
      have w1 : WI X.K (atSl W σ) g1 (match sL h1 (.ref n) with
        | some us => (R.ok (chkOf (.ref n) us, us) h1 : R (Chk × List U))
        | none => .bad) Q := w1
      cases es : sL h1 (.ref n) with
      | none => rw [es] at w1; exact w1.elim
      | some us =>
        rw [es] at w1
        obtain ⟨b, vs, hb, h2, r2⟩ := mL_of hr1 (.ref q) (show mL h1 (.ref n) = _ from es)
        cases hb
        exact .inl ⟨_, rfl, ⟨vs, .inl (.inl h2)⟩, w1 _ H1 g1 (Le.refl _) hr1 (it_ref q)⟩
    | _ => exact w1.elim⟩
/-- pairs of the turn and the item; of two lists -/
def pairs (xs ys : List U) : List U := (xs.zip ys).map fun p => .tup [p.1, p.2]
/-- where a list lies: what it holds as long as it is not touched -/
structure LsOk (K : Fr) (g : G) (a : Addr) (c : Chk) (us : List U) : Prop where
  is : ∀ g' H h, Le g g' → HR K g' H h → chkOk c h → ∃ vs, SqL K H a vs ∧ Reps K g' vs us
structure LzOk (K : Fr) (g : G) (k : QZ.ZK) (a : Addr) (c : Chk) (us : List U) : Prop where
  is : ∀ g' H h, Le g g' → HR K g' H h → chkOk c h → ∃ vs, QZ.SqK k K H a vs ∧ Reps K g' vs us
def itZ (am : AM) : IM' := fun env h => (am env h).bind fun us h1 => match us with
  | [x, y] => (match sL h1 x, sL h1 y with
    | some us, some ts => .ok (chkOf x us ++ chkOf y ts, pairs us ts) h1
    | _, _ => .bad)
  | _ => .bad
def itN (am : AM) : IM' := fun env h => (am env h).bind fun us h1 => match us with
  | [x] => (match aL h1 x with
    | some us => .ok (chkOf x us, pairs (rng 0 us.length) us) h1
    | _ => .bad)
  | _ => .bad
variable {tpos : Pos} {elts : List Expr} {kk : Nat}
end
end Q

set_option Elab.async false
set_option linter.all false
set_option maxRecDepth 100000
set_option maxHeartbeats 1000000
namespace Q
open PySem PySem.Spec PyProof.Rows L2 TL
/-! ### statements -/
def mNx : SM := fun env h => .nx env h
def mSeq (a b : SM) : SM := fun env h => match a env h with
  | .nx e h1 => b e h1
  | r => r
def gCT (c : CT) (u : U) (env : Env') (h : Sto) : RS := match c.asg u env h with
  | some e => .nx e h
  | none => .bad
/-- a statement goes on with what a part gives -/
def R.st {α : Type} (r : R α) (env : Env') (f : α → Sto → RS) : RS := match r with
  | .ok a h => f a h
  | .exc C n h => .ex C n env h
  | .bad => .bad
def mAsg (c : CT) (a : EM) : SM := fun env h => (a env h).st env fun u h1 => gCT c u env h1
def mRet (a : EM) : SM := fun env h => (a env h).st env fun u h1 => .rt u h1
def mRetN : SM := fun _ h => .rt .non h
def mDrop (a : EM) : SM := fun env h => (a env h).st env fun _ h1 => .nx env h1
def mIfS (t : TM) (a b : SM) : SM := fun env h => (t env h).st env fun c h1 => if c = true then a env h1 else b env h1
def mBrk : SM := fun env h => .bk env h
def mCnt : SM := fun env h => .ct env h
section
variable {K : Fr} {g g' : G} {E : XK} {W : WX} {X : Cx} {H : Hp} {h : Sto} {v w : V} {x y : U} {σ : L2.St} {env : Env'} {a b c e o tg : Expr} {es rest : List Expr} {ma mb mc me mo : EM} {ta tb : TM} {pos : Pos} {am : AM} {n : Str} {p : Pos}
  {st : Stmt} {sts : List Stmt} {m m1 m2 : SM}
theorem ss_nil : PSs X [] (sM K W mNx) := PSs.weak pss_nil fun D σ H ⟨g, env, h, hr, er, w⟩ => w σ H g (Le.refl _) hr er
theorem ss_cons (h1 : PS X st (sM K W m1)) (h2 : PSs X sts (sM K W m2)) : PSs X (st :: sts) (sM K W (mSeq m1 m2)) :=
  PSs.weak (pss_cons h1 h2) fun D σ H ⟨g, env, h, hr, er, w⟩ => ⟨g, env, h, hr, er, by
    unfold mSeq at w
    cases e1 : m1 env h with
    | nx e h1 =>
      rw [e1] at w
      exact fun σ1 H1 g1 l1 hr1 er1 => ⟨g1, e, h1, hr1, er1, WS.mono l1 w⟩
    | rt u h1 => rw [e1] at w; exact w
    | bk e h1 => rw [e1] at w; exact w
    | ct e h1 => rw [e1] at w; exact w
    | ex C n e h => rw [e1] at w; exact w
    | bad => rw [e1] at w; exact w⟩
theorem ss_one (h1 : PS X st (sM K W m)) : PSs X [st] (sM K W m) := pss_one h1
theorem wAsg {r : R U} {f : U → Sto → RS} {D : Ends} {P : VK} (er : ER K g σ env) (t : WS K W g (r.st env f) D) (k : ∀ u h v H g', Le g g' → HR K g' H h → Rep K g' v u → WS K W g' (f u h) D → P v H) : WE K (atSl W σ) g r P := by
  cases r with
  | bad => exact t
  | exc C n h => exact fun H g' d l hr q => t σ H g' d l hr (er.mono l) q
  | ok u h => exact fun v H g' l hr rv => k u h v H g' l hr rv (WS.mono l t)
theorem wTst {r : R Bool} {f : Bool → Sto → RS} {D : Ends} {P : Bool → Hp → Prop} (er : ER K g σ env) (t : WS K W g (r.st env f) D) (k : ∀ u h H g', Le g g' → HR K g' H h → WS K W g' (f u h) D → P u H) : WT K (atSl W σ) g r P := by
  cases r with
  | bad => exact t
  | exc C n h => exact fun H g' d l hr q => t σ H g' d l hr (er.mono l) q
  | ok u h => exact fun H g' l hr => k u h H g' l hr (WS.mono l t)
theorem gct_to {ct : CT} {D : Ends} {u : U} (hr : HR K g H h) (er : ER K g σ env) (rv : Rep K g v u) (w : WS K W g (gCT ct u env h) D) : ct.rd K v σ H D.nx := by
  unfold gCT at w
  cases e : ct.asg u env h with
  | none => rw [e] at w; exact w.elim
  | some env' =>
    rw [e] at w
    exact ct_to hr er rv e fun σ' er' _ => w σ' H g (Le.refl _) hr er'
theorem asg_to {ct : CT} {D : Ends} (q : sM K W (mAsg ct ma) D σ H) : tAsg (tM K W ma) (ct.rd K) D σ H := by
  obtain ⟨g, env, h, hr, er, w⟩ := q
  exact ⟨g, env, h, hr, er, wAsg er w fun u h1 v H1 g1 l1 hr1 rv w1 => gct_to hr1 (er.mono l1) rv w1⟩
theorem ss_set {i : Nat} {x : Str} {pos' : Pos} (hN : X.N.Nodup) (hi : X.N[i]? = some x) (hx : L2.Loc X.env.scope x) (he : PE X e (tM K W me)) (hs : swapsWith e (some (.Name x pos')) pos.line X.env = pure false := by rfl)
    (hf : X.fn x = true ∨ X.env.scope.names.lookup x = some .local := by first | exact .inl rfl | exact .inr rfl | assumption) : PS X (.Assign [.Name x pos'] e pos) (sM K W (mAsg (.one i) me)) :=
  PS.weak (ps_set hN hi hx he hs hf) fun D σ H q => asg_to q
theorem ss_ret (he : PE X e (tM K W me)) : PS X (.Return (some e) pos) (sM K W (mRet me)) :=
  PS.weak (ps_ret he) fun D σ H ⟨g, env, h, hr, er, w⟩ => ⟨g, env, h, hr, er, wAsg er w fun u h1 v H1 g1 l1 hr1 rv w1 => w1 v H1 g1 (Le.refl _) hr1 rv⟩
theorem ss_expr (he : PE X e (tM K W me)) (hs : swapsWith e none pos.line X.env = pure false := by rfl) : PS X (.Expr e pos) (sM K W (mDrop me)) :=
  PS.weak (ps_expr he hs) fun D σ H ⟨g, env, h, hr, er, w⟩ => ⟨g, env, h, hr, er, wAsg er w fun u h1 v H1 g1 l1 hr1 rv w1 => w1 σ H1 g1 (Le.refl _) hr1 (er.mono l1)⟩
theorem ss_if {sa sb : List Stmt} (hc : PT X c (bM K W ta)) (ha : PSs X sa (sM K W m1)) (hb : PSs X sb (sM K W m2)) : PS X (.If c sa sb pos) (sM K W (mIfS ta m1 m2)) :=
  PS.weak (ps_if hc ha hb) fun D σ H ⟨g, env, h, hr, er, w⟩ => ⟨g, env, h, hr, er, wTst er w fun k h1 H1 g1 l1 hr1 w1 => by
      cases k with
      | true => exact ⟨g1, env, h1, hr1, er.mono l1, w1⟩
      | false => exact ⟨g1, env, h1, hr1, er.mono l1, w1⟩⟩
/-! ### for -/
open Classical in
noncomputable def forL (c : Chk) (ct : CT) (mb : SM) : List U → Env' → Sto → RS
  | [], env, h => if chkOk c h then .nx env h else .bad
  | u :: us, env, h => if chkOk c h then (match ct.asg u env h with
      | some env1 => (match mb env1 h with
        | .nx e h1 => forL c ct mb us e h1
        | .ct e h1 => forL c ct mb us e h1
        | .bk e h1 => .nx e h1
        | r => r)
      | none => .bad) else .bad
noncomputable def mFor (mi : IM') (ct : CT) (mb : SM) : SM := fun env h => (mi env h).st env fun z h1 => forL z.1 ct mb z.2 env h1
theorem for_to {J : It} {c : Chk} {us : List U} {ct : CT} {mb : SM} {tb' : TS} {D : Ends} (hb : ∀ D σ H, sM K W mb D σ H → tb' D σ H) (hr : HR K g H h) (er : ER K g σ env) (ok : ItOk K g J c us) (w : WS K W g (forL c ct mb us env h) D) :
    ∃ W : Nat → Nat → L2.St → Hp → Prop, (∃ m, W 0 m σ H) ∧ ∀ i m σ H, W i m σ H →
      (J.stop i H ∧ D.nx σ H) ∨ (J.go i H ∧ ∃ N : L2.St → Hp → Prop, (∀ σ' H', N σ' H' → ∃ m', m' < m ∧ W (i + 1) m' σ' H') ∧ ∀ x H', J.yld i H x H' → ct.rd K x σ H' fun σ2 H2 => tb' { D with nx := N, ct := N, bk := D.nx } σ2 H2) := by
  refine ⟨fun i m σ H => m = us.length - i ∧ i ≤ us.length ∧ ∃ g' env h, Le g g' ∧ HR K g' H h ∧ ER K g' σ env ∧ WS K W g' (forL c ct mb (us.drop i) env h) D, ⟨us.length, by simp, Nat.zero_le _, g, env, h, Le.refl _, hr, er, w⟩, ?_⟩
  rintro i m σ H ⟨rfl, hi, g', env, h, l, hr, er, w⟩
  by_cases hlt : i < us.length
  · rw [List.drop_eq_getElem_cons hlt] at w
    unfold forL at w
    split at w
    · rename_i ck
      refine .inr ⟨ok.go g' H h i l hr ck hlt, fun σ' H' => i + 1 ≤ us.length ∧ ∃ g2 env h, Le g g2 ∧ HR K g2 H' h ∧ ER K g2 σ' env ∧ WS K W g2 (forL c ct mb (us.drop (i + 1)) env h) D, fun σ' H' q => ⟨us.length - (i + 1), by omega, rfl, q⟩, fun x H' y => ?_⟩
      obtain ⟨g2, u, l2, hr2, hu, ru⟩ := ok.yl g' H h i x H' l hr ck hlt y
      have eu : us[i] = u := by
        rw [List.getElem?_eq_getElem hlt] at hu
        exact Option.some.inj hu
      rw [eu] at w
      cases ea : ct.asg u env h with
      | none => rw [ea] at w; exact w.elim
      | some env1 =>
        rw [ea] at w
        refine ct_to hr2 (er.mono l2) ru ea fun σ2 er2 _ => hb _ _ _ ⟨g2, env1, h, hr2, er2, ?_⟩
        have w := WS.mono l2 w
        simp only at w
        cases eb : mb env1 h with
        | bad => rw [eb] at w; exact w
        | ex C n e h => rw [eb] at w; exact w
        | rt u h1 => rw [eb] at w; exact w
        | bk e h1 => rw [eb] at w; exact w
        | nx e h1 => rw [eb] at w; exact fun σ3 H3 g3 l3 hr3 er3 => ⟨hlt, g3, e, h1, (l.trans l2).trans l3, hr3, er3, WS.mono l3 w⟩
        | ct e h1 => rw [eb] at w; exact fun σ3 H3 g3 l3 hr3 er3 => ⟨hlt, g3, e, h1, (l.trans l2).trans l3, hr3, er3, WS.mono l3 w⟩
    · exact w.elim
  · have e : i = us.length := by omega
    subst e
    rw [List.drop_length] at w
    unfold forL at w
    split at w
    · rename_i ck
      exact .inl ⟨ok.stop g' H h l hr ck, w σ H g' (Le.refl _) hr er⟩
    · exact w.elim
variable {mi : IM'} {ct : CT} {iter : Expr} {body : List Stmt} {mbs : SM}
theorem ss_for (hp : PassesOwn (model X.prog X.w) X.A X.env X.xe) (hc : X.calm = true) (hi : PI X tg iter (iM X.K W mi)) (hg : PG X tg (ct.rd X.K)) (hb : PSs X body (sM X.K W mbs)) (hs : ∀ x, foldedSetIterable iter X.env x = pure x := by intro _; rfl) :
    PS X (.For tg iter body [] pos) (sM X.K W (mFor mi ct mbs)) :=
  PS.weak (ps_for hp hc hi hg hb hs) fun D σ H ⟨g, env, h, hr, er, w⟩ => ⟨g, env, h, hr, er, by
    unfold mFor at w
    cases e : mi env h with
    | bad => rw [e] at w; exact w
    | exc C n h => rw [e] at w; exact fun H g' d l hr q => w σ H g' d l hr (er.mono l) q
    | ok z h1 =>
      obtain ⟨c, us⟩ := z
      rw [e] at w
      exact fun J H1 g1 l1 hr1 ok => for_to (fun _ _ _ q => q) hr1 (er.mono l1) ok (WS.mono l1 w)⟩
theorem pg_one {i : Nat} {x : Str} (hN : X.N.Nodup) (hi : X.N[i]? = some x) (hx : L2.Loc X.env.scope x) (hf : X.fn x = true ∨ X.env.scope.names.lookup x = some .local := by first | exact .inl rfl | exact .inr rfl | assumption) : PG X (.Name x pos) ((CT.one i).rd K) := pg_name hN hi hx hf
theorem pg_tupA {is : List Nat} {elts : List Expr} {kk : Nat} (hc : X.calm = true) (hg : PGs X elts (gAll is)) (hn : (assignEach elts X.env).length = is.length := by rfl) (hst : (assignEach elts X.env).findIdx? (·.1) = none := by rfl) : PG X (.Tuple elts kk pos) ((CT.tup is).rd X.K) := pg_tup hc hg hn hst
theorem pgs_n : PGs X [] (gAll []) := pgs_nil
theorem pgs_c {i : Nat} {x : Str} {is : List Nat} {es : List Expr} (hN : X.N.Nodup) (hi : X.N[i]? = some x) (hx : L2.Loc X.env.scope x) (h2 : PGs X es (gAll is)) (hf : X.fn x = true ∨ X.env.scope.names.lookup x = some .local := by first | exact .inl rfl | exact .inr rfl | assumption)
    (hs : (assignEach (.Name x pos :: es) X.env).map (·.2) = assign (.Name x pos) X.env :: (assignEach es X.env).map (·.2) := by rfl) : PGs X (.Name x pos :: es) (gAll (i :: is)) := pgs_cons (pg_name hN hi hx hf) h2 hs
/-! ### while -/
def whL (t : TM) (mb : SM) : Nat → Env' → Sto → RS
  | 0, _, _ => .bad
  | n + 1, env, h => (t env h).st env fun c h1 => if c = true then (match mb env h1 with
      | .nx e h2 => whL t mb n e h2
      | .ct e h2 => whL t mb n e h2
      | .bk e h2 => .nx e h2
      | r => r) else .nx env h1
def mWhile (n : Nat) (t : TM) (mb : SM) : SM := fun env h => whL t mb n env h
theorem ss_while {n : Nat} (hp : PassesOwn (model X.prog X.w) X.A X.env X.xe) (hc : PT X c (bM K W ta)) (hb : PSs X body (sM K W mbs)) : PS X (.While c body [] pos) (sM K W (mWhile n ta mbs)) :=
  PS.weak (ps_while hp hc hb) fun D σ H ⟨g, env, h, hr, er, w⟩ => by
    refine ⟨fun m σ H => ∃ g env h, HR K g H h ∧ ER K g σ env ∧ WS K W g (whL ta mbs m env h) D, ⟨n, g, env, h, hr, er, w⟩, ?_⟩
    rintro m σ H ⟨g, env, h, hr, er, w⟩
    cases m with
    | zero => exact w.elim
    | succ m =>
      unfold whL at w
      refine ⟨g, env, h, hr, er, wTst er w fun k h1 H1 g1 l1 hr1 w => ?_⟩
      · cases k with
        | false => exact w σ H1 g1 (Le.refl _) hr1 (er.mono l1)
        | true =>
          refine ⟨fun σ' H' => ∃ g env h, HR K g H' h ∧ ER K g σ' env ∧ WS K W g (whL ta mbs m env h) D, fun σ' H' q => ⟨m, Nat.lt_succ_self m, q⟩, g1, env, h1, hr1, er.mono l1, ?_⟩
          have w : WS K W g1 (match mbs env h1 with
            | .nx e h2 => whL ta mbs m e h2
            | .ct e h2 => whL ta mbs m e h2
            | .bk e h2 => .nx e h2
            | r => r) D := w
          cases eb : mbs env h1 with
          | bad => rw [eb] at w; exact w
          | ex C n e h => rw [eb] at w; exact w
          | rt u h1 => rw [eb] at w; exact w
          | bk e h1 => rw [eb] at w; exact w
          | nx e h1 => rw [eb] at w; exact fun σ3 H3 g3 l3 hr3 er3 => ⟨g3, e, h1, hr3, er3, WS.mono l3 w⟩
          | ct e h1 => rw [eb] at w; exact fun σ3 H3 g3 l3 hr3 er3 => ⟨g3, e, h1, hr3, er3, WS.mono l3 w⟩
/-! ### comprehensions -/
/-- nothing may be raised here -/
def R.no {α : Type} (r : R α) : R α := match r with
  | .ok a h => .ok a h
  | _ => .bad
abbrev W0 : WX := fun _ _ _ _ => False
open Classical in
noncomputable def lcL (c : Chk) (ct : CT) (t : TM) (me : EM) (n : Nat) (env : Env') : List U → Sto → R U
  | [], h => if chkOk c h then .ok (.ref n) h else .bad
  | u :: us, h => if chkOk c h then (match ct.asg u env h with
      | some env1 => (t env1 h).no.bind fun b h1 => if b = true then (me env1 h1).no.bind fun y h2 => (match h2[n]? with
          | some (.lst acc) => if acc.length < 16000000 then lcL c ct t me n env us (h2.set n (.lst (acc ++ [y]))) else .bad
          | _ => .bad) else lcL c ct t me n env us h1
      | none => .bad) else .bad
noncomputable def mLc (mi : IM') (ct : CT) (t : TM) (me : EM) (vs : List Nat) : EM := fun env h => (mi env h).bind fun z h1 => lcL z.1 ct t me h1.length (wipeE env vs) z.2 (h1 ++ [.lst []])
def bYes : TM := fun _ h => .ok true h
theorem wTno {r : R Bool} {f : Bool → Sto → R U} {Q : VK} {E' : XK} {P : Bool → Hp → Prop} (t : WE K E g (r.no.bind f) Q) (k : ∀ u h H g', Le g g' → HR K g' H h → WE K E g' (f u h) Q → P u H) : WT K E' g r P := by
  cases r with
  | bad => exact t
  | exc C n h => exact t.elim
  | ok u h => exact fun H g' l hr => k u h H g' l hr (WE.mono l t)
theorem wEno {r : R U} {f : U → Sto → R U} {Q P : VK} {E' : XK} (t : WE K E g (r.no.bind f) Q) (k : ∀ u h v H g', Le g g' → HR K g' H h → Rep K g' v u → WE K E g' (f u h) Q → P v H) : WE K E' g r P := by
  cases r with
  | bad => exact t
  | exc C n h => exact t.elim
  | ok u h => exact fun v H g' l hr rv => k u h v H g' l hr rv (WE.mono l t)
theorem lc_to {J : It} {c : Chk} {us : List U} {Q : VK} {vs : List Nat} {tt : TT} {te : TE} {H1 : Hp} {h1 : Sto} {env : Env'} {D : Addr} (hct : ∀ i ∈ ct.ix, i ∈ vs) (ht : ∀ σ H Q, bM K W0 ta σ H Q → tt σ H Q) (he : ∀ σ H Q, tM K W0 me σ H Q → te σ H Q)
    (hr : HR K g H1 h1) (er : ER K g σ env) (ok : ItOk K g J c us) (hD : H1 D = none) (w : WE K E g (lcL c ct ta me h1.length (wipeE env vs) us (h1 ++ [.lst []])) Q) :
    ∃ W : Nat → Nat → Hp → Prop, (∃ m, W 0 m (upd H1 D (.lst []))) ∧ ∀ i m H, W i m H →
      (J.stop i H ∧ Q (.ref D) H) ∨ (J.go i H ∧ ∃ Nx : Hp → Prop, (∀ H', Nx H' → ∃ m', m' < m ∧ W (i + 1) m' H') ∧ ∀ x H', J.yld i H x H' → ct.rd K x (wipe σ vs) H' fun σ2 H2 => wipe σ2 vs = wipe σ vs ∧ tt σ2 H2 fun b H3 =>
        if b = true then te σ2 H3 fun y H4 => ∃ acc, H4 D = some (.lst acc) ∧ acc.length < sizeLine ∧ Nx (upd H4 D (.lst (acc ++ [y]))) else Nx H3) := by
  have hDn : (g.new D).al[h1.length]? = some D := by
    show (g.al ++ [D])[h1.length]? = _
    rw [← hr.len]; simp
  have hr0 : HR K (g.new D) (upd H1 D (.lst [])) (h1 ++ [.lst []]) := hr.newLst hD .nil
  refine ⟨fun i m H => m = us.length - i ∧ i ≤ us.length ∧ ∃ g' h, Le (g.new D) g' ∧ HR K g' H h ∧ WE K E g' (lcL c ct ta me h1.length (wipeE env vs) (us.drop i) h) Q, ⟨us.length, by simp, Nat.zero_le _, g.new D, _, Le.refl _, hr0, WE.mono Le.new w⟩, ?_⟩
  rintro i m H ⟨rfl, hi, g', h, l, hr, w⟩
  have l0 : Le g g' := Le.new.trans l
  have hn' : g'.al[h1.length]? = some D := l.get hDn
  by_cases hlt : i < us.length
  · rw [List.drop_eq_getElem_cons hlt] at w
    unfold lcL at w
    split at w
    · rename_i ck
      refine .inr ⟨ok.go g' H h i l0 hr ck hlt, fun H' => i + 1 ≤ us.length ∧ ∃ g2 h, Le (g.new D) g2 ∧ HR K g2 H' h ∧ WE K E g2 (lcL c ct ta me h1.length (wipeE env vs) (us.drop (i + 1)) h) Q, fun H' q => ⟨us.length - (i + 1), by omega, rfl, q⟩, fun x H' y => ?_⟩
      obtain ⟨g2, u, l2, hr2, hu, ru⟩ := ok.yl g' H h i x H' l0 hr ck hlt y
      have eu : us[i] = u := by
        rw [List.getElem?_eq_getElem hlt] at hu
        exact Option.some.inj hu
      rw [eu] at w
      cases ea : ct.asg u (wipeE env vs) h with
      | none => rw [ea] at w; exact w.elim
      | some env1 =>
        rw [ea] at w
        have w : WE K E g' ((ta env1 h).no.bind _) Q := w
        refine ct_to hr2 ((er.wipe vs).mono (l0.trans l2)) ru ea fun σ2 er2 hw => ⟨by rw [hw vs hct, wipe_wipe], ht _ _ _ ⟨g2, env1, h, hr2, er2, ?_⟩⟩
        refine wTno (WE.mono l2 w) fun b h2 H2 g3 l3 hr3 w3 => ?_
        have er3 := er2.mono l3
        cases b with
        | false => exact ⟨hlt, g3, h2, (l.trans l2).trans l3, hr3, w3⟩
        | true =>
          have w3 : WE K E g3 ((me env1 h2).no.bind _) Q := w3
          refine he _ _ _ ⟨g3, env1, h2, hr3, er3, wEno w3 fun y h3 vy H3 g4 l4 hr4 ry w4 => ?_⟩
          have hn4 : g4.al[h1.length]? = some D := ((l2.trans l3).trans l4).get hn'
          split at w4
          · rename_i acc e4
            split at w4
            · rename_i z
              obtain ⟨vacc, h5, r5⟩ := hr4.ob _ _ _ hn4 e4
              exact ⟨vacc, h5, by rw [r5.len]; exact sz16l z, hlt, g4, _, ((l.trans l2).trans l3).trans l4, hr4.setLst hn4 h5 (r5.app (.one ry)), w4⟩
            · exact w4.elim
          · exact w4.elim
    · exact w.elim
  · have e : i = us.length := by omega
    subst e
    rw [List.drop_length] at w
    unfold lcL at w
    split at w
    · rename_i ck
      exact .inl ⟨ok.stop g' H h l0 hr ck, w (.ref D) H g' (Le.refl _) hr (.ref hn')⟩
    · exact w.elim
theorem lcM_to {vs : List Nat} {tt : TT} {te : TE} {Q : VK} (hct : ∀ i ∈ ct.ix, i ∈ vs) (ht : ∀ σ H Q, bM K W0 ta σ H Q → tt σ H Q) (he : ∀ σ H Q, tM K W0 me σ H Q → te σ H Q) (q : tM K W (mLc mi ct ta me vs) σ H Q) : tLc (iM K W mi) (ct.rd K) tt te vs σ H Q := by
  obtain ⟨g, env, h, hr, er, w⟩ := q
  refine ⟨g, env, h, hr, er, ?_⟩
  unfold mLc at w
  cases e : mi env h with
  | bad => rw [e] at w; exact w
  | exc C n h => rw [e] at w; exact w
  | ok z h1 =>
    obtain ⟨c, us⟩ := z
    rw [e] at w
    have w : WE K (atSl W σ) g (lcL c ct ta me h1.length (wipeE env vs) us (h1 ++ [.lst []])) Q := w
    exact fun J H1 g1 l1 hr1 ok D hD => lc_to hct ht he hr1 (er.mono l1) ok hD (WE.mono l1 w)
abbrev Blk (X : Cx) (scope : Scope) (P : Cx → Prop) : Prop := ∀ (s : Shared) (H : Hp) (C : Addr) (cl : List (Str × Addr)) (fp : List Addr), P (X.blk s H scope (compEnvC scope cl C X.env) fp)
theorem pts_y {X : Cx} : PTs X [] (bM K W bYes) := ⟨fun pins s σ H Q I ⟨g, env, h, hr, er, w⟩ => pts_nil.run pins s σ H Q I (w H g (Le.refl _) hr)⟩
theorem pts_1 {X : Cx} (h : PT X c (bM K W ta)) : PTs X [c] (bM K W ta) := pts_one h
variable {elt : Expr} {ifs : List Expr} {scope : Scope} {own : List (Str × Nat)}
theorem se_lc {vs : List Nat} (hc : X.calm = true) (hN : X.N.Nodup) (hi : PI X tg iter (iM X.K W mi)) (ok : BlkOk X.N X.env.scope scope own) (hv : own.map (·.2) = vs) (hct : ∀ i ∈ ct.ix, i ∈ vs)
    (hg : Blk X scope fun Y => PG Y tg (ct.rd X.K)) (ht : Blk X scope fun Y => PTs Y ifs (bM X.K W0 ta)) (he : Blk X scope fun Y => PE Y elt (tM X.K W0 me)) (hs : ∀ x, foldedSetIterable iter X.env x = pure x := by intro _; rfl) :
    PE X (.ListComp elt [⟨tg, iter, ifs, 0⟩] scope pos) (tM X.K W (mLc mi ct ta me vs)) := by
  subst hv
  exact PE.weak (pe_lc hc hN hi ok hg ht he hs) fun σ H Q q => lcM_to hct (fun _ _ _ z => z) (fun _ _ _ z => z) q
theorem ss_setLc {i : Nat} {y : Str} {py spos : Pos} {vs : List Nat} (hc : X.calm = true) (hN : X.N.Nodup) (hy : X.N[i]? = some y) (hyl : X.env.scope.names.lookup y = some .local) (hsw : swapsWith (.ListComp elt [⟨tg, iter, ifs, 0⟩] scope pos) (some (.Name y py)) spos.line X.env = pure true)
    (hi : PI X tg iter (iM X.K W mi)) (ok : BlkOk X.N X.env.scope scope own) (hv : own.map (·.2) = vs) (hct : ∀ i ∈ ct.ix, i ∈ vs)
    (hg : Blk X scope fun Y => PG Y tg (ct.rd X.K)) (ht : Blk X scope fun Y => PTs Y ifs (bM X.K W0 ta)) (he : Blk X scope fun Y => PE Y elt (tM X.K W0 me)) (hs : ∀ x, foldedSetIterable iter X.env x = pure x := by intro _; rfl) :
    PS X (.Assign [.Name y py] (.ListComp elt [⟨tg, iter, ifs, 0⟩] scope pos) spos) (sM X.K W (mAsg (.one i) (mLc mi ct ta me vs))) := by
  subst hv
  exact PS.weak (L2.ps_setLc hc hN hy hyl hsw hi ok hg ht he hs) fun D σ H ⟨g, env, h, hr, er, w⟩ => by
    have q : tM X.K W (mLc mi ct ta me (own.map (·.2))) σ H fun x H1 => gName i x σ H1 D.nx := ⟨g, env, h, hr, er, wAsg er w fun u h1 v H1 g1 l1 hr1 rv w1 => gct_to (ct := .one i) (K := X.K) hr1 (er.mono l1) rv w1⟩
    exact lcM_to hct (fun _ _ _ z => z) (fun _ _ _ z => z) q
/-! ### stores into lists, += -/
def uSetL (x y z : U) (h : Sto) : Option Sto := match x, y with
  | .ref n, .int k => (match h[n]? with
    | some (.lst us) => (ixN us.length k).map fun j => h.set n (.lst (us.set j z))
    | _ => none)
  | _, _ => none
/-- o[i] = e of a list -/
def mSetI (f : U → U → U → Sto → Option Sto) (o i e : EM) : SM := fun env h => (e env h).st env fun z h1 => (o env h1).st env fun x h2 => (i env h2).st env fun y h3 => match f x y z h3 with
  | some h4 => .nx env h4
  | none => .bad
def SetOK (K : Fr) (r : TSet) (f : U → U → U → Sto → Option Sto) : Prop := ∀ g H h vx vy vz x y z h' Q, HR K g H h → Rep K g vx x → Rep K g vy y → Rep K g vz z → f x y z h = some h' → (∀ H', HR K g H' h' → Q H') → r vx vy vz H Q
theorem seti_to {r : TSet} {f : U → U → U → Sto → Option Sto} {D : Ends} (ok : SetOK K r f) (q : sM K W (mSetI f mo ma me) D σ H) : tAsg (tM K W me) (gSub (tM K W mo) (tM K W ma) r) D σ H := by
  obtain ⟨g, env, h, hr, er, w⟩ := q
  refine ⟨g, env, h, hr, er, wAsg er w fun z h1 vz H1 g1 l1 hr1 rz w1 => ⟨g1, env, h1, hr1, er.mono l1, wAsg (er.mono l1) w1 fun x h2 vx H2 g2 l2 hr2 rx w2 => ⟨g2, env, h2, hr2, er.mono (l1.trans l2), wAsg (er.mono (l1.trans l2)) w2 fun y h3 vy H3 g3 l3 hr3 ry w3 => ?_⟩⟩⟩
  cases e : f x y z h3 with
  | none => rw [e] at w3; exact w3.elim
  | some h4 =>
    rw [e] at w3
    exact ok g3 H3 h3 vx vy vz x y z h4 _ hr3 (rx.mono l3) ry (rz.mono (l2.trans l3)) e fun H4 hr4 => w3 σ H4 g3 (Le.refl _) hr4 (er.mono ((l1.trans l2).trans l3))
variable {i : Expr} {ix : EM} {tpos : Pos}
/-- x += e at a name -/
def uIAdd (x y : U) (h : Sto) : R U := match x, y with
  | .int i, .int j => .ok (.int (i + j)) h
  | .str s, .str t => if s.length + t.length ≤ 16000000 then .ok (.str (s ++ t)) h else .bad
  | _, _ => .bad
abbrev rIAdd : R2 := fun x y H Q => (∃ i j, x = V.int i ∧ y = V.int j ∧ Q (.int (i + j)) H) ∨ (∃ i j, x = V.str i ∧ y = V.str j ∧ i.length + j.length ≤ sizeLine ∧ Q (.str (i ++ j)) H)
abbrev uISub := uI cT (fun i j => i - j)
def mAug (f : U → U → Sto → R U) (i : Nat) (e : EM) : SM := fun env h => match env[i]? with
  | some (some x) => (e env h).st env fun y h1 => (f x y h1).st env fun z h2 => .nx (env.set i (some z)) h2
  | _ => .bad
def uIxL (x y : U) (h : Sto) : R U := match x, y with
  | .ref n, .int i => (match h[n]? with
    | some (.lst us) => oR (atI us i) h
    | _ => .bad)
  | _, _ => .bad
def mAugI (gt : U → U → Sto → R U) (f : U → U → Sto → R U) (st : U → U → U → Sto → Option Sto) (o i e : EM) : SM := fun env h => (o env h).st env fun x h1 => (i env h1).st env fun y h2 => (gt x y h2).st env fun z h3 => (e env h3).st env fun u h4 => (f z u h4).st env fun q h5 => match st x y q h5 with
  | some h6 => .nx env h6
  | none => .bad
end
end Q

set_option Elab.async false
set_option linter.all false
set_option maxRecDepth 100000
set_option maxHeartbeats 1000000
namespace Q
open PySem PySem.Spec PyProof.Rows L2 TL
/-! ### calls of the text's defs -/
abbrev Sem' := List U → Sto → R U
def spM (K : Fr) (n : Nat) (sem : Sem') : Sp := fun vs H Q E => vs.length = n ∧ ∃ g us h, HR K g H h ∧ Reps K g vs us ∧ WE K E g (sem us h) Q
def fnM (n : Nat) (body : SM) : Sem' := fun us h => match body (us.map some ++ List.replicate (n - us.length) none) h with
  | .nx _ h' => .ok .non h'
  | .rt u h' => .ok u h'
  | .ex C n _ h' => .exc C n h'
  | _ => .bad
theorem er_start {K : Fr} {g : G} {N : List Str} : ∀ {vs : List V} {us : List U}, Reps K g vs us → ER K g (L2.start N vs) (us.map some ++ List.replicate (N.length - us.length) none) := by
  intro vs us r
  refine ⟨by simp [L2.start, r.len], fun i u e => ?_⟩
  by_cases hi : i < us.length
  · rw [List.getElem?_append_left (by simpa using hi)] at e
    rw [List.getElem?_map] at e
    cases eu : us[i]? with
    | none => rw [eu] at e; cases e
    | some w =>
      rw [eu] at e
      cases e
      obtain ⟨v, hv, rv⟩ := r.get eu
      refine ⟨v, ?_, rv⟩
      unfold L2.start
      rw [List.getElem?_append_left (by rw [List.length_map, r.len]; exact hi), List.getElem?_map, hv]
      rfl
  · rw [List.getElem?_append_right (by simpa using Nat.le_of_not_lt hi)] at e
    have := List.getElem?_replicate (a := (none : Option U)) (n := N.length - us.length) (i := i - (us.map some).length)
    rw [this] at e
    split at e <;> cases e
section
/-- a def's wish of what it raises -/
abbrev WR (E : XK) : WX := fun c d _ H => E c d H
variable {P : Program} {Wd : World} {K : Fr} {mg : Str → Option Value} {base : Heap}
theorem fn_ok {x qual : Str} {st : Stmt} {f : Addr} {fd : FuncData} {N ps : List Str} {k : Nat} {body : SM} (F : Fun K x qual st f fd) (S : FnScope N ps (defScope st))
    (hb : ∀ (cdv : Value) (A : Around) (outer : List Env) (s : Shared) (H : Hp) (E : XK), Room k (A.deeper (envOfC qual (defScope st) s.heap.objs.size f cdv)) →
      Takes (cxOf (L2.CX P Wd) P Wd K mg base N qual (defScope st) f cdv A outer s H E) (WR E) →
      PassesOwn (model P Wd) (cxOf (L2.CX P Wd) P Wd K mg base N qual (defScope st) f cdv A outer s H E).A (cxOf (L2.CX P Wd) P Wd K mg base N qual (defScope st) f cdv A outer s H E).env (cxOf (L2.CX P Wd) P Wd K mg base N qual (defScope st) f cdv A outer s H E).xe →
      PSs (cxOf (L2.CX P Wd) P Wd K mg base N qual (defScope st) f cdv A outer s H E) (defBody st) (sM K (WR E) body)) : FnOk P Wd K mg base (L2.CX P Wd) (k + 1) f fd ps (spM K ps.length (fnM N.length body)) := by
  refine F.okX S (fun vs H Q E h => h.1) (fun cdv A outer s H vs Q E hr h => ⟨_, hb cdv A outer s H E hr (takes_of rfl rfl rfl rfl) (passes_of rfl), ?_⟩)
  obtain ⟨hl, g, us, h0, hr0, rv, w⟩ := h
  refine ⟨g, us.map some ++ List.replicate (N.length - us.length) none, h0, hr0, er_start rv, ?_⟩
  unfold fnM at w
  cases e : body (us.map some ++ List.replicate (N.length - us.length) none) h0 with
  | nx e1 h1 => rw [e] at w; exact fun σ H1 g1 l1 hr1 _ => w .non H1 g1 l1 hr1 .non
  | rt u h1 => rw [e] at w; exact w
  | bk e1 h1 => rw [e] at w; exact w.elim
  | ct e1 h1 => rw [e] at w; exact w.elim
  | ex C n e1 h1 => rw [e] at w; exact fun σ H1 g1 d l1 hr1 _ q => w H1 g1 d l1 hr1 q
  | bad => rw [e] at w; exact w.elim
/-- nothing is said -/
theorem fn_bad {f : Addr} {fd : FuncData} {ps : List Str} {k n : Nat} (h : ps.length = n) : FnOk P Wd K mg base (L2.CX P Wd) k f fd ps (spM K n fun _ _ => .bad) :=
  ⟨fun vs H Q E q => q.1.trans h.symm, fun A outer s H args us vs Q E hr e0 hb rv q => by
    obtain ⟨_, g, us, h, _, _, w⟩ := q
    exact w.elim⟩
end
section
variable {K : Fr} {g g' : G} {E : XK} {W : WX} {X : Cx} {H : Hp} {h : Sto} {v w : V} {x y : U} {σ : L2.St} {env : Env'} {a b c e o tg : Expr} {es rest : List Expr} {ma mb mc me mo : EM} {ta tb : TM} {pos : Pos} {am : AM} {n : Str} {p : Pos}
def mCall (n : Nat) (sem : Sem') (am : AM) : EM := fun env h => (am env h).bind fun us h1 => if us.length = n then sem us h1 else .bad
variable {sem : Sem'} {f : Addr} {fd : FuncData} {ps : List Str} {k m : Nat}
theorem call_to {Q : VK} (q : tM K W (mCall m sem am) σ H Q) : tCallS (spM K m sem) (fun σ => atSl W σ) (aM K W am) σ H Q := by
  obtain ⟨g, env, h, hr, er, w⟩ := q
  refine ⟨g, env, h, hr, er, wA w fun us h1 vs H1 g1 l1 hr1 rv w1 => ?_⟩
  split at w1
  · rename_i z
    exact ⟨by rw [rv.len]; exact z, g1, us, h1, hr1, rv, w1⟩
  · exact w1.elim
theorem se_call (tk : Takes X W) (F : FnOk X.prog X.w X.K X.mg X.base (L2.CX X.prog X.w) k f fd ps (spM X.K m sem)) (hr : Room k X.A) (hg : Gl X n) (hm : X.mg n = some (.ref f)) (hk : PySem.W.keepIn X.K (.ref f) = true) (hb : Binds X.K fd ps [])
    (ha : PA X (e :: es) (aM X.K W am)) (hdb : (n == ("__debug__" : Str)) = false := by decide) (h2 : starEach (e :: es) X.env = (false, eval e X.env) :: starEach es X.env := by rfl) (h3 : (backTo pos (starEach es X.env)).any (·.1) = false := by rfl) :
    PE X (.Call (.Name n p) (e :: es) [] pos) (tM X.K W (mCall m sem am)) :=
  PE.weak (pe_callS (E := fun σ => atSl W σ) F hr hg hm hk hb (fun σ => passAt tk σ) ha hdb h2 h3) fun σ H Q q => call_to q
/-! ### isinstance -/
inductive Ty where
  | bool | int | str | tuple | list | dict
def Ty.nm : Ty → String
  | .bool => "bool" | .int => "int" | .str => "str" | .tuple => "tuple" | .list => "list" | .dict => "dict"
def isU (T : Ty) (h : Sto) : U → Option Bool
  | .non => some false
  | .bl _ => some (match T with | .bool => true | .int => true | _ => false)
  | .int _ => some (match T with | .int => true | _ => false)
  | .str _ => some (match T with | .str => true | _ => false)
  | .tup _ => some (match T with | .tuple => true | _ => false)
  | .fl _ => some (match T with | .list => true | _ => false)
  | .kl _ => some (match T with | .list => true | _ => false)
  | .xv _ _ _ _ => none
  | .ref n => match h[n]? with
    | some (.lst _) => some (match T with | .list => true | _ => false)
    | some (.dK _) => some (match T with | .dict => true | _ => false)
    | some (.dT _) => some (match T with | .dict => true | _ => false)
    | _ => none
theorem tyL {a : Addr} {vs : List V} (q : SqL K H a vs) : TyX K H (.ref a) (.type "list") := by
  rcases q with (q | ⟨o, q⟩) | ⟨o, its, n, q, c, _⟩
  · exact .base (.lst q)
  · exact .base (.frz q)
  · exact .kList q c
theorem tyT {a : Addr} {vs : List V} (q : SqT K H a vs) : TyX K H (.ref a) (.type "tuple") := by
  rcases q with (q | ⟨o, q⟩) | ⟨o, its, n, q, c, _⟩
  · exact .base (.tup q)
  · exact .fTuple q
  · exact .kTuple q c
theorem ty_of {T0 : Ty} {b0 : Bool} (hr : HR K g H h) (r : Rep K g v x) (e0 : isU T0 h x = some b0) : ∃ t, TyX K H v t ∧ ∀ (T : Ty) (b : Bool), isU T h x = some b → PySem.W.kitOne K t (.type T.nm) = some b := by
  cases r with
  | non => exact ⟨_, .base .non, fun T b e => by cases e; exact kit_ty (by cases T <;> decide +kernel)⟩
  | bl c => exact ⟨_, .base (.bl c), fun T b e => by cases e; exact kit_ty (by cases T <;> decide +kernel)⟩
  | int i => exact ⟨_, .base (.int i), fun T b e => by cases e; exact kit_ty (by cases T <;> decide +kernel)⟩
  | str s => exact ⟨_, .base (.str _), fun T b e => by cases e; exact kit_ty (by cases T <;> decide +kernel)⟩
  | tup q s => exact ⟨_, tyT (hr.sqT q), fun T b e => by cases e; exact kit_ty (by cases T <;> decide +kernel)⟩
  | fl q s => exact ⟨_, .base (.lst (hr.ex _ _ q)), fun T b e => by cases e; exact kit_ty (by cases T <;> decide +kernel)⟩
  | kl q s => exact ⟨_, tyL (hr.sqL q), fun T b e => by cases e; exact kit_ty (by cases T <;> decide +kernel)⟩
  | @ref a n q =>
    cases eo : h[n]? with
    | none => simp only [isU, eo] at e0; cases e0
    | some o =>
      cases o with
      | lst us =>
        obtain ⟨vs, h1, _⟩ := hr.ob _ _ _ q eo
        exact ⟨_, .base (.lst h1), fun T b e => by simp only [isU, eo] at e; cases e; exact kit_ty (by cases T <;> decide +kernel)⟩
      | dK us =>
        obtain ⟨vs, h1, _⟩ := hr.ob _ _ _ q eo
        exact ⟨_, .base (.dK h1), fun T b e => by simp only [isU, eo] at e; cases e; exact kit_ty (by cases T <;> decide +kernel)⟩
      | dT us =>
        obtain ⟨vs, h1, _⟩ := hr.ob _ _ _ q eo
        exact ⟨_, .base (.dT h1), fun T b e => by simp only [isU, eo] at e; cases e; exact kit_ty (by cases T <;> decide +kernel)⟩
      | ins C fs => simp only [isU, eo] at e0; cases e0
      | dKl us => simp only [isU, eo] at e0; cases e0
      | xd fs => simp only [isU, eo] at e0; cases e0
  | xv _ => cases e0
def bIs (T : Ty) (a : EM) : TM := fun env h => (a env h).bind fun x h1 => oB (isU T h1 x) h1
def bIs2 (T S : Ty) (a : EM) : TM := fun env h => (a env h).bind fun x h1 => oB ((isU T h1 x).bind fun b => (isU S h1 x).map fun c => b || c) h1
theorem boot_ty (T : Ty) : bootBuiltins (Str.ofString T.nm) = some (.type T.nm) := by cases T <;> decide +kernel
theorem ty_ne (T : Ty) : (Str.ofString T.nm) ≠ "__name__" := by cases T <;> decide
theorem ty_db (T : Ty) : ((Str.ofString T.nm) == ("__debug__" : Str)) = false := by cases T <;> decide
section
variable {T S : Ty} {p2 p3 p4 : Pos} {t2 : Str} (hg : Gl X n) (hm : X.mg n = none) (hv : bootBuiltins n = some (.builtin "isinstance")) (ha : PE X a (tM X.K W ma)) (hn : n ≠ "__name__") (hdb : (n == ("__debug__" : Str)) = false)
include hg hm hv ha hn hdb
theorem isi_core (hgT : Gl X (Str.ofString T.nm)) (hmT : X.mg (Str.ofString T.nm) = none)
    (he : starEach [a, .Name (Str.ofString T.nm) p2] X.env = (false, eval a X.env) :: starEach [.Name (Str.ofString T.nm) p2] X.env) (he2 : starEach [.Name (Str.ofString T.nm) p2] X.env = (false, eval (.Name (Str.ofString T.nm) p2) X.env) :: starEach [] X.env) (hpl : (backTo pos (starEach [.Name (Str.ofString T.nm) p2] X.env)).any (·.1) = false) :
    PE X (.Call (.Name n p) [a, .Name (Str.ofString T.nm) p2] [] pos) (fun σ H Q => bM X.K W (bIs T ma) σ H fun b H => Q (.bl b) H) :=
  PE.weak (pe_callB call_isi hg hm hv (pa_cons ha (pa_cons (pe_bltn (v := .ty T.nm) hgT hmT (boot_ty T) rfl (ty_ne T) (ty_db T)) pa_nil he2) he) hn hdb he hpl) fun σ H Q ⟨g, env, h, hr, er, w⟩ => ⟨g, env, h, hr, er, wET w fun u h1 v H1 g1 l1 hr1 rv w1 => by
    cases e : isU T h1 u with
    | none => rw [e] at w1; exact w1.elim
    | some b =>
      rw [e] at w1
      obtain ⟨t, h2, h3⟩ := ty_of hr1 rv e
      exact ⟨v, .ty T.nm, t, .type T.nm, b, rfl, .ty _, h2, h3 T b e, w1 H1 g1 (Le.refl _) hr1⟩⟩
theorem isi2_core (hgT : Gl X (Str.ofString T.nm)) (hmT : X.mg (Str.ofString T.nm) = none) (hgS : Gl X (Str.ofString S.nm)) (hmS : X.mg (Str.ofString S.nm) = none) {kt : Nat}
    (he : starEach [a, .Tuple [.Name (Str.ofString T.nm) p2, .Name (Str.ofString S.nm) p3] kt p4] X.env = (false, eval a X.env) :: starEach [.Tuple [.Name (Str.ofString T.nm) p2, .Name (Str.ofString S.nm) p3] kt p4] X.env)
    (he2 : starEach [.Tuple [.Name (Str.ofString T.nm) p2, .Name (Str.ofString S.nm) p3] kt p4] X.env = (false, eval (.Tuple [.Name (Str.ofString T.nm) p2, .Name (Str.ofString S.nm) p3] kt p4) X.env) :: starEach [] X.env)
    (he3 : starEach [.Name (Str.ofString T.nm) p2, .Name (Str.ofString S.nm) p3] X.env = (false, eval (.Name (Str.ofString T.nm) p2) X.env) :: starEach [.Name (Str.ofString S.nm) p3] X.env)
    (he4 : starEach [.Name (Str.ofString S.nm) p3] X.env = (false, eval (.Name (Str.ofString S.nm) p3) X.env) :: starEach [] X.env)
    (hpl : (backTo pos (starEach [.Tuple [.Name (Str.ofString T.nm) p2, .Name (Str.ofString S.nm) p3] kt p4] X.env)).any (·.1) = false) :
    PE X (.Call (.Name n p) [a, .Tuple [.Name (Str.ofString T.nm) p2, .Name (Str.ofString S.nm) p3] kt p4] [] pos) (fun σ H Q => bM X.K W (bIs2 T S ma) σ H fun b H => Q (.bl b) H) :=
  PE.weak (pe_callB call_isiT hg hm hv (pa_cons ha (pa_cons (pe_tup (pa_cons (pe_bltn (v := .ty T.nm) hgT hmT (boot_ty T) rfl (ty_ne T) (ty_db T)) (pa_cons (pe_bltn (v := .ty S.nm) hgS hmS (boot_ty S) rfl (ty_ne S) (ty_db S)) pa_nil he4) he3)) pa_nil he2) he) hn hdb he hpl) fun σ H Q ⟨g, env, h, hr, er, w⟩ => ⟨g, env, h, hr, er, wET w fun u h1 v H1 g1 l1 hr1 rv w1 => by
    cases e : isU T h1 u with
    | none => rw [e] at w1; exact w1.elim
    | some b =>
      cases e2 : isU S h1 u with
      | none => rw [e, e2] at w1; exact w1.elim
      | some c =>
        rw [e, e2] at w1
        refine ⟨show 2 ≤ sizeLine by decide, fun q hq => ?_⟩
        have hr2 := hr1.skip hq (.tup [.ty T.nm, .ty S.nm])
        obtain ⟨t', h2, h3⟩ := ty_of hr2 rv e
        refine ⟨v, q, [.ty T.nm, .ty S.nm], t', [.type T.nm, .type S.nm], b || c, rfl, upd_same, .cons (.ty _) (.cons (.ty _) .nil), h2, ?_, w1 _ g1 (Le.refl _) hr2⟩
        refine kitAny_cons (h3 T b e) (fun hb => ?_) (fun hb => by rw [hb]; rfl)
        refine kitAny_cons (h3 S c e2) (fun hc => ?_) (fun hc => by rw [hc]; cases b <;> rfl)
        rw [hb, hc]
        exact kitAny_nil⟩
end
end
end Q

set_option Elab.async false
set_option linter.all false
set_option maxRecDepth 100000
set_option maxHeartbeats 1000000
namespace Q
open PySem PySem.Spec PyProof.Rows L2 TL
section
variable {K : Fr} {g g' : G} {E : XK} {W : WX} {X : Cx} {H : Hp} {h : Sto} {v w : V} {x y : U} {σ : L2.St} {env : Env'} {a b c e o tg : Expr} {es rest : List Expr} {ma mb mc me mo : EM} {ta tb : TM} {pos : Pos} {am : AM} {n : Str} {p : Pos}
/-- from a reading of a bool -/
theorem bt_of {t : TM} (he : PE X e (fun σ H Q => bM K W t σ H fun b H => Q (.bl b) H)) (hw : ∀ whole, isTrue e X.env whole = (do let v ← whole; standAt e.pos; holding [v] (truthy v))) : PT X e (bM K W t) :=
  PT.weak (pt_val he hw) fun σ H Q ⟨g, env, h, hr, er, w⟩ => ⟨g, env, h, hr, er, by
    cases e : t env h with
    | bad => rw [e] at w; exact w
    | exc C n h => rw [e] at w; exact w
    | ok b h1 => rw [e] at w; exact fun H1 g1 l1 hr1 => ⟨b, rfl, w H1 g1 l1 hr1⟩⟩
theorem se_of {t : TM} (he : PE X e (fun σ H Q => bM K W t σ H fun b H => Q (.bl b) H)) : PE X e (tM K W (mB t)) := PE.weak he fun σ H Q q => mB_to q
section
variable {T S : Ty} {p2 p3 p4 : Pos} {kt : Nat}
theorem bt_isi (hg : Gl X "isinstance") (hm : X.mg "isinstance" = none) (ha : PE X a (tM X.K W ma)) (hgT : Gl X (Str.ofString T.nm)) (hmT : X.mg (Str.ofString T.nm) = none)
    (he : starEach [a, .Name (Str.ofString T.nm) p2] X.env = (false, eval a X.env) :: starEach [.Name (Str.ofString T.nm) p2] X.env := by rfl) (he2 : starEach [.Name (Str.ofString T.nm) p2] X.env = (false, eval (.Name (Str.ofString T.nm) p2) X.env) :: starEach [] X.env := by rfl) (hpl : (backTo pos (starEach [.Name (Str.ofString T.nm) p2] X.env)).any (·.1) = false := by rfl)
    (hw : ∀ whole, isTrue (.Call (.Name "isinstance" p) [a, .Name (Str.ofString T.nm) p2] [] pos) X.env whole = (do let v ← whole; standAt pos; holding [v] (truthy v)) := by intro _; rfl) :
    PT X (.Call (.Name "isinstance" p) [a, .Name (Str.ofString T.nm) p2] [] pos) (bM X.K W (bIs T ma)) := bt_of (isi_core hg hm (by decide +kernel) ha (by decide) (by decide) hgT hmT he he2 hpl) hw
theorem se_isi (hg : Gl X "isinstance") (hm : X.mg "isinstance" = none) (ha : PE X a (tM X.K W ma)) (hgT : Gl X (Str.ofString T.nm)) (hmT : X.mg (Str.ofString T.nm) = none)
    (he : starEach [a, .Name (Str.ofString T.nm) p2] X.env = (false, eval a X.env) :: starEach [.Name (Str.ofString T.nm) p2] X.env := by rfl) (he2 : starEach [.Name (Str.ofString T.nm) p2] X.env = (false, eval (.Name (Str.ofString T.nm) p2) X.env) :: starEach [] X.env := by rfl) (hpl : (backTo pos (starEach [.Name (Str.ofString T.nm) p2] X.env)).any (·.1) = false := by rfl) :
    PE X (.Call (.Name "isinstance" p) [a, .Name (Str.ofString T.nm) p2] [] pos) (tM X.K W (mB (bIs T ma))) := se_of (isi_core hg hm (by decide +kernel) ha (by decide) (by decide) hgT hmT he he2 hpl)
theorem bt_isi2 (hg : Gl X "isinstance") (hm : X.mg "isinstance" = none) (ha : PE X a (tM X.K W ma)) (hgT : Gl X (Str.ofString T.nm)) (hmT : X.mg (Str.ofString T.nm) = none) (hgS : Gl X (Str.ofString S.nm)) (hmS : X.mg (Str.ofString S.nm) = none)
    (he : starEach [a, .Tuple [.Name (Str.ofString T.nm) p2, .Name (Str.ofString S.nm) p3] kt p4] X.env = (false, eval a X.env) :: starEach [.Tuple [.Name (Str.ofString T.nm) p2, .Name (Str.ofString S.nm) p3] kt p4] X.env := by rfl)
    (he2 : starEach [.Tuple [.Name (Str.ofString T.nm) p2, .Name (Str.ofString S.nm) p3] kt p4] X.env = (false, eval (.Tuple [.Name (Str.ofString T.nm) p2, .Name (Str.ofString S.nm) p3] kt p4) X.env) :: starEach [] X.env := by rfl)
    (he3 : starEach [.Name (Str.ofString T.nm) p2, .Name (Str.ofString S.nm) p3] X.env = (false, eval (.Name (Str.ofString T.nm) p2) X.env) :: starEach [.Name (Str.ofString S.nm) p3] X.env := by rfl)
    (he4 : starEach [.Name (Str.ofString S.nm) p3] X.env = (false, eval (.Name (Str.ofString S.nm) p3) X.env) :: starEach [] X.env := by rfl)
    (hpl : (backTo pos (starEach [.Tuple [.Name (Str.ofString T.nm) p2, .Name (Str.ofString S.nm) p3] kt p4] X.env)).any (·.1) = false := by rfl)
    (hw : ∀ whole, isTrue (.Call (.Name "isinstance" p) [a, .Tuple [.Name (Str.ofString T.nm) p2, .Name (Str.ofString S.nm) p3] kt p4] [] pos) X.env whole = (do let v ← whole; standAt pos; holding [v] (truthy v)) := by intro _; rfl) :
    PT X (.Call (.Name "isinstance" p) [a, .Tuple [.Name (Str.ofString T.nm) p2, .Name (Str.ofString S.nm) p3] kt p4] [] pos) (bM X.K W (bIs2 T S ma)) := bt_of (isi2_core hg hm (by decide +kernel) ha (by decide) (by decide) hgT hmT hgS hmS he he2 he3 he4 hpl) hw
end
/-! ### texts -/
def strsOf : List U → Option (List (List Nat))
  | [] => some []
  | .str s :: r => (strsOf r).map (s :: ·)
  | _ :: _ => none
/-- a text's method of one argument -/
def mSM1 (f : U → U → Sto → R U) (o a : EM) : EM := fun env h => (o env h).bind fun x h1 => match x with
  | .str s => (a env h1).bind fun y h2 => f (.str s) y h2
  | _ => .bad
def mSM0 (f : U → Sto → R U) (o : EM) : EM := fun env h => (o env h).bind fun x h1 => match x with
  | .str s => f (.str s) h1
  | _ => .bad
def M1OK (K : Fr) (r : V → List V → Hp → VK → Prop) (f : U → U → Sto → R U) : Prop := ∀ E g H h v w s y Q, HR K g H h → Rep K g v (.str s) → Rep K g w y → WE K E g (f (.str s) y h) Q → r v [w] H Q
def M0OK (K : Fr) (r : V → List V → Hp → VK → Prop) (f : U → Sto → R U) : Prop := ∀ E g H h v s Q, HR K g H h → Rep K g v (.str s) → WE K E g (f (.str s) h) Q → r v [] H Q
def uJoin (x y : U) (h : Sto) : R U := match x with
  | .str s => (match (sL h y).bind strsOf with
    | some ss => if (ss.map List.length).sum + ss.length * s.length ≤ 16000000 then .ok (.str (joinL s ss)) h else .bad
    | none => .bad)
  | _ => .bad
end
/-! ### the end -/
def semTrue (sem : Sem') : Prop := ∀ ns : List Int, ns.length ≤ 63 → ∃ h', sem [.kl (ns.map U.int)] [] = .ok (.bl true) h'
theorem sp_end {K : Fr} {sem : Sem'} (ht : semTrue sem) {H : Hp} {a : Addr} {ns : List Int} (hl : ns.length ≤ 63) (hS : SqL K H a (ns.map V.int)) : spM K 1 sem [.ref a] H (fun v _ => v = .bl true) fun _ _ _ => False := by
  obtain ⟨h', e⟩ := ht ns hl
  refine ⟨rfl, ⟨[], H⟩, [.kl (ns.map U.int)], [], ⟨fun a o e => e, rfl, List.nodup_nil, fun a m => (nomatch m), fun n a o e => by simp at e⟩, .cons (.kl hS (Reps.ofInts ns)) .nil, ?_⟩
  rw [e]
  intro v H1 g1 l1 hr1 rv
  cases rv
  rfl
/-- the law's promise, whatever its meaning is -/
def spEnd (K : Fr) : Sp := fun vs H Q _ => ∃ (a : Addr) (ns : List Int), vs = [.ref a] ∧ ns.length ≤ 63 ∧ SqL K H a (ns.map V.int) ∧ ∀ H', Q (.bl true) H'
theorem fn_end {P : Program} {Wd : World} {K : Fr} {mg : Str → Option Value} {base : Heap} {f : Addr} {fd : FuncData} {ps : List Str} {k : Nat} {sem : Sem'} (ht : semTrue sem) (F : FnOk P Wd K mg base (L2.CX P Wd) k f fd ps (spM K 1 sem)) : FnOk P Wd K mg base (L2.CX P Wd) k f fd ps (spEnd K) :=
  F.imp fun vs H Q E ⟨a, ns, e, hl, hS, q⟩ => by
    subst e
    obtain ⟨hz, g, us, h, hr, rv, w⟩ := sp_end ht hl hS
    refine ⟨hz, g, us, h, hr, rv, ?_⟩
    cases es : sem us h with
    | bad => rw [es] at w; exact w
    | exc C n h => rw [es] at w; exact fun H1 g1 d l1 hr1 q => (w H1 g1 d l1 hr1 q).elim
    | ok u h1 =>
      rw [es] at w
      intro v H1 g1 l1 hr1 r1
      have := w v H1 g1 l1 hr1 r1
      subst this
      exact q H1
end Q

set_option Elab.async false
set_option linter.all false
set_option maxRecDepth 100000
set_option maxHeartbeats 1000000
/-! Q8: how meanings are reckoned. -/
namespace Q
open L2
section
variable {env : Env'} {h h1 : Sto} {u x y z : U} {us xs ys : List U} {a b c d : EM} {t s : TM} {m m1 m2 : SM} {am : AM} {α β : Type}
@[simp] theorem e_bind_ok {a : α} {f : α → Sto → R β} : (R.ok a h).bind f = f a h := rfl
@[simp] theorem e_bind_exc {C : Nat} {n : Option Nat} {f : α → Sto → R β} : (R.exc C n h : R α).bind f = .exc C n h := rfl
@[simp] theorem e_bind_bad {f : α → Sto → R β} : (R.bad : R α).bind f = .bad := rfl
@[simp] theorem e_var {i : Nat} : mVar i env h = match env[i]? with | some (some u) => .ok u h | _ => .bad := rfl
@[simp] theorem e_c : mC u env h = .ok u h := rfl
@[simp] theorem e_bin {f : U → U → Sto → R U} : mBin f a b env h = (a env h).bind fun x h1 => (b env h1).bind fun y h2 => f x y h2 := rfl
@[simp] theorem e_neg : mNeg a env h = (a env h).bind fun x h1 => match x with | .int i => .ok (.int (-i)) h1 | _ => .bad := rfl
@[simp] theorem e_add_i {i j : Int} : uAdd (.int i) (.int j) h = .ok (.int (i + j)) h := rfl
@[simp] theorem e_add_s {i j : List Nat} : uAdd (.str i) (.str j) h = if i.length + j.length ≤ 16000000 then .ok (.str (i ++ j)) h else .bad := rfl
@[simp] theorem e_add_ref {n : Nat} : uAdd (.ref n) y h = match mL h (.ref n), mL h y with
    | some us, some ts => if us.length + ts.length ≤ 16000000 then .ok (.ref h.length) (h ++ [.lst (us ++ ts)]) else .bad
    | _, _ => .bad := by cases y <;> rfl
@[simp] theorem e_add_fl : uAdd (.fl us) y h = match mL h y with
    | some ts => if us.length + ts.length ≤ 16000000 then .ok (.ref h.length) (h ++ [.lst (us ++ ts)]) else .bad
    | _ => .bad := by
  have e : uAdd (.fl us) y h = match mL h (.fl us), mL h y with
    | some us, some ts => if us.length + ts.length ≤ 16000000 then .ok (.ref h.length) (h ++ [.lst (us ++ ts)]) else .bad
    | _, _ => .bad := by cases y <;> rfl
  rw [e]
  cases mL h y <;> rfl
@[simp] theorem e_sub_i {i j : Int} : uSub (.int i) (.int j) h = .ok (.int (i - j)) h := rfl
@[simp] theorem e_mul_i {i j : Int} : uMul (.int i) (.int j) h = if cMul i j then .ok (.int (i * j)) h else .bad := rfl
@[simp] theorem e_div_i {i j : Int} : uDiv (.int i) (.int j) h = if cDiv i j then .ok (.int (i / j)) h else .bad := rfl
@[simp] theorem e_mod_i {i j : Int} : uMod (.int i) (.int j) h = if cMod i j then .ok (.int (i % j)) h else .bad := rfl
@[simp] theorem e_pow_i {i j : Int} : uPow (.int i) (.int j) h = if cPow i j then .ok (.int (i ^ j.toNat)) h else .bad := rfl
@[simp] theorem e_isub_i {i j : Int} : uISub (.int i) (.int j) h = .ok (.int (i - j)) h := rfl
@[simp] theorem e_iadd_i {i j : Int} : uIAdd (.int i) (.int j) h = .ok (.int (i + j)) h := rfl
@[simp] theorem e_iadd_s {i j : List Nat} : uIAdd (.str i) (.str j) h = if i.length + j.length ≤ 16000000 then .ok (.str (i ++ j)) h else .bad := rfl
@[simp] theorem e_cmp {f : Sto → U → U → Option Bool} : bCmp f a b env h = (a env h).bind fun x h1 => (b env h1).bind fun y h2 => oB (f h2 x y) h2 := rfl
@[simp] theorem e_oB_some {b : Bool} : oB (some b) h = .ok b h := rfl
@[simp] theorem e_oR_some : oR (some u) h = .ok u h := rfl
@[simp] theorem e_mB : mB t env h = (t env h).bind fun b h1 => .ok (.bl b) h1 := rfl
@[simp] theorem e_eq_i {i j : Int} : cEq h (.int i) (.int j) = some (decide (i = j)) := rfl
@[simp] theorem e_eq_s {i j : List Nat} : cEq h (.str i) (.str j) = some (decide (i = j)) := rfl
@[simp] theorem e_eq_b {i j : Bool} : cEq h (.bl i) (.bl j) = some (decide (i = j)) := rfl
@[simp] theorem e_eq_is {i : Int} {j : List Nat} : cEq h (.int i) (.str j) = some false := rfl
@[simp] theorem e_eq_si {i : Int} {j : List Nat} : cEq h (.str j) (.int i) = some false := rfl
@[simp] theorem e_eq_nn : cEq h .non .non = some true := rfl
@[simp] theorem e_ne : cNe h x y = (cEq h x y).map not := rfl
@[simp] theorem e_lt {i j : Int} {p : Int → Int → Bool} : cI p h (.int i) (.int j) = some (p i j) := rfl
@[simp] theorem e_is : cIs h x .non = some (match x with | .non => true | _ => false) := rfl
@[simp] theorem e_isn : cIsN h x y = (cIs h x y).map not := rfl
@[simp] theorem e_in : cIn h x y = match sL h y with | some us => if flatU x = true ∧ us.all flatU = true then some (inF x us) else inP h x y | none => none := rfl
@[simp] theorem e_nin : cNin h x y = (cIn h x y).map not := rfl
@[simp] theorem e_flat_i {i : Int} : flatU (.int i) = true := rfl
@[simp] theorem e_flat_s {i : List Nat} : flatU (.str i) = true := rfl
@[simp] theorem e_flat_b {i : Bool} : flatU (.bl i) = true := rfl
@[simp] theorem e_flat_n : flatU .non = true := rfl
@[simp] theorem e_mL_ref {n : Nat} : mL h (.ref n) = match h[n]? with | some (.lst us) => some us | _ => none := rfl
@[simp] theorem e_mL_fl : mL h (.fl us) = some us := rfl
@[simp] theorem e_aL_ref {n : Nat} : aL h (.ref n) = match h[n]? with | some (.lst us) => some us | _ => none := rfl
@[simp] theorem e_aL_fl : aL h (.fl us) = some us := rfl
@[simp] theorem e_aL_kl : aL h (.kl us) = some us := rfl
@[simp] theorem e_sL_ref {n : Nat} : sL h (.ref n) = match h[n]? with | some (.lst us) => some us | _ => none := rfl
@[simp] theorem e_sL_fl : sL h (.fl us) = some us := rfl
@[simp] theorem e_sL_kl : sL h (.kl us) = some us := rfl
@[simp] theorem e_sL_tup : sL h (.tup us) = some us := rfl
@[simp] theorem e_and : bAnd t s env h = (t env h).bind fun c h1 => if c = true then s env h1 else .ok false h1 := rfl
@[simp] theorem e_or : bOr t s env h = (t env h).bind fun c h1 => if c = true then .ok true h1 else s env h1 := rfl
@[simp] theorem e_not : bNot t env h = (t env h).bind fun c h1 => .ok (!c) h1 := rfl
@[simp] theorem e_tru : bTru a env h = (a env h).bind fun x h1 => oB (truU h1 x) h1 := rfl
@[simp] theorem e_tru_b {b : Bool} : truU h (.bl b) = some b := rfl
@[simp] theorem e_tru_i {i : Int} : truU h (.int i) = some (i != 0) := rfl
@[simp] theorem e_tru_n : truU h .non = some false := rfl
@[simp] theorem e_mAnd : mAnd a b env h = (a env h).bind fun x h1 => match x with | .bl true => b env h1 | .bl false => .ok (.bl false) h1 | _ => .bad := rfl
@[simp] theorem e_mOr : mOr a b env h = (a env h).bind fun x h1 => match x with | .bl false => b env h1 | .bl true => .ok (.bl true) h1 | _ => .bad := rfl
@[simp] theorem e_mNot : mNot a env h = (a env h).bind fun x h1 => match x with | .bl c => .ok (.bl (!c)) h1 | _ => .bad := rfl
@[simp] theorem e_mIf : mIf t a b env h = (t env h).bind fun c h1 => if c = true then a env h1 else b env h1 := rfl
@[simp] theorem e_aNil : aNil env h = .ok [] h := rfl
@[simp] theorem e_aCons : aCons a am env h = (a env h).bind fun x h1 => (am env h1).bind fun xs h2 => .ok (x :: xs) h2 := rfl
@[simp] theorem e_tup : mTup am env h = (am env h).bind fun us h1 => if us.length ≤ 16000000 then .ok (.tup us) h1 else .bad := rfl
@[simp] theorem e_lst : mLst am env h = (am env h).bind fun us h1 => if us.length ≤ 16000000 then .ok (.ref h1.length) (h1 ++ [.lst us]) else .bad := rfl
@[simp] theorem e_ix_s {s : List Nat} {i : Int} : uIx (.str s) (.int i) h = if s.length ≤ 16000000 then oR ((atI s i).map fun c => .str [c]) h else .bad := rfl
@[simp] theorem e_ix_ref {n : Nat} {i : Int} : uIx (.ref n) (.int i) h = match sL h (.ref n) with | some us => oR (atI us i) h | none => .bad := rfl
@[simp] theorem e_ix_tup {i : Int} : uIx (.tup us) (.int i) h = oR (atI us i) h := rfl
@[simp] theorem e_ix_fl {i : Int} : uIx (.fl us) (.int i) h = oR (atI us i) h := rfl
@[simp] theorem e_ix_kl {i : Int} : uIx (.kl us) (.int i) h = oR (atI us i) h := rfl
@[simp] theorem e_oNone : oNone env h = .ok none h := rfl
@[simp] theorem e_oSome : oSome a env h = (a env h).bind fun x h1 => match x with | .int i => .ok (some i) h1 | _ => .bad := rfl
@[simp] theorem e_sl {lo hi : OM} : mSl a lo hi env h = (a env h).bind fun x h1 => (lo env h1).bind fun l h2 => (hi env h2).bind fun u h3 => uSl x l u h3 := rfl
@[simp] theorem e_sl_s {s : List Nat} {lo hi : Option Int} : uSl (.str s) lo hi h = if s.length ≤ 16000000 then .ok (.str (cut s lo hi)) h else .bad := rfl
@[simp] theorem e_sl_ref {n : Nat} {lo hi : Option Int} : uSl (.ref n) lo hi h = match aL h (.ref n) with | some us => .ok (.ref h.length) (h ++ [.lst (cut us lo hi)]) | none => .bad := rfl
@[simp] theorem e_sl_fl {lo hi : Option Int} : uSl (.fl us) lo hi h = .ok (.ref h.length) (h ++ [.lst (cut us lo hi)]) := rfl
@[simp] theorem e_sl_kl {lo hi : Option Int} : uSl (.kl us) lo hi h = .ok (.ref h.length) (h ++ [.lst (cut us lo hi)]) := rfl
@[simp] theorem e_cb {f : List U → Sto → R U} : mCB f am env h = (am env h).bind f := rfl
@[simp] theorem e_len_s {s : List Nat} : uLen [.str s] h = if s.length ≤ 16000000 then .ok (.int s.length) h else .bad := rfl
@[simp] theorem e_len_ref {n : Nat} : uLen [.ref n] h = match sL h (.ref n) with | some us => .ok (.int us.length) h | none => .bad := rfl
@[simp] theorem e_len_tup : uLen [.tup us] h = .ok (.int us.length) h := rfl
@[simp] theorem e_len_fl : uLen [.fl us] h = .ok (.int us.length) h := rfl
@[simp] theorem e_len_kl : uLen [.kl us] h = .ok (.int us.length) h := rfl
@[simp] theorem e_int_i {i : Int} : uInt [.int i] h = .ok (.int i) h := rfl
@[simp] theorem e_int_b {i : Bool} : uInt [.bl i] h = .ok (.int (if i then 1 else 0)) h := rfl
@[simp] theorem e_list : uList [x] h = match sL h x with | some us => .ok (.ref h.length) (h ++ [.lst us]) | none => .bad := rfl
@[simp] theorem e_tuple : uTuple [x] h = match sL h x with | some us => .ok (.tup us) h | none => .bad := rfl
@[simp] theorem e_min {i j : Int} : uMin [.int i, .int j] h = .ok (.int (if j < i then j else i)) h := rfl
@[simp] theorem e_max {i j : Int} : uMax [.int i, .int j] h = .ok (.int (if j > i then j else i)) h := rfl
@[simp] theorem e_abs {i : Int} : uAbs [.int i] h = .ok (.int (if i < 0 then -i else i)) h := rfl
@[simp] theorem e_lm {f : U → List U → Sto → R U} : mLM f a am env h = (a env h).bind fun x h1 => if (aL h1 x).isSome = true then (am env h1).bind fun us h2 => f x us h2 else .bad := rfl
@[simp] theorem e_app {n : Nat} : uApp (.ref n) [y] h = match h[n]? with | some (.lst xs) => if xs.length < 16000000 then .ok .non (h.set n (.lst (xs ++ [y]))) else .bad | _ => .bad := rfl
@[simp] theorem e_ext {n : Nat} : uExt (.ref n) [y] h = match h[n]?, mL h y with | some (.lst xs), some ys => if xs.length + ys.length ≤ 16000000 then .ok .non (h.set n (.lst (xs ++ ys))) else .bad | _, _ => .bad := rfl
@[simp] theorem e_nx : mNx env h = .nx env h := rfl
@[simp] theorem e_seq_nx {e : Env'} (q : m1 env h = .nx e h1) : mSeq m1 m2 env h = m2 e h1 := by unfold mSeq; rw [q]
@[simp] theorem e_seq_rt (q : m1 env h = .rt u h1) : mSeq m1 m2 env h = .rt u h1 := by unfold mSeq; rw [q]
@[simp] theorem e_seq_ex {C : Nat} {n : Option Nat} {e : Env'} (q : m1 env h = .ex C n e h1) : mSeq m1 m2 env h = .ex C n e h1 := by unfold mSeq; rw [q]
@[simp] theorem e_seq_bk {e : Env'} (q : m1 env h = .bk e h1) : mSeq m1 m2 env h = .bk e h1 := by unfold mSeq; rw [q]
@[simp] theorem e_seq_ct {e : Env'} (q : m1 env h = .ct e h1) : mSeq m1 m2 env h = .ct e h1 := by unfold mSeq; rw [q]
@[simp] theorem e_st_ok {a : α} {f : α → Sto → RS} : (R.ok a h).st env f = f a h := rfl
@[simp] theorem e_st_exc {C : Nat} {n : Option Nat} {f : α → Sto → RS} : (R.exc C n h : R α).st env f = .ex C n env h := rfl
@[simp] theorem e_st_bad {f : α → Sto → RS} : (R.bad : R α).st env f = .bad := rfl
@[simp] theorem e_no_ok {a : α} : (R.ok a h).no = .ok a h := rfl
@[simp] theorem e_asg {k : CT} : mAsg k a env h = (a env h).st env fun u h1 => gCT k u env h1 := rfl
@[simp] theorem e_gct_one {i : Nat} : gCT (.one i) u env h = .nx (env.set i (some u)) h := rfl
@[simp] theorem e_gct_tup {is : List Nat} : gCT (.tup is) (.tup us) env h = if us.length = is.length then .nx (setA env is us) h else .bad := by
  show (match (if us.length = is.length then some (setA env is us) else none) with | some e => RS.nx e h | none => .bad) = _
  by_cases z : us.length = is.length
  · rw [if_pos z, if_pos z]
  · rw [if_neg z, if_neg z]
@[simp] theorem e_ca_one {i : Nat} : (CT.one i).asg u env h = some (env.set i (some u)) := rfl
@[simp] theorem e_ca_tup {is : List Nat} : (CT.tup is).asg (.tup us) env h = if us.length = is.length then some (setA env is us) else none := rfl
@[simp] theorem e_setA_cons {e : Env'} {i : Nat} {is : List Nat} : setA e (i :: is) (u :: us) = setA (e.set i (some u)) is us := by conv => lhs; unfold setA
@[simp] theorem e_setA_nil {e : Env'} {us : List U} : setA e [] us = e := by unfold setA; rfl
@[simp] theorem e_ret : mRet a env h = (a env h).st env fun u h1 => .rt u h1 := rfl
@[simp] theorem e_retN : mRetN env h = .rt .non h := rfl
@[simp] theorem e_drop : mDrop a env h = (a env h).st env fun _ h1 => .nx env h1 := rfl
@[simp] theorem e_ifs' {b : Bool} (q : t env h = .ok b h1) : mIfS t m1 m2 env h = if b = true then m1 env h1 else m2 env h1 := by unfold mIfS; rw [q]; rfl
@[simp] theorem e_brk : mBrk env h = .bk env h := rfl
@[simp] theorem e_cnt : mCnt env h = .ct env h := rfl
@[simp] theorem e_call {n : Nat} {sem : Sem'} : mCall n sem am env h = (am env h).bind fun us h1 => if us.length = n then sem us h1 else .bad := rfl
@[simp] theorem e_isT {T : Ty} : bIs T a env h = (a env h).bind fun x h1 => oB (isU T h1 x) h1 := rfl
@[simp] theorem e_isT2 {T S : Ty} : bIs2 T S a env h = (a env h).bind fun x h1 => oB ((isU T h1 x).bind fun b => (isU S h1 x).map fun c => b || c) h1 := rfl
@[simp] theorem e_set {n : Nat} {k : Int} : uSetL (.ref n) (.int k) z h = match h[n]? with | some (.lst us) => (ixN us.length k).map fun j => h.set n (.lst (us.set j z)) | _ => none := rfl
@[simp] theorem e_seti {f : U → U → U → Sto → Option Sto} : mSetI f a b c env h = (c env h).st env fun z h1 => (a env h1).st env fun x h2 => (b env h2).st env fun y h3 => match f x y z h3 with
  | some h4 => .nx env h4
  | none => .bad := rfl
@[simp] theorem e_aug {f : U → U → Sto → R U} {i : Nat} : mAug f i a env h = match env[i]? with
  | some (some x) => (a env h).st env fun y h1 => (f x y h1).st env fun z h2 => .nx (env.set i (some z)) h2
  | _ => .bad := rfl
@[simp] theorem e_augi {gt f : U → U → Sto → R U} {st : U → U → U → Sto → Option Sto} : mAugI gt f st a b c env h = (a env h).st env fun x h1 => (b env h1).st env fun y h2 => (gt x y h2).st env fun z h3 => (c env h3).st env fun u h4 => (f z u h4).st env fun q h5 => match st x y q h5 with
  | some h6 => .nx env h6
  | none => .bad := rfl
@[simp] theorem e_ixL {n : Nat} {i : Int} : uIxL (.ref n) (.int i) h = match h[n]? with | some (.lst us) => oR (atI us i) h | _ => .bad := rfl
@[simp] theorem e_sm1 {f : U → U → Sto → R U} : mSM1 f a b env h = (a env h).bind fun x h1 => match x with | .str s => (b env h1).bind fun y h2 => f (.str s) y h2 | _ => .bad := rfl
@[simp] theorem e_join {s : List Nat} : uJoin (.str s) y h = match (sL h y).bind strsOf with | some ss => if (ss.map List.length).sum + ss.length * s.length ≤ 16000000 then .ok (.str (TL.joinL s ss)) h else .bad | none => .bad := rfl
def r1Of (us : List U) (h : Sto) : R (Chk × List U) := match us with
  | [.int j] => if -1000000000 ≤ j ∧ j ≤ 1000000000 then .ok ([], rng 0 j.toNat) h else .bad
  | _ => .bad
def r2Of (us : List U) (h : Sto) : R (Chk × List U) := match us with
  | [.int i, .int j] => if (-1000000000 ≤ i ∧ i ≤ 1000000000) ∧ (-1000000000 ≤ j ∧ j ≤ 1000000000) then .ok ([], rng i (j - i).toNat) h else .bad
  | _ => .bad
@[simp] theorem e_r1 : itR1 am env h = (am env h).bind r1Of := rfl
@[simp] theorem e_r2 : itR2 am env h = (am env h).bind r2Of := rfl
@[simp] theorem e_r1i {j : Int} : r1Of [.int j] h = if -1000000000 ≤ j ∧ j ≤ 1000000000 then .ok ([], rng 0 j.toNat) h else .bad := rfl
@[simp] theorem e_r2i {i j : Int} : r2Of [.int i, .int j] h = if (-1000000000 ≤ i ∧ i ≤ 1000000000) ∧ (-1000000000 ≤ j ∧ j ≤ 1000000000) then .ok ([], rng i (j - i).toNat) h else .bad := rfl
def seqOf (x : U) (h : Sto) : R (Chk × List U) := match x with
  | .str s => .ok ([], s.map fun c => .str [c]) h
  | x => match sL h x with
    | some us => .ok (chkOf x us, us) h
    | none => .bad
@[simp] theorem e_itE : itE a env h = (a env h).bind seqOf := rfl
@[simp] theorem e_seq_s {s : List Nat} : seqOf (.str s) h = .ok ([], s.map fun c => .str [c]) h := rfl
@[simp] theorem e_seq_tup : seqOf (.tup us) h = .ok ([], us) h := rfl
@[simp] theorem e_seq_fl : seqOf (.fl us) h = .ok ([], us) h := rfl
@[simp] theorem e_seq_kl : seqOf (.kl us) h = .ok ([], us) h := rfl
@[simp] theorem e_seq_ref {n : Nat} (q : h[n]? = some (.lst us)) : seqOf (.ref n) h = .ok ([(n, us)], us) h := by simp [seqOf, q, chkOf]
def zipOf (us : List U) (h : Sto) : R (Chk × List U) := match us with
  | [x, y] => (match sL h x, sL h y with
    | some us, some ts => .ok (chkOf x us ++ chkOf y ts, pairs us ts) h
    | _, _ => .bad)
  | _ => .bad
def enumOf (us : List U) (h : Sto) : R (Chk × List U) := match us with
  | [x] => (match aL h x with
    | some us => .ok (chkOf x us, pairs (rng 0 us.length) us) h
    | _ => .bad)
  | _ => .bad
@[simp] theorem e_itZ : itZ am env h = (am env h).bind zipOf := rfl
@[simp] theorem e_itN : itN am env h = (am env h).bind enumOf := rfl
@[simp] theorem e_zip : zipOf [x, y] h = match sL h x, sL h y with
    | some us, some ts => .ok (chkOf x us ++ chkOf y ts, pairs us ts) h
    | _, _ => .bad := rfl
@[simp] theorem e_enum : enumOf [x] h = match aL h x with
    | some us => .ok (chkOf x us, pairs (rng 0 us.length) us) h
    | _ => .bad := rfl
@[simp] theorem e_chk_ref {n : Nat} : chkOf (.ref n) us = [(n, us)] := rfl
@[simp] theorem e_chk_fl : chkOf (.fl xs) us = [] := rfl
@[simp] theorem e_chk_kl : chkOf (.kl xs) us = [] := rfl
@[simp] theorem e_chk_tup : chkOf (.tup xs) us = [] := rfl
@[simp] theorem e_yes : bYes env h = .ok true h := rfl
/-! ### the store -/
theorem lt_of_some {n : Nat} (q : (h[n]?).isSome = true) : n < h.length := by
  cases e : h[n]? with
  | none => rw [e] at q; cases q
  | some o => exact (List.getElem?_eq_some_iff.mp e).1
@[simp] theorem st_app {l : Sto} {n : Nat} (q : (h[n]?).isSome = true) : (h ++ l)[n]? = h[n]? := List.getElem?_append_left (lt_of_some q)
@[simp] theorem st_gs {n : Nat} {o : O} (q : (h[n]?).isSome = true) : (h.set n o)[n]? = some o := List.getElem?_set_self (lt_of_some q)
@[simp] theorem st_gn {n k : Nat} {o : O} (q : n ≠ k) : (h.set n o)[k]? = h[k]? := List.getElem?_set_ne q
@[simp] theorem c_mod {i j : Int} : cMod i j ↔ 0 < j := Iff.rfl
@[simp] theorem c_div {i j : Int} : cDiv i j ↔ 0 < j ∧ j < 1073741824 := Iff.rfl
@[simp] theorem c_mul {i j : Int} : cMul i j ↔ (-18446744073709551616 < i ∧ i < 18446744073709551616) ∨ (-18446744073709551616 < j ∧ j < 18446744073709551616) := Iff.rfl
@[simp] theorem c_pow {i j : Int} : cPow i j ↔ 0 ≤ j ∧ j ≤ 1000 ∧ 0 ≤ i ∧ i < 1000 := Iff.rfl
@[simp] theorem st_len {l : Sto} : (h ++ l)[h.length]? = l[0]? := by
  rw [List.getElem?_append_right (Nat.le_refl _), Nat.sub_self]
@[simp] theorem st_lenk {l : Sto} {k : Nat} : (h ++ l)[h.length + k]? = l[k]? := by
  rw [List.getElem?_append_right (Nat.le_add_right _ _), Nat.add_sub_cancel_left]
@[simp] theorem st_set {l : Sto} {o : O} : (h ++ l).set h.length o = h ++ l.set 0 o := by
  rw [List.set_append_right _ _ (Nat.le_refl _), Nat.sub_self]
@[simp] theorem st_setk {l : Sto} {k : Nat} {o : O} : (h ++ l).set (h.length + k) o = h ++ l.set k o := by
  rw [List.set_append_right _ _ (Nat.le_add_right _ _), Nat.add_sub_cancel_left]
@[simp] theorem st_setl {l : Sto} {p : O} {n : Nat} (q : (h[n]?).isSome = true) : (h ++ l).set n p = h.set n p ++ l := List.set_append_left _ _ (lt_of_some q)
end
/-- places in written lists -/
@[simp] theorem at0 {α : Type} {a : α} {l : List α} : atI (a :: l) 0 = some a := atI_nat (j := 0) rfl
@[simp] theorem at1 {α : Type} {a b : α} {l : List α} : atI (a :: b :: l) 1 = some b := atI_nat (j := 1) rfl
@[simp] theorem at2 {α : Type} {a b c : α} {l : List α} : atI (a :: b :: c :: l) 2 = some c := atI_nat (j := 2) rfl
@[simp] theorem at3 {α : Type} {a b c d : α} {l : List α} : atI (a :: b :: c :: d :: l) 3 = some d := atI_nat (j := 3) rfl
@[simp] theorem at4 {α : Type} {a b c d e : α} {l : List α} : atI (a :: b :: c :: d :: e :: l) 4 = some e := atI_nat (j := 4) rfl
@[simp] theorem at5 {α : Type} {a b c d e f : α} {l : List α} : atI (a :: b :: c :: d :: e :: f :: l) 5 = some f := atI_nat (j := 5) rfl
end Q

set_option Elab.async false
set_option linter.all false
set_option maxRecDepth 100000
set_option maxHeartbeats 1000000
/-! QC: instances of the text's own classes. -/
namespace Q
open PySem PySem.Spec PyProof.Rows L2 TL
def putU (f : Str) (v : U) : List (Str × U) → List (Str × U)
  | [] => [(f, v)]
  | (g, x) :: r => if g = f then (g, v) :: r else (g, x) :: putU f v r
section
variable {K : Fr} {g g' : G} {E : XK} {W : WX} {X : Cx} {H : Hp} {h : Sto} {v w : V} {x y : U} {σ : L2.St} {env : Env'} {a b c e o tg : Expr} {es rest : List Expr} {ma mb mc me mo : EM} {ta tb : TM} {pos : Pos} {am : AM} {n : Str} {p : Pos}
theorem RepF.put {f : Str} {v : V} {u : U} (hh : Rep K g v u) : ∀ {vs us}, RepF K g vs us → RepF K g (putF f v vs) (putU f u us)
  | _, _, .nil => .cons hh .nil
  | _, _, .cons (k := k) (v := v') (u := u') (vs := vs) (us := us) h' r => by
    show RepF K g (if k = f then (k, v) :: vs else (k, v') :: putF f v vs) (if k = f then (k, u) :: us else (k, u') :: putU f u us)
    split
    · exact .cons hh r
    · exact .cons h' (RepF.put hh r)
theorem RepF.len : ∀ {vs us}, RepF K g vs us → vs.length = us.length
  | _, _, .nil => rfl
  | _, _, .cons _ r => by simp [RepF.len r]
/-- what the written part tells of a class that has the attribute f -/
structure FA (K : Fr) (cs : List Nat) (f : Str) : Prop where
  is : ∀ C, C ∈ cs → Cls K C ∧ NoAttr K C f
/-- the instance at x: its class, its attributes -/
def insU (h : Sto) : U → Option (Nat × List (Str × U))
  | .ref n => match h[n]? with
    | some (.ins C fs) => some (C, fs)
    | _ => none
  | _ => none
/-- o.f -/
def mFld (cs : List Nat) (f : Str) (o : EM) : EM := fun env h => (o env h).bind fun x h1 => match insU h1 x with
  | some (C, fs) => if C ∈ cs then oR (fs.lookup f) h1 else .bad
  | none => .bad
/-- o.f = e -/
def mSetF (cs : List Nat) (f : Str) (o e : EM) : SM := fun env h => (e env h).st env fun z h1 => (o env h1).st env fun x h2 => match x, insU h2 x with
  | .ref n, some (C, fs) => if C ∈ cs ∧ fs.length < 1000 then .nx env (h2.set n (.ins C (putU f z fs))) else .bad
  | _, _ => .bad
/-- o.f op= e -/
def mAugF (cs : List Nat) (op : U → U → Sto → R U) (f : Str) (o e : EM) : SM := fun env h => (o env h).st env fun x h1 => match x, insU h1 x with
  | .ref n, some (C, fs) => if C ∈ cs then (match fs.lookup f with
    | some u => (e env h1).st env fun y h2 => (op u y h2).st env fun z h3 => (match insU h3 (.ref n) with
      | some (C', fs') => if C' = C ∧ fs'.length < 1000 then .nx env (h3.set n (.ins C (putU f z fs'))) else .bad
      | none => .bad)
    | none => .bad) else .bad
  | _, _ => .bad
/-- o.m(..) -/
def mMeth (C : Nat) (m : Str) (k : Nat) (sem : Sem') (o : EM) (am : AM) : EM := fun env h => (o env h).bind fun x h1 => match insU h1 x with
  | some (C', fs) => if C' = C ∧ fs.lookup m = none then (am env h1).bind fun us h2 => if us.length + 1 = k then sem (x :: us) h2 else .bad else .bad
  | none => .bad
variable {f C : Addr} {fd : FuncData} {ps : List Str} {k j : Nat} {m : Str} {sem : Sem'}
def tMethS (C : Addr) (m : Str) (sp : Sp) (E : L2.St → XK) (to : TE) (t : TA) : TE := fun σ H Q => to σ H fun x H1 => ∃ a dx fs, x = .ref a ∧ H1 a = some (.ins C dx fs) ∧ fs.lookup m = none ∧ t σ H1 fun vs H2 => sp (.ref a :: vs) H2 Q (E σ)
/-- C(..) -/
def mMake (C : Nat) (k : Nat) (sem : Sem') (am : AM) : EM := fun env h => (am env h).bind fun us h1 => if us.length + 1 = k then (match sem (.ref h1.length :: us) (h1 ++ [.ins C []]) with
  | .ok .non h2 => .ok (.ref h1.length) h2
  | _ => .bad) else .bad
/-- how it is reckoned -/
@[simp] theorem e_fld {cs : List Nat} {f : Str} : mFld cs f mo env h = (mo env h).bind fun x h1 => match insU h1 x with
  | some (C, fs) => if C ∈ cs then oR (fs.lookup f) h1 else .bad
  | none => .bad := rfl
@[simp] theorem e_insU {n : Nat} : insU h (.ref n) = match h[n]? with | some (.ins C fs) => some (C, fs) | _ => none := rfl
@[simp] theorem e_meth {C : Nat} {m : Str} {k : Nat} : mMeth C m k sem mo am env h = (mo env h).bind fun x h1 => match insU h1 x with
  | some (C', fs) => if C' = C ∧ fs.lookup m = none then (am env h1).bind fun us h2 => if us.length + 1 = k then sem (x :: us) h2 else .bad else .bad
  | none => .bad := rfl
@[simp] theorem e_make {C k : Nat} : mMake C k sem am env h = (am env h).bind fun us h1 => if us.length + 1 = k then (match sem (.ref h1.length :: us) (h1 ++ [.ins C []]) with
  | .ok .non h2 => .ok (.ref h1.length) h2
  | _ => .bad) else .bad := rfl
@[simp] theorem e_setf {cs : List Nat} {f : Str} : mSetF cs f mo me env h = (me env h).st env fun z h1 => (mo env h1).st env fun x h2 => match x, insU h2 x with
  | .ref n, some (C, fs) => if C ∈ cs ∧ fs.length < 1000 then .nx env (h2.set n (.ins C (putU f z fs))) else .bad
  | _, _ => .bad := rfl
@[simp] theorem e_augf {cs : List Nat} {op : U → U → Sto → R U} {f : Str} : mAugF cs op f mo me env h = (mo env h).st env fun x h1 => match x, insU h1 x with
  | .ref n, some (C, fs) => if C ∈ cs then (match fs.lookup f with
    | some u => (me env h1).st env fun y h2 => (op u y h2).st env fun z h3 => (match insU h3 (.ref n) with
      | some (C', fs') => if C' = C ∧ fs'.length < 1000 then .nx env (h3.set n (.ins C (putU f z fs'))) else .bad
      | none => .bad)
    | none => .bad) else .bad
  | _, _ => .bad := rfl
end
end Q

set_option Elab.async false
set_option linter.all false
set_option maxRecDepth 100000
set_option maxHeartbeats 1000000
/-! QX: raise of an own exception class, try .. except, the top's numbers. -/
namespace Q
open PySem PySem.Spec PyProof.Rows L2 TL
section
variable {K : Fr} {g g' : G} {E : XK} {W : WX} {X : Cx} {H : Hp} {h : Sto} {σ : L2.St} {env : Env'} {a b c e o tg : Expr} {ma mb mc me mo : EM} {ta tb : TM} {pos : Pos} {m m1 m2 ms : SM}
/-- an exception class of the text without own __init__ -/
structure XC (K : Fr) (mg : Str → Option Value) (x : Str) (C : Addr) : Prop where
  ex : PySem.W.excIn K C [.type "ValueError", .type "Exception", .type "BaseException", .type "object"] "ValueError.__new__" = true
  g : mg x = some (.ref C)
  k : PySem.W.keepIn K (.ref C) = true
  b : PySem.W.subIn K (.ref C) (.type "BaseException") = some true
  t : PySem.W.typeIn K (.ref C) = some (.type "type")
def mRaise (C : Nat) : SM := fun env h => .ex C none env h
/-- nothing may be raised in a suite -/
def RS.no (r : RS) : RS := match r with
  | .ex _ _ _ _ => .bad
  | r => r
/-- try: mb except X: ms; ys: the classes that the clause takes; no others may come -/
def mTry (ys : List Nat) (mb ms : SM) : SM := fun env h => match mb env h with
  | .ex C n env1 h1 => if C ∈ ys then (ms env1 h1).no else .bad
  | r => r
theorem WS.no {r : RS} {D : Ends} {W' : WX} (w : WS K W g r.no D) : WS K W' g r D := by
  cases r with
  | ex C n e h => exact w.elim
  | _ => exact w
@[simp] theorem e_raise {C : Nat} : mRaise C env h = .ex C none env h := rfl
@[simp] theorem e_no_nx {e1 : Env'} : (RS.nx e1 h).no = .nx e1 h := rfl
@[simp] theorem e_no_rt {u : U} : (RS.rt u h).no = .rt u h := rfl
@[simp] theorem e_no_bk {e1 : Env'} : (RS.bk e1 h).no = .bk e1 h := rfl
@[simp] theorem e_no_ct {e1 : Env'} : (RS.ct e1 h).no = .ct e1 h := rfl
end
end Q


set_option Elab.async false
set_option linter.all false
set_option maxRecDepth 100000
set_option maxHeartbeats 1000000
/-! QD: dicts, their keys numbers and texts. -/
namespace Q
open PySem PySem.Spec PyProof.Rows L2 TL
def keyU : U → Option DK
  | .int i => some (.inl i)
  | .str s => some (.inr s)
  | _ => none
def valD : List (DK × U) → DK → Option U
  | [], _ => none
  | (j, x) :: r, k => if j = k then some x else valD r k
def repD : List (DK × U) → DK → U → List (DK × U)
  | [], _, _ => []
  | (j, x) :: r, k, v => (if j = k then (j, v) else (j, x)) :: repD r k v
def putD (kvs : List (DK × U)) (k : DK) (v : U) : List (DK × U) := if (valD kvs k).isSome = true then repD kvs k v else kvs ++ [(k, v)]
def aDK (h : Sto) : U → Option (List (DK × U))
  | .ref n => (match h[n]? with
    | some (.dK us) => some us
    | some (.dKl us) => some us
    | _ => none)
  | _ => none
section
variable {K : Fr} {g g' : G} {E : XK} {W : WX} {X : Cx} {H : Hp} {h : Sto} {σ : L2.St} {env : Env'} {a b c e o tg : Expr} {ma mb mc me mo : EM} {ta tb : TM} {pos : Pos} {m m1 m2 ms : SM} {vs : List (Key × V)} {us : List (DK × U)} {u x y : U} {v w : V} {k : DK}
theorem kk_inj : ∀ {j k : DK}, kk j = kk k → j = k
  | .inl i, .inl j, e => by simp only [kk] at e; cases e; rfl
  | .inr s, .inr t, e => by
    simp only [kk] at e
    injection e with e
    injection e with e
    rw [show s = t by simpa using congrArg Array.toList e]
  | .inl _, .inr _, e => by simp only [kk] at e; cases e
  | .inr _, .inl _, e => by simp only [kk] at e; cases e
theorem key_rep (r : Rep K g w y) (e : keyU y = some k) : w = kV (kk k) := by
  cases r <;> simp only [keyU] at e <;> cases e <;> rfl
def RelO' (K : Fr) (g : G) : Option V → Option U → Prop
  | none, none => True
  | some v, some u => Rep K g v u
  | _, _ => False
theorem RepK.val (k : DK) : ∀ {vs us}, RepK K g vs us → RelO' K g (valV vs (kk k)) (valD us k)
  | _, _, .nil => True.intro
  | _, _, .cons (k := j) (v := v) (u := u) (vs := vs) (us := us) h r => by
    unfold valD
    by_cases e : j = k
    · rw [if_pos e, valV_pos (p := (kk j, v)) (by rw [e])]; exact h
    · rw [if_neg e, valV_neg (p := (kk j, v)) (fun z => e (kk_inj z))]; exact RepK.val k r
theorem RepK.len : ∀ {vs us}, RepK K g vs us → vs.length = us.length
  | _, _, .nil => rfl
  | _, _, .cons h r => by simp [RepK.len r]
theorem RepK.rep (k : DK) (rv : Rep K g v u) : ∀ {vs us}, RepK K g vs us → RepK K g (vs.map fun kv => if kv.1 = kk k then (kv.1, v) else kv) (repD us k u)
  | _, _, .nil => .nil
  | _, _, .cons (k := j) h r => by
    unfold repD
    rw [List.map_cons]
    by_cases e : j = k
    · rw [if_pos e, if_pos (by rw [e])]; exact .cons rv (RepK.rep k rv r)
    · rw [if_neg e, if_neg (fun z => e (kk_inj z))]; exact .cons h (RepK.rep k rv r)
theorem RepK.app : ∀ {vs us ws ts}, RepK K g vs us → RepK K g ws ts → RepK K g (vs ++ ws) (us ++ ts)
  | _, _, _, _, .nil, s => s
  | _, _, _, _, .cons h r, s => .cons h (RepK.app r s)
theorem relO_some {o : Option V} {o' : Option U} (r : RelO' K g o o') : o.isSome = o'.isSome := by
  cases o <;> cases o' <;> first | rfl | exact r.elim
theorem RepK.put (r : RepK K g vs us) (rv : Rep K g v u) (k : DK) : RepK K g (putK vs (kk k) v) (putD us k u) := by
  unfold putK putD
  rw [valV_any, relO_some (r.val k)]
  split
  · exact r.rep k rv
  · exact r.app (.cons rv .nil)
theorem aDK_of (hr : HR K g H h) (r : Rep K g v x) (e : aDK h x = some us) : ∃ a n vs, v = .ref a ∧ x = .ref n ∧ g.al[n]? = some a ∧ Rd H a (.dK vs) ∧ RepK K g vs us := by
  cases r with
  | ref q =>
    rename_i a n
    simp only [aDK] at e
    split at e
    · rename_i us' e1
      cases e
      obtain ⟨vs, h1, h2⟩ := hr.ob n a _ q e1
      exact ⟨a, n, vs, rfl, rfl, q, .inl h1, h2⟩
    · rename_i us' e1
      cases e
      obtain ⟨od, vs, _, h1, h2⟩ := hr.ob n a _ q e1
      exact ⟨a, n, vs, rfl, rfl, q, .inr ⟨od, h1⟩, h2⟩
    · cases e
  | _ => cases e
/-- {} -/
def mDNew : EM := fun _ h => .ok (.ref h.length) (h ++ [.dK []])
theorem se_dnew : PE X (.Dict [] [] pos) (tM K W mDNew) :=
  PE.weak pe_dnewK fun σ H Q ⟨g, env, h, hr, er, w⟩ p q => w _ _ _ Le.new (hr.new q ⟨[], upd_same, .nil⟩) hr.newRef
def uDGet (x y : U) (h : Sto) : R U := match aDK h x, keyU y with
  | some us, some k => oR (valD us k) h
  | _, _ => .bad
theorem ok_dget : BinOK K (fun x y H Q => ∃ a v, x = .ref a ∧ DGet H a y (some v) ∧ Q v H) uDGet := by
  intro E g H h v w x y Q hr rx ry t
  unfold uDGet at t
  split at t
  · rename_i us k e1 e2
    obtain ⟨a, n, vs, rfl, rfl, ha, h1, r1⟩ := aDK_of hr rx e1
    have q := r1.val k
    cases e3 : valD us k with
    | none => rw [e3] at t; exact t.elim
    | some u =>
      rw [e3] at t q
      cases e4 : valV vs (kk k) with
      | none => rw [e4] at q; exact q.elim
      | some z =>
        rw [e4] at q
        refine ⟨a, z, rfl, ?_, t _ _ g (Le.refl _) hr q⟩
        rw [key_rep ry e2, ← e4]
        exact .inl ⟨vs, _, h1, rfl, rfl⟩
  · exact t.elim
theorem se_dget (hu : X.A.units + 1 < cLine) (ha : PE X a (tM X.K W ma)) (hb : PE X b (tM X.K W mb)) (hs : NoSl b := by exact fun _ _ => rfl) : PE X (.Subscript a b pos) (tM X.K W (mBin uDGet ma mb)) :=
  PE.weak (pe_dget hu ha hb hs) fun σ H Q t => bin_to (r := fun x y H Q => ∃ a v, x = .ref a ∧ DGet H a y (some v) ∧ Q v H) ok_dget t
def cDIn (h : Sto) (y x : U) : Option Bool := match aDK h x, keyU y with
  | some us, some k => some (valD us k).isSome
  | _, _ => none
def cDNin (h : Sto) (y x : U) : Option Bool := match aDK h x, keyU y with
  | some us, some k => some (!(valD us k).isSome)
  | _, _ => none
theorem ok_din : CmpOK K (fun y x H Q => ∃ a o, x = .ref a ∧ DGet H a y o ∧ Q (.bl o.isSome) H) cDIn := fun g H h v w x y b Q hr rx ry e q => by
  unfold cDIn at e
  split at e
  · rename_i us k e1 e2
    cases e
    obtain ⟨a, n, vs, rfl, rfl, ha, h1, r1⟩ := aDK_of hr ry e1
    refine ⟨a, _, rfl, ?_, by rw [← relO_some (r1.val k)] at q; exact q⟩
    rw [key_rep rx e2]
    exact .inl ⟨vs, _, h1, rfl, rfl⟩
  · cases e
theorem ok_dnin : CmpOK K (fun y x H Q => ∃ a o, x = .ref a ∧ DGet H a y o ∧ Q (.bl (!o.isSome)) H) cDNin := fun g H h v w x y b Q hr rx ry e q => by
  unfold cDNin at e
  split at e
  · rename_i us k e1 e2
    cases e
    obtain ⟨a, n, vs, rfl, rfl, ha, h1, r1⟩ := aDK_of hr ry e1
    refine ⟨a, _, rfl, ?_, by rw [← relO_some (r1.val k)] at q; exact q⟩
    rw [key_rep rx e2]
    exact .inl ⟨vs, _, h1, rfl, rfl⟩
  · cases e
theorem bt_din (hu : X.A.units + 1 < cLine) (ha : PE X a (tM K W ma)) (hb : PE X b (tM K W mb)) (h1 : behindInMarks .In b = false := by first | exact nobehind _ (by decide) (by decide) | rfl) : PT X (.Compare a [.In] [b] pos) (bM K W (bCmp cDIn ma mb)) :=
  PT.weak (pt_cmp (pc_din hu ha hb) h1) fun σ H Q t => show tOp (fun y x H Q => ∃ a o, x = .ref a ∧ DGet H a y o ∧ Q (.bl o.isSome) H) (tM K W ma) (tM K W mb) σ H (fun v H => ∃ c, v = .bl c ∧ Q c H) from cmp_to ok_din t fun b H q => ⟨b, rfl, q⟩
theorem bt_dnin (hu : X.A.units + 1 < cLine) (ha : PE X a (tM K W ma)) (hb : PE X b (tM K W mb)) (h1 : behindInMarks .NotIn b = false := by first | exact nobehind _ (by decide) (by decide) | rfl) : PT X (.Compare a [.NotIn] [b] pos) (bM K W (bCmp cDNin ma mb)) :=
  PT.weak (pt_cmp (pc_dnotin hu ha hb) h1) fun σ H Q t => show tOp (fun y x H Q => ∃ a o, x = .ref a ∧ DGet H a y o ∧ Q (.bl (!o.isSome)) H) (tM K W ma) (tM K W mb) σ H (fun v H => ∃ c, v = .bl c ∧ Q c H) from cmp_to ok_dnin t fun b H q => ⟨b, rfl, q⟩
/-- o[i] = e of a dict -/
def uDSet (x y z : U) (h : Sto) : Option Sto := match x with
  | .ref n => (match h[n]?, keyU y with
    | some (.dK us), some k => if us.length < 16000000 then some (h.set n (.dK (putD us k z))) else none
    | _, _ => none)
  | _ => none
def rDSet : TSet := fun o i v H Q => ∃ a H4, o = .ref a ∧ DPut H a i v H4 ∧ Q H4
theorem ok_dset : SetOK K rDSet uDSet := fun g H h vx vy vz x y z h' Q hr rx ry rz e k => by
  unfold uDSet at e
  split at e
  · split at e
    · rename_i us kx e1 e2
      split at e
      · rename_i z1
        cases e
        cases rx with
        | ref ha =>
        rename_i a
        obtain ⟨vs, h1, r1⟩ := hr.ob _ a _ ha e1
        refine ⟨a, _, rfl, ?_, k _ (hr.set ha (fun _ _ z => by rw [h1] at z; cases z) ⟨_, upd_same, r1.put rz kx⟩)⟩
        rw [key_rep ry e2]
        exact DPut.k h1 (by rw [r1.len]; exact sz16l z1)
      · cases e
    · cases e
  · cases e
theorem ss_dset {i : Expr} {ix : EM} {tpos : Pos} (hu : X.A.units + 1 < cLine) (he : PE X e (tM K W me)) (ho : PE X o (tM K W mo)) (hi : PE X i (tM K W ix)) (hs : swapsWith e (some (.Subscript o i tpos)) pos.line X.env = pure false := by rfl) :
    PS X (.Assign [.Subscript o i tpos] e pos) (sM K W (mSetI uDSet mo ix me)) :=
  PS.weak (ps_dput hu ho hi he hs) fun D σ H q => seti_to (r := rDSet) ok_dset q
/-- len of a dict -/
def uDLen (us : List U) (h : Sto) : R U := match us with
  | [x] => (match aDK h x with
    | some us => .ok (.int us.length) h
    | none => .bad)
  | _ => .bad
theorem call_dlen : CallR X (.builtin "len") (fun xs H Q => ∃ a kvs, xs = [V.ref a] ∧ Rd H a (.dK kvs) ∧ Q (.int kvs.length) H) := by
  intro pins s σ H xs us Q I r h
  obtain ⟨a, kvs, rfl, ha, q⟩ := h
  obtain ⟨u, rfl, ru⟩ := vals1 r
  cases ru
  exact d_len I ha fun t s' I' => ⟨.int kvs.length, H, I', ⟨t, rfl⟩, q⟩
theorem ok_dlen : CallOK K (fun xs H Q => ∃ a kvs, xs = [V.ref a] ∧ Rd H a (.dK kvs) ∧ Q (.int kvs.length) H) uDLen := by
  intro E g H h vs us Q hr rvs t
  unfold uDLen at t
  split at t
  · rename_i x
    split at t
    · rename_i us e1
      cases rvs with
      | cons r1 r2 =>
        cases r2
        obtain ⟨a, n, vs, rfl, rfl, ha, h1, r1⟩ := aDK_of hr r1 e1
        exact ⟨a, vs, rfl, h1, by rw [r1.len]; exact t _ _ g (Le.refl _) hr (.int _)⟩
    · exact t.elim
  · exact t.elim
/-- dict(d): a copy -/
def uDCopy (us : List U) (h : Sto) : R U := match us with
  | [x] => (match aDK h x with
    | some us => .ok (.ref h.length) (h ++ [.dK us])
    | none => .bad)
  | _ => .bad
/-! ### displays -/
def pairsD : List U → Option (List (DK × U))
  | [] => some []
  | k :: v :: r => (match keyU k, pairsD r with
    | some k, some kvs => some ((k, v) :: kvs)
    | _, _ => none)
  | _ => none
def mergeD (kvs more : List (DK × U)) : List (DK × U) := more.foldl (fun acc kv => putD acc kv.1 kv.2) kvs
def flat2 (ps : List (V × V)) : List V := ps.flatMap fun p => [p.1, p.2]
theorem RepK.merge : ∀ {more : List (DK × U)} {ms : List (Key × V)} {kvs vs}, RepK K g ms more → RepK K g vs kvs → RepK K g (mergeK vs ms) (mergeD kvs more)
  | _, _, _, _, .nil, r => r
  | _, _, kvs, vs, .cons (k := k) (v := v) (u := u) (vs := ms) (us := more) h t, r => show RepK K g (mergeK (putK vs (kk k) v) ms) (mergeD (putD kvs k u) more) from RepK.merge t (r.put h k)
structure Prs (X : Cx) (K : Fr) (W : WX) (pos : Pos) (ks : List (Option Expr)) (vs : List Expr) (am : AM) : Prop where
  go : ∃ trs, PPs X pos ks vs trs ∧ ∀ σ H (Q : List V → Hp → Prop) (P : List (V × V) → Hp → Prop), aM K W am σ H Q → (∀ ps H', Q (flat2 ps) H' → P ps H') → tPairs trs σ H P
def mDisp (am : AM) : EM := fun env h => (am env (h ++ [.dK []])).bind fun us h1 => match pairsD us, h1[h.length]? with
  | some kvs, some (.dK []) => if kvs.length ≤ 15 then .ok (.ref h.length) (h1.set h.length (.dK (mergeD [] kvs))) else .bad
  | _, _ => .bad
/-! ### a walk over a dict: it is locked for good -/
def lockU (x : U) (h1 : Sto) : R U := match x with
  | .ref n => (match h1[n]? with
    | some (.dK us) => .ok (.ref n) (h1.set n (.dKl us))
    | some (.dKl us) => .ok (.ref n) h1
    | _ => .bad)
  | _ => .bad
def mLock (m : EM) : EM := fun env h => (m env h).bind lockU
theorem se_lock {e : Expr} {m : EM} (he : PE X e (tM K W m)) : PE X e (tM K W (mLock m)) := by
  refine ⟨fun pins s σ H Q I ⟨g, env, h, hr, er, w⟩ => ?_⟩
  have := he.run pins s σ H (fun v H1 => ∃ g1 h1 x, HR K g1 H1 h1 ∧ Rep K g1 v x ∧ WE K (atSl W σ) g1 (lockU x h1) Q) I
    ⟨g, env, h, hr, er, wE w fun u h1 v H1 g1 l1 hr1 rv w1 => ⟨g1, h1, u, hr1, rv, w1⟩⟩
  refine thn this fun v s1 ⟨x, H1, I1, rx, g1, h1, u, hr1, rv, w1⟩ => ?_
  unfold lockU at w1
  split at w1
  · rename_i n
    split at w1
    · rename_i us e1
      cases rv with
      | ref q =>
        rename_i a
        obtain ⟨vs, b1, b2⟩ := hr1.ob _ a _ q e1
        obtain ⟨od, I2⟩ := I1.lock b1 True.intro
        obtain ⟨l, hr2⟩ := hr1.lock q b1 b2 od
        exact ⟨.ref a, _, I2, rx, w1 _ _ _ l hr2 (.ref q)⟩
    · rename_i us e1
      exact ⟨_, _, I1, rx, w1 _ _ _ (Le.refl _) hr1 rv⟩
    · exact w1.elim
  · exact w1.elim
def dkU : DK → U
  | .inl i => .int i
  | .inr s => .str s
theorem rep_key (k : DK) : Rep K g (kV (kk k)) (dkU k) := by
  cases k with
  | inl i => exact .int i
  | inr s => exact .str s
theorem RepK.get : ∀ {vs us} {i : Nat} {k : Key} {v : V}, RepK K g vs us → vs[i]? = some (k, v) → ∃ j u, us[i]? = some (j, u) ∧ k = kk j
  | _, _, _, _, _, .nil, h => by simp at h
  | _, _, 0, _, _, .cons h r, e => by simp at e; exact ⟨_, _, rfl, e.1.symm⟩
  | _, _, i + 1, _, _, .cons h r, e => by simpa using RepK.get (i := i) r (by simpa using e)
theorem it_keys {a : Addr} {od : Obj} {vs : List (Key × V)} {us : List (DK × U)} (q : g.F a = some (.frz od (.dK vs))) (r : RepK K g vs us) : ItOk K g (Itk a od vs) [] (us.map fun p => dkU p.1) where
  go := fun g' H h i l hr _ hi => ⟨hr.ex _ _ (l.F _ _ q), by rw [r.len]; simpa using hi⟩
  stop := fun g' H h l hr _ => ⟨hr.ex _ _ (l.F _ _ q), by rw [r.len]; simp⟩
  yl := fun g' H h i x H' l hr _ hi y => by
    obtain ⟨rfl, k, v, y, rfl⟩ := y
    obtain ⟨j, u, hu, rfl⟩ := r.get y
    exact ⟨g', dkU j, Le.refl _, hr, by simp [hu], rep_key j⟩
def itKeys (a : EM) : IM' := fun env h => (mLock a env h).bind fun x h1 => match aDK h1 x with
  | some us => .ok ([], us.map fun p => dkU p.1) h1
  | none => .bad
theorem mLock_is {m : EM} {env : Env'} {h h1 : Sto} {x : U} (e : mLock m env h = .ok x h1) : ∃ n us, x = .ref n ∧ h1[n]? = some (.dKl us) := by
  unfold mLock at e
  cases q : m env h with
  | ok y h2 =>
    rw [q] at e
    have e : lockU y h2 = R.ok x h1 := e
    unfold lockU at e
    split at e
    · split at e
      · rename_i n _ us e2; cases e; exact ⟨_, us, rfl, by rw [List.getElem?_set_self (List.getElem?_eq_some_iff.mp e2).1]⟩
      · rename_i n _ us e2; cases e; exact ⟨_, us, rfl, e2⟩
      · cases e
    · cases e
  | bad => rw [q] at e; cases e
  | exc C n h => rw [q] at e; cases e
theorem si_keys (he : PE X e (tM X.K W me)) : PI X tg e (iM X.K W (itKeys me)) :=
  PI.weak (pi_keys (se_lock he)) fun σ H P ⟨g, env, h, hr, er, w⟩ => ⟨g, env, h, hr, er, by
    unfold itKeys at w
    cases q : mLock me env h with
    | bad => rw [q] at w; exact w.elim
    | exc C n h => rw [q] at w; exact w
    | ok x h1 =>
      rw [q] at w
      obtain ⟨n, us, rfl, e1⟩ := mLock_is q
      intro v H1 g1 l1 hr1 rv
      cases rv with
      | ref qa =>
        rename_i a
        obtain ⟨od, vs, f, b, r⟩ := hr1.ob _ a _ qa e1
        have w : WI X.K (atSl W σ) g (match aDK h1 (.ref n) with | some us => R.ok ([], us.map fun p => dkU p.1) h1 | none => .bad) P := w
        rw [show aDK h1 (.ref n) = some us by simp only [aDK, e1]] at w
        exact ⟨a, od, rfl, .inl ⟨vs, b, w _ _ g1 l1 hr1 (it_keys f r)⟩⟩⟩
theorem hu1 {A : Around} {k : Nat} (hr : Room k A) : A.units + 1 < cLine := by have := hu64 hr; omega
end
section
variable {X : Cx} {W : WX} {e : Expr} {es : List Expr} {am : AM} {pos p : Pos} {n : Str}
variable (hg : Gl X n) (hm : X.mg n = none) (ha : PA X (e :: es) (aM X.K W am)) (hn : n ≠ "__name__" := by decide) (hdb : (n == ("__debug__" : Str)) = false := by decide)
    (he : starEach (e :: es) X.env = (false, eval e X.env) :: starEach es X.env := by rfl) (hpl : (backTo pos (starEach es X.env)).any (·.1) = false := by rfl)
include hg hm ha hn hdb he hpl
theorem se_dlen (hv : bootBuiltins n = some (.builtin "len") := by decide +kernel) : PE X (.Call (.Name n p) (e :: es) [] pos) (tM X.K W (mCB uDLen am)) := se_cb call_dlen ok_dlen hg hm hv ha hn hdb he hpl
end
end Q

set_option Elab.async false
set_option linter.all false
set_option maxRecDepth 100000
set_option maxHeartbeats 1000000
/-! QE: more built-ins on lists: sum, max, min, any, all, sorted. -/
namespace Q
open PySem PySem.Spec PyProof.Rows L2 TL
section
variable {K : Fr} {g g' : G} {E : XK} {W : WX} {X : Cx} {H : Hp} {h : Sto} {v w : V} {x y : U} {σ : L2.St} {env : Env'} {e : Expr} {es : List Expr} {am : AM} {pos p : Pos} {n : Str}
def intsU : List U → Option (List Int)
  | [] => some []
  | .int i :: r => (intsU r).map (i :: ·)
  | _ :: _ => none
def blsU : List U → Option (List Bool)
  | [] => some []
  | .bl i :: r => (blsU r).map (i :: ·)
  | _ :: _ => none
/-- a function of the ints of a list -/
def uLI (f : List Int → Option U) (us : List U) (h : Sto) : R U := match us with
  | [x] => match aL h x with
    | some xs => (match intsU xs with
      | some ns => (match f ns with
        | some u => .ok u h
        | none => .bad)
      | none => .bad)
    | none => .bad
  | _ => .bad
def uLB (f : List Bool → U) (us : List U) (h : Sto) : R U := match us with
  | [x] => match aL h x with
    | some xs => (match blsU xs with
      | some ns => .ok (f ns) h
      | none => .bad)
    | none => .bad
  | _ => .bad
def maxL : List Int → Option Int
  | [] => none
  | i :: r => some (r.foldl (fun a b => if b > a then b else a) i)
def minL : List Int → Option Int
  | [] => none
  | i :: r => some (r.foldl (fun a b => if b < a then b else a) i)
abbrev uSum := uLI fun ns => some (.int ns.sum)
abbrev uMax1 := uLI fun ns => (maxL ns).map U.int
abbrev uMin1 := uLI fun ns => (minL ns).map U.int
abbrev uAny := uLB fun bs => .bl (bs.any id)
abbrev uAll := uLB fun bs => .bl (bs.all id)
/-! sorted -/
def insI (i : Int) : List Int → List Int
  | [] => [i]
  | j :: r => if i ≤ j then i :: j :: r else j :: insI i r
def sortI (ns : List Int) : List Int := ns.foldr insI []
def uSortI (us : List U) (h : Sto) : R U := match us with
  | [x] => match aL h x with
    | some xs => (match intsU xs with
      | some ns => .ok (.ref h.length) (h ++ [.lst ((sortI ns).map U.int)])
      | none => .bad)
    | none => .bad
  | _ => .bad
section
variable (hg : Gl X n) (hm : X.mg n = none) (ha : PA X (e :: es) (aM X.K W am)) (hn : n ≠ "__name__" := by decide) (hdb : (n == ("__debug__" : Str)) = false := by decide)
    (he : starEach (e :: es) X.env = (false, eval e X.env) :: starEach es X.env := by rfl) (hpl : (backTo pos (starEach es X.env)).any (·.1) = false := by rfl)
include hg hm ha hn hdb he hpl
end
end
end Q

set_option Elab.async false
set_option linter.all false
set_option maxRecDepth 100000
set_option maxHeartbeats 1000000
/-! QT: texts and written values of the top: ord, index, char in text, text * number, chains of comparisons, global texts and tuples. -/
namespace Q
open PySem PySem.Spec PyProof.Rows L2 TL
open Builtin Builtin.Str
/-! ### the first place of a sign -/
section
variable {K : Fr} {g g' : G} {E : XK} {W : WX} {X : Cx} {H : Hp} {h : Sto} {v w : V} {x y : U} {σ : L2.St} {env : Env'} {a b c o e : Expr} {es : List Expr} {am : AM} {ma mb mc mo me : EM} {pos p apos cpos : Pos} {n : Str}
/-! ### written values of the top -/
/-- a tuple of the written part -/
def KT (K : Fr) (a : Addr) (vs : List V) : Prop := ∃ (o : Obj) (its : Array Value) (n : Nat), K.lookup a = some o ∧ o.cls = .type "tuple" ∧ o.dict = none ∧ o.data = .seq its n ∧ its.size ≤ sizeLine ∧ Vals vs its.toList
/-! ### ord -/
def uOrd (us : List U) (h : Sto) : R U := match us with
  | [.str [c]] => .ok (.int c) h
  | _ => .bad
/-! ### chains of comparisons -/
def mChain (f f' : Sto → U → U → Option Bool) (a b c : EM) : EM := fun env h => (a env h).bind fun x h1 => (b env h1).bind fun y h2 => (oB (f h2 x y) h2).bind fun k h3 => if k = true then (c env h3).bind fun z h4 => (oB (f' h4 y z) h4).bind fun k h5 => .ok (.bl k) h5 else .ok (.bl false) h3
def bChain (f f' : Sto → U → U → Option Bool) (a b c : EM) : TM := fun env h => (a env h).bind fun x h1 => (b env h1).bind fun y h2 => (oB (f h2 x y) h2).bind fun k h3 => if k = true then (c env h3).bind fun z h4 => oB (f' h4 y z) h4 else .ok false h3
theorem reps_strs : ∀ ss : List (List Nat), Reps K g ((ss.map fun s => (⟨s.toArray⟩ : Str)).map V.str) (ss.map U.str)
  | [] => .nil
  | s :: r => .cons (.str s) (reps_strs r)
/-! ### text * number -/
def uMulS (x y : U) (h : Sto) : R U := match x, y with
  | .str s, .int k => if s.length * k.toNat ≤ 16000000 ∧ k.natAbs ≤ 1000000000 then .ok (.str (List.replicate k.toNat s).flatten) h else .bad
  | _, _ => .bad
/-! ### a sign in a text -/
def cInS (_ : Sto) (x y : U) : Option Bool := match x, y with
  | .str [c], .str z => some (decide (c ∈ z))
  | _, _ => none
def cNinS (h : Sto) (x y : U) : Option Bool := (cInS h x y).map not
/-! ### index -/
def uIndexS (x : U) (y : U) (h : Sto) : R U := match x, y with
  | .str s, .str [c] => (match s.findIdx? (· == c) with
    | some i => .ok (.int i) h
    | none => .bad)
  | _, _ => .bad
def uIndexL (x : U) (us : List U) (h : Sto) : R U := match us with
  | [y] => (match aL h x with
    | some us => if us.all flatU = true ∧ flatU y = true then (match us.findIdx? (fun z => eqF z y) with
      | some i => .ok (.int i) h
      | none => .bad) else .bad
    | none => .bad)
  | _ => .bad
def uIndexT (us : List U) (ts : List U) (h : Sto) : R U := match ts with
  | [.str z] => (match strsOf us with
    | some ss => (match ss.findIdx? (· == z) with
      | some i => .ok (.int i) h
      | none => .bad)
    | none => .bad)
  | _ => .bad
section
variable (ha : PA X (e :: es) (aM X.K W am))
    (hfew : ((backTo cpos (starEach (e :: es) X.env)).all (fun x => !x.1) && (backToKw cpos (keywordEach [] X.env)).all (fun x => x.1.isSome)
      && decide ((e :: es).length + ([] : List Keyword).length + (if ([] : List Keyword).isEmpty then 0 else 1) < 30)) = true := by rfl)
    (hline : (apos.endLine == cpos.line) = true := by rfl) (hs : starEach (e :: es) X.env = (false, eval e X.env) :: starEach es X.env := by rfl) (hplain : (backTo cpos (starEach es X.env)).any (·.1) = false := by rfl)
include ha hfew hline hs hplain
end
end
end Q

set_option Elab.async false
set_option linter.all false
set_option maxRecDepth 100000
set_option maxHeartbeats 1000000
/-! QA: except X as e, where e is only asked for its class. -/
namespace Q
open PySem PySem.Spec PyProof.Rows L2 TL
/-- the name of the exception goes -/
def RS.cl (i : Nat) : RS → RS
  | .nx e h => .nx (e.set i none) h
  | .rt u h => .rt u h
  | .bk e h => .bk (e.set i none) h
  | .ct e h => .ct (e.set i none) h
  | .ex _ _ _ _ => .bad
  | .bad => .bad
def mTryAs (i : Nat) (ys : List Nat) (mb ms : SM) : SM := fun env h => match mb env h with
  | .ex C n env1 h1 => if C ∈ ys ∧ n = none ∧ i < env1.length then (ms (env1.set i none) h1).cl i else .bad
  | r => r
def mIsE (i a : Nat) (b : Bool) : EM := fun env h => match env[i]? with
  | some (some (.xv a' none _ none)) => if a' = a then .ok (.bl b) h else .bad
  | _ => .bad
section
variable {K : Fr} {g g' : G} {E : XK} {W W0 : WX} {X : Cx} {H : Hp} {h : Sto} {σ : L2.St} {env : Env'} {m1 ms : SM} {mx : Nat → SM} {pos : Pos}
theorem WS.cl {r : RS} {D : Ends} {i : Nat} {W' : WX} (w : WS K W g (r.cl i) D) : WS K W' g r { nx := fun σ' H' => D.nx (σ'.set i none) H', rt := D.rt, bk := fun σ' H' => D.bk (σ'.set i none) H', ct := fun σ' H' => D.ct (σ'.set i none) H' } := by
  cases r with
  | nx e h => exact fun σ H g' l hr er => w _ H g' l hr (er.none i)
  | rt u h => exact w
  | bk e h => exact fun σ H g' l hr er => w _ H g' l hr (er.none i)
  | ct e h => exact fun σ H g' l hr er => w _ H g' l hr (er.none i)
  | ex C n e h => exact w.elim
  | bad => exact w.elim
end
end Q

set_option Elab.async false
set_option linter.all false
set_option maxRecDepth 100000
set_option maxHeartbeats 1000000
/-! QR: str(number), list.pop(). -/
namespace Q
open PySem PySem.Spec PyProof.Rows L2 TL
/-- the signs of a number -/
def sInt (i : Int) : List Nat := (toString i).toList.map Char.toNat
section
variable {K : Fr} {g g' : G} {E : XK} {W : WX} {X : Cx} {H : Hp} {h : Sto} {v w : V} {x y : U} {σ : L2.St} {env : Env'} {a b c o e : Expr} {es : List Expr} {am : AM} {ma mb mc mo me : EM} {pos p apos cpos : Pos} {n : Str}
def uStr (us : List U) (h : Sto) : R U := match us with
  | [.int i] => if i.natAbs.log2 < 1920 then .ok (.str (sInt i)) h else .bad
  | _ => .bad
theorem ok_str : CallOK K (fun xs H Q => ∃ i : Int, xs = [.int i] ∧ i.natAbs.log2 < 1920 ∧ Q (.str (toString i)) H) uStr := by
  intro E g H h vs us Q hr rv t
  unfold uStr at t
  split at t
  · rename_i i
    split at t
    · rename_i z
      cases rv with
      | cons r1 r2 =>
        cases r2
        cases r1
        refine ⟨i, rfl, z, ?_⟩
        have : ((toString i : String) : Str) = ⟨(sInt i).toArray⟩ := Str.ofString_eq_toList _
        rw [this]
        exact t _ _ g (Le.refl _) hr (.str _)
    · exact t.elim
  · exact t.elim
/-! ### pop -/
def mLM0 (f : U → List U → Sto → R U) (o : EM) : EM := fun env h => (o env h).bind fun x h1 => if (aL h1 x).isSome = true then f x [] h1 else .bad
theorem lm0_to {r : V → List V → Hp → VK → Prop} {f : U → List U → Sto → R U} {Q : VK} (ok : MtOK K r f) (q : tM K W (mLM0 f mo) σ H Q) : tBM0 K "list" r (tM K W mo) σ H Q := by
  obtain ⟨g, env, h, hr, er, w⟩ := q
  refine ⟨g, env, h, hr, er, wE w fun u h1 v H1 g1 l1 hr1 rv w1 => ?_⟩
  cases ea : aL h1 u with
  | none => rw [ea] at w1; exact w1.elim
  | some us =>
    rw [ea] at w1
    obtain ⟨a, vs, rfl, h2, r2⟩ := aL_of hr1 rv ea
    exact ⟨.inl ⟨rfl, vs, h2⟩, ok _ g1 H1 h1 _ u [] [] Q hr1 rv .nil w1⟩
def uPop (x : U) (us : List U) (h : Sto) : R U := match x, us with
  | .ref n, [] => (match h[n]? with
    | some (.lst xs) => (match xs[xs.length - 1]? with
      | some y => .ok y (h.set n (.lst xs.dropLast))
      | none => .bad)
    | _ => .bad)
  | _, _ => .bad
theorem ok_pop : MtOK K rPop uPop := by
  intro E g H h v x vs us Q hr rx rvs t
  unfold uPop at t
  split at t
  · rename_i n
    split at t
    · rename_i xs e1
      split at t
      · rename_i y e2
        cases rx with
        | ref q =>
          rename_i a
          cases rvs
          obtain ⟨ws, h1, h2⟩ := hr.ob n a _ q e1
          obtain ⟨w, hw, rw'⟩ := h2.get e2
          exact ⟨a, ws, w, rfl, rfl, h1, by rw [h2.len]; exact hw, t _ _ g (Le.refl _) (hr.setLst q h1 h2.dropLast) rw'⟩
      · exact t.elim
    · exact t.elim
  · exact t.elim
theorem se_pop (ho : PE X o (tM X.K W mo)) (hbase : attributeBase o "pop" X.env (eval o X.env) = eval o X.env := by rfl) (hline : (apos.endLine == cpos.line) = true := by rfl) :
    PE X (.Call (.Attribute o "pop" apos) [] [] cpos) (tM X.K W (mLM0 uPop mo)) :=
  PE.weak (pe_bm0 PySem.F.plainAttrs_list PySem.F.slot_list_pop PySem.F.type_list_pop mt_pop ho hbase hline) fun σ H Q q => lm0_to ok_pop q
/-! ### insert -/
def uIns (x : U) (us : List U) (h : Sto) : R U := match x, us with
  | .ref n, [.int i, y] => (match h[n]? with
    | some (.lst xs) => if xs.length < 16000000 ∧ 0 ≤ i ∧ i < 1000000000000000000 then .ok .non (h.set n (.lst (xs.take i.toNat ++ [y] ++ xs.drop i.toNat))) else .bad
    | _ => .bad)
  | _, _ => .bad
/-! ### [::-1] of a list -/
def uRev (x : U) (h : Sto) : R U := match aL h x with
  | some us => .ok (.ref h.length) (h ++ [.lst us.reverse])
  | none => .bad
def mRev (a : EM) : EM := fun env h => (a env h).bind uRev
/-! ### range downwards -/
/-- hi, hi - 1, .. -/
def rngD (hi : Int) (n : Nat) : List U := (List.range n).map fun i => .int (hi - (i : Nat))
def itR3 (am : AM) : IM' := fun env h => (am env h).bind fun us h1 => match us with
  | [.int i, .int j, .int c] => if (-1000000000 ≤ i ∧ i ≤ 1000000000) ∧ (-1000000000 ≤ j ∧ j ≤ 1000000000) ∧ c = -1 then .ok ([], rngD i (i - j).toNat) h1 else .bad
  | _ => .bad
end
end Q

set_option Elab.async false
set_option linter.all false
set_option maxRecDepth 100000
set_option maxHeartbeats 1000000
/-! QL: a list comprehension out of which an exception comes. -/
namespace PySem
open HandSPX
section
variable {M : Model} {A : Around} {E : Value → Shared → Prop} {s : Shared} {Z : Obj → Prop} {base : Heap} {env c : Env} {outer l : List Env} {L e : Addr}
end
end PySem
namespace L2
open PySem PySem.Spec PyProof.Rows
section
variable {X : Cx} {pins : List (Addr × Obj)} {σ : L2.St} {H3 H' : Hp} {s3 sI s' : Shared} {B h' : Heap} {W : WX}
/-- the block's context, its exceptions taken by xe -/
abbrev Cx.blkX (X : Cx) (s : Shared) (H : Hp) (scope : Scope) (cenv : Env) (fp : List Addr) (xe : Value → Shared → Prop) : Cx := { X.blk s H scope cenv fp with xe := xe }
end
end L2

set_option Elab.async false
set_option linter.all false
set_option maxRecDepth 100000
set_option maxHeartbeats 1000000
/-! QM: comprehensions whose items may raise. -/
namespace Q
open PySem PySem.Spec PyProof.Rows L2 TL
section
variable {K : Fr} {g g' : G} {E : XK} {W : WX} {X : Cx} {H : Hp} {h : Sto} {σ : L2.St} {env : Env'} {tg iter elt : Expr} {ct : CT} {mi : IM'} {ta : TM} {me : EM} {ifs : List Expr} {scope : Scope} {own : List (Str × Nat)} {pos : Pos}
open Classical in
noncomputable def lcLX (c : Chk) (ct : CT) (t : TM) (me : EM) (n : Nat) (env : Env') : List U → Sto → R U
  | [], h => if chkOk c h then .ok (.ref n) h else .bad
  | u :: us, h => if chkOk c h then (match ct.asg u env h with
      | some env1 => (t env1 h).no.bind fun b h1 => if b = true then (me env1 h1).bind fun y h2 => (match h2[n]? with
          | some (.lst acc) => if acc.length < 16000000 then lcLX c ct t me n env us (h2.set n (.lst (acc ++ [y]))) else .bad
          | _ => .bad) else lcLX c ct t me n env us h1
      | none => .bad) else .bad
noncomputable def mLcX (mi : IM') (ct : CT) (t : TM) (me : EM) (vs : List Nat) : EM := fun env h => (mi env h).bind fun z h1 => lcLX z.1 ct t me h1.length (wipeE env vs) z.2 (h1 ++ [.lst []])
abbrev BlkX (X : Cx) (scope : Scope) (P : Cx → Prop) : Prop := ∀ (s : Shared) (H : Hp) (C : Addr) (cl : List (Str × Addr)) (fp : List Addr) (xe : Value → Shared → Prop), P (X.blkX s H scope (compEnvC scope cl C X.env) fp xe)
end
end Q

set_option Elab.async false
set_option linter.all false
set_option maxRecDepth 100000
set_option maxHeartbeats 1000000
/-! QS: sorted of texts, sorted and list of a dict. -/
namespace Q
open PySem PySem.Spec PyProof.Rows L2 TL
def ltL : List Nat → List Nat → Bool
  | [], [] => false
  | [], _ :: _ => true
  | _ :: _, [] => false
  | a :: r, b :: t => a < b || (a == b && ltL r t)
theorem ltL_eq : ∀ a b, ltL a b = ltCps a b
  | [], [] => rfl
  | [], _ :: _ => rfl
  | _ :: _, [] => rfl
  | a :: r, b :: t => by unfold ltL ltCps; rw [ltL_eq r t]
theorem ltL_iff : ∀ {a b : List Nat}, ltL a b = true ↔ a < b
  | [], [] => by simp [ltL]
  | [], b :: t => by simp [ltL]
  | a :: r, [] => by simp [ltL]
  | a :: r, b :: t => by
    unfold ltL
    rw [List.cons_lt_cons_iff, ← ltL_iff (a := r) (b := t)]
    simp
theorem ltL_f {a b : List Nat} : ltL a b = false ↔ b ≤ a := by
  rw [← List.not_lt, ← ltL_iff]; simp
def insS (x : List Nat) : List (List Nat) → List (List Nat)
  | [] => [x]
  | y :: r => if ltL y x = true then y :: insS x r else x :: y :: r
def sortS (ss : List (List Nat)) : List (List Nat) := ss.foldr insS []
theorem insS_perm : ∀ {x : List Nat} {r : List (List Nat)}, (insS x r).Perm (x :: r)
  | x, [] => .refl _
  | x, y :: r => by
    unfold insS
    split
    · exact ((insS_perm (r := r)).cons y).trans (.swap x y r)
    · exact .refl _
theorem insS_srt : ∀ {x : List Nat} {r : List (List Nat)}, r.Pairwise (· ≤ ·) → (insS x r).Pairwise (· ≤ ·)
  | x, [], _ => by simp [insS]
  | x, y :: r, p => by
    rw [List.pairwise_cons] at p
    unfold insS
    split
    · rename_i c
      have c := ltL_iff.mp c
      refine List.pairwise_cons.mpr ⟨fun z hz => ?_, insS_srt p.2⟩
      rcases List.mem_cons.mp (insS_perm.mem_iff.mp hz) with rfl | hz
      · exact List.le_of_lt c
      · exact p.1 z hz
    · rename_i c
      have c := ltL_f.mp (by simpa using c)
      refine List.pairwise_cons.mpr ⟨fun z hz => ?_, List.pairwise_cons.mpr p⟩
      rcases List.mem_cons.mp hz with rfl | hz
      · exact c
      · exact List.le_trans c (p.1 z hz)
theorem sortS_perm : ∀ {ss : List (List Nat)}, (sortS ss).Perm ss
  | [] => .refl _
  | x :: r => insS_perm.trans ((sortS_perm (ss := r)).cons x)
theorem sortS_srt : ∀ {ss : List (List Nat)}, (sortS ss).Pairwise (· ≤ ·)
  | [] => .nil
  | x :: r => insS_srt (sortS_srt (ss := r))
theorem srtS_uniq : ∀ {xs ys : List (List Nat)}, xs.Perm ys → xs.Pairwise (· ≤ ·) → ys.Pairwise (· ≤ ·) → xs = ys
  | [], ys, p, _, _ => by rw [List.nil_perm.mp p]
  | x :: xs, [], p, _, _ => by have := p.length_eq; simp at this
  | x :: xs, y :: ys, p, a, b => by
    rw [List.pairwise_cons] at a b
    have e : x = y := by
      have h1 : x ∈ y :: ys := p.mem_iff.mp List.mem_cons_self
      have h2 : y ∈ x :: xs := p.mem_iff.mpr List.mem_cons_self
      rcases List.mem_cons.mp h1 with h1 | h1
      · exact h1
      · rcases List.mem_cons.mp h2 with h2 | h2
        · exact h2.symm
        · exact List.le_antisymm (a.1 _ h2) (b.1 _ h1)
    subst e
    rw [srtS_uniq (p.cons_inv) a.2 b.2]
theorem rising_pw : ∀ {r : List Str} {p : Str}, risingS p r = true → (∀ z ∈ r, p.cps.toList ≤ z.cps.toList) ∧ (r.map fun s => s.cps.toList).Pairwise (· ≤ ·)
  | [], _, _ => ⟨(fun _ m => nomatch m), .nil⟩
  | x :: r, p, h => by
    unfold risingS at h
    rw [Bool.and_eq_true, Bool.not_eq_true', ← ltL_eq, ltL_f] at h
    obtain ⟨a, b⟩ := rising_pw h.2
    refine ⟨fun z hz => ?_, ?_⟩
    · rcases List.mem_cons.mp hz with rfl | hz
      · exact h.1
      · exact List.le_trans h.1 (a z hz)
    · rw [List.map_cons, List.pairwise_cons]
      refine ⟨fun z hz => ?_, b⟩
      obtain ⟨s, hs, rfl⟩ := List.mem_map.mp hz
      exact a s hs
theorem sorted_pw {r : List Str} (h : sortedS r = true) : (r.map fun s => s.cps.toList).Pairwise (· ≤ ·) := by
  cases r with
  | nil => exact .nil
  | cons x r =>
    obtain ⟨a, b⟩ := rising_pw (show risingS x r = true from h)
    rw [List.map_cons, List.pairwise_cons]
    refine ⟨fun z hz => ?_, b⟩
    obtain ⟨s, hs, rfl⟩ := List.mem_map.mp hz
    exact a s hs
abbrev ofL (s : List Nat) : Str := ⟨s.toArray⟩
theorem ofL_to (s : Str) : ofL s.cps.toList = s := by cases s; simp [ofL]
/-- what sorted gives is what sortS gives -/
theorem sorted_is {ss : List (List Nat)} {ys : List Str} (p : ys.Perm (ss.map ofL)) (s : sortedS ys = true) : ys = (sortS ss).map ofL := by
  have e : ys = (ys.map fun s => s.cps.toList).map ofL := by
    rw [List.map_map]
    conv => lhs; rw [← List.map_id ys]
    refine List.map_congr_left fun x _ => ?_
    exact (ofL_to x).symm
  rw [e]
  congr 1
  refine srtS_uniq ?_ (sorted_pw s) sortS_srt
  have := p.map fun s => s.cps.toList
  rw [List.map_map] at this
  have e2 : List.map ((fun s => s.cps.toList) ∘ ofL) ss = ss := by
    conv => rhs; rw [← List.map_id ss]
    exact List.map_congr_left fun x _ => by simp [ofL]
  rw [e2] at this
  exact this.trans sortS_perm.symm
section
variable {K : Fr} {g g' : G} {E : XK} {W : WX} {X : Cx} {H : Hp} {h : Sto} {v w : V} {x y : U} {σ : L2.St} {env : Env'} {e : Expr} {es : List Expr} {am : AM} {pos p : Pos} {n : Str}
def strsU : List U → Option (List (List Nat))
  | [] => some []
  | .str s :: r => (strsU r).map (s :: ·)
  | _ :: _ => none
theorem strsU_eq : ∀ {us : List U} {ss : List (List Nat)}, strsU us = some ss → us = ss.map U.str
  | [], ss, q => by cases q; rfl
  | .str s :: r, ss, q => by
    unfold strsU at q
    cases q1 : strsU r with
    | none => rw [q1] at q; cases q
    | some ms => rw [q1] at q; cases q; rw [strsU_eq q1]; rfl
  | .non :: _, _, q => by cases q
  | .bl _ :: _, _, q => by cases q
  | .int _ :: _, _, q => by cases q
  | .tup _ :: _, _, q => by cases q
  | .fl _ :: _, _, q => by cases q
  | .kl _ :: _, _, q => by cases q
  | .ref _ :: _, _, q => by cases q
def keysS : List (DK × U) → Option (List (List Nat))
  | [] => some []
  | (.inr s, _) :: r => (keysS r).map (s :: ·)
  | _ :: _ => none
theorem keysS_of : ∀ {us : List (DK × U)} {vs : List (Key × V)} {ss : List (List Nat)}, RepK K g vs us → keysS us = some ss → vs.map (·.1) = (ss.map ofL).map Sum.inr ∧ vs.length = ss.length
  | _, _, _, .nil, q => by cases q; exact ⟨rfl, rfl⟩
  | _, _, _, .cons (k := .inl i) h r, q => by cases q
  | _, _, ss, .cons (k := .inr s) (us := us) h r, q => by
    unfold keysS at q
    cases q1 : keysS us with
    | none => rw [q1] at q; cases q
    | some ms =>
      rw [q1] at q; cases q
      obtain ⟨a, b⟩ := keysS_of r q1
      refine ⟨?_, by simp [b]⟩
      rw [List.map_cons, a]; rfl
/-- sorted of a list of texts -/
def uSortS (us : List U) (h : Sto) : R U := match us with
  | [x] => match aL h x with
    | some xs => (match strsU xs with
      | some ss => if ss.length < 64 then .ok (.ref h.length) (h ++ [.lst ((sortS ss).map U.str)]) else .bad
      | none => .bad)
    | none => .bad
  | _ => .bad
theorem ok_sortS : CallOK K (rSortedS K) uSortS := fun E g H h vs us Q hr rv t => by
  unfold uSortS at t
  split at t
  · cases rv with
    | cons r1 r2 =>
      cases r2
      split at t
      · rename_i xs e1
        split at t
        · rename_i ss e2
          split at t
          · rename_i z
            obtain ⟨p, vs, rfl, h1, r1⟩ := aL_of hr r1 e1
            rw [strsU_eq e2] at r1
            have := r1.strs
            subst this
            refine ⟨p, ss.map ofL, rfl, h1, by simpa using z, fun ys l pm sr hl => ?_⟩
            rw [sorted_is pm sr]
            refine t _ _ _ Le.new (hr.newLst hl ?_) hr.newRef
            exact reps_strs (K := K) (g := g) (sortS ss)
          · exact t.elim
        · exact t.elim
      · exact t.elim
  · exact t.elim
/-- sorted of a dict whose keys are texts -/
abbrev rSortD : List V → Hp → VK → Prop := fun xs H Q => ∃ (a : Addr) (kvs : List (Key × V)) (ks : List Str), xs = [.ref a] ∧ Rd H a (.dK kvs) ∧ kvs.map (·.1) = ks.map Sum.inr ∧ ks.length < 64 ∧
    ∀ ys p, ys.Perm ks → sortedS ys = true → H p = none → Q (.ref p) (upd H p (.lst (ys.map V.str)))
def uSortD (us : List U) (h : Sto) : R U := match us with
  | [x] => match aDK h x with
    | some kvs => (match keysS kvs with
      | some ss => if ss.length < 64 then .ok (.ref h.length) (h ++ [.lst ((sortS ss).map U.str)]) else .bad
      | none => .bad)
    | none => .bad
  | _ => .bad
theorem ok_sortD : CallOK K rSortD uSortD := fun E g H h vs us Q hr rv t => by
  unfold uSortD at t
  split at t
  · cases rv with
    | cons r1 r2 =>
      cases r2
      split at t
      · rename_i kvs e1
        split at t
        · rename_i ss e2
          split at t
          · rename_i z
            obtain ⟨a, n, vs, rfl, rfl, ha, h1, r1⟩ := aDK_of hr r1 e1
            obtain ⟨b1, b2⟩ := keysS_of r1 e2
            refine ⟨a, vs, ss.map ofL, rfl, h1, b1, by simpa using z, fun ys l pm sr hl => ?_⟩
            rw [sorted_is pm sr]
            refine t _ _ _ Le.new (hr.newLst hl ?_) hr.newRef
            exact reps_strs (K := K) (g := g) (sortS ss)
          · exact t.elim
        · exact t.elim
      · exact t.elim
  · exact t.elim
/-- list of a dict: its keys -/
abbrev rListD : List V → Hp → VK → Prop := fun xs H Q => ∃ (a : Addr) (kvs : List (Key × V)), xs = [.ref a] ∧ Rd H a (.dK kvs) ∧ ∀ p, H p = none → Q (.ref p) (upd H p (.lst (kvs.map fun kv => kV kv.1)))
def uListD (us : List U) (h : Sto) : R U := match us with
  | [x] => match aDK h x with
    | some kvs => .ok (.ref h.length) (h ++ [.lst (kvs.map fun p => dkU p.1)])
    | none => .bad
  | _ => .bad
section
variable (hg : Gl X n) (hm : X.mg n = none) (ha : PA X (e :: es) (aM X.K W am)) (hn : n ≠ "__name__" := by decide) (hdb : (n == ("__debug__" : Str)) = false := by decide)
    (he : starEach (e :: es) X.env = (false, eval e X.env) :: starEach es X.env := by rfl) (hpl : (backTo pos (starEach es X.env)).any (·.1) = false := by rfl)
include hg hm ha hn hdb he hpl
theorem se_sortS (hv : bootBuiltins n = some (.builtin "sorted") := by decide +kernel) : PE X (.Call (.Name n p) (e :: es) [] pos) (tM X.K W (mCB uSortS am)) := se_cb cr_sortedS ok_sortS hg hm hv ha hn hdb he hpl
theorem se_sortD (hc : X.calm = true) (hv : bootBuiltins n = some (.builtin "sorted") := by decide +kernel) : PE X (.Call (.Name n p) (e :: es) [] pos) (tM X.K W (mCB uSortD am)) := se_cb (call_sortedD hc) ok_sortD hg hm hv ha hn hdb he hpl
end
end
end Q

set_option Elab.async false
set_option linter.all false
set_option maxRecDepth 100000
set_option maxHeartbeats 1000000
/-! QU: setdefault of a dict, displays with a star. -/
namespace Q
open PySem PySem.Spec PyProof.Rows L2 TL
section
variable {K : Fr} {g g' : G} {W : WX} {X : Cx} {H : Hp} {h : Sto} {σ : L2.St} {env : Env'} {a o : Expr} {mo : EM} {am : AM} {apos cpos pos : Pos} {kvs : List (Key × V)} {k : Key} {z : V} {u r : Value} {s : Shared} {pins : List (Addr × Obj)} {A : Around} {E : Value → Shared → Prop} {ad : Addr}
/-! ### setdefault -/
def rSd (x : V) (vs : List V) (H : Hp) (Q : VK) : Prop := ∃ ad kvs k z, x = .ref ad ∧ vs = [kV k, z] ∧ H ad = some (.dK kvs) ∧ (∀ v, valV kvs k = some v → Q v H) ∧ (valV kvs k = none → kvs.length < sizeLine ∧ Q z (upd H ad (.dK (putK kvs k z))))
def uSd (x : U) (us : List U) (h : Sto) : R U := match x, us with
  | .ref n, [y, z] => (match h[n]?, keyU y with
    | some (.dK kvs), some k => (match valD kvs k with
      | some u => .ok u (h.set n (.dK kvs))
      | none => if kvs.length < 16000000 then .ok z (h.set n (.dK (putD kvs k z))) else .bad)
    | _, _ => .bad)
  | _, _ => .bad
/-- a dict's method: the receiver is a dict -/
def isDK (h : Sto) : U → Bool
  | .ref n => (match h[n]? with
    | some (.dK _) => true
    | _ => false)
  | _ => false
def mDM (f : U → List U → Sto → R U) (o : EM) (am : AM) : EM := fun env h => (o env h).bind fun x h1 => if isDK h1 x = true then (am env h1).bind fun us h2 => f x us h2 else .bad
theorem dm_to {r : V → List V → Hp → VK → Prop} {f : U → List U → Sto → R U} {mo : EM} {σ : L2.St} {Q : VK} (ok : MtOK K r f) (q : tM K W (mDM f mo am) σ H Q) : tBM K "dict" r (tM K W mo) (aM K W am) σ H Q := by
  obtain ⟨g, env, h, hr, er, w⟩ := q
  refine ⟨g, env, h, hr, er, wE w fun u h1 v H1 g1 l1 hr1 rv w1 => ?_⟩
  cases ea : isDK h1 u with
  | false => rw [ea] at w1; exact w1.elim
  | true =>
    rw [ea] at w1
    cases rv with
    | ref q =>
      rename_i n a
      have : ∃ us, h1[a]? = some (.dK us) := by
        simp only [isDK] at ea
        cases e1 : h1[a]? with
        | none => rw [e1] at ea; cases ea
        | some o =>
          rw [e1] at ea
          cases o with
          | dK us => exact ⟨us, rfl⟩
          | _ => cases ea
      obtain ⟨us, e1⟩ := this
      obtain ⟨vs, h2, r2⟩ := hr1.ob a n _ q e1
      exact ⟨.inr (.inr (.inl ⟨rfl, .inl ⟨vs, h2⟩⟩)), g1, env, h1, hr1, er.mono l1, wA w1 fun us h2 vs H2 g2 l2 hr2 rvs w2 => ok _ g2 H2 h2 _ _ vs us Q hr2 ((Rep.ref q).mono l2) rvs w2⟩
    | _ => cases ea
/-! ### *e in a display -/
def aStar (m : EM) (am : AM) : AM := fun env h => (m env h).bind fun x h1 => match sL h1 x with
  | some us => (am env h1).bind fun ys h2 => .ok (us ++ ys) h2
  | none => .bad
end
end Q

set_option Elab.async false
set_option linter.all false
set_option maxRecDepth 100000
set_option maxHeartbeats 1000000
/-! QV: get of a dict, a list times a number. -/
namespace Q
open PySem PySem.Spec PyProof.Rows L2 TL
section
variable {K : Fr} {g g' : G} {W : WX} {X : Cx} {H : Hp} {h : Sto} {σ : L2.St} {env : Env'} {o e1 e2 : Expr} {mo m1 m2 : EM} {am : AM} {apos cpos pos : Pos} {E : XK} {u : U} {v : V} {k : DK}
def uGet (x : U) (us : List U) (h : Sto) : R U := match us with
  | [y] => (match aDK h x, keyU y with
    | some kvs, some k => .ok ((valD kvs k).getD .non) h
    | _, _ => .bad)
  | [y, z] => (match aDK h x, keyU y with
    | some kvs, some k => .ok ((valD kvs k).getD z) h
    | _, _ => .bad)
  | _ => .bad
def mDG (f : U → List U → Sto → R U) (o : EM) (am : AM) : EM := fun env h => (o env h).bind fun x h1 => if (aDK h1 x).isSome = true then (am env h1).bind fun us h2 => f x us h2 else .bad
/-! ### [x] * k -/
def uMulL (x y : U) (h : Sto) : R U := match mL h x, y with
  | some us, .int k => if us.length * k.toNat ≤ 16000000 ∧ k.natAbs ≤ 1000000000 then .ok (.ref h.length) (h ++ [.lst (List.replicate k.toNat us).flatten]) else .bad
  | _, _ => .bad
end
end Q

set_option Elab.async false
set_option linter.all false
set_option maxRecDepth 100000
set_option maxHeartbeats 1000000
/-! QW: comprehensions of two clauses. -/
namespace Q
open PySem PySem.Spec PyProof.Rows L2 TL
section
variable {K : Fr} {g g' : G} {E : XK} {W : WX} {X : Cx} {H : Hp} {h : Sto} {σ : L2.St} {env : Env'} {ct ct1 : CT} {ta ta1 : TM} {me : EM} {mi mi1 : IM'} {tg iter tg1 iter1 elt : Expr} {ifs ifs1 : List Expr} {scope : Scope} {own : List (Str × Nat)} {pos : Pos}
open Classical in
noncomputable def lcI (c : Chk) (ct : CT) (t : TM) (me : EM) (n : Nat) (env : Env') (k : Sto → R U) : List U → Sto → R U
  | [], h => if chkOk c h then k h else .bad
  | u :: us, h => if chkOk c h then (match ct.asg u env h with
      | some env1 => (t env1 h).no.bind fun b h1 => if b = true then (me env1 h1).no.bind fun y h2 => (match h2[n]? with
          | some (.lst acc) => if acc.length < 16000000 then lcI c ct t me n env k us (h2.set n (.lst (acc ++ [y]))) else .bad
          | _ => .bad) else lcI c ct t me n env k us h1
      | none => .bad) else .bad
open Classical in
noncomputable def lcL2 (c : Chk) (ct : CT) (t : TM) (mi1 : IM') (ct1 : CT) (t1 : TM) (me : EM) (vs1 : List Nat) (n : Nat) (env : Env') : List U → Sto → R U
  | [], h => if chkOk c h then .ok (.ref n) h else .bad
  | u :: us, h => if chkOk c h then (match ct.asg u env h with
      | some env1 => (t env1 h).no.bind fun b h1 => if b = true then (mi1 env1 h1).no.bind fun z h2 => lcI z.1 ct1 t1 me n (wipeE env1 vs1) (fun h3 => lcL2 c ct t mi1 ct1 t1 me vs1 n env us h3) z.2 h2
          else lcL2 c ct t mi1 ct1 t1 me vs1 n env us h1
      | none => .bad) else .bad
noncomputable def mLc2 (mi : IM') (ct : CT) (t : TM) (mi1 : IM') (ct1 : CT) (t1 : TM) (me : EM) (vs vs1 : List Nat) : EM := fun env h => (mi env h).bind fun z h1 => lcL2 z.1 ct t mi1 ct1 t1 me vs1 h1.length (wipeE env vs) z.2 (h1 ++ [.lst []])
end
end Q

set_option Elab.async false
set_option linter.all false
set_option maxRecDepth 100000
set_option maxHeartbeats 1000000
/-! QB: dict comprehensions of one clause; isupper of a text of one sign. -/
namespace Q
open PySem PySem.Spec PyProof.Rows L2 TL
section
variable {K : Fr} {g g' : G} {E : XK} {W : WX} {X : Cx} {H : Hp} {h : Sto} {σ : L2.St} {env : Env'} {ct : CT} {ta : TM} {mk mv : EM} {mi : IM'} {tg iter kx vx : Expr} {ifs : List Expr} {scope : Scope} {own : List (Str × Nat)} {pos : Pos}
open Classical in
noncomputable def dcL (c : Chk) (ct : CT) (t : TM) (mk mv : EM) (n : Nat) (env : Env') : List U → Sto → R U
  | [], h => if chkOk c h then .ok (.ref n) h else .bad
  | u :: us, h => if chkOk c h then (match ct.asg u env h with
      | some env1 => (t env1 h).no.bind fun b h1 => if b = true then (mk env1 h1).no.bind fun y h2 => (mv env1 h2).no.bind fun z h3 => (match h3[n]?, keyU y with
          | some (.dK acc), some k => if acc.length < 16000000 then dcL c ct t mk mv n env us (h3.set n (.dK (putD acc k z))) else .bad
          | _, _ => .bad) else dcL c ct t mk mv n env us h1
      | none => .bad) else .bad
noncomputable def mDc (mi : IM') (ct : CT) (t : TM) (mk mv : EM) (vs : List Nat) : EM := fun env h => (mi env h).bind fun z h1 => dcL z.1 ct t mk mv h1.length (wipeE env vs) z.2 (h1 ++ [.dK []])
theorem dc_to {J : It} {c : Chk} {us : List U} {Q : VK} {vs : List Nat} {tt : TT} {tk tv : TE} {H1 : Hp} {h1 : Sto} {env : Env'} {D : Addr} (hct : ∀ i ∈ ct.ix, i ∈ vs) (ht : ∀ σ H Q, bM K W0 ta σ H Q → tt σ H Q) (hk : ∀ σ H Q, tM K W0 mk σ H Q → tk σ H Q) (he : ∀ σ H Q, tM K W0 mv σ H Q → tv σ H Q)
    (hr : HR K g H1 h1) (er : ER K g σ env) (ok : ItOk K g J c us) (hD : H1 D = none) (w : WE K E g (dcL c ct ta mk mv h1.length (wipeE env vs) us (h1 ++ [.dK []])) Q) :
    ∃ W : Nat → Nat → Hp → Prop, (∃ m, W 0 m (upd H1 D (.dK []))) ∧ ∀ i m H, W i m H →
      (J.stop i H ∧ Q (.ref D) H) ∨ (J.go i H ∧ ∃ Nx : Hp → Prop, (∀ H', Nx H' → ∃ m', m' < m ∧ W (i + 1) m' H') ∧ ∀ x H', J.yld i H x H' → ct.rd K x (wipe σ vs) H' fun σ2 H2 => wipe σ2 vs = wipe σ vs ∧ tt σ2 H2 fun b H3 =>
        if b = true then tk σ2 H3 fun y H4 => tv σ2 H4 fun z H5 => ∃ kvs k, y = kV k ∧ H5 D = some (.dK kvs) ∧ kvs.length < sizeLine ∧ Nx (upd H5 D (.dK (putK kvs k z))) else Nx H3) := by
  have hDn : (g.new D).al[h1.length]? = some D := by
    show (g.al ++ [D])[h1.length]? = _
    rw [← hr.len]; simp
  have hr0 : HR K (g.new D) (upd H1 D (.dK [])) (h1 ++ [.dK []]) := hr.new hD ⟨[], upd_same, .nil⟩
  refine ⟨fun i m H => m = us.length - i ∧ i ≤ us.length ∧ ∃ g' h, Le (g.new D) g' ∧ HR K g' H h ∧ WE K E g' (dcL c ct ta mk mv h1.length (wipeE env vs) (us.drop i) h) Q, ⟨us.length, by simp, Nat.zero_le _, g.new D, _, Le.refl _, hr0, WE.mono Le.new w⟩, ?_⟩
  rintro i m H ⟨rfl, hi, g', h, l, hr, w⟩
  have l0 : Le g g' := Le.new.trans l
  have hn' : g'.al[h1.length]? = some D := l.get hDn
  by_cases hlt : i < us.length
  · rw [List.drop_eq_getElem_cons hlt] at w
    unfold dcL at w
    split at w
    · rename_i ck
      refine .inr ⟨ok.go g' H h i l0 hr ck hlt, fun H' => i + 1 ≤ us.length ∧ ∃ g2 h, Le (g.new D) g2 ∧ HR K g2 H' h ∧ WE K E g2 (dcL c ct ta mk mv h1.length (wipeE env vs) (us.drop (i + 1)) h) Q, fun H' q => ⟨us.length - (i + 1), by omega, rfl, q⟩, fun x H' y => ?_⟩
      obtain ⟨g2, u, l2, hr2, hu, ru⟩ := ok.yl g' H h i x H' l0 hr ck hlt y
      have eu : us[i] = u := by
        rw [List.getElem?_eq_getElem hlt] at hu
        exact Option.some.inj hu
      rw [eu] at w
      cases ea : ct.asg u (wipeE env vs) h with
      | none => rw [ea] at w; exact w.elim
      | some env1 =>
        rw [ea] at w
        have w : WE K E g' ((ta env1 h).no.bind _) Q := w
        refine ct_to hr2 ((er.wipe vs).mono (l0.trans l2)) ru ea fun σ2 er2 hw => ⟨by rw [hw vs hct, wipe_wipe], ht _ _ _ ⟨g2, env1, h, hr2, er2, ?_⟩⟩
        refine wTno (WE.mono l2 w) fun b h2 H2 g3 l3 hr3 w3 => ?_
        have er3 := er2.mono l3
        cases b with
        | false => exact ⟨hlt, g3, h2, (l.trans l2).trans l3, hr3, w3⟩
        | true =>
          have w3 : WE K E g3 ((mk env1 h2).no.bind _) Q := w3
          refine hk _ _ _ ⟨g3, env1, h2, hr3, er3, wEno w3 fun y h3 vy H3 g4 l4 hr4 ry w4 => ?_⟩
          have w4 : WE K E g4 ((mv env1 h3).no.bind _) Q := w4
          refine he _ _ _ ⟨g4, env1, h3, hr4, er3.mono l4, wEno w4 fun z h4 vz H4 g5 l5 hr5 rz w5 => ?_⟩
          have hn5 : g5.al[h1.length]? = some D := (((l2.trans l3).trans l4).trans l5).get hn'
          split at w5
          · rename_i acc k e4 ek
            split at w5
            · rename_i zz
              obtain ⟨vacc, h5, r5⟩ := hr5.ob _ _ _ hn5 e4
              exact ⟨vacc, kk k, key_rep (ry.mono l5) ek, h5, by rw [r5.len]; exact sz16l zz, hlt, g5, _, (((l.trans l2).trans l3).trans l4).trans l5, hr5.set (b := .dK (putD acc k z)) hn5 (fun _ _ z => by rw [h5] at z; cases z) ⟨_, upd_same, r5.put rz k⟩, w5⟩
            · exact w5.elim
          · exact w5.elim
    · exact w.elim
  · have e : i = us.length := by omega
    subst e
    rw [List.drop_length] at w
    unfold dcL at w
    split at w
    · rename_i ck
      exact .inl ⟨ok.stop g' H h l0 hr ck, w (.ref D) H g' (Le.refl _) hr (.ref hn')⟩
    · exact w.elim
theorem dcM_to {vs : List Nat} {tt : TT} {tk tv : TE} {Q : VK} (hct : ∀ i ∈ ct.ix, i ∈ vs) (ht : ∀ σ H Q, bM K W0 ta σ H Q → tt σ H Q) (hk : ∀ σ H Q, tM K W0 mk σ H Q → tk σ H Q) (he : ∀ σ H Q, tM K W0 mv σ H Q → tv σ H Q) (q : tM K W (mDc mi ct ta mk mv vs) σ H Q) : tDc (iM K W mi) (ct.rd K) tt tk tv vs σ H Q := by
  obtain ⟨g, env, h, hr, er, w⟩ := q
  refine ⟨g, env, h, hr, er, ?_⟩
  unfold mDc at w
  cases e : mi env h with
  | bad => rw [e] at w; exact w
  | exc C n h => rw [e] at w; exact w
  | ok z h1 =>
    obtain ⟨c, us⟩ := z
    rw [e] at w
    have w : WE K (atSl W σ) g (dcL c ct ta mk mv h1.length (wipeE env vs) us (h1 ++ [.dK []])) Q := w
    exact fun J H1 g1 l1 hr1 ok D hD => dc_to hct ht hk he hr1 (er.mono l1) ok hD (WE.mono l1 w)
theorem se_dc {vs : List Nat} (hc : X.calm = true) (hN : X.N.Nodup) (hi : PI X tg iter (iM X.K W mi)) (ok : BlkOk X.N X.env.scope scope own) (hv : own.map (·.2) = vs) (hct : ∀ i ∈ ct.ix, i ∈ vs)
    (hg : Blk X scope fun Y => PG Y tg (ct.rd X.K)) (ht : Blk X scope fun Y => PTs Y ifs (bM X.K W0 ta)) (hk : Blk X scope fun Y => PE Y kx (tM X.K W0 mk)) (he : Blk X scope fun Y => PE Y vx (tM X.K W0 mv)) (hs : ∀ x, foldedSetIterable iter X.env x = pure x := by intro _; rfl) :
    PE X (.DictComp kx vx [⟨tg, iter, ifs, 0⟩] scope pos) (tM X.K W (mDc mi ct ta mk mv vs)) := by
  subst hv
  exact PE.weak (pe_dc hc hN hi ok hg ht hk he hs) fun σ H Q q => dcM_to hct (fun _ _ _ z => z) (fun _ _ _ z => z) (fun _ _ _ z => z) q
/-! ### isupper -/
def uUp (x : U) (h : Sto) : R U := match x with
  | .str [] => .ok (.bl false) h
  | .str [c] => if c < 128 then .ok (.bl (decide (65 ≤ c) && decide (c ≤ 90))) h else .bad
  | _ => .bad
end
end Q

set_option Elab.async false
set_option linter.all false
set_option maxRecDepth 100000
set_option maxHeartbeats 1000000
/-! QI: * and // of great numbers, a tuple times a number, str of a truth, lower of it, split at a sign, c + x.replace(a, b). -/
namespace Q
open PySem PySem.Spec PyProof.Rows L2 TL
section
variable {K : Fr} {g g' : G} {W : WX} {X : Cx} {H : Hp} {h : Sto} {σ : L2.St} {env : Env'} {o a b e : Expr} {es : List Expr} {mo ma mb : EM} {am : AM} {apos cpos pos p : Pos} {E : XK} {u : U} {v : V} {n : Str}
/-! ### great numbers -/
def cMulW (i j : Int) : Prop := i.natAbs.log2 + j.natAbs.log2 < 1000000
instance : ∀ i j, Decidable (cMulW i j) := fun i j => by unfold cMulW; exact inferInstance
def cDivW (_ j : Int) : Prop := 0 < j ∧ j.natAbs.log2 < 9000
instance : ∀ i j, Decidable (cDivW i j) := fun i j => by unfold cDivW; exact inferInstance
abbrev uMulW := uI cMulW fun i j => i * j
abbrev uDivW := uI cDivW fun i j => i / j
/-! ### a tuple times a number -/
def uMulT (x y : U) (h : Sto) : R U := match x, y with
  | .tup us, .int k => if us ≠ [] ∧ 2 ≤ k ∧ k ≤ 1000 ∧ us.length ≤ 1000 then .ok (.tup (List.replicate k.toNat us).flatten) h else .bad
  | _, _ => .bad
/-! ### str of a number, of a truth -/
def kTrue : List Nat := [84, 114, 117, 101]
def kFalse : List Nat := [70, 97, 108, 115, 101]
def uStrV (us : List U) (h : Sto) : R U := match us with
  | [.int i] => if i.natAbs.log2 < 1920 then .ok (.str (sInt i)) h else .bad
  | [.bl b] => .ok (.str (if b = true then kTrue else kFalse)) h
  | _ => .bad
/-! ### lower of what str of a truth gives -/
def uLow (x : U) (h : Sto) : R U := match x with
  | .str s => if s = kTrue then .ok (.str [116, 114, 117, 101]) h else if s = kFalse then .ok (.str [102, 97, 108, 115, 101]) h else .bad
  | _ => .bad
/-! ### split at one sign -/
/-- the pieces between the signs c -/
def splitC (c : Nat) : List Nat → List (List Nat)
  | [] => [[]]
  | x :: r => if x = c then [] :: splitC c r else match splitC c r with
    | p :: ps => (x :: p) :: ps
    | [] => [[x]]
def uSplit (x y : U) (h : Sto) : R U := match x, y with
  | .str s, .str [c] => if s.length ≤ 16000000 then .ok (.ref h.length) (h ++ [.lst ((splitC c s).map .str)]) else .bad
  | _, _ => .bad
/-! ### c + x.replace(a, b): behind the written text a token is out -/
/-- each sign c is turned into z -/
def replC (c : Nat) (z s : List Nat) : List Nat := s.flatMap fun x => if x = c then z else [x]
def mRepA (d : List Nat) (c : Nat) (z : List Nat) (o : EM) : EM := fun env h => (o env h).bind fun x h1 => match x with
  | .str s => if s.length * (z.length + 1) + z.length + d.length ≤ 1000000 then .ok (.str (d ++ replC c z s)) h1 else .bad
  | _ => .bad
/-! ### a list is extended by a tuple -/
def rExtT (K : Fr) : V → List V → Hp → VK → Prop := fun x vs H Q => ∃ l b xs zs, x = .ref l ∧ vs = [.ref b] ∧ H l = some (.lst xs) ∧ SqT K H b zs ∧ xs.length + zs.length ≤ sizeLine ∧ Q .non (upd H l (.lst (xs ++ zs)))
def uExtT (x : U) (us : List U) (h : Sto) : R U := match x, us with
  | .ref n, [.tup ys] => (match h[n]? with
    | some (.lst xs) => if xs.length + ys.length ≤ 16000000 then .ok .non (h.set n (.lst (xs ++ ys))) else .bad
    | _ => .bad)
  | _, _ => .bad
/-! ### == with the empty tuple -/
def rEqE (K : Fr) : R2 := fun x y H Q => ∃ a b xs, x = .ref a ∧ y = .ref b ∧ SqT K H a xs ∧ SqT K H b [] ∧ Q (.bl xs.isEmpty) H
def cEqE (_ : Sto) (x y : U) : Option Bool := match x, y with
  | .tup us, .tup [] => some us.isEmpty
  | _, _ => none
theorem hu0 {A : Around} {k : Nat} (hr : Room k A) : A.units < cLine := by have := hr.un; omega
/-! ### what is never reached -/
def mBadE : EM := fun _ _ => .bad
def mBadS : SM := fun _ _ => .bad
end
end Q

set_option Elab.async false
set_option linter.all false
set_option maxRecDepth 100000
set_option maxHeartbeats 1000000
/-! QJ: sorted of pairs of a number and a list of texts, d.update(e), {**d, k: v}, (n, s) <= (m, t). -/
namespace Q
open PySem PySem.Spec PyProof.Rows L2 TL
/-! ### the order -/
abbrev IS := Int × List (List Nat)
def leIS (a b : IS) : Bool := decide (a.1 < b.1 ∨ (a.1 = b.1 ∧ a.2 ≤ b.2))
def encIS (b : V × IS) : PyData := .tuple [.int b.2.1, .list (b.2.2.map fun s => .str (ofL s))]
theorem alike_strs : ∀ ss ts : List (List Nat), PySem.W.alikeAll (ss.map fun s => PyData.str (ofL s)) (ts.map fun s => PyData.str (ofL s)) = true
  | [], _ => by simp [PySem.W.alikeAll]
  | _ :: _, [] => by simp [PySem.W.alikeAll]
  | s :: ss, t :: ts => by rw [List.map_cons, List.map_cons, PySem.W.alikeAll, alike_strs ss ts]; simp [PySem.W.alike]
theorem lt_strs : ∀ ss ts : List (List Nat), PySem.W.rowLt (ss.map fun s => PyData.str (ofL s)) (ts.map fun s => PyData.str (ofL s)) = decide (ss < ts)
  | [], [] => by
    have e : PySem.W.rowLt [] [] = false := by unfold PySem.W.rowLt; exact lex_irrefl _
    simpa using e
  | [], t :: ts => by
    have e : PySem.W.rowLt [] (PyData.str (ofL t) :: ts.map fun s => PyData.str (ofL s)) = true := by
      unfold PySem.W.rowLt
      rw [PySem.W.toks_all_cons]
      simp only [PySem.W.keyToksAll]
      rw [lex_diff (O := itemOrd) (by simp)]
      rfl
    simpa using e
  | s :: ss, [] => by
    have e : PySem.W.rowLt (PyData.str (ofL s) :: ss.map fun s => PyData.str (ofL s)) [] = false := by
      unfold PySem.W.rowLt
      rw [PySem.W.toks_all_cons]
      simp only [PySem.W.keyToksAll]
      rw [lex_diff (O := itemOrd) (by simp)]
      rfl
    simpa using e
  | s :: ss, t :: ts => by
    have eo : (ofL s = ofL t) ↔ s = t := ⟨fun z => by injection z with z; have := congrArg Array.toList z; simpa using this, fun z => by rw [z]⟩
    have e : PySem.W.rowLt (PyData.str (ofL s) :: ss.map fun s => PyData.str (ofL s)) (PyData.str (ofL t) :: ts.map fun s => PyData.str (ofL s)) = if s = t then PySem.W.rowLt (ss.map fun s => PyData.str (ofL s)) (ts.map fun s => PyData.str (ofL s)) else decide (s < t) := by
      unfold PySem.W.rowLt
      rw [PySem.W.dataLt_cons (by simp [PySem.W.alike]), PySem.W.dataLt_str]
      simp only [PyData.eqv, beq_iff_eq, eo]
    show PySem.W.rowLt (PyData.str (ofL s) :: ss.map fun s => PyData.str (ofL s)) (PyData.str (ofL t) :: ts.map fun s => PyData.str (ofL s)) = _
    rw [e]
    by_cases h : s = t
    · rw [if_pos h, lt_strs ss ts]; simp [h, List.cons_lt_cons_iff]
    · rw [if_neg h]; simp [h, List.cons_lt_cons_iff]
theorem eqv_strs : ∀ ss ts : List (List Nat), PyData.eqvAll (ss.map fun s => PyData.str (ofL s)) (ts.map fun s => PyData.str (ofL s)) = true → ss = ts
  | [], [], _ => rfl
  | [], _ :: _, h => by simp [PyData.eqvAll] at h
  | _ :: _, [], h => by simp [PyData.eqvAll] at h
  | s :: ss, t :: ts, h => by
    rw [List.map_cons, List.map_cons, PyData.eqvAll, Bool.and_eq_true] at h
    have e := eqv_strs ss ts h.2
    have h1 := h.1
    simp only [PyData.eqv, beq_iff_eq] at h1
    injection h1 with z
    have := congrArg Array.toList z
    simp at this
    rw [this, e]
theorem dataLe_IS : PySem.W.dataLe false encIS = fun p q => leIS p.2 q.2 := by
  funext p q
  show (!PySem.W.dataLt (.tuple [.int q.2.1, .list (q.2.2.map fun s => .str (ofL s))]) (.tuple [.int p.2.1, .list (p.2.2.map fun s => .str (ofL s))])) = _
  rw [PySem.W.dataLt_pair (by simp [PySem.W.alike]) (by rw [PySem.W.alike]; exact alike_strs _ _), PySem.W.dataLt_int]
  rw [PySem.W.dataLt_list]
  have r : PyProof.Rows.lexLt itemOrd (PySem.W.keyToksAll (q.2.2.map fun s => PyData.str (ofL s))) (PySem.W.keyToksAll (p.2.2.map fun s => PyData.str (ofL s))) = decide (q.2.2 < p.2.2) := lt_strs _ _
  rw [r]
  have z : (if PyData.eqv (PyData.list (q.2.2.map fun s => PyData.str (ofL s))) (PyData.list (p.2.2.map fun s => PyData.str (ofL s))) = true then false else decide (q.2.2 < p.2.2)) = decide (q.2.2 < p.2.2) := by
    split
    · rename_i h
      rw [PyData.eqv] at h
      rw [eqv_strs _ _ h]
      exact (decide_eq_false (List.lt_irrefl _)).symm
    · rfl
  rw [z]
  simp only [PyData.eqv, beq_iff_eq]
  unfold leIS
  by_cases h : q.2.1 = p.2.1
  · rw [if_pos h]
    by_cases h2 : q.2.2 < p.2.2
    · have h3 : ¬ (p.2.1 < q.2.1 ∨ (p.2.1 = q.2.1 ∧ p.2.2 ≤ q.2.2)) := by
        rintro (c | c)
        · omega
        · exact List.not_lt.mpr c.2 h2
      rw [decide_eq_true h2, decide_eq_false h3]; rfl
    · have h3 : (p.2.1 < q.2.1 ∨ (p.2.1 = q.2.1 ∧ p.2.2 ≤ q.2.2)) := .inr ⟨h.symm, List.not_lt.mp h2⟩
      rw [decide_eq_false h2, decide_eq_true h3]; rfl
  · rw [if_neg h]
    by_cases h2 : q.2.1 < p.2.1
    · have h3 : ¬ (p.2.1 < q.2.1 ∨ (p.2.1 = q.2.1 ∧ p.2.2 ≤ q.2.2)) := by
        rintro (c | c) <;> omega
      rw [decide_eq_true h2, decide_eq_false h3]; rfl
    · have h3 : (p.2.1 < q.2.1 ∨ (p.2.1 = q.2.1 ∧ p.2.2 ≤ q.2.2)) := .inl (by omega)
      rw [decide_eq_false h2, decide_eq_true h3]; rfl
/-! ### sorted -/
def ItemAt (K : Fr) (H : Hp) (b : V × IS) : Prop := ∃ t l : Addr, b.1 = .ref t ∧ SqT K H t [.int b.2.1, .ref l] ∧ SqL K H l ((b.2.2.map ofL).map V.str)
def rSortT (K : Fr) : List V → Hp → VK → Prop := fun vs H Q => ∃ (a : Addr) (bs : List (V × IS)), vs = [V.ref a] ∧ SqL K H a (bs.map Prod.fst) ∧ (∀ b ∈ bs, ItemAt K H b) ∧
  ∀ p, H p = none → Q (.ref p) (upd H p (.lst ((bs.mergeSort fun p q => leIS p.2 q.2).map Prod.fst)))
theorem reads_strs {h : Heap} : ∀ {us : List Value} {xs : List (List Nat)}, StrsAre us (xs.map ofL) → ReadsAll h us (xs.map fun s => PyData.str (ofL s)) []
  | _, [], r => by
    rw [List.map_nil] at r
    cases r
    exact .nil
  | _, x :: xs, r => by
    rw [List.map_cons] at r
    cases r with
    | cons _ _ r2 => exact ReadsAll.cons (as := []) (bs := []) (.str _ _) (reads_strs r2)
section
variable {X : Cx} {pins : List (Addr × Obj)} {σ : L2.St} {H : Hp} {s : Shared}
theorem reads_item {b : V × IS} {u : Value} (I : Inv X pins σ H s) (r : RelV b.1 u) (h : ItemAt X.K H b) : ∃ as, Reads s.heap u (encIS b) as := by
  obtain ⟨t, l, e, ht, hl⟩ := h
  rw [e] at r
  cases r
  obtain ⟨its, r1, p1, _⟩ := I.tuple ht
  obtain ⟨its2, r2, p2, _⟩ := I.list hl
  have i2 := r2.strs
  cases r1 with
  | cons ra rb =>
    cases rb with
    | cons rc rd =>
      cases rd
      obtain ⟨k, rfl⟩ := ra
      cases rc
      obtain ⟨o1, e1, c1, n1, d1⟩ := p1
      obtain ⟨o2, n2, e2, c2, _, d2⟩ := p2
      exact ⟨_, Reads.tuple e1 c1 d1 (.cons (.int _ _) (.cons (.list e2 c2 d2 (reads_strs i2)) .nil))⟩
theorem each_items (I : Inv X pins σ H s) : ∀ {bs : List (V × IS)} {us : List Value}, Vals (bs.map Prod.fst) us → (∀ b ∈ bs, ItemAt X.K H b) → PySem.W.EachIs (fun u (b : V × IS) => RelV b.1 u ∧ ∃ as, Reads s.heap u (encIS b) as) us bs
  | [], _, r, _ => by
    rw [List.map_nil] at r
    cases r
    exact .nil
  | b :: bs, _, r, h => by
    rw [List.map_cons] at r
    cases r with
    | cons r1 r2 => exact .cons ⟨r1, reads_item I r1 (h b (.head _))⟩ (each_items I r2 fun c hc => h c (.tail _ hc))
theorem vals_each : ∀ {bs : List (V × IS)} {us : List Value}, PySem.W.EachIs (fun u (b : V × IS) => RelV b.1 u ∧ ∃ as, Reads s.heap u (encIS b) as) us bs → Vals (bs.map Prod.fst) us
  | [], _, .nil => .nil
  | _ :: _, _, .cons h r => by rw [List.map_cons]; exact .cons h.1 (vals_each r)
theorem depth_strs : ∀ ss : List (List Nat), PyData.depthAll (ss.map fun s => PyData.str (ofL s)) = 0
  | [] => by simp [PyData.depthAll]
  | s :: ss => by rw [List.map_cons, PyData.depthAll, depth_strs ss]; simp [PyData.depth]
theorem depth_IS (b : V × IS) : (encIS b).depth ≤ 10 := by
  unfold encIS
  simp [PyData.depth, PyData.depthAll, depth_strs]
theorem cr_sortedT (hu : X.A.units + 64 < cLine) : CallR X (.builtin "sorted") (rSortT X.K) := by
  intro pins s σ H vs us Q I r h
  obtain ⟨a, bs, rfl, hs, hit, q⟩ := h
  obtain ⟨its, rv, hl, hz⟩ := I.list hs
  rw [Vals.ref1 r]
  have ei := each_items I rv hit
  rw [List.length_map] at hz
  refine PySem.W.sorted_data (enc := encIS) (R := fun u (b : V × IS) => RelV b.1 u ∧ ∃ as, Reads s.heap u (encIS b) as) hl.isList ei (ei.mono fun _ _ z => z.2) (PySem.W.AllAlike.of fun b c => ?_) (PySem.W.Sortable.tuples fun b => ⟨_, _, rfl⟩) hz (fun b _ => ?_) fun out hlo eo => ?_
  · unfold encIS
    rw [PySem.W.alike, PySem.W.alikeAll, PySem.W.alikeAll, PySem.W.alikeAll, PySem.W.alike, PySem.W.alike, alike_strs]; rfl
  · have := depth_IS b; omega
  · obtain ⟨ep, he'⟩ := PyProof.Rows.sortedAll_at s.heap its (List.toArray out)
    rw [dataLe_IS] at eo
    have rv2 := vals_each eo
    have hlen : ((bs.mergeSort fun p q => leIS p.2 q.2).map Prod.fst).length ≤ sizeLine := by rw [List.length_map, List.length_mergeSort]; exact hz
    exact ⟨.ref _, upd H (s.heap.objs.size + 1) (.lst ((bs.mergeSort fun p q => leIS p.2 q.2).map Prod.fst)), I.laid (t' := s.toks) (fun _ _ => PyProof.Rows.sortedAll_old) (Nat.le_succ _) ⟨hlen, out, ep, rv2, he'⟩, rfl, q _ (I.hok.fresh (Nat.le_succ _))⟩
end
section
variable {K : Fr} {g g' : G} {W : WX} {X : Cx} {H : Hp} {h : Sto} {σ : L2.St} {env : Env'} {o a b e : Expr} {es : List Expr} {mo ma mb : EM} {am : AM} {apos cpos pos p : Pos} {E : XK} {u : U} {v : V} {n : Str}
def keyIS (h : Sto) : U → Option IS
  | .tup [.int n, x] => (match aL h x with
    | some xs => (match strsU xs with
      | some ss => some (n, ss)
      | none => none)
    | none => none)
  | _ => none
def keysT (h : Sto) : List U → Option (List IS)
  | [] => some []
  | x :: r => (match keyIS h x, keysT h r with
    | some k, some ks => some (k :: ks)
    | _, _ => none)
theorem item_of {k : IS} (hr : HR K g H h) (r : Rep K g v u) (e : keyIS h u = some k) : ItemAt K H (v, k) := by
  unfold keyIS at e
  split at e
  · rename_i n x
    split at e
    · rename_i xs e1
      split at e
      · rename_i ss e2
        cases e
        cases r with
        | tup q s =>
          cases s with
          | cons s1 s2 =>
            cases s2 with
            | cons s3 s4 =>
              cases s4
              cases s1
              obtain ⟨l, ws, rfl, h1, h2⟩ := aL_of hr s3 e1
              rw [strsU_eq e2] at h2
              rw [Reps.strs h2] at h1
              exact ⟨_, l, rfl, hr.sqT q, h1⟩
      · cases e
    · cases e
  · cases e
/-- the items, what they are and their keys -/
theorem items_of : ∀ {vs : List V} {us : List U} {ks : List IS}, HR K g H h → Reps K g vs us → keysT h us = some ks → ∃ cs : List ((V × U) × IS), cs.map (fun c => c.1.1) = vs ∧ cs.map (fun c => c.1.2) = us ∧ cs.map Prod.snd = ks ∧ ∀ c ∈ cs, Rep K g c.1.1 c.1.2 ∧ ItemAt K H (c.1.1, c.2)
  | _, _, _, hr, .nil, e => by cases e; exact ⟨[], rfl, rfl, rfl, by simp⟩
  | _, _, _, hr, .cons (v := v) (u := u) (us := us) h1 r, e => by
    unfold keysT at e
    split at e
    · rename_i k ks e1 e2
      cases e
      obtain ⟨cs, f1, f2, f3, hc⟩ := items_of hr r e2
      exact ⟨((v, u), k) :: cs, by simp [f1], by simp [f2], by simp [f3], fun c m => (List.mem_cons.mp m).elim (fun z => by subst z; exact ⟨h1, item_of hr h1 e1⟩) (hc c)⟩
    · cases e
theorem reps_cs : ∀ {cs : List ((V × U) × IS)}, (∀ c ∈ cs, Rep K g c.1.1 c.1.2) → Reps K g (cs.map fun c => c.1.1) (cs.map fun c => c.1.2)
  | [], _ => .nil
  | b :: bs, hb => .cons (hb b (.head _)) (reps_cs fun c m => hb c (.tail _ m))
def srtT (us : List U) (ks : List IS) : List U := ((us.zip ks).mergeSort fun p q => leIS p.2 q.2).map Prod.fst
theorem zip_map {α β γ : Type} (f : γ → α) (k : γ → β) : ∀ l : List γ, (l.map f).zip (l.map k) = l.map fun c => (f c, k c)
  | [] => rfl
  | c :: l => by simp [zip_map f k l]
def uSortT (us : List U) (h : Sto) : R U := match us with
  | [x] => (match aL h x with
    | some xs => (match keysT h xs with
      | some ks => .ok (.ref h.length) (h ++ [.lst (srtT xs ks)])
      | none => .bad)
    | none => .bad)
  | _ => .bad
theorem ok_sortT : CallOK K (rSortT K) uSortT := fun E g H h vs us Q hr rv t => by
  unfold uSortT at t
  split at t
  · cases rv with
    | cons r1 r2 =>
      cases r2
      split at t
      · rename_i xs e1
        split at t
        · rename_i ks e2
          obtain ⟨p, vs, rfl, h1, r1⟩ := aL_of hr r1 e1
          obtain ⟨cs, f1, f2, f3, hc⟩ := items_of hr r1 e2
          have eb : cs.map (fun c => (c.1.1, c.2)) = (cs.map fun c => ((c.1.1, c.2) : V × IS)) := rfl
          refine ⟨p, cs.map fun c => (c.1.1, c.2), rfl, by rw [List.map_map]; exact f1 ▸ h1, fun b m => ?_, fun q hq => ?_⟩
          · obtain ⟨c, mc, rfl⟩ := List.mem_map.mp m
            exact (hc c mc).2
          · refine t _ _ _ Le.new (hr.newLst hq ?_) hr.newRef
            have := reps_cs (cs := cs.mergeSort fun p q => leIS p.2 q.2) (K := K) (g := g) fun b m => (hc b (List.mem_mergeSort.mp m)).1
            have z1 : ((cs.map fun c => (c.1.1, c.2)).mergeSort fun p q : V × IS => leIS p.2 q.2) = (cs.mergeSort fun p q => leIS p.2 q.2).map fun c => (c.1.1, c.2) := by
              rw [List.map_mergeSort]; intros; rfl
            have z2 : ((cs.map fun c => (c.1.2, c.2)).mergeSort fun p q : U × IS => leIS p.2 q.2) = (cs.mergeSort fun p q => leIS p.2 q.2).map fun c => (c.1.2, c.2) := by
              rw [List.map_mergeSort]; intros; rfl
            unfold srtT
            rw [← f2, ← f3, zip_map, z1, z2, List.map_map, List.map_map]
            exact this
        · exact t.elim
      · exact t.elim
  · exact t.elim
theorem se_sortT (hu : X.A.units + 64 < cLine) (hg : Gl X n) (hm : X.mg n = none) (ha : PA X (e :: es) (aM X.K W am)) (hn : n ≠ "__name__" := by decide) (hdb : (n == ("__debug__" : Str)) = false := by decide)
    (he : starEach (e :: es) X.env = (false, eval e X.env) :: starEach es X.env := by rfl) (hpl : (backTo pos (starEach es X.env)).any (·.1) = false := by rfl)
    (hv : bootBuiltins n = some (.builtin "sorted") := by decide +kernel) : PE X (.Call (.Name n p) (e :: es) [] pos) (tM X.K W (mCB uSortT am)) := se_cb (cr_sortedT hu) ok_sortT hg hm hv ha hn hdb he hpl
/-! ### d.update(e) -/
def rUpd (x : V) (vs : List V) (H : Hp) (Q : VK) : Prop := ∃ ad od kvs more, x = .ref ad ∧ vs = [.ref od] ∧ ad ≠ od ∧ H ad = some (.dK kvs) ∧ Rd H od (.dK more) ∧ kvs.length + more.length ≤ sizeLine ∧ Q .non (upd H ad (.dK (mergeK kvs more)))
theorem mt_upd : MtR X "dict.update" rUpd := by
  intro pins s σ H x vs v us Q I rx rv h
  obtain ⟨ad, od, kvs, more, rfl, rfl, hne, hH, hO, hz, q⟩ := h
  cases rx
  obtain ⟨u, rfl, ru⟩ := rv.one
  cases ru
  obtain ⟨zl, hd, vs, rel, dd⟩ := dk_of I.hok hH
  obtain ⟨zl2, hd2, ws, rel2, dd2⟩ := dk_rd I.hok hO
  refine call_meetsIn PySem.F.slot_dict_update dd.typeIs PySem.F.entry_dict_update (PySem.F.args_dict_update_2 _ _) (meets_dict_update (mixKind X.prog X.w) ad od hne hd2)
    ⟨vs, ws, dd, dd2, by rw [← rel.length, ← rel2.length]; exact hz, fun h' d1 d2 hs => ?_⟩
  have he : ∃ q, h'.get? ad = some q := let ⟨q, _, _, hq, _⟩ := d1; ⟨q, hq⟩
  exact ⟨.non, _, d_write I (by rw [hH]; exact True.intro) hs he (dk_new (Nat.le_trans (length_mergeK more kvs) hz) hd (rel2.merge rel) d1), rfl, q⟩
def isRefTo (n : Nat) : U → Bool
  | .ref m => m == n
  | _ => false
def uUpd (x : U) (us : List U) (h : Sto) : R U := match x, us with
  | .ref n, [y] => (match h[n]?, aDK h y with
    | some (.dK kvs), some more => if isRefTo n y = false ∧ kvs.length + more.length ≤ 16000000 then .ok .non (h.set n (.dK (mergeD kvs more))) else .bad
    | _, _ => .bad)
  | _, _ => .bad
theorem ok_upd : MtOK K rUpd uUpd := by
  intro E g H h v x vs us Q hr rx rvs t
  unfold uUpd at t
  split at t
  · rename_i n y
    split at t
    · rename_i kvs more e1 e2
      split at t
      · rename_i z
        cases rx with
        | ref q =>
          rename_i a
          cases rvs with
          | cons r1 r2 =>
            cases r2
            obtain ⟨vs, h1, h2⟩ := hr.ob n a _ q e1
            obtain ⟨b, m, ws, rfl, rfl, hb, h3, h4⟩ := aDK_of hr r1 e2
            have hne : a ≠ b := fun e => by
              subst e
              have hmn : m ≠ n := by
                have := z.1
                simp only [isRefTo, beq_eq_false_iff_ne, ne_eq] at this
                exact this
              exact hmn ((List.getElem?_inj (List.getElem?_eq_some_iff.mp hb).1 hr.nd).mp (by rw [hb, q]))
            exact ⟨a, b, vs, ws, rfl, rfl, hne, h1, h3, by rw [h2.len, h4.len]; exact sz16 z.2, t _ _ g (Le.refl _) (hr.set q (fun _ _ z => by rw [h1] at z; cases z) ⟨_, upd_same, RepK.merge h4 h2⟩) .non⟩
      · exact t.elim
    · exact t.elim
  · exact t.elim
theorem se_upd (ho : PE X o (tM X.K W mo)) (ha : PA X [e] (aM X.K W am)) (hbase : attributeBase o "update" X.env (eval o X.env) = eval o X.env := by rfl)
    (hfew : ((backTo cpos (starEach [e] X.env)).all (fun x => !x.1) && (backToKw cpos (keywordEach [] X.env)).all (fun x => x.1.isSome)
      && decide ([e].length + ([] : List Keyword).length + (if ([] : List Keyword).isEmpty then 0 else 1) < 30)) = true := by rfl)
    (hline : (apos.endLine == cpos.line) = true := by rfl) (hs : starEach [e] X.env = (false, eval e X.env) :: starEach [] X.env := by rfl) (hplain : (backTo cpos (starEach [] X.env)).any (·.1) = false := by rfl) :
    PE X (.Call (.Attribute o "update" apos) [e] [] cpos) (tM X.K W (mDM uUpd mo am)) :=
  PE.weak (pe_bm PySem.F.plainAttrs_dict PySem.F.slot_dict_update PySem.F.type_dict_update mt_upd ho ha hbase hfew hline hs hplain) fun σ H Q q => dm_to ok_upd q
/-! ### (n, s) <= (m, t) -/
theorem rc_le_str {A : Around} {s : Shared} (a b : Str) (t u : Tok) : Ob.RcOp .LtE A s (.str a t) (.str b u) (!decide (b.cps.toList < a.cps.toList)) := fun _ _ _ _ h => PySem.P.le_str h
def rLeP (K : Fr) : R2 := fun x y H Q => ∃ (a b : Addr) (n m : Int) (p q : List Nat), x = .ref a ∧ y = .ref b ∧ SqT K H a [.int n, .str (ofL p)] ∧ SqT K H b [.int m, .str (ofL q)] ∧
  Q (.bl (decide (n < m ∨ (n = m ∧ p ≤ q)))) H
theorem op_leP {X : Cx} (hu : X.A.units < cLine) : OpR X (compareOp .LtE) (rLeP X.K) := by
  intro pins s σ H x y v u Q I rx ry h
  obtain ⟨a, b, n, m, p, q, rfl, rfl, ha, hb, hQ⟩ := h
  cases rx
  cases ry
  obtain ⟨its, r1, p1, _⟩ := I.tuple ha
  obtain ⟨its2, r2, p2, _⟩ := I.tuple hb
  cases r1 with
  | cons r1a r1b =>
  cases r1b with
  | cons r1c r1d =>
  cases r1d
  cases r2 with
  | cons r2a r2b =>
  cases r2b with
  | cons r2c r2d =>
  cases r2d
  obtain ⟨k1, rfl⟩ := r1a
  obtain ⟨k2, rfl⟩ := r1c
  obtain ⟨k3, rfl⟩ := r2a
  obtain ⟨k4, rfl⟩ := r2c
  have R := Ob.RcOp.tuples_le (A := X.A) (s := s) (e := fun j => if j = 0 then (n == m) else (ofL p == ofL q)) (r := fun j => if j = 0 then decide (n ≤ m) else !decide (q < p)) p1 p2 hu (fun j h1 h2 => by
    have : j = 0 ∨ j = 1 := by simp at h1; omega
    rcases this with rfl | rfl
    · exact SeqAt.EqAt.int_int _ _ _ _
    · exact SeqAt.EqAt.str_str _ _ _ _) (fun j h1 h2 _ => by
    have : j = 0 ∨ j = 1 := by simp at h1; omega
    rcases this with rfl | rfl
    · exact Ob.RcOp.le_int _ _ _ _
    · have := rc_le_str (A := X.A.in1) (s := s) (ofL p) (ofL q) k2 k4
      simp only [ofL] at this
      exact this)
  have e : Ob.lexAt (fun j => if j = 0 then (n == m) else (ofL p == ofL q)) (fun j => if j = 0 then decide (n ≤ m) else !decide (q < p)) true 0 2 = decide (n < m ∨ (n = m ∧ p ≤ q)) := by
    rw [Ob.lexAt_succ, Ob.lexAt_succ, Ob.lexAt_zero]
    by_cases h : n = m
    · subst h
      by_cases h2 : p = q
      · subst h2; simp
      · have h3 : (ofL p == ofL q) = false := beq_eq_false_iff_ne.mpr fun z => h2 (by injection z with z; have := congrArg Array.toList z; simpa using this)
        by_cases h4 : q < p
        · simp [h3, h4]
        · simp [h3, h4, List.not_lt.mp h4]
    · have h3 : (n == m) = false := beq_eq_false_iff_ne.mpr h
      by_cases h4 : n ≤ m
      · simp [h3, h4, show n < m by omega]
      · simp [h3, h4, h]; omega
  have R : Ob.RcOp .LtE X.A s (.ref a) (.ref b) (Ob.lexAt (fun j => if j = 0 then (n == m) else (ofL p == ofL q)) (fun j => if j = 0 then decide (n ≤ m) else !decide (q < p)) true 0 2) := R
  rw [e] at R
  have z : wpAny (model X.prog X.w) X.A (compareOp .LtE (.ref a) (.ref b)) (EP X pins σ Q) X.xe s := R X.prog X.w X.xe (EP X pins σ Q) ⟨.bl _, H, I, rfl, hQ⟩
  exact z
def cLeP (_ : Sto) (x y : U) : Option Bool := match x, y with
  | .tup [.int n, .str p], .tup [.int m, .str q] => some (decide (n < m ∨ (n = m ∧ p ≤ q)))
  | _, _ => none
theorem ok_leP : CmpOK K (rLeP K) cLeP := fun g H h v w x y b Q hr rx ry e hQ => by
  unfold cLeP at e
  split at e
  · cases e
    cases rx with
    | tup h1 r1 =>
    cases ry with
    | tup h2 r2 =>
    cases r1 with
    | cons r1a r1b =>
    cases r1b with
    | cons r1c r1d =>
    cases r1d
    cases r2 with
    | cons r2a r2b =>
    cases r2b with
    | cons r2c r2d =>
    cases r2d
    cases r1a
    cases r1c
    cases r2a
    cases r2c
    exact ⟨_, _, _, _, _, _, rfl, rfl, hr.sqT h1, hr.sqT h2, hQ⟩
  · cases e
theorem bt_leP {k : Nat} (hr : Room k X.A) (ha : PE X a (tM X.K W ma)) (hb : PE X b (tM X.K W mb)) : PT X (.Compare a [.LtE] [b] pos) (bM X.K W (bCmp cLeP ma mb)) := bt_cmp (op_leP (hu0 hr)) ok_leP ha hb (nomark _)
end
end Q

set_option Elab.async false
set_option linter.all false
set_option maxRecDepth 100000
set_option maxHeartbeats 1000000
/-! QK: {**d, k: v}. -/
namespace PySem
open PySem PySem.Calls PyProof.Rows
section
variable {prog : Program} {w : World} {A : Around} {E : Value → Shared → Prop} {s : Shared} {K : Type} [DecidableEq K] {knd : KeyKind prog w K}
theorem qk_dictPut {d : Addr} {kvs : List (K × Value)} {k : K} {key v : Value} {Q : Unit → Shared → Prop} (hkey : knd.is k key = true) (hm : s.heap.DictOf knd d kvs)
    (hQ : ∀ h', h'.DictOf knd d (stored kvs k v) → Heap.SameBut d s.heap h' → Q () { s with heap := h' })
    (hsz : kvs.length ≤ sizeLine) :
    wpAny (model prog w) A (dictPut d (knd.hash k) key v) Q E s := by
  obtain ⟨o, es, ep, ho, hc, hd, hk, hp, hn⟩ := hm
  have hes : es.size ≤ sizeLine := by have e1 := hp.length; have e2 : es.toList.length = es.size := by simp
                                      omega
  unfold dictPut
  refine wpAny_bind (wpAny_dictFind_of hkey ho hd hk ?_)
  have hidx : (es.findIdx? fun e => knd.is k e.key) = kvs.findIdx? fun kv => decide (kv.1 = k) := by
    rw [← hp.findIdx k]; obtain ⟨l⟩ := es; simp
  cases hi : es.findIdx? fun e => knd.is k e.key with
  | some i =>
    refine wpAny_updateDict ho hd ((hQ _ ⟨_, _, ep, Heap.get?_update_self _ ho (Obj.isFreed_of_dict (Obj.data_mapDict hd _)),
      hc.mapDict _, Obj.data_mapDict hd _, hk.modify _ _, ?_, ?_⟩ (Heap.SameBut.update ..)))
    · rw [stored, if_pos (any_of_findIdx_some (hidx ▸ hi))]
      have hl : (es.toList.findIdx? fun e => knd.is k e.key) = some i := by rw [← hi]; obtain ⟨l⟩ := es; simp
      have := hp.modify hn hl v
      obtain ⟨l⟩ := es
      simpa using this
    · rw [stored, if_pos (any_of_findIdx_some (hidx ▸ hi)), keys_map_store]; exact hn
  | none =>
    have hnot : k ∉ kvs.map (·.1) := not_mem_of_findIdx_none (hidx ▸ hi)
    have hany : ¬ (kvs.any fun kv => decide (kv.1 = k)) = true := by
      rw [List.any_eq_true]; rintro ⟨kv, hkv, he⟩
      exact hnot (List.mem_map.mpr ⟨kv, hkv, of_decide_eq_true he⟩)
    refine wpAny_updateDictKeys (hz := hes) ho hd (hQ _ ⟨_, _, ep + 1, Heap.get?_update_self _ ho (Obj.isFreed_of_dict (Obj.data_mapDictKeys hd _)),
      hc.mapDictKeys _, Obj.data_mapDictKeys hd _, hk.push hkey _, ?_, ?_⟩ (Heap.SameBut.update ..))
    · rw [stored, if_neg hany]
      have := hp.append hkey (knd.hash k) v
      obtain ⟨l⟩ := es
      simpa using this
    · rw [stored, if_neg hany, List.map_append, List.nodup_append]
      refine ⟨hn, by simp, ?_⟩
      intro a ha b hb
      simp only [List.map_cons, List.map_nil, List.mem_singleton] at hb
      subst hb
      exact fun e => hnot (e ▸ ha)
end
section
open L2
variable {prog : Program} {w : World} {A : Around} {E : Value → Shared → Prop} {s : Shared}
theorem qk_merge {d o : Addr} {kvs more : List (Key × Value)} {Q : Unit → Shared → Prop} (hdo : d ≠ o) (hoS : (o == sysModules) = false)
    (hd : s.heap.DictOf (mixKind prog w) d kvs) (ho : s.heap.DictOf (mixKind prog w) o more)
    (hQ : ∀ h', h'.DictOf (mixKind prog w) d (merged kvs more) → h'.DictOf (mixKind prog w) o more → Heap.SameBut d s.heap h' → Q () { s with heap := h' })
    (hsz : kvs.length + more.length ≤ sizeLine) :
    wpAny (model prog w) A (mergeMapping d (.ref o) false) Q E s := by
  obtain ⟨od, esd, epd, hod, hcd, hdd, hkd, hpd, hnd⟩ := id hd
  obtain ⟨oo, eso, epo, hoo, hco, hdo', hko, hpo, hno⟩ := id ho
  have hlen : more.length = eso.size := by rw [← hpo.length]; simp
  have hne : ∀ e ∈ eso, ∀ r, e.key ≠ .ref r := fun e he r z => by
    obtain ⟨k, hk, _⟩ := hko e he
    rw [z] at hk
    rcases keyIs_shape hk with ⟨i, t, _, e⟩ | ⟨x, t, _, e⟩ <;> cases e
  unfold mergeMapping
  refine wpAny_bind (wpAny_isInstance ho.typeIs isSubtype_dict_dict ?_)
  simp only [if_true]
  refine wpAny_bind (wpAny_specialOf ho.typeIs F.slot_dict_iter.lookup (wpAny_bind (wpAny_pure ?_)))
  simp only [beq_self_eq_true]
  rw [if_neg (by rw [hoS]; exact Bool.false_ne_true)]
  refine wpAny_bind (wpAny_dictEntries hod hdd ?_)
  by_cases hemp : esd.isEmpty = true
  · rw [if_pos hemp]
    refine wpAny_bind (wpAny_dictEntries hoo hdo' (wpAny_bind ?_))
    refine wpAny_of_eq (a := PUnit.unit) ?_ ?_
    · rw [← Array.forIn_toList]
      refine forIn_yield_id _ fun e he c => ?_
      have := hne e (Array.mem_toList_iff.mp he)
      split
      · rename_i r q; exact absurd q (this r)
      · rfl
    · refine wpAny_bind (wpAny_dictEntries hoo hdo' ?_)
      refine wpAny_bind (wpAny_dictEpoch hoo hdo' ?_)
      refine wpAny_bind ?_
      refine wpAny_forIn_list _
        (fun rest _ s' => ∃ h' i, s' = { s with heap := h' } ∧ rest = List.range' i (eso.size - i) ∧ i ≤ eso.size ∧ h'.DictOf (mixKind prog w) d (merged kvs (more.take i)) ∧ h'.get? o = some oo ∧ Heap.SameBut d s.heap h')
        _ ?_ ?_ _ _ ⟨s.heap, 0, rfl, by rw [List.range_eq_range']; simp, Nat.zero_le _, by simpa [merged] using hd, hoo, Heap.SameBut.refl _ _⟩
      · rintro x rest b s' ⟨h', i, rfl, hr, hi, hd', hoo', hs'⟩
        have hlt : i < eso.size := by
          rcases Nat.lt_or_ge i eso.size with h | h
          · exact h
          · rw [Nat.sub_eq_zero_of_le h] at hr; simp at hr
        obtain ⟨rfl, hrest⟩ : x = i ∧ rest = List.range' (i + 1) (eso.size - (i + 1)) := by
          have e : eso.size - i = (eso.size - (i + 1)) + 1 := by omega
          rw [e, List.range'_succ] at hr
          injection hr with h1 h2
          exact ⟨h1, h2⟩
        refine wpAny_bind (wpAny_dictEntries hoo' hdo' ?_)
        rw [Array.getElem?_eq_getElem hlt]
        obtain ⟨kv, hkv⟩ : ∃ kv, more[x]? = some kv := ⟨more[x]'(by rw [hlen]; exact hlt), List.getElem?_eq_getElem _⟩
        obtain ⟨k, v⟩ := kv
        obtain ⟨hkey, hval⟩ := hpo.get? (e := eso[x]) (by simp [hlt]) hkv
        obtain ⟨k', hkey', hhash⟩ := hko eso[x] (Array.getElem_mem hlt)
        obtain rfl : k' = k := (mixKind prog w).inj _ _ _ hkey' hkey
        show wpAny _ _ (holding [eso[x].key, eso[x].val] (dictPut d eso[x].hash eso[x].key eso[x].val) >>= _) _ _ _
        rw [hhash, hval]
        have hmx : (merged kvs (more.take x)).length ≤ sizeLine := by
          have e1 := merged_length_le kvs (more.take x)
          have e2 : (more.take x).length ≤ more.length := by rw [List.length_take]; omega
          omega
        refine wpAny_bind (wpAny_holding (qk_dictPut (knd := mixKind prog w) hkey hd' (fun h'' hd'' hs'' => ?_) hmx))
        have hoo'' : h''.get? o = some oo := (hs''.2 o (Ne.symm hdo)).trans hoo'
        refine wpAny_bind (wpAny_dictEpoch hoo'' hdo' ?_)
        rw [if_neg (by simp)]
        exact wpAny_pure ⟨h'', x + 1, rfl, hrest, hlt, by rw [merged_take_succ kvs more x (k', v) hkv]; exact hd'', hoo'', hs'.trans hs''⟩
      · rintro b s' ⟨h', i, rfl, hr, hi, hd', hoo', hs'⟩
        have hin : i = eso.size := by
          rcases Nat.lt_or_ge i eso.size with h | h
          · have e : eso.size - i = (eso.size - (i + 1)) + 1 := by omega
            rw [e, List.range'_succ] at hr; exact nomatch hr
          · exact Nat.le_antisymm hi h
        refine wpAny_pure (hQ h' ?_ ⟨oo, eso, epo, hoo', hco, hdo', hko, hpo, hno⟩ hs')
        rw [hin, ← hlen, List.take_length] at hd'; exact hd'
  · rw [if_neg hemp]
    refine wpAny_bind (wpAny_dictEntries hoo hdo' ?_)
    refine wpAny_bind (wpAny_dictEpoch hoo hdo' ?_)
    refine wpAny_bind ?_
    refine wpAny_forIn_list _
      (fun rest _ s' => ∃ h' i, s' = { s with heap := h' } ∧ rest = List.range' i (eso.size - i) ∧ i ≤ eso.size ∧ h'.DictOf (mixKind prog w) d (merged kvs (more.take i)) ∧ h'.get? o = some oo ∧ Heap.SameBut d s.heap h')
      _ ?_ ?_ _ _ ⟨s.heap, 0, rfl, by rw [List.range_eq_range']; simp, Nat.zero_le _, by simpa [merged] using hd, hoo, Heap.SameBut.refl _ _⟩
    · rintro x rest b s' ⟨h', i, rfl, hr, hi, hd', hoo', hs'⟩
      have hlt : i < eso.size := by
        rcases Nat.lt_or_ge i eso.size with h | h
        · exact h
        · rw [Nat.sub_eq_zero_of_le h] at hr; simp at hr
      obtain ⟨rfl, hrest⟩ : x = i ∧ rest = List.range' (i + 1) (eso.size - (i + 1)) := by
        have e : eso.size - i = (eso.size - (i + 1)) + 1 := by omega
        rw [e, List.range'_succ] at hr
        injection hr with h1 h2
        exact ⟨h1, h2⟩
      refine wpAny_bind (wpAny_dictEntries hoo' hdo' ?_)
      rw [Array.getElem?_eq_getElem hlt]
      obtain ⟨kv, hkv⟩ : ∃ kv, more[x]? = some kv := ⟨more[x]'(by rw [hlen]; exact hlt), List.getElem?_eq_getElem _⟩
      obtain ⟨k, v⟩ := kv
      obtain ⟨hkey, hval⟩ := hpo.get? (e := eso[x]) (by simp [hlt]) hkv
      obtain ⟨k', hkey', hhash⟩ := hko eso[x] (Array.getElem_mem hlt)
      obtain rfl : k' = k := (mixKind prog w).inj _ _ _ hkey' hkey
      show wpAny _ _ (holding [eso[x].key, eso[x].val] (dictPut d eso[x].hash eso[x].key eso[x].val) >>= _) _ _ _
      rw [hhash, hval]
      have hmx : (merged kvs (more.take x)).length ≤ sizeLine := by
        have e1 := merged_length_le kvs (more.take x)
        have e2 : (more.take x).length ≤ more.length := by rw [List.length_take]; omega
        omega
      refine wpAny_bind (wpAny_holding (qk_dictPut (knd := mixKind prog w) hkey hd' (fun h'' hd'' hs'' => ?_) hmx))
      have hoo'' : h''.get? o = some oo := (hs''.2 o (Ne.symm hdo)).trans hoo'
      refine wpAny_bind (wpAny_dictEpoch hoo'' hdo' ?_)
      rw [if_neg (by simp)]
      exact wpAny_pure ⟨h'', x + 1, rfl, hrest, hlt, by rw [merged_take_succ kvs more x (k', v) hkv]; exact hd'', hoo'', hs'.trans hs''⟩
    · rintro b s' ⟨h', i, rfl, hr, hi, hd', hoo', hs'⟩
      have hin : i = eso.size := by
        rcases Nat.lt_or_ge i eso.size with h | h
        · have e : eso.size - i = (eso.size - (i + 1)) + 1 := by omega
          rw [e, List.range'_succ] at hr; exact nomatch hr
        · exact Nat.le_antisymm hi h
      refine wpAny_pure (hQ h' ?_ ⟨oo, eso, epo, hoo', hco, hdo', hko, hpo, hno⟩ hs')
      rw [hin, ← hlen, List.take_length] at hd'; exact hd'
theorem qk_disp {prog : Program} {w : World} {A : Around} {E : Value → Shared → Prop} {s : Shared} {sd sk sv : Sem Value} {Q : Value → Shared → Prop}
    (h : wpAny (model prog w) A sd (fun m s1 => wpAny (model prog w) A (mergeMapping s.heap.objs.size m false) (fun _ s2 => wpAny (model prog w) A (subDict [(sk, sv)]) (fun sub s3 =>
      wpAny (model prog w) A (mergeMapping s.heap.objs.size (.ref sub) false) (fun _ s4 => Q (.ref s.heap.objs.size) s4) (fun _ _ => False) s3) E s2) (fun _ _ => False) s1) E { s with heap := s.heap.push { cls := .type "dict", data := .dict #[] } }) :
    wpAny (model prog w) A (dictDisplay [(none, sd), (some sk, sv)]) Q E s := by
  unfold dictDisplay
  dsimp only
  rw [List.forIn_cons]
  have up : ∀ {α : Type} {m : Sem α} {P : α → Shared → Prop} {s : Shared}, wpAny (model prog w) A m P (fun _ _ => False) s → wpAny (model prog w) A m P E s := fun h => wpAny_mono h (fun _ _ x => x) fun _ _ (x : False) => x.elim
  have onR : ∀ {α : Type} {m : Sem α} {k : Value → Sem Unit} {P : α → Shared → Prop} {s : Shared}, wpAny (model prog w) A m P (fun _ _ => False) s → wpAny (model prog w) A (m.onRaise k) P (fun _ _ => False) s := fun h => wpAny_onRaise (wpAny_mono h (fun _ _ x => x) fun _ _ (x : False) => x.elim)
  have tryC : ∀ {α : Type} {m : Sem α} {k : Value → Sem α} {P : α → Shared → Prop} {s : Shared}, wpAny (model prog w) A m P (fun _ _ => False) s → wpAny (model prog w) A (tryCatch m k) P (fun _ _ => False) s := fun h => wpAny_tryCatch (wpAny_mono h (fun _ _ x => x) fun _ _ (x : False) => x.elim)
  refine wpAny_bind ?_
  refine wpAny_bind ?_
  dsimp only
  refine wpAny_bind ?_
  rw [if_pos (show (([] : List (Sem Value × Sem Value)).isEmpty) = true from rfl)]
  refine wpAny_pure ?_
  dsimp only
  refine wpAny_bind (wpAny_alloc ?_)
  refine wpAny_bind (wpAny_holding (wpAny_mono h (fun m s1 h1 => ?_) fun _ _ x => x))
  refine wpAny_bind (up (onR (tryC (onR (wpAny_holding (wpAny_mono h1 (fun _ s2 h2 => ?_) fun _ _ x => x))))))
  refine wpAny_pure ?_
  dsimp only
  rw [List.forIn_cons]
  refine wpAny_bind ?_
  dsimp only
  rw [if_neg (by simp)]
  refine wpAny_pure ?_
  dsimp only
  rw [List.forIn_nil]
  refine wpAny_pure ?_
  dsimp only
  refine wpAny_bind ?_
  rw [if_neg (by simp)]
  refine wpAny_bind (wpAny_holding (wpAny_mono h2 (fun sub s3 h3 => ?_) fun _ _ x => x))
  refine wpAny_bind (up (onR (wpAny_holding (wpAny_mono h3 (fun _ s4 h4 => ?_) fun _ _ x => x))))
  exact wpAny_pure (wpAny_pure h4)
end
end PySem
namespace L2
open PySem PySem.Spec PyProof.Rows
/-- {**d, k: v} -/
def tStar (td tk tv : TE) : TE := fun σ H Q => ∀ p, H p = none → td σ (upd H p (.dK [])) fun x H1 => ∃ od more, x = .ref od ∧ p ≠ od ∧ H1 p = some (.dK []) ∧ Rd H1 od (.dK more) ∧
  ∀ p2, upd H1 p (.dK (mergeK [] more)) p2 = none → tk σ (upd (upd H1 p (.dK (mergeK [] more))) p2 (.dK [])) fun y H3 => tv σ H3 fun z H4 => ∃ k acc, y = kV k ∧ p2 ≠ p ∧ H4 p = some (.dK acc) ∧ H4 p2 = some (.dK []) ∧
    acc.length < sizeLine ∧ Q (.ref p) (upd (upd H4 p2 (.dK [(k, z)])) p (.dK (putK acc k z)))
theorem pe_star {X : Cx} {dx kx vx : Expr} {td tk tv : TE} {pos : Pos} (hd : PE X dx td) (hk : PE X kx tk) (hv : PE X vx tv) : PE X (.Dict [none, some kx] [dx, vx] pos) (tStar td tk tv) := by
  refine ⟨fun pins s σ H Q I q => ?_⟩
  have hn := I.hok.fresh (Nat.le_refl s.heap.objs.size)
  have I1 := I.laid (a := s.heap.objs.size) (o := .dK []) (h' := s.heap.push { cls := .type "dict", data := .dict #[] }) (t' := s.toks) (fun _ _ q => Heap.get?_push_of_some _ q) (Nat.le_refl _) (dk_empty s.heap I.big)
  rw [arm_eval_Dict]
  refine wpAny_bind (wpAny_standAt ?_)
  show wpAny _ _ (dictDisplay [(none, do let x ← eval dx X.env; standAt pos; pure x), (some (eval kx X.env), do let x ← eval vx X.env; standAt pos; pure x)]) _ _ _
  refine qk_disp (wpAny_bind (thn (hd.run pins _ σ _ _ I1 (q _ hn)) fun u s1 ⟨x, H1, I2, rx, od, more, ex, hne, e1, eo, q2⟩ => wpAny_bind (wpAny_standAt (wpAny_pure ?_))))
  subst ex
  cases rx
  obtain ⟨z1, d1, vs0, r0, dd⟩ := dk_of I2.hok e1
  cases r0
  obtain ⟨z2, d2, ws, rw2, dd2⟩ := dk_rd I2.hok eo
  have hzm : (mergeK [] more).length ≤ sizeLine := by
    have := length_mergeK more []
    rw [List.length_nil] at this
    omega
  refine qk_merge hne d2 dd dd2 (fun h' da db hs => ?_) (by rw [← rw2.length, List.length_nil]; omega)
  have he : ∃ q, h'.get? s.heap.objs.size = some q := let ⟨q, _, _, hq, _⟩ := da; ⟨q, hq⟩
  have I3 := d_write (t' := s1.toks) I2 (by rw [e1]; exact True.intro) hs he (dk_new (P := X.prog) (w := X.w) hzm d1 (rw2.merge .nil) da)
  have hn2 := I3.hok.fresh (Nat.le_refl h'.objs.size)
  have I4 := I3.laid (a := h'.objs.size) (o := .dK []) (h' := h'.push { cls := .type "dict", data := .dict #[] }) (t' := s1.toks) (fun _ _ q => Heap.get?_push_of_some _ q) (Nat.le_refl _) (dk_empty h' I3.big)
  refine wpAny_subDict (knd := mixKind X.prog X.w) (by simp) ?_
  refine evalPairs_cons (thn (hk.run pins _ σ _ _ I4 (q2 _ hn2)) fun u2 s4 ⟨y, H3, I5, ry, q3⟩ => wpAny_bind (thn (hv.run pins _ σ _ _ I5 q3) fun u3 s5 ⟨z, H4, I6, rz, k, acc, ey, hne2, e2, e3, hz, q4⟩ => wpAny_bind (wpAny_standAt (wpAny_pure ?_))))
  refine evalPairs_nil ?_
  subst ey
  obtain ⟨_, d3, vs3, r3, dd3⟩ := dk_of I6.hok e3
  cases r3
  refine ⟨[(k, u3)], ⟨kV_is ry, rfl, True.intro⟩, dd3, fun h5 d5 hs5 => ?_⟩
  have he5 : ∃ q, h5.get? h'.objs.size = some q := let ⟨q, _, _, hq, _⟩ := d5; ⟨q, hq⟩
  have kv1 : KV [(k, z)] (merged [] [(k, u3)]) := .cons ⟨rfl, rz⟩ .nil
  have I7 := d_write (t' := s5.toks + [(u2, u3)].length) (ob := .dK [(k, z)]) I6 (by rw [e3]; exact True.intro) hs5 he5 (dk_new (P := X.prog) (w := X.w) (by rw [sizeLine_eq]; simp) d3 kv1 d5)
  have e2' : upd H4 h'.objs.size (.dK [(k, z)]) s.heap.objs.size = some (.dK acc) := by
    rw [upd_ne (Ne.symm hne2)]; exact e2
  obtain ⟨z6, d6, vs6, r6, dd6⟩ := dk_of I7.hok e2'
  obtain ⟨z7, d7, vs7, r7, dd7⟩ := dk_of I7.hok (show upd H4 h'.objs.size (.dK [(k, z)]) h'.objs.size = some (.dK [(k, z)]) from upd_same)
  refine qk_merge (Ne.symm hne2) d7 dd6 dd7 (fun h8 d8 d9 hs8 => ?_) (by rw [← r6.length, ← r7.length]; exact hz)
  have he8 : ∃ q, h8.get? s.heap.objs.size = some q := let ⟨q, _, _, hq, _⟩ := d8; ⟨q, hq⟩
  have hz8 : (putK acc k z).length ≤ sizeLine := Nat.le_trans (length_putK _ _ _) hz
  exact ⟨.ref s.heap.objs.size, _, d_write I7 (by rw [e2']; exact True.intro) hs8 he8 (dk_new (P := X.prog) (w := X.w) hz8 d6 (r7.merge r6) d8), rfl, q4⟩
end L2
namespace Q
open PySem PySem.Spec PyProof.Rows L2 TL
section
variable {K : Fr} {g g' : G} {W : WX} {X : Cx} {H : Hp} {h : Sto} {σ : L2.St} {env : Env'} {dx kx vx : Expr} {md mk mv : EM} {pos : Pos} {E : XK}
def mStar (md mk mv : EM) : EM := fun env h => (md env (h ++ [.dK []])).bind fun x h1 => match aDK h1 x, h1[h.length]? with
  | some more, some (.dK []) => if isRefTo h.length x = false ∧ more.length ≤ 16000000 then (mk env (h1.set h.length (.dK (mergeD [] more)) ++ [.dK []])).bind fun y h2 => (mv env h2).bind fun z h3 =>
      (match keyU y, h3[h.length]?, h3[h1.length]? with
      | some k, some (.dK acc), some (.dK []) => if acc.length < 16000000 then .ok (.ref h.length) ((h3.set h1.length (.dK [(k, z)])).set h.length (.dK (putD acc k z))) else .bad
      | _, _, _ => .bad) else .bad
  | _, _ => .bad
theorem se_star (hd : PE X dx (tM X.K W md)) (hk : PE X kx (tM X.K W mk)) (hv : PE X vx (tM X.K W mv)) : PE X (.Dict [none, some kx] [dx, vx] pos) (tM X.K W (mStar md mk mv)) := by
  refine PE.weak (pe_star hd hk hv) fun σ H Q ⟨g, env, h, hr, er, w⟩ p hp => ?_
  have hr0 := hr.new hp (o := .dK []) (b := .dK []) ⟨[], upd_same, .nil⟩
  have hp0 : (g.new p).al[h.length]? = some p := by
    show (g.al ++ [p])[h.length]? = _
    rw [← hr.len]; simp
  refine ⟨g.new p, env, _, hr0, er.mono Le.new, wE (WE.mono Le.new w) fun x h1 v H1 g1 l1 hr1 rv w1 => ?_⟩
  split at w1
  · rename_i more e1 e2
    split at w1
    · rename_i zz
      obtain ⟨b, m, ws, rfl, rfl, hb, h3, h4⟩ := aDK_of hr1 rv e1
      have hp1 := l1.get hp0
      obtain ⟨vs0, hH, r0⟩ := hr1.ob _ _ _ hp1 e2
      cases r0
      have hne : p ≠ b := fun e => by
        subst e
        have hmn : m ≠ h.length := by
          have := zz.1
          simp only [isRefTo, beq_eq_false_iff_ne, ne_eq] at this
          exact this
        exact hmn ((List.getElem?_inj (List.getElem?_eq_some_iff.mp hb).1 hr1.nd).mp (by rw [hb, hp1]))
      refine ⟨b, ws, rfl, hne, hH, h3, fun p2 hp2 => ?_⟩
      have hr2 := hr1.set hp1 (fun _ _ z => by rw [hH] at z; cases z) (o := .dK (mergeK [] ws)) (b := .dK (mergeD [] more)) ⟨_, upd_same, RepK.merge h4 .nil⟩
      have hne2 : p2 ≠ p := fun e => by subst e; rw [upd_same] at hp2; cases hp2
      have hr3 := hr2.new hp2 (o := .dK []) (b := .dK []) ⟨[], upd_same, .nil⟩
      have hq0 : (g1.new p2).al[h1.length]? = some p2 := by
        show (g1.al ++ [p2])[h1.length]? = _
        rw [← hr1.len]; simp
      refine ⟨g1.new p2, env, _, hr3, ((er.mono Le.new).mono l1).mono Le.new, wE (WE.mono Le.new w1) fun y h2 vy H3 g3 l3 hr3' ry w2 => ⟨g3, env, h2, hr3', (((er.mono Le.new).mono l1).mono Le.new).mono l3, wE w2 fun z h5 vz H4 g4 l4 hr4 rz w3 => ?_⟩⟩
      split at w3
      · rename_i k acc ek ea eb
        split at w3
        · rename_i z1
          have hpa := l4.get (l3.get (Le.new.get hp1 : (g1.new p2).al[h.length]? = some p))
          have hpb := l4.get (l3.get hq0)
          obtain ⟨va, hA, rA⟩ := hr4.ob _ _ _ hpa ea
          obtain ⟨vb, hB, rB⟩ := hr4.ob _ _ _ hpb eb
          cases rB
          have hr5 := hr4.set hpb (fun _ _ z => by rw [hB] at z; cases z) (o := .dK [(kk k, vz)]) (b := .dK [(k, z)]) ⟨_, upd_same, .cons rz .nil⟩
          have hA' : upd H4 p2 (.dK [(kk k, vz)]) p = some (.dK va) := by rw [upd_ne (Ne.symm hne2)]; exact hA
          refine ⟨kk k, va, key_rep (ry.mono l4) ek, hne2, hA, hB, by rw [rA.len]; exact sz16l z1, ?_⟩
          exact w3 _ _ g4 (Le.refl _) (hr5.set hpa (fun _ _ z => by rw [hA'] at z; cases z) ⟨_, upd_same, rA.put rz k⟩) (.ref hpa)
        · exact w3.elim
      · exact w3.elim
    · exact w1.elim
  · exact w1.elim
end
end Q

set_option Elab.async false
set_option linter.all false
set_option maxRecDepth 100000
set_option maxHeartbeats 2000000
/-! QH: the head by one kernel run; its facts are tests of the part of the heap that the names reach. -/
namespace QH
open PySem PySem.Spec PyProof.Rows L2 Q
abbrev Ts := Fr → Bool
/-- one def, by its statement -/
def dd (at_ : Str × Option Str) (x qual : Str) (st : Stmt) : He.DefD := { at_ := at_, name := x, qual := qual, params := defArgs st, body := defBody st, scope := defScope st }
/-- level by level what the names reach -/
def lvl (g : Addr → Option Obj) : Nat → List Addr → List Addr
  | 0, as => as
  | n + 1, as => as ++ lvl g n (as.flatMap fun a => ((g a).map He.refsD).getD [])
def obs (ts : List Ts) (fn : List He.DefD) (K : Fr) : He.AlD := ((ts.all fun t => t K) && fn.all fun d => d.ok K, fn.map fun d => He.fnW K d.at_)
def obsAt (n : Nat) (ts : List Ts) (fn : List He.DefD) (g : Addr → Option Obj) : He.AlD := obs ts fn (He.frG g (lvl g n [mainGlobals]))
def Says (ts : List Ts) (fn : List He.DefD) (K : Fr) : Prop := obs ts fn K = He.valD fn
def hook (n : Nat) (ts : List Ts) (fn : List He.DefD) : PySem.W.Hook :=
  { α := He.AlD, obs := fun s => obsAt n ts fn s.heap.get?, val := fun _ => He.valD fn, says := fun _ h => ∃ K : Fr, K.In h ∧ Says ts fn K,
    of := fun _ _ z => ⟨_, He.frG_in, z⟩, keeps := fun _ _ _ y k => y.elim fun K y => ⟨K, PySem.W.Frag.In.keeps y.1 k, y.2⟩ }
theorem obs_eq {n : Nat} {ts : List Ts} {fn : List He.DefD} (s : PySem.W.SharedT) : obsAt n ts fn (HandSHeadRun.getT s) = (hook n ts fn).obs s.abs :=
  congrArg (obsAt n ts fn) (funext fun a => HandSHeadRun.getT_eq s a)
section
variable {ts : List Ts} {fn : List He.DefD} {K : Fr} {h : Heap} {mg : Str → Option Value}
theorem Says.t (c : Says ts fn K) (i : Nat) {t : Ts} (z : ts[i]? = some t := by rfl) : t K = true := by
  have c1 : ((ts.all fun t => t K) && fn.all fun d => d.ok K) = true := congrArg Prod.fst c
  exact List.all_eq_true.mp (Bool.and_eq_true_iff.mp c1).1 t (List.mem_of_getElem? z)
theorem Says.f (c : Says ts fn K) (i : Nat) {a : Str × Option Str} {x q : Str} {st : Stmt} (z : fn[i]? = some (dd a x q st) := by rfl) : ∃ fd, Fun K x q st (He.fAd K a) fd := by
  have c1 : ((ts.all fun t => t K) && fn.all fun d => d.ok K) = true := congrArg Prod.fst c
  have c2 := List.all_eq_true.mp (Bool.and_eq_true_iff.mp c1).2 _ (List.mem_of_getElem? z)
  have e : fn.map (fun d => He.fnW K d.at_) = fn.map He.DefD.val := congrArg Prod.snd c
  have e1 := congrArg (fun l => l[i]?) e
  simp only [List.getElem?_map, z, Option.map_some] at e1
  obtain ⟨fd, F⟩ := He.DefD.funD (Option.some.inj e1) c2
  obtain ⟨oc, od, dV, kV, doc, pm, an, cdv, ct, osl, r, l, cd, hd, _⟩ := F.ex
  rcases hd with ⟨_, rfl⟩ | ⟨hd, _⟩
  · exact ⟨fd, ⟨oc, od, kV, doc, pm, an, cdv, ct, osl, r, l, cd⟩, F.kp⟩
  · exact absurd rfl hd
/-! ### tests -/
def tGlo (x : Str) : Ts := fun K => (He.Fa.glo x).ok K
def tFree (x : Str) : Ts := fun K => (He.Fa.free x).ok K
def tInt (x : Str) (i : Int) : Ts := fun K => (He.Fa.int x i).ok K
def tStr (x : Str) (z : List Nat) : Ts := fun K => (He.Fa.str x ⟨z.toArray⟩).ok K
def tCls (x : Str) : Ts := fun K => (He.Fa.cls x).ok K
def tNoat (x f : Str) : Ts := fun K => (He.Fa.noat x f).ok K
def tMeth (x m : Str) : Ts := fun K => (He.Fa.meth x m).ok K
def tMkr (x : Str) : Ts := fun K => (He.Fa.mkr x).ok K
def tExc (x : Str) : Ts := fun K => (He.Fa.exc x).ok K
def tExm (x y : Str) : Ts := fun K => (He.Fa.exm x y true).ok K
/-- a tuple of texts -/
def relS : List (List Nat) → List Value → Bool
  | [], [] => true
  | s :: ss, .str t _ :: us => decide (t = ⟨s.toArray⟩) && relS ss us
  | _, _ => false
def tTup (x : Str) (ss : List (List Nat)) : Ts := fun K => match PySem.W.nsIn K mainGlobals x with
  | some (some (.ref a)) => (match K.lookup a with
    | some ⟨.type c, none, .seq its _, _⟩ => decide (c = "tuple") && (decide (its.size ≤ sizeLine) && relS ss its.toList)
    | _ => false)
  | _ => false
def tEc (x : Str) : Ts := fun K => He.eqO (PySem.W.findIn K (.ref (He.ga K x)) "__getattribute__") (some (some (.builtin "BaseException.__getattribute__"))) && (He.eqO (PySem.W.findIn K (.ref (He.ga K x)) "__getattr__") (some none) &&
  (decide (PySem.W.subIn K (.ref (He.ga K x)) (.type "BaseException") = some true) && (PySem.W.hasDictIn K (He.ga K x) && (He.eqO (PySem.W.findIn K (.ref (He.ga K x)) "__class__") (some (some (.builtin "object.__class__"))) &&
  (He.eqO (PySem.W.specialIn K (.builtin "object.__class__") "__get__") (some (some (.builtin "getset_descriptor.__get__"))) && (decide (PySem.W.takesIn K (.builtin "object.__class__") = some true) && decide (PySem.W.mroIn K (He.ga K x) (.type "object") = some true)))))))
def tKitG (x y : Str) (b : Bool) : Ts := fun K => decide (PySem.W.kitOne K (.ref (He.ga K x)) (.ref (He.ga K y)) = some b)
def tKitT (x : Str) (c : String) (b : Bool) : Ts := fun K => decide (PySem.W.kitOne K (.ref (He.ga K x)) (.type c) = some b)
theorem glo (X : K.In h) (G : h.Ns mainGlobals mg) {x : Str} (c : tGlo x K = true) : mg x = some (.ref (He.ga K x)) := He.glo_ok X G c
theorem free (X : K.In h) (G : h.Ns mainGlobals mg) {x : Str} (c : tFree x K = true) : mg x = none := He.free_ok X G c
theorem int (X : K.In h) (G : h.Ns mainGlobals mg) {x : Str} {i : Int} (c : tInt x i K = true) : ∃ t, mg x = some (.int i t) := He.int_ok X G c
theorem str (X : K.In h) (G : h.Ns mainGlobals mg) {x : Str} {z : List Nat} (c : tStr x z K = true) : ∃ t, mg x = some (.str ⟨z.toArray⟩ t) := He.str_ok X G c
theorem cls {x : Str} (c : tCls x K = true) : Cls K (He.ga K x) := He.cls_ok c
theorem noat {x f : Str} (c : tNoat x f K = true) : NoAttr K (He.ga K x) f := He.noat_ok c
theorem meth {x m : Str} (c : tMeth x m K = true) : Meth K (He.ga K x) m (He.fAd K (x, some m)) := He.meth_ok c
theorem mkr {x : Str} (c : tMkr x K = true) : Mk K (He.ga K x) (He.fAd K (x, some "__init__")) := He.mkr_ok c
theorem exc (X : K.In h) (G : h.Ns mainGlobals mg) {x : Str} (c : tExc x K = true) (d : tGlo x K = true) : XC K mg x (He.ga K x) :=
  have ⟨c1, c2, c3, c4⟩ := He.exc_ok c
  ⟨c1, glo X G d, c2, c3, c4⟩
theorem exm {x y : Str} (c : tExm x y K = true) : PySem.W.exmOne K (.ref (He.ga K x)) (.ref (He.ga K y)) = some true := He.exm_ok c
theorem relS_ok : ∀ {ss : List (List Nat)} {us : List Value}, relS ss us = true → Vals ((ss.map fun s => (⟨s.toArray⟩ : Str)).map V.str) us
  | [], [], _ => .nil
  | [], _ :: _, z => nomatch z
  | _ :: _, [], z => nomatch z
  | s :: ss, u :: us, z => by
    cases u with
    | str t k =>
      obtain ⟨z1, z2⟩ := Bool.and_eq_true_iff.mp (show (decide (t = ⟨s.toArray⟩) && relS ss us) = true from z)
      exact .cons ⟨k, by rw [of_decide_eq_true z1]⟩ (relS_ok z2)
    | _ => cases z
theorem tup (X : K.In h) (G : h.Ns mainGlobals mg) {x : Str} {ss : List (List Nat)} (c : tTup x ss K = true) : ∃ a, mg x = some (.ref a) ∧ KT K a ((ss.map fun s => (⟨s.toArray⟩ : Str)).map V.str) := by
  unfold tTup at c
  split at c
  · rename_i a e
    refine ⟨a, PySem.W.mg_of X G e, ?_⟩
    split at c
    · rename_i cn its n sl e1
      obtain ⟨c1, c2⟩ := Bool.and_eq_true_iff.mp c
      obtain ⟨c3, c4⟩ := Bool.and_eq_true_iff.mp c2
      exact ⟨_, its, n, e1, congrArg Value.type (of_decide_eq_true c1), rfl, rfl, of_decide_eq_true c3, relS_ok c4⟩
    · cases c
  · cases c
end
/-- the end of a law whose head is told by tests -/
theorem walk {l : PySem.W.OpenLaw} {k : Nat} {q : Program} {loose : List Str} {XP : (Str → Option Value) → Heap → Prop} {ts : List Ts} {fn : List He.DefD} {n : Nat} {d : DefRec} {x : Str}
    (hn : l.most = some 63) (hdf : d.params.defaults = []) (hr : Room k callerA)
    (F : ∀ (w : World) (mg : Str → Option Value) (fa : Addr) (h : Heap) (K : Fr), K.In h → h.Ns mainGlobals mg → mg d.name = some (.ref fa) → Says ts fn K →
      ∃ fd : FuncData, (∀ (s : Shared) (u : Value), BindsTo s fd ⟨[u], []⟩ [(x, u)]) ∧ ∀ base : Heap, K.In base → base.Ns mainGlobals mg → FnOk l.prog w K mg base (L2.CX l.prog w) k fa fd [x] (spEnd K)) :
    PySem.W.WalkO q loose XP (hook n ts fn).says l.row.toRowW d [] (fun f vs => PySem.call f vs) := by
  refine Att.attach_call hn hdf ?_
  intro w s0 s1 mg mb fa o p1 p2 p3 a vs ns G Y ho hd hc hm hobj hi hl hg
  obtain ⟨K, KX, c⟩ := Y
  obtain ⟨fd, hb, hF⟩ := F w mg fa _ K KX G.T.g hm c
  refine law_call KX G.T.g G.T.b G.T.builtins G.T.nolimit hg hobj hi (Nat.le_trans hl (by decide)) hr hF hb (fun H _ hS => ⟨a, ns, rfl, hl, hS, fun _ => rfl⟩) fun H e s' z => ?_
  obtain ⟨_, _, _, _, _, _, _, _, _, _, _, _, z⟩ := z
  exact z
end QH

set_option Elab.async false
set_option linter.all false
/-! PDef: pure meanings. The second layer: values without a store, owned things as trees. Nothing of the kit is used here. -/
namespace P
abbrev DK := Sum Int (List Nat)
/-- data that nobody changes any more -/
inductive D where
  | non | bl (b : Bool) | int (i : Int) | str (s : List Nat) | tup (ds : List D) | lst (ds : List D) | kl (ds : List D)
  | dK (kvs : List (DK × D)) | dT (kvs : List (List DK × D)) | ins (C : Nat) (fs : List (String × D)) | dKl (kvs : List (DK × D))
  deriving Inhabited, Repr
/-- what a slot holds: data, or a thing that only this slot knows (a tree of such things) -/
inductive T where
  | hole | leaf (d : D) | ls (ds : List D) | lT (ts : List T) | dK (kvs : List (DK × D)) | dT (kvs : List (List DK × D)) | is (C : Nat) (fs : List (String × T))
  deriving Inhabited, Repr
mutual
/-- the tree is nobody's any more -/
def T.fz : T → Option D
  | .hole => none
  | .leaf d => some d
  | .ls ds => some (.lst ds)
  | .lT ts => match T.fzs ts with
    | some ds => some (.lst ds)
    | none => none
  | .dK kvs => some (.dK kvs)
  | .dT kvs => some (.dT kvs)
  | .is C fs => match T.fzf fs with
    | some ds => some (.ins C ds)
    | none => none
def T.fzs : List T → Option (List D)
  | [] => some []
  | t :: ts => match T.fz t, T.fzs ts with
    | some d, some ds => some (d :: ds)
    | _, _ => none
def T.fzf : List (String × T) → Option (List (String × D))
  | [] => some []
  | (f, t) :: r => match T.fz t, T.fzf r with
    | some d, some ds => some ((f, d) :: ds)
    | _, _ => none
end
def leaves : List (String × T) → Option (List (String × D))
  | [] => some []
  | (f, .leaf d) :: r => (leaves r).map ((f, d) :: ·)
  | _ :: _ => none
/-- what a slot's thing looks like from above -/
def T.vw : T → Option D
  | .leaf d => some d
  | .ls ds => some (.lst ds)
  | .dK kvs => some (.dK kvs)
  | .dT kvs => some (.dT kvs)
  | .is C fs => (leaves fs).map (.ins C)
  | _ => none
mutual
/-- no list, dict or object in it -/
def D.flat : D → Bool
  | .tup ds => D.flats ds
  | .non => true
  | .bl _ => true
  | .int _ => true
  | .str _ => true
  | _ => false
def D.flats : List D → Bool
  | [] => true
  | d :: ds => d.flat && D.flats ds
end
mutual
def T.flat : T → Bool
  | .hole => true
  | .leaf d => d.flat
  | .ls ds => D.flats ds
  | .lT ts => T.flats ts
  | .dK kvs => D.flats (kvs.map (·.2))
  | .dT kvs => D.flats (kvs.map (·.2))
  | .is _ fs => T.flatf fs
def T.flats : List T → Bool
  | [] => true
  | t :: ts => t.flat && T.flats ts
def T.flatf : List (String × T) → Bool
  | [] => true
  | (_, t) :: r => t.flat && T.flatf r
end
/-! places -/
def ixN (n : Nat) (i : Int) : Option Nat := if 0 ≤ i then (if i < n then some i.toNat else none) else if -(n : Int) ≤ i then some (i + n).toNat else none
def atI {α : Type} (l : List α) (i : Int) : Option α := (ixN l.length i).bind fun k => l[k]?
def putF {α : Type} (f : String) (v : α) : List (String × α) → List (String × α)
  | [] => [(f, v)]
  | (g, x) :: r => if g = f then (g, v) :: r else (g, x) :: putF f v r
inductive Ac where
  | fld (Cs : List Nat) (f : String) | ix (i : Int)
def T.get1 : T → Ac → Option T
  | .lT ts, .ix i => atI ts i
  | .ls ds, .ix i => (atI ds i).map .leaf
  | .is C fs, .fld Cs f => if C ∈ Cs then fs.lookup f else none
  | .leaf (.ins C fs), .fld Cs f => if C ∈ Cs then (fs.lookup f).map .leaf else none
  | .leaf (.lst ds), .ix i => (atI ds i).map .leaf
  | .leaf (.tup ds), .ix i => (atI ds i).map .leaf
  | _, _ => none
def T.set1 : T → Ac → T → T
  | .lT ts, .ix i, s => match ixN ts.length i with
    | some k => .lT (ts.set k s)
    | none => .lT ts
  | .is C fs, .fld _ f, s => .is C (putF f s fs)
  | t, _, _ => t
def T.get : T → List Ac → Option T
  | t, [] => some t
  | t, a :: r => match t.get1 a with
    | some s => s.get r
    | none => none
def T.set : T → List Ac → T → T
  | _, [], s => s
  | t, a :: r, s => match t.get1 a with
    | some u => t.set1 a (u.set r s)
    | none => t
abbrev Env := List T
inductive PR (α : Type) where
  | ok (a : α) (e : Env)
  | exc (C : Nat) (x : Option (List (String × D))) (e : Env)
  | bad
  deriving Repr
inductive PRS where
  | nx (e : Env)
  | rt (t : T) (e : Env)
  | bk (e : Env)
  | ct (e : Env)
  | ex (C : Nat) (x : Option (List (String × D))) (e : Env)
  | bad
  deriving Repr
inductive PF where
  | ok (t : T) (ws : List T)
  | exc (C : Nat) (x : Option (List (String × D)))
  | bad
  deriving Repr
def PR.bind {α β : Type} (r : PR α) (f : α → Env → PR β) : PR β := match r with
  | .ok a e => f a e
  | .exc C x e => .exc C x e
  | .bad => .bad
def PR.st {α : Type} (r : PR α) (f : α → Env → PRS) : PRS := match r with
  | .ok a e => f a e
  | .exc C x e => .ex C x e
  | .bad => .bad
/-- only what ends well -/
def PR.no {α : Type} (r : PR α) : PR α := match r with
  | .ok a e => .ok a e
  | _ => .bad
def PRS.no (r : PRS) : PRS := match r with
  | .ex _ _ _ => .bad
  | r => r
abbrev PE := Env → PR D
abbrev PT := Env → PR T
abbrev PB := Env → PR Bool
abbrev PDs := Env → PR (List D)
abbrev PTs := Env → PR (List T)
abbrev PO := Env → PR (Option Int)
abbrev PS := Env → PRS
abbrev PSem := List T → PF
def oE {α : Type} (o : Option α) (e : Env) : PR α := match o with
  | some a => .ok a e
  | none => .bad
/-! ### expressions -/
def pVar (i : Nat) : PE := fun e => match e[i]? with
  | some (.leaf d) => .ok d e
  | _ => .bad
/-- the thing in the slot becomes data -/
def pFv (i : Nat) : PE := fun e => match e[i]? with
  | some t => (match t.fz with
    | some d => .ok d (e.set i (.leaf d))
    | none => .bad)
  | none => .bad
/-- it is only looked at -/
def pVw (i : Nat) : PE := fun e => match e[i]? with
  | some t => oE t.vw e
  | none => .bad
/-- it leaves the slot -/
def pMv (i : Nat) : PT := fun e => match e[i]? with
  | some .hole => .bad
  | some t => .ok t (e.set i .hole)
  | none => .bad
def pC (d : D) : PE := fun e => .ok d e
def pLf (a : PE) : PT := fun e => (a e).bind fun d e1 => .ok (.leaf d) e1
def pFz (a : PT) : PE := fun e => (a e).bind fun t e1 => oE t.fz e1
def pBin (g : D → D → Option D) (a b : PE) : PE := fun e => (a e).bind fun x e1 => (b e1).bind fun y e2 => oE (g x y) e2
def pUn (g : D → Option D) (a : PE) : PE := fun e => (a e).bind fun x e1 => oE (g x) e1
def cMul (i j : Int) : Prop := i.natAbs ≤ 9000000000000000000 ∨ j.natAbs ≤ 9000000000000000000
instance : ∀ i j, Decidable (cMul i j) := fun i j => by unfold cMul; exact inferInstance
def gSub : D → D → Option D
  | .int i, .int j => some (.int (i - j))
  | _, _ => none
def gMul : D → D → Option D
  | .int i, .int j => if cMul i j then some (.int (i * j)) else none
  | _, _ => none
def gDiv : D → D → Option D
  | .int i, .int j => if 0 < j ∧ j.natAbs < 1073741824 then some (.int (i / j)) else none
  | _, _ => none
def gMod : D → D → Option D
  | .int i, .int j => if 0 < j then some (.int (i % j)) else none
  | _, _ => none
def gPow : D → D → Option D
  | .int i, .int j => if 0 ≤ j ∧ j.natAbs ≤ 1000 ∧ 0 ≤ i ∧ i.natAbs < 1000 then some (.int (i ^ j.toNat)) else none
  | _, _ => none
def gNeg : D → Option D
  | .int i => some (.int (-i))
  | _ => none
def gNot : D → Option D
  | .bl b => some (.bl (!b))
  | _ => none
/-- the sum: numbers, texts, lists (a new one) -/
def tAdd : D → D → Option T
  | .int i, .int j => some (.leaf (.int (i + j)))
  | .str s, .str t => if s.length + t.length ≤ 16000000 then some (.leaf (.str (s ++ t))) else none
  | .lst s, .lst t => if s.length + t.length ≤ 16000000 then some (.ls (s ++ t)) else none
  | .tup s, .tup t => if s.length + t.length ≤ 16000000 then some (.leaf (.tup (s ++ t))) else none
  | _, _ => none
def pAdd (a b : PE) : PT := fun e => (a e).bind fun x e1 => (b e1).bind fun y e2 => oE (tAdd x y) e2
def pAnd (a b : PE) : PE := fun e => (a e).bind fun x e1 => match x with
  | .bl true => b e1
  | .bl false => .ok (.bl false) e1
  | _ => .bad
def pOr (a b : PE) : PE := fun e => (a e).bind fun x e1 => match x with
  | .bl false => b e1
  | .bl true => .ok (.bl true) e1
  | _ => .bad
def pIf (t : PB) (a b : PE) : PE := fun e => (t e).bind fun c e1 => if c = true then a e1 else b e1
def pIfT (t : PB) (a b : PT) : PT := fun e => (t e).bind fun c e1 => if c = true then a e1 else b e1
def dNil : PDs := fun e => .ok [] e
def dCons (a : PE) (r : PDs) : PDs := fun e => (a e).bind fun d e1 => (r e1).bind fun ds e2 => .ok (d :: ds) e2
def tNil : PTs := fun e => .ok [] e
def tCons (a : PT) (r : PTs) : PTs := fun e => (a e).bind fun d e1 => (r e1).bind fun ds e2 => .ok (d :: ds) e2
def pTup (am : PDs) : PE := fun e => (am e).bind fun ds e1 => if ds.length ≤ 16000000 then .ok (.tup ds) e1 else .bad
def pLst (am : PDs) : PT := fun e => (am e).bind fun ds e1 => if ds.length ≤ 16000000 then .ok (.ls ds) e1 else .bad
def pLsT (am : PTs) : PT := fun e => (am e).bind fun ds e1 => if ds.length ≤ 16000000 then .ok (.lT ds) e1 else .bad
def gIx : D → D → Option D
  | .kl ds, .int i => atI ds i
  | .str s, .int i => if s.length ≤ 16000000 then (atI s i).map fun c => .str [c] else none
  | .lst ds, .int i => atI ds i
  | .tup ds, .int i => atI ds i
  | _, _ => none
/-- a part of a list -/
def sIx (n d : Nat) : Option Int → Nat
  | none => d
  | some i => if i < 0 then (i + n).toNat else min i.toNat n
def cut {α : Type} (xs : List α) (lo hi : Option Int) : List α := (xs.drop (sIx xs.length 0 lo)).take (sIx xs.length xs.length hi - sIx xs.length 0 lo)
def oNo : PO := fun e => .ok none e
def oSo (a : PE) : PO := fun e => (a e).bind fun x e1 => match x with
  | .int i => .ok (some i) e1
  | _ => .bad
def tSl : D → Option Int → Option Int → Option T
  | .str s, lo, hi => if s.length ≤ 16000000 then some (.leaf (.str (cut s lo hi))) else none
  | .tup us, lo, hi => some (.leaf (.tup (cut us lo hi)))
  | .lst us, lo, hi => some (.ls (cut us lo hi))
  | _, _, _ => none
def pSl (a : PE) (lo hi : PO) : PT := fun e => (a e).bind fun x e1 => (lo e1).bind fun l e2 => (hi e2).bind fun u e3 => oE (tSl x l u) e3
def gFld (Cs : List Nat) (f : String) : D → Option D
  | .ins C fs => if C ∈ Cs then fs.lookup f else none
  | _ => none
/-- calls of built-ins on data -/
def pCB (g : List D → Option D) (am : PDs) : PE := fun e => (am e).bind fun ds e1 => oE (g ds) e1
def pCT (g : List D → Option T) (am : PDs) : PT := fun e => (am e).bind fun ds e1 => oE (g ds) e1
def gLen : List D → Option D
  | [.kl ds] => some (.int ds.length)
  | [.str s] => if s.length ≤ 16000000 then some (.int s.length) else none
  | [.lst ds] => some (.int ds.length)
  | [.tup ds] => some (.int ds.length)
  | _ => none
def gInt : List D → Option D
  | [.int i] => some (.int i)
  | [.bl b] => some (.int (if b then 1 else 0))
  | _ => none
def gList : List D → Option T
  | [.kl ds] => some (.ls ds)
  | [.lst ds] => some (.ls ds)
  | [.tup ds] => some (.ls ds)
  | _ => none
def gTuple : List D → Option D
  | [.lst ds] => some (.tup ds)
  | [.tup ds] => some (.tup ds)
  | _ => none
def gMin : List D → Option D
  | [.int i, .int j] => some (.int (if j < i then j else i))
  | _ => none
def gMax : List D → Option D
  | [.int i, .int j] => some (.int (if j > i then j else i))
  | _ => none
def gAbs : List D → Option D
  | [.int i] => some (.int (if i < 0 then -i else i))
  | _ => none
def strL : List D → Option (List (List Nat))
  | [] => some []
  | .str s :: r => match strL r with
    | some ss => some (s :: ss)
    | none => none
  | _ :: _ => none
def joinL (s : List Nat) : List (List Nat) → List Nat
  | [] => []
  | [x] => x
  | x :: y :: r => x ++ (s ++ joinL s (y :: r))
def gJoin (s : List Nat) : D → Option D
  | .lst ds => (strL ds).bind fun ss => if (ss.map List.length).sum + ss.length * s.length ≤ 16000000 then some (.str (joinL s ss)) else none
  | .tup ds => (strL ds).bind fun ss => if (ss.map List.length).sum + ss.length * s.length ≤ 16000000 then some (.str (joinL s ss)) else none
  | _ => none
/-- a text's method of one argument -/
def pSM1 (g : List Nat → D → Option D) (a b : PE) : PE := fun e => (a e).bind fun x e1 => match x with
  | .str s => (b e1).bind fun y e2 => oE (g s y) e2
  | _ => .bad
/-! ### tests -/
mutual
def D.eq : D → D → Bool
  | .non, .non => true
  | .bl a, .bl b => a == b
  | .bl a, .int j => (if a then 1 else 0) == j
  | .int i, .bl b => i == (if b then 1 else 0)
  | .int i, .int j => i == j
  | .str x, .str y => x == y
  | .lst xs, .lst ys => D.eqs xs ys
  | .tup xs, .tup ys => D.eqs xs ys
  | _, _ => false
def D.eqs : List D → List D → Bool
  | [], [] => true
  | x :: xs, y :: ys => D.eq x y && D.eqs xs ys
  | [], _ :: _ => false
  | _ :: _, [] => false
end
mutual
/-- nested at most so deep, no dict, no object -/
def D.ok : Nat → D → Bool
  | _, .non => true
  | _, .bl _ => true
  | _, .int _ => true
  | _, .str s => s.all (· < 1114112)
  | 0, _ => false
  | n + 1, .tup ds => D.oks n ds
  | n + 1, .lst ds => D.oks n ds
  | _, _ => false
def D.oks : Nat → List D → Bool
  | _, [] => true
  | n, d :: ds => D.ok n d && D.oks n ds
end
def atom : D → Bool
  | .non => true
  | .bl _ => true
  | .int _ => true
  | .str _ => true
  | _ => false
/-- a number beside a truth -/
def mixed : D → D → Bool
  | .bl _, .int _ => true
  | .int _, .bl _ => true
  | _, _ => false
def cEq (x y : D) : Option Bool := if (atom x && atom y && !mixed x y) || (D.ok 50 x && D.ok 50 y) then some (D.eq x y) else none
def cNe (x y : D) : Option Bool := (cEq x y).map not
def cI (p : Int → Int → Bool) : D → D → Option Bool
  | .int i, .int j => some (p i j)
  | _, _ => none
abbrev cLt := cI fun i j => decide (i < j)
abbrev cLe := cI fun i j => decide (i ≤ j)
abbrev cGt := cI fun i j => decide (j < i)
abbrev cGe := cI fun i j => decide (j ≤ i)
def cIs : D → D → Option Bool
  | .non, .non => some true
  | _, .non => some false
  | _, _ => none
def cIsN (x y : D) : Option Bool := (cIs x y).map not
def cIn0 (x : D) (ds : List D) : Option Bool := if (atom x && ds.all atom) || (D.ok 50 x && D.oks 49 ds) then some (ds.any fun y => D.eq y x) else none
def keyOf : D → Option DK
  | .int i => some (.inl i)
  | .str s => some (.inr s)
  | _ => none
def keysOf : List D → Option (List DK)
  | [] => some []
  | d :: ds => match keyOf d, keysOf ds with
    | some k, some ks => some (k :: ks)
    | _, _ => none
def cIn : D → D → Option Bool
  | x, .lst ds => cIn0 x ds
  | x, .tup ds => if (atom x && ds.all atom) then some (ds.any fun y => D.eq y x) else none
  | _, _ => none
def cNin (x y : D) : Option Bool := (cIn x y).map not
def tCmp (f : D → D → Option Bool) (a b : PE) : PB := fun e => (a e).bind fun x e1 => (b e1).bind fun y e2 => oE (f x y) e2
def pB (t : PB) : PE := fun e => (t e).bind fun b e1 => .ok (.bl b) e1
def tAnd (a b : PB) : PB := fun e => (a e).bind fun c e1 => if c = true then b e1 else .ok false e1
def tOr (a b : PB) : PB := fun e => (a e).bind fun c e1 => if c = true then .ok true e1 else b e1
def tNot (a : PB) : PB := fun e => (a e).bind fun c e1 => .ok (!c) e1
def truD : D → Option Bool
  | .non => some false
  | .bl b => some b
  | .int i => some (i != 0)
  | .str s => if s.length ≤ 16000000 then some (!s.isEmpty) else none
  | .tup us => some (!us.isEmpty)
  | .lst us => some (!us.isEmpty)
  | .dK us => some (!us.isEmpty)
  | _ => none
def tTru (a : PE) : PB := fun e => (a e).bind fun x e1 => oE (truD x) e1
def tYes : PB := fun e => .ok true e
inductive Ty where
  | bool | int | str | tuple | list | dict
def isD (T : Ty) : D → Option Bool
  | .non => some false
  | .bl _ => some (match T with | .bool => true | .int => true | _ => false)
  | .int _ => some (match T with | .int => true | _ => false)
  | .str _ => some (match T with | .str => true | _ => false)
  | .tup _ => some (match T with | .tuple => true | _ => false)
  | .lst _ => some (match T with | .list => true | _ => false)
  | .kl _ => some (match T with | .list => true | _ => false)
  | .dK _ => some (match T with | .dict => true | _ => false)
  | .dT _ => some (match T with | .dict => true | _ => false)
  | .ins _ _ => none
  | .dKl _ => none
def tIs (T : Ty) (a : PE) : PB := fun e => (a e).bind fun x e1 => oE (isD T x) e1
def tIs2 (T S : Ty) (a : PE) : PB := fun e => (a e).bind fun x e1 => oE ((isD T x).bind fun b => (isD S x).map fun c => b || c) e1
/-! ### paths -/
inductive Pth where
  | var (i : Nat) | fld (p : Pth) (Cs : List Nat) (f : String) | ix (p : Pth) (a : PE)
def Pth.root : Pth → Nat
  | .var i => i
  | .fld p _ _ => p.root
  | .ix p _ => p.root
def Pth.isVar : Pth → Bool
  | .var _ => true
  | _ => false
def getP (i : Nat) (r : List Ac) (e : Env) : Option T := match e[i]? with
  | some t => t.get r
  | none => none
def setP (i : Nat) (r : List Ac) (s : T) (e : Env) : Env := match e[i]? with
  | some t => e.set i (t.set r s)
  | none => e
/-- the path leads somewhere -/
def atP (i : Nat) (r : List Ac) (e : Env) : PR (List Ac) := match getP i r e with
  | some .hole => .bad
  | some _ => .ok r e
  | none => .bad
def Pth.ev : Pth → Env → PR (List Ac)
  | .var i, e => atP i [] e
  | .fld p Cs f, e => (p.ev e).bind fun r e1 => atP p.root (r ++ [.fld Cs f]) e1
  | .ix p a, e => (p.ev e).bind fun r e1 => (a e1).bind fun x e2 => match x with
    | .int i => atP p.root (r ++ [.ix i]) e2
    | _ => .bad
/-- what stands at a path, to be kept -/
def pRd (p : Pth) : PE := fun e => (p.ev e).bind fun r e1 => match getP p.root r e1 with
  | some (.leaf d) => .ok d e1
  | some t => (match t.fz with
    | some d => .ok d (setP p.root r (.leaf d) e1)
    | none => .bad)
  | none => .bad
/-- .. to be looked at -/
def pVp (p : Pth) : PE := fun e => (p.ev e).bind fun r e1 => match getP p.root r e1 with
  | some t => oE t.vw e1
  | none => .bad
/-- a change of the list at a path, behind values -/
def pUpd (p : Pth) (a : PDs) (g : T → List D → Option (D × T)) : PE := fun e => (p.ev e).bind fun r e1 => match getP p.root r e1 with
  | some (.ls _) => (a e1).bind fun ds e2 => (match getP p.root r e2 with
    | some t => (match g t ds with
      | some (d, s) => .ok d (setP p.root r s e2)
      | none => .bad)
    | none => .bad)
  | _ => .bad
def uApp : T → List D → Option (D × T)
  | .ls xs, [d] => if xs.length < 16000000 then some (.non, .ls (xs ++ [d])) else none
  | _, _ => none
def uExt : T → List D → Option (D × T)
  | .ls xs, [.lst ys] => if xs.length + ys.length ≤ 16000000 then some (.non, .ls (xs ++ ys)) else none
  | _, _ => none
/-! ### calls -/
def callR (r : PF) (e : Env) : PR T := match r with
  | .ok t _ => .ok t e
  | .exc C x => .exc C x e
  | .bad => .bad
def pCall (n : Nat) (sem : PSem) (am : PDs) : PT := fun e => (am e).bind fun ds e1 => if ds.length = n then callR (sem (ds.map .leaf)) e1 else .bad
def insT (k : Nat) (s : T) (ds : List D) : List T := (ds.take k).map .leaf ++ s :: (ds.drop k).map .leaf
/-- the argument at place k is the slot i, which the call may change -/
def pCallV (n k i : Nat) (sem : PSem) (am : PDs) : PT := fun e => match e[i]? with
  | some .hole => .bad
  | none => .bad
  | some _ => (am e).bind fun ds e1 => match e1[i]? with
    | some s => (if ds.length + 1 = n ∧ k ≤ ds.length then (match sem (insT k s ds) with
      | .ok t [w] => .ok t (e1.set i w)
      | .exc C x => .exc C x (e1.set i .hole)
      | _ => .bad) else .bad)
    | none => .bad
/-- .. which is only looked at during the call -/
def pCallB (n k i : Nat) (sem : PSem) (am : PDs) : PT := fun e => match e[i]? with
  | some .hole => .bad
  | none => .bad
  | some _ => (am e).bind fun ds e1 => match e1[i]? with
    | some s => (match s.fz with
      | some d => (if ds.length + 1 = n ∧ k ≤ ds.length then (match sem (insT k (.leaf d) ds) with
        | .ok t _ => if t.flat = true then .ok t e1 else .bad
        | .exc C none => .exc C none e1
        | _ => .bad) else .bad)
      | none => .bad)
    | none => .bad
/-- a method of the object at a path, which it may change -/
def pMeth (C : Nat) (m : String) (n : Nat) (sem : PSem) (p : Pth) (am : PDs) : PT := fun e => (p.ev e).bind fun r e1 => match getP p.root r e1 with
  | some (.is C1 fs) => (if C1 = C ∧ fs.lookup m = none then (am e1).bind fun ds e2 => (match getP p.root r e2 with
    | some (.is C2 fs2) => (if ds.length + 1 = n then (match sem (.is C2 fs2 :: ds.map .leaf) with
      | .ok t [w] => .ok t (setP p.root r w e2)
      | .exc C x => .exc C x (setP p.root r .hole e2)
      | _ => .bad) else .bad)
    | _ => .bad) else .bad)
  | _ => .bad
/-- .. which is only looked at -/
def pMethB (C : Nat) (m : String) (n : Nat) (sem : PSem) (p : Pth) (am : PDs) : PT := fun e => (p.ev e).bind fun r e1 => match getP p.root r e1 with
  | some (.is C1 fs) => (if C1 = C ∧ fs.lookup m = none then (am e1).bind fun ds e2 => (match getP p.root r e2 with
    | some (.is C2 fs2) => (match (T.is C2 fs2).fz with
      | some d => (if ds.length + 1 = n then (match sem (.leaf d :: ds.map .leaf) with
        | .ok t _ => if t.flat = true then .ok t e2 else .bad
        | .exc C none => .exc C none e2
        | _ => .bad) else .bad)
      | none => .bad)
    | _ => .bad) else .bad)
  | _ => .bad
/-- a method of an object that is data -/
def pMethD (C : Nat) (m : String) (n : Nat) (sem : PSem) (o : PE) (am : PDs) : PT := fun e => (o e).bind fun x e1 => match x with
  | .ins C1 fs => (if C1 = C ∧ fs.lookup m = none then (am e1).bind fun ds e2 => (if ds.length + 1 = n then callR (sem (.leaf (.ins C1 fs) :: ds.map .leaf)) e2 else .bad) else .bad)
  | _ => .bad
/-- a new object -/
def pMake (C n : Nat) (sem : PSem) (am : PDs) : PT := fun e => (am e).bind fun ds e1 => if ds.length + 1 = n then (match sem (.is C [] :: ds.map .leaf) with
  | .ok (.leaf .non) [w] => .ok w e1
  | _ => .bad) else .bad
/-! ### statements -/
def sNx : PS := fun e => .nx e
def sSeq (a b : PS) : PS := fun e => match a e with
  | .nx e1 => b e1
  | r => r
def sAsg (i : Nat) (a : PT) : PS := fun e => (a e).st fun t e1 => .nx (e1.set i t)
def setA : Env → List Nat → List D → Env
  | e, i :: is, d :: ds => setA (e.set i (.leaf d)) is ds
  | e, _, _ => e
/-- targets -/
inductive CT where
  | one (i : Nat) | tup (is : List Nat) | lst (is : List Nat) | nst (i : Nat) (is : List Nat) | nsl (is : List Nat) (i : Nat)
def CT.ix : CT → List Nat
  | .one i => [i]
  | .tup is => is
  | .lst is => is
  | .nst i is => i :: is
  | .nsl is i => i :: is
def CT.asg (c : CT) (d : D) (e : Env) : Option Env := match c, d with
  | .one i, d => some (e.set i (.leaf d))
  | .tup is, .tup ds => if ds.length = is.length then some (setA e is ds) else none
  | .lst is, .lst ds => if ds.length = is.length then some (setA e is ds) else none
  | .nst i is, .tup [x, .tup ds] => if ds.length = is.length then some (setA (e.set i (.leaf x)) is ds) else none
  | .nsl is i, .tup [.tup ds, x] => if ds.length = is.length then some ((setA e is ds).set i (.leaf x)) else none
  | _, _ => none
def sUnp (c : CT) (a : PE) : PS := fun e => (a e).st fun d e1 => match c.asg d e1 with
  | some e2 => .nx e2
  | none => .bad
def sRet (a : PT) : PS := fun e => (a e).st fun t e1 => .rt t e1
def sRetN : PS := fun e => .rt (.leaf .non) e
def sDrop (a : PT) : PS := fun e => (a e).st fun _ e1 => .nx e1
def sIf (t : PB) (a b : PS) : PS := fun e => (t e).st fun c e1 => if c = true then a e1 else b e1
def sBrk : PS := fun e => .bk e
def sCnt : PS := fun e => .ct e
/-- names that are not read any more -/
def kill : List Nat → Env → Env
  | [], e => e
  | i :: is, e => kill is (e.set i .hole)
def forL (K : List Nat) (c : CT) (b : PS) : List D → Env → PRS
  | [], e => .nx (kill K e)
  | d :: ds, e => match c.asg d (kill K e) with
    | some e1 => (match b e1 with
      | .nx e2 => forL K c b ds e2
      | .ct e2 => forL K c b ds e2
      | .bk e2 => .nx (kill K e2)
      | r => r)
    | none => .bad
def sFor (K : List Nat) (it : PDs) (c : CT) (b : PS) : PS := fun e => (it e).st fun ds e1 => forL K c b ds e1
def whL (K : List Nat) (t : PB) (b : PS) : Nat → Env → PRS
  | 0, _ => .bad
  | n + 1, e => (t (kill K e)).st fun c e1 => if c = true then (match b e1 with
      | .nx e2 => whL K t b n e2
      | .ct e2 => whL K t b n e2
      | .bk e2 => .nx (kill K e2)
      | r => r) else .nx e1
def sWhile (K : List Nat) (n : Nat) (t : PB) (b : PS) : PS := fun e => whL K t b n e
/-! iteration -/
def rng (lo : Int) (n : Nat) : List D := (List.range n).map fun i => .int (lo + (i : Nat))
/-- what is walked, out of arguments -/
def iOp (g : List D → Option (List D)) (am : PDs) : PDs := fun e => (am e).bind fun ds e1 => oE (g ds) e1
def gR1 : List D → Option (List D)
  | [.int j] => if j.natAbs ≤ 1000000000 then some (rng 0 j.toNat) else none
  | _ => none
def gR2 : List D → Option (List D)
  | [.int i, .int j] => if i.natAbs ≤ 1000000000 ∧ j.natAbs ≤ 1000000000 then some (rng i (j - i).toNat) else none
  | _ => none
abbrev iR1 := iOp gR1
abbrev iR2 := iOp gR2
def seqD : D → Option (List D)
  | .kl ds => some ds
  | .str s => some (s.map fun c => .str [c])
  | .lst ds => some ds
  | .tup ds => some ds
  | _ => none
def iE (a : PE) : PDs := fun e => (a e).bind fun x e1 => oE (seqD x) e1
def pairs (xs ys : List D) : List D := (xs.zip ys).map fun p => .tup [p.1, p.2]
def sqD : D → Option (List D)
  | .lst ds => some ds
  | .tup ds => some ds
  | .kl ds => some ds
  | _ => none
def gZ : List D → Option (List D)
  | [x, y] => (match sqD x, sqD y with
    | some us, some ts => some (pairs us ts)
    | _, _ => none)
  | _ => none
def gN : List D → Option (List D)
  | [.lst us] => some (pairs (rng 0 us.length) us)
  | _ => none
abbrev iZ := iOp gZ
abbrev iN := iOp gN
/-- comprehensions -/
def lcL (c : CT) (t : PB) (a : PE) (vs : List Nat) : List D → List D → Env → PR (List D)
  | [], acc, e => .ok acc e
  | d :: ds, acc, e => match c.asg d (kill vs e) with
    | some e1 => (t e1).no.bind fun b e2 => if b = true then (a e2).no.bind fun y e3 => if acc.length < 16000000 then lcL c t a vs ds (acc ++ [y]) e3 else .bad else lcL c t a vs ds acc e2
    | none => .bad
def pLc (it : PDs) (c : CT) (t : PB) (a : PE) (vs : List Nat) : PT := fun e => (it e).bind fun ds e1 => (lcL c t a vs ds [] e1).bind fun r e2 => .ok (.ls r) (kill vs e2)
/-- .. whose items are trees -/
def lcT (c : CT) (a : PT) (vs : List Nat) : List D → List T → Env → PR (List T)
  | [], acc, e => .ok acc e
  | d :: ds, acc, e => match c.asg d (kill vs e) with
    | some e1 => (a e1).no.bind fun y e3 => if acc.length < 16000000 then lcT c a vs ds (acc ++ [y]) e3 else .bad
    | none => .bad
def pLcT (it : PDs) (c : CT) (a : PT) (vs : List Nat) : PT := fun e => (it e).bind fun ds e1 => (lcT c a vs ds [] e1).bind fun r e2 => .ok (.lT r) (kill vs e2)
/-! stores -/
def sSetI (p : Pth) (i a : PE) : PS := fun e => (a e).st fun d e1 => (p.ev e1).st fun r e2 => (i e2).st fun x e3 => match x, getP p.root r e3 with
  | .int k, some (.ls ds) => (match ixN ds.length k with
    | some j => .nx (setP p.root r (.ls (ds.set j d)) e3)
    | none => .bad)
  | _, _ => .bad
def sAug (g : D → D → Option D) (i : Nat) (a : PE) : PS := fun e => match e[i]? with
  | some (.leaf x) => (a e).st fun y e1 => (match g x y with
    | some z => .nx (e1.set i (.leaf z))
    | none => .bad)
  | _ => .bad
def gIAdd : D → D → Option D
  | .int i, .int j => some (.int (i + j))
  | .str s, .str t => if s.length + t.length ≤ 16000000 then some (.str (s ++ t)) else none
  | _, _ => none
def sAugI (g : D → D → Option D) (p : Pth) (i a : PE) : PS := fun e => (p.ev e).st fun r e1 => (i e1).st fun x e2 => match x, getP p.root r e2 with
  | .int k, some (.ls ds) => (match atI ds k with
    | some z => (a e2).st fun y e3 => (match g z y, getP p.root r e3 with
      | some w, some (.ls ds2) => (match ixN ds2.length k with
        | some j => .nx (setP p.root r (.ls (ds2.set j w)) e3)
        | none => .bad)
      | _, _ => .bad)
    | none => .bad)
  | _, _ => .bad
def sSetF (Cs : List Nat) (f : String) (p : Pth) (a : PT) : PS := fun e => (a e).st fun t e1 => (p.ev e1).st fun r e2 => match getP p.root r e2 with
  | some (.is C fs) => if C ∈ Cs ∧ fs.length < 1000 then .nx (setP p.root r (.is C (putF f t fs)) e2) else .bad
  | _ => .bad
def sAugF (Cs : List Nat) (g : D → D → Option D) (f : String) (p : Pth) (a : PE) : PS := fun e => (p.ev e).st fun r e1 => match getP p.root r e1 with
  | some (.is C fs) => if C ∈ Cs then (match fs.lookup f with
    | some (.leaf z) => (a e1).st fun y e3 => (match g z y, getP p.root r e3 with
      | some w, some (.is C2 fs2) => if C2 = C ∧ fs2.length < 1000 then .nx (setP p.root r (.is C2 (putF f (.leaf w) fs2)) e3) else .bad
      | _, _ => .bad)
    | _ => .bad) else .bad
  | _ => .bad
/-! exceptions -/
def sRaise (C : Nat) : PS := fun e => .ex C none e
def sTry (ys : List Nat) (b s : PS) : PS := fun e => match b e with
  | .ex C _ e1 => if C ∈ ys then (s e1).no else .bad
  | r => r
/-! ### defs -/
def pick {α : Type} : List Bool → List α → List α
  | true :: m, a :: l => a :: pick m l
  | false :: m, _ :: l => pick m l
  | _, _ => []
def pFn (n : Nat) (mask : List Bool) (body : PS) : PSem := fun ts => if mask.length ≤ ts.length then (match body (ts ++ List.replicate (n - ts.length) .hole) with
  | .nx e => .ok (.leaf .non) (pick mask e)
  | .rt t e => .ok t (pick mask e)
  | .ex C x _ => .exc C x
  | _ => .bad) else .bad
/-! ### dicts whose keys are numbers and texts -/
def valK : List (DK × D) → DK → Option D
  | [], _ => none
  | (j, x) :: r, k => if j = k then some x else valK r k
def repK : List (DK × D) → DK → D → List (DK × D)
  | [], _, _ => []
  | (j, x) :: r, k, v => (if j = k then (j, v) else (j, x)) :: repK r k v
def putK (kvs : List (DK × D)) (k : DK) (v : D) : List (DK × D) := if (valK kvs k).isSome = true then repK kvs k v else kvs ++ [(k, v)]
def gDGet : D → D → Option D
  | .dK kvs, y => (keyOf y).bind fun k => valK kvs k
  | .dKl kvs, y => (keyOf y).bind fun k => valK kvs k
  | _, _ => none
def cDIn : D → D → Option Bool
  | y, .dK kvs => (keyOf y).map fun k => (valK kvs k).isSome
  | y, .dKl kvs => (keyOf y).map fun k => (valK kvs k).isSome
  | _, _ => none
def cDNin (y x : D) : Option Bool := (cDIn y x).map not
def gDLen : List D → Option D
  | [.dK kvs] => some (.int kvs.length)
  | [.dKl kvs] => some (.int kvs.length)
  | _ => none
def gDCopy : List D → Option T
  | [.dK kvs] => some (.dK kvs)
  | [.dKl kvs] => some (.dK kvs)
  | _ => none
def pDNew : PT := fun e => .ok (.dK []) e
def sSetK (p : Pth) (i a : PE) : PS := fun e => (a e).st fun d e1 => (p.ev e1).st fun r e2 => (i e2).st fun x e3 => match keyOf x, getP p.root r e3 with
  | some k, some (.dK ds) => if ds.length < 16000000 then .nx (setP p.root r (.dK (putK ds k d)) e3) else .bad
  | _, _ => .bad
def pairsK : List D → Option (List (DK × D))
  | [] => some []
  | k :: v :: r => (match keyOf k, pairsK r with
    | some k, some kvs => some ((k, v) :: kvs)
    | _, _ => none)
  | _ => none
def mergeP (kvs more : List (DK × D)) : List (DK × D) := more.foldl (fun acc kv => putK acc kv.1 kv.2) kvs
/-- a display: keys and values in turn -/
def pDisp (am : PDs) : PT := fun e => (am e).bind fun ds e1 => match pairsK ds with
  | some kvs => if kvs.length ≤ 15 then .ok (.dK (mergeP [] kvs)) e1 else .bad
  | none => .bad
def dkD : DK → D
  | .inl i => .int i
  | .inr s => .str s
/-- a walk over the keys of the dict in a slot, which nobody changes any more -/
def iKv (i : Nat) : PDs := fun e => match e[i]? with
  | some (.dK kvs) => .ok (kvs.map fun p => dkD p.1) (e.set i (.leaf (.dKl kvs)))
  | some (.leaf (.dKl kvs)) => .ok (kvs.map fun p => dkD p.1) e
  | _ => .bad
/-! ### more built-ins -/
def intsD : List D → Option (List Int)
  | [] => some []
  | .int i :: r => (intsD r).map (i :: ·)
  | _ :: _ => none
def blsD : List D → Option (List Bool)
  | [] => some []
  | .bl i :: r => (blsD r).map (i :: ·)
  | _ :: _ => none
/-- a function of the numbers of a list -/
def gLI (f : List Int → Option Int) : List D → Option D
  | [.lst ds] => (intsD ds).bind fun ns => (f ns).map .int
  | [.kl ds] => (intsD ds).bind fun ns => (f ns).map .int
  | _ => none
def gLB (f : List Bool → Bool) : List D → Option D
  | [.lst ds] => (blsD ds).map fun bs => .bl (f bs)
  | _ => none
def maxL : List Int → Option Int
  | [] => none
  | i :: r => some (r.foldl (fun a b => if b > a then b else a) i)
def minL : List Int → Option Int
  | [] => none
  | i :: r => some (r.foldl (fun a b => if b < a then b else a) i)
abbrev gSum := gLI fun ns => some ns.sum
abbrev gMax1 := gLI maxL
abbrev gMin1 := gLI minL
abbrev gAny := gLB fun bs => bs.any id
abbrev gAll := gLB fun bs => bs.all id
def insI (i : Int) : List Int → List Int
  | [] => [i]
  | j :: r => if i ≤ j then i :: j :: r else j :: insI i r
def sortI (ns : List Int) : List Int := ns.foldr insI []
def gSortI : List D → Option T
  | [.lst ds] => (intsD ds).map fun ns => .ls ((sortI ns).map .int)
  | [.kl ds] => (intsD ds).map fun ns => .ls ((sortI ns).map .int)
  | _ => none
/-! ### texts, places, chains -/
def gOrd : List D → Option D
  | [.str [c]] => some (.int c)
  | _ => none
def pChain (f f' : D → D → Option Bool) (a b c : PE) : PE := fun e => (a e).bind fun x e1 => (b e1).bind fun y e2 => (oE (f x y) e2).bind fun k e3 => if k = true then (c e3).bind fun z e4 => (oE (f' y z) e4).bind fun k e5 => .ok (.bl k) e5 else .ok (.bl false) e3
def gMulS : D → D → Option D
  | .str s, .int k => if s.length * k.toNat ≤ 16000000 ∧ k.natAbs ≤ 1000000000 then some (.str (List.replicate k.toNat s).flatten) else none
  | _, _ => none
/-- a sign in a text -/
def cInS : D → D → Option Bool
  | .str [c], .str z => some (decide (c ∈ z))
  | _, _ => none
def cNinS (x y : D) : Option Bool := (cInS x y).map not
/-- the first place of a sign in a text -/
def gIndexS (s : List Nat) : D → Option D
  | .str [c] => (s.findIdx? (· == c)).map fun (i : Nat) => D.int i
  | _ => none
/-- .. of a plain value in a list -/
def gIndexL : D → D → Option D
  | .lst ds, y => if ds.all atom = true ∧ atom y = true then (ds.findIdx? fun z => D.eq z y).map fun (i : Nat) => D.int i else none
  | _, _ => none
def pIndexL (a b : PE) : PE := fun e => (a e).bind fun x e1 => match x with
  | .lst ds => (b e1).bind fun y e2 => oE (gIndexL (.lst ds) y) e2
  | _ => .bad
/-- .. of a text in a written tuple -/
def gIndexT (ss : List (List Nat)) : List D → Option D
  | [.str z] => (ss.findIdx? (· == z)).map fun (i : Nat) => D.int i
  | _ => none
/-- the name of an exception goes -/
def PRS.cl (i : Nat) : PRS → PRS
  | .nx e => .nx (e.set i .hole)
  | .rt t e => .rt t (e.set i .hole)
  | .bk e => .bk (e.set i .hole)
  | .ct e => .ct (e.set i .hole)
  | .ex _ _ _ => .bad
  | .bad => .bad
def sTryAs (i : Nat) (ys : List Nat) (b s : PS) : PS := fun e => match b e with
  | .ex C x e1 => if C ∈ ys ∧ x = none ∧ i < e1.length then (s (e1.set i .hole)).cl i else .bad
  | r => r
/-! ### more of lists and numbers -/
def sInt (i : Int) : List Nat := (toString i).toList.map Char.toNat
def gStr : List D → Option D
  | [.int i] => if i.natAbs.log2 < 1920 then some (.str (sInt i)) else none
  | _ => none
def uPop : T → List D → Option (D × T)
  | .ls us, [] => (us[us.length - 1]?).map fun y => (y, .ls us.dropLast)
  | _, _ => none
def uIns : T → List D → Option (D × T)
  | .ls us, [.int i, d] => if us.length < 16000000 ∧ 0 ≤ i ∧ i < 1000000000000000000 then some (.non, .ls (us.take i.toNat ++ [d] ++ us.drop i.toNat)) else none
  | _, _ => none
/-- [::-1] of a list: a new one -/
def gRev : D → Option T
  | .lst us => some (.ls us.reverse)
  | .kl us => some (.ls us.reverse)
  | _ => none
def pRev (a : PE) : PT := fun e => (a e).bind fun x e1 => oE (gRev x) e1
def rngD (hi : Int) (n : Nat) : List D := (List.range n).map fun i => .int (hi - (i : Nat))
def gR3 : List D → Option (List D)
  | [.int i, .int j, .int c] => if i.natAbs ≤ 1000000000 ∧ j.natAbs ≤ 1000000000 ∧ c = -1 then some (rngD i (i - j).toNat) else none
  | _ => none
abbrev iR3 := iOp gR3
/-! ### comprehensions whose items may raise -/
def lcLX (c : CT) (t : PB) (a : PE) (vs : List Nat) : List D → List D → Env → PR (List D)
  | [], acc, e => .ok acc e
  | d :: ds, acc, e => match c.asg d (kill vs e) with
    | some e1 => (t e1).no.bind fun b e2 => if b = true then (a e2).bind fun y e3 => if acc.length < 16000000 then lcLX c t a vs ds (acc ++ [y]) e3 else .bad else lcLX c t a vs ds acc e2
    | none => .bad
/-- behind a comprehension: its names are gone -/
def PR.kl {α β : Type} (vs : List Nat) (f : α → β) : PR α → PR β
  | .ok a e => .ok (f a) (kill vs e)
  | .exc C x e => .exc C x (kill vs e)
  | .bad => .bad
def pLcX (it : PDs) (c : CT) (t : PB) (a : PE) (vs : List Nat) : PT := fun e => (it e).bind fun ds e1 => (lcLX c t a vs ds [] e1).kl vs .ls
/-! ### a number that only the kernel sees through (so that nobody walks a long range while a proof is read) -/
def kA (n : Nat) (i : Int) : Int := if n = 0 then i else kA (n / 2) i
termination_by n
decreasing_by omega
def kI (i : Int) : Int := kA 1 i
end P

set_option Elab.async false
set_option linter.all false
set_option maxRecDepth 100000
set_option maxHeartbeats 1000000
/-! PS1: what it means that a meaning over the store does as a pure meaning says. -/
namespace P
open Q (U O Sto Env' R RS EM TM AM SM Sem')
abbrev fs' (f : String) : PySem.Str := PySem.Str.ofString f
section
variable (cc : Nat → Nat) (h : Sto) (F : Nat → Prop)
mutual
inductive Dn : U → D → Prop
  | non : Dn .non .non
  | bl (b : Bool) : Dn (.bl b) (.bl b)
  | int (i : Int) : Dn (.int i) (.int i)
  | str (s : List Nat) : Dn (.str s) (.str s)
  | tup {us : List U} {ds : List D} (r : Dns us ds) : Dn (.tup us) (.tup ds)
  | fl {us : List U} {ds : List D} (r : Dns us ds) : Dn (.fl us) (.lst ds)
  | kl {us : List U} {ds : List D} (r : Dns us ds) : Dn (.kl us) (.kl ds)
  | lst {n : Nat} {us : List U} {ds : List D} (f : F n) (e : h[n]? = some (.lst us)) (r : Dns us ds) : Dn (.ref n) (.lst ds)
  | dK {n : Nat} {us : List (Q.DK × U)} {ds : List (DK × D)} (f : F n) (e : h[n]? = some (.dK us)) (k : us.map Prod.fst = ds.map Prod.fst) (r : Dns (us.map Prod.snd) (ds.map Prod.snd)) : Dn (.ref n) (.dK ds)
  | dT {n : Nat} {us : List (List Q.DK × U)} {ds : List (List DK × D)} (f : F n) (e : h[n]? = some (.dT us)) (k : us.map Prod.fst = ds.map Prod.fst) (r : Dns (us.map Prod.snd) (ds.map Prod.snd)) : Dn (.ref n) (.dT ds)
  | ins {n C : Nat} {us : List (PySem.Str × U)} {ds : List (String × D)} (f : F n) (e : h[n]? = some (.ins (cc C) us)) (k : us.map Prod.fst = ds.map fun p => fs' p.1) (r : Dns (us.map Prod.snd) (ds.map Prod.snd)) : Dn (.ref n) (.ins C ds)
  | dKl {n : Nat} {us : List (Q.DK × U)} {ds : List (DK × D)} (f : F n) (e : h[n]? = some (.dKl us)) (k : us.map Prod.fst = ds.map Prod.fst) (r : Dns (us.map Prod.snd) (ds.map Prod.snd)) : Dn (.ref n) (.dKl ds)
inductive Dns : List U → List D → Prop
  | nil : Dns [] []
  | cons {u : U} {d : D} {us : List U} {ds : List D} (x : Dn u d) (r : Dns us ds) : Dns (u :: us) (d :: ds)
end
mutual
inductive Ow : U → T → List Nat → Prop
  | hole (u : U) : Ow u .hole []
  | leaf {u : U} {d : D} (r : Dn cc h F u d) : Ow u (.leaf d) []
  | ls {n : Nat} {us : List U} {ds : List D} (e : h[n]? = some (.lst us)) (r : Dns cc h F us ds) : Ow (.ref n) (.ls ds) [n]
  | lT {n : Nat} {us : List U} {ts : List T} {fp : List Nat} (e : h[n]? = some (.lst us)) (r : Ows us ts fp) : Ow (.ref n) (.lT ts) (n :: fp)
  | dK {n : Nat} {us : List (Q.DK × U)} {ds : List (DK × D)} (e : h[n]? = some (.dK us)) (k : us.map Prod.fst = ds.map Prod.fst) (r : Dns cc h F (us.map Prod.snd) (ds.map Prod.snd)) : Ow (.ref n) (.dK ds) [n]
  | dT {n : Nat} {us : List (List Q.DK × U)} {ds : List (List DK × D)} (e : h[n]? = some (.dT us)) (k : us.map Prod.fst = ds.map Prod.fst) (r : Dns cc h F (us.map Prod.snd) (ds.map Prod.snd)) : Ow (.ref n) (.dT ds) [n]
  | is {n C : Nat} {us : List (PySem.Str × U)} {ts : List (String × T)} {fp : List Nat} (e : h[n]? = some (.ins (cc C) us)) (k : us.map Prod.fst = ts.map fun p => fs' p.1) (r : Ows (us.map Prod.snd) (ts.map Prod.snd) fp) : Ow (.ref n) (.is C ts) (n :: fp)
inductive Ows : List U → List T → List Nat → Prop
  | nil : Ows [] [] []
  | cons {u : U} {t : T} {us : List U} {ts : List T} {f1 f2 : List Nat} (x : Ow u t f1) (r : Ows us ts f2) : Ows (u :: us) (t :: ts) (f1 ++ f2)
end
/-- a slot -/
def Os (o : Option U) (t : T) (f : List Nat) : Prop := match o with
  | some u => Ow cc h F u t f
  | none => t = .hole ∧ f = []
inductive Ev : Env' → Env → List Nat → Prop
  | nil : Ev [] [] []
  | cons {o : Option U} {t : T} {env : Env'} {e : Env} {f1 f2 : List Nat} (x : Os cc h F o t f1) (r : Ev env e f2) : Ev (o :: env) (t :: e) (f1 ++ f2)
/-- what stands at the top -/
def Tp (u : U) : D → Prop
  | .lst ds => ∃ us, Q.mL h u = some us ∧ Dns cc h F us ds
  | .dK ds => ∃ n us, u = .ref n ∧ h[n]? = some (.dK us) ∧ us.map Prod.fst = ds.map Prod.fst ∧ Dns cc h F (us.map Prod.snd) (ds.map Prod.snd)
  | .dT ds => ∃ n us, u = .ref n ∧ h[n]? = some (.dT us) ∧ us.map Prod.fst = ds.map Prod.fst ∧ Dns cc h F (us.map Prod.snd) (ds.map Prod.snd)
  | .ins C ds => ∃ n us, u = .ref n ∧ h[n]? = some (.ins (cc C) us) ∧ us.map Prod.fst = (ds.map fun p => fs' p.1) ∧ Dns cc h F (us.map Prod.snd) (ds.map Prod.snd)
  | d => Dn cc h F u d
end
/-- what is frozen stays -/
structure Stab (h : Sto) (F : Nat → Prop) (h' : Sto) (F' : Nat → Prop) : Prop where
  le : ∀ n, F n → F' n
  eq : ∀ n, F n → h'[n]? = h[n]?
/-- .. and what is in f -/
def Keep (f : List Nat) (h h' : Sto) : Prop := ∀ n ∈ f, h'[n]? = h[n]?
structure SR (h : Sto) (F : Nat → Prop) (fp : List Nat) : Prop where
  nd : fp.Nodup
  lt : ∀ n ∈ fp, n < h.length
  fF : ∀ n ∈ fp, ¬ F n
  Fl : ∀ n, F n → n < h.length
structure Fr (h : Sto) (F : Nat → Prop) (fp : List Nat) (h' : Sto) (F' : Nat → Prop) (fp' : List Nat) : Prop where
  len : h.length ≤ h'.length
  eq : ∀ n, n < h.length → n ∉ fp → h'[n]? = h[n]?
  le : ∀ n, F n → F' n
  new : ∀ n, F' n → F n ∨ n ∈ fp ∨ h.length ≤ n
  own : ∀ n ∈ fp', n ∈ fp ∨ h.length ≤ n
  sr : SR h' F' fp'
/-- nothing that was there is another one -/
def Sm (h h' : Sto) : Prop := ∀ n, n < h.length → h'[n]? = h[n]?
section
variable {cc : Nat → Nat} {h h' h1 h2 : Sto} {F F' F1 F2 : Nat → Prop} {u : U} {d : D} {us : List U} {ds : List D} {t : T} {ts : List T} {f f1 f2 fp fp' fp1 fp2 : List Nat} {env env' : Env'} {e e' : Env}
theorem Stab.refl : Stab h F h F := ⟨fun _ x => x, fun _ _ => rfl⟩
theorem Stab.trans (a : Stab h F h1 F1) (b : Stab h1 F1 h2 F2) : Stab h F h2 F2 := ⟨fun n x => b.le n (a.le n x), fun n x => (b.eq n (a.le n x)).trans (a.eq n x)⟩
mutual
theorem Dn.mono (s : Stab h F h' F') : ∀ {u : U} {d : D}, Dn cc h F u d → Dn cc h' F' u d
  | _, _, .non => .non
  | _, _, .bl b => .bl b
  | _, _, .int b => .int b
  | _, _, .str b => .str b
  | _, _, .tup r => .tup (Dns.mono s r)
  | _, _, .fl r => .fl (Dns.mono s r)
  | _, _, .kl r => .kl (Dns.mono s r)
  | _, _, .lst f e r => .lst (s.le _ f) ((s.eq _ f).trans e) (Dns.mono s r)
  | _, _, .dK f e k r => .dK (s.le _ f) ((s.eq _ f).trans e) k (Dns.mono s r)
  | _, _, .dT f e k r => .dT (s.le _ f) ((s.eq _ f).trans e) k (Dns.mono s r)
  | _, _, .dKl f e k r => .dKl (s.le _ f) ((s.eq _ f).trans e) k (Dns.mono s r)
  | _, _, .ins f e k r => .ins (s.le _ f) ((s.eq _ f).trans e) k (Dns.mono s r)
theorem Dns.mono (s : Stab h F h' F') : ∀ {us : List U} {ds : List D}, Dns cc h F us ds → Dns cc h' F' us ds
  | _, _, .nil => .nil
  | _, _, .cons x r => .cons (Dn.mono s x) (Dns.mono s r)
end
theorem keep_l {h h' : Sto} (k : Keep (f1 ++ f2) h h') : Keep f1 h h' := fun n m => k n (List.mem_append_left _ m)
theorem keep_r {h h' : Sto} (k : Keep (f1 ++ f2) h h') : Keep f2 h h' := fun n m => k n (List.mem_append_right _ m)
mutual
theorem Ow.mono (s : Stab h F h' F') : ∀ {u : U} {t : T} {f : List Nat}, Keep f h h' → Ow cc h F u t f → Ow cc h' F' u t f
  | _, _, _, _, .hole u => .hole u
  | _, _, _, _, .leaf r => .leaf (r.mono s)
  | _, _, _, k, .ls e r => .ls ((k _ (List.mem_singleton.mpr rfl)).trans e) (r.mono s)
  | _, _, _, k, .lT e r => .lT ((k _ List.mem_cons_self).trans e) (Ows.mono s (fun n m => k n (List.mem_cons_of_mem _ m)) r)
  | _, _, _, k, .dK e q r => .dK ((k _ (List.mem_singleton.mpr rfl)).trans e) q (r.mono s)
  | _, _, _, k, .dT e q r => .dT ((k _ (List.mem_singleton.mpr rfl)).trans e) q (r.mono s)
  | _, _, _, k, .is e q r => .is ((k _ List.mem_cons_self).trans e) q (Ows.mono s (fun n m => k n (List.mem_cons_of_mem _ m)) r)
theorem Ows.mono (s : Stab h F h' F') : ∀ {us : List U} {ts : List T} {f : List Nat}, Keep f h h' → Ows cc h F us ts f → Ows cc h' F' us ts f
  | _, _, _, _, .nil => .nil
  | _, _, _, k, .cons x r => .cons (Ow.mono s (keep_l k) x) (Ows.mono s (keep_r k) r)
end
theorem Os.mono (s : Stab h F h' F') {o : Option U} (k : Keep f h h') (x : Os cc h F o t f) : Os cc h' F' o t f := by
  cases o with
  | none => exact x
  | some u => exact Ow.mono s k x
theorem Ev.mono (s : Stab h F h' F') : ∀ {env : Env'} {e : Env} {f : List Nat}, Keep f h h' → Ev cc h F env e f → Ev cc h' F' env e f
  | _, _, _, _, .nil => .nil
  | _, _, _, k, .cons x r => .cons (x.mono s (keep_l k)) (Ev.mono s (keep_r k) r)
theorem Tp.mono (s : Stab h F h' F') (sr : SR h F fp) (k : Sm h h') (x : Tp cc h F u d) : Tp cc h' F' u d := by
  have g : ∀ {n : Nat} {o : O}, h[n]? = some o → h'[n]? = some o := fun {n o} q => (k n (List.getElem?_eq_some_iff.mp q).1).trans q
  cases d with
  | lst ds =>
    obtain ⟨us, a, r⟩ := x
    refine ⟨us, ?_, r.mono s⟩
    cases u with
    | ref n =>
      simp only [Q.e_mL_ref] at a ⊢
      split at a
      · rename_i q; rw [g q]; exact a
      · cases a
    | _ => exact a
  | dK ds => obtain ⟨n, us, a, b, c, r⟩ := x; exact ⟨n, us, a, g b, c, r.mono s⟩
  | dT ds => obtain ⟨n, us, a, b, c, r⟩ := x; exact ⟨n, us, a, g b, c, r.mono s⟩
  | ins C ds => obtain ⟨n, us, a, b, c, r⟩ := x; exact ⟨n, us, a, g b, c, r.mono s⟩
  | _ => exact Dn.mono s x
theorem Dn.tp (x : Dn cc h F u d) : Tp cc h F u d := by
  cases x with
  | fl r => exact ⟨_, rfl, r⟩
  | kl r => exact Dn.kl r
  | lst f e r => exact ⟨_, by rw [Q.e_mL_ref, e], r⟩
  | dK f e k r => exact ⟨_, _, rfl, e, k, r⟩
  | dT f e k r => exact ⟨_, _, rfl, e, k, r⟩
  | dKl f e k r => exact .dKl f e k r
  | ins f e k r => exact ⟨_, _, rfl, e, k, r⟩
  | non => exact Dn.non
  | bl b => exact Dn.bl b
  | int b => exact Dn.int b
  | str b => exact Dn.str b
  | tup r => exact Dn.tup r
/-! frames -/
theorem SR.perm (p : fp.Perm fp') (x : SR h F fp) : SR h F fp' := ⟨p.nodup_iff.mp x.nd, fun n m => x.lt n (p.mem_iff.mpr m), fun n m => x.fF n (p.mem_iff.mpr m), x.Fl⟩
theorem SR.sub (x : SR h F fp) (s : fp'.Sublist fp) : SR h F fp' := ⟨x.nd.sublist s, fun n m => x.lt n (s.subset m), fun n m => x.fF n (s.subset m), x.Fl⟩
theorem SR.left (x : SR h F (f1 ++ f2)) : SR h F f1 := x.sub (List.sublist_append_left _ _)
theorem SR.right (x : SR h F (f1 ++ f2)) : SR h F f2 := x.sub (List.sublist_append_right _ _)
theorem Fr.refl (x : SR h F fp) : Fr h F fp h F fp := ⟨Nat.le_refl _, fun _ _ _ => rfl, fun _ y => y, fun _ y => .inl y, fun _ y => .inl y, x⟩
theorem Fr.trans (a : Fr h F fp h1 F1 fp1) (b : Fr h1 F1 fp1 h2 F2 fp2) : Fr h F fp h2 F2 fp2 where
  len := Nat.le_trans a.len b.len
  eq := fun n l m => by
    have : n ∉ fp1 := fun z => by
      rcases a.own n z with y | y
      · exact m y
      · omega
    rw [b.eq n (Nat.lt_of_lt_of_le l a.len) this, a.eq n l m]
  le := fun n x => b.le n (a.le n x)
  new := fun n x => by
    rcases b.new n x with y | y | y
    · exact a.new n y
    · rcases a.own n y with z | z
      · exact .inr (.inl z)
      · exact .inr (.inr z)
    · exact .inr (.inr (Nat.le_trans a.len y))
  own := fun n x => by
    rcases b.own n x with y | y
    · exact a.own n y
    · exact .inr (Nat.le_trans a.len y)
  sr := b.sr
theorem Fr.perm (a : Fr h F fp h1 F1 fp1) (p : fp1.Perm fp2) : Fr h F fp h1 F1 fp2 := ⟨a.len, a.eq, a.le, a.new, fun n m => a.own n (p.mem_iff.mpr m), a.sr.perm p⟩
theorem Fr.sub (a : Fr h F fp h1 F1 fp1) (s : fp2.Sublist fp1) : Fr h F fp h1 F1 fp2 := ⟨a.len, a.eq, a.le, a.new, fun n m => a.own n (s.subset m), a.sr.sub s⟩
theorem Fr.permL (a : Fr h F fp h1 F1 fp1) (p : fp.Perm fp2) : Fr h F fp2 h1 F1 fp1 := ⟨a.len, fun n l m => a.eq n l fun z => m (p.mem_iff.mp z), a.le, fun n x => (a.new n x).imp_right fun y => y.imp_left p.mem_iff.mp, fun n m => (a.own n m).imp_left p.mem_iff.mp, a.sr⟩
theorem Fr.stab (a : Fr h F fp h1 F1 fp1) (x : SR h F fp) : Stab h F h1 F1 := ⟨a.le, fun n y => a.eq n (x.Fl n y) fun m => x.fF n m y⟩
/-- something is held meanwhile -/
theorem Fr.hold (a : Fr h F f2 h1 F1 fp1) (x : SR h F (f1 ++ f2)) : Fr h F (f1 ++ f2) h1 F1 (f1 ++ fp1) where
  len := a.len
  eq := fun n l m => a.eq n l fun z => m (List.mem_append_right _ z)
  le := a.le
  new := fun n y => (a.new n y).imp_right fun y => y.imp_left (List.mem_append_right _)
  own := fun n m => by
    rcases List.mem_append.mp m with m | m
    · exact .inl (List.mem_append_left _ m)
    · exact (a.own n m).imp_left (List.mem_append_right _)
  sr := by
    have nd := List.nodup_append.mp x.nd
    refine ⟨List.nodup_append.mpr ⟨nd.1, a.sr.nd, fun p hp q hq z => ?_⟩, fun n m => ?_, fun n m y => ?_, a.sr.Fl⟩
    · subst z
      rcases a.own p hq with y | y
      · exact nd.2.2 p hp p y rfl
      · exact absurd (x.lt p (List.mem_append_left _ hp)) (by omega)
    · rcases List.mem_append.mp m with m | m
      · exact Nat.lt_of_lt_of_le (x.lt n (List.mem_append_left _ m)) a.len
      · exact a.sr.lt n m
    · rcases List.mem_append.mp m with m | m
      · rcases a.new n y with z | z | z
        · exact x.fF n (List.mem_append_left _ m) z
        · exact nd.2.2 n m n z rfl
        · exact absurd (x.lt n (List.mem_append_left _ m)) (by omega)
      · exact a.sr.fF n m y
theorem Fr.kept (a : Fr h F f2 h1 F1 fp1) (x : SR h F (f1 ++ f2)) : Keep f1 h h1 := fun n m => a.eq n (x.lt n (List.mem_append_left _ m)) fun z => (List.nodup_append.mp x.nd).2.2 n m n z rfl
/-- a new thing -/
theorem SR.app (x : SR h F fp) (o : O) : SR (h ++ [o]) F (h.length :: fp) where
  nd := List.nodup_cons.mpr ⟨fun m => absurd (x.lt _ m) (by omega), x.nd⟩
  lt := fun n m => by
    rcases List.mem_cons.mp m with rfl | m
    · simp
    · have := x.lt n m; simp; omega
  fF := fun n m y => by
    rcases List.mem_cons.mp m with rfl | m
    · exact absurd (x.Fl _ y) (by omega)
    · exact x.fF n m y
  Fl := fun n y => by have := x.Fl n y; simp; omega
theorem Fr.app (x : SR h F fp) (o : O) : Fr h F fp (h ++ [o]) F (h.length :: fp) where
  len := by simp
  eq := fun n l _ => List.getElem?_append_left l
  le := fun _ y => y
  new := fun _ y => .inl y
  own := fun n m => by
    rcases List.mem_cons.mp m with rfl | m
    · exact .inr (Nat.le_refl _)
    · exact .inl m
  sr := x.app o
theorem Sm.app (h : Sto) (l : Sto) : Sm h (h ++ l) := fun n q => List.getElem?_append_left q
theorem Sm.refl (h : Sto) : Sm h h := fun _ _ => rfl
theorem Sm.trans (l : h.length ≤ h1.length) (a : Sm h h1) (b : Sm h1 h2) : Sm h h2 := fun n q => (b n (by omega)).trans (a n q)
theorem Keep.app (x : SR h F fp) (l : Sto) : Keep fp h (h ++ l) := fun n m => List.getElem?_append_left (x.lt n m)
theorem Stab.app (x : SR h F fp) (l : Sto) : Stab h F (h ++ l) F := ⟨fun _ y => y, fun n y => List.getElem?_append_left (x.Fl n y)⟩
/-- what is owned becomes frozen -/
theorem SR.freeze (x : SR h F (f1 ++ f2)) : SR h (fun n => F n ∨ n ∈ f1) f2 where
  nd := x.right.nd
  lt := x.right.lt
  fF := fun n m y => by
    rcases y with y | y
    · exact x.right.fF n m y
    · exact (List.nodup_append.mp x.nd).2.2 n y n m rfl
  Fl := fun n y => by
    rcases y with y | y
    · exact x.Fl n y
    · exact x.lt n (List.mem_append_left _ y)
theorem Fr.freeze (x : SR h F (f1 ++ f2)) : Fr h F (f1 ++ f2) h (fun n => F n ∨ n ∈ f1) f2 where
  len := Nat.le_refl _
  eq := fun _ _ _ => rfl
  le := fun _ y => .inl y
  new := fun n y => y.imp_right fun y => .inl (List.mem_append_left _ y)
  own := fun n m => .inl (List.mem_append_right _ m)
  sr := x.freeze
theorem Stab.freeze (f1 : List Nat) : Stab h F h (fun n => F n ∨ n ∈ f1) := ⟨fun _ y => .inl y, fun _ _ => rfl⟩
/-- an owned thing changes -/
theorem SR.set (x : SR h F fp) {n : Nat} (o : O) : SR (h.set n o) F fp := ⟨x.nd, fun k m => by simpa using x.lt k m, x.fF, fun k m => by simpa using x.Fl k m⟩
theorem Fr.set (x : SR h F fp) {n : Nat} (m : n ∈ fp) (o : O) : Fr h F fp (h.set n o) F fp where
  len := by simp
  eq := fun k _ z => List.getElem?_set_ne (by intro y; subst y; exact z m)
  le := fun _ y => y
  new := fun _ y => .inl y
  own := fun _ y => .inl y
  sr := x.set o
theorem Stab.set (x : SR h F fp) {n : Nat} (m : n ∈ fp) (o : O) : Stab h F (h.set n o) F := ⟨fun _ y => y, fun k y => List.getElem?_set_ne (by intro z; subst z; exact x.fF n m y)⟩
theorem Keep.set {n : Nat} (o : O) (m : n ∉ f) : Keep f h (h.set n o) := fun k y => List.getElem?_set_ne (by intro z; subst z; exact m y)
/-! freezing -/
mutual
theorem Ow.frz : ∀ {u : U} {t : T} {f : List Nat} {d : D}, Ow cc h F u t f → t.fz = some d → ∀ G : Nat → Prop, (∀ n, F n → G n) → (∀ n ∈ f, G n) → Dn cc h G u d
  | _, _, _, _, .hole u, q, G, a, b => by cases q
  | _, _, _, _, .leaf r, q, G, a, b => by cases q; exact r.mono ⟨a, fun _ _ => rfl⟩
  | _, _, _, _, .ls e r, q, G, a, b => by cases q; exact .lst (b _ (List.mem_singleton.mpr rfl)) e (r.mono ⟨a, fun _ _ => rfl⟩)
  | _, _, _, d, .lT (ts := ts) e r, q, G, a, b => by
    unfold T.fz at q
    cases q1 : T.fzs ts with
    | none => rw [q1] at q; cases q
    | some ds =>
      rw [q1] at q
      cases q
      exact .lst (b _ List.mem_cons_self) e (Ows.frz r q1 G a fun n m => b n (List.mem_cons_of_mem _ m))
  | _, _, _, _, .dK e k r, q, G, a, b => by cases q; exact .dK (b _ (List.mem_singleton.mpr rfl)) e k (r.mono ⟨a, fun _ _ => rfl⟩)
  | _, _, _, _, .dT e k r, q, G, a, b => by cases q; exact .dT (b _ (List.mem_singleton.mpr rfl)) e k (r.mono ⟨a, fun _ _ => rfl⟩)
  | _, _, _, d, .is (us := us) (ts := ts) e k r, q, G, a, b => by
    unfold T.fz at q
    cases q1 : T.fzf ts with
    | none => rw [q1] at q; cases q
    | some ds =>
      rw [q1] at q
      cases q
      have q2 : ∀ {ts : List (String × T)} {ds : List (String × D)}, T.fzf ts = some ds → T.fzs (ts.map Prod.snd) = some (ds.map Prod.snd) ∧ ts.map Prod.fst = ds.map Prod.fst := by
        intro ts
        induction ts with
        | nil => intro ds q; cases q; exact ⟨rfl, rfl⟩
        | cons p r ih =>
          obtain ⟨g, t⟩ := p
          intro ds q
          unfold T.fzf at q
          cases q3 : T.fz t with
          | none => rw [q3] at q; cases q
          | some d =>
            cases q4 : T.fzf r with
            | none => rw [q3, q4] at q; cases q
            | some ds' =>
              rw [q3, q4] at q
              cases q
              obtain ⟨i1, i2⟩ := ih q4
              refine ⟨?_, by simp [i2]⟩
              simp only [List.map_cons]
              unfold T.fzs
              rw [q3, i1]
      obtain ⟨q3, q4⟩ := q2 q1
      have k2 : us.map Prod.fst = ds.map fun p => fs' p.1 := by
        rw [k]
        have : (ts.map Prod.fst).map fs' = (ds.map Prod.fst).map fs' := by rw [q4]
        simpa [List.map_map, Function.comp_def] using this
      exact .ins (b _ List.mem_cons_self) e k2 (Ows.frz r q3 G a fun n m => b n (List.mem_cons_of_mem _ m))
theorem Ows.frz : ∀ {us : List U} {ts : List T} {f : List Nat} {ds : List D}, Ows cc h F us ts f → T.fzs ts = some ds → ∀ G : Nat → Prop, (∀ n, F n → G n) → (∀ n ∈ f, G n) → Dns cc h G us ds
  | _, _, _, _, .nil, q, G, a, b => by cases q; exact .nil
  | _, _, _, _, .cons (t := t) (ts := ts) x r, q, G, a, b => by
    unfold T.fzs at q
    cases q1 : T.fz t with
    | none => rw [q1] at q; cases q
    | some d =>
      cases q2 : T.fzs ts with
      | none => rw [q1, q2] at q; cases q
      | some ds =>
        rw [q1, q2] at q
        cases q
        exact .cons (Ow.frz x q1 G a fun n m => b n (List.mem_append_left _ m)) (Ows.frz r q2 G a fun n m => b n (List.mem_append_right _ m))
end
/-! flat data -/
mutual
theorem Dn.flat : ∀ {u : U} {d : D}, Dn cc h F u d → d.flat = true → ∀ h' G, Dn cc h' G u d
  | _, _, .non, _, _, _ => .non
  | _, _, .bl b, _, _, _ => .bl b
  | _, _, .int b, _, _, _ => .int b
  | _, _, .str b, _, _, _ => .str b
  | _, _, .tup r, q, h', G => .tup (Dns.flat r q h' G)
  | _, _, .fl r, q, _, _ => by cases q
  | _, _, .kl r, q, _, _ => by cases q
  | _, _, .lst f e r, q, _, _ => by cases q
  | _, _, .dK f e k r, q, _, _ => by cases q
  | _, _, .dT f e k r, q, _, _ => by cases q
  | _, _, .dKl f e k r, q, _, _ => by cases q
  | _, _, .ins f e k r, q, _, _ => by cases q
theorem Dns.flat : ∀ {us : List U} {ds : List D}, Dns cc h F us ds → D.flats ds = true → ∀ h' G, Dns cc h' G us ds
  | _, _, .nil, _, _, _ => .nil
  | _, _, .cons x r, q, h', G => by
    unfold D.flats at q
    rw [Bool.and_eq_true] at q
    exact .cons (Dn.flat x q.1 h' G) (Dns.flat r q.2 h' G)
end
mutual
theorem Ow.flt : ∀ {u : U} {t : T} {f : List Nat}, Ow cc h F u t f → t.flat = true → ∀ G, Ow cc h G u t f
  | _, _, _, .hole u, _, _ => .hole u
  | _, _, _, .leaf r, q, G => .leaf (r.flat q h G)
  | _, _, _, .ls e r, q, G => .ls e (r.flat q h G)
  | _, _, _, .lT e r, q, G => .lT e (Ows.flt r q G)
  | _, _, _, .dK e k r, q, G => .dK e k (r.flat q h G)
  | _, _, _, .dT e k r, q, G => .dT e k (r.flat q h G)
  | _, _, _, .is (ts := ts) e k r, q, G => .is e k (Ows.flt r (by
      have : ∀ ts : List (String × T), T.flatf ts = T.flats (ts.map Prod.snd) := by
        intro ts
        induction ts with
        | nil => rfl
        | cons p r ih => obtain ⟨g, t⟩ := p; unfold T.flatf; rw [ih]; simp only [List.map_cons]; conv => rhs; unfold T.flats
      rw [← this]; exact q) G)
theorem Ows.flt : ∀ {us : List U} {ts : List T} {f : List Nat}, Ows cc h F us ts f → T.flats ts = true → ∀ G, Ows cc h G us ts f
  | _, _, _, .nil, _, _ => .nil
  | _, _, _, .cons x r, q, G => by
    unfold T.flats at q
    rw [Bool.and_eq_true] at q
    exact .cons (Ow.flt x q.1 G) (Ows.flt r q.2 G)
end
end
end P

set_option Elab.async false
set_option linter.all false
set_option maxRecDepth 100000
set_option maxHeartbeats 1000000
/-! PS2: places in slots and trees; outcomes. -/
namespace P
open Q (U O Sto Env' R RS EM TM AM SM Sem')
section
variable {cc : Nat → Nat} {h h' h1 h2 : Sto} {F F' F1 F2 : Nat → Prop} {u : U} {d : D} {us : List U} {ds : List D} {t : T} {ts : List T} {f f1 f2 fp fp' fp1 fp2 : List Nat} {env env' : Env'} {e e' : Env} {i : Nat}
theorem perm_mid {a b c : List Nat} : (a ++ (b ++ c)).Perm (b ++ (a ++ c)) := by
  rw [← List.append_assoc, ← List.append_assoc]
  exact List.Perm.append_right c List.perm_append_comm
/-- a slot and the others -/
theorem Ev.at : ∀ {env : Env'} {e : Env} {fp : List Nat} {i : Nat} {t : T}, Ev cc h F env e fp → e[i]? = some t → ∃ o f1 f2, env[i]? = some o ∧ Os cc h F o t f1 ∧ fp.Perm (f1 ++ f2) ∧
    ∀ h' F' o' t' f1', Stab h F h' F' → Keep f2 h h' → Os cc h' F' o' t' f1' → ∃ fp', Ev cc h' F' (env.set i o') (e.set i t') fp' ∧ fp'.Perm (f1' ++ f2)
  | _, _, _, _, _, .nil, q => by simp at q
  | _, _, _, 0, _, .cons (o := o) (f1 := f1) (f2 := f2) x r, q => by
    simp at q; subst q
    exact ⟨o, f1, f2, rfl, x, .refl _, fun h' F' o' t' f1' s k y => ⟨f1' ++ f2, .cons y (r.mono s k), .refl _⟩⟩
  | _, _, _, i + 1, _, .cons (o := o) (f1 := f1) (f2 := f2) x r, q => by
    obtain ⟨o2, g1, g2, a, b, p, z⟩ := Ev.at (i := i) r (by simpa using q)
    refine ⟨o2, g1, f1 ++ g2, by simpa using a, b, (p.append_left f1).trans perm_mid, fun h' F' o' t' f1' s k y => ?_⟩
    obtain ⟨fp', ev, p'⟩ := z h' F' o' t' f1' s (keep_r k) y
    exact ⟨f1 ++ fp', .cons (x.mono s (keep_l k)) ev, (p'.append_left f1).trans perm_mid⟩
theorem Ev.len : ∀ {env : Env'} {e : Env} {fp : List Nat}, Ev cc h F env e fp → env.length = e.length
  | _, _, _, .nil => rfl
  | _, _, _, .cons _ r => by simp [Ev.len r]
theorem list_set_same {α : Type} : ∀ {l : List α} {i : Nat} {x : α}, l[i]? = some x → l.set i x = l
  | [], _, _, q => by simp at q
  | a :: l, 0, x, q => by simp at q; simp [q]
  | a :: l, i + 1, x, q => by simp at q; simp [list_set_same q]
/-- the slot's thing goes -/
theorem Ev.hole (x : Ev cc h F env e fp) (i : Nat) : ∃ fp', Ev cc h F env (e.set i .hole) fp' ∧ ∃ f1, fp.Perm (f1 ++ fp') := by
  cases q : e[i]? with
  | none => exact ⟨fp, by rw [List.set_eq_of_length_le (by simpa using q)]; exact x, [], .refl _⟩
  | some t =>
    obtain ⟨o, f1, f2, a, b, p, z⟩ := x.at q
    obtain ⟨fp', ev, p'⟩ := z h F o .hole [] .refl (fun _ _ => rfl) (by
      cases o with
      | none => exact ⟨rfl, rfl⟩
      | some u => exact .hole u)
    rw [list_set_same a] at ev
    exact ⟨fp', ev, f1, p.trans (List.Perm.append_left f1 p'.symm)⟩
/-- another value in the slot -/
theorem Ev.put (x : Ev cc h F env e fp) (i : Nat) (o : Option U) (y : Os cc h F o t f) : ∃ fp', Ev cc h F (env.set i o) (e.set i t) (fp') ∧ ∃ g f1 f2, fp.Perm (f1 ++ f2) ∧ fp'.Perm (g ++ f2) ∧ g.Sublist f := by
  by_cases hi : i < e.length
  · obtain ⟨o1, f1, f2, a, b, p, z⟩ := x.at (List.getElem?_eq_getElem hi)
    obtain ⟨fp', ev, p'⟩ := z h F o t f .refl (fun _ _ => rfl) y
    exact ⟨fp', ev, f, f1, f2, p, p', .refl _⟩
  · have hl := x.len
    rw [List.set_eq_of_length_le (by omega), List.set_eq_of_length_le (by omega)]
    exact ⟨fp, x, [], [], fp, .refl _, .refl _, List.nil_sublist _⟩
theorem Ev.putD (x : Ev cc h F env e fp) (i : Nat) {u : U} {d : D} (y : Dn cc h F u d) : ∃ fp', Ev cc h F (env.set i (some u)) (e.set i (.leaf d)) fp' ∧ ∃ f1, fp.Perm (f1 ++ fp') := by
  obtain ⟨fp', ev, g, f1, f2, p, p', s⟩ := x.put i (some u) (show Os cc h F (some u) (.leaf d) [] from .leaf y)
  have : g = [] := List.sublist_nil.mp s
  subst this
  exact ⟨fp', ev, f1, p.trans (List.Perm.append_left f1 (by simpa using p'.symm))⟩
/-! trees -/
def at1 (h : Sto) : U → Ac → Option U
  | u, .ix i => (match Q.sL h u with
    | some us => L2.atI us i
    | none => none)
  | .ref n, .fld _ f => (match h[n]? with
    | some (.ins _ fs) => fs.lookup (fs' f)
    | _ => none)
  | _, _ => none
def atU (h : Sto) : U → List Ac → Option U
  | u, [] => some u
  | u, a :: r => match at1 h u a with
    | some v => atU h v r
    | none => none
theorem sL_mono (k : Sm h h') {us : List U} (q : Q.sL h u = some us) : Q.sL h' u = some us := by
  cases u with
  | ref n =>
    simp only [Q.e_sL_ref] at q ⊢
    split at q
    · rename_i q1
      rw [(k n (List.getElem?_eq_some_iff.mp q1).1).trans q1]; exact q
    · cases q
  | _ => exact q
theorem at1_mono (k : Sm h h') {v : U} {a : Ac} (q : at1 h u a = some v) : at1 h' u a = some v := by
  cases a with
  | ix i =>
    have q : (match Q.sL h u with
      | some us => L2.atI us i
      | none => none) = some v := by cases u <;> exact q
    have g : at1 h' u (.ix i) = (match Q.sL h' u with
      | some us => L2.atI us i
      | none => none) := by cases u <;> rfl
    rw [g]
    cases q1 : Q.sL h u with
    | none => rw [q1] at q; cases q
    | some us => rw [q1] at q; rw [sL_mono k q1]; exact q
  | fld Cs f =>
    cases u with
    | ref n =>
      simp only [at1] at q ⊢
      split at q
      · rename_i q1
        rw [(k n (List.getElem?_eq_some_iff.mp q1).1).trans q1]; exact q
      · cases q
    | _ => cases q
theorem atU_mono (k : Sm h h') : ∀ {u v : U} {r : List Ac}, atU h u r = some v → atU h' u r = some v
  | u, v, [], q => q
  | u, v, a :: r, q => by
    unfold atU at q ⊢
    cases q1 : at1 h u a with
    | none => rw [q1] at q; cases q
    | some w => rw [q1] at q; rw [at1_mono k q1]; exact atU_mono k q
theorem get_cons (t : T) (a : Ac) (r : List Ac) : t.get (a :: r) = (t.get1 a).bind fun v => v.get r := by
  conv => lhs; unfold T.get
  cases t.get1 a <;> rfl
theorem get_app : ∀ (t : T) (r s : List Ac), t.get (r ++ s) = (t.get r).bind fun v => v.get s
  | t, [], s => by
    have : t.get [] = some t := by unfold T.get; rfl
    rw [this]; rfl
  | t, a :: r, s => by
    rw [List.cons_append, get_cons, get_cons]
    cases t.get1 a with
    | none => rfl
    | some v => exact get_app v r s
theorem Dns.get : ∀ {us : List U} {ds : List D} {i : Nat} {d : D}, Dns cc h F us ds → ds[i]? = some d → ∃ u, us[i]? = some u ∧ Dn cc h F u d
  | _, _, _, _, .nil, q => by simp at q
  | _, _, 0, _, .cons x r, q => by simp at q; subst q; exact ⟨_, rfl, x⟩
  | _, _, i + 1, _, .cons x r, q => by simpa using Dns.get (i := i) r (by simpa using q)
theorem Dns.len : ∀ {us : List U} {ds : List D}, Dns cc h F us ds → us.length = ds.length
  | _, _, .nil => rfl
  | _, _, .cons _ r => by simp [Dns.len r]
theorem Dns.at {i : Int} {d : D} (r : Dns cc h F us ds) (q : P.atI ds i = some d) : ∃ u, L2.atI us i = some u ∧ Dn cc h F u d := by
  have q : L2.atI ds i = some d := q
  unfold L2.atI at q ⊢
  rw [r.len]
  cases q1 : L2.ixN ds.length i with
  | none => rw [q1] at q; cases q
  | some k =>
    rw [q1] at q
    exact r.get q
theorem Ows.len : ∀ {us : List U} {ts : List T} {f : List Nat}, Ows cc h F us ts f → us.length = ts.length
  | _, _, _, .nil => rfl
  | _, _, _, .cons _ r => by simp [Ows.len r]
theorem Ows.at : ∀ {us : List U} {ts : List T} {fp : List Nat} {i : Nat} {t : T}, Ows cc h F us ts fp → ts[i]? = some t → ∃ o f1 f2, us[i]? = some o ∧ Ow cc h F o t f1 ∧ fp.Perm (f1 ++ f2) ∧
    ∀ h' F' o' t' f1', Stab h F h' F' → Keep f2 h h' → Ow cc h' F' o' t' f1' → ∃ fp', Ows cc h' F' (us.set i o') (ts.set i t') fp' ∧ fp'.Perm (f1' ++ f2)
  | _, _, _, _, _, .nil, q => by simp at q
  | _, _, _, 0, _, .cons (u := o) (f1 := f1) (f2 := f2) x r, q => by
    simp at q; subst q
    exact ⟨o, f1, f2, rfl, x, .refl _, fun h' F' o' t' f1' s k y => ⟨f1' ++ f2, .cons y (r.mono s k), .refl _⟩⟩
  | _, _, _, i + 1, _, .cons (u := o) (f1 := f1) (f2 := f2) x r, q => by
    obtain ⟨o2, g1, g2, a, b, p, z⟩ := Ows.at (i := i) r (by simpa using q)
    refine ⟨o2, g1, f1 ++ g2, by simpa using a, b, (p.append_left f1).trans perm_mid, fun h' F' o' t' f1' s k y => ?_⟩
    obtain ⟨fp', ev, p'⟩ := z h' F' o' t' f1' s (keep_r k) y
    exact ⟨f1 ++ fp', .cons (x.mono s (keep_l k)) ev, (p'.append_left f1).trans perm_mid⟩
theorem fs_inj {f g : String} (e : fs' f = fs' g) : f = g := by
  have e : PySem.Str.ofString f = PySem.Str.ofString g := e
  rw [PySem.Str.ofString_eq_toList, PySem.Str.ofString_eq_toList] at e
  injection e with e
  have e := congrArg Array.toList e
  simp only [List.toList_toArray] at e
  have : Function.Injective Char.toNat := fun a b q => Char.toNat_inj.mp q
  have := List.map_inj_right (fun a b q => this q) |>.mp e
  exact String.toList_inj.mp this
/-- the place of a field -/
theorem look_at {α β : Type} : ∀ {us : List (PySem.Str × α)} {ts : List (String × β)} {f : String} {t : β}, us.map Prod.fst = (ts.map fun p => fs' p.1) → ts.lookup f = some t → ∃ i, (ts.map Prod.snd)[i]? = some t ∧
    (∀ v, (us.map Prod.snd)[i]? = some v → us.lookup (fs' f) = some v) ∧ ∀ s, (putF f s ts).map Prod.snd = (ts.map Prod.snd).set i s ∧ (putF f s ts).map Prod.fst = ts.map Prod.fst
  | us, [], f, t, _, q => by simp at q
  | [], (g, x) :: ts, f, t, e, q => by simp at e
  | (k, u) :: us, (g, x) :: ts, f, t, e, q => by
    simp only [List.map_cons, List.cons.injEq] at e
    obtain ⟨e1, e2⟩ := e
    by_cases c : f = g
    · subst c
      rw [List.lookup_cons_self] at q
      cases q
      refine ⟨0, rfl, fun v z => ?_, fun s => ?_⟩
      · simp at z; subst z; rw [e1]; simp
      · unfold putF; rw [if_pos rfl]
        exact ⟨rfl, rfl⟩
    · have c1 : (f == g) = false := by simpa using c
      rw [List.lookup_cons, c1] at q
      obtain ⟨i, a, b, d⟩ := look_at e2 q
      refine ⟨i + 1, by simpa using a, fun v z => ?_, fun s => ?_⟩
      · rw [e1, List.lookup_cons]
        have : (fs' f == fs' g) = false := by
          rw [beq_eq_false_iff_ne]
          exact fun z => c (fs_inj z)
        rw [this]
        exact b v (by simpa using z)
      · unfold putF
        rw [if_neg (fun z => c z.symm)]
        obtain ⟨d1, d2⟩ := d s
        exact ⟨by simp [d1], by simp [d2]⟩
/-- a place in a tree -/
def T.isLeaf : T → Bool
  | .leaf _ => true
  | _ => false
theorem leaf_get : ∀ (r : List Ac) {d : D} {s : T}, (T.leaf d).get r = some s → s.isLeaf = true
  | [], d, s, q => by unfold T.get at q; cases q; rfl
  | a :: r, d, s, q => by
    unfold T.get at q
    cases q1 : (T.leaf d).get1 a with
    | none => rw [q1] at q; cases q
    | some v =>
      rw [q1] at q
      have : ∃ d', v = .leaf d' := by
        unfold T.get1 at q1
        split at q1 <;> first | cases q1; done | skip
        all_goals (rename_i hh; cases hh)
        all_goals (try (split at q1; case isFalse => cases q1))
        all_goals (obtain ⟨w, _, rfl⟩ := Option.map_eq_some_iff.mp q1; exact ⟨w, rfl⟩)
      obtain ⟨d', rfl⟩ := this
      exact leaf_get r q
theorem Dn.at1 {a : Ac} {s : T} (x : Dn cc h F u d) (q : (T.leaf d).get1 a = some s) : ∃ v d', at1 h u a = some v ∧ s = .leaf d' ∧ Dn cc h F v d' := by
  cases a with
  | ix i =>
    have g : P.at1 h u (.ix i) = (match Q.sL h u with
      | some us => L2.atI us i
      | none => none) := by cases u <;> rfl
    rw [g]
    cases x with
    | tup r =>
      obtain ⟨w, q1, rfl⟩ := Option.map_eq_some_iff.mp q
      obtain ⟨v, a1, a2⟩ := r.at q1
      exact ⟨v, w, a1, rfl, a2⟩
    | fl r =>
      obtain ⟨w, q1, rfl⟩ := Option.map_eq_some_iff.mp q
      obtain ⟨v, a1, a2⟩ := r.at q1
      exact ⟨v, w, a1, rfl, a2⟩
    | lst f e r =>
      obtain ⟨w, q1, rfl⟩ := Option.map_eq_some_iff.mp q
      obtain ⟨v, a1, a2⟩ := r.at q1
      exact ⟨v, w, by rw [Q.e_sL_ref, e]; exact a1, rfl, a2⟩
    | _ => cases q
  | fld Cs f =>
    cases x with
    | @ins n C us ds f' e k r =>
      have q : (if C ∈ Cs then (ds.lookup f).map T.leaf else none) = some s := q
      split at q
      case isFalse => cases q
      obtain ⟨w, q1, rfl⟩ := Option.map_eq_some_iff.mp q
      obtain ⟨i, a1, a2, _⟩ := look_at k q1
      obtain ⟨v, b1, b2⟩ := r.get a1
      refine ⟨v, w, ?_, rfl, b2⟩
      unfold P.at1
      simp only [e]
      exact a2 v b1
    | _ => cases q
theorem Ow.at1 {a : Ac} {s : T} (x : Ow cc h F u t f) (q : t.get1 a = some s) : ∃ v f1 f2, at1 h u a = some v ∧ Ow cc h F v s f1 ∧ f.Perm (f1 ++ f2) ∧
    (s.isLeaf = false → ∀ h' F' s' f1', Stab h F h' F' → Keep f2 h h' → Ow cc h' F' v s' f1' → ∃ f', Ow cc h' F' u (t.set1 a s') f' ∧ f'.Perm (f1' ++ f2)) := by
  cases x with
  | hole u => cases a <;> cases q
  | leaf r =>
    obtain ⟨v, d', a1, rfl, a2⟩ := r.at1 q
    exact ⟨v, [], [], a1, .leaf a2, .refl _, fun z => by cases z⟩
  | @ls n us ds e r =>
    cases a with
    | ix i =>
      obtain ⟨w, q1, rfl⟩ := Option.map_eq_some_iff.mp q
      obtain ⟨v, a1, a2⟩ := r.at q1
      refine ⟨v, [], [n], ?_, .leaf a2, .refl _, fun z => by cases z⟩
      show (match Q.sL h (.ref n) with | some us => L2.atI us i | none => none) = _
      rw [Q.e_sL_ref, e]; exact a1
    | fld Cs f => cases q
  | @lT n us ts fp e r =>
    cases a with
    | ix i =>
      have q : P.atI ts i = some s := q
      unfold P.atI at q
      cases q1 : P.ixN ts.length i with
      | none => rw [q1] at q; cases q
      | some k =>
        rw [q1] at q
        obtain ⟨v, f1, f2, a1, a2, a3, a4⟩ := r.at (i := k) q
        refine ⟨v, f1, n :: f2, ?_, a2, ?_, fun _ h' F' s' f1' st k2 y => ?_⟩
        · show (match Q.sL h (.ref n) with | some us => L2.atI us i | none => none) = _
          rw [Q.e_sL_ref, e]
          show L2.atI us i = _
          unfold L2.atI
          rw [r.len, show L2.ixN ts.length i = some k from q1]
          exact a1
        · exact (a3.cons n).trans List.perm_middle.symm
        · obtain ⟨fp', b1, b2⟩ := a4 h' F' v s' f1' st (fun m z => k2 m (List.mem_cons_of_mem _ z)) y
          rw [list_set_same a1] at b1
          refine ⟨n :: fp', ?_, (b2.cons n).trans List.perm_middle.symm⟩
          have g : (T.lT ts).set1 (.ix i) s' = .lT (ts.set k s') := by
            show (match P.ixN ts.length i with | some k => T.lT (ts.set k s') | none => T.lT ts) = _
            rw [q1]
          rw [g]
          exact .lT ((k2 n List.mem_cons_self).trans e) b1
    | fld Cs f => cases q
  | dK e k r => cases a <;> cases q
  | dT e k r => cases a <;> cases q
  | @is n C us ts fp e k r =>
    cases a with
    | ix i => cases q
    | fld Cs f =>
      have q : (if C ∈ Cs then ts.lookup f else none) = some s := q
      split at q
      case isFalse => cases q
      obtain ⟨i, a1, a2, a3⟩ := look_at k q
      obtain ⟨v, f1, f2, b1, b2, b3, b4⟩ := r.at a1
      refine ⟨v, f1, n :: f2, ?_, b2, (b3.cons n).trans List.perm_middle.symm, fun _ h' F' s' f1' st k2 y => ?_⟩
      · unfold P.at1
        simp only [e]
        exact a2 v b1
      · obtain ⟨fp', c1, c2⟩ := b4 h' F' v s' f1' st (fun m z => k2 m (List.mem_cons_of_mem _ z)) y
        rw [list_set_same b1] at c1
        obtain ⟨d1, d2⟩ := a3 s'
        refine ⟨n :: fp', ?_, (c2.cons n).trans List.perm_middle.symm⟩
        unfold T.set1
        refine .is ((k2 n List.mem_cons_self).trans e) ?_ (by rw [d1]; exact c1)
        rw [k]
        have : (ts.map Prod.fst).map fs' = ((putF f s' ts).map Prod.fst).map fs' := by rw [d2]
        simpa [List.map_map, Function.comp_def] using this
theorem get_nil (t : T) : t.get [] = some t := by unfold T.get; rfl
theorem set_nil (t s : T) : t.set [] s = s := by unfold T.set; rfl
theorem atU_nil (h : Sto) (u : U) : atU h u [] = some u := by unfold atU; rfl
theorem Ow.at : ∀ (r : List Ac) {u : U} {t : T} {f : List Nat} {s : T}, Ow cc h F u t f → t.get r = some s → ∃ v f1 f2, atU h u r = some v ∧ Ow cc h F v s f1 ∧ f.Perm (f1 ++ f2) ∧
    (s.isLeaf = false → ∀ h' F' s' f1', Stab h F h' F' → Keep f2 h h' → Ow cc h' F' v s' f1' → ∃ f', Ow cc h' F' u (t.set r s') f' ∧ f'.Perm (f1' ++ f2))
  | [], u, t, f, s, x, q => by
    rw [get_nil] at q
    cases q
    refine ⟨u, f, [], atU_nil _ _, x, by simp, fun _ h' F' s' f1' st k y => ⟨f1', by rw [set_nil]; exact y, by simp⟩⟩
  | a :: r, u, t, f, s, x, q => by
    unfold T.get at q
    cases q1 : t.get1 a with
    | none => rw [q1] at q; cases q
    | some w =>
      rw [q1] at q
      obtain ⟨v, f1, f2, a1, a2, a3, a4⟩ := x.at1 q1
      obtain ⟨v', g1, g2, b1, b2, b3, b4⟩ := Ow.at r a2 q
      refine ⟨v', g1, g2 ++ f2, ?_, b2, ?_, fun z h' F' s' f1' st k y => ?_⟩
      · unfold atU; rw [a1]; exact b1
      · rw [← List.append_assoc]; exact a3.trans (b3.append_right f2)
      · obtain ⟨f', c1, c2⟩ := b4 z h' F' s' f1' st (keep_l k) y
        have wl : w.isLeaf = false := by
          cases w with
          | leaf d => rw [leaf_get r q] at z; cases z
          | _ => rfl
        obtain ⟨f'', d1, d2⟩ := a4 wl h' F' (w.set r s') f' st (keep_r k) c1
        refine ⟨f'', ?_, ?_⟩
        · unfold T.set; rw [q1]; exact d1
        · rw [← List.append_assoc]; exact d2.trans (c2.append_right f2)
/-- a place below a slot -/
theorem Ev.pt {i : Nat} {r : List Ac} {s : T} (x : Ev cc h F env e fp) (q : getP i r e = some s) (nl : s ≠ .hole) : ∃ o v f1 f2, env[i]? = some (some o) ∧ atU h o r = some v ∧ Ow cc h F v s f1 ∧ fp.Perm (f1 ++ f2) ∧
    (s.isLeaf = false → ∀ h' F' s' f1', Stab h F h' F' → Keep f2 h h' → Ow cc h' F' v s' f1' → ∃ fp', Ev cc h' F' env (setP i r s' e) fp' ∧ fp'.Perm (f1' ++ f2)) := by
  unfold getP at q
  cases q1 : e[i]? with
  | none => rw [q1] at q; cases q
  | some t =>
    rw [q1] at q
    obtain ⟨o, f1, f2, a1, a2, a3, a4⟩ := x.at q1
    cases o with
    | none =>
      obtain ⟨rfl, rfl⟩ := a2
      cases r with
      | nil => have q : T.get .hole [] = some s := q; rw [get_nil] at q; cases q; exact absurd rfl nl
      | cons a r => have q : T.get .hole (a :: r) = some s := q; unfold T.get at q; cases a <;> cases q
    | some o =>
      obtain ⟨v, g1, g2, b1, b2, b3, b4⟩ := Ow.at r a2 q
      refine ⟨o, v, g1, g2 ++ f2, a1, b1, b2, ?_, fun z h' F' s' f1' st k y => ?_⟩
      · rw [← List.append_assoc]; exact a3.trans (b3.append_right f2)
      · obtain ⟨f', c1, c2⟩ := b4 z h' F' s' f1' st (keep_l k) y
        obtain ⟨fp', d1, d2⟩ := a4 h' F' (some o) (t.set r s') f' st (keep_r k) c1
        rw [list_set_same a1] at d1
        refine ⟨fp', ?_, ?_⟩
        · unfold setP; rw [q1]; exact d1
        · rw [← List.append_assoc]; exact d2.trans (c2.append_right f2)
end
end P

set_option Elab.async false
set_option linter.all false
set_option maxRecDepth 100000
set_option maxHeartbeats 1000000
/-! PS3: expressions and tests do as their pure meanings say. -/
namespace P
open Q (U O Sto Env' R RS EM TM AM SM Sem')
section
variable (cc : Nat → Nat)
def Xd (h : Sto) (F : Nat → Prop) : Option Nat → Option (List (String × D)) → Prop
  | none, none => True
  | some n, some fs => F n ∧ ∃ us, h[n]? = some (.xd us) ∧ us.map Prod.fst = (fs.map fun p => fs' p.1) ∧ Dns cc h F (us.map Prod.snd) (fs.map Prod.snd)
  | _, _ => False
def Out {α β : Type} (q : Bool) (Rel : Sto → (Nat → Prop) → α → β → List Nat → Prop) (h : Sto) (F : Nat → Prop) (fp : List Nat) (env : Env') (r : R α) (s : PR β) : Prop := match s with
  | .ok b e' => ∃ a h' F' f1 f2, r = .ok a h' ∧ Rel h' F' a b f1 ∧ Ev cc h' F' env e' f2 ∧ Fr h F fp h' F' (f1 ++ f2) ∧ (q = true → Sm h h')
  | .exc C x e' => ∃ n h' F' f2, r = .exc (cc C) n h' ∧ Ev cc h' F' env e' f2 ∧ Fr h F fp h' F' f2 ∧ Xd cc h' F' n x
  | .bad => True
def Sim {α β : Type} (q : Bool) (Rel : Sto → (Nat → Prop) → α → β → List Nat → Prop) (m : Env' → Sto → R α) (p : Env → PR β) : Prop :=
  ∀ h F env e fp, Ev cc h F env e fp → SR h F fp → Out cc q Rel h F fp env (m env h) (p e)
def RD (h : Sto) (F : Nat → Prop) (u : U) (d : D) (f : List Nat) : Prop := f = [] ∧ Dn cc h F u d
def RX (s : Bool) (h : Sto) (F : Nat → Prop) (u : U) (d : D) (f : List Nat) : Prop := f = [] ∧ (if s = true then Dn cc h F u d else Tp cc h F u d)
def RT (h : Sto) (F : Nat → Prop) (u : U) (t : T) (f : List Nat) : Prop := Ow cc h F u t f
def RE {α : Type} (h : Sto) (F : Nat → Prop) (a b : α) (f : List Nat) : Prop := f = [] ∧ a = b
def RDs (h : Sto) (F : Nat → Prop) (u : List U) (d : List D) (f : List Nat) : Prop := f = [] ∧ Dns cc h F u d
def RTs (h : Sto) (F : Nat → Prop) (u : List U) (d : List T) (f : List Nat) : Prop := Ows cc h F u d f
/-- arguments: data, or one that is only looked at -/
def RA (s : Bool) (h : Sto) (F : Nat → Prop) (us : List U) (ds : List D) (f : List Nat) : Prop := f = [] ∧ (if s = true then Dns cc h F us ds else ∃ u d, us = [u] ∧ ds = [d] ∧ Tp cc h F u d)
end
section
variable {cc : Nat → Nat} {h h' h1 h2 : Sto} {F F' F1 F2 : Nat → Prop} {u : U} {d : D} {us : List U} {ds : List D} {t : T} {ts : List T} {f f1 f2 fp fp' fp1 fp2 : List Nat} {env env' : Env'} {e e' : Env} {i : Nat} {q s s1 s2 : Bool}
  {α β γ δ : Type}
theorem Out.ret0 {Rel : Sto → (Nat → Prop) → α → β → List Nat → Prop} {a : α} {b : β} (r : Rel h F a b []) (x : Ev cc h F env e fp) (sr : SR h F fp) : Out cc q Rel h F fp env (.ok a h) (.ok b e) :=
  ⟨a, h, F, [], fp, rfl, r, x, Fr.refl sr, fun _ => Sm.refl h⟩
theorem Out.bind {R1 : Sto → (Nat → Prop) → α → β → List Nat → Prop} {R2 : Sto → (Nat → Prop) → γ → δ → List Nat → Prop} {r : R α} {s : PR β} {g : α → Sto → R γ} {p : β → Env → PR δ} (o : Out cc q R1 h F fp env r s)
    (k : ∀ a b h1 F1 e1 f1 f2, R1 h1 F1 a b f1 → Ev cc h1 F1 env e1 f2 → Fr h F fp h1 F1 (f1 ++ f2) → (q = true → Sm h h1) → Out cc q R2 h1 F1 (f1 ++ f2) env (g a h1) (p b e1)) : Out cc q R2 h F fp env (r.bind g) (s.bind p) := by
  cases s with
  | bad => trivial
  | exc C x e' =>
    obtain ⟨n, h', F', f2, e1, b⟩ := o
    exact ⟨n, h', F', f2, by rw [e1]; rfl, b⟩
  | ok b e' =>
    obtain ⟨a, h1, F1, f1, f2, e1, r1, x1, fr, sm⟩ := o
    have := k a b h1 F1 e' f1 f2 r1 x1 fr sm
    rw [e1]
    show Out cc q R2 h F fp env (g a h1) (p b e')
    cases e2 : p b e' with
    | bad => trivial
    | exc C x e'' =>
      rw [e2] at this
      obtain ⟨n, h', F', f3, a1, a2, a3, a4⟩ := this
      exact ⟨n, h', F', f3, a1, a2, fr.trans a3, a4⟩
    | ok c e'' =>
      rw [e2] at this
      obtain ⟨a', h', F', f3, f4, a1, a2, a3, a4, a5⟩ := this
      exact ⟨a', h', F', f3, f4, a1, a2, a3, fr.trans a4, fun z => Sm.trans fr.len (sm z) (a5 z)⟩
theorem Out.hold {R2 R3 : Sto → (Nat → Prop) → α → β → List Nat → Prop} {r : R α} {s : PR β} (o : Out cc q R2 h F f2 env r s) (sr : SR h F (f1 ++ f2))
    (k : ∀ a b h' F' f', R2 h' F' a b f' → Stab h F h' F' → Keep f1 h h' → R3 h' F' a b (f1 ++ f')) : Out cc q R3 h F (f1 ++ f2) env r s := by
  cases s with
  | bad => trivial
  | exc C x e' =>
    obtain ⟨n, h', F', f3, a1, a2, a3, a4⟩ := o
    exact ⟨n, h', F', f3, a1, a2, (a3.hold sr).sub (List.sublist_append_right _ _), a4⟩
  | ok b e' =>
    obtain ⟨a, h', F', f3, f4, a1, a2, a3, a4, a5⟩ := o
    exact ⟨a, h', F', f1 ++ f3, f4, a1, k a b h' F' f3 a2 (a4.stab sr.right) (a4.kept sr), a3, by rw [List.append_assoc]; exact a4.hold sr, a5⟩
/-- what was held is given up -/
theorem Out.drop {R2 : Sto → (Nat → Prop) → α → β → List Nat → Prop} {r : R α} {s : PR β} (o : Out cc q R2 h F f2 env r s) (sr : SR h F (f1 ++ f2)) : Out cc q R2 h F (f1 ++ f2) env r s := by
  cases s with
  | bad => trivial
  | exc C x e' =>
    obtain ⟨n, h', F', f3, a1, a2, a3, a4⟩ := o
    exact ⟨n, h', F', f3, a1, a2, (a3.hold sr).sub (List.sublist_append_right _ _), a4⟩
  | ok b e' =>
    obtain ⟨a, h', F', f3, f4, a1, a2, a3, a4, a5⟩ := o
    exact ⟨a, h', F', f3, f4, a1, a2, a3, (a4.hold sr).sub (List.sublist_append_right _ _), a5⟩
theorem Out.rel {R2 R3 : Sto → (Nat → Prop) → α → β → List Nat → Prop} {r : R α} {s : PR β} (o : Out cc q R2 h F fp env r s) (k : ∀ a b h' F' f', R2 h' F' a b f' → R3 h' F' a b f') : Out cc q R3 h F fp env r s := by
  cases s with
  | bad => trivial
  | exc C x e' => exact o
  | ok b e' =>
    obtain ⟨a, h', F', f3, f4, a1, a2, a3⟩ := o
    exact ⟨a, h', F', f3, f4, a1, k _ _ _ _ _ a2, a3⟩
/-- a change of the result alone -/
theorem Out.bind0 {R1 : Sto → (Nat → Prop) → α → β → List Nat → Prop} {R2 : Sto → (Nat → Prop) → γ → δ → List Nat → Prop} {r : R α} {s : PR β} {g : α → Sto → R γ} {p : β → Env → PR δ} (sr : SR h F fp) (o : Out cc q R1 h F fp env r s)
    (k : ∀ a b h1 F1 e1 f2, R1 h1 F1 a b [] → Ev cc h1 F1 env e1 f2 → SR h1 F1 f2 → Stab h F h1 F1 → (q = true → Sm h h1) → Out cc q R2 h1 F1 f2 env (g a h1) (p b e1)) (n : ∀ a b h F f, R1 h F a b f → f = []) : Out cc q R2 h F fp env (r.bind g) (s.bind p) :=
  o.bind fun a b h1 F1 e1 f1 f2 r1 x1 fr sm => by
    have := n _ _ _ _ _ r1
    subst this
    exact k a b h1 F1 e1 f2 r1 x1 fr.sr (fr.stab sr) sm
theorem rd_nil : ∀ (a : U) (b : D) (h : Sto) (F : Nat → Prop) (f : List Nat), RD cc h F a b f → f = [] := fun _ _ _ _ _ x => x.1
theorem rx_nil {s : Bool} : ∀ (a : U) (b : D) (h : Sto) (F : Nat → Prop) (f : List Nat), RX cc s h F a b f → f = [] := fun _ _ _ _ _ x => x.1
theorem ra_nil {s : Bool} : ∀ (a : List U) (b : List D) (h : Sto) (F : Nat → Prop) (f : List Nat), RA cc s h F a b f → f = [] := fun _ _ _ _ _ x => x.1
theorem rds_nil : ∀ (a : List U) (b : List D) (h : Sto) (F : Nat → Prop) (f : List Nat), RDs cc h F a b f → f = [] := fun _ _ _ _ _ x => x.1
theorem re_nil : ∀ (a b : α) (h : Sto) (F : Nat → Prop) (f : List Nat), RE h F a b f → f = [] := fun _ _ _ _ _ x => x.1
theorem RX.tp (x : RX cc s h F u d f) : Tp cc h F u d := by
  obtain ⟨_, x⟩ := x
  split at x
  · exact x.tp
  · exact x
theorem RX.later (x : RX cc s h F u d f) (sr : SR h F fp) (st : Stab h F h1 F1) (sm : q = true → Sm h h1) (z : s = true ∨ q = true) : Tp cc h1 F1 u d := by
  rcases z with z | z
  · subst z
    have y : Dn cc h F u d := by have := x.2; simpa using this
    exact (y.mono st).tp
  · exact Tp.mono st sr (sm z) x.tp
theorem RD.rx (x : RD cc h F u d f) : RX cc true h F u d f := ⟨x.1, by simpa using x.2⟩
theorem Sim.rx {m : EM} {p : PE} (a : Sim cc q (RD cc) m p) : Sim cc q (RX cc true) m p := fun h F env e fp x sr => (a h F env e fp x sr).rel fun _ _ _ _ _ r => r.rx
theorem Sim.rd {m : EM} {p : PE} (a : Sim cc q (RX cc true) m p) : Sim cc q (RD cc) m p := fun h F env e fp x sr => (a h F env e fp x sr).rel fun _ _ _ _ _ r => ⟨r.1, by have := r.2; simpa using this⟩
theorem Sim.weak {Rel : Sto → (Nat → Prop) → α → β → List Nat → Prop} {m : Env' → Sto → R α} {p : Env → PR β} (a : Sim cc true Rel m p) : Sim cc false Rel m p := fun h F env e fp x sr => by
  have := a h F env e fp x sr
  cases e1 : p e with
  | bad => trivial
  | exc C y e' => rw [e1] at this; exact this
  | ok b e' =>
    rw [e1] at this
    obtain ⟨a, h', F', f1, f2, a1, a2, a3, a4, a5⟩ := this
    exact ⟨a, h', F', f1, f2, a1, a2, a3, a4, fun z => by cases z⟩
/-! slots -/
theorem sim_var {i : Nat} : Sim cc q (RD cc) (Q.mVar i) (pVar i) := fun h F env e fp x sr => by
  unfold pVar
  split
  · rename_i d q1
    obtain ⟨o, f1, f2, a1, a2, a3, _⟩ := x.at q1
    cases o with
    | none => cases a2.1
    | some u =>
      cases a2 with
      | leaf r => exact ⟨u, h, F, [], fp, by rw [Q.e_var, a1], ⟨rfl, r⟩, x, Fr.refl sr, fun _ => Sm.refl h⟩
  · trivial
theorem leaves_of : ∀ {us : List (PySem.Str × U)} {ts : List (String × T)} {ds : List (String × D)} {f : List Nat}, leaves ts = some ds → Ows cc h F (us.map Prod.snd) (ts.map Prod.snd) f → us.map Prod.fst = (ts.map fun p => fs' p.1) → us.map Prod.fst = (ds.map fun p => fs' p.1) ∧ Dns cc h F (us.map Prod.snd) (ds.map Prod.snd)
  | [], [], ds, f, q, _, _ => by cases q; exact ⟨rfl, .nil⟩
  | _ :: _, [], _, _, _, _, e => by simp at e
  | [], _ :: _, _, _, _, _, e => by simp at e
  | (k, u) :: us, (g, t) :: ts, ds, f, q, r, e => by
    simp only [List.map_cons, List.cons.injEq] at e
    cases t with
    | leaf d =>
      unfold leaves at q
      obtain ⟨ds', q1, rfl⟩ := Option.map_eq_some_iff.mp q
      simp only [List.map_cons] at r
      cases r with
      | cons a b =>
        obtain ⟨i1, i2⟩ := leaves_of q1 b e.2
        cases a with
        | leaf a => exact ⟨by simp [e.1, i1], .cons a i2⟩
    | _ => cases q
theorem Ow.vw (x : Ow cc h F u t f) (q : t.vw = some d) : Tp cc h F u d := by
  cases x with
  | leaf r => cases q; exact r.tp
  | ls e r => cases q; exact ⟨_, by rw [Q.e_mL_ref, e], r⟩
  | dK e k r => cases q; exact ⟨_, _, rfl, e, k, r⟩
  | dT e k r => cases q; exact ⟨_, _, rfl, e, k, r⟩
  | is e k r =>
    obtain ⟨ds, q1, rfl⟩ := Option.map_eq_some_iff.mp q
    obtain ⟨a, b⟩ := leaves_of q1 r k
    exact ⟨_, _, rfl, e, a, b⟩
  | hole u => cases q
  | lT e r => cases q
theorem sim_vw {i : Nat} : Sim cc q (RX cc false) (Q.mVar i) (pVw i) := fun h F env e fp x sr => by
  unfold pVw
  split
  · rename_i t q1
    obtain ⟨o, f1, f2, a1, a2, a3, _⟩ := x.at q1
    cases q2 : t.vw with
    | none => trivial
    | some d =>
      cases o with
      | none => obtain ⟨rfl, _⟩ := a2; cases q2
      | some u => exact ⟨u, h, F, [], fp, by rw [Q.e_var, a1], ⟨rfl, Ow.vw a2 q2⟩, x, Fr.refl sr, fun _ => Sm.refl h⟩
  · trivial
theorem sim_fv {i : Nat} : Sim cc q (RD cc) (Q.mVar i) (pFv i) := fun h F env e fp x sr => by
  unfold pFv
  split
  · rename_i t q1
    split
    · rename_i d q2
      obtain ⟨o, f1, f2, a1, a2, a3, a4⟩ := x.at q1
      cases o with
      | none => obtain ⟨rfl, _⟩ := a2; cases q2
      | some u =>
        have dn := Ow.frz a2 q2 (fun n => F n ∨ n ∈ f1) (fun _ y => .inl y) (fun _ y => .inr y)
        obtain ⟨fp', b1, b2⟩ := a4 h (fun n => F n ∨ n ∈ f1) (some u) (.leaf d) [] (Stab.freeze f1) (fun _ _ => rfl) (.leaf dn)
        rw [list_set_same a1] at b1
        exact ⟨u, h, _, [], fp', by rw [Q.e_var, a1], ⟨rfl, dn⟩, b1, ((Fr.freeze (sr.perm a3)).perm b2.symm).permL a3.symm, fun _ => Sm.refl h⟩
    · trivial
  · trivial
theorem sim_mv {i : Nat} : Sim cc q (RT cc) (Q.mVar i) (pMv i) := fun h F env e fp x sr => by
  unfold pMv
  split
  · trivial
  · rename_i t nh q1
    obtain ⟨o, f1, f2, a1, a2, a3, a4⟩ := x.at q1
    cases o with
    | none => obtain ⟨rfl, _⟩ := a2; exact (nh rfl).elim
    | some u =>
      obtain ⟨fp', b1, b2⟩ := a4 h F (some u) .hole [] .refl (fun _ _ => rfl) (.hole u)
      rw [list_set_same a1] at b1
      exact ⟨u, h, F, f1, fp', by rw [Q.e_var, a1], a2, b1, (Fr.refl sr).perm (a3.trans (List.Perm.append_left f1 b2.symm)), fun _ => Sm.refl h⟩
  · trivial
theorem sim_c {u : U} {d : D} (r : ∀ h F, Dn cc h F u d) : Sim cc q (RD cc) (Q.mC u) (pC d) := fun h F env e fp x sr => Out.ret0 ⟨rfl, r h F⟩ x sr
theorem sim_lf {m : EM} {p : PE} (a : Sim cc q (RD cc) m p) : Sim cc q (RT cc) m (pLf p) := fun h F env e fp x sr => by
  have := a h F env e fp x sr
  unfold pLf
  cases e1 : p e with
  | bad => trivial
  | exc C y e' => rw [e1] at this; exact this
  | ok b e' =>
    rw [e1] at this
    obtain ⟨a, h', F', f1, f2, a1, a2, a3⟩ := this
    obtain ⟨rfl, dn⟩ := a2
    exact ⟨a, h', F', [], f2, a1, .leaf dn, a3⟩
theorem sim_fz {m : EM} {p : PT} (a : Sim cc q (RT cc) m p) : Sim cc q (RD cc) m (pFz p) := fun h F env e fp x sr => by
  have := a h F env e fp x sr
  unfold pFz
  cases e1 : p e with
  | bad => trivial
  | exc C y e' => rw [e1] at this; exact this
  | ok b e' =>
    rw [e1] at this
    obtain ⟨u, h', F', f1, f2, a1, a2, a3, a4, a5⟩ := this
    show Out cc q (RD cc) h F fp env _ (oE b.fz e')
    cases q1 : b.fz with
    | none => trivial
    | some d =>
      have dn := Ow.frz a2 q1 (fun n => F' n ∨ n ∈ f1) (fun _ y => .inl y) (fun _ y => .inr y)
      exact ⟨u, h', _, [], f2, a1, ⟨rfl, dn⟩, Ev.mono (Stab.freeze f1) (fun _ _ => rfl) a3, a4.trans (Fr.freeze a4.sr), a5⟩
/-! ### operators -/
def OpB (cc : Nat → Nat) {α β : Type} (f : U → U → Sto → R α) (g : D → D → Option β) (Rel : Sto → (Nat → Prop) → α → β → List Nat → Prop) : Prop :=
  ∀ (q : Bool) (h : Sto) (F : Nat → Prop) (fp : List Nat) (env : Env') (e : Env) (u1 : U) (d1 : D) (u2 : U) (d2 : D), Ev cc h F env e fp → SR h F fp → Tp cc h F u1 d1 → Tp cc h F u2 d2 → Out cc q Rel h F fp env (f u1 u2 h) (oE (g d1 d2) e)
theorem sim_two {f : U → U → Sto → R α} {g : D → D → Option β} {Rel : Sto → (Nat → Prop) → α → β → List Nat → Prop} (ok : OpB cc f g Rel) {ma mb : EM} {pa pb : PE} (a : Sim cc q (RX cc s1) ma pa) (b : Sim cc q (RX cc s2) mb pb) (z : s1 = true ∨ q = true) :
    Sim cc q Rel (fun env h => (ma env h).bind fun x h1 => (mb env h1).bind fun y h2 => f x y h2) (fun e => (pa e).bind fun x e1 => (pb e1).bind fun y e2 => oE (g x y) e2) := fun h F env e fp x sr =>
  Out.bind0 sr (a h F env e fp x sr) (fun u d h1 F1 e1 f2 r1 x1 sr1 st sm => Out.bind0 sr1 (b h1 F1 env e1 f2 x1 sr1) (fun u2 d2 h2 F2 e2 f3 r2 x2 sr2 st2 sm2 => ok q h2 F2 f3 env e2 u d u2 d2 x2 sr2 (r1.later sr1 st2 sm2 z) r2.tp) rx_nil) rx_nil
theorem sim_bin {f : U → U → Sto → R U} {g : D → D → Option D} (ok : OpB cc f g (RD cc)) {ma mb : EM} {pa pb : PE} (a : Sim cc q (RX cc s1) ma pa) (b : Sim cc q (RX cc s2) mb pb) (z : s1 = true ∨ q = true) : Sim cc q (RD cc) (Q.mBin f ma mb) (pBin g pa pb) := sim_two ok a b z
theorem sim_add' {f : U → U → Sto → R U} (ok : OpB cc f tAdd (RT cc)) {ma mb : EM} {pa pb : PE} (a : Sim cc q (RX cc s1) ma pa) (b : Sim cc q (RX cc s2) mb pb) (z : s1 = true ∨ q = true) : Sim cc q (RT cc) (Q.mBin f ma mb) (pAdd pa pb) := sim_two ok a b z
theorem op_int {c : Int → Int → Prop} [∀ i j, Decidable (c i j)] {f : Int → Int → Int} {g : D → D → Option D} (hg : ∀ i j, g (.int i) (.int j) = if c i j then some (.int (f i j)) else none) (hn : ∀ x y, (∀ i j, x = .int i → y = .int j → False) → g x y = none) : OpB cc (Q.uI c f) g (RD cc) := by
  intro q h F fp env e u1 d1 u2 d2 x sr t1 t2
  by_cases z : ∃ i j, d1 = .int i ∧ d2 = .int j
  · obtain ⟨i, j, rfl, rfl⟩ := z
    cases t1; cases t2
    rw [hg]
    by_cases y : c i j
    · rw [if_pos y]
      have : Q.uI c f (.int i) (.int j) h = .ok (.int (f i j)) h := by unfold Q.uI; simp only; rw [if_pos y]
      rw [this]
      exact Out.ret0 ⟨rfl, .int _⟩ x sr
    · rw [if_neg y]; trivial
  · rw [hn d1 d2 fun i j a b => z ⟨i, j, a, b⟩]; trivial
end
end P

set_option Elab.async false
set_option linter.all false
set_option maxRecDepth 100000
set_option maxHeartbeats 1000000
/-! PS4: operators, tests, lists of arguments. -/
namespace P
open Q (U O Sto Env' R RS EM TM AM SM Sem')
section
variable {cc : Nat → Nat} {h h' h1 h2 : Sto} {F F' F1 F2 : Nat → Prop} {u : U} {d : D} {us : List U} {ds : List D} {t : T} {ts : List T} {f f1 f2 fp fp' fp1 fp2 : List Nat} {env env' : Env'} {e e' : Env} {i : Nat} {q s s1 s2 : Bool}
  {α β γ δ : Type}
theorem op_int' {c : Int → Int → Prop} [∀ i j, Decidable (c i j)] {c2 : Int → Int → Prop} [∀ i j, Decidable (c2 i j)] {f : Int → Int → Int} {g : D → D → Option D} (hc : ∀ i j, c2 i j → c i j) (hg : ∀ i j, g (.int i) (.int j) = if c2 i j then some (.int (f i j)) else none) (hn : ∀ x y, (∀ i j, x = .int i → y = .int j → False) → g x y = none) : OpB cc (Q.uI c f) g (RD cc) := by
  intro q h F fp env e u1 d1 u2 d2 x sr t1 t2
  by_cases z : ∃ i j, d1 = .int i ∧ d2 = .int j
  · obtain ⟨i, j, rfl, rfl⟩ := z
    cases t1; cases t2
    rw [hg]
    by_cases y : c2 i j
    · rw [if_pos y]
      have : Q.uI c f (.int i) (.int j) h = .ok (.int (f i j)) h := by unfold Q.uI; simp only; rw [if_pos (hc i j y)]
      rw [this]
      exact Out.ret0 ⟨rfl, .int _⟩ x sr
    · rw [if_neg y]; trivial
  · rw [hn d1 d2 fun i j a b => z ⟨i, j, a, b⟩]; trivial
theorem op_mul : OpB cc Q.uMul gMul (RD cc) := op_int' (c := Q.cMul) (c2 := P.cMul) (f := fun i j => i * j) (fun i j h => by unfold P.cMul at h; unfold Q.cMul; omega) (fun i j => rfl) (fun x y n => by unfold gMul; split <;> first | rfl | exact (n _ _ rfl rfl).elim)
theorem op_div : OpB cc Q.uDiv gDiv (RD cc) := op_int' (c := Q.cDiv) (c2 := fun _ j => 0 < j ∧ j.natAbs < 1073741824) (f := fun i j => i / j) (fun i j h => by unfold Q.cDiv; omega) (fun i j => rfl) (fun x y n => by unfold gDiv; split <;> first | rfl | exact (n _ _ rfl rfl).elim)
theorem op_mod : OpB cc Q.uMod gMod (RD cc) := op_int (c := Q.cMod) (f := fun i j => i % j) (fun i j => by
  show (if 0 < j then some (D.int (i % j)) else none) = _
  by_cases z : 0 < j
  · rw [if_pos z, if_pos (show Q.cMod i j from z)]
  · rw [if_neg z, if_neg (show ¬ Q.cMod i j from z)]) (fun x y n => by unfold gMod; split <;> first | rfl | exact (n _ _ rfl rfl).elim)
theorem op_pow : OpB cc Q.uPow gPow (RD cc) := op_int' (c := Q.cPow) (c2 := fun i j => 0 ≤ j ∧ j.natAbs ≤ 1000 ∧ 0 ≤ i ∧ i.natAbs < 1000) (f := fun i j => i ^ j.toNat) (fun i j h => by unfold Q.cPow; omega) (fun i j => rfl) (fun x y n => by unfold gPow; split <;> first | rfl | exact (n _ _ rfl rfl).elim)
theorem Dns.app : ∀ {us : List U} {ds : List D} {vs : List U} {es : List D}, Dns cc h F us ds → Dns cc h F vs es → Dns cc h F (us ++ vs) (ds ++ es)
  | _, _, _, _, .nil, y => y
  | _, _, _, _, .cons x r, y => .cons x (Dns.app r y)
theorem Dns.take : ∀ (n : Nat) {us : List U} {ds : List D}, Dns cc h F us ds → Dns cc h F (us.take n) (ds.take n)
  | 0, _, _, _ => by simp; exact .nil
  | n + 1, _, _, .nil => by simp; exact .nil
  | n + 1, _, _, .cons x r => by simp; exact .cons x (Dns.take n r)
theorem Dns.drop : ∀ (n : Nat) {us : List U} {ds : List D}, Dns cc h F us ds → Dns cc h F (us.drop n) (ds.drop n)
  | 0, _, _, r => by simpa using r
  | n + 1, _, _, .nil => by simp; exact .nil
  | n + 1, _, _, .cons x r => by simp; exact Dns.drop n r
theorem Dns.set : ∀ (n : Nat) {us : List U} {ds : List D} {u : U} {d : D}, Dns cc h F us ds → Dn cc h F u d → Dns cc h F (us.set n u) (ds.set n d)
  | _, _, _, _, _, .nil, _ => by simp; exact .nil
  | 0, _, _, _, _, .cons x r, y => .cons y r
  | n + 1, _, _, _, _, .cons x r, y => .cons x (Dns.set n r y)
theorem cut_eq {α : Type} (xs : List α) (lo hi : Option Int) : P.cut xs lo hi = Q.cut xs lo hi := by
  have : ∀ n d o, P.sIx n d o = HT.sIx n d o := fun n d o => by cases o <;> rfl
  unfold P.cut Q.cut
  rw [this, this]
theorem Dns.cut {us : List U} {ds : List D} (r : Dns cc h F us ds) (lo hi : Option Int) : Dns cc h F (Q.cut us lo hi) (P.cut ds lo hi) := by
  rw [cut_eq]
  unfold Q.cut
  rw [r.len]
  exact (r.drop _).take _
/-- a new list -/
theorem out_new {us : List U} {ds : List D} (x : Ev cc h F env e fp) (sr : SR h F fp) (r : Dns cc h F us ds) : Out cc q (RT cc) h F fp env (.ok (.ref h.length) (h ++ [.lst us])) (.ok (.ls ds) e) := by
  have st := Stab.app sr [O.lst us]
  exact ⟨_, _, F, [h.length], fp, rfl, .ls (by rw [List.getElem?_append_right (Nat.le_refl _), Nat.sub_self]; rfl) (r.mono st), x.mono st (Keep.app sr _), Fr.app sr _, fun _ => Sm.app h _⟩
theorem aL_of_mL {u : U} {us : List U} (q : Q.mL h u = some us) : Q.aL h u = some us := by cases u <;> first | exact q | cases q
theorem sL_of_mL {u : U} {us : List U} (q : Q.mL h u = some us) : Q.sL h u = some us := by cases u <;> first | exact q | cases q
theorem op_add : OpB cc Q.uAdd tAdd (RT cc) := by
  intro q h F fp env e u1 d1 u2 d2 x sr t1 t2
  unfold tAdd
  split
  · cases t1; cases t2
    exact Out.ret0 (.leaf (.int _)) x sr
  · rename_i s t
    cases t1; cases t2
    split
    · rename_i z
      rw [Q.e_add_s, if_pos z]
      exact Out.ret0 (.leaf (.str _)) x sr
    · trivial
  · rename_i s t
    obtain ⟨us, a1, a2⟩ := t1
    obtain ⟨vs, b1, b2⟩ := t2
    split
    · rename_i z
      have g : Q.uAdd u1 u2 h = (match Q.mL h u1, Q.mL h u2 with
        | some us, some ts => if us.length + ts.length ≤ 16000000 then .ok (.ref h.length) (h ++ [.lst (us ++ ts)]) else .bad
        | _, _ => .bad) := by
        cases u1 <;> first | (cases a1; done) | (cases u2 <;> first | rfl | (cases b1; done))
      rw [g, a1, b1]
      simp only
      rw [if_pos (by rw [a2.len, b2.len]; exact z)]
      exact out_new x sr (a2.app b2)
    · trivial
  · rename_i s t
    cases t1 with
    | @tup us _ r1 =>
    cases t2 with
    | @tup vs _ r2 =>
    split
    · rename_i z
      show Out cc q (RT cc) _ _ _ _ (if us.length + vs.length ≤ 16000000 then R.ok (.tup (us ++ vs)) h else .bad) _
      rw [if_pos (by rw [r1.len, r2.len]; exact z)]
      exact Out.ret0 (.leaf (.tup (r1.app r2))) x sr
    · trivial
  · trivial

/-! ### arguments -/
theorem sim_dnil : Sim cc q (RDs cc) Q.aNil dNil := fun h F env e fp x sr => Out.ret0 ⟨rfl, .nil⟩ x sr
theorem sim_dcons {m : EM} {p : PE} {am : AM} {pa : PDs} (a : Sim cc q (RD cc) m p) (b : Sim cc q (RDs cc) am pa) : Sim cc q (RDs cc) (Q.aCons m am) (dCons p pa) := fun h F env e fp x sr =>
  Out.bind0 sr (a h F env e fp x sr) (fun u d h1 F1 e1 f2 r1 x1 sr1 st sm => Out.bind0 sr1 (b h1 F1 env e1 f2 x1 sr1) (fun us ds h2 F2 e2 f3 r2 x2 sr2 st2 sm2 => Out.ret0 ⟨rfl, .cons (r1.2.mono st2) r2.2⟩ x2 sr2) rds_nil) rd_nil
theorem sim_ra {am : AM} {pa : PDs} (a : Sim cc q (RDs cc) am pa) : Sim cc q (RA cc true) am pa := fun h F env e fp x sr => (a h F env e fp x sr).rel fun _ _ _ _ _ r => ⟨r.1, by simpa using r.2⟩
theorem sim_one {m : EM} {p : PE} (a : Sim cc q (RX cc s) m p) : Sim cc q (RA cc false) (Q.aCons m Q.aNil) (dCons p dNil) := fun h F env e fp x sr =>
  Out.bind0 sr (a h F env e fp x sr) (fun u d h1 F1 e1 f2 r1 x1 sr1 st sm => Out.ret0 ⟨rfl, u, d, rfl, rfl, r1.tp⟩ x1 sr1) rx_nil
theorem sim_tup {am : AM} {pa : PDs} (a : Sim cc q (RDs cc) am pa) : Sim cc q (RD cc) (Q.mTup am) (pTup pa) := fun h F env e fp x sr =>
  Out.bind0 sr (a h F env e fp x sr) (fun us ds h1 F1 e1 f2 r1 x1 sr1 st sm => by
    by_cases z : ds.length ≤ 16000000
    · rw [if_pos z, if_pos (by rw [r1.2.len]; exact z)]
      exact Out.ret0 ⟨rfl, .tup r1.2⟩ x1 sr1
    · rw [if_neg z]; trivial) rds_nil
theorem sim_lst {am : AM} {pa : PDs} (a : Sim cc q (RDs cc) am pa) : Sim cc q (RT cc) (Q.mLst am) (pLst pa) := fun h F env e fp x sr =>
  Out.bind0 sr (a h F env e fp x sr) (fun us ds h1 F1 e1 f2 r1 x1 sr1 st sm => by
    by_cases z : ds.length ≤ 16000000
    · rw [if_pos z, if_pos (by rw [r1.2.len]; exact z)]
      exact out_new x1 sr1 r1.2
    · rw [if_neg z]; trivial) rds_nil
/-! ### more operators -/
theorem op_ix : OpB cc Q.uIx gIx (RD cc) := by
  intro q h F fp env e u1 d1 u2 d2 x sr t1 t2
  have lst : ∀ {us : List U} {ds : List D} {i : Int}, (∀ s, u1 ≠ .str s) → Q.sL h u1 = some us → Dns cc h F us ds → Out cc q (RD cc) h F fp env (Q.uIx u1 (.int i) h) (oE (atI ds i) e) := by
    intro us ds i ns a r
    have g : Q.uIx u1 (.int i) h = (match Q.sL h u1 with
      | some us => Q.oR (L2.atI us i) h
      | none => .bad) := by cases u1 <;> first | rfl | exact (ns _ rfl).elim
    cases q1 : atI ds i with
    | none => trivial
    | some d =>
      obtain ⟨v, b1, b2⟩ := r.at q1
      rw [g, a]
      simp only [b1]
      exact Out.ret0 ⟨rfl, b2⟩ x sr
  unfold gIx
  split
  · cases t2; cases t1 with
    | kl r => exact lst (fun _ z => by cases z) rfl r
  · rename_i s i
    cases t1; cases t2
    rw [Q.e_ix_s]
    by_cases z : s.length ≤ 16000000
    · rw [if_pos z, if_pos z]
      cases q1 : atI s i with
      | none => trivial
      | some c =>
        have q1 : L2.atI s i = some c := q1
        rw [q1]
        exact Out.ret0 ⟨rfl, .str _⟩ x sr
    · rw [if_neg z, if_neg z]; trivial
  · cases t2
    obtain ⟨us, a, r⟩ := t1
    exact lst (fun s z => by subst z; cases a) (sL_of_mL a) r
  · cases t2; cases t1 with
    | tup r => exact lst (fun _ z => by cases z) rfl r
  · trivial
theorem sim_not {m : EM} {p : PE} (a : Sim cc q (RD cc) m p) : Sim cc q (RD cc) (Q.mNot m) (pUn gNot p) := fun h F env e fp x sr =>
  Out.bind0 sr (a h F env e fp x sr) (fun u d h1 F1 e1 f2 r1 x1 sr1 st sm => by
    have r := r1.2
    cases r with
    | bl i => exact Out.ret0 ⟨rfl, .bl _⟩ x1 sr1
    | _ => trivial) rd_nil
theorem sim_and {m m2 : EM} {p p2 : PE} (a : Sim cc q (RD cc) m p) (b : Sim cc q (RD cc) m2 p2) : Sim cc q (RD cc) (Q.mAnd m m2) (pAnd p p2) := fun h F env e fp x sr =>
  Out.bind0 sr (a h F env e fp x sr) (fun u d h1 F1 e1 f2 r1 x1 sr1 st sm => by
    have r := r1.2
    cases r with
    | bl i =>
      cases i with
      | true => exact b _ _ _ _ _ x1 sr1
      | false => exact Out.ret0 ⟨rfl, .bl _⟩ x1 sr1
    | _ => trivial) rd_nil
theorem sim_or {m m2 : EM} {p p2 : PE} (a : Sim cc q (RD cc) m p) (b : Sim cc q (RD cc) m2 p2) : Sim cc q (RD cc) (Q.mOr m m2) (pOr p p2) := fun h F env e fp x sr =>
  Out.bind0 sr (a h F env e fp x sr) (fun u d h1 F1 e1 f2 r1 x1 sr1 st sm => by
    have r := r1.2
    cases r with
    | bl i =>
      cases i with
      | false => exact b _ _ _ _ _ x1 sr1
      | true => exact Out.ret0 ⟨rfl, .bl _⟩ x1 sr1
    | _ => trivial) rd_nil
/-! ### tests -/
theorem sim_tand {t t2 : TM} {p p2 : PB} (a : Sim cc q RE t p) (b : Sim cc q RE t2 p2) : Sim cc q RE (Q.bAnd t t2) (tAnd p p2) := fun h F env e fp x sr =>
  Out.bind0 sr (a h F env e fp x sr) (fun u d h1 F1 e1 f2 r1 x1 sr1 st sm => by
    obtain ⟨_, rfl⟩ := r1
    cases u with
    | true => exact b _ _ _ _ _ x1 sr1
    | false => exact Out.ret0 ⟨rfl, rfl⟩ x1 sr1) re_nil
theorem sim_tor {t t2 : TM} {p p2 : PB} (a : Sim cc q RE t p) (b : Sim cc q RE t2 p2) : Sim cc q RE (Q.bOr t t2) (tOr p p2) := fun h F env e fp x sr =>
  Out.bind0 sr (a h F env e fp x sr) (fun u d h1 F1 e1 f2 r1 x1 sr1 st sm => by
    obtain ⟨_, rfl⟩ := r1
    cases u with
    | false => exact b _ _ _ _ _ x1 sr1
    | true => exact Out.ret0 ⟨rfl, rfl⟩ x1 sr1) re_nil
theorem sim_tnot {t : TM} {p : PB} (a : Sim cc q RE t p) : Sim cc q RE (Q.bNot t) (tNot p) := fun h F env e fp x sr =>
  Out.bind0 sr (a h F env e fp x sr) (fun u d h1 F1 e1 f2 r1 x1 sr1 st sm => by
    obtain ⟨_, rfl⟩ := r1
    exact Out.ret0 ⟨rfl, rfl⟩ x1 sr1) re_nil
theorem sim_b {t : TM} {p : PB} (a : Sim cc q RE t p) : Sim cc q (RD cc) (Q.mB t) (pB p) := fun h F env e fp x sr =>
  Out.bind0 sr (a h F env e fp x sr) (fun u d h1 F1 e1 f2 r1 x1 sr1 st sm => by
    obtain ⟨_, rfl⟩ := r1
    exact Out.ret0 ⟨rfl, .bl _⟩ x1 sr1) re_nil
theorem sim_tru {m : EM} {p : PE} (a : Sim cc q (RX cc s) m p) : Sim cc q RE (Q.bTru m) (tTru p) := fun h F env e fp x sr =>
  Out.bind0 sr (a h F env e fp x sr) (fun u d h1 F1 e1 f2 r1 x1 sr1 st sm => by
    have t1 := r1.tp
    have done : ∀ b, Q.truU h1 u = some b → Out cc q RE h1 F1 f2 env (Q.oB (Q.truU h1 u) h1) (oE (some b) e1) := fun b z => by
      rw [z]; exact Out.ret0 ⟨rfl, rfl⟩ x1 sr1
    have em : ∀ {us : List U} {ds : List D}, Dns cc h1 F1 us ds → (!us.isEmpty) = !ds.isEmpty := fun r => by cases r <;> rfl
    cases d with
    | non => cases t1; exact done _ rfl
    | bl b => cases t1; exact done _ rfl
    | int b => cases t1; exact done _ rfl
    | str s2 =>
      cases t1
      unfold truD
      by_cases w : s2.length ≤ 16000000
      · simp only [if_pos w]; exact done _ (by show (if s2.length ≤ 16000000 then some (!s2.isEmpty) else none) = _; rw [if_pos w])
      · simp only [if_neg w]; trivial
    | tup ds => cases t1 with | tup r => exact done _ (by rw [← em r]; rfl)
    | lst ds =>
      obtain ⟨us, a1, r⟩ := t1
      refine done _ ?_
      rw [← em r]
      cases u with
      | ref n =>
        simp only [Q.e_mL_ref] at a1
        split at a1
        · rename_i q1; cases a1; unfold Q.truU; simp only [q1]
        · cases a1
      | fl w => cases a1; rfl
      | _ => cases a1
    | dK ds =>
      obtain ⟨n, us, rfl, a1, a2, r⟩ := t1
      refine done _ ?_
      unfold Q.truU
      simp only [a1]
      congr 1
      cases us with
      | nil => cases ds with
        | nil => rfl
        | cons _ _ => simp at a2
      | cons _ _ => cases ds with
        | nil => simp at a2
        | cons _ _ => rfl
    | _ => trivial) rx_nil
end
end P

set_option Elab.async false
set_option linter.all false
set_option maxRecDepth 100000
set_option maxHeartbeats 1000000
/-! PS5: comparisons, built-ins, comprehensions, iteration. -/
namespace P
open Q (U O Sto Env' R RS EM TM AM SM Sem')
section
variable {cc : Nat → Nat} {h h' h1 h2 : Sto} {F F' F1 F2 : Nat → Prop} {u : U} {d : D} {us : List U} {ds : List D} {t : T} {ts : List T} {f f1 f2 fp fp' fp1 fp2 : List Nat} {env env' : Env'} {e e' : Env} {i : Nat} {q s s1 s2 : Bool}
  {α β γ δ : Type}
/-! data as the lower layer knows it -/
mutual
def py : D → PySem.PyData
  | .non => .none
  | .bl b => .bool b
  | .int i => .int i
  | .str s => .str ⟨s.toArray⟩
  | .tup ds => .tuple (pys ds)
  | .lst ds => .list (pys ds)
  | _ => .none
def pys : List D → List PySem.PyData
  | [] => []
  | d :: ds => py d :: pys ds
end
mutual
theorem pyd_of : ∀ {d : D} {u : U} {n m : Nat}, Dn cc h F u d → D.ok n d = true → n < m → Q.pyd m h u = some (py d)
  | .non, _, n, m + 1, .non, _, _ => by unfold py; rfl
  | .bl b, _, n, m + 1, .bl _, _, _ => by unfold py; rfl
  | .int b, _, n, m + 1, .int _, _, _ => by unfold py; rfl
  | .str b, _, n, m + 1, .str _, _, _ => by unfold py; rfl
  | .tup ds, _, n, m + 1, .tup (us := us) r, q, l => by
    cases n with
    | zero => simp [D.ok] at q
    | succ n =>
      simp only [D.ok] at q
      show (Q.allO (Q.pyd m h) us).map PySem.PyData.tuple = _
      rw [pyds_of r q (by omega)]
      unfold py; rfl
  | .lst ds, _, n, m + 1, .fl (us := us) r, q, l => by
    cases n with
    | zero => simp [D.ok] at q
    | succ n =>
      simp only [D.ok] at q
      show (Q.allO (Q.pyd m h) us).map PySem.PyData.list = _
      rw [pyds_of r q (by omega)]
      unfold py; rfl
  | .lst ds, _, n, m + 1, .lst (us := us) f e r, q, l => by
    cases n with
    | zero => simp [D.ok] at q
    | succ n =>
      simp only [D.ok] at q
      rename_i k
      show (match Q.aL h (.ref k) with | some us => (Q.allO (Q.pyd m h) us).map PySem.PyData.list | none => none) = _
      rw [Q.e_aL_ref, e]
      simp only
      rw [pyds_of r q (by omega)]
      unfold py; rfl
  | .kl ds, _, n, _, .kl _, q, _ => by cases n <;> simp [D.ok] at q
  | .dK ds, _, n, _, .dK _ _ _ _, q, _ => by cases n <;> simp [D.ok] at q
  | .dT ds, _, n, _, .dT _ _ _ _, q, _ => by cases n <;> simp [D.ok] at q
  | .dKl ds, _, n, _, .dKl _ _ _ _, q, _ => by cases n <;> simp [D.ok] at q
  | .ins C ds, _, n, _, .ins _ _ _ _, q, _ => by cases n <;> simp [D.ok] at q
theorem pyds_of : ∀ {ds : List D} {us : List U} {n m : Nat}, Dns cc h F us ds → D.oks n ds = true → n < m → Q.allO (Q.pyd m h) us = some (pys ds)
  | [], _, _, _, .nil, _, _ => by unfold Q.allO pys; rfl
  | d :: ds, _, n, m, .cons x r, q, l => by
    unfold D.oks at q
    rw [Bool.and_eq_true] at q
    unfold Q.allO
    rw [pyd_of x q.1 l, pyds_of r q.2 l]
    simp only [pys]
end
mutual
theorem lay_py : ∀ {d : D} {n : Nat}, D.ok n d = true → PySem.PyData.canLay0 (py d) = true ∧ PySem.PyData.depth (py d) ≤ n
  | .non, n, _ => by simp [py, PySem.PyData.canLay0, PySem.PyData.depth]
  | .bl b, n, _ => by simp [py, PySem.PyData.canLay0, PySem.PyData.depth]
  | .int b, n, _ => by simp [py, PySem.PyData.canLay0, PySem.PyData.depth]
  | .str b, n, q => by
    refine ⟨?_, by simp [py, PySem.PyData.depth]⟩
    have q : b.all (· < 1114112) = true := by cases n <;> simpa [D.ok] using q
    simp only [py, PySem.PyData.canLay0, PySem.PyData.strOk]
    simpa using q
  | .tup ds, 0, q => by simp [D.ok] at q
  | .tup ds, n + 1, q => by
    simp only [D.ok] at q
    obtain ⟨a, b⟩ := lay_pys q
    simp only [py, PySem.PyData.canLay0, PySem.PyData.depth]
    exact ⟨a, by omega⟩
  | .lst ds, 0, q => by simp [D.ok] at q
  | .lst ds, n + 1, q => by
    simp only [D.ok] at q
    obtain ⟨a, b⟩ := lay_pys q
    simp only [py, PySem.PyData.canLay0, PySem.PyData.depth]
    exact ⟨a, by omega⟩
  | .kl ds, n, q => by cases n <;> simp [D.ok] at q
  | .dK ds, n, q => by cases n <;> simp [D.ok] at q
  | .dT ds, n, q => by cases n <;> simp [D.ok] at q
  | .dKl ds, n, q => by cases n <;> simp [D.ok] at q
  | .ins C ds, n, q => by cases n <;> simp [D.ok] at q
theorem lay_pys : ∀ {ds : List D} {n : Nat}, D.oks n ds = true → PySem.PyData.canLayAll0 (pys ds) = true ∧ PySem.PyData.depthAll (pys ds) ≤ n
  | [], n, _ => by simp [pys, PySem.PyData.canLayAll0, PySem.PyData.depthAll]
  | d :: ds, n, q => by
    unfold D.oks at q
    rw [Bool.and_eq_true] at q
    obtain ⟨a1, a2⟩ := lay_py q.1
    obtain ⟨b1, b2⟩ := lay_pys q.2
    simp only [pys, PySem.PyData.canLayAll0, PySem.PyData.depthAll]
    exact ⟨by rw [a1, b1]; rfl, by omega⟩
end
theorem str_beq (s t : List Nat) : ((⟨s.toArray⟩ : PySem.Str) == ⟨t.toArray⟩) = (s == t) := by
  by_cases e : s = t
  · subst e; simp
  · rw [beq_eq_false_iff_ne.mpr e, beq_eq_false_iff_ne.mpr fun z => e ((Q.str_eq s t).mp z)]
mutual
theorem eqv_py : ∀ {d e : D} {n m : Nat}, D.ok n d = true → D.ok m e = true → PySem.PyData.eqv (py d) (py e) = D.eq d e
  | d, e, n, m, a, b => by
    cases d with
    | tup ds =>
      cases n with
      | zero => simp [D.ok] at a
      | succ n =>
        cases e with
        | tup es =>
          cases m with
          | zero => simp [D.ok] at b
          | succ m =>
            simp only [D.ok] at a b
            simp only [py, PySem.PyData.eqv, D.eq]
            exact eqv_pys a b
        | kl _ => cases m <;> simp [D.ok] at b
        | dK _ => cases m <;> simp [D.ok] at b
        | dT _ => cases m <;> simp [D.ok] at b
        | dKl _ => cases m <;> simp [D.ok] at b
        | ins _ _ => cases m <;> simp [D.ok] at b
        | _ => simp [py, PySem.PyData.eqv, D.eq]
    | lst ds =>
      cases n with
      | zero => simp [D.ok] at a
      | succ n =>
        cases e with
        | lst es =>
          cases m with
          | zero => simp [D.ok] at b
          | succ m =>
            simp only [D.ok] at a b
            simp only [py, PySem.PyData.eqv, D.eq]
            exact eqv_pys a b
        | kl _ => cases m <;> simp [D.ok] at b
        | dK _ => cases m <;> simp [D.ok] at b
        | dT _ => cases m <;> simp [D.ok] at b
        | dKl _ => cases m <;> simp [D.ok] at b
        | ins _ _ => cases m <;> simp [D.ok] at b
        | _ => simp [py, PySem.PyData.eqv, D.eq]
    | kl _ => cases n <;> simp [D.ok] at a
    | dK _ => cases n <;> simp [D.ok] at a
    | dT _ => cases n <;> simp [D.ok] at a
    | dKl _ => cases n <;> simp [D.ok] at a
    | ins _ _ => cases n <;> simp [D.ok] at a
    | str x =>
      cases e with
      | str y => simp only [py, PySem.PyData.eqv, D.eq]; exact str_beq x y
      | kl _ => cases m <;> simp [D.ok] at b
      | dK _ => cases m <;> simp [D.ok] at b
      | dT _ => cases m <;> simp [D.ok] at b
      | dKl _ => cases m <;> simp [D.ok] at b
      | ins _ _ => cases m <;> simp [D.ok] at b
      | _ => simp [py, PySem.PyData.eqv, D.eq]
    | _ =>
      cases e with
      | kl _ => cases m <;> simp [D.ok] at b
      | dK _ => cases m <;> simp [D.ok] at b
      | dT _ => cases m <;> simp [D.ok] at b
      | dKl _ => cases m <;> simp [D.ok] at b
      | ins _ _ => cases m <;> simp [D.ok] at b
      | _ => simp [py, PySem.PyData.eqv, D.eq]
theorem eqv_pys : ∀ {ds es : List D} {n m : Nat}, D.oks n ds = true → D.oks m es = true → PySem.PyData.eqvAll (pys ds) (pys es) = D.eqs ds es
  | [], [], _, _, _, _ => by simp [pys, PySem.PyData.eqvAll, D.eqs]
  | [], _ :: _, _, _, _, _ => by simp [pys, PySem.PyData.eqvAll, D.eqs]
  | _ :: _, [], _, _, _, _ => by simp [pys, PySem.PyData.eqvAll, D.eqs]
  | d :: ds, e :: es, n, m, a, b => by
    unfold D.oks at a b
    rw [Bool.and_eq_true] at a b
    simp only [pys, PySem.PyData.eqvAll, D.eqs]
    rw [eqv_py a.1 b.1, eqv_pys a.2 b.2]
end
theorem shaped_py {n : Nat} (a : D.ok n d = true) (l : n ≤ 60) : PySem.SeqAt.shaped (py d) = true := by
  obtain ⟨b, c⟩ := lay_py a
  show (PySem.PyData.canLay0 (py d) && decide (PySem.PyData.depth (py d) ≤ 64)) = true
  rw [b]
  simp; omega
theorem pyd_tp {n m : Nat} (x : Tp cc h F u d) (q : D.ok n d = true) (l : n < m) : Q.pyd m h u = some (py d) := by
  cases d with
  | lst ds =>
    obtain ⟨us, a, r⟩ := x
    cases n with
    | zero => simp [D.ok] at q
    | succ n =>
      cases m with
      | zero => omega
      | succ m =>
        simp only [D.ok] at q
        have g : Q.pyd (m + 1) h u = (Q.allO (Q.pyd m h) us).map PySem.PyData.list := by
          cases u with
          | fl w => cases a; rfl
          | ref k =>
            show (match Q.aL h (.ref k) with | some us => (Q.allO (Q.pyd m h) us).map PySem.PyData.list | none => none) = _
            rw [aL_of_mL a]
          | _ => cases a
        rw [g, pyds_of r q (by omega)]
        simp only [py]; rfl
  | dK _ => cases n <;> simp [D.ok] at q
  | dT _ => cases n <;> simp [D.ok] at q
  | ins _ _ => cases n <;> simp [D.ok] at q
  | _ => exact pyd_of x q l
/-! ### comparisons -/
def CmpD (cc : Nat → Nat) (f : Sto → U → U → Option Bool) (g : D → D → Option Bool) : Prop := ∀ h F u1 d1 u2 d2 b, Tp cc h F u1 d1 → Tp cc h F u2 d2 → g d1 d2 = some b → f h u1 u2 = some b
theorem sim_cmp {f : Sto → U → U → Option Bool} {g : D → D → Option Bool} (ok : CmpD cc f g) {ma mb : EM} {pa pb : PE} (a : Sim cc q (RX cc s1) ma pa) (b : Sim cc q (RX cc s2) mb pb) (z : s1 = true ∨ q = true) : Sim cc q RE (Q.bCmp f ma mb) (tCmp g pa pb) :=
  sim_two (f := fun x y h => Q.oB (f h x y) h) (fun q h F fp env e u1 d1 u2 d2 x sr t1 t2 => by
    cases e1 : g d1 d2 with
    | none => trivial
    | some b =>
      show Out cc q RE h F fp env (Q.oB (f h u1 u2) h) _
      rw [ok h F u1 d1 u2 d2 b t1 t2 e1]
      exact Out.ret0 ⟨rfl, rfl⟩ x sr) a b z
theorem cmp_int {p : Int → Int → Bool} : CmpD cc (Q.cI p) (P.cI p) := fun h F u1 d1 u2 d2 b t1 t2 e => by
  unfold P.cI at e
  split at e
  · cases t1; cases t2; cases e; rfl
  · cases e
theorem cmp_lt : CmpD cc Q.cLt P.cLt := cmp_int
theorem cmp_gt : CmpD cc Q.cGt P.cGt := cmp_int
theorem atom_tp (x : Tp cc h F u d) (a : atom d = true) : (d = .non ∧ u = .non) ∨ (∃ b, d = .bl b ∧ u = .bl b) ∨ (∃ i, d = .int i ∧ u = .int i) ∨ ∃ s, d = .str s ∧ u = .str s := by
  cases d with
  | non => cases x; exact .inl ⟨rfl, rfl⟩
  | bl b => cases x; exact .inr (.inl ⟨_, rfl, rfl⟩)
  | int b => cases x; exact .inr (.inr (.inl ⟨_, rfl, rfl⟩))
  | str b => cases x; exact .inr (.inr (.inr ⟨_, rfl, rfl⟩))
  | _ => cases a
theorem deep_tp {n : Nat} (x : Tp cc h F u d) (a : ¬ atom d = true) (c : D.ok n d = true) : (∃ us, u = .tup us) ∨ (∃ us, u = .fl us) ∨ ∃ n, u = .ref n := by
  cases d with
  | tup ds => cases x with | tup r => exact .inl ⟨_, rfl⟩
  | lst ds => obtain ⟨us, a, _⟩ := x; cases u <;> first | exact .inr (.inl ⟨_, rfl⟩) | exact .inr (.inr ⟨_, rfl⟩) | cases a
  | non => exact absurd rfl a
  | bl _ => exact absurd rfl a
  | int _ => exact absurd rfl a
  | str _ => exact absurd rfl a
  | _ => cases n <;> simp [D.ok] at c
theorem cmp_eq : CmpD cc Q.cEq P.cEq := fun h F u1 d1 u2 d2 b t1 t2 e => by
  unfold P.cEq at e
  split at e
  · rename_i c
    cases e
    rw [Bool.or_eq_true, Bool.and_eq_true, Bool.and_eq_true, Bool.and_eq_true] at c
    have deep : D.ok 50 d1 = true → D.ok 50 d2 = true → Q.eqP h u1 u2 = some (D.eq d1 d2) := fun a1 a2 => by
      unfold Q.eqP
      rw [pyd_tp t1 a1 (by decide), pyd_tp t2 a2 (by decide)]
      simp only
      rw [if_pos ⟨shaped_py a1 (by decide), shaped_py a2 (by decide)⟩, eqv_py a1 a2]
    by_cases at1 : atom d1 = true
    · by_cases at2 : atom d2 = true
      · rcases atom_tp t1 at1 with ⟨rfl, rfl⟩ | ⟨b1, rfl, rfl⟩ | ⟨b1, rfl, rfl⟩ | ⟨b1, rfl, rfl⟩ <;> rcases atom_tp t2 at2 with ⟨rfl, rfl⟩ | ⟨b2, rfl, rfl⟩ | ⟨b2, rfl, rfl⟩ | ⟨b2, rfl, rfl⟩ <;> first
          | (simp [Q.cEq, D.eq]; done)
          | (simp only [Q.cEq, D.eq]; congr 1; by_cases z : b1 = b2 <;> simp [z]; done)
          | (exact deep (by simp [D.ok]) (by simp [D.ok]))
      · rcases c with ⟨⟨_, c⟩, _⟩ | ⟨c1, c2⟩
        · exact absurd c at2
        · have d2' : Q.cEq h u1 u2 = Q.eqP h u1 u2 := by
            rcases deep_tp t2 at2 c2 with ⟨us, rfl⟩ | ⟨us, rfl⟩ | ⟨n, rfl⟩ <;> cases u1 <;> rfl
          rw [d2', deep c1 c2]
    · rcases c with ⟨⟨c, _⟩, _⟩ | ⟨c1, c2⟩
      · exact absurd c at1
      · have d1' : Q.cEq h u1 u2 = Q.eqP h u1 u2 := by
          rcases deep_tp t1 at1 c1 with ⟨us, rfl⟩ | ⟨us, rfl⟩ | ⟨n, rfl⟩ <;> cases u2 <;> rfl
        rw [d1', deep c1 c2]
  · cases e
theorem cmp_ne : CmpD cc Q.cNe P.cNe := fun h F u1 d1 u2 d2 b t1 t2 e => by
  unfold P.cNe at e
  unfold Q.cNe
  cases e1 : P.cEq d1 d2 with
  | none => rw [e1] at e; cases e
  | some c => rw [e1] at e; rw [cmp_eq h F u1 d1 u2 d2 c t1 t2 e1]; exact e
theorem cmp_is : CmpD cc Q.cIs P.cIs := fun h F u1 d1 u2 d2 b t1 t2 e => by
  cases d2 with
  | non =>
    cases t2
    cases d1 with
    | non => cases t1; cases e; rfl
    | lst ds => cases e; obtain ⟨us, a, _⟩ := t1; cases u1 <;> first | rfl | cases a
    | dK ds => cases e; obtain ⟨n, us, rfl, _⟩ := t1; rfl
    | dT ds => cases e; obtain ⟨n, us, rfl, _⟩ := t1; rfl
    | ins C ds => cases e; obtain ⟨n, us, rfl, _⟩ := t1; rfl
    | _ => cases e; cases t1; rfl
  | _ => unfold P.cIs at e; split at e <;> first | (rename_i z; cases z; done) | cases e
end
end P

set_option Elab.async false
set_option linter.all false
set_option maxRecDepth 100000
set_option maxHeartbeats 1000000
/-! PS6: membership, built-ins, fields, changes at places. -/
namespace P
open Q (U O Sto Env' R RS EM TM AM SM Sem')
section
variable {cc : Nat → Nat} {h h' h1 h2 : Sto} {F F' F1 F2 : Nat → Prop} {u : U} {d : D} {us : List U} {ds : List D} {t : T} {ts : List T} {f f1 f2 fp fp' fp1 fp2 : List Nat} {env env' : Env'} {e e' : Env} {i : Nat} {q s s1 s2 : Bool}
  {α β γ δ : Type}
theorem eqF_D {u v : U} {d e : D} (x : Tp cc h F u d) (y : Tp cc h F v e) (a : atom d = true) (b : atom e = true) : Q.eqF u v = D.eq d e := by
  rcases atom_tp x a with ⟨rfl, rfl⟩ | ⟨b1, rfl, rfl⟩ | ⟨b1, rfl, rfl⟩ | ⟨b1, rfl, rfl⟩ <;> rcases atom_tp y b with ⟨rfl, rfl⟩ | ⟨b2, rfl, rfl⟩ | ⟨b2, rfl, rfl⟩ | ⟨b2, rfl, rfl⟩ <;> simp [Q.eqF, D.eq]
theorem atom_flat (x : Tp cc h F u d) (a : atom d = true) : Q.flatU u = true := by
  rcases atom_tp x a with ⟨rfl, rfl⟩ | ⟨b1, rfl, rfl⟩ | ⟨b1, rfl, rfl⟩ | ⟨b1, rfl, rfl⟩ <;> rfl
theorem flat_atom (x : Dn cc h F u d) (a : Q.flatU u = true) : atom d = true := by cases x <;> first | rfl | cases a
theorem inF_D (x : Tp cc h F u d) (a : atom d = true) : ∀ {us : List U} {ds : List D}, Dns cc h F us ds → ds.all atom = true → Q.inF u us = (ds.any fun y => D.eq y d) ∧ us.all Q.flatU = true
  | _, _, .nil, _ => ⟨rfl, rfl⟩
  | _, _, .cons y r, b => by
    rw [List.all_cons, Bool.and_eq_true] at b
    obtain ⟨i1, i2⟩ := inF_D x a r b.2
    refine ⟨?_, by rw [List.all_cons, atom_flat y.tp b.1, i2]; rfl⟩
    show (Q.eqF _ u || Q.inF u _) = _
    rw [List.any_cons, i1, eqF_D y.tp x b.1 a]
theorem all_atom : ∀ {us : List U} {ds : List D}, Dns cc h F us ds → us.all Q.flatU = true → ds.all atom = true
  | _, _, .nil, _ => rfl
  | _, _, .cons y r, b => by
    rw [List.all_cons, Bool.and_eq_true] at b
    rw [List.all_cons, flat_atom y b.1, all_atom r b.2]; rfl
theorem tp_atom (x : Tp cc h F u d) (a : Q.flatU u = true) : atom d = true := by
  cases d with
  | lst ds => obtain ⟨us, b, _⟩ := x; cases u <;> first | cases a; done | cases b
  | dK ds => obtain ⟨n, us, rfl, _⟩ := x; cases a
  | dT ds => obtain ⟨n, us, rfl, _⟩ := x; cases a
  | ins C ds => obtain ⟨n, us, rfl, _⟩ := x; cases a
  | _ => exact flat_atom x a
theorem any_py {n m : Nat} (a : D.ok n d = true) : ∀ {ds : List D}, D.oks m ds = true → ((pys ds).any fun z => PySem.PyData.eqv z (py d)) = ds.any fun y => D.eq y d
  | [], _ => by simp [pys]
  | y :: ds, b => by
    unfold D.oks at b
    rw [Bool.and_eq_true] at b
    simp only [pys, List.any_cons]
    rw [eqv_py b.1 a, any_py a b.2]
theorem cmp_in : CmpD cc Q.cIn P.cIn := fun h F u1 d1 u2 d2 b t1 t2 e => by
  cases d2 with
  | lst ds =>
    obtain ⟨us, a, r⟩ := t2
    have e : P.cIn0 d1 ds = some b := by cases d1 <;> exact e
    unfold P.cIn0 at e
    split at e
    · rename_i c
      cases e
      unfold Q.cIn
      rw [sL_of_mL a]
      simp only
      by_cases w : Q.flatU u1 = true ∧ us.all Q.flatU = true
      · rw [if_pos w]
        rw [(inF_D t1 (tp_atom t1 w.1) r (all_atom r w.2)).1]
      · rw [if_neg w]
        rw [Bool.or_eq_true, Bool.and_eq_true, Bool.and_eq_true] at c
        rcases c with c | c
        · exact absurd ⟨atom_flat t1 c.1, (inF_D t1 c.1 r c.2).2⟩ w
        · have o2 : D.ok 50 (.lst ds) = true := by simp only [D.ok]; exact c.2
          have p2 := pyd_tp (m := 60) (show Tp cc h F u2 (.lst ds) from ⟨us, a, r⟩) o2 (by decide)
          unfold Q.inP
          rw [pyd_tp t1 c.1 (by decide), p2]
          simp only [py]
          have s2 := shaped_py o2 (by decide)
          simp only [py] at s2
          rw [if_pos ⟨shaped_py c.1 (by decide), s2⟩, any_py c.1 c.2]
    · cases e
  | tup ds =>
    cases t2 with
    | @tup us _ r =>
      have e : (if (atom d1 && ds.all atom) = true then some (ds.any fun y => D.eq y d1) else none) = some b := by cases d1 <;> exact e
      split at e
      · rename_i c
        cases e
        rw [Bool.and_eq_true] at c
        obtain ⟨i1, i2⟩ := inF_D t1 c.1 r c.2
        show (if Q.flatU u1 = true ∧ us.all Q.flatU = true then some (Q.inF u1 us) else _) = _
        rw [if_pos ⟨atom_flat t1 c.1, i2⟩, i1]
      · cases e
  | _ => cases d1 <;> cases e
theorem cmp_nin : CmpD cc Q.cNin P.cNin := fun h F u1 d1 u2 d2 b t1 t2 e => by
  unfold P.cNin at e
  unfold Q.cNin
  cases e1 : P.cIn d1 d2 with
  | none => rw [e1] at e; cases e
  | some c => rw [e1] at e; rw [cmp_in h F u1 d1 u2 d2 c t1 t2 e1]; exact e
/-! isinstance -/
def tyQ : Ty → Q.Ty
  | .bool => .bool | .int => .int | .str => .str | .tuple => .tuple | .list => .list | .dict => .dict
theorem is_tp (T : Ty) (x : Tp cc h F u d) {b : Bool} (e : isD T d = some b) : Q.isU (tyQ T) h u = some b := by
  rw [← e]
  cases d with
  | lst ds =>
    obtain ⟨us, a, _⟩ := x
    cases u with
    | ref n =>
      simp only [Q.e_mL_ref] at a
      split at a
      · rename_i z; unfold Q.isU; simp only [z]; cases T <;> rfl
      · cases a
    | fl w => cases T <;> rfl
    | _ => cases a
  | dK ds => obtain ⟨n, us, rfl, a, _⟩ := x; unfold Q.isU; simp only [a]; cases T <;> rfl
  | dT ds => obtain ⟨n, us, rfl, a, _⟩ := x; unfold Q.isU; simp only [a]; cases T <;> rfl
  | ins C ds => cases e
  | dKl ds => cases e
  | _ => cases x <;> cases T <;> rfl
theorem sim_is {T : Ty} {m : EM} {p : PE} (a : Sim cc q (RX cc s) m p) : Sim cc q RE (Q.bIs (tyQ T) m) (tIs T p) := fun h F env e fp x sr =>
  Out.bind0 sr (a h F env e fp x sr) (fun u d h1 F1 e1 f2 r1 x1 sr1 st sm => by
    cases q1 : isD T d with
    | none => trivial
    | some b => rw [is_tp T r1.tp q1]; exact Out.ret0 ⟨rfl, rfl⟩ x1 sr1) rx_nil
theorem sim_is2 {T S : Ty} {m : EM} {p : PE} (a : Sim cc q (RX cc s) m p) : Sim cc q RE (Q.bIs2 (tyQ T) (tyQ S) m) (tIs2 T S p) := fun h F env e fp x sr =>
  Out.bind0 sr (a h F env e fp x sr) (fun u d h1 F1 e1 f2 r1 x1 sr1 st sm => by
    cases q1 : isD T d with
    | none => trivial
    | some b =>
      cases q2 : isD S d with
      | none => trivial
      | some c =>
        rw [is_tp T r1.tp q1, is_tp S r1.tp q2]
        exact Out.ret0 ⟨rfl, rfl⟩ x1 sr1) rx_nil
/-! ### built-ins -/
def OpL (cc : Nat → Nat) {α β : Type} (s : Bool) (f : List U → Sto → R α) (g : List D → Option β) (Rel : Sto → (Nat → Prop) → α → β → List Nat → Prop) : Prop :=
  ∀ (q : Bool) (h : Sto) (F : Nat → Prop) (fp : List Nat) (env : Env') (e : Env) (us : List U) (ds : List D), Ev cc h F env e fp → SR h F fp → RA cc s h F us ds [] → Out cc q Rel h F fp env (f us h) (oE (g ds) e)
theorem sim_cb {f : List U → Sto → R U} {g : List D → Option D} (ok : OpL cc s f g (RD cc)) {am : AM} {pa : PDs} (a : Sim cc q (RA cc s) am pa) : Sim cc q (RD cc) (Q.mCB f am) (pCB g pa) := fun h F env e fp x sr =>
  Out.bind0 sr (a h F env e fp x sr) (fun us ds h1 F1 e1 f2 r1 x1 sr1 st sm => ok q h1 F1 f2 env e1 us ds x1 sr1 r1) ra_nil
theorem sim_ct {f : List U → Sto → R U} {g : List D → Option T} (ok : OpL cc s f g (RT cc)) {am : AM} {pa : PDs} (a : Sim cc q (RA cc s) am pa) : Sim cc q (RT cc) (Q.mCB f am) (pCT g pa) := fun h F env e fp x sr =>
  Out.bind0 sr (a h F env e fp x sr) (fun us ds h1 F1 e1 f2 r1 x1 sr1 st sm => ok q h1 F1 f2 env e1 us ds x1 sr1 r1) ra_nil
theorem ra_one {d : D} (x : RA cc s h F us [d] f) : ∃ u, us = [u] ∧ Tp cc h F u d := by
  obtain ⟨_, x⟩ := x
  split at x
  · cases x with
    | cons y r => cases r; exact ⟨_, rfl, y.tp⟩
  · obtain ⟨u, d', rfl, z, t⟩ := x
    cases z
    exact ⟨u, rfl, t⟩
theorem op_len : OpL cc s Q.uLen gLen (RD cc) := by
  intro q h F fp env e us ds x sr r
  unfold gLen
  split
  · obtain ⟨u, rfl, t⟩ := ra_one r
    cases t with
    | kl r =>
      rw [Q.e_len_kl, r.len]
      exact Out.ret0 ⟨rfl, .int _⟩ x sr
  · rename_i s2
    obtain ⟨u, rfl, t⟩ := ra_one r
    cases t
    rw [Q.e_len_s]
    by_cases z : s2.length ≤ 16000000
    · rw [if_pos z, if_pos z]; exact Out.ret0 ⟨rfl, .int _⟩ x sr
    · rw [if_neg z, if_neg z]; trivial
  · obtain ⟨u, rfl, t⟩ := ra_one r
    obtain ⟨us, a, r⟩ := t
    have g : Q.uLen [u] h = .ok (.int us.length) h := by
      cases u with
      | ref n => rw [Q.e_len_ref, sL_of_mL a]
      | fl w => cases a; rfl
      | _ => cases a
    rw [g, r.len]
    exact Out.ret0 ⟨rfl, .int _⟩ x sr
  · obtain ⟨u, rfl, t⟩ := ra_one r
    cases t with
    | tup r => rw [Q.e_len_tup, r.len]; exact Out.ret0 ⟨rfl, .int _⟩ x sr
  · trivial
theorem op_int1 : OpL cc s Q.uInt gInt (RD cc) := by
  intro q h F fp env e us ds x sr r
  unfold gInt
  split
  · obtain ⟨u, rfl, t⟩ := ra_one r; cases t; exact Out.ret0 ⟨rfl, .int _⟩ x sr
  · obtain ⟨u, rfl, t⟩ := ra_one r; cases t; exact Out.ret0 ⟨rfl, .int _⟩ x sr
  · trivial
theorem op_list : OpL cc s Q.uList gList (RT cc) := by
  intro q h F fp env e us ds x sr r
  have go : ∀ {u : U} {us : List U} {ds : List D}, Q.sL h u = some us → Dns cc h F us ds → Out cc q (RT cc) h F fp env (Q.uList [u] h) (oE (some (T.ls ds)) e) := fun a r => by
    rw [Q.e_list, a]; exact out_new x sr r
  unfold gList
  split
  · obtain ⟨u, rfl, t⟩ := ra_one r; cases t with | kl r => exact go rfl r
  · obtain ⟨u, rfl, t⟩ := ra_one r; obtain ⟨us, a, r⟩ := t; exact go (sL_of_mL a) r
  · obtain ⟨u, rfl, t⟩ := ra_one r; cases t with | tup r => exact go rfl r
  · trivial
theorem ra_two {d1 d2 : D} (x : RA cc true h F us [d1, d2] f) : ∃ u1 u2, us = [u1, u2] ∧ Dn cc h F u1 d1 ∧ Dn cc h F u2 d2 := by
  obtain ⟨_, x⟩ := x
  simp only [if_true] at x
  cases x with
  | cons y r => cases r with | cons z w => cases w; exact ⟨_, _, rfl, y, z⟩
theorem op_min : OpL cc true Q.uMin gMin (RD cc) := by
  intro q h F fp env e us ds x sr r
  unfold gMin
  split
  · obtain ⟨u1, u2, rfl, a, b⟩ := ra_two r; cases a; cases b; rw [Q.e_min]; exact Out.ret0 ⟨rfl, .int _⟩ x sr
  · trivial
/-! texts -/
end
end P

set_option Elab.async false
set_option linter.all false
set_option maxRecDepth 100000
set_option maxHeartbeats 1000000
/-! PS7: paths. -/
namespace P
open Q (U O Sto Env' R RS EM TM AM SM Sem')
section
variable {cc : Nat → Nat} {h h' h1 h2 : Sto} {F F' F1 F2 : Nat → Prop} {u v : U} {d : D} {us : List U} {ds : List D} {t : T} {ts : List T} {f f1 f2 fp fp' fp1 fp2 : List Nat} {env env' : Env'} {e e' : Env} {i : Nat} {q s s1 s2 : Bool}
  {α β γ δ : Type}
/-! ### paths -/
def RP (env : Env') (p : Pth) (h : Sto) (F : Nat → Prop) (u : U) (r : List Ac) (f : List Nat) : Prop := f = [] ∧ (∃ o, env[p.root]? = some (some o) ∧ atU h o r = some u) ∧ (p.isVar = true → r = [])
def SimP (cc : Nat → Nat) (m : EM) (p : Pth) : Prop := ∀ h F env e fp, Ev cc h F env e fp → SR h F fp → Out cc true (RP env p) h F fp env (m env h) (p.ev e)
theorem rp_nil {p : Pth} : ∀ (a : U) (b : List Ac) (h : Sto) (F : Nat → Prop) (f : List Nat), RP env p h F a b f → f = [] := fun _ _ _ _ _ x => x.1
theorem atP_cases (r : List Ac) : atP i r e = .bad ∨ (atP i r e = .ok r e ∧ ∃ t, getP i r e = some t ∧ t ≠ .hole) := by
  unfold atP
  split
  · exact .inl rfl
  · rename_i t nh q1
    exact .inr ⟨rfl, t, q1, nh⟩
  · exact .inl rfl
theorem simP_var {i : Nat} : SimP cc (Q.mVar i) (.var i) := fun h F env e fp x sr => by
  show Out cc true (RP env (.var i)) h F fp env _ (atP i [] e)
  rcases atP_cases (i := i) (e := e) [] with z | ⟨z, t, q1, nh⟩
  · rw [z]; trivial
  · rw [z]
    obtain ⟨o, v, f1, f2, a1, a2, _⟩ := x.pt q1 nh
    rw [atU_nil] at a2
    cases a2
    exact ⟨o, h, F, [], fp, by rw [Q.e_var, a1], ⟨rfl, ⟨o, a1, atU_nil _ _⟩, fun _ => rfl⟩, x, Fr.refl sr, fun _ => Sm.refl h⟩
theorem getP_app {r : List Ac} {a : Ac} {s : T} (q : getP i (r ++ [a]) e = some s) : ∃ t, getP i r e = some t ∧ t.get1 a = some s := by
  unfold getP at q ⊢
  cases q1 : e[i]? with
  | none => rw [q1] at q; cases q
  | some t =>
    rw [q1] at q
    simp only at q ⊢
    rw [get_app] at q
    cases q2 : t.get r with
    | none => rw [q2] at q; cases q
    | some w =>
      rw [q2] at q
      refine ⟨w, rfl, ?_⟩
      have q : w.get [a] = some s := q
      rw [get_cons] at q
      cases q3 : w.get1 a with
      | none => rw [q3] at q; cases q
      | some w' => rw [q3] at q; have q : w'.get [] = some s := q; rw [get_nil] at q; exact q
/-- what a path that leads somewhere gives below -/
theorem Ev.up {r : List Ac} {a : Ac} {s : T} {o : U} (x : Ev cc h F env e fp) (q : getP i (r ++ [a]) e = some s) (nh : s ≠ .hole) (ho : env[i]? = some (some o)) : ∃ t u, getP i r e = some t ∧ t.get1 a = some s ∧ atU h o r = some u ∧ ∃ f1, Ow cc h F u t f1 := by
  obtain ⟨t, q1, q2⟩ := getP_app q
  have nt : t ≠ .hole := fun z => by subst z; cases a <;> cases q2
  obtain ⟨o', v, f1, f2, a1, a2, a3, _⟩ := x.pt q1 nt
  rw [ho] at a1
  cases a1
  exact ⟨t, v, q1, q2, a2, f1, a3⟩
theorem Out.anyQ {Rel : Sto → (Nat → Prop) → α → β → List Nat → Prop} {r : R α} {s : PR β} (o : Out cc true Rel h F fp env r s) : Out cc q Rel h F fp env r s := by
  cases s with
  | bad => trivial
  | exc C x e' => exact o
  | ok b e' =>
    obtain ⟨a, h', F', f3, f4, a1, a2, a3, a4, a5⟩ := o
    exact ⟨a, h', F', f3, f4, a1, a2, a3, a4, fun _ => a5 rfl⟩
/-! changes -/
def UpdOk (cc : Nat → Nat) (s : Bool) (f : U → List U → Sto → R U) (g : T → List D → Option (D × T)) : Prop := ∀ h F v t us ds d t' f1, Ow cc h F v t f1 → RA cc s h F us ds [] → g t ds = some (d, t') → t.isLeaf = false ∧
  ∃ n o u, n ∈ f1 ∧ f v us h = .ok u (h.set n o) ∧ ∀ fp, SR h F (f1 ++ fp) → Dn cc (h.set n o) F u d ∧ Ow cc (h.set n o) F v t' f1
/-- evaluated parts behind a path: the path is still there -/
theorem path_later {p : Pth} {q : Bool} {Rel : Sto → (Nat → Prop) → α → β → List Nat → Prop} {r : List Ac} {o u : U} {s : R α} {k : PR β} (b2 : atU h o r = some u) (b3 : p.isVar = true → r = []) (z : p.isVar = true ∨ q = true) (bb : Out cc q Rel h F fp env s k) :
    Out cc false (fun h' F' a b f => Rel h' F' a b f ∧ atU h' o r = some u) h F fp env s k := by
  cases k with
  | bad => trivial
  | exc C y e' => exact bb
  | ok y e' =>
    obtain ⟨a, h', F', f3, f4, a1, a2, a3, a4, a5⟩ := bb
    refine ⟨a, h', F', f3, f4, a1, ⟨a2, ?_⟩, a3, a4, fun z => by cases z⟩
    rcases z with z | z
    · have := b3 z
      subst this
      rw [atU_nil] at b2 ⊢
      exact b2
    · exact atU_mono (a5 z) b2
/-- a place changes -/
theorem out_set {i : Nat} {r : List Ac} {t' : T} {n : Nat} {ob : O} {Rel : Sto → (Nat → Prop) → α → β → List Nat → Prop} {a : α} {b : β} {g1 g2 : List Nat} (sr : SR h F fp) (c4 : fp.Perm (g1 ++ g2)) (n1 : n ∈ g1)
    (c5 : ∀ h' F' s' f1', Stab h F h' F' → Keep g2 h h' → Ow cc h' F' u s' f1' → ∃ fp', Ev cc h' F' env (setP i r s' e) fp' ∧ fp'.Perm (f1' ++ g2)) {g3 : List Nat} (n2 : Ow cc (h.set n ob) F u t' g3) (g3s : g3.Sublist g1) (n3 : Rel (h.set n ob) F a b []) : Out cc false Rel h F fp env (.ok a (h.set n ob)) (.ok b (setP i r t' e)) := by
  have sr' := sr.perm c4
  have n4 : n ∉ g2 := fun m => (List.nodup_append.mp sr'.nd).2.2 n n1 n m rfl
  obtain ⟨fp', d1, d2⟩ := c5 (h.set n ob) F t' g3 (Stab.set sr' (List.mem_append_left _ n1) ob) (Keep.set ob n4) n2
  exact ⟨a, _, F, [], fp', rfl, n3, d1, (((Fr.set sr' (List.mem_append_left _ n1) ob).sub (g3s.append_right g2)).perm d2.symm).permL c4.symm, fun z => by cases z⟩
theorem sim_upd {f : U → List U → Sto → R U} {g : T → List D → Option (D × T)} (ok : UpdOk cc s f g) {m : EM} {p : Pth} {am : AM} {pa : PDs} (a : SimP cc m p) (b : Sim cc q (RA cc s) am pa) (z : p.isVar = true ∨ q = true) : Sim cc false (RD cc) (Q.mLM f m am) (pUpd p pa g) := fun h F env e fp x sr =>
  Out.bind0 sr (Out.anyQ (a h F env e fp x sr)) (fun u r h1 F1 e1 f2 r1 x1 sr1 st sm => by
    obtain ⟨_, ⟨o, b1, b2⟩, b3⟩ := r1
    cases q1 : getP p.root r e1 with
    | none => trivial
    | some t =>
      cases t with
      | ls xs =>
        have al : (Q.aL h1 u).isSome = true := by
          obtain ⟨o', v, g1, g2, c1, c2, c3, _⟩ := x1.pt q1 (fun z => by cases z)
          rw [b1] at c1; cases c1
          rw [b2] at c2; cases c2
          cases c3 with
          | ls e r => rw [Q.e_aL_ref, e]; rfl
        rw [if_pos al]
        refine Out.bind0 sr1 (path_later b2 b3 z (b h1 F1 env e1 f2 x1 sr1)) (fun us ds h2 F2 e2 f3 r2 x2 sr2 st2 sm2 => ?_) (fun _ _ _ _ _ x => x.1.1)
        obtain ⟨ra, b2⟩ := r2
        cases q2 : getP p.root r e2 with
        | none => trivial
        | some t =>
          simp only
          cases q3 : g t ds with
          | none => trivial
          | some dt =>
            obtain ⟨d, t'⟩ := dt
            simp only
            have nh : t ≠ .hole := fun z => by
              subst z
              obtain ⟨_, n, o, u', m, _⟩ := ok h2 F2 (.ref 0) .hole us ds d t' [] (.hole _) ra q3
              cases m
            obtain ⟨o', v, g1, g2, c1, c2, c3, c4, c5⟩ := x2.pt q2 nh
            rw [b1] at c1; cases c1
            rw [b2] at c2; cases c2
            obtain ⟨lf, n, ob, u', m1, m2, m3⟩ := ok h2 F2 u t us ds d t' g1 c3 ra q3
            obtain ⟨m4, m5⟩ := m3 g2 (sr2.perm c4)
            rw [m2]
            exact out_set sr2 c4 m1 (c5 lf) m5 (List.Sublist.refl _) ⟨rfl, m4⟩
      | _ => trivial) rp_nil
theorem upd_app : UpdOk cc true Q.uApp P.uApp := by
  intro h F v t us ds d t' f1 w r q
  cases t with
  | ls xs =>
    cases ds with
    | nil => cases q
    | cons d1 ds =>
      cases ds with
      | cons _ _ => cases q
      | nil =>
        have q : (if xs.length < 16000000 then some (D.non, T.ls (xs ++ [d1])) else none) = some (d, t') := q
        split at q
        case isFalse => cases q
        rename_i hz
        cases q
        obtain ⟨_, r⟩ := r
        simp only [if_true] at r
        cases r with
        | @cons u _ _ _ y r =>
          cases r
          cases w with
          | @ls n ys _ e rr =>
            refine ⟨rfl, n, .lst (ys ++ [u]), .non, List.mem_singleton.mpr rfl, ?_, fun fp sr => ?_⟩
            · rw [Q.e_app, e]; simp only; rw [if_pos (by rw [rr.len]; exact hz)]
            · have st := Stab.set sr (List.mem_append_left _ (List.mem_singleton.mpr rfl)) (O.lst (ys ++ [u]))
              exact ⟨.non, .ls (by rw [List.getElem?_set_self (List.getElem?_eq_some_iff.mp e).1]) ((rr.app (.cons y .nil)).mono st)⟩
  | _ => cases q
end
end P

set_option Elab.async false
set_option linter.all false
set_option maxRecDepth 100000
set_option maxHeartbeats 1000000
/-! PS8: what is walked, comprehensions. -/
namespace P
open Q (U O Sto Env' R RS EM TM AM SM Sem')
section
variable {cc : Nat → Nat} {h h' h1 h2 : Sto} {F F' F1 F2 : Nat → Prop} {u v : U} {d : D} {us : List U} {ds : List D} {t : T} {ts : List T} {f f1 f2 fp fp' fp1 fp2 : List Nat} {env env' : Env'} {e e' : Env} {i : Nat} {q s s1 s2 : Bool}
  {α β γ δ : Type}
/-- what is walked is frozen -/
def RI (cc : Nat → Nat) (h : Sto) (F : Nat → Prop) (a : Q.Chk × List U) (b : List D) (f : List Nat) : Prop := f = [] ∧ Dns cc h F a.2 b ∧ ∀ p ∈ a.1, F p.1 ∧ h[p.1]? = some (.lst p.2)
theorem ri_nil : ∀ (a : Q.Chk × List U) (b : List D) (h : Sto) (F : Nat → Prop) (f : List Nat), RI cc h F a b f → f = [] := fun _ _ _ _ _ x => x.1
def ChkF (h : Sto) (F : Nat → Prop) (c : Q.Chk) : Prop := ∀ p ∈ c, F p.1 ∧ h[p.1]? = some (.lst p.2)
theorem ChkF.mono {c : Q.Chk} (x : ChkF h F c) (st : Stab h F h' F') : ChkF h' F' c := fun p m => ⟨st.le _ (x p m).1, (st.eq _ (x p m).1).trans (x p m).2⟩
theorem ChkF.ok {c : Q.Chk} (x : ChkF h F c) : Q.chkOk c h := fun p m => (x p m).2
theorem rng_dns (lo : Int) (n : Nat) : Dns cc h F (Q.rng lo n) (P.rng lo n) := by
  have : ∀ l : List Nat, Dns cc h F (l.map fun i => U.int (lo + (i : Nat))) (l.map fun i => D.int (lo + (i : Nat))) := by
    intro l
    induction l with
    | nil => exact .nil
    | cons x r ih => exact .cons (.int _) ih
  exact this _
theorem sim_r1 {am : AM} {pa : PDs} (a : Sim cc q (RDs cc) am pa) : Sim cc q (RI cc) (Q.itR1 am) (iR1 pa) := fun h F env e fp x sr =>
  Out.bind0 sr (a h F env e fp x sr) (fun us ds h1 F1 e1 f2 r1 x1 sr1 st sm => by
    obtain ⟨_, r⟩ := r1
    cases q1 : gR1 ds with
    | none => trivial
    | some l =>
      unfold gR1 at q1
      split at q1
      case h_2 => cases q1
      rename_i j
      split at q1
      case isFalse => cases q1
      rename_i z
      cases q1
      cases r with
      | cons y r =>
        cases r; cases y
        simp only; rw [if_pos (by omega)]
        exact Out.ret0 ⟨rfl, rng_dns _ _, fun _ m => nomatch m⟩ x1 sr1) rds_nil
theorem sim_ie {m : EM} {p : PE} (a : Sim cc q (RD cc) m p) : Sim cc q (RI cc) (Q.itE m) (iE p) := fun h F env e fp x sr =>
  Out.bind0 sr (a h F env e fp x sr) (fun u d h1 F1 e1 f2 r1 x1 sr1 st sm => by
    obtain ⟨_, r⟩ := r1
    cases r with
    | str s =>
      refine Out.ret0 ⟨rfl, ?_, fun _ m => nomatch m⟩ x1 sr1
      have : ∀ l : List Nat, Dns cc h1 F1 (l.map fun c => U.str [c]) (l.map fun c => D.str [c]) := by
        intro l
        induction l with
        | nil => exact .nil
        | cons x r ih => exact .cons (.str _) ih
      exact this _
    | tup r => exact Out.ret0 (a := ([], _)) ⟨rfl, r, fun _ m => nomatch m⟩ x1 sr1
    | fl r => exact Out.ret0 (a := ([], _)) ⟨rfl, r, fun _ m => nomatch m⟩ x1 sr1
    | kl r => exact Out.ret0 (a := ([], _)) ⟨rfl, r, fun _ m => nomatch m⟩ x1 sr1
    | @lst n us _ fF e r =>
      show Out cc q (RI cc) h1 F1 f2 env (match Q.sL h1 (.ref n) with | some us => R.ok (Q.chkOf (.ref n) us, us) h1 | none => .bad) _
      rw [Q.e_sL_ref, e]
      exact Out.ret0 ⟨rfl, r, fun p m => by
        have : p = (n, us) := by simpa [Q.chkOf] using m
        subst this
        exact ⟨fF, e⟩⟩ x1 sr1
    | _ => trivial) rd_nil
/-! ### targets -/
/-- another frame of the same slots where the pure one has nothing -/
theorem Ev.swap : ∀ {env env' : Env'} {e : Env} {fp : List Nat}, Ev cc h F env e fp → env'.length = env.length → (∀ (i : Nat) (t : T), e[i]? = some t → t ≠ T.hole → env'[i]? = env[i]?) → Ev cc h F env' e fp
  | [], [], _, _, .nil, _, _ => .nil
  | [], _ :: _, _, _, _, l, _ => by simp at l
  | _ :: _, [], _, _, _, l, _ => by simp at l
  | o :: env, o' :: env', _, _, .cons (t := t) (f1 := f1) x r, l, k => by
    have r' := Ev.swap r (by simpa using l) fun i t q n => by simpa using k (i + 1) t (by simpa using q) n
    by_cases z : t = .hole
    · subst z
      have hf : f1 = [] := by
        cases o with
        | none => exact x.2
        | some u => cases x; rfl
      subst hf
      refine .cons ?_ r'
      cases o' with
      | none => exact ⟨rfl, rfl⟩
      | some u => exact .hole u
    · have : o' = o := by simpa using k 0 t rfl z
      subst this
      exact .cons x r'
theorem kill_get : ∀ (K : List Nat) (e : Env) (i : Nat) (t : T), (P.kill K e)[i]? = some t → t ≠ T.hole → i ∉ K ∧ e[i]? = some t
  | [], e, i, t, q, n => ⟨by simp, q⟩
  | k :: K, e, i, t, q, n => by
    obtain ⟨a, b⟩ := kill_get K (e.set k .hole) i t q n
    by_cases z : k = i
    · subst z
      have : k < e.length := by have := (List.getElem?_eq_some_iff.mp b).1; simpa using this
      rw [List.getElem?_set_self this] at b
      exact absurd (Option.some.inj b).symm n
    · rw [List.getElem?_set_ne z] at b
      exact ⟨by simp [a, Ne.symm z], b⟩
theorem Ev.kill : ∀ (K : List Nat) {e : Env} {fp : List Nat}, Ev cc h F env e fp → ∃ fp', Ev cc h F env (kill K e) fp' ∧ ∃ f1, fp.Perm (f1 ++ fp')
  | [], e, fp, x => ⟨fp, x, [], .refl _⟩
  | k :: K, e, fp, x => by
    obtain ⟨fp1, x1, f1, p1⟩ := x.hole k
    obtain ⟨fp2, x2, f2, p2⟩ := Ev.kill K x1
    exact ⟨fp2, x2, f1 ++ f2, by rw [List.append_assoc]; exact p1.trans (p2.append_left f1)⟩
theorem wipe_get : ∀ (vs : List Nat) (env : Env') (i : Nat), i ∉ vs → (Q.wipeE env vs)[i]? = env[i]?
  | [], env, i, _ => rfl
  | v :: vs, env, i, n => by
    show ((Q.wipeE env vs).set v none)[i]? = _
    rw [List.getElem?_set_ne (fun z => n (by simp [z])), wipe_get vs env i (fun z => n (List.mem_cons_of_mem _ z))]
theorem wipe_len : ∀ (vs : List Nat) (env : Env'), (Q.wipeE env vs).length = env.length
  | [], env => rfl
  | v :: vs, env => by show ((Q.wipeE env vs).set v none).length = _; rw [List.length_set, wipe_len vs env]
/-- frames alike but at the slots that are killed -/
theorem Ev.swapK {vs : List Nat} (x : Ev cc h F env (P.kill vs e) fp) (l : env'.length = env.length) (k : ∀ i, i ∉ vs → env'[i]? = env[i]?) : Ev cc h F env' (P.kill vs e) fp :=
  x.swap l fun i t q n => k i (kill_get vs e i t q n).1
theorem setA_get {α : Type} : ∀ {env : List (Option α)} {is : List Nat} {us : List α} {i : Nat}, i ∉ is → (Q.setA env is us)[i]? = env[i]?
  | env, [], us, i, _ => by unfold Q.setA; rfl
  | env, j :: is, [], i, _ => by unfold Q.setA; rfl
  | env, j :: is, u :: us, i, n => by
    unfold Q.setA
    rw [setA_get (fun z => n (List.mem_cons_of_mem _ z)), List.getElem?_set_ne (fun z => n (by simp [z]))]
theorem setA_len {α : Type} : ∀ {env : List (Option α)} {is : List Nat} {us : List α}, (Q.setA env is us).length = env.length
  | env, [], us => by unfold Q.setA; rfl
  | env, j :: is, [] => by unfold Q.setA; rfl
  | env, j :: is, u :: us => by unfold Q.setA; rw [setA_len]; simp
def ctQ : CT → Q.CT
  | .one i => .one i
  | .tup is => .tup is
  | .lst is => .lst is
  | .nst i is => .nst i is
  | .nsl is i => .nsl is i
theorem Ev.setA : ∀ {is : List Nat} {us : List U} {ds : List D} {env : Env'} {e : Env} {fp : List Nat}, Ev cc h F env e fp → Dns cc h F us ds → us.length = is.length → ∃ fp', Ev cc h F (Q.setA env is us) (P.setA e is ds) fp' ∧ ∃ f1, fp.Perm (f1 ++ fp')
  | [], _, _, env, e, fp, x, _, _ => by unfold Q.setA P.setA; exact ⟨fp, x, [], .refl _⟩
  | i :: is, _, _, env, e, fp, x, .nil, l => by simp at l
  | i :: is, _, _, env, e, fp, x, .cons (u := u) y r, l => by
    unfold Q.setA P.setA
    obtain ⟨fp1, x1, f1, p1⟩ := x.putD i y
    obtain ⟨fp3, x3, f3, p3⟩ := Ev.setA x1 r (by simpa using l)
    refine ⟨fp3, x3, f1 ++ f3, ?_⟩
    rw [List.append_assoc]
    exact p1.trans (p3.append_left f1)
/-- a target takes data -/
theorem ct_asg {c : CT} {e1 : Env} (x : Ev cc h F env e fp) (y : Dn cc h F u d) (q1 : c.asg d e = some e1) : ∃ env1, (ctQ c).asg u env h = some env1 ∧ env1.length = env.length ∧ (∀ i, i ∉ c.ix → env1[i]? = env[i]?) ∧ ∃ fp', Ev cc h F env1 e1 fp' ∧ ∃ f1, fp.Perm (f1 ++ fp') := by
  cases c with
  | one i =>
    have q1 : some (e.set i (.leaf d)) = some e1 := by cases d <;> exact q1
    cases q1
    obtain ⟨fp1, x1, f1, p1⟩ := x.putD i y
    exact ⟨env.set i (some u), rfl, by simp, fun j n => List.getElem?_set_ne (fun z => n (by simp [CT.ix, z])), fp1, x1, f1, p1⟩
  | tup is =>
    cases y with
    | @tup us ds r =>
      have q1 : (if ds.length = is.length then some (P.setA e is ds) else none) = some e1 := q1
      split at q1
      case isFalse => cases q1
      rename_i hl
      cases q1
      obtain ⟨fp1, x1, f1, p1⟩ := x.setA r (by rw [r.len]; exact hl)
      refine ⟨Q.setA env is us, ?_, setA_len, fun j n => setA_get n, fp1, x1, f1, p1⟩
      show (if us.length = is.length then some (Q.setA env is us) else none) = _
      rw [if_pos (by rw [r.len]; exact hl)]
    | _ => cases q1
  | lst is =>
    cases d with
    | lst ds =>
      obtain ⟨us, a1, r⟩ := y.tp
      have q1 : (if ds.length = is.length then some (P.setA e is ds) else none) = some e1 := q1
      split at q1
      case isFalse => cases q1
      rename_i hl
      cases q1
      obtain ⟨fp1, x1, f1, p1⟩ := x.setA r (by rw [r.len]; exact hl)
      refine ⟨Q.setA env is us, ?_, setA_len, fun j n => setA_get n, fp1, x1, f1, p1⟩
      show (match Q.mL h u with | some us => if us.length = is.length then some (Q.setA env is us) else none | none => none) = _
      rw [a1]
      simp only
      rw [if_pos (by rw [r.len]; exact hl)]
    | _ => cases q1
  | nst i is =>
    unfold CT.asg at q1
    split at q1 <;> try (cases q1; done)
    all_goals try contradiction
    rename_i i' is' xd ds hq
    cases hq
    split at q1
    case isFalse => cases q1
    rename_i hl
    cases q1
    cases y with
    | tup r =>
    cases r with
    | cons ya yr =>
    cases yr with
    | cons yb yr2 =>
    cases yr2
    cases yb with
    | @tup us _ r =>
    obtain ⟨fp1, x1, f1, p1⟩ := x.putD i ya
    obtain ⟨fp2, x2, f2, p2⟩ := x1.setA r (by rw [r.len]; exact hl)
    refine ⟨Q.setA (env.set i (some _)) is us, ?_, by rw [setA_len]; simp, fun j n => ?_, fp2, x2, f1 ++ f2, ?_⟩
    · show (if us.length = is.length then some (Q.setA (env.set i (some _)) is us) else none) = _
      rw [if_pos (by rw [r.len]; exact hl)]
    · rw [setA_get (fun z => n (List.mem_cons_of_mem _ z)), List.getElem?_set_ne (fun z => n (by simp [CT.ix, z]))]
    · rw [List.append_assoc]; exact p1.trans (p2.append_left f1)
  | nsl is i =>
    unfold CT.asg at q1
    split at q1 <;> try (cases q1; done)
    all_goals try contradiction
    rename_i is' i' ds xd hq
    cases hq
    split at q1
    case isFalse => cases q1
    rename_i hl
    cases q1
    cases y with
    | tup r =>
    cases r with
    | cons ya yr =>
    cases yr with
    | cons yb yr2 =>
    cases yr2
    cases ya with
    | @tup us _ r =>
    obtain ⟨fp1, x1, f1, p1⟩ := x.setA r (by rw [r.len]; exact hl)
    obtain ⟨fp2, x2, f2, p2⟩ := x1.putD i yb
    refine ⟨(Q.setA env is us).set i (some _), ?_, by simp [setA_len], fun j n => ?_, fp2, x2, f1 ++ f2, ?_⟩
    · show (if us.length = is.length then some ((Q.setA env is us).set i (some _)) else none) = _
      rw [if_pos (by rw [r.len]; exact hl)]
    · rw [List.getElem?_set_ne (fun z => n (by simp [CT.ix, z])), setA_get (fun z => n (List.mem_cons_of_mem _ z))]
    · rw [List.append_assoc]; exact p1.trans (p2.append_left f1)
/-! ### comprehensions -/
theorem lc_go {c : CT} {t : TM} {me : EM} {pt : PB} {pe : PE} {vs : List Nat} {n : Nat} {env0 : Env'} (ht : Sim cc q RE t pt) (he : Sim cc q (RD cc) me pe) (hc : ∀ i ∈ c.ix, i ∈ vs) :
    ∀ {us : List U} {ds : List D} {accU : List U} {accD : List D} {ck : Q.Chk} {h : Sto} {F : Nat → Prop} {e : Env} {fp : List Nat}, Dns cc h F us ds → ChkF h F ck → h[n]? = some (.lst accU) → Dns cc h F accU accD → Ev cc h F env0 (kill vs e) fp → SR h F (n :: fp) →
      match lcL c pt pe vs ds accD e with
      | .ok r e' => ∃ h' F' f2 accU', Q.lcL ck (ctQ c) t me n env0 us h = .ok (.ref n) h' ∧ h'[n]? = some (.lst accU') ∧ Dns cc h' F' accU' r ∧ Ev cc h' F' env0 (kill vs e') f2 ∧ Fr h F (n :: fp) h' F' (n :: f2) ∧ (q = true → ∀ k, k < h.length → k ≠ n → h'[k]? = h[k]?)
      | .exc _ _ _ => False
      | .bad => True
  | _, _, accU, accD, ck, h, F, e, fp, .nil, k, hn, ra, x, sr => by
    unfold lcL Q.lcL
    rw [if_pos k.ok]
    exact ⟨h, F, fp, accU, rfl, hn, ra, x, Fr.refl sr, fun _ _ _ _ => rfl⟩
  | _, _, accU, accD, ck, h, F, e, fp, .cons (us := us) (ds := ds) (u := u) (d := d) y r, k, hn, ra, x, sr => by
    unfold lcL
    cases q1 : c.asg d (kill vs e) with
    | none => trivial
    | some e1 =>
      obtain ⟨env1, a1, al, a2, fp1, x1, g1, p1⟩ := ct_asg x y q1
      have sr1 : SR h F (n :: fp1) := (sr.perm (p1.cons n)).sub ((List.sublist_append_right g1 fp1).cons₂ n)
      have srs : SR h F ([n] ++ fp1) := sr1
      have tt := ht h F env1 e1 fp1 x1 srs.right
      unfold Q.lcL
      rw [if_pos k.ok, a1]
      simp only
      cases q2 : pt e1 with
      | bad => trivial
      | exc C z e' => trivial
      | ok b e2 =>
        rw [q2] at tt
        obtain ⟨b', h2, F2, f3, f4, b1, ⟨rfl, rfl⟩, x2, fr2, sm2⟩ := tt
        rw [b1]
        have fr2' : Fr h F ([n] ++ fp1) h2 F2 ([n] ++ f4) := fr2.hold srs
        have keep2 : h2[n]? = h[n]? := fr2.kept srs n (List.mem_singleton.mpr rfl)
        have st2 := fr2'.stab srs
        show match (if b' = true then (pe e2).no.bind fun y e3 => if accD.length < 16000000 then lcL c pt pe vs ds (accD ++ [y]) e3 else .bad else lcL c pt pe vs ds accD e2) with
          | .ok r e' => ∃ h' F' f2 accU', (if b' = true then (me env1 h2).no.bind fun y h2 => (match h2[n]? with
              | some (.lst acc) => if acc.length < 16000000 then Q.lcL ck (ctQ c) t me n env0 us (h2.set n (.lst (acc ++ [y]))) else .bad
              | _ => .bad) else Q.lcL ck (ctQ c) t me n env0 us h2) = .ok (.ref n) h' ∧ h'[n]? = some (.lst accU') ∧ Dns cc h' F' accU' r ∧ Ev cc h' F' env0 (kill vs e') f2 ∧ Fr h F (n :: fp) h' F' (n :: f2) ∧ (q = true → ∀ k, k < h.length → k ≠ n → h'[k]? = h[k]?)
          | .exc _ _ _ => False
          | .bad => True
        have fr0 : Fr h F (n :: fp) h2 F2 (n :: f4) := by
          have z : Fr h F (n :: fp) h F (n :: fp1) := (Fr.refl sr).perm (p1.cons n) |>.sub ((List.sublist_append_right g1 fp1).cons₂ n)
          exact z.trans fr2'
        have x2' : ∀ {h3 F3 e3 f5}, Ev cc h3 F3 env1 e3 f5 → ∃ f6, Ev cc h3 F3 env0 (kill vs e3) f6 ∧ ∃ f7, f5.Perm (f7 ++ f6) := fun {h3 F3 e3 f5} x => by
          obtain ⟨f6, y6, f7, p7⟩ := x.kill vs
          exact ⟨f6, y6.swapK al.symm (fun i n => (a2 i (fun z => n (hc i z))).symm), f7, p7⟩
        cases b' with
        | false =>
          rw [if_neg (by decide)]
          obtain ⟨f6, y6, f7, p7⟩ := x2' x2
          have srn : SR h2 F2 (n :: f6) := (fr2'.sr.perm (p7.cons n)).sub ((List.sublist_append_right f7 f6).cons₂ n)
          have ih := lc_go (accU := accU) (accD := accD) (ck := ck) (e := e2) ht he hc (r.mono st2) (k.mono st2) (keep2.trans hn) (ra.mono st2) y6 srn
          cases q3 : lcL c pt pe vs ds accD e2 with
          | bad => trivial
          | exc C z e' => rw [q3] at ih; exact ih.elim
          | ok rr e' =>
            rw [q3] at ih
            obtain ⟨h', F', g2, accU', c1, c2, c3, c4, c5, c6⟩ := ih
            rw [if_neg (by decide)]
            refine ⟨h', F', g2, accU', c1, c2, c3, c4, (fr0.perm (p7.cons n) |>.sub ((List.sublist_append_right f7 f6).cons₂ n)).trans c5, fun z k1 l1 n1 => ?_⟩
            rw [c6 z k1 (Nat.lt_of_lt_of_le l1 fr2.len) n1, sm2 z k1 l1]
        | true =>
          rw [if_pos rfl]
          have ee := he h2 F2 env1 e2 f4 x2 fr2'.sr.right
          cases q3 : pe e2 with
          | bad => trivial
          | exc C z e' => trivial
          | ok yv e3 =>
            rw [q3] at ee
            obtain ⟨uv, h3, F3, f5, f8, d1, ⟨rfl, d2⟩, x3, fr3, sm3⟩ := ee
            have fr3' : Fr h2 F2 ([n] ++ f4) h3 F3 ([n] ++ f8) := fr3.hold fr2'.sr
            have keep3 : h3[n]? = h2[n]? := fr3.kept fr2'.sr n (List.mem_singleton.mpr rfl)
            have st3 := fr3'.stab fr2'.sr
            have hn3 : h3[n]? = some (.lst accU) := (keep3.trans keep2).trans hn
            show match (if accD.length < 16000000 then lcL c pt pe vs ds (accD ++ [yv]) e3 else .bad) with
              | .ok r e' => _
              | .exc _ _ _ => False
              | .bad => True
            by_cases hz : accD.length < 16000000
            case neg => rw [if_neg hz]; trivial
            rw [if_pos hz]
            have hl : n < h3.length := (List.getElem?_eq_some_iff.mp hn3).1
            have sr3 : SR h3 F3 ([n] ++ f8) := fr3'.sr
            have frs : Fr h3 F3 ([n] ++ f8) (h3.set n (.lst (accU ++ [uv]))) F3 ([n] ++ f8) := Fr.set sr3 (List.mem_append_left _ (List.mem_singleton.mpr rfl)) _
            have sts := frs.stab sr3
            obtain ⟨f6, y6, f7, p7⟩ := x2' (x3.mono sts (Keep.set _ (fun m => (List.nodup_append.mp sr3.nd).2.2 n (List.mem_singleton.mpr rfl) n m rfl)))
            have srn : SR (h3.set n (.lst (accU ++ [uv]))) F3 (n :: f6) := (frs.sr.perm (p7.cons n)).sub ((List.sublist_append_right f7 f6).cons₂ n)
            have sta := (st2.trans st3).trans sts
            have ih := lc_go (accU := accU ++ [uv]) (accD := accD ++ [yv]) (ck := ck) (e := e3) ht he hc (r.mono sta) (k.mono sta) (List.getElem?_set_self hl) ((ra.mono sta).app (.cons (d2.mono sts) .nil)) y6 srn
            cases q4 : lcL c pt pe vs ds (accD ++ [yv]) e3 with
            | bad => trivial
            | exc C z e' => rw [q4] at ih; exact ih.elim
            | ok rr e' =>
              rw [q4] at ih
              obtain ⟨h', F', g2, accU', c1, c2, c3, c4, c5, c6⟩ := ih
              refine ⟨h', F', g2, accU', ?_, c2, c3, c4, (((fr0.trans fr3').trans frs).perm (p7.cons n) |>.sub ((List.sublist_append_right f7 f6).cons₂ n)).trans c5, fun z k1 l1 n1 => ?_⟩
              · rw [if_pos rfl, d1]
                show (match h3[n]? with
                  | some (.lst acc) => if acc.length < 16000000 then Q.lcL ck (ctQ c) t me n env0 us (h3.set n (.lst (acc ++ [uv]))) else .bad
                  | _ => .bad) = _
                rw [hn3]
                simp only
                rw [if_pos (by rw [ra.len]; exact hz)]
                exact c1
              · have l2 : k1 < h2.length := Nat.lt_of_lt_of_le l1 fr2.len
                have l3 : k1 < h3.length := Nat.lt_of_lt_of_le l2 fr3.len
                rw [c6 z k1 (by simpa using l3) n1, List.getElem?_set_ne (Ne.symm n1), sm3 z k1 l2, sm2 z k1 l1]
end
end P

set_option Elab.async false
set_option linter.all false
set_option maxRecDepth 100000
set_option maxHeartbeats 1000000
/-! PS9: comprehensions, statements. -/
namespace P
open Q (U O Sto Env' R RS EM TM AM SM Sem')
section
variable {cc : Nat → Nat} {h h' h1 h2 : Sto} {F F' F1 F2 : Nat → Prop} {u v : U} {d : D} {us : List U} {ds : List D} {t : T} {ts : List T} {f f1 f2 fp fp' fp1 fp2 : List Nat} {env env' : Env'} {e e' : Env} {i : Nat} {q s s1 s2 : Bool}
  {α β γ δ : Type}
/-- slots of a def: N of them -/
def SimN (cc : Nat → Nat) {α β : Type} (N : Nat) (q : Bool) (Rel : Sto → (Nat → Prop) → α → β → List Nat → Prop) (m : Env' → Sto → R α) (p : Env → PR β) : Prop :=
  ∀ h F env e fp, env.length = N → Ev cc h F env e fp → SR h F fp → Out cc q Rel h F fp env (m env h) (p e)
theorem Sim.n {Rel : Sto → (Nat → Prop) → α → β → List Nat → Prop} {m : Env' → Sto → R α} {p : Env → PR β} {N : Nat} (a : Sim cc q Rel m p) : SimN cc N q Rel m p := fun h F env e fp _ x sr => a h F env e fp x sr
theorem sim_lc {mi : Q.IM'} {pi : PDs} {c : CT} {t : TM} {me : EM} {pt : PB} {pe : PE} {vs : List Nat} (hi : Sim cc q (RI cc) mi pi) (ht : Sim cc q RE t pt) (he : Sim cc q (RD cc) me pe) (hc : ∀ i ∈ c.ix, i ∈ vs) : Sim cc q (RT cc) (Q.mLc mi (ctQ c) t me vs) (pLc pi c pt pe vs) := fun h F env e fp x sr =>
  Out.bind0 sr (hi h F env e fp x sr) (fun z ds h1 F1 e1 f2 r1 x1 sr1 st sm => by
    obtain ⟨ck, us⟩ := z
    obtain ⟨_, r, kf⟩ := r1
    show Out cc q (RT cc) h1 F1 f2 env (Q.lcL ck (ctQ c) t me h1.length (Q.wipeE env vs) us (h1 ++ [.lst []])) ((lcL c pt pe vs ds [] e1).bind fun r e2 => .ok (.ls r) (kill vs e2))
    have sta := Stab.app sr1 [O.lst []]
    obtain ⟨f6, y6, f7, p7⟩ := (x1.mono sta (Keep.app sr1 _)).kill vs
    have y7 := y6.swapK (wipe_len vs env) (fun i n => wipe_get vs env i n)
    have fra := Fr.app sr1 (O.lst [])
    have frs : Fr h1 F1 f2 (h1 ++ [.lst []]) F1 (h1.length :: f6) := (fra.perm (p7.cons _)).sub ((List.sublist_append_right f7 f6).cons₂ _)
    have go := lc_go (c := c) (vs := vs) (n := h1.length) (env0 := Q.wipeE env vs) (accU := []) (accD := []) (e := e1) (q := q) ht he hc (r.mono sta) (ChkF.mono kf sta) (by rw [List.getElem?_append_right (Nat.le_refl _), Nat.sub_self]; rfl) .nil y7 frs.sr
    cases q1 : lcL c pt pe vs ds [] e1 with
    | bad => trivial
    | exc C z e' => rw [q1] at go; exact go.elim
    | ok rr e' =>
      rw [q1] at go
      obtain ⟨h', F', g2, accU', c1, c2, c3, c4, c5, c6⟩ := go
      refine ⟨_, h', F', [h1.length], g2, c1, .ls c2 c3, c4.swapK (wipe_len vs env).symm (fun i n => (wipe_get vs env i n).symm), frs.trans c5, fun z k l => ?_⟩
      rw [c6 z k (by simp; omega) (by omega), List.getElem?_append_left l]) ri_nil
theorem Ows.app : ∀ {us : List U} {ts : List T} {vs : List U} {rs : List T} {f1 f2 : List Nat}, Ows cc h F us ts f1 → Ows cc h F vs rs f2 → Ows cc h F (us ++ vs) (ts ++ rs) (f1 ++ f2)
  | _, _, _, _, _, _, .nil, y => y
  | _, _, _, _, _, f2, .cons (f1 := g1) (f2 := g2) x r, y => by rw [List.append_assoc]; exact .cons x (Ows.app r y)
theorem Ow.one {f : List Nat} (x : Ow cc h F u t f) : Ows cc h F [u] [t] f := by
  have := Ows.cons x (.nil (cc := cc) (h := h) (F := F))
  rwa [List.append_nil] at this
/-! ### statements -/
/-- the slots that the mask keeps hold what they held -/
def Kp (m : List Bool) (env env' : Env') : Prop := pick m env' = pick m env
def OutS (cc : Nat → Nat) (m : List Bool) (h : Sto) (F : Nat → Prop) (fp : List Nat) (env : Env') (r : RS) (s : PRS) : Prop := match s with
  | .nx e' => ∃ env' h' F' f2, r = .nx env' h' ∧ Ev cc h' F' env' e' f2 ∧ Fr h F fp h' F' f2 ∧ Kp m env env'
  | .bk e' => ∃ env' h' F' f2, r = .bk env' h' ∧ Ev cc h' F' env' e' f2 ∧ Fr h F fp h' F' f2 ∧ Kp m env env'
  | .ct e' => ∃ env' h' F' f2, r = .ct env' h' ∧ Ev cc h' F' env' e' f2 ∧ Fr h F fp h' F' f2 ∧ Kp m env env'
  | .rt t e' => ∃ u env' h' F' f1 f2, r = .rt u h' ∧ Ow cc h' F' u t f1 ∧ Ev cc h' F' env' e' f2 ∧ Fr h F fp h' F' (f1 ++ f2) ∧ Kp m env env'
  | .ex C x e' => ∃ n env' h' F' f2, r = .ex (cc C) n env' h' ∧ Ev cc h' F' env' e' f2 ∧ Fr h F fp h' F' f2 ∧ Xd cc h' F' n x ∧ Kp m env env'
  | .bad => True
def SimS (cc : Nat → Nat) (m : List Bool) (ms : SM) (p : PS) : Prop := ∀ h F env e fp, Ev cc h F env e fp → SR h F fp → OutS cc m h F fp env (ms env h) (p e)
theorem OutS.trans {mk : List Bool} {r : RS} {s : PRS} (fr : Fr h F fp h1 F1 fp1) (k : Kp mk env env') (o : OutS cc mk h1 F1 fp1 env' r s) : OutS cc mk h F fp env r s := by
  cases s with
  | nx e' => obtain ⟨env2, h', F', f2, a, b, c, d⟩ := o; exact ⟨env2, h', F', f2, a, b, fr.trans c, d.trans k⟩
  | bk e' => obtain ⟨env2, h', F', f2, a, b, c, d⟩ := o; exact ⟨env2, h', F', f2, a, b, fr.trans c, d.trans k⟩
  | ct e' => obtain ⟨env2, h', F', f2, a, b, c, d⟩ := o; exact ⟨env2, h', F', f2, a, b, fr.trans c, d.trans k⟩
  | rt t e' => obtain ⟨u, env2, h', F', f1, f2, a, b, c, d, e⟩ := o; exact ⟨u, env2, h', F', f1, f2, a, b, c, fr.trans d, e.trans k⟩
  | ex C x e' => obtain ⟨n, env2, h', F', f2, a, b, c, d, e⟩ := o; exact ⟨n, env2, h', F', f2, a, b, fr.trans c, d, e.trans k⟩
  | bad => trivial
theorem Kp.refl {m : List Bool} (env : Env') : Kp m env env := rfl
theorem OutS.st {mk : List Bool} {R1 : Sto → (Nat → Prop) → α → β → List Nat → Prop} {r : R α} {s : PR β} {g : α → Sto → RS} {p : β → Env → PRS} (o : Out cc q R1 h F fp env r s)
    (k : ∀ a b h1 F1 e1 f1 f2, R1 h1 F1 a b f1 → Ev cc h1 F1 env e1 f2 → Fr h F fp h1 F1 (f1 ++ f2) → (q = true → Sm h h1) → OutS cc mk h1 F1 (f1 ++ f2) env (g a h1) (p b e1)) : OutS cc mk h F fp env (Q.R.st r env g) (s.st p) := by
  cases s with
  | bad => trivial
  | exc C x e' =>
    obtain ⟨n, h', F', f2, e1, a, b, c⟩ := o
    exact ⟨n, env, h', F', f2, by rw [e1]; rfl, a, b, c, Kp.refl env⟩
  | ok b e' =>
    obtain ⟨a, h1, F1, f1, f2, e1, r1, x1, fr, sm⟩ := o
    rw [e1]
    exact OutS.trans fr (Kp.refl env) (k a b h1 F1 e' f1 f2 r1 x1 fr sm)
theorem OutS.st0 {mk : List Bool} {R1 : Sto → (Nat → Prop) → α → β → List Nat → Prop} {r : R α} {s : PR β} {g : α → Sto → RS} {p : β → Env → PRS} (sr : SR h F fp) (o : Out cc q R1 h F fp env r s)
    (k : ∀ a b h1 F1 e1 f2, R1 h1 F1 a b [] → Ev cc h1 F1 env e1 f2 → SR h1 F1 f2 → Stab h F h1 F1 → (q = true → Sm h h1) → OutS cc mk h1 F1 f2 env (g a h1) (p b e1)) (n : ∀ a b h F f, R1 h F a b f → f = []) : OutS cc mk h F fp env (Q.R.st r env g) (s.st p) :=
  OutS.st o fun a b h1 F1 e1 f1 f2 r1 x1 fr sm => by
    have := n _ _ _ _ _ r1
    subst this
    exact k a b h1 F1 e1 f2 r1 x1 fr.sr (fr.stab sr) sm
variable {mk : List Bool}
theorem ss_nx : SimS cc mk Q.mNx sNx := fun h F env e fp x sr => ⟨env, h, F, fp, rfl, x, Fr.refl sr, Kp.refl env⟩
theorem ss_seq {m1 m2 : SM} {p1 p2 : PS} (a : SimS cc mk m1 p1) (b : SimS cc mk m2 p2) : SimS cc mk (Q.mSeq m1 m2) (sSeq p1 p2) := fun h F env e fp x sr => by
  have := a h F env e fp x sr
  unfold Q.mSeq sSeq
  cases q1 : p1 e with
  | nx e1 =>
    rw [q1] at this
    obtain ⟨env', h', F', f2, a1, a2, a3, a4⟩ := this
    rw [a1]
    exact OutS.trans a3 a4 (b h' F' env' e1 f2 a2 a3.sr)
  | rt t e1 => rw [q1] at this; obtain ⟨u, env2, h', F', f1, f2, a, r⟩ := this; rw [a]; exact ⟨u, env2, h', F', f1, f2, rfl, r⟩
  | bk e1 => rw [q1] at this; obtain ⟨env2, h', F', f2, a, r⟩ := this; rw [a]; exact ⟨env2, h', F', f2, rfl, r⟩
  | ct e1 => rw [q1] at this; obtain ⟨env2, h', F', f2, a, r⟩ := this; rw [a]; exact ⟨env2, h', F', f2, rfl, r⟩
  | ex C y e1 => rw [q1] at this; obtain ⟨n, env2, h', F', f2, a, r⟩ := this; rw [a]; exact ⟨n, env2, h', F', f2, rfl, r⟩
  | bad => trivial
theorem pick_set {α : Type} : ∀ {m : List Bool} {i : Nat} {l : List α} {x : α}, m.getD i false = false → pick m (l.set i x) = pick m l
  | [], i, l, x, _ => by simp [pick]
  | b :: m, i, [], x, _ => by simp
  | b :: m, 0, a :: l, x, q => by simp at q; subst q; simp [pick]
  | b :: m, i + 1, a :: l, x, q => by
    have := pick_set (m := m) (i := i) (l := l) (x := x) (by simpa using q)
    cases b <;> simp [pick, this]
theorem Kp.set {i : Nat} {o : Option U} (z : mk.getD i false = false) : Kp mk env (env.set i o) := pick_set z
theorem ss_asg {i : Nat} {m : EM} {p : PT} (a : Sim cc q (RT cc) m p) (z : mk.getD i false = false := by rfl) : SimS cc mk (Q.mAsg (.one i) m) (sAsg i p) := fun h F env e fp x sr =>
  OutS.st (a h F env e fp x sr) fun u t h1 F1 e1 f1 f2 r1 x1 fr sm => by
    obtain ⟨fp', ev, g, g1, g2, p1, p2, sub⟩ := x1.put i (some u) (show Os cc h1 F1 (some u) t f1 from r1)
    refine ⟨env.set i (some u), h1, F1, fp', rfl, ev, ?_, Kp.set z⟩
    have pp : (f1 ++ f2).Perm (g1 ++ (f1 ++ g2)) := (p1.append_left f1).trans perm_mid
    exact (((Fr.refl fr.sr).perm pp).sub ((sub.append_right g2).trans (List.sublist_append_right g1 _))).perm p2.symm
theorem ss_ret {m : EM} {p : PT} (a : Sim cc q (RT cc) m p) : SimS cc mk (Q.mRet m) (sRet p) := fun h F env e fp x sr =>
  OutS.st (a h F env e fp x sr) fun u t h1 F1 e1 f1 f2 r1 x1 fr sm => ⟨u, env, h1, F1, f1, f2, rfl, r1, x1, Fr.refl fr.sr, Kp.refl env⟩
theorem ss_drop {m : EM} {p : PT} (a : Sim cc q (RT cc) m p) : SimS cc mk (Q.mDrop m) (sDrop p) := fun h F env e fp x sr =>
  OutS.st (a h F env e fp x sr) fun u t h1 F1 e1 f1 f2 r1 x1 fr sm => ⟨env, h1, F1, f2, rfl, x1, (Fr.refl fr.sr).sub (List.sublist_append_right _ _), Kp.refl env⟩
theorem ss_if {t : TM} {pt : PB} {m1 m2 : SM} {p1 p2 : PS} (c : Sim cc q RE t pt) (a : SimS cc mk m1 p1) (b : SimS cc mk m2 p2) : SimS cc mk (Q.mIfS t m1 m2) (sIf pt p1 p2) := fun h F env e fp x sr =>
  OutS.st0 sr (c h F env e fp x sr) (fun u d h1 F1 e1 f2 r1 x1 sr1 st sm => by
    obtain ⟨_, rfl⟩ := r1
    cases u with
    | true => exact a _ _ _ _ _ x1 sr1
    | false => exact b _ _ _ _ _ x1 sr1) re_nil
end
end P

set_option Elab.async false
set_option linter.all false
set_option maxRecDepth 100000
set_option maxHeartbeats 1000000
/-! PS10: loops, stores, exceptions. -/
namespace P
open Q (U O Sto Env' R RS EM TM AM SM Sem')
section
variable {cc : Nat → Nat} {h h' h1 h2 : Sto} {F F' F1 F2 : Nat → Prop} {u v : U} {d : D} {us : List U} {ds : List D} {t : T} {ts : List T} {f f1 f2 fp fp' fp1 fp2 : List Nat} {env env' : Env'} {e e' : Env} {i : Nat} {q s s1 s2 : Bool}
  {α β γ δ : Type} {mk : List Bool}
theorem kp_off {m : List Bool} : ∀ {l l' : Env'}, l'.length = l.length → (∀ i, m.getD i false = true → l'[i]? = l[i]?) → pick m l' = pick m l := by
  induction m with
  | nil => intro l l' _ _; simp [pick]
  | cons b m ih =>
    intro l l' hl k
    cases l with
    | nil => have : l' = [] := List.length_eq_zero_iff.mp (by simpa using hl); subst this; rfl
    | cons x l =>
      cases l' with
      | nil => simp at hl
      | cons x' l' =>
        have := ih (l := l) (l' := l') (by simpa using hl) fun i q => by simpa using k (i + 1) (by simpa using q)
        cases b with
        | false => simpa [pick] using this
        | true =>
          have h0 : x' = x := by simpa using k 0 rfl
          subst h0
          simp [pick, this]
theorem kp_asg {c : CT} {env1 : Env'} (z : (c.ix.all fun i => !mk.getD i false) = true) (al : env1.length = env.length) (a2 : ∀ i, i ∉ c.ix → env1[i]? = env[i]?) : Kp mk env env1 :=
  kp_off al fun i q => a2 i fun m => by
    have := List.all_eq_true.mp z i m
    rw [q] at this
    cases this
theorem for_go {c : CT} {mb : SM} {pb : PS} {K : List Nat} {ck : Q.Chk} (hb : SimS cc mk mb pb) (z : (c.ix.all fun i => !mk.getD i false) = true) :
    ∀ {us : List U} {ds : List D} {h : Sto} {F : Nat → Prop} {env : Env'} {e : Env} {fp : List Nat}, Dns cc h F us ds → ChkF h F ck → Ev cc h F env e fp → SR h F fp → OutS cc mk h F fp env (Q.forL ck (ctQ c) mb us env h) (forL K c pb ds e)
  | _, _, h, F, env, e, fp, .nil, k, x, sr => by
    unfold Q.forL forL
    rw [if_pos k.ok]
    obtain ⟨fp1, x1, f1, p1⟩ := x.kill K
    exact ⟨env, h, F, fp1, rfl, x1, ((Fr.refl sr).perm p1).sub (List.sublist_append_right _ _), Kp.refl env⟩
  | _, _, h, F, env, e, fp, .cons (us := us) (ds := ds) (u := u) (d := d) y r, k, x, sr => by
    obtain ⟨fp1, x1, f1, p1⟩ := x.kill K
    have fr1 : Fr h F fp h F fp1 := ((Fr.refl sr).perm p1).sub (List.sublist_append_right _ _)
    unfold forL
    cases q1 : c.asg d (kill K e) with
    | none => trivial
    | some e1 =>
      obtain ⟨env1, a1, al, a2, fp2, x2, g1, p2⟩ := ct_asg x1 y q1
      have fr2 : Fr h F fp h F fp2 := (fr1.perm p2).sub (List.sublist_append_right _ _)
      have kp := kp_asg (mk := mk) z al a2
      unfold Q.forL
      rw [if_pos k.ok, a1]
      simp only
      have bb := hb h F env1 e1 fp2 x2 fr2.sr
      cases q2 : pb e1 with
      | bad => trivial
      | nx e2 =>
        rw [q2] at bb
        obtain ⟨env2, h2, F2, f2, b1, b2, b3, b4⟩ := bb
        rw [b1]
        exact OutS.trans (fr2.trans b3) (b4.trans kp) (for_go hb z (r.mono (b3.stab fr2.sr)) (k.mono (b3.stab fr2.sr)) b2 b3.sr)
      | ct e2 =>
        rw [q2] at bb
        obtain ⟨env2, h2, F2, f2, b1, b2, b3, b4⟩ := bb
        rw [b1]
        exact OutS.trans (fr2.trans b3) (b4.trans kp) (for_go hb z (r.mono (b3.stab fr2.sr)) (k.mono (b3.stab fr2.sr)) b2 b3.sr)
      | bk e2 =>
        rw [q2] at bb
        obtain ⟨env2, h2, F2, f2, b1, b2, b3, b4⟩ := bb
        rw [b1]
        obtain ⟨fp3, x3, f3, p3⟩ := b2.kill K
        exact ⟨env2, h2, F2, fp3, rfl, x3, ((fr2.trans b3).perm p3).sub (List.sublist_append_right _ _), b4.trans kp⟩
      | rt t e2 =>
        rw [q2] at bb
        obtain ⟨u, env2, h2, F2, f1, f2, b1, b2, b3, b4, b5⟩ := bb
        rw [b1]
        exact ⟨u, env2, h2, F2, f1, f2, rfl, b2, b3, fr2.trans b4, b5.trans kp⟩
      | ex C y e2 =>
        rw [q2] at bb
        obtain ⟨n, env2, h2, F2, f2, b1, b2, b3, b4, b5⟩ := bb
        rw [b1]
        exact ⟨n, env2, h2, F2, f2, rfl, b2, fr2.trans b3, b4, b5.trans kp⟩
theorem ss_for {K : List Nat} {c : CT} {mi : Q.IM'} {pi : PDs} {mb : SM} {pb : PS} (hi : Sim cc q (RI cc) mi pi) (hb : SimS cc mk mb pb) (z : (c.ix.all fun i => !mk.getD i false) = true := by rfl) : SimS cc mk (Q.mFor mi (ctQ c) mb) (sFor K pi c pb) := fun h F env e fp x sr =>
  OutS.st0 sr (hi h F env e fp x sr) (fun a ds h1 F1 e1 f2 r1 x1 sr1 st sm => for_go hb z r1.2.1 r1.2.2 x1 sr1) ri_nil
theorem wh_go {K : List Nat} {t : TM} {pt : PB} {mb : SM} {pb : PS} (ht : Sim cc q RE t pt) (hb : SimS cc mk mb pb) : ∀ (n : Nat) {h : Sto} {F : Nat → Prop} {env : Env'} {e : Env} {fp : List Nat}, Ev cc h F env e fp → SR h F fp → OutS cc mk h F fp env (Q.whL t mb n env h) (whL K pt pb n e)
  | 0, _, _, _, _, _, _, _ => trivial
  | n + 1, h, F, env, e, fp, x, sr => by
    obtain ⟨fp1, x1, f1, p1⟩ := x.kill K
    have fr1 : Fr h F fp h F fp1 := ((Fr.refl sr).perm p1).sub (List.sublist_append_right _ _)
    refine OutS.trans fr1 (Kp.refl env) ?_
    unfold Q.whL whL
    refine OutS.st0 fr1.sr (ht h F env _ fp1 x1 fr1.sr) (fun a b h1 F1 e1 f2 r1 x1 sr1 st sm => ?_) re_nil
    obtain ⟨_, rfl⟩ := r1
    cases a with
    | false => rw [if_neg (by decide), if_neg (by decide)]; exact ⟨env, h1, F1, f2, rfl, x1, Fr.refl sr1, Kp.refl env⟩
    | true =>
      rw [if_pos rfl, if_pos rfl]
      have bb := hb h1 F1 env e1 f2 x1 sr1
      cases q2 : pb e1 with
      | bad => trivial
      | nx e2 =>
        rw [q2] at bb
        obtain ⟨env2, h2, F2, f2, b1, b2, b3, b4⟩ := bb
        rw [b1]
        exact OutS.trans b3 b4 (wh_go ht hb n b2 b3.sr)
      | ct e2 =>
        rw [q2] at bb
        obtain ⟨env2, h2, F2, f2, b1, b2, b3, b4⟩ := bb
        rw [b1]
        exact OutS.trans b3 b4 (wh_go ht hb n b2 b3.sr)
      | bk e2 =>
        rw [q2] at bb
        obtain ⟨env2, h2, F2, f2, b1, b2, b3, b4⟩ := bb
        rw [b1]
        obtain ⟨fp3, x3, f3, p3⟩ := b2.kill K
        exact ⟨env2, h2, F2, fp3, rfl, x3, (b3.perm p3).sub (List.sublist_append_right _ _), b4⟩
      | rt t e2 =>
        rw [q2] at bb
        obtain ⟨u, env2, h2, F2, f1, f2, b1, r⟩ := bb
        rw [b1]
        exact ⟨u, env2, h2, F2, f1, f2, rfl, r⟩
      | ex C y e2 =>
        rw [q2] at bb
        obtain ⟨n, env2, h2, F2, f2, b1, r⟩ := bb
        rw [b1]
        exact ⟨n, env2, h2, F2, f2, rfl, r⟩
theorem ss_while {K : List Nat} {n : Nat} {t : TM} {pt : PB} {mb : SM} {pb : PS} (ht : Sim cc q RE t pt) (hb : SimS cc mk mb pb) : SimS cc mk (Q.mWhile n t mb) (sWhile K n pt pb) := fun h F env e fp x sr => wh_go ht hb n x sr
theorem OutS.no {r : RS} {s : PRS} (o : OutS cc mk h F fp env r s) : OutS cc mk h F fp env (Q.RS.no r) s.no := by
  cases s with
  | nx e' => obtain ⟨env2, h', F', f2, a, b⟩ := o; rw [a]; exact ⟨env2, h', F', f2, rfl, b⟩
  | bk e' => obtain ⟨env2, h', F', f2, a, b⟩ := o; rw [a]; exact ⟨env2, h', F', f2, rfl, b⟩
  | ct e' => obtain ⟨env2, h', F', f2, a, b⟩ := o; rw [a]; exact ⟨env2, h', F', f2, rfl, b⟩
  | rt t e' => obtain ⟨u, env2, h', F', f1, f2, a, b⟩ := o; rw [a]; exact ⟨u, env2, h', F', f1, f2, rfl, b⟩
  | ex C x e' => trivial
  | bad => trivial
/-! stores -/
theorem OutS.stP {m : EM} {p : Pth} {g : U → Sto → RS} {k : List Ac → Env → PRS} (a : SimP cc m p) (x : Ev cc h F env e fp) (sr : SR h F fp)
    (z : ∀ u r h1 F1 e1 f2, (∃ o, env[p.root]? = some (some o) ∧ atU h1 o r = some u) → (p.isVar = true → r = []) → Ev cc h1 F1 env e1 f2 → SR h1 F1 f2 → Stab h F h1 F1 → OutS cc mk h1 F1 f2 env (g u h1) (k r e1)) : OutS cc mk h F fp env (Q.R.st (m env h) env g) ((p.ev e).st k) :=
  OutS.st0 sr (a h F env e fp x sr) (fun u r h1 F1 e1 f2 r1 x1 sr1 st sm => z u r h1 F1 e1 f2 r1.2.1 r1.2.2 x1 sr1 st) rp_nil
/-- a place changes, in a statement -/
theorem outS_set {i : Nat} {r : List Ac} {t' : T} {n : Nat} {ob : O} {g1 g2 : List Nat} (sr : SR h F fp) (c4 : fp.Perm (g1 ++ g2)) (n1 : n ∈ g1)
    (c5 : ∀ h' F' s' f1', Stab h F h' F' → Keep g2 h h' → Ow cc h' F' u s' f1' → ∃ fp', Ev cc h' F' env (setP i r s' e) fp' ∧ fp'.Perm (f1' ++ g2)) {g3 : List Nat} (n2 : Ow cc (h.set n ob) F u t' g3) (g3s : g3.Sublist g1) : OutS cc mk h F fp env (.nx env (h.set n ob)) (.nx (setP i r t' e)) := by
  have sr' := sr.perm c4
  have n4 : n ∉ g2 := fun m => (List.nodup_append.mp sr'.nd).2.2 n n1 n m rfl
  obtain ⟨fp', d1, d2⟩ := c5 (h.set n ob) F t' g3 (Stab.set sr' (List.mem_append_left _ n1) ob) (Keep.set ob n4) n2
  exact ⟨env, _, F, fp', rfl, d1, (((Fr.set sr' (List.mem_append_left _ n1) ob).sub (g3s.append_right g2)).perm d2.symm).permL c4.symm, Kp.refl env⟩
end
end P

set_option Elab.async false
set_option linter.all false
set_option maxRecDepth 100000
set_option maxHeartbeats 1000000
/-! PS11: stores by an operator, fields, calls, defs. -/
namespace P
open Q (U O Sto Env' R RS EM TM AM SM Sem')
section
variable {cc : Nat → Nat} {h h' h1 h2 : Sto} {F F' F1 F2 : Nat → Prop} {u v : U} {d : D} {us : List U} {ds : List D} {t : T} {ts : List T} {f f1 f2 fp fp' fp1 fp2 : List Nat} {env env' : Env'} {e e' : Env} {i : Nat} {q s s1 s2 : Bool}
  {α β γ δ : Type} {mk : List Bool}
/-! fields -/
end
end P

set_option Elab.async false
set_option linter.all false
set_option maxRecDepth 100000
set_option maxHeartbeats 1000000
/-! PS12: calls, defs, the end. -/
namespace P
open Q (U O Sto Env' R RS EM TM AM SM Sem')
section
variable {cc : Nat → Nat} {h h' h1 h2 : Sto} {F F' F1 F2 : Nat → Prop} {u v : U} {d : D} {us : List U} {ds : List D} {t : T} {ts : List T} {f f1 f2 fp fp' fp1 fp2 : List Nat} {env env' : Env'} {e e' : Env} {i : Nat} {q s s1 s2 : Bool}
  {α β γ δ : Type} {mk : List Bool}
def SimF (cc : Nat → Nat) (mask : List Bool) (sem : Sem') (ps : PSem) : Prop := ∀ h F us ts fp, Ows cc h F us ts fp → SR h F fp → match ps ts with
  | .ok t ws => ∃ u h' F' f1 f2, sem us h = .ok u h' ∧ Ow cc h' F' u t f1 ∧ Ows cc h' F' (pick mask us) ws f2 ∧ Fr h F fp h' F' (f1 ++ f2)
  | .exc C x => ∃ n h' F', sem us h = .exc (cc C) n h' ∧ Fr h F fp h' F' [] ∧ Xd cc h' F' n x
  | .bad => True
theorem Dns.ows : ∀ {us : List U} {ds : List D}, Dns cc h F us ds → Ows cc h F us (ds.map .leaf) []
  | _, _, .nil => .nil
  | _, _, .cons x r => .cons (f1 := []) (f2 := []) (.leaf x) (Dns.ows r)
/-- a call with data alone, some things held meanwhile -/
theorem call_out {mask : List Bool} {sem : Sem'} {ps : PSem} (ok : SimF cc mask sem ps) {us : List U} {ts : List T} {fa : List Nat} (x : Ev cc h F env e fp) (sr : SR h F (fa ++ fp)) (r : Ows cc h F us ts fa) : 
    match ps ts with
    | .ok t ws => ∃ u h' F' f1 f2, sem us h = .ok u h' ∧ Ow cc h' F' u t f1 ∧ Ows cc h' F' (pick mask us) ws f2 ∧ Ev cc h' F' env e fp ∧ Fr h F (fa ++ fp) h' F' (f1 ++ (f2 ++ fp)) ∧ Keep fp h h' ∧ Stab h F h' F' ∧ (fa = [] → Sm h h')
    | .exc C x => ∃ n h' F', sem us h = .exc (cc C) n h' ∧ Ev cc h' F' env e fp ∧ Fr h F (fa ++ fp) h' F' fp ∧ Xd cc h' F' n x ∧ Keep fp h h' ∧ Stab h F h' F'
    | .bad => True := by
  have o := ok h F us ts fa r sr.left
  have sr' : SR h F (fp ++ fa) := sr.perm List.perm_append_comm
  cases q1 : ps ts with
  | bad => trivial
  | exc C x =>
    rw [q1] at o
    obtain ⟨n, h', F', a1, a2, a3⟩ := o
    have k := a2.kept sr'
    have st := a2.stab sr.left
    refine ⟨n, h', F', a1, (by assumption : Ev cc h F env e fp).mono st k, ?_, a3, k, st⟩
    have := (a2.hold sr').permL List.perm_append_comm
    simpa using this
  | ok t ws =>
    rw [q1] at o
    obtain ⟨u, h', F', f1, f2, a1, a2, a3, a4⟩ := o
    have k := a4.kept sr'
    have st := a4.stab sr.left
    refine ⟨u, h', F', f1, f2, a1, a2, a3, x.mono st k, ?_, k, st, fun z => ?_⟩
    · have := (a4.hold sr').permL List.perm_append_comm
      refine this.perm ?_
      rw [← List.append_assoc f1]
      exact List.perm_append_comm
    · subst z
      exact fun n l => a4.eq n l (by simp)
theorem sim_call {mask : List Bool} {n : Nat} {sem : Sem'} {ps : PSem} (ok : SimF cc mask sem ps) {am : AM} {pa : PDs} (a : Sim cc q (RDs cc) am pa) : Sim cc q (RT cc) (Q.mCall n sem am) (pCall n ps pa) := fun h F env e fp x sr =>
  Out.bind0 sr (a h F env e fp x sr) (fun us ds h1 F1 e1 f2 r1 x1 sr1 st sm => by
    by_cases z : ds.length = n
    case neg => rw [if_neg z]; trivial
    rw [if_pos z, if_pos (by rw [r1.2.len]; exact z)]
    have o := call_out ok (fa := []) x1 sr1 r1.2.ows
    cases q1 : ps (ds.map .leaf) with
    | bad => trivial
    | exc C y =>
      rw [q1] at o
      obtain ⟨n, h', F', a1, a2, a3, a4, _⟩ := o
      exact ⟨n, h', F', f2, a1, a2, a3, a4⟩
    | ok t ws =>
      rw [q1] at o
      obtain ⟨u, h', F', f3, f4, a1, a2, a3, a4, a5, _, _, a6⟩ := o
      exact ⟨u, h', F', f3, f2, a1, a2, a4, a5.sub ((List.sublist_append_right f4 f2).append_left f3), fun _ => a6 rfl⟩) rds_nil
/-! an argument that is a slot -/
def RAV (cc : Nat → Nat) (v : U) (k : Nat) (h : Sto) (F : Nat → Prop) (us : List U) (ds : List D) (f : List Nat) : Prop := f = [] ∧ ∃ us1 us2 ds1 ds2, us = us1 ++ v :: us2 ∧ us1.length = k ∧ ds = ds1 ++ ds2 ∧ Dns cc h F us1 ds1 ∧ Dns cc h F us2 ds2
def SimAV (cc : Nat → Nat) (q : Bool) (i k : Nat) (am : AM) (pa : PDs) : Prop := ∀ h F env e fp v, Ev cc h F env e fp → SR h F fp → env[i]? = some (some v) → Out cc q (RAV cc v k) h F fp env (am env h) (pa e)
/-! methods -/
/-! ### defs -/
theorem evs_of : ∀ {us : List U} {ts : List T} {fp : List Nat} (k : Nat), Ows cc h F us ts fp → Ev cc h F (us.map some ++ List.replicate k none) (ts ++ List.replicate k .hole) fp
  | _, _, _, 0, .nil => .nil
  | _, _, _, k + 1, .nil => by
    have r : Ev cc h F (([] : List U).map some ++ List.replicate k none) (([] : List T) ++ List.replicate k .hole) [] := evs_of k .nil
    exact Ev.cons (o := none) (t := .hole) (f1 := []) (f2 := []) ⟨rfl, rfl⟩ r
  | _, _, _, k, .cons (f1 := f1) (f2 := f2) x r => .cons (o := some _) x (evs_of k r)
/-- what the mask keeps -/
theorem ev_pick : ∀ {m : List Bool} {env : Env'} {e : Env} {fp : List Nat} {us : List U}, Ev cc h F env e fp → pick m env = (pick m us).map some → ∃ f, Ows cc h F (pick m us) (pick m e) f ∧ f.Sublist fp
  | [], env, e, fp, us, x, k => by
    have e1 : pick ([] : List Bool) us = [] := by simp [pick]
    have e2 : pick ([] : List Bool) e = [] := by simp [pick]
    rw [e1, e2]
    exact ⟨[], .nil, List.nil_sublist _⟩
  | b :: m, _, _, _, us, .nil, k => by
    have e2 : pick (b :: m) ([] : Env) = [] := by cases b <;> simp [pick]
    have e3 : pick (b :: m) ([] : Env') = [] := by cases b <;> simp [pick]
    rw [e3] at k
    have e1 : pick (b :: m) us = [] := List.map_eq_nil_iff.mp k.symm
    rw [e1, e2]
    exact ⟨[], .nil, List.nil_sublist _⟩
  | false :: m, _, _, _, us, .cons (env := env0) (f1 := f1) (f2 := f2) x r, k => by
    cases us with
    | nil =>
      have e1 : pick (false :: m) ([] : List U) = [] := by simp [pick]
      rw [e1] at k ⊢
      simp only [pick] at k ⊢
      have k2 : pick m env0 = (pick m ([] : List U)).map some := by
        have : pick m ([] : List U) = [] := by cases m with
          | nil => simp [pick]
          | cons b m => cases b <;> simp [pick]
        rw [this]; exact k
      obtain ⟨f, a, b⟩ := ev_pick r k2
      have : pick m ([] : List U) = [] := by cases m with
        | nil => simp [pick]
        | cons b m => cases b <;> simp [pick]
      rw [this] at a
      exact ⟨f, a, b.trans (List.sublist_append_right _ _)⟩
    | cons u us =>
      simp only [pick] at k ⊢
      obtain ⟨f, a, b⟩ := ev_pick r k
      exact ⟨f, a, b.trans (List.sublist_append_right _ _)⟩
  | true :: m, _, _, _, us, .cons (o := o) (t := t) (f1 := f1) (f2 := f2) x r, k => by
    cases us with
    | nil => simp [pick] at k
    | cons u us =>
      simp only [pick, List.map_cons, List.cons.injEq] at k ⊢
      obtain ⟨rfl, k⟩ := k
      obtain ⟨f, a, b⟩ := ev_pick r k
      exact ⟨f1 ++ f, .cons x a, b.append_left f1⟩
theorem pick_map : ∀ {m : List Bool} {us : List U} {k : Nat}, m.length ≤ us.length → pick m (us.map some ++ List.replicate k none) = (pick m us).map some
  | [], us, k, _ => by simp [pick]
  | b :: m, [], k, l => by simp at l
  | true :: m, u :: us, k, l => by
    have := pick_map (m := m) (us := us) (k := k) (by simpa using l)
    simp [pick, this]
  | false :: m, u :: us, k, l => by
    have := pick_map (m := m) (us := us) (k := k) (by simpa using l)
    simp [pick, this]
theorem simF_fn {n : Nat} {mask : List Bool} {mb : SM} {pb : PS} (a : SimS cc mask mb pb) : SimF cc mask (Q.fnM n mb) (pFn n mask pb) := fun h F us ts fp r sr => by
  by_cases hl : mask.length ≤ us.length
  · have x := evs_of (n - us.length) r
    rw [r.len] at x
    have o := a h F _ _ fp x sr
    rw [← r.len] at o
    have kp : ∀ {env' : Env'}, Kp mask (us.map some ++ List.replicate (n - us.length) none) env' → pick mask env' = (pick mask us).map some := fun k => k.trans (pick_map hl)
    unfold pFn Q.fnM
    rw [if_pos (by rw [← r.len]; exact hl)]
    rw [r.len] at o ⊢
    cases q1 : pb (ts ++ List.replicate (n - ts.length) .hole) with
    | bad => trivial
    | bk e1 => trivial
    | ct e1 => trivial
    | nx e1 =>
      rw [q1] at o
      obtain ⟨env', h', F', f2, a1, a2, a3, a4⟩ := o
      rw [← r.len] at a4
      obtain ⟨f, b1, b2⟩ := ev_pick a2 (kp a4)
      exact ⟨.non, h', F', [], f, by rw [a1], .leaf .non, b1, a3.sub b2⟩
    | rt t e1 =>
      rw [q1] at o
      obtain ⟨u, env', h', F', f1, f2, a1, a2, a3, a4, a5⟩ := o
      rw [← r.len] at a5
      obtain ⟨f, b1, b2⟩ := ev_pick a3 (kp a5)
      exact ⟨u, h', F', f1, f, by rw [a1], a2, b1, a4.sub (b2.append_left f1)⟩
    | ex C y e1 =>
      rw [q1] at o
      obtain ⟨m, env', h', F', f2, a1, a2, a3, a4, a5⟩ := o
      exact ⟨m, h', F', by rw [a1], a3.sub (List.nil_sublist _), a4⟩
  · unfold pFn
    rw [if_neg (by rw [← r.len]; exact hl)]
    trivial
theorem simF_bad {mask : List Bool} {sem : Sem'} : SimF cc mask sem (fun _ => .bad) := fun _ _ _ _ _ _ _ => trivial
/-! ### the end -/
theorem sem_true {sem : Sem'} {ps : PSem} (ok : SimF cc [] sem ps) (ht : ∀ ns : List Int, ns.length ≤ 63 → ∃ ws, ps [.leaf (.kl (ns.map .int))] = .ok (.leaf (.bl true)) ws) : Q.semTrue sem := fun ns hl => by
  obtain ⟨ws, e⟩ := ht ns hl
  have dn : Dns cc [] (fun _ => False) (ns.map U.int) (ns.map D.int) := by
    have : ∀ l : List Int, Dns cc [] (fun _ => False) (l.map U.int) (l.map D.int) := fun l => by
      induction l with
      | nil => exact .nil
      | cons x r ih => exact .cons (.int _) ih
    exact this ns
  have o := ok [] (fun _ => False) [.kl (ns.map U.int)] [.leaf (.kl (ns.map .int))] [] (.cons (f1 := []) (f2 := []) (.leaf (.kl dn)) .nil) ⟨List.nodup_nil, (fun _ m => nomatch m), (fun _ m => nomatch m), (fun _ m => m.elim)⟩
  rw [e] at o
  obtain ⟨u, h', F', f1, f2, a1, a2, _⟩ := o
  cases a2 with
  | leaf a2 =>
    cases a2
    exact ⟨h', a1⟩
end
end P

set_option Elab.async false
set_option linter.all false
set_option maxRecDepth 100000
set_option maxHeartbeats 1000000
/-! PS13: things that are only looked at during a call. -/
namespace P
open Q (U O Sto Env' R RS EM TM AM SM Sem')
section
variable {cc : Nat → Nat} {h h' h1 h2 : Sto} {F F' F1 F2 : Nat → Prop} {u v : U} {d : D} {us : List U} {ds : List D} {t : T} {ts : List T} {f f1 f2 fp fp' fp1 fp2 : List Nat} {env env' : Env'} {e e' : Env} {i : Nat} {q s s1 s2 : Bool}
  {α β γ δ : Type} {mk : List Bool}
theorem sim_yes : Sim cc q RE Q.bYes tYes := fun h F env e fp x sr => Out.ret0 ⟨rfl, rfl⟩ x sr
end
end P


set_option Elab.async false
set_option linter.all false
set_option maxRecDepth 100000
set_option maxHeartbeats 1000000
/-! PSD: dicts. -/
namespace P
open Q (U O Sto Env' R RS EM TM AM SM Sem')
section
variable {cc : Nat → Nat} {h h' h1 h2 : Sto} {F F' F1 F2 : Nat → Prop} {u : U} {d : D} {t : T} {ts : List T} {f f1 f2 fp fp' fp1 fp2 : List Nat} {env env' : Env'} {e e' : Env} {q s s1 s2 : Bool} {mk : List Bool}
theorem keyU_of {k : DK} (x : Dn cc h F u d) (e : keyOf d = some k) : Q.keyU u = some k := by
  cases x <;> simp only [keyOf] at e <;> cases e <;> rfl
theorem keyU_tp {k : DK} (x : Tp cc h F u d) (e : keyOf d = some k) : Q.keyU u = some k := by
  cases d <;> simp only [keyOf] at e <;> first | exact keyU_of (show Dn cc h F u _ from x) (by simpa only [keyOf] using e) | cases e
theorem val_rel (k : DK) : ∀ {us : List (Q.DK × U)} {ds : List (DK × D)}, us.map Prod.fst = ds.map Prod.fst → Dns cc h F (us.map Prod.snd) (ds.map Prod.snd) →
    (∃ u d, Q.valD us k = some u ∧ valK ds k = some d ∧ Dn cc h F u d) ∨ (Q.valD us k = none ∧ valK ds k = none)
  | [], [], _, _ => .inr ⟨rfl, rfl⟩
  | [], _ :: _, a, _ => by simp at a
  | _ :: _, [], a, _ => by simp at a
  | (i, u) :: us, (j, d) :: ds, a, r => by
    rw [List.map_cons, List.map_cons] at a r
    cases r with
    | cons x r =>
      injection a with a1 a2
      cases a1
      unfold Q.valD valK
      by_cases z : i = k
      · rw [if_pos z, if_pos z]; exact .inl ⟨u, d, rfl, rfl, x⟩
      · rw [if_neg z, if_neg z]; exact val_rel k a2 r
theorem val_some {k : DK} {us : List (Q.DK × U)} {ds : List (DK × D)} (a : us.map Prod.fst = ds.map Prod.fst) (r : Dns cc h F (us.map Prod.snd) (ds.map Prod.snd)) : (Q.valD us k).isSome = (valK ds k).isSome := by
  rcases val_rel k a r with ⟨u, d, e1, e2, _⟩ | ⟨e1, e2⟩ <;> rw [e1, e2] <;> rfl
theorem rep_rel (k : DK) (x : Dn cc h F u d) : ∀ {us : List (Q.DK × U)} {ds : List (DK × D)}, us.map Prod.fst = ds.map Prod.fst → Dns cc h F (us.map Prod.snd) (ds.map Prod.snd) →
    (Q.repD us k u).map Prod.fst = (repK ds k d).map Prod.fst ∧ Dns cc h F ((Q.repD us k u).map Prod.snd) ((repK ds k d).map Prod.snd)
  | [], [], _, _ => ⟨rfl, .nil⟩
  | [], _ :: _, a, _ => by simp at a
  | _ :: _, [], a, _ => by simp at a
  | (i, u2) :: us, (j, d2) :: ds, a, r => by
    rw [List.map_cons, List.map_cons] at a r
    cases r with
    | cons x2 r =>
      injection a with a1 a2
      cases a1
      obtain ⟨b1, b2⟩ := rep_rel k x a2 r
      unfold Q.repD repK
      by_cases z : i = k
      · rw [if_pos z, if_pos z, List.map_cons, List.map_cons, List.map_cons, List.map_cons, b1]; exact ⟨rfl, .cons x b2⟩
      · rw [if_neg z, if_neg z, List.map_cons, List.map_cons, List.map_cons, List.map_cons, b1]; exact ⟨rfl, .cons x2 b2⟩
theorem dns_app' : ∀ {us ws : List U} {ds es : List D}, Dns cc h F us ds → Dns cc h F ws es → Dns cc h F (us ++ ws) (ds ++ es)
  | _, _, _, _, .nil, s => s
  | _, _, _, _, .cons x r, s => .cons x (dns_app' r s)
theorem put_rel (k : DK) (x : Dn cc h F u d) {us : List (Q.DK × U)} {ds : List (DK × D)} (a : us.map Prod.fst = ds.map Prod.fst) (r : Dns cc h F (us.map Prod.snd) (ds.map Prod.snd)) :
    (Q.putD us k u).map Prod.fst = (putK ds k d).map Prod.fst ∧ Dns cc h F ((Q.putD us k u).map Prod.snd) ((putK ds k d).map Prod.snd) := by
  unfold Q.putD putK
  rw [val_some a r]
  split
  · exact rep_rel k x a r
  · rw [List.map_append, List.map_append, List.map_append, List.map_append, a]; exact ⟨rfl, dns_app' r (.cons x .nil)⟩
theorem aDK_ref {n : Nat} {us : List (Q.DK × U)} (e : h[n]? = some (.dK us)) : Q.aDK h (.ref n) = some us := by simp only [Q.aDK, e]
theorem aDK_refl {n : Nat} {us : List (Q.DK × U)} (e : h[n]? = some (.dKl us)) : Q.aDK h (.ref n) = some us := by simp only [Q.aDK, e]
/-- a dict, locked or not -/
theorem tp_dk {kvs : List (DK × D)} (x : Tp cc h F u (.dK kvs) ∨ Tp cc h F u (.dKl kvs)) : ∃ us, Q.aDK h u = some us ∧ us.map Prod.fst = kvs.map Prod.fst ∧ Dns cc h F (us.map Prod.snd) (kvs.map Prod.snd) := by
  rcases x with x | x
  · obtain ⟨n, us, rfl, b, c, r⟩ := x; exact ⟨us, aDK_ref b, c, r⟩
  · have x : Dn cc h F u (.dKl kvs) := x
    cases x with | dKl f e k r => exact ⟨_, aDK_refl e, k, r⟩
theorem op_dget : OpB cc Q.uDGet gDGet (RD cc) := by
  intro q h F fp env e u1 d1 u2 d2 x sr t1 t2
  have go : ∀ {kvs : List (DK × D)}, (Tp cc h F u1 (.dK kvs) ∨ Tp cc h F u1 (.dKl kvs)) → Out cc q (RD cc) h F fp env (Q.uDGet u1 u2 h) (oE ((keyOf d2).bind fun k => valK kvs k) e) := fun {kvs} t => by
    obtain ⟨us, b, c, r⟩ := tp_dk t
    cases e1 : keyOf d2 with
    | none => trivial
    | some k =>
      unfold Q.uDGet
      rw [b, keyU_tp t2 e1]
      rcases val_rel k c r with ⟨u, d, e2, e3, z⟩ | ⟨e2, e3⟩
      · simp only [e2, Option.bind, e3]
        exact Out.ret0 ⟨rfl, z⟩ x sr
      · simp only [Option.bind, e3]
        trivial
  unfold gDGet
  split
  · exact go (.inl t1)
  · exact go (.inr t1)
  · trivial
theorem cmp_din : CmpD cc Q.cDIn cDIn := fun h F u1 d1 u2 d2 b t1 t2 e => by
  have go : ∀ {kvs : List (DK × D)}, (Tp cc h F u2 (.dK kvs) ∨ Tp cc h F u2 (.dKl kvs)) → ((keyOf d1).map fun k => (valK kvs k).isSome) = some b → Q.cDIn h u1 u2 = some b := fun {kvs} t e => by
    obtain ⟨us, c1, c2, r⟩ := tp_dk t
    cases e1 : keyOf d1 with
    | none => rw [e1] at e; cases e
    | some k =>
      rw [e1] at e
      cases e
      unfold Q.cDIn
      rw [c1, keyU_tp t1 e1]
      simp only [val_some c2 r]
  unfold cDIn at e
  split at e
  · exact go (.inl t2) e
  · exact go (.inr t2) e
  · cases e
theorem cmp_dnin : CmpD cc Q.cDNin cDNin := fun h F u1 d1 u2 d2 b t1 t2 e => by
  unfold cDNin at e
  cases e1 : cDIn d1 d2 with
  | none => rw [e1] at e; cases e
  | some k =>
    rw [e1] at e
    cases e
    have := cmp_din h F u1 d1 u2 d2 k t1 t2 e1
    unfold Q.cDIn at this
    unfold Q.cDNin
    split at this
    · cases this; rfl
    · cases this
theorem op_dlen : OpL cc s Q.uDLen gDLen (RD cc) := by
  intro q h F fp env e us ds x sr r
  have go : ∀ {kvs : List (DK × D)} {u : U}, (Tp cc h F u (.dK kvs) ∨ Tp cc h F u (.dKl kvs)) → Out cc q (RD cc) h F fp env (Q.uDLen [u] h) (.ok (.int kvs.length) e) := fun {kvs u} t => by
    obtain ⟨us, b, c, r⟩ := tp_dk t
    unfold Q.uDLen
    simp only [b]
    rw [show us.length = kvs.length by simpa using congrArg List.length c]
    exact Out.ret0 ⟨rfl, .int _⟩ x sr
  unfold gDLen
  split
  · obtain ⟨u, rfl, t⟩ := ra_one r; exact go (.inl t)
  · obtain ⟨u, rfl, t⟩ := ra_one r; exact go (.inr t)
  · trivial
theorem out_newK {us : List (Q.DK × U)} {ds : List (DK × D)} (x : Ev cc h F env e fp) (sr : SR h F fp) (k : us.map Prod.fst = ds.map Prod.fst) (r : Dns cc h F (us.map Prod.snd) (ds.map Prod.snd)) : Out cc q (RT cc) h F fp env (.ok (.ref h.length) (h ++ [.dK us])) (.ok (.dK ds) e) := by
  have st := Stab.app sr [O.dK us]
  exact ⟨_, _, F, [h.length], fp, rfl, .dK (by rw [List.getElem?_append_right (Nat.le_refl _), Nat.sub_self]; rfl) k (r.mono st), x.mono st (Keep.app sr _), Fr.app sr _, fun _ => Sm.app h _⟩
theorem sim_dnew : Sim cc q (RT cc) Q.mDNew pDNew := fun h F env e fp x sr => out_newK (us := []) (ds := []) x sr rfl .nil
theorem ss_setK {m mi me : EM} {p : Pth} {pi pa : PE} (ap : SimP cc m p) (b : Sim cc q (RD cc) mi pi) (a : Sim cc s (RD cc) me pa) (z : p.isVar = true ∨ q = true) : SimS cc mk (Q.mSetI Q.uDSet m mi me) (sSetK p pi pa) := fun h F env e fp x sr =>
  OutS.st0 sr (a h F env e fp x sr) (fun ud d h1 F1 e1 f1 r1 x1 sr1 st1 sm1 => OutS.stP ap x1 sr1 fun u r h2 F2 e2 f2 ⟨o, b1, b2⟩ b3 x2 sr2 st2 =>
    OutS.st0 sr2 (path_later b2 b3 z (b h2 F2 env e2 f2 x2 sr2)) (fun ui di h3 F3 e3 f3 r3 x3 sr3 st3 sm3 => by
      obtain ⟨⟨_, r3⟩, b2⟩ := r3
      cases q0 : keyOf di with
      | none => trivial
      | some k =>
        cases q1 : getP p.root r e3 with
        | none => trivial
        | some t =>
          cases t with
          | dK xs =>
            obtain ⟨o', v, g1, g2, c1, c2, c3, c4, c5⟩ := x3.pt q1 (fun z => by cases z)
            rw [b1] at c1; cases c1
            rw [b2] at c2; cases c2
            cases c3 with
            | @dK n ys _ en kk rr =>
              have ql : ys.length = xs.length := by simpa using congrArg List.length kk
              show OutS cc mk h3 F3 f3 env (match Q.uDSet (.ref n) ui ud h3 with | some h4 => RS.nx env h4 | none => .bad) (if xs.length < 16000000 then .nx (setP p.root r (.dK (putK xs k d)) e3) else .bad)
              by_cases q2 : xs.length < 16000000
              · unfold Q.uDSet
                rw [if_pos q2]
                simp only [en, keyU_of r3 q0]
                rw [if_pos (by rw [ql]; exact q2)]
                have sr4 := sr3.perm c4
                have stn := Stab.set sr4 (List.mem_append_left _ (List.mem_singleton.mpr rfl)) (O.dK (Q.putD ys k ud))
                obtain ⟨k1, k2⟩ := put_rel k (r1.2.mono (st2.trans st3)) kk rr
                exact outS_set sr3 c4 (List.mem_singleton.mpr rfl) (c5 rfl) (.dK (by rw [List.getElem?_set_self (List.getElem?_eq_some_iff.mp en).1]) k1 (k2.mono stn)) (List.Sublist.refl _)
              · rw [if_neg q2]; trivial
          | _ => trivial) (fun _ _ _ _ _ x => x.1.1)) rd_nil
theorem merge_rel : ∀ {ws : List (Q.DK × U)} {kvs : List (DK × D)} {us : List (Q.DK × U)} {ds : List (DK × D)}, ws.map Prod.fst = kvs.map Prod.fst → Dns cc h F (ws.map Prod.snd) (kvs.map Prod.snd) → us.map Prod.fst = ds.map Prod.fst → Dns cc h F (us.map Prod.snd) (ds.map Prod.snd) →
    (Q.mergeD us ws).map Prod.fst = (mergeP ds kvs).map Prod.fst ∧ Dns cc h F ((Q.mergeD us ws).map Prod.snd) ((mergeP ds kvs).map Prod.snd)
  | [], [], _, _, _, _, a, b => ⟨a, b⟩
  | [], _ :: _, _, _, k, _, _, _ => by simp at k
  | _ :: _, [], _, _, k, _, _, _ => by simp at k
  | (i, u) :: ws, (j, d) :: kvs, us, ds, k, r, a, b => by
    rw [List.map_cons, List.map_cons] at k r
    injection k with k1 k2
    cases k1
    cases r with
    | cons x r =>
      obtain ⟨c1, c2⟩ := put_rel i x a b
      exact merge_rel (ws := ws) (kvs := kvs) (us := Q.putD us i u) (ds := putK ds i d) k2 r c1 c2
theorem keys_dns : ∀ {us : List (Q.DK × U)} {ds : List (DK × D)}, us.map Prod.fst = ds.map Prod.fst → Dns cc h F (us.map fun p => Q.dkU p.1) (ds.map fun p => dkD p.1)
  | [], [], _ => .nil
  | [], _ :: _, a => by simp at a
  | _ :: _, [], a => by simp at a
  | (i, u) :: us, (j, d) :: ds, a => by
    rw [List.map_cons, List.map_cons] at a
    injection a with a1 a2
    cases a1
    refine .cons ?_ (keys_dns a2)
    cases i with
    | inl i => exact .int i
    | inr s => exact .str s
theorem sim_ikv {i : Nat} : Sim cc false (RI cc) (Q.itKeys (Q.mVar i)) (iKv i) := fun h F env e fp x sr => by
  unfold iKv
  split
  · rename_i kvs q1
    obtain ⟨o, f1, f2, a1, a2, a3, a4⟩ := x.at q1
    cases o with
    | none => cases a2.1
    | some u =>
      cases a2 with
      | @dK n us _ en k r =>
        have sr' := sr.perm a3
        have mm : n ∈ [n] ++ f2 := List.mem_append_left _ (List.mem_singleton.mpr rfl)
        have nn : n ∉ f2 := fun m => (List.nodup_append.mp sr'.nd).2.2 _ (List.mem_singleton.mpr rfl) _ m rfl
        have st := Stab.set sr' mm (O.dKl us)
        have st2 := st.trans (Stab.freeze (h := h.set n (O.dKl us)) (F := F) [n])
        have en' : (h.set n (O.dKl us))[n]? = some (O.dKl us) := by rw [List.getElem?_set_self (List.getElem?_eq_some_iff.mp en).1]
        have dn : Dn cc (h.set n (O.dKl us)) (fun m => F m ∨ m ∈ [n]) (.ref n) (.dKl kvs) := .dKl (.inr (List.mem_singleton.mpr rfl)) en' k (r.mono st2)
        obtain ⟨fp', b1, b2⟩ := a4 _ _ (some (.ref n)) (.leaf (.dKl kvs)) [] st2 (Keep.set _ nn) (.leaf dn)
        rw [list_set_same a1] at b1
        have ev : Q.itKeys (Q.mVar i) env h = .ok ([], us.map fun p => Q.dkU p.1) (h.set n (O.dKl us)) := by
          unfold Q.itKeys Q.mLock
          rw [Q.e_var, a1]
          show R.bind (R.bind (R.ok (.ref n) h) Q.lockU) _ = _
          rw [Q.e_bind_ok]
          unfold Q.lockU
          simp only [en]
          rw [Q.e_bind_ok]
          simp only [aDK_refl en']
        rw [ev]
        exact ⟨_, _, _, [], fp', rfl, ⟨rfl, keys_dns k, fun _ m => nomatch m⟩, b1, (((Fr.set sr' mm _).trans (Fr.freeze (sr'.set _))).perm b2.symm).permL a3.symm, fun z => by cases z⟩
  · rename_i kvs q1
    obtain ⟨o, f1, f2, a1, a2, a3, a4⟩ := x.at q1
    cases o with
    | none => cases a2.1
    | some u =>
      cases a2 with
      | leaf dn =>
        cases dn with
        | @dKl n us _ f en k r =>
          have ev : Q.itKeys (Q.mVar i) env h = .ok ([], us.map fun p => Q.dkU p.1) h := by
            unfold Q.itKeys Q.mLock
            rw [Q.e_var, a1]
            show R.bind (R.bind (R.ok (.ref n) h) Q.lockU) _ = _
            rw [Q.e_bind_ok]
            unfold Q.lockU
            simp only [en]
            rw [Q.e_bind_ok]
            simp only [aDK_refl en]
          rw [ev]
          exact Out.ret0 (a := ([], _)) ⟨rfl, keys_dns k, fun _ m => nomatch m⟩ x sr
  · trivial
end
end P

set_option Elab.async false
set_option linter.all false
set_option maxRecDepth 100000
set_option maxHeartbeats 1000000
/-! PSE: more built-ins on lists. -/
namespace P
open Q (U O Sto Env' R RS EM TM AM SM Sem')
section
variable {cc : Nat → Nat} {h h' h1 h2 : Sto} {F F' F1 F2 : Nat → Prop} {u : U} {d : D} {us : List U} {ds : List D} {t : T} {ts : List T} {f f1 f2 fp fp' fp1 fp2 : List Nat} {env env' : Env'} {e e' : Env} {i : Nat} {q s s1 s2 : Bool}
/-- what leaves all as it was may stand anywhere -/
theorem Sim.qu {α β : Type} {Rel : Sto → (Nat → Prop) → α → β → List Nat → Prop} {m : Env' → Sto → R α} {p : Env → PR β} (a : Sim cc true Rel m p) : Sim cc q Rel m p := fun h F env e fp x sr => by
  have := a h F env e fp x sr
  unfold Out at this ⊢
  cases q1 : p e with
  | ok b e' => rw [q1] at this; obtain ⟨a, h', F', f1, f2, r1, r2, r3, r4, r5⟩ := this; exact ⟨a, h', F', f1, f2, r1, r2, r3, r4, fun _ => r5 rfl⟩
  | exc C z e' => rw [q1] at this; exact this
  | bad => trivial
end
end P

set_option Elab.async false
set_option linter.all false
set_option maxRecDepth 100000
set_option maxHeartbeats 1000000
/-! PST: texts, places, chains, except X as e. -/
namespace P
open Q (U O Sto Env' R RS EM TM AM SM Sem')
section
variable {cc : Nat → Nat} {h h' h1 h2 : Sto} {F F' F1 F2 : Nat → Prop} {u : U} {d : D} {us : List U} {ds : List D} {t : T} {ts : List T} {f f1 f2 fp fp' fp1 fp2 : List Nat} {env env' : Env'} {e e' : Env} {i : Nat} {q s s1 s2 : Bool} {mk : List Bool}
/-! except X as e -/
theorem Ev.clr (x : Ev cc h F env e fp) (i : Nat) : ∃ fp', Ev cc h F (env.set i none) (e.set i .hole) fp' ∧ ∃ g, fp.Perm (g ++ fp') := by
  obtain ⟨fp', b, g, f1, f2, q1, q2, q3⟩ := x.put i none (t := .hole) (f := []) ⟨rfl, rfl⟩
  have : g = [] := List.sublist_nil.mp q3
  subst this
  exact ⟨fp', b, f1, q1.trans (List.Perm.append_left f1 q2.symm)⟩
theorem Kp.clr {env2 : Env'} {i : Nat} (z : (!mk.getD i false) = true) (k : Kp mk env env2) : Kp mk env (env2.set i none) := by
  refine Eq.trans (kp_off (by simp) fun j hj => ?_) k
  have : i ≠ j := fun e => by subst e; rw [hj] at z; cases z
  rw [List.getElem?_set_ne this]
theorem OutS.cl {r : RS} {s : PRS} (z : (!mk.getD i false) = true) (o : OutS cc mk h F fp env r s) : OutS cc mk h F fp env (r.cl i) (s.cl i) := by
  cases s with
  | nx e' =>
    obtain ⟨env2, h', F', f2, a, b, c, d⟩ := o
    rw [a]
    obtain ⟨fp', b', g, p⟩ := b.clr i
    exact ⟨_, h', F', fp', rfl, b', (c.perm p).sub (List.sublist_append_right g fp'), d.clr z⟩
  | bk e' =>
    obtain ⟨env2, h', F', f2, a, b, c, d⟩ := o
    rw [a]
    obtain ⟨fp', b', g, p⟩ := b.clr i
    exact ⟨_, h', F', fp', rfl, b', (c.perm p).sub (List.sublist_append_right g fp'), d.clr z⟩
  | ct e' =>
    obtain ⟨env2, h', F', f2, a, b, c, d⟩ := o
    rw [a]
    obtain ⟨fp', b', g, p⟩ := b.clr i
    exact ⟨_, h', F', fp', rfl, b', (c.perm p).sub (List.sublist_append_right g fp'), d.clr z⟩
  | rt t e' =>
    obtain ⟨u, env2, h', F', f1, f2, a, b0, b, c, d⟩ := o
    rw [a]
    obtain ⟨fp', b', g, p⟩ := b.clr i
    have pp : (f1 ++ f2).Perm (g ++ (f1 ++ fp')) := (List.Perm.append_left f1 p).trans (List.perm_append_comm_assoc f1 g fp')
    exact ⟨u, _, h', F', f1, fp', rfl, b0, b', (c.perm pp).sub (List.sublist_append_right g (f1 ++ fp')), d.clr z⟩
  | ex C x e' => trivial
  | bad => trivial
end
end P

set_option Elab.async false
set_option linter.all false
set_option maxRecDepth 100000
set_option maxHeartbeats 1000000
/-! PSR: str(number), pop, insert, [::-1], range downwards. -/
namespace P
open Q (U O Sto Env' R RS EM TM AM SM Sem')
section
variable {cc : Nat → Nat} {h h' h1 h2 : Sto} {F F' F1 F2 : Nat → Prop} {u : U} {d : D} {us : List U} {ds : List D} {t : T} {ts : List T} {f f1 f2 fp fp' fp1 fp2 : List Nat} {env env' : Env'} {e e' : Env} {i : Nat} {q s s1 s2 : Bool} {mk : List Bool}
theorem Dns.dropLast {us : List U} {ds : List D} (r : Dns cc h F us ds) : Dns cc h F us.dropLast ds.dropLast := by
  rw [List.dropLast_eq_take, List.dropLast_eq_take, r.len]
  exact r.take _
theorem upd_pop : UpdOk cc s Q.uPop P.uPop := by
  intro h F v t us ds d t' f1 w r q
  cases t with
  | ls xs =>
    cases ds with
    | cons _ _ => cases q
    | nil =>
      have q : (xs[xs.length - 1]?).map (fun y => (y, T.ls xs.dropLast)) = some (d, t') := q
      cases q2 : xs[xs.length - 1]? with
      | none => rw [q2] at q; cases q
      | some y =>
        rw [q2] at q
        cases q
        obtain ⟨_, r⟩ := r
        have hus : us = [] := by
          cases s with
          | true => simp only [if_true] at r; cases r; rfl
          | false => simp at r
        subst hus
        cases w with
        | @ls n ys _ e rr =>
          obtain ⟨u, hu, ru⟩ := rr.get q2
          refine ⟨rfl, n, .lst ys.dropLast, u, List.mem_singleton.mpr rfl, ?_, fun fp sr => ?_⟩
          · show (match h[n]? with | some (.lst xs) => _ | _ => _) = _
            rw [e]
            simp only
            rw [rr.len, hu]
          · have st := Stab.set sr (List.mem_append_left _ (List.mem_singleton.mpr rfl)) (O.lst ys.dropLast)
            exact ⟨ru.mono st, .ls (by rw [List.getElem?_set_self (List.getElem?_eq_some_iff.mp e).1]) (rr.dropLast.mono st)⟩
  | _ => cases q
theorem sim_pop {m : EM} {p : Pth} (a : SimP cc m p) : Sim cc false (RD cc) (Q.mLM0 Q.uPop m) (pUpd p dNil P.uPop) := sim_upd (s := true) (q := true) upd_pop a (sim_ra sim_dnil) (.inr rfl)
end
end P

set_option Elab.async false
set_option linter.all false
set_option maxRecDepth 100000
set_option maxHeartbeats 1000000
/-! PSX: comprehensions whose items may raise. -/
namespace P
open Q (U O Sto Env' R RS EM TM AM SM Sem')
section
variable {cc : Nat → Nat} {h h' h1 h2 : Sto} {F F' F1 F2 : Nat → Prop} {u : U} {d : D} {us : List U} {ds : List D} {t : T} {ts : List T} {f f1 f2 fp fp' fp1 fp2 : List Nat} {env env' : Env'} {e e' : Env} {i : Nat} {q s s1 s2 : Bool} {mk : List Bool}
end
end P

set_option Elab.async false
set_option linter.all false
/-! PDefB: sorted texts, keys, locked dicts, things that are lent by a path, that are handed over. -/
namespace P
def ltL : List Nat → List Nat → Bool
  | [], [] => false
  | [], _ :: _ => true
  | _ :: _, [] => false
  | a :: r, b :: t => a < b || (a == b && ltL r t)
def insS (x : List Nat) : List (List Nat) → List (List Nat)
  | [] => [x]
  | y :: r => if ltL y x = true then y :: insS x r else x :: y :: r
def sortS (ss : List (List Nat)) : List (List Nat) := ss.foldr insS []
def strsD : List D → Option (List (List Nat))
  | [] => some []
  | .str s :: r => (strsD r).map (s :: ·)
  | _ :: _ => none
def keysS : List (DK × D) → Option (List (List Nat))
  | [] => some []
  | (.inr s, _) :: r => (keysS r).map (s :: ·)
  | _ :: _ => none
def srtS (o : Option (List (List Nat))) : Option T := match o with
  | some ss => if ss.length < 64 then some (.ls ((sortS ss).map .str)) else none
  | none => none
def gSortS : List D → Option T
  | [.lst ds] => srtS (strsD ds)
  | [.kl ds] => srtS (strsD ds)
  | _ => none
def gSortD : List D → Option T
  | [.dK kvs] => srtS (keysS kvs)
  | [.dKl kvs] => srtS (keysS kvs)
  | _ => none
def gListD : List D → Option T
  | [.dK kvs] => some (.ls (kvs.map fun p => dkD p.1))
  | [.dKl kvs] => some (.ls (kvs.map fun p => dkD p.1))
  | _ => none
/-- a dict becomes data that nobody changes any more, so that it may be walked -/
def pLk (a : PT) : PE := fun e => (a e).bind fun t e1 => match t with
  | .dK kvs => .ok (.dKl kvs) e1
  | .leaf (.dKl kvs) => .ok (.dKl kvs) e1
  | _ => .bad
/-- a call whose first argument stands at a path and is only looked at -/
def pCallBP (n : Nat) (sem : PSem) (p : Pth) (am : PDs) : PT := fun e => (p.ev e).bind fun r e1 => (am e1).bind fun ds e2 => match getP p.root r e2 with
  | some t => (match t.fz with
    | some d => (if ds.length + 1 = n then (match sem (.leaf d :: ds.map .leaf) with
      | .ok t _ => if t.flat = true then .ok t e2 else .bad
      | .exc C none => .exc C none e2
      | _ => .bad) else .bad)
    | none => .bad)
  | none => .bad
/-- a call to which things are handed over -/
def pCallO (n : Nat) (sem : PSem) (am : PTs) : PT := fun e => (am e).bind fun ts e1 => if ts.length = n then callR (sem ts) e1 else .bad
/-- one of the things in a list that is nobody's -/
def pIxT (a : PT) (b : PE) : PT := fun e => (a e).bind fun t e1 => (b e1).bind fun x e2 => match t, x with
  | .lT ts, .int i => oE (atI ts i) e2
  | _, _ => .bad
/-- what stands at a path is taken away -/
def pMvP (p : Pth) : PT := fun e => (p.ev e).bind fun r e1 => match getP p.root r e1 with
  | some .hole => .bad
  | some (.leaf d) => .ok (.leaf d) e1
  | some t => .ok t (setP p.root r .hole e1)
  | none => .bad
end P

set_option Elab.async false
set_option linter.all false
set_option maxRecDepth 100000
set_option maxHeartbeats 1000000
/-! PSY: sorted texts, keys, locked dicts, things that are lent by a path, that are handed over. -/
namespace P
open Q (U O Sto Env' R RS EM TM AM SM Sem')
section
variable {cc : Nat → Nat} {h h' h1 h2 : Sto} {F F' F1 F2 : Nat → Prop} {u v : U} {d : D} {us : List U} {ds : List D} {t : T} {ts : List T} {f f1 f2 fp fp' fp1 fp2 : List Nat} {env env' : Env'} {e e' : Env} {i : Nat} {q s s1 s2 : Bool} {mk : List Bool}
theorem ltL_is : ∀ a b, P.ltL a b = Q.ltL a b
  | [], [] => rfl
  | [], _ :: _ => rfl
  | _ :: _, [] => rfl
  | a :: r, b :: t => by unfold P.ltL Q.ltL; rw [ltL_is r t]
theorem insS_is (x : List Nat) : ∀ r, P.insS x r = Q.insS x r
  | [] => rfl
  | y :: r => by unfold P.insS Q.insS; rw [insS_is x r, ltL_is]
theorem sortS_is (ss : List (List Nat)) : P.sortS ss = Q.sortS ss := by
  unfold P.sortS Q.sortS
  rw [show P.insS = Q.insS from funext fun x => funext fun r => insS_is x r]
theorem strsU_of : ∀ {us : List U} {ds : List D} {ss : List (List Nat)}, Dns cc h F us ds → strsD ds = some ss → Q.strsU us = some ss
  | _, _, _, .nil, q => by cases q; rfl
  | _, .str s :: ds, ss, .cons x r, q => by
    simp only [strsD] at q
    obtain ⟨ms, q1, rfl⟩ := Option.map_eq_some_iff.mp q
    cases x
    simp only [Q.strsU, strsU_of r q1, Option.map]
  | _, .non :: _, _, .cons _ _, q => by cases q
  | _, .bl _ :: _, _, .cons _ _, q => by cases q
  | _, .int _ :: _, _, .cons _ _, q => by cases q
  | _, .tup _ :: _, _, .cons _ _, q => by cases q
  | _, .lst _ :: _, _, .cons _ _, q => by cases q
  | _, .kl _ :: _, _, .cons _ _, q => by cases q
  | _, .dK _ :: _, _, .cons _ _, q => by cases q
  | _, .dT _ :: _, _, .cons _ _, q => by cases q
  | _, .ins _ _ :: _, _, .cons _ _, q => by cases q
  | _, .dKl _ :: _, _, .cons _ _, q => by cases q
theorem keysS_of : ∀ {us : List (Q.DK × U)} {ds : List (DK × D)} {ss : List (List Nat)}, us.map Prod.fst = ds.map Prod.fst → keysS ds = some ss → Q.keysS us = some ss
  | [], [], _, _, q => by cases q; rfl
  | [], _ :: _, _, a, _ => by simp at a
  | _ :: _, [], _, a, _ => by simp at a
  | (i, u) :: us, (j, d) :: ds, ss, a, q => by
    rw [List.map_cons, List.map_cons] at a
    injection a with a1 a2
    cases a1
    cases i with
    | inl i => cases q
    | inr s =>
      simp only [keysS] at q
      obtain ⟨ms, q1, rfl⟩ := Option.map_eq_some_iff.mp q
      simp only [Q.keysS, keysS_of a2 q1, Option.map]
theorem dns_strs' : ∀ ss : List (List Nat), Dns cc h F (ss.map U.str) (ss.map D.str)
  | [] => .nil
  | n :: r => .cons (.str n) (dns_strs' r)
theorem op_sortS : OpL cc s Q.uSortS gSortS (RT cc) := by
  intro q h F fp env e us ds x sr r
  have go : ∀ {u : U} {us : List U} {ds : List D}, Q.aL h u = some us → Dns cc h F us ds → Out cc q (RT cc) h F fp env (Q.uSortS [u] h) (oE (srtS (strsD ds)) e) := by
    intro u us ds a r
    cases q1 : strsD ds with
    | none => trivial
    | some ss =>
      unfold Q.uSortS srtS
      simp only [a, strsU_of r q1]
      by_cases z : ss.length < 64
      · rw [if_pos z, if_pos z, sortS_is]
        exact out_new x sr (dns_strs' _)
      · rw [if_neg z, if_neg z]; trivial
  unfold gSortS
  split
  · obtain ⟨u, rfl, t⟩ := ra_one r; obtain ⟨us, a, r⟩ := t; exact go (aL_of_mL a) r
  · obtain ⟨u, rfl, t⟩ := ra_one r; cases t with | kl r => exact go rfl r
  · trivial
theorem op_sortD : OpL cc s Q.uSortD gSortD (RT cc) := by
  intro q h F fp env e us ds x sr r
  have go : ∀ {kvs : List (DK × D)} {u : U}, (Tp cc h F u (.dK kvs) ∨ Tp cc h F u (.dKl kvs)) → Out cc q (RT cc) h F fp env (Q.uSortD [u] h) (oE (srtS (keysS kvs)) e) := fun {kvs u} t => by
    obtain ⟨us, b, c, r⟩ := tp_dk t
    cases q1 : keysS kvs with
    | none => trivial
    | some ss =>
      unfold Q.uSortD srtS
      simp only [b, keysS_of c q1]
      by_cases z : ss.length < 64
      · rw [if_pos z, if_pos z, sortS_is]
        exact out_new x sr (dns_strs' _)
      · rw [if_neg z, if_neg z]; trivial
  unfold gSortD
  split
  · obtain ⟨u, rfl, t⟩ := ra_one r; exact go (.inl t)
  · obtain ⟨u, rfl, t⟩ := ra_one r; exact go (.inr t)
  · trivial
end
end P

set_option Elab.async false
set_option linter.all false
/-! PDefC: setdefault, *e in a display. -/
namespace P
/-- a change of the dict at a path -/
def pUpdD (p : Pth) (a : PDs) (g : T → List D → Option (D × T)) : PE := fun e => (p.ev e).bind fun r e1 => match getP p.root r e1 with
  | some (.dK _) => (a e1).bind fun ds e2 => (match getP p.root r e2 with
    | some t => (match g t ds with
      | some (d, s) => .ok d (setP p.root r s e2)
      | none => .bad)
    | none => .bad)
  | _ => .bad
def uSd : T → List D → Option (D × T)
  | .dK kvs, [x, d] => (match keyOf x with
    | some k => (match valK kvs k with
      | some y => some (y, .dK kvs)
      | none => if kvs.length < 16000000 then some (d, .dK (putK kvs k d)) else none)
    | none => none)
  | _, _ => none
def sqS : D → Option (List D)
  | .kl us => some us
  | .lst us => some us
  | .tup us => some us
  | _ => none
def dStar (a : PE) (b : PDs) : PDs := fun e => (a e).bind fun x e1 => match sqS x with
  | some us => (b e1).bind fun ys e2 => .ok (us ++ ys) e2
  | none => .bad
end P

set_option Elab.async false
set_option linter.all false
set_option maxRecDepth 100000
set_option maxHeartbeats 1000000
/-! PSU: setdefault, *e in a display. -/
namespace P
open Q (U O Sto Env' R RS EM TM AM SM Sem')
section
variable {cc : Nat → Nat} {h h' h1 h2 : Sto} {F F' F1 F2 : Nat → Prop} {u : U} {d : D} {us : List U} {ds : List D} {t : T} {ts : List T} {f f1 f2 fp fp' fp1 fp2 : List Nat} {env env' : Env'} {e e' : Env} {i : Nat} {q s s1 s2 : Bool} {mk : List Bool}
end
end P

set_option Elab.async false
set_option linter.all false
/-! PDefD: get of a dict, a list times a number. -/
namespace P
def gG (kvs : List (DK × D)) : List D → Option D
  | [y] => (keyOf y).map fun k => (valK kvs k).getD .non
  | [y, z] => (keyOf y).map fun k => (valK kvs k).getD z
  | _ => none
def pGet (a : PE) (b : PDs) : PE := fun e => (a e).bind fun x e1 => match x with
  | .dK kvs => (b e1).bind fun ds e2 => oE (gG kvs ds) e2
  | .dKl kvs => (b e1).bind fun ds e2 => oE (gG kvs ds) e2
  | _ => .bad
def tMulL : D → D → Option T
  | .lst us, .int k => if us.length * k.toNat ≤ 16000000 ∧ k.natAbs ≤ 1000000000 then some (.ls (List.replicate k.toNat us).flatten) else none
  | _, _ => none
def pMulL (a b : PE) : PT := fun e => (a e).bind fun x e1 => (b e1).bind fun y e2 => oE (tMulL x y) e2
end P

set_option Elab.async false
set_option linter.all false
set_option maxRecDepth 100000
set_option maxHeartbeats 1000000
/-! PSV: get of a dict, a list times a number. -/
namespace P
open Q (U O Sto Env' R RS EM TM AM SM Sem')
section
variable {cc : Nat → Nat} {h h' h1 h2 : Sto} {F F' F1 F2 : Nat → Prop} {u : U} {d : D} {us : List U} {ds : List D} {t : T} {ts : List T} {f f1 f2 fp fp' fp1 fp2 : List Nat} {env env' : Env'} {e e' : Env} {i : Nat} {q s s1 s2 : Bool} {mk : List Bool}
end
end P

set_option Elab.async false
set_option linter.all false
/-! PDefE: comprehensions of two clauses. -/
namespace P
def lcL2 (c : CT) (t : PB) (it1 : PDs) (c1 : CT) (t1 : PB) (a : PE) (vs vs1 : List Nat) : List D → List D → Env → PR (List D)
  | [], acc, e => .ok acc e
  | d :: ds, acc, e => match c.asg d (kill vs e) with
    | some e1 => (t e1).no.bind fun b e2 => if b = true then (it1 e2).no.bind fun ds1 e3 => (lcL c1 t1 a vs1 ds1 acc e3).bind fun acc e4 => lcL2 c t it1 c1 t1 a vs vs1 ds acc (kill vs1 e4)
        else lcL2 c t it1 c1 t1 a vs vs1 ds acc e2
    | none => .bad
def pLc2 (it : PDs) (c : CT) (t : PB) (it1 : PDs) (c1 : CT) (t1 : PB) (a : PE) (vs vs1 : List Nat) : PT := fun e => (it e).bind fun ds e1 => (lcL2 c t it1 c1 t1 a vs vs1 ds [] e1).bind fun r e2 => .ok (.ls r) (kill vs e2)
end P

set_option Elab.async false
set_option linter.all false
set_option maxRecDepth 100000
set_option maxHeartbeats 1000000
/-! PSW: comprehensions of two clauses. -/
namespace P
open Q (U O Sto Env' R RS EM TM AM SM Sem')
section
variable {cc : Nat → Nat} {h h' h1 h2 : Sto} {F F' F1 F2 : Nat → Prop} {u : U} {d : D} {us : List U} {ds : List D} {t : T} {ts : List T} {f f1 f2 fp fp' fp1 fp2 : List Nat} {env env' : Env'} {e e' : Env} {i : Nat} {q s s1 s2 : Bool} {mk : List Bool}
end
end P

set_option Elab.async false
set_option linter.all false
/-! PDefF: dict comprehensions of one clause; isupper; a change of a list that nobody owns. -/
namespace P
def dcL (c : CT) (t : PB) (pk pv : PE) (vs : List Nat) : List D → List (DK × D) → Env → PR (List (DK × D))
  | [], acc, e => .ok acc e
  | d :: ds, acc, e => match c.asg d (kill vs e) with
    | some e1 => (t e1).no.bind fun b e2 => if b = true then (pk e2).no.bind fun y e3 => (pv e3).no.bind fun z e4 => (match keyOf y with
        | some k => if acc.length < 16000000 then dcL c t pk pv vs ds (putK acc k z) e4 else .bad
        | none => .bad) else dcL c t pk pv vs ds acc e2
    | none => .bad
def pDc (it : PDs) (c : CT) (t : PB) (pk pv : PE) (vs : List Nat) : PT := fun e => (it e).bind fun ds e1 => (dcL c t pk pv vs ds [] e1).bind fun r e2 => .ok (.dK r) (kill vs e2)
def gUp : List Nat → Option D
  | [] => some (.bl false)
  | [c] => if c < 128 then some (.bl (decide (65 ≤ c) && decide (c ≤ 90))) else none
  | _ => none
def pSM0 (g : List Nat → Option D) (a : PE) : PE := fun e => (a e).bind fun x e1 => match x with
  | .str s => oE (g s) e1
  | _ => .bad
/-- a change of a list that the expression makes, and that nobody keeps -/
def pUpdT (o : PT) (a : PDs) (g : T → List D → Option (D × T)) : PE := fun e => (o e).bind fun t e1 => match t with
  | .ls xs => (a e1).bind fun ds e2 => (match g (.ls xs) ds with
    | some (d, _) => .ok d e2
    | none => .bad)
  | _ => .bad
/-- a dict that a slot owns is locked where it stands, and stays there as data -/
def pLkV (i : Nat) : PE := fun e => match e[i]? with
  | some (.dK kvs) => .ok (.dKl kvs) (e.set i (.leaf (.dKl kvs)))
  | some (.leaf (.dKl kvs)) => .ok (.dKl kvs) e
  | _ => .bad
end P

set_option Elab.async false
set_option linter.all false
set_option maxRecDepth 100000
set_option maxHeartbeats 1000000
/-! PSF: dict comprehensions of one clause. -/
namespace P
open Q (U O Sto Env' R RS EM TM AM SM Sem')
section
variable {cc : Nat → Nat} {h h' h1 h2 : Sto} {F F' F1 F2 : Nat → Prop} {u : U} {d : D} {us : List U} {ds : List D} {t : T} {ts : List T} {f f1 f2 fp fp' fp1 fp2 : List Nat} {env env' : Env'} {e e' : Env} {i : Nat} {q s s1 s2 : Bool} {mk : List Bool}
theorem dc_go {c : CT} {t : TM} {mK mV : EM} {pt : PB} {pk pv : PE} {vs : List Nat} {n : Nat} {env0 : Env'} (ht : Sim cc q RE t pt) (hk : Sim cc q (RD cc) mK pk) (hv : Sim cc q (RD cc) mV pv) (hc : ∀ i ∈ c.ix, i ∈ vs) :
    ∀ {us : List U} {ds : List D} {accU : List (Q.DK × U)} {accD : List (DK × D)} {ck : Q.Chk} {h : Sto} {F : Nat → Prop} {e : Env} {fp : List Nat}, Dns cc h F us ds → ChkF h F ck → h[n]? = some (.dK accU) → accU.map Prod.fst = accD.map Prod.fst → Dns cc h F (accU.map Prod.snd) (accD.map Prod.snd) → Ev cc h F env0 (kill vs e) fp → SR h F (n :: fp) →
      match dcL c pt pk pv vs ds accD e with
      | .ok r e' => ∃ h' F' f2 accU', Q.dcL ck (ctQ c) t mK mV n env0 us h = .ok (.ref n) h' ∧ h'[n]? = some (.dK accU') ∧ accU'.map Prod.fst = r.map Prod.fst ∧ Dns cc h' F' (accU'.map Prod.snd) (r.map Prod.snd) ∧ Ev cc h' F' env0 (kill vs e') f2 ∧ Fr h F (n :: fp) h' F' (n :: f2) ∧ (q = true → ∀ k, k < h.length → k ≠ n → h'[k]? = h[k]?)
      | .exc _ _ _ => False
      | .bad => True
  | _, _, accU, accD, ck, h, F, e, fp, .nil, k, hn, rk, ra, x, sr => by
    unfold dcL Q.dcL
    rw [if_pos k.ok]
    exact ⟨h, F, fp, accU, rfl, hn, rk, ra, x, Fr.refl sr, fun _ _ _ _ => rfl⟩
  | _, _, accU, accD, ck, h, F, e, fp, .cons (us := us) (ds := ds) (u := u) (d := d) y r, k, hn, rk, ra, x, sr => by
    unfold dcL
    cases q1 : c.asg d (kill vs e) with
    | none => trivial
    | some e1 =>
      obtain ⟨env1, a1, al, a2, fp1, x1, g1, p1⟩ := ct_asg x y q1
      have sr1 : SR h F (n :: fp1) := (sr.perm (p1.cons n)).sub ((List.sublist_append_right g1 fp1).cons₂ n)
      have srs : SR h F ([n] ++ fp1) := sr1
      have tt := ht h F env1 e1 fp1 x1 srs.right
      unfold Q.dcL
      rw [if_pos k.ok, a1]
      simp only
      cases q2 : pt e1 with
      | bad => trivial
      | exc C z e' => trivial
      | ok b e2 =>
        rw [q2] at tt
        obtain ⟨b', h2, F2, f3, f4, b1, ⟨rfl, rfl⟩, x2, fr2, sm2⟩ := tt
        rw [b1]
        have fr2' : Fr h F ([n] ++ fp1) h2 F2 ([n] ++ f4) := fr2.hold srs
        have keep2 : h2[n]? = h[n]? := fr2.kept srs n (List.mem_singleton.mpr rfl)
        have st2 := fr2'.stab srs
        show match (if b' = true then (pk e2).no.bind fun y e3 => (pv e3).no.bind fun z e4 => (match keyOf y with
            | some k => if accD.length < 16000000 then dcL c pt pk pv vs ds (putK accD k z) e4 else .bad
            | none => .bad) else dcL c pt pk pv vs ds accD e2) with
          | .ok r e' => ∃ h' F' f2 accU', (if b' = true then (mK env1 h2).no.bind fun y h2 => (mV env1 h2).no.bind fun z h3 => (match h3[n]?, Q.keyU y with
              | some (.dK acc), some k => if acc.length < 16000000 then Q.dcL ck (ctQ c) t mK mV n env0 us (h3.set n (.dK (Q.putD acc k z))) else .bad
              | _, _ => .bad) else Q.dcL ck (ctQ c) t mK mV n env0 us h2) = .ok (.ref n) h' ∧ h'[n]? = some (.dK accU') ∧ accU'.map Prod.fst = r.map Prod.fst ∧ Dns cc h' F' (accU'.map Prod.snd) (r.map Prod.snd) ∧ Ev cc h' F' env0 (kill vs e') f2 ∧ Fr h F (n :: fp) h' F' (n :: f2) ∧ (q = true → ∀ k, k < h.length → k ≠ n → h'[k]? = h[k]?)
          | .exc _ _ _ => False
          | .bad => True
        have fr0 : Fr h F (n :: fp) h2 F2 (n :: f4) := by
          have z : Fr h F (n :: fp) h F (n :: fp1) := (Fr.refl sr).perm (p1.cons n) |>.sub ((List.sublist_append_right g1 fp1).cons₂ n)
          exact z.trans fr2'
        have x2' : ∀ {h3 F3 e3 f5}, Ev cc h3 F3 env1 e3 f5 → ∃ f6, Ev cc h3 F3 env0 (kill vs e3) f6 ∧ ∃ f7, f5.Perm (f7 ++ f6) := fun {h3 F3 e3 f5} x => by
          obtain ⟨f6, y6, f7, p7⟩ := x.kill vs
          exact ⟨f6, y6.swapK al.symm (fun i n => (a2 i (fun z => n (hc i z))).symm), f7, p7⟩
        cases b' with
        | false =>
          rw [if_neg (by decide)]
          obtain ⟨f6, y6, f7, p7⟩ := x2' x2
          have srn : SR h2 F2 (n :: f6) := (fr2'.sr.perm (p7.cons n)).sub ((List.sublist_append_right f7 f6).cons₂ n)
          have ih := dc_go (accU := accU) (accD := accD) (ck := ck) (e := e2) ht hk hv hc (r.mono st2) (k.mono st2) (keep2.trans hn) rk (ra.mono st2) y6 srn
          cases q3 : dcL c pt pk pv vs ds accD e2 with
          | bad => trivial
          | exc C z e' => rw [q3] at ih; exact ih.elim
          | ok rr e' =>
            rw [q3] at ih
            obtain ⟨h', F', g2, accU', c1, c2, ck2, c3, c4, c5, c6⟩ := ih
            rw [if_neg (by decide)]
            refine ⟨h', F', g2, accU', c1, c2, ck2, c3, c4, (fr0.perm (p7.cons n) |>.sub ((List.sublist_append_right f7 f6).cons₂ n)).trans c5, fun z k1 l1 n1 => ?_⟩
            rw [c6 z k1 (Nat.lt_of_lt_of_le l1 fr2.len) n1, sm2 z k1 l1]
        | true =>
          rw [if_pos rfl]
          have ee := hk h2 F2 env1 e2 f4 x2 fr2'.sr.right
          cases q3 : pk e2 with
          | bad => trivial
          | exc C z e' => trivial
          | ok yk e3 =>
            rw [q3] at ee
            obtain ⟨uk, h3, F3, f5, f8, d1, ⟨rfl, d2⟩, x3, fr3, sm3⟩ := ee
            have fr3' : Fr h2 F2 ([n] ++ f4) h3 F3 ([n] ++ f8) := fr3.hold fr2'.sr
            have keep3 : h3[n]? = h2[n]? := fr3.kept fr2'.sr n (List.mem_singleton.mpr rfl)
            have st3 := fr3'.stab fr2'.sr
            have sr3 : SR h3 F3 ([n] ++ f8) := fr3'.sr
            have vv := hv h3 F3 env1 e3 f8 x3 sr3.right
            show match ((pv e3).no.bind fun z e4 => (match keyOf yk with
                | some k => if accD.length < 16000000 then dcL c pt pk pv vs ds (putK accD k z) e4 else .bad
                | none => .bad)) with
              | .ok r e' => _
              | .exc _ _ _ => False
              | .bad => True
            cases q5 : pv e3 with
            | bad => trivial
            | exc C z e' => trivial
            | ok yv e4 =>
              rw [q5] at vv
              obtain ⟨uv, h4, F4, f9, f10, d4, ⟨rfl, d5⟩, x4, fr4, sm4⟩ := vv
              have fr4' : Fr h3 F3 ([n] ++ f8) h4 F4 ([n] ++ f10) := fr4.hold sr3
              have keep4 : h4[n]? = h3[n]? := fr4.kept sr3 n (List.mem_singleton.mpr rfl)
              have st4 := fr4'.stab sr3
              have hn4 : h4[n]? = some (.dK accU) := ((keep4.trans keep3).trans keep2).trans hn
              show match (match keyOf yk with
                  | some k => if accD.length < 16000000 then dcL c pt pk pv vs ds (putK accD k yv) e4 else .bad
                  | none => .bad) with
                | .ok r e' => _
                | .exc _ _ _ => False
                | .bad => True
              cases q6 : keyOf yk with
              | none => trivial
              | some key =>
                simp only
                by_cases hz : accD.length < 16000000
                case neg => rw [if_neg hz]; trivial
                rw [if_pos hz]
                have lenA : accU.length = accD.length := by simpa using congrArg List.length rk
                have hl : n < h4.length := (List.getElem?_eq_some_iff.mp hn4).1
                have sr4 : SR h4 F4 ([n] ++ f10) := fr4'.sr
                have frs : Fr h4 F4 ([n] ++ f10) (h4.set n (.dK (Q.putD accU key uv))) F4 ([n] ++ f10) := Fr.set sr4 (List.mem_append_left _ (List.mem_singleton.mpr rfl)) _
                have sts := frs.stab sr4
                obtain ⟨f6, y6, f7, p7⟩ := x2' (x4.mono sts (Keep.set _ (fun m => (List.nodup_append.mp sr4.nd).2.2 n (List.mem_singleton.mpr rfl) n m rfl)))
                have srn : SR (h4.set n (.dK (Q.putD accU key uv))) F4 (n :: f6) := (frs.sr.perm (p7.cons n)).sub ((List.sublist_append_right f7 f6).cons₂ n)
                have sta := ((st2.trans st3).trans st4).trans sts
                obtain ⟨rk2, ra2⟩ := put_rel key (d5.mono sts) rk (ra.mono sta)
                have ih := dc_go (accU := Q.putD accU key uv) (accD := putK accD key yv) (ck := ck) (e := e4) ht hk hv hc (r.mono sta) (k.mono sta) (List.getElem?_set_self hl) rk2 ra2 y6 srn
                cases q4 : dcL c pt pk pv vs ds (putK accD key yv) e4 with
                | bad => trivial
                | exc C z e' => rw [q4] at ih; exact ih.elim
                | ok rr e' =>
                  rw [q4] at ih
                  obtain ⟨h', F', g2, accU', c1, c2, ck2, c3, c4, c5, c6⟩ := ih
                  refine ⟨h', F', g2, accU', ?_, c2, ck2, c3, c4, ((((fr0.trans fr3').trans fr4').trans frs).perm (p7.cons n) |>.sub ((List.sublist_append_right f7 f6).cons₂ n)).trans c5, fun z k1 l1 n1 => ?_⟩
                  · rw [if_pos True.intro, d1]
                    show ((mV env1 h3).no.bind fun z h3 => (match h3[n]?, Q.keyU uk with
                      | some (.dK acc), some k => if acc.length < 16000000 then Q.dcL ck (ctQ c) t mK mV n env0 us (h3.set n (.dK (Q.putD acc k z))) else .bad
                      | _, _ => .bad)) = _
                    rw [d4]
                    show (match h4[n]?, Q.keyU uk with
                      | some (.dK acc), some k => if acc.length < 16000000 then Q.dcL ck (ctQ c) t mK mV n env0 us (h4.set n (.dK (Q.putD acc k uv))) else .bad
                      | _, _ => .bad) = _
                    rw [hn4, keyU_of d2 q6]
                    simp only
                    rw [if_pos (by rw [lenA]; exact hz)]
                    exact c1
                  · have l2 : k1 < h2.length := Nat.lt_of_lt_of_le l1 fr2.len
                    have l3 : k1 < h3.length := Nat.lt_of_lt_of_le l2 fr3.len
                    have l4 : k1 < h4.length := Nat.lt_of_lt_of_le l3 fr4.len
                    rw [c6 z k1 (by simpa using l4) n1, List.getElem?_set_ne (Ne.symm n1), sm4 z k1 l3, sm3 z k1 l2, sm2 z k1 l1]
theorem sim_dc {mi : Q.IM'} {pi : PDs} {c : CT} {t : TM} {mK mV : EM} {pt : PB} {pk pv : PE} {vs : List Nat} (hi : Sim cc q (RI cc) mi pi) (ht : Sim cc q RE t pt) (hk : Sim cc q (RD cc) mK pk) (hv : Sim cc q (RD cc) mV pv) (hc : ∀ i ∈ c.ix, i ∈ vs) :
    Sim cc q (RT cc) (Q.mDc mi (ctQ c) t mK mV vs) (pDc pi c pt pk pv vs) := fun h F env e fp x sr =>
  Out.bind0 sr (hi h F env e fp x sr) (fun z ds h1 F1 e1 f2 r1 x1 sr1 st sm => by
    obtain ⟨ck, us⟩ := z
    obtain ⟨_, r, kf⟩ := r1
    show Out cc q (RT cc) h1 F1 f2 env (Q.dcL ck (ctQ c) t mK mV h1.length (Q.wipeE env vs) us (h1 ++ [.dK []])) ((dcL c pt pk pv vs ds [] e1).bind fun r e2 => .ok (.dK r) (kill vs e2))
    have sta := Stab.app sr1 [O.dK []]
    obtain ⟨f6, y6, f7, p7⟩ := (x1.mono sta (Keep.app sr1 _)).kill vs
    have y7 := y6.swapK (wipe_len vs env) (fun i n => wipe_get vs env i n)
    have fra := Fr.app sr1 (O.dK [])
    have frs : Fr h1 F1 f2 (h1 ++ [.dK []]) F1 (h1.length :: f6) := (fra.perm (p7.cons _)).sub ((List.sublist_append_right f7 f6).cons₂ _)
    have go := dc_go (c := c) (vs := vs) (n := h1.length) (env0 := Q.wipeE env vs) (accU := []) (accD := []) (e := e1) (q := q) ht hk hv hc (r.mono sta) (ChkF.mono kf sta) (by rw [List.getElem?_append_right (Nat.le_refl _), Nat.sub_self]; rfl) rfl .nil y7 frs.sr
    cases q1 : dcL c pt pk pv vs ds [] e1 with
    | bad => trivial
    | exc C z e' => rw [q1] at go; exact go.elim
    | ok rr e' =>
      rw [q1] at go
      obtain ⟨h', F', g2, accU', c1, c2, ck2, c3, c4, c5, c6⟩ := go
      refine ⟨_, h', F', [h1.length], g2, c1, .dK c2 ck2 c3, c4.swapK (wipe_len vs env).symm (fun i n => (wipe_get vs env i n).symm), frs.trans c5, fun z k l => ?_⟩
      rw [c6 z k (by simp; omega) (by omega), List.getElem?_append_left l]) ri_nil
end
end P

set_option Elab.async false
set_option linter.all false
/-! PDefG: great numbers, a tuple times a number, str of a truth, lower, split, replace, what is never reached. -/
namespace P
def cMulW (i j : Int) : Prop := i.natAbs.log2 + j.natAbs.log2 < 1000000
instance : ∀ i j, Decidable (cMulW i j) := fun i j => by unfold cMulW; exact inferInstance
def cDivW (j : Int) : Prop := 0 < j ∧ j.natAbs.log2 < 9000
instance : ∀ j, Decidable (cDivW j) := fun j => by unfold cDivW; exact inferInstance
def gMulW : D → D → Option D
  | .int i, .int j => if cMulW i j then some (.int (i * j)) else none
  | _, _ => none
def gDivW : D → D → Option D
  | .int i, .int j => if cDivW j then some (.int (i / j)) else none
  | _, _ => none
def gMulT : D → D → Option D
  | .tup us, .int k => if 0 < us.length ∧ 2 ≤ k ∧ k ≤ 1000 ∧ us.length ≤ 1000 then some (.tup (List.replicate k.toNat us).flatten) else none
  | _, _ => none
def kTrue : List Nat := [84, 114, 117, 101]
def kFalse : List Nat := [70, 97, 108, 115, 101]
def gStrV : List D → Option D
  | [.int i] => if i.natAbs.log2 < 1920 then some (.str (sInt i)) else none
  | [.bl b] => some (.str (if b = true then kTrue else kFalse))
  | _ => none
def gLow (s : List Nat) : Option D := if s = kTrue then some (.str [116, 114, 117, 101]) else if s = kFalse then some (.str [102, 97, 108, 115, 101]) else none
def splitC (c : Nat) : List Nat → List (List Nat)
  | [] => [[]]
  | x :: r => if x = c then [] :: splitC c r else match splitC c r with
    | p :: ps => (x :: p) :: ps
    | [] => [[x]]
def gSplit (s : List Nat) : D → Option T
  | .str [c] => if s.length ≤ 16000000 then some (.ls ((splitC c s).map .str)) else none
  | _ => none
/-- a text's method of one argument that gives a new list -/
def pSM1T (g : List Nat → D → Option T) (a b : PE) : PT := fun e => (a e).bind fun x e1 => match x with
  | .str s => (b e1).bind fun y e2 => oE (g s y) e2
  | _ => .bad
def replC (c : Nat) (z s : List Nat) : List Nat := s.flatMap fun x => if x = c then z else [x]
def pRepA (d : List Nat) (c : Nat) (z : List Nat) (a : PE) : PE := fun e => (a e).bind fun x e1 => match x with
  | .str s => if s.length * (z.length + 1) + z.length + d.length ≤ 1000000 then .ok (.str (d ++ replC c z s)) e1 else .bad
  | _ => .bad
def uExtT : T → List D → Option (D × T)
  | .ls us, [.tup ds] => if us.length + ds.length ≤ 16000000 then some (.non, .ls (us ++ ds)) else none
  | _, _ => none
def cEqE : D → D → Option Bool
  | .tup us, .tup [] => some us.isEmpty
  | _, _ => none
def pBadE : PE := fun _ => .bad
def pBadT : PT := fun _ => .bad
def sBad : PS := fun _ => .bad
def pBadD : PDs := fun _ => .bad
end P

set_option Elab.async false
set_option linter.all false
set_option maxRecDepth 100000
set_option maxHeartbeats 1000000
/-! PSG: great numbers, a tuple times a number, str of a truth, lower, split, replace, what is never reached. -/
namespace P
open Q (U O Sto Env' R RS EM TM AM SM Sem')
section
variable {cc : Nat → Nat} {h h' h1 h2 : Sto} {F F' F1 F2 : Nat → Prop} {u : U} {d : D} {us : List U} {ds : List D} {t : T} {ts : List T} {f f1 f2 fp fp' fp1 fp2 : List Nat} {env env' : Env'} {e e' : Env} {i : Nat} {q s s1 s2 : Bool} {mk : List Bool}
end
end P

set_option Elab.async false
set_option linter.all false
/-! PDefH: sorted of pairs of a number and a list of texts, d.update(e), {**d, k: v}, (n, s) <= (m, t). -/
namespace P
abbrev IS := Int × List (List Nat)
def leIS (a b : IS) : Bool := decide (a.1 < b.1 ∨ (a.1 = b.1 ∧ a.2 ≤ b.2))
def keyIS : D → Option IS
  | .tup [.int n, .lst xs] => (strsD xs).map fun ss => (n, ss)
  | _ => none
def keysT : List D → Option (List IS)
  | [] => some []
  | x :: r => match keyIS x, keysT r with
    | some k, some ks => some (k :: ks)
    | _, _ => none
def srtT (ds : List D) (ks : List IS) : List D := ((ds.zip ks).mergeSort fun p q => leIS p.2 q.2).map Prod.fst
def gSortT : List D → Option T
  | [.lst ds] => (keysT ds).map fun ks => .ls (srtT ds ks)
  | _ => none
def uUpd : T → List D → Option (D × T)
  | .dK kvs, [.dK more] => if kvs.length + more.length ≤ 16000000 then some (.non, .dK (mergeP kvs more)) else none
  | _, _ => none
def sDK : D → Option (List (DK × D))
  | .dK kvs => some kvs
  | .dKl kvs => some kvs
  | _ => none
def pStar (pd pk pv : PE) : PT := fun e => (pd e).bind fun d e1 => match sDK d with
  | some kvs => if kvs.length ≤ 16000000 then (pk e1).bind fun x e2 => (pv e2).bind fun y e3 => (match keyOf x with
      | some k => if (mergeP [] kvs).length < 16000000 then .ok (.dK (putK (mergeP [] kvs) k y)) e3 else .bad
      | none => .bad) else .bad
  | none => .bad
def cLeP : D → D → Option Bool
  | .tup [.int n, .str p], .tup [.int m, .str q] => some (decide (n < m ∨ (n = m ∧ p ≤ q)))
  | _, _ => none
end P

set_option Elab.async false
set_option linter.all false
set_option maxRecDepth 100000
set_option maxHeartbeats 1000000
/-! PSH: sorted of pairs of a number and a list of texts, d.update(e), {**d, k: v}, (n, s) <= (m, t). -/
namespace P
open Q (U O Sto Env' R RS EM TM AM SM Sem')
section
variable {cc : Nat → Nat} {h h' h1 h2 : Sto} {F F' F1 F2 : Nat → Prop} {u : U} {d : D} {us : List U} {ds : List D} {t : T} {ts : List T} {f f1 f2 fp fp' fp1 fp2 : List Nat} {env env' : Env'} {e e' : Env} {i : Nat} {q s s1 s2 : Bool} {mk : List Bool}
theorem cmp_leP : CmpD cc Q.cLeP P.cLeP := fun h F u1 d1 u2 d2 b t1 t2 e => by
  unfold P.cLeP at e
  split at e
  · cases e
    cases t1 with
    | tup r1 =>
    cases t2 with
    | tup r2 =>
    cases r1 with
    | cons a1 a2 =>
    cases a2 with
    | cons a3 a4 =>
    cases a4
    cases r2 with
    | cons b1 b2 =>
    cases b2 with
    | cons b3 b4 =>
    cases b4
    cases a1
    cases a3
    cases b1
    cases b3
    rfl
  · cases e
theorem key_rel {k : IS} (r : Dn cc h F u d) (e : keyIS d = some k) : Q.keyIS h u = some k := by
  unfold keyIS at e
  split at e
  · rename_i n xs
    cases r with
    | tup r =>
    cases r with
    | cons a1 a2 =>
    cases a2 with
    | cons a3 a4 =>
    cases a4
    cases a1
    cases q1 : strsD xs with
    | none => rw [q1] at e; cases e
    | some ss =>
      rw [q1] at e
      cases e
      rename_i u3
      obtain ⟨us, b1, b2⟩ := a3.tp
      unfold Q.keyIS
      simp only [aL_of_mL b1, strsU_of b2 q1]
  · cases e
theorem keys_rel : ∀ {us : List U} {ds : List D} {ks : List IS}, Dns cc h F us ds → keysT ds = some ks → Q.keysT h us = some ks ∧ ks.length = ds.length
  | _, _, _, .nil, e => by cases e; exact ⟨rfl, rfl⟩
  | _, _, _, .cons x r, e => by
    unfold keysT at e
    split at e
    · rename_i k ks e1 e2
      cases e
      obtain ⟨a, b⟩ := keys_rel r e2
      refine ⟨?_, by simp [b]⟩
      unfold Q.keysT
      rw [key_rel x e1, a]
    · cases e
theorem dns_cs : ∀ {cs : List ((U × D) × IS)}, (∀ c ∈ cs, Dn cc h F c.1.1 c.1.2) → Dns cc h F (cs.map fun c => c.1.1) (cs.map fun c => c.1.2)
  | [], _ => .nil
  | b :: bs, hb => .cons (hb b (.head _)) (dns_cs fun c m => hb c (.tail _ m))
theorem dns_zip : ∀ {us : List U} {ds : List D} {ks : List IS}, Dns cc h F us ds → ks.length = ds.length → ∃ cs : List ((U × D) × IS), cs.map (fun c => c.1.1) = us ∧ cs.map (fun c => c.1.2) = ds ∧ cs.map Prod.snd = ks ∧ ∀ c ∈ cs, Dn cc h F c.1.1 c.1.2
  | _, _, [], .nil, _ => ⟨[], rfl, rfl, rfl, by simp⟩
  | _, _, _ :: _, .nil, e => by simp at e
  | _, _, [], .cons _ _, e => by simp at e
  | _, _, k :: ks, .cons (u := u) (d := d) x r, e => by
    obtain ⟨cs, f1, f2, f3, hc⟩ := dns_zip r (by simpa using e)
    exact ⟨((u, d), k) :: cs, by simp [f1], by simp [f2], by simp [f3], fun c m => (List.mem_cons.mp m).elim (fun z => by subst z; exact x) (hc c)⟩
theorem srt_rel {ks : List IS} (r : Dns cc h F us ds) (e : ks.length = ds.length) : Dns cc h F (Q.srtT us ks) (srtT ds ks) := by
  obtain ⟨cs, f1, f2, f3, hc⟩ := dns_zip r e
  have := dns_cs (cs := cs.mergeSort fun p q => leIS p.2 q.2) (cc := cc) (h := h) (F := F) fun b m => hc b (List.mem_mergeSort.mp m)
  have z1 : ((cs.map fun c => (c.1.1, c.2)).mergeSort fun p q : U × IS => Q.leIS p.2 q.2) = (cs.mergeSort fun p q => leIS p.2 q.2).map fun c => (c.1.1, c.2) := by
    rw [List.map_mergeSort]; intros; rfl
  have z2 : ((cs.map fun c => (c.1.2, c.2)).mergeSort fun p q : D × IS => leIS p.2 q.2) = (cs.mergeSort fun p q => leIS p.2 q.2).map fun c => (c.1.2, c.2) := by
    rw [List.map_mergeSort]; intros; rfl
  unfold Q.srtT srtT
  rw [← f1, ← f2, ← f3, Q.zip_map, Q.zip_map, z1, z2, List.map_map, List.map_map]
  exact this
theorem op_sortT : OpL cc s Q.uSortT gSortT (RT cc) := by
  intro q h F fp env e us ds x sr r
  unfold gSortT
  split
  · rename_i xs
    obtain ⟨u, rfl, t⟩ := ra_one r
    obtain ⟨us, a, r⟩ := t
    cases q1 : keysT xs with
    | none => trivial
    | some ks =>
      obtain ⟨b1, b2⟩ := keys_rel r q1
      unfold Q.uSortT
      simp only [aL_of_mL a, b1]
      exact out_new x sr (srt_rel r b2)
  · trivial
/-! ### d.update(e) -/
theorem sim_updDict {m : EM} {p : Pth} {am : AM} {pa : PDs} (a : SimP cc m p) (b : Sim cc q (RDs cc) am pa) (z : p.isVar = true ∨ q = true) : Sim cc false (RD cc) (Q.mDM Q.uUpd m am) (pUpdD p pa P.uUpd) := fun h F env e fp x sr =>
  Out.bind0 sr (Out.anyQ (a h F env e fp x sr)) (fun u r h1 F1 e1 f2 r1 x1 sr1 st sm => by
    obtain ⟨_, ⟨o, b1, b2⟩, b3⟩ := r1
    cases q1 : getP p.root r e1 with
    | none => trivial
    | some t =>
      cases t with
      | dK xs =>
        have al : Q.isDK h1 u = true := by
          obtain ⟨o', v, g1, g2, c1, c2, c3, _⟩ := x1.pt q1 (fun z => by cases z)
          rw [b1] at c1; cases c1
          rw [b2] at c2; cases c2
          cases c3 with
          | dK e k r => simp only [Q.isDK, e]
        rw [if_pos al]
        refine Out.bind0 sr1 (path_later b2 b3 z (b h1 F1 env e1 f2 x1 sr1)) (fun us ds h2 F2 e2 f3 r2 x2 sr2 st2 sm2 => ?_) (fun _ _ _ _ _ x => x.1.1)
        obtain ⟨ra, b2⟩ := r2
        cases q2 : getP p.root r e2 with
        | none => trivial
        | some t =>
          simp only
          cases q3 : P.uUpd t ds with
          | none => trivial
          | some dt =>
            obtain ⟨d, t'⟩ := dt
            simp only
            unfold P.uUpd at q3
            split at q3
            case h_2 => cases q3
            rename_i kvs more
            split at q3
            case isFalse => cases q3
            rename_i hz
            cases q3
            obtain ⟨o', v, g1, g2, c1, c2, c3, c4, c5⟩ := x2.pt q2 (fun z => by cases z)
            rw [b1] at c1; cases c1
            rw [b2] at c2; cases c2
            obtain ⟨_, rd⟩ := ra
            cases rd with
            | cons y1 y2 =>
            cases y2
            cases c3 with
            | @dK n ys _ en kk rr =>
            cases y1 with
            | @dK n2 ws _ fn e3 k3 r3 =>
              have sr3 := sr2.perm c4
              have hne : Q.isRefTo n (U.ref n2) = false := by
                simp only [Q.isRefTo, beq_eq_false_iff_ne, ne_eq]
                intro e; subst e
                exact sr3.fF n2 (List.mem_append_left _ (List.mem_singleton.mpr rfl)) fn
              have ql : ys.length = kvs.length := by simpa using congrArg List.length kk
              have ql2 : ws.length = more.length := by simpa using congrArg List.length k3
              obtain ⟨k1, k2⟩ := merge_rel k3 r3 kk rr
              have e4 : Q.uUpd (.ref n) [.ref n2] h2 = .ok .non (h2.set n (.dK (Q.mergeD ys ws))) := by
                unfold Q.uUpd
                simp only [en, Q.aDK, e3]
                rw [if_pos ⟨hne, by rw [ql, ql2]; exact hz⟩]
              rw [e4]
              have st := Stab.set sr3 (List.mem_append_left _ (List.mem_singleton.mpr rfl)) (O.dK (Q.mergeD ys ws))
              exact out_set sr2 c4 (List.mem_singleton.mpr rfl) (c5 rfl) (.dK (by rw [List.getElem?_set_self (List.getElem?_eq_some_iff.mp en).1]) k1 (k2.mono st)) (List.Sublist.refl _) ⟨rfl, .non⟩
      | _ => trivial) rp_nil
/-! ### {**d, k: v} -/
theorem Out.app0 {α β : Type} {R2 : Sto → (Nat → Prop) → α → β → List Nat → Prop} {r : R α} {k : PR β} (sr : SR h F fp) (o : O) (x : Out cc false R2 (h ++ [o]) F (h.length :: fp) env r k) : Out cc false R2 h F fp env r k := by
  cases k with
  | bad => trivial
  | exc C x' e' =>
    obtain ⟨n, h', F', f3, a1, a2, a3, a4⟩ := x
    exact ⟨n, h', F', f3, a1, a2, (Fr.app sr o).trans a3, a4⟩
  | ok b e' =>
    obtain ⟨a, h', F', f3, f4, a1, a2, a3, a4, a5⟩ := x
    exact ⟨a, h', F', f3, f4, a1, a2, a3, (Fr.app sr o).trans a4, fun z => nomatch z⟩
theorem Out.set0 {α β : Type} {R2 : Sto → (Nat → Prop) → α → β → List Nat → Prop} {r : R α} {k : PR β} {n : Nat} (sr : SR h F fp) (m : n ∈ fp) (o : O) (x : Out cc false R2 (h.set n o) F fp env r k) : Out cc false R2 h F fp env r k := by
  cases k with
  | bad => trivial
  | exc C x' e' =>
    obtain ⟨n, h', F', f3, a1, a2, a3, a4⟩ := x
    exact ⟨n, h', F', f3, a1, a2, (Fr.set sr m o).trans a3, a4⟩
  | ok b e' =>
    obtain ⟨a, h', F', f3, f4, a1, a2, a3, a4, a5⟩ := x
    exact ⟨a, h', F', f3, f4, a1, a2, a3, (Fr.set sr m o).trans a4, fun z => nomatch z⟩
theorem Out.noQ {α β : Type} {R2 : Sto → (Nat → Prop) → α → β → List Nat → Prop} {r : R α} {k : PR β} (x : Out cc q R2 h F fp env r k) : Out cc false R2 h F fp env r k := by
  cases k with
  | bad => trivial
  | exc C x' e' => exact x
  | ok b e' =>
    obtain ⟨a, h', F', f3, f4, a1, a2, a3, a4, a5⟩ := x
    exact ⟨a, h', F', f3, f4, a1, a2, a3, a4, fun z => nomatch z⟩
/-- evaluated while the objects of f1 are held -/
theorem out_held {α β : Type} {R1 : Sto → (Nat → Prop) → α → β → List Nat → Prop} {γ δ : Type} {R2 : Sto → (Nat → Prop) → γ → δ → List Nat → Prop} {r : R α} {k : PR β} {g : α → Sto → R γ} {p : β → Env → PR δ} (sr : SR h F (f1 ++ f2)) (o : Out cc q R1 h F f2 env r k)
    (n : ∀ a b h F f, R1 h F a b f → f = [])
    (z : ∀ a b h' F' e1 f3, R1 h' F' a b [] → Keep f1 h h' → Stab h F h' F' → Ev cc h' F' env e1 f3 → SR h' F' (f1 ++ f3) → Out cc false R2 h' F' (f1 ++ f3) env (g a h') (p b e1)) : Out cc false R2 h F (f1 ++ f2) env (r.bind g) (k.bind p) := by
  have o1 := (Out.noQ o).hold sr (R3 := fun h' F' a b f => f = f1 ∧ R1 h' F' a b [] ∧ Keep f1 h h' ∧ Stab h F h' F') (fun a b h' F' f' r st kp => by
    have := n a b h' F' f' r
    subst this
    exact ⟨by simp, r, kp, st⟩)
  refine Out.bind o1 fun a b h1 F1 e1 g1 g2 r1 x1 fr sm => ?_
  obtain ⟨rfl, r1, kp, st⟩ := r1
  exact z a b h1 F1 e1 g2 r1 kp st x1 fr.sr
theorem sim_star {q1 q2 q3 : Bool} {md mk mv : EM} {pd pk pv : PE} (a : Sim cc q1 (RD cc) md pd) (b : Sim cc q2 (RD cc) mk pk) (c : Sim cc q3 (RD cc) mv pv) : Sim cc false (RT cc) (Q.mStar md mk mv) (pStar pd pk pv) := fun h F env e fp x sr => by
  have sr0 : SR (h ++ [O.dK []]) F ([h.length] ++ fp) := SR.app sr _
  have x0 := x.mono (Stab.app sr [O.dK []]) (Keep.app sr _)
  refine Out.app0 sr (O.dK []) ?_
  unfold Q.mStar pStar
  refine out_held (f1 := [h.length]) sr0 (a _ F env e fp x0 sr0.right) rd_nil fun u d h1 F1 e1 f3 r1 kp st x1 sr1 => ?_
  have en : h1[h.length]? = some (.dK []) := by rw [kp _ (List.mem_singleton.mpr rfl), List.getElem?_append_right (Nat.le_refl _), Nat.sub_self]; rfl
  cases qd : sDK d with
  | none => trivial
  | some kvs =>
    have dn := r1.2
    obtain ⟨n2, ws, rfl, fn, e2, k2, r2⟩ : ∃ n2 ws, u = .ref n2 ∧ F1 n2 ∧ Q.aDK h1 (.ref n2) = some ws ∧ ws.map Prod.fst = kvs.map Prod.fst ∧ Dns cc h1 F1 (ws.map Prod.snd) (kvs.map Prod.snd) := by
      cases d with
      | dK z => cases qd; cases dn with | dK f e k r => exact ⟨_, _, rfl, f, by simp only [Q.aDK, e], k, r⟩
      | dKl z => cases qd; cases dn with | dKl f e k r => exact ⟨_, _, rfl, f, by simp only [Q.aDK, e], k, r⟩
      | _ => cases qd
    have ql : ws.length = kvs.length := by simpa using congrArg List.length k2
    have hne : Q.isRefTo h.length (U.ref n2) = false := by
      simp only [Q.isRefTo, beq_eq_false_iff_ne, ne_eq]
      intro e; subst e
      exact sr1.fF _ (List.mem_append_left _ (List.mem_singleton.mpr rfl)) fn
    simp only [e2, en]
    by_cases hz : kvs.length ≤ 16000000
    · rw [if_pos hz, if_pos ⟨hne, by rw [ql]; exact hz⟩]
      have m0 : h.length ∈ [h.length] ++ f3 := List.mem_append_left _ (List.mem_singleton.mpr rfl)
      have nn : h.length ∉ f3 := fun m => (List.nodup_append.mp sr1.nd).2.2 _ (List.mem_singleton.mpr rfl) _ m rfl
      obtain ⟨c1, c2⟩ := merge_rel (us := []) (ds := []) k2 r2 rfl .nil
      have st1 := Stab.set sr1 m0 (O.dK (Q.mergeD [] ws))
      refine Out.set0 sr1 m0 (O.dK (Q.mergeD [] ws)) ?_
      have sr2 := (Fr.set sr1 m0 (O.dK (Q.mergeD [] ws))).sr
      have x2 := x1.mono st1 (Keep.set _ nn)
      have c3 := c2.mono st1
      have l2 : (h1.set h.length (O.dK (Q.mergeD [] ws))).length = h1.length := by simp
      have g2 : (h1.set h.length (O.dK (Q.mergeD [] ws)))[h.length]? = some (.dK (Q.mergeD [] ws)) := by rw [List.getElem?_set_self (List.getElem?_eq_some_iff.mp en).1]
      generalize h1.set h.length (O.dK (Q.mergeD [] ws)) = hA at *
      refine Out.app0 sr2 (O.dK []) ?_
      have sr3 : SR (hA ++ [O.dK []]) F1 ([hA.length, h.length] ++ f3) := SR.app sr2 _
      have x3 := x2.mono (Stab.app sr2 [O.dK []]) (Keep.app sr2.right [O.dK []])
      have g3 : (hA ++ [O.dK []])[h.length]? = some (.dK (Q.mergeD [] ws)) := by rw [List.getElem?_append_left (List.getElem?_eq_some_iff.mp g2).1]; exact g2
      have g4 : (hA ++ [O.dK []])[hA.length]? = some (.dK []) := by rw [List.getElem?_append_right (Nat.le_refl _), Nat.sub_self]; rfl
      have c4 := c3.mono (Stab.app sr2 [O.dK []])
      refine out_held (f1 := [hA.length, h.length]) sr3 (b _ F1 env e1 f3 x3 sr3.right) rd_nil fun u3 d3 hB F3 e3 f4 r3 kp3 st3 x4 sr4 => ?_
      refine out_held (f1 := [hA.length, h.length]) sr4 (c _ F3 env e3 f4 x4 sr4.right) rd_nil fun u4 d4 hC F4 e4 f5 r4 kp4 st4 x5 sr5 => ?_
      have g5 : hC[h.length]? = some (.dK (Q.mergeD [] ws)) := by rw [kp4 _ (by simp), kp3 _ (by simp)]; exact g3
      have g6 : hC[hA.length]? = some (.dK []) := by rw [kp4 _ (by simp), kp3 _ (by simp)]; exact g4
      have c5 := (c4.mono st3).mono st4
      have y3 := r3.2.mono st4
      have y4 := r4.2
      cases qk : keyOf d3 with
      | none => trivial
      | some k =>
        have ku := keyU_of y3 qk
        have qm : (Q.mergeD [] ws).length = (mergeP [] kvs).length := by simpa using congrArg List.length c1
        rw [← l2]
        simp only [ku, g5, g6]
        by_cases hz2 : (mergeP [] kvs).length < 16000000
        · rw [if_pos hz2, if_pos (by rw [qm]; exact hz2)]
          have hlt : h.length ≠ hA.length := fun e => by
            have := (List.nodup_cons.mp (List.nodup_append.mp sr5.nd).1).1
            exact this (by rw [← e]; simp)
          have mA : hA.length ∈ [hA.length, h.length] ++ f5 := by simp
          have mB : h.length ∈ [hA.length, h.length] ++ f5 := by simp
          have nA : hA.length ∉ f5 := fun m => (List.nodup_append.mp sr5.nd).2.2 hA.length (by simp) _ m rfl
          have nB : h.length ∉ f5 := fun m => (List.nodup_append.mp sr5.nd).2.2 h.length (by simp) _ m rfl
          obtain ⟨k1, k2⟩ := put_rel k y4 c1 c5
          have fr1 := Fr.set sr5 mA (O.dK [(k, u4)])
          have fr2 := Fr.set fr1.sr mB (O.dK (Q.putD (Q.mergeD [] ws) k u4))
          have s1 := Stab.set sr5 mA (O.dK [(k, u4)])
          have s2 := Stab.set fr1.sr mB (O.dK (Q.putD (Q.mergeD [] ws) k u4))
          refine ⟨_, _, F4, [h.length], f5, rfl, .dK ?_ k1 ((k2.mono s1).mono s2), (x5.mono s1 (Keep.set _ nA)).mono s2 (Keep.set _ nB), (fr1.trans fr2).sub (List.sublist_cons_self _ _), fun z => nomatch z⟩
          rw [List.getElem?_set_self (by simp; exact (List.getElem?_eq_some_iff.mp g5).1)]
        · rw [if_neg hz2, if_neg (by rw [qm]; exact hz2)]; trivial
    · rw [if_neg hz, if_neg (by rw [ql]; exact fun z => hz z.2)]; trivial
end
end P

set_option Elab.async false
set_option linter.all false
set_option maxRecDepth 100000
set_option maxHeartbeats 1000000
/-! PLem: how pure meanings are reckoned. -/
namespace P
section
variable {α β : Type} {a : α} {e e1 e2 : Env} {d x y : D} {ds us : List D} {i j : Int} {k n : Nat} {t : T} {ts : List T} {C : Nat}
@[simp] theorem r_ok {f : α → Env → PR β} : (PR.ok a e).bind f = f a e := rfl
@[simp] theorem r_exc {z : Option (List (String × D))} {f : α → Env → PR β} : (PR.exc C z e : PR α).bind f = .exc C z e := rfl
@[simp] theorem r_bad {f : α → Env → PR β} : (PR.bad : PR α).bind f = .bad := rfl
@[simp] theorem r_st {f : α → Env → PRS} : (PR.ok a e).st f = f a e := rfl
@[simp] theorem r_stx {z : Option (List (String × D))} {f : α → Env → PRS} : (PR.exc C z e : PR α).st f = .ex C z e := rfl
@[simp] theorem r_stb {f : α → Env → PRS} : (PR.bad : PR α).st f = .bad := rfl
@[simp] theorem r_no : (PR.ok a e).no = .ok a e := rfl
@[simp] theorem r_snx : (PRS.nx e).no = .nx e := rfl
@[simp] theorem r_srt : (PRS.rt t e).no = .rt t e := rfl
@[simp] theorem r_some : oE (some a) e = .ok a e := rfl
@[simp] theorem r_none : oE (none : Option α) e = .bad := rfl
/-! trees -/
@[simp] theorem fz_leaf : (T.leaf d).fz = some d := rfl
@[simp] theorem fz_ls : (T.ls ds).fz = some (.lst ds) := rfl
@[simp] theorem fz_dK {kvs : List (DK × D)} : (T.dK kvs).fz = some (.dK kvs) := rfl
@[simp] theorem fz_dT {kvs : List (List DK × D)} : (T.dT kvs).fz = some (.dT kvs) := rfl
@[simp] theorem fz_lT : (T.lT ts).fz = match T.fzs ts with | some ds => some (.lst ds) | none => none := by
  conv => lhs; unfold T.fz
  all_goals (cases T.fzs ts <;> rfl)
@[simp] theorem fz_is {fs : List (String × T)} : (T.is C fs).fz = match T.fzf fs with | some ds => some (.ins C ds) | none => none := by
  conv => lhs; unfold T.fz
  all_goals (cases T.fzf fs <;> rfl)
@[simp] theorem fzs_nil : T.fzs [] = some [] := rfl
@[simp] theorem fzs_cons : T.fzs (t :: ts) = match t.fz, T.fzs ts with | some d, some ds => some (d :: ds) | _, _ => none := by
  conv => lhs; unfold T.fzs
  all_goals (cases t.fz <;> cases T.fzs ts <;> rfl)
@[simp] theorem fzf_nil : T.fzf [] = some [] := rfl
@[simp] theorem fzf_cons {f : String} {r : List (String × T)} : T.fzf ((f, t) :: r) = match t.fz, T.fzf r with | some d, some ds => some ((f, d) :: ds) | _, _ => none := by
  conv => lhs; unfold T.fzf
  all_goals (cases t.fz <;> cases T.fzf r <;> rfl)
@[simp] theorem vw_leaf : (T.leaf d).vw = some d := rfl
@[simp] theorem vw_ls : (T.ls ds).vw = some (.lst ds) := rfl
@[simp] theorem vw_dK {kvs : List (DK × D)} : (T.dK kvs).vw = some (.dK kvs) := rfl
@[simp] theorem vw_dT {kvs : List (List DK × D)} : (T.dT kvs).vw = some (.dT kvs) := rfl
@[simp] theorem get_nil' : t.get [] = some t := by unfold T.get; rfl
@[simp] theorem get_cons' {c : Ac} {r : List Ac} : t.get (c :: r) = match t.get1 c with | some s => s.get r | none => none := by
  conv => lhs; unfold T.get
  all_goals (cases t.get1 c <;> rfl)
@[simp] theorem set_nil' {s : T} : t.set [] s = s := by unfold T.set; rfl
@[simp] theorem set_cons' {c : Ac} {r : List Ac} {s : T} : t.set (c :: r) s = match t.get1 c with | some u => t.set1 c (u.set r s) | none => t := by
  conv => lhs; unfold T.set
  all_goals (cases t.get1 c <;> rfl)
@[simp] theorem g1_lT : (T.lT ts).get1 (.ix i) = atI ts i := rfl
@[simp] theorem g1_ls : (T.ls ds).get1 (.ix i) = (atI ds i).map .leaf := rfl
@[simp] theorem g1_is {fs : List (String × T)} {Cs : List Nat} {f : String} : (T.is C fs).get1 (.fld Cs f) = if C ∈ Cs then fs.lookup f else none := rfl
@[simp] theorem g1_ins {fs : List (String × D)} {Cs : List Nat} {f : String} : (T.leaf (.ins C fs)).get1 (.fld Cs f) = if C ∈ Cs then (fs.lookup f).map .leaf else none := rfl
@[simp] theorem g1_ll : (T.leaf (.lst ds)).get1 (.ix i) = (atI ds i).map .leaf := rfl
@[simp] theorem g1_lt : (T.leaf (.tup ds)).get1 (.ix i) = (atI ds i).map .leaf := rfl
@[simp] theorem s1_lT {s : T} : (T.lT ts).set1 (.ix i) s = match ixN ts.length i with | some k => .lT (ts.set k s) | none => .lT ts := rfl
@[simp] theorem s1_is {fs : List (String × T)} {Cs : List Nat} {f : String} {s : T} : (T.is C fs).set1 (.fld Cs f) s = .is C (putF f s fs) := rfl
@[simp] theorem getP_def {r : List Ac} : getP k r e = match e[k]? with | some t => t.get r | none => none := rfl
@[simp] theorem setP_def {r : List Ac} {s : T} : setP k r s e = match e[k]? with | some t => e.set k (t.set r s) | none => e := rfl
@[simp] theorem atP_def {r : List Ac} : atP k r e = match getP k r e with | some .hole => .bad | some _ => .ok r e | none => .bad := rfl
@[simp] theorem ev_pvar : (Pth.var k).ev e = atP k [] e := rfl
@[simp] theorem ev_pfld {p : Pth} {Cs : List Nat} {f : String} : (Pth.fld p Cs f).ev e = (p.ev e).bind fun r e1 => atP p.root (r ++ [.fld Cs f]) e1 := rfl
@[simp] theorem ev_pix {p : Pth} {b : PE} : (Pth.ix p b).ev e = (p.ev e).bind fun r e1 => (b e1).bind fun x e2 => match x with | .int i => atP p.root (r ++ [.ix i]) e2 | _ => .bad := rfl
@[simp] theorem root_var : (Pth.var k).root = k := rfl
@[simp] theorem root_fld {p : Pth} {Cs : List Nat} {f : String} : (Pth.fld p Cs f).root = p.root := rfl
@[simp] theorem root_ix {p : Pth} {b : PE} : (Pth.ix p b).root = p.root := rfl
/-! expressions -/
variable {pa pb pc : PE} {ta tb : PT} {b1 b2 : PB} {am : PDs} {g : D → D → Option D} {g1 : D → Option D}
@[simp] theorem v_var : pVar k e = match e[k]? with | some (.leaf d) => .ok d e | _ => .bad := rfl
@[simp] theorem v_fv : pFv k e = match e[k]? with | some t => (match t.fz with | some d => .ok d (e.set k (.leaf d)) | none => .bad) | none => .bad := rfl
@[simp] theorem v_vw : pVw k e = match e[k]? with | some t => oE t.vw e | none => .bad := rfl
@[simp] theorem v_mv : pMv k e = match e[k]? with | some .hole => .bad | some t => .ok t (e.set k .hole) | none => .bad := rfl
@[simp] theorem v_c : pC d e = .ok d e := rfl
@[simp] theorem v_lf : pLf pa e = (pa e).bind fun d e1 => .ok (.leaf d) e1 := rfl
@[simp] theorem v_fz : pFz ta e = (ta e).bind fun t e1 => oE t.fz e1 := rfl
@[simp] theorem v_bin : pBin g pa pb e = (pa e).bind fun x e1 => (pb e1).bind fun y e2 => oE (g x y) e2 := rfl
@[simp] theorem v_un : pUn g1 pa e = (pa e).bind fun x e1 => oE (g1 x) e1 := rfl
@[simp] theorem v_add : pAdd pa pb e = (pa e).bind fun x e1 => (pb e1).bind fun y e2 => oE (tAdd x y) e2 := rfl
@[simp] theorem v_and : pAnd pa pb e = (pa e).bind fun x e1 => match x with | .bl true => pb e1 | .bl false => .ok (.bl false) e1 | _ => .bad := rfl
@[simp] theorem v_or : pOr pa pb e = (pa e).bind fun x e1 => match x with | .bl false => pb e1 | .bl true => .ok (.bl true) e1 | _ => .bad := rfl
@[simp] theorem v_if : pIf b1 pa pb e = (b1 e).bind fun c e1 => if c = true then pa e1 else pb e1 := rfl
@[simp] theorem v_ifT : pIfT b1 ta tb e = (b1 e).bind fun c e1 => if c = true then ta e1 else tb e1 := rfl
@[simp] theorem v_dnil : dNil e = .ok [] e := rfl
@[simp] theorem v_dcons : dCons pa am e = (pa e).bind fun d e1 => (am e1).bind fun ds e2 => .ok (d :: ds) e2 := rfl
@[simp] theorem v_tnil : tNil e = .ok [] e := rfl
@[simp] theorem v_tcons {at' : PTs} : tCons ta at' e = (ta e).bind fun d e1 => (at' e1).bind fun ds e2 => .ok (d :: ds) e2 := rfl
@[simp] theorem v_tup : pTup am e = (am e).bind fun ds e1 => if ds.length ≤ 16000000 then .ok (.tup ds) e1 else .bad := rfl
@[simp] theorem v_lst : pLst am e = (am e).bind fun ds e1 => if ds.length ≤ 16000000 then .ok (.ls ds) e1 else .bad := rfl
@[simp] theorem v_lsT {at' : PTs} : pLsT at' e = (at' e).bind fun ds e1 => if ds.length ≤ 16000000 then .ok (.lT ds) e1 else .bad := rfl
@[simp] theorem v_ono : oNo e = .ok none e := rfl
@[simp] theorem v_oso : oSo pa e = (pa e).bind fun x e1 => match x with | .int i => .ok (some i) e1 | _ => .bad := rfl
@[simp] theorem v_sl {lo hi : PO} : pSl pa lo hi e = (pa e).bind fun x e1 => (lo e1).bind fun l e2 => (hi e2).bind fun u e3 => oE (tSl x l u) e3 := rfl
@[simp] theorem v_cb {f : List D → Option D} : pCB f am e = (am e).bind fun ds e1 => oE (f ds) e1 := rfl
@[simp] theorem v_ct {f : List D → Option T} : pCT f am e = (am e).bind fun ds e1 => oE (f ds) e1 := rfl
@[simp] theorem v_sm1 {f : List Nat → D → Option D} : pSM1 f pa pb e = (pa e).bind fun x e1 => match x with | .str s => (pb e1).bind fun y e2 => oE (f s y) e2 | _ => .bad := rfl
@[simp] theorem v_b : pB b1 e = (b1 e).bind fun b e1 => .ok (.bl b) e1 := rfl
@[simp] theorem v_cmp {f : D → D → Option Bool} : tCmp f pa pb e = (pa e).bind fun x e1 => (pb e1).bind fun y e2 => oE (f x y) e2 := rfl
@[simp] theorem v_tand : tAnd b1 b2 e = (b1 e).bind fun c e1 => if c = true then b2 e1 else .ok false e1 := rfl
@[simp] theorem v_tor : tOr b1 b2 e = (b1 e).bind fun c e1 => if c = true then .ok true e1 else b2 e1 := rfl
@[simp] theorem v_tnot : tNot b1 e = (b1 e).bind fun c e1 => .ok (!c) e1 := rfl
@[simp] theorem v_tru : tTru pa e = (pa e).bind fun x e1 => oE (truD x) e1 := rfl
@[simp] theorem v_yes : tYes e = .ok true e := rfl
@[simp] theorem v_is {A : Ty} : tIs A pa e = (pa e).bind fun x e1 => oE (isD A x) e1 := rfl
@[simp] theorem v_is2 {A B : Ty} : tIs2 A B pa e = (pa e).bind fun x e1 => oE ((isD A x).bind fun b => (isD B x).map fun c => b || c) e1 := rfl
@[simp] theorem v_rd {p : Pth} : pRd p e = (p.ev e).bind fun r e1 => match getP p.root r e1 with | some (.leaf d) => .ok d e1 | some t => (match t.fz with | some d => .ok d (setP p.root r (.leaf d) e1) | none => .bad) | none => .bad := rfl
@[simp] theorem v_vp {p : Pth} : pVp p e = (p.ev e).bind fun r e1 => match getP p.root r e1 with | some t => oE t.vw e1 | none => .bad := rfl
@[simp] theorem v_upd {p : Pth} {f : T → List D → Option (D × T)} : pUpd p am f e = (p.ev e).bind fun r e1 => match getP p.root r e1 with
  | some (.ls _) => (am e1).bind fun ds e2 => (match getP p.root r e2 with
    | some t => (match f t ds with
      | some (d, s) => .ok d (setP p.root r s e2)
      | none => .bad)
    | none => .bad)
  | _ => .bad := rfl
@[simp] theorem v_app : uApp (.ls us) [d] = if us.length < 16000000 then some (.non, .ls (us ++ [d])) else none := rfl
@[simp] theorem v_ext : uExt (.ls us) [.lst ds] = if us.length + ds.length ≤ 16000000 then some (.non, .ls (us ++ ds)) else none := rfl
/-! operators -/
@[simp] theorem o_sub : gSub (.int i) (.int j) = some (.int (i - j)) := rfl
@[simp] theorem o_mul : gMul (.int i) (.int j) = if cMul i j then some (.int (i * j)) else none := rfl
@[simp] theorem o_div : gDiv (.int i) (.int j) = if 0 < j ∧ j.natAbs < 1073741824 then some (.int (i / j)) else none := rfl
@[simp] theorem o_mod : gMod (.int i) (.int j) = if 0 < j then some (.int (i % j)) else none := rfl
@[simp] theorem o_pow : gPow (.int i) (.int j) = if 0 ≤ j ∧ j.natAbs ≤ 1000 ∧ 0 ≤ i ∧ i.natAbs < 1000 then some (.int (i ^ j.toNat)) else none := rfl
@[simp] theorem o_neg : gNeg (.int i) = some (.int (-i)) := rfl
@[simp] theorem o_not {b : Bool} : gNot (.bl b) = some (.bl (!b)) := rfl
@[simp] theorem o_add : tAdd (.int i) (.int j) = some (.leaf (.int (i + j))) := rfl
@[simp] theorem o_adds {s t : List Nat} : tAdd (.str s) (.str t) = if s.length + t.length ≤ 16000000 then some (.leaf (.str (s ++ t))) else none := rfl
@[simp] theorem o_addl : tAdd (.lst us) (.lst ds) = if us.length + ds.length ≤ 16000000 then some (.ls (us ++ ds)) else none := rfl
@[simp] theorem o_addt : tAdd (.tup us) (.tup ds) = if us.length + ds.length ≤ 16000000 then some (.leaf (.tup (us ++ ds))) else none := rfl
@[simp] theorem o_iadd : gIAdd (.int i) (.int j) = some (.int (i + j)) := rfl
@[simp] theorem o_iadds {s t : List Nat} : gIAdd (.str s) (.str t) = if s.length + t.length ≤ 16000000 then some (.str (s ++ t)) else none := rfl
@[simp] theorem o_ixs {s : List Nat} : gIx (.str s) (.int i) = if s.length ≤ 16000000 then (atI s i).map fun c => .str [c] else none := rfl
@[simp] theorem o_ixl : gIx (.lst ds) (.int i) = atI ds i := rfl
@[simp] theorem o_ixt : gIx (.tup ds) (.int i) = atI ds i := rfl
@[simp] theorem o_ixk : gIx (.kl ds) (.int i) = atI ds i := rfl
@[simp] theorem o_sls {s : List Nat} {lo hi : Option Int} : tSl (.str s) lo hi = if s.length ≤ 16000000 then some (.leaf (.str (cut s lo hi))) else none := rfl
@[simp] theorem o_slt {lo hi : Option Int} : tSl (.tup us) lo hi = some (.leaf (.tup (cut us lo hi))) := rfl
@[simp] theorem o_sll {lo hi : Option Int} : tSl (.lst us) lo hi = some (.ls (cut us lo hi)) := rfl
@[simp] theorem o_fld {Cs : List Nat} {f : String} {fs : List (String × D)} : gFld Cs f (.ins C fs) = if C ∈ Cs then fs.lookup f else none := rfl
@[simp] theorem o_lens {s : List Nat} : gLen [.str s] = if s.length ≤ 16000000 then some (.int s.length) else none := rfl
@[simp] theorem o_lenl : gLen [.lst ds] = some (.int ds.length) := rfl
@[simp] theorem o_lent : gLen [.tup ds] = some (.int ds.length) := rfl
@[simp] theorem o_lenk : gLen [.kl ds] = some (.int ds.length) := rfl
@[simp] theorem o_int : gInt [.int i] = some (.int i) := rfl
@[simp] theorem o_intb {b : Bool} : gInt [.bl b] = some (.int (if b then 1 else 0)) := rfl
@[simp] theorem o_listl : gList [.lst ds] = some (.ls ds) := rfl
@[simp] theorem o_listt : gList [.tup ds] = some (.ls ds) := rfl
@[simp] theorem o_listk : gList [.kl ds] = some (.ls ds) := rfl
@[simp] theorem o_tupl : gTuple [.lst ds] = some (.tup ds) := rfl
@[simp] theorem o_tupt : gTuple [.tup ds] = some (.tup ds) := rfl
@[simp] theorem o_min : gMin [.int i, .int j] = some (.int (if j < i then j else i)) := rfl
@[simp] theorem o_max : gMax [.int i, .int j] = some (.int (if j > i then j else i)) := rfl
@[simp] theorem o_abs : gAbs [.int i] = some (.int (if i < 0 then -i else i)) := rfl
@[simp] theorem o_joinl {s : List Nat} : gJoin s (.lst ds) = (strL ds).bind fun ss => if (ss.map List.length).sum + ss.length * s.length ≤ 16000000 then some (.str (joinL s ss)) else none := rfl
@[simp] theorem c_cI {p : Int → Int → Bool} : cI p (.int i) (.int j) = some (p i j) := rfl
@[simp] theorem c_ne : cNe x y = (cEq x y).map not := rfl
@[simp] theorem c_isn : cIs .non .non = some true := rfl
@[simp] theorem c_isx : cIsN x y = (cIs x y).map not := rfl
@[simp] theorem c_nin : cNin x y = (cIn x y).map not := rfl
@[simp] theorem c_eqi : cEq (.int i) (.int j) = some (decide (i = j)) := by
  show (if _ then some (D.eq (.int i) (.int j)) else none) = _
  rw [if_pos (by rfl)]
  simp only [D.eq]; congr 1
@[simp] theorem c_eqs {s t : List Nat} : cEq (.str s) (.str t) = some (decide (s = t)) := by
  show (if _ then some (D.eq (.str s) (.str t)) else none) = _
  rw [if_pos (by rfl)]
  simp only [D.eq]
  by_cases h : s = t <;> simp [h]
@[simp] theorem c_eqb {b c : Bool} : cEq (.bl b) (.bl c) = some (decide (b = c)) := by cases b <;> cases c <;> rfl
@[simp] theorem c_eqis {s : List Nat} : cEq (.int i) (.str s) = some false := rfl
@[simp] theorem c_eqsi {s : List Nat} : cEq (.str s) (.int i) = some false := rfl
@[simp] theorem c_inl : cIn x (.lst ds) = cIn0 x ds := by cases x <;> rfl
theorem cMul_l' (h1 : -1000000000000000000 < i) (h2 : i < 1000000000000000000) : cMul i j := .inl (by omega)
@[simp] theorem cMul_r (h : j.natAbs ≤ 9000000000000000000) : cMul i j := .inr h
@[simp] theorem cMul_l (h : i.natAbs ≤ 9000000000000000000) : cMul i j := .inl h
@[simp] theorem t_non : truD .non = some false := rfl
@[simp] theorem t_bl {b : Bool} : truD (.bl b) = some b := rfl
@[simp] theorem t_int : truD (.int i) = some (i != 0) := rfl
@[simp] theorem t_str {s : List Nat} : truD (.str s) = if s.length ≤ 16000000 then some (!s.isEmpty) else none := rfl
@[simp] theorem t_lst : truD (.lst ds) = some (!ds.isEmpty) := rfl
@[simp] theorem t_tup : truD (.tup ds) = some (!ds.isEmpty) := rfl
/-! places -/
theorem ixN_nat {j : Nat} (h : j < n) : ixN n (j : Int) = some j := by
  unfold ixN
  rw [if_pos (by omega), if_pos (by omega)]; rfl
theorem atI_nat {l : List α} {j : Nat} : atI l (j : Int) = l[j]? := by
  unfold atI
  by_cases h : j < l.length
  · rw [ixN_nat h]; rfl
  · unfold ixN
    rw [if_pos (by omega), if_neg (by omega), List.getElem?_eq_none (by omega)]; rfl
@[simp] theorem atI_cast {l : List α} {j : Nat} : atI l (j : Int) = l[j]? := atI_nat
@[simp] theorem atI_0 {l : List α} : atI l 0 = l[0]? := atI_nat (j := 0)
@[simp] theorem atI_2 {l : List α} : atI l 2 = l[2]? := atI_nat (j := 2)
@[simp] theorem atI_3 {l : List α} : atI l 3 = l[3]? := atI_nat (j := 3)
@[simp] theorem atI_4 {l : List α} : atI l 4 = l[4]? := atI_nat (j := 4)
@[simp] theorem atI_5 {l : List α} : atI l 5 = l[5]? := atI_nat (j := 5)
@[simp] theorem atI_6 {l : List α} : atI l 6 = l[6]? := atI_nat (j := 6)
@[simp] theorem atI_7 {l : List α} : atI l 7 = l[7]? := atI_nat (j := 7)
@[simp] theorem atI_8 {l : List α} : atI l 8 = l[8]? := atI_nat (j := 8)
@[simp] theorem atI_9 {l : List α} : atI l 9 = l[9]? := atI_nat (j := 9)
@[simp] theorem atI_10 {l : List α} : atI l 10 = l[10]? := atI_nat (j := 10)
@[simp] theorem atI_11 {l : List α} : atI l 11 = l[11]? := atI_nat (j := 11)
@[simp] theorem atI_12 {l : List α} : atI l 12 = l[12]? := atI_nat (j := 12)
@[simp] theorem atI_13 {l : List α} : atI l 13 = l[13]? := atI_nat (j := 13)
@[simp] theorem atI_1 {l : List α} : atI l 1 = l[1]? := atI_nat (j := 1)
theorem atI_pos {l : List α} (h : 0 ≤ i) : atI l i = l[i.toNat]? := by
  have := atI_nat (l := l) (j := i.toNat)
  rwa [Int.toNat_of_nonneg h] at this
@[simp] theorem put_nil {f : String} {v : α} : putF f v [] = [(f, v)] := rfl
@[simp] theorem put_cons {f g : String} {v w : α} {r : List (String × α)} : putF f v ((g, w) :: r) = if g = f then (g, v) :: r else (g, w) :: putF f v r := rfl
/-! slices -/
theorem cut_to {l : List α} (h : 0 ≤ i) : cut l none (some i) = l.take i.toNat := by
  unfold cut sIx
  simp only [List.drop_zero, Nat.sub_zero]
  rw [if_neg (by omega)]
  by_cases h : i.toNat ≤ l.length
  · rw [Nat.min_eq_left h]
  · rw [Nat.min_eq_right (by omega), List.take_of_length_le (Nat.le_refl _), List.take_of_length_le (by omega)]
theorem cut_from {l : List α} (h : 0 ≤ i) : cut l (some i) none = l.drop i.toNat := by
  unfold cut sIx
  simp only []
  rw [if_neg (by omega)]
  by_cases h : i.toNat ≤ l.length
  · rw [Nat.min_eq_left h, List.take_of_length_le (by simp)]
  · rw [Nat.min_eq_right (by omega), List.drop_of_length_le (Nat.le_refl _), List.drop_of_length_le (by omega)]; simp
@[simp] theorem cut_toN {l : List α} : cut l none (some (k : Int)) = l.take k := by rw [cut_to (by omega)]; rfl
@[simp] theorem cut_fromN {l : List α} : cut l (some (k : Int)) none = l.drop k := by rw [cut_from (by omega)]; rfl
/-! statements -/
variable {m1 m2 : PS} {K : List Nat} {c : CT} {b : PS}
@[simp] theorem s_nx : sNx e = .nx e := rfl
@[simp] theorem s_seq : sSeq m1 m2 e = match m1 e with | .nx e1 => m2 e1 | r => r := rfl
@[simp] theorem s_asg : sAsg k ta e = (ta e).st fun t e1 => .nx (e1.set k t) := rfl
@[simp] theorem s_unp : sUnp c pa e = (pa e).st fun d e1 => match c.asg d e1 with | some e2 => .nx e2 | none => .bad := rfl
@[simp] theorem s_one : (CT.one k).asg d e = some (e.set k (.leaf d)) := by cases d <;> rfl
@[simp] theorem s_tup {is : List Nat} : (CT.tup is).asg (.tup us) e = if us.length = is.length then some (setA e is us) else none := rfl
@[simp] theorem s_lst {is : List Nat} : (CT.lst is).asg (.lst us) e = if us.length = is.length then some (setA e is us) else none := rfl
@[simp] theorem s_setA_c {i : Nat} {is : List Nat} : setA e (i :: is) (d :: us) = setA (e.set i (.leaf d)) is us := rfl
@[simp] theorem s_setA_n : setA e [] us = e := by unfold setA; rfl
@[simp] theorem s_ret : sRet ta e = (ta e).st fun t e1 => .rt t e1 := rfl
@[simp] theorem s_retN : sRetN e = .rt (.leaf .non) e := rfl
@[simp] theorem s_drop : sDrop ta e = (ta e).st fun _ e1 => .nx e1 := rfl
@[simp] theorem s_if : sIf b1 m1 m2 e = (b1 e).st fun c e1 => if c = true then m1 e1 else m2 e1 := rfl
@[simp] theorem s_brk : sBrk e = .bk e := rfl
@[simp] theorem s_cnt : sCnt e = .ct e := rfl
@[simp] theorem kill_nil : kill [] e = e := rfl
@[simp] theorem kill_cons : kill (k :: K) e = kill K (e.set k .hole) := rfl
@[simp] theorem s_for {it : PDs} : sFor K it c b e = (it e).st fun ds e1 => forL K c b ds e1 := rfl
@[simp] theorem s_while {t : PB} : sWhile K n t b e = whL K t b n e := rfl
@[simp] theorem i_op {f : List D → Option (List D)} : iOp f am e = (am e).bind fun ds e1 => oE (f ds) e1 := rfl
@[simp] theorem i_r1 : gR1 [.int j] = if j.natAbs ≤ 1000000000 then some (rng 0 j.toNat) else none := rfl
@[simp] theorem i_r2 : gR2 [.int i, .int j] = if i.natAbs ≤ 1000000000 ∧ j.natAbs ≤ 1000000000 then some (rng i (j - i).toNat) else none := rfl
@[simp] theorem i_e : iE pa e = (pa e).bind fun x e1 => oE (seqD x) e1 := rfl
@[simp] theorem i_str {s : List Nat} : seqD (.str s) = some (s.map fun c => .str [c]) := rfl
@[simp] theorem i_lst : seqD (.lst ds) = some ds := rfl
@[simp] theorem i_tup : seqD (.tup ds) = some ds := rfl
@[simp] theorem i_kl : seqD (.kl ds) = some ds := rfl
@[simp] theorem i_z {x y : D} : gZ [x, y] = match sqD x, sqD y with | some us, some ts => some (pairs us ts) | _, _ => none := rfl
@[simp] theorem sq_l : sqD (.lst ds) = some ds := rfl
@[simp] theorem sq_t : sqD (.tup ds) = some ds := rfl
@[simp] theorem sq_k : sqD (.kl ds) = some ds := rfl
@[simp] theorem i_n : gN [.lst us] = some (pairs (rng 0 us.length) us) := rfl
@[simp] theorem s_setI {p : Pth} : sSetI p pb pa e = (pa e).st fun d e1 => (p.ev e1).st fun r e2 => (pb e2).st fun x e3 => match x, getP p.root r e3 with
  | .int k, some (.ls ds) => (match ixN ds.length k with
    | some j => .nx (setP p.root r (.ls (ds.set j d)) e3)
    | none => .bad)
  | _, _ => .bad := rfl
@[simp] theorem s_aug : sAug g k pa e = match e[k]? with
  | some (.leaf x) => (pa e).st fun y e1 => (match g x y with
    | some z => .nx (e1.set k (.leaf z))
    | none => .bad)
  | _ => .bad := rfl
@[simp] theorem s_augI {p : Pth} : sAugI g p pb pa e = (p.ev e).st fun r e1 => (pb e1).st fun x e2 => match x, getP p.root r e2 with
  | .int k, some (.ls ds) => (match atI ds k with
    | some z => (pa e2).st fun y e3 => (match g z y, getP p.root r e3 with
      | some w, some (.ls ds2) => (match ixN ds2.length k with
        | some j => .nx (setP p.root r (.ls (ds2.set j w)) e3)
        | none => .bad)
      | _, _ => .bad)
    | none => .bad)
  | _, _ => .bad := rfl
@[simp] theorem s_setF {p : Pth} {Cs : List Nat} {f : String} : sSetF Cs f p ta e = (ta e).st fun t e1 => (p.ev e1).st fun r e2 => match getP p.root r e2 with
  | some (.is C fs) => if C ∈ Cs ∧ fs.length < 1000 then .nx (setP p.root r (.is C (putF f t fs)) e2) else .bad
  | _ => .bad := rfl
@[simp] theorem s_augF {p : Pth} {Cs : List Nat} {f : String} : sAugF Cs g f p pa e = (p.ev e).st fun r e1 => match getP p.root r e1 with
  | some (.is C fs) => if C ∈ Cs then (match fs.lookup f with
    | some (.leaf z) => (pa e1).st fun y e3 => (match g z y, getP p.root r e3 with
      | some w, some (.is C2 fs2) => if C2 = C ∧ fs2.length < 1000 then .nx (setP p.root r (.is C2 (putF f (.leaf w) fs2)) e3) else .bad
      | _, _ => .bad)
    | _ => .bad) else .bad
  | _ => .bad := rfl
@[simp] theorem s_raise : sRaise C e = .ex C none e := rfl
@[simp] theorem s_try {ys : List Nat} : sTry ys m1 m2 e = match m1 e with | .ex C _ e1 => if C ∈ ys then (m2 e1).no else .bad | r => r := rfl
/-! calls -/
variable {sem : PSem}
@[simp] theorem l_ok {ws : List T} : callR (.ok t ws) e = .ok t e := rfl
@[simp] theorem l_exc {z : Option (List (String × D))} : callR (.exc C z) e = .exc C z e := rfl
@[simp] theorem l_call : pCall n sem am e = (am e).bind fun ds e1 => if ds.length = n then callR (sem (ds.map .leaf)) e1 else .bad := rfl
@[simp] theorem l_insT {s : T} : insT k s ds = (ds.take k).map .leaf ++ s :: (ds.drop k).map .leaf := rfl
@[simp] theorem l_callV {k i : Nat} : pCallV n k i sem am e = match e[i]? with
  | some .hole => .bad
  | none => .bad
  | some _ => (am e).bind fun ds e1 => match e1[i]? with
    | some s => (if ds.length + 1 = n ∧ k ≤ ds.length then (match sem (insT k s ds) with
      | .ok t [w] => .ok t (e1.set i w)
      | .exc C x => .exc C x (e1.set i .hole)
      | _ => .bad) else .bad)
    | none => .bad := rfl
@[simp] theorem l_callB {k i : Nat} : pCallB n k i sem am e = match e[i]? with
  | some .hole => .bad
  | none => .bad
  | some _ => (am e).bind fun ds e1 => match e1[i]? with
    | some s => (match s.fz with
      | some d => (if ds.length + 1 = n ∧ k ≤ ds.length then (match sem (insT k (.leaf d) ds) with
        | .ok t _ => if t.flat = true then .ok t e1 else .bad
        | .exc C none => .exc C none e1
        | _ => .bad) else .bad)
      | none => .bad)
    | none => .bad := rfl
@[simp] theorem l_meth {m : String} {p : Pth} : pMeth C m n sem p am e = (p.ev e).bind fun r e1 => match getP p.root r e1 with
  | some (.is C1 fs) => (if C1 = C ∧ fs.lookup m = none then (am e1).bind fun ds e2 => (match getP p.root r e2 with
    | some (.is C2 fs2) => (if ds.length + 1 = n then (match sem (.is C2 fs2 :: ds.map .leaf) with
      | .ok t [w] => .ok t (setP p.root r w e2)
      | .exc C x => .exc C x (setP p.root r .hole e2)
      | _ => .bad) else .bad)
    | _ => .bad) else .bad)
  | _ => .bad := rfl
@[simp] theorem l_methB {m : String} {p : Pth} : pMethB C m n sem p am e = (p.ev e).bind fun r e1 => match getP p.root r e1 with
  | some (.is C1 fs) => (if C1 = C ∧ fs.lookup m = none then (am e1).bind fun ds e2 => (match getP p.root r e2 with
    | some (.is C2 fs2) => (match (T.is C2 fs2).fz with
      | some d => (if ds.length + 1 = n then (match sem (.leaf d :: ds.map .leaf) with
        | .ok t _ => if t.flat = true then .ok t e2 else .bad
        | .exc C none => .exc C none e2
        | _ => .bad) else .bad)
      | none => .bad)
    | _ => .bad) else .bad)
  | _ => .bad := rfl
@[simp] theorem l_methD {m : String} : pMethD C m n sem pa am e = (pa e).bind fun x e1 => match x with
  | .ins C1 fs => (if C1 = C ∧ fs.lookup m = none then (am e1).bind fun ds e2 => (if ds.length + 1 = n then callR (sem (.leaf (.ins C1 fs) :: ds.map .leaf)) e2 else .bad) else .bad)
  | _ => .bad := rfl
@[simp] theorem l_make : pMake C n sem am e = (am e).bind fun ds e1 => if ds.length + 1 = n then (match sem (.is C [] :: ds.map .leaf) with
  | .ok (.leaf .non) [w] => .ok w e1
  | _ => .bad) else .bad := rfl
@[simp] theorem pick_t {α : Type} {m : List Bool} {a : α} {l : List α} : pick (true :: m) (a :: l) = a :: pick m l := rfl
@[simp] theorem pick_f {α : Type} {m : List Bool} {a : α} {l : List α} : pick (false :: m) (a :: l) = pick m l := rfl
@[simp] theorem pick_n {α : Type} {l : List α} : pick [] l = [] := by cases l <;> rfl
@[simp] theorem f_fn {mask : List Bool} : pFn n mask m1 ts = if mask.length ≤ ts.length then (match m1 (ts ++ List.replicate (n - ts.length) .hole) with
  | .nx e => .ok (.leaf .non) (pick mask e)
  | .rt t e => .ok t (pick mask e)
  | .ex C x _ => .exc C x
  | _ => .bad) else .bad := rfl
end
/-! ### loops -/
section
variable {K : List Nat} {c : CT} {b : PS} {σ : Type}
theorem kill_set : ∀ (K : List Nat) (e : Env) (k : Nat), kill K (e.set k .hole) = (kill K e).set k .hole
  | [], e, k => rfl
  | j :: K, e, k => by
    rw [kill_cons, kill_cons]
    by_cases h : k = j
    · subst h; rw [List.set_set, kill_set K e k, List.set_set]
    · rw [List.set_comm _ _ h, kill_set K]
theorem kill_idem : ∀ (K : List Nat) (e : Env), kill K (kill K e) = kill K e
  | [], e => rfl
  | k :: K, e => by rw [kill_cons, kill_cons, kill_set, kill_idem K, kill_set, List.set_set]
/-- how a turn ends -/
def fin (K : List Nat) : PRS → PRS
  | .nx e => .nx (kill K e)
  | .ct e => .nx (kill K e)
  | .bk e => .bk (kill K e)
  | r => r
def turn (K : List Nat) (c : CT) (b : PS) (d : D) (e : Env) : PRS := match c.asg d e with
  | some e1 => fin K (b e1)
  | none => .bad
@[simp] theorem fin_nx {e : Env} : fin K (.nx e) = .nx (kill K e) := rfl
@[simp] theorem fin_ct {e : Env} : fin K (.ct e) = .nx (kill K e) := rfl
@[simp] theorem fin_bk {e : Env} : fin K (.bk e) = .bk (kill K e) := rfl
@[simp] theorem fin_rt {t : T} {e : Env} : fin K (.rt t e) = .rt t e := rfl
@[simp] theorem fin_ex {C : Nat} {x : Option (List (String × D))} {e : Env} : fin K (.ex C x e) = .ex C x e := rfl
@[simp] theorem turn_def {d : D} {e : Env} : turn K c b d e = match c.asg d e with | some e1 => fin K (b e1) | none => .bad := rfl
theorem for_nil {e : Env} : forL K c b [] e = .nx (kill K e) := rfl
theorem for_kill : ∀ (ds : List D) (e : Env), forL K c b ds (kill K e) = forL K c b ds e
  | [], e => by rw [for_nil, for_nil, kill_idem]
  | d :: ds, e => by unfold forL; rw [kill_idem]
theorem for_cons {d : D} {ds : List D} {e : Env} : forL K c b (d :: ds) e = match turn K c b d (kill K e) with
    | .nx e1 => forL K c b ds e1
    | .bk e1 => .nx e1
    | r => r := by
  conv => lhs; unfold forL
  unfold turn
  cases c.asg d (kill K e) with
  | none => rfl
  | some e1 =>
    simp only
    cases b e1 with
    | nx e2 => exact (for_kill ds e2).symm
    | ct e2 => exact (for_kill ds e2).symm
    | _ => rfl
theorem turn_kill {d : D} {e e1 : Env} (h1 : turn K c b d e = .nx e1) : kill K e1 = e1 := by
  unfold turn at h1
  cases q : c.asg d e with
  | none => rw [q] at h1; cases h1
  | some e2 =>
    rw [q] at h1
    simp only at h1
    cases q2 : b e2 with
    | nx e2 => rw [q2] at h1; cases h1; exact kill_idem _ _
    | ct e2 => rw [q2] at h1; cases h1; exact kill_idem _ _
    | _ => rw [q2] at h1; cases h1
/-- something holds between two turns -/
theorem for_inv (I : Nat → Env → Prop) : ∀ (ds : List D) {j : Nat} {e : Env}, I j (kill K e) → (∀ i d e, ds[i]? = some d → I (j + i) e → ∃ e1, turn K c b d e = .nx e1 ∧ I (j + i + 1) e1) → ∃ e1, forL K c b ds e = .nx e1 ∧ I (j + ds.length) e1
  | [], j, e, h, _ => ⟨_, for_nil, h⟩
  | d :: ds, j, e, h, st => by
    obtain ⟨e1, h1, p1⟩ := st 0 d _ rfl h
    rw [for_cons, h1]
    have := for_inv I ds (j := j + 1) (e := e1) (by rw [turn_kill h1]; exact p1) fun i d e hd p => by
      have := st (i + 1) d e (by simpa using hd) (by rw [show j + (i + 1) = j + 1 + i by omega]; exact p)
      rwa [show j + (i + 1) = j + 1 + i by omega] at this
    rwa [show j + (d :: ds).length = j + 1 + ds.length by simp; omega]
/-- a search -/
theorem for_find (E : Env) (p : D → Bool) (r : D → T) (g : D → Env) : ∀ (ds : List D) {e : Env}, kill K e = E → (∀ d, d ∈ ds → turn K c b d E = if p d = true then .rt (r d) (g d) else .nx E) → forL K c b ds e = match ds.find? p with
    | some d => .rt (r d) (g d)
    | none => .nx E
  | [], e, h, _ => by rw [for_nil, h]; rfl
  | d :: ds, e, h, st => by
    rw [for_cons, h, st d List.mem_cons_self]
    by_cases hp : p d = true
    · rw [if_pos hp, List.find?_cons_of_pos hp]
    · rw [if_neg hp, List.find?_cons_of_neg hp]
      exact for_find E p r g ds (by rw [← h, kill_idem]) fun d m => st d (List.mem_cons_of_mem _ m)
/-! while -/
theorem wh_kill {t : PB} : ∀ (n : Nat) (e : Env), whL K t b n (kill K e) = whL K t b n e
  | 0, _ => rfl
  | n + 1, e => by unfold whL; rw [kill_idem]
theorem wh_step {t : PB} {n : Nat} {e : Env} : whL K t b (n + 1) e = (t (kill K e)).st fun c e1 => if c = true then (match fin K (b e1) with
    | .nx e2 => whL K t b n e2
    | .bk e2 => .nx e2
    | r => r) else .nx e1 := by
  conv => lhs; unfold whL
  congr 1
  funext c e1
  by_cases h : c = true
  · rw [if_pos h, if_pos h]
    cases b e1 with
    | nx e2 => exact (wh_kill n e2).symm
    | ct e2 => exact (wh_kill n e2).symm
    | _ => rfl
  · rw [if_neg h, if_neg h]
/-- a while loop by what holds before each turn -/
theorem wh_inv {t : PB} (I : Nat → Env → Prop) (Z : Env → Prop)
    (st : ∀ k e, I k e → (∃ e1, t e = .ok false e1 ∧ Z e1) ∨ ∃ e1, t e = .ok true e1 ∧ ((∃ k' e2, k' < k ∧ fin K (b e1) = .nx e2 ∧ I k' e2) ∨ ∃ e2, fin K (b e1) = .bk e2 ∧ Z e2)) :
    ∀ (n k : Nat) (e : Env), k < n → I k (kill K e) → ∃ e1, whL K t b n e = .nx e1 ∧ Z e1
  | 0, _, _, z, _ => (Nat.not_lt_zero _ z).elim
  | n + 1, k, e, hk, p => by
    rw [wh_step]
    rcases st k _ p with ⟨e1, h1, z⟩ | ⟨e1, h1, ⟨k', e2, lk, h2, p2⟩ | ⟨e2, h2, z⟩⟩
    · rw [h1]; exact ⟨e1, rfl, z⟩
    · rw [h1, r_st, if_pos rfl, h2]
      have hk2 : kill K e2 = e2 := by
        cases q : b e1 with
        | nx e3 => rw [q] at h2; cases h2; exact kill_idem _ _
        | ct e3 => rw [q] at h2; cases h2; exact kill_idem _ _
        | _ => rw [q] at h2; cases h2
      exact wh_inv I Z st n k' e2 (by omega) (by rw [hk2]; exact p2)
    · rw [h1, r_st, if_pos rfl, h2]
      exact ⟨e2, rfl, z⟩
/-! comprehensions -/
def lcT1 (c : CT) (t : PB) (a : PE) (vs : List Nat) (d : D) (e : Env) : PR (Option D) := match c.asg d e with
  | some e1 => (t e1).no.bind fun b e2 => if b = true then (a e2).no.bind fun y e3 => .ok (some y) (kill vs e3) else .ok none (kill vs e2)
  | none => .bad
@[simp] theorem lcT1_def {t : PB} {a : PE} {vs : List Nat} {d : D} {e : Env} : lcT1 c t a vs d e = match c.asg d e with
  | some e1 => (t e1).no.bind fun b e2 => if b = true then (a e2).no.bind fun y e3 => .ok (some y) (kill vs e3) else .ok none (kill vs e2)
  | none => .bad := rfl
/-- a state is carried, something is asked of the items -/
theorem lc_inv {t : PB} {a : PE} {vs : List Nat} (I : Nat → List D → Env → Prop) : ∀ (ds acc : List D) {j : Nat} {e : Env}, acc.length + ds.length < 16000000 → I j acc (kill vs e) →
    (∀ i d acc e, ds[i]? = some d → I (j + i) acc e → ∃ o e1, lcT1 c t a vs d e = .ok o e1 ∧ I (j + i + 1) (acc ++ o.toList) e1) → ∃ r e1, (lcL c t a vs ds acc e).bind (fun r e => .ok r (kill vs e)) = .ok r e1 ∧ I (j + ds.length) r e1
  | [], acc, j, e, _, h, _ => ⟨acc, kill vs e, by unfold lcL; rfl, h⟩
  | d :: ds, acc, j, e, hz, h, st => by
    obtain ⟨o, e1, h1, p1⟩ := st 0 d acc _ rfl h
    have next := fun (acc' : List D) (hl : acc'.length ≤ acc.length + 1) (e2 : Env) (p : I (j + 1) acc' (kill vs e2)) => lc_inv I ds acc' (j := j + 1) (e := e2) (by simp at hz; omega) p fun i d acc e hd p => by
      have := st (i + 1) d acc e (by simpa using hd) (by rw [show j + (i + 1) = j + 1 + i by omega]; exact p)
      rwa [show j + (i + 1) = j + 1 + i by omega] at this
    rw [show j + (d :: ds).length = j + 1 + ds.length by simp; omega]
    unfold lcL
    unfold lcT1 at h1
    cases q : c.asg d (kill vs e) with
    | none => rw [q] at h1; cases h1
    | some e0 =>
      rw [q] at h1
      simp only at h1 ⊢
      cases q2 : t e0 with
      | bad => rw [q2] at h1; cases h1
      | exc C x e' => rw [q2] at h1; cases h1
      | ok bv e2 =>
        rw [q2] at h1
        cases bv with
        | false =>
          have h1 : PR.ok (none : Option D) (kill vs e2) = .ok o e1 := h1
          cases h1
          have p1 : I (j + 1) acc (kill vs e2) := by simpa using p1
          exact next acc (by omega) e2 p1
        | true =>
          have h1 : ((a e2).no.bind fun y e3 => PR.ok (some y) (kill vs e3)) = .ok o e1 := h1
          show ∃ r e1, PR.bind ((a e2).no.bind fun y e3 => if acc.length < 16000000 then lcL c t a vs ds (acc ++ [y]) e3 else .bad) _ = _ ∧ _
          cases q3 : a e2 with
          | bad => rw [q3] at h1; cases h1
          | exc C x e' => rw [q3] at h1; cases h1
          | ok y e3 =>
            rw [q3] at h1
            have h1 : PR.ok (some y) (kill vs e3) = .ok o e1 := h1
            cases h1
            rw [r_no, r_ok, if_pos (by simp at hz; omega)]
            exact next (acc ++ [y]) (by simp) e3 p1
def lcR (c : CT) (t : PB) (a : PE) (vs : List Nat) (ds : List D) (e : Env) : PR (List D) := (lcL c t a vs ds [] e).bind fun r e => .ok r (kill vs e)
@[simp] theorem v_lc {it : PDs} {t : PB} {a : PE} {vs : List Nat} {e : Env} : pLc it c t a vs e = (it e).bind fun ds e1 => (lcR c t a vs ds e1).bind fun r e2 => .ok (.ls r) e2 := by
  unfold pLc lcR
  cases it e with
  | bad => rfl
  | exc C x e1 => rfl
  | ok ds e1 => simp only [r_ok]; cases lcL c t a vs ds [] e1 <;> rfl
/-- nothing is carried -/
theorem lc_pure {t : PB} {a : PE} {vs : List Nat} (E : Env) (f : D → Option D) (ds : List D) {e : Env} (h : kill vs e = E) (hz : ds.length < 16000000) (st : ∀ d, d ∈ ds → lcT1 c t a vs d E = .ok (f d) E) : (lcL c t a vs ds [] e).bind (fun r e => .ok r (kill vs e)) = .ok (ds.filterMap f) E := by
  obtain ⟨r, e1, q, rfl, rfl⟩ := lc_inv (c := c) (t := t) (a := a) (vs := vs) (fun i acc e => acc = (ds.take i).filterMap f ∧ e = E) ds [] (j := 0) (e := e) (by simpa using hz) ⟨by simp, h⟩ (by
    rintro i d acc e hd ⟨rfl, rfl⟩
    refine ⟨f d, e, st d (List.mem_of_getElem? hd), ?_, rfl⟩
    rw [Nat.zero_add, List.take_add_one, hd, List.filterMap_append]
    cases h : f d <;> simp [List.filterMap_cons, h])
  rw [q]
  simp
theorem lc_map {t : PB} {a : PE} {vs : List Nat} (E : Env) (f : D → D) (ds : List D) {e : Env} (h : kill vs e = E) (hz : ds.length < 16000000) (st : ∀ d, d ∈ ds → lcT1 c t a vs d E = .ok (some (f d)) E) : (lcL c t a vs ds [] e).bind (fun r e => .ok r (kill vs e)) = .ok (ds.map f) E := by
  rw [lc_pure E (fun d => some (f d)) ds h hz st]
  simp
theorem rng_len {lo : Int} {n : Nat} : (rng lo n).length = n := by simp [rng]
theorem rng_get {lo : Int} {n i : Nat} {d : D} (h : (rng lo n)[i]? = some d) : i < n ∧ d = .int (lo + i) := by
  unfold rng at h
  rw [List.getElem?_map] at h
  cases q : (List.range n)[i]? with
  | none => rw [q] at h; cases h
  | some k =>
    rw [q] at h
    obtain ⟨a, b⟩ := List.getElem?_eq_some_iff.mp q
    simp at a b
    subst b
    cases h
    exact ⟨a, rfl⟩
theorem rng_mem {lo : Int} {n : Nat} {d : D} (h : d ∈ rng lo n) : ∃ i : Nat, i < n ∧ d = .int (lo + i) := by
  obtain ⟨i, a, rfl⟩ := List.mem_map.mp h
  exact ⟨i, by simpa using a, rfl⟩
/-! loops that stand in a goal: generalize hF : forL _ _ _ _ _ = F, then one of these -/
theorem for_st {F : PRS} {ds : List D} {e : Env} (hF : forL K c b ds e = F) (E : σ → Env) (R : Nat → σ → Prop) (s0 : σ) (h0 : kill K e = E s0) (r0 : R 0 s0)
    (st : ∀ i d s, ds[i]? = some d → R i s → ∃ s', turn K c b d (E s) = .nx (E s') ∧ R (i + 1) s') : ∃ s, F = .nx (E s) ∧ R ds.length s := by
  obtain ⟨e1, q, s, rfl, r⟩ := for_inv (K := K) (c := c) (b := b) (fun i e => ∃ s, e = E s ∧ R i s) ds (j := 0) (e := e) ⟨s0, h0, r0⟩ (by
    rintro i d e hd ⟨s, rfl, r⟩
    rw [Nat.zero_add] at r
    obtain ⟨s', a, b⟩ := st i d s hd r
    exact ⟨_, a, s', rfl, by rw [Nat.zero_add]; exact b⟩)
  rw [Nat.zero_add] at r
  exact ⟨s, hF.symm.trans q, r⟩
theorem for_fi {F : PRS} {ds : List D} {e : Env} (hF : forL K c b ds e = F) (E : Env) (p : D → Bool) (r : D → T) (g : D → Env) (h0 : kill K e = E) (st : ∀ d, d ∈ ds → turn K c b d E = if p d = true then .rt (r d) (g d) else .nx E) : F = match ds.find? p with
    | some d => .rt (r d) (g d)
    | none => .nx E := hF.symm.trans (for_find E p r g ds h0 st)
/-- nothing is carried, no turn ends the loop -/
theorem for_all {F : PRS} {ds : List D} {e : Env} (hF : forL K c b ds e = F) (E : Env) (h0 : kill K e = E) (st : ∀ d, d ∈ ds → turn K c b d E = .nx E) : F = .nx E := by
  have := for_fi hF E (fun _ => false) (fun _ => .hole) (fun _ => []) h0 (by intro d m; rw [st d m]; rfl)
  rw [this]
  cases q : ds.find? fun _ => false with
  | none => rfl
  | some d => have := List.find?_some q; cases this
theorem wh_st {t : PB} {n : Nat} {F : PRS} {e : Env} (hF : whL K t b n e = F) (E : σ → Env) (R : Nat → σ → Prop) (Z : Env → Prop) (k0 : Nat) (s0 : σ) (hk : k0 < n) (h0 : kill K e = E s0) (r0 : R k0 s0)
    (st : ∀ k s, R k s → (∃ e1, t (E s) = .ok false e1 ∧ Z e1) ∨ ∃ e1, t (E s) = .ok true e1 ∧ ((∃ k' s', k' < k ∧ fin K (b e1) = .nx (E s') ∧ R k' s') ∨ ∃ e2, fin K (b e1) = .bk e2 ∧ Z e2)) : ∃ e1, F = .nx e1 ∧ Z e1 := by
  obtain ⟨e1, q, z⟩ := wh_inv (K := K) (t := t) (b := b) (fun k e => ∃ s, e = E s ∧ R k s) Z (by
    rintro k e ⟨s, rfl, r⟩
    rcases st k s r with h | ⟨e1, a, ⟨k', s', l, a2, r2⟩ | h⟩
    · exact .inl h
    · exact .inr ⟨e1, a, .inl ⟨k', _, l, a2, s', rfl, r2⟩⟩
    · exact .inr ⟨e1, a, .inr h⟩) n k0 e hk ⟨s0, h0, r0⟩
  exact ⟨e1, hF.symm.trans q, z⟩
theorem lc_fi {t : PB} {a : PE} {vs : List Nat} {F : PR (List D)} {ds : List D} {e : Env} (hF : lcR c t a vs ds e = F) (E : Env) (f : D → Option D) (h : kill vs e = E) (hz : ds.length < 16000000) (st : ∀ d, d ∈ ds → lcT1 c t a vs d E = .ok (f d) E) : F = .ok (ds.filterMap f) E := hF.symm.trans (lc_pure E f ds h hz st)
theorem lc_ma {t : PB} {a : PE} {vs : List Nat} {F : PR (List D)} {ds : List D} {e : Env} (hF : lcR c t a vs ds e = F) (E : Env) (f : D → D) (h : kill vs e = E) (hz : ds.length < 16000000) (st : ∀ d, d ∈ ds → lcT1 c t a vs d E = .ok (some (f d)) E) : F = .ok (ds.map f) E := hF.symm.trans (lc_map E f ds h hz st)
end
/-! dicts -/
section
variable {e : Env} {pa pb : PE} {kvs : List (DK × D)} {y : D} {i : Nat} {am : PDs}
@[simp] theorem d_get : gDGet (.dK kvs) y = (keyOf y).bind fun k => valK kvs k := rfl
@[simp] theorem d_getl : gDGet (.dKl kvs) y = (keyOf y).bind fun k => valK kvs k := rfl
@[simp] theorem d_in : cDIn y (.dK kvs) = (keyOf y).map fun k => (valK kvs k).isSome := by unfold cDIn; cases y <;> rfl
@[simp] theorem d_inl : cDIn y (.dKl kvs) = (keyOf y).map fun k => (valK kvs k).isSome := by unfold cDIn; cases y <;> rfl
@[simp] theorem d_nin {x : D} : cDNin y x = (cDIn y x).map not := rfl
@[simp] theorem d_new : pDNew e = .ok (.dK []) e := rfl
@[simp] theorem d_disp : pDisp am e = (am e).bind fun ds e1 => match pairsK ds with
  | some kvs => if kvs.length ≤ 15 then .ok (.dK (mergeP [] kvs)) e1 else .bad
  | none => .bad := rfl
@[simp] theorem d_set {p : Pth} : sSetK p pb pa e = (pa e).st fun d e1 => (p.ev e1).st fun r e2 => (pb e2).st fun x e3 => match keyOf x, getP p.root r e3 with
  | some k, some (.dK ds) => if ds.length < 16000000 then .nx (setP p.root r (.dK (putK ds k d)) e3) else .bad
  | _, _ => .bad := rfl
@[simp] theorem d_kv : iKv i e = match e[i]? with
  | some (.dK kvs) => .ok (kvs.map fun p => dkD p.1) (e.set i (.leaf (.dKl kvs)))
  | some (.leaf (.dKl kvs)) => .ok (kvs.map fun p => dkD p.1) e
  | _ => .bad := rfl
@[simp] theorem d_key : ∀ {k : DK}, keyOf (dkD k) = some k
  | .inl _ => rfl
  | .inr _ => rfl
@[simp] theorem d_keyi {j : Int} : keyOf (.int j) = some (.inl j) := rfl
@[simp] theorem d_keys {s : List Nat} : keyOf (.str s) = some (.inr s) := rfl
end
/-! more built-ins -/
section
variable {ds : List D} {f : List Int → Option Int} {fb : List Bool → Bool}
@[simp] theorem b_li : gLI f [.lst ds] = (intsD ds).bind fun ns => (f ns).map .int := rfl
@[simp] theorem b_lb : gLB fb [.lst ds] = (blsD ds).map fun bs => .bl (fb bs) := rfl
@[simp] theorem b_sortI : gSortI [.lst ds] = (intsD ds).map fun ns => .ls ((sortI ns).map .int) := rfl
@[simp] theorem b_intsD : ∀ ns : List Int, intsD (ns.map .int) = some ns
  | [] => rfl
  | n :: r => by simp [intsD, b_intsD r]
@[simp] theorem b_blsD : ∀ ns : List Bool, blsD (ns.map .bl) = some ns
  | [] => rfl
  | n :: r => by simp [blsD, b_blsD r]
end
/-! conditions that omega sees: simp (disch := omega) [if_le, if_lt] -/
theorem if_le {α : Type} {a b : Nat} {x y : α} (h : a ≤ b) : (if a ≤ b then x else y) = x := if_pos h
theorem if_lt {α : Type} {a b : Nat} {x y : α} (h : a < b) : (if a < b then x else y) = x := if_pos h
/-! membership -/
section
variable {f a : List Nat} {ds : List D} {i : Int}
@[simp] theorem D_eq_ss : D.eq (.str a) (.str f) = decide (f = a) := by
  simp only [D.eq]
  by_cases h : f = a
  · subst h; simp
  · simp [h]; intro z; exact absurd z.symm h
@[simp] theorem D_eq_ii {j : Int} : D.eq (.int j) (.int i) = decide (i = j) := by
  simp only [D.eq]
  by_cases h : i = j
  · subst h; simp
  · simp [h]; intro z; exact absurd z.symm h
@[simp] theorem D_eq_is : D.eq (.int i) (.str f) = false := by simp [D.eq]
@[simp] theorem D_eq_si : D.eq (.str f) (.int i) = false := by simp [D.eq]
@[simp] theorem atom_str : atom (.str f) = true := rfl
@[simp] theorem atom_int : atom (.int i) = true := rfl
@[simp] theorem atom_bl {b : Bool} : atom (.bl b) = true := rfl
@[simp] theorem atom_non : atom .non = true := rfl
@[simp] theorem atom_tup : atom (.tup ds) = false := rfl
@[simp] theorem atom_lst : atom (.lst ds) = false := rfl
@[simp] theorem c_in_st : cIn (.str f) (.tup ds) = if ds.all atom = true then some (ds.any fun y => D.eq y (.str f)) else none := by
  show (if (atom (.str f) && ds.all atom) = true then _ else _) = _
  simp
@[simp] theorem c_in_it : cIn (.int i) (.tup ds) = if ds.all atom = true then some (ds.any fun y => D.eq y (.int i)) else none := by
  show (if (atom (.int i) && ds.all atom) = true then _ else _) = _
  simp
theorem c_in0 {x : D} (h : atom x = true) (h2 : ds.all atom = true) : cIn0 x ds = some (ds.any fun y => D.eq y x) := by
  unfold cIn0; rw [h, h2]; rfl
end
/-! the greatest and the least -/
/-! texts, places, chains -/
section
variable {e : Env} {pa pb pc : PE} {s z : List Nat} {c k : Nat} {i : Int} {f f' : D → D → Option Bool} {ds : List D} {y : D} {ss : List (List Nat)}
@[simp] theorem x_ord : gOrd [.str [c]] = some (.int c) := rfl
@[simp] theorem x_chain : pChain f f' pa pb pc e = (pa e).bind fun x e1 => (pb e1).bind fun y e2 => (oE (f x y) e2).bind fun k e3 => if k = true then (pc e3).bind fun z e4 => (oE (f' y z) e4).bind fun k e5 => .ok (.bl k) e5 else .ok (.bl false) e3 := rfl
@[simp] theorem x_mulS : gMulS (.str s) (.int i) = if s.length * i.toNat ≤ 16000000 ∧ i.natAbs ≤ 1000000000 then some (.str (List.replicate i.toNat s).flatten) else none := rfl
@[simp] theorem x_inS : cInS (.str [c]) (.str z) = some (decide (c ∈ z)) := rfl
@[simp] theorem x_ninS : cNinS (.str [c]) (.str z) = some (!decide (c ∈ z)) := rfl
@[simp] theorem x_indexS : gIndexS s (.str [c]) = (s.findIdx? (· == c)).map fun (i : Nat) => D.int i := rfl
@[simp] theorem x_indexL : gIndexL (.lst ds) y = if ds.all atom = true ∧ atom y = true then (ds.findIdx? fun z => D.eq z y).map fun (i : Nat) => D.int i else none := rfl
@[simp] theorem x_pindexL : pIndexL pa pb e = (pa e).bind fun x e1 => match x with | .lst ds => (pb e1).bind fun y e2 => oE (gIndexL (.lst ds) y) e2 | _ => .bad := rfl
@[simp] theorem x_indexT : gIndexT ss [.str z] = (ss.findIdx? (· == z)).map fun (i : Nat) => D.int i := rfl
@[simp] theorem x_tryAs {ys : List Nat} {b w : PS} : sTryAs k ys b w e = match b e with
  | .ex C x e1 => if C ∈ ys ∧ x = none ∧ k < e1.length then (w (e1.set k .hole)).cl k else .bad
  | r => r := rfl
@[simp] theorem x_clnx : (PRS.nx e).cl k = .nx (e.set k .hole) := rfl
@[simp] theorem x_clrt {t : T} : (PRS.rt t e).cl k = .rt t (e.set k .hole) := rfl
end
/-! ### comprehensions whose items may raise -/
section
variable {α β : Type} {e : Env} {it : PDs} {c : CT} {t : PB} {a : PE} {vs : List Nat}
@[simp] theorem y_lcX : pLcX it c t a vs e = (it e).bind fun ds e1 => (lcLX c t a vs ds [] e1).kl vs .ls := rfl
@[simp] theorem y_klok {f : α → β} {x : α} : (PR.ok x e).kl vs f = .ok (f x) (kill vs e) := rfl
@[simp] theorem y_klex {f : α → β} {C : Nat} {x : Option (List (String × D))} : (PR.exc C x e : PR α).kl vs f = .exc C x (kill vs e) := rfl
end
theorem kA_eq (n : Nat) (i : Int) : kA n i = i := by
  induction n using Nat.strongRecOn with
  | _ n ih =>
    unfold kA
    split
    · rfl
    · exact ih _ (by omega)
@[simp] theorem kI_eq (i : Int) : kI i = i := kA_eq 1 i
end P

set_option Elab.async false
set_option linter.all false
set_option maxRecDepth 100000
set_option maxHeartbeats 1000000
/-! PLemB: how the rest of the pure meanings is reckoned. -/
namespace P
section
variable {α β : Type} {e e1 e2 E : Env} {d x : D} {ds us : List D} {n : Nat} {t : T} {ts : List T} {pa : PT} {pb : PE} {sem : PSem} {am : PDs} {at' : PTs} {p : Pth} {kvs : List (DK × D)} {it : PDs} {c : CT} {a : PT} {vs : List Nat}
@[simp] theorem w_lk : pLk pa e = (pa e).bind fun t e1 => match t with
  | .dK kvs => .ok (.dKl kvs) e1
  | .leaf (.dKl kvs) => .ok (.dKl kvs) e1
  | _ => .bad := rfl
@[simp] theorem w_callBP : pCallBP n sem p am e = (p.ev e).bind fun r e1 => (am e1).bind fun ds e2 => match getP p.root r e2 with
  | some t => (match t.fz with
    | some d => (if ds.length + 1 = n then (match sem (.leaf d :: ds.map .leaf) with
      | .ok t _ => if t.flat = true then .ok t e2 else .bad
      | .exc C none => .exc C none e2
      | _ => .bad) else .bad)
    | none => .bad)
  | none => .bad := rfl
@[simp] theorem w_callO : pCallO n sem at' e = (at' e).bind fun ts e1 => if ts.length = n then callR (sem ts) e1 else .bad := rfl
@[simp] theorem w_ixT : pIxT pa pb e = (pa e).bind fun t e1 => (pb e1).bind fun x e2 => match t, x with
  | .lT ts, .int i => oE (atI ts i) e2
  | _, _ => .bad := rfl
@[simp] theorem w_mvP : pMvP p e = (p.ev e).bind fun r e1 => match getP p.root r e1 with
  | some .hole => .bad
  | some (.leaf d) => .ok (.leaf d) e1
  | some t => .ok t (setP p.root r .hole e1)
  | none => .bad := rfl
@[simp] theorem w_sortS : gSortS [.lst ds] = srtS (strsD ds) := rfl
@[simp] theorem w_sortD : gSortD [.dK kvs] = srtS (keysS kvs) := rfl
@[simp] theorem w_sortDl : gSortD [.dKl kvs] = srtS (keysS kvs) := rfl
@[simp] theorem w_listD : gListD [.dK kvs] = some (.ls (kvs.map fun p => dkD p.1)) := rfl
@[simp] theorem w_listDl : gListD [.dKl kvs] = some (.ls (kvs.map fun p => dkD p.1)) := rfl
@[simp] theorem w_strs : ∀ ss : List (List Nat), strsD (ss.map .str) = some ss
  | [] => rfl
  | s :: r => by simp [strsD, w_strs r]
theorem w_srt {ss : List (List Nat)} (h : ss.length < 64) : srtS (some ss) = some (.ls ((sortS ss).map .str)) := by
  unfold srtS; simp [h]
theorem insS_mem {x y : List Nat} : ∀ {r : List (List Nat)}, y ∈ insS x r ↔ y = x ∨ y ∈ r
  | [] => by simp [insS]
  | z :: r => by
    unfold insS
    split
    · rw [List.mem_cons, insS_mem (r := r), List.mem_cons]
      constructor
      · rintro (h | h | h)
        · exact .inr (.inl h)
        · exact .inl h
        · exact .inr (.inr h)
      · rintro (h | h | h)
        · exact .inr (.inl h)
        · exact .inl h
        · exact .inr (.inr h)
    · simp
theorem flats_all : ∀ ds : List D, D.flats ds = ds.all D.flat
  | [] => by unfold D.flats; rfl
  | d :: ds => by unfold D.flats; rw [flats_all ds]; rfl
@[simp] theorem fl_tup : D.flat (.tup ds) = ds.all D.flat := by
  conv => lhs; unfold D.flat
  exact flats_all ds
@[simp] theorem fl_int {i : Int} : D.flat (.int i) = true := by unfold D.flat; rfl
@[simp] theorem fl_str {s : List Nat} : D.flat (.str s) = true := by unfold D.flat; rfl
@[simp] theorem fl_bl {b : Bool} : D.flat (.bl b) = true := by unfold D.flat; rfl
@[simp] theorem fl_non : D.flat .non = true := by unfold D.flat; rfl
@[simp] theorem tfl_leaf : T.flat (.leaf d) = d.flat := by unfold T.flat; rfl
@[simp] theorem tfl_ls : T.flat (.ls ds) = ds.all D.flat := by
  conv => lhs; unfold T.flat
  exact flats_all ds
theorem tflats_all : ∀ ts : List T, T.flats ts = ts.all T.flat
  | [] => by unfold T.flats; rfl
  | d :: ds => by unfold T.flats; rw [tflats_all ds]; rfl
@[simp] theorem tfl_lT : T.flat (.lT ts) = ts.all T.flat := by
  conv => lhs; unfold T.flat
  exact tflats_all ts
@[simp] theorem tfl_dK : T.flat (.dK kvs) = (kvs.map (·.2)).all D.flat := by
  conv => lhs; unfold T.flat
  exact flats_all _
@[simp] theorem tfl_nil : T.flatf [] = true := by unfold T.flatf; rfl
@[simp] theorem tfl_cons {g : String} {r : List (String × T)} : T.flatf ((g, t) :: r) = (t.flat && T.flatf r) := by
  conv => lhs; unfold T.flatf
@[simp] theorem tfl_is {C : Nat} {fs : List (String × T)} : T.flat (.is C fs) = T.flatf fs := by
  conv => lhs; unfold T.flat
end
end P

set_option Elab.async false
set_option linter.all false
set_option maxRecDepth 100000
set_option maxHeartbeats 1000000
/-! PLemC: how setdefault and *e are reckoned. -/
namespace P
section
variable {e : Env} {d x : D} {ds us : List D} {pb : PE} {am : PDs} {p : Pth} {kvs : List (DK × D)} {i : Int} {s : List Nat}
@[simp] theorem x_updD {f : T → List D → Option (D × T)} : pUpdD p am f e = (p.ev e).bind fun r e1 => match getP p.root r e1 with
  | some (.dK _) => (am e1).bind fun ds e2 => (match getP p.root r e2 with
    | some t => (match f t ds with
      | some (d, s) => .ok d (setP p.root r s e2)
      | none => .bad)
    | none => .bad)
  | _ => .bad := rfl
@[simp] theorem x_sdi : uSd (.dK kvs) [.int i, d] = (match valK kvs (.inl i) with
  | some y => some (y, .dK kvs)
  | none => if kvs.length < 16000000 then some (d, .dK (putK kvs (.inl i) d)) else none) := rfl
@[simp] theorem x_sds : uSd (.dK kvs) [.str s, d] = (match valK kvs (.inr s) with
  | some y => some (y, .dK kvs)
  | none => if kvs.length < 16000000 then some (d, .dK (putK kvs (.inr s) d)) else none) := rfl
@[simp] theorem x_sql : sqS (.lst us) = some us := rfl
@[simp] theorem x_sqk : sqS (.kl us) = some us := rfl
@[simp] theorem x_sqt : sqS (.tup us) = some us := rfl
@[simp] theorem x_star : dStar pb am e = (pb e).bind fun x e1 => match sqS x with
  | some us => (am e1).bind fun ys e2 => .ok (us ++ ys) e2
  | none => .bad := rfl
end
end P

set_option Elab.async false
set_option linter.all false
set_option maxRecDepth 100000
set_option maxHeartbeats 1000000
/-! PLemD: how get and list times number are reckoned. -/
namespace P
section
variable {e : Env} {x y z : D} {ds us : List D} {pa pb : PE} {am : PDs} {kvs : List (DK × D)} {k : Int}
@[simp] theorem x_get : pGet pa am e = (pa e).bind fun x e1 => match x with
  | .dK kvs => (am e1).bind fun ds e2 => oE (gG kvs ds) e2
  | .dKl kvs => (am e1).bind fun ds e2 => oE (gG kvs ds) e2
  | _ => .bad := rfl
@[simp] theorem x_g1 : gG kvs [y] = (keyOf y).map fun k => (valK kvs k).getD .non := rfl
@[simp] theorem x_g2 : gG kvs [y, z] = (keyOf y).map fun k => (valK kvs k).getD z := rfl
@[simp] theorem x_mulL : pMulL pa pb e = (pa e).bind fun x e1 => (pb e1).bind fun y e2 => oE (tMulL x y) e2 := rfl
@[simp] theorem x_tmulL : tMulL (.lst us) (.int k) = if us.length * k.toNat ≤ 16000000 ∧ k.natAbs ≤ 1000000000 then some (.ls (List.replicate k.toNat us).flatten) else none := rfl
end
end P

set_option Elab.async false
set_option linter.all false
set_option maxRecDepth 100000
set_option maxHeartbeats 1000000
/-! PLemE: how comprehensions of two clauses are reckoned. -/
namespace P
section
variable {it it1 : PDs} {c c1 : CT} {t t1 : PB} {a : PE} {vs vs1 : List Nat} {e : Env}
def lcR2 (c : CT) (t : PB) (it1 : PDs) (c1 : CT) (t1 : PB) (a : PE) (vs vs1 : List Nat) (ds : List D) (e : Env) : PR (List D) := (lcL2 c t it1 c1 t1 a vs vs1 ds [] e).bind fun r e => .ok r (kill vs e)
@[simp] theorem v_lc2 : pLc2 it c t it1 c1 t1 a vs vs1 e = (it e).bind fun ds e1 => (lcR2 c t it1 c1 t1 a vs vs1 ds e1).bind fun r e2 => .ok (.ls r) e2 := by
  unfold pLc2 lcR2
  cases it e with
  | ok ds e1 =>
    show (lcL2 c t it1 c1 t1 a vs vs1 ds [] e1).bind _ = _
    show _ = ((lcL2 c t it1 c1 t1 a vs vs1 ds [] e1).bind _).bind _
    cases lcL2 c t it1 c1 t1 a vs vs1 ds [] e1 <;> rfl
  | _ => rfl
end
end P

set_option Elab.async false
set_option linter.all false
set_option maxRecDepth 100000
set_option maxHeartbeats 1000000
/-! PLemF: how dict comprehensions, isupper and changes of lists that nobody owns are reckoned. -/
namespace P
section
variable {it : PDs} {c : CT} {t : PB} {pk pv a : PE} {o : PT} {am : PDs} {vs : List Nat} {e : Env} {s : List Nat} {g : T → List D → Option (D × T)} {x : Nat}
def dcR (c : CT) (t : PB) (pk pv : PE) (vs : List Nat) (ds : List D) (e : Env) : PR (List (DK × D)) := (dcL c t pk pv vs ds [] e).bind fun r e => .ok r (kill vs e)
@[simp] theorem v_dc : pDc it c t pk pv vs e = (it e).bind fun ds e1 => (dcR c t pk pv vs ds e1).bind fun r e2 => .ok (.dK r) e2 := by
  unfold pDc dcR
  cases it e with
  | ok ds e1 =>
    show (dcL c t pk pv vs ds [] e1).bind _ = _
    show _ = ((dcL c t pk pv vs ds [] e1).bind _).bind _
    cases dcL c t pk pv vs ds [] e1 <;> rfl
  | _ => rfl
theorem putK_len (k : DK) (d : D) : ∀ acc : List (DK × D), (putK acc k d).length ≤ acc.length + 1 := fun acc => by
  unfold putK
  split
  · have : ∀ l : List (DK × D), (repK l k d).length = l.length := fun l => by
      induction l with
      | nil => rfl
      | cons p r ih => obtain ⟨j, x⟩ := p; unfold repK; rw [List.length_cons, List.length_cons, ih]
    rw [this]; omega
  · simp
/-- what changes nothing: the items' keys k d and values v d are put one by one -/
theorem dc_gp (E : Env) (k : D → DK) (v : D → D) : ∀ (ds : List D) (acc : List (DK × D)) (e : Env), kill vs e = E → (∀ d ∈ ds, ∃ e1, c.asg d E = some e1 ∧ t e1 = .ok true e1 ∧ (∃ y, pk e1 = .ok y e1 ∧ keyOf y = some (k d)) ∧ pv e1 = .ok (v d) e1 ∧ kill vs e1 = E) →
    acc.length + ds.length ≤ 1000000 → ∃ e', dcL c t pk pv vs ds acc e = .ok (ds.foldl (fun acc d => putK acc (k d) (v d)) acc) e' ∧ kill vs e' = E
  | [], acc, e, h, _, _ => ⟨e, by simp [dcL], h⟩
  | d :: ds, acc, e, h, st, hz => by
    rw [List.length_cons] at hz
    obtain ⟨e1, q1, q2, ⟨y, q3, q4⟩, q5, q6⟩ := st d List.mem_cons_self
    have hl := putK_len (k d) (v d) acc
    obtain ⟨e', r1, r2⟩ := dc_gp E k v ds (putK acc (k d) (v d)) e1 q6 (fun x m => st x (List.mem_cons_of_mem _ m)) (by omega)
    refine ⟨e', ?_, r2⟩
    unfold dcL
    rw [h, q1]
    simp only [q2, r_no, r_ok, if_true, q3, q5, q4]
    rw [if_pos (by omega), r1]
    rfl
theorem dc_ma {F : PR (List (DK × D))} {ds : List D} {e : Env} (hF : dcR c t pk pv vs ds e = F) (E : Env) (k : D → DK) (v : D → D) (h : kill vs e = E) (st : ∀ d ∈ ds, ∃ e1, c.asg d E = some e1 ∧ t e1 = .ok true e1 ∧ (∃ y, pk e1 = .ok y e1 ∧ keyOf y = some (k d)) ∧ pv e1 = .ok (v d) e1 ∧ kill vs e1 = E)
    (hz : ds.length ≤ 1000000) : F = .ok (ds.foldl (fun acc d => putK acc (k d) (v d)) []) E := by
  obtain ⟨e', q, r⟩ := dc_gp E k v ds [] e h st (by simpa using hz)
  rw [← hF]
  unfold dcR
  rw [q]
  show PR.ok _ (kill vs e') = _
  rw [r]
@[simp] theorem v_sm0 {f : List Nat → Option D} : pSM0 f a e = (a e).bind fun x e1 => match x with | .str s => oE (f s) e1 | _ => .bad := rfl
@[simp] theorem x_up0 : gUp [] = some (.bl false) := rfl
@[simp] theorem x_up1 : gUp [x] = if x < 128 then some (.bl (decide (65 ≤ x) && decide (x ≤ 90))) else none := rfl
@[simp] theorem v_updT : pUpdT o am g e = (o e).bind fun t e1 => match t with
  | .ls xs => (am e1).bind fun ds e2 => (match g (.ls xs) ds with
    | some (d, _) => .ok d e2
    | none => .bad)
  | _ => .bad := rfl
end
end P

set_option Elab.async false
set_option linter.all false
set_option maxHeartbeats 1000000
/-! PLemG: how these are reckoned. -/
namespace P
section
variable {e : Env} {d x y : D} {ds us : List D} {pa pb : PE} {i j k : Int} {c : Nat} {s z : List Nat} {b : Bool} {g : List Nat → D → Option T}
@[simp] theorem z_mulW : gMulW (.int i) (.int j) = if cMulW i j then some (.int (i * j)) else none := rfl
@[simp] theorem z_divW : gDivW (.int i) (.int j) = if cDivW j then some (.int (i / j)) else none := rfl
@[simp] theorem z_mulT : gMulT (.tup us) (.int k) = if 0 < us.length ∧ 2 ≤ k ∧ k ≤ 1000 ∧ us.length ≤ 1000 then some (.tup (List.replicate k.toNat us).flatten) else none := rfl
@[simp] theorem z_strI : gStrV [.int i] = if i.natAbs.log2 < 1920 then some (.str (sInt i)) else none := rfl
@[simp] theorem z_strB : gStrV [.bl b] = some (.str (if b = true then kTrue else kFalse)) := rfl
@[simp] theorem z_split : gSplit s (.str [c]) = if s.length ≤ 16000000 then some (.ls ((splitC c s).map .str)) else none := rfl
@[simp] theorem z_sm1t : pSM1T g pa pb e = (pa e).bind fun x e1 => match x with | .str s => (pb e1).bind fun y e2 => oE (g s y) e2 | _ => .bad := rfl
@[simp] theorem z_repA : pRepA s c z pa e = (pa e).bind fun x e1 => match x with | .str t => if t.length * (z.length + 1) + z.length + s.length ≤ 1000000 then .ok (.str (s ++ replC c z t)) e1 else .bad | _ => .bad := rfl
@[simp] theorem z_extT : uExtT (.ls us) [.tup ds] = if us.length + ds.length ≤ 16000000 then some (.non, .ls (us ++ ds)) else none := rfl
@[simp] theorem z_eqE : cEqE (.tup us) (.tup []) = some us.isEmpty := rfl
end
end P

set_option Elab.async false
set_option linter.all false
/-! PLemH: lemmas on PDefH. -/
namespace P
@[simp] theorem h_star {pd pk pv : PE} {e : Env} : pStar pd pk pv e = (pd e).bind fun d e1 => match sDK d with
  | some kvs => if kvs.length ≤ 16000000 then (pk e1).bind fun x e2 => (pv e2).bind fun y e3 => (match keyOf x with
      | some k => if (mergeP [] kvs).length < 16000000 then .ok (.dK (putK (mergeP [] kvs) k y)) e3 else .bad
      | none => .bad) else .bad
  | none => .bad := rfl
@[simp] theorem h_sdk {kvs : List (DK × D)} : sDK (.dK kvs) = some kvs := rfl
@[simp] theorem h_sdkl {kvs : List (DK × D)} : sDK (.dKl kvs) = some kvs := rfl
@[simp] theorem h_sortT {ds : List D} : gSortT [.lst ds] = (keysT ds).map fun ks => .ls (srtT ds ks) := rfl
@[simp] theorem h_upd {kvs more : List (DK × D)} : P.uUpd (.dK kvs) [.dK more] = if kvs.length + more.length ≤ 16000000 then some (.non, .dK (mergeP kvs more)) else none := rfl
@[simp] theorem h_leP {n m : Int} {p q : List Nat} : cLeP (.tup [.int n, .str p]) (.tup [.int m, .str q]) = some (decide (n < m ∨ (n = m ∧ p ≤ q))) := rfl
end P

set_option Elab.async false
set_option linter.all false
set_option maxRecDepth 100000
set_option maxHeartbeats 2000000
/-! PLaw: what many laws share. -/
namespace P
def lawMix : PSem := pFn 3 [] (sSeq (sAsg 2 (pLf (pBin gMod (pCB gInt (dCons (pFz (pAdd (pFz (pAdd (pBin gMul (pCB gInt (dCons (pVar 0) dNil)) (pC (.int 48271))) (pBin gMul (pVar 1) (pC (.int 69621))))) (pC (.int 12345)))) dNil)) (pC (.int 2147483647)))))
    (sSeq (sAsg 2 (pLf (pBin gMod (pCB gInt (dCons (pFz (pAdd (pFz (pAdd (pBin gMul (pVar 2) (pVar 2)) (pBin gMul (pVar 1) (pC (.int 40692))))) (pC (.int 1)))) dNil)) (pC (.int 2147483399)))))
    (sRet (pLf (pBin gMod (pBin gDiv (pVar 2) (pC (.int 5))) (pC (.int 9973)))))))
def lawDraws : PSem := pFn 5 [] (sSeq (sAsg 1 (pLst dNil))
    (sSeq (sFor [2, 3, 4] (iR1 (dCons (pCB gMin (dCons (pC (.int 63)) (dCons (pCB gLen (dCons (pVar 0) dNil)) dNil))) dNil)) (.one 2) (sSeq (sAsg 3 (pLf (pCB gInt (dCons (pBin gIx (pVar 0) (pVar 2)) dNil))))
    (sIf (tCmp cLt (pVar 3) (pBin gPow (pC (.int 10)) (pC (.int 18)))) (sDrop (pLf (pUpd (.var 1) (dCons (pFz (pCall 2 lawMix (dCons (pVar 3) (dCons (pVar 2) dNil)))) dNil) uApp))) (sFor [4] (iR1 (dCons (pC (.int 60)) dNil)) (.one 4) (sIf (tCmp cGt (pVar 3) (pC (.int 0))) (sSeq (sDrop (pLf (pUpd (.var 1) (dCons (pBin gMod (pCB gInt (dCons (pVar 3) dNil)) (pC (.int 9973))) dNil) uApp)))
    (sAsg 3 (pLf (pBin gDiv (pVar 3) (pC (.int 9973)))))) sNx)))))
    (sRet (pMv 1))))
def lawAt : PSem := pFn 2 [] (sSeq (sIf (tCmp cLt (pVar 1) (pCB gLen (dCons (pVar 0) dNil))) (sRet (pLf (pBin gIx (pVar 0) (pVar 1)))) sNx)
    (sSeq (sIf (tCmp cEq (pCB gLen (dCons (pVar 0) dNil)) (pC (.int 0))) (sRet (pCall 2 lawMix (dCons (pVar 1) (dCons (pC (.int 77)) dNil)))) sNx)
    (sRet (pCall 2 lawMix (dCons (pFz (pAdd (pBin gIx (pVar 0) (pBin gMod (pCB gInt (dCons (pVar 1) dNil)) (pCB gLen (dCons (pVar 0) dNil)))) (pBin gMul (pVar 1) (pC (.int 131))))) (dCons (pVar 1) dNil))))))
def lawNext : PSem := pFn 2 [true] (sSeq (sAugI gIAdd (.var 0) (pC (.int 1)) (pC (.int 1)))
    (sRet (pLf (pBin gMod (pFz (pCall 2 lawAt (dCons (pBin gIx (pVw 0) (pC (.int 0))) (dCons (pBin gIx (pVw 0) (pC (.int 1))) dNil)))) (pVar 1)))))
def lawIsInt : PSem := pFn 1 [] (sRet (pLf (pAnd (pB (tIs .int (pVar 0))) (pUn gNot (pB (tIs .bool (pVar 0)))))))
def lawSame : Nat → PSem
  | 0 => fun _ => .bad
  | n + 1 => pFn 3 [] (sSeq (sIf (tIs2 .list .tuple (pVar 1)) (sSeq (sIf (tOr (tCmp cNe (pB (tIs .list (pVar 1))) (pB (tIs .list (pVar 0)))) (tCmp cNe (pB (tIs .tuple (pVar 1))) (pB (tIs .tuple (pVar 0))))) (sRet (pLf (pC (.bl false)))) sNx)
    (sSeq (sIf (tCmp cNe (pCB gLen (dCons (pVar 0) dNil)) (pCB gLen (dCons (pVar 1) dNil))) (sRet (pLf (pC (.bl false)))) sNx)
    (sSeq (sFor [2] (iR1 (dCons (pCB gLen (dCons (pVar 1) dNil)) dNil)) (.one 2) (sIf (tNot (tTru (pFz (pCall 2 (lawSame n) (dCons (pBin gIx (pVar 0) (pVar 2)) (dCons (pBin gIx (pVar 1) (pVar 2)) dNil)))))) (sRet (pLf (pC (.bl false)))) sNx))
    (sRet (pLf (pC (.bl true))))))) sNx)
    (sSeq (sIf (tCmp cIs (pVar 1) (pC .non)) (sRet (pLf (pB (tCmp cIs (pVar 0) (pC .non))))) sNx)
    (sSeq (sIf (tIs .bool (pVar 1)) (sRet (pLf (pAnd (pB (tIs .bool (pVar 0))) (pB (tCmp cEq (pVar 0) (pVar 1)))))) sNx)
    (sSeq (sIf (tIs .int (pVar 1)) (sRet (pLf (pAnd (pFz (pCall 1 lawIsInt (dCons (pVar 0) dNil))) (pB (tCmp cEq (pVar 0) (pVar 1)))))) sNx)
    (sRet (pLf (pAnd (pB (tIs .str (pVar 0))) (pB (tCmp cEq (pVar 0) (pVar 1))))))))))
/-- lists of natural numbers -/
abbrev In (l : List Nat) : List D := l.map fun (n : Nat) => D.int (n : Int)
def mixF (c k : Int) : Int :=
  ((c * 48271 + k * 69621 + 12345) % 2147483647 * ((c * 48271 + k * 69621 + 12345) % 2147483647) + k * 40692 + 1) % 2147483399 / 5 % 9973
theorem mixF_bd (c k : Int) : 0 ≤ mixF c k ∧ mixF c k < 9973 := ⟨Int.emod_nonneg _ (by decide), Int.emod_lt_of_pos _ (by decide)⟩
def mixN (c k : Int) : Nat := (mixF c k).toNat
theorem mixN_lt (c k : Int) : mixN c k < 9973 := by have := mixF_bd c k; unfold mixN; omega
theorem mixN_eq (c k : Int) : mixF c k = (mixN c k : Int) := by have := mixF_bd c k; unfold mixN; omega
theorem lawMix_ok (c k : Int) : lawMix [.leaf (.int c), .leaf (.int k)] = .ok (.leaf (.int (mixN c k))) [] := by
  rw [← mixN_eq]
  have h1 : 0 ≤ (c * 48271 + k * 69621 + 12345) % 2147483647 := Int.emod_nonneg _ (by decide)
  have h2 : (c * 48271 + k * 69621 + 12345) % 2147483647 < 2147483647 := Int.emod_lt_of_pos _ (by decide)
  unfold lawMix mixF
  simp
  generalize (c * 48271 + k * 69621 + 12345) % 2147483647 = z at h1 h2 ⊢
  have h3 : cMul z z := cMul_l' (by omega) (by omega)
  simp [h3]
/-- all draws are small -/
def Dr (vs : List Nat) : Prop := ∀ v ∈ vs, v < 9973
theorem lawDraws_ok {ns : List Int} (hn : ns.length ≤ 63) : ∃ vs, lawDraws [.leaf (.kl (ns.map .int))] = .ok (.ls (In vs)) [] ∧ Dr vs := by
  unfold lawDraws
  have hm : (if (ns.length : Int) < 63 then (ns.length : Int) else 63) = ns.length := by split <;> omega
  have hz : ns.length ≤ 1000000000 := by omega
  simp [hm, hz]
  generalize hF : forL _ _ _ _ _ = F
  obtain ⟨vs, rfl, d, -⟩ := for_st hF (fun vs => [T.leaf (.kl (ns.map .int)), T.ls (In vs), .hole, .hole, .hole]) (fun i vs => Dr vs ∧ vs.length ≤ 60 * i) [] (by simp) ⟨by simp [Dr], by simp⟩ (by
    rintro i d vs hd ⟨dr, l⟩
    obtain ⟨hi, rfl⟩ := rng_get hd
    have hg : ns[i]? = some ns[i] := List.getElem?_eq_getElem hi
    have hl : vs.length < 16000000 := by omega
    by_cases c : ns[i] < 1000000000000000000
    · refine ⟨vs ++ [mixN ns[i] i], by simp [hg, c, lawMix_ok, hl], ?_, by simp; omega⟩
      intro v m
      rcases List.mem_append.mp m with m | m
      · exact dr v m
      · rw [List.mem_singleton.mp m]; exact mixN_lt _ _
    · simp [hg, c]
      generalize hF2 : forL _ _ _ _ _ = F2
      obtain ⟨⟨ws, y⟩, rfl, d2, l2⟩ := for_st hF2 (fun (s : List Nat × Int) => [T.leaf (.kl (ns.map .int)), T.ls (In s.1), .leaf (.int i), .leaf (.int s.2), .hole]) (fun j s => Dr s.1 ∧ s.1.length ≤ 60 * i + j) (vs, ns[i]) (by simp) ⟨dr, by omega⟩ (by
        rintro j d ⟨ws, y⟩ hd ⟨dr, l⟩
        obtain ⟨hj, rfl⟩ := rng_get hd
        simp only at dr l
        have hl : ws.length < 16000000 := by omega
        by_cases c : 0 < y
        · have e1 : ((y % 9973).toNat : Int) = y % 9973 := by omega
          refine ⟨(ws ++ [(y % 9973).toNat], y / 9973), by simp [c, hl, e1, -Int.ofNat_toNat], ?_, by simp; omega⟩
          intro v m
          rcases List.mem_append.mp m with m | m
          · exact dr v m
          · rw [List.mem_singleton.mp m]; omega
        · exact ⟨(ws, y), by simp [c], dr, by simp; omega⟩)
      refine ⟨ws, by simp, d2, ?_⟩
      rw [rng_len] at l2
      simp at l2; omega)
  exact ⟨vs, by simp, d⟩
/-- what _law_at gives -/
def atN (vs : List Nat) (i : Nat) : Nat :=
  if i < vs.length then vs.getD i 0 else if vs = [] then mixN i 77 else mixN (vs.getD (i % vs.length) 0 + i * 131) i
theorem lawAt_int {vs : List Nat} {j : Int} (h : 0 ≤ j) : lawAt [.leaf (.lst (In vs)), .leaf (.int j)] = .ok (.leaf (.int (atN vs j.toNat))) [] := by
  unfold lawAt atN
  have ej : ((j.toNat : Nat) : Int) = j := Int.toNat_of_nonneg h
  simp only [ej]
  by_cases c : j < vs.length
  · have c' : j.toNat < vs.length := by omega
    have hg : atI (In vs) j = some (.int (vs.getD j.toNat 0 : Nat)) := by
      rw [atI_pos h, List.getElem?_map, List.getD_eq_getElem?_getD, List.getElem?_eq_getElem c']; rfl
    simp [c, c', hg]
  · have c' : ¬ j.toNat < vs.length := by omega
    by_cases z : vs = []
    · have h0 : ¬ j < 0 := by omega
      subst z; simp [lawMix_ok, h0]
    · have hp : 0 < vs.length := List.length_pos_iff.mpr z
      have hm : j.toNat % vs.length < vs.length := Nat.mod_lt _ hp
      have e1 : atI (In vs) (j % (vs.length : Int)) = some (.int (vs.getD (j.toNat % vs.length) 0 : Nat)) := by
        have : j % (vs.length : Int) = ((j.toNat % vs.length : Nat) : Int) := by rw [Int.natCast_emod, ej]
        rw [this, atI_nat, List.getElem?_map, List.getD_eq_getElem?_getD, List.getElem?_eq_getElem hm]; rfl
      have hl : ¬ (vs.length : Int) = 0 := by omega
      generalize vs.getD (j.toNat % vs.length) 0 = w at e1 ⊢
      simp [c, c', z, hp, e1, lawMix_ok]
theorem lawAt_ok (vs : List Nat) (i : Nat) : lawAt [.leaf (.lst (In vs)), .leaf (.int i)] = .ok (.leaf (.int (atN vs i))) [] := lawAt_int (by omega)
/-- the state of a drawing -/
abbrev stT (vs : List Nat) (i : Nat) : T := .ls [.lst (In vs), .int (i : Int)]
theorem lawNext_ok {vs : List Nat} (i : Nat) {L : Int} (h : 0 < L) : lawNext [stT vs i, .leaf (.int L)] = .ok (.leaf (.int ((atN vs (i + 1) : Int) % L))) [stT vs (i + 1)] := by
  have e1 : lawAt [.leaf (.lst (In vs)), .leaf (.int ((i : Int) + 1))] = .ok (.leaf (.int (atN vs (i + 1)))) [] := lawAt_ok vs (i + 1)
  have e2 : T.ls [.lst (In vs), .int ((i + 1 : Nat) : Int)] = T.ls [.lst (In vs), .int ((i : Int) + 1)] := rfl
  unfold lawNext stT
  rw [e2]
  simp [ixN, e1, h]
theorem nx (vs : List Nat) (i : Nat) {L : Int} (h : 0 < L) : ∃ v : Nat, (v : Int) < L ∧ lawNext [stT vs i, .leaf (.int L)] = .ok (.leaf (.int v)) [stT vs (i + 1)] := by
  have h1 := Int.emod_nonneg (atN vs (i + 1) : Int) (show L ≠ 0 by omega)
  refine ⟨((atN vs (i + 1) : Int) % L).toNat, ?_, ?_⟩
  · rw [Int.toNat_of_nonneg h1]; exact Int.emod_lt_of_pos _ h
  · rw [lawNext_ok i h, Int.toNat_of_nonneg h1]
/-- nested at most so deep, no list too long, no dict -/
def D.sm : Nat → D → Bool
  | 0, _ => false
  | _, .non => true
  | _, .bl _ => true
  | _, .int _ => true
  | _, .str _ => true
  | n + 1, .tup ds => decide (ds.length ≤ 1000000) && ds.all (D.sm n)
  | n + 1, .lst ds => decide (ds.length ≤ 1000000) && ds.all (D.sm n)
  | _, _ => false
theorem lawSame_ok : ∀ (n : Nat) (d : D), D.sm n d = true → lawSame n [.leaf d, .leaf d] = .ok (.leaf (.bl true)) []
  | 0, d, h => by simp [D.sm] at h
  | n + 1, .non, h => by unfold lawSame; simp [isD, cIs]
  | n + 1, .bl b, h => by unfold lawSame; simp [isD, cIs]
  | n + 1, .int b, h => by
    have : lawIsInt [.leaf (.int b)] = .ok (.leaf (.bl true)) [] := by unfold lawIsInt; simp [isD]
    unfold lawSame; simp [isD, cIs, this]
  | n + 1, .str b, h => by unfold lawSame; simp [isD, cIs]
  | n + 1, .tup ds, h => by
    simp only [D.sm, Bool.and_eq_true, decide_eq_true_eq, List.all_eq_true] at h
    have hz : ds.length ≤ 1000000000 := by omega
    unfold lawSame; simp [isD, hz]
    generalize hF : forL _ _ _ _ _ = F
    have := for_all hF [.leaf (.tup ds), .leaf (.tup ds), .hole] (by simp) (by
      intro d m
      obtain ⟨i, hi, rfl⟩ := rng_mem m
      have hg : ds[i]? = some ds[i] := List.getElem?_eq_getElem hi
      have ih := lawSame_ok n ds[i] (h.2 _ (List.getElem_mem hi))
      simp [hg, ih])
    subst this
    simp
  | n + 1, .lst ds, h => by
    simp only [D.sm, Bool.and_eq_true, decide_eq_true_eq, List.all_eq_true] at h
    have hz : ds.length ≤ 1000000000 := by omega
    unfold lawSame; simp [isD, hz]
    generalize hF : forL _ _ _ _ _ = F
    have := for_all hF [.leaf (.lst ds), .leaf (.lst ds), .hole] (by simp) (by
      intro d m
      obtain ⟨i, hi, rfl⟩ := rng_mem m
      have hg : ds[i]? = some ds[i] := List.getElem?_eq_getElem hi
      have ih := lawSame_ok n ds[i] (h.2 _ (List.getElem_mem hi))
      simp [hg, ih])
    subst this
    simp
  | n + 1, .kl ds, h => by simp [D.sm] at h
  | n + 1, .dK ds, h => by simp [D.sm] at h
  | n + 1, .dT ds, h => by simp [D.sm] at h
  | n + 1, .dKl ds, h => by simp [D.sm] at h
  | n + 1, .ins _ ds, h => by simp [D.sm] at h
@[simp] theorem sm_int {n : Nat} {i : Int} : D.sm (n + 1) (.int i) = true := rfl
@[simp] theorem sm_str {n : Nat} {i : List Nat} : D.sm (n + 1) (.str i) = true := rfl
@[simp] theorem sm_bl {n : Nat} {i : Bool} : D.sm (n + 1) (.bl i) = true := rfl
@[simp] theorem sm_non {n : Nat} : D.sm (n + 1) .non = true := rfl
@[simp] theorem sm_tup {n : Nat} {ds : List D} : D.sm (n + 1) (.tup ds) = (decide (ds.length ≤ 1000000) && ds.all (D.sm n)) := rfl
@[simp] theorem sm_lst {n : Nat} {ds : List D} : D.sm (n + 1) (.lst ds) = (decide (ds.length ≤ 1000000) && ds.all (D.sm n)) := rfl
/-! equality of data -/
mutual
theorem D.eq_refl : ∀ {d : D} {n : Nat}, D.ok n d = true → D.eq d d = true
  | .non, _, _ => by simp [D.eq]
  | .bl b, _, _ => by simp [D.eq]
  | .int b, _, _ => by simp [D.eq]
  | .str b, _, _ => by simp [D.eq]
  | .tup ds, 0, h => by simp [D.ok] at h
  | .tup ds, n + 1, h => by simp only [D.ok] at h; simp only [D.eq]; exact D.eqs_refl h
  | .lst ds, 0, h => by simp [D.ok] at h
  | .lst ds, n + 1, h => by simp only [D.ok] at h; simp only [D.eq]; exact D.eqs_refl h
  | .kl _, n, h => by cases n <;> simp [D.ok] at h
  | .dK _, n, h => by cases n <;> simp [D.ok] at h
  | .dT _, n, h => by cases n <;> simp [D.ok] at h
  | .dKl _, n, h => by cases n <;> simp [D.ok] at h
  | .ins _ _, n, h => by cases n <;> simp [D.ok] at h
theorem D.eqs_refl : ∀ {ds : List D} {n : Nat}, D.oks n ds = true → D.eqs ds ds = true
  | [], _, _ => by simp [D.eqs]
  | d :: ds, n, h => by
    unfold D.oks at h
    rw [Bool.and_eq_true] at h
    unfold D.eqs
    rw [D.eq_refl h.1, D.eqs_refl h.2]; rfl
end
@[simp] theorem oks_nil {n : Nat} : D.oks n [] = true := by unfold D.oks; rfl
@[simp] theorem oks_cons {n : Nat} {d : D} {ds : List D} : D.oks n (d :: ds) = (D.ok n d && D.oks n ds) := by conv => lhs; unfold D.oks
theorem oks_all {n : Nat} : ∀ {ds : List D}, D.oks n ds = ds.all (D.ok n)
  | [] => by simp
  | d :: ds => by simp [oks_all (ds := ds)]
@[simp] theorem ok_int {n : Nat} {i : Int} : D.ok n (.int i) = true := by cases n <;> simp [D.ok]
@[simp] theorem ok_bl {n : Nat} {i : Bool} : D.ok n (.bl i) = true := by cases n <;> simp [D.ok]
@[simp] theorem ok_non {n : Nat} : D.ok n .non = true := by cases n <;> simp [D.ok]
@[simp] theorem ok_str {n : Nat} {s : List Nat} : D.ok n (.str s) = s.all (· < 1114112) := by cases n <;> simp [D.ok]
@[simp] theorem ok_tup {n : Nat} {ds : List D} : D.ok (n + 1) (.tup ds) = D.oks n ds := by simp [D.ok]
@[simp] theorem ok_lst {n : Nat} {ds : List D} : D.ok (n + 1) (.lst ds) = D.oks n ds := by simp [D.ok]
theorem oks_In {n : Nat} {l : List Nat} : D.oks n (In l) = true := by rw [oks_all]; simp
theorem eqs_In : ∀ {l m : List Nat}, D.eqs (In l) (In m) = decide (l = m)
  | [], [] => by simp [D.eqs]
  | [], _ :: _ => by simp [D.eqs]
  | _ :: _, [] => by simp [D.eqs]
  | x :: l, y :: m => by
    simp only [List.map_cons, D.eqs, D.eq]
    rw [eqs_In (l := l) (m := m)]
    by_cases h : x = y
    · subst h; simp
    · have : ¬ (x : Int) = (y : Int) := by omega
      simp [h, this]
@[simp] theorem cEq_In {l m : List Nat} : cEq (.lst (In l)) (.lst (In m)) = some (decide (l = m)) := by
  unfold cEq
  have : (D.ok 50 (.lst (In l)) && D.ok 50 (.lst (In m))) = true := by
    rw [ok_lst, ok_lst, oks_In, oks_In]; rfl
  rw [this]
  simp [D.eq, eqs_In]
end P

set_option Elab.async false
set_option linter.all false
set_option maxRecDepth 100000
set_option maxHeartbeats 2000000
/-! PLawB: what the laws k20 to k33 share. -/
namespace P
def lawNextB : PSem := pFn 4 [true] (sSeq (sIf (tAnd (tCmp cEq (pBin gIx (pVw 0) (pC (.int 2))) (pC (.int 0))) (tCmp cLt (pBin gIx (pVw 0) (pC (.int 1))) (pCB gLen (dCons (pBin gIx (pVw 0) (pC (.int 0))) dNil)))) (sSeq (sAsg 2 (pLf (pBin gIx (pBin gIx (pVw 0) (pC (.int 0))) (pBin gIx (pVw 0) (pC (.int 1))))))
    (sSeq (sAugI gIAdd (.var 0) (pC (.int 1)) (pC (.int 1)))
    (sIf (tCmp cGe (pVar 2) (pBin gPow (pC (.int 10)) (pC (.int 18)))) (sSetI (.var 0) (pC (.int 2)) (pVar 2)) (sSetI (.var 0) (pC (.int 3)) (pBin gMod (pCB gInt (dCons (pFz (pAdd (pFz (pAdd (pBin gMul (pBin gIx (pVw 0) (pC (.int 3))) (pC (.int 48271))) (pBin gMod (pCB gInt (dCons (pVar 2) dNil)) (pC (.int 2147483647))))) (pC (.int 7)))) dNil)) (pC (.int 2147483647))))))) sNx)
    (sSeq (sIf (tCmp cGt (pBin gIx (pVw 0) (pC (.int 2))) (pC (.int 0))) (sSeq (sAsg 3 (pLf (pBin gMod (pCB gInt (dCons (pBin gIx (pVw 0) (pC (.int 2))) dNil)) (pVar 1))))
    (sSeq (sSetI (.var 0) (pC (.int 2)) (pBin gDiv (pBin gIx (pVw 0) (pC (.int 2))) (pVar 1)))
    (sRet (pLf (pVar 3))))) sNx)
    (sSeq (sSetI (.var 0) (pC (.int 3)) (pBin gMod (pCB gInt (dCons (pFz (pAdd (pBin gMul (pBin gIx (pVw 0) (pC (.int 3))) (pC (.int 69621))) (pC (.int 12345)))) dNil)) (pC (.int 2147483647))))
    (sRet (pLf (pBin gMod (pCB gInt (dCons (pBin gDiv (pBin gIx (pVw 0) (pC (.int 3))) (pC (.int 7))) dNil)) (pVar 1)))))))
def lawSameB : Nat → PSem
  | 0 => fun _ => .bad
  | n + 1 => pFn 3 [] (sSeq (sIf (tCmp cIs (pVar 1) (pC .non)) (sRet (pLf (pB (tCmp cIs (pVar 0) (pC .non))))) sNx)
    (sSeq (sIf (tIs .bool (pVar 1)) (sRet (pLf (pAnd (pB (tIs .bool (pVar 0))) (pB (tCmp cEq (pVar 0) (pVar 1)))))) sNx)
    (sSeq (sIf (tIs .int (pVar 1)) (sRet (pLf (pAnd (pB (tIs .int (pVar 0))) (pAnd (pUn gNot (pB (tIs .bool (pVar 0)))) (pB (tCmp cEq (pVar 0) (pVar 1))))))) sNx)
    (sSeq (sIf (tIs .str (pVar 1)) (sRet (pLf (pAnd (pB (tIs .str (pVar 0))) (pB (tCmp cEq (pVar 0) (pVar 1)))))) sNx)
    (sSeq (sIf (tAnd (tIs .tuple (pVar 1)) (tNot (tIs .tuple (pVar 0)))) (sRet (pLf (pC (.bl false)))) sNx)
    (sSeq (sIf (tAnd (tIs .list (pVar 1)) (tNot (tIs .list (pVar 0)))) (sRet (pLf (pC (.bl false)))) sNx)
    (sSeq (sIf (tCmp cNe (pCB gLen (dCons (pVar 0) dNil)) (pCB gLen (dCons (pVar 1) dNil))) (sRet (pLf (pC (.bl false)))) sNx)
    (sSeq (sFor [2] (iR1 (dCons (pCB gLen (dCons (pVar 1) dNil)) dNil)) (.one 2) (sIf (tNot (tTru (pFz (pCall 2 (lawSameB n) (dCons (pBin gIx (pVar 0) (pVar 2)) (dCons (pBin gIx (pVar 1) (pVar 2)) dNil)))))) (sRet (pLf (pC (.bl false)))) sNx))
    (sRet (pLf (pC (.bl true))))))))))))
/-- the state of a drawing -/
structure NS where
  ns : List Int
  i : Nat
  a : Int
  b : Int
def NS.one (s : NS) : NS := if s.a = 0 ∧ s.i < s.ns.length then (if 1000000000000000000 ≤ s.ns.getD s.i 0 then { s with i := s.i + 1, a := s.ns.getD s.i 0 } else { s with i := s.i + 1, b := (s.b * 48271 + s.ns.getD s.i 0 % 2147483647 + 7) % 2147483647 }) else s
def nxS (s : NS) (L : Int) : NS := if 0 < s.one.a then { s.one with a := s.one.a / L } else { s.one with b := (s.one.b * 69621 + 12345) % 2147483647 }
def nxV (s : NS) (L : Int) : Int := if 0 < s.one.a then s.one.a % L else ((s.one.b * 69621 + 12345) % 2147483647) / 7 % L
abbrev stB (s : NS) (r : List D) : T := .ls (.lst (s.ns.map .int) :: .int s.i :: .int s.a :: .int s.b :: r)
end P

set_option Elab.async false
set_option linter.all false
set_option maxRecDepth 100000
set_option maxHeartbeats 2000000
/-! PLawC: the drawing of k25 to k28 (great limits). -/
namespace P
def lawNextW : PSem := pFn 4 [true] (sSeq (sIf (tAnd (tCmp cEq (pBin gIx (pVw 0) (pC (.int 2))) (pC (.int 0))) (tCmp cLt (pBin gIx (pVw 0) (pC (.int 1))) (pCB gLen (dCons (pBin gIx (pVw 0) (pC (.int 0))) dNil)))) (sSeq (sAsg 2 (pLf (pBin gIx (pBin gIx (pVw 0) (pC (.int 0))) (pBin gIx (pVw 0) (pC (.int 1))))))
    (sSeq (sAugI gIAdd (.var 0) (pC (.int 1)) (pC (.int 1)))
    (sIf (tCmp cGe (pVar 2) (pBin gPow (pC (.int 10)) (pC (.int 18)))) (sSetI (.var 0) (pC (.int 2)) (pVar 2)) (sSetI (.var 0) (pC (.int 3)) (pBin gMod (pCB gInt (dCons (pFz (pAdd (pFz (pAdd (pBin gMul (pBin gIx (pVw 0) (pC (.int 3))) (pC (.int 48271))) (pBin gMod (pCB gInt (dCons (pVar 2) dNil)) (pC (.int 2147483647))))) (pC (.int 7)))) dNil)) (pC (.int 2147483647))))))) sNx)
    (sSeq (sIf (tCmp cGt (pBin gIx (pVw 0) (pC (.int 2))) (pC (.int 0))) (sSeq (sAsg 3 (pLf (pBin gMod (pCB gInt (dCons (pBin gIx (pVw 0) (pC (.int 2))) dNil)) (pVar 1))))
    (sSeq (sSetI (.var 0) (pC (.int 2)) (pBin gDivW (pBin gIx (pVw 0) (pC (.int 2))) (pVar 1)))
    (sRet (pLf (pVar 3))))) sNx)
    (sSeq (sSetI (.var 0) (pC (.int 3)) (pBin gMod (pCB gInt (dCons (pFz (pAdd (pBin gMul (pBin gIx (pVw 0) (pC (.int 3))) (pC (.int 69621))) (pC (.int 12345)))) dNil)) (pC (.int 2147483647))))
    (sRet (pLf (pBin gMod (pCB gInt (dCons (pBin gDivW (pBin gIx (pVw 0) (pC (.int 3))) (pC (.int 7))) dNil)) (pVar 1)))))))
end P

set_option Elab.async false
set_option linter.all false
set_option maxRecDepth 100000
set_option maxHeartbeats 4000000
namespace LAW
open PySem PySem.Spec PyProof.Rows L2 TL Q
noncomputable def m_law_mix : Sem' := fnM 3 (mSeq (mAsg (.one 2) (mBin uMod (mCB uInt (aCons (mBin uAdd (mBin uAdd (mBin uMul (mCB uInt (aCons (mVar 0) aNil)) (mC (.int 48271))) (mBin uMul (mVar 1) (mC (.int 69621)))) (mC (.int 12345))) aNil)) (mC (.int 2147483647))))
    (mSeq (mAsg (.one 2) (mBin uMod (mCB uInt (aCons (mBin uAdd (mBin uAdd (mBin uMul (mVar 2) (mVar 2)) (mBin uMul (mVar 1) (mC (.int 40692)))) (mC (.int 1))) aNil)) (mC (.int 2147483399))))
    (mRet (mBin uMod (mBin uDiv (mVar 2) (mC (.int 5))) (mC (.int 9973))))))
noncomputable def m_law_draws : Sem' := fnM 5 (mSeq (mAsg (.one 1) (mLst aNil))
    (mSeq (mFor (itR1 (aCons (mCB uMin (aCons (mC (.int 63)) (aCons (mCB uLen (aCons (mVar 0) aNil)) aNil))) aNil)) (.one 2) (mSeq (mAsg (.one 3) (mCB uInt (aCons (mBin uIx (mVar 0) (mVar 2)) aNil)))
    (mIfS (bCmp cLt (mVar 3) (mBin uPow (mC (.int 10)) (mC (.int 18)))) (mDrop (mLM uApp (mVar 1) (aCons (mCall 2 m_law_mix (aCons (mVar 3) (aCons (mVar 2) aNil))) aNil))) (mFor (itR1 (aCons (mC (.int 60)) aNil)) (.one 4) (mIfS (bCmp cGt (mVar 3) (mC (.int 0))) (mSeq (mDrop (mLM uApp (mVar 1) (aCons (mBin uMod (mCB uInt (aCons (mVar 3) aNil)) (mC (.int 9973))) aNil)))
    (mAsg (.one 3) (mBin uDiv (mVar 3) (mC (.int 9973))))) mNx)))))
    (mRet (mVar 1))))
noncomputable def m_law_name : Sem' := fnM 4 (mSeq (mAsg (.one 1) (mC (.str [97, 98, 99, 100, 101, 102, 103, 104, 105, 106, 107, 108, 109, 110, 111, 112, 113, 114, 115, 116, 117, 118, 119, 120, 121, 122, 48, 49, 50, 51, 52, 53, 54, 55, 56, 57, 95])))
    (mSeq (mAsg (.one 2) (mBin uIx (mVar 1) (mBin uMod (mVar 0) (mC (.int 26)))))
    (mSeq (mFor (itR1 (aCons (mBin uMod (mBin uDiv (mVar 0) (mC (.int 26))) (mC (.int 3))) aNil)) (.one 3) (mAsg (.one 2) (mBin uAdd (mVar 2) (mBin uIx (mVar 1) (mBin uMod (mBin uDiv (mBin uDiv (mVar 0) (mC (.int 78))) (mBin uAdd (mC (.int 1)) (mBin uMul (mC (.int 30)) (mVar 3)))) (mC (.int 37)))))))
    (mRet (mVar 2)))))
noncomputable def m_law_at : Sem' := fnM 2 (mSeq (mIfS (bCmp cLt (mVar 1) (mCB uLen (aCons (mVar 0) aNil))) (mRet (mBin uIx (mVar 0) (mVar 1))) mNx)
    (mSeq (mIfS (bCmp cEq (mCB uLen (aCons (mVar 0) aNil)) (mC (.int 0))) (mRet (mCall 2 m_law_mix (aCons (mVar 1) (aCons (mC (.int 77)) aNil)))) mNx)
    (mRet (mCall 2 m_law_mix (aCons (mBin uAdd (mBin uIx (mVar 0) (mBin uMod (mCB uInt (aCons (mVar 1) aNil)) (mCB uLen (aCons (mVar 0) aNil)))) (mBin uMul (mVar 1) (mC (.int 131)))) (aCons (mVar 1) aNil))))))
noncomputable def m_law_uses : Sem' := fnM 8 (mSeq (mAsg (.one 1) (mLst aNil))
    (mSeq (mFor (itR1 (aCons (mBin uMod (mCall 2 m_law_at (aCons (mVar 0) (aCons (mC (.int 0)) aNil))) (mC (.int 15))) aNil)) (.one 2) (mSeq (mAsg (.one 3) (mCall 1 m_law_name (aCons (mCall 2 m_law_at (aCons (mVar 0) (aCons (mBin uAdd (mC (.int 20)) (mBin uMul (mC (.int 8)) (mVar 2))) aNil))) aNil)))
    (mIfS (bCmp cNin (mVar 3) (mVar 1)) (mDrop (mLM uApp (mVar 1) (aCons (mVar 3) aNil))) mNx)))
    (mSeq (mAsg (.one 4) mDNew)
    (mSeq (mFor (itR1 (aCons (mCB uLen (aCons (mVar 1) aNil)) aNil)) (.one 2) (mSeq (mAsg (.one 5) (mLst aNil))
    (mSeq (mFor (itR1 (aCons (mBin uMod (mCall 2 m_law_at (aCons (mVar 0) (aCons (mBin uAdd (mC (.int 21)) (mBin uMul (mC (.int 8)) (mVar 2))) aNil))) (mC (.int 5))) aNil)) (.one 6) (mSeq (mAsg (.one 7) (mCall 2 m_law_at (aCons (mVar 0) (aCons (mBin uAdd (mBin uAdd (mC (.int 22)) (mBin uMul (mC (.int 8)) (mVar 2))) (mVar 6)) aNil))))
    (mIfS (bAnd (bCmp cEq (mBin uMod (mCall 2 m_law_at (aCons (mVar 0) (aCons (mC (.int 1)) aNil))) (mC (.int 3))) (mC (.int 0))) (bCmp cNe (mBin uMod (mVar 7) (mC (.int 5))) (mC (.int 0)))) (mDrop (mLM uApp (mVar 5) (aCons (mBin uIx (mVar 1) (mBin uMod (mBin uAdd (mVar 2) (mBin uMod (mVar 7) (mC (.int 3)))) (mCB uLen (aCons (mVar 1) aNil)))) aNil))) (mIfS (bCmp cEq (mBin uMod (mVar 7) (mC (.int 7))) (mC (.int 6))) (mDrop (mLM uApp (mVar 5) (aCons (mBin uIx (mLst (aCons (mC (.str [122, 122, 57])) (aCons (mC (.str [77, 97, 107, 101, 114])) (aCons (mC (.str [])) aNil)))) (mBin uMod (mBin uDiv (mVar 7) (mC (.int 7))) (mC (.int 3)))) aNil))) (mDrop (mLM uApp (mVar 5) (aCons (mBin uIx (mVar 1) (mBin uMod (mBin uDiv (mVar 7) (mC (.int 7))) (mCB uLen (aCons (mVar 1) aNil)))) aNil)))))))
    (mSetI uDSet (mVar 4) (mBin uIx (mVar 1) (mVar 2)) (mVar 5)))))
    (mRet (mVar 4))))))
noncomputable def m_reached : Sem' := fnM 6 (mSeq (mAsg (.one 2) mDNew)
    (mSeq (mAsg (.one 3) (mLst (aCons (mVar 1) aNil)))
    (mSeq (mWhile 1000000 (bTru (mVar 3)) (mSeq (mAsg (.one 4) (mLM0 uPop (mVar 3)))
    (mFor (itE (mBin uDGet (mVar 0) (mVar 4))) (.one 5) (mIfS (bAnd (bCmp cDIn (mVar 5) (mVar 0)) (bCmp cDNin (mVar 5) (mVar 2))) (mSeq (mSetI uDSet (mVar 2) (mVar 5) (mC (.bl true)))
    (mDrop (mLM uApp (mVar 3) (aCons (mVar 5) aNil)))) mNx))))
    (mRet (mVar 2)))))
noncomputable def m_components : Sem' := fnM 9 (mSeq (mAsg (.one 1) (mCB uSortD (aCons (mVar 0) aNil)))
    (mSeq (mAsg (.one 2) (mDc (itE (mVar 1)) (.one 3) bYes (mVar 3) (mCall 2 m_reached (aCons (mVar 0) (aCons (mVar 3) aNil))) [3]))
    (mSeq (mAsg (.one 4) mDNew)
    (mSeq (mAsg (.one 5) (mLst aNil))
    (mSeq (mFor (itE (mVar 1)) (.one 3) (mIfS (bCmp cDNin (mVar 3) (mVar 4)) (mSeq (mAsg (.one 6) (mLc (itE (mVar 1)) (.one 7) (bOr (bCmp cEq (mVar 7) (mVar 3)) (bAnd (bCmp cDIn (mVar 7) (mBin uDGet (mVar 2) (mVar 3))) (bCmp cDIn (mVar 3) (mBin uDGet (mVar 2) (mVar 7))))) (mVar 7) [7]))
    (mSeq (mDrop (mDM uUpd (mVar 4) (aCons (mDc (itE (mVar 6)) (.one 7) bYes (mVar 7) (mC (.bl true)) [7]) aNil)))
    (mDrop (mLM uApp (mVar 5) (aCons (mTup (aCons (mCB uDLen (aCons (mStar (mBin uDGet (mVar 2) (mVar 3)) (mVar 3) (mC (.bl true))) aNil)) (aCons (mVar 6) aNil))) aNil))))) mNx))
    (mRet (mLc (itE (mCB uSortT (aCons (mVar 5) aNil))) (.tup [8, 6]) bYes (mVar 6) [8, 6])))))))
noncomputable def m_law_reach : Sem' := fnM 6 (mSeq (mAsg (.one 2) (mLst aNil))
    (mSeq (mFor (itR1 (aCons (mBin uAdd (mCB uDLen (aCons (mVar 0) aNil)) (mC (.int 1))) aNil)) (.one 3) (mFor (itE (mBin uAdd (mLst (aCons (mVar 1) aNil)) (mVar 2))) (.one 4) (mFor (itE (mBin uDGet (mVar 0) (mVar 4))) (.one 5) (mIfS (bAnd (bCmp cDIn (mVar 5) (mVar 0)) (bCmp cNin (mVar 5) (mVar 2))) (mDrop (mLM uApp (mVar 2) (aCons (mVar 5) aNil))) mNx))))
    (mRet (mVar 2))))
noncomputable def m_law_is_integer : Sem' := fnM 1 (mRet (mAnd (mB (bIs .int (mVar 0))) (mNot (mB (bIs .bool (mVar 0))))))
noncomputable def m_law_same : Nat → Sem'
  | 0 => fun _ _ => .bad
  | n + 1 => fnM 3 (mSeq (mIfS (bIs2 .list .tuple (mVar 1)) (mSeq (mIfS (bOr (bCmp cNe (mB (bIs .list (mVar 1))) (mB (bIs .list (mVar 0)))) (bCmp cNe (mB (bIs .tuple (mVar 1))) (mB (bIs .tuple (mVar 0))))) (mRet (mC (.bl false))) mNx)
    (mSeq (mIfS (bCmp cNe (mCB uLen (aCons (mVar 0) aNil)) (mCB uLen (aCons (mVar 1) aNil))) (mRet (mC (.bl false))) mNx)
    (mSeq (mFor (itR1 (aCons (mCB uLen (aCons (mVar 1) aNil)) aNil)) (.one 2) (mIfS (bNot (bTru (mCall 2 (m_law_same n) (aCons (mBin uIx (mVar 0) (mVar 2)) (aCons (mBin uIx (mVar 1) (mVar 2)) aNil))))) (mRet (mC (.bl false))) mNx))
    (mRet (mC (.bl true)))))) mNx)
    (mSeq (mIfS (bCmp cIs (mVar 1) (mC .non)) (mRet (mB (bCmp cIs (mVar 0) (mC .non)))) mNx)
    (mSeq (mIfS (bIs .bool (mVar 1)) (mRet (mAnd (mB (bIs .bool (mVar 0))) (mB (bCmp cEq (mVar 0) (mVar 1))))) mNx)
    (mSeq (mIfS (bIs .int (mVar 1)) (mRet (mAnd (mCall 1 m_law_is_integer (aCons (mVar 0) aNil)) (mB (bCmp cEq (mVar 0) (mVar 1))))) mNx)
    (mRet (mAnd (mB (bIs .str (mVar 0))) (mB (bCmp cEq (mVar 0) (mVar 1)))))))))
noncomputable def m_law_is_dict : Sem' := fnM 3 (mSeq (mIfS (bOr (bNot (bIs .dict (mVar 0))) (bCmp cNe (mCB uDLen (aCons (mVar 0) aNil)) (mCB uDLen (aCons (mVar 1) aNil)))) (mRet (mC (.bl false))) mNx)
    (mSeq (mFor (itKeys (mVar 1)) (.one 2) (mIfS (bOr (bCmp cDNin (mVar 2) (mVar 0)) (bNot (bTru (mCall 2 (m_law_same 4) (aCons (mBin uDGet (mVar 0) (mVar 2)) (aCons (mBin uDGet (mVar 1) (mVar 2)) aNil)))))) (mRet (mC (.bl false))) mNx))
    (mRet (mC (.bl true)))))
noncomputable def m_law : Sem' := fnM 13 (mSeq (mAsg (.one 1) (mCall 1 m_law_draws (aCons (mVar 0) aNil)))
    (mSeq (mAsg (.one 2) (mCall 1 m_law_uses (aCons (mVar 1) aNil)))
    (mSeq (mAsg (.one 3) mDNew)
    (mSeq (mFor (itKeys (mVar 2)) (.one 4) (mSetI uDSet (mVar 3) (mVar 4) (mCB uList (aCons (mBin uDGet (mVar 2) (mVar 4)) aNil))))
    (mSeq (mAsg (.one 5) mDNew)
    (mSeq (mFor (itKeys (mVar 2)) (.one 4) (mSetI uDSet (mVar 5) (mVar 4) (mCall 2 m_law_reach (aCons (mVar 2) (aCons (mVar 4) aNil)))))
    (mSeq (mAsg (.one 6) (mCall 1 m_components (aCons (mVar 3) aNil)))
    (mSeq (mIfS (bOr (bNot (bIs .list (mVar 6))) (bNot (bTru (mCall 2 m_law_is_dict (aCons (mVar 3) (aCons (mVar 2) aNil)))))) (mRet (mC (.bl false))) mNx)
    (mSeq (mAsg (.one 7) (mLst aNil))
    (mSeq (mAsg (.one 8) (mTup (aCons (mC (.int 0)) (aCons (mC (.str [])) aNil))))
    (mSeq (mFor (itE (mVar 6)) (.one 9) (mSeq (mIfS (bOr (bNot (bIs .list (mVar 9))) (bCmp cEq (mCB uLen (aCons (mVar 9) aNil)) (mC (.int 0)))) (mRet (mC (.bl false))) mNx)
    (mSeq (mFor (itE (mVar 9)) (.one 4) (mSeq (mIfS (bOr (bNot (bIs .str (mVar 4))) (bOr (bCmp cDNin (mVar 4) (mVar 2)) (bCmp cIn (mVar 4) (mVar 7)))) (mRet (mC (.bl false))) mNx)
    (mSeq (mDrop (mLM uApp (mVar 7) (aCons (mVar 4) aNil)))
    (mFor (itKeys (mVar 2)) (.one 11) (mSeq (mAsg (.one 12) (mOr (mB (bCmp cEq (mVar 11) (mVar 4))) (mAnd (mB (bCmp cIn (mVar 11) (mBin uDGet (mVar 5) (mVar 4)))) (mB (bCmp cIn (mVar 4) (mBin uDGet (mVar 5) (mVar 11)))))))
    (mIfS (bCmp cNe (mVar 12) (mB (bCmp cIn (mVar 11) (mVar 9)))) (mRet (mC (.bl false))) mNx))))))
    (mSeq (mAsg (.one 10) (mBin uAdd (mCB uLen (aCons (mBin uDGet (mVar 5) (mBin uIx (mVar 9) (mC (.int 0)))) aNil)) (mCB uInt (aCons (mB (bCmp cNin (mBin uIx (mVar 9) (mC (.int 0))) (mBin uDGet (mVar 5) (mBin uIx (mVar 9) (mC (.int 0)))))) aNil))))
    (mSeq (mIfS (bOr (bCmp cNe (mVar 9) (mCB uSortS (aCons (mVar 9) aNil))) (bCmp cLeP (mTup (aCons (mVar 10) (aCons (mBin uIx (mVar 9) (mC (.int 0))) aNil))) (mVar 8))) (mRet (mC (.bl false))) mNx)
    (mSeq (mAsg (.one 8) (mTup (aCons (mVar 10) (aCons (mBin uIx (mVar 9) (mC (.int 0))) aNil))))
    (mFor (itE (mVar 9)) (.one 4) (mIfS (bCmp cGt (mCB uLen (aCons (mLc (itE (mBin uDGet (mVar 2) (mVar 4))) (.one 11) (bAnd (bCmp cDIn (mVar 11) (mVar 2)) (bCmp cNin (mVar 11) (mVar 7))) (mVar 11) [11]) aNil)) (mC (.int 0))) (mRet (mC (.bl false))) mNx))))))))
    (mRet (mB (bCmp cEq (mCB uLen (aCons (mVar 7) aNil)) (mCB uDLen (aCons (mVar 2) aNil))))))))))))))))
end LAW

set_option Elab.async false
set_option linter.all false
set_option maxRecDepth 100000
namespace LAW
open P
def p_law_mix : PSem := pFn 3 [] (sSeq (sAsg 2 (pLf (pBin gMod (pCB gInt (dCons (pFz (pAdd (pFz (pAdd (pBin gMul (pCB gInt (dCons (pVar 0) dNil)) (pC (.int 48271))) (pBin gMul (pVar 1) (pC (.int 69621))))) (pC (.int 12345)))) dNil)) (pC (.int 2147483647)))))
    (sSeq (sAsg 2 (pLf (pBin gMod (pCB gInt (dCons (pFz (pAdd (pFz (pAdd (pBin gMul (pVar 2) (pVar 2)) (pBin gMul (pVar 1) (pC (.int 40692))))) (pC (.int 1)))) dNil)) (pC (.int 2147483399)))))
    (sRet (pLf (pBin gMod (pBin gDiv (pVar 2) (pC (.int 5))) (pC (.int 9973)))))))
def p_law_draws : PSem := pFn 5 [] (sSeq (sAsg 1 (pLst dNil))
    (sSeq (sFor [2, 3, 4] (iR1 (dCons (pCB gMin (dCons (pC (.int 63)) (dCons (pCB gLen (dCons (pVar 0) dNil)) dNil))) dNil)) (.one 2) (sSeq (sAsg 3 (pLf (pCB gInt (dCons (pBin gIx (pVar 0) (pVar 2)) dNil))))
    (sIf (tCmp cLt (pVar 3) (pBin gPow (pC (.int 10)) (pC (.int 18)))) (sDrop (pLf (pUpd (.var 1) (dCons (pFz (pCall 2 p_law_mix (dCons (pVar 3) (dCons (pVar 2) dNil)))) dNil) uApp))) (sFor [4] (iR1 (dCons (pC (.int 60)) dNil)) (.one 4) (sIf (tCmp cGt (pVar 3) (pC (.int 0))) (sSeq (sDrop (pLf (pUpd (.var 1) (dCons (pBin gMod (pCB gInt (dCons (pVar 3) dNil)) (pC (.int 9973))) dNil) uApp)))
    (sAsg 3 (pLf (pBin gDiv (pVar 3) (pC (.int 9973)))))) sNx)))))
    (sRet (pMv 1))))
def p_law_name : PSem := pFn 4 [] (sSeq (sAsg 1 (pLf (pC (.str [97, 98, 99, 100, 101, 102, 103, 104, 105, 106, 107, 108, 109, 110, 111, 112, 113, 114, 115, 116, 117, 118, 119, 120, 121, 122, 48, 49, 50, 51, 52, 53, 54, 55, 56, 57, 95]))))
    (sSeq (sAsg 2 (pLf (pBin gIx (pVar 1) (pBin gMod (pVar 0) (pC (.int 26))))))
    (sSeq (sFor [3] (iR1 (dCons (pBin gMod (pBin gDiv (pVar 0) (pC (.int 26))) (pC (.int 3))) dNil)) (.one 3) (sAsg 2 (pLf (pFz (pAdd (pVar 2) (pBin gIx (pVar 1) (pBin gMod (pBin gDiv (pBin gDiv (pVar 0) (pC (.int 78))) (pFz (pAdd (pC (.int 1)) (pBin gMul (pC (.int 30)) (pVar 3))))) (pC (.int 37)))))))))
    (sRet (pLf (pVar 2))))))
def p_law_at : PSem := pFn 2 [] (sSeq (sIf (tCmp cLt (pVar 1) (pCB gLen (dCons (pVar 0) dNil))) (sRet (pLf (pBin gIx (pVar 0) (pVar 1)))) sNx)
    (sSeq (sIf (tCmp cEq (pCB gLen (dCons (pVar 0) dNil)) (pC (.int 0))) (sRet (pCall 2 p_law_mix (dCons (pVar 1) (dCons (pC (.int 77)) dNil)))) sNx)
    (sRet (pCall 2 p_law_mix (dCons (pFz (pAdd (pBin gIx (pVar 0) (pBin gMod (pCB gInt (dCons (pVar 1) dNil)) (pCB gLen (dCons (pVar 0) dNil)))) (pBin gMul (pVar 1) (pC (.int 131))))) (dCons (pVar 1) dNil))))))
def p_law_uses : PSem := pFn 8 [] (sSeq (sAsg 1 (pLst dNil))
    (sSeq (sFor [2, 3] (iR1 (dCons (pBin gMod (pFz (pCall 2 p_law_at (dCons (pVar 0) (dCons (pC (.int 0)) dNil)))) (pC (.int 15))) dNil)) (.one 2) (sSeq (sAsg 3 (pLf (pFz (pCall 1 p_law_name (dCons (pFz (pCall 2 p_law_at (dCons (pVar 0) (dCons (pFz (pAdd (pC (.int 20)) (pBin gMul (pC (.int 8)) (pVar 2)))) dNil)))) dNil)))))
    (sIf (tCmp cNin (pVar 3) (pVw 1)) (sDrop (pLf (pUpd (.var 1) (dCons (pVar 3) dNil) uApp))) sNx)))
    (sSeq (sAsg 4 pDNew)
    (sSeq (sFor [2, 5, 6, 7] (iR1 (dCons (pCB gLen (dCons (pVw 1) dNil)) dNil)) (.one 2) (sSeq (sAsg 5 (pLst dNil))
    (sSeq (sFor [6, 7] (iR1 (dCons (pBin gMod (pFz (pCall 2 p_law_at (dCons (pVar 0) (dCons (pFz (pAdd (pC (.int 21)) (pBin gMul (pC (.int 8)) (pVar 2)))) dNil)))) (pC (.int 5))) dNil)) (.one 6) (sSeq (sAsg 7 (pLf (pFz (pCall 2 p_law_at (dCons (pVar 0) (dCons (pFz (pAdd (pFz (pAdd (pC (.int 22)) (pBin gMul (pC (.int 8)) (pVar 2)))) (pVar 6))) dNil))))))
    (sIf (tAnd (tCmp cEq (pBin gMod (pFz (pCall 2 p_law_at (dCons (pVar 0) (dCons (pC (.int 1)) dNil)))) (pC (.int 3))) (pC (.int 0))) (tCmp cNe (pBin gMod (pVar 7) (pC (.int 5))) (pC (.int 0)))) (sDrop (pLf (pUpd (.var 5) (dCons (pBin gIx (pVw 1) (pBin gMod (pFz (pAdd (pVar 2) (pBin gMod (pVar 7) (pC (.int 3))))) (pCB gLen (dCons (pVw 1) dNil)))) dNil) uApp))) (sIf (tCmp cEq (pBin gMod (pVar 7) (pC (.int 7))) (pC (.int 6))) (sDrop (pLf (pUpd (.var 5) (dCons (pBin gIx (pFz (pLst (dCons (pC (.str [122, 122, 57])) (dCons (pC (.str [77, 97, 107, 101, 114])) (dCons (pC (.str [])) dNil))))) (pBin gMod (pBin gDiv (pVar 7) (pC (.int 7))) (pC (.int 3)))) dNil) uApp))) (sDrop (pLf (pUpd (.var 5) (dCons (pBin gIx (pVw 1) (pBin gMod (pBin gDiv (pVar 7) (pC (.int 7))) (pCB gLen (dCons (pVw 1) dNil)))) dNil) uApp)))))))
    (sSetK (.var 4) (pBin gIx (pVw 1) (pVar 2)) (pFv 5)))))
    (sRet (pMv 4))))))
def p_reached : PSem := pFn 6 [] (sSeq (sAsg 2 pDNew)
    (sSeq (sAsg 3 (pLst (dCons (pVar 1) dNil)))
    (sSeq (sWhile [4, 5] 1000000 (tTru (pVw 3)) (sSeq (sAsg 4 (pLf (pUpd (.var 3) dNil uPop)))
    (sFor [5] (iE (pBin gDGet (pVar 0) (pVar 4))) (.one 5) (sIf (tAnd (tCmp cDIn (pVar 5) (pVar 0)) (tCmp cDNin (pVar 5) (pVw 2))) (sSeq (sSetK (.var 2) (pVar 5) (pC (.bl true)))
    (sDrop (pLf (pUpd (.var 3) (dCons (pVar 5) dNil) uApp)))) sNx))))
    (sRet (pMv 2)))))
def p_components : PSem := pFn 9 [] (sSeq (sAsg 1 (pLf (pFz (pCT gSortD (dCons (pVar 0) dNil)))))
    (sSeq (sAsg 2 (pLf (pFz (pDc (iE (pVar 1)) (.one 3) tYes (pVar 3) (pFz (pCall 2 p_reached (dCons (pVar 0) (dCons (pVar 3) dNil)))) [3]))))
    (sSeq (sAsg 4 pDNew)
    (sSeq (sAsg 5 (pLst dNil))
    (sSeq (sFor [3, 6, 7] (iE (pVar 1)) (.one 3) (sIf (tCmp cDNin (pVar 3) (pVw 4)) (sSeq (sAsg 6 (pLf (pFz (pLc (iE (pVar 1)) (.one 7) (tOr (tCmp cEq (pVar 7) (pVar 3)) (tAnd (tCmp cDIn (pVar 7) (pBin gDGet (pVar 2) (pVar 3))) (tCmp cDIn (pVar 3) (pBin gDGet (pVar 2) (pVar 7))))) (pVar 7) [7]))))
    (sSeq (sDrop (pLf (pUpdD (.var 4) (dCons (pFz (pDc (iE (pVar 6)) (.one 7) tYes (pVar 7) (pC (.bl true)) [7])) dNil) uUpd)))
    (sDrop (pLf (pUpd (.var 5) (dCons (pTup (dCons (pCB gDLen (dCons (pFz (pStar (pBin gDGet (pVar 2) (pVar 3)) (pVar 3) (pC (.bl true)))) dNil)) (dCons (pVar 6) dNil))) dNil) uApp))))) sNx))
    (sRet (pLc (iE (pFz (pCT gSortT (dCons (pVw 5) dNil)))) (.tup [8, 6]) tYes (pVar 6) [8, 6])))))))
def p_law_reach : PSem := pFn 6 [] (sSeq (sAsg 2 (pLst dNil))
    (sSeq (sFor [3, 4, 5] (iR1 (dCons (pFz (pAdd (pCB gDLen (dCons (pVar 0) dNil)) (pC (.int 1)))) dNil)) (.one 3) (sFor [4, 5] (iE (pFz (pAdd (pFz (pLst (dCons (pVar 1) dNil))) (pVw 2)))) (.one 4) (sFor [5] (iE (pBin gDGet (pVar 0) (pVar 4))) (.one 5) (sIf (tAnd (tCmp cDIn (pVar 5) (pVar 0)) (tCmp cNin (pVar 5) (pVw 2))) (sDrop (pLf (pUpd (.var 2) (dCons (pVar 5) dNil) uApp))) sNx))))
    (sRet (pMv 2))))
def p_law_is_integer : PSem := pFn 1 [] (sRet (pLf (pAnd (pB (tIs .int (pVar 0))) (pUn gNot (pB (tIs .bool (pVar 0)))))))
def p_law_same : Nat → PSem
  | 0 => fun _ => .bad
  | n + 1 => pFn 3 [] (sSeq (sIf (tIs2 .list .tuple (pVar 1)) (sSeq (sIf (tOr (tCmp cNe (pB (tIs .list (pVar 1))) (pB (tIs .list (pVar 0)))) (tCmp cNe (pB (tIs .tuple (pVar 1))) (pB (tIs .tuple (pVar 0))))) (sRet (pLf (pC (.bl false)))) sNx)
    (sSeq (sIf (tCmp cNe (pCB gLen (dCons (pVar 0) dNil)) (pCB gLen (dCons (pVar 1) dNil))) (sRet (pLf (pC (.bl false)))) sNx)
    (sSeq (sFor [2] (iR1 (dCons (pCB gLen (dCons (pVar 1) dNil)) dNil)) (.one 2) (sIf (tNot (tTru (pFz (pCall 2 (p_law_same n) (dCons (pBin gIx (pVar 0) (pVar 2)) (dCons (pBin gIx (pVar 1) (pVar 2)) dNil)))))) (sRet (pLf (pC (.bl false)))) sNx))
    (sRet (pLf (pC (.bl true))))))) sNx)
    (sSeq (sIf (tCmp cIs (pVar 1) (pC .non)) (sRet (pLf (pB (tCmp cIs (pVar 0) (pC .non))))) sNx)
    (sSeq (sIf (tIs .bool (pVar 1)) (sRet (pLf (pAnd (pB (tIs .bool (pVar 0))) (pB (tCmp cEq (pVar 0) (pVar 1)))))) sNx)
    (sSeq (sIf (tIs .int (pVar 1)) (sRet (pLf (pAnd (pFz (pCall 1 p_law_is_integer (dCons (pVar 0) dNil))) (pB (tCmp cEq (pVar 0) (pVar 1)))))) sNx)
    (sRet (pLf (pAnd (pB (tIs .str (pVar 0))) (pB (tCmp cEq (pVar 0) (pVar 1))))))))))
def p_law_is_dict : PSem := pFn 3 [] (sSeq (sIf (tOr (tNot (tIs .dict (pVar 0))) (tCmp cNe (pCB gDLen (dCons (pVar 0) dNil)) (pCB gDLen (dCons (pVar 1) dNil)))) (sRet (pLf (pC (.bl false)))) sNx)
    (sSeq (sFor [2] (iKv 1) (.one 2) (sIf (tOr (tCmp cDNin (pVar 2) (pVar 0)) (tNot (tTru (pFz (pCall 2 (p_law_same 4) (dCons (pBin gDGet (pVar 0) (pVar 2)) (dCons (pBin gDGet (pVar 1) (pVar 2)) dNil))))))) (sRet (pLf (pC (.bl false)))) sNx))
    (sRet (pLf (pC (.bl true))))))
def p_law : PSem := pFn 13 [] (sSeq (sAsg 1 (pLf (pFz (pCall 1 p_law_draws (dCons (pVar 0) dNil)))))
    (sSeq (sAsg 2 (pCall 1 p_law_uses (dCons (pVar 1) dNil)))
    (sSeq (sAsg 3 pDNew)
    (sSeq (sFor [4] (iKv 2) (.one 4) (sSetK (.var 3) (pVar 4) (pFz (pCT gList (dCons (pBin gDGet (pVw 2) (pVar 4)) dNil)))))
    (sSeq (sAsg 5 pDNew)
    (sSeq (sFor [4] (iKv 2) (.one 4) (sSetK (.var 5) (pVar 4) (pFz (pCall 2 p_law_reach (dCons (pFv 2) (dCons (pVar 4) dNil))))))
    (sSeq (sAsg 6 (pLf (pFz (pCall 1 p_components (dCons (pFv 3) dNil)))))
    (sSeq (sIf (tOr (tNot (tIs .list (pVar 6))) (tNot (tTru (pFz (pCall 2 p_law_is_dict (dCons (pFv 3) (dCons (pFv 2) dNil))))))) (sRet (pLf (pC (.bl false)))) sNx)
    (sSeq (sAsg 7 (pLst dNil))
    (sSeq (sAsg 8 (pLf (pTup (dCons (pC (.int 0)) (dCons (pC (.str [])) dNil)))))
    (sSeq (sFor [4, 9, 10, 11, 12] (iE (pVar 6)) (.one 9) (sSeq (sIf (tOr (tNot (tIs .list (pVar 9))) (tCmp cEq (pCB gLen (dCons (pVar 9) dNil)) (pC (.int 0)))) (sRet (pLf (pC (.bl false)))) sNx)
    (sSeq (sFor [4, 11, 12] (iE (pVar 9)) (.one 4) (sSeq (sIf (tOr (tNot (tIs .str (pVar 4))) (tOr (tCmp cDNin (pVar 4) (pVw 2)) (tCmp cIn (pVar 4) (pVw 7)))) (sRet (pLf (pC (.bl false)))) sNx)
    (sSeq (sDrop (pLf (pUpd (.var 7) (dCons (pVar 4) dNil) uApp)))
    (sFor [11, 12] (iKv 2) (.one 11) (sSeq (sAsg 12 (pLf (pOr (pB (tCmp cEq (pVar 11) (pVar 4))) (pAnd (pB (tCmp cIn (pVar 11) (pBin gDGet (pVw 5) (pVar 4)))) (pB (tCmp cIn (pVar 4) (pBin gDGet (pVw 5) (pVar 11))))))))
    (sIf (tCmp cNe (pVar 12) (pB (tCmp cIn (pVar 11) (pVar 9)))) (sRet (pLf (pC (.bl false)))) sNx))))))
    (sSeq (sAsg 10 (pLf (pFz (pAdd (pCB gLen (dCons (pBin gDGet (pVw 5) (pBin gIx (pVar 9) (pC (.int 0)))) dNil)) (pCB gInt (dCons (pB (tCmp cNin (pBin gIx (pVar 9) (pC (.int 0))) (pBin gDGet (pVw 5) (pBin gIx (pVar 9) (pC (.int 0)))))) dNil))))))
    (sSeq (sIf (tOr (tCmp cNe (pVar 9) (pFz (pCT gSortS (dCons (pVar 9) dNil)))) (tCmp cLeP (pTup (dCons (pVar 10) (dCons (pBin gIx (pVar 9) (pC (.int 0))) dNil))) (pVar 8))) (sRet (pLf (pC (.bl false)))) sNx)
    (sSeq (sAsg 8 (pLf (pTup (dCons (pVar 10) (dCons (pBin gIx (pVar 9) (pC (.int 0))) dNil)))))
    (sFor [4, 11] (iE (pVar 9)) (.one 4) (sIf (tCmp cGt (pCB gLen (dCons (pFz (pLc (iE (pBin gDGet (pVw 2) (pVar 4))) (.one 11) (tAnd (tCmp cDIn (pVar 11) (pVw 2)) (tCmp cNin (pVar 11) (pVw 7))) (pVar 11) [11])) dNil)) (pC (.int 0))) (sRet (pLf (pC (.bl false)))) sNx))))))))
    (sRet (pLf (pB (tCmp cEq (pCB gLen (dCons (pVw 7) dNil)) (pCB gDLen (dCons (pVw 2) dNil)))))))))))))))))
end LAW

set_option Elab.async false
set_option linter.all false
set_option maxRecDepth 100000
set_option maxHeartbeats 4000000
namespace LAW
open P
abbrev S := List Nat
abbrev US := List (S × List S)
def dU (U : US) : List (DK × D) := U.map fun p => (.inr p.1, .lst (p.2.map .str))
def lk : US → S → Option (List S)
  | [], _ => none
  | (k, l) :: r, b => if k = b then some l else lk r b
def isK (U : US) (b : S) : Bool := (lk U b).isSome
theorem val_dU (b : S) : ∀ U : US, valK (dU U) (.inr b) = (lk U b).map fun l => .lst (l.map .str)
  | [] => rfl
  | (k, l) :: r => by
    show (if (Sum.inr k : DK) = .inr b then _ else valK (dU r) (.inr b)) = _
    rw [val_dU b r]
    show _ = Option.map _ (if k = b then some l else lk r b)
    by_cases h : k = b
    · simp [h]
    · simp [h]
theorem dU_len (U : US) : (dU U).length = U.length := by simp [dU]
theorem isK_mem {U : US} {b : S} : isK U b = true ↔ b ∈ U.map (·.1) := by
  unfold isK
  induction U with
  | nil => simp [lk]
  | cons p r ih =>
    obtain ⟨k, l⟩ := p
    unfold lk
    by_cases h : k = b
    · simp [h]
    · simp only [if_neg h, ih, List.map_cons, List.mem_cons]
      exact ⟨.inr, fun z => z.elim (fun e => absurd e.symm h) id⟩
/-- a dict whose things are all true -/
def dF (F : List S) : List (DK × D) := F.map fun b => (.inr b, .bl true)
theorem val_dF (b : S) : ∀ F : List S, (valK (dF F) (.inr b)).isSome = decide (b ∈ F)
  | [] => rfl
  | k :: r => by
    show (if (Sum.inr k : DK) = .inr b then _ else valK (dF r) (.inr b)).isSome = _
    by_cases h : k = b
    · simp [h]
    · rw [if_neg (by simpa using h), val_dF b r]
      simp [Ne.symm h]
theorem put_dF {F : List S} {o : S} (h : o ∉ F) : putK (dF F) (.inr o) (.bl true) = dF (F ++ [o]) := by
  unfold putK
  rw [val_dF, if_neg (by simpa using h)]
  simp [dF]
theorem dF_len (F : List S) : (dF F).length = F.length := by simp [dF]
/-! adding what is not there -/
def addTo (U : US) (R xs : List S) : List S := xs.foldl (fun R o => if isK U o = true ∧ o ∉ R then R ++ [o] else R) R
theorem addTo_cons (U : US) (R xs : List S) (o : S) : addTo U R (o :: xs) = addTo U (if isK U o = true ∧ o ∉ R then R ++ [o] else R) xs := rfl
theorem addTo_pre (U : US) : ∀ (xs R : List S), ∃ A, addTo U R xs = R ++ A
  | [], R => ⟨[], by simp [addTo]⟩
  | o :: xs, R => by
    rw [addTo_cons]
    obtain ⟨A, h⟩ := addTo_pre U xs (if isK U o = true ∧ o ∉ R then R ++ [o] else R)
    rw [h]
    split
    · exact ⟨o :: A, by simp⟩
    · exact ⟨A, rfl⟩
theorem addTo_nd (U : US) : ∀ (xs R : List S), R.Nodup → (addTo U R xs).Nodup
  | [], R, h => h
  | o :: xs, R, h => by
    rw [addTo_cons]
    refine addTo_nd U xs _ ?_
    split
    · rename_i c
      rw [List.nodup_append]
      exact ⟨h, by simp, fun a ha b hb => by rw [List.mem_singleton.mp hb]; exact fun e => c.2 (e ▸ ha)⟩
    · exact h
theorem addTo_mem (U : US) (b : S) : ∀ (xs R : List S), b ∈ addTo U R xs ↔ b ∈ R ∨ (b ∈ xs ∧ isK U b = true)
  | [], R => by simp [addTo]
  | o :: xs, R => by
    rw [addTo_cons, addTo_mem U b xs]
    split
    · rename_i c
      simp only [List.mem_append, List.mem_cons, List.not_mem_nil, or_false]
      constructor
      · rintro ((h | rfl) | h)
        · exact .inl h
        · exact .inr ⟨.inl rfl, c.1⟩
        · exact .inr ⟨.inr h.1, h.2⟩
      · rintro (h | ⟨rfl | h, k⟩)
        · exact .inl (.inl h)
        · exact .inl (.inr rfl)
        · exact .inr ⟨h, k⟩
    · rename_i c
      simp only [List.mem_cons]
      constructor
      · rintro (h | h)
        · exact .inl h
        · exact .inr ⟨.inr h.1, h.2⟩
      · rintro (h | ⟨rfl | h, k⟩)
        · exact .inl h
        · exact .inl (by
            refine Classical.byContradiction fun z => c ⟨k, z⟩)
        · exact .inr ⟨h, k⟩
/-! what is reached -/
def tg (U : US) (a : S) : List S := (lk U a).getD []
inductive Rc (U : US) (a : S) : S → Prop
  | one {b : S} (h : b ∈ tg U a) (k : isK U b = true) : Rc U a b
  | step {b c : S} (r : Rc U a c) (h : b ∈ tg U c) (k : isK U b = true) : Rc U a b
theorem Rc.key {U : US} {a b : S} (r : Rc U a b) : isK U b = true := by cases r <;> assumption
theorem Rc.trans {U : US} {a b c : S} (x : Rc U a b) (y : Rc U b c) : Rc U a c := by
  induction y with
  | one h k => exact .step x h k
  | step r h k ih => exact .step ih h k
/-- all that is reached is among R, and R is no more -/
structure Cl (U : US) (a : S) (R : List S) : Prop where
  nd : R.Nodup
  iff : ∀ b, b ∈ R ↔ Rc U a b
theorem cl_of {U : US} {a : S} {R : List S} (nd : R.Nodup) (s : ∀ b ∈ R, Rc U a b) (c : ∀ c, c = a ∨ c ∈ R → ∀ b ∈ tg U c, isK U b = true → b ∈ R) : Cl U a R :=
  ⟨nd, fun b => ⟨s b, fun r => by
    induction r with
    | one h k => exact c a (.inl rfl) _ h k
    | step r h k ih => exact c _ (.inr ih) _ h k⟩⟩
theorem Cl.len {U : US} {a : S} {R R' : List S} (x : Cl U a R) (y : Cl U a R') : R.length = R'.length :=
  ((List.perm_ext_iff_of_nodup x.nd y.nd).mpr fun b => (x.iff b).trans (y.iff b).symm).length_eq
theorem nd_le : ∀ {R Q : List S}, R.Nodup → (∀ b ∈ R, b ∈ Q) → R.length ≤ Q.length
  | [], _, _, _ => by simp
  | x :: R, Q, h, s => by
    have hx := s x (.head _)
    have h' := List.nodup_cons.mp h
    have := nd_le (Q := Q.erase x) h'.2 fun b hb => (List.mem_erase_of_ne (by intro e; subst e; exact h'.1 hb)).mpr (s b (.tail _ hb))
    rw [List.length_erase_of_mem hx] at this
    have : 0 < Q.length := List.length_pos_of_mem hx
    rw [List.length_cons]
    omega
end LAW

set_option Elab.async false
set_option linter.all false
set_option maxRecDepth 100000
set_option maxHeartbeats 4000000
namespace LAW
open P
/-- bounds of the uses -/
structure UB (U : US) : Prop where
  nd : (U.map (·.1)).Nodup
  n : U.length ≤ 20
  l : ∀ p ∈ U, p.2.length ≤ 20
  c : ∀ b ∈ U.map (·.1), ∀ x ∈ b, x < 1114112
theorem lk_mem : ∀ {U : US} {a : S} {l : List S}, lk U a = some l → (a, l) ∈ U
  | (k, l') :: r, a, l, h => by
    unfold lk at h
    split at h
    · rename_i e; subst e; cases h; exact .head _
    · exact .tail _ (lk_mem h)
theorem get_dU {U : US} {a : S} (h : isK U a = true) : gDGet (.dK (dU U)) (.str a) = some (.lst ((tg U a).map .str)) := by
  unfold isK at h
  unfold tg
  cases q : lk U a with
  | none => rw [q] at h; cases h
  | some l => show valK (dU U) (.inr a) = _; rw [val_dU, q]; rfl
theorem val_tg {U : US} {a : S} (h : isK U a = true) : valK (dU U) (.inr a) = some (.lst ((tg U a).map .str)) := get_dU h
theorem in_dU {U : US} {b : S} : (valK (dU U) (.inr b)).isSome = isK U b := by rw [val_dU]; unfold isK; cases lk U b <;> rfl
theorem nd_keys {U : US} (ub : UB U) {R : List S} (h : R.Nodup) (s : ∀ b ∈ R, isK U b = true) : R.length ≤ U.length := by
  have := nd_le (Q := U.map (·.1)) h fun b hb => isK_mem.mp (s b hb)
  rwa [List.length_map] at this
theorem tg_len {U : US} (ub : UB U) (a : S) : (tg U a).length ≤ 20 := by
  unfold tg
  cases q : lk U a with
  | none => simp
  | some l => exact ub.l _ (lk_mem q)
/-- the dict or the locked one -/
theorem reached_ok {U : US} (ub : UB U) {a : S} (ha : isK U a = true) : ∃ F, p_reached [.leaf (.dK (dU U)), .leaf (.str a)] = .ok (.dK (dF F)) [] ∧ Cl U a F := by
  unfold p_reached
  simp
  generalize hF : whL _ _ _ _ _ = W
  obtain ⟨e1, rfl, F, rfl, hc⟩ := wh_st hF (fun (s : List S × List S) => [.leaf (.dK (dU U)), .leaf (.str a), .dK (dF s.1), .ls (s.2.map .str), .hole, .hole])
    (fun k s => (k = 2 * (U.length - s.1.length) + s.2.length ∧ k ≤ 2 * U.length + 1) ∧ s.1.Nodup ∧ (∀ b ∈ s.1, Rc U a b) ∧ (∀ b ∈ s.2, b = a ∨ b ∈ s.1) ∧ (∀ c, c = a ∨ c ∈ s.1 → c ∈ s.2 ∨ ∀ b ∈ tg U c, isK U b = true → b ∈ s.1))
    (fun e => ∃ F, e = [.leaf (.dK (dU U)), .leaf (.str a), .dK (dF F), .ls [], .hole, .hole] ∧ Cl U a F)
    (2 * U.length + 1) ([], [a]) (by have := ub.n; omega) (by simp [dF]) ⟨by simp, by simp, by simp, by simp, by simp⟩ (by
    rintro k ⟨F, L⟩ ⟨⟨rfl, hk1⟩, h1, h2, h3, h4⟩
    simp only at h1 h2 h3 h4 hk1
    have fk : ∀ b ∈ F, isK U b = true := fun b hb => (h2 b hb).key
    have fl := nd_keys ub h1 fk
    rcases List.eq_nil_or_concat L with rfl | ⟨I, c, rfl⟩
    · refine .inl ⟨_, by simp [truD]; rfl, F, by simp, cl_of h1 h2 fun c hc b hb hk => ?_⟩
      rcases h4 c hc with z | z
      · cases z
      · exact z b hb hk
    · rw [List.concat_eq_append] at h3 h4 hk1 ⊢
      have hcr : c = a ∨ c ∈ F := h3 c (by simp)
      have ck : isK U c = true := hcr.elim (fun e => e ▸ ha) (fk c)
      have tl := tg_len ub c
      obtain ⟨A, hA⟩ := addTo_pre U (tg U c) F
      have hnd := addTo_nd U (tg U c) F h1
      have hmem := fun b => addTo_mem U b (tg U c) F
      refine .inr ⟨[.leaf (.dK (dU U)), .leaf (.str a), .dK (dF F), .ls ((I ++ [c]).map .str), .hole, .hole], by simp [truD], .inl ⟨2 * (U.length - (F ++ A).length) + (I ++ A).length, (F ++ A, I ++ A), ?_, ?_, ?_⟩⟩
      · have hk : ∀ b ∈ F ++ A, isK U b = true := fun b hb => by
          rw [← hA] at hb
          rcases (hmem b).mp hb with z | z
          · exact fk b z
          · exact z.2
        rw [hA] at hnd
        have := nd_keys ub hnd hk
        simp only [List.length_append, List.length_cons, List.length_nil] at this ⊢
        omega
      · have pp : uPop (.ls ((I ++ [c]).map .str)) [] = some (.str c, .ls (I.map .str)) := by
          show ((((I ++ [c]).map D.str)[((I ++ [c]).map D.str).length - 1]?).map fun y => (y, T.ls ((I ++ [c]).map D.str).dropLast)) = _
          simp
        simp only [List.map_append, List.map_cons, List.map_nil] at pp
        have inner : ∀ (xs F I : List S), 2 * xs.length + F.length + I.length ≤ 1000 → ∀ A, addTo U F xs = F ++ A → forL [5] (.one 5) (sIf (tAnd (tCmp cDIn (pVar 5) (pVar 0)) (tCmp cDNin (pVar 5) (pVw 2))) (sSeq (sSetK (.var 2) (pVar 5) (pC (.bl true))) (sDrop (pLf (pUpd (.var 3) (dCons (pVar 5) dNil) uApp)))) sNx) (xs.map .str)
            [.leaf (.dK (dU U)), .leaf (.str a), .dK (dF F), .ls (I.map .str), .leaf (.str c), .hole] = .nx [.leaf (.dK (dU U)), .leaf (.str a), .dK (dF (F ++ A)), .ls ((I ++ A).map .str), .leaf (.str c), .hole] := by
          intro xs
          induction xs with
          | nil => intro F I _ A hA; simp [addTo] at hA; subst hA; simp [for_nil]
          | cons o xs ih =>
            intro F I hz A hA
            rw [addTo_cons] at hA
            simp only [List.length_cons] at hz
            rw [List.map_cons, for_cons]
            by_cases ok : isK U o = true ∧ o ∉ F
            · rw [if_pos ok] at hA
              obtain ⟨A', hA'⟩ := addTo_pre U xs (F ++ [o])
              have : A = o :: A' := by
                rw [hA', List.append_assoc] at hA
                exact (List.append_cancel_left hA).symm
              subst this
              have e := ih (F ++ [o]) (I ++ [o]) (by simp; omega) A' hA'
              have z1 : F.length ≤ 1000 := by omega
              have z2 : I.length ≤ 1000 := by omega
              simp only [List.map_append, List.map_cons, List.map_nil, List.append_assoc, List.cons_append, List.nil_append] at e
              simp [in_dU, val_dF, ok.1, ok.2, put_dF ok.2, dF_len, show F.length < 16000000 by omega, show I.length < 16000000 by omega, e]
            · rw [if_neg ok] at hA
              have e := ih F I (by omega) A hA
              by_cases o1 : isK U o = true
              · have o2 : o ∈ F := Classical.byContradiction fun z => ok ⟨o1, z⟩
                simp only [List.map_append] at e
                simp [in_dU, val_dF, o1, o2, e]
              · simp only [List.map_append] at e
                simp [in_dU, val_dF, o1, e]
        have un := ub.n
        have il : I.length ≤ 800 := by simp at hk1; omega
        have e := inner (tg U c) F I (by omega) A hA
        simp only [List.map_append] at e
        simp [pp, val_tg ck, e]
      · rw [hA] at hnd hmem
        refine ⟨⟨rfl, ?_⟩, hnd, fun b hb => ?_, fun b hb => ?_, fun d hd => ?_⟩
        · have hk : ∀ b ∈ F ++ A, isK U b = true := fun b hb => by
            rcases (hmem b).mp hb with z | z
            · exact fk b z
            · exact z.2
          have := nd_keys ub hnd hk
          simp only [List.length_append, List.length_cons, List.length_nil] at this hk1 ⊢
          omega
        · rcases (hmem b).mp hb with z | z
          · exact h2 b z
          · exact hcr.elim (fun e => .one (e ▸ z.1) z.2) fun e => .step (h2 c e) z.1 z.2
        · rcases List.mem_append.mp hb with z | z
          · rcases h3 b (by simp [z]) with z | z
            · exact .inl z
            · exact .inr (List.mem_append_left _ z)
          · exact .inr (List.mem_append_right _ z)
        · simp only at hd ⊢
          by_cases dc : d = c
          · subst dc
            exact .inr fun b hb hk => (hmem b).mpr (.inr ⟨hb, hk⟩)
          · have : (d = a ∨ d ∈ F) ∨ d ∈ A := by
              rcases hd with z | z
              · exact .inl (.inl z)
              · exact (List.mem_append.mp z).elim (fun z => .inl (.inr z)) .inr
            rcases this with z | z
            · rcases h4 d z with y | y
              · rcases List.mem_append.mp y with y | y
                · exact .inl (List.mem_append_left _ y)
                · exact absurd (List.mem_singleton.mp y) dc
              · exact .inr fun b hb hk => List.mem_append_left _ (y b hb hk)
            · exact .inl (List.mem_append_right _ z))
  exact ⟨F, by simp, hc⟩
end LAW

set_option Elab.async false
set_option linter.all false
set_option maxRecDepth 100000
set_option maxHeartbeats 4000000
namespace LAW
open P
def add2 (U : US) (Q cs : List S) : List S := cs.foldl (fun Q c => addTo U Q (tg U c)) Q
theorem add2_cons (U : US) (Q cs : List S) (c : S) : add2 U Q (c :: cs) = add2 U (addTo U Q (tg U c)) cs := rfl
theorem add2_pre (U : US) : ∀ (cs Q : List S), ∃ A, add2 U Q cs = Q ++ A
  | [], Q => ⟨[], by simp [add2]⟩
  | c :: cs, Q => by
    rw [add2_cons]
    obtain ⟨A, h⟩ := addTo_pre U (tg U c) Q
    obtain ⟨B, h2⟩ := add2_pre U cs (addTo U Q (tg U c))
    exact ⟨A ++ B, by rw [h2, h, List.append_assoc]⟩
theorem add2_nd (U : US) : ∀ (cs Q : List S), Q.Nodup → (add2 U Q cs).Nodup
  | [], Q, h => h
  | c :: cs, Q, h => add2_nd U cs _ (addTo_nd U _ _ h)
theorem add2_mem (U : US) (b : S) : ∀ (cs Q : List S), b ∈ add2 U Q cs ↔ b ∈ Q ∨ ∃ c ∈ cs, b ∈ tg U c ∧ isK U b = true
  | [], Q => by simp [add2]
  | c :: cs, Q => by
    rw [add2_cons, add2_mem U b cs, addTo_mem]
    simp only [List.mem_cons]
    constructor
    · rintro ((h | h) | ⟨c', h⟩)
      · exact .inl h
      · exact .inr ⟨c, .inl rfl, h⟩
      · exact .inr ⟨c', .inr h.1, h.2⟩
    · rintro (h | ⟨c', rfl | h, k⟩)
      · exact .inl (.inl h)
      · exact .inl (.inr k)
      · exact .inr ⟨c', h, k⟩
theorem cin_strs {o : S} {Q : List S} : cIn0 (.str o) (Q.map .str) = some (decide (o ∈ Q)) := by
  rw [c_in0 rfl (by simp [List.all_map, Function.comp_def, atom])]
  congr 1
  induction Q with
  | nil => rfl
  | cons q Q ih =>
    rw [List.map_cons, List.any_cons, ih]
    have : D.eq (.str q) (.str o) = decide (q = o) := by
      show (q == o) = _
      by_cases h : q = o <;> simp [h]
    rw [this]
    by_cases h : q = o
    · subst h; simp
    · simp [h, Ne.symm h]
theorem dlen_l {U : US} : gDLen [.dKl (dU U)] = some (.int (U.length : Nat)) := by show some (D.int ((dU U).length : Nat)) = _; rw [dU_len]
theorem dlen_k {U : US} : gDLen [.dK (dU U)] = some (.int (U.length : Nat)) := by show some (D.int ((dU U).length : Nat)) = _; rw [dU_len]
theorem law_reach_ok {U : US} (ub : UB U) {a : S} (ha : isK U a = true) : ∃ R, p_law_reach [.leaf (.dKl (dU U)), .leaf (.str a)] = .ok (.ls (R.map .str)) [] ∧ Cl U a R := by
  have un := ub.n
  unfold p_law_reach
  simp [dlen_l, show ((U.length : Int) + 1).toNat = U.length + 1 by omega, show ((U.length : Int) + 1).natAbs ≤ 1000000000 by omega]
  generalize hF : forL [3, 4, 5] _ _ _ _ = W
  have key : ∀ R : List S, R.Nodup → (∀ b ∈ R, Rc U a b) → (add2 U R (a :: R)).Nodup ∧ ∀ b ∈ add2 U R (a :: R), Rc U a b := fun R h1 h2 => ⟨add2_nd U _ _ h1, fun b hb => by
    rcases (add2_mem U b _ _).mp hb with z | ⟨c, hc, z⟩
    · exact h2 b z
    · rcases List.mem_cons.mp hc with rfl | hc
      · exact .one z.1 z.2
      · exact .step (h2 c hc) z.1 z.2⟩
  obtain ⟨R, rfl, h1, h2, h3⟩ := for_st hF (fun R : List S => [.leaf (.dKl (dU U)), .leaf (.str a), .ls (R.map .str), .hole, .hole, .hole])
    (fun i R => R.Nodup ∧ (∀ b ∈ R, Rc U a b) ∧ (i ≤ R.length ∨ Cl U a R)) [] (by simp) ⟨by simp, by simp, .inl (Nat.zero_le _)⟩ (by
    rintro i d R hd ⟨h1, h2, h3⟩
    obtain ⟨k1, k2⟩ := key R h1 h2
    refine ⟨add2 U R (a :: R), ?_, k1, k2, ?_⟩
    · have rl := nd_keys ub h1 fun b hb => (h2 b hb).key
      have inner : ∀ (y : T) (xs Q : List S), xs.length + Q.length ≤ 1000 → forL [5] (.one 5) (sIf (tAnd (tCmp cDIn (pVar 5) (pVar 0)) (tCmp cNin (pVar 5) (pVw 2))) (sDrop (pLf (pUpd (.var 2) (dCons (pVar 5) dNil) uApp))) sNx) (xs.map .str)
          [.leaf (.dKl (dU U)), .leaf (.str a), .ls (Q.map .str), .leaf d, y, .hole] = .nx [.leaf (.dKl (dU U)), .leaf (.str a), .ls ((addTo U Q xs).map .str), .leaf d, y, .hole] := by
        intro y xs
        induction xs with
        | nil => intro Q _; simp [for_nil, addTo]
        | cons o xs ih =>
          intro Q hz
          simp only [List.length_cons] at hz
          rw [List.map_cons, for_cons, addTo_cons]
          by_cases ok : isK U o = true ∧ o ∉ Q
          · rw [if_pos ok]
            have e := ih (Q ++ [o]) (by simp; omega)
            simp only [List.map_append, List.map_cons, List.map_nil] at e
            simp [in_dU, ok.1, ok.2, show Q.length < 16000000 by omega, e, cin_strs]
          · rw [if_neg ok]
            have e := ih Q (by omega)
            by_cases o1 : isK U o = true
            · have o2 : o ∈ Q := Classical.byContradiction fun z => ok ⟨o1, z⟩
              simp [in_dU, o1, o2, e, cin_strs]
            · simp [in_dU, o1, e]
      have mid : ∀ (cs Q : List S), (∀ c ∈ cs, isK U c = true) → Q.Nodup → (∀ b ∈ Q, isK U b = true) → forL [4, 5] (.one 4) (sFor [5] (iE (pBin gDGet (pVar 0) (pVar 4))) (.one 5) (sIf (tAnd (tCmp cDIn (pVar 5) (pVar 0)) (tCmp cNin (pVar 5) (pVw 2))) (sDrop (pLf (pUpd (.var 2) (dCons (pVar 5) dNil) uApp))) sNx)) (cs.map .str)
          [.leaf (.dKl (dU U)), .leaf (.str a), .ls (Q.map .str), .leaf d, .hole, .hole] = .nx [.leaf (.dKl (dU U)), .leaf (.str a), .ls ((add2 U Q cs).map .str), .leaf d, .hole, .hole] := by
        intro cs
        induction cs with
        | nil => intro Q _ _ _; simp [for_nil, add2]
        | cons c cs ih =>
          intro Q hc hn hq
          have ck := hc c (.head _)
          have ql := nd_keys ub hn hq
          have tl := tg_len ub c
          have e := inner (.leaf (.str c)) (tg U c) Q (by omega)
          have e2 := ih (addTo U Q (tg U c)) (fun x hx => hc x (.tail _ hx)) (addTo_nd U _ _ hn) fun b hb => ((addTo_mem U b _ _).mp hb).elim (hq b) (·.2)
          rw [List.map_cons, for_cons, add2_cons]
          simp [val_tg ck, e, e2]
      have e := mid (a :: R) R (fun c hc => (List.mem_cons.mp hc).elim (fun e => e ▸ ha) fun z => (h2 c z).key) h1 fun b hb => (h2 b hb).key
      rw [List.map_cons] at e
      simp [e, show 1 + R.length ≤ 16000000 by omega]
    · rcases h3 with h3 | h3
      · obtain ⟨A, hA⟩ := add2_pre U (a :: R) R
        cases A with
        | nil =>
          rw [List.append_nil] at hA
          refine .inr ?_
          rw [hA]
          refine cl_of h1 h2 fun c hc b hb hk => ?_
          rw [← hA]
          exact (add2_mem U b _ _).mpr (.inr ⟨c, by rcases hc with rfl | hc <;> simp [*], hb, hk⟩)
        | cons x A => refine .inl ?_; rw [hA]; simp; omega
      · refine .inr ?_
        have e : add2 U R (a :: R) = R := by
          obtain ⟨A, hA⟩ := add2_pre U (a :: R) R
          cases A with
          | nil => rw [hA, List.append_nil]
          | cons x A =>
            have : (add2 U R (a :: R)).length ≤ R.length := nd_le k1 fun b hb => (h3.iff b).mpr (k2 b hb)
            rw [hA] at this
            simp at this
            omega
        rw [e]; exact h3)
  have rl := nd_keys ub h1 fun b hb => (h2 b hb).key
  rw [rng_len] at h3
  refine ⟨R, by simp, h3.elim (fun z => by omega) id⟩
end LAW

set_option Elab.async false
set_option linter.all false
set_option maxRecDepth 100000
set_option maxHeartbeats 4000000
namespace LAW
open P
/-! the order of texts -/
theorem ltL_eq : ∀ a b : S, ltL a b = decide (a < b)
  | [], [] => by simp [ltL]
  | [], _ :: _ => by simp [ltL]
  | _ :: _, [] => by simp [ltL]
  | x :: a, y :: b => by
    rw [ltL, ltL_eq a b]
    by_cases h : x < y
    · simp [h, List.cons_lt_cons_iff]
    · by_cases h2 : x = y
      · subst h2; simp [List.cons_lt_cons_iff]
      · simp [h, h2, List.cons_lt_cons_iff]
theorem ltL_no {a b : S} : ltL b a = false ↔ a ≤ b := by rw [ltL_eq, decide_eq_false_iff_not]; exact List.not_lt
abbrev Sd (l : List S) : Prop := l.Pairwise (· ≤ ·)
theorem insS_sd {x : S} : ∀ {l : List S}, Sd l → Sd (insS x l)
  | [], _ => List.pairwise_singleton _ _
  | y :: r, h => by
    unfold insS
    have h' := List.pairwise_cons.mp h
    split
    · rename_i c
      refine List.pairwise_cons.mpr ⟨fun z hz => ?_, insS_sd h'.2⟩
      rcases insS_mem.mp hz with rfl | hz
      · have : y < z := by rw [ltL_eq] at c; exact of_decide_eq_true c
        exact List.le_of_lt this
      · exact h'.1 z hz
    · rename_i c
      have xy : x ≤ y := ltL_no.mp (by simpa using c)
      refine List.pairwise_cons.mpr ⟨fun z hz => ?_, h⟩
      rcases List.mem_cons.mp hz with rfl | hz
      · exact xy
      · exact List.le_trans xy (h'.1 z hz)
theorem sortS_sd : ∀ l : List S, Sd (sortS l)
  | [] => .nil
  | x :: l => insS_sd (sortS_sd l)
theorem sortS_id : ∀ {l : List S}, Sd l → sortS l = l
  | [], _ => rfl
  | x :: l, h => by
    have h' := List.pairwise_cons.mp h
    have e : sortS (x :: l) = insS x (sortS l) := rfl
    rw [e, sortS_id h'.2]
    cases l with
    | nil => rfl
    | cons y r => unfold insS; rw [if_neg]; rw [ltL_no.mpr (h'.1 y (.head _))]; simp
theorem insS_perm {x : S} : ∀ l : List S, (insS x l).Perm (x :: l)
  | [] => .refl _
  | y :: r => by
    unfold insS
    split
    · exact ((insS_perm r).cons y).trans (List.Perm.swap x y r)
    · exact .refl _
theorem sortS_perm : ∀ l : List S, (sortS l).Perm l
  | [] => .refl _
  | x :: l => (insS_perm _).trans ((sortS_perm l).cons x)
/-! together -/
def Tog (U : US) (a b : S) : Prop := b = a ∨ (Rc U a b ∧ Rc U b a)
theorem Tog.symm {U : US} {a b : S} (h : Tog U a b) : Tog U b a := h.elim (fun e => .inl e.symm) fun h => .inr ⟨h.2, h.1⟩
theorem Tog.trans {U : US} {a b c : S} (h : Tog U a b) (k : Tog U b c) : Tog U a c := by
  rcases h with rfl | h
  · exact k
  · rcases k with rfl | k
    · exact .inr h
    · exact .inr ⟨h.1.trans k.1, k.2.trans h.2⟩
theorem Tog.rc {U : US} {a b c : S} (h : Tog U a b) (r : c = b ∨ Rc U b c) : c = a ∨ Rc U a c := by
  rcases h with rfl | h
  · exact r
  · rcases r with rfl | r
    · exact .inr h.1
    · exact .inr (h.1.trans r)
/-- how many it reaches, itself counted -/
def cnt (a : S) (F : List S) : Nat := if a ∈ F then F.length else F.length + 1
def wth (a : S) (F : List S) : List S := if a ∈ F then F else a :: F
theorem cnt_wth (a : S) (F : List S) : cnt a F = (wth a F).length := by unfold cnt wth; split <;> rfl
theorem wth_nd {U : US} {a : S} {F : List S} (h : Cl U a F) : (wth a F).Nodup := by
  unfold wth
  split
  · exact h.nd
  · rename_i c; exact List.nodup_cons.mpr ⟨c, h.nd⟩
theorem wth_mem {U : US} {a : S} {F : List S} (h : Cl U a F) (b : S) : b ∈ wth a F ↔ b = a ∨ Rc U a b := by
  unfold wth
  split
  · rename_i c
    rw [h.iff]
    exact ⟨.inr, fun z => z.elim (fun e => e ▸ (h.iff a).mp c) id⟩
  · rw [List.mem_cons, h.iff]
theorem cnt_tog {U : US} {a b : S} {F G : List S} (x : Cl U a F) (y : Cl U b G) (t : Tog U a b) : cnt a F = cnt b G := by
  rw [cnt_wth, cnt_wth]
  refine Nat.le_antisymm (nd_le (wth_nd x) fun c hc => ?_) (nd_le (wth_nd y) fun c hc => ?_)
  · exact (wth_mem y c).mpr (t.symm.rc ((wth_mem x c).mp hc))
  · exact (wth_mem x c).mpr (t.rc ((wth_mem y c).mp hc))
theorem cnt_lt {U : US} {a b : S} {F G : List S} (x : Cl U a F) (y : Cl U b G) (r : Rc U a b) (n : ¬ Tog U a b) : cnt b G < cnt a F := by
  rw [cnt_wth, cnt_wth]
  have na : a ∉ wth b G := fun h => by
    rcases (wth_mem y a).mp h with e | h
    · exact n (.inl e.symm)
    · exact n (.inr ⟨r, h⟩)
  have : (a :: wth b G).length ≤ (wth a F).length := nd_le (List.nodup_cons.mpr ⟨na, wth_nd y⟩) fun c hc => by
    rcases List.mem_cons.mp hc with rfl | hc
    · exact (wth_mem x c).mpr (.inl rfl)
    · refine (wth_mem x c).mpr (.inr ?_)
      rcases (wth_mem y c).mp hc with rfl | h
      · exact r
      · exact r.trans h
  rw [List.length_cons] at this; omega
end LAW

set_option Elab.async false
set_option linter.all false
set_option maxRecDepth 100000
set_option maxHeartbeats 4000000
namespace LAW
open P
theorem keys_dU : ∀ U : US, keysS (dU U) = some (U.map (·.1))
  | [] => rfl
  | (k, l) :: r => by
    show (keysS (dU r)).map (k :: ·) = _
    rw [keys_dU r]; rfl
/-- a dict comprehension over different names -/
theorem fold_dc {f : S → D} : ∀ (N M : List S), (M ++ N).Nodup → (N.map D.str).foldl (fun acc d => putK acc (match d with | .str s => .inr s | _ => .inl 0) (match d with | .str s => f s | _ => .non)) (M.map fun a => ((.inr a : DK), f a)) = (M ++ N).map fun a => (.inr a, f a)
  | [], M, _ => by simp
  | a :: N, M, h => by
    have na : a ∉ M := fun m => (List.nodup_append.mp h).2.2 a m a (.head _) rfl
    have e : putK (M.map fun a => ((.inr a : DK), f a)) (.inr a) (f a) = (M ++ [a]).map fun a => (.inr a, f a) := by
      unfold putK
      have : (valK (M.map fun a => ((.inr a : DK), f a)) (.inr a)).isSome = false := by
        clear h
        induction M with
        | nil => rfl
        | cons m M ih =>
          show (if (Sum.inr m : DK) = .inr a then some (f m) else valK _ _).isSome = false
          rw [if_neg (by intro e; cases e; exact na (.head _))]
          exact ih fun z => na (.tail _ z)
      rw [this]; simp
    rw [List.map_cons, List.foldl_cons]
    simp only
    rw [e, fold_dc N (M ++ [a]) (by simpa using h)]
    simp
theorem val_map {f : S → D} {a : S} : ∀ {N : List S}, a ∈ N → valK (N.map fun a => ((.inr a : DK), f a)) (.inr a) = some (f a)
  | m :: N, h => by
    show (if (Sum.inr m : DK) = .inr a then some (f m) else valK _ _) = _
    by_cases e : m = a
    · subst e; simp
    · rw [if_neg (by simpa using e)]
      exact val_map ((List.mem_cons.mp h).resolve_left (Ne.symm e))
theorem merge_dF : ∀ (G F : List S), (F ++ G).Nodup → mergeP (dF F) (dF G) = dF (F ++ G)
  | [], F, _ => by simp [mergeP, dF]
  | g :: G, F, h => by
    have ng : g ∉ F := fun m => (List.nodup_append.mp h).2.2 g m g (.head _) rfl
    show mergeP (putK (dF F) (.inr g) (.bl true)) (dF G) = _
    rw [put_dF ng, merge_dF G (F ++ [g]) (by simpa using h)]
    simp
theorem put_len {F : List S} {a : S} : (putK (dF F) (.inr a) (.bl true)).length = cnt a F := by
  unfold cnt
  by_cases h : a ∈ F
  · rw [if_pos h]
    unfold putK
    rw [val_dF, if_pos (by simpa using h)]
    have : ∀ l : List (DK × D), (repK l (.inr a) (.bl true)).length = l.length := fun l => by
      induction l with
      | nil => rfl
      | cons p l ih => obtain ⟨x, y⟩ := p; unfold repK; simp [ih]
    rw [this, dF_len]
  · rw [if_neg h, put_dF h, dF_len]; simp
theorem fm_filter (p : S → Bool) : ∀ N : List S, (N.map D.str).filterMap (fun d => match d with | .str b => if p b = true then some (D.str b) else none | _ => none) = (N.filter p).map .str
  | [] => rfl
  | x :: N => by
    rw [List.map_cons, List.filterMap_cons, List.filter_cons, fm_filter p N]
    by_cases h : p x = true
    · simp [h]
    · simp [h]
theorem dlen_any {k : List (DK × D)} : gDLen [.dK k] = some (.int (k.length : Nat)) := rfl
theorem merge0 {F : List S} (h : F.Nodup) : mergeP [] (dF F) = dF F := by
  have := merge_dF F [] (by simpa using h)
  simpa [dF] using this
/-- the part of a name -/
def prt (N : List S) (rF : S → List S) (a : S) : List S := N.filter fun b => decide (b = a) || (decide (b ∈ rF a) && decide (a ∈ rF b))
def kOf (N : List S) (rF : S → List S) (a : S) : IS := ((cnt a (rF a) : Nat), prt N rF a)
structure CO (U : US) (N : List S) (rF : S → List S) (Q : List S) : Prop where
  k : ∀ a ∈ Q, isK U a = true
  nd : (Q.flatMap (prt N rF)).Nodup
  all : ∀ b, isK U b = true → ∃ a ∈ Q, b ∈ prt N rF a
theorem prt_mem {U : US} {N : List S} {rF : S → List S} (hN : ∀ b, b ∈ N ↔ isK U b = true) (hF : ∀ a, isK U a = true → Cl U a (rF a)) {a b : S} (ka : isK U a = true) : b ∈ prt N rF a ↔ isK U b = true ∧ Tog U a b := by
  unfold prt
  rw [List.mem_filter, hN]
  constructor
  · rintro ⟨h1, h2⟩
    refine ⟨h1, ?_⟩
    simp only [Bool.or_eq_true, Bool.and_eq_true, decide_eq_true_eq] at h2
    rcases h2 with h | ⟨h, k⟩
    · exact .inl h
    · exact .inr ⟨((hF a ka).iff b).mp h, ((hF b h1).iff a).mp k⟩
  · rintro ⟨h1, h2⟩
    refine ⟨h1, ?_⟩
    simp only [Bool.or_eq_true, Bool.and_eq_true, decide_eq_true_eq]
    rcases h2 with h | ⟨h, k⟩
    · exact .inl h
    · exact .inr ⟨((hF a ka).iff b).mpr h, ((hF b h1).iff a).mpr k⟩
def kD (k : IS) : D := .tup [.int k.1, .lst (k.2.map .str)]
theorem keysT_k : ∀ ks : List IS, keysT (ks.map kD) = some ks
  | [] => rfl
  | k :: ks => by
    have : keyIS (kD k) = some k := by
      show (strsD (k.2.map .str)).map _ = _
      rw [w_strs]; rfl
    rw [List.map_cons, keysT, this, keysT_k ks]
theorem srtT_k (ks : List IS) : srtT (ks.map kD) ks = (ks.mergeSort leIS).map kD := by
  unfold srtT
  have z : (ks.map kD).zip ks = ks.map fun k => (kD k, k) := by
    induction ks with
    | nil => rfl
    | cons k ks ih => simp [ih]
  have z1 : ((ks.map fun k => (kD k, k)).mergeSort fun p q : D × IS => leIS p.2 q.2) = (ks.mergeSort leIS).map fun k => (kD k, k) := by
    rw [List.map_mergeSort]; intros; rfl
  rw [z, z1, List.map_map]
  rfl
theorem components_ok {U : US} (ub : UB U) : ∃ N rF Q, p_components [.leaf (.dK (dU U))] = .ok (.ls (((Q.map (kOf N rF)).mergeSort leIS).map fun k => .lst (k.2.map .str))) [] ∧
    Sd N ∧ N.Nodup ∧ (∀ b, b ∈ N ↔ isK U b = true) ∧ (∀ a, isK U a = true → Cl U a (rF a)) ∧ CO U N rF Q := by
  have un := ub.n
  obtain ⟨rF, hR⟩ : ∃ rF : S → List S, ∀ a, isK U a = true → p_reached [.leaf (.dK (dU U)), .leaf (.str a)] = .ok (.dK (dF (rF a))) [] ∧ Cl U a (rF a) := by
    classical
    exact ⟨fun a => if h : isK U a = true then Classical.choose (reached_ok ub h) else [], fun a h => by
      have := Classical.choose_spec (reached_ok ub h)
      simp only [dif_pos h]
      exact this⟩
  generalize hN : sortS (U.map (·.1)) = N
  have pN : N.Perm (U.map (·.1)) := hN ▸ sortS_perm _
  have nN : N.Nodup := pN.nodup_iff.mpr ub.nd
  have mN : ∀ b, b ∈ N ↔ isK U b = true := fun b => by rw [isK_mem, pN.mem_iff]
  have lN : N.length = U.length := by rw [pN.length_eq, List.length_map]
  have e1 : gSortD [.dK (dU U)] = some (.ls (N.map .str)) := by
    rw [w_sortD, keys_dU, w_srt (by simp; omega), hN]
  unfold p_components
  simp [-w_sortD, e1]
  generalize hD : dcR _ _ _ _ _ _ _ = DD
  have dd := dc_ma hD [.leaf (.dK (dU U)), .leaf (.lst (N.map .str)), .hole, .hole, .hole, .hole, .hole, .hole, .hole] (fun d => match d with | .str s => .inr s | _ => .inl 0) (fun d => match d with | .str s => .dK (dF (rF s)) | _ => .non) (by simp) (by
    intro d hd
    obtain ⟨a, ha, rfl⟩ := List.mem_map.mp hd
    have hr := (hR a ((mN a).mp ha)).1
    refine ⟨_, rfl, by simp, ⟨_, by simp; rfl, rfl⟩, by simp [hr], by simp⟩) (by simp; omega)
  have fd := fold_dc (f := fun a => .dK (dF (rF a))) N [] (by simpa using nN)
  rw [List.map_nil, List.nil_append] at fd
  rw [fd] at dd
  subst dd
  simp
  have vR : ∀ a, a ∈ N → valK (N.map fun a => ((.inr a : DK), D.dK (dF (rF a)))) (.inr a) = some (.dK (dF (rF a))) := fun a h => val_map (f := fun a => .dK (dF (rF a))) h
  generalize (N.map fun a => ((.inr a : DK), D.dK (dF (rF a)))) = dR at *
  have pm := fun {a b : S} (ka : isK U a = true) => prt_mem (b := b) mN (fun a h => (hR a h).2) ka
  have pl : ∀ a, (prt N rF a).length ≤ 20 := fun a => by
    have := List.length_filter_le (fun b => decide (b = a) || (decide (b ∈ rF a) && decide (a ∈ rF b))) N
    unfold prt; omega
  have pnd : ∀ a, (prt N rF a).Nodup := fun a => nN.filter _
  generalize hF : forL _ _ _ _ _ = FF
  obtain ⟨Q, rfl, ⟨q0, q1⟩, q2, q3⟩ := for_st hF (fun Q : List S => [.leaf (.dK (dU U)), .leaf (.lst (N.map .str)), .leaf (.dK dR), .hole, .dK (dF (Q.flatMap (prt N rF))), .ls ((Q.map (kOf N rF)).map kD), .hole, .hole, .hole])
    (fun i Q => (Q.length ≤ i ∧ ∀ a ∈ Q, isK U a = true) ∧ (Q.flatMap (prt N rF)).Nodup ∧ (∀ b ∈ N.take i, ∃ a ∈ Q, b ∈ prt N rF a)) [] (by simp [dF]) ⟨by simp, by simp, by simp⟩ (by
    rintro i d Q hd ⟨⟨q0, q1⟩, q2, q3⟩
    rw [List.getElem?_map] at hd
    cases hg : N[i]? with
    | none => rw [hg] at hd; cases hd
    | some a =>
    rw [hg] at hd
    cases hd
    have aN := List.mem_of_getElem? hg
    have ka := (mN a).mp aN
    have mL : ∀ b, b ∈ Q.flatMap (prt N rF) ↔ ∃ c ∈ Q, b ∈ prt N rF c := fun b => List.mem_flatMap
    have lL : (Q.flatMap (prt N rF)).length ≤ 20 := by
      have := nd_le (Q := N) q2 fun b hb => by
        obtain ⟨c, hc, hb⟩ := (mL b).mp hb
        exact (mN b).mpr ((pm (q1 c hc)).mp hb).1
      omega
    by_cases al : a ∈ Q.flatMap (prt N rF)
    · refine ⟨Q, ?_, ⟨by omega, q1⟩, q2, fun b hb => ?_⟩
      · simp [val_dF, al]
      · rw [List.take_add_one, hg] at hb
        rcases List.mem_append.mp hb with hb | hb
        · exact q3 b hb
        · simp at hb; subst hb; exact (mL _).mp al
    · have hdis : ∀ b ∈ prt N rF a, b ∉ Q.flatMap (prt N rF) := fun b hb hl => by
        obtain ⟨c, hc, hb2⟩ := (mL b).mp hl
        have t1 := ((pm ka).mp hb).2
        have t2 := ((pm (q1 c hc)).mp hb2).2
        exact al ((mL a).mpr ⟨c, hc, (pm (q1 c hc)).mpr ⟨ka, t2.trans t1.symm⟩⟩)
      have q2' : ((Q ++ [a]).flatMap (prt N rF)).Nodup := by
        rw [List.flatMap_append, List.nodup_append]
        refine ⟨q2, by simpa using pnd a, fun x hx y hy e => ?_⟩
        subst e
        exact hdis x (by simpa using hy) hx
      have qi : i < N.length := (List.getElem?_eq_some_iff.mp hg).1
      refine ⟨Q ++ [a], ?_, ⟨by simp; omega, fun b hb => ?_⟩, q2', fun b hb => ?_⟩
      · have lc : lcR (.one 7) (tOr (tCmp cEq (pVar 7) (pVar 3)) (tAnd (tCmp cDIn (pVar 7) (pBin gDGet (pVar 2) (pVar 3))) (tCmp cDIn (pVar 3) (pBin gDGet (pVar 2) (pVar 7))))) (pVar 7) [7] (N.map .str)
            [.leaf (.dK (dU U)), .leaf (.lst (N.map .str)), .leaf (.dK dR), .leaf (.str a), .dK (dF (Q.flatMap (prt N rF))), .ls ((Q.map (kOf N rF)).map kD), .hole, .hole, .hole] =
            .ok ((prt N rF a).map .str) [.leaf (.dK (dU U)), .leaf (.lst (N.map .str)), .leaf (.dK dR), .leaf (.str a), .dK (dF (Q.flatMap (prt N rF))), .ls ((Q.map (kOf N rF)).map kD), .hole, .hole, .hole] := by
          generalize hL : lcR _ _ _ _ _ _ = LL
          have := lc_fi hL [.leaf (.dK (dU U)), .leaf (.lst (N.map .str)), .leaf (.dK dR), .leaf (.str a), .dK (dF (Q.flatMap (prt N rF))), .ls ((Q.map (kOf N rF)).map kD), .hole, .hole, .hole] (fun d => match d with
            | .str b => if (decide (b = a) || (decide (b ∈ rF a) && decide (a ∈ rF b))) = true then some (.str b) else none
            | _ => none) (by simp) (by simp; omega) (by
            intro d hd
            obtain ⟨b, hb, rfl⟩ := List.mem_map.mp hd
            by_cases h1 : b = a
            · subst h1; simp
            · by_cases h2 : b ∈ rF a
              · by_cases h3 : a ∈ rF b
                · simp [h1, h2, h3, vR a aN, vR b hb, val_dF]
                · simp [h1, h2, h3, vR a aN, vR b hb, val_dF]
              · simp [h1, h2, vR a aN, val_dF])
          rw [this]
          exact congrArg (fun x => PR.ok x _) (fm_filter _ N)
        have dc : dcR (.one 7) tYes (pVar 7) (pC (.bl true)) [7] ((prt N rF a).map .str) [.leaf (.dK (dU U)), .leaf (.lst (N.map .str)), .leaf (.dK dR), .leaf (.str a), .dK (dF (Q.flatMap (prt N rF))), .ls ((Q.map (kOf N rF)).map kD), .leaf (.lst ((prt N rF a).map .str)), .hole, .hole] =
            .ok (dF (prt N rF a)) [.leaf (.dK (dU U)), .leaf (.lst (N.map .str)), .leaf (.dK dR), .leaf (.str a), .dK (dF (Q.flatMap (prt N rF))), .ls ((Q.map (kOf N rF)).map kD), .leaf (.lst ((prt N rF a).map .str)), .hole, .hole] := by
          generalize hL : dcR _ _ _ _ _ _ _ = LL
          have dd := dc_ma hL [.leaf (.dK (dU U)), .leaf (.lst (N.map .str)), .leaf (.dK dR), .leaf (.str a), .dK (dF (Q.flatMap (prt N rF))), .ls ((Q.map (kOf N rF)).map kD), .leaf (.lst ((prt N rF a).map .str)), .hole, .hole] (fun d => match d with | .str s => .inr s | _ => .inl 0) (fun d => match d with | .str s => .bl true | _ => .non) (by simp) (by
            intro d hd
            obtain ⟨b, hb, rfl⟩ := List.mem_map.mp hd
            exact ⟨_, rfl, by simp, ⟨_, by simp; rfl, rfl⟩, by simp, by simp⟩) (by have := pl a; simp; omega)
          have fd := fold_dc (f := fun _ => .bl true) (prt N rF a) [] (by simpa using pnd a)
          rw [List.map_nil, List.nil_append] at fd
          rw [fd] at dd
          exact dd
        have z1 := merge_dF (prt N rF a) (Q.flatMap (prt N rF)) (by
          rw [List.flatMap_append] at q2'
          simpa using q2')
        have z2 := merge0 (hR a ka).2.nd
        have z3 : (rF a).length ≤ 20 := by
          have := nd_keys ub (hR a ka).2.nd fun b hb => (((hR a ka).2.iff b).mp hb).key
          omega
        have pla := pl a
        have z5 : kD (kOf N rF a) = .tup [.int (cnt a (rF a) : Nat), .lst ((prt N rF a).map .str)] := rfl
        have f1 : (Q ++ [a]).flatMap (prt N rF) = Q.flatMap (prt N rF) ++ prt N rF a := by simp
        have f2 : ((Q ++ [a]).map (kOf N rF)).map kD = (Q.map (kOf N rF)).map kD ++ [kD (kOf N rF a)] := by simp
        rw [f1, f2, z5]
        have pz : ((Q.map (kOf N rF)).map kD).length ≤ 20 := by simp; omega
        generalize (Q.map (kOf N rF)).map kD = PP at *
        generalize Q.flatMap (prt N rF) = L at *
        simp [val_dF, al, lc, dc, dF_len, show L.length + (prt N rF a).length ≤ 16000000 by omega, z1, vR a aN, show (rF a).length ≤ 16000000 by omega, z2, show (rF a).length < 16000000 by omega, put_len, dlen_any, show PP.length < 16000000 by omega]
      · rcases List.mem_append.mp hb with hb | hb
        · exact q1 b hb
        · rw [List.mem_singleton.mp hb]; exact ka
      · rw [List.take_add_one, hg] at hb
        rcases List.mem_append.mp hb with hb | hb
        · obtain ⟨c, hc, h⟩ := q3 b hb
          exact ⟨c, List.mem_append_left _ hc, h⟩
        · simp at hb
          subst hb
          exact ⟨b, by simp, (pm ka).mpr ⟨ka, .inl rfl⟩⟩)
  rw [List.length_map] at q0 q3
  have eS : gSortT [.lst ((Q.map (kOf N rF)).map kD)] = some (.ls (((Q.map (kOf N rF)).mergeSort leIS).map kD)) := by
    rw [h_sortT, keysT_k]
    show some (T.ls (srtT _ _)) = _
    rw [srtT_k]
  refine ⟨N, rF, Q, ?_, hN ▸ sortS_sd _, nN, mN, fun a h => (hR a h).2, q1, q2, fun b hb => ?_⟩
  · have kl : (((Q.map (kOf N rF)).mergeSort leIS).map kD).length ≤ 20 := by
      rw [List.length_map, List.length_mergeSort, List.length_map]; omega
    generalize (Q.map (kOf N rF)).mergeSort leIS = KS at *
    generalize (Q.map (kOf N rF)).map kD = PP at *
    generalize hL : lcR (.tup [8, 6]) tYes (pVar 6) [8, 6] (KS.map kD) [.leaf (.dK (dU U)), .leaf (.lst (N.map .str)), .leaf (.dK dR), .hole, .dK (dF (Q.flatMap (prt N rF))), .ls PP, .hole, .hole, .hole] = LL
    have := lc_ma hL [.leaf (.dK (dU U)), .leaf (.lst (N.map .str)), .leaf (.dK dR), .hole, .dK (dF (Q.flatMap (prt N rF))), .ls PP, .hole, .hole, .hole] (fun d => match d with | .tup [_, x] => x | _ => .non) (by simp) (by omega) (by
      intro d hd
      obtain ⟨k, hk, rfl⟩ := List.mem_map.mp hd
      simp [kD])
    rw [List.map_map] at this
    subst this
    have e9 : KS.map ((fun d => match d with | D.tup [_, x] => x | _ => D.non) ∘ kD) = KS.map fun k => D.lst (k.2.map .str) := rfl
    rw [e9] at hL
    simp [-h_sortT, eS, hL]
  · refine q3 b ?_
    rw [List.take_length]
    exact (mN b).mpr hb
end LAW

set_option Elab.async false
set_option linter.all false
set_option maxRecDepth 100000
set_option maxHeartbeats 4000000
namespace LAW
open P
theorem draws_eq : p_law_draws = lawDraws := rfl
theorem at_eq : p_law_at = lawAt := rfl
theorem p_at {vs : List Nat} {j : Int} (h : 0 ≤ j) : p_law_at [.leaf (.lst (In vs)), .leaf (.int j)] = .ok (.leaf (.int (atN vs j.toNat))) [] := by rw [at_eq]; exact lawAt_int h
theorem p_atN {vs : List Nat} {j : Int} (h : 0 ≤ j) : ∃ n : Nat, p_law_at [.leaf (.lst (In vs)), .leaf (.int j)] = .ok (.leaf (.int n)) [] := ⟨_, p_at h⟩
theorem name_ok (n : Nat) : ∃ s : S, p_law_name [.leaf (.int n)] = .ok (.leaf (.str s)) [] ∧ ∀ x ∈ s, x < 1114112 := by
  unfold p_law_name
  have key : ∀ (L : S) (i : Nat), i < L.length → ∃ x, L[i]? = some x ∧ x ∈ L := fun L i h => ⟨L[i], List.getElem?_eq_getElem h, List.getElem_mem h⟩
  simp only [f_fn, List.length_cons, List.length_nil, Nat.reduceAdd, Nat.reduceLeDiff, if_true, Nat.le_refl, Nat.reduceSub, List.replicate, List.cons_append, List.nil_append]
  generalize hL : ([97, 98, 99, 100, 101, 102, 103, 104, 105, 106, 107, 108, 109, 110, 111, 112, 113, 114, 115, 116, 117, 118, 119, 120, 121, 122, 48, 49, 50, 51, 52, 53, 54, 55, 56, 57, 95] : S) = L
  have lL : L.length = 37 := by subst hL; rfl
  have lc : ∀ x ∈ L, x < 1114112 := by subst hL; decide
  obtain ⟨m, hm, e1⟩ : ∃ m : Nat, m < 26 ∧ (n : Int) % 26 = m := ⟨n % 26, by omega, by omega⟩
  obtain ⟨t, ht, e2⟩ : ∃ m : Nat, m < 3 ∧ (n : Int) / 26 % 3 = m := ⟨n / 26 % 3, by omega, by omega⟩
  obtain ⟨c, hc, mc⟩ := key L m (by omega)
  have lz : L.length ≤ 16000000 := by omega
  simp [e1, hc, e2, show t ≤ 1000000000 by omega, lz]
  generalize hF : forL _ _ _ _ _ = F
  obtain ⟨s, rfl, hs⟩ := for_st hF (fun s : S => [.leaf (.int n), .leaf (.str L), .leaf (.str s), .hole]) (fun i s => s.length ≤ i + 1 ∧ ∀ x ∈ s, x < 1114112) [c] (by simp) (by simpa using lc c mc) (by
    rintro i d s hd ⟨hs, hsc⟩
    obtain ⟨hi, rfl⟩ := rng_get hd
    obtain ⟨u, hu, e3⟩ : ∃ u : Nat, u < 37 ∧ (n : Int) / 78 / (1 + 30 * (i : Int)) % 37 = u := by
      generalize (n : Int) / 78 / (1 + 30 * (i : Int)) = w
      exact ⟨(w % 37).toNat, by omega, by omega⟩
    obtain ⟨x, hx, mx⟩ := key L u (by omega)
    refine ⟨s ++ [x], ?_, by simp; omega, fun y hy => (List.mem_append.mp hy).elim (hsc y) fun z => by rw [List.mem_singleton.mp z]; exact lc x mx⟩
    simp [e3, hx, lz, show (0 : Int) < 1 + 30 * (i : Int) by omega, show (1 + 30 * (i : Int)).natAbs < 1073741824 by omega, show s.length ≤ 15999999 by omega, show s.length + 1 ≤ 16000000 by omega]
    )
  exact ⟨s, by simp, hs.2⟩
theorem put_dU {U : US} {a : S} {l : List S} (h : a ∉ U.map (·.1)) : putK (dU U) (.inr a) (.lst (l.map .str)) = dU (U ++ [(a, l)]) := by
  unfold putK
  have : (valK (dU U) (.inr a)).isSome = false := by
    rw [in_dU]
    cases q : isK U a with
    | false => rfl
    | true => exact absurd (isK_mem.mp q) h
  rw [this]
  simp [dU]
theorem uses_ok (vs : List Nat) : ∃ U, p_law_uses [.leaf (.lst (In vs))] = .ok (.dK (dU U)) [] ∧ UB U := by
  obtain ⟨c0, h0⟩ := p_atN (vs := vs) (j := 0) (by omega)
  obtain ⟨c1, h1⟩ := p_atN (vs := vs) (j := 1) (by omega)
  obtain ⟨n, hn, en⟩ : ∃ m : Nat, m < 15 ∧ (c0 : Int) % 15 = m := ⟨c0 % 15, by omega, by omega⟩
  unfold p_law_uses
  simp [h0, en, show n ≤ 1000000000 by omega]
  generalize hF : forL [2, 3] _ _ _ _ = F
  obtain ⟨N, rfl, n1, n2, n3⟩ := for_st hF (fun N : List S => [.leaf (.lst (In vs)), .ls (N.map .str), .hole, .hole, .hole, .hole, .hole, .hole]) (fun i N => N.length ≤ i ∧ N.Nodup ∧ ∀ s ∈ N, ∀ x ∈ s, x < 1114112) [] (by simp) (by simp) (by
    rintro i d N hd ⟨n1, n2, n3⟩
    obtain ⟨hi, rfl⟩ := rng_get hd
    obtain ⟨m, hm⟩ := p_atN (vs := vs) (j := 20 + 8 * (i : Int)) (by omega)
    obtain ⟨s, hs, hsc⟩ := name_ok m
    by_cases c : s ∈ N
    · refine ⟨N, ?_, by omega, n2, n3⟩
      simp [hm, hs, cin_strs, c]
    · refine ⟨N ++ [s], ?_, by simp; omega, ?_, fun y hy => (List.mem_append.mp hy).elim (n3 y) fun z => by rw [List.mem_singleton.mp z]; exact hsc⟩
      · simp [hm, hs, cin_strs, c, show N.length < 16000000 by omega]
      · rw [List.nodup_append]
        exact ⟨n2, by simp, fun a ha b hb => by rw [List.mem_singleton.mp hb]; exact fun e => c (e ▸ ha)⟩)
  rw [rng_len] at n1
  simp [show N.length ≤ 16000000 by omega, show N.length ≤ 1000000000 by omega]
  generalize hF : forL _ _ _ _ _ = F
  obtain ⟨U, rfl, u1, u2⟩ := for_st hF (fun U : US => [.leaf (.lst (In vs)), .ls (N.map .str), .hole, .hole, .dK (dU U), .hole, .hole, .hole]) (fun i U => U.map (·.1) = N.take i ∧ ∀ p ∈ U, p.2.length ≤ 20) [] (by simp [dU]) (by simp) (by
    rintro i d U hd ⟨u1, u2⟩
    obtain ⟨hi, rfl⟩ := rng_get hd
    obtain ⟨x0, hx0⟩ : ∃ x, N[i]? = some x := ⟨N[i], List.getElem?_eq_getElem hi⟩
    obtain ⟨c2, h2⟩ := p_atN (vs := vs) (j := 21 + 8 * (i : Int)) (by omega)
    obtain ⟨m, hm, em⟩ : ∃ m : Nat, m < 5 ∧ (c2 : Int) % 5 = m := ⟨c2 % 5, by omega, by omega⟩
    simp [h2, em, show m ≤ 1000000000 by omega]
    generalize hG : forL [6, 7] _ _ _ _ = GG
    obtain ⟨us, rfl, g1⟩ := for_st hG (fun us : List S => [.leaf (.lst (In vs)), .ls (N.map .str), .leaf (.int i), .hole, .dK (dU U), .ls (us.map .str), .hole, .hole]) (fun j us => us.length ≤ j) [] (by simp) (by simp) (by
      intro j d us hd g1
      obtain ⟨hj, rfl⟩ := rng_get hd
      obtain ⟨p, hp⟩ := p_atN (vs := vs) (j := 22 + 8 * (i : Int) + (j : Int)) (by omega)
      have nl : 0 < N.length := by omega
      have get : ∀ z : Nat, z < N.length → ∃ x, N[z]? = some x := fun z h => ⟨N[z], List.getElem?_eq_getElem h⟩
      obtain ⟨a, ha, ea⟩ : ∃ a : Nat, a < N.length ∧ ((i : Int) + (p : Int) % 3) % (N.length : Int) = a := ⟨(((i : Int) + (p : Int) % 3) % (N.length : Int)).toNat, by have := Int.emod_lt_of_pos ((i : Int) + (p : Int) % 3) (show (0 : Int) < N.length by omega); have := Int.emod_nonneg ((i : Int) + (p : Int) % 3) (show (N.length : Int) ≠ 0 by omega); omega, by have := Int.emod_nonneg ((i : Int) + (p : Int) % 3) (show (N.length : Int) ≠ 0 by omega); omega⟩
      obtain ⟨b, hb, eb⟩ : ∃ a : Nat, a < N.length ∧ ((p : Int) / 7) % (N.length : Int) = a := ⟨(((p : Int) / 7) % (N.length : Int)).toNat, by have := Int.emod_lt_of_pos ((p : Int) / 7) (show (0 : Int) < N.length by omega); have := Int.emod_nonneg ((p : Int) / 7) (show (N.length : Int) ≠ 0 by omega); omega, by have := Int.emod_nonneg ((p : Int) / 7) (show (N.length : Int) ≠ 0 by omega); omega⟩
      obtain ⟨q, hq, eq⟩ : ∃ a : Nat, a < 3 ∧ ((p : Int) / 7) % 3 = a := ⟨(((p : Int) / 7) % 3).toNat, by omega, by omega⟩
      obtain ⟨xa, ga⟩ := get a ha
      obtain ⟨xb, gb⟩ := get b hb
      obtain ⟨xq, gq⟩ : ∃ x : S, ([D.str [122, 122, 57], D.str [77, 97, 107, 101, 114], D.str []] : List D)[q]? = some (.str x) := by
        have : q = 0 ∨ q = 1 ∨ q = 2 := by omega
        rcases this with rfl | rfl | rfl <;> exact ⟨_, rfl⟩
      have ul : us.length < 16000000 := by omega
      by_cases t1 : (c1 : Int) % 3 = 0 ∧ ¬ (p : Int) % 5 = 0
      · refine ⟨us ++ [xa], ?_, by simp; omega⟩
        simp [hp, h1, t1.1, t1.2, ea, ga, ul, show N.length ≤ 16000000 by omega, nl]
      · by_cases t2 : (p : Int) % 7 = 6
        · refine ⟨us ++ [xq], ?_, by simp; omega⟩
          by_cases t3 : (c1 : Int) % 3 = 0
          · have t4 : (p : Int) % 5 = 0 := Classical.byContradiction fun z => t1 ⟨t3, z⟩
            simp [hp, h1, t3, t4, t2, eq, gq, ul]
          · simp [hp, h1, t3, t2, eq, gq, ul]
        · refine ⟨us ++ [xb], ?_, by simp; omega⟩
          by_cases t3 : (c1 : Int) % 3 = 0
          · have t4 : (p : Int) % 5 = 0 := Classical.byContradiction fun z => t1 ⟨t3, z⟩
            simp [hp, h1, t3, t4, t2, eb, gb, ul, show N.length ≤ 16000000 by omega, nl]
          · simp [hp, h1, t3, t2, eb, gb, ul, show N.length ≤ 16000000 by omega, nl])
    rw [rng_len] at g1
    have nu : x0 ∉ U.map (·.1) := by
      rw [u1]
      intro hm
      obtain ⟨j, hj, e⟩ := List.mem_take_iff_getElem.mp hm
      have hj2 : j < N.length := by omega
      have hj3 : N[j]? = some x0 := by rw [List.getElem?_eq_getElem hj2, e]
      have := (List.getElem?_inj hj2 n2).mp (hj3.trans hx0.symm)
      omega
    have Ul : U.length = i := by
      have := congrArg List.length u1
      rw [List.length_map, List.length_take] at this
      omega
    refine ⟨U ++ [(x0, us)], ?_, ?_, fun p q hp => ?_⟩
    · simp [hx0, put_dU nu, dU_len, show U.length < 16000000 by omega]
    · rw [List.map_append, u1, List.take_add_one, hx0]; rfl
    · rcases List.mem_append.mp hp with hp | hp
      · exact u2 (p, q) hp
      · cases List.mem_singleton.mp hp; omega)
  rw [rng_len, List.take_length] at u1
  have Ul : U.length = N.length := by rw [← u1, List.length_map]
  exact ⟨U, by simp, ⟨by rw [u1]; exact n2, by omega, u2, by rw [u1]; exact n3⟩⟩
end LAW

set_option Elab.async false
set_option linter.all false
set_option maxRecDepth 100000
set_option maxHeartbeats 4000000
namespace LAW
open P
structure KO (U : US) (KS : List IS) (Rf : S → List S) : Prop where
  ne : ∀ k ∈ KS, k.2 ≠ []
  sd : ∀ k ∈ KS, Sd k.2
  key : ∀ k ∈ KS, ∀ b ∈ k.2, isK U b = true ∧ k.1 = (cnt b (Rf b) : Nat)
  tog : ∀ k ∈ KS, ∀ b ∈ k.2, ∀ o, isK U o = true → (o ∈ k.2 ↔ Tog U b o)
  nd : (KS.flatMap (·.2)).Nodup
  all : ∀ b, isK U b = true → ∃ k ∈ KS, b ∈ k.2
  srt : KS.Pairwise fun k m => leIS k m = true
theorem le_trans' (a b c : IS) (h : leIS a b = true) (k : leIS b c = true) : leIS a c = true := by
  unfold leIS at *
  rw [decide_eq_true_eq] at *
  rcases h with h | h
  · rcases k with k | k
    · exact .inl (by omega)
    · exact .inl (by omega)
  · rcases k with k | k
    · exact .inl (by omega)
    · exact .inr ⟨by omega, List.le_trans h.2 k.2⟩
theorem le_total' (a b : IS) : (leIS a b || leIS b a) = true := by
  unfold leIS
  rw [Bool.or_eq_true, decide_eq_true_eq, decide_eq_true_eq]
  by_cases h : a.1 < b.1
  · exact .inl (.inl h)
  · by_cases h2 : b.1 < a.1
    · exact .inr (.inl h2)
    · rcases List.le_total a.2 b.2 with k | k
      · exact .inl (.inr ⟨by omega, k⟩)
      · exact .inr (.inr ⟨by omega, k⟩)
theorem ko_of {U : US} {N : List S} {rF Rf : S → List S} {Q : List S} (sN : Sd N) (mN : ∀ b, b ∈ N ↔ isK U b = true) (hF : ∀ a, isK U a = true → Cl U a (rF a)) (hR : ∀ a, isK U a = true → Cl U a (Rf a)) (co : CO U N rF Q) :
    KO U ((Q.map (kOf N rF)).mergeSort leIS) Rf := by
  have pm := List.mergeSort_perm (Q.map (kOf N rF)) leIS
  have mem : ∀ k, k ∈ (Q.map (kOf N rF)).mergeSort leIS ↔ ∃ a ∈ Q, kOf N rF a = k := fun k => by rw [pm.mem_iff, List.mem_map]
  have pt := fun {a b : S} (ka : isK U a = true) => prt_mem (b := b) mN hF ka
  refine ⟨fun k hk => ?_, fun k hk => ?_, fun k hk b hb => ?_, fun k hk b hb o ho => ?_, ?_, fun b hb => ?_, ?_⟩
  · obtain ⟨a, ha, rfl⟩ := (mem k).mp hk
    have : a ∈ prt N rF a := (pt (co.k a ha)).mpr ⟨co.k a ha, .inl rfl⟩
    exact List.ne_nil_of_mem this
  · obtain ⟨a, ha, rfl⟩ := (mem k).mp hk
    exact sN.filter _
  · obtain ⟨a, ha, rfl⟩ := (mem k).mp hk
    obtain ⟨h1, h2⟩ := (pt (co.k a ha)).mp hb
    refine ⟨h1, ?_⟩
    show ((cnt a (rF a) : Nat) : Int) = _
    rw [cnt_tog (hF a (co.k a ha)) (hR b h1) h2]
  · obtain ⟨a, ha, rfl⟩ := (mem k).mp hk
    obtain ⟨h1, h2⟩ := (pt (co.k a ha)).mp hb
    show o ∈ prt N rF a ↔ _
    rw [pt (co.k a ha)]
    exact ⟨fun z => h2.symm.trans z.2, fun z => ⟨ho, h2.trans z⟩⟩
  · have : (((Q.map (kOf N rF)).mergeSort leIS).flatMap (·.2)).Perm ((Q.map (kOf N rF)).flatMap (·.2)) := pm.flatMap_right _
    rw [this.nodup_iff, List.flatMap_map]
    exact co.nd
  · obtain ⟨a, ha, h⟩ := co.all b hb
    exact ⟨kOf N rF a, (mem _).mpr ⟨a, ha, rfl⟩, h⟩
  · exact List.pairwise_mergeSort le_trans' le_total' _
/-- what the use of a name of a part is told before -/
theorem KO.use {U : US} {KS A B : List IS} {k : IS} {Rf : S → List S} (K : KO U KS Rf) (hR : ∀ a, isK U a = true → Cl U a (Rf a)) (e : KS = A ++ k :: B) {b o : S} (hb : b ∈ k.2) (ho : o ∈ tg U b) (ko : isK U o = true) : o ∈ (A.flatMap (·.2)) ++ k.2 := by
  have hk : k ∈ KS := by rw [e]; simp
  obtain ⟨kb, cb⟩ := K.key k hk b hb
  by_cases t : Tog U b o
  · exact List.mem_append_right _ ((K.tog k hk b hb o ko).mpr t)
  · obtain ⟨m, hm, om⟩ := K.all o ko
    have lt := cnt_lt (hR b kb) (hR o ko) (.one ho ko) t
    obtain ⟨-, co⟩ := K.key m hm o om
    rw [e] at hm
    rcases List.mem_append.mp hm with z | z
    · exact List.mem_append_left _ (List.mem_flatMap.mpr ⟨m, z, om⟩)
    · rcases List.mem_cons.mp z with rfl | z
      · exact List.mem_append_right _ om
      · have s := K.srt
        rw [e] at s
        have := (List.pairwise_cons.mp (List.pairwise_append.mp s).2.1).1 m z
        unfold leIS at this
        rw [decide_eq_true_eq] at this
        omega
/-- the order of (number, first name) is strict -/
theorem KO.strict {U : US} {KS A B : List IS} {k m : IS} {Rf : S → List S} (K : KO U KS Rf) (e : KS = A ++ m :: k :: B) {x y : S} {xs ys : List S} (hx : m.2 = x :: xs) (hy : k.2 = y :: ys) : m.1 < k.1 ∨ (m.1 = k.1 ∧ x < y) := by
  have s := K.srt
  rw [e] at s
  have h := (List.pairwise_cons.mp (List.pairwise_append.mp s).2.1).1 k (.head _)
  unfold leIS at h
  rw [decide_eq_true_eq] at h
  rcases h with h | h
  · exact .inl h
  · refine .inr ⟨h.1, ?_⟩
    have ne : x ≠ y := fun z => by
      have n := K.nd
      rw [e, List.flatMap_append, List.flatMap_cons, List.flatMap_cons, hx, hy] at n
      have n2 := (List.nodup_append.mp n).2.1
      rw [z] at n2
      simp at n2
    have le := h.2
    rw [hx, hy] at le
    have xy : x ≤ y := List.not_lt.mp fun z => List.not_lt.mpr le (List.cons_lt_cons_iff.mpr (.inl z))
    rcases List.le_iff_lt_or_eq.mp xy with q | q
    · exact q
    · exact absurd q ne
theorem KO.len {U : US} {KS : List IS} {Rf : S → List S} (ub : UB U) (K : KO U KS Rf) : (KS.flatMap (·.2)).length = U.length := by
  refine Nat.le_antisymm (nd_keys ub K.nd fun b hb => ?_) ?_
  · obtain ⟨k, hk, h⟩ := List.mem_flatMap.mp hb
    exact (K.key k hk b h).1
  · have := nd_le (R := U.map (·.1)) (Q := KS.flatMap (·.2)) ub.nd fun b hb => by
      obtain ⟨k, hk, h⟩ := K.all b (isK_mem.mpr hb)
      exact List.mem_flatMap.mpr ⟨k, hk, h⟩
    rwa [List.length_map] at this
end LAW

set_option Elab.async false
set_option linter.all false
set_option maxRecDepth 100000
set_option maxHeartbeats 4000000
namespace LAW
open P
theorem same_eq : p_law_same = lawSame := by funext n; induction n with
  | zero => rfl
  | succ n ih => unfold p_law_same lawSame; rw [ih]; rfl
theorem sm_strs {l : List S} (h : l.length ≤ 1000) : D.sm 4 (.lst (l.map .str)) = true := by
  unfold D.sm
  rw [Bool.and_eq_true]
  refine ⟨by simp; omega, ?_⟩
  rw [List.all_map, List.all_eq_true]; intros; rfl
theorem isdict_ok {U : US} (ub : UB U) : ∃ ws, p_law_is_dict [.leaf (.dK (dU U)), .leaf (.dKl (dU U))] = .ok (.leaf (.bl true)) ws := by
  unfold p_law_is_dict
  simp [dlen_l, dlen_k, isD]
  generalize hF : forL _ _ _ _ _ = F
  have := for_all hF [.leaf (.dK (dU U)), .leaf (.dKl (dU U)), .hole] (by simp) (by
    intro d hd
    obtain ⟨p, hp, rfl⟩ := List.mem_map.mp hd
    obtain ⟨q, hq, rfl⟩ := List.mem_map.mp hp
    have k : isK U q.1 = true := isK_mem.mpr (List.mem_map.mpr ⟨q, hq, rfl⟩)
    have s : p_law_same 4 [.leaf (.lst ((tg U q.1).map .str)), .leaf (.lst ((tg U q.1).map .str))] = .ok (.leaf (.bl true)) [] := by rw [same_eq]; exact lawSame_ok _ _ (sm_strs (by have := tg_len ub q.1; omega))
    simp [dkD, in_dU, k, val_tg k, s, truD])
  subst this
  simp
theorem seq_nx {a b : PS} {e e1 : Env} (h : a e = .nx e1) : sSeq a b e = b e1 := by rw [s_seq, h]
theorem dkD_keys (U : US) : (dU U).map (fun p => dkD p.1) = (U.map (·.1)).map .str := by
  unfold dU; rw [List.map_map, List.map_map]; rfl
theorem getElem_tg {U : US} (nd : (U.map (·.1)).Nodup) {i : Nat} {p : S × List S} (h : U[i]? = some p) : isK U p.1 = true ∧ tg U p.1 = p.2 := by
  have hm := List.mem_of_getElem? h
  have k : isK U p.1 = true := isK_mem.mpr (List.mem_map.mpr ⟨p, hm, rfl⟩)
  refine ⟨k, ?_⟩
  unfold isK at k
  unfold tg
  cases q : lk U p.1 with
  | none => rw [q] at k; cases k
  | some l =>
    have m2 := lk_mem q
    show l = p.2
    clear h q k
    induction U with
    | nil => cases hm
    | cons u U ih =>
      rw [List.map_cons, List.nodup_cons] at nd
      rcases List.mem_cons.mp hm with rfl | hm
      · rcases List.mem_cons.mp m2 with e | m2
        · exact (congrArg Prod.snd e)
        · exact absurd (List.mem_map.mpr ⟨_, m2, rfl⟩) nd.1
      · rcases List.mem_cons.mp m2 with e | m2
        · exact absurd (List.mem_map.mpr ⟨_, hm, by rw [← e]⟩) nd.1
        · exact ih nd.2 hm m2
theorem take_nd {U : US} (nd : (U.map (·.1)).Nodup) {i : Nat} {p : S × List S} (h : U[i]? = some p) : p.1 ∉ (U.take i).map (·.1) := by
  intro hm
  rw [List.map_take] at hm
  obtain ⟨j, hj, e⟩ := List.mem_take_iff_getElem.mp hm
  have hi : i < U.length := (List.getElem?_eq_some_iff.mp h).1
  have hj2 : j < (U.map (·.1)).length := by omega
  have hj3 : (U.map (·.1))[j]? = some p.1 := by rw [List.getElem?_eq_getElem hj2, e]
  have h4 : (U.map (·.1))[i]? = some p.1 := by rw [List.getElem?_map, h]; rfl
  have := (List.getElem?_inj hj2 nd).mp (hj3.trans h4.symm)
  omega
theorem ok_strs : ∀ l : List S, (∀ s ∈ l, ∀ x ∈ s, x < 1114112) → D.oks 49 (l.map .str) = true
  | [], _ => rfl
  | s :: l, h => by
    show (D.ok 49 (.str s) && D.oks 49 (l.map .str)) = true
    rw [ok_strs l fun a ha => h a (.tail _ ha), Bool.and_true]
    show s.all (· < 1114112) = true
    rw [List.all_eq_true]
    intro x hx
    exact decide_eq_true (h s (.head _) x hx)
theorem eq_strs : ∀ l : List S, D.eqs (l.map .str) (l.map .str) = true
  | [] => rfl
  | s :: l => by
    show (D.eq (.str s) (.str s) && D.eqs (l.map .str) (l.map .str)) = true
    rw [eq_strs l, Bool.and_true]
    show (s == s) = true
    exact beq_self_eq_true s
theorem ceq_strs {l : List S} (h : ∀ s ∈ l, ∀ x ∈ s, x < 1114112) : cEq (.lst (l.map .str)) (.lst (l.map .str)) = some true := by
  have o : D.ok 50 (.lst (l.map .str)) = true := ok_strs l h
  have e : D.eq (.lst (l.map .str)) (.lst (l.map .str)) = true := eq_strs l
  unfold cEq
  rw [o, e]
  simp
def lastD (KS : List IS) (s : Nat) : D := if s = 0 then .tup [.int 0, .str []] else match KS[s - 1]? with
  | some k => .tup [.int k.1, .str (k.2.headD [])]
  | none => .non
theorem p_true (ns : List Int) (hn : ns.length ≤ 63) : ∃ ws, p_law [.leaf (.kl (ns.map .int))] = .ok (.leaf (.bl true)) ws := by
  obtain ⟨vs, q0, -⟩ := lawDraws_ok hn
  rw [← draws_eq] at q0
  obtain ⟨U, q1, ub⟩ := uses_ok vs
  obtain ⟨N, rF, Q, q2, sN, nN, mN, hF, co⟩ := components_ok ub
  obtain ⟨Rf, hRf⟩ : ∃ rF : S → List S, ∀ a, isK U a = true → p_law_reach [.leaf (.dKl (dU U)), .leaf (.str a)] = .ok (.ls ((rF a).map .str)) [] ∧ Cl U a (rF a) := by
    classical
    exact ⟨fun a => if h : isK U a = true then Classical.choose (law_reach_ok ub h) else [], fun a h => by
      have := Classical.choose_spec (law_reach_ok ub h)
      simp only [dif_pos h]
      exact this⟩
  have K := ko_of (Rf := Rf) sN mN hF (fun a h => (hRf a h).2) co
  generalize (Q.map (kOf N rF)).mergeSort leIS = KS at *
  obtain ⟨ws, q3⟩ := isdict_ok ub
  have un := ub.n
  let W : US := U.map fun p => (p.1, Rf p.1)
  have eW : W = U.map fun p => (p.1, Rf p.1) := rfl
  unfold p_law
  simp only [f_fn, List.length_cons, List.length_nil, Nat.reduceAdd, Nat.reduceLeDiff, if_true, Nat.le_refl, Nat.reduceSub, List.replicate, List.cons_append, List.nil_append]
  rw [seq_nx (e1 := [.leaf (.kl (ns.map .int)), .leaf (.lst (In vs)), .hole, .hole, .hole, .hole, .hole, .hole, .hole, .hole, .hole, .hole, .hole]) (by simp [q0])]
  rw [seq_nx (e1 := [.leaf (.kl (ns.map .int)), .leaf (.lst (In vs)), .dK (dU U), .hole, .hole, .hole, .hole, .hole, .hole, .hole, .hole, .hole, .hole]) (by simp [q1])]
  rw [seq_nx (e1 := [.leaf (.kl (ns.map .int)), .leaf (.lst (In vs)), .dK (dU U), .dK [], .hole, .hole, .hole, .hole, .hole, .hole, .hole, .hole, .hole]) (by simp)]
  rw [seq_nx (e1 := [.leaf (.kl (ns.map .int)), .leaf (.lst (In vs)), .leaf (.dKl (dU U)), .dK (dU U), .hole, .hole, .hole, .hole, .hole, .hole, .hole, .hole, .hole]) (by
    simp [-List.map_map, dkD_keys]
    generalize hL : forL _ _ _ _ _ = F
    obtain ⟨V, rfl, v1⟩ := for_st hL (fun V : US => [.leaf (.kl (ns.map .int)), .leaf (.lst (In vs)), .leaf (.dKl (dU U)), .dK (dU V), .hole, .hole, .hole, .hole, .hole, .hole, .hole, .hole, .hole]) (fun i V => V = U.take i) [] (by simp [dU]) (by simp) (by
      rintro i d V hd rfl
      rw [List.map_map, List.getElem?_map] at hd
      cases hg : U[i]? with
      | none => rw [hg] at hd; cases hd
      | some p =>
      rw [hg] at hd
      cases hd
      obtain ⟨k1, k2⟩ := getElem_tg ub.nd hg
      have tl := tg_len ub p.1
      refine ⟨U.take i ++ [(p.1, p.2)], ?_, by rw [List.take_add_one, hg]; rfl⟩
      have pu := put_dU (l := p.2) (take_nd ub.nd hg)
      have vt := val_tg k1
      rw [k2] at vt tl
      simp [vt, show p.2.length ≤ 16000000 by omega, pu, dU_len, show (U.take i).length < 16000000 by rw [List.length_take]; omega, show min i U.length < 16000000 by omega]
      )
    rw [List.length_map, List.length_map, List.take_length] at v1
    rw [v1])]
  rw [seq_nx (e1 := [.leaf (.kl (ns.map .int)), .leaf (.lst (In vs)), .leaf (.dKl (dU U)), .dK (dU U), .hole, .dK [], .hole, .hole, .hole, .hole, .hole, .hole, .hole]) (by simp)]
  have wk : W.map (·.1) = U.map (·.1) := by rw [eW, List.map_map]; rfl
  rw [seq_nx (e1 := [.leaf (.kl (ns.map .int)), .leaf (.lst (In vs)), .leaf (.dKl (dU U)), .dK (dU U), .hole, .dK (dU W), .hole, .hole, .hole, .hole, .hole, .hole, .hole]) (by
    simp [-List.map_map, dkD_keys]
    generalize hL : forL _ _ _ _ _ = F
    obtain ⟨V, rfl, v1⟩ := for_st hL (fun V : US => [.leaf (.kl (ns.map .int)), .leaf (.lst (In vs)), .leaf (.dKl (dU U)), .dK (dU U), .hole, .dK (dU V), .hole, .hole, .hole, .hole, .hole, .hole, .hole]) (fun i V => V = W.take i) [] (by simp [dU]) (by simp) (by
      rintro i d V hd rfl
      rw [List.map_map, List.getElem?_map] at hd
      cases hg : U[i]? with
      | none => rw [hg] at hd; cases hd
      | some p =>
      rw [hg] at hd
      cases hd
      obtain ⟨k1, k2⟩ := getElem_tg ub.nd hg
      have hw : W[i]? = some (p.1, Rf p.1) := by rw [eW, List.getElem?_map, hg]; rfl
      refine ⟨W.take i ++ [(p.1, Rf p.1)], ?_, by rw [List.take_add_one, hw]; rfl⟩
      have pu := put_dU (l := Rf p.1) (take_nd (wk ▸ ub.nd) hw)
      simp only at pu
      have r1 := (hRf p.1 k1).1
      have wl : (W.take i).length ≤ 20 := by rw [List.length_take, eW, List.length_map]; omega
      generalize W.take i = X at *
      simp [r1, pu, dU_len, show X.length < 16000000 by omega])
    rw [List.length_map, List.length_map, ← List.length_map (f := fun p : S × List S => (p.1, Rf p.1)) (as := U), ← eW, List.take_length] at v1
    rw [v1])]
  rw [seq_nx (e1 := [.leaf (.kl (ns.map .int)), .leaf (.lst (In vs)), .leaf (.dKl (dU U)), .leaf (.dK (dU U)), .hole, .dK (dU W), .leaf (.lst (KS.map fun k => .lst (k.2.map .str))), .hole, .hole, .hole, .hole, .hole, .hole]) (by simp [q2])]
  rw [seq_nx (e1 := [.leaf (.kl (ns.map .int)), .leaf (.lst (In vs)), .leaf (.dKl (dU U)), .leaf (.dK (dU U)), .hole, .dK (dU W), .leaf (.lst (KS.map fun k => .lst (k.2.map .str))), .hole, .hole, .hole, .hole, .hole, .hole]) (by simp [q3, isD, truD])]
  rw [seq_nx (e1 := [.leaf (.kl (ns.map .int)), .leaf (.lst (In vs)), .leaf (.dKl (dU U)), .leaf (.dK (dU U)), .hole, .dK (dU W), .leaf (.lst (KS.map fun k => .lst (k.2.map .str))), .ls [], .hole, .hole, .hole, .hole, .hole]) (by simp)]
  rw [seq_nx (e1 := [.leaf (.kl (ns.map .int)), .leaf (.lst (In vs)), .leaf (.dKl (dU U)), .leaf (.dK (dU U)), .hole, .dK (dU W), .leaf (.lst (KS.map fun k => .lst (k.2.map .str))), .ls [], .leaf (.tup [.int 0, .str []]), .hole, .hole, .hole, .hole]) (by simp)]
  have kl := K.len ub
  rw [seq_nx (e1 := [.leaf (.kl (ns.map .int)), .leaf (.lst (In vs)), .leaf (.dKl (dU U)), .leaf (.dK (dU U)), .hole, .dK (dU W), .leaf (.lst (KS.map fun k => .lst (k.2.map .str))), .ls ((KS.flatMap (·.2)).map .str), .leaf (lastD KS KS.length), .hole, .hole, .hole, .hole]) (by
    have vW : ∀ b, isK U b = true → valK (dU W) (.inr b) = some (.lst ((Rf b).map .str)) := fun b hb => by
      obtain ⟨p, hp, rfl⟩ := List.mem_map.mp (isK_mem.mp hb)
      obtain ⟨i, hi⟩ := List.getElem?_of_mem hp
      have hw : W[i]? = some (p.1, Rf p.1) := by rw [eW, List.getElem?_map, hi]; rfl
      obtain ⟨k1, k2⟩ := getElem_tg (wk ▸ ub.nd) hw
      simp only at k1 k2
      rw [val_tg k1, k2]
    have rl : ∀ b, isK U b = true → (Rf b).length ≤ 20 := fun b hb => by
      have := nd_keys ub (hRf b hb).2.nd fun c hc => (((hRf b hb).2.iff c).mp hc).key
      omega
    simp [-List.map_map]
    generalize hL : forL _ _ _ _ _ = F
    obtain ⟨s, rfl, hs⟩ := for_st hL (fun s : Nat => [.leaf (.kl (ns.map .int)), .leaf (.lst (In vs)), .leaf (.dKl (dU U)), .leaf (.dK (dU U)), .hole, .dK (dU W), .leaf (.lst (KS.map fun k => .lst (k.2.map .str))), .ls (((KS.take s).flatMap (·.2)).map .str), .leaf (lastD KS s), .hole, .hole, .hole, .hole]) (fun i s => s = i) 0 (by simp [lastD]) rfl (by
      rintro _ d s hd rfl
      rw [List.getElem?_map] at hd
      cases hg : KS[s]? with
      | none => rw [hg] at hd; cases hd
      | some k =>
      rw [hg] at hd
      cases hd
      have hk := List.mem_of_getElem? hg
      have hsl : s < KS.length := (List.getElem?_eq_some_iff.mp hg).1
      have hsp : KS = KS.take s ++ k :: KS.drop (s + 1) := by
        have : KS[s] = k := (List.getElem?_eq_some_iff.mp hg).2
        rw [← this, List.getElem_cons_drop, List.take_append_drop]
      refine ⟨s + 1, ?_, rfl⟩
      have tk : (KS.take (s + 1)).flatMap (·.2) = (KS.take s).flatMap (·.2) ++ k.2 := by
        rw [List.take_add_one, hg, List.flatMap_append]; simp
      have hnd : ((KS.take s).flatMap (·.2) ++ k.2).Nodup := by
        have := K.nd
        rw [hsp, List.flatMap_append, List.flatMap_cons, ← List.append_assoc] at this
        exact (List.nodup_append.mp this).1
      have hlen : ((KS.take s).flatMap (·.2) ++ k.2).length ≤ U.length := nd_keys ub hnd fun b hb => by
        rcases List.mem_append.mp hb with z | z
        · obtain ⟨m, hm, h⟩ := List.mem_flatMap.mp z
          exact (K.key m (List.mem_of_mem_take hm) b h).1
        · exact (K.key k hk b z).1
      obtain ⟨h, t, hkt⟩ : ∃ h t, k.2 = h :: t := by
        cases q : k.2 with
        | nil => exact absurd q (K.ne k hk)
        | cons h t => exact ⟨h, t, rfl⟩
      have lD : lastD KS (s + 1) = .tup [.int k.1, .str h] := by
        unfold lastD
        rw [if_neg (by omega), Nat.add_sub_cancel, hg]
        simp [hkt]
      obtain ⟨kh, ch⟩ := K.key k hk h (by rw [hkt]; exact .head _)
      have hle : ∃ a b, lastD KS s = .tup [.int a, .str b] ∧ ¬ (k.1 < a ∨ (k.1 = a ∧ h ≤ b)) := by
        unfold lastD
        by_cases z : s = 0
        · refine ⟨0, [], by rw [if_pos z], ?_⟩
          have : 0 < cnt h (Rf h) := by
            unfold cnt
            split
            · rename_i c; exact List.length_pos_of_mem c
            · omega
          omega
        · have hlt : s - 1 < KS.length := by omega
          have hm : KS[s - 1]? = some KS[s - 1] := List.getElem?_eq_getElem hlt
          have hmm := List.getElem_mem hlt
          obtain ⟨x, xs, hx⟩ : ∃ h t, KS[s - 1].2 = h :: t := by
            cases q : KS[s - 1].2 with
            | nil => exact absurd q (K.ne _ hmm)
            | cons h t => exact ⟨h, t, rfl⟩
          refine ⟨KS[s - 1].1, x, by rw [if_neg z, hm]; simp [hx], ?_⟩
          have e3 : KS = KS.take (s - 1) ++ KS[s - 1] :: k :: KS.drop (s + 1) := by
            have : KS[s] = k := (List.getElem?_eq_some_iff.mp hg).2
            rw [← this]
            conv => lhs; rw [← List.take_append_drop (s - 1) KS]
            congr 1
            rw [List.drop_eq_getElem_cons hlt, show s - 1 + 1 = s by omega, List.drop_eq_getElem_cons hsl]
          rcases K.strict e3 hx hkt with c | c
          · omega
          · rintro (e | e)
            · omega
            · exact List.not_lt.mpr e.2 c.2
      rw [tk, lD]
      have huse := fun {b o : S} => K.use (b := b) (o := o) (fun a h => (hRf a h).2) hsp
      generalize (KS.take s).flatMap (·.2) = L at *
      obtain ⟨la, lb, hla, hlc⟩ := hle
      rw [hla]
      have P0 := K.key k hk
      have P1 := K.tog k hk
      have P2 := sortS_id (K.sd k hk)
      obtain ⟨k1, P⟩ := k
      simp only at *
      have zl : L.length + P.length ≤ 20 := by rw [List.length_append] at hlen; omega
      have pne : ¬ P.length = 0 := by rw [hkt]; simp
      simp [-List.map_map, isD, show P.length ≤ 16000000 by omega, pne]
      generalize hI : forL [4, 11, 12] _ _ _ _ = F1
      obtain ⟨j, rfl, hj⟩ := for_st hI (fun j : Nat => [.leaf (.kl (ns.map .int)), .leaf (.lst (In vs)), .leaf (.dKl (dU U)), .leaf (.dK (dU U)), .hole, .dK (dU W), .leaf (.lst (KS.map fun k => .lst (k.2.map .str))), .ls ((L ++ P.take j).map .str), .leaf (.tup [.int la, .str lb]), .leaf (.lst (P.map .str)), .hole, .hole, .hole]) (fun i j => j = i) 0 (by simp) rfl (by
        rintro _ d j hd rfl
        rw [List.getElem?_map] at hd
        cases hg2 : P[j]? with
        | none => rw [hg2] at hd; cases hd
        | some b =>
        rw [hg2] at hd
        cases hd
        have hbP := List.mem_of_getElem? hg2
        have hjl : j < P.length := (List.getElem?_eq_some_iff.mp hg2).1
        obtain ⟨kb, -⟩ := P0 b hbP
        have hbn : b ∉ L ++ P.take j := by
          intro hm
          rcases List.mem_append.mp hm with z | z
          · exact (List.nodup_append.mp hnd).2.2 b z b hbP rfl
          · obtain ⟨i, hi, e⟩ := List.mem_take_iff_getElem.mp z
            have hi2 : i < P.length := by omega
            have := (List.getElem?_inj hi2 (List.nodup_append.mp hnd).2.1).mp ((show P[i]? = some b by rw [List.getElem?_eq_getElem hi2, e]).trans hg2.symm)
            omega
        refine ⟨j + 1, ?_, rfl⟩
        have tj : L ++ P.take (j + 1) = (L ++ P.take j) ++ [b] := by rw [List.take_add_one, hg2, List.append_assoc]; rfl
        rw [tj]
        have lz : (L ++ P.take j).length ≤ 20 := by rw [List.length_append, List.length_take]; omega
        generalize L ++ P.take j = M at *
        simp [-List.map_map, isD, in_dU, kb, cin_strs, hbn, show M.length < 16000000 by omega, dkD_keys]
        generalize hJ : forL [11, 12] _ _ _ _ = F2
        have := for_all hJ [.leaf (.kl (ns.map .int)), .leaf (.lst (In vs)), .leaf (.dKl (dU U)), .leaf (.dK (dU U)), .leaf (.str b), .dK (dU W), .leaf (.lst (KS.map fun k => .lst (k.2.map .str))), .ls (M.map D.str ++ [D.str b]), .leaf (.tup [.int la, .str lb]), .leaf (.lst (P.map .str)), .hole, .hole, .hole] (by simp) (by
          intro d hd
          obtain ⟨o, ho, rfl⟩ := List.mem_map.mp hd
          have ko := isK_mem.mpr ho
          have tp := P1 b hbP o ko
          have t1 := (hRf b kb).2.iff o
          have t2 := (hRf o ko).2.iff b
          by_cases c1 : o = b
          · subst c1
            simp [cin_strs, hbP]
          · by_cases c2 : o ∈ Rf b
            · by_cases c3 : b ∈ Rf o
              · have : o ∈ P := tp.mpr (.inr ⟨t1.mp c2, t2.mp c3⟩)
                simp [cin_strs, c1, c2, c3, this, vW b kb, vW o ko]
              · have : o ∉ P := fun z => (tp.mp z).elim (fun e => c1 e) fun e => c3 (t2.mpr e.2)
                simp [cin_strs, c1, c2, c3, this, vW b kb, vW o ko]
            · have : o ∉ P := fun z => (tp.mp z).elim (fun e => c1 e) fun e => c2 (t1.mpr e.1)
              simp [cin_strs, c1, c2, this, vW b kb])
        subst this
        simp)
      rw [List.length_map] at hj
      subst hj
      rw [List.take_length] at hI ⊢
      subst hkt
      have vh := vW h kh
      have rh := rl h kh
      have gs : gSortS [.lst (D.str h :: t.map D.str)] = some (.ls (D.str h :: t.map D.str)) := by
        have := w_srt (ss := h :: t) (by simp only [List.length_cons] at zl ⊢; omega)
        rw [P2] at this
        rw [w_sortS, show D.str h :: t.map D.str = (h :: t).map D.str from rfl, w_strs]
        exact this
      have gn : cEq (.lst (D.str h :: t.map D.str)) (.lst (D.str h :: t.map D.str)) = some true := ceq_strs (l := h :: t) fun b hb => ub.c b (isK_mem.mp (P0 b hb).1)
      have gc : cLeP (.tup [.int k1, .str h]) (.tup [.int la, .str lb]) = some false := by rw [h_leP, decide_eq_false hlc]
      have cn : ((Rf h).length : Int) + (if h ∈ Rf h then 0 else 1) = k1 := by
        rw [ch]; unfold cnt; split <;> simp
      have gi : gInt [.bl (!decide (h ∈ Rf h))] = some (.int (if h ∈ Rf h then 0 else 1)) := by by_cases z : h ∈ Rf h <;> simp [z]
      simp [-w_sortS, -h_leP, vh, show (Rf h).length ≤ 16000000 by omega, cin_strs, gs, gn, cn, gc]
      have el : L.map D.str ++ D.str h :: t.map D.str = (L ++ h :: t).map D.str := by simp
      rw [el]
      generalize hM : L ++ h :: t = M at *
      generalize hU : forL [4, 11] _ _ _ _ = F3
      have := for_all hU [.leaf (.kl (ns.map .int)), .leaf (.lst (In vs)), .leaf (.dKl (dU U)), .leaf (.dK (dU U)), .hole, .dK (dU W), .leaf (.lst (KS.map fun k => .lst (k.2.map .str))), .ls (M.map .str), .leaf (.tup [.int k1, .str h]), .leaf (.lst (D.str h :: t.map D.str)), .leaf (.int k1), .hole, .hole] (by simp) (by
        intro d hd
        obtain ⟨b, hb, rfl⟩ := List.mem_map.mp (show d ∈ (h :: t).map D.str from hd)
        have kb := (P0 b hb).1
        have tl := tg_len ub b
        have lc : lcR (.one 11) (tAnd (tCmp cDIn (pVar 11) (pVw 2)) (tCmp cNin (pVar 11) (pVw 7))) (pVar 11) [11] ((tg U b).map .str) [.leaf (.kl (ns.map .int)), .leaf (.lst (In vs)), .leaf (.dKl (dU U)), .leaf (.dK (dU U)), .leaf (.str b), .dK (dU W), .leaf (.lst (KS.map fun k => .lst (k.2.map .str))), .ls (M.map .str), .leaf (.tup [.int k1, .str h]), .leaf (.lst (D.str h :: t.map D.str)), .leaf (.int k1), .hole, .hole] =
            .ok [] [.leaf (.kl (ns.map .int)), .leaf (.lst (In vs)), .leaf (.dKl (dU U)), .leaf (.dK (dU U)), .leaf (.str b), .dK (dU W), .leaf (.lst (KS.map fun k => .lst (k.2.map .str))), .ls (M.map .str), .leaf (.tup [.int k1, .str h]), .leaf (.lst (D.str h :: t.map D.str)), .leaf (.int k1), .hole, .hole] := by
          generalize hLC : lcR _ _ _ _ _ _ = LL
          have := lc_fi hLC [.leaf (.kl (ns.map .int)), .leaf (.lst (In vs)), .leaf (.dKl (dU U)), .leaf (.dK (dU U)), .leaf (.str b), .dK (dU W), .leaf (.lst (KS.map fun k => .lst (k.2.map .str))), .ls (M.map .str), .leaf (.tup [.int k1, .str h]), .leaf (.lst (D.str h :: t.map D.str)), .leaf (.int k1), .hole, .hole] (fun _ => none) (by simp) (by simp; omega) (by
            intro d hd
            obtain ⟨o, ho, rfl⟩ := List.mem_map.mp hd
            by_cases ko : isK U o = true
            · have := huse hb ho ko
              simp [in_dU, ko, cin_strs, this]
            · simp [in_dU, ko])
          rw [this]
          simp
        simp [val_tg kb, lc])
      subst this
      simp)
    rw [List.length_map] at hs
    subst hs
    rw [List.take_length])]
  refine ⟨[], ?_⟩
  simp [-List.length_flatMap, dlen_l, kl, show (U.length : Int) ≤ 16000000 by omega, show U.length ≤ 16000000 by omega]
end LAW

set_option Elab.async false
set_option linter.all false
set_option maxRecDepth 100000
set_option maxHeartbeats 4000000
namespace LAW
open P
theorem sim_law_mix (cc : Nat → Nat) : SimF cc [] m_law_mix p_law_mix := by
  unfold m_law_mix p_law_mix
  exact simF_fn (ss_seq (ss_asg (q := true) (i := 2) (sim_lf (sim_bin op_mod (Sim.rx (sim_cb op_int1 (sim_one (Sim.rx (sim_fz (Sim.qu (sim_add' op_add (Sim.rx (sim_fz (Sim.qu (sim_add' op_add (Sim.rx (sim_bin op_mul (Sim.rx (sim_cb op_int1 (sim_one (Sim.rx (sim_var (i := 0)))))) (Sim.rx (sim_c fun _ _ => .int _)) (Or.inl rfl))) (Sim.rx (sim_bin op_mul (Sim.rx (sim_var (i := 1))) (Sim.rx (sim_c fun _ _ => .int _)) (Or.inl rfl))) (Or.inr rfl))))) (Sim.rx (sim_c fun _ _ => .int _)) (Or.inr rfl)))))))) (Sim.rx (sim_c fun _ _ => .int _)) (Or.inl rfl))))
    (ss_seq (ss_asg (q := true) (i := 2) (sim_lf (sim_bin op_mod (Sim.rx (sim_cb op_int1 (sim_one (Sim.rx (sim_fz (Sim.qu (sim_add' op_add (Sim.rx (sim_fz (Sim.qu (sim_add' op_add (Sim.rx (sim_bin op_mul (Sim.rx (sim_var (i := 2))) (Sim.rx (sim_var (i := 2))) (Or.inl rfl))) (Sim.rx (sim_bin op_mul (Sim.rx (sim_var (i := 1))) (Sim.rx (sim_c fun _ _ => .int _)) (Or.inl rfl))) (Or.inr rfl))))) (Sim.rx (sim_c fun _ _ => .int _)) (Or.inr rfl)))))))) (Sim.rx (sim_c fun _ _ => .int _)) (Or.inl rfl))))
    (ss_ret (q := true) (sim_lf (sim_bin op_mod (Sim.rx (sim_bin op_div (Sim.rx (sim_var (i := 2))) (Sim.rx (sim_c fun _ _ => .int _)) (Or.inl rfl))) (Sim.rx (sim_c fun _ _ => .int _)) (Or.inl rfl))))))
theorem sim_law_draws (cc : Nat → Nat) : SimF cc [] m_law_draws p_law_draws := by
  unfold m_law_draws p_law_draws
  exact simF_fn (ss_seq (ss_asg (q := true) (i := 1) (sim_lst sim_dnil))
    (ss_seq (ss_for (q := true) (c := (.one 2)) (sim_r1 (sim_dcons (sim_cb op_min (sim_ra (sim_dcons (sim_c fun _ _ => .int _) (sim_dcons (sim_cb op_len (sim_one (Sim.rx (sim_var (i := 0))))) sim_dnil)))) sim_dnil)) (ss_seq (ss_asg (q := true) (i := 3) (sim_lf (sim_cb op_int1 (sim_one (Sim.rx (Sim.qu (sim_bin op_ix (Sim.rx (sim_var (i := 0))) (Sim.rx (sim_var (i := 2))) (Or.inr rfl))))))))
    (ss_if (q := true) (Sim.qu (sim_cmp cmp_lt (Sim.rx (sim_var (i := 3))) (Sim.rx (sim_bin op_pow (Sim.rx (sim_c fun _ _ => .int _)) (Sim.rx (sim_c fun _ _ => .int _)) (Or.inl rfl))) (Or.inr rfl))) (ss_drop (q := false) (sim_lf (sim_upd (q := true) upd_app (simP_var (i := 1)) (sim_ra (sim_dcons (sim_fz (sim_call (sim_law_mix cc) (sim_dcons (sim_var (i := 3)) (sim_dcons (sim_var (i := 2)) sim_dnil)))) sim_dnil)) (by first | exact Or.inl rfl | exact Or.inr rfl)))) (ss_for (q := true) (c := (.one 4)) (sim_r1 (sim_dcons (sim_c fun _ _ => .int _) sim_dnil)) (ss_if (q := true) (Sim.qu (sim_cmp cmp_gt (Sim.rx (sim_var (i := 3))) (Sim.rx (sim_c fun _ _ => .int _)) (Or.inr rfl))) (ss_seq (ss_drop (q := false) (sim_lf (sim_upd (q := true) upd_app (simP_var (i := 1)) (sim_ra (sim_dcons (sim_bin op_mod (Sim.rx (sim_cb op_int1 (sim_one (Sim.rx (sim_var (i := 3)))))) (Sim.rx (sim_c fun _ _ => .int _)) (Or.inl rfl)) sim_dnil)) (by first | exact Or.inl rfl | exact Or.inr rfl))))
    (ss_asg (q := true) (i := 3) (sim_lf (sim_bin op_div (Sim.rx (sim_var (i := 3))) (Sim.rx (sim_c fun _ _ => .int _)) (Or.inl rfl))))) ss_nx)))))
    (ss_ret (q := true) (sim_mv (i := 1)))))
theorem sim_law_name (cc : Nat → Nat) : SimF cc [] m_law_name p_law_name := by
  unfold m_law_name p_law_name
  exact simF_fn (ss_seq (ss_asg (q := true) (i := 1) (sim_lf (sim_c fun _ _ => .str _)))
    (ss_seq (ss_asg (q := true) (i := 2) (sim_lf (Sim.qu (sim_bin op_ix (Sim.rx (sim_var (i := 1))) (Sim.rx (sim_bin op_mod (Sim.rx (sim_var (i := 0))) (Sim.rx (sim_c fun _ _ => .int _)) (Or.inl rfl))) (Or.inr rfl)))))
    (ss_seq (ss_for (q := true) (c := (.one 3)) (sim_r1 (sim_dcons (sim_bin op_mod (Sim.rx (sim_bin op_div (Sim.rx (sim_var (i := 0))) (Sim.rx (sim_c fun _ _ => .int _)) (Or.inl rfl))) (Sim.rx (sim_c fun _ _ => .int _)) (Or.inl rfl)) sim_dnil)) (ss_asg (q := true) (i := 2) (sim_lf (sim_fz (Sim.qu (sim_add' op_add (Sim.rx (sim_var (i := 2))) (Sim.rx (Sim.qu (sim_bin op_ix (Sim.rx (sim_var (i := 1))) (Sim.rx (sim_bin op_mod (Sim.rx (sim_bin op_div (Sim.rx (sim_bin op_div (Sim.rx (sim_var (i := 0))) (Sim.rx (sim_c fun _ _ => .int _)) (Or.inl rfl))) (Sim.rx (sim_fz (Sim.qu (sim_add' op_add (Sim.rx (sim_c fun _ _ => .int _)) (Sim.rx (sim_bin op_mul (Sim.rx (sim_c fun _ _ => .int _)) (Sim.rx (sim_var (i := 3))) (Or.inl rfl))) (Or.inr rfl))))) (Or.inl rfl))) (Sim.rx (sim_c fun _ _ => .int _)) (Or.inl rfl))) (Or.inr rfl)))) (Or.inr rfl)))))))
    (ss_ret (q := true) (sim_lf (sim_var (i := 2)))))))
theorem sim_law_at (cc : Nat → Nat) : SimF cc [] m_law_at p_law_at := by
  unfold m_law_at p_law_at
  exact simF_fn (ss_seq (ss_if (q := true) (Sim.qu (sim_cmp cmp_lt (Sim.rx (sim_var (i := 1))) (Sim.rx (sim_cb op_len (sim_one (Sim.rx (sim_var (i := 0)))))) (Or.inr rfl))) (ss_ret (q := true) (sim_lf (Sim.qu (sim_bin op_ix (Sim.rx (sim_var (i := 0))) (Sim.rx (sim_var (i := 1))) (Or.inr rfl))))) ss_nx)
    (ss_seq (ss_if (q := true) (Sim.qu (sim_cmp cmp_eq (Sim.rx (sim_cb op_len (sim_one (Sim.rx (sim_var (i := 0)))))) (Sim.rx (sim_c fun _ _ => .int _)) (Or.inr rfl))) (ss_ret (q := true) (sim_call (sim_law_mix cc) (sim_dcons (sim_var (i := 1)) (sim_dcons (sim_c fun _ _ => .int _) sim_dnil)))) ss_nx)
    (ss_ret (q := true) (sim_call (sim_law_mix cc) (sim_dcons (sim_fz (Sim.qu (sim_add' op_add (Sim.rx (Sim.qu (sim_bin op_ix (Sim.rx (sim_var (i := 0))) (Sim.rx (sim_bin op_mod (Sim.rx (sim_cb op_int1 (sim_one (Sim.rx (sim_var (i := 1)))))) (Sim.rx (sim_cb op_len (sim_one (Sim.rx (sim_var (i := 0)))))) (Or.inl rfl))) (Or.inr rfl)))) (Sim.rx (sim_bin op_mul (Sim.rx (sim_var (i := 1))) (Sim.rx (sim_c fun _ _ => .int _)) (Or.inl rfl))) (Or.inr rfl)))) (sim_dcons (sim_var (i := 1)) sim_dnil))))))
theorem sim_law_uses (cc : Nat → Nat) : SimF cc [] m_law_uses p_law_uses := by
  unfold m_law_uses p_law_uses
  exact simF_fn (ss_seq (ss_asg (q := true) (i := 1) (sim_lst sim_dnil))
    (ss_seq (ss_for (q := true) (c := (.one 2)) (sim_r1 (sim_dcons (sim_bin op_mod (Sim.rx (sim_fz (sim_call (sim_law_at cc) (sim_dcons (sim_var (i := 0)) (sim_dcons (sim_c fun _ _ => .int _) sim_dnil))))) (Sim.rx (sim_c fun _ _ => .int _)) (Or.inl rfl)) sim_dnil)) (ss_seq (ss_asg (q := true) (i := 3) (sim_lf (sim_fz (sim_call (sim_law_name cc) (sim_dcons (sim_fz (sim_call (sim_law_at cc) (sim_dcons (sim_var (i := 0)) (sim_dcons (sim_fz (Sim.qu (sim_add' op_add (Sim.rx (sim_c fun _ _ => .int _)) (Sim.rx (sim_bin op_mul (Sim.rx (sim_c fun _ _ => .int _)) (Sim.rx (sim_var (i := 2))) (Or.inl rfl))) (Or.inr rfl)))) sim_dnil)))) sim_dnil)))))
    (ss_if (q := true) (Sim.qu (sim_cmp cmp_nin (Sim.rx (sim_var (i := 3))) (sim_vw (i := 1)) (Or.inr rfl))) (ss_drop (q := false) (sim_lf (sim_upd (q := true) upd_app (simP_var (i := 1)) (sim_ra (sim_dcons (sim_var (i := 3)) sim_dnil)) (by first | exact Or.inl rfl | exact Or.inr rfl)))) ss_nx)))
    (ss_seq (ss_asg (q := true) (i := 4) sim_dnew)
    (ss_seq (ss_for (q := true) (c := (.one 2)) (sim_r1 (sim_dcons (sim_cb op_len (sim_one (sim_vw (i := 1)))) sim_dnil)) (ss_seq (ss_asg (q := true) (i := 5) (sim_lst sim_dnil))
    (ss_seq (ss_for (q := true) (c := (.one 6)) (sim_r1 (sim_dcons (sim_bin op_mod (Sim.rx (sim_fz (sim_call (sim_law_at cc) (sim_dcons (sim_var (i := 0)) (sim_dcons (sim_fz (Sim.qu (sim_add' op_add (Sim.rx (sim_c fun _ _ => .int _)) (Sim.rx (sim_bin op_mul (Sim.rx (sim_c fun _ _ => .int _)) (Sim.rx (sim_var (i := 2))) (Or.inl rfl))) (Or.inr rfl)))) sim_dnil))))) (Sim.rx (sim_c fun _ _ => .int _)) (Or.inl rfl)) sim_dnil)) (ss_seq (ss_asg (q := true) (i := 7) (sim_lf (sim_fz (sim_call (sim_law_at cc) (sim_dcons (sim_var (i := 0)) (sim_dcons (sim_fz (Sim.qu (sim_add' op_add (Sim.rx (sim_fz (Sim.qu (sim_add' op_add (Sim.rx (sim_c fun _ _ => .int _)) (Sim.rx (sim_bin op_mul (Sim.rx (sim_c fun _ _ => .int _)) (Sim.rx (sim_var (i := 2))) (Or.inl rfl))) (Or.inr rfl))))) (Sim.rx (sim_var (i := 6))) (Or.inr rfl)))) sim_dnil))))))
    (ss_if (q := true) (sim_tand (Sim.qu (sim_cmp cmp_eq (Sim.rx (sim_bin op_mod (Sim.rx (sim_fz (sim_call (sim_law_at cc) (sim_dcons (sim_var (i := 0)) (sim_dcons (sim_c fun _ _ => .int _) sim_dnil))))) (Sim.rx (sim_c fun _ _ => .int _)) (Or.inl rfl))) (Sim.rx (sim_c fun _ _ => .int _)) (Or.inr rfl))) (Sim.qu (sim_cmp cmp_ne (Sim.rx (sim_bin op_mod (Sim.rx (sim_var (i := 7))) (Sim.rx (sim_c fun _ _ => .int _)) (Or.inl rfl))) (Sim.rx (sim_c fun _ _ => .int _)) (Or.inr rfl)))) (ss_drop (q := false) (sim_lf (sim_upd (q := true) upd_app (simP_var (i := 5)) (sim_ra (sim_dcons (Sim.qu (sim_bin op_ix (sim_vw (i := 1)) (Sim.rx (sim_bin op_mod (Sim.rx (sim_fz (Sim.qu (sim_add' op_add (Sim.rx (sim_var (i := 2))) (Sim.rx (sim_bin op_mod (Sim.rx (sim_var (i := 7))) (Sim.rx (sim_c fun _ _ => .int _)) (Or.inl rfl))) (Or.inr rfl))))) (Sim.rx (sim_cb op_len (sim_one (sim_vw (i := 1))))) (Or.inl rfl))) (Or.inr rfl))) sim_dnil)) (by first | exact Or.inl rfl | exact Or.inr rfl)))) (ss_if (q := true) (Sim.qu (sim_cmp cmp_eq (Sim.rx (sim_bin op_mod (Sim.rx (sim_var (i := 7))) (Sim.rx (sim_c fun _ _ => .int _)) (Or.inl rfl))) (Sim.rx (sim_c fun _ _ => .int _)) (Or.inr rfl))) (ss_drop (q := false) (sim_lf (sim_upd (q := true) upd_app (simP_var (i := 5)) (sim_ra (sim_dcons (Sim.qu (sim_bin op_ix (Sim.rx (sim_fz (sim_lst (sim_dcons (sim_c fun _ _ => .str _) (sim_dcons (sim_c fun _ _ => .str _) (sim_dcons (sim_c fun _ _ => .str _) sim_dnil)))))) (Sim.rx (sim_bin op_mod (Sim.rx (sim_bin op_div (Sim.rx (sim_var (i := 7))) (Sim.rx (sim_c fun _ _ => .int _)) (Or.inl rfl))) (Sim.rx (sim_c fun _ _ => .int _)) (Or.inl rfl))) (Or.inr rfl))) sim_dnil)) (by first | exact Or.inl rfl | exact Or.inr rfl)))) (ss_drop (q := false) (sim_lf (sim_upd (q := true) upd_app (simP_var (i := 5)) (sim_ra (sim_dcons (Sim.qu (sim_bin op_ix (sim_vw (i := 1)) (Sim.rx (sim_bin op_mod (Sim.rx (sim_bin op_div (Sim.rx (sim_var (i := 7))) (Sim.rx (sim_c fun _ _ => .int _)) (Or.inl rfl))) (Sim.rx (sim_cb op_len (sim_one (sim_vw (i := 1))))) (Or.inl rfl))) (Or.inr rfl))) sim_dnil)) (by first | exact Or.inl rfl | exact Or.inr rfl))))))))
    (ss_setK (s := true) (q := true) (simP_var (i := 4)) (Sim.qu (sim_bin op_ix (sim_vw (i := 1)) (Sim.rx (sim_var (i := 2))) (Or.inr rfl))) (sim_fv (i := 5)) (by first | exact Or.inl rfl | exact Or.inr rfl)))))
    (ss_ret (q := true) (sim_mv (i := 4)))))))
theorem sim_reached (cc : Nat → Nat) : SimF cc [] m_reached p_reached := by
  unfold m_reached p_reached
  exact simF_fn (ss_seq (ss_asg (q := true) (i := 2) sim_dnew)
    (ss_seq (ss_asg (q := true) (i := 3) (sim_lst (sim_dcons (sim_var (i := 1)) sim_dnil)))
    (ss_seq (ss_while (q := true) (sim_tru (sim_vw (i := 3))) (ss_seq (ss_asg (q := false) (i := 4) (sim_lf (sim_pop (simP_var (i := 3)))))
    (ss_for (q := true) (c := (.one 5)) (sim_ie (sim_bin op_dget (Sim.rx (sim_var (i := 0))) (Sim.rx (sim_var (i := 4))) (Or.inl rfl))) (ss_if (q := true) (sim_tand (sim_cmp cmp_din (Sim.rx (sim_var (i := 5))) (Sim.rx (sim_var (i := 0))) (Or.inl rfl)) (sim_cmp cmp_dnin (Sim.rx (sim_var (i := 5))) (sim_vw (i := 2)) (Or.inl rfl))) (ss_seq (ss_setK (s := true) (q := true) (simP_var (i := 2)) (sim_var (i := 5)) (sim_c fun _ _ => .bl _) (by first | exact Or.inl rfl | exact Or.inr rfl))
    (ss_drop (q := false) (sim_lf (sim_upd (q := true) upd_app (simP_var (i := 3)) (sim_ra (sim_dcons (sim_var (i := 5)) sim_dnil)) (by first | exact Or.inl rfl | exact Or.inr rfl))))) ss_nx))))
    (ss_ret (q := true) (sim_mv (i := 2))))))
theorem sim_components (cc : Nat → Nat) : SimF cc [] m_components p_components := by
  unfold m_components p_components
  exact simF_fn (ss_seq (ss_asg (q := true) (i := 1) (sim_lf (sim_fz (sim_ct op_sortD (sim_one (Sim.rx (sim_var (i := 0))))))))
    (ss_seq (ss_asg (q := true) (i := 2) (sim_lf (sim_fz (sim_dc (c := (.one 3)) (sim_ie (sim_var (i := 1))) sim_yes (sim_var (i := 3)) (sim_fz (sim_call (sim_reached cc) (sim_dcons (sim_var (i := 0)) (sim_dcons (sim_var (i := 3)) sim_dnil)))) (by decide)))))
    (ss_seq (ss_asg (q := true) (i := 4) sim_dnew)
    (ss_seq (ss_asg (q := true) (i := 5) (sim_lst sim_dnil))
    (ss_seq (ss_for (q := true) (c := (.one 3)) (sim_ie (sim_var (i := 1))) (ss_if (q := true) (sim_cmp cmp_dnin (Sim.rx (sim_var (i := 3))) (sim_vw (i := 4)) (Or.inl rfl)) (ss_seq (ss_asg (q := true) (i := 6) (sim_lf (sim_fz (sim_lc (c := (.one 7)) (sim_ie (sim_var (i := 1))) (sim_tor (Sim.qu (sim_cmp cmp_eq (Sim.rx (sim_var (i := 7))) (Sim.rx (sim_var (i := 3))) (Or.inr rfl))) (sim_tand (Sim.qu (sim_cmp cmp_din (Sim.rx (sim_var (i := 7))) (Sim.rx (sim_bin op_dget (Sim.rx (sim_var (i := 2))) (Sim.rx (sim_var (i := 3))) (Or.inl rfl))) (Or.inr rfl))) (Sim.qu (sim_cmp cmp_din (Sim.rx (sim_var (i := 3))) (Sim.rx (sim_bin op_dget (Sim.rx (sim_var (i := 2))) (Sim.rx (sim_var (i := 7))) (Or.inl rfl))) (Or.inr rfl))))) (sim_var (i := 7)) (by decide)))))
    (ss_seq (ss_drop (q := false) (sim_lf (sim_updDict (q := true) (simP_var (i := 4)) (sim_dcons (sim_fz (sim_dc (c := (.one 7)) (sim_ie (sim_var (i := 6))) sim_yes (sim_var (i := 7)) (sim_c fun _ _ => .bl _) (by decide))) sim_dnil) (by first | exact Or.inl rfl | exact Or.inr rfl))))
    (ss_drop (q := false) (sim_lf (sim_upd (q := false) upd_app (simP_var (i := 5)) (sim_ra (sim_dcons (sim_tup (sim_dcons (sim_cb op_dlen (sim_one (Sim.rx (sim_fz (sim_star (q1 := true) (q2 := true) (q3 := true) (sim_bin op_dget (Sim.rx (sim_var (i := 2))) (Sim.rx (sim_var (i := 3))) (Or.inl rfl)) (sim_var (i := 3)) (sim_c fun _ _ => .bl _)))))) (sim_dcons (sim_var (i := 6)) sim_dnil))) sim_dnil)) (by first | exact Or.inl rfl | exact Or.inr rfl)))))) ss_nx))
    (ss_ret (q := true) (sim_lc (c := (.tup [8, 6])) (sim_ie (sim_fz (sim_ct op_sortT (sim_one (sim_vw (i := 5)))))) sim_yes (sim_var (i := 6)) (by decide))))))))
theorem sim_law_reach (cc : Nat → Nat) : SimF cc [] m_law_reach p_law_reach := by
  unfold m_law_reach p_law_reach
  exact simF_fn (ss_seq (ss_asg (q := true) (i := 2) (sim_lst sim_dnil))
    (ss_seq (ss_for (q := true) (c := (.one 3)) (sim_r1 (sim_dcons (sim_fz (Sim.qu (sim_add' op_add (Sim.rx (sim_cb op_dlen (sim_one (Sim.rx (sim_var (i := 0)))))) (Sim.rx (sim_c fun _ _ => .int _)) (Or.inr rfl)))) sim_dnil)) (ss_for (q := true) (c := (.one 4)) (sim_ie (sim_fz (Sim.qu (sim_add' op_add (Sim.rx (sim_fz (sim_lst (sim_dcons (sim_var (i := 1)) sim_dnil)))) (sim_vw (i := 2)) (Or.inr rfl))))) (ss_for (q := true) (c := (.one 5)) (sim_ie (sim_bin op_dget (Sim.rx (sim_var (i := 0))) (Sim.rx (sim_var (i := 4))) (Or.inl rfl))) (ss_if (q := true) (sim_tand (sim_cmp cmp_din (Sim.rx (sim_var (i := 5))) (Sim.rx (sim_var (i := 0))) (Or.inl rfl)) (Sim.qu (sim_cmp cmp_nin (Sim.rx (sim_var (i := 5))) (sim_vw (i := 2)) (Or.inr rfl)))) (ss_drop (q := false) (sim_lf (sim_upd (q := true) upd_app (simP_var (i := 2)) (sim_ra (sim_dcons (sim_var (i := 5)) sim_dnil)) (by first | exact Or.inl rfl | exact Or.inr rfl)))) ss_nx))))
    (ss_ret (q := true) (sim_mv (i := 2)))))
theorem sim_law_is_integer (cc : Nat → Nat) : SimF cc [] m_law_is_integer p_law_is_integer := by
  unfold m_law_is_integer p_law_is_integer
  exact simF_fn (ss_ret (q := true) (sim_lf (sim_and (sim_b (sim_is (T := .int) (Sim.rx (sim_var (i := 0))))) (sim_not (sim_b (sim_is (T := .bool) (Sim.rx (sim_var (i := 0)))))))))
theorem simg_law_same (cc : Nat → Nat) : ∀ n : Nat, SimF cc [] (m_law_same n) (p_law_same n)
  | 0 => (by unfold m_law_same p_law_same; exact simF_bad)
  | n + 1 => by
    obtain ih_law_same := simg_law_same cc n
    exact (by
      unfold m_law_same p_law_same
      exact simF_fn (ss_seq (ss_if (q := true) (sim_is2 (T := .list) (S := .tuple) (Sim.rx (sim_var (i := 1)))) (ss_seq (ss_if (q := true) (sim_tor (Sim.qu (sim_cmp cmp_ne (Sim.rx (sim_b (sim_is (T := .list) (Sim.rx (sim_var (i := 1)))))) (Sim.rx (sim_b (sim_is (T := .list) (Sim.rx (sim_var (i := 0)))))) (Or.inr rfl))) (Sim.qu (sim_cmp cmp_ne (Sim.rx (sim_b (sim_is (T := .tuple) (Sim.rx (sim_var (i := 1)))))) (Sim.rx (sim_b (sim_is (T := .tuple) (Sim.rx (sim_var (i := 0)))))) (Or.inr rfl)))) (ss_ret (q := true) (sim_lf (sim_c fun _ _ => .bl _))) ss_nx)
    (ss_seq (ss_if (q := true) (Sim.qu (sim_cmp cmp_ne (Sim.rx (sim_cb op_len (sim_one (Sim.rx (sim_var (i := 0)))))) (Sim.rx (sim_cb op_len (sim_one (Sim.rx (sim_var (i := 1)))))) (Or.inr rfl))) (ss_ret (q := true) (sim_lf (sim_c fun _ _ => .bl _))) ss_nx)
    (ss_seq (ss_for (q := true) (c := (.one 2)) (sim_r1 (sim_dcons (sim_cb op_len (sim_one (Sim.rx (sim_var (i := 1))))) sim_dnil)) (ss_if (q := true) (sim_tnot (sim_tru (Sim.rx (sim_fz (sim_call ih_law_same (sim_dcons (Sim.qu (sim_bin op_ix (Sim.rx (sim_var (i := 0))) (Sim.rx (sim_var (i := 2))) (Or.inr rfl))) (sim_dcons (Sim.qu (sim_bin op_ix (Sim.rx (sim_var (i := 1))) (Sim.rx (sim_var (i := 2))) (Or.inr rfl))) sim_dnil))))))) (ss_ret (q := true) (sim_lf (sim_c fun _ _ => .bl _))) ss_nx))
    (ss_ret (q := true) (sim_lf (sim_c fun _ _ => .bl _)))))) ss_nx)
    (ss_seq (ss_if (q := true) (Sim.qu (sim_cmp cmp_is (Sim.rx (sim_var (i := 1))) (Sim.rx (sim_c fun _ _ => .non)) (Or.inr rfl))) (ss_ret (q := true) (sim_lf (sim_b (Sim.qu (sim_cmp cmp_is (Sim.rx (sim_var (i := 0))) (Sim.rx (sim_c fun _ _ => .non)) (Or.inr rfl)))))) ss_nx)
    (ss_seq (ss_if (q := true) (sim_is (T := .bool) (Sim.rx (sim_var (i := 1)))) (ss_ret (q := true) (sim_lf (sim_and (sim_b (sim_is (T := .bool) (Sim.rx (sim_var (i := 0))))) (sim_b (Sim.qu (sim_cmp cmp_eq (Sim.rx (sim_var (i := 0))) (Sim.rx (sim_var (i := 1))) (Or.inr rfl))))))) ss_nx)
    (ss_seq (ss_if (q := true) (sim_is (T := .int) (Sim.rx (sim_var (i := 1)))) (ss_ret (q := true) (sim_lf (sim_and (sim_fz (sim_call (sim_law_is_integer cc) (sim_dcons (sim_var (i := 0)) sim_dnil))) (sim_b (Sim.qu (sim_cmp cmp_eq (Sim.rx (sim_var (i := 0))) (Sim.rx (sim_var (i := 1))) (Or.inr rfl))))))) ss_nx)
    (ss_ret (q := true) (sim_lf (sim_and (sim_b (sim_is (T := .str) (Sim.rx (sim_var (i := 0))))) (sim_b (Sim.qu (sim_cmp cmp_eq (Sim.rx (sim_var (i := 0))) (Sim.rx (sim_var (i := 1))) (Or.inr rfl))))))))))))
theorem sim_law_same (cc : Nat → Nat) (n : Nat) : SimF cc [] (m_law_same n) (p_law_same n) := (simg_law_same cc n)
theorem sim_law_is_dict (cc : Nat → Nat) : SimF cc [] m_law_is_dict p_law_is_dict := by
  unfold m_law_is_dict p_law_is_dict
  exact simF_fn (ss_seq (ss_if (q := true) (sim_tor (sim_tnot (sim_is (T := .dict) (Sim.rx (sim_var (i := 0))))) (Sim.qu (sim_cmp cmp_ne (Sim.rx (sim_cb op_dlen (sim_one (Sim.rx (sim_var (i := 0)))))) (Sim.rx (sim_cb op_dlen (sim_one (Sim.rx (sim_var (i := 1)))))) (Or.inr rfl)))) (ss_ret (q := true) (sim_lf (sim_c fun _ _ => .bl _))) ss_nx)
    (ss_seq (ss_for (q := false) (c := (.one 2)) (sim_ikv (i := 1)) (ss_if (q := true) (sim_tor (sim_cmp cmp_dnin (Sim.rx (sim_var (i := 2))) (Sim.rx (sim_var (i := 0))) (Or.inl rfl)) (sim_tnot (sim_tru (Sim.rx (sim_fz (sim_call (sim_law_same cc 4) (sim_dcons (sim_bin op_dget (Sim.rx (sim_var (i := 0))) (Sim.rx (sim_var (i := 2))) (Or.inl rfl)) (sim_dcons (sim_bin op_dget (Sim.rx (sim_var (i := 1))) (Sim.rx (sim_var (i := 2))) (Or.inl rfl)) sim_dnil)))))))) (ss_ret (q := true) (sim_lf (sim_c fun _ _ => .bl _))) ss_nx))
    (ss_ret (q := true) (sim_lf (sim_c fun _ _ => .bl _)))))
theorem sim_law (cc : Nat → Nat) : SimF cc [] m_law p_law := by
  unfold m_law p_law
  exact simF_fn (ss_seq (ss_asg (q := true) (i := 1) (sim_lf (sim_fz (sim_call (sim_law_draws cc) (sim_dcons (sim_var (i := 0)) sim_dnil)))))
    (ss_seq (ss_asg (q := true) (i := 2) (sim_call (sim_law_uses cc) (sim_dcons (sim_var (i := 1)) sim_dnil)))
    (ss_seq (ss_asg (q := true) (i := 3) sim_dnew)
    (ss_seq (ss_for (q := false) (c := (.one 4)) (sim_ikv (i := 2)) (ss_setK (s := true) (q := true) (simP_var (i := 3)) (sim_var (i := 4)) (sim_fz (sim_ct op_list (sim_one (Sim.rx (Sim.qu (sim_bin op_dget (sim_vw (i := 2)) (Sim.rx (sim_var (i := 4))) (Or.inr rfl))))))) (by first | exact Or.inl rfl | exact Or.inr rfl)))
    (ss_seq (ss_asg (q := true) (i := 5) sim_dnew)
    (ss_seq (ss_for (q := false) (c := (.one 4)) (sim_ikv (i := 2)) (ss_setK (s := true) (q := true) (simP_var (i := 5)) (sim_var (i := 4)) (sim_fz (sim_call (sim_law_reach cc) (sim_dcons (sim_fv (i := 2)) (sim_dcons (sim_var (i := 4)) sim_dnil)))) (by first | exact Or.inl rfl | exact Or.inr rfl)))
    (ss_seq (ss_asg (q := true) (i := 6) (sim_lf (sim_fz (sim_call (sim_components cc) (sim_dcons (sim_fv (i := 3)) sim_dnil)))))
    (ss_seq (ss_if (q := true) (sim_tor (sim_tnot (sim_is (T := .list) (Sim.rx (sim_var (i := 6))))) (sim_tnot (sim_tru (Sim.rx (sim_fz (sim_call (sim_law_is_dict cc) (sim_dcons (sim_fv (i := 3)) (sim_dcons (sim_fv (i := 2)) sim_dnil)))))))) (ss_ret (q := true) (sim_lf (sim_c fun _ _ => .bl _))) ss_nx)
    (ss_seq (ss_asg (q := true) (i := 7) (sim_lst sim_dnil))
    (ss_seq (ss_asg (q := true) (i := 8) (sim_lf (sim_tup (sim_dcons (sim_c fun _ _ => .int _) (sim_dcons (sim_c fun _ _ => .str _) sim_dnil)))))
    (ss_seq (ss_for (q := true) (c := (.one 9)) (sim_ie (sim_var (i := 6))) (ss_seq (ss_if (q := true) (sim_tor (sim_tnot (sim_is (T := .list) (Sim.rx (sim_var (i := 9))))) (Sim.qu (sim_cmp cmp_eq (Sim.rx (sim_cb op_len (sim_one (Sim.rx (sim_var (i := 9)))))) (Sim.rx (sim_c fun _ _ => .int _)) (Or.inr rfl)))) (ss_ret (q := true) (sim_lf (sim_c fun _ _ => .bl _))) ss_nx)
    (ss_seq (ss_for (q := true) (c := (.one 4)) (sim_ie (sim_var (i := 9))) (ss_seq (ss_if (q := true) (sim_tor (sim_tnot (sim_is (T := .str) (Sim.rx (sim_var (i := 4))))) (sim_tor (sim_cmp cmp_dnin (Sim.rx (sim_var (i := 4))) (sim_vw (i := 2)) (Or.inl rfl)) (Sim.qu (sim_cmp cmp_in (Sim.rx (sim_var (i := 4))) (sim_vw (i := 7)) (Or.inr rfl))))) (ss_ret (q := true) (sim_lf (sim_c fun _ _ => .bl _))) ss_nx)
    (ss_seq (ss_drop (q := false) (sim_lf (sim_upd (q := true) upd_app (simP_var (i := 7)) (sim_ra (sim_dcons (sim_var (i := 4)) sim_dnil)) (by first | exact Or.inl rfl | exact Or.inr rfl))))
    (ss_for (q := false) (c := (.one 11)) (sim_ikv (i := 2)) (ss_seq (ss_asg (q := true) (i := 12) (sim_lf (sim_or (sim_b (Sim.qu (sim_cmp cmp_eq (Sim.rx (sim_var (i := 11))) (Sim.rx (sim_var (i := 4))) (Or.inr rfl)))) (sim_and (sim_b (Sim.qu (sim_cmp cmp_in (Sim.rx (sim_var (i := 11))) (Sim.rx (Sim.qu (sim_bin op_dget (sim_vw (i := 5)) (Sim.rx (sim_var (i := 4))) (Or.inr rfl)))) (Or.inr rfl)))) (sim_b (Sim.qu (sim_cmp cmp_in (Sim.rx (sim_var (i := 4))) (Sim.rx (Sim.qu (sim_bin op_dget (sim_vw (i := 5)) (Sim.rx (sim_var (i := 11))) (Or.inr rfl)))) (Or.inr rfl))))))))
    (ss_if (q := true) (Sim.qu (sim_cmp cmp_ne (Sim.rx (sim_var (i := 12))) (Sim.rx (sim_b (Sim.qu (sim_cmp cmp_in (Sim.rx (sim_var (i := 11))) (Sim.rx (sim_var (i := 9))) (Or.inr rfl))))) (Or.inr rfl))) (ss_ret (q := true) (sim_lf (sim_c fun _ _ => .bl _))) ss_nx))))))
    (ss_seq (ss_asg (q := true) (i := 10) (sim_lf (sim_fz (Sim.qu (sim_add' op_add (Sim.rx (sim_cb op_len (sim_one (Sim.rx (Sim.qu (sim_bin op_dget (sim_vw (i := 5)) (Sim.rx (Sim.qu (sim_bin op_ix (Sim.rx (sim_var (i := 9))) (Sim.rx (sim_c fun _ _ => .int _)) (Or.inr rfl)))) (Or.inr rfl))))))) (Sim.rx (sim_cb op_int1 (sim_one (Sim.rx (sim_b (Sim.qu (sim_cmp cmp_nin (Sim.rx (Sim.qu (sim_bin op_ix (Sim.rx (sim_var (i := 9))) (Sim.rx (sim_c fun _ _ => .int _)) (Or.inr rfl)))) (Sim.rx (Sim.qu (sim_bin op_dget (sim_vw (i := 5)) (Sim.rx (Sim.qu (sim_bin op_ix (Sim.rx (sim_var (i := 9))) (Sim.rx (sim_c fun _ _ => .int _)) (Or.inr rfl)))) (Or.inr rfl)))) (Or.inr rfl)))))))) (Or.inr rfl))))))
    (ss_seq (ss_if (q := true) (sim_tor (Sim.qu (sim_cmp cmp_ne (Sim.rx (sim_var (i := 9))) (Sim.rx (sim_fz (sim_ct op_sortS (sim_one (Sim.rx (sim_var (i := 9))))))) (Or.inr rfl))) (Sim.qu (sim_cmp cmp_leP (Sim.rx (sim_tup (sim_dcons (sim_var (i := 10)) (sim_dcons (Sim.qu (sim_bin op_ix (Sim.rx (sim_var (i := 9))) (Sim.rx (sim_c fun _ _ => .int _)) (Or.inr rfl))) sim_dnil)))) (Sim.rx (sim_var (i := 8))) (Or.inr rfl)))) (ss_ret (q := true) (sim_lf (sim_c fun _ _ => .bl _))) ss_nx)
    (ss_seq (ss_asg (q := true) (i := 8) (sim_lf (sim_tup (sim_dcons (sim_var (i := 10)) (sim_dcons (Sim.qu (sim_bin op_ix (Sim.rx (sim_var (i := 9))) (Sim.rx (sim_c fun _ _ => .int _)) (Or.inr rfl))) sim_dnil)))))
    (ss_for (q := true) (c := (.one 4)) (sim_ie (sim_var (i := 9))) (ss_if (q := true) (Sim.qu (sim_cmp cmp_gt (Sim.rx (sim_cb op_len (sim_one (Sim.rx (sim_fz (sim_lc (c := (.one 11)) (sim_ie (Sim.qu (sim_bin op_dget (sim_vw (i := 2)) (Sim.rx (sim_var (i := 4))) (Or.inr rfl)))) (sim_tand (sim_cmp cmp_din (Sim.rx (sim_var (i := 11))) (sim_vw (i := 2)) (Or.inl rfl)) (Sim.qu (sim_cmp cmp_nin (Sim.rx (sim_var (i := 11))) (sim_vw (i := 7)) (Or.inr rfl)))) (sim_var (i := 11)) (by decide))))))) (Sim.rx (sim_c fun _ _ => .int _)) (Or.inr rfl))) (ss_ret (q := true) (sim_lf (sim_c fun _ _ => .bl _))) ss_nx))))))))
    (ss_ret (q := true) (sim_lf (sim_b (Sim.qu (sim_cmp cmp_eq (Sim.rx (sim_cb op_len (sim_one (sim_vw (i := 7))))) (Sim.rx (sim_cb op_dlen (sim_one (sim_vw (i := 2))))) (Or.inr rfl)))))))))))))))))
theorem law_true : Q.semTrue m_law := by
  have h := sim_law (fun _ => 0)
  have t := p_true
  generalize m_law = m at h ⊢
  generalize p_law = p at h t
  exact P.sem_true h t
end LAW

set_option Elab.async false
set_option linter.all false
set_option maxRecDepth 100000
set_option maxHeartbeats 4000000
namespace LAW
open PySem PySem.Spec PyProof.Rows L2 TL Q
def topS (i : Nat) : Stmt := PySem.Challenge.pw_quillrun_k08_components_in_order.main.body.getD i (.Pass ⟨0, 0, 0, 0⟩)
abbrev s_law_mix : Stmt := topS 4
abbrev n_law_mix : List Str := ["_law_cell", "_law_k", "_law_value"]
theorem sc_law_mix : FnScope n_law_mix ["_law_cell", "_law_k"] (defScope s_law_mix) := ⟨rfl, rfl, rfl, by decide +kernel, rfl, by decide +kernel, by decide +kernel⟩
abbrev s_law_draws : Stmt := topS 5
abbrev n_law_draws : List Str := ["_law_script", "_law_draws_here", "_law_k", "_law_cell", "_law_place"]
theorem sc_law_draws : FnScope n_law_draws ["_law_script"] (defScope s_law_draws) := ⟨rfl, rfl, rfl, by decide +kernel, rfl, by decide +kernel, by decide +kernel⟩
abbrev s_law_name : Stmt := topS 10
abbrev n_law_name : List Str := ["_law_number", "_law_letters", "_law_name_here", "_law_k"]
theorem sc_law_name : FnScope n_law_name ["_law_number"] (defScope s_law_name) := ⟨rfl, rfl, rfl, by decide +kernel, rfl, by decide +kernel, by decide +kernel⟩
abbrev s_law_at : Stmt := topS 6
abbrev n_law_at : List Str := ["_law_draws_here", "_law_index"]
theorem sc_law_at : FnScope n_law_at ["_law_draws_here", "_law_index"] (defScope s_law_at) := ⟨rfl, rfl, rfl, by decide +kernel, rfl, by decide +kernel, by decide +kernel⟩
abbrev s_law_uses : Stmt := topS 11
abbrev n_law_uses : List Str := ["_law_draws_here", "_law_names", "_law_k", "_law_name_here", "_law_uses_here", "_law_used", "_law_j", "_law_pick"]
theorem sc_law_uses : FnScope n_law_uses ["_law_draws_here"] (defScope s_law_uses) := ⟨rfl, rfl, rfl, by decide +kernel, rfl, by decide +kernel, by decide +kernel⟩
abbrev s_reached : Stmt := topS 1
abbrev n_reached : List Str := ["uses", "name", "found", "left", "current", "other"]
theorem sc_reached : FnScope n_reached ["uses", "name"] (defScope s_reached) := ⟨rfl, rfl, rfl, by decide +kernel, rfl, by decide +kernel, by decide +kernel⟩
abbrev s_components : Stmt := topS 2
abbrev n_components : List Str := ["uses", "names", "reach", "name", "listed", "parts", "part", "other", "_"]
theorem sc_components : FnScope n_components ["uses"] (defScope s_components) := ⟨rfl, rfl, rfl, by decide +kernel, rfl, by decide +kernel, by decide +kernel⟩
abbrev s_law_reach : Stmt := topS 12
abbrev n_law_reach : List Str := ["_law_uses_here", "_law_name_here", "_law_found", "_law_k", "_law_each", "_law_other"]
theorem sc_law_reach : FnScope n_law_reach ["_law_uses_here", "_law_name_here"] (defScope s_law_reach) := ⟨rfl, rfl, rfl, by decide +kernel, rfl, by decide +kernel, by decide +kernel⟩
abbrev s_law_is_integer : Stmt := topS 7
abbrev n_law_is_integer : List Str := ["_law_actual"]
theorem sc_law_is_integer : FnScope n_law_is_integer ["_law_actual"] (defScope s_law_is_integer) := ⟨rfl, rfl, rfl, by decide +kernel, rfl, by decide +kernel, by decide +kernel⟩
abbrev s_law_same : Stmt := topS 8
abbrev n_law_same : List Str := ["_law_actual", "_law_expected", "_law_k"]
theorem sc_law_same : FnScope n_law_same ["_law_actual", "_law_expected"] (defScope s_law_same) := ⟨rfl, rfl, rfl, by decide +kernel, rfl, by decide +kernel, by decide +kernel⟩
abbrev s_law_is_dict : Stmt := topS 9
abbrev n_law_is_dict : List Str := ["_law_actual", "_law_expected", "_law_key"]
theorem sc_law_is_dict : FnScope n_law_is_dict ["_law_actual", "_law_expected"] (defScope s_law_is_dict) := ⟨rfl, rfl, rfl, by decide +kernel, rfl, by decide +kernel, by decide +kernel⟩
abbrev s_law : Stmt := topS 13
abbrev n_law : List Str := ["_law_script", "_law_draws_here", "_law_uses_here", "_law_passed", "_law_name_here", "_law_reach_here", "_law_told", "_law_listed", "_law_last", "_law_part", "_law_count", "_law_other", "_law_together"]
theorem sc_law : FnScope n_law ["_law_script"] (defScope s_law) := ⟨rfl, rfl, rfl, by decide +kernel, rfl, by decide +kernel, by decide +kernel⟩
structure Txt (K : Fr) (mg : Str → Option Value) where
  a_law_mix : Addr
  fd_law_mix : FuncData
  F_law_mix : Fun K "_law_mix" "_law_mix" s_law_mix a_law_mix fd_law_mix
  b_law_mix : Binds K fd_law_mix ["_law_cell", "_law_k"] []
  g_law_mix : mg "_law_mix" = some (.ref a_law_mix)
  a_law_draws : Addr
  fd_law_draws : FuncData
  F_law_draws : Fun K "_law_draws" "_law_draws" s_law_draws a_law_draws fd_law_draws
  b_law_draws : Binds K fd_law_draws ["_law_script"] []
  g_law_draws : mg "_law_draws" = some (.ref a_law_draws)
  a_law_name : Addr
  fd_law_name : FuncData
  F_law_name : Fun K "_law_name" "_law_name" s_law_name a_law_name fd_law_name
  b_law_name : Binds K fd_law_name ["_law_number"] []
  g_law_name : mg "_law_name" = some (.ref a_law_name)
  a_law_at : Addr
  fd_law_at : FuncData
  F_law_at : Fun K "_law_at" "_law_at" s_law_at a_law_at fd_law_at
  b_law_at : Binds K fd_law_at ["_law_draws_here", "_law_index"] []
  g_law_at : mg "_law_at" = some (.ref a_law_at)
  a_law_uses : Addr
  fd_law_uses : FuncData
  F_law_uses : Fun K "_law_uses" "_law_uses" s_law_uses a_law_uses fd_law_uses
  b_law_uses : Binds K fd_law_uses ["_law_draws_here"] []
  g_law_uses : mg "_law_uses" = some (.ref a_law_uses)
  a_reached : Addr
  fd_reached : FuncData
  F_reached : Fun K "reached" "reached" s_reached a_reached fd_reached
  b_reached : Binds K fd_reached ["uses", "name"] []
  g_reached : mg "reached" = some (.ref a_reached)
  a_components : Addr
  fd_components : FuncData
  F_components : Fun K "components" "components" s_components a_components fd_components
  b_components : Binds K fd_components ["uses"] []
  g_components : mg "components" = some (.ref a_components)
  a_law_reach : Addr
  fd_law_reach : FuncData
  F_law_reach : Fun K "_law_reach" "_law_reach" s_law_reach a_law_reach fd_law_reach
  b_law_reach : Binds K fd_law_reach ["_law_uses_here", "_law_name_here"] []
  g_law_reach : mg "_law_reach" = some (.ref a_law_reach)
  a_law_is_integer : Addr
  fd_law_is_integer : FuncData
  F_law_is_integer : Fun K "_law_is_integer" "_law_is_integer" s_law_is_integer a_law_is_integer fd_law_is_integer
  b_law_is_integer : Binds K fd_law_is_integer ["_law_actual"] []
  g_law_is_integer : mg "_law_is_integer" = some (.ref a_law_is_integer)
  a_law_same : Addr
  fd_law_same : FuncData
  F_law_same : Fun K "_law_same" "_law_same" s_law_same a_law_same fd_law_same
  b_law_same : Binds K fd_law_same ["_law_actual", "_law_expected"] []
  g_law_same : mg "_law_same" = some (.ref a_law_same)
  a_law_is_dict : Addr
  fd_law_is_dict : FuncData
  F_law_is_dict : Fun K "_law_is_dict" "_law_is_dict" s_law_is_dict a_law_is_dict fd_law_is_dict
  b_law_is_dict : Binds K fd_law_is_dict ["_law_actual", "_law_expected"] []
  g_law_is_dict : mg "_law_is_dict" = some (.ref a_law_is_dict)
  a_law : Addr
  fd_law : FuncData
  F_law : Fun K "law" "law" s_law a_law fd_law
  b_law : Binds K fd_law ["_law_script"] []
  g_law : mg "law" = some (.ref a_law)
  z_bool : mg "bool" = none
  z_dict : mg "dict" = none
  z_int : mg "int" = none
  z_isinstance : mg "isinstance" = none
  z_len : mg "len" = none
  z_list : mg "list" = none
  z_min : mg "min" = none
  z_range : mg "range" = none
  z_sorted : mg "sorted" = none
  z_str : mg "str" = none
  z_tuple : mg "tuple" = none
section
variable {P : Program} {W : World} {K : Fr} {mg : Str → Option Value} {base : Heap}
theorem ok_law_mix (T : Txt K mg) : FnOk P W K mg base (L2.CX P W) 1 T.a_law_mix T.fd_law_mix ["_law_cell", "_law_k"] (spM K 2 (m_law_mix)) :=
  fn_ok (k := 0) T.F_law_mix sc_law_mix fun cdv A outer s H E hr tk hp => (ss_cons (ss_set (i := 2) sc_law_mix.nd rfl (by first | exact Or.inl rfl | exact Or.inr rfl) (se_mod (se_int' (by rfl) T.z_int (sa_cons (se_add (se_add (se_mul (se_int' (by rfl) T.z_int (sa_cons (se_var (i := 0)) sa_nil)) se_int) (se_mul (se_var (i := 1)) se_int)) se_int) sa_nil)) se_int))
    (ss_cons (ss_set (i := 2) sc_law_mix.nd rfl (by first | exact Or.inl rfl | exact Or.inr rfl) (se_mod (se_int' (by rfl) T.z_int (sa_cons (se_add (se_add (se_mul (se_var (i := 2)) (se_var (i := 2))) (se_mul (se_var (i := 1)) se_int)) se_int) sa_nil)) se_int))
    (ss_one (ss_ret (se_mod (se_div (se_var (i := 2)) se_int) se_int)))))
theorem ok_law_draws (T : Txt K mg) : FnOk P W K mg base (L2.CX P W) 2 T.a_law_draws T.fd_law_draws ["_law_script"] (spM K 1 (m_law_draws)) :=
  fn_ok (k := 1) T.F_law_draws sc_law_draws fun cdv A outer s H E hr tk hp => (ss_cons (ss_set (i := 1) sc_law_draws.nd rfl (by first | exact Or.inl rfl | exact Or.inr rfl) (se_lst sa_nil))
    (ss_cons (ss_for hp rfl (si_r1 (by rfl) T.z_range (sa_cons (se_min (by rfl) T.z_min (sa_cons se_int (sa_cons (se_len (by rfl) T.z_len (sa_cons (se_var (i := 0)) sa_nil)) sa_nil)) (hc := rfl)) sa_nil)) (pg_one (i := 2) sc_law_draws.nd rfl (by first | exact Or.inl rfl | exact Or.inr rfl)) (ss_cons (ss_set (i := 3) sc_law_draws.nd rfl (by first | exact Or.inl rfl | exact Or.inr rfl) (se_int' (by rfl) T.z_int (sa_cons (se_ix (se_var (i := 0)) (se_var (i := 2))) sa_nil)))
    (ss_one (ss_if (bt_lt (se_var (i := 3)) (se_pow se_int se_int)) (ss_one (ss_expr (se_app (se_var (i := 1)) (sa_cons (se_call tk (ok_law_mix T) (hr.mono (by omega)) (by rfl) T.g_law_mix T.F_law_mix.kp T.b_law_mix (sa_cons (se_var (i := 3)) (sa_cons (se_var (i := 2)) sa_nil))) sa_nil)))) (ss_one (ss_for hp rfl (si_r1 (by rfl) T.z_range (sa_cons se_int sa_nil)) (pg_one (i := 4) sc_law_draws.nd rfl (by first | exact Or.inl rfl | exact Or.inr rfl)) (ss_one (ss_if (bt_gt (se_var (i := 3)) se_int) (ss_cons (ss_expr (se_app (se_var (i := 1)) (sa_cons (se_mod (se_int' (by rfl) T.z_int (sa_cons (se_var (i := 3)) sa_nil)) se_int) sa_nil)))
    (ss_one (ss_set (i := 3) sc_law_draws.nd rfl (by first | exact Or.inl rfl | exact Or.inr rfl) (se_div (se_var (i := 3)) se_int)))) ss_nil))))))))
    (ss_one (ss_ret (se_var (i := 1))))))
theorem ok_law_name (T : Txt K mg) : FnOk P W K mg base (L2.CX P W) 1 T.a_law_name T.fd_law_name ["_law_number"] (spM K 1 (m_law_name)) :=
  fn_ok (k := 0) T.F_law_name sc_law_name fun cdv A outer s H E hr tk hp => (ss_cons (ss_set (i := 1) sc_law_name.nd rfl (by first | exact Or.inl rfl | exact Or.inr rfl) (se_str (by decide +kernel)))
    (ss_cons (ss_set (i := 2) sc_law_name.nd rfl (by first | exact Or.inl rfl | exact Or.inr rfl) (se_ix (se_var (i := 1)) (se_mod (se_var (i := 0)) se_int)))
    (ss_cons (ss_for hp rfl (si_r1 (by rfl) T.z_range (sa_cons (se_mod (se_div (se_var (i := 0)) se_int) se_int) sa_nil)) (pg_one (i := 3) sc_law_name.nd rfl (by first | exact Or.inl rfl | exact Or.inr rfl)) (ss_one (ss_set (i := 2) sc_law_name.nd rfl (by first | exact Or.inl rfl | exact Or.inr rfl) (se_add (se_var (i := 2)) (se_ix (se_var (i := 1)) (se_mod (se_div (se_div (se_var (i := 0)) se_int) (se_add se_int (se_mul se_int (se_var (i := 3))))) se_int))))))
    (ss_one (ss_ret (se_var (i := 2)))))))
theorem ok_law_at (T : Txt K mg) : FnOk P W K mg base (L2.CX P W) 2 T.a_law_at T.fd_law_at ["_law_draws_here", "_law_index"] (spM K 2 (m_law_at)) :=
  fn_ok (k := 1) T.F_law_at sc_law_at fun cdv A outer s H E hr tk hp => (ss_cons (ss_if (bt_lt (se_var (i := 1)) (se_len (by rfl) T.z_len (sa_cons (se_var (i := 0)) sa_nil))) (ss_one (ss_ret (se_ix (se_var (i := 0)) (se_var (i := 1))))) ss_nil)
    (ss_cons (ss_if (bt_eq hr (se_len (by rfl) T.z_len (sa_cons (se_var (i := 0)) sa_nil)) se_int) (ss_one (ss_ret (se_call tk (ok_law_mix T) (hr.mono (by omega)) (by rfl) T.g_law_mix T.F_law_mix.kp T.b_law_mix (sa_cons (se_var (i := 1)) (sa_cons se_int sa_nil))))) ss_nil)
    (ss_one (ss_ret (se_call tk (ok_law_mix T) (hr.mono (by omega)) (by rfl) T.g_law_mix T.F_law_mix.kp T.b_law_mix (sa_cons (se_add (se_ix (se_var (i := 0)) (se_mod (se_int' (by rfl) T.z_int (sa_cons (se_var (i := 1)) sa_nil)) (se_len (by rfl) T.z_len (sa_cons (se_var (i := 0)) sa_nil)))) (se_mul (se_var (i := 1)) se_int)) (sa_cons (se_var (i := 1)) sa_nil)))))))
theorem ok_law_uses (T : Txt K mg) : FnOk P W K mg base (L2.CX P W) 3 T.a_law_uses T.fd_law_uses ["_law_draws_here"] (spM K 1 (m_law_uses)) :=
  fn_ok (k := 2) T.F_law_uses sc_law_uses fun cdv A outer s H E hr tk hp => (ss_cons (ss_set (i := 1) sc_law_uses.nd rfl (by first | exact Or.inl rfl | exact Or.inr rfl) (se_lst sa_nil))
    (ss_cons (ss_for hp rfl (si_r1 (by rfl) T.z_range (sa_cons (se_mod (se_call tk (ok_law_at T) (hr.mono (by omega)) (by rfl) T.g_law_at T.F_law_at.kp T.b_law_at (sa_cons (se_var (i := 0)) (sa_cons se_int sa_nil))) se_int) sa_nil)) (pg_one (i := 2) sc_law_uses.nd rfl (by first | exact Or.inl rfl | exact Or.inr rfl)) (ss_cons (ss_set (i := 3) sc_law_uses.nd rfl (by first | exact Or.inl rfl | exact Or.inr rfl) (se_call tk (ok_law_name T) (hr.mono (by omega)) (by rfl) T.g_law_name T.F_law_name.kp T.b_law_name (sa_cons (se_call tk (ok_law_at T) (hr.mono (by omega)) (by rfl) T.g_law_at T.F_law_at.kp T.b_law_at (sa_cons (se_var (i := 0)) (sa_cons (se_add se_int (se_mul se_int (se_var (i := 2)))) sa_nil))) sa_nil)))
    (ss_one (ss_if (bt_nin (se_var (i := 3)) (se_var (i := 1)) hr) (ss_one (ss_expr (se_app (se_var (i := 1)) (sa_cons (se_var (i := 3)) sa_nil)))) ss_nil))))
    (ss_cons (ss_set (i := 4) sc_law_uses.nd rfl (by first | exact Or.inl rfl | exact Or.inr rfl) se_dnew)
    (ss_cons (ss_for hp rfl (si_r1 (by rfl) T.z_range (sa_cons (se_len (by rfl) T.z_len (sa_cons (se_var (i := 1)) sa_nil)) sa_nil)) (pg_one (i := 2) sc_law_uses.nd rfl (by first | exact Or.inl rfl | exact Or.inr rfl)) (ss_cons (ss_set (i := 5) sc_law_uses.nd rfl (by first | exact Or.inl rfl | exact Or.inr rfl) (se_lst sa_nil))
    (ss_cons (ss_for hp rfl (si_r1 (by rfl) T.z_range (sa_cons (se_mod (se_call tk (ok_law_at T) (hr.mono (by omega)) (by rfl) T.g_law_at T.F_law_at.kp T.b_law_at (sa_cons (se_var (i := 0)) (sa_cons (se_add se_int (se_mul se_int (se_var (i := 2)))) sa_nil))) se_int) sa_nil)) (pg_one (i := 6) sc_law_uses.nd rfl (by first | exact Or.inl rfl | exact Or.inr rfl)) (ss_cons (ss_set (i := 7) sc_law_uses.nd rfl (by first | exact Or.inl rfl | exact Or.inr rfl) (se_call tk (ok_law_at T) (hr.mono (by omega)) (by rfl) T.g_law_at T.F_law_at.kp T.b_law_at (sa_cons (se_var (i := 0)) (sa_cons (se_add (se_add se_int (se_mul se_int (se_var (i := 2)))) (se_var (i := 6))) sa_nil))))
    (ss_one (ss_if (PW.pt (bw_and (bt_eq hr (se_mod (se_call tk (ok_law_at T) (hr.mono (by omega)) (by rfl) T.g_law_at T.F_law_at.kp T.b_law_at (sa_cons (se_var (i := 0)) (sa_cons se_int sa_nil))) se_int) se_int) (bw_and1 (bt_ne hr (se_mod (se_var (i := 7)) se_int) se_int)))) (ss_one (ss_expr (se_app (se_var (i := 5)) (sa_cons (se_ix (se_var (i := 1)) (se_mod (se_add (se_var (i := 2)) (se_mod (se_var (i := 7)) se_int)) (se_len (by rfl) T.z_len (sa_cons (se_var (i := 1)) sa_nil)))) sa_nil)))) (ss_one (ss_if (bt_eq hr (se_mod (se_var (i := 7)) se_int) se_int) (ss_one (ss_expr (se_app (se_var (i := 5)) (sa_cons (se_ix (se_lst (sa_cons (se_str (by decide +kernel)) (sa_cons (se_str (by decide +kernel)) (sa_cons (se_str (by decide +kernel)) sa_nil)))) (se_mod (se_div (se_var (i := 7)) se_int) se_int)) sa_nil)))) (ss_one (ss_expr (se_app (se_var (i := 5)) (sa_cons (se_ix (se_var (i := 1)) (se_mod (se_div (se_var (i := 7)) se_int) (se_len (by rfl) T.z_len (sa_cons (se_var (i := 1)) sa_nil)))) sa_nil))))))))))
    (ss_one (ss_dset (hu1 hr) (se_var (i := 5)) (se_var (i := 4)) (se_ix (se_var (i := 1)) (se_var (i := 2))))))))
    (ss_one (ss_ret (se_var (i := 4))))))))
theorem ok_reached (T : Txt K mg) : FnOk P W K mg base (L2.CX P W) 1 T.a_reached T.fd_reached ["uses", "name"] (spM K 2 (m_reached)) :=
  fn_ok (k := 0) T.F_reached sc_reached fun cdv A outer s H E hr tk hp => (ss_cons (ss_set (i := 2) sc_reached.nd rfl (by first | exact Or.inl rfl | exact Or.inr rfl) se_dnew)
    (ss_cons (ss_set (i := 3) sc_reached.nd rfl (by first | exact Or.inl rfl | exact Or.inr rfl) (se_lst (sa_cons (se_var (i := 1)) sa_nil)))
    (ss_cons (ss_while hp (bt_tru (se_var (i := 3))) (ss_cons (ss_set (i := 4) sc_reached.nd rfl (by first | exact Or.inl rfl | exact Or.inr rfl) (se_pop (se_var (i := 3))))
    (ss_one (ss_for hp rfl (si_e (se_dget (hu1 hr) (se_var (i := 0)) (se_var (i := 4)))) (pg_one (i := 5) sc_reached.nd rfl (by first | exact Or.inl rfl | exact Or.inr rfl)) (ss_one (ss_if (PW.pt (bw_and (bt_din (hu1 hr) (se_var (i := 5)) (se_var (i := 0))) (bw_and1 (bt_dnin (hu1 hr) (se_var (i := 5)) (se_var (i := 2)))))) (ss_cons (ss_dset (hu1 hr) se_bl (se_var (i := 2)) (se_var (i := 5)))
    (ss_one (ss_expr (se_app (se_var (i := 3)) (sa_cons (se_var (i := 5)) sa_nil))))) ss_nil))))))
    (ss_one (ss_ret (se_var (i := 2)))))))
theorem ok_components (T : Txt K mg) : FnOk P W K mg base (L2.CX P W) 2 T.a_components T.fd_components ["uses"] (spM K 1 (m_components)) :=
  fn_ok (k := 1) T.F_components sc_components fun cdv A outer s H E hr tk hp => (ss_cons (ss_set (i := 1) sc_components.nd rfl (by first | exact Or.inl rfl | exact Or.inr rfl) (se_sortD (by rfl) T.z_sorted (sa_cons (se_var (i := 0)) sa_nil) (hc := rfl)))
    (ss_cons (ss_set (i := 2) sc_components.nd rfl (by first | exact Or.inl rfl | exact Or.inr rfl) (se_dc rfl sc_components.nd (si_e (se_var (i := 1))) (blkOk_by (own := [("name", 3)]) (N := n_components) (sc := defScope s_components) (by decide +kernel)) rfl (by decide) (fun _ _ _ _ _ => (pg_one (i := 3) sc_components.nd rfl (by first | exact Or.inl rfl | exact Or.inr rfl))) (fun _ _ _ _ _ => pts_y) (fun _ _ _ _ _ => (se_var (i := 3))) (fun _ _ _ _ _ => (se_call takes0 (ok_reached T) (hr.mono (by omega)) (by rfl) T.g_reached T.F_reached.kp T.b_reached (sa_cons (se_var (i := 0)) (sa_cons (se_var (i := 3)) sa_nil))))))
    (ss_cons (ss_set (i := 4) sc_components.nd rfl (by first | exact Or.inl rfl | exact Or.inr rfl) se_dnew)
    (ss_cons (ss_set (i := 5) sc_components.nd rfl (by first | exact Or.inl rfl | exact Or.inr rfl) (se_lst sa_nil))
    (ss_cons (ss_for hp rfl (si_e (se_var (i := 1))) (pg_one (i := 3) sc_components.nd rfl (by first | exact Or.inl rfl | exact Or.inr rfl)) (ss_one (ss_if (bt_dnin (hu1 hr) (se_var (i := 3)) (se_var (i := 4))) (ss_cons (ss_setLc (i := 6) rfl sc_components.nd rfl rfl (sw_true rfl rfl rfl (by decide +kernel)) (si_e (se_var (i := 1))) (blkOk_by (own := [("other", 7)]) (N := n_components) (sc := defScope s_components) (by decide +kernel)) rfl (by decide) (fun _ _ _ _ _ => (pg_one (i := 7) sc_components.nd rfl (by first | exact Or.inl rfl | exact Or.inr rfl))) (fun _ _ _ _ _ => (pts_1 (PW.pt (bw_or (bt_eq hr (se_var (i := 7)) (se_var (i := 3))) (bw_or1 (PW.pt (bw_and (bt_din (hu1 hr) (se_var (i := 7)) (se_dget (hu1 hr) (se_var (i := 2)) (se_var (i := 3)))) (bw_and1 (bt_din (hu1 hr) (se_var (i := 3)) (se_dget (hu1 hr) (se_var (i := 2)) (se_var (i := 7)))))))))))) (fun _ _ _ _ _ => (se_var (i := 7))))
    (ss_cons (ss_expr (se_upd (se_var (i := 4)) (sa_cons (se_dc rfl sc_components.nd (si_e (se_var (i := 6))) (blkOk_by (own := [("other", 7)]) (N := n_components) (sc := defScope s_components) (by decide +kernel)) rfl (by decide) (fun _ _ _ _ _ => (pg_one (i := 7) sc_components.nd rfl (by first | exact Or.inl rfl | exact Or.inr rfl))) (fun _ _ _ _ _ => pts_y) (fun _ _ _ _ _ => (se_var (i := 7))) (fun _ _ _ _ _ => se_bl)) sa_nil)))
    (ss_one (ss_expr (se_app (se_var (i := 5)) (sa_cons (se_tup (sa_cons (se_dlen (by rfl) T.z_len (sa_cons (se_star (se_dget (hu1 hr) (se_var (i := 2)) (se_var (i := 3))) (se_var (i := 3)) se_bl) sa_nil)) (sa_cons (se_var (i := 6)) sa_nil))) sa_nil)))))) ss_nil)))
    (ss_one (ss_ret (se_lc rfl sc_components.nd (si_e (se_sortT (hu64 hr) (by rfl) T.z_sorted (sa_cons (se_var (i := 5)) sa_nil))) (blkOk_by (own := [("_", 8), ("part", 6)]) (N := n_components) (sc := defScope s_components) (by decide +kernel)) rfl (by decide) (fun _ _ _ _ _ => (pg_tupA (is := [8, 6]) rfl (pgs_c (i := 8) sc_components.nd rfl (by first | exact Or.inl rfl | exact Or.inr rfl) (pgs_c (i := 6) sc_components.nd rfl (by first | exact Or.inl rfl | exact Or.inr rfl) pgs_n)))) (fun _ _ _ _ _ => pts_y) (fun _ _ _ _ _ => (se_var (i := 6)))))))))))
theorem ok_law_reach (T : Txt K mg) : FnOk P W K mg base (L2.CX P W) 1 T.a_law_reach T.fd_law_reach ["_law_uses_here", "_law_name_here"] (spM K 2 (m_law_reach)) :=
  fn_ok (k := 0) T.F_law_reach sc_law_reach fun cdv A outer s H E hr tk hp => (ss_cons (ss_set (i := 2) sc_law_reach.nd rfl (by first | exact Or.inl rfl | exact Or.inr rfl) (se_lst sa_nil))
    (ss_cons (ss_for hp rfl (si_r1 (by rfl) T.z_range (sa_cons (se_add (se_dlen (by rfl) T.z_len (sa_cons (se_var (i := 0)) sa_nil)) se_int) sa_nil)) (pg_one (i := 3) sc_law_reach.nd rfl (by first | exact Or.inl rfl | exact Or.inr rfl)) (ss_one (ss_for hp rfl (si_e (se_add (se_lst (sa_cons (se_var (i := 1)) sa_nil)) (se_var (i := 2)))) (pg_one (i := 4) sc_law_reach.nd rfl (by first | exact Or.inl rfl | exact Or.inr rfl)) (ss_one (ss_for hp rfl (si_e (se_dget (hu1 hr) (se_var (i := 0)) (se_var (i := 4)))) (pg_one (i := 5) sc_law_reach.nd rfl (by first | exact Or.inl rfl | exact Or.inr rfl)) (ss_one (ss_if (PW.pt (bw_and (bt_din (hu1 hr) (se_var (i := 5)) (se_var (i := 0))) (bw_and1 (bt_nin (se_var (i := 5)) (se_var (i := 2)) hr)))) (ss_one (ss_expr (se_app (se_var (i := 2)) (sa_cons (se_var (i := 5)) sa_nil)))) ss_nil)))))))
    (ss_one (ss_ret (se_var (i := 2))))))
theorem ok_law_is_integer (T : Txt K mg) : FnOk P W K mg base (L2.CX P W) 1 T.a_law_is_integer T.fd_law_is_integer ["_law_actual"] (spM K 1 (m_law_is_integer)) :=
  fn_ok (k := 0) T.F_law_is_integer sc_law_is_integer fun cdv A outer s H E hr tk hp => (ss_one (ss_ret (se_and (se_isi (T := .int) (by rfl) T.z_isinstance (se_var (i := 0)) (by rfl) T.z_int) (se_one (se_not (se_isi (T := .bool) (by rfl) T.z_isinstance (se_var (i := 0)) (by rfl) T.z_bool))))))
theorem okg_law_same (T : Txt K mg) : ∀ n : Nat, FnOk P W K mg base (L2.CX P W) (1 + n) T.a_law_same T.fd_law_same ["_law_actual", "_law_expected"] (spM K 2 (m_law_same n))
  | 0 => (by unfold m_law_same; exact fn_bad rfl)
  | n + 1 => by
    obtain ih_law_same := okg_law_same T n
    exact (by
      unfold m_law_same
      exact fn_ok (k := 1 + n) T.F_law_same sc_law_same fun cdv A outer s H E hr tk hp => (ss_cons (ss_if (bt_isi2 (T := .list) (S := .tuple) (by rfl) T.z_isinstance (se_var (i := 1)) (by rfl) T.z_list (by rfl) T.z_tuple) (ss_cons (ss_if (PW.pt (bw_or (bt_ne hr (se_isi (T := .list) (by rfl) T.z_isinstance (se_var (i := 1)) (by rfl) T.z_list) (se_isi (T := .list) (by rfl) T.z_isinstance (se_var (i := 0)) (by rfl) T.z_list)) (bw_or1 (bt_ne hr (se_isi (T := .tuple) (by rfl) T.z_isinstance (se_var (i := 1)) (by rfl) T.z_tuple) (se_isi (T := .tuple) (by rfl) T.z_isinstance (se_var (i := 0)) (by rfl) T.z_tuple))))) (ss_one (ss_ret se_bl)) ss_nil)
    (ss_cons (ss_if (bt_ne hr (se_len (by rfl) T.z_len (sa_cons (se_var (i := 0)) sa_nil)) (se_len (by rfl) T.z_len (sa_cons (se_var (i := 1)) sa_nil))) (ss_one (ss_ret se_bl)) ss_nil)
    (ss_cons (ss_for hp rfl (si_r1 (by rfl) T.z_range (sa_cons (se_len (by rfl) T.z_len (sa_cons (se_var (i := 1)) sa_nil)) sa_nil)) (pg_one (i := 2) sc_law_same.nd rfl (by first | exact Or.inl rfl | exact Or.inr rfl)) (ss_one (ss_if (bt_not (bt_tru (se_call tk ih_law_same hr (by rfl) T.g_law_same T.F_law_same.kp T.b_law_same (sa_cons (se_ix (se_var (i := 0)) (se_var (i := 2))) (sa_cons (se_ix (se_var (i := 1)) (se_var (i := 2))) sa_nil))))) (ss_one (ss_ret se_bl)) ss_nil)))
    (ss_one (ss_ret se_bl))))) ss_nil)
    (ss_cons (ss_if (bt_is (se_var (i := 1)) se_non) (ss_one (ss_ret (se_is (se_var (i := 0)) se_non))) ss_nil)
    (ss_cons (ss_if (bt_isi (T := .bool) (by rfl) T.z_isinstance (se_var (i := 1)) (by rfl) T.z_bool) (ss_one (ss_ret (se_and (se_isi (T := .bool) (by rfl) T.z_isinstance (se_var (i := 0)) (by rfl) T.z_bool) (se_one (se_eq hr (se_var (i := 0)) (se_var (i := 1))))))) ss_nil)
    (ss_cons (ss_if (bt_isi (T := .int) (by rfl) T.z_isinstance (se_var (i := 1)) (by rfl) T.z_int) (ss_one (ss_ret (se_and (se_call tk (ok_law_is_integer T) (hr.mono (by omega)) (by rfl) T.g_law_is_integer T.F_law_is_integer.kp T.b_law_is_integer (sa_cons (se_var (i := 0)) sa_nil)) (se_one (se_eq hr (se_var (i := 0)) (se_var (i := 1))))))) ss_nil)
    (ss_one (ss_ret (se_and (se_isi (T := .str) (by rfl) T.z_isinstance (se_var (i := 0)) (by rfl) T.z_str) (se_one (se_eq hr (se_var (i := 0)) (se_var (i := 1))))))))))))
theorem ok_law_same (T : Txt K mg) (n : Nat) : FnOk P W K mg base (L2.CX P W) (1 + n) T.a_law_same T.fd_law_same ["_law_actual", "_law_expected"] (spM K 2 (m_law_same n)) := (okg_law_same T n)
theorem ok_law_is_dict (T : Txt K mg) : FnOk P W K mg base (L2.CX P W) 6 T.a_law_is_dict T.fd_law_is_dict ["_law_actual", "_law_expected"] (spM K 2 (m_law_is_dict)) :=
  fn_ok (k := 5) T.F_law_is_dict sc_law_is_dict fun cdv A outer s H E hr tk hp => (ss_cons (ss_if (PW.pt (bw_or (bt_not (bt_isi (T := .dict) (by rfl) T.z_isinstance (se_var (i := 0)) (by rfl) T.z_dict)) (bw_or1 (bt_ne hr (se_dlen (by rfl) T.z_len (sa_cons (se_var (i := 0)) sa_nil)) (se_dlen (by rfl) T.z_len (sa_cons (se_var (i := 1)) sa_nil)))))) (ss_one (ss_ret se_bl)) ss_nil)
    (ss_cons (ss_for hp rfl (si_keys (se_var (i := 1))) (pg_one (i := 2) sc_law_is_dict.nd rfl (by first | exact Or.inl rfl | exact Or.inr rfl)) (ss_one (ss_if (PW.pt (bw_or (bt_dnin (hu1 hr) (se_var (i := 2)) (se_var (i := 0))) (bw_or1 (bt_not (bt_tru (se_call tk (ok_law_same T 4) (hr.mono (by omega)) (by rfl) T.g_law_same T.F_law_same.kp T.b_law_same (sa_cons (se_dget (hu1 hr) (se_var (i := 0)) (se_var (i := 2))) (sa_cons (se_dget (hu1 hr) (se_var (i := 1)) (se_var (i := 2))) sa_nil)))))))) (ss_one (ss_ret se_bl)) ss_nil)))
    (ss_one (ss_ret se_bl))))
theorem ok_law (T : Txt K mg) : FnOk P W K mg base (L2.CX P W) 7 T.a_law T.fd_law ["_law_script"] (spM K 1 (m_law)) :=
  fn_ok (k := 6) T.F_law sc_law fun cdv A outer s H E hr tk hp => (ss_cons (ss_set (i := 1) sc_law.nd rfl (by first | exact Or.inl rfl | exact Or.inr rfl) (se_call tk (ok_law_draws T) (hr.mono (by omega)) (by rfl) T.g_law_draws T.F_law_draws.kp T.b_law_draws (sa_cons (se_var (i := 0)) sa_nil)))
    (ss_cons (ss_set (i := 2) sc_law.nd rfl (by first | exact Or.inl rfl | exact Or.inr rfl) (se_call tk (ok_law_uses T) (hr.mono (by omega)) (by rfl) T.g_law_uses T.F_law_uses.kp T.b_law_uses (sa_cons (se_var (i := 1)) sa_nil)))
    (ss_cons (ss_set (i := 3) sc_law.nd rfl (by first | exact Or.inl rfl | exact Or.inr rfl) se_dnew)
    (ss_cons (ss_for hp rfl (si_keys (se_var (i := 2))) (pg_one (i := 4) sc_law.nd rfl (by first | exact Or.inl rfl | exact Or.inr rfl)) (ss_one (ss_dset (hu1 hr) (se_list (by rfl) T.z_list (sa_cons (se_dget (hu1 hr) (se_var (i := 2)) (se_var (i := 4))) sa_nil)) (se_var (i := 3)) (se_var (i := 4)))))
    (ss_cons (ss_set (i := 5) sc_law.nd rfl (by first | exact Or.inl rfl | exact Or.inr rfl) se_dnew)
    (ss_cons (ss_for hp rfl (si_keys (se_var (i := 2))) (pg_one (i := 4) sc_law.nd rfl (by first | exact Or.inl rfl | exact Or.inr rfl)) (ss_one (ss_dset (hu1 hr) (se_call tk (ok_law_reach T) (hr.mono (by omega)) (by rfl) T.g_law_reach T.F_law_reach.kp T.b_law_reach (sa_cons (se_var (i := 2)) (sa_cons (se_var (i := 4)) sa_nil))) (se_var (i := 5)) (se_var (i := 4)))))
    (ss_cons (ss_set (i := 6) sc_law.nd rfl (by first | exact Or.inl rfl | exact Or.inr rfl) (se_call tk (ok_components T) (hr.mono (by omega)) (by rfl) T.g_components T.F_components.kp T.b_components (sa_cons (se_var (i := 3)) sa_nil)))
    (ss_cons (ss_if (PW.pt (bw_or (bt_not (bt_isi (T := .list) (by rfl) T.z_isinstance (se_var (i := 6)) (by rfl) T.z_list)) (bw_or1 (bt_not (bt_tru (se_call tk (ok_law_is_dict T) (hr.mono (by omega)) (by rfl) T.g_law_is_dict T.F_law_is_dict.kp T.b_law_is_dict (sa_cons (se_var (i := 3)) (sa_cons (se_var (i := 2)) sa_nil)))))))) (ss_one (ss_ret se_bl)) ss_nil)
    (ss_cons (ss_set (i := 7) sc_law.nd rfl (by first | exact Or.inl rfl | exact Or.inr rfl) (se_lst sa_nil))
    (ss_cons (ss_set (i := 8) sc_law.nd rfl (by first | exact Or.inl rfl | exact Or.inr rfl) (se_tup (sa_cons se_int (sa_cons (se_str (by decide +kernel)) sa_nil))))
    (ss_cons (ss_for hp rfl (si_e (se_var (i := 6))) (pg_one (i := 9) sc_law.nd rfl (by first | exact Or.inl rfl | exact Or.inr rfl)) (ss_cons (ss_if (PW.pt (bw_or (bt_not (bt_isi (T := .list) (by rfl) T.z_isinstance (se_var (i := 9)) (by rfl) T.z_list)) (bw_or1 (bt_eq hr (se_len (by rfl) T.z_len (sa_cons (se_var (i := 9)) sa_nil)) se_int)))) (ss_one (ss_ret se_bl)) ss_nil)
    (ss_cons (ss_for hp rfl (si_e (se_var (i := 9))) (pg_one (i := 4) sc_law.nd rfl (by first | exact Or.inl rfl | exact Or.inr rfl)) (ss_cons (ss_if (PW.pt (bw_or (bt_not (bt_isi (T := .str) (by rfl) T.z_isinstance (se_var (i := 4)) (by rfl) T.z_str)) (bw_or (bt_dnin (hu1 hr) (se_var (i := 4)) (se_var (i := 2))) (bw_or1 (bt_in (se_var (i := 4)) (se_var (i := 7)) hr))))) (ss_one (ss_ret se_bl)) ss_nil)
    (ss_cons (ss_expr (se_app (se_var (i := 7)) (sa_cons (se_var (i := 4)) sa_nil)))
    (ss_one (ss_for hp rfl (si_keys (se_var (i := 2))) (pg_one (i := 11) sc_law.nd rfl (by first | exact Or.inl rfl | exact Or.inr rfl)) (ss_cons (ss_set (i := 12) sc_law.nd rfl (by first | exact Or.inl rfl | exact Or.inr rfl) (se_or (se_eq hr (se_var (i := 11)) (se_var (i := 4))) (se_one (se_and (se_in (se_var (i := 11)) (se_dget (hu1 hr) (se_var (i := 5)) (se_var (i := 4))) hr) (se_one (se_in (se_var (i := 4)) (se_dget (hu1 hr) (se_var (i := 5)) (se_var (i := 11))) hr))))))
    (ss_one (ss_if (bt_ne hr (se_var (i := 12)) (se_in (se_var (i := 11)) (se_var (i := 9)) hr)) (ss_one (ss_ret se_bl)) ss_nil))))))))
    (ss_cons (ss_set (i := 10) sc_law.nd rfl (by first | exact Or.inl rfl | exact Or.inr rfl) (se_add (se_len (by rfl) T.z_len (sa_cons (se_dget (hu1 hr) (se_var (i := 5)) (se_ix (se_var (i := 9)) se_int)) sa_nil)) (se_int' (by rfl) T.z_int (sa_cons (se_nin (se_ix (se_var (i := 9)) se_int) (se_dget (hu1 hr) (se_var (i := 5)) (se_ix (se_var (i := 9)) se_int)) hr) sa_nil))))
    (ss_cons (ss_if (PW.pt (bw_or (bt_ne hr (se_var (i := 9)) (se_sortS (by rfl) T.z_sorted (sa_cons (se_var (i := 9)) sa_nil))) (bw_or1 (bt_leP hr (se_tup (sa_cons (se_var (i := 10)) (sa_cons (se_ix (se_var (i := 9)) se_int) sa_nil))) (se_var (i := 8)))))) (ss_one (ss_ret se_bl)) ss_nil)
    (ss_cons (ss_set (i := 8) sc_law.nd rfl (by first | exact Or.inl rfl | exact Or.inr rfl) (se_tup (sa_cons (se_var (i := 10)) (sa_cons (se_ix (se_var (i := 9)) se_int) sa_nil))))
    (ss_one (ss_for hp rfl (si_e (se_var (i := 9))) (pg_one (i := 4) sc_law.nd rfl (by first | exact Or.inl rfl | exact Or.inr rfl)) (ss_one (ss_if (bt_gt (se_len (by rfl) T.z_len (sa_cons (se_lc rfl sc_law.nd (si_e (se_dget (hu1 hr) (se_var (i := 2)) (se_var (i := 4)))) (blkOk_by (own := [("_law_other", 11)]) (N := n_law) (sc := defScope s_law) (by decide +kernel)) rfl (by decide) (fun _ _ _ _ _ => (pg_one (i := 11) sc_law.nd rfl (by first | exact Or.inl rfl | exact Or.inr rfl))) (fun _ _ _ _ _ => (pts_1 (PW.pt (bw_and (bt_din (hu1 hr) (se_var (i := 11)) (se_var (i := 2))) (bw_and1 (bt_nin (se_var (i := 11)) (se_var (i := 7)) hr)))))) (fun _ _ _ _ _ => (se_var (i := 11)))) sa_nil)) se_int) (ss_one (ss_ret se_bl)) ss_nil))))))))))
    (ss_one (ss_ret (se_eq hr (se_len (by rfl) T.z_len (sa_cons (se_var (i := 7)) sa_nil)) (se_dlen (by rfl) T.z_len (sa_cons (se_var (i := 2)) sa_nil))))))))))))))))
end
end LAW

set_option Elab.async false
set_option linter.all false
set_option maxRecDepth 100000
set_option maxHeartbeats 4000000
namespace LAW
open PySem PySem.Spec PyProof.Rows L2 TL Q
def hd_F : List He.DefD := ([QH.dd ("_law_mix", none) "_law_mix" "_law_mix" s_law_mix,
  QH.dd ("_law_draws", none) "_law_draws" "_law_draws" s_law_draws,
  QH.dd ("_law_name", none) "_law_name" "_law_name" s_law_name,
  QH.dd ("_law_at", none) "_law_at" "_law_at" s_law_at,
  QH.dd ("_law_uses", none) "_law_uses" "_law_uses" s_law_uses,
  QH.dd ("reached", none) "reached" "reached" s_reached,
  QH.dd ("components", none) "components" "components" s_components,
  QH.dd ("_law_reach", none) "_law_reach" "_law_reach" s_law_reach,
  QH.dd ("_law_is_integer", none) "_law_is_integer" "_law_is_integer" s_law_is_integer,
  QH.dd ("_law_same", none) "_law_same" "_law_same" s_law_same,
  QH.dd ("_law_is_dict", none) "_law_is_dict" "_law_is_dict" s_law_is_dict,
  QH.dd ("law", none) "law" "law" s_law] : List He.DefD)
def hd_T : List QH.Ts := ([QH.tGlo "_law_mix",
  QH.tGlo "_law_draws",
  QH.tGlo "_law_name",
  QH.tGlo "_law_at",
  QH.tGlo "_law_uses",
  QH.tGlo "reached",
  QH.tGlo "components",
  QH.tGlo "_law_reach",
  QH.tGlo "_law_is_integer",
  QH.tGlo "_law_same",
  QH.tGlo "_law_is_dict",
  QH.tGlo "law",
  QH.tFree "bool",
  QH.tFree "dict",
  QH.tFree "int",
  QH.tFree "isinstance",
  QH.tFree "len",
  QH.tFree "list",
  QH.tFree "min",
  QH.tFree "range",
  QH.tFree "sorted",
  QH.tFree "str",
  QH.tFree "tuple"] : List QH.Ts)
def hd_N : List PySem.Str := (["reached",
  "components",
  "_law_mix",
  "_law_draws",
  "_law_at",
  "_law_is_integer",
  "_law_same",
  "_law_is_dict",
  "_law_name",
  "_law_uses",
  "_law_reach"] : List PySem.Str)
theorem hd_txt {K : Fr} {h : Heap} {mg : Str → Option Value} (X : K.In h) (G : h.Ns mainGlobals mg) (c : QH.Says hd_T hd_F K) {fdL : FuncData} (FL : Fun K "law" "law" s_law (He.fAd K ("law", none)) fdL) :
    ∃ T : Txt K mg, T.a_law = He.fAd K ("law", none) ∧ T.fd_law = fdL := by
  obtain ⟨d0, F0⟩ := c.f 0 (a := ("_law_mix", none)) (x := "_law_mix") (q := "_law_mix") (st := s_law_mix) rfl
  obtain ⟨d1, F1⟩ := c.f 1 (a := ("_law_draws", none)) (x := "_law_draws") (q := "_law_draws") (st := s_law_draws) rfl
  obtain ⟨d2, F2⟩ := c.f 2 (a := ("_law_name", none)) (x := "_law_name") (q := "_law_name") (st := s_law_name) rfl
  obtain ⟨d3, F3⟩ := c.f 3 (a := ("_law_at", none)) (x := "_law_at") (q := "_law_at") (st := s_law_at) rfl
  obtain ⟨d4, F4⟩ := c.f 4 (a := ("_law_uses", none)) (x := "_law_uses") (q := "_law_uses") (st := s_law_uses) rfl
  obtain ⟨d5, F5⟩ := c.f 5 (a := ("reached", none)) (x := "reached") (q := "reached") (st := s_reached) rfl
  obtain ⟨d6, F6⟩ := c.f 6 (a := ("components", none)) (x := "components") (q := "components") (st := s_components) rfl
  obtain ⟨d7, F7⟩ := c.f 7 (a := ("_law_reach", none)) (x := "_law_reach") (q := "_law_reach") (st := s_law_reach) rfl
  obtain ⟨d8, F8⟩ := c.f 8 (a := ("_law_is_integer", none)) (x := "_law_is_integer") (q := "_law_is_integer") (st := s_law_is_integer) rfl
  obtain ⟨d9, F9⟩ := c.f 9 (a := ("_law_same", none)) (x := "_law_same") (q := "_law_same") (st := s_law_same) rfl
  obtain ⟨d10, F10⟩ := c.f 10 (a := ("_law_is_dict", none)) (x := "_law_is_dict") (q := "_law_is_dict") (st := s_law_is_dict) rfl
  exact ⟨⟨He.fAd K ("_law_mix", none), _, F0, F0.binds (ps := ["_law_cell", "_law_k"]) (fun _ _ _ _ _ _ us hl => match us, hl with | [_, _], _ => rfl),
    QH.glo X G (c.t 0 rfl),
    He.fAd K ("_law_draws", none), _, F1, F1.binds (ps := ["_law_script"]) (fun _ _ _ _ _ _ us hl => match us, hl with | [_], _ => rfl),
    QH.glo X G (c.t 1 rfl),
    He.fAd K ("_law_name", none), _, F2, F2.binds (ps := ["_law_number"]) (fun _ _ _ _ _ _ us hl => match us, hl with | [_], _ => rfl),
    QH.glo X G (c.t 2 rfl),
    He.fAd K ("_law_at", none), _, F3, F3.binds (ps := ["_law_draws_here", "_law_index"]) (fun _ _ _ _ _ _ us hl => match us, hl with | [_, _], _ => rfl),
    QH.glo X G (c.t 3 rfl),
    He.fAd K ("_law_uses", none), _, F4, F4.binds (ps := ["_law_draws_here"]) (fun _ _ _ _ _ _ us hl => match us, hl with | [_], _ => rfl),
    QH.glo X G (c.t 4 rfl),
    He.fAd K ("reached", none), _, F5, F5.binds (ps := ["uses", "name"]) (fun _ _ _ _ _ _ us hl => match us, hl with | [_, _], _ => rfl),
    QH.glo X G (c.t 5 rfl),
    He.fAd K ("components", none), _, F6, F6.binds (ps := ["uses"]) (fun _ _ _ _ _ _ us hl => match us, hl with | [_], _ => rfl),
    QH.glo X G (c.t 6 rfl),
    He.fAd K ("_law_reach", none), _, F7, F7.binds (ps := ["_law_uses_here", "_law_name_here"]) (fun _ _ _ _ _ _ us hl => match us, hl with | [_, _], _ => rfl),
    QH.glo X G (c.t 7 rfl),
    He.fAd K ("_law_is_integer", none), _, F8, F8.binds (ps := ["_law_actual"]) (fun _ _ _ _ _ _ us hl => match us, hl with | [_], _ => rfl),
    QH.glo X G (c.t 8 rfl),
    He.fAd K ("_law_same", none), _, F9, F9.binds (ps := ["_law_actual", "_law_expected"]) (fun _ _ _ _ _ _ us hl => match us, hl with | [_, _], _ => rfl),
    QH.glo X G (c.t 9 rfl),
    He.fAd K ("_law_is_dict", none), _, F10, F10.binds (ps := ["_law_actual", "_law_expected"]) (fun _ _ _ _ _ _ us hl => match us, hl with | [_, _], _ => rfl),
    QH.glo X G (c.t 10 rfl),
    He.fAd K ("law", none), _, FL, FL.binds (ps := ["_law_script"]) (fun _ _ _ _ _ _ us hl => match us, hl with | [_], _ => rfl),
    QH.glo X G (c.t 11 rfl),
    QH.free X G (c.t 12 rfl),
    QH.free X G (c.t 13 rfl),
    QH.free X G (c.t 14 rfl),
    QH.free X G (c.t 15 rfl),
    QH.free X G (c.t 16 rfl),
    QH.free X G (c.t 17 rfl),
    QH.free X G (c.t 18 rfl),
    QH.free X G (c.t 19 rfl),
    QH.free X G (c.t 20 rfl),
    QH.free X G (c.t 21 rfl),
    QH.free X G (c.t 22 rfl)⟩, rfl, rfl⟩
theorem hd_all {l : PySem.W.OpenLaw} {w : World} {K : Fr} {h : Heap} {mg : Str → Option Value} {fa : Addr} (X : K.In h) (G : h.Ns mainGlobals mg) (hfa : mg "law" = some (.ref fa)) (c : QH.Says hd_T hd_F K) :
    ∃ fd : FuncData, (∀ (s : Shared) (v : Value), BindsTo s fd ⟨[v], []⟩ [("_law_script", v)]) ∧ ∀ base : Heap, K.In base → base.Ns mainGlobals mg → FnOk l.prog w K mg base (L2.CX l.prog w) 7 fa fd ["_law_script"] (spEnd K) := by
  obtain ⟨fdL, FL⟩ := c.f 11 (a := ("law", none)) (x := "law") (q := "law") (st := s_law) rfl
  have e := hfa.symm.trans (QH.glo X G (c.t 11 rfl))
  cases e
  obtain ⟨T, e1, e2⟩ := hd_txt X G c FL
  refine ⟨fdL, fun s v => ?_, fun base _ _ => ?_⟩
  · obtain ⟨_, _, _, _, _, _, _, _, _, e, _, _⟩ := FL.ex
    rw [e]
    exact .of_eq rfl
  · have z := fn_end law_true (ok_law (P := l.prog) (W := w) (base := base) T)
    rw [e1, e2] at z
    exact z
abbrev hd_R : PySem.W.OpenRow := PySem.W.OpenLaw.row PySem.Challenge.rw_quillrun_k08_components_in_order
abbrev hd_Q : Program := PySem.W.view hd_R.prog [13]
abbrev hd_K : PySem.W.Hook := QH.hook 5 hd_T hd_F
def hd_O (s : PySem.W.SharedT) : He.AlD := QH.obsAt 5 hd_T hd_F (HandSHeadRun.getT s)
set_option maxHeartbeats 0 in
theorem hd_run (w : World) : HandSHeadRun.RunEq hd_R hd_Q hd_K hd_O 30000 hd_N w := by
  intro os
  kernel_rfl
end LAW
open PySem PySem.W PyProof.Rows in
set_option maxRecDepth 100000 in
set_option maxHeartbeats 0 in
theorem PySem.Challenge.cw_quillrun_k08_components_in_order_holds : PySem.Challenge.rw_quillrun_k08_components_in_order.Holds := by
  w_on; o_law
  refine HandSHeadRun.head_any (r := OpenLaw.row PySem.Challenge.rw_quillrun_k08_components_in_order) (q := view (OpenLaw.row PySem.Challenge.rw_quillrun_k08_components_in_order).prog [13]) (H := LAW.hd_K) (ob := LAW.hd_O) (M := 30000) (loose := LAW.hd_N) (d := HandSHeadRun.topDef (OpenLaw.row PySem.Challenge.rw_quillrun_k08_components_in_order).prog 13) (kwd := []) (fun s => QH.obs_eq s)
    (by kernel_rfl) (fun s => by kernel_rfl) LAW.hd_run (by kernel_rfl) (by kernel_rfl) (by kernel_rfl) (by rfl) (by first | assumption | decide +kernel) (by decide +kernel) ⟨rfl, rfl, rfl, rfl, rfl, by decide +kernel⟩ ?hw ?hc
  case hw => w_witness2
  case hc =>
    refine QH.walk (l := PySem.Challenge.rw_quillrun_k08_components_in_order) (k := 7) (x := "_law_script") (ts := LAW.hd_T) (fn := LAW.hd_F) rfl (by kernel_rfl) ⟨rfl, by decide, by decide⟩ ?F
    intro w mg fa h K KX G hm c
    have e : (HandSHeadRun.topDef (OpenLaw.row PySem.Challenge.rw_quillrun_k08_components_in_order).prog 13).name = ("law" : PySem.Str) := by kernel_rfl
    rw [e] at hm
    exact LAW.hd_all KX G hm c

