import PyProof.Rows.All
import Wide.All
import OpenK.AllK
import Wide.FinOn
import HandS.ForMost
import HandS.IsInst
import HandS.Flow
import HandS.Walk
import HandS.WordsExc
import HandS.Exc
import HandS.TryOnly
import HandS.ExcOwn
import HandS.ExcInit
import HandS.ExcField
import HandS.Deep
import HandS.TupAny
import HandS.Zip
import HandS.NoneIn
import HandS.Dict
import HandS.WordsDict
import HandS.Iter
import HandS.SortInts
import HandS.StrMore
import HandS.Replace
import HandS.Codes
import HandS.Strs
import PyProof.StrLawsOcc
import PyProof.StrOps2
import HandS.ExcIs
import HandS.List
import HandS.More
import HandS.Style
import HandS.Comp
import HandS.Star
import KE.KDictLaws
import HandS.DictComp
import HandS.Wide
import HandS.TupMul
import HandS.ReplaceLit
import HandS.ReplaceList
import PyProof.StrLawsTight
import PyProof.StrLawsChain
import KE.SortData
import HandS.TupLe
import PyProof.FString5
import PyProof.DictUpdate
import KE.KStateDown
import Lean
import HandS.Ends
import HandS.Words
import HandS.Defaults
import HandS.Head0
import HandS.Head1
import HandS.Head2
import HandS.HeadHook1
import HandS.HeadHook2
import HandS.NestedK
import KE.KSuper
import KE.KExcSuper
import KE.IntTextLaws
import HandS.Text
import PySem.Challenge.RW_quillrun_k21_tokens_read_back
set_option Elab.async false
set_option linter.all false
set_option maxRecDepth 100000
/-! The layer Q: meanings (plain Lean functions over plain values and a store) of the text's defs, and why the machine does as they say. -/
namespace Q
open PySem PySem.Spec PyProof.Rows L2 TL

abbrev Fr := PySem.W.Frag
/-- plain values: fl a list that nobody changes any more, kl one of the written part, ref an object of the store, xv an exception in hand (its addresses, its class, its fields' place in the store) -/
inductive U where
  | non | bl (b : Bool) | int (i : Int) | str (s : List Nat) | tup (us : List U) | fl (us : List U) | kl (us : List U) | ref (n : Nat) | xv (a : Nat) (d : Option Nat) (C : Nat) (n : Option Nat)
/-- keys of dicts -/
abbrev DK := Sum Int (List Nat)
inductive O where
  | lst (us : List U)
  | dK (kvs : List (DK × U))
  | dT (kvs : List (List DK × U))
  | dKl (kvs : List (DK × U))
  | ins (C : Nat) (fs : List (Str × U))
  | xd (fs : List (Str × U))
abbrev Sto := List O
abbrev Env' := List (Option U)
inductive R (α : Type) where
  | ok (a : α) (h : Sto)
  | exc (C : Nat) (n : Option Nat) (h : Sto)
  | bad
inductive RS where
  | nx (e : Env') (h : Sto)
  | rt (u : U) (h : Sto)
  | bk (e : Env') (h : Sto)
  | ct (e : Env') (h : Sto)
  | ex (C : Nat) (n : Option Nat) (e : Env') (h : Sto)
  | bad
abbrev EM := Env' → Sto → R U
abbrev TM := Env' → Sto → R Bool
abbrev AM := Env' → Sto → R (List U)
abbrev SM := Env' → Sto → RS
abbrev GM := U → Env' → Sto → RS
abbrev IM := Env' → Sto → R (Option (Nat × List U) × List U)
def R.bind {α β : Type} (r : R α) (f : α → Sto → R β) : R β := match r with
  | .ok a h => f a h
  | .exc C n h => .exc C n h
  | .bad => .bad
theorem R.bind_ok {α β : Type} {a : α} {h : Sto} {f : α → Sto → R β} : (R.ok a h).bind f = f a h := rfl
structure G where
  al : List Addr
  F : Hp
structure Le (g g' : G) : Prop where
  al : ∃ b, g'.al = g.al ++ b
  F : ∀ a o, g.F a = some o → g'.F a = some o
theorem Le.refl (g : G) : Le g g := ⟨⟨[], by simp⟩, fun _ _ h => h⟩
theorem Le.trans {a b c : G} (x : Le a b) (y : Le b c) : Le a c := by
  obtain ⟨u, e1⟩ := x.al
  obtain ⟨v, e2⟩ := y.al
  exact ⟨⟨u ++ v, by rw [e2, e1, List.append_assoc]⟩, fun q o h => y.F q o (x.F q o h)⟩
theorem Le.get {g g' : G} (l : Le g g') {n : Nat} {a : Addr} (h : g.al[n]? = some a) : g'.al[n]? = some a := by
  obtain ⟨b, e⟩ := l.al
  rw [e, List.getElem?_append_left (List.getElem?_eq_some_iff.mp h).1]
  exact h

/-- the address of an exception's fields -/
def DOf (g : G) : Option Nat → Option Addr → Prop
  | none, d => d = none
  | some k, d => ∃ a, d = some a ∧ g.al[k]? = some a
theorem DOf.mono {g g' : G} (l : Le g g') : ∀ {n : Option Nat} {d : Option Addr}, DOf g n d → DOf g' n d
  | none, _, h => h
  | some _, _, ⟨a, e, h⟩ => ⟨a, e, l.get h⟩
mutual
inductive Rep (K : Fr) (g : G) : V → U → Prop
  | non : Rep K g .non .non
  | bl (b : Bool) : Rep K g (.bl b) (.bl b)
  | int (i : Int) : Rep K g (.int i) (.int i)
  | str (s : List Nat) : Rep K g (.str ⟨s.toArray⟩) (.str s)
  | tup {a : Addr} {vs : List V} {us : List U} (h : SqT K g.F a vs) (r : Reps K g vs us) : Rep K g (.ref a) (.tup us)
  | fl {a : Addr} {vs : List V} {us : List U} (h : g.F a = some (.lst vs)) (r : Reps K g vs us) : Rep K g (.ref a) (.fl us)
  | kl {a : Addr} {vs : List V} {us : List U} (h : SqL K g.F a vs) (r : Reps K g vs us) : Rep K g (.ref a) (.kl us)
  | ref {a : Addr} {n : Nat} (h : g.al[n]? = some a) : Rep K g (.ref a) (.ref n)
  | xv {a C : Nat} {d : Option Nat} {n : Option Nat} (h : DOf g n d) : Rep K g (.ref a) (.xv a d C n)
inductive Reps (K : Fr) (g : G) : List V → List U → Prop
  | nil : Reps K g [] []
  | cons {v : V} {u : U} {vs : List V} {us : List U} (h : Rep K g v u) (r : Reps K g vs us) : Reps K g (v :: vs) (u :: us)
end

theorem rd_mono {F F' : Hp} {a : Addr} {u : HO} (e : ∀ a o, F a = some o → F' a = some o) (h : Rd F a u) : Rd F' a u := by
  rcases h with h | ⟨o, h⟩
  · exact .inl (e a _ h)
  · exact .inr ⟨o, e a _ h⟩
theorem sql_mono {K : Fr} {F F' : Hp} {a : Addr} {xs : List V} (e : ∀ a o, F a = some o → F' a = some o) (h : SqL K F a xs) : SqL K F' a xs := by
  rcases h with h | h
  · exact .inl (rd_mono e h)
  · exact .inr h
theorem sqt_mono {K : Fr} {F F' : Hp} {a : Addr} {xs : List V} (e : ∀ a o, F a = some o → F' a = some o) (h : SqT K F a xs) : SqT K F' a xs := by
  rcases h with h | h
  · exact .inl (rd_mono e h)
  · exact .inr h

mutual
theorem Rep.mono {K : Fr} {g g' : G} (l : Le g g') : ∀ {v : V} {u : U}, Rep K g v u → Rep K g' v u
  | _, _, .non => .non
  | _, _, .bl b => .bl b
  | _, _, .int i => .int i
  | _, _, .str s => .str s
  | _, _, .tup h r => .tup (sqt_mono l.F h) (Reps.mono l r)
  | _, _, .fl h r => .fl (l.F _ _ h) (Reps.mono l r)
  | _, _, .kl h r => .kl (sql_mono l.F h) (Reps.mono l r)
  | _, _, .ref h => .ref (l.get h)
  | _, _, .xv h => .xv (h.mono l)
theorem Reps.mono {K : Fr} {g g' : G} (l : Le g g') : ∀ {vs : List V} {us : List U}, Reps K g vs us → Reps K g' vs us
  | _, _, .nil => .nil
  | _, _, .cons h r => .cons (Rep.mono l h) (Reps.mono l r)
end
section
variable {K : Fr} {g g' : G} {vs ws : List V} {us ts : List U} {v : V} {u : U}
theorem Reps.len : ∀ {vs : List V} {us : List U}, Reps K g vs us → vs.length = us.length
  | _, _, .nil => rfl
  | _, _, .cons _ r => by simp [Reps.len r]
theorem Reps.app : ∀ {vs ws : List V} {us ts : List U}, Reps K g vs us → Reps K g ws ts → Reps K g (vs ++ ws) (us ++ ts)
  | _, _, _, _, .nil, s => s
  | _, _, _, _, .cons h r, s => .cons h (Reps.app r s)
theorem Reps.one (h : Rep K g v u) : Reps K g [v] [u] := .cons h .nil
theorem Reps.get : ∀ {vs : List V} {us : List U} {i : Nat} {u : U}, Reps K g vs us → us[i]? = some u → ∃ v, vs[i]? = some v ∧ Rep K g v u
  | _, _, _, _, .nil, h => by simp at h
  | _, _, 0, _, .cons h r, e => by simp at e; subst e; exact ⟨_, rfl, h⟩
  | _, _, i + 1, _, .cons h r, e => by simpa using Reps.get (i := i) r (by simpa using e)
theorem Reps.drop : ∀ {vs : List V} {us : List U} (i : Nat), Reps K g vs us → Reps K g (vs.drop i) (us.drop i)
  | _, _, 0, r => r
  | _, _, _ + 1, .nil => .nil
  | _, _, i + 1, .cons _ r => Reps.drop i r
theorem Reps.take : ∀ {vs : List V} {us : List U} (i : Nat), Reps K g vs us → Reps K g (vs.take i) (us.take i)
  | _, _, 0, _ => .nil
  | _, _, _ + 1, .nil => .nil
  | _, _, i + 1, .cons h r => .cons h (Reps.take i r)
theorem Reps.set : ∀ {vs : List V} {us : List U} (i : Nat) {v : V} {u : U}, Rep K g v u → Reps K g vs us → Reps K g (vs.set i v) (us.set i u)
  | _, _, _, _, _, _, .nil => .nil
  | _, _, 0, _, _, h, .cons _ r => .cons h r
  | _, _, i + 1, _, _, h, .cons h' r => .cons h' (Reps.set i h r)
theorem Reps.dropLast : ∀ {vs : List V} {us : List U}, Reps K g vs us → Reps K g vs.dropLast us.dropLast := fun {vs us} r => by
  rw [List.dropLast_eq_take, List.dropLast_eq_take, r.len]
  exact r.take _
/-- ints, texts -/
theorem Reps.ints : ∀ {vs : List V} {ns : List Int}, Reps K g vs (ns.map U.int) → vs = ns.map V.int
  | _, [], .nil => rfl
  | _, _ :: _, .cons h r => by cases h; rw [Reps.ints r]; rfl
theorem Reps.ofInts : ∀ (ns : List Int), Reps K g (ns.map V.int) (ns.map U.int)
  | [] => .nil
  | n :: r => .cons (.int n) (Reps.ofInts r)
theorem Reps.strs : ∀ {vs : List V} {ns : List (List Nat)}, Reps K g vs (ns.map U.str) → vs = (ns.map fun s => (⟨s.toArray⟩ : Str)).map V.str
  | _, [], .nil => rfl
  | _, _ :: _, .cons h r => by cases h; rw [Reps.strs r]; rfl
end

/-- a key -/
def kk : DK → Key
  | .inl i => .inl i
  | .inr s => .inr ⟨s.toArray⟩
inductive RepK (K : Fr) (g : G) : List (Key × V) → List (DK × U) → Prop
  | nil : RepK K g [] []
  | cons {k : DK} {v : V} {u : U} {vs us} (h : Rep K g v u) (r : RepK K g vs us) : RepK K g ((kk k, v) :: vs) ((k, u) :: us)
inductive RepT (K : Fr) (g : G) : List (List Key × V) → List (List DK × U) → Prop
  | nil : RepT K g [] []
  | cons {k : List DK} {v : V} {u : U} {vs us} (h : Rep K g v u) (r : RepT K g vs us) : RepT K g ((k.map kk, v) :: vs) ((k, u) :: us)
inductive RepF (K : Fr) (g : G) : List (Str × V) → List (Str × U) → Prop
  | nil : RepF K g [] []
  | cons {k : Str} {v : V} {u : U} {vs us} (h : Rep K g v u) (r : RepF K g vs us) : RepF K g ((k, v) :: vs) ((k, u) :: us)
theorem RepK.mono {K : Fr} {g g' : G} (l : Le g g') : ∀ {vs us}, RepK K g vs us → RepK K g' vs us
  | _, _, .nil => .nil
  | _, _, .cons h r => .cons (h.mono l) (RepK.mono l r)
theorem RepT.mono {K : Fr} {g g' : G} (l : Le g g') : ∀ {vs us}, RepT K g vs us → RepT K g' vs us
  | _, _, .nil => .nil
  | _, _, .cons h r => .cons (h.mono l) (RepT.mono l r)
theorem RepF.mono {K : Fr} {g g' : G} (l : Le g g') : ∀ {vs us}, RepF K g vs us → RepF K g' vs us
  | _, _, .nil => .nil
  | _, _, .cons h r => .cons (h.mono l) (RepF.mono l r)

def ObR (K : Fr) (g : G) (H : Hp) (a : Addr) : O → Prop
  | .lst us => ∃ vs, H a = some (.lst vs) ∧ Reps K g vs us
  | .dK us => ∃ vs, H a = some (.dK vs) ∧ RepK K g vs us
  | .dT us => ∃ vs, H a = some (.dT vs) ∧ RepT K g vs us
  | .dKl us => ∃ od vs, g.F a = some (.frz od (.dK vs)) ∧ H a = some (.frz od (.dK vs)) ∧ RepK K g vs us
  | .ins C us => ∃ dx vs, H a = some (.ins C dx vs) ∧ RepF K g vs us
  | .xd us => ∃ vs, H a = some (.xd vs) ∧ RepF K g vs us
theorem ObR.mono {K : Fr} {g g' : G} {H H' : Hp} {a : Addr} (l : Le g g') (e : H' a = H a) : ∀ {o : O}, ObR K g H a o → ObR K g' H' a o
  | .lst _, ⟨vs, h, r⟩ => ⟨vs, e.trans h, r.mono l⟩
  | .dK _, ⟨vs, h, r⟩ => ⟨vs, e.trans h, r.mono l⟩
  | .dT _, ⟨vs, h, r⟩ => ⟨vs, e.trans h, r.mono l⟩
  | .dKl _, ⟨od, vs, f, h, r⟩ => ⟨od, vs, l.F _ _ f, e.trans h, r.mono l⟩
  | .ins _ _, ⟨dx, vs, h, r⟩ => ⟨dx, vs, e.trans h, r.mono l⟩
  | .xd _, ⟨vs, h, r⟩ => ⟨vs, e.trans h, r.mono l⟩
theorem ObR.is {K : Fr} {g : G} {H : Hp} {a : Addr} : ∀ {o : O}, ObR K g H a o → ∃ u, H a = some u
  | .lst _, ⟨vs, h, r⟩ => ⟨_, h⟩
  | .dK _, ⟨vs, h, r⟩ => ⟨_, h⟩
  | .dT _, ⟨vs, h, r⟩ => ⟨_, h⟩
  | .dKl _, ⟨od, vs, f, h, r⟩ => ⟨_, h⟩
  | .ins _ _, ⟨dx, vs, h, r⟩ => ⟨_, h⟩
  | .xd _, ⟨vs, h, r⟩ => ⟨_, h⟩
structure HR (K : Fr) (g : G) (H : Hp) (h : Sto) : Prop where
  ex : ∀ a o, g.F a = some o → H a = some o
  len : g.al.length = h.length
  nd : g.al.Nodup
  fr : ∀ a, a ∈ g.al → ∀ u, g.F a = some u → ∃ od vs, u = .frz od (.dK vs)
  ob : ∀ (n : Nat) a o, g.al[n]? = some a → h[n]? = some o → ObR K g H a o
section
variable {K : Fr} {g g' : G} {H H' : Hp} {h h' : Sto} {a p : Addr} {vs : List V} {us : List U} {v : V} {u : U} {n : Nat}
theorem HR.sqT (x : HR K g H h) (q : SqT K g.F a vs) : SqT K H a vs := sqt_mono x.ex q
theorem HR.sqL (x : HR K g H h) (q : SqL K g.F a vs) : SqL K H a vs := sql_mono x.ex q
theorem HR.get (x : HR K g H h) {o : O} (e : h[n]? = some o) : ∃ a, g.al[n]? = some a ∧ ObR K g H a o := by
  have h1 : n < g.al.length := by rw [x.len]; exact (List.getElem?_eq_some_iff.mp e).1
  exact ⟨g.al[n], List.getElem?_eq_getElem h1, x.ob n _ o (List.getElem?_eq_getElem h1) e⟩
theorem HR.is (x : HR K g H h) (m : a ∈ g.al) : ∃ u, H a = some u := by
  obtain ⟨n, hn, e⟩ := List.mem_iff_getElem.mp m
  have h1 : n < h.length := by rw [← x.len]; exact hn
  exact ObR.is (x.ob n a h[n] (by rw [List.getElem?_eq_getElem hn, e]) (List.getElem?_eq_getElem h1))
theorem HR.notF (x : HR K g H h) (q : H p = none) : g.F p = none := by
  cases e : g.F p with
  | none => rfl
  | some o => rw [x.ex p o e] at q; cases q
theorem HR.notA (x : HR K g H h) (q : H p = none) : p ∉ g.al := fun m => by
  obtain ⟨u, e⟩ := x.is m
  rw [e] at q; cases q
theorem HR.neA (x : HR K g H h) (q : H p = none) {n : Nat} (e : g.al[n]? = Option.some a) : a ≠ p := fun z => by
  subst z
  exact x.notA q (List.mem_of_getElem? e)
theorem HR.neM (x : HR K g H h) (q : H p = none) (e : a ∈ g.al) : a ≠ p := fun z => by
  subst z
  exact x.notA q e
/-- something that nobody here knows comes -/
theorem HR.skip (x : HR K g H h) (q : H p = none) (o : HO) : HR K g (upd H p o) h where
  ex := fun a u e => by rw [upd_ne (ne_of_none (x.ex a u e) q)]; exact x.ex a u e
  len := x.len
  nd := x.nd
  fr := x.fr
  ob := fun n a u e1 e2 => (x.ob n a u e1 e2).mono (Le.refl g) (upd_ne (x.neA q e1))
/-- a new thing that lasts -/
def G.put (g : G) (p : Addr) (o : HO) : G := ⟨g.al, upd g.F p o⟩
theorem Le.put (q : g.F p = none) (o : HO) : Le g (g.put p o) := ⟨⟨[], by simp [G.put]⟩, fun a u e => by
  show upd g.F p o a = some u
  rw [upd_ne (ne_of_none e q)]; exact e⟩
theorem HR.put (x : HR K g H h) (q : H p = none) (o : HO) : HR K (g.put p o) (upd H p o) h where
  ex := fun a u e => by
    by_cases z : a = p
    · subst z
      have e : upd g.F a o a = Option.some u := e
      rw [upd_same] at e; rw [upd_same]; exact e
    · have e : upd g.F p o a = Option.some u := e
      rw [upd_ne z] at e; rw [upd_ne z]; exact x.ex a u e
  len := x.len
  nd := x.nd
  fr := fun a m u e => by
    have e : upd g.F p o a = Option.some u := e
    rw [upd_ne (x.neM q m)] at e; exact x.fr a m u e
  ob := fun n a u e1 e2 => (x.ob n a u e1 e2).mono (Le.put (x.notF q) o) (upd_ne (x.neA q e1))
theorem HR.newTup (x : HR K g H h) (q : H p = none) (r : Reps K g vs us) : Le g (g.put p (.tup vs)) ∧ HR K (g.put p (.tup vs)) (upd H p (.tup vs)) h ∧ Rep K (g.put p (.tup vs)) (.ref p) (.tup us) := by
  have l := Le.put (g := g) (x.notF q) (.tup vs)
  exact ⟨l, x.put q _, .tup (.inl (.inl (show upd g.F p (.tup vs) p = _ from upd_same))) (r.mono l)⟩
/-- a new object of the store -/
def G.new (g : G) (p : Addr) : G := ⟨g.al ++ [p], g.F⟩
theorem Le.new : Le g (g.new p) := ⟨⟨[p], rfl⟩, fun _ _ e => e⟩
theorem HR.new (x : HR K g H h) (q : H p = none) {o : HO} {b : O} (r : ObR K (g.new p) (upd H p o) p b) : HR K (g.new p) (upd H p o) (h ++ [b]) where
  ex := fun a u e => by rw [upd_ne (ne_of_none (x.ex a u e) q)]; exact x.ex a u e
  len := by simp [G.new, x.len]
  nd := by
    show (g.al ++ [p]).Nodup
    rw [List.nodup_append]
    exact ⟨x.nd, by simp, fun a m b mb => by
      rw [List.mem_singleton] at mb
      subst mb
      exact fun z => x.notA q (z ▸ m)⟩
  fr := fun a m => by
    rcases List.mem_append.mp m with m | m
    · exact x.fr a m
    · rw [List.mem_singleton] at m
      subst m
      intro u e
      rw [show (g.new a).F a = none from x.notF q] at e; cases e
  ob := fun n a u e1 e2 => by
    have e1 : (g.al ++ [p])[n]? = Option.some a := e1
    by_cases hn : n < h.length
    · rw [List.getElem?_append_left (by rw [x.len]; exact hn)] at e1
      rw [List.getElem?_append_left hn] at e2
      exact (x.ob n a u e1 e2).mono Le.new (upd_ne (x.neA q e1))
    · have h2 : n < (h ++ [b]).length := (List.getElem?_eq_some_iff.mp e2).1
      have e3 : n = h.length := by simp at h2; omega
      subst e3
      rw [List.getElem?_append_right (Nat.le_refl _), Nat.sub_self] at e2
      rw [List.getElem?_append_right (by rw [x.len]; exact Nat.le_refl _), x.len, Nat.sub_self] at e1
      simp at e1 e2
      subst e1; subst e2
      exact r
theorem HR.newRef (x : HR K g H h) : Rep K (g.new p) (.ref p) (.ref h.length) := .ref (by
  show (g.al ++ [p])[h.length]? = _
  rw [← x.len]; simp)
theorem HR.newLst (x : HR K g H h) (q : H p = none) (r : Reps K g vs us) : HR K (g.new p) (upd H p (.lst vs)) (h ++ [.lst us]) :=
  x.new q ⟨vs, upd_same, r.mono Le.new⟩
/-- an object of the store changes -/
theorem HR.set (x : HR K g H h) (e : g.al[n]? = some a) (nf : ∀ od u, H a ≠ some (.frz od u)) {o : HO} {b : O} (r : ObR K g (upd H a o) a b) : HR K g (upd H a o) (h.set n b) where
  ex := fun c u q => by
    have : c ≠ a := fun z => by
      obtain ⟨od, vs, rfl⟩ := x.fr a (List.mem_of_getElem? e) u (z ▸ q)
      exact nf _ _ (z ▸ x.ex c _ q)
    rw [upd_ne this]; exact x.ex c u q
  len := by simp [x.len]
  nd := x.nd
  fr := x.fr
  ob := fun m c u e1 e2 => by
    by_cases hm : m = n
    · subst hm
      rw [e] at e1; cases e1
      have hl : m < h.length := by rw [← x.len]; exact (List.getElem?_eq_some_iff.mp e).1
      rw [List.getElem?_set_self hl] at e2
      cases e2
      exact r
    · rw [List.getElem?_set_ne (Ne.symm hm)] at e2
      have ne : c ≠ a := fun z => by
        subst z
        exact hm (nd_ix x.nd e1 e)
      exact (x.ob m c u e1 e2).mono (Le.refl g) (upd_ne ne)
theorem HR.setLst (x : HR K g H h) (e : g.al[n]? = some a) {ws : List V} (nf : H a = some (.lst ws)) (r : Reps K g vs us) : HR K g (upd H a (.lst vs)) (h.set n (.lst us)) := x.set e (fun _ _ z => by rw [nf] at z; cases z) ⟨vs, upd_same, r⟩
theorem HR.lst (x : HR K g H h) (e : h[n]? = some (.lst us)) (q : g.al[n]? = some a) : ∃ vs, H a = some (.lst vs) ∧ Reps K g vs us := x.ob n a _ q e
end

/-! ### the judgements -/
def ER (K : Fr) (g : G) (σ : L2.St) (env : Env') : Prop := σ.length = env.length ∧ ∀ (i : Nat) u, env[i]? = some (some u) → ∃ v, σ[i]? = some (some v) ∧ Rep K g v u
theorem ER.mono {K : Fr} {g g' : G} {σ : L2.St} {env : Env'} (l : Le g g') (e : ER K g σ env) : ER K g' σ env := ⟨e.1, fun i u q => by
  obtain ⟨v, a, b⟩ := e.2 i u q
  exact ⟨v, a, b.mono l⟩⟩
theorem ER.set {K : Fr} {g : G} {σ : L2.St} {env : Env'} {v : V} {u : U} (e : ER K g σ env) (i : Nat) (r : Rep K g v u) : ER K g (σ.set i (some v)) (env.set i (some u)) := by
  refine ⟨by simp [e.1], fun j w q => ?_⟩
  by_cases hj : i = j
  · subst hj
    by_cases hl : i < env.length
    · rw [List.getElem?_set_self hl] at q
      cases q
      exact ⟨v, by rw [List.getElem?_set_self (by rw [e.1]; exact hl)], r⟩
    · rw [List.getElem?_eq_none (by simpa using hl)] at q
      cases q
  · rw [List.getElem?_set_ne hj] at q
    obtain ⟨v', a, b⟩ := e.2 j w q
    exact ⟨v', by rw [List.getElem?_set_ne hj]; exact a, b⟩

/-- what is wished of an exception at the slots σ -/
def atSl (W : WX) (σ : L2.St) : XK := fun c d H => W c d σ H
def WE (K : Fr) (E : XK) (g : G) (r : R U) (Q : VK) : Prop := match r with
  | .ok u h => ∀ v H g', Le g g' → HR K g' H h → Rep K g' v u → Q v H
  | .exc C n h => ∀ H g' d, Le g g' → HR K g' H h → DOf g' n d → E (.ref C) d H
  | .bad => False
def WT (K : Fr) (E : XK) (g : G) (r : R Bool) (Q : Bool → Hp → Prop) : Prop := match r with
  | .ok b h => ∀ H g', Le g g' → HR K g' H h → Q b H
  | .exc C n h => ∀ H g' d, Le g g' → HR K g' H h → DOf g' n d → E (.ref C) d H
  | .bad => False
def WA (K : Fr) (E : XK) (g : G) (r : R (List U)) (Q : List V → Hp → Prop) : Prop := match r with
  | .ok us h => ∀ vs H g', Le g g' → HR K g' H h → Reps K g' vs us → Q vs H
  | .exc C n h => ∀ H g' d, Le g g' → HR K g' H h → DOf g' n d → E (.ref C) d H
  | .bad => False
def WS (K : Fr) (W : WX) (g : G) (r : RS) (D : Ends) : Prop := match r with
  | .nx e h => ∀ σ H g', Le g g' → HR K g' H h → ER K g' σ e → D.nx σ H
  | .rt u h => ∀ v H g', Le g g' → HR K g' H h → Rep K g' v u → D.rt v H
  | .bk e h => ∀ σ H g', Le g g' → HR K g' H h → ER K g' σ e → D.bk σ H
  | .ct e h => ∀ σ H g', Le g g' → HR K g' H h → ER K g' σ e → D.ct σ H
  | .ex C n e h => ∀ σ H g' d, Le g g' → HR K g' H h → ER K g' σ e → DOf g' n d → W (.ref C) d σ H
  | .bad => False
section
variable {K : Fr} {g g' : G} {X : Cx} {E : XK} {W : WX}
theorem WE.mono {r : R U} {Q : VK} (l : Le g g') (w : WE K E g r Q) : WE K E g' r Q := by
  cases r with
  | ok u h => exact fun v H g2 l2 => w v H g2 (l.trans l2)
  | exc C n h => exact fun H g2 d l2 => w H g2 d (l.trans l2)
  | bad => exact w
theorem WT.mono {r : R Bool} {Q : Bool → Hp → Prop} (l : Le g g') (w : WT K E g r Q) : WT K E g' r Q := by
  cases r with
  | ok u h => exact fun H g2 l2 => w H g2 (l.trans l2)
  | exc C n h => exact fun H g2 d l2 => w H g2 d (l.trans l2)
  | bad => exact w
theorem WA.mono {r : R (List U)} {Q : List V → Hp → Prop} (l : Le g g') (w : WA K E g r Q) : WA K E g' r Q := by
  cases r with
  | ok u h => exact fun v H g2 l2 => w v H g2 (l.trans l2)
  | exc C n h => exact fun H g2 d l2 => w H g2 d (l.trans l2)
  | bad => exact w
theorem WS.mono {r : RS} {D : Ends} (l : Le g g') (w : WS K W g r D) : WS K W g' r D := by
  cases r with
  | nx e h => exact fun σ H g2 l2 => w σ H g2 (l.trans l2)
  | rt u h => exact fun v H g2 l2 => w v H g2 (l.trans l2)
  | bk e h => exact fun σ H g2 l2 => w σ H g2 (l.trans l2)
  | ct e h => exact fun σ H g2 l2 => w σ H g2 (l.trans l2)
  | ex C n e h => exact fun σ H g2 d l2 => w σ H g2 d (l.trans l2)
  | bad => exact w
def tM (K : Fr) (W : WX) (m : EM) : TE := fun σ H Q => ∃ g env h, HR K g H h ∧ ER K g σ env ∧ WE K (atSl W σ) g (m env h) Q
def bM (K : Fr) (W : WX) (m : TM) : TT := fun σ H Q => ∃ g env h, HR K g H h ∧ ER K g σ env ∧ WT K (atSl W σ) g (m env h) Q
def aM (K : Fr) (W : WX) (m : AM) : TA := fun σ H Q => ∃ g env h, HR K g H h ∧ ER K g σ env ∧ WA K (atSl W σ) g (m env h) Q
def sM (K : Fr) (W : WX) (m : SM) : TS := fun D σ H => ∃ g env h, HR K g H h ∧ ER K g σ env ∧ WS K W g (m env h) D
theorem PE.weak {e : Expr} {t t' : TE} (p : PE X e t) (h : ∀ σ H Q, t' σ H Q → t σ H Q) : PE X e t' := ⟨fun pins s σ H Q I q => p.run pins s σ H Q I (h σ H Q q)⟩
theorem PT.weak {e : Expr} {t t' : TT} (p : PT X e t) (h : ∀ σ H Q, t' σ H Q → t σ H Q) : PT X e t' := ⟨fun pins s σ H Q I q => p.run pins s σ H Q I (h σ H Q q)⟩
theorem PW.weak {e : Expr} {t t' : TT} (p : PW X e t) (h : ∀ σ H Q, t' σ H Q → t σ H Q) : PW X e t' := ⟨fun wh pins s σ H Q I q => p.run wh pins s σ H Q I (h σ H Q q)⟩
theorem PA.weak {e : List Expr} {t t' : TA} (p : PA X e t) (h : ∀ σ H Q, t' σ H Q → t σ H Q) : PA X e t' := ⟨fun pos pins s σ H Q I q => p.run pos pins s σ H Q I (h σ H Q q)⟩
theorem PS.weak {e : Stmt} {t t' : TS} (p : PS X e t) (h : ∀ D σ H, t' D σ H → t D σ H) : PS X e t' := ⟨fun pins s σ H D I q => p.run pins s σ H D I (h D σ H q)⟩
theorem PSs.weak {e : List Stmt} {t t' : TS} (p : PSs X e t) (h : ∀ D σ H, t' D σ H → t D σ H) : PSs X e t' := ⟨fun pins s σ H D I q => p.run pins s σ H D I (h D σ H q)⟩
theorem PG.weak {e : Expr} {t t' : TG} (p : PG X e t) (h : ∀ v σ H Q, t' v σ H Q → t v σ H Q) : PG X e t' := ⟨fun pins s σ H v u Q I r q => p.run pins s σ H v u Q I r (h v σ H Q q)⟩
end
end Q

set_option Elab.async false
set_option linter.all false
set_option maxRecDepth 100000
set_option maxHeartbeats 1000000
namespace Q
open PySem PySem.Spec PyProof.Rows L2 TL
section
variable {K : Fr} {g g' : G} {E : XK} {W : WX} {X : Cx} {H : Hp} {h : Sto} {v w : V} {x y : U}
/-! ### what a value is -/
/-- the items of a list that stands by itself -/
def mL (h : Sto) : U → Option (List U)
  | .fl us => some us
  | .ref n => match h[n]? with
    | some (.lst us) => some us
    | _ => none
  | _ => none
/-- of any list -/
def aL (h : Sto) : U → Option (List U)
  | .kl us => some us
  | x => mL h x
/-- of a list or a tuple -/
def sL (h : Sto) : U → Option (List U)
  | .tup us => some us
  | x => aL h x
theorem mL_of {us : List U} (hr : HR K g H h) (r : Rep K g v x) (e : mL h x = some us) : ∃ a vs, v = .ref a ∧ H a = some (.lst vs) ∧ Reps K g vs us := by
  cases r with
  | fl q s => cases e; exact ⟨_, _, rfl, hr.ex _ _ q, s⟩
  | ref q =>
    rename_i a n
    cases e2 : h[n]? with
    | none => simp [mL, e2] at e
    | some o =>
      cases o with
      | lst ts =>
        simp [mL, e2] at e
        subst e
        obtain ⟨vs, h1, h2⟩ := hr.ob n a _ q e2
        exact ⟨_, _, rfl, h1, h2⟩
      | _ => simp [mL, e2] at e
  | _ => simp [mL] at e
theorem aL_of {us : List U} (hr : HR K g H h) (r : Rep K g v x) (e : aL h x = some us) : ∃ a vs, v = .ref a ∧ SqL K H a vs ∧ Reps K g vs us := by
  cases r with
  | kl q s => cases e; exact ⟨_, _, rfl, hr.sqL q, s⟩
  | fl q s => cases e; exact ⟨_, _, rfl, .inl (.inl (hr.ex _ _ q)), s⟩
  | ref q =>
    obtain ⟨a, vs, h1, h2, h3⟩ := mL_of hr (.ref q) (show mL h (.ref _) = _ from e)
    exact ⟨a, vs, h1, .inl (.inl h2), h3⟩
  | _ => simp [aL, mL] at e
theorem sL_of {us : List U} (hr : HR K g H h) (r : Rep K g v x) (e : sL h x = some us) : ∃ a vs, v = .ref a ∧ (SqL K H a vs ∨ SqT K H a vs) ∧ Reps K g vs us := by
  cases r with
  | tup q s => cases e; exact ⟨_, _, rfl, .inr (hr.sqT q), s⟩
  | kl q s => cases e; exact ⟨_, _, rfl, .inl (hr.sqL q), s⟩
  | fl q s => cases e; exact ⟨_, _, rfl, .inl (.inl (.inl (hr.ex _ _ q))), s⟩
  | ref q =>
    obtain ⟨a, vs, h1, h2, h3⟩ := mL_of hr (.ref q) (show mL h (.ref _) = _ from e)
    exact ⟨a, vs, h1, .inl (.inl (.inl h2)), h3⟩
  | _ => simp [sL, aL, mL] at e
theorem tup_of {us : List U} (hr : HR K g H h) (r : Rep K g v (.tup us)) : ∃ a vs, v = .ref a ∧ SqT K H a vs ∧ Reps K g vs us := by
  cases r with
  | tup q s => exact ⟨_, _, rfl, hr.sqT q, s⟩

/-- data of any depth -/
def allO {α : Type} (f : U → Option α) : List U → Option (List α)
  | [] => some []
  | u :: us => match f u, allO f us with
    | some d, some ds => some (d :: ds)
    | _, _ => none
def pyd : Nat → Sto → U → Option PyData
  | 0, _, _ => none
  | n + 1, h, x => match x with
    | .non => some .none
    | .bl b => some (.bool b)
    | .int i => some (.int i)
    | .str s => some (.str ⟨s.toArray⟩)
    | .tup us => (allO (pyd n h) us).map .tuple
    | x => match aL h x with
      | some us => (allO (pyd n h) us).map .list
      | none => none
theorem dpAll_of {f : U → Option PyData} (ih : ∀ (v : V) (x : U) (d : PyData), Rep K g v x → f x = some d → Dp K H v d) : ∀ {vs : List V} {us : List U} {ds : List PyData}, Reps K g vs us → allO f us = some ds → DpAll K H vs ds
  | _, _, _, .nil, e => by cases e; exact .nil
  | _, _, ds, .cons r rs, e => by
    unfold allO at e
    split at e
    · rename_i d ds' e1 e2
      cases e
      exact .cons (ih _ _ _ r e1) (dpAll_of ih rs e2)
    · cases e
theorem dp_of (hr : HR K g H h) : ∀ (n : Nat) (v : V) (x : U) (d : PyData), Rep K g v x → pyd n h x = some d → Dp K H v d
  | 0, _, _, _, _, e => by cases e
  | n + 1, v, x, d, r, e => by
    have ls : ∀ {us : List U}, aL h x = some us → (allO (pyd n h) us).map PyData.list = some d → Dp K H v d := by
      intro us e1 e2
      obtain ⟨a, vs, rfl, q, rs⟩ := aL_of hr r e1
      cases e3 : allO (pyd n h) us with
      | none => rw [e3] at e2; cases e2
      | some ds =>
        rw [e3] at e2
        cases e2
        exact .lst q (dpAll_of (dp_of hr n) rs e3)
    cases r with
    | non => cases e; exact .non
    | bl b => cases e; exact .bl b
    | int i => cases e; exact .int i
    | str s => cases e; exact .str _
    | @tup a vs us q rs =>
      have e : (allO (pyd n h) us).map PyData.tuple = some d := e
      cases e3 : allO (pyd n h) us with
      | none => rw [e3] at e; cases e
      | some ds =>
        rw [e3] at e
        cases e
        exact .tup (hr.sqT q) (dpAll_of (dp_of hr n) rs e3)
    | @fl a vs us q rs => exact ls (us := us) rfl e
    | @kl a vs us q rs => exact ls (us := us) rfl e
    | @ref a m q =>
      have e : (match aL h (.ref m) with
        | some us => (allO (pyd n h) us).map PyData.list
        | none => none) = some d := e
      split at e
      · rename_i us e1
        exact ls e1 e
      · cases e
    | xv q => cases e
/-- equality of data -/
def eqP (h : Sto) (x y : U) : Option Bool := match pyd 60 h x, pyd 60 h y with
  | some d, some e => if SeqAt.shaped d = true ∧ SeqAt.shaped e = true then some (PyData.eqv d e) else none
  | _, _ => none
theorem eqP_of {b : Bool} (hr : HR K g H h) (rx : Rep K g v x) (ry : Rep K g w y) (e : eqP h x y = some b) : ∃ d e, Dp K H v d ∧ Dp K H w e ∧ SeqAt.shaped d = true ∧ SeqAt.shaped e = true ∧ PyData.eqv d e = b := by
  unfold eqP at e
  split at e
  · rename_i d1 d2 e1 e2
    split at e
    · rename_i z
      cases e
      exact ⟨d1, d2, dp_of hr _ _ _ _ rx e1, dp_of hr _ _ _ _ ry e2, z.1, z.2, rfl⟩
    · cases e
  · cases e
/-! ### operators by values -/
def BinOK (K : Fr) (r : R2) (f : U → U → Sto → R U) : Prop := ∀ E g H h v w x y Q, HR K g H h → Rep K g v x → Rep K g w y → WE K E g (f x y h) Q → r v w H Q
def mVar (i : Nat) : EM := fun env h => match env[i]? with
  | some (some u) => .ok u h
  | _ => .bad
def mC (u : U) : EM := fun _ h => .ok u h
def mBin (f : U → U → Sto → R U) (a b : EM) : EM := fun env h => (a env h).bind fun x h1 => (b env h1).bind fun y h2 => f x y h2
theorem se_var {i : Nat} {x : Str} {pos : Pos} (hN : X.N[i]? = some x := by rfl) (hv : Vis X.env.scope x := by first | exact Or.inl rfl | exact Or.inr (Or.inl rfl) | exact Or.inr (Or.inr rfl))
    (hd : (x == ("__debug__" : Str)) = false := by decide) (hcd : (x == ("__classdict__" : Str)) = false := by decide) : PE X (.Name x pos) (tM K W (mVar i)) := by
  refine PE.weak (pe_var hN hv hd hcd) fun σ H Q q => ?_
  obtain ⟨g, env, h, hr, er, w⟩ := q
  unfold mVar at w
  split at w
  · rename_i u e
    obtain ⟨v, a, b⟩ := er.2 i u e
    exact ⟨v, a, w v H g (Le.refl g) hr b⟩
  · exact w.elim
theorem se_int {i j pos} : PE X (.Constant (.int i) j pos) (tM K W (mC (.int i))) := PE.weak pe_int fun σ H Q ⟨g, env, h, hr, er, w⟩ => w _ H g (Le.refl g) hr (.int i)
theorem se_bl {i j pos} : PE X (.Constant (.bool i) j pos) (tM K W (mC (.bl i))) := PE.weak pe_bl fun σ H Q ⟨g, env, h, hr, er, w⟩ => w _ H g (Le.refl g) hr (.bl i)
theorem se_non {j pos} : PE X (.Constant .none j pos) (tM K W (mC .non)) := PE.weak pe_non fun σ H Q ⟨g, env, h, hr, er, w⟩ => w _ H g (Le.refl g) hr .non
theorem se_str {x : Str} {s : List Nat} {j pos} (e : x.cps.toList = s := by rfl) : PE X (.Constant (.str x) j pos) (tM K W (mC (.str s))) := by
  subst e
  exact PE.weak pe_str fun σ H Q ⟨g, env, h, hr, er, w⟩ => w _ H g (Le.refl g) hr (.str _)
theorem bin_to {a b : EM} {f : U → U → Sto → R U} {r : R2} (ok : BinOK K r f) {σ : L2.St} {Q : VK} (t : tM K W (mBin f a b) σ H Q) : tOp r (tM K W a) (tM K W b) σ H Q := by
  obtain ⟨g, env, h, hr, er, w⟩ := t
  refine ⟨g, env, h, hr, er, ?_⟩
  unfold mBin at w
  cases ea : a env h with
  | bad => rw [ea] at w; exact w.elim
  | exc C n h => rw [ea] at w; exact w
  | ok x h1 =>
    rw [ea] at w
    have w : WE K (atSl W σ) g ((b env h1).bind fun y h2 => f x y h2) Q := w
    intro v H1 g1 l1 hr1 rv
    refine ⟨g1, env, h1, hr1, er.mono l1, ?_⟩
    cases eb : b env h1 with
    | bad => rw [eb] at w; exact w.elim
    | exc C n h => rw [eb] at w; exact fun H2 g2 d l2 => w H2 g2 d (l1.trans l2)
    | ok y h2 =>
      rw [eb] at w
      intro u H2 g2 l2 hr2 ru
      exact ok _ g2 H2 h2 v u x y Q hr2 (rv.mono l2) ru (WE.mono (l1.trans l2) w)
theorem se_bin {op : Operator} {r : R2} {f : U → U → Sto → R U} {a b : Expr} {ma mb : EM} {pos : Pos} (ho : OpR X (binaryOp op) r) (ok : BinOK K r f) (ha : PE X a (tM K W ma)) (hb : PE X b (tM K W mb)) :
    PE X (.BinOp a op b pos) (tM K W (mBin f ma mb)) := PE.weak (pe_op ho ha hb) fun σ H Q t => bin_to ok t

theorem str_app (s t : List Nat) : ((⟨s.toArray⟩ : Str) ++ (⟨t.toArray⟩ : Str)) = ⟨(s ++ t).toArray⟩ := by
  apply ext_tl
  rw [tl_append, tl_mk, tl_mk, tl_mk]
theorem str_len (s : List Nat) : (⟨s.toArray⟩ : Str).length = s.length := by rw [len_tl, tl_mk]
def uAdd (x y : U) (h : Sto) : R U := match x, y with
  | .int i, .int j => .ok (.int (i + j)) h
  | .str s, .str t => if s.length + t.length ≤ 16000000 then .ok (.str (s ++ t)) h else .bad
  | .tup s, .tup t => if s.length + t.length ≤ 16000000 then .ok (.tup (s ++ t)) h else .bad
  | x, y => match mL h x, mL h y with
    | some us, some ts => if us.length + ts.length ≤ 16000000 then .ok (.ref h.length) (h ++ [.lst (us ++ ts)]) else .bad
    | _, _ => .bad
abbrev rAddA (K : Fr) : R2 := fun x y H Q => (∃ i j, x = V.int i ∧ y = V.int j ∧ Q (.int (i + j)) H) ∨ (∃ i j, x = V.str i ∧ y = V.str j ∧ i.length + j.length ≤ sizeLine ∧ Q (.str (i ++ j)) H) ∨ rCatA K x y H Q ∨ rCat x y H Q
theorem opr_add : OpR X (binaryOp .Add) (rAddA X.K) := op_add.or (op_add_str.or (op_catA.or op_cat))
theorem sz16 {n : Nat} (h : n ≤ 16000000) : n ≤ sizeLine := Nat.le_trans h (by decide)
theorem ok_add : BinOK K (rAddA K) uAdd := by
  intro E g H h v w x y Q hr rx ry t
  unfold uAdd at t
  split at t
  · cases rx; cases ry
    exact .inl ⟨_, _, rfl, rfl, t _ _ g (Le.refl g) hr (.int _)⟩
  · cases rx; cases ry
    split at t
    · rename_i z
      refine .inr (.inl ⟨_, _, rfl, rfl, by rw [str_len, str_len]; exact sz16 z, ?_⟩)
      rw [str_app]
      exact t _ _ g (Le.refl g) hr (.str _)
    · exact t.elim
  · rename_i us ts
    split at t
    · rename_i z
      obtain ⟨a, vs, rfl, h1, r1⟩ := tup_of hr rx
      obtain ⟨b, ws, rfl, h2, r2⟩ := tup_of hr ry
      refine .inr (.inr (.inl ⟨a, b, vs, ws, rfl, rfl, h1, h2, by rw [r1.len, r2.len]; exact sz16 z, fun e => ?_, fun _ e => ?_, fun _ _ p hp => ?_⟩))
      · subst e
        cases r1
        exact t _ _ g (Le.refl g) hr ry
      · subst e
        cases r2
        rw [List.append_nil] at t
        exact t _ _ g (Le.refl g) hr rx
      · obtain ⟨l, a1, a2⟩ := hr.newTup hp (r1.app r2)
        exact t _ _ _ l a1 a2
    · exact t.elim
  · split at t
    · rename_i us ts e1 e2
      split at t
      · rename_i z
        obtain ⟨a, vs, rfl, h1, r1⟩ := mL_of hr rx e1
        obtain ⟨b, ws, rfl, h2, r2⟩ := mL_of hr ry e2
        refine .inr (.inr (.inr ⟨a, b, vs, ws, rfl, rfl, h1, h2, by rw [r1.len, r2.len]; exact sz16 z, fun p hp => ?_⟩))
        exact t _ _ (g.new p) Le.new (hr.newLst hp (r1.app r2)) hr.newRef
      · exact t.elim
    · exact t.elim
theorem se_add {a b : Expr} {ma mb : EM} {pos : Pos} (ha : PE X a (tM X.K W ma)) (hb : PE X b (tM X.K W mb)) : PE X (.BinOp a .Add b pos) (tM X.K W (mBin uAdd ma mb)) := se_bin opr_add ok_add ha hb
/-- ints under a condition -/
def uI (c : Int → Int → Prop) [∀ i j, Decidable (c i j)] (f : Int → Int → Int) (x y : U) (h : Sto) : R U := match x, y with
  | .int i, .int j => if c i j then .ok (.int (f i j)) h else .bad
  | _, _ => .bad
theorem ok_I {C : Int → Int → Prop} {c : Int → Int → Prop} [∀ i j, Decidable (c i j)] {f : Int → Int → Int} (hc : ∀ i j, c i j → C i j) : BinOK K (rI C fun i j => .int (f i j)) (uI c f) := by
  intro E g H h v w x y Q hr rx ry t
  unfold uI at t
  split at t
  · cases rx; cases ry
    split at t
    · rename_i z
      exact ⟨_, _, rfl, rfl, hc _ _ z, t _ _ g (Le.refl g) hr (.int _)⟩
    · exact t.elim
  · exact t.elim
def cT (_ _ : Int) : Prop := True
instance : ∀ i j, Decidable (cT i j) := fun _ _ => isTrue trivial
def cMul (i j : Int) : Prop := (-18446744073709551616 < i ∧ i < 18446744073709551616) ∨ (-18446744073709551616 < j ∧ j < 18446744073709551616)
instance : ∀ i j, Decidable (cMul i j) := fun i j => by unfold cMul; exact inferInstance
def cDiv (_ j : Int) : Prop := 0 < j ∧ j < 1073741824
instance : ∀ i j, Decidable (cDiv i j) := fun i j => by unfold cDiv; exact inferInstance
def cMod (_ j : Int) : Prop := 0 < j
instance : ∀ i j, Decidable (cMod i j) := fun i j => by unfold cMod; exact inferInstance
def cPow (i j : Int) : Prop := 0 ≤ j ∧ j ≤ 1000 ∧ 0 ≤ i ∧ i < 1000
instance : ∀ i j, Decidable (cPow i j) := fun i j => by unfold cPow; exact inferInstance
abbrev uSub := uI cT (fun i j => i - j)
abbrev uMul := uI cMul (fun i j => i * j)
abbrev uDiv := uI cDiv (fun i j => i / j)
abbrev uMod := uI cMod (fun i j => i % j)
abbrev uPow := uI cPow (fun i j => i ^ j.toNat)
theorem se_sub {a b : Expr} {ma mb : EM} {pos : Pos} (ha : PE X a (tM K W ma)) (hb : PE X b (tM K W mb)) : PE X (.BinOp a .Sub b pos) (tM K W (mBin uSub ma mb)) :=
  PE.weak (pe_op op_sub ha hb) fun σ H Q t => bin_to (r := rI0 fun i j => .int (i - j)) (fun E g H h v w x y Q hr rx ry t => by
    obtain ⟨i, j, e1, e2, _, q⟩ := ok_I (C := fun _ _ => True) (c := cT) (fun _ _ _ => trivial) E g H h v w x y Q hr rx ry t
    exact ⟨i, j, e1, e2, q⟩) t
theorem se_mul {a b : Expr} {ma mb : EM} {pos : Pos} (ha : PE X a (tM K W ma)) (hb : PE X b (tM K W mb)) : PE X (.BinOp a .Mult b pos) (tM K W (mBin uMul ma mb)) :=
  se_bin op_mul (ok_I fun i j c => by unfold cMul at c; unfold CMul; omega) ha hb
theorem se_div {a b : Expr} {ma mb : EM} {pos : Pos} (ha : PE X a (tM K W ma)) (hb : PE X b (tM K W mb)) : PE X (.BinOp a .FloorDiv b pos) (tM K W (mBin uDiv ma mb)) := se_bin op_fdiv (ok_I fun _ _ c => c) ha hb
theorem se_mod {a b : Expr} {ma mb : EM} {pos : Pos} (ha : PE X a (tM K W ma)) (hb : PE X b (tM K W mb)) : PE X (.BinOp a .Mod b pos) (tM K W (mBin uMod ma mb)) := se_bin op_mod (ok_I fun _ _ c => c) ha hb
theorem se_pow {a b : Expr} {ma mb : EM} {pos : Pos} (ha : PE X a (tM K W ma)) (hb : PE X b (tM K W mb)) : PE X (.BinOp a .Pow b pos) (tM K W (mBin uPow ma mb)) :=
  se_bin op_pow (ok_I fun i j c => by unfold cPow at c; unfold CPow; omega) ha hb
/-- -a -/
def mNeg (a : EM) : EM := fun env h => (a env h).bind fun x h1 => match x with
  | .int i => .ok (.int (-i)) h1
  | _ => .bad
/-! ### comparisons -/
def CmpOK (K : Fr) (r : R2) (f : Sto → U → U → Option Bool) : Prop := ∀ g H h v w x y (b : Bool) Q, HR K g H h → Rep K g v x → Rep K g w y → f h x y = some b → Q (.bl b) H → r v w H Q
def oB (o : Option Bool) (h : Sto) : R Bool := match o with
  | some b => .ok b h
  | none => .bad
def bCmp (f : Sto → U → U → Option Bool) (a b : EM) : TM := fun env h => (a env h).bind fun x h1 => (b env h1).bind fun y h2 => oB (f h2 x y) h2
/-- a test as a value -/
def mB (t : TM) : EM := fun env h => (t env h).bind fun b h1 => .ok (.bl b) h1
theorem cmp_to {a b : EM} {f : Sto → U → U → Option Bool} {r : R2} (ok : CmpOK K r f) {σ : L2.St} {Q : VK} {P : Bool → Hp → Prop} (t : bM K W (bCmp f a b) σ H P) (hq : ∀ b H, P b H → Q (.bl b) H) : tOp r (tM K W a) (tM K W b) σ H Q := by
  obtain ⟨g, env, h, hr, er, w⟩ := t
  refine ⟨g, env, h, hr, er, ?_⟩
  unfold bCmp at w
  cases ea : a env h with
  | bad => rw [ea] at w; exact w.elim
  | exc C n h => rw [ea] at w; exact w
  | ok x h1 =>
    rw [ea] at w
    have w : WT K (atSl W σ) g ((b env h1).bind fun y h2 => oB (f h2 x y) h2) P := w
    intro v H1 g1 l1 hr1 rv
    refine ⟨g1, env, h1, hr1, er.mono l1, ?_⟩
    cases eb : b env h1 with
    | bad => rw [eb] at w; exact w.elim
    | exc C n h => rw [eb] at w; exact fun H2 g2 d l2 => w H2 g2 d (l1.trans l2)
    | ok y h2 =>
      rw [eb] at w
      intro u H2 g2 l2 hr2 ru
      have w : WT K (atSl W σ) g (oB (f h2 x y) h2) P := w
      cases ef : f h2 x y with
      | none => rw [ef] at w; exact w.elim
      | some c =>
        rw [ef] at w
        exact ok g2 H2 h2 v u x y c Q hr2 (rv.mono l2) ru ef (hq _ _ (w H2 g2 (l1.trans l2) hr2))
theorem bt_cmp {op : CmpOp} {r : R2} {f : Sto → U → U → Option Bool} {a b : Expr} {ma mb : EM} {pos : Pos} (ho : OpR X (compareOp op) r) (ok : CmpOK K r f) (ha : PE X a (tM K W ma)) (hb : PE X b (tM K W mb)) (hm : behindInMarks op b = false) :
    PT X (.Compare a [op] [b] pos) (bM K W (bCmp f ma mb)) := PT.weak (pt_cmpR ho ha hb hm) fun σ H Q t => cmp_to ok t fun b H q => ⟨b, rfl, q⟩
/-- a test as a value, by a rule of values -/
theorem mB_to {t : TM} {σ : L2.St} {Q : VK} (q : tM K W (mB t) σ H Q) : bM K W t σ H fun b H => Q (.bl b) H := by
  obtain ⟨g, env, h, hr, er, w⟩ := q
  refine ⟨g, env, h, hr, er, ?_⟩
  unfold mB at w
  cases et : t env h with
  | bad => rw [et] at w; exact w.elim
  | exc C n h => rw [et] at w; exact w
  | ok b h1 => rw [et] at w; exact fun H g' l hr' => w _ H g' l hr' (.bl b)
theorem se_cmp {op : CmpOp} {r : R2} {f : Sto → U → U → Option Bool} {a b : Expr} {ma mb : EM} {pos : Pos} (ho : OpR X (compareOp op) r) (ok : CmpOK K r f) (ha : PE X a (tM K W ma)) (hb : PE X b (tM K W mb)) (hm : behindInMarks op b = false) :
    PE X (.Compare a [op] [b] pos) (tM K W (mB (bCmp f ma mb))) := PE.weak (pe_cmpR ho ha hb hm) fun σ H Q t => cmp_to ok (mB_to t) fun b H q => q
def cEq0 (_ : Sto) (x y : U) : Option Bool := match x, y with
  | .int i, .int j => some (decide (i = j))
  | .str i, .str j => some (decide (i = j))
  | .bl i, .bl j => some (decide (i = j))
  | .non, .non => some true
  | .int _, .str _ => some false
  | .str _, .int _ => some false
  | .non, .int _ => some false
  | .int _, .non => some false
  | .non, .str _ => some false
  | .str _, .non => some false
  | .non, .bl _ => some false
  | .bl _, .non => some false
  | .bl _, .str _ => some false
  | .str _, .bl _ => some false
  | _, _ => none
def cEq (h : Sto) (x y : U) : Option Bool := match x, y with
  | .int i, .int j => some (decide (i = j))
  | .str i, .str j => some (decide (i = j))
  | .bl i, .bl j => some (decide (i = j))
  | .non, .non => some true
  | .int _, .str _ => some false
  | .str _, .int _ => some false
  | .non, .int _ => some false
  | .int _, .non => some false
  | .non, .str _ => some false
  | .str _, .non => some false
  | .non, .bl _ => some false
  | .bl _, .non => some false
  | .bl _, .str _ => some false
  | .str _, .bl _ => some false
  | x, y => eqP h x y
theorem cEq_cases (h : Sto) (x y : U) : cEq h x y = cEq0 h x y ∨ cEq h x y = eqP h x y := by
  cases x <;> cases y <;> first | exact .inl rfl | exact .inr rfl
theorem str_eq (s t : List Nat) : ((⟨s.toArray⟩ : Str) = ⟨t.toArray⟩) ↔ s = t := ⟨fun e => by
  have := congrArg tl e
  rwa [tl_mk, tl_mk] at this, fun e => by rw [e]⟩
theorem eq_core {v w : V} {x y : U} {b : Bool} (rx : Rep K g v x) (ry : Rep K g w y) (e : cEq0 h x y = some b) : scal v w = true ∧ decide (v = w) = b := by
  unfold cEq0 at e
  split at e <;> cases rx <;> cases ry <;> cases e <;> refine ⟨rfl, ?_⟩ <;> simp [str_eq]
abbrev rEqA (K : Fr) : R2 := fun x y H Q => rEq x y H Q ∨ rEqD K x y H Q
abbrev rNeA (K : Fr) : R2 := fun x y H Q => rNe x y H Q ∨ rNeD K x y H Q
theorem ok_eq : CmpOK K (rEqA K) cEq := fun g H h v w x y b Q hr rx ry e q => by
  rcases cEq_cases h x y with e2 | e2
  · rw [e2] at e
    obtain ⟨h1, h2⟩ := eq_core rx ry e
    exact .inl ⟨h1, by rw [h2]; exact q⟩
  · rw [e2] at e
    obtain ⟨d1, d2, q1, q2, q3, q4, q5⟩ := eqP_of hr rx ry e
    exact .inr ⟨d1, d2, q1, q2, q3, q4, by rw [q5]; exact q⟩
def cNe (h : Sto) (x y : U) : Option Bool := (cEq h x y).map not
theorem ok_ne : CmpOK K (rNeA K) cNe := fun g H h v w x y b Q hr rx ry e q => by
  unfold cNe at e
  cases e3 : cEq h x y with
  | none => rw [e3] at e; cases e
  | some c =>
    rw [e3] at e
    cases e
    rcases cEq_cases h x y with e2 | e2
    · rw [e2] at e3
      obtain ⟨h1, h2⟩ := eq_core rx ry e3
      exact .inl ⟨h1, by rw [h2]; exact q⟩
    · rw [e2] at e3
      obtain ⟨d1, d2, q1, q2, q3, q4, q5⟩ := eqP_of hr rx ry e3
      exact .inr ⟨d1, d2, q1, q2, q3, q4, by rw [q5]; exact q⟩
theorem hu64 {A : Around} {k : Nat} (hr : Room k A) : A.units + 64 < cLine := by have := hr.un; omega
theorem hu65 {A : Around} {k : Nat} (hr : Room k A) : A.units + 65 < cLine := by have := hr.un; omega
def cI (p : Int → Int → Bool) (_ : Sto) (x y : U) : Option Bool := match x, y with
  | .int i, .int j => some (p i j)
  | _, _ => none
theorem ok_cI {p : Int → Int → Bool} : CmpOK K (rI0 fun i j => .bl (p i j)) (cI p) := fun g H h v w x y b Q hr rx ry e q => by
  unfold cI at e
  split at e
  · cases rx; cases ry; cases e
    exact ⟨_, _, rfl, rfl, q⟩
  · cases e
abbrev cLt := cI fun i j => decide (i < j)
abbrev cLe := cI fun i j => decide (i ≤ j)
abbrev cGt := cI fun i j => decide (j < i)
abbrev cGe := cI fun i j => decide (j ≤ i)
section
variable {a b : Expr} {ma mb : EM} {pos : Pos} (ha : PE X a (tM K W ma)) (hb : PE X b (tM K W mb))
include ha hb
theorem bt_lt : PT X (.Compare a [.Lt] [b] pos) (bM K W (bCmp cLt ma mb)) := bt_cmp op_lt ok_cI ha hb (nomark _)
theorem bt_gt : PT X (.Compare a [.Gt] [b] pos) (bM K W (bCmp cGt ma mb)) := bt_cmp op_gt ok_cI ha hb (nomark _)
theorem bt_ge : PT X (.Compare a [.GtE] [b] pos) (bM K W (bCmp cGe ma mb)) := bt_cmp op_ge ok_cI ha hb (nomark _)
end
section
variable {a b : Expr} {ma mb : EM} {pos : Pos} {k : Nat} (hr : Room k X.A) (ha : PE X a (tM X.K W ma)) (hb : PE X b (tM X.K W mb))
include hr ha hb
theorem bt_eq : PT X (.Compare a [.Eq] [b] pos) (bM X.K W (bCmp cEq ma mb)) := bt_cmp (op_eq.or (op_eqD (hu64 hr))) ok_eq ha hb (nomark _)
theorem bt_ne : PT X (.Compare a [.NotEq] [b] pos) (bM X.K W (bCmp cNe ma mb)) := bt_cmp (op_ne.or (op_neD (hu64 hr))) ok_ne ha hb (nomark _)
theorem se_eq : PE X (.Compare a [.Eq] [b] pos) (tM X.K W (mB (bCmp cEq ma mb))) := se_cmp (op_eq.or (op_eqD (hu64 hr))) ok_eq ha hb (nomark _)
end
/-- is None -/
def cIs (_ : Sto) (x y : U) : Option Bool := match y with
  | .non => some (match x with
    | .non => true
    | _ => false)
  | _ => none
def cIsN (h : Sto) (x y : U) : Option Bool := (cIs h x y).map not
theorem is_core {v w : V} {x y : U} {b : Bool} (rx : Rep K g v x) (ry : Rep K g w y) (e : cIs h x y = some b) : w = .non ∧ decide (v = .non) = b := by
  unfold cIs at e
  split at e
  · cases ry
    refine ⟨rfl, ?_⟩
    cases rx <;> cases e <;> simp
  · cases e
theorem ok_is : CmpOK K (fun x y H Q => y = .non ∧ Q (.bl (decide (x = .non))) H) cIs := fun g H h v w x y b Q hr rx ry e q => by
  obtain ⟨h1, h2⟩ := is_core rx ry e
  exact ⟨h1, by rw [h2]; exact q⟩
/-- in a list or tuple of flat things -/
def flatU : U → Bool
  | .non => true
  | .bl _ => true
  | .int _ => true
  | .str _ => true
  | _ => false
def eqF : U → U → Bool
  | .non, .non => true
  | .bl a, .bl b => a == b
  | .bl a, .int b => (if a then 1 else 0) == b
  | .int a, .bl b => a == (if b then 1 else 0)
  | .int a, .int b => a == b
  | .str a, .str b => a == b
  | _, _ => false
def inF (x : U) (us : List U) : Bool := us.any fun y => eqF y x
theorem flat_of {v : V} {x : U} (r : Rep K g v x) (f : flatU x = true) : flatV v = true := by cases r <;> first | rfl | cases f
theorem flats_of : ∀ {vs : List V} {us : List U}, Reps K g vs us → us.all flatU = true → vs.all flatV = true
  | _, _, .nil, _ => rfl
  | _, _, .cons h r, f => by
    rw [List.all_cons, Bool.and_eq_true] at f
    rw [List.all_cons, flat_of h f.1, flats_of r f.2]; rfl
theorem eqF_of {v w : V} {x y : U} (rx : Rep K g v x) (ry : Rep K g w y) (fx : flatU x = true) (fy : flatU y = true) : eqV v w = eqF x y := by
  cases rx <;> cases ry <;> first | cases fx; done | cases fy; done | rfl | skip
  rename_i s t
  show ((⟨s.toArray⟩ : Str) == ⟨t.toArray⟩) = (s == t)
  by_cases e : s = t
  · subst e; simp
  · rw [beq_eq_false_iff_ne.mpr e, beq_eq_false_iff_ne.mpr fun z => e ((str_eq s t).mp z)]
theorem inF_of {v : V} {x : U} (rx : Rep K g v x) (fx : flatU x = true) : ∀ {vs : List V} {us : List U}, Reps K g vs us → us.all flatU = true → inV v vs = inF x us
  | _, _, .nil, _ => rfl
  | _, _, .cons h r, f => by
    rw [List.all_cons, Bool.and_eq_true] at f
    show (eqV _ v || inV v _) = (eqF _ x || inF x _)
    rw [eqF_of h rx f.1 fx, inF_of rx fx r f.2]
/-- .. of data -/
def inP (h : Sto) (x y : U) : Option Bool := match pyd 60 h x, pyd 60 h y with
  | some d, some (.list ds) => if SeqAt.shaped d = true ∧ SeqAt.shaped (.list ds) = true then some (ds.any fun z => PyData.eqv z d) else none
  | _, _ => none
def cIn (h : Sto) (x y : U) : Option Bool := match sL h y with
  | some us => if flatU x = true ∧ us.all flatU = true then some (inF x us) else inP h x y
  | none => none
def cNin (h : Sto) (x y : U) : Option Bool := (cIn h x y).map not
abbrev rInA (K : Fr) : R2 := fun x y H Q => rIn K false x y H Q ∨ rInD K x y H Q
abbrev rNinA (K : Fr) : R2 := fun x y H Q => rIn K true x y H Q ∨ rNotInD K x y H Q
theorem ok_in : CmpOK K (rInA K) cIn := fun g H h v w x y b Q hr rx ry e q => by
  unfold cIn at e
  split at e
  · rename_i us e1
    split at e
    · rename_i c
      cases e
      obtain ⟨a, vs, rfl, h1, r1⟩ := sL_of hr ry e1
      refine .inl ⟨a, vs, rfl, h1, flat_of rx c.1, flats_of r1 c.2, ?_⟩
      rw [inF_of rx c.1 r1 c.2]
      exact q
    · unfold inP at e
      split at e
      · rename_i d ds e2 e3
        split at e
        · rename_i z
          cases e
          exact .inr ⟨d, ds, dp_of hr _ _ _ _ rx e2, dp_of hr _ _ _ _ ry e3, z.1, z.2, q⟩
        · cases e
      · cases e
  · cases e
section
variable {a b : Expr} {ma mb : EM} {pos : Pos} (ha : PE X a (tM X.K W ma)) (hb : PE X b (tM X.K W mb))
include ha hb
theorem bt_is : PT X (.Compare a [.Is] [b] pos) (bM X.K W (bCmp cIs ma mb)) := bt_cmp op_isN ok_is ha hb (nomark _)
theorem se_is : PE X (.Compare a [.Is] [b] pos) (tM X.K W (mB (bCmp cIs ma mb))) := se_cmp op_isN ok_is ha hb (nomark _)
variable {k : Nat} (hr : Room k X.A)
include hr
theorem bt_in (hm : behindInMarks .In b = false := by rfl) : PT X (.Compare a [.In] [b] pos) (bM X.K W (bCmp cIn ma mb)) := bt_cmp (op_in_seq.or (op_inD (hu65 hr))) ok_in ha hb hm
theorem se_in (hm : behindInMarks .In b = false := by rfl) : PE X (.Compare a [.In] [b] pos) (tM X.K W (mB (bCmp cIn ma mb))) := se_cmp (op_in_seq.or (op_inD (hu65 hr))) ok_in ha hb hm
end
end
end Q

set_option Elab.async false
set_option linter.all false
set_option maxRecDepth 100000
set_option maxHeartbeats 1000000
namespace Q
open PySem PySem.Spec PyProof.Rows L2 TL
section
variable {K : Fr} {g g' : G} {E : XK} {W : WX} {X : Cx} {H : Hp} {h : Sto} {v w : V} {x y : U} {a b c e o : Expr} {es rest : List Expr} {ma mb mc me : EM} {ta tb : TM} {pos : Pos}
/-! ### parts -/
/-- from the end of a part to what is behind it -/
theorem wE {r : R U} {f : U → Sto → R U} {Q P : VK} (t : WE K E g (r.bind f) Q) (k : ∀ u h v H g', Le g g' → HR K g' H h → Rep K g' v u → WE K E g' (f u h) Q → P v H) : WE K E g r P := by
  cases r with
  | bad => exact t
  | exc C n h => exact t
  | ok u h => exact fun v H g' l hr rv => k u h v H g' l hr rv (WE.mono l t)
theorem wA {r : R (List U)} {f : List U → Sto → R U} {Q : VK} {P : List V → Hp → Prop} (t : WE K E g (r.bind f) Q) (k : ∀ u h v H g', Le g g' → HR K g' H h → Reps K g' v u → WE K E g' (f u h) Q → P v H) : WA K E g r P := by
  cases r with
  | bad => exact t
  | exc C n h => exact t
  | ok u h => exact fun v H g' l hr rv => k u h v H g' l hr rv (WE.mono l t)
theorem wET {r : R U} {f : U → Sto → R Bool} {Q : Bool → Hp → Prop} {P : VK} (t : WT K E g (r.bind f) Q) (k : ∀ u h v H g', Le g g' → HR K g' H h → Rep K g' v u → WT K E g' (f u h) Q → P v H) : WE K E g r P := by
  cases r with
  | bad => exact t
  | exc C n h => exact t
  | ok u h => exact fun v H g' l hr rv => k u h v H g' l hr rv (WT.mono l t)
theorem wTT {r : R Bool} {f : Bool → Sto → R Bool} {Q P : Bool → Hp → Prop} (t : WT K E g (r.bind f) Q) (k : ∀ u h H g', Le g g' → HR K g' H h → WT K E g' (f u h) Q → P u H) : WT K E g r P := by
  cases r with
  | bad => exact t
  | exc C n h => exact t
  | ok u h => exact fun H g' l hr => k u h H g' l hr (WT.mono l t)
theorem wEA {r : R U} {f : U → Sto → R (List U)} {Q : List V → Hp → Prop} {P : VK} (t : WA K E g (r.bind f) Q) (k : ∀ u h v H g', Le g g' → HR K g' H h → Rep K g' v u → WA K E g' (f u h) Q → P v H) : WE K E g r P := by
  cases r with
  | bad => exact t
  | exc C n h => exact t
  | ok u h => exact fun v H g' l hr rv => k u h v H g' l hr rv (WA.mono l t)
theorem wAA {r : R (List U)} {f : List U → Sto → R (List U)} {Q P : List V → Hp → Prop} (t : WA K E g (r.bind f) Q) (k : ∀ u h v H g', Le g g' → HR K g' H h → Reps K g' v u → WA K E g' (f u h) Q → P v H) : WA K E g r P := by
  cases r with
  | bad => exact t
  | exc C n h => exact t
  | ok u h => exact fun v H g' l hr rv => k u h v H g' l hr rv (WA.mono l t)

/-! ### tests -/
def bAnd (a b : TM) : TM := fun env h => (a env h).bind fun c h1 => if c = true then b env h1 else .ok false h1
def bOr (a b : TM) : TM := fun env h => (a env h).bind fun c h1 => if c = true then .ok true h1 else b env h1
def bNot (a : TM) : TM := fun env h => (a env h).bind fun c h1 => .ok (!c) h1
theorem bw_and1 (ha : PT X a (bM K W ta)) : PW X (.BoolOp .And [a] pos) (bM K W ta) := pw_and1 ha
theorem bw_or1 (ha : PT X a (bM K W ta)) : PW X (.BoolOp .Or [a] pos) (bM K W ta) := pw_or1 ha
theorem bw_and (ha : PT X a (bM K W ta)) (hb : PW X (.BoolOp .And (b :: rest) pos) (bM K W tb)) : PW X (.BoolOp .And (a :: b :: rest) pos) (bM K W (bAnd ta tb)) :=
  PW.weak (pw_and ha hb) fun σ H Q ⟨g, env, h, hr, er, w⟩ => ⟨g, env, h, hr, er, wTT w fun c h1 H1 g1 l1 hr1 w1 => by
    cases c with
    | true => exact ⟨g1, env, h1, hr1, er.mono l1, w1⟩
    | false => exact w1 H1 g1 (Le.refl _) hr1⟩
theorem bw_or (ha : PT X a (bM K W ta)) (hb : PW X (.BoolOp .Or (b :: rest) pos) (bM K W tb)) : PW X (.BoolOp .Or (a :: b :: rest) pos) (bM K W (bOr ta tb)) :=
  PW.weak (pw_or ha hb) fun σ H Q ⟨g, env, h, hr, er, w⟩ => ⟨g, env, h, hr, er, wTT w fun c h1 H1 g1 l1 hr1 w1 => by
    cases c with
    | false => exact ⟨g1, env, h1, hr1, er.mono l1, w1⟩
    | true => exact w1 H1 g1 (Le.refl _) hr1⟩
theorem bt_not (ha : PT X a (bM K W ta)) : PT X (.UnaryOp .Not a pos) (bM K W (bNot ta)) :=
  PT.weak (pt_not ha) fun σ H Q ⟨g, env, h, hr, er, w⟩ => ⟨g, env, h, hr, er, wTT w fun c h1 H1 g1 l1 hr1 w1 => w1 H1 g1 (Le.refl _) hr1⟩
/-- the truth of a value -/
def truU (h : Sto) : U → Option Bool
  | .non => some false
  | .bl b => some b
  | .int i => some (i != 0)
  | .str s => if s.length ≤ 16000000 then some (!s.isEmpty) else none
  | .ref n => match h[n]? with
    | some (.lst us) => some (!us.isEmpty)
    | some (.dK kvs) => some (!kvs.isEmpty)
    | _ => none
  | .tup us => some (!us.isEmpty)
  | .fl us => some (!us.isEmpty)
  | .kl us => some (!us.isEmpty)
  | .xv _ _ _ _ => none
theorem Reps.emp : ∀ {vs : List V} {us : List U}, Reps K g vs us → (!us.isEmpty) = !vs.isEmpty
  | _, _, .nil => rfl
  | _, _, .cons _ _ => rfl
theorem RepK.emp : ∀ {vs us}, RepK K g vs us → (!us.isEmpty) = !vs.isEmpty
  | _, _, .nil => rfl
  | _, _, .cons _ _ => rfl
theorem tru_of {k : Bool} (hr : HR K g H h) (r : Rep K g v x) (q : truU h x = some k) : TruV K v H k := by
  cases r with
  | non => cases q; rfl
  | bl b => cases q; rfl
  | int i => cases q; rfl
  | str s =>
    simp only [truU] at q
    split at q
    · rename_i z
      cases q
      refine ⟨by rw [str_len]; exact sz16 z, ?_⟩
      rw [str_len]
      cases s with
      | nil => rfl
      | cons c r => simp; omega
    · cases q
  | tup t r => cases q; exact .inr (.inl ⟨_, hr.sqT t, r.emp⟩)
  | fl t r => cases q; exact .inl ⟨_, .inl (.inl (hr.ex _ _ t)), r.emp⟩
  | kl t r => cases q; exact .inl ⟨_, hr.sqL t, r.emp⟩
  | ref t =>
    rename_i a n
    simp only [truU] at q
    split at q
    · rename_i us e
      cases q
      obtain ⟨vs, h1, h2⟩ := hr.ob n a _ t e
      exact .inl ⟨_, .inl (.inl h1), h2.emp⟩
    · rename_i us e
      cases q
      obtain ⟨vs, h1, h2⟩ := hr.ob n a _ t e
      exact .inr (.inr ⟨_, h1, h2.emp⟩)
    · cases q
  | xv _ => cases q
def bTru (a : EM) : TM := fun env h => (a env h).bind fun x h1 => oB (truU h1 x) h1
theorem bt_tru (ha : PE X a (tM X.K W ma)) (he : ∀ whole, isTrue a X.env whole = (do let v ← whole; standAt a.pos; holding [v] (truthy v)) := by intro _; rfl) : PT X a (bM X.K W (bTru ma)) :=
  PT.weak (pt_truth ha he) fun σ H Q ⟨g, env, h, hr, er, w⟩ => ⟨g, env, h, hr, er, wET w fun u h1 v H1 g1 l1 hr1 rv w1 => by
    cases et : truU h1 u with
    | none => rw [et] at w1; exact w1.elim
    | some k =>
      rw [et] at w1
      exact ⟨k, tru_of hr1 rv et, w1 H1 g1 (Le.refl _) hr1⟩⟩
/-- and, or, not as values of bools -/
def mAnd (a b : EM) : EM := fun env h => (a env h).bind fun x h1 => match x with
  | .bl true => b env h1
  | .bl false => .ok (.bl false) h1
  | _ => .bad
def mOr (a b : EM) : EM := fun env h => (a env h).bind fun x h1 => match x with
  | .bl false => b env h1
  | .bl true => .ok (.bl true) h1
  | _ => .bad
def mNot (a : EM) : EM := fun env h => (a env h).bind fun x h1 => match x with
  | .bl c => .ok (.bl (!c)) h1
  | _ => .bad
theorem se_one {op} (h : PE X a (tM K W ma)) : PE X (.BoolOp op [a] pos) (tM K W ma) := pe_one h
theorem se_and (ha : PE X a (tM K W ma)) (hb : PE X (.BoolOp .And (b :: rest) pos) (tM K W mb)) : PE X (.BoolOp .And (a :: b :: rest) pos) (tM K W (mAnd ma mb)) :=
  PE.weak (pe_and ha hb) fun σ H Q ⟨g, env, h, hr, er, w⟩ => ⟨g, env, h, hr, er, wE w fun u h1 v H1 g1 l1 hr1 rv w1 => by
    cases rv with
    | bl c =>
      cases c with
      | true => exact ⟨true, rfl, g1, env, h1, hr1, er.mono l1, w1⟩
      | false => exact ⟨false, rfl, w1 _ H1 g1 (Le.refl _) hr1 (.bl _)⟩
    | _ => exact w1.elim⟩
theorem se_not (ha : PE X a (tM K W ma)) : PE X (.UnaryOp .Not a pos) (tM K W (mNot ma)) :=
  PE.weak (pe_not ha) fun σ H Q ⟨g, env, h, hr, er, w⟩ => ⟨g, env, h, hr, er, wE w fun u h1 v H1 g1 l1 hr1 rv w1 => by
    cases rv with
    | bl c => exact ⟨c, rfl, w1 _ H1 g1 (Le.refl _) hr1 (.bl _)⟩
    | _ => exact w1.elim⟩
/-- a if t else b -/
def mIf (t : TM) (a b : EM) : EM := fun env h => (t env h).bind fun c h1 => if c = true then a env h1 else b env h1
/-! ### arguments, displays -/
def aNil : AM := fun _ h => .ok [] h
def aCons (a : EM) (r : AM) : AM := fun env h => (a env h).bind fun x h1 => (r env h1).bind fun xs h2 => .ok (x :: xs) h2
variable {am : AM}
theorem sa_nil : PA X [] (aM K W aNil) := PA.weak pa_nil fun σ H Q ⟨g, env, h, hr, er, w⟩ => w [] H g (Le.refl _) hr .nil
theorem sa_cons (ha : PE X e (tM K W me)) (hr : PA X es (aM K W am)) (hs : starEach (e :: es) X.env = (false, eval e X.env) :: starEach es X.env := by rfl) : PA X (e :: es) (aM K W (aCons me am)) :=
  PA.weak (pa_cons ha hr hs) fun σ H Q ⟨g, env, h, hr, er, w⟩ => ⟨g, env, h, hr, er, wEA w fun u h1 v H1 g1 l1 hr1 rv w1 =>
    ⟨g1, env, h1, hr1, er.mono l1, wAA w1 fun us h2 vs H2 g2 l2 hr2 rvs w2 => w2 _ H2 g2 (Le.refl _) hr2 (.cons (rv.mono l2) rvs)⟩⟩
def mTup (am : AM) : EM := fun env h => (am env h).bind fun us h1 => if us.length ≤ 16000000 then .ok (.tup us) h1 else .bad
def mLst (am : AM) : EM := fun env h => (am env h).bind fun us h1 => if us.length ≤ 16000000 then .ok (.ref h1.length) (h1 ++ [.lst us]) else .bad
theorem se_tup {x1} (ha : PA X es (aM K W am)) : PE X (.Tuple es x1 pos) (tM K W (mTup am)) :=
  PE.weak (pe_tup ha) fun σ H Q ⟨g, env, h, hr, er, w⟩ => ⟨g, env, h, hr, er, wA w fun us h1 vs H1 g1 l1 hr1 rv w1 => by
    split at w1
    · rename_i z
      refine ⟨by rw [rv.len]; exact sz16 z, fun p hp => ?_⟩
      obtain ⟨l, q, r⟩ := hr1.newTup hp rv
      exact w1 _ _ _ l q r
    · exact w1.elim⟩
theorem se_lst (ha : PA X es (aM K W am)) : PE X (.List es pos) (tM K W (mLst am)) :=
  PE.weak (pe_lst ha) fun σ H Q ⟨g, env, h, hr, er, w⟩ => ⟨g, env, h, hr, er, wA w fun us h1 vs H1 g1 l1 hr1 rv w1 => by
    split at w1
    · rename_i z
      exact ⟨by rw [rv.len]; exact sz16 z, fun p hp => w1 _ _ _ Le.new (hr1.newLst hp rv) hr1.newRef⟩
    · exact w1.elim⟩

/-! ### subscripts, slices -/
theorem at_len {α β : Type} {xs : List α} {ys : List β} {i : Int} {v : α} (hl : xs.length = ys.length) (hv : atI xs i = some v) : ∃ j, ixN ys.length i = some j ∧ xs[j]? = some v := by
  unfold atI at hv
  cases e : ixN xs.length i with
  | none => rw [e] at hv; cases hv
  | some j =>
    rw [e] at hv
    exact ⟨j, by rw [← hl]; exact e, hv⟩
theorem Reps.at {vs : List V} {us : List U} {i : Int} {u : U} (r : Reps K g vs us) (q : atI us i = some u) : ∃ v, atI vs i = some v ∧ Rep K g v u := by
  obtain ⟨j, h1, h2⟩ := at_len (ys := vs) r.len.symm q
  obtain ⟨v, h3, h4⟩ := r.get h2
  exact ⟨v, by unfold atI; rw [h1]; exact h3, h4⟩
def oR (o : Option U) (h : Sto) : R U := match o with
  | some u => .ok u h
  | none => .bad
def uIx (x y : U) (h : Sto) : R U := match y with
  | .int i => (match x with
    | .str s => if s.length ≤ 16000000 then oR ((atI s i).map fun c => .str [c]) h else .bad
    | x => match sL h x with
      | some us => oR (atI us i) h
      | none => .bad)
  | _ => .bad
theorem ok_ix : BinOK K (rIx K) uIx := by
  intro E g H h v w x y Q hr rx ry t
  unfold uIx at t
  split at t
  · rename_i i
    cases ry with
    | int _ =>
      split at t
      · rename_i s
        cases rx with
        | str _ =>
          split at t
          · rename_i z
            cases e1 : atI s i with
            | none => rw [e1] at t; exact t.elim
            | some c =>
              rw [e1] at t
              exact .inr (.inr ⟨_, i, c, rfl, rfl, by rw [str_len]; exact sz16 z, by simpa using e1, t _ _ g (Le.refl _) hr (.str [c])⟩)
          · exact t.elim
      · split at t
        · rename_i us e1
          cases e2 : atI us i with
          | none => rw [e2] at t; exact t.elim
          | some u =>
            rw [e2] at t
            obtain ⟨p, vs, rfl, h1, r1⟩ := sL_of hr rx e1
            obtain ⟨z, h2, h3⟩ := r1.at e2
            have fin := t _ _ g (Le.refl _) hr h3
            rcases h1 with h1 | h1
            · exact .inl ⟨p, vs, i, z, rfl, rfl, h1, h2, fin⟩
            · exact .inr (.inl ⟨p, vs, i, z, rfl, rfl, h1, h2, fin⟩)
        · exact t.elim
  · exact t.elim
theorem se_ix (ha : PE X a (tM X.K W ma)) (hb : PE X b (tM X.K W mb)) (hs : PlainIx b := by exact fun _ _ => rfl) : PE X (.Subscript a b pos) (tM X.K W (mBin uIx ma mb)) :=
  PE.weak (pe_ix ix_seq ha hb hs) fun σ H Q t => bin_to ok_ix t
def cut {α : Type} (xs : List α) (lo hi : Option Int) : List α := (xs.drop (HT.sIx xs.length 0 lo)).take (HT.sIx xs.length xs.length hi - HT.sIx xs.length 0 lo)
theorem Reps.cut {vs : List V} {us : List U} (r : Reps K g vs us) (lo hi : Option Int) : Reps K g (cutV vs lo hi) (_root_.Q.cut us lo hi) := by
  unfold cutV _root_.Q.cut
  rw [r.len]
  exact (r.drop _).take _
def uSl (x : U) (lo hi : Option Int) (h : Sto) : R U := match x with
  | .str s => if s.length ≤ 16000000 then .ok (.str (cut s lo hi)) h else .bad
  | .tup us => .ok (.tup (cut us lo hi)) h
  | x => match aL h x with
    | some us => .ok (.ref h.length) (h ++ [.lst (cut us lo hi)])
    | none => .bad
def rSlQ (K : Fr) : V → Option Int → Option Int → Hp → VK → Prop := fun x lo hi H Q => rSlS x lo hi H Q ∨ rSlA K x lo hi H Q ∨ rSlL K x lo hi H Q
theorem sl_all : SlR X (rSlQ X.K) := sl_str.or (sl_tupA.or sl_list)
/-- an optional part of a slice -/
abbrev OM := Env' → Sto → R (Option Int)
def WO (K : Fr) (E : XK) (g : G) (r : R (Option Int)) (Q : Option Int → Hp → Prop) : Prop := match r with
  | .ok b h => ∀ H g', Le g g' → HR K g' H h → Q b H
  | .exc C n h => ∀ H g' d, Le g g' → HR K g' H h → DOf g' n d → E (.ref C) d H
  | .bad => False
def oM (K : Fr) (W : WX) (m : OM) : TO := fun σ H Q => ∃ g env h, HR K g H h ∧ ER K g σ env ∧ WO K (atSl W σ) g (m env h) Q
def oNone : OM := fun _ h => .ok none h
def oSome (a : EM) : OM := fun env h => (a env h).bind fun x h1 => match x with
  | .int i => .ok (some i) h1
  | _ => .bad
theorem PO.weak {X : Cx} {e : Option Expr} {t t' : TO} (p : PO X e t) (h : ∀ σ H Q, t' σ H Q → t σ H Q) : PO X e t' := ⟨fun pins s σ H Q I q => p.run pins s σ H Q I (h σ H Q q)⟩
theorem so_some (ha : PE X a (tM K W ma)) : PO X (some a) (oM K W (oSome ma)) := PO.weak (po_some ha) fun σ H Q ⟨g, env, h, hr, er, w⟩ => ⟨g, env, h, hr, er, by
  unfold oSome at w
  cases ea : ma env h with
  | bad => rw [ea] at w; exact w.elim
  | exc C n h => rw [ea] at w; exact w
  | ok u h1 =>
    rw [ea] at w
    intro v H1 g1 l1 hr1 rv
    cases rv with
    | int i => exact ⟨i, rfl, w H1 g1 l1 hr1⟩
    | _ => exact w.elim⟩
def mSl (a : EM) (lo hi : OM) : EM := fun env h => (a env h).bind fun x h1 => (lo env h1).bind fun l h2 => (hi env h2).bind fun u h3 => uSl x l u h3
theorem wOE {r : R (Option Int)} {f : Option Int → Sto → R U} {Q : VK} {P : Option Int → Hp → Prop} (t : WE K E g (r.bind f) Q) (k : ∀ u h H g', Le g g' → HR K g' H h → WE K E g' (f u h) Q → P u H) : WO K E g r P := by
  cases r with
  | bad => exact t
  | exc C n h => exact t
  | ok u h => exact fun H g' l hr => k u h H g' l hr (WE.mono l t)
theorem sl_to {lo hi : Option Int} {Q : VK} (hr : HR K g H h) (rx : Rep K g v x) (t : WE K E g (uSl x lo hi h) Q) : rSlQ K v lo hi H Q := by
  unfold uSl at t
  split at t
  · cases rx
    split at t
    · rename_i s z
      refine .inl ⟨_, rfl, by rw [str_len]; exact sz16 z, ?_⟩
      have e : cutS ⟨s.toArray⟩ lo hi = ⟨(cut s lo hi).toArray⟩ := by
        unfold cutS _root_.Q.cut
        rw [str_len]
      rw [e]
      exact t _ _ g (Le.refl _) hr (.str _)
    · exact t.elim
  · rename_i us
    obtain ⟨p, vs, rfl, h1, r1⟩ := tup_of hr rx
    refine .inr (.inl ⟨p, vs, rfl, h1, fun z => ?_, fun _ q hq => ?_⟩)
    · rw [r1.len] at z
      have e : cut us lo hi = us := by
        unfold _root_.Q.cut
        rw [z.1, z.2]; simp
      rw [e] at t
      exact t _ _ g (Le.refl _) hr rx
    · obtain ⟨l, a1, a2⟩ := hr.newTup hq (r1.cut lo hi)
      exact t _ _ _ l a1 a2
  · split at t
    · rename_i us e1
      obtain ⟨p, vs, rfl, h1, r1⟩ := aL_of hr rx e1
      exact .inr (.inr ⟨p, vs, rfl, h1, fun q hq => t _ _ _ Le.new (hr.newLst hq (r1.cut lo hi)) hr.newRef⟩)
    · exact t.elim
variable {lo hi : Option Expr} {ml mh : OM} {p2 : Pos}
theorem se_sl (he : PE X e (tM X.K W me)) (hl : PO X lo (oM X.K W ml)) (hu : PO X hi (oM X.K W mh)) : PE X (.Subscript e (.Slice lo hi none p2) pos) (tM X.K W (mSl me ml mh)) :=
  PE.weak (pe_slice sl_all he hl hu) fun σ H Q ⟨g, env, h, hr, er, w⟩ => ⟨g, env, h, hr, er, wE w fun u h1 v H1 g1 l1 hr1 rv w1 =>
    ⟨g1, env, h1, hr1, er.mono l1, wOE w1 fun lo h2 H2 g2 l2 hr2 w2 => ⟨g2, env, h2, hr2, er.mono (l1.trans l2), wOE w2 fun hi h3 H3 g3 l3 hr3 w3 =>
      sl_to hr3 (rv.mono (l2.trans l3)) w3⟩⟩⟩

/-! ### calls of the built-ins -/
def CallOK (K : Fr) (r : List V → Hp → VK → Prop) (f : List U → Sto → R U) : Prop := ∀ E g H h vs us Q, HR K g H h → Reps K g vs us → WE K E g (f us h) Q → r vs H Q
def mCB (f : List U → Sto → R U) (am : AM) : EM := fun env h => (am env h).bind f
variable {r : List V → Hp → VK → Prop} {f : List U → Sto → R U} {id T : String} {n : Str} {p : Pos}
theorem cb_to {σ : L2.St} {Q : VK} (ok : CallOK K r f) (q : tM K W (mCB f am) σ H Q) : tCB r (aM K W am) σ H Q := by
  obtain ⟨g, env, h, hr, er, w⟩ := q
  exact ⟨g, env, h, hr, er, wA w fun us h1 vs H1 g1 l1 hr1 rv w1 => ok _ g1 H1 h1 vs us Q hr1 rv w1⟩
theorem se_cb (hc : CallR X (.builtin id) r) (ok : CallOK K r f) (hg : Gl X n) (hm : X.mg n = none) (hv : bootBuiltins n = some (.builtin id)) (ha : PA X (e :: es) (aM K W am)) (hn : n ≠ "__name__" := by decide) (hdb : (n == ("__debug__" : Str)) = false := by decide)
    (he : starEach (e :: es) X.env = (false, eval e X.env) :: starEach es X.env := by rfl) (hpl : (backTo pos (starEach es X.env)).any (·.1) = false := by rfl) : PE X (.Call (.Name n p) (e :: es) [] pos) (tM K W (mCB f am)) :=
  PE.weak (pe_callB hc hg hm hv ha hn hdb he hpl) fun σ H Q q => cb_to ok q
theorem se_ct (hc : CallR X (.type T) r) (ok : CallOK K r f) (hg : Gl X n) (hm : X.mg n = none) (hv : bootBuiltins n = some (.type T)) (ha : PA X (e :: es) (aM K W am)) (hn : n ≠ "__name__" := by decide) (hdb : (n == ("__debug__" : Str)) = false := by decide)
    (he : starEach (e :: es) X.env = (false, eval e X.env) :: starEach es X.env := by rfl) (hpl : (backTo pos (starEach es X.env)).any (·.1) = false := by rfl) : PE X (.Call (.Name n p) (e :: es) [] pos) (tM K W (mCB f am)) :=
  PE.weak (pe_callTy hc hg hm hv ha hn hdb he hpl) fun σ H Q q => cb_to ok q
def uLen (us : List U) (h : Sto) : R U := match us with
  | [.str s] => if s.length ≤ 16000000 then .ok (.int s.length) h else .bad
  | [x] => match sL h x with
    | some us => .ok (.int us.length) h
    | none => .bad
  | _ => .bad
theorem ok_len : CallOK K (fun xs H Q => ∃ x n, xs = [x] ∧ LenV K x H n ∧ Q (.int n) H) uLen := by
  intro E g H h vs us Q hr rv t
  unfold uLen at t
  split at t
  · cases rv with
    | cons r1 r2 =>
      cases r2
      cases r1
      split at t
      · rename_i s z
        exact ⟨_, s.length, rfl, ⟨by rw [str_len]; exact sz16 z, (str_len _).symm⟩, t _ _ g (Le.refl _) hr (.int _)⟩
      · exact t.elim
  · cases rv with
    | cons r1 r2 =>
      cases r2
      split at t
      · rename_i us e1
        obtain ⟨p, vs, rfl, h1, r1⟩ := sL_of hr r1 e1
        refine ⟨_, us.length, rfl, ?_, t _ _ g (Le.refl _) hr (.int _)⟩
        rcases h1 with h1 | h1
        · exact .inl ⟨vs, h1, r1.len.symm⟩
        · exact .inr ⟨vs, h1, r1.len.symm⟩
      · exact t.elim
  · exact t.elim
def uInt (us : List U) (h : Sto) : R U := match us with
  | [.int i] => .ok (.int i) h
  | [.bl b] => .ok (.int (if b then 1 else 0)) h
  | _ => .bad
theorem ok_int : CallOK K (fun xs H Q => (∃ i, xs = [.int i] ∧ Q (.int i) H) ∨ ∃ k, xs = [.bl k] ∧ Q (.int (if k then 1 else 0)) H) uInt := by
  intro E g H h vs us Q hr rv t
  unfold uInt at t
  split at t
  · cases rv with
    | cons r1 r2 => cases r2; cases r1; exact .inl ⟨_, rfl, t _ _ g (Le.refl _) hr (.int _)⟩
  · cases rv with
    | cons r1 r2 => cases r2; cases r1; exact .inr ⟨_, rfl, t _ _ g (Le.refl _) hr (.int _)⟩
  · exact t.elim
def uList (us : List U) (h : Sto) : R U := match us with
  | [x] => match sL h x with
    | some us => .ok (.ref h.length) (h ++ [.lst us])
    | none => .bad
  | _ => .bad
theorem ok_list : CallOK K (fun xs H Q => ∃ p ys, xs = [.ref p] ∧ (SqL K H p ys ∨ SqT K H p ys) ∧ ∀ l, H l = none → Q (.ref l) (upd H l (.lst ys))) uList := by
  intro E g H h vs us Q hr rv t
  unfold uList at t
  split at t
  · cases rv with
    | cons r1 r2 =>
      cases r2
      split at t
      · rename_i us e1
        obtain ⟨p, vs, rfl, h1, r1⟩ := sL_of hr r1 e1
        exact ⟨p, vs, rfl, h1, fun l hl => t _ _ _ Le.new (hr.newLst hl r1) hr.newRef⟩
      · exact t.elim
  · exact t.elim
def uTuple (us : List U) (h : Sto) : R U := match us with
  | [x] => match sL h x with
    | some us => .ok (.tup us) h
    | none => .bad
  | _ => .bad
theorem ok_tuple : CallOK K (fun xs H Q => ∃ p ys, xs = [.ref p] ∧ ((SqL K H p ys ∧ ∀ l, H l = none → Q (.ref l) (upd H l (.tup ys))) ∨ (SqT K H p ys ∧ Q (.ref p) H))) uTuple := by
  intro E g H h vs us Q hr rv t
  unfold uTuple at t
  split at t
  · rename_i x
    cases rv with
    | @cons v0 _ _ _ r1 r2 =>
      cases r2
      have aux : ∀ us, aL h x = some us → WE K E g (.ok (.tup us) h) Q → ∃ p ys, [v0] = [V.ref p] ∧ ((SqL K H p ys ∧ ∀ l, H l = none → Q (.ref l) (upd H l (.tup ys))) ∨ (SqT K H p ys ∧ Q (.ref p) H)) := fun us e1 t => by
        obtain ⟨p, vs, rfl, h1, r2⟩ := aL_of hr r1 e1
        refine ⟨p, vs, rfl, .inl ⟨h1, fun l hl => ?_⟩⟩
        obtain ⟨l1, a1, a2⟩ := hr.newTup hl r2
        exact t _ _ _ l1 a1 a2
      split at t
      · rename_i us e1
        cases r1 with
        | tup q s =>
          cases e1
          exact ⟨_, _, rfl, .inr ⟨hr.sqT q, t _ _ g (Le.refl _) hr (.tup q s)⟩⟩
        | kl q s => exact aux us e1 t
        | fl q s => exact aux us e1 t
        | ref q => exact aux us e1 t
        | _ => simp [sL, aL, mL] at e1
      · exact t.elim
  · exact t.elim
def uMin (us : List U) (h : Sto) : R U := match us with
  | [.int i, .int j] => .ok (.int (if j < i then j else i)) h
  | _ => .bad
def uMax (us : List U) (h : Sto) : R U := match us with
  | [.int i, .int j] => .ok (.int (if j > i then j else i)) h
  | _ => .bad
def uAbs (us : List U) (h : Sto) : R U := match us with
  | [.int i] => .ok (.int (if i < 0 then -i else i)) h
  | _ => .bad
section
variable (hg : Gl X n) (hm : X.mg n = none) (ha : PA X (e :: es) (aM X.K W am)) (hn : n ≠ "__name__" := by decide) (hdb : (n == ("__debug__" : Str)) = false := by decide)
    (he : starEach (e :: es) X.env = (false, eval e X.env) :: starEach es X.env := by rfl) (hpl : (backTo pos (starEach es X.env)).any (·.1) = false := by rfl)
include hg hm ha hn hdb he hpl
theorem se_len (hv : bootBuiltins n = some (.builtin "len") := by decide +kernel) : PE X (.Call (.Name n p) (e :: es) [] pos) (tM X.K W (mCB uLen am)) := se_cb call_len ok_len hg hm hv ha hn hdb he hpl
theorem se_int' (hv : bootBuiltins n = some (.type "int") := by decide +kernel) : PE X (.Call (.Name n p) (e :: es) [] pos) (tM X.K W (mCB uInt am)) := se_ct call_int1 ok_int hg hm hv ha hn hdb he hpl
theorem se_list (hv : bootBuiltins n = some (.type "list") := by decide +kernel) : PE X (.Call (.Name n p) (e :: es) [] pos) (tM X.K W (mCB uList am)) := se_ct call_list_of ok_list hg hm hv ha hn hdb he hpl
theorem se_tuple (hv : bootBuiltins n = some (.type "tuple") := by decide +kernel) : PE X (.Call (.Name n p) (e :: es) [] pos) (tM X.K W (mCB uTuple am)) := se_ct call_tuple_of ok_tuple hg hm hv ha hn hdb he hpl
end
/-! ### methods of built-in types -/
def MtOK (K : Fr) (r : V → List V → Hp → VK → Prop) (f : U → List U → Sto → R U) : Prop := ∀ E g H h v x vs us Q, HR K g H h → Rep K g v x → Reps K g vs us → WE K E g (f x us h) Q → r v vs H Q
/-- a list's method: the receiver is a list -/
def mLM (f : U → List U → Sto → R U) (o : EM) (am : AM) : EM := fun env h => (o env h).bind fun x h1 => if (aL h1 x).isSome = true then (am env h1).bind fun us h2 => f x us h2 else .bad
theorem lm_to {r : V → List V → Hp → VK → Prop} {f : U → List U → Sto → R U} {mo : EM} {σ : L2.St} {Q : VK} (ok : MtOK K r f) (q : tM K W (mLM f mo am) σ H Q) : tBM K "list" r (tM K W mo) (aM K W am) σ H Q := by
  obtain ⟨g, env, h, hr, er, w⟩ := q
  refine ⟨g, env, h, hr, er, wE w fun u h1 v H1 g1 l1 hr1 rv w1 => ?_⟩
  cases ea : aL h1 u with
  | none => rw [ea] at w1; exact w1.elim
  | some us =>
    rw [ea] at w1
    obtain ⟨a, vs, rfl, h2, r2⟩ := aL_of hr1 rv ea
    exact ⟨.inl ⟨rfl, vs, h2⟩, g1, env, h1, hr1, er.mono l1, wA w1 fun us h2 vs H2 g2 l2 hr2 rvs w2 => ok _ g2 H2 h2 _ u vs us Q hr2 (rv.mono l2) rvs w2⟩
def uApp (x : U) (us : List U) (h : Sto) : R U := match x, us with
  | .ref n, [y] => (match h[n]? with
    | some (.lst xs) => if xs.length < 16000000 then .ok .non (h.set n (.lst (xs ++ [y]))) else .bad
    | _ => .bad)
  | _, _ => .bad
theorem sz16l {n : Nat} (h : n < 16000000) : n < sizeLine := Nat.lt_of_lt_of_le h (by decide)
theorem ok_app : MtOK K rAppend uApp := by
  intro E g H h v x vs us Q hr rx rvs t
  unfold uApp at t
  split at t
  · rename_i n y
    split at t
    · rename_i xs e1
      split at t
      · rename_i z
        cases rx with
        | ref q =>
          rename_i a
          cases rvs with
          | cons r1 r2 =>
            cases r2
            obtain ⟨ws, h1, h2⟩ := hr.ob n a _ q e1
            exact ⟨a, ws, _, rfl, rfl, h1, by rw [h2.len]; exact sz16l z, t _ _ g (Le.refl _) (hr.setLst q h1 (h2.app (.one r1))) .non⟩
      · exact t.elim
    · exact t.elim
  · exact t.elim
def uExt (x : U) (us : List U) (h : Sto) : R U := match x, us with
  | .ref n, [y] => (match h[n]?, mL h y with
    | some (.lst xs), some ys => if xs.length + ys.length ≤ 16000000 then .ok .non (h.set n (.lst (xs ++ ys))) else .bad
    | _, _ => .bad)
  | _, _ => .bad
section
variable {mo : EM} {apos cpos : Pos} (ho : PE X o (tM X.K W mo)) (ha : PA X (e :: es) (aM X.K W am))
    (hfew : ((backTo cpos (starEach (e :: es) X.env)).all (fun x => !x.1) && (backToKw cpos (keywordEach [] X.env)).all (fun x => x.1.isSome)
      && decide ((e :: es).length + ([] : List Keyword).length + (if ([] : List Keyword).isEmpty then 0 else 1) < 30)) = true := by rfl)
    (hline : (apos.endLine == cpos.line) = true := by rfl) (hs : starEach (e :: es) X.env = (false, eval e X.env) :: starEach es X.env := by rfl) (hplain : (backTo cpos (starEach es X.env)).any (·.1) = false := by rfl)
include ho ha hfew hline hs hplain
theorem se_app (hbase : attributeBase o "append" X.env (eval o X.env) = eval o X.env := by rfl) : PE X (.Call (.Attribute o "append" apos) (e :: es) [] cpos) (tM X.K W (mLM uApp mo am)) :=
  PE.weak (pe_bm PySem.F.plainAttrs_list PySem.F.slot_list_append PySem.F.type_list_append mt_append ho ha hbase hfew hline hs hplain) fun σ H Q q => lm_to ok_app q
end
end
end Q

set_option Elab.async false
set_option linter.all false
set_option maxRecDepth 100000
set_option maxHeartbeats 2000000
/-! QZ: zip of two sequences, each a list or a tuple. -/
namespace QZ
open PySem PySem.Spec PyProof.Rows L2
open PySem.Sem (wp)
/-- the kind of a part: a list or a tuple -/
inductive ZK where
  | l | t
def ZK.cls : ZK → String
  | .l => "list_iterator"
  | .t => "tuple_iterator"
def ItIs (k : ZK) (h : Heap) (a p : Addr) (i : Nat) : Prop := match k with
  | .l => h.IsListIter a p i
  | .t => h.IsTupleIter a p i
def SqIs (k : ZK) (h : Heap) (p : Addr) (xs : Array Value) : Prop := match k with
  | .l => h.IsList p xs
  | .t => h.IsTuple p xs
theorem ItIs.ext {k : ZK} {h h' : Heap} {a p b : Addr} {i : Nat} (x : ItIs k h a p i) (q : Heap.ExtBut b h h') (n : a ≠ b) : ItIs k h' a p i := by
  cases k
  · exact Heap.IsListIter.extBut x q n
  · exact Heap.IsTupleIter.extBut x q n
theorem SqIs.ext {k : ZK} {h h' : Heap} {p b : Addr} {xs : Array Value} (x : SqIs k h p xs) (q : Heap.ExtBut b h h') (n : p ≠ b) : SqIs k h' p xs := by
  cases k
  · exact Heap.IsList.extBut x q n
  · exact Heap.IsTuple.extBut x q n
theorem ItIs.mv {k : ZK} {h h' : Heap} {a p : Addr} {i : Nat} (x : ItIs k h a p i) (q : ∀ o, h.get? a = some o → h'.get? a = some o) : ItIs k h' a p i := by
  cases k
  · exact Heap.IsListIter.at x q
  · exact Heap.IsTupleIter.at x q
theorem ItIs.obj {k : ZK} {h : Heap} {a p : Addr} {i : Nat} (x : ItIs k h a p i) : ∃ o, h.get? a = some o ∧ ∀ v, o.data ≠ .cell v := by
  cases k
  · obtain ⟨o, e, _, d⟩ := x; exact ⟨o, e, fun v q => by rw [d] at q; cases q⟩
  · obtain ⟨o, e, _, d⟩ := x; exact ⟨o, e, fun v q => by rw [d] at q; cases q⟩
theorem ItIs.lt {k : ZK} {h : Heap} {a p : Addr} {i : Nat} (x : ItIs k h a p i) : a < h.objs.size := by
  obtain ⟨o, e, _⟩ := x.obj; exact Heap.lt_size e
section
variable {prog : Program} {w : World} {A : Around} {E : Value → Shared → Prop} {s : Shared}
variable {k k' : ZK} {z ti to a b p q : Addr} {i j : Nat} {xs ys : Array Value} {x y u v : Value}
/-- what a turn leaves -/
def Kp (z to a b : Addr) (h h2 : Heap) : Prop := ∀ c o, c ≠ z → c ≠ to → c ≠ a → c ≠ b → h.get? c = some o → h2.get? c = some o
end
def zO1 (k : ZK) (p : Addr) : Obj := { cls := .type k.cls, data := .fields #[.ref p, .int 0 0] }
def zH2 (k k' : ZK) (h : Heap) (p q : Addr) : Heap := (h.push (zO1 k p)).push (zO1 k' q)
def zH3 (k k' : ZK) (h : Heap) (p q : Addr) : Heap := (zH2 k k' h p q).push { cls := .type "tuple", data := .seq #[.ref h.objs.size, .ref (h.push (zO1 k p)).objs.size] }
def zH4 (k k' : ZK) (h : Heap) (p q : Addr) : Heap := (zH3 k k' h p q).push { cls := .type "tuple", data := .seq #[.none, .none] }
def zH5 (k k' : ZK) (h : Heap) (p q : Addr) : Heap := (zH4 k k' h p q).push { cls := .type "zip", data := .fields #[.none, .bool false, .bool false, .ref (zH2 k k' h p q).objs.size, .ref (zH3 k k' h p q).objs.size] }
section
variable {prog : Program} {w : World} {A : Around} {E : Value → Shared → Prop} {s : Shared}
end
/-- a sequence of that kind -/
def SqK (k : ZK) (K : PySem.W.Frag) (H : Hp) (a : Addr) (xs : List V) : Prop := match k with
  | .l => SqL K H a xs
  | .t => SqT K H a xs
def ItzG (k k' : ZK) (K : PySem.W.Frag) (a b : Addr) : It :=
  ⟨fun i H => ∃ (xs ys : List V) (x y : V), SqK k K H a xs ∧ SqK k' K H b ys ∧ xs[i]? = some x ∧ ys[i]? = some y,
    fun i H v H' => ∃ T x y, v = .ref T ∧ H T = none ∧ H' = upd H T (.tup [x, y]) ∧ (∀ xs, SqK k K H a xs → xs[i]? = some x) ∧ ∀ ys, SqK k' K H b ys → ys[i]? = some y,
    fun i H => ∃ xs ys : List V, SqK k K H a xs ∧ SqK k' K H b ys ∧ (xs.length ≤ i ∨ ys.length ≤ i)⟩
def iZipG (K : PySem.W.Frag) (ta : TA) : TI := fun σ H R => ta σ H fun vs H1 => ∃ k k' a b xs ys, vs = [.ref a, .ref b] ∧ SqK k K H1 a xs ∧ SqK k' K H1 b ys ∧ R (ItzG k k' K a b) H1
end QZ

set_option Elab.async false
set_option linter.all false
set_option maxRecDepth 100000
set_option maxHeartbeats 1000000
namespace Q
open PySem PySem.Spec PyProof.Rows L2 TL
/-! ### targets -/
inductive CT where
  | one (i : Nat)
  | tup (is : List Nat)
  | lst (is : List Nat)
  | nst (i : Nat) (is : List Nat)
  | nsl (is : List Nat) (i : Nat)
def CT.ix : CT → List Nat
  | .one i => [i]
  | .tup is => is
  | .lst is => is
  | .nst i is => i :: is
  | .nsl is i => i :: is
def setA {α : Type} : List (Option α) → List Nat → List α → List (Option α)
  | e, i :: is, u :: us => setA (e.set i (some u)) is us
  | e, _, _ => e
def CT.asg (c : CT) (u : U) (env : Env') (h : Sto) : Option Env' := match c with
  | .one i => some (env.set i (some u))
  | .tup is => match u with
    | .tup us => if us.length = is.length then some (setA env is us) else none
    | _ => none
  | .lst is => match mL h u with
    | some us => if us.length = is.length then some (setA env is us) else none
    | none => none
  | .nst i is => match u with
    | .tup [x, .tup us] => if us.length = is.length then some (setA (env.set i (some x)) is us) else none
    | _ => none
  | .nsl is i => match u with
    | .tup [.tup us, x] => if us.length = is.length then some ((setA env is us).set i (some x)) else none
    | _ => none
def gAll : List Nat → TGs
  | [] => gNil
  | i :: is => gCons (gName i) (gAll is)
theorem gAll_to : ∀ (is : List Nat) (vs : List V) (σ : L2.St) (H : Hp) (Q : L2.St → Hp → Prop), vs.length = is.length → Q (setA σ is vs) H → gAll is vs σ H Q
  | [], [], σ, H, Q, _, q => ⟨rfl, q⟩
  | i :: is, v :: vs, σ, H, Q, hl, q => ⟨v, vs, rfl, gAll_to is vs (σ.set i (some v)) H Q (by simpa using hl) q⟩
  | [], _ :: _, _, _, _, hl, _ => by simp at hl
  | _ :: _, [], _, _, _, hl, _ => by simp at hl
theorem ER.setA {K : Fr} {g : G} : ∀ {is : List Nat} {vs : List V} {us : List U} {σ : L2.St} {env : Env'}, ER K g σ env → Reps K g vs us → ER K g (Q.setA σ is vs) (Q.setA env is us)
  | [], _, _, _, _, e, _ => by unfold Q.setA; exact e
  | _ :: _, _, _, _, _, e, .nil => by unfold Q.setA; exact e
  | i :: is, _, _, _, _, e, .cons h r => by unfold Q.setA; exact ER.setA (e.set i h) r
theorem wipe_get (σ : L2.St) : ∀ (vs : List Nat) (j : Nat), (wipe σ vs)[j]? = if j ∈ vs ∧ j < σ.length then some none else σ[j]?
  | [], j => by simp [wipe]
  | v :: vs, j => by
    unfold wipe
    by_cases hv : v = j
    · subst hv
      by_cases hl : v < σ.length
      · rw [List.getElem?_set_self (by rw [wipe_length]; exact hl), if_pos ⟨List.mem_cons_self, hl⟩]
      · rw [List.getElem?_eq_none (by rw [List.length_set, wipe_length]; omega), if_neg (fun z => hl z.2), List.getElem?_eq_none (by omega)]
    · rw [List.getElem?_set_ne hv, wipe_get σ vs j]
      by_cases hj : j ∈ vs ∧ j < σ.length
      · rw [if_pos hj, if_pos ⟨List.mem_cons_of_mem _ hj.1, hj.2⟩]
      · rw [if_neg hj, if_neg fun z => hj ⟨(List.mem_cons.mp z.1).resolve_left (Ne.symm hv), z.2⟩]
theorem wipe_set (σ : L2.St) (vs : List Nat) {i : Nat} (hi : i ∈ vs) (x : Option V) : wipe (σ.set i x) vs = wipe σ vs := by
  apply List.ext_getElem?
  intro j
  rw [wipe_get, wipe_get, List.length_set]
  by_cases hj : j ∈ vs ∧ j < σ.length
  · rw [if_pos hj, if_pos hj]
  · rw [if_neg hj, if_neg hj]
    by_cases e : i = j
    · subst e
      have : ¬ i < σ.length := fun z => hj ⟨hi, z⟩
      rw [List.getElem?_eq_none (by rw [List.length_set]; omega), List.getElem?_eq_none (by omega)]
    · rw [List.getElem?_set_ne e]
theorem wipe_wipe (σ : L2.St) (vs : List Nat) : wipe (wipe σ vs) vs = wipe σ vs := by
  apply List.ext_getElem?
  intro j
  rw [wipe_get, wipe_length, wipe_get]
  by_cases hj : j ∈ vs ∧ j < σ.length
  · rw [if_pos hj, if_pos hj]
  · rw [if_neg hj]
theorem wipe_setA (vs : List Nat) : ∀ (is : List Nat) (xs : List V) (σ : L2.St), (∀ i ∈ is, i ∈ vs) → wipe (setA σ is xs) vs = wipe σ vs
  | [], _, σ, _ => by unfold setA; rfl
  | _ :: _, [], σ, _ => by unfold setA; rfl
  | i :: is, x :: xs, σ, h => by
    unfold setA
    rw [wipe_setA vs is xs _ fun j hj => h j (List.mem_cons_of_mem _ hj), wipe_set σ vs (h i List.mem_cons_self)]
def wipeE (e : Env') : List Nat → Env'
  | [] => e
  | v :: vs => (wipeE e vs).set v none
section
variable {K : Fr} {g g' : G} {E : XK} {W : WX} {X : Cx} {H : Hp} {h : Sto} {v w : V} {x y : U} {σ : L2.St} {env : Env'}
theorem ER.none (e : ER K g σ env) (i : Nat) : ER K g (σ.set i none) (env.set i none) := by
  refine ⟨by simp [e.1], fun j w q => ?_⟩
  by_cases hj : i = j
  · subst hj
    by_cases hl : i < env.length
    · rw [List.getElem?_set_self hl] at q; cases q
    · rw [List.getElem?_eq_none (by simpa using hl)] at q; cases q
  · rw [List.getElem?_set_ne hj] at q
    obtain ⟨v', a, b⟩ := e.2 j w q
    exact ⟨v', by rw [List.getElem?_set_ne hj]; exact a, b⟩
theorem ER.wipe (e : ER K g σ env) : ∀ vs : List Nat, ER K g (L2.wipe σ vs) (wipeE env vs)
  | [] => e
  | v :: vs => (ER.wipe e vs).none v
/-- the targets' reading -/
def CT.rd (K : Fr) : CT → TG
  | .one i => gName i
  | .tup is => gTup K is.length (gAll is)
  | .lst is => gUnl K is.length (gAll is)
  | .nst i is => gTup K 2 (gCons (gName i) (gCons (gTup K is.length (gAll is)) gNil))
  | .nsl is i => gTup K 2 (gCons (gTup K is.length (gAll is)) (gCons (gName i) gNil))
theorem ct_to {c : CT} {u : U} {env' : Env'} {Q : L2.St → Hp → Prop} (hr : HR K g H h) (er : ER K g σ env) (rv : Rep K g v u) (e : c.asg u env h = some env')
    (k : ∀ σ', ER K g σ' env' → (∀ vs : List Nat, (∀ i ∈ c.ix, i ∈ vs) → wipe σ' vs = wipe σ vs) → Q σ' H) : c.rd K v σ H Q := by
  cases c with
  | one i =>
    cases e
    exact k _ (er.set i rv) fun vs hv => wipe_set σ vs (hv i (List.mem_singleton.mpr rfl)) _
  | tup is =>
    unfold CT.asg at e
    cases u with
    | tup us =>
      simp only at e
      split at e
      · rename_i hl
        cases e
        obtain ⟨a, vs, rfl, h1, r1⟩ := tup_of hr rv
        exact ⟨a, vs, rfl, h1, by rw [r1.len]; exact hl, gAll_to is vs σ H Q (by rw [r1.len]; exact hl) (k _ (er.setA r1) fun ws hw => wipe_setA ws is vs σ hw)⟩
      · cases e
    | _ => cases e
  | lst is =>
    unfold CT.asg at e
    cases em : mL h u with
    | none => simp [em] at e
    | some us =>
      simp only [em] at e
      split at e
      · rename_i hl
        cases e
        obtain ⟨a, vs, rfl, h1, r1⟩ := mL_of hr rv em
        exact ⟨a, vs, rfl, .inl (.inl h1), by rw [r1.len]; exact hl, gAll_to is vs σ H Q (by rw [r1.len]; exact hl) (k _ (er.setA r1) fun ws hw => wipe_setA ws is vs σ hw)⟩
      · cases e
  | nst i is =>
    unfold CT.asg at e
    simp only at e
    split at e
    · rename_i x us
      split at e
      · rename_i hl
        cases e
        obtain ⟨a, vs, rfl, h1, r1⟩ := tup_of hr rv
        cases r1 with
        | cons ra rb =>
        cases rb with
        | cons rc rd =>
        cases rd
        obtain ⟨a2, vs2, rfl, h2, r2⟩ := tup_of hr rc
        refine ⟨a, _, rfl, h1, rfl, _, _, rfl, _, _, rfl, a2, vs2, rfl, h2, by rw [r2.len]; exact hl, gAll_to is vs2 _ H _ (by rw [r2.len]; exact hl) ⟨rfl, k _ ((er.set i ra).setA r2) fun ws hw => ?_⟩⟩
        rw [wipe_setA ws is vs2 _ fun j hj => hw j (List.mem_cons_of_mem _ hj), wipe_set σ ws (hw i List.mem_cons_self)]
      · cases e
    · cases e
  | nsl is i =>
    unfold CT.asg at e
    simp only at e
    split at e
    · rename_i us x
      split at e
      · rename_i hl
        cases e
        obtain ⟨a, vs, rfl, h1, r1⟩ := tup_of hr rv
        cases r1 with
        | cons ra rb =>
        cases rb with
        | cons rc rd =>
        cases rd
        obtain ⟨a2, vs2, rfl, h2, r2⟩ := tup_of hr ra
        refine ⟨a, _, rfl, h1, rfl, _, _, rfl, a2, vs2, rfl, h2, by rw [r2.len]; exact hl, gAll_to is vs2 _ H _ (by rw [r2.len]; exact hl) ⟨_, _, rfl, rfl, k _ ((er.setA r2).set i rc) fun ws hw => ?_⟩⟩
        rw [wipe_set _ ws (hw i List.mem_cons_self), wipe_setA ws is vs2 _ fun j hj => hw j (List.mem_cons_of_mem _ hj)]
      · cases e
    · cases e
end

/-! ### what is walked -/
abbrev Chk := List (Nat × List U)
def chkOk (c : Chk) (h : Sto) : Prop := ∀ p ∈ c, h[p.1]? = some (.lst p.2)
abbrev IM' := Env' → Sto → R (Chk × List U)
structure ItOk (K : Fr) (g : G) (J : It) (c : Chk) (us : List U) : Prop where
  go : ∀ g' H h i, Le g g' → HR K g' H h → chkOk c h → i < us.length → J.go i H
  stop : ∀ g' H h, Le g g' → HR K g' H h → chkOk c h → J.stop us.length H
  yl : ∀ g' H h i x H', Le g g' → HR K g' H h → chkOk c h → i < us.length → J.yld i H x H' → ∃ g2 u, Le g' g2 ∧ HR K g2 H' h ∧ us[i]? = some u ∧ Rep K g2 x u
def WI (K : Fr) (E : XK) (g : G) (r : R (Chk × List U)) (P : It → Hp → Prop) : Prop := match r with
  | .ok (c, us) h' => ∀ J H' g', Le g g' → HR K g' H' h' → ItOk K g' J c us → P J H'
  | .exc C n h => ∀ H g' d, Le g g' → HR K g' H h → DOf g' n d → E (.ref C) d H
  | .bad => False
def iM (K : Fr) (W : WX) (m : IM') : TI := fun σ H P => ∃ g env h, HR K g H h ∧ ER K g σ env ∧ WI K (atSl W σ) g (m env h) P
section
variable {K : Fr} {g g' : G} {E : XK} {W : WX} {X : Cx} {H : Hp} {h : Sto} {v w : V} {x y : U} {σ : L2.St} {env : Env'} {a b c e o tg : Expr} {es rest : List Expr} {ma mb mc me : EM} {ta tb : TM} {pos : Pos} {am : AM} {n : Str} {p : Pos}
theorem PI.weak {tg iter : Expr} {t t' : TI} (p : PI X tg iter t) (h : ∀ σ H Q, t' σ H Q → t σ H Q) : PI X tg iter t' := ⟨fun pins s σ H Q I q => p.run pins s σ H Q I (h σ H Q q)⟩
theorem WI.mono {r : R (Chk × List U)} {P : It → Hp → Prop} (l : Le g g') (w : WI K E g r P) : WI K E g' r P := by
  cases r with
  | ok u h => exact fun J H g2 l2 => w J H g2 (l.trans l2)
  | exc C n h => exact fun H g2 d l2 => w H g2 d (l.trans l2)
  | bad => exact w
theorem wAI {r : R (List U)} {f : List U → Sto → R (Chk × List U)} {P : List V → Hp → Prop} {Q : It → Hp → Prop} (t : WI K E g (r.bind f) Q)
    (k : ∀ us h v H g', Le g g' → HR K g' H h → Reps K g' v us → WI K E g' (f us h) Q → P v H) : WA K E g r P := by
  cases r with
  | bad => exact t
  | exc C n h => exact t
  | ok us h1 => exact fun v H1 g1 l1 hr1 rv => k us h1 v H1 g1 l1 hr1 rv (WI.mono l1 t)
/-- lo, lo + 1, .. -/
def rng (lo : Int) (n : Nat) : List U := (List.range n).map fun i => .int (lo + (i : Nat))
theorem rng_len (lo : Int) (n : Nat) : (rng lo n).length = n := by simp [rng]
theorem rng_get {lo : Int} {n i : Nat} (h : i < n) : (rng lo n)[i]? = some (.int (lo + (i : Nat))) := by simp [rng, h]
theorem it_range {lo : Int} {n : Nat} : ItOk K g (Itr lo n) [] (rng lo n) where
  go := fun _ _ _ i _ _ _ hi => by rw [rng_len] at hi; exact hi
  stop := fun _ _ _ _ _ _ => by rw [rng_len]; exact Nat.le_refl _
  yl := fun g' H h i x H' _ hr _ hi y => by
    rw [rng_len] at hi
    obtain ⟨rfl, rfl⟩ := y
    exact ⟨g', _, Le.refl _, hr, rng_get hi, .int _⟩
def itR1 (am : AM) : IM' := fun env h => (am env h).bind fun us h1 => match us with
  | [.int j] => if -1000000000 ≤ j ∧ j ≤ 1000000000 then .ok ([], rng 0 j.toNat) h1 else .bad
  | _ => .bad
def itR2 (am : AM) : IM' := fun env h => (am env h).bind fun us h1 => match us with
  | [.int i, .int j] => if (-1000000000 ≤ i ∧ i ≤ 1000000000) ∧ (-1000000000 ≤ j ∧ j ≤ 1000000000) then .ok ([], rng i (j - i).toNat) h1 else .bad
  | _ => .bad
theorem si_r1 (hg : Gl X "range") (hm : X.mg "range" = none) (ha : PA X [a] (aM K W am)) (hs : starEach [a] X.env = [(false, eval a X.env)] := by rfl) : PI X tg (.Call (.Name "range" p) [a] [] pos) (iM K W (itR1 am)) :=
  PI.weak (pi_range1 hg hm ha hs) fun σ H Q ⟨g, env, h, hr, er, w⟩ => ⟨g, env, h, hr, er, wAI w fun us h1 v H1 g1 l1 hr1 rv w1 => by
    split at w1
    · split at w1
      · rename_i z
        cases rv with
        | cons r1 r2 =>
          cases r2
          cases r1
          exact ⟨_, rfl, by omega, by omega, w1 _ H1 g1 (Le.refl _) hr1 it_range⟩
      · exact w1.elim
    · exact w1.elim⟩
/-- a list, a tuple, a text -/
def chkOf (x : U) (us : List U) : Chk := match x with
  | .ref n => [(n, us)]
  | _ => []
def itE (a : EM) : IM' := fun env h => (a env h).bind fun x h1 => match x with
  | .str s => .ok ([], s.map fun c => .str [c]) h1
  | x => match sL h1 x with
    | some us => .ok (chkOf x us, us) h1
    | none => .bad
/-- an iterable by its value: a list, a tuple or a text -/
def iAny (K : Fr) (tl : TE) : TI := fun σ H P => tl σ H fun x H1 => (∃ a, x = .ref a ∧ (∃ xs, SqL K H1 a xs) ∧ P (Itl K a) H1) ∨ (∃ a, x = .ref a ∧ (∃ xs, SqT K H1 a xs) ∧ P (Itt K a) H1) ∨ ∃ z, x = .str z ∧ P (Its z) H1
/-- pairs of the turn and the item; of two lists -/
def pairs (xs ys : List U) : List U := (xs.zip ys).map fun p => .tup [p.1, p.2]
/-- where a list lies: what it holds as long as it is not touched -/
structure LsOk (K : Fr) (g : G) (a : Addr) (c : Chk) (us : List U) : Prop where
  is : ∀ g' H h, Le g g' → HR K g' H h → chkOk c h → ∃ vs, SqL K H a vs ∧ Reps K g' vs us
structure LzOk (K : Fr) (g : G) (k : QZ.ZK) (a : Addr) (c : Chk) (us : List U) : Prop where
  is : ∀ g' H h, Le g g' → HR K g' H h → chkOk c h → ∃ vs, QZ.SqK k K H a vs ∧ Reps K g' vs us
def itZ (am : AM) : IM' := fun env h => (am env h).bind fun us h1 => match us with
  | [x, y] => (match sL h1 x, sL h1 y with
    | some us, some ts => .ok (chkOf x us ++ chkOf y ts, pairs us ts) h1
    | _, _ => .bad)
  | _ => .bad
def itN (am : AM) : IM' := fun env h => (am env h).bind fun us h1 => match us with
  | [x] => (match aL h1 x with
    | some us => .ok (chkOf x us, pairs (rng 0 us.length) us) h1
    | _ => .bad)
  | _ => .bad
variable {tpos : Pos} {elts : List Expr} {kk : Nat}
end
end Q

set_option Elab.async false
set_option linter.all false
set_option maxRecDepth 100000
set_option maxHeartbeats 1000000
namespace Q
open PySem PySem.Spec PyProof.Rows L2 TL
/-! ### statements -/
def mNx : SM := fun env h => .nx env h
def mSeq (a b : SM) : SM := fun env h => match a env h with
  | .nx e h1 => b e h1
  | r => r
def gCT (c : CT) (u : U) (env : Env') (h : Sto) : RS := match c.asg u env h with
  | some e => .nx e h
  | none => .bad
/-- a statement goes on with what a part gives -/
def R.st {α : Type} (r : R α) (env : Env') (f : α → Sto → RS) : RS := match r with
  | .ok a h => f a h
  | .exc C n h => .ex C n env h
  | .bad => .bad
def mAsg (c : CT) (a : EM) : SM := fun env h => (a env h).st env fun u h1 => gCT c u env h1
def mRet (a : EM) : SM := fun env h => (a env h).st env fun u h1 => .rt u h1
def mRetN : SM := fun _ h => .rt .non h
def mDrop (a : EM) : SM := fun env h => (a env h).st env fun _ h1 => .nx env h1
def mIfS (t : TM) (a b : SM) : SM := fun env h => (t env h).st env fun c h1 => if c = true then a env h1 else b env h1
def mBrk : SM := fun env h => .bk env h
def mCnt : SM := fun env h => .ct env h
section
variable {K : Fr} {g g' : G} {E : XK} {W : WX} {X : Cx} {H : Hp} {h : Sto} {v w : V} {x y : U} {σ : L2.St} {env : Env'} {a b c e o tg : Expr} {es rest : List Expr} {ma mb mc me mo : EM} {ta tb : TM} {pos : Pos} {am : AM} {n : Str} {p : Pos}
  {st : Stmt} {sts : List Stmt} {m m1 m2 : SM}
theorem ss_nil : PSs X [] (sM K W mNx) := PSs.weak pss_nil fun D σ H ⟨g, env, h, hr, er, w⟩ => w σ H g (Le.refl _) hr er
theorem ss_cons (h1 : PS X st (sM K W m1)) (h2 : PSs X sts (sM K W m2)) : PSs X (st :: sts) (sM K W (mSeq m1 m2)) :=
  PSs.weak (pss_cons h1 h2) fun D σ H ⟨g, env, h, hr, er, w⟩ => ⟨g, env, h, hr, er, by
    unfold mSeq at w
    cases e1 : m1 env h with
    | nx e h1 =>
      rw [e1] at w
      exact fun σ1 H1 g1 l1 hr1 er1 => ⟨g1, e, h1, hr1, er1, WS.mono l1 w⟩
    | rt u h1 => rw [e1] at w; exact w
    | bk e h1 => rw [e1] at w; exact w
    | ct e h1 => rw [e1] at w; exact w
    | ex C n e h => rw [e1] at w; exact w
    | bad => rw [e1] at w; exact w⟩
theorem ss_one (h1 : PS X st (sM K W m)) : PSs X [st] (sM K W m) := pss_one h1
theorem wAsg {r : R U} {f : U → Sto → RS} {D : Ends} {P : VK} (er : ER K g σ env) (t : WS K W g (r.st env f) D) (k : ∀ u h v H g', Le g g' → HR K g' H h → Rep K g' v u → WS K W g' (f u h) D → P v H) : WE K (atSl W σ) g r P := by
  cases r with
  | bad => exact t
  | exc C n h => exact fun H g' d l hr q => t σ H g' d l hr (er.mono l) q
  | ok u h => exact fun v H g' l hr rv => k u h v H g' l hr rv (WS.mono l t)
theorem wTst {r : R Bool} {f : Bool → Sto → RS} {D : Ends} {P : Bool → Hp → Prop} (er : ER K g σ env) (t : WS K W g (r.st env f) D) (k : ∀ u h H g', Le g g' → HR K g' H h → WS K W g' (f u h) D → P u H) : WT K (atSl W σ) g r P := by
  cases r with
  | bad => exact t
  | exc C n h => exact fun H g' d l hr q => t σ H g' d l hr (er.mono l) q
  | ok u h => exact fun H g' l hr => k u h H g' l hr (WS.mono l t)
theorem gct_to {ct : CT} {D : Ends} {u : U} (hr : HR K g H h) (er : ER K g σ env) (rv : Rep K g v u) (w : WS K W g (gCT ct u env h) D) : ct.rd K v σ H D.nx := by
  unfold gCT at w
  cases e : ct.asg u env h with
  | none => rw [e] at w; exact w.elim
  | some env' =>
    rw [e] at w
    exact ct_to hr er rv e fun σ' er' _ => w σ' H g (Le.refl _) hr er'
theorem asg_to {ct : CT} {D : Ends} (q : sM K W (mAsg ct ma) D σ H) : tAsg (tM K W ma) (ct.rd K) D σ H := by
  obtain ⟨g, env, h, hr, er, w⟩ := q
  exact ⟨g, env, h, hr, er, wAsg er w fun u h1 v H1 g1 l1 hr1 rv w1 => gct_to hr1 (er.mono l1) rv w1⟩
theorem ss_set {i : Nat} {x : Str} {pos' : Pos} (hN : X.N.Nodup) (hi : X.N[i]? = some x) (hx : L2.Loc X.env.scope x) (he : PE X e (tM K W me)) (hs : swapsWith e (some (.Name x pos')) pos.line X.env = pure false := by rfl)
    (hf : X.fn x = true ∨ X.env.scope.names.lookup x = some .local := by first | exact .inl rfl | exact .inr rfl | assumption) : PS X (.Assign [.Name x pos'] e pos) (sM K W (mAsg (.one i) me)) :=
  PS.weak (ps_set hN hi hx he hs hf) fun D σ H q => asg_to q
theorem ss_setT {is : List Nat} {elts : List Expr} {kk : Nat} {tp : Pos} (hc : X.calm = true) (he : PE X e (tM X.K W me)) (hg : PGs X elts (gAll is)) (hn : (assignEach elts X.env).length = is.length := by rfl) (hst : (assignEach elts X.env).findIdx? (·.1) = none := by rfl)
    (hs : swapsWithSole [.Tuple elts kk tp] e pos.line X.env = pure false := by rfl) (hw : swappedStores [.Tuple elts kk tp] e X.env = pure none := by rfl) (h1 : (assignEach [.Tuple elts kk tp] X.env).map (·.2) = [assign (.Tuple elts kk tp) X.env] := by rfl) :
    PS X (.Assign [.Tuple elts kk tp] e pos) (sM X.K W (mAsg (.tup is) me)) :=
  PS.weak (ps_asg he (pg_tup hc hg hn hst) hs hw h1) fun D σ H q => asg_to q
theorem ss_ret (he : PE X e (tM K W me)) : PS X (.Return (some e) pos) (sM K W (mRet me)) :=
  PS.weak (ps_ret he) fun D σ H ⟨g, env, h, hr, er, w⟩ => ⟨g, env, h, hr, er, wAsg er w fun u h1 v H1 g1 l1 hr1 rv w1 => w1 v H1 g1 (Le.refl _) hr1 rv⟩
theorem ss_expr (he : PE X e (tM K W me)) (hs : swapsWith e none pos.line X.env = pure false := by rfl) : PS X (.Expr e pos) (sM K W (mDrop me)) :=
  PS.weak (ps_expr he hs) fun D σ H ⟨g, env, h, hr, er, w⟩ => ⟨g, env, h, hr, er, wAsg er w fun u h1 v H1 g1 l1 hr1 rv w1 => w1 σ H1 g1 (Le.refl _) hr1 (er.mono l1)⟩
theorem ss_if {sa sb : List Stmt} (hc : PT X c (bM K W ta)) (ha : PSs X sa (sM K W m1)) (hb : PSs X sb (sM K W m2)) : PS X (.If c sa sb pos) (sM K W (mIfS ta m1 m2)) :=
  PS.weak (ps_if hc ha hb) fun D σ H ⟨g, env, h, hr, er, w⟩ => ⟨g, env, h, hr, er, wTst er w fun k h1 H1 g1 l1 hr1 w1 => by
      cases k with
      | true => exact ⟨g1, env, h1, hr1, er.mono l1, w1⟩
      | false => exact ⟨g1, env, h1, hr1, er.mono l1, w1⟩⟩
/-! ### for -/
open Classical in
noncomputable def forL (c : Chk) (ct : CT) (mb : SM) : List U → Env' → Sto → RS
  | [], env, h => if chkOk c h then .nx env h else .bad
  | u :: us, env, h => if chkOk c h then (match ct.asg u env h with
      | some env1 => (match mb env1 h with
        | .nx e h1 => forL c ct mb us e h1
        | .ct e h1 => forL c ct mb us e h1
        | .bk e h1 => .nx e h1
        | r => r)
      | none => .bad) else .bad
noncomputable def mFor (mi : IM') (ct : CT) (mb : SM) : SM := fun env h => (mi env h).st env fun z h1 => forL z.1 ct mb z.2 env h1
theorem for_to {J : It} {c : Chk} {us : List U} {ct : CT} {mb : SM} {tb' : TS} {D : Ends} (hb : ∀ D σ H, sM K W mb D σ H → tb' D σ H) (hr : HR K g H h) (er : ER K g σ env) (ok : ItOk K g J c us) (w : WS K W g (forL c ct mb us env h) D) :
    ∃ W : Nat → Nat → L2.St → Hp → Prop, (∃ m, W 0 m σ H) ∧ ∀ i m σ H, W i m σ H →
      (J.stop i H ∧ D.nx σ H) ∨ (J.go i H ∧ ∃ N : L2.St → Hp → Prop, (∀ σ' H', N σ' H' → ∃ m', m' < m ∧ W (i + 1) m' σ' H') ∧ ∀ x H', J.yld i H x H' → ct.rd K x σ H' fun σ2 H2 => tb' { D with nx := N, ct := N, bk := D.nx } σ2 H2) := by
  refine ⟨fun i m σ H => m = us.length - i ∧ i ≤ us.length ∧ ∃ g' env h, Le g g' ∧ HR K g' H h ∧ ER K g' σ env ∧ WS K W g' (forL c ct mb (us.drop i) env h) D, ⟨us.length, by simp, Nat.zero_le _, g, env, h, Le.refl _, hr, er, w⟩, ?_⟩
  rintro i m σ H ⟨rfl, hi, g', env, h, l, hr, er, w⟩
  by_cases hlt : i < us.length
  · rw [List.drop_eq_getElem_cons hlt] at w
    unfold forL at w
    split at w
    · rename_i ck
      refine .inr ⟨ok.go g' H h i l hr ck hlt, fun σ' H' => i + 1 ≤ us.length ∧ ∃ g2 env h, Le g g2 ∧ HR K g2 H' h ∧ ER K g2 σ' env ∧ WS K W g2 (forL c ct mb (us.drop (i + 1)) env h) D, fun σ' H' q => ⟨us.length - (i + 1), by omega, rfl, q⟩, fun x H' y => ?_⟩
      obtain ⟨g2, u, l2, hr2, hu, ru⟩ := ok.yl g' H h i x H' l hr ck hlt y
      have eu : us[i] = u := by
        rw [List.getElem?_eq_getElem hlt] at hu
        exact Option.some.inj hu
      rw [eu] at w
      cases ea : ct.asg u env h with
      | none => rw [ea] at w; exact w.elim
      | some env1 =>
        rw [ea] at w
        refine ct_to hr2 (er.mono l2) ru ea fun σ2 er2 _ => hb _ _ _ ⟨g2, env1, h, hr2, er2, ?_⟩
        have w := WS.mono l2 w
        simp only at w
        cases eb : mb env1 h with
        | bad => rw [eb] at w; exact w
        | ex C n e h => rw [eb] at w; exact w
        | rt u h1 => rw [eb] at w; exact w
        | bk e h1 => rw [eb] at w; exact w
        | nx e h1 => rw [eb] at w; exact fun σ3 H3 g3 l3 hr3 er3 => ⟨hlt, g3, e, h1, (l.trans l2).trans l3, hr3, er3, WS.mono l3 w⟩
        | ct e h1 => rw [eb] at w; exact fun σ3 H3 g3 l3 hr3 er3 => ⟨hlt, g3, e, h1, (l.trans l2).trans l3, hr3, er3, WS.mono l3 w⟩
    · exact w.elim
  · have e : i = us.length := by omega
    subst e
    rw [List.drop_length] at w
    unfold forL at w
    split at w
    · rename_i ck
      exact .inl ⟨ok.stop g' H h l hr ck, w σ H g' (Le.refl _) hr er⟩
    · exact w.elim
variable {mi : IM'} {ct : CT} {iter : Expr} {body : List Stmt} {mbs : SM}
theorem ss_for (hp : PassesOwn (model X.prog X.w) X.A X.env X.xe) (hc : X.calm = true) (hi : PI X tg iter (iM X.K W mi)) (hg : PG X tg (ct.rd X.K)) (hb : PSs X body (sM X.K W mbs)) (hs : ∀ x, foldedSetIterable iter X.env x = pure x := by intro _; rfl) :
    PS X (.For tg iter body [] pos) (sM X.K W (mFor mi ct mbs)) :=
  PS.weak (ps_for hp hc hi hg hb hs) fun D σ H ⟨g, env, h, hr, er, w⟩ => ⟨g, env, h, hr, er, by
    unfold mFor at w
    cases e : mi env h with
    | bad => rw [e] at w; exact w
    | exc C n h => rw [e] at w; exact fun H g' d l hr q => w σ H g' d l hr (er.mono l) q
    | ok z h1 =>
      obtain ⟨c, us⟩ := z
      rw [e] at w
      exact fun J H1 g1 l1 hr1 ok => for_to (fun _ _ _ q => q) hr1 (er.mono l1) ok (WS.mono l1 w)⟩
theorem pg_one {i : Nat} {x : Str} (hN : X.N.Nodup) (hi : X.N[i]? = some x) (hx : L2.Loc X.env.scope x) (hf : X.fn x = true ∨ X.env.scope.names.lookup x = some .local := by first | exact .inl rfl | exact .inr rfl | assumption) : PG X (.Name x pos) ((CT.one i).rd K) := pg_name hN hi hx hf
theorem pgs_n : PGs X [] (gAll []) := pgs_nil
theorem pgs_c {i : Nat} {x : Str} {is : List Nat} {es : List Expr} (hN : X.N.Nodup) (hi : X.N[i]? = some x) (hx : L2.Loc X.env.scope x) (h2 : PGs X es (gAll is)) (hf : X.fn x = true ∨ X.env.scope.names.lookup x = some .local := by first | exact .inl rfl | exact .inr rfl | assumption)
    (hs : (assignEach (.Name x pos :: es) X.env).map (·.2) = assign (.Name x pos) X.env :: (assignEach es X.env).map (·.2) := by rfl) : PGs X (.Name x pos :: es) (gAll (i :: is)) := pgs_cons (pg_name hN hi hx hf) h2 hs
/-! ### while -/
def whL (t : TM) (mb : SM) : Nat → Env' → Sto → RS
  | 0, _, _ => .bad
  | n + 1, env, h => (t env h).st env fun c h1 => if c = true then (match mb env h1 with
      | .nx e h2 => whL t mb n e h2
      | .ct e h2 => whL t mb n e h2
      | .bk e h2 => .nx e h2
      | r => r) else .nx env h1
def mWhile (n : Nat) (t : TM) (mb : SM) : SM := fun env h => whL t mb n env h
theorem ss_while {n : Nat} (hp : PassesOwn (model X.prog X.w) X.A X.env X.xe) (hc : PT X c (bM K W ta)) (hb : PSs X body (sM K W mbs)) : PS X (.While c body [] pos) (sM K W (mWhile n ta mbs)) :=
  PS.weak (ps_while hp hc hb) fun D σ H ⟨g, env, h, hr, er, w⟩ => by
    refine ⟨fun m σ H => ∃ g env h, HR K g H h ∧ ER K g σ env ∧ WS K W g (whL ta mbs m env h) D, ⟨n, g, env, h, hr, er, w⟩, ?_⟩
    rintro m σ H ⟨g, env, h, hr, er, w⟩
    cases m with
    | zero => exact w.elim
    | succ m =>
      unfold whL at w
      refine ⟨g, env, h, hr, er, wTst er w fun k h1 H1 g1 l1 hr1 w => ?_⟩
      · cases k with
        | false => exact w σ H1 g1 (Le.refl _) hr1 (er.mono l1)
        | true =>
          refine ⟨fun σ' H' => ∃ g env h, HR K g H' h ∧ ER K g σ' env ∧ WS K W g (whL ta mbs m env h) D, fun σ' H' q => ⟨m, Nat.lt_succ_self m, q⟩, g1, env, h1, hr1, er.mono l1, ?_⟩
          have w : WS K W g1 (match mbs env h1 with
            | .nx e h2 => whL ta mbs m e h2
            | .ct e h2 => whL ta mbs m e h2
            | .bk e h2 => .nx e h2
            | r => r) D := w
          cases eb : mbs env h1 with
          | bad => rw [eb] at w; exact w
          | ex C n e h => rw [eb] at w; exact w
          | rt u h1 => rw [eb] at w; exact w
          | bk e h1 => rw [eb] at w; exact w
          | nx e h1 => rw [eb] at w; exact fun σ3 H3 g3 l3 hr3 er3 => ⟨g3, e, h1, hr3, er3, WS.mono l3 w⟩
          | ct e h1 => rw [eb] at w; exact fun σ3 H3 g3 l3 hr3 er3 => ⟨g3, e, h1, hr3, er3, WS.mono l3 w⟩
/-! ### comprehensions -/
/-- nothing may be raised here -/
def R.no {α : Type} (r : R α) : R α := match r with
  | .ok a h => .ok a h
  | _ => .bad
abbrev W0 : WX := fun _ _ _ _ => False
open Classical in
noncomputable def lcL (c : Chk) (ct : CT) (t : TM) (me : EM) (n : Nat) (env : Env') : List U → Sto → R U
  | [], h => if chkOk c h then .ok (.ref n) h else .bad
  | u :: us, h => if chkOk c h then (match ct.asg u env h with
      | some env1 => (t env1 h).no.bind fun b h1 => if b = true then (me env1 h1).no.bind fun y h2 => (match h2[n]? with
          | some (.lst acc) => if acc.length < 16000000 then lcL c ct t me n env us (h2.set n (.lst (acc ++ [y]))) else .bad
          | _ => .bad) else lcL c ct t me n env us h1
      | none => .bad) else .bad
noncomputable def mLc (mi : IM') (ct : CT) (t : TM) (me : EM) (vs : List Nat) : EM := fun env h => (mi env h).bind fun z h1 => lcL z.1 ct t me h1.length (wipeE env vs) z.2 (h1 ++ [.lst []])
def bYes : TM := fun _ h => .ok true h
theorem wTno {r : R Bool} {f : Bool → Sto → R U} {Q : VK} {E' : XK} {P : Bool → Hp → Prop} (t : WE K E g (r.no.bind f) Q) (k : ∀ u h H g', Le g g' → HR K g' H h → WE K E g' (f u h) Q → P u H) : WT K E' g r P := by
  cases r with
  | bad => exact t
  | exc C n h => exact t.elim
  | ok u h => exact fun H g' l hr => k u h H g' l hr (WE.mono l t)
theorem wEno {r : R U} {f : U → Sto → R U} {Q P : VK} {E' : XK} (t : WE K E g (r.no.bind f) Q) (k : ∀ u h v H g', Le g g' → HR K g' H h → Rep K g' v u → WE K E g' (f u h) Q → P v H) : WE K E' g r P := by
  cases r with
  | bad => exact t
  | exc C n h => exact t.elim
  | ok u h => exact fun v H g' l hr rv => k u h v H g' l hr rv (WE.mono l t)
theorem lc_to {J : It} {c : Chk} {us : List U} {Q : VK} {vs : List Nat} {tt : TT} {te : TE} {H1 : Hp} {h1 : Sto} {env : Env'} {D : Addr} (hct : ∀ i ∈ ct.ix, i ∈ vs) (ht : ∀ σ H Q, bM K W0 ta σ H Q → tt σ H Q) (he : ∀ σ H Q, tM K W0 me σ H Q → te σ H Q)
    (hr : HR K g H1 h1) (er : ER K g σ env) (ok : ItOk K g J c us) (hD : H1 D = none) (w : WE K E g (lcL c ct ta me h1.length (wipeE env vs) us (h1 ++ [.lst []])) Q) :
    ∃ W : Nat → Nat → Hp → Prop, (∃ m, W 0 m (upd H1 D (.lst []))) ∧ ∀ i m H, W i m H →
      (J.stop i H ∧ Q (.ref D) H) ∨ (J.go i H ∧ ∃ Nx : Hp → Prop, (∀ H', Nx H' → ∃ m', m' < m ∧ W (i + 1) m' H') ∧ ∀ x H', J.yld i H x H' → ct.rd K x (wipe σ vs) H' fun σ2 H2 => wipe σ2 vs = wipe σ vs ∧ tt σ2 H2 fun b H3 =>
        if b = true then te σ2 H3 fun y H4 => ∃ acc, H4 D = some (.lst acc) ∧ acc.length < sizeLine ∧ Nx (upd H4 D (.lst (acc ++ [y]))) else Nx H3) := by
  have hDn : (g.new D).al[h1.length]? = some D := by
    show (g.al ++ [D])[h1.length]? = _
    rw [← hr.len]; simp
  have hr0 : HR K (g.new D) (upd H1 D (.lst [])) (h1 ++ [.lst []]) := hr.newLst hD .nil
  refine ⟨fun i m H => m = us.length - i ∧ i ≤ us.length ∧ ∃ g' h, Le (g.new D) g' ∧ HR K g' H h ∧ WE K E g' (lcL c ct ta me h1.length (wipeE env vs) (us.drop i) h) Q, ⟨us.length, by simp, Nat.zero_le _, g.new D, _, Le.refl _, hr0, WE.mono Le.new w⟩, ?_⟩
  rintro i m H ⟨rfl, hi, g', h, l, hr, w⟩
  have l0 : Le g g' := Le.new.trans l
  have hn' : g'.al[h1.length]? = some D := l.get hDn
  by_cases hlt : i < us.length
  · rw [List.drop_eq_getElem_cons hlt] at w
    unfold lcL at w
    split at w
    · rename_i ck
      refine .inr ⟨ok.go g' H h i l0 hr ck hlt, fun H' => i + 1 ≤ us.length ∧ ∃ g2 h, Le (g.new D) g2 ∧ HR K g2 H' h ∧ WE K E g2 (lcL c ct ta me h1.length (wipeE env vs) (us.drop (i + 1)) h) Q, fun H' q => ⟨us.length - (i + 1), by omega, rfl, q⟩, fun x H' y => ?_⟩
      obtain ⟨g2, u, l2, hr2, hu, ru⟩ := ok.yl g' H h i x H' l0 hr ck hlt y
      have eu : us[i] = u := by
        rw [List.getElem?_eq_getElem hlt] at hu
        exact Option.some.inj hu
      rw [eu] at w
      cases ea : ct.asg u (wipeE env vs) h with
      | none => rw [ea] at w; exact w.elim
      | some env1 =>
        rw [ea] at w
        have w : WE K E g' ((ta env1 h).no.bind _) Q := w
        refine ct_to hr2 ((er.wipe vs).mono (l0.trans l2)) ru ea fun σ2 er2 hw => ⟨by rw [hw vs hct, wipe_wipe], ht _ _ _ ⟨g2, env1, h, hr2, er2, ?_⟩⟩
        refine wTno (WE.mono l2 w) fun b h2 H2 g3 l3 hr3 w3 => ?_
        have er3 := er2.mono l3
        cases b with
        | false => exact ⟨hlt, g3, h2, (l.trans l2).trans l3, hr3, w3⟩
        | true =>
          have w3 : WE K E g3 ((me env1 h2).no.bind _) Q := w3
          refine he _ _ _ ⟨g3, env1, h2, hr3, er3, wEno w3 fun y h3 vy H3 g4 l4 hr4 ry w4 => ?_⟩
          have hn4 : g4.al[h1.length]? = some D := ((l2.trans l3).trans l4).get hn'
          split at w4
          · rename_i acc e4
            split at w4
            · rename_i z
              obtain ⟨vacc, h5, r5⟩ := hr4.ob _ _ _ hn4 e4
              exact ⟨vacc, h5, by rw [r5.len]; exact sz16l z, hlt, g4, _, ((l.trans l2).trans l3).trans l4, hr4.setLst hn4 h5 (r5.app (.one ry)), w4⟩
            · exact w4.elim
          · exact w4.elim
    · exact w.elim
  · have e : i = us.length := by omega
    subst e
    rw [List.drop_length] at w
    unfold lcL at w
    split at w
    · rename_i ck
      exact .inl ⟨ok.stop g' H h l0 hr ck, w (.ref D) H g' (Le.refl _) hr (.ref hn')⟩
    · exact w.elim
theorem lcM_to {vs : List Nat} {tt : TT} {te : TE} {Q : VK} (hct : ∀ i ∈ ct.ix, i ∈ vs) (ht : ∀ σ H Q, bM K W0 ta σ H Q → tt σ H Q) (he : ∀ σ H Q, tM K W0 me σ H Q → te σ H Q) (q : tM K W (mLc mi ct ta me vs) σ H Q) : tLc (iM K W mi) (ct.rd K) tt te vs σ H Q := by
  obtain ⟨g, env, h, hr, er, w⟩ := q
  refine ⟨g, env, h, hr, er, ?_⟩
  unfold mLc at w
  cases e : mi env h with
  | bad => rw [e] at w; exact w
  | exc C n h => rw [e] at w; exact w
  | ok z h1 =>
    obtain ⟨c, us⟩ := z
    rw [e] at w
    have w : WE K (atSl W σ) g (lcL c ct ta me h1.length (wipeE env vs) us (h1 ++ [.lst []])) Q := w
    exact fun J H1 g1 l1 hr1 ok D hD => lc_to hct ht he hr1 (er.mono l1) ok hD (WE.mono l1 w)
abbrev Blk (X : Cx) (scope : Scope) (P : Cx → Prop) : Prop := ∀ (s : Shared) (H : Hp) (C : Addr) (cl : List (Str × Addr)) (fp : List Addr), P (X.blk s H scope (compEnvC scope cl C X.env) fp)
theorem pts_y {X : Cx} : PTs X [] (bM K W bYes) := ⟨fun pins s σ H Q I ⟨g, env, h, hr, er, w⟩ => pts_nil.run pins s σ H Q I (w H g (Le.refl _) hr)⟩
variable {elt : Expr} {ifs : List Expr} {scope : Scope} {own : List (Str × Nat)}
theorem se_lc {vs : List Nat} (hc : X.calm = true) (hN : X.N.Nodup) (hi : PI X tg iter (iM X.K W mi)) (ok : BlkOk X.N X.env.scope scope own) (hv : own.map (·.2) = vs) (hct : ∀ i ∈ ct.ix, i ∈ vs)
    (hg : Blk X scope fun Y => PG Y tg (ct.rd X.K)) (ht : Blk X scope fun Y => PTs Y ifs (bM X.K W0 ta)) (he : Blk X scope fun Y => PE Y elt (tM X.K W0 me)) (hs : ∀ x, foldedSetIterable iter X.env x = pure x := by intro _; rfl) :
    PE X (.ListComp elt [⟨tg, iter, ifs, 0⟩] scope pos) (tM X.K W (mLc mi ct ta me vs)) := by
  subst hv
  exact PE.weak (pe_lc hc hN hi ok hg ht he hs) fun σ H Q q => lcM_to hct (fun _ _ _ z => z) (fun _ _ _ z => z) q
/-! ### stores into lists, += -/
def uSetL (x y z : U) (h : Sto) : Option Sto := match x, y with
  | .ref n, .int k => (match h[n]? with
    | some (.lst us) => (ixN us.length k).map fun j => h.set n (.lst (us.set j z))
    | _ => none)
  | _, _ => none
theorem setL_to {z : U} {vx vy vz : V} {h' : Sto} {Q : Hp → Prop} (hr : HR K g H h) (rx : Rep K g vx x) (ry : Rep K g vy y) (rz : Rep K g vz z) (e : uSetL x y z h = some h') (k : ∀ H', HR K g H' h' → Q H') : rSetL vx vy vz H Q := by
  unfold uSetL at e
  split at e
  · rename_i n i
    split at e
    · rename_i us e1
      cases ei : ixN us.length i with
      | none => rw [ei] at e; cases e
      | some j =>
        rw [ei] at e
        cases e
        cases ry
        cases rx with
        | ref q =>
          rename_i a
          obtain ⟨vs, h1, r1⟩ := hr.ob n a _ q e1
          exact ⟨a, vs, i, j, rfl, rfl, h1, by rw [r1.len]; exact ei, k _ (hr.setLst q h1 (r1.set j rz))⟩
    · cases e
  · cases e
/-- o[i] = e of a list -/
def mSetI (f : U → U → U → Sto → Option Sto) (o i e : EM) : SM := fun env h => (e env h).st env fun z h1 => (o env h1).st env fun x h2 => (i env h2).st env fun y h3 => match f x y z h3 with
  | some h4 => .nx env h4
  | none => .bad
def SetOK (K : Fr) (r : TSet) (f : U → U → U → Sto → Option Sto) : Prop := ∀ g H h vx vy vz x y z h' Q, HR K g H h → Rep K g vx x → Rep K g vy y → Rep K g vz z → f x y z h = some h' → (∀ H', HR K g H' h' → Q H') → r vx vy vz H Q
theorem ok_setL : SetOK K rSetL uSetL := fun g H h vx vy vz x y z h' Q hr rx ry rz e k => setL_to hr rx ry rz e k
theorem seti_to {r : TSet} {f : U → U → U → Sto → Option Sto} {D : Ends} (ok : SetOK K r f) (q : sM K W (mSetI f mo ma me) D σ H) : tAsg (tM K W me) (gSub (tM K W mo) (tM K W ma) r) D σ H := by
  obtain ⟨g, env, h, hr, er, w⟩ := q
  refine ⟨g, env, h, hr, er, wAsg er w fun z h1 vz H1 g1 l1 hr1 rz w1 => ⟨g1, env, h1, hr1, er.mono l1, wAsg (er.mono l1) w1 fun x h2 vx H2 g2 l2 hr2 rx w2 => ⟨g2, env, h2, hr2, er.mono (l1.trans l2), wAsg (er.mono (l1.trans l2)) w2 fun y h3 vy H3 g3 l3 hr3 ry w3 => ?_⟩⟩⟩
  cases e : f x y z h3 with
  | none => rw [e] at w3; exact w3.elim
  | some h4 =>
    rw [e] at w3
    exact ok g3 H3 h3 vx vy vz x y z h4 _ hr3 (rx.mono l3) ry (rz.mono (l2.trans l3)) e fun H4 hr4 => w3 σ H4 g3 (Le.refl _) hr4 (er.mono ((l1.trans l2).trans l3))
variable {i : Expr} {ix : EM} {tpos : Pos}
theorem ss_setI {r : TSet} {f : U → U → U → Sto → Option Sto} (hp : PSet X r) (ok : SetOK K r f) (he : PE X e (tM K W me)) (ho : PE X o (tM K W mo)) (hi : PE X i (tM K W ix))
    (ha : ∀ v, assign (.Subscript o i tpos) X.env v = (do
      let ov ← holding [v] (eval o X.env)
      let iv ← holding [v, ov] (eval i X.env)
      standAt tpos
      holding [v, ov, iv] (setItem ov iv v)
      release [v, ov, iv] []) := by intro _; rfl)
    (hs : swapsWithSole [.Subscript o i tpos] e pos.line X.env = pure false := by rfl) (hw : swappedStores [.Subscript o i tpos] e X.env = pure none := by rfl) (h1 : (assignEach [.Subscript o i tpos] X.env).map (·.2) = [assign (.Subscript o i tpos) X.env] := by rfl) :
    PS X (.Assign [.Subscript o i tpos] e pos) (sM K W (mSetI f mo ix me)) :=
  PS.weak (ps_asg he (pg_sub ho hi hp ha) hs hw h1) fun D σ H q => seti_to ok q
theorem ss_setIL (he : PE X e (tM K W me)) (ho : PE X o (tM K W mo)) (hi : PE X i (tM K W ix))
    (ha : ∀ v, assign (.Subscript o i tpos) X.env v = (do
      let ov ← holding [v] (eval o X.env)
      let iv ← holding [v, ov] (eval i X.env)
      standAt tpos
      holding [v, ov, iv] (setItem ov iv v)
      release [v, ov, iv] []) := by intro _; rfl)
    (hs : swapsWithSole [.Subscript o i tpos] e pos.line X.env = pure false := by rfl) (hw : swappedStores [.Subscript o i tpos] e X.env = pure none := by rfl) (h1 : (assignEach [.Subscript o i tpos] X.env).map (·.2) = [assign (.Subscript o i tpos) X.env] := by rfl) :
    PS X (.Assign [.Subscript o i tpos] e pos) (sM K W (mSetI uSetL mo ix me)) := ss_setI set_list ok_setL he ho hi ha hs hw h1
/-- x += e at a name -/
def uIAdd (x y : U) (h : Sto) : R U := match x, y with
  | .int i, .int j => .ok (.int (i + j)) h
  | .str s, .str t => if s.length + t.length ≤ 16000000 then .ok (.str (s ++ t)) h else .bad
  | _, _ => .bad
abbrev rIAdd : R2 := fun x y H Q => (∃ i j, x = V.int i ∧ y = V.int j ∧ Q (.int (i + j)) H) ∨ (∃ i j, x = V.str i ∧ y = V.str j ∧ i.length + j.length ≤ sizeLine ∧ Q (.str (i ++ j)) H)
theorem opr_iadd : OpR X (inplaceOp .Add) rIAdd := iop_add.or iop_add_str
theorem ok_iadd : BinOK K rIAdd uIAdd := by
  intro E g H h v w x y Q hr rx ry t
  unfold uIAdd at t
  split at t
  · cases rx; cases ry
    exact .inl ⟨_, _, rfl, rfl, t _ _ g (Le.refl g) hr (.int _)⟩
  · cases rx; cases ry
    split at t
    · rename_i z
      refine .inr ⟨_, _, rfl, rfl, by rw [str_len, str_len]; exact sz16 z, ?_⟩
      rw [str_app]
      exact t _ _ g (Le.refl g) hr (.str _)
    · exact t.elim
  · exact t.elim
abbrev uISub := uI cT (fun i j => i - j)
def mAug (f : U → U → Sto → R U) (i : Nat) (e : EM) : SM := fun env h => match env[i]? with
  | some (some x) => (e env h).st env fun y h1 => (f x y h1).st env fun z h2 => .nx (env.set i (some z)) h2
  | _ => .bad
theorem ss_aug {op : Operator} {r : R2} {f : U → U → Sto → R U} {i : Nat} {x : Str} {pos' : Pos} (ho : OpR X (inplaceOp op) r) (ok : BinOK K r f) (hN : X.N.Nodup) (hi : X.N[i]? = some x) (hx : L2.Loc X.env.scope x) (he : PE X e (tM K W me))
    (hf : X.fn x = true ∨ X.env.scope.names.lookup x = some .local := by first | exact .inl rfl | exact .inr rfl | assumption) : PS X (.AugAssign (.Name x pos') op e pos) (sM K W (mAug f i me)) :=
  PS.weak (ps_aug (ti := r) hN hi hx he ho hf) fun D σ H ⟨g, env, h, hr, er, w⟩ => by
    unfold mAug at w
    split at w
    · rename_i x ex
      obtain ⟨v, ev, rv⟩ := er.2 i x ex
      refine ⟨v, ev, g, env, h, hr, er, wAsg er w fun y h1 vy H1 g1 l1 hr1 ry w1 => ?_⟩
      exact ok _ g1 H1 h1 v vy x y _ hr1 (rv.mono l1) ry (wAsg (er.mono l1) w1 fun z h2 vz H2 g2 l2 hr2 rz w2 => w2 _ H2 g2 (Le.refl _) hr2 ((er.mono (l1.trans l2)).set i rz))
    · exact w.elim
/-- o[i] += e of a list -/
theorem pget_list : PGet X (rIxL X.K) := by
  intro pins s σ H o i ov iv Q I ro ri h
  obtain ⟨p, xs, i, z, rfl, rfl, hq, he, q⟩ := h
  cases ro
  obtain ⟨t, rfl⟩ := ri
  obtain ⟨its, r, pl, hz⟩ := I.list hq
  obtain ⟨j, h1, h2, h3, h4, h5⟩ := atI_get he
  obtain ⟨w, ew, rw'⟩ := r.get h2
  have hl := r.length
  have hn := line63
  have fin : EP X pins σ Q w s := ⟨z, H, I, rw', q⟩
  by_cases h0 : 0 ≤ i
  · have hj : i.toNat = j := by
      rw [seqIndex_of h0 h5] at h1
      exact Option.some.inj h1
    exact wpAny_getItem_list pl.isList h0 (by omega) (by rw [hj]; simpa using ew) fin
  · have hj : (i + (its.toArray.size : Int)).toNat = j := by
      rw [seqIndex_neg (by omega) h4] at h1
      rw [List.size_toArray, ← hl]
      exact Option.some.inj h1
    exact wpAny_getItem_list_neg pl.isList (by omega) (by rw [List.size_toArray] <;> omega) (by omega) (by rw [hj]; simpa using ew) fin
def uIxL (x y : U) (h : Sto) : R U := match x, y with
  | .ref n, .int i => (match h[n]? with
    | some (.lst us) => oR (atI us i) h
    | _ => .bad)
  | _, _ => .bad
theorem ok_ixL : BinOK K (rIxL K) uIxL := by
  intro E g H h v w x y Q hr rx ry t
  unfold uIxL at t
  split at t
  · rename_i n i
    split at t
    · rename_i us e1
      cases ry
      cases rx with
      | ref q =>
        rename_i a
        obtain ⟨vs, h1, r1⟩ := hr.ob n a _ q e1
        cases e2 : atI us i with
        | none => rw [e2] at t; exact t.elim
        | some u =>
          rw [e2] at t
          obtain ⟨z, h2, h3⟩ := r1.at e2
          exact ⟨a, vs, i, z, rfl, rfl, .inl (.inl h1), h2, t _ _ g (Le.refl _) hr h3⟩
    · exact t.elim
  · exact t.elim
def mAugI (gt : U → U → Sto → R U) (f : U → U → Sto → R U) (st : U → U → U → Sto → Option Sto) (o i e : EM) : SM := fun env h => (o env h).st env fun x h1 => (i env h1).st env fun y h2 => (gt x y h2).st env fun z h3 => (e env h3).st env fun u h4 => (f z u h4).st env fun q h5 => match st x y q h5 with
  | some h6 => .nx env h6
  | none => .bad
theorem augi_to {rg : R2} {r : R2} {rs : TSet} {gt f : U → U → Sto → R U} {sf : U → U → U → Sto → Option Sto} {D : Ends} (og : BinOK K rg gt) (ok : BinOK K r f) (os : SetOK K rs sf) (q : sM K W (mAugI gt f sf mo ix me) D σ H) : tAugS (tM K W mo) (tM K W ix) (tM K W me) rg r rs D σ H := by
  obtain ⟨g, env, h, hr, er, w⟩ := q
  refine ⟨g, env, h, hr, er, wAsg er w fun x h1 vx H1 g1 l1 hr1 rx w1 => ⟨g1, env, h1, hr1, er.mono l1, wAsg (er.mono l1) w1 fun y h2 vy H2 g2 l2 hr2 ry w2 => ?_⟩⟩
  refine og _ g2 H2 h2 vx vy x y _ hr2 (rx.mono l2) ry (wAsg (er.mono (l1.trans l2)) w2 fun z h3 vz H3 g3 l3 hr3 rz w3 => ⟨g3, env, h3, hr3, er.mono ((l1.trans l2).trans l3), wAsg (er.mono ((l1.trans l2).trans l3)) w3 fun u h4 vu H4 g4 l4 hr4 ru w4 => ?_⟩)
  refine ok _ g4 H4 h4 vz vu z u _ hr4 (rz.mono l4) ru (wAsg (er.mono (((l1.trans l2).trans l3).trans l4)) w4 fun q h5 vq H5 g5 l5 hr5 rq w5 => ?_)
  cases e : sf x y q h5 with
  | none => rw [e] at w5; exact w5.elim
  | some h6 =>
    rw [e] at w5
    have l25 := (l3.trans l4).trans l5
    exact os g5 H5 h5 vx vy vq x y q h6 _ hr5 (rx.mono (l2.trans l25)) (ry.mono l25) rq e fun H6 hr6 => w5 σ H6 g5 (Le.refl _) hr6 (er.mono ((l1.trans l2).trans l25))
theorem ss_augIL {op : Operator} {r : R2} {f : U → U → Sto → R U} (hop : OpR X (inplaceOp op) r) (ok : BinOK X.K r f) (ho : PE X o (tM X.K W mo)) (hi : PE X i (tM X.K W ix)) (he : PE X e (tM X.K W me))
    (ha : ∀ ov iv new, augStore i ov iv new = (do holding [new, ov, iv] (setItem ov iv new); release [new, ov, iv] []; pure .next) := by intros; rfl) : PS X (.AugAssign (.Subscript o i tpos) op e pos) (sM X.K W (mAugI uIxL f uSetL mo ix me)) :=
  PS.weak (ps_augS ho hi pget_list he hop set_list ha) fun D σ H q => augi_to ok_ixL ok ok_setL q
end
end Q

set_option Elab.async false
set_option linter.all false
set_option maxRecDepth 100000
set_option maxHeartbeats 1000000
namespace Q
open PySem PySem.Spec PyProof.Rows L2 TL
/-! ### calls of the text's defs -/
abbrev Sem' := List U → Sto → R U
def spM (K : Fr) (n : Nat) (sem : Sem') : Sp := fun vs H Q E => vs.length = n ∧ ∃ g us h, HR K g H h ∧ Reps K g vs us ∧ WE K E g (sem us h) Q
def fnM (n : Nat) (body : SM) : Sem' := fun us h => match body (us.map some ++ List.replicate (n - us.length) none) h with
  | .nx _ h' => .ok .non h'
  | .rt u h' => .ok u h'
  | .ex C n _ h' => .exc C n h'
  | _ => .bad
theorem er_start {K : Fr} {g : G} {N : List Str} : ∀ {vs : List V} {us : List U}, Reps K g vs us → ER K g (L2.start N vs) (us.map some ++ List.replicate (N.length - us.length) none) := by
  intro vs us r
  refine ⟨by simp [L2.start, r.len], fun i u e => ?_⟩
  by_cases hi : i < us.length
  · rw [List.getElem?_append_left (by simpa using hi)] at e
    rw [List.getElem?_map] at e
    cases eu : us[i]? with
    | none => rw [eu] at e; cases e
    | some w =>
      rw [eu] at e
      cases e
      obtain ⟨v, hv, rv⟩ := r.get eu
      refine ⟨v, ?_, rv⟩
      unfold L2.start
      rw [List.getElem?_append_left (by rw [List.length_map, r.len]; exact hi), List.getElem?_map, hv]
      rfl
  · rw [List.getElem?_append_right (by simpa using Nat.le_of_not_lt hi)] at e
    have := List.getElem?_replicate (a := (none : Option U)) (n := N.length - us.length) (i := i - (us.map some).length)
    rw [this] at e
    split at e <;> cases e
section
/-- a def's wish of what it raises -/
abbrev WR (E : XK) : WX := fun c d _ H => E c d H
variable {P : Program} {Wd : World} {K : Fr} {mg : Str → Option Value} {base : Heap}
theorem fn_ok {x qual : Str} {st : Stmt} {f : Addr} {fd : FuncData} {N ps : List Str} {k : Nat} {body : SM} (F : Fun K x qual st f fd) (S : FnScope N ps (defScope st))
    (hb : ∀ (cdv : Value) (A : Around) (outer : List Env) (s : Shared) (H : Hp) (E : XK), Room k (A.deeper (envOfC qual (defScope st) s.heap.objs.size f cdv)) →
      Takes (cxOf (L2.CX P Wd) P Wd K mg base N qual (defScope st) f cdv A outer s H E) (WR E) →
      PassesOwn (model P Wd) (cxOf (L2.CX P Wd) P Wd K mg base N qual (defScope st) f cdv A outer s H E).A (cxOf (L2.CX P Wd) P Wd K mg base N qual (defScope st) f cdv A outer s H E).env (cxOf (L2.CX P Wd) P Wd K mg base N qual (defScope st) f cdv A outer s H E).xe →
      PSs (cxOf (L2.CX P Wd) P Wd K mg base N qual (defScope st) f cdv A outer s H E) (defBody st) (sM K (WR E) body)) : FnOk P Wd K mg base (L2.CX P Wd) (k + 1) f fd ps (spM K ps.length (fnM N.length body)) := by
  refine F.okX S (fun vs H Q E h => h.1) (fun cdv A outer s H vs Q E hr h => ⟨_, hb cdv A outer s H E hr (takes_of rfl rfl rfl rfl) (passes_of rfl), ?_⟩)
  obtain ⟨hl, g, us, h0, hr0, rv, w⟩ := h
  refine ⟨g, us.map some ++ List.replicate (N.length - us.length) none, h0, hr0, er_start rv, ?_⟩
  unfold fnM at w
  cases e : body (us.map some ++ List.replicate (N.length - us.length) none) h0 with
  | nx e1 h1 => rw [e] at w; exact fun σ H1 g1 l1 hr1 _ => w .non H1 g1 l1 hr1 .non
  | rt u h1 => rw [e] at w; exact w
  | bk e1 h1 => rw [e] at w; exact w.elim
  | ct e1 h1 => rw [e] at w; exact w.elim
  | ex C n e1 h1 => rw [e] at w; exact fun σ H1 g1 d l1 hr1 _ q => w H1 g1 d l1 hr1 q
  | bad => rw [e] at w; exact w.elim
/-- nothing is said -/
theorem fn_bad {f : Addr} {fd : FuncData} {ps : List Str} {k n : Nat} (h : ps.length = n) : FnOk P Wd K mg base (L2.CX P Wd) k f fd ps (spM K n fun _ _ => .bad) :=
  ⟨fun vs H Q E q => q.1.trans h.symm, fun A outer s H args us vs Q E hr e0 hb rv q => by
    obtain ⟨_, g, us, h, _, _, w⟩ := q
    exact w.elim⟩
end
section
variable {K : Fr} {g g' : G} {E : XK} {W : WX} {X : Cx} {H : Hp} {h : Sto} {v w : V} {x y : U} {σ : L2.St} {env : Env'} {a b c e o tg : Expr} {es rest : List Expr} {ma mb mc me mo : EM} {ta tb : TM} {pos : Pos} {am : AM} {n : Str} {p : Pos}
def mCall (n : Nat) (sem : Sem') (am : AM) : EM := fun env h => (am env h).bind fun us h1 => if us.length = n then sem us h1 else .bad
variable {sem : Sem'} {f : Addr} {fd : FuncData} {ps : List Str} {k m : Nat}
theorem call_to {Q : VK} (q : tM K W (mCall m sem am) σ H Q) : tCallS (spM K m sem) (fun σ => atSl W σ) (aM K W am) σ H Q := by
  obtain ⟨g, env, h, hr, er, w⟩ := q
  refine ⟨g, env, h, hr, er, wA w fun us h1 vs H1 g1 l1 hr1 rv w1 => ?_⟩
  split at w1
  · rename_i z
    exact ⟨by rw [rv.len]; exact z, g1, us, h1, hr1, rv, w1⟩
  · exact w1.elim
theorem se_call (tk : Takes X W) (F : FnOk X.prog X.w X.K X.mg X.base (L2.CX X.prog X.w) k f fd ps (spM X.K m sem)) (hr : Room k X.A) (hg : Gl X n) (hm : X.mg n = some (.ref f)) (hk : PySem.W.keepIn X.K (.ref f) = true) (hb : Binds X.K fd ps [])
    (ha : PA X (e :: es) (aM X.K W am)) (hdb : (n == ("__debug__" : Str)) = false := by decide) (h2 : starEach (e :: es) X.env = (false, eval e X.env) :: starEach es X.env := by rfl) (h3 : (backTo pos (starEach es X.env)).any (·.1) = false := by rfl) :
    PE X (.Call (.Name n p) (e :: es) [] pos) (tM X.K W (mCall m sem am)) :=
  PE.weak (pe_callS (E := fun σ => atSl W σ) F hr hg hm hk hb (fun σ => passAt tk σ) ha hdb h2 h3) fun σ H Q q => call_to q
theorem pe_callS0 {sp : Sp} {E : L2.St → XK} (F : FnOk X.prog X.w X.K X.mg X.base (L2.CX X.prog X.w) k f fd ps sp) (hr : Room k X.A) (hg : Gl X n) (hm : X.mg n = some (.ref f)) (hk : PySem.W.keepIn X.K (.ref f) = true) (hb : Binds X.K fd ps []) (hx : ∀ σ, PassesAt (L2.CX X.prog X.w) X σ (E σ))
    (hdb : (n == ("__debug__" : Str)) = false := by decide) : PE X (.Call (.Name n p) [] [] pos) (tCallS sp E tNil) := by
  refine ⟨fun pins s σ H Q I h => ?_⟩
  refine wpAny_Call_Name_kw (ld_glob I hg hm ?_ hdb)
  exact PySem.W.callWith_K0 I.kIn hk (run_fnS F hr hb (hx σ) I .nil h)
theorem se_call0 (tk : Takes X W) (F : FnOk X.prog X.w X.K X.mg X.base (L2.CX X.prog X.w) k f fd ps (spM X.K m sem)) (hr : Room k X.A) (hg : Gl X n) (hm : X.mg n = some (.ref f)) (hk : PySem.W.keepIn X.K (.ref f) = true) (hb : Binds X.K fd ps [])
    (hdb : (n == ("__debug__" : Str)) = false := by decide) : PE X (.Call (.Name n p) [] [] pos) (tM X.K W (mCall m sem aNil)) :=
  PE.weak (pe_callS0 (E := fun σ => atSl W σ) F hr hg hm hk hb (fun σ => passAt tk σ) hdb) fun σ H Q q => by
    have q := call_to q
    obtain ⟨g, env, h, hr, er, w⟩ := q
    exact w [] H g (Le.refl _) hr .nil

/-! ### isinstance -/
inductive Ty where
  | bool | int | str | tuple | list | dict
def Ty.nm : Ty → String
  | .bool => "bool" | .int => "int" | .str => "str" | .tuple => "tuple" | .list => "list" | .dict => "dict"
def isU (T : Ty) (h : Sto) : U → Option Bool
  | .non => some false
  | .bl _ => some (match T with | .bool => true | .int => true | _ => false)
  | .int _ => some (match T with | .int => true | _ => false)
  | .str _ => some (match T with | .str => true | _ => false)
  | .tup _ => some (match T with | .tuple => true | _ => false)
  | .fl _ => some (match T with | .list => true | _ => false)
  | .kl _ => some (match T with | .list => true | _ => false)
  | .xv _ _ _ _ => none
  | .ref n => match h[n]? with
    | some (.lst _) => some (match T with | .list => true | _ => false)
    | some (.dK _) => some (match T with | .dict => true | _ => false)
    | some (.dT _) => some (match T with | .dict => true | _ => false)
    | _ => none
theorem tyL {a : Addr} {vs : List V} (q : SqL K H a vs) : TyX K H (.ref a) (.type "list") := by
  rcases q with (q | ⟨o, q⟩) | ⟨o, its, n, q, c, _⟩
  · exact .base (.lst q)
  · exact .base (.frz q)
  · exact .kList q c
theorem tyT {a : Addr} {vs : List V} (q : SqT K H a vs) : TyX K H (.ref a) (.type "tuple") := by
  rcases q with (q | ⟨o, q⟩) | ⟨o, its, n, q, c, _⟩
  · exact .base (.tup q)
  · exact .fTuple q
  · exact .kTuple q c
theorem ty_of {T0 : Ty} {b0 : Bool} (hr : HR K g H h) (r : Rep K g v x) (e0 : isU T0 h x = some b0) : ∃ t, TyX K H v t ∧ ∀ (T : Ty) (b : Bool), isU T h x = some b → PySem.W.kitOne K t (.type T.nm) = some b := by
  cases r with
  | non => exact ⟨_, .base .non, fun T b e => by cases e; exact kit_ty (by cases T <;> decide +kernel)⟩
  | bl c => exact ⟨_, .base (.bl c), fun T b e => by cases e; exact kit_ty (by cases T <;> decide +kernel)⟩
  | int i => exact ⟨_, .base (.int i), fun T b e => by cases e; exact kit_ty (by cases T <;> decide +kernel)⟩
  | str s => exact ⟨_, .base (.str _), fun T b e => by cases e; exact kit_ty (by cases T <;> decide +kernel)⟩
  | tup q s => exact ⟨_, tyT (hr.sqT q), fun T b e => by cases e; exact kit_ty (by cases T <;> decide +kernel)⟩
  | fl q s => exact ⟨_, .base (.lst (hr.ex _ _ q)), fun T b e => by cases e; exact kit_ty (by cases T <;> decide +kernel)⟩
  | kl q s => exact ⟨_, tyL (hr.sqL q), fun T b e => by cases e; exact kit_ty (by cases T <;> decide +kernel)⟩
  | @ref a n q =>
    cases eo : h[n]? with
    | none => simp only [isU, eo] at e0; cases e0
    | some o =>
      cases o with
      | lst us =>
        obtain ⟨vs, h1, _⟩ := hr.ob _ _ _ q eo
        exact ⟨_, .base (.lst h1), fun T b e => by simp only [isU, eo] at e; cases e; exact kit_ty (by cases T <;> decide +kernel)⟩
      | dK us =>
        obtain ⟨vs, h1, _⟩ := hr.ob _ _ _ q eo
        exact ⟨_, .base (.dK h1), fun T b e => by simp only [isU, eo] at e; cases e; exact kit_ty (by cases T <;> decide +kernel)⟩
      | dT us =>
        obtain ⟨vs, h1, _⟩ := hr.ob _ _ _ q eo
        exact ⟨_, .base (.dT h1), fun T b e => by simp only [isU, eo] at e; cases e; exact kit_ty (by cases T <;> decide +kernel)⟩
      | ins C fs => simp only [isU, eo] at e0; cases e0
      | dKl us => simp only [isU, eo] at e0; cases e0
      | xd fs => simp only [isU, eo] at e0; cases e0
  | xv _ => cases e0
def bIs (T : Ty) (a : EM) : TM := fun env h => (a env h).bind fun x h1 => oB (isU T h1 x) h1
def bIs2 (T S : Ty) (a : EM) : TM := fun env h => (a env h).bind fun x h1 => oB ((isU T h1 x).bind fun b => (isU S h1 x).map fun c => b || c) h1
theorem boot_ty (T : Ty) : bootBuiltins (Str.ofString T.nm) = some (.type T.nm) := by cases T <;> decide +kernel
theorem ty_ne (T : Ty) : (Str.ofString T.nm) ≠ "__name__" := by cases T <;> decide
theorem ty_db (T : Ty) : ((Str.ofString T.nm) == ("__debug__" : Str)) = false := by cases T <;> decide
section
variable {T S : Ty} {p2 p3 p4 : Pos} {t2 : Str} (hg : Gl X n) (hm : X.mg n = none) (hv : bootBuiltins n = some (.builtin "isinstance")) (ha : PE X a (tM X.K W ma)) (hn : n ≠ "__name__") (hdb : (n == ("__debug__" : Str)) = false)
include hg hm hv ha hn hdb
theorem isi_core (hgT : Gl X (Str.ofString T.nm)) (hmT : X.mg (Str.ofString T.nm) = none)
    (he : starEach [a, .Name (Str.ofString T.nm) p2] X.env = (false, eval a X.env) :: starEach [.Name (Str.ofString T.nm) p2] X.env) (he2 : starEach [.Name (Str.ofString T.nm) p2] X.env = (false, eval (.Name (Str.ofString T.nm) p2) X.env) :: starEach [] X.env) (hpl : (backTo pos (starEach [.Name (Str.ofString T.nm) p2] X.env)).any (·.1) = false) :
    PE X (.Call (.Name n p) [a, .Name (Str.ofString T.nm) p2] [] pos) (fun σ H Q => bM X.K W (bIs T ma) σ H fun b H => Q (.bl b) H) :=
  PE.weak (pe_callB call_isi hg hm hv (pa_cons ha (pa_cons (pe_bltn (v := .ty T.nm) hgT hmT (boot_ty T) rfl (ty_ne T) (ty_db T)) pa_nil he2) he) hn hdb he hpl) fun σ H Q ⟨g, env, h, hr, er, w⟩ => ⟨g, env, h, hr, er, wET w fun u h1 v H1 g1 l1 hr1 rv w1 => by
    cases e : isU T h1 u with
    | none => rw [e] at w1; exact w1.elim
    | some b =>
      rw [e] at w1
      obtain ⟨t, h2, h3⟩ := ty_of hr1 rv e
      exact ⟨v, .ty T.nm, t, .type T.nm, b, rfl, .ty _, h2, h3 T b e, w1 H1 g1 (Le.refl _) hr1⟩⟩
end
end
end Q

set_option Elab.async false
set_option linter.all false
set_option maxRecDepth 100000
set_option maxHeartbeats 1000000
namespace Q
open PySem PySem.Spec PyProof.Rows L2 TL
section
variable {K : Fr} {g g' : G} {E : XK} {W : WX} {X : Cx} {H : Hp} {h : Sto} {v w : V} {x y : U} {σ : L2.St} {env : Env'} {a b c e o tg : Expr} {es rest : List Expr} {ma mb mc me mo : EM} {ta tb : TM} {pos : Pos} {am : AM} {n : Str} {p : Pos}
/-- from a reading of a bool -/
theorem bt_of {t : TM} (he : PE X e (fun σ H Q => bM K W t σ H fun b H => Q (.bl b) H)) (hw : ∀ whole, isTrue e X.env whole = (do let v ← whole; standAt e.pos; holding [v] (truthy v))) : PT X e (bM K W t) :=
  PT.weak (pt_val he hw) fun σ H Q ⟨g, env, h, hr, er, w⟩ => ⟨g, env, h, hr, er, by
    cases e : t env h with
    | bad => rw [e] at w; exact w
    | exc C n h => rw [e] at w; exact w
    | ok b h1 => rw [e] at w; exact fun H1 g1 l1 hr1 => ⟨b, rfl, w H1 g1 l1 hr1⟩⟩
theorem se_of {t : TM} (he : PE X e (fun σ H Q => bM K W t σ H fun b H => Q (.bl b) H)) : PE X e (tM K W (mB t)) := PE.weak he fun σ H Q q => mB_to q
section
variable {T S : Ty} {p2 p3 p4 : Pos} {kt : Nat}
theorem bt_isi (hg : Gl X "isinstance") (hm : X.mg "isinstance" = none) (ha : PE X a (tM X.K W ma)) (hgT : Gl X (Str.ofString T.nm)) (hmT : X.mg (Str.ofString T.nm) = none)
    (he : starEach [a, .Name (Str.ofString T.nm) p2] X.env = (false, eval a X.env) :: starEach [.Name (Str.ofString T.nm) p2] X.env := by rfl) (he2 : starEach [.Name (Str.ofString T.nm) p2] X.env = (false, eval (.Name (Str.ofString T.nm) p2) X.env) :: starEach [] X.env := by rfl) (hpl : (backTo pos (starEach [.Name (Str.ofString T.nm) p2] X.env)).any (·.1) = false := by rfl)
    (hw : ∀ whole, isTrue (.Call (.Name "isinstance" p) [a, .Name (Str.ofString T.nm) p2] [] pos) X.env whole = (do let v ← whole; standAt pos; holding [v] (truthy v)) := by intro _; rfl) :
    PT X (.Call (.Name "isinstance" p) [a, .Name (Str.ofString T.nm) p2] [] pos) (bM X.K W (bIs T ma)) := bt_of (isi_core hg hm (by decide +kernel) ha (by decide) (by decide) hgT hmT he he2 hpl) hw
theorem se_isi (hg : Gl X "isinstance") (hm : X.mg "isinstance" = none) (ha : PE X a (tM X.K W ma)) (hgT : Gl X (Str.ofString T.nm)) (hmT : X.mg (Str.ofString T.nm) = none)
    (he : starEach [a, .Name (Str.ofString T.nm) p2] X.env = (false, eval a X.env) :: starEach [.Name (Str.ofString T.nm) p2] X.env := by rfl) (he2 : starEach [.Name (Str.ofString T.nm) p2] X.env = (false, eval (.Name (Str.ofString T.nm) p2) X.env) :: starEach [] X.env := by rfl) (hpl : (backTo pos (starEach [.Name (Str.ofString T.nm) p2] X.env)).any (·.1) = false := by rfl) :
    PE X (.Call (.Name "isinstance" p) [a, .Name (Str.ofString T.nm) p2] [] pos) (tM X.K W (mB (bIs T ma))) := se_of (isi_core hg hm (by decide +kernel) ha (by decide) (by decide) hgT hmT he he2 hpl)
end
/-! ### texts -/
def strsOf : List U → Option (List (List Nat))
  | [] => some []
  | .str s :: r => (strsOf r).map (s :: ·)
  | _ :: _ => none
theorem strs_eq : ∀ {us : List U} {ss : List (List Nat)}, strsOf us = some ss → us = ss.map U.str
  | [], _, e => by cases e; rfl
  | .str s :: r, ss, e => by
    unfold strsOf at e
    cases e2 : strsOf r with
    | none => rw [e2] at e; cases e
    | some t =>
      rw [e2] at e
      cases e
      rw [strs_eq e2]; rfl
  | .non :: _, _, e => by cases e
  | .bl _ :: _, _, e => by cases e
  | .int _ :: _, _, e => by cases e
  | .tup _ :: _, _, e => by cases e
  | .fl _ :: _, _, e => by cases e
  | .kl _ :: _, _, e => by cases e
  | .ref _ :: _, _, e => by cases e
/-- a text's method of one argument -/
def mSM1 (f : U → U → Sto → R U) (o a : EM) : EM := fun env h => (o env h).bind fun x h1 => match x with
  | .str s => (a env h1).bind fun y h2 => f (.str s) y h2
  | _ => .bad
def mSM0 (f : U → Sto → R U) (o : EM) : EM := fun env h => (o env h).bind fun x h1 => match x with
  | .str s => f (.str s) h1
  | _ => .bad
def M1OK (K : Fr) (r : V → List V → Hp → VK → Prop) (f : U → U → Sto → R U) : Prop := ∀ E g H h v w s y Q, HR K g H h → Rep K g v (.str s) → Rep K g w y → WE K E g (f (.str s) y h) Q → r v [w] H Q
def M0OK (K : Fr) (r : V → List V → Hp → VK → Prop) (f : U → Sto → R U) : Prop := ∀ E g H h v s Q, HR K g H h → Rep K g v (.str s) → WE K E g (f (.str s) h) Q → r v [] H Q
theorem m1_to {r : V → List V → Hp → VK → Prop} {f : U → U → Sto → R U} {Q : VK} (ok : M1OK K r f) (q : tM K W (mSM1 f mo ma) σ H Q) : tM1 r (tM K W mo) (tM K W ma) σ H Q := by
  obtain ⟨g, env, h, hr, er, w⟩ := q
  refine ⟨g, env, h, hr, er, wE w fun x h1 v H1 g1 l1 hr1 rx w1 => ?_⟩
  cases rx with
  | str s => exact ⟨⟨_, rfl⟩, g1, env, h1, hr1, er.mono l1, wE w1 fun y h2 u H2 g2 l2 hr2 ry w2 => ok _ g2 H2 h2 _ u s y Q hr2 (.str s) ry w2⟩
  | _ => exact w1.elim
def uJoin (x y : U) (h : Sto) : R U := match x with
  | .str s => (match (sL h y).bind strsOf with
    | some ss => if (ss.map List.length).sum + ss.length * s.length ≤ 16000000 then .ok (.str (joinL s ss)) h else .bad
    | none => .bad)
  | _ => .bad
theorem ok_join : M1OK K (fun x xs H Q => ∃ a p, ∃ ys : List Str, x = .str a ∧ xs = [.ref p] ∧ (SqL K H p (ys.map V.str) ∨ SqT K H p (ys.map V.str)) ∧ (ys.map (·.length)).sum + ys.length * a.length ≤ 16777216 ∧ Q (.str (Txt.join a ys)) H) uJoin := by
  intro E g H h v w s y Q hr rx ry t
  simp only [uJoin] at t
  cases e : sL h y with
  | none => rw [e] at t; exact t.elim
  | some us =>
    cases e2 : strsOf us with
    | none => rw [e] at t; simp only [Option.bind, e2] at t; exact t.elim
    | some ss =>
      rw [e] at t
      simp only [Option.bind, e2] at t
      split at t
      · rename_i z
        have es := strs_eq e2
        subst es
        obtain ⟨p, vs, rfl, h1, r1⟩ := sL_of hr ry e
        have ev := r1.strs
        subst ev
        cases rx
        refine ⟨⟨s.toArray⟩, p, ss.map fun s => ⟨s.toArray⟩, rfl, rfl, h1, ?_, ?_⟩
        · have e3 : ((ss.map fun s => (⟨s.toArray⟩ : Str)).map (·.length)) = ss.map List.length := by
            rw [List.map_map]
            exact List.map_congr_left fun s _ => str_len s
          rw [e3, List.length_map, str_len]
          omega
        · have e3 : Txt.join ⟨s.toArray⟩ (ss.map fun s => (⟨s.toArray⟩ : Str)) = ⟨(joinL s ss).toArray⟩ := by
            apply ext_tl
            rw [join_eq, tl_join, tl_mk, tl_mk, List.map_map]
            congr 1
            have : (tl ∘ fun s : List Nat => (⟨s.toArray⟩ : Str)) = id := by
              funext s
              exact tl_mk s
            rw [this, List.map_id]
          rw [e3]
          exact t _ _ g (Le.refl _) hr (.str _)
      · exact t.elim
theorem se_join {apos : Pos} (ho : PE X o (tM X.K W mo)) (he : PE X e (tM X.K W me)) (hs : starEach [e] X.env = [(false, eval e X.env)] := by rfl) (hbase : attributeBase o "join" X.env (eval o X.env) = eval o X.env := by rfl) (hline : (apos.endLine == pos.line) = true := by rfl) :
    PE X (.Call (.Attribute o "join" apos) [e] [] pos) (tM X.K W (mSM1 uJoin mo me)) := PE.weak (pe_join ho he hs hbase hline) fun σ H Q q => m1_to ok_join q
end
/-! ### the end -/
def semTrue (sem : Sem') : Prop := ∀ ns : List Int, ns.length ≤ 63 → ∃ h', sem [.kl (ns.map U.int)] [] = .ok (.bl true) h'
theorem sp_end {K : Fr} {sem : Sem'} (ht : semTrue sem) {H : Hp} {a : Addr} {ns : List Int} (hl : ns.length ≤ 63) (hS : SqL K H a (ns.map V.int)) : spM K 1 sem [.ref a] H (fun v _ => v = .bl true) fun _ _ _ => False := by
  obtain ⟨h', e⟩ := ht ns hl
  refine ⟨rfl, ⟨[], H⟩, [.kl (ns.map U.int)], [], ⟨fun a o e => e, rfl, List.nodup_nil, fun a m => (nomatch m), fun n a o e => by simp at e⟩, .cons (.kl hS (Reps.ofInts ns)) .nil, ?_⟩
  rw [e]
  intro v H1 g1 l1 hr1 rv
  cases rv
  rfl
/-- the law's promise, whatever its meaning is -/
def spEnd (K : Fr) : Sp := fun vs H Q _ => ∃ (a : Addr) (ns : List Int), vs = [.ref a] ∧ ns.length ≤ 63 ∧ SqL K H a (ns.map V.int) ∧ ∀ H', Q (.bl true) H'
theorem fn_end {P : Program} {Wd : World} {K : Fr} {mg : Str → Option Value} {base : Heap} {f : Addr} {fd : FuncData} {ps : List Str} {k : Nat} {sem : Sem'} (ht : semTrue sem) (F : FnOk P Wd K mg base (L2.CX P Wd) k f fd ps (spM K 1 sem)) : FnOk P Wd K mg base (L2.CX P Wd) k f fd ps (spEnd K) :=
  F.imp fun vs H Q E ⟨a, ns, e, hl, hS, q⟩ => by
    subst e
    obtain ⟨hz, g, us, h, hr, rv, w⟩ := sp_end ht hl hS
    refine ⟨hz, g, us, h, hr, rv, ?_⟩
    cases es : sem us h with
    | bad => rw [es] at w; exact w
    | exc C n h => rw [es] at w; exact fun H1 g1 d l1 hr1 q => (w H1 g1 d l1 hr1 q).elim
    | ok u h1 =>
      rw [es] at w
      intro v H1 g1 l1 hr1 r1
      have := w v H1 g1 l1 hr1 r1
      subst this
      exact q H1
end Q

set_option Elab.async false
set_option linter.all false
set_option maxRecDepth 100000
set_option maxHeartbeats 1000000
/-! Q8: how meanings are reckoned. -/
namespace Q
open L2
section
variable {env : Env'} {h h1 : Sto} {u x y z : U} {us xs ys : List U} {a b c d : EM} {t s : TM} {m m1 m2 : SM} {am : AM} {α β : Type}
@[simp] theorem e_bind_ok {a : α} {f : α → Sto → R β} : (R.ok a h).bind f = f a h := rfl
@[simp] theorem e_bind_exc {C : Nat} {n : Option Nat} {f : α → Sto → R β} : (R.exc C n h : R α).bind f = .exc C n h := rfl
@[simp] theorem e_bind_bad {f : α → Sto → R β} : (R.bad : R α).bind f = .bad := rfl
@[simp] theorem e_var {i : Nat} : mVar i env h = match env[i]? with | some (some u) => .ok u h | _ => .bad := rfl
@[simp] theorem e_c : mC u env h = .ok u h := rfl
@[simp] theorem e_bin {f : U → U → Sto → R U} : mBin f a b env h = (a env h).bind fun x h1 => (b env h1).bind fun y h2 => f x y h2 := rfl
@[simp] theorem e_neg : mNeg a env h = (a env h).bind fun x h1 => match x with | .int i => .ok (.int (-i)) h1 | _ => .bad := rfl
@[simp] theorem e_add_i {i j : Int} : uAdd (.int i) (.int j) h = .ok (.int (i + j)) h := rfl
@[simp] theorem e_add_s {i j : List Nat} : uAdd (.str i) (.str j) h = if i.length + j.length ≤ 16000000 then .ok (.str (i ++ j)) h else .bad := rfl
@[simp] theorem e_add_ref {n : Nat} : uAdd (.ref n) y h = match mL h (.ref n), mL h y with
    | some us, some ts => if us.length + ts.length ≤ 16000000 then .ok (.ref h.length) (h ++ [.lst (us ++ ts)]) else .bad
    | _, _ => .bad := by cases y <;> rfl
@[simp] theorem e_add_fl : uAdd (.fl us) y h = match mL h y with
    | some ts => if us.length + ts.length ≤ 16000000 then .ok (.ref h.length) (h ++ [.lst (us ++ ts)]) else .bad
    | _ => .bad := by
  have e : uAdd (.fl us) y h = match mL h (.fl us), mL h y with
    | some us, some ts => if us.length + ts.length ≤ 16000000 then .ok (.ref h.length) (h ++ [.lst (us ++ ts)]) else .bad
    | _, _ => .bad := by cases y <;> rfl
  rw [e]
  cases mL h y <;> rfl
@[simp] theorem e_sub_i {i j : Int} : uSub (.int i) (.int j) h = .ok (.int (i - j)) h := rfl
@[simp] theorem e_mul_i {i j : Int} : uMul (.int i) (.int j) h = if cMul i j then .ok (.int (i * j)) h else .bad := rfl
@[simp] theorem e_div_i {i j : Int} : uDiv (.int i) (.int j) h = if cDiv i j then .ok (.int (i / j)) h else .bad := rfl
@[simp] theorem e_mod_i {i j : Int} : uMod (.int i) (.int j) h = if cMod i j then .ok (.int (i % j)) h else .bad := rfl
@[simp] theorem e_pow_i {i j : Int} : uPow (.int i) (.int j) h = if cPow i j then .ok (.int (i ^ j.toNat)) h else .bad := rfl
@[simp] theorem e_isub_i {i j : Int} : uISub (.int i) (.int j) h = .ok (.int (i - j)) h := rfl
@[simp] theorem e_iadd_i {i j : Int} : uIAdd (.int i) (.int j) h = .ok (.int (i + j)) h := rfl
@[simp] theorem e_iadd_s {i j : List Nat} : uIAdd (.str i) (.str j) h = if i.length + j.length ≤ 16000000 then .ok (.str (i ++ j)) h else .bad := rfl
@[simp] theorem e_cmp {f : Sto → U → U → Option Bool} : bCmp f a b env h = (a env h).bind fun x h1 => (b env h1).bind fun y h2 => oB (f h2 x y) h2 := rfl
@[simp] theorem e_oB_some {b : Bool} : oB (some b) h = .ok b h := rfl
@[simp] theorem e_oR_some : oR (some u) h = .ok u h := rfl
@[simp] theorem e_mB : mB t env h = (t env h).bind fun b h1 => .ok (.bl b) h1 := rfl
@[simp] theorem e_eq_i {i j : Int} : cEq h (.int i) (.int j) = some (decide (i = j)) := rfl
@[simp] theorem e_eq_s {i j : List Nat} : cEq h (.str i) (.str j) = some (decide (i = j)) := rfl
@[simp] theorem e_eq_b {i j : Bool} : cEq h (.bl i) (.bl j) = some (decide (i = j)) := rfl
@[simp] theorem e_eq_is {i : Int} {j : List Nat} : cEq h (.int i) (.str j) = some false := rfl
@[simp] theorem e_eq_si {i : Int} {j : List Nat} : cEq h (.str j) (.int i) = some false := rfl
@[simp] theorem e_eq_nn : cEq h .non .non = some true := rfl
@[simp] theorem e_ne : cNe h x y = (cEq h x y).map not := rfl
@[simp] theorem e_lt {i j : Int} {p : Int → Int → Bool} : cI p h (.int i) (.int j) = some (p i j) := rfl
@[simp] theorem e_is : cIs h x .non = some (match x with | .non => true | _ => false) := rfl
@[simp] theorem e_isn : cIsN h x y = (cIs h x y).map not := rfl
@[simp] theorem e_in : cIn h x y = match sL h y with | some us => if flatU x = true ∧ us.all flatU = true then some (inF x us) else inP h x y | none => none := rfl
@[simp] theorem e_nin : cNin h x y = (cIn h x y).map not := rfl
@[simp] theorem e_flat_i {i : Int} : flatU (.int i) = true := rfl
@[simp] theorem e_flat_s {i : List Nat} : flatU (.str i) = true := rfl
@[simp] theorem e_flat_b {i : Bool} : flatU (.bl i) = true := rfl
@[simp] theorem e_flat_n : flatU .non = true := rfl
@[simp] theorem e_mL_ref {n : Nat} : mL h (.ref n) = match h[n]? with | some (.lst us) => some us | _ => none := rfl
@[simp] theorem e_mL_fl : mL h (.fl us) = some us := rfl
@[simp] theorem e_aL_ref {n : Nat} : aL h (.ref n) = match h[n]? with | some (.lst us) => some us | _ => none := rfl
@[simp] theorem e_aL_fl : aL h (.fl us) = some us := rfl
@[simp] theorem e_aL_kl : aL h (.kl us) = some us := rfl
@[simp] theorem e_sL_ref {n : Nat} : sL h (.ref n) = match h[n]? with | some (.lst us) => some us | _ => none := rfl
@[simp] theorem e_sL_fl : sL h (.fl us) = some us := rfl
@[simp] theorem e_sL_kl : sL h (.kl us) = some us := rfl
@[simp] theorem e_sL_tup : sL h (.tup us) = some us := rfl
@[simp] theorem e_and : bAnd t s env h = (t env h).bind fun c h1 => if c = true then s env h1 else .ok false h1 := rfl
@[simp] theorem e_or : bOr t s env h = (t env h).bind fun c h1 => if c = true then .ok true h1 else s env h1 := rfl
@[simp] theorem e_not : bNot t env h = (t env h).bind fun c h1 => .ok (!c) h1 := rfl
@[simp] theorem e_tru : bTru a env h = (a env h).bind fun x h1 => oB (truU h1 x) h1 := rfl
@[simp] theorem e_tru_b {b : Bool} : truU h (.bl b) = some b := rfl
@[simp] theorem e_tru_i {i : Int} : truU h (.int i) = some (i != 0) := rfl
@[simp] theorem e_tru_n : truU h .non = some false := rfl
@[simp] theorem e_mAnd : mAnd a b env h = (a env h).bind fun x h1 => match x with | .bl true => b env h1 | .bl false => .ok (.bl false) h1 | _ => .bad := rfl
@[simp] theorem e_mOr : mOr a b env h = (a env h).bind fun x h1 => match x with | .bl false => b env h1 | .bl true => .ok (.bl true) h1 | _ => .bad := rfl
@[simp] theorem e_mNot : mNot a env h = (a env h).bind fun x h1 => match x with | .bl c => .ok (.bl (!c)) h1 | _ => .bad := rfl
@[simp] theorem e_mIf : mIf t a b env h = (t env h).bind fun c h1 => if c = true then a env h1 else b env h1 := rfl
@[simp] theorem e_aNil : aNil env h = .ok [] h := rfl
@[simp] theorem e_aCons : aCons a am env h = (a env h).bind fun x h1 => (am env h1).bind fun xs h2 => .ok (x :: xs) h2 := rfl
@[simp] theorem e_tup : mTup am env h = (am env h).bind fun us h1 => if us.length ≤ 16000000 then .ok (.tup us) h1 else .bad := rfl
@[simp] theorem e_lst : mLst am env h = (am env h).bind fun us h1 => if us.length ≤ 16000000 then .ok (.ref h1.length) (h1 ++ [.lst us]) else .bad := rfl
@[simp] theorem e_ix_s {s : List Nat} {i : Int} : uIx (.str s) (.int i) h = if s.length ≤ 16000000 then oR ((atI s i).map fun c => .str [c]) h else .bad := rfl
@[simp] theorem e_ix_ref {n : Nat} {i : Int} : uIx (.ref n) (.int i) h = match sL h (.ref n) with | some us => oR (atI us i) h | none => .bad := rfl
@[simp] theorem e_ix_tup {i : Int} : uIx (.tup us) (.int i) h = oR (atI us i) h := rfl
@[simp] theorem e_ix_fl {i : Int} : uIx (.fl us) (.int i) h = oR (atI us i) h := rfl
@[simp] theorem e_ix_kl {i : Int} : uIx (.kl us) (.int i) h = oR (atI us i) h := rfl
@[simp] theorem e_oNone : oNone env h = .ok none h := rfl
@[simp] theorem e_oSome : oSome a env h = (a env h).bind fun x h1 => match x with | .int i => .ok (some i) h1 | _ => .bad := rfl
@[simp] theorem e_sl {lo hi : OM} : mSl a lo hi env h = (a env h).bind fun x h1 => (lo env h1).bind fun l h2 => (hi env h2).bind fun u h3 => uSl x l u h3 := rfl
@[simp] theorem e_sl_s {s : List Nat} {lo hi : Option Int} : uSl (.str s) lo hi h = if s.length ≤ 16000000 then .ok (.str (cut s lo hi)) h else .bad := rfl
@[simp] theorem e_sl_ref {n : Nat} {lo hi : Option Int} : uSl (.ref n) lo hi h = match aL h (.ref n) with | some us => .ok (.ref h.length) (h ++ [.lst (cut us lo hi)]) | none => .bad := rfl
@[simp] theorem e_sl_fl {lo hi : Option Int} : uSl (.fl us) lo hi h = .ok (.ref h.length) (h ++ [.lst (cut us lo hi)]) := rfl
@[simp] theorem e_sl_kl {lo hi : Option Int} : uSl (.kl us) lo hi h = .ok (.ref h.length) (h ++ [.lst (cut us lo hi)]) := rfl
@[simp] theorem e_cb {f : List U → Sto → R U} : mCB f am env h = (am env h).bind f := rfl
@[simp] theorem e_len_s {s : List Nat} : uLen [.str s] h = if s.length ≤ 16000000 then .ok (.int s.length) h else .bad := rfl
@[simp] theorem e_len_ref {n : Nat} : uLen [.ref n] h = match sL h (.ref n) with | some us => .ok (.int us.length) h | none => .bad := rfl
@[simp] theorem e_len_tup : uLen [.tup us] h = .ok (.int us.length) h := rfl
@[simp] theorem e_len_fl : uLen [.fl us] h = .ok (.int us.length) h := rfl
@[simp] theorem e_len_kl : uLen [.kl us] h = .ok (.int us.length) h := rfl
@[simp] theorem e_int_i {i : Int} : uInt [.int i] h = .ok (.int i) h := rfl
@[simp] theorem e_int_b {i : Bool} : uInt [.bl i] h = .ok (.int (if i then 1 else 0)) h := rfl
@[simp] theorem e_list : uList [x] h = match sL h x with | some us => .ok (.ref h.length) (h ++ [.lst us]) | none => .bad := rfl
@[simp] theorem e_tuple : uTuple [x] h = match sL h x with | some us => .ok (.tup us) h | none => .bad := rfl
@[simp] theorem e_min {i j : Int} : uMin [.int i, .int j] h = .ok (.int (if j < i then j else i)) h := rfl
@[simp] theorem e_max {i j : Int} : uMax [.int i, .int j] h = .ok (.int (if j > i then j else i)) h := rfl
@[simp] theorem e_abs {i : Int} : uAbs [.int i] h = .ok (.int (if i < 0 then -i else i)) h := rfl
@[simp] theorem e_lm {f : U → List U → Sto → R U} : mLM f a am env h = (a env h).bind fun x h1 => if (aL h1 x).isSome = true then (am env h1).bind fun us h2 => f x us h2 else .bad := rfl
@[simp] theorem e_app {n : Nat} : uApp (.ref n) [y] h = match h[n]? with | some (.lst xs) => if xs.length < 16000000 then .ok .non (h.set n (.lst (xs ++ [y]))) else .bad | _ => .bad := rfl
@[simp] theorem e_ext {n : Nat} : uExt (.ref n) [y] h = match h[n]?, mL h y with | some (.lst xs), some ys => if xs.length + ys.length ≤ 16000000 then .ok .non (h.set n (.lst (xs ++ ys))) else .bad | _, _ => .bad := rfl
@[simp] theorem e_nx : mNx env h = .nx env h := rfl
@[simp] theorem e_seq_nx {e : Env'} (q : m1 env h = .nx e h1) : mSeq m1 m2 env h = m2 e h1 := by unfold mSeq; rw [q]
@[simp] theorem e_seq_rt (q : m1 env h = .rt u h1) : mSeq m1 m2 env h = .rt u h1 := by unfold mSeq; rw [q]
@[simp] theorem e_seq_ex {C : Nat} {n : Option Nat} {e : Env'} (q : m1 env h = .ex C n e h1) : mSeq m1 m2 env h = .ex C n e h1 := by unfold mSeq; rw [q]
@[simp] theorem e_seq_bk {e : Env'} (q : m1 env h = .bk e h1) : mSeq m1 m2 env h = .bk e h1 := by unfold mSeq; rw [q]
@[simp] theorem e_seq_ct {e : Env'} (q : m1 env h = .ct e h1) : mSeq m1 m2 env h = .ct e h1 := by unfold mSeq; rw [q]
@[simp] theorem e_st_ok {a : α} {f : α → Sto → RS} : (R.ok a h).st env f = f a h := rfl
@[simp] theorem e_st_exc {C : Nat} {n : Option Nat} {f : α → Sto → RS} : (R.exc C n h : R α).st env f = .ex C n env h := rfl
@[simp] theorem e_st_bad {f : α → Sto → RS} : (R.bad : R α).st env f = .bad := rfl
@[simp] theorem e_no_ok {a : α} : (R.ok a h).no = .ok a h := rfl
@[simp] theorem e_asg {k : CT} : mAsg k a env h = (a env h).st env fun u h1 => gCT k u env h1 := rfl
@[simp] theorem e_gct_one {i : Nat} : gCT (.one i) u env h = .nx (env.set i (some u)) h := rfl
@[simp] theorem e_gct_tup {is : List Nat} : gCT (.tup is) (.tup us) env h = if us.length = is.length then .nx (setA env is us) h else .bad := by
  show (match (if us.length = is.length then some (setA env is us) else none) with | some e => RS.nx e h | none => .bad) = _
  by_cases z : us.length = is.length
  · rw [if_pos z, if_pos z]
  · rw [if_neg z, if_neg z]
@[simp] theorem e_ca_one {i : Nat} : (CT.one i).asg u env h = some (env.set i (some u)) := rfl
@[simp] theorem e_ca_tup {is : List Nat} : (CT.tup is).asg (.tup us) env h = if us.length = is.length then some (setA env is us) else none := rfl
@[simp] theorem e_setA_cons {e : Env'} {i : Nat} {is : List Nat} : setA e (i :: is) (u :: us) = setA (e.set i (some u)) is us := by conv => lhs; unfold setA
@[simp] theorem e_setA_nil {e : Env'} {us : List U} : setA e [] us = e := by unfold setA; rfl
@[simp] theorem e_ret : mRet a env h = (a env h).st env fun u h1 => .rt u h1 := rfl
@[simp] theorem e_retN : mRetN env h = .rt .non h := rfl
@[simp] theorem e_drop : mDrop a env h = (a env h).st env fun _ h1 => .nx env h1 := rfl
@[simp] theorem e_ifs' {b : Bool} (q : t env h = .ok b h1) : mIfS t m1 m2 env h = if b = true then m1 env h1 else m2 env h1 := by unfold mIfS; rw [q]; rfl
@[simp] theorem e_brk : mBrk env h = .bk env h := rfl
@[simp] theorem e_cnt : mCnt env h = .ct env h := rfl
@[simp] theorem e_call {n : Nat} {sem : Sem'} : mCall n sem am env h = (am env h).bind fun us h1 => if us.length = n then sem us h1 else .bad := rfl
@[simp] theorem e_isT {T : Ty} : bIs T a env h = (a env h).bind fun x h1 => oB (isU T h1 x) h1 := rfl
@[simp] theorem e_isT2 {T S : Ty} : bIs2 T S a env h = (a env h).bind fun x h1 => oB ((isU T h1 x).bind fun b => (isU S h1 x).map fun c => b || c) h1 := rfl
@[simp] theorem e_set {n : Nat} {k : Int} : uSetL (.ref n) (.int k) z h = match h[n]? with | some (.lst us) => (ixN us.length k).map fun j => h.set n (.lst (us.set j z)) | _ => none := rfl
@[simp] theorem e_seti {f : U → U → U → Sto → Option Sto} : mSetI f a b c env h = (c env h).st env fun z h1 => (a env h1).st env fun x h2 => (b env h2).st env fun y h3 => match f x y z h3 with
  | some h4 => .nx env h4
  | none => .bad := rfl
@[simp] theorem e_aug {f : U → U → Sto → R U} {i : Nat} : mAug f i a env h = match env[i]? with
  | some (some x) => (a env h).st env fun y h1 => (f x y h1).st env fun z h2 => .nx (env.set i (some z)) h2
  | _ => .bad := rfl
@[simp] theorem e_augi {gt f : U → U → Sto → R U} {st : U → U → U → Sto → Option Sto} : mAugI gt f st a b c env h = (a env h).st env fun x h1 => (b env h1).st env fun y h2 => (gt x y h2).st env fun z h3 => (c env h3).st env fun u h4 => (f z u h4).st env fun q h5 => match st x y q h5 with
  | some h6 => .nx env h6
  | none => .bad := rfl
@[simp] theorem e_ixL {n : Nat} {i : Int} : uIxL (.ref n) (.int i) h = match h[n]? with | some (.lst us) => oR (atI us i) h | _ => .bad := rfl
@[simp] theorem e_sm1 {f : U → U → Sto → R U} : mSM1 f a b env h = (a env h).bind fun x h1 => match x with | .str s => (b env h1).bind fun y h2 => f (.str s) y h2 | _ => .bad := rfl
@[simp] theorem e_join {s : List Nat} : uJoin (.str s) y h = match (sL h y).bind strsOf with | some ss => if (ss.map List.length).sum + ss.length * s.length ≤ 16000000 then .ok (.str (TL.joinL s ss)) h else .bad | none => .bad := rfl
def r1Of (us : List U) (h : Sto) : R (Chk × List U) := match us with
  | [.int j] => if -1000000000 ≤ j ∧ j ≤ 1000000000 then .ok ([], rng 0 j.toNat) h else .bad
  | _ => .bad
def r2Of (us : List U) (h : Sto) : R (Chk × List U) := match us with
  | [.int i, .int j] => if (-1000000000 ≤ i ∧ i ≤ 1000000000) ∧ (-1000000000 ≤ j ∧ j ≤ 1000000000) then .ok ([], rng i (j - i).toNat) h else .bad
  | _ => .bad
@[simp] theorem e_r1 : itR1 am env h = (am env h).bind r1Of := rfl
@[simp] theorem e_r2 : itR2 am env h = (am env h).bind r2Of := rfl
@[simp] theorem e_r1i {j : Int} : r1Of [.int j] h = if -1000000000 ≤ j ∧ j ≤ 1000000000 then .ok ([], rng 0 j.toNat) h else .bad := rfl
@[simp] theorem e_r2i {i j : Int} : r2Of [.int i, .int j] h = if (-1000000000 ≤ i ∧ i ≤ 1000000000) ∧ (-1000000000 ≤ j ∧ j ≤ 1000000000) then .ok ([], rng i (j - i).toNat) h else .bad := rfl
def seqOf (x : U) (h : Sto) : R (Chk × List U) := match x with
  | .str s => .ok ([], s.map fun c => .str [c]) h
  | x => match sL h x with
    | some us => .ok (chkOf x us, us) h
    | none => .bad
@[simp] theorem e_itE : itE a env h = (a env h).bind seqOf := rfl
@[simp] theorem e_seq_s {s : List Nat} : seqOf (.str s) h = .ok ([], s.map fun c => .str [c]) h := rfl
@[simp] theorem e_seq_tup : seqOf (.tup us) h = .ok ([], us) h := rfl
@[simp] theorem e_seq_fl : seqOf (.fl us) h = .ok ([], us) h := rfl
@[simp] theorem e_seq_kl : seqOf (.kl us) h = .ok ([], us) h := rfl
@[simp] theorem e_seq_ref {n : Nat} (q : h[n]? = some (.lst us)) : seqOf (.ref n) h = .ok ([(n, us)], us) h := by simp [seqOf, q, chkOf]
def zipOf (us : List U) (h : Sto) : R (Chk × List U) := match us with
  | [x, y] => (match sL h x, sL h y with
    | some us, some ts => .ok (chkOf x us ++ chkOf y ts, pairs us ts) h
    | _, _ => .bad)
  | _ => .bad
def enumOf (us : List U) (h : Sto) : R (Chk × List U) := match us with
  | [x] => (match aL h x with
    | some us => .ok (chkOf x us, pairs (rng 0 us.length) us) h
    | _ => .bad)
  | _ => .bad
@[simp] theorem e_itZ : itZ am env h = (am env h).bind zipOf := rfl
@[simp] theorem e_itN : itN am env h = (am env h).bind enumOf := rfl
@[simp] theorem e_zip : zipOf [x, y] h = match sL h x, sL h y with
    | some us, some ts => .ok (chkOf x us ++ chkOf y ts, pairs us ts) h
    | _, _ => .bad := rfl
@[simp] theorem e_enum : enumOf [x] h = match aL h x with
    | some us => .ok (chkOf x us, pairs (rng 0 us.length) us) h
    | _ => .bad := rfl
@[simp] theorem e_chk_ref {n : Nat} : chkOf (.ref n) us = [(n, us)] := rfl
@[simp] theorem e_chk_fl : chkOf (.fl xs) us = [] := rfl
@[simp] theorem e_chk_kl : chkOf (.kl xs) us = [] := rfl
@[simp] theorem e_chk_tup : chkOf (.tup xs) us = [] := rfl
@[simp] theorem e_yes : bYes env h = .ok true h := rfl
/-! ### the store -/
theorem lt_of_some {n : Nat} (q : (h[n]?).isSome = true) : n < h.length := by
  cases e : h[n]? with
  | none => rw [e] at q; cases q
  | some o => exact (List.getElem?_eq_some_iff.mp e).1
@[simp] theorem st_app {l : Sto} {n : Nat} (q : (h[n]?).isSome = true) : (h ++ l)[n]? = h[n]? := List.getElem?_append_left (lt_of_some q)
@[simp] theorem st_gs {n : Nat} {o : O} (q : (h[n]?).isSome = true) : (h.set n o)[n]? = some o := List.getElem?_set_self (lt_of_some q)
@[simp] theorem st_gn {n k : Nat} {o : O} (q : n ≠ k) : (h.set n o)[k]? = h[k]? := List.getElem?_set_ne q
@[simp] theorem c_mod {i j : Int} : cMod i j ↔ 0 < j := Iff.rfl
@[simp] theorem c_div {i j : Int} : cDiv i j ↔ 0 < j ∧ j < 1073741824 := Iff.rfl
@[simp] theorem c_mul {i j : Int} : cMul i j ↔ (-18446744073709551616 < i ∧ i < 18446744073709551616) ∨ (-18446744073709551616 < j ∧ j < 18446744073709551616) := Iff.rfl
@[simp] theorem c_pow {i j : Int} : cPow i j ↔ 0 ≤ j ∧ j ≤ 1000 ∧ 0 ≤ i ∧ i < 1000 := Iff.rfl
@[simp] theorem st_len {l : Sto} : (h ++ l)[h.length]? = l[0]? := by
  rw [List.getElem?_append_right (Nat.le_refl _), Nat.sub_self]
@[simp] theorem st_lenk {l : Sto} {k : Nat} : (h ++ l)[h.length + k]? = l[k]? := by
  rw [List.getElem?_append_right (Nat.le_add_right _ _), Nat.add_sub_cancel_left]
@[simp] theorem st_set {l : Sto} {o : O} : (h ++ l).set h.length o = h ++ l.set 0 o := by
  rw [List.set_append_right _ _ (Nat.le_refl _), Nat.sub_self]
@[simp] theorem st_setk {l : Sto} {k : Nat} {o : O} : (h ++ l).set (h.length + k) o = h ++ l.set k o := by
  rw [List.set_append_right _ _ (Nat.le_add_right _ _), Nat.add_sub_cancel_left]
@[simp] theorem st_setl {l : Sto} {p : O} {n : Nat} (q : (h[n]?).isSome = true) : (h ++ l).set n p = h.set n p ++ l := List.set_append_left _ _ (lt_of_some q)
end
/-- places in written lists -/
@[simp] theorem at0 {α : Type} {a : α} {l : List α} : atI (a :: l) 0 = some a := atI_nat (j := 0) rfl
@[simp] theorem at1 {α : Type} {a b : α} {l : List α} : atI (a :: b :: l) 1 = some b := atI_nat (j := 1) rfl
@[simp] theorem at2 {α : Type} {a b c : α} {l : List α} : atI (a :: b :: c :: l) 2 = some c := atI_nat (j := 2) rfl
@[simp] theorem at3 {α : Type} {a b c d : α} {l : List α} : atI (a :: b :: c :: d :: l) 3 = some d := atI_nat (j := 3) rfl
@[simp] theorem at4 {α : Type} {a b c d e : α} {l : List α} : atI (a :: b :: c :: d :: e :: l) 4 = some e := atI_nat (j := 4) rfl
@[simp] theorem at5 {α : Type} {a b c d e f : α} {l : List α} : atI (a :: b :: c :: d :: e :: f :: l) 5 = some f := atI_nat (j := 5) rfl
end Q

set_option Elab.async false
set_option linter.all false
set_option maxRecDepth 100000
set_option maxHeartbeats 1000000
/-! QC: instances of the text's own classes. -/
namespace Q
open PySem PySem.Spec PyProof.Rows L2 TL
def putU (f : Str) (v : U) : List (Str × U) → List (Str × U)
  | [] => [(f, v)]
  | (g, x) :: r => if g = f then (g, v) :: r else (g, x) :: putU f v r
section
variable {K : Fr} {g g' : G} {E : XK} {W : WX} {X : Cx} {H : Hp} {h : Sto} {v w : V} {x y : U} {σ : L2.St} {env : Env'} {a b c e o tg : Expr} {es rest : List Expr} {ma mb mc me mo : EM} {ta tb : TM} {pos : Pos} {am : AM} {n : Str} {p : Pos}
theorem RepF.look {f : Str} : ∀ {vs us}, RepF K g vs us → (∀ u, us.lookup f = some u → ∃ v, vs.lookup f = some v ∧ Rep K g v u) ∧ (us.lookup f = none → vs.lookup f = none)
  | _, _, .nil => ⟨(fun u e => nomatch e), fun _ => rfl⟩
  | _, _, .cons (k := k) (v := v) (u := u0) (vs := vs) (us := us) hh r => by
    obtain ⟨i1, i2⟩ := RepF.look (f := f) r
    refine ⟨fun u e => ?_, fun e => ?_⟩
    · rw [List.lookup_cons] at e ⊢
      cases hb : f == k with
      | true => rw [hb] at e; simp only at e; cases e; exact ⟨v, rfl, hh⟩
      | false => rw [hb] at e; simp only at e; exact i1 u e
    · rw [List.lookup_cons] at e ⊢
      cases hb : f == k with
      | true => rw [hb] at e; simp only at e; cases e
      | false => rw [hb] at e; simp only at e; exact i2 e
theorem RepF.put {f : Str} {v : V} {u : U} (hh : Rep K g v u) : ∀ {vs us}, RepF K g vs us → RepF K g (putF f v vs) (putU f u us)
  | _, _, .nil => .cons hh .nil
  | _, _, .cons (k := k) (v := v') (u := u') (vs := vs) (us := us) h' r => by
    show RepF K g (if k = f then (k, v) :: vs else (k, v') :: putF f v vs) (if k = f then (k, u) :: us else (k, u') :: putU f u us)
    split
    · exact .cons hh r
    · exact .cons h' (RepF.put hh r)
theorem RepF.len : ∀ {vs us}, RepF K g vs us → vs.length = us.length
  | _, _, .nil => rfl
  | _, _, .cons _ r => by simp [RepF.len r]
/-- what the written part tells of a class that has the attribute f -/
structure FA (K : Fr) (cs : List Nat) (f : Str) : Prop where
  is : ∀ C, C ∈ cs → Cls K C ∧ NoAttr K C f
/-- the instance at x: its class, its attributes -/
def insU (h : Sto) : U → Option (Nat × List (Str × U))
  | .ref n => match h[n]? with
    | some (.ins C fs) => some (C, fs)
    | _ => none
  | _ => none
/-- o.f -/
def mFld (cs : List Nat) (f : Str) (o : EM) : EM := fun env h => (o env h).bind fun x h1 => match insU h1 x with
  | some (C, fs) => if C ∈ cs then oR (fs.lookup f) h1 else .bad
  | none => .bad
/-- o.f = e -/
def mSetF (cs : List Nat) (f : Str) (o e : EM) : SM := fun env h => (e env h).st env fun z h1 => (o env h1).st env fun x h2 => match x, insU h2 x with
  | .ref n, some (C, fs) => if C ∈ cs ∧ fs.length < 1000 then .nx env (h2.set n (.ins C (putU f z fs))) else .bad
  | _, _ => .bad
/-- o.f op= e -/
def mAugF (cs : List Nat) (op : U → U → Sto → R U) (f : Str) (o e : EM) : SM := fun env h => (o env h).st env fun x h1 => match x, insU h1 x with
  | .ref n, some (C, fs) => if C ∈ cs then (match fs.lookup f with
    | some u => (e env h1).st env fun y h2 => (op u y h2).st env fun z h3 => (match insU h3 (.ref n) with
      | some (C', fs') => if C' = C ∧ fs'.length < 1000 then .nx env (h3.set n (.ins C (putU f z fs'))) else .bad
      | none => .bad)
    | none => .bad) else .bad
  | _, _ => .bad
/-- o.m(..) -/
def mMeth (C : Nat) (m : Str) (k : Nat) (sem : Sem') (o : EM) (am : AM) : EM := fun env h => (o env h).bind fun x h1 => match insU h1 x with
  | some (C', fs) => if C' = C ∧ fs.lookup m = none then (am env h1).bind fun us h2 => if us.length + 1 = k then sem (x :: us) h2 else .bad else .bad
  | none => .bad
variable {f C : Addr} {fd : FuncData} {ps : List Str} {k j : Nat} {m : Str} {sem : Sem'}
def tMethS (C : Addr) (m : Str) (sp : Sp) (E : L2.St → XK) (to : TE) (t : TA) : TE := fun σ H Q => to σ H fun x H1 => ∃ a dx fs, x = .ref a ∧ H1 a = some (.ins C dx fs) ∧ fs.lookup m = none ∧ t σ H1 fun vs H2 => sp (.ref a :: vs) H2 Q (E σ)
/-- C(..) -/
def mMake (C : Nat) (k : Nat) (sem : Sem') (am : AM) : EM := fun env h => (am env h).bind fun us h1 => if us.length + 1 = k then (match sem (.ref h1.length :: us) (h1 ++ [.ins C []]) with
  | .ok .non h2 => .ok (.ref h1.length) h2
  | _ => .bad) else .bad
/-- how it is reckoned -/
@[simp] theorem e_fld {cs : List Nat} {f : Str} : mFld cs f mo env h = (mo env h).bind fun x h1 => match insU h1 x with
  | some (C, fs) => if C ∈ cs then oR (fs.lookup f) h1 else .bad
  | none => .bad := rfl
@[simp] theorem e_insU {n : Nat} : insU h (.ref n) = match h[n]? with | some (.ins C fs) => some (C, fs) | _ => none := rfl
@[simp] theorem e_meth {C : Nat} {m : Str} {k : Nat} : mMeth C m k sem mo am env h = (mo env h).bind fun x h1 => match insU h1 x with
  | some (C', fs) => if C' = C ∧ fs.lookup m = none then (am env h1).bind fun us h2 => if us.length + 1 = k then sem (x :: us) h2 else .bad else .bad
  | none => .bad := rfl
@[simp] theorem e_make {C k : Nat} : mMake C k sem am env h = (am env h).bind fun us h1 => if us.length + 1 = k then (match sem (.ref h1.length :: us) (h1 ++ [.ins C []]) with
  | .ok .non h2 => .ok (.ref h1.length) h2
  | _ => .bad) else .bad := rfl
@[simp] theorem e_setf {cs : List Nat} {f : Str} : mSetF cs f mo me env h = (me env h).st env fun z h1 => (mo env h1).st env fun x h2 => match x, insU h2 x with
  | .ref n, some (C, fs) => if C ∈ cs ∧ fs.length < 1000 then .nx env (h2.set n (.ins C (putU f z fs))) else .bad
  | _, _ => .bad := rfl
@[simp] theorem e_augf {cs : List Nat} {op : U → U → Sto → R U} {f : Str} : mAugF cs op f mo me env h = (mo env h).st env fun x h1 => match x, insU h1 x with
  | .ref n, some (C, fs) => if C ∈ cs then (match fs.lookup f with
    | some u => (me env h1).st env fun y h2 => (op u y h2).st env fun z h3 => (match insU h3 (.ref n) with
      | some (C', fs') => if C' = C ∧ fs'.length < 1000 then .nx env (h3.set n (.ins C (putU f z fs'))) else .bad
      | none => .bad)
    | none => .bad) else .bad
  | _, _ => .bad := rfl
end
end Q

set_option Elab.async false
set_option linter.all false
set_option maxRecDepth 100000
set_option maxHeartbeats 1000000
/-! QX: raise of an own exception class, try .. except, the top's numbers. -/
namespace Q
open PySem PySem.Spec PyProof.Rows L2 TL
section
variable {K : Fr} {g g' : G} {E : XK} {W : WX} {X : Cx} {H : Hp} {h : Sto} {σ : L2.St} {env : Env'} {a b c e o tg : Expr} {ma mb mc me mo : EM} {ta tb : TM} {pos : Pos} {m m1 m2 ms : SM}
/-- an exception class of the text without own __init__ -/
structure XC (K : Fr) (mg : Str → Option Value) (x : Str) (C : Addr) : Prop where
  ex : PySem.W.excIn K C [.type "ValueError", .type "Exception", .type "BaseException", .type "object"] "ValueError.__new__" = true
  g : mg x = some (.ref C)
  k : PySem.W.keepIn K (.ref C) = true
  b : PySem.W.subIn K (.ref C) (.type "BaseException") = some true
  t : PySem.W.typeIn K (.ref C) = some (.type "type")
def mRaise (C : Nat) : SM := fun env h => .ex C none env h
/-- nothing may be raised in a suite -/
def RS.no (r : RS) : RS := match r with
  | .ex _ _ _ _ => .bad
  | r => r
/-- try: mb except X: ms; ys: the classes that the clause takes; no others may come -/
def mTry (ys : List Nat) (mb ms : SM) : SM := fun env h => match mb env h with
  | .ex C n env1 h1 => if C ∈ ys then (ms env1 h1).no else .bad
  | r => r
theorem WS.no {r : RS} {D : Ends} {W' : WX} (w : WS K W g r.no D) : WS K W' g r D := by
  cases r with
  | ex C n e h => exact w.elim
  | _ => exact w
@[simp] theorem e_raise {C : Nat} : mRaise C env h = .ex C none env h := rfl
@[simp] theorem e_no_nx {e1 : Env'} : (RS.nx e1 h).no = .nx e1 h := rfl
@[simp] theorem e_no_rt {u : U} : (RS.rt u h).no = .rt u h := rfl
@[simp] theorem e_no_bk {e1 : Env'} : (RS.bk e1 h).no = .bk e1 h := rfl
@[simp] theorem e_no_ct {e1 : Env'} : (RS.ct e1 h).no = .ct e1 h := rfl
/-- a number of the top -/
theorem se_gint {x : Str} {i : Int} (hg : Gl X x) (hm : ∃ t, X.mg x = some (.int i t)) (hdb : (x == ("__debug__" : Str)) = false := by decide) : PE X (.Name x pos) (tM X.K W (mC (.int i))) := by
  obtain ⟨t, hm⟩ := hm
  exact PE.weak (pe_glob (v := .int i) hg hm ⟨_, rfl⟩ hdb) fun σ H Q ⟨g, env, h, hr, er, w⟩ => w _ H g (Le.refl g) hr (.int i)
end
end Q


set_option Elab.async false
set_option linter.all false
set_option maxRecDepth 100000
set_option maxHeartbeats 1000000
/-! QD: dicts, their keys numbers and texts. -/
namespace Q
open PySem PySem.Spec PyProof.Rows L2 TL
def keyU : U → Option DK
  | .int i => some (.inl i)
  | .str s => some (.inr s)
  | _ => none
def valD : List (DK × U) → DK → Option U
  | [], _ => none
  | (j, x) :: r, k => if j = k then some x else valD r k
def repD : List (DK × U) → DK → U → List (DK × U)
  | [], _, _ => []
  | (j, x) :: r, k, v => (if j = k then (j, v) else (j, x)) :: repD r k v
def putD (kvs : List (DK × U)) (k : DK) (v : U) : List (DK × U) := if (valD kvs k).isSome = true then repD kvs k v else kvs ++ [(k, v)]
def aDK (h : Sto) : U → Option (List (DK × U))
  | .ref n => (match h[n]? with
    | some (.dK us) => some us
    | some (.dKl us) => some us
    | _ => none)
  | _ => none
section
variable {K : Fr} {g g' : G} {E : XK} {W : WX} {X : Cx} {H : Hp} {h : Sto} {σ : L2.St} {env : Env'} {a b c e o tg : Expr} {ma mb mc me mo : EM} {ta tb : TM} {pos : Pos} {m m1 m2 ms : SM} {vs : List (Key × V)} {us : List (DK × U)} {u x y : U} {v w : V} {k : DK}
theorem kk_inj : ∀ {j k : DK}, kk j = kk k → j = k
  | .inl i, .inl j, e => by simp only [kk] at e; cases e; rfl
  | .inr s, .inr t, e => by
    simp only [kk] at e
    injection e with e
    injection e with e
    rw [show s = t by simpa using congrArg Array.toList e]
  | .inl _, .inr _, e => by simp only [kk] at e; cases e
  | .inr _, .inl _, e => by simp only [kk] at e; cases e
def RelO' (K : Fr) (g : G) : Option V → Option U → Prop
  | none, none => True
  | some v, some u => Rep K g v u
  | _, _ => False
theorem RepK.val (k : DK) : ∀ {vs us}, RepK K g vs us → RelO' K g (valV vs (kk k)) (valD us k)
  | _, _, .nil => True.intro
  | _, _, .cons (k := j) (v := v) (u := u) (vs := vs) (us := us) h r => by
    unfold valD
    by_cases e : j = k
    · rw [if_pos e, valV_pos (p := (kk j, v)) (by rw [e])]; exact h
    · rw [if_neg e, valV_neg (p := (kk j, v)) (fun z => e (kk_inj z))]; exact RepK.val k r
theorem RepK.len : ∀ {vs us}, RepK K g vs us → vs.length = us.length
  | _, _, .nil => rfl
  | _, _, .cons h r => by simp [RepK.len r]
theorem RepK.rep (k : DK) (rv : Rep K g v u) : ∀ {vs us}, RepK K g vs us → RepK K g (vs.map fun kv => if kv.1 = kk k then (kv.1, v) else kv) (repD us k u)
  | _, _, .nil => .nil
  | _, _, .cons (k := j) h r => by
    unfold repD
    rw [List.map_cons]
    by_cases e : j = k
    · rw [if_pos e, if_pos (by rw [e])]; exact .cons rv (RepK.rep k rv r)
    · rw [if_neg e, if_neg (fun z => e (kk_inj z))]; exact .cons h (RepK.rep k rv r)
theorem RepK.app : ∀ {vs us ws ts}, RepK K g vs us → RepK K g ws ts → RepK K g (vs ++ ws) (us ++ ts)
  | _, _, _, _, .nil, s => s
  | _, _, _, _, .cons h r, s => .cons h (RepK.app r s)
theorem relO_some {o : Option V} {o' : Option U} (r : RelO' K g o o') : o.isSome = o'.isSome := by
  cases o <;> cases o' <;> first | rfl | exact r.elim
theorem RepK.put (r : RepK K g vs us) (rv : Rep K g v u) (k : DK) : RepK K g (putK vs (kk k) v) (putD us k u) := by
  unfold putK putD
  rw [valV_any, relO_some (r.val k)]
  split
  · exact r.rep k rv
  · exact r.app (.cons rv .nil)
/-- {} -/
def mDNew : EM := fun _ h => .ok (.ref h.length) (h ++ [.dK []])
def uDGet (x y : U) (h : Sto) : R U := match aDK h x, keyU y with
  | some us, some k => oR (valD us k) h
  | _, _ => .bad
def cDIn (h : Sto) (y x : U) : Option Bool := match aDK h x, keyU y with
  | some us, some k => some (valD us k).isSome
  | _, _ => none
def cDNin (h : Sto) (y x : U) : Option Bool := match aDK h x, keyU y with
  | some us, some k => some (!(valD us k).isSome)
  | _, _ => none
/-- o[i] = e of a dict -/
def uDSet (x y z : U) (h : Sto) : Option Sto := match x with
  | .ref n => (match h[n]?, keyU y with
    | some (.dK us), some k => if us.length < 16000000 then some (h.set n (.dK (putD us k z))) else none
    | _, _ => none)
  | _ => none
def rDSet : TSet := fun o i v H Q => ∃ a H4, o = .ref a ∧ DPut H a i v H4 ∧ Q H4
/-- len of a dict -/
def uDLen (us : List U) (h : Sto) : R U := match us with
  | [x] => (match aDK h x with
    | some us => .ok (.int us.length) h
    | none => .bad)
  | _ => .bad
/-- dict(d): a copy -/
def uDCopy (us : List U) (h : Sto) : R U := match us with
  | [x] => (match aDK h x with
    | some us => .ok (.ref h.length) (h ++ [.dK us])
    | none => .bad)
  | _ => .bad
/-! ### displays -/
def pairsD : List U → Option (List (DK × U))
  | [] => some []
  | k :: v :: r => (match keyU k, pairsD r with
    | some k, some kvs => some ((k, v) :: kvs)
    | _, _ => none)
  | _ => none
def mergeD (kvs more : List (DK × U)) : List (DK × U) := more.foldl (fun acc kv => putD acc kv.1 kv.2) kvs
def flat2 (ps : List (V × V)) : List V := ps.flatMap fun p => [p.1, p.2]
structure Prs (X : Cx) (K : Fr) (W : WX) (pos : Pos) (ks : List (Option Expr)) (vs : List Expr) (am : AM) : Prop where
  go : ∃ trs, PPs X pos ks vs trs ∧ ∀ σ H (Q : List V → Hp → Prop) (P : List (V × V) → Hp → Prop), aM K W am σ H Q → (∀ ps H', Q (flat2 ps) H' → P ps H') → tPairs trs σ H P
def mDisp (am : AM) : EM := fun env h => (am env (h ++ [.dK []])).bind fun us h1 => match pairsD us, h1[h.length]? with
  | some kvs, some (.dK []) => if kvs.length ≤ 15 then .ok (.ref h.length) (h1.set h.length (.dK (mergeD [] kvs))) else .bad
  | _, _ => .bad
/-! ### a walk over a dict: it is locked for good -/
def lockU (x : U) (h1 : Sto) : R U := match x with
  | .ref n => (match h1[n]? with
    | some (.dK us) => .ok (.ref n) (h1.set n (.dKl us))
    | some (.dKl us) => .ok (.ref n) h1
    | _ => .bad)
  | _ => .bad
def mLock (m : EM) : EM := fun env h => (m env h).bind lockU
def dkU : DK → U
  | .inl i => .int i
  | .inr s => .str s
theorem RepK.get : ∀ {vs us} {i : Nat} {k : Key} {v : V}, RepK K g vs us → vs[i]? = some (k, v) → ∃ j u, us[i]? = some (j, u) ∧ k = kk j
  | _, _, _, _, _, .nil, h => by simp at h
  | _, _, 0, _, _, .cons h r, e => by simp at e; exact ⟨_, _, rfl, e.1.symm⟩
  | _, _, i + 1, _, _, .cons h r, e => by simpa using RepK.get (i := i) r (by simpa using e)
def itKeys (a : EM) : IM' := fun env h => (mLock a env h).bind fun x h1 => match aDK h1 x with
  | some us => .ok ([], us.map fun p => dkU p.1) h1
  | none => .bad
end
section
variable {X : Cx} {W : WX} {e : Expr} {es : List Expr} {am : AM} {pos p : Pos} {n : Str}
variable (hg : Gl X n) (hm : X.mg n = none) (ha : PA X (e :: es) (aM X.K W am)) (hn : n ≠ "__name__" := by decide) (hdb : (n == ("__debug__" : Str)) = false := by decide)
    (he : starEach (e :: es) X.env = (false, eval e X.env) :: starEach es X.env := by rfl) (hpl : (backTo pos (starEach es X.env)).any (·.1) = false := by rfl)
include hg hm ha hn hdb he hpl
end
end Q

set_option Elab.async false
set_option linter.all false
set_option maxRecDepth 100000
set_option maxHeartbeats 1000000
/-! QE: more built-ins on lists: sum, max, min, any, all, sorted. -/
namespace Q
open PySem PySem.Spec PyProof.Rows L2 TL
section
variable {K : Fr} {g g' : G} {E : XK} {W : WX} {X : Cx} {H : Hp} {h : Sto} {v w : V} {x y : U} {σ : L2.St} {env : Env'} {e : Expr} {es : List Expr} {am : AM} {pos p : Pos} {n : Str}
def intsU : List U → Option (List Int)
  | [] => some []
  | .int i :: r => (intsU r).map (i :: ·)
  | _ :: _ => none
def blsU : List U → Option (List Bool)
  | [] => some []
  | .bl i :: r => (blsU r).map (i :: ·)
  | _ :: _ => none
/-- a function of the ints of a list -/
def uLI (f : List Int → Option U) (us : List U) (h : Sto) : R U := match us with
  | [x] => match aL h x with
    | some xs => (match intsU xs with
      | some ns => (match f ns with
        | some u => .ok u h
        | none => .bad)
      | none => .bad)
    | none => .bad
  | _ => .bad
def uLB (f : List Bool → U) (us : List U) (h : Sto) : R U := match us with
  | [x] => match aL h x with
    | some xs => (match blsU xs with
      | some ns => .ok (f ns) h
      | none => .bad)
    | none => .bad
  | _ => .bad
def maxL : List Int → Option Int
  | [] => none
  | i :: r => some (r.foldl (fun a b => if b > a then b else a) i)
def minL : List Int → Option Int
  | [] => none
  | i :: r => some (r.foldl (fun a b => if b < a then b else a) i)
abbrev uSum := uLI fun ns => some (.int ns.sum)
abbrev uMax1 := uLI fun ns => (maxL ns).map U.int
abbrev uMin1 := uLI fun ns => (minL ns).map U.int
abbrev uAny := uLB fun bs => .bl (bs.any id)
abbrev uAll := uLB fun bs => .bl (bs.all id)
/-! sorted -/
def insI (i : Int) : List Int → List Int
  | [] => [i]
  | j :: r => if i ≤ j then i :: j :: r else j :: insI i r
def sortI (ns : List Int) : List Int := ns.foldr insI []
def uSortI (us : List U) (h : Sto) : R U := match us with
  | [x] => match aL h x with
    | some xs => (match intsU xs with
      | some ns => .ok (.ref h.length) (h ++ [.lst ((sortI ns).map U.int)])
      | none => .bad)
    | none => .bad
  | _ => .bad
section
variable (hg : Gl X n) (hm : X.mg n = none) (ha : PA X (e :: es) (aM X.K W am)) (hn : n ≠ "__name__" := by decide) (hdb : (n == ("__debug__" : Str)) = false := by decide)
    (he : starEach (e :: es) X.env = (false, eval e X.env) :: starEach es X.env := by rfl) (hpl : (backTo pos (starEach es X.env)).any (·.1) = false := by rfl)
include hg hm ha hn hdb he hpl
end
end
end Q

set_option Elab.async false
set_option linter.all false
set_option maxRecDepth 100000
set_option maxHeartbeats 1000000
/-! QT: texts and written values of the top: ord, index, char in text, text * number, chains of comparisons, global texts and tuples. -/
namespace Q
open PySem PySem.Spec PyProof.Rows L2 TL
open Builtin Builtin.Str
/-! ### the first place of a sign -/
theorem occ_done (s sub : Str) (hi : Nat) : ∀ (l : List Nat) (st : Array Nat × Nat), st.fst.size = 1 → (forIn l st (StrLaws.occBody s sub hi 1)).run.fst = st.fst
  | [], st, _ => rfl
  | a :: l, st, h => by
    rw [List.forIn_cons]
    unfold StrLaws.occBody
    rw [if_neg (fun z => by have := z.1.1.1; omega)]
    exact occ_done s sub hi l (st.fst, st.snd) h
theorem occ_first (s sub : Str) (hi : Nat) : ∀ (l : List Nat) (free : Nat), (∀ i ∈ l, free ≤ i) → (forIn l ((#[] : Array Nat), free) (StrLaws.occBody s sub hi 1)).run.fst.toList = (l.find? fun i => decide (i + sub.length ≤ hi) && subAt s sub i).toList
  | [], free, _ => rfl
  | a :: l, free, h => by
    rw [List.forIn_cons]
    unfold StrLaws.occBody
    by_cases c : a + sub.length ≤ hi ∧ subAt s sub a = true
    · rw [if_pos ⟨⟨⟨Nat.zero_lt_one, h a List.mem_cons_self⟩, c.1⟩, c.2⟩, List.find?_cons_of_pos (by simp [c.1, c.2])]
      show (forIn l (#[a], a + sub.length) (StrLaws.occBody s sub hi 1)).run.fst.toList = _
      rw [occ_done s sub hi l _ rfl]; rfl
    · rw [if_neg (fun z => c ⟨z.1.2, z.2⟩), List.find?_cons_of_neg (by simpa using c)]
      exact occ_first s sub hi l free fun i m => h i (List.mem_cons_of_mem _ m)
theorem sub_one (s : List Nat) (c i : Nat) (h : i < s.length) : subAt ⟨s.toArray⟩ ⟨#[c]⟩ i = decide (s[i]? = some c) := by
  unfold subAt
  have e1 : (s.toArray.extract i (i + Str.length ⟨#[c]⟩)) = #[s[i]] := by
    have : Str.length ⟨#[c]⟩ = 1 := rfl
    rw [this]
    apply Array.toList_inj.mp
    simp
    rw [List.take_add_one, List.getElem?_drop, Nat.add_zero, List.getElem?_eq_getElem h]
    simp
  show ((s.toArray.extract i (i + Str.length ⟨#[c]⟩)) == #[c]) = _
  rw [e1, List.getElem?_eq_getElem h]
  by_cases q : s[i] = c <;> simp [q]
section
variable {K : Fr} {g g' : G} {E : XK} {W : WX} {X : Cx} {H : Hp} {h : Sto} {v w : V} {x y : U} {σ : L2.St} {env : Env'} {a b c o e : Expr} {es : List Expr} {am : AM} {ma mb mc mo me : EM} {pos p apos cpos : Pos} {n : Str}
/-! ### written values of the top -/
theorem se_gstr {x : Str} {s : List Nat} (hg : Gl X x) (hm : ∃ t, X.mg x = some (.str ⟨s.toArray⟩ t)) (hdb : (x == ("__debug__" : Str)) = false := by decide) : PE X (.Name x pos) (tM X.K W (mC (.str s))) := by
  obtain ⟨t, hm⟩ := hm
  exact PE.weak (pe_glob (v := .str ⟨s.toArray⟩) hg hm ⟨_, rfl⟩ hdb) fun σ H Q ⟨g, env, h, hr, er, w⟩ => w _ H g (Le.refl g) hr (.str s)
/-- a tuple of the written part -/
def KT (K : Fr) (a : Addr) (vs : List V) : Prop := ∃ (o : Obj) (its : Array Value) (n : Nat), K.lookup a = some o ∧ o.cls = .type "tuple" ∧ o.dict = none ∧ o.data = .seq its n ∧ its.size ≤ sizeLine ∧ Vals vs its.toList
theorem KT.sq {a : Addr} {vs : List V} {F : Hp} (k : KT K a vs) : SqT K F a vs := by
  obtain ⟨o, its, n, h1, h2, _, h3, h4, h5⟩ := k
  exact .inr ⟨o, its, n, h1, h2, h3, h4, h5⟩
theorem se_gtup {x : Str} {vs : List V} {us : List U} (hg : Gl X x) (hm : ∃ a, X.mg x = some (.ref a) ∧ KT X.K a vs) (r : ∀ g, Reps X.K g vs us) (hdb : (x == ("__debug__" : Str)) = false := by decide) : PE X (.Name x pos) (tM X.K W (mC (.tup us))) := by
  obtain ⟨a, hm, k⟩ := hm
  exact PE.weak (pe_glob (v := .ref a) hg hm rfl hdb) fun σ H Q ⟨g, env, h, hr, er, w⟩ => w _ H g (Le.refl g) hr (.tup k.sq (r g))
/-! ### ord -/
def uOrd (us : List U) (h : Sto) : R U := match us with
  | [.str [c]] => .ok (.int c) h
  | _ => .bad
/-! ### chains of comparisons -/
def mChain (f f' : Sto → U → U → Option Bool) (a b c : EM) : EM := fun env h => (a env h).bind fun x h1 => (b env h1).bind fun y h2 => (oB (f h2 x y) h2).bind fun k h3 => if k = true then (c env h3).bind fun z h4 => (oB (f' h4 y z) h4).bind fun k h5 => .ok (.bl k) h5 else .ok (.bl false) h3
def bChain (f f' : Sto → U → U → Option Bool) (a b c : EM) : TM := fun env h => (a env h).bind fun x h1 => (b env h1).bind fun y h2 => (oB (f h2 x y) h2).bind fun k h3 => if k = true then (c env h3).bind fun z h4 => oB (f' h4 y z) h4 else .ok false h3
theorem reps_strs : ∀ ss : List (List Nat), Reps K g ((ss.map fun s => (⟨s.toArray⟩ : Str)).map V.str) (ss.map U.str)
  | [] => .nil
  | s :: r => .cons (.str s) (reps_strs r)
theorem se_gstup {x : Str} {ss : List (List Nat)} {us : List U} (hg : Gl X x) (hm : ∃ a, X.mg x = some (.ref a) ∧ KT X.K a ((ss.map fun s => (⟨s.toArray⟩ : Str)).map V.str)) (hu : ss.map U.str = us := by rfl) (hdb : (x == ("__debug__" : Str)) = false := by decide) : PE X (.Name x pos) (tM X.K W (mC (.tup us))) :=
  se_gtup hg hm (fun g => hu ▸ reps_strs ss) hdb
/-! ### text * number -/
def uMulS (x y : U) (h : Sto) : R U := match x, y with
  | .str s, .int k => if s.length * k.toNat ≤ 16000000 ∧ k.natAbs ≤ 1000000000 then .ok (.str (List.replicate k.toNat s).flatten) h else .bad
  | _, _ => .bad
theorem fold_app (l : List (Array Nat)) (acc : Array Nat) : (l.foldl (· ++ ·) acc).toList = acc.toList ++ (l.map Array.toList).flatten := by
  induction l generalizing acc with
  | nil => simp
  | cons a r ih => simp [ih]
theorem op_mulS : OpR X (binaryOp .Mult) (fun x y H Q => ∃ (s : List Nat) (k : Int), x = .str ⟨s.toArray⟩ ∧ y = .int k ∧ s.length * k.toNat ≤ 16000000 ∧ k.natAbs ≤ 1000000000 ∧ Q (.str ⟨(List.replicate k.toNat s).flatten.toArray⟩) H) := by
  intro pins t0 σ H x y v u Q I rx ry h
  obtain ⟨s, k, rfl, rfl, hz, hk, q⟩ := h
  obtain ⟨t, rfl⟩ := rx
  obtain ⟨t', rfl⟩ := ry
  have hl : Str.length ⟨s.toArray⟩ = s.length := str_len s
  have e63 : (2 : Int) ^ 63 = 9223372036854775808 := by decide
  have fin : ∀ (z : Str) tk tok, z = ⟨(List.replicate k.toNat s).flatten.toArray⟩ → EP X pins σ Q (.str z tok) { t0 with toks := tk } := fun z tk tok e => ⟨.str z, H, I.tok _, ⟨_, rfl⟩, by rw [e]; exact q⟩
  refine P.mul_str (by rw [decide_eq_false (by omega), decide_eq_false (by omega)]; rfl) (fun h1 _ => ?_) (fun h1 _ => ?_) ?_
  · rw [hl]
    have h2 : (s.length : Int) * k ≤ 16000000 := by
      have : (k.toNat : Int) = k := Int.toNat_of_nonneg (by omega)
      have h6 : ((s.length * k.toNat : Nat) : Int) = (s.length : Int) * k := by rw [Int.natCast_mul, this]
      rw [← h6]
      generalize s.length * k.toNat = m at hz
      omega
    intro hgt
    have h3 : (2 ^ 63 - 1) / k * k ≤ 2 ^ 63 - 1 := Int.ediv_mul_le _ (by omega)
    have h4 : (2 ^ 63 - 1) < ((2 ^ 63 - 1) / k + 1) * k := Int.lt_ediv_add_one_mul_self _ (by omega)
    have h5 : ((2 ^ 63 - 1) / k + 1) * k ≤ (s.length : Int) * k := Int.mul_le_mul_of_nonneg_right (by omega) (by omega)
    omega
  · rw [hl]
    unfold tooLong
    exact decide_eq_false (by have : (16000000 : Nat) ≤ sizeLine := by decide
                              omega)
  · split
    · rename_i h1
      refine ⟨by decide, fin _ _ _ ?_⟩
      have : k.toNat = 0 := by omega
      rw [this]; rfl
    · split
      · rename_i h1 h2
        refine fin _ _ _ ?_
        rw [hl] at h2
        simp at h2
        rcases h2 with h2 | h2
        · subst h2; simp
        · rw [h2]; simp
      · refine ⟨?_, fin _ _ _ ?_⟩
        · show (List.foldl (· ++ ·) #[] (List.replicate k.toNat s.toArray)).size ≤ _
          rw [← Array.length_toList, fold_app, List.map_replicate, List.length_append, List.length_flatten, List.map_replicate, List.sum_replicate_nat]
          have : (16000000 : Nat) ≤ sizeLine := by decide
          rw [Nat.mul_comm] at hz
          show 0 + k.toNat * s.length ≤ _
          omega
        · congr 1
          apply Array.toList_inj.mp
          rw [fold_app]
          simp
theorem ok_mulS : BinOK K (fun x y H Q => ∃ (s : List Nat) (k : Int), x = .str ⟨s.toArray⟩ ∧ y = .int k ∧ s.length * k.toNat ≤ 16000000 ∧ k.natAbs ≤ 1000000000 ∧ Q (.str ⟨(List.replicate k.toNat s).flatten.toArray⟩) H) uMulS := by
  intro E g H h v w x y Q hr rx ry t
  unfold uMulS at t
  split at t
  · cases rx; cases ry
    split at t
    · rename_i s k z
      exact ⟨s, k, rfl, rfl, z.1, z.2, t _ _ g (Le.refl g) hr (.str _)⟩
    · exact t.elim
  · exact t.elim
theorem se_mulS {a b : Expr} (ha : PE X a (tM X.K W ma)) (hb : PE X b (tM X.K W mb)) : PE X (.BinOp a .Mult b pos) (tM X.K W (mBin uMulS ma mb)) := se_bin op_mulS ok_mulS ha hb
/-! ### a sign in a text -/
def cInS (_ : Sto) (x y : U) : Option Bool := match x, y with
  | .str [c], .str z => some (decide (c ∈ z))
  | _, _ => none
theorem ok_inS : CmpOK K (fun x y H Q => ∃ (c : Nat) (z : Str), x = .str ⟨#[c]⟩ ∧ y = .str z ∧ Q (.bl (decide (c ∈ z.cps.toList))) H) cInS := fun g H h v w x y b Q hr rx ry e q => by
  unfold cInS at e
  split at e
  · cases rx; cases ry; cases e
    exact ⟨_, _, rfl, rfl, q⟩
  · cases e
def cNinS (h : Sto) (x y : U) : Option Bool := (cInS h x y).map not
theorem bt_inS (ha : PE X a (tM X.K W ma)) (hb : PE X b (tM X.K W mb)) (hm : behindInMarks .In b = false := by rfl) : PT X (.Compare a [.In] [b] pos) (bM X.K W (bCmp cInS ma mb)) := bt_cmp op_in_sign ok_inS ha hb hm
theorem se_inS (ha : PE X a (tM X.K W ma)) (hb : PE X b (tM X.K W mb)) (hm : behindInMarks .In b = false := by rfl) : PE X (.Compare a [.In] [b] pos) (tM X.K W (mB (bCmp cInS ma mb))) := se_cmp op_in_sign ok_inS ha hb hm
/-! ### index -/
def uIndexS (x : U) (y : U) (h : Sto) : R U := match x, y with
  | .str s, .str [c] => (match s.findIdx? (· == c) with
    | some i => .ok (.int i) h
    | none => .bad)
  | _, _ => .bad
def uIndexL (x : U) (us : List U) (h : Sto) : R U := match us with
  | [y] => (match aL h x with
    | some us => if us.all flatU = true ∧ flatU y = true then (match us.findIdx? (fun z => eqF z y) with
      | some i => .ok (.int i) h
      | none => .bad) else .bad
    | none => .bad)
  | _ => .bad
def uIndexT (us : List U) (ts : List U) (h : Sto) : R U := match ts with
  | [.str z] => (match strsOf us with
    | some ss => (match ss.findIdx? (· == z) with
      | some i => .ok (.int i) h
      | none => .bad)
    | none => .bad)
  | _ => .bad
section
variable (ha : PA X (e :: es) (aM X.K W am))
    (hfew : ((backTo cpos (starEach (e :: es) X.env)).all (fun x => !x.1) && (backToKw cpos (keywordEach [] X.env)).all (fun x => x.1.isSome)
      && decide ((e :: es).length + ([] : List Keyword).length + (if ([] : List Keyword).isEmpty then 0 else 1) < 30)) = true := by rfl)
    (hline : (apos.endLine == cpos.line) = true := by rfl) (hs : starEach (e :: es) X.env = (false, eval e X.env) :: starEach es X.env := by rfl) (hplain : (backTo cpos (starEach es X.env)).any (·.1) = false := by rfl)
include ha hfew hline hs hplain
end
end
end Q

set_option Elab.async false
set_option linter.all false
set_option maxRecDepth 100000
set_option maxHeartbeats 1000000
/-! QA: except X as e, where e is only asked for its class. -/
namespace Q
open PySem PySem.Spec PyProof.Rows L2 TL
/-- the name of the exception goes -/
def RS.cl (i : Nat) : RS → RS
  | .nx e h => .nx (e.set i none) h
  | .rt u h => .rt u h
  | .bk e h => .bk (e.set i none) h
  | .ct e h => .ct (e.set i none) h
  | .ex _ _ _ _ => .bad
  | .bad => .bad
def mTryAs (i : Nat) (ys : List Nat) (mb ms : SM) : SM := fun env h => match mb env h with
  | .ex C n env1 h1 => if C ∈ ys ∧ n = none ∧ i < env1.length then (ms (env1.set i none) h1).cl i else .bad
  | r => r
def mIsE (i a : Nat) (b : Bool) : EM := fun env h => match env[i]? with
  | some (some (.xv a' none _ none)) => if a' = a then .ok (.bl b) h else .bad
  | _ => .bad
section
variable {K : Fr} {g g' : G} {E : XK} {W W0 : WX} {X : Cx} {H : Hp} {h : Sto} {σ : L2.St} {env : Env'} {m1 ms : SM} {mx : Nat → SM} {pos : Pos}
theorem WS.cl {r : RS} {D : Ends} {i : Nat} {W' : WX} (w : WS K W g (r.cl i) D) : WS K W' g r { nx := fun σ' H' => D.nx (σ'.set i none) H', rt := D.rt, bk := fun σ' H' => D.bk (σ'.set i none) H', ct := fun σ' H' => D.ct (σ'.set i none) H' } := by
  cases r with
  | nx e h => exact fun σ H g' l hr er => w _ H g' l hr (er.none i)
  | rt u h => exact w
  | bk e h => exact fun σ H g' l hr er => w _ H g' l hr (er.none i)
  | ct e h => exact fun σ H g' l hr er => w _ H g' l hr (er.none i)
  | ex C n e h => exact w.elim
  | bad => exact w.elim
theorem ret_cl {i : Nat} {a b : EM} {e1 e2 : Env'} (q : a e1 h = b e2 h) : (mRet a e1 h).cl i = (mRet b e2 h).cl i := by
  unfold mRet
  rw [q]
  cases b e2 h <;> rfl
end
end Q

set_option Elab.async false
set_option linter.all false
set_option maxRecDepth 100000
set_option maxHeartbeats 1000000
/-! QR: str(number), list.pop(). -/
namespace Q
open PySem PySem.Spec PyProof.Rows L2 TL
/-- the signs of a number -/
def sInt (i : Int) : List Nat := (toString i).toList.map Char.toNat
section
variable {K : Fr} {g g' : G} {E : XK} {W : WX} {X : Cx} {H : Hp} {h : Sto} {v w : V} {x y : U} {σ : L2.St} {env : Env'} {a b c o e : Expr} {es : List Expr} {am : AM} {ma mb mc mo me : EM} {pos p apos cpos : Pos} {n : Str}
def uStr (us : List U) (h : Sto) : R U := match us with
  | [.int i] => if i.natAbs.log2 < 1920 then .ok (.str (sInt i)) h else .bad
  | _ => .bad
theorem ok_str : CallOK K (fun xs H Q => ∃ i : Int, xs = [.int i] ∧ i.natAbs.log2 < 1920 ∧ Q (.str (toString i)) H) uStr := by
  intro E g H h vs us Q hr rv t
  unfold uStr at t
  split at t
  · rename_i i
    split at t
    · rename_i z
      cases rv with
      | cons r1 r2 =>
        cases r2
        cases r1
        refine ⟨i, rfl, z, ?_⟩
        have : ((toString i : String) : Str) = ⟨(sInt i).toArray⟩ := Str.ofString_eq_toList _
        rw [this]
        exact t _ _ g (Le.refl _) hr (.str _)
    · exact t.elim
  · exact t.elim
theorem se_str' (hg : Gl X n) (hm : X.mg n = none) (ha : PA X (e :: es) (aM X.K W am)) (hn : n ≠ "__name__" := by decide) (hdb : (n == ("__debug__" : Str)) = false := by decide)
    (he : starEach (e :: es) X.env = (false, eval e X.env) :: starEach es X.env := by rfl) (hpl : (backTo pos (starEach es X.env)).any (·.1) = false := by rfl)
    (hv : bootBuiltins n = some (.type "str") := by decide +kernel) : PE X (.Call (.Name n p) (e :: es) [] pos) (tM X.K W (mCB uStr am)) := se_ct call_str_int ok_str hg hm hv ha hn hdb he hpl
/-! ### pop -/
def mLM0 (f : U → List U → Sto → R U) (o : EM) : EM := fun env h => (o env h).bind fun x h1 => if (aL h1 x).isSome = true then f x [] h1 else .bad
def uPop (x : U) (us : List U) (h : Sto) : R U := match x, us with
  | .ref n, [] => (match h[n]? with
    | some (.lst xs) => (match xs[xs.length - 1]? with
      | some y => .ok y (h.set n (.lst xs.dropLast))
      | none => .bad)
    | _ => .bad)
  | _, _ => .bad
/-! ### insert -/
def uIns (x : U) (us : List U) (h : Sto) : R U := match x, us with
  | .ref n, [.int i, y] => (match h[n]? with
    | some (.lst xs) => if xs.length < 16000000 ∧ 0 ≤ i ∧ i < 1000000000000000000 then .ok .non (h.set n (.lst (xs.take i.toNat ++ [y] ++ xs.drop i.toNat))) else .bad
    | _ => .bad)
  | _, _ => .bad
/-! ### [::-1] of a list -/
def uRev (x : U) (h : Sto) : R U := match aL h x with
  | some us => .ok (.ref h.length) (h ++ [.lst us.reverse])
  | none => .bad
def mRev (a : EM) : EM := fun env h => (a env h).bind uRev
/-! ### range downwards -/
/-- hi, hi - 1, .. -/
def rngD (hi : Int) (n : Nat) : List U := (List.range n).map fun i => .int (hi - (i : Nat))
def itR3 (am : AM) : IM' := fun env h => (am env h).bind fun us h1 => match us with
  | [.int i, .int j, .int c] => if (-1000000000 ≤ i ∧ i ≤ 1000000000) ∧ (-1000000000 ≤ j ∧ j ≤ 1000000000) ∧ c = -1 then .ok ([], rngD i (i - j).toNat) h1 else .bad
  | _ => .bad
end
end Q

set_option Elab.async false
set_option linter.all false
set_option maxRecDepth 100000
set_option maxHeartbeats 1000000
/-! QL: a list comprehension out of which an exception comes. -/
namespace PySem
open HandSPX
section
variable {M : Model} {A : Around} {E : Value → Shared → Prop} {s : Shared} {Z : Obj → Prop} {base : Heap} {env c : Env} {outer l : List Env} {L e : Addr}
end
end PySem
namespace L2
open PySem PySem.Spec PyProof.Rows
section
variable {X : Cx} {pins : List (Addr × Obj)} {σ : L2.St} {H3 H' : Hp} {s3 sI s' : Shared} {B h' : Heap} {W : WX}
/-- the block's context, its exceptions taken by xe -/
abbrev Cx.blkX (X : Cx) (s : Shared) (H : Hp) (scope : Scope) (cenv : Env) (fp : List Addr) (xe : Value → Shared → Prop) : Cx := { X.blk s H scope cenv fp with xe := xe }
end
end L2

set_option Elab.async false
set_option linter.all false
set_option maxRecDepth 100000
set_option maxHeartbeats 1000000
/-! QM: comprehensions whose items may raise. -/
namespace Q
open PySem PySem.Spec PyProof.Rows L2 TL
section
variable {K : Fr} {g g' : G} {E : XK} {W : WX} {X : Cx} {H : Hp} {h : Sto} {σ : L2.St} {env : Env'} {tg iter elt : Expr} {ct : CT} {mi : IM'} {ta : TM} {me : EM} {ifs : List Expr} {scope : Scope} {own : List (Str × Nat)} {pos : Pos}
open Classical in
noncomputable def lcLX (c : Chk) (ct : CT) (t : TM) (me : EM) (n : Nat) (env : Env') : List U → Sto → R U
  | [], h => if chkOk c h then .ok (.ref n) h else .bad
  | u :: us, h => if chkOk c h then (match ct.asg u env h with
      | some env1 => (t env1 h).no.bind fun b h1 => if b = true then (me env1 h1).bind fun y h2 => (match h2[n]? with
          | some (.lst acc) => if acc.length < 16000000 then lcLX c ct t me n env us (h2.set n (.lst (acc ++ [y]))) else .bad
          | _ => .bad) else lcLX c ct t me n env us h1
      | none => .bad) else .bad
noncomputable def mLcX (mi : IM') (ct : CT) (t : TM) (me : EM) (vs : List Nat) : EM := fun env h => (mi env h).bind fun z h1 => lcLX z.1 ct t me h1.length (wipeE env vs) z.2 (h1 ++ [.lst []])
abbrev BlkX (X : Cx) (scope : Scope) (P : Cx → Prop) : Prop := ∀ (s : Shared) (H : Hp) (C : Addr) (cl : List (Str × Addr)) (fp : List Addr) (xe : Value → Shared → Prop), P (X.blkX s H scope (compEnvC scope cl C X.env) fp xe)
end
end Q

set_option Elab.async false
set_option linter.all false
set_option maxRecDepth 100000
set_option maxHeartbeats 1000000
/-! QS: sorted of texts, sorted and list of a dict. -/
namespace Q
open PySem PySem.Spec PyProof.Rows L2 TL
def ltL : List Nat → List Nat → Bool
  | [], [] => false
  | [], _ :: _ => true
  | _ :: _, [] => false
  | a :: r, b :: t => a < b || (a == b && ltL r t)
def insS (x : List Nat) : List (List Nat) → List (List Nat)
  | [] => [x]
  | y :: r => if ltL y x = true then y :: insS x r else x :: y :: r
def sortS (ss : List (List Nat)) : List (List Nat) := ss.foldr insS []
abbrev ofL (s : List Nat) : Str := ⟨s.toArray⟩
section
variable {K : Fr} {g g' : G} {E : XK} {W : WX} {X : Cx} {H : Hp} {h : Sto} {v w : V} {x y : U} {σ : L2.St} {env : Env'} {e : Expr} {es : List Expr} {am : AM} {pos p : Pos} {n : Str}
def strsU : List U → Option (List (List Nat))
  | [] => some []
  | .str s :: r => (strsU r).map (s :: ·)
  | _ :: _ => none
def keysS : List (DK × U) → Option (List (List Nat))
  | [] => some []
  | (.inr s, _) :: r => (keysS r).map (s :: ·)
  | _ :: _ => none
/-- sorted of a list of texts -/
def uSortS (us : List U) (h : Sto) : R U := match us with
  | [x] => match aL h x with
    | some xs => (match strsU xs with
      | some ss => if ss.length < 64 then .ok (.ref h.length) (h ++ [.lst ((sortS ss).map U.str)]) else .bad
      | none => .bad)
    | none => .bad
  | _ => .bad
/-- sorted of a dict whose keys are texts -/
abbrev rSortD : List V → Hp → VK → Prop := fun xs H Q => ∃ (a : Addr) (kvs : List (Key × V)) (ks : List Str), xs = [.ref a] ∧ Rd H a (.dK kvs) ∧ kvs.map (·.1) = ks.map Sum.inr ∧ ks.length < 64 ∧
    ∀ ys p, ys.Perm ks → sortedS ys = true → H p = none → Q (.ref p) (upd H p (.lst (ys.map V.str)))
def uSortD (us : List U) (h : Sto) : R U := match us with
  | [x] => match aDK h x with
    | some kvs => (match keysS kvs with
      | some ss => if ss.length < 64 then .ok (.ref h.length) (h ++ [.lst ((sortS ss).map U.str)]) else .bad
      | none => .bad)
    | none => .bad
  | _ => .bad
/-- list of a dict: its keys -/
abbrev rListD : List V → Hp → VK → Prop := fun xs H Q => ∃ (a : Addr) (kvs : List (Key × V)), xs = [.ref a] ∧ Rd H a (.dK kvs) ∧ ∀ p, H p = none → Q (.ref p) (upd H p (.lst (kvs.map fun kv => kV kv.1)))
def uListD (us : List U) (h : Sto) : R U := match us with
  | [x] => match aDK h x with
    | some kvs => .ok (.ref h.length) (h ++ [.lst (kvs.map fun p => dkU p.1)])
    | none => .bad
  | _ => .bad
section
variable (hg : Gl X n) (hm : X.mg n = none) (ha : PA X (e :: es) (aM X.K W am)) (hn : n ≠ "__name__" := by decide) (hdb : (n == ("__debug__" : Str)) = false := by decide)
    (he : starEach (e :: es) X.env = (false, eval e X.env) :: starEach es X.env := by rfl) (hpl : (backTo pos (starEach es X.env)).any (·.1) = false := by rfl)
include hg hm ha hn hdb he hpl
end
end
end Q

set_option Elab.async false
set_option linter.all false
set_option maxRecDepth 100000
set_option maxHeartbeats 1000000
/-! QU: setdefault of a dict, displays with a star. -/
namespace Q
open PySem PySem.Spec PyProof.Rows L2 TL
section
variable {K : Fr} {g g' : G} {W : WX} {X : Cx} {H : Hp} {h : Sto} {σ : L2.St} {env : Env'} {a o : Expr} {mo : EM} {am : AM} {apos cpos pos : Pos} {kvs : List (Key × V)} {k : Key} {z : V} {u r : Value} {s : Shared} {pins : List (Addr × Obj)} {A : Around} {E : Value → Shared → Prop} {ad : Addr}
/-! ### setdefault -/
def rSd (x : V) (vs : List V) (H : Hp) (Q : VK) : Prop := ∃ ad kvs k z, x = .ref ad ∧ vs = [kV k, z] ∧ H ad = some (.dK kvs) ∧ (∀ v, valV kvs k = some v → Q v H) ∧ (valV kvs k = none → kvs.length < sizeLine ∧ Q z (upd H ad (.dK (putK kvs k z))))
def uSd (x : U) (us : List U) (h : Sto) : R U := match x, us with
  | .ref n, [y, z] => (match h[n]?, keyU y with
    | some (.dK kvs), some k => (match valD kvs k with
      | some u => .ok u (h.set n (.dK kvs))
      | none => if kvs.length < 16000000 then .ok z (h.set n (.dK (putD kvs k z))) else .bad)
    | _, _ => .bad)
  | _, _ => .bad
/-- a dict's method: the receiver is a dict -/
def isDK (h : Sto) : U → Bool
  | .ref n => (match h[n]? with
    | some (.dK _) => true
    | _ => false)
  | _ => false
def mDM (f : U → List U → Sto → R U) (o : EM) (am : AM) : EM := fun env h => (o env h).bind fun x h1 => if isDK h1 x = true then (am env h1).bind fun us h2 => f x us h2 else .bad
/-! ### *e in a display -/
def aStar (m : EM) (am : AM) : AM := fun env h => (m env h).bind fun x h1 => match sL h1 x with
  | some us => (am env h1).bind fun ys h2 => .ok (us ++ ys) h2
  | none => .bad
end
end Q

set_option Elab.async false
set_option linter.all false
set_option maxRecDepth 100000
set_option maxHeartbeats 1000000
/-! QV: get of a dict, a list times a number. -/
namespace Q
open PySem PySem.Spec PyProof.Rows L2 TL
section
variable {K : Fr} {g g' : G} {W : WX} {X : Cx} {H : Hp} {h : Sto} {σ : L2.St} {env : Env'} {o e1 e2 : Expr} {mo m1 m2 : EM} {am : AM} {apos cpos pos : Pos} {E : XK} {u : U} {v : V} {k : DK}
def uGet (x : U) (us : List U) (h : Sto) : R U := match us with
  | [y] => (match aDK h x, keyU y with
    | some kvs, some k => .ok ((valD kvs k).getD .non) h
    | _, _ => .bad)
  | [y, z] => (match aDK h x, keyU y with
    | some kvs, some k => .ok ((valD kvs k).getD z) h
    | _, _ => .bad)
  | _ => .bad
def mDG (f : U → List U → Sto → R U) (o : EM) (am : AM) : EM := fun env h => (o env h).bind fun x h1 => if (aDK h1 x).isSome = true then (am env h1).bind fun us h2 => f x us h2 else .bad
/-! ### [x] * k -/
def uMulL (x y : U) (h : Sto) : R U := match mL h x, y with
  | some us, .int k => if us.length * k.toNat ≤ 16000000 ∧ k.natAbs ≤ 1000000000 then .ok (.ref h.length) (h ++ [.lst (List.replicate k.toNat us).flatten]) else .bad
  | _, _ => .bad
end
end Q

set_option Elab.async false
set_option linter.all false
set_option maxRecDepth 100000
set_option maxHeartbeats 1000000
/-! QW: comprehensions of two clauses. -/
namespace Q
open PySem PySem.Spec PyProof.Rows L2 TL
section
variable {K : Fr} {g g' : G} {E : XK} {W : WX} {X : Cx} {H : Hp} {h : Sto} {σ : L2.St} {env : Env'} {ct ct1 : CT} {ta ta1 : TM} {me : EM} {mi mi1 : IM'} {tg iter tg1 iter1 elt : Expr} {ifs ifs1 : List Expr} {scope : Scope} {own : List (Str × Nat)} {pos : Pos}
open Classical in
noncomputable def lcI (c : Chk) (ct : CT) (t : TM) (me : EM) (n : Nat) (env : Env') (k : Sto → R U) : List U → Sto → R U
  | [], h => if chkOk c h then k h else .bad
  | u :: us, h => if chkOk c h then (match ct.asg u env h with
      | some env1 => (t env1 h).no.bind fun b h1 => if b = true then (me env1 h1).no.bind fun y h2 => (match h2[n]? with
          | some (.lst acc) => if acc.length < 16000000 then lcI c ct t me n env k us (h2.set n (.lst (acc ++ [y]))) else .bad
          | _ => .bad) else lcI c ct t me n env k us h1
      | none => .bad) else .bad
open Classical in
noncomputable def lcL2 (c : Chk) (ct : CT) (t : TM) (mi1 : IM') (ct1 : CT) (t1 : TM) (me : EM) (vs1 : List Nat) (n : Nat) (env : Env') : List U → Sto → R U
  | [], h => if chkOk c h then .ok (.ref n) h else .bad
  | u :: us, h => if chkOk c h then (match ct.asg u env h with
      | some env1 => (t env1 h).no.bind fun b h1 => if b = true then (mi1 env1 h1).no.bind fun z h2 => lcI z.1 ct1 t1 me n (wipeE env1 vs1) (fun h3 => lcL2 c ct t mi1 ct1 t1 me vs1 n env us h3) z.2 h2
          else lcL2 c ct t mi1 ct1 t1 me vs1 n env us h1
      | none => .bad) else .bad
noncomputable def mLc2 (mi : IM') (ct : CT) (t : TM) (mi1 : IM') (ct1 : CT) (t1 : TM) (me : EM) (vs vs1 : List Nat) : EM := fun env h => (mi env h).bind fun z h1 => lcL2 z.1 ct t mi1 ct1 t1 me vs1 h1.length (wipeE env vs) z.2 (h1 ++ [.lst []])
end
end Q

set_option Elab.async false
set_option linter.all false
set_option maxRecDepth 100000
set_option maxHeartbeats 1000000
/-! QB: dict comprehensions of one clause; isupper of a text of one sign. -/
namespace Q
open PySem PySem.Spec PyProof.Rows L2 TL
section
variable {K : Fr} {g g' : G} {E : XK} {W : WX} {X : Cx} {H : Hp} {h : Sto} {σ : L2.St} {env : Env'} {ct : CT} {ta : TM} {mk mv : EM} {mi : IM'} {tg iter kx vx : Expr} {ifs : List Expr} {scope : Scope} {own : List (Str × Nat)} {pos : Pos}
open Classical in
noncomputable def dcL (c : Chk) (ct : CT) (t : TM) (mk mv : EM) (n : Nat) (env : Env') : List U → Sto → R U
  | [], h => if chkOk c h then .ok (.ref n) h else .bad
  | u :: us, h => if chkOk c h then (match ct.asg u env h with
      | some env1 => (t env1 h).no.bind fun b h1 => if b = true then (mk env1 h1).no.bind fun y h2 => (mv env1 h2).no.bind fun z h3 => (match h3[n]?, keyU y with
          | some (.dK acc), some k => if acc.length < 16000000 then dcL c ct t mk mv n env us (h3.set n (.dK (putD acc k z))) else .bad
          | _, _ => .bad) else dcL c ct t mk mv n env us h1
      | none => .bad) else .bad
noncomputable def mDc (mi : IM') (ct : CT) (t : TM) (mk mv : EM) (vs : List Nat) : EM := fun env h => (mi env h).bind fun z h1 => dcL z.1 ct t mk mv h1.length (wipeE env vs) z.2 (h1 ++ [.dK []])
/-! ### isupper -/
def uUp (x : U) (h : Sto) : R U := match x with
  | .str [] => .ok (.bl false) h
  | .str [c] => if c < 128 then .ok (.bl (decide (65 ≤ c) && decide (c ≤ 90))) h else .bad
  | _ => .bad
end
end Q

set_option Elab.async false
set_option linter.all false
set_option maxRecDepth 100000
set_option maxHeartbeats 1000000
/-! QI: * and // of great numbers, a tuple times a number, str of a truth, lower of it, split at a sign, c + x.replace(a, b). -/
namespace Q
open PySem PySem.Spec PyProof.Rows L2 TL
section
variable {K : Fr} {g g' : G} {W : WX} {X : Cx} {H : Hp} {h : Sto} {σ : L2.St} {env : Env'} {o a b e : Expr} {es : List Expr} {mo ma mb : EM} {am : AM} {apos cpos pos p : Pos} {E : XK} {u : U} {v : V} {n : Str}
/-! ### great numbers -/
def cMulW (i j : Int) : Prop := i.natAbs.log2 + j.natAbs.log2 < 1000000
instance : ∀ i j, Decidable (cMulW i j) := fun i j => by unfold cMulW; exact inferInstance
def cDivW (_ j : Int) : Prop := 0 < j ∧ j.natAbs.log2 < 9000
instance : ∀ i j, Decidable (cDivW i j) := fun i j => by unfold cDivW; exact inferInstance
abbrev uMulW := uI cMulW fun i j => i * j
abbrev uDivW := uI cDivW fun i j => i / j
/-! ### a tuple times a number -/
def uMulT (x y : U) (h : Sto) : R U := match x, y with
  | .tup us, .int k => if us ≠ [] ∧ 2 ≤ k ∧ k ≤ 1000 ∧ us.length ≤ 1000 then .ok (.tup (List.replicate k.toNat us).flatten) h else .bad
  | _, _ => .bad
/-! ### str of a number, of a truth -/
def kTrue : List Nat := [84, 114, 117, 101]
def kFalse : List Nat := [70, 97, 108, 115, 101]
def uStrV (us : List U) (h : Sto) : R U := match us with
  | [.int i] => if i.natAbs.log2 < 1920 then .ok (.str (sInt i)) h else .bad
  | [.bl b] => .ok (.str (if b = true then kTrue else kFalse)) h
  | _ => .bad
/-! ### lower of what str of a truth gives -/
def uLow (x : U) (h : Sto) : R U := match x with
  | .str s => if s = kTrue then .ok (.str [116, 114, 117, 101]) h else if s = kFalse then .ok (.str [102, 97, 108, 115, 101]) h else .bad
  | _ => .bad
/-! ### split at one sign -/
/-- the pieces between the signs c -/
def splitC (c : Nat) : List Nat → List (List Nat)
  | [] => [[]]
  | x :: r => if x = c then [] :: splitC c r else match splitC c r with
    | p :: ps => (x :: p) :: ps
    | [] => [[x]]
theorem splitC_free {c : Nat} : ∀ {s : List Nat}, c ∉ s → splitC c s = [s]
  | [], _ => rfl
  | x :: r, h => by
    have h1 : ¬ x = c := fun e => h (by rw [e]; exact List.mem_cons_self)
    unfold splitC
    rw [if_neg h1, splitC_free fun m => h (List.mem_cons_of_mem _ m)]
theorem splitC_app {c : Nat} : ∀ {s t : List Nat}, c ∉ s → splitC c (s ++ c :: t) = s :: splitC c t
  | [], t, _ => by
    show (if c = c then [] :: splitC c t else _) = _
    rw [if_pos rfl]
  | x :: r, t, h => by
    have h1 : ¬ x = c := fun e => h (by rw [e]; exact List.mem_cons_self)
    rw [List.cons_append]
    show (if x = c then [] :: splitC c (r ++ c :: t) else match splitC c (r ++ c :: t) with
      | p :: ps => (x :: p) :: ps
      | [] => [[x]]) = _
    rw [if_neg h1, splitC_app fun m => h (List.mem_cons_of_mem _ m)]
theorem splitC_join {c : Nat} : ∀ {ps : List (List Nat)}, ps ≠ [] → (∀ p ∈ ps, c ∉ p) → splitC c (joinL [c] ps) = ps
  | [], h, _ => absurd rfl h
  | [p], _, h => splitC_free (h p List.mem_cons_self)
  | p :: q :: r, _, h => by
    show splitC c (p ++ ([c] ++ joinL [c] (q :: r))) = _
    rw [List.singleton_append, splitC_app (h p List.mem_cons_self), splitC_join (List.cons_ne_nil _ _) fun x m => h x (List.mem_cons_of_mem _ m)]
theorem split_list (x : Str) (c : Nat) : (Txt.split x ⟨#[c]⟩).map tl = splitC c (tl x) := by
  have h1 := StrLaws.join_split x ⟨#[c]⟩
  have h2 := StrLaws.split_free x c
  have h3 := PyProof.Rows.split_pos x ⟨#[c]⟩
  generalize Txt.split x ⟨#[c]⟩ = ps at h1 h2 h3
  have e : tl x = joinL [c] (ps.map tl) := by
    rw [← h1, tl_join]
  rw [e, splitC_join]
  · intro z
    rw [List.map_eq_nil_iff] at z
    rw [z] at h3
    exact absurd h3 (by decide)
  · intro p m
    obtain ⟨q, hq, rfl⟩ := List.mem_map.mp m
    exact h2 q hq
def uSplit (x y : U) (h : Sto) : R U := match x, y with
  | .str s, .str [c] => if s.length ≤ 16000000 then .ok (.ref h.length) (h ++ [.lst ((splitC c s).map .str)]) else .bad
  | _, _ => .bad
theorem ok_split : M1OK K (fun x xs H Q => ∃ a b, x = .str a ∧ xs = [.str b] ∧ (b.length == 0) = false ∧ a.length + 2 ≤ sizeLine ∧ rNewStrs (Txt.split a b) H Q) uSplit := fun E g H h v w s y Q hr rx ry t => by
  unfold uSplit at t
  split at t
  · rename_i s' c e1
    cases e1
    split at t
    · rename_i z
      cases rx
      cases ry
      refine ⟨_, _, rfl, rfl, rfl, ?_, fun p hp => ?_⟩
      · rw [str_len, sizeLine_eq]; omega
      · have e := split_list ⟨s.toArray⟩ c
        rw [tl_mk] at e
        refine t _ _ _ Le.new (hr.newLst hp ?_) hr.newRef
        have r : ∀ ps : List Str, Reps K g (ps.map V.str) ((ps.map tl).map U.str) := fun ps => by
          induction ps with
          | nil => exact .nil
          | cons q r ih =>
            have : q = ⟨(tl q).toArray⟩ := ext_tl (by rw [tl_mk])
            rw [List.map_cons, List.map_cons, List.map_cons]
            refine .cons ?_ ih
            conv => lhs; rw [this]
            exact .str _
        have := r (Txt.split ⟨s.toArray⟩ ⟨[c].toArray⟩)
        rw [e] at this
        exact this
    · exact t.elim
  · exact t.elim
theorem se_split (ho : PE X o (tM X.K W mo)) (he : PE X e (tM X.K W ma)) (hs : starEach [e] X.env = [(false, eval e X.env)] := by rfl) (hbase : attributeBase o "split" X.env (eval o X.env) = eval o X.env := by rfl) (hline : (apos.endLine == pos.line) = true := by rfl) :
    PE X (.Call (.Attribute o "split" apos) [e] [] pos) (tM X.K W (mSM1 uSplit mo ma)) := PE.weak (pe_split ho he hs hbase hline) fun σ H Q q => m1_to ok_split q
/-! ### c + x.replace(a, b): behind the written text a token is out -/
/-- each sign c is turned into z -/
def replC (c : Nat) (z s : List Nat) : List Nat := s.flatMap fun x => if x = c then z else [x]
theorem replL_one (c : Nat) (z : List Nat) : ∀ s : List Nat, StrLaws.replL [c] z s = replC c z s
  | [] => StrLaws.replL_nil
  | x :: r => by
    have e : replC c z (x :: r) = (if x = c then z else [x]) ++ replC c z r := rfl
    rw [e]
    by_cases q : x = c
    · subst q
      rw [StrLaws.replL_hit (by simp) (by rfl), if_pos rfl]
      show z ++ StrLaws.replL [x] z r = _
      rw [replL_one x z r]
    · have h : ¬ (x :: r).take [c].length = [c] := fun h => q (List.cons.inj (show [x] = [c] from h)).1
      rw [StrLaws.replL_miss h, if_neg q, replL_one c z r]
      rfl
theorem repl_list (s : List Nat) (c : Nat) (z : List Nat) : Txt.replace ⟨s.toArray⟩ ⟨#[c]⟩ ⟨z.toArray⟩ = ⟨(replC c z s).toArray⟩ := by
  apply ext_tl
  rw [tl_mk, ← replL_one]
  have := StrLaws.replace_list (x := ⟨s.toArray⟩) (y := ⟨#[c]⟩) (z := ⟨z.toArray⟩) (Nat.le_refl 1)
  exact this
theorem pe_cop {op : Operator} {r : R2} {y : Str} {j : Nat} {c0 : Pos} {f : Expr} {tf : TE} (ho : OpR X (binaryOp op) r) (hb : PET X f tf) : PE X (.BinOp (.Constant (.str y) j c0) op f pos) (tOp r (tC (.str y)) tf) := by
  refine ⟨fun pins s σ H Q I h => wpAny_BinOp (Calls.Constant_str ?_)⟩
  refine thn (hb pins { s with toks := s.toks + 1 } σ H _ (by show 1 ≤ s.toks + 1; omega) (I.tok _) h) fun u s2 ⟨w, H2, I2, r2, q2⟩ => ?_
  exact ho pins s2 σ H2 (.str y) w (.str y s.toks) u Q I2 ⟨_, rfl⟩ r2 q2
def mRepA (d : List Nat) (c : Nat) (z : List Nat) (o : EM) : EM := fun env h => (o env h).bind fun x h1 => match x with
  | .str s => if s.length * (z.length + 1) + z.length + d.length ≤ 1000000 then .ok (.str (d ++ replC c z s)) h1 else .bad
  | _ => .bad
theorem se_repA {d : List Nat} {c : Nat} {z : List Nat} {y y1 y2 : Str} {j k l : Nat} {c0 c1 c2 pos2 : Pos} (ho : PE X o (tM X.K W mo)) (e0 : y = ⟨d.toArray⟩ := by rfl) (e1 : y1 = ⟨#[c]⟩ := by rfl) (e2 : y2 = ⟨z.toArray⟩ := by rfl) (hyz : (y1 == y2) = false := by decide)
    (hst : starEach [.Constant (.str y1) k c1, .Constant (.str y2) l c2] X.env = [(false, eval (.Constant (.str y1) k c1) X.env), (false, eval (.Constant (.str y2) l c2) X.env)] := by rfl)
    (hbase : attributeBase o "replace" X.env (eval o X.env) = eval o X.env := by rfl) (hline : (apos.endLine == pos.line) = true := by rfl) :
    PE X (.BinOp (.Constant (.str y) j c0) .Add (.Call (.Attribute o "replace" apos) [.Constant (.str y1) k c1, .Constant (.str y2) l c2] [] pos) pos2) (tM X.K W (mRepA d c z mo)) := by
  subst e0 e1 e2
  refine PE.weak (pe_cop opr_add (CwR.pet_replC ho hyz hst hbase hline)) fun σ H Q ⟨g, env, h, hr, er, w⟩ => ?_
  refine ⟨g, env, h, hr, er, wE w fun u h1 v H1 g1 l1 hr1 rv w1 => ?_⟩
  cases rv with
  | str s =>
    simp only at w1
    split at w1
    · rename_i q
      have ez : (⟨z.toArray⟩ : Str).length = z.length := str_len z
      have es : (⟨s.toArray⟩ : Str).length = s.length := str_len s
      have ed : (⟨d.toArray⟩ : Str).length = d.length := str_len d
      have m : s.length * (z.length + 1) = s.length * z.length + s.length := by rw [Nat.mul_add, Nat.mul_one]
      have m2 : (s.length + 1) * z.length = s.length * z.length + z.length := by rw [Nat.add_mul, Nat.one_mul]
      refine ⟨_, rfl, by rw [es, ez, m2]; omega, .inr (.inl ⟨_, _, rfl, rfl, ?_, ?_⟩)⟩
      · have := TK.replace_len ⟨s.toArray⟩ ⟨#[c]⟩ ⟨z.toArray⟩
        rw [es, ez, m2] at this
        rw [ed, sizeLine_eq]
        omega
      · rw [repl_list, str_app]
        exact w1 _ _ g1 (Le.refl _) hr1 (.str _)
    · exact w1.elim
  | _ => exact w1.elim
/-! ### a list is extended by a tuple -/
def rExtT (K : Fr) : V → List V → Hp → VK → Prop := fun x vs H Q => ∃ l b xs zs, x = .ref l ∧ vs = [.ref b] ∧ H l = some (.lst xs) ∧ SqT K H b zs ∧ xs.length + zs.length ≤ sizeLine ∧ Q .non (upd H l (.lst (xs ++ zs)))
def uExtT (x : U) (us : List U) (h : Sto) : R U := match x, us with
  | .ref n, [.tup ys] => (match h[n]? with
    | some (.lst xs) => if xs.length + ys.length ≤ 16000000 then .ok .non (h.set n (.lst (xs ++ ys))) else .bad
    | _ => .bad)
  | _, _ => .bad
/-! ### == with the empty tuple -/
def rEqE (K : Fr) : R2 := fun x y H Q => ∃ a b xs, x = .ref a ∧ y = .ref b ∧ SqT K H a xs ∧ SqT K H b [] ∧ Q (.bl xs.isEmpty) H
def cEqE (_ : Sto) (x y : U) : Option Bool := match x, y with
  | .tup us, .tup [] => some us.isEmpty
  | _, _ => none
/-! ### what is never reached -/
def mBadE : EM := fun _ _ => .bad
def mBadS : SM := fun _ _ => .bad
end
end Q

set_option Elab.async false
set_option linter.all false
set_option maxRecDepth 100000
set_option maxHeartbeats 1000000
/-! QJ: sorted of pairs of a number and a list of texts, d.update(e), {**d, k: v}, (n, s) <= (m, t). -/
namespace Q
open PySem PySem.Spec PyProof.Rows L2 TL
/-! ### the order -/
abbrev IS := Int × List (List Nat)
def leIS (a b : IS) : Bool := decide (a.1 < b.1 ∨ (a.1 = b.1 ∧ a.2 ≤ b.2))
def encIS (b : V × IS) : PyData := .tuple [.int b.2.1, .list (b.2.2.map fun s => .str (ofL s))]
/-! ### sorted -/
def ItemAt (K : Fr) (H : Hp) (b : V × IS) : Prop := ∃ t l : Addr, b.1 = .ref t ∧ SqT K H t [.int b.2.1, .ref l] ∧ SqL K H l ((b.2.2.map ofL).map V.str)
def rSortT (K : Fr) : List V → Hp → VK → Prop := fun vs H Q => ∃ (a : Addr) (bs : List (V × IS)), vs = [V.ref a] ∧ SqL K H a (bs.map Prod.fst) ∧ (∀ b ∈ bs, ItemAt K H b) ∧
  ∀ p, H p = none → Q (.ref p) (upd H p (.lst ((bs.mergeSort fun p q => leIS p.2 q.2).map Prod.fst)))
section
variable {X : Cx} {pins : List (Addr × Obj)} {σ : L2.St} {H : Hp} {s : Shared}
end
section
variable {K : Fr} {g g' : G} {W : WX} {X : Cx} {H : Hp} {h : Sto} {σ : L2.St} {env : Env'} {o a b e : Expr} {es : List Expr} {mo ma mb : EM} {am : AM} {apos cpos pos p : Pos} {E : XK} {u : U} {v : V} {n : Str}
def keyIS (h : Sto) : U → Option IS
  | .tup [.int n, x] => (match aL h x with
    | some xs => (match strsU xs with
      | some ss => some (n, ss)
      | none => none)
    | none => none)
  | _ => none
def keysT (h : Sto) : List U → Option (List IS)
  | [] => some []
  | x :: r => (match keyIS h x, keysT h r with
    | some k, some ks => some (k :: ks)
    | _, _ => none)
def srtT (us : List U) (ks : List IS) : List U := ((us.zip ks).mergeSort fun p q => leIS p.2 q.2).map Prod.fst
def uSortT (us : List U) (h : Sto) : R U := match us with
  | [x] => (match aL h x with
    | some xs => (match keysT h xs with
      | some ks => .ok (.ref h.length) (h ++ [.lst (srtT xs ks)])
      | none => .bad)
    | none => .bad)
  | _ => .bad
/-! ### d.update(e) -/
def rUpd (x : V) (vs : List V) (H : Hp) (Q : VK) : Prop := ∃ ad od kvs more, x = .ref ad ∧ vs = [.ref od] ∧ ad ≠ od ∧ H ad = some (.dK kvs) ∧ Rd H od (.dK more) ∧ kvs.length + more.length ≤ sizeLine ∧ Q .non (upd H ad (.dK (mergeK kvs more)))
def isRefTo (n : Nat) : U → Bool
  | .ref m => m == n
  | _ => false
def uUpd (x : U) (us : List U) (h : Sto) : R U := match x, us with
  | .ref n, [y] => (match h[n]?, aDK h y with
    | some (.dK kvs), some more => if isRefTo n y = false ∧ kvs.length + more.length ≤ 16000000 then .ok .non (h.set n (.dK (mergeD kvs more))) else .bad
    | _, _ => .bad)
  | _, _ => .bad
/-! ### (n, s) <= (m, t) -/
def rLeP (K : Fr) : R2 := fun x y H Q => ∃ (a b : Addr) (n m : Int) (p q : List Nat), x = .ref a ∧ y = .ref b ∧ SqT K H a [.int n, .str (ofL p)] ∧ SqT K H b [.int m, .str (ofL q)] ∧
  Q (.bl (decide (n < m ∨ (n = m ∧ p ≤ q)))) H
def cLeP (_ : Sto) (x y : U) : Option Bool := match x, y with
  | .tup [.int n, .str p], .tup [.int m, .str q] => some (decide (n < m ∨ (n = m ∧ p ≤ q)))
  | _, _ => none
end
end Q

set_option Elab.async false
set_option linter.all false
set_option maxRecDepth 100000
set_option maxHeartbeats 1000000
/-! QK: {**d, k: v}. -/
namespace PySem
open PySem PySem.Calls PyProof.Rows
section
variable {prog : Program} {w : World} {A : Around} {E : Value → Shared → Prop} {s : Shared} {K : Type} [DecidableEq K] {knd : KeyKind prog w K}
end
section
open L2
variable {prog : Program} {w : World} {A : Around} {E : Value → Shared → Prop} {s : Shared}
end
end PySem
namespace L2
open PySem PySem.Spec PyProof.Rows
/-- {**d, k: v} -/
def tStar (td tk tv : TE) : TE := fun σ H Q => ∀ p, H p = none → td σ (upd H p (.dK [])) fun x H1 => ∃ od more, x = .ref od ∧ p ≠ od ∧ H1 p = some (.dK []) ∧ Rd H1 od (.dK more) ∧
  ∀ p2, upd H1 p (.dK (mergeK [] more)) p2 = none → tk σ (upd (upd H1 p (.dK (mergeK [] more))) p2 (.dK [])) fun y H3 => tv σ H3 fun z H4 => ∃ k acc, y = kV k ∧ p2 ≠ p ∧ H4 p = some (.dK acc) ∧ H4 p2 = some (.dK []) ∧
    acc.length < sizeLine ∧ Q (.ref p) (upd (upd H4 p2 (.dK [(k, z)])) p (.dK (putK acc k z)))
end L2
namespace Q
open PySem PySem.Spec PyProof.Rows L2 TL
section
variable {K : Fr} {g g' : G} {W : WX} {X : Cx} {H : Hp} {h : Sto} {σ : L2.St} {env : Env'} {dx kx vx : Expr} {md mk mv : EM} {pos : Pos} {E : XK}
def mStar (md mk mv : EM) : EM := fun env h => (md env (h ++ [.dK []])).bind fun x h1 => match aDK h1 x, h1[h.length]? with
  | some more, some (.dK []) => if isRefTo h.length x = false ∧ more.length ≤ 16000000 then (mk env (h1.set h.length (.dK (mergeD [] more)) ++ [.dK []])).bind fun y h2 => (mv env h2).bind fun z h3 =>
      (match keyU y, h3[h.length]?, h3[h1.length]? with
      | some k, some (.dK acc), some (.dK []) => if acc.length < 16000000 then .ok (.ref h.length) ((h3.set h1.length (.dK [(k, z)])).set h.length (.dK (putD acc k z))) else .bad
      | _, _, _ => .bad) else .bad
  | _, _ => .bad
end
end Q

set_option Elab.async false
set_option linter.all false
set_option maxRecDepth 100000
set_option maxHeartbeats 1000000
/-! QN: s.find(c, i), c one sign. -/
namespace Q
open PySem PySem.Spec PyProof.Rows L2 TL
open Builtin Builtin.Str
/-- the first place of c from i on -/
def fdF (s : List Nat) (c i : Nat) : Int := match (s.drop i).findIdx? (· == c) with
  | some j => ((i + j : Nat) : Int)
  | none => -1
theorem find3_one (s : List Nat) (c i : Nat) : Txt.find3 ⟨s.toArray⟩ ⟨#[c]⟩ (i : Int) = fdF s c i := by
  have hl : Str.length ⟨s.toArray⟩ = s.length := str_len s
  have h0 : Str.length ⟨#[c]⟩ = 1 := rfl
  have hi : fromIndex (Str.length ⟨s.toArray⟩) (i : Int) = i := by unfold fromIndex; rw [if_neg (by omega)]; omega
  unfold Txt.find3 fdF
  rw [hi, StrLaws.occ_eq, occ_first _ _ _ _ _ (by intro j hj; exact (List.mem_range'_1.mp hj).1), hl]
  cases q : (s.drop i).findIdx? (· == c) with
  | none =>
    have : (List.range' i (s.length + 1 - i)).find? (fun j => decide (j + Str.length ⟨#[c]⟩ ≤ s.length) && subAt ⟨s.toArray⟩ ⟨#[c]⟩ j) = none := by
      rw [List.find?_eq_none]
      intro j hj
      obtain ⟨h1, h2⟩ := List.mem_range'_1.mp hj
      rw [h0]
      by_cases z : j < s.length
      · rw [sub_one s c j z]
        have := List.findIdx?_eq_none_iff.mp q (s[j]) (by rw [List.mem_iff_getElem]; exact ⟨j - i, by simp; omega, by simp [show i + (j - i) = j by omega]⟩)
        simp at this
        simp [z, this]
      · simp; omega
    rw [this]; rfl
  | some k =>
    obtain ⟨hk, h1, h2⟩ := List.findIdx?_eq_some_iff_getElem.mp q
    simp at hk
    have : (List.range' i (s.length + 1 - i)).find? (fun j => decide (j + Str.length ⟨#[c]⟩ ≤ s.length) && subAt ⟨s.toArray⟩ ⟨#[c]⟩ j) = some (i + k) := by
      rw [List.find?_eq_some_iff_getElem]
      refine ⟨?_, k, by simp; omega, by simp, fun j hj => ?_⟩
      · rw [sub_one s c (i + k) (by omega), h0]
        simp at h1
        simp [show i + k < s.length by omega, h1]; omega
      · have hj' : i + j < s.length := by omega
        simp only [List.getElem_range', Nat.one_mul]
        rw [sub_one s c (i + j) hj', h0]
        have := h2 j hj
        simp at this
        simp [hj', this]
    rw [this]; rfl
section
variable {K : Fr} {g g' : G} {W : WX} {X : Cx} {H : Hp} {h : Sto} {σ : L2.St} {env : Env'} {o e : Expr} {es : List Expr} {mo : EM} {am : AM} {apos cpos : Pos} {E : XK}
def uFind (x : U) (us : List U) (h : Sto) : R U := match x, us with
  | .str s, [.str [c], .int i] => if 0 ≤ i then .ok (.int (fdF s c i.toNat)) h else .bad
  | _, _ => .bad
def mFind (mo : EM) (am : AM) : EM := fun env h => (mo env h).bind fun x h1 => match x with
  | .str s => (am env h1).bind (uFind (.str s))
  | _ => .bad
def rFind : V → List V → Hp → VK → Prop := fun x xs H Q => ∃ (a b : Str) (i : Int), x = .str a ∧ xs = [.str b, .int i] ∧ Q (.int (Txt.find3 a b i)) H
theorem find_to {Q : VK} (q : tM K W (mFind mo am) σ H Q) : tBM K "str" rFind (tM K W mo) (aM K W am) σ H Q := by
  obtain ⟨g, env, h, hr, er, w⟩ := q
  refine ⟨g, env, h, hr, er, wE w fun u h1 v H1 g1 l1 hr1 rv w1 => ?_⟩
  split at w1
  · rename_i s
    cases rv
    refine ⟨rfl, g1, env, h1, hr1, er.mono l1, wA w1 fun us h2 vs H2 g2 l2 hr2 rvs w2 => ?_⟩
    unfold uFind at w2
    split at w2
    · rename_i s' c i e1
      cases e1
      split at w2
      · rename_i z
        cases rvs with
        | cons r1 r2 =>
        cases r2 with
        | cons r3 r4 =>
        cases r4
        cases r1
        cases r3
        refine ⟨_, _, _, rfl, rfl, ?_⟩
        have e : ((i.toNat : Nat) : Int) = i := Int.toNat_of_nonneg z
        have := find3_one s c i.toNat
        rw [e] at this
        rw [show ([c].toArray : Array Nat) = #[c] from rfl, this]
        exact w2 _ _ g2 (Le.refl _) hr2 (.int _)
      · exact w2.elim
    · exact w2.elim
  · exact w1.elim
theorem se_find (ho : PE X o (tM X.K W mo)) (ha : PA X (e :: es) (aM X.K W am))
    (hfew : ((backTo cpos (starEach (e :: es) X.env)).all (fun x => !x.1) && (backToKw cpos (keywordEach [] X.env)).all (fun x => x.1.isSome)
      && decide ((e :: es).length + ([] : List Keyword).length + (if ([] : List Keyword).isEmpty then 0 else 1) < 30)) = true := by rfl)
    (hline : (apos.endLine == cpos.line) = true := by rfl) (hs : starEach (e :: es) X.env = (false, eval e X.env) :: starEach es X.env := by rfl) (hplain : (backTo cpos (starEach es X.env)).any (·.1) = false := by rfl)
    (hbase : attributeBase o "find" X.env (eval o X.env) = eval o X.env := by rfl) : PE X (.Call (.Attribute o "find" apos) (e :: es) [] cpos) (tM X.K W (mFind mo am)) :=
  PE.weak (pe_bm PySem.F.plainAttrs_str PySem.F.slot_str_find PySem.F.type_str_find mt_find3 ho ha hbase hfew hline hs hplain) fun σ H Q q => find_to q
end
end Q

set_option Elab.async false
set_option linter.all false
set_option maxRecDepth 100000
set_option maxHeartbeats 2000000
/-! QH: the head by one kernel run; its facts are tests of the part of the heap that the names reach. -/
namespace QH
open PySem PySem.Spec PyProof.Rows L2 Q
abbrev Ts := Fr → Bool
/-- one def, by its statement -/
def dd (at_ : Str × Option Str) (x qual : Str) (st : Stmt) : He.DefD := { at_ := at_, name := x, qual := qual, params := defArgs st, body := defBody st, scope := defScope st }
/-- level by level what the names reach -/
def lvl (g : Addr → Option Obj) : Nat → List Addr → List Addr
  | 0, as => as
  | n + 1, as => as ++ lvl g n (as.flatMap fun a => ((g a).map He.refsD).getD [])
def obs (ts : List Ts) (fn : List He.DefD) (K : Fr) : He.AlD := ((ts.all fun t => t K) && fn.all fun d => d.ok K, fn.map fun d => He.fnW K d.at_)
def obsAt (n : Nat) (ts : List Ts) (fn : List He.DefD) (g : Addr → Option Obj) : He.AlD := obs ts fn (He.frG g (lvl g n [mainGlobals]))
def Says (ts : List Ts) (fn : List He.DefD) (K : Fr) : Prop := obs ts fn K = He.valD fn
def hook (n : Nat) (ts : List Ts) (fn : List He.DefD) : PySem.W.Hook :=
  { α := He.AlD, obs := fun s => obsAt n ts fn s.heap.get?, val := fun _ => He.valD fn, says := fun _ h => ∃ K : Fr, K.In h ∧ Says ts fn K,
    of := fun _ _ z => ⟨_, He.frG_in, z⟩, keeps := fun _ _ _ y k => y.elim fun K y => ⟨K, PySem.W.Frag.In.keeps y.1 k, y.2⟩ }
section
variable {ts : List Ts} {fn : List He.DefD} {K : Fr} {h : Heap} {mg : Str → Option Value}
theorem Says.t (c : Says ts fn K) (i : Nat) {t : Ts} (z : ts[i]? = some t := by rfl) : t K = true := by
  have c1 : ((ts.all fun t => t K) && fn.all fun d => d.ok K) = true := congrArg Prod.fst c
  exact List.all_eq_true.mp (Bool.and_eq_true_iff.mp c1).1 t (List.mem_of_getElem? z)
theorem Says.f (c : Says ts fn K) (i : Nat) {a : Str × Option Str} {x q : Str} {st : Stmt} (z : fn[i]? = some (dd a x q st) := by rfl) : ∃ fd, Fun K x q st (He.fAd K a) fd := by
  have c1 : ((ts.all fun t => t K) && fn.all fun d => d.ok K) = true := congrArg Prod.fst c
  have c2 := List.all_eq_true.mp (Bool.and_eq_true_iff.mp c1).2 _ (List.mem_of_getElem? z)
  have e : fn.map (fun d => He.fnW K d.at_) = fn.map He.DefD.val := congrArg Prod.snd c
  have e1 := congrArg (fun l => l[i]?) e
  simp only [List.getElem?_map, z, Option.map_some] at e1
  obtain ⟨fd, F⟩ := He.DefD.funD (Option.some.inj e1) c2
  obtain ⟨oc, od, dV, kV, doc, pm, an, cdv, ct, osl, r, l, cd, hd, _⟩ := F.ex
  rcases hd with ⟨_, rfl⟩ | ⟨hd, _⟩
  · exact ⟨fd, ⟨oc, od, kV, doc, pm, an, cdv, ct, osl, r, l, cd⟩, F.kp⟩
  · exact absurd rfl hd
/-! ### tests -/
def tGlo (x : Str) : Ts := fun K => (He.Fa.glo x).ok K
def tFree (x : Str) : Ts := fun K => (He.Fa.free x).ok K
def tInt (x : Str) (i : Int) : Ts := fun K => (He.Fa.int x i).ok K
def tStr (x : Str) (z : List Nat) : Ts := fun K => (He.Fa.str x ⟨z.toArray⟩).ok K
def tCls (x : Str) : Ts := fun K => (He.Fa.cls x).ok K
def tNoat (x f : Str) : Ts := fun K => (He.Fa.noat x f).ok K
def tMeth (x m : Str) : Ts := fun K => (He.Fa.meth x m).ok K
def tMkr (x : Str) : Ts := fun K => (He.Fa.mkr x).ok K
def tExc (x : Str) : Ts := fun K => (He.Fa.exc x).ok K
def tExm (x y : Str) : Ts := fun K => (He.Fa.exm x y true).ok K
/-- a tuple of texts -/
def relS : List (List Nat) → List Value → Bool
  | [], [] => true
  | s :: ss, .str t _ :: us => decide (t = ⟨s.toArray⟩) && relS ss us
  | _, _ => false
def tTup (x : Str) (ss : List (List Nat)) : Ts := fun K => match PySem.W.nsIn K mainGlobals x with
  | some (some (.ref a)) => (match K.lookup a with
    | some ⟨.type c, none, .seq its _, _⟩ => decide (c = "tuple") && (decide (its.size ≤ sizeLine) && relS ss its.toList)
    | _ => false)
  | _ => false
def tEc (x : Str) : Ts := fun K => He.eqO (PySem.W.findIn K (.ref (He.ga K x)) "__getattribute__") (some (some (.builtin "BaseException.__getattribute__"))) && (He.eqO (PySem.W.findIn K (.ref (He.ga K x)) "__getattr__") (some none) &&
  (decide (PySem.W.subIn K (.ref (He.ga K x)) (.type "BaseException") = some true) && (PySem.W.hasDictIn K (He.ga K x) && (He.eqO (PySem.W.findIn K (.ref (He.ga K x)) "__class__") (some (some (.builtin "object.__class__"))) &&
  (He.eqO (PySem.W.specialIn K (.builtin "object.__class__") "__get__") (some (some (.builtin "getset_descriptor.__get__"))) && (decide (PySem.W.takesIn K (.builtin "object.__class__") = some true) && decide (PySem.W.mroIn K (He.ga K x) (.type "object") = some true)))))))
def tKitG (x y : Str) (b : Bool) : Ts := fun K => decide (PySem.W.kitOne K (.ref (He.ga K x)) (.ref (He.ga K y)) = some b)
def tKitT (x : Str) (c : String) (b : Bool) : Ts := fun K => decide (PySem.W.kitOne K (.ref (He.ga K x)) (.type c) = some b)
theorem glo (X : K.In h) (G : h.Ns mainGlobals mg) {x : Str} (c : tGlo x K = true) : mg x = some (.ref (He.ga K x)) := He.glo_ok X G c
theorem free (X : K.In h) (G : h.Ns mainGlobals mg) {x : Str} (c : tFree x K = true) : mg x = none := He.free_ok X G c
theorem int (X : K.In h) (G : h.Ns mainGlobals mg) {x : Str} {i : Int} (c : tInt x i K = true) : ∃ t, mg x = some (.int i t) := He.int_ok X G c
theorem str (X : K.In h) (G : h.Ns mainGlobals mg) {x : Str} {z : List Nat} (c : tStr x z K = true) : ∃ t, mg x = some (.str ⟨z.toArray⟩ t) := He.str_ok X G c
theorem cls {x : Str} (c : tCls x K = true) : Cls K (He.ga K x) := He.cls_ok c
theorem noat {x f : Str} (c : tNoat x f K = true) : NoAttr K (He.ga K x) f := He.noat_ok c
theorem meth {x m : Str} (c : tMeth x m K = true) : Meth K (He.ga K x) m (He.fAd K (x, some m)) := He.meth_ok c
theorem mkr {x : Str} (c : tMkr x K = true) : Mk K (He.ga K x) (He.fAd K (x, some "__init__")) := He.mkr_ok c
theorem exc (X : K.In h) (G : h.Ns mainGlobals mg) {x : Str} (c : tExc x K = true) (d : tGlo x K = true) : XC K mg x (He.ga K x) :=
  have ⟨c1, c2, c3, c4⟩ := He.exc_ok c
  ⟨c1, glo X G d, c2, c3, c4⟩
theorem exm {x y : Str} (c : tExm x y K = true) : PySem.W.exmOne K (.ref (He.ga K x)) (.ref (He.ga K y)) = some true := He.exm_ok c
theorem relS_ok : ∀ {ss : List (List Nat)} {us : List Value}, relS ss us = true → Vals ((ss.map fun s => (⟨s.toArray⟩ : Str)).map V.str) us
  | [], [], _ => .nil
  | [], _ :: _, z => nomatch z
  | _ :: _, [], z => nomatch z
  | s :: ss, u :: us, z => by
    cases u with
    | str t k =>
      obtain ⟨z1, z2⟩ := Bool.and_eq_true_iff.mp (show (decide (t = ⟨s.toArray⟩) && relS ss us) = true from z)
      exact .cons ⟨k, by rw [of_decide_eq_true z1]⟩ (relS_ok z2)
    | _ => cases z
theorem tup (X : K.In h) (G : h.Ns mainGlobals mg) {x : Str} {ss : List (List Nat)} (c : tTup x ss K = true) : ∃ a, mg x = some (.ref a) ∧ KT K a ((ss.map fun s => (⟨s.toArray⟩ : Str)).map V.str) := by
  unfold tTup at c
  split at c
  · rename_i a e
    refine ⟨a, PySem.W.mg_of X G e, ?_⟩
    split at c
    · rename_i cn its n sl e1
      obtain ⟨c1, c2⟩ := Bool.and_eq_true_iff.mp c
      obtain ⟨c3, c4⟩ := Bool.and_eq_true_iff.mp c2
      exact ⟨_, its, n, e1, congrArg Value.type (of_decide_eq_true c1), rfl, rfl, of_decide_eq_true c3, relS_ok c4⟩
    · cases c
  · cases c
theorem ec {x : Str} (c : tEc x K = true) : ExcC K (He.ga K x) := by
  unfold tEc at c
  simp only [Bool.and_eq_true] at c
  obtain ⟨c1, c2, c3, c4, c5, c6, c7, c8⟩ := c
  exact ⟨He.eqO_ok c1, He.eqO_ok c2, of_decide_eq_true c3, c4, He.eqO_ok c5, He.eqO_ok c6, of_decide_eq_true c7, of_decide_eq_true c8⟩
theorem kitG {x y : Str} {b : Bool} (c : tKitG x y b K = true) : PySem.W.kitOne K (.ref (He.ga K x)) (.ref (He.ga K y)) = some b := of_decide_eq_true c
theorem kitT {x : Str} {n : String} {b : Bool} (c : tKitT x n b K = true) : PySem.W.kitOne K (.ref (He.ga K x)) (.type n) = some b := of_decide_eq_true c
/-- what holds of each of some things -/
theorem all1 {p : Addr → Prop} {a : Addr} {as : List Addr} (z : p a) (r : ∀ D ∈ as, p D) : ∀ D ∈ a :: as, p D := fun D m => (List.mem_cons.mp m).elim (fun e => e ▸ z) (r D)
theorem all0 {p : Addr → Prop} : ∀ D ∈ ([] : List Addr), p D := fun _ m => nomatch m
end
/-- the end of a law whose head is told by tests -/
theorem walk {l : PySem.W.OpenLaw} {k : Nat} {q : Program} {loose : List Str} {XP : (Str → Option Value) → Heap → Prop} {ts : List Ts} {fn : List He.DefD} {n : Nat} {d : DefRec} {x : Str}
    (hn : l.most = some 63) (hdf : d.params.defaults = []) (hr : Room k callerA)
    (F : ∀ (w : World) (mg : Str → Option Value) (fa : Addr) (h : Heap) (K : Fr), K.In h → h.Ns mainGlobals mg → mg d.name = some (.ref fa) → Says ts fn K →
      ∃ fd : FuncData, (∀ (s : Shared) (u : Value), BindsTo s fd ⟨[u], []⟩ [(x, u)]) ∧ ∀ base : Heap, K.In base → base.Ns mainGlobals mg → FnOk l.prog w K mg base (L2.CX l.prog w) k fa fd [x] (spEnd K)) :
    PySem.W.WalkO q loose XP (hook n ts fn).says l.row.toRowW d [] (fun f vs => PySem.call f vs) := by
  refine Att.attach_call hn hdf ?_
  intro w s0 s1 mg mb fa o p1 p2 p3 a vs ns G Y ho hd hc hm hobj hi hl hg
  obtain ⟨K, KX, c⟩ := Y
  obtain ⟨fd, hb, hF⟩ := F w mg fa _ K KX G.T.g hm c
  refine law_call KX G.T.g G.T.b G.T.builtins G.T.nolimit hg hobj hi (Nat.le_trans hl (by decide)) hr hF hb (fun H _ hS => ⟨a, ns, rfl, hl, hS, fun _ => rfl⟩) fun H e s' z => ?_
  obtain ⟨_, _, _, _, _, _, _, _, _, _, _, _, z⟩ := z
  exact z
end QH

set_option Elab.async false
set_option linter.all false
set_option maxRecDepth 100000
set_option maxHeartbeats 1000000
/-! QO: a def of the text with the cell __class__ in its closure, as a def that keeps a promise. -/
namespace Q
open PySem PySem.Spec PyProof.Rows L2 TL NdefX
section
variable {CX : CXT} {P : Program} {w : World} {K : PySem.W.Frag} {mg : Str → Option Value} {base : Heap} {N ps : List Str} {F : NF} {f c C : Addr} {k : Nat} {sp : Sp} {doc pm ctv oc oc2 : Value} {od od2 : Option Addr} {osl osl2 : Array (Option Value)} {y0 : Str}
/-- the same, the body run at its own code (super() asks for it) -/
theorem fnok_at (lk : K.lookup f = some ⟨oc, od, .func (F.fd doc pm ctv), osl⟩) (hcd : PySem.W.codeIn K (.ref F.c) F.qual = true) (S : NScope N ps [y0] F.scope) (hcl : F.cl = [(y0, c)])
    (lc : K.lookup c = some ⟨oc2, od2, .cell (some (.ref C)), osl2⟩) (len : ∀ vs H Q E, sp vs H Q E → vs.length = ps.length)
    (hbody : ∀ (A : Around) (outer : List Env) (s : Shared) (H : Hp) (vs : List V) (Q : VK) (E : XK) (s1 : Shared), Room k (A.deeper (envF F f s.heap.objs.size)) → sp vs H Q E → Inv (ncx CX P w K mg base N F f A outer s H E) [] (startF N vs [some (.ref C)]) H s1 →
      PySem.wpAt (model P w) (A.deeper (envF F f s.heap.objs.size)) (.func F.body (envF F f s.heap.objs.size)) (execs F.body (envF F f s.heap.objs.size)) (SP (ncx CX P w K mg base N F f A outer s H E) [] { nx := fun _ H' => Q .non H', rt := Q }) (ncx CX P w K mg base N F f A outer s H E).xe s1) :
    FnOk P w K mg base CX (k + 1) f (F.fd doc pm ctv) ps sp := by
  refine ⟨len, fun A outer s H args us vs Q E hr e0 hb r hsp => ?_⟩
  have KX : K.In s.heap := e0.mod.kin.keeps fun b o e => (e0.bs b o e).1
  have hl := len _ _ _ _ hsp
  have lim : s.heap.NoLimit := e0.mod.nolimit.keeps fun b o e => (e0.bs b o e).1
  have C0 : CellsAt F.cl [y0] [some (.ref C)] s.heap H := by
    have hc : H c = none := (e0.bs c _ (e0.mod.kin _ _ lc)).2
    have ic : s.heap.IsCell c (some (.ref C)) := ⟨_, KX _ _ lc, rfl⟩
    rw [hcl]
    refine ⟨rfl, fun y d h => ?_, fun x y d h1 h2 => ?_, fun i y h => ?_⟩
    · simp only [List.lookup_cons] at h
      split at h
      · cases h; exact ⟨hc, _, ic⟩
      · cases h
    · simp only [List.lookup_cons] at h1 h2
      split at h1
      · split at h2
        · rename_i _ a _ b; rw [beq_iff_eq] at a b; rw [a, b]
        · cases h2
      · cases h1
    · cases i with
      | zero =>
        cases h
        refine ⟨c, by simp [List.lookup_cons], fun v hv => ?_⟩
        cases hv
        exact ⟨.ref C, rfl, ic⟩
      | succ i => cases h
  refine codeAny_call_function hr.depth (KX _ _ lk) rfl S.co S.gen rfl (PySem.W.codeRec_of KX hcd) (hb _ _ _ _ ?_)
  refine wpAny_newFunctionEnv S.nocell (fun ⟨n, _⟩ hy => S.par n (List.of_mem_zip hy).1) (fun h₁ hns hsb => ⟨lim.fresh _ hsb, ?_⟩) S.kind
  show codeAny _ _ (.func F.body (envF F f s.heap.objs.size)) _ _
  refine PySem.ks_codeAny_funcAt ?_
  have kp : ∀ b o, s.heap.get? b = some o → h₁.get? b = some o := fun b o e => hsb.extBut b o (Nat.ne_of_lt (Heap.lt_size e)) (Heap.get?_push_of_some _ e)
  have I : Inv (ncx CX P w K mg base N F f A outer s H E) [] (startF N vs [some (.ref C)]) H { s with heap := h₁, toks := s.toks + (ps.zip us).length } := inv_startN S hr.hd e0 hl r C0 hns kp
  refine PySem.ks_wpAt_mono (hbody A outer s H vs Q E _ (hr.deeper _) hsp I) (fun fl s' hs => ?_) fun e s' hs => hs
  have fin : ∀ {σ' : L2.St} {H' : Hp} {v : V} {u : Value}, Inv (ncx CX P w K mg base N F f A outer s H E) [] σ' H' s' → L2.RelV v u → Q v H' → CE outer P w H s Q u s' :=
    fun {σ' H' v u} J rv q => ⟨v, H', J.os, J.bare, J.base, J.hok, rv, q⟩
  cases fl with
  | ret u =>
    obtain ⟨v, σ', H', J, rv, q⟩ := hs
    exact fin J rv q
  | next =>
    obtain ⟨σ', H', J, q⟩ := hs
    exact fin (v := V.non) (u := Value.none) J rfl q
  | brk =>
    obtain ⟨_, _, _, q⟩ := hs
    exact False.elim q
  | cont =>
    obtain ⟨_, _, _, q⟩ := hs
    exact False.elim q
end
end Q
namespace PySem
open PySem PySem.Calls PyProof.Rows
section
variable {prog : Program} {w : World} {A : Around} {c : Code} {E : Value → Shared → Prop} {s : Shared} {env : Env}
/-- a statement e, at the running code -/
theorem qo_expr {e : Expr} {pos : Pos} {Q : Flow → Shared → Prop} (h : PySem.wpAt (model prog w) A c (eval e env) (fun _ => Q .next) E s)
    (hi : interactive env = false := by rfl) (hs : swapsWith e none pos.line env = pure false := by rfl) : PySem.wpAt (model prog w) A c (exec (.Expr e pos) env) Q E s := by
  rw [exec_Expr env e pos hi hs]
  exact wpAt_bind (wpAt_of_wpAny (wpAny_standAt (wpAt_bind (PySem.wpAt_mono h (fun v s' h' => wpAt_of_wpAny (wpAny_dropValue h')) fun _ _ x => x))))
/-- o.m(..), o looked at as the base of a field (super() is one), at the running code -/
theorem qo_call {o : Expr} {name : Str} {apos pos : Pos} {args : List Expr} {pl : Sem Bool} {Q : Value → Shared → Prop}
    (h : PySem.wpAt (model prog w) A c (attributeBase o name env (eval o env)) (fun ov s₁ => wpAny (model prog w) A (getMethod ov name pl) (fun fx s₂ => wpAny (model prog w) A (callWith pos fx.1 fx.2 (backTo pos (starEach args env)) []) Q E s₂) E s₁) E s)
    (he : eval (.Call (.Attribute o name apos) args [] pos) env = (do
      let ov ← attributeBase o name env (eval o env)
      standAt apos.atName
      let (f, first) ← holding [ov] (getMethod ov name pl)
      callWith pos f first (backTo pos (starEach args env)) [])) :
    PySem.wpAt (model prog w) A c (eval (.Call (.Attribute o name apos) args [] pos) env) Q E s := by
  rw [he]
  refine wpAt_bind (PySem.wpAt_mono h (fun ov s₁ h₁ => wpAt_of_wpAny (wpAny_bind (wpAny_standAt (wpAny_bind (wpAny_holding (wpAny_mono h₁ (fun fx s₂ h₂ => ?_) fun _ _ x => x)))))) fun _ _ x => x)
  exact h₂
/-- the statements, the first one at the running code -/
theorem qo_execs {st : Stmt} {rest : List Stmt} {Q : Flow → Shared → Prop} (h : PySem.wpAt (model prog w) A c (exec st env) (fun f s1 => f = .next ∧ wpAny (model prog w) A (execs rest env) Q E s1) E s) : PySem.wpAt (model prog w) A c (execs (st :: rest) env) Q E s := by
  rw [execs_cons]
  refine wpAt_bind (PySem.wpAt_mono h (fun f s1 h1 => ?_) fun _ _ x => x)
  obtain ⟨rfl, h1⟩ := h1
  exact wpAt_of_wpAny h1
end
end PySem
namespace Q
open PySem PySem.Spec PyProof.Rows L2 TL NdefX
/-- super() as the base of a field, in a def with the cell __class__, whose first parameter is an exception in the making -/
theorem at_super {X : Cx} {pins : List (Addr × Obj)} {σ : L2.St} {H : Hp} {s : Shared} {E : Value → Shared → Prop} {Q : Value → Shared → Prop} {body : List Stmt} {p0 p1 : Pos} {attr : Str} {whole : Sem Value} {f cc c a C D : Addr} {oc : Value} {od : Option Addr} {osl : Array (Option Value)} {fd : FuncData} {ar : Arg} {vs : Array Value} {file : Str} {tf : Tok} {ocode oD : Obj} {cl2 : Value} {od2 : Option Addr} {osl2 : Array (Option Value)} {cdD : ClassData} {m : Str → Option Value}
    (I : Inv X pins σ H s) (hks : X.env.kindOf "super" = some .globalImplicit) (hkc : X.env.kindOf "__class__" = some .free) (hka : X.env.kindOf ar.arg = some .local) (hat : (attr == ("__class__" : Str)) = false) (hfu : X.env.func = some f)
    (hf : X.K.lookup f = some ⟨oc, od, .func fd, osl⟩) (hp : (fd.params.posonlyargs ++ fd.params.args).head? = some ar) (hco : X.env.code = .ref cc) (hcc : X.K.lookup cc = some ocode) (hoc : ocode.data = .fields vs) (hvs : vs[2]? = some (.str file tf))
    (hfile : ((X.prog.main.file : Str) == file) = true) (htop : (X.prog.main.scope.names.lookup ("super" : Str)).isSome = false) (hm : X.mg "super" = none) (hboot : bootBuiltins "super" = some (.type "super"))
    (hcl : X.env.cells.lookup ("__class__" : Str) = some c) (hcell : X.K.lookup c = some ⟨cl2, od2, .cell (some (.ref D)), osl2⟩) (hD : X.K.lookup D = some oD) (hDd : oD.data = .cls cdD)
    (hns : s.heap.Ns X.env.locals m) (hv : m ar.arg = some (.ref a)) (he : H a = some (exo a C none)) (hsub : PySem.W.mroIn X.K C (.ref D) = some true)
    (h : ∀ so h', h'.get? so = some ({ cls := .type "super", dict := none, data := .fields #[.ref D, .ref a, .ref C], slots := #[] } : Obj) → so = s.heap.objs.size → (∀ y o, s.heap.get? y = some o → h'.get? y = some o) → Q (.ref so) { s with heap := h' }) :
    PySem.wpAt (model X.prog X.w) X.A (.func body X.env) (attributeBase (.Call (.Name "super" p0) [] [] p1) attr X.env whole) Q E s := by
  have KX := I.kIn
  have hk : X.env.scope.kind = .function := I.ok.kind
  refine PySem.ks_wpAt_super_base hks hkc hat hfu (KX _ _ hf) rfl hp hco (KX _ _ hcc) hoc hvs hfile htop ?_
  obtain ⟨mb, h1, h2⟩ := I.mod.blt
  refine PySem.W.ks_loadName_global hk hks (Calls.loadGlobal_builtin (by rw [I.ok.glob]; exact I.mod.glob.keeps I.bk) hm (by rw [I.ok.blt]; exact h1.keeps I.bk) ((h2 _ (by decide +kernel)).trans hboot) ⟨rfl, ?_⟩)
  refine wpAny_loadName_free hk hkc hcl ⟨_, KX _ _ hcell, rfl⟩ ?_
  refine wpAny_loadName_local hk hka hns hv ?_
  refine PySem.ks_wpAny_isType_cls (KX _ _ hD) hDd ⟨rfl, ?_⟩
  obtain ⟨t1, ho⟩ := exo_at I.hok he
  obtain ⟨hh, g, d, t, os⟩ := s
  refine PySem.ks_wpAny_call_super (KX _ _ hD) hDd ho rfl (fun c e => by cases e) (PySem.W.looks_mroIn KX hsub) (fun h' e k => ?_)
  exact h _ h' e rfl k
end Q
namespace Q
open PySem PySem.Spec PyProof.Rows L2 TL NdefX
/-- the bound __init__ of a base class called -/
theorem at_mw {X : Cx} {pins : List (Addr × Obj)} {σ : L2.St} {H : Hp} {s : Shared} {E : Value → Shared → Prop} {Q : Value → Shared → Prop} {u a C : Addr} {us : List Value} (T : OexC X.K C) (I : Inv X pins σ H s)
    (hu : s.heap.get? u = some (PySem.W.kxs_mw "ValueError.__init__" a)) (e : H a = some (exo a C none)) (hz : us.length ≤ sizeLine) (h : ∀ s', Inv X pins σ H s' → Q .none s') :
    wpAny (model X.prog X.w) X.A (call (.ref u) us) Q E s := by
  obtain ⟨nm, q, N, bs, bm, sn, sub, ab, col, dd, k0, k1, k2, k3, k5, hC, hbm⟩ := T.cls
  obtain ⟨t1, ho⟩ := exo_at I.hok e
  have hCs := I.kIn _ _ hC
  have eu : upd H a (exo a C none) = H := by
    funext b
    by_cases hb : b = a
    · rw [hb, upd_same, e]
    · rw [upd_ne hb]
  have fin : ∀ h' t2, (∀ b o, b ≠ a → s.heap.get? b = some o → h'.get? b = some o) → h'.get? a = some ({ cls := .ref C, dict := none, data := .fields #[.ref t2, .none, .none, .none, .bool false, .none] } : Obj) → Q .none { s with heap := h' } := fun h' t2 k hx => by
    have J := I.write (t' := s.toks) (x := a) (e := a) (o := exo a C none) (by rw [e]; exact True.intro) (.inl rfl) k ⟨_, hx⟩ (exo_ok hx)
    rw [eu] at J
    exact h _ J
  obtain ⟨hh, g, d, tk, os⟩ := s
  have F := PySem.F.excBase_ValueError
  refine wpAny_call (codeAny_of_tree ?_)
  show wpAny _ X.A.in1 (callAny (.ref u) ⟨us, []⟩) _ _ _
  simp only [callAny]
  refine wpAny_bind (wpAny_load hu ?_)
  simp only [PySem.W.kxs_mw, show (Value.type "method-wrapper" == Value.type "method" || Value.type "method-wrapper" == Value.type "builtin_function_or_method" || Value.type "method-wrapper" == Value.type "method-wrapper") = true by decide, if_true]
  refine PySem.W.KFB.if_so (by decide) ?_
  refine wpAny_bind (PySem.W.check_bound_init F.toExcCallFacts hCs ho rfl ?_)
  refine wpAny_bind (wpAny_pure (wpAny_pure ?_))
  refine ⟨plainId_quiet F.init.plain _, codeAny_builtin F.initEntry ?_⟩
  exact PySem.W.exc_init_tree (cls := .ref C) (t0 := t1) (dv := none) (c2 := .none) (c3 := .none) (b4 := .bool false) ho hz fun h' k hx _ => fin h' _ k hx
end Q
namespace Q
open PySem PySem.Spec PyProof.Rows L2 TL NdefX
/-- super().__init__(e, ..) -/
theorem at_superinit {X : Cx} {pins : List (Addr × Obj)} {σ : L2.St} {H : Hp} {s : Shared} {Q : VK} {body : List Stmt} {p0 p1 apos pos : Pos} {e : Expr} {es : List Expr} {ta : TA} {f cc c a C D : Addr} {oc : Value} {od : Option Addr} {osl : Array (Option Value)} {fd : FuncData} {ar : Arg} {vs : Array Value} {file : Str} {tf : Tok} {ocode oD : Obj} {cl2 : Value} {od2 : Option Addr} {osl2 : Array (Option Value)} {cdD cdC : ClassData} {m : Str → Option Value} {pl : Sem Bool}
    (T : OexC X.K C) (I : Inv X pins σ H s) (hks : X.env.kindOf "super" = some .globalImplicit) (hkc : X.env.kindOf "__class__" = some .free) (hka : X.env.kindOf ar.arg = some .local) (hfu : X.env.func = some f)
    (hf : X.K.lookup f = some ⟨oc, od, .func fd, osl⟩) (hp : (fd.params.posonlyargs ++ fd.params.args).head? = some ar) (hco : X.env.code = .ref cc) (hcc : X.K.lookup cc = some ocode) (hoc : ocode.data = .fields vs) (hvs : vs[2]? = some (.str file tf))
    (hfile : ((X.prog.main.file : Str) == file) = true) (htop : (X.prog.main.scope.names.lookup ("super" : Str)).isSome = false) (hm : X.mg "super" = none) (hboot : bootBuiltins "super" = some (.type "super"))
    (hcl : X.env.cells.lookup ("__class__" : Str) = some c) (hcell : X.K.lookup c = some ⟨cl2, od2, .cell (some (.ref D)), osl2⟩) (hD : X.K.lookup D = some oD) (hDd : oD.data = .cls cdD)
    (hns : s.heap.Ns X.env.locals m) (hv : m ar.arg = some (.ref a)) (he : H a = some (exo a C none)) (hsub : PySem.W.mroIn X.K C (.ref D) = some true)
    (hC : PySem.W.clsIn X.K C = some cdC) (hal : PySem.W.alongIn X.K "__init__" ((cdC.mro.dropWhile (· != .ref D)).drop 1) = some (some (.builtin "ValueError.__init__"))) (hB : PySem.W.subIn X.K (.ref C) (.type "ValueError") = some true) (hop : PySem.W.nsIn X.K cStatics "thirdparty.any" = some none)
    (ha : PA X (e :: es) ta) (h : ta σ H fun vs H1 => vs.length ≤ 1000 ∧ H1 a = some (exo a C none) ∧ Q .non H1)
    (hev : eval (.Call (.Attribute (.Call (.Name "super" p0) [] [] p1) "__init__" apos) (e :: es) [] pos) X.env = (do
      let ov ← attributeBase (.Call (.Name "super" p0) [] [] p1) "__init__" X.env (eval (.Call (.Name "super" p0) [] [] p1) X.env)
      standAt apos.atName
      let (f, first) ← holding [ov] (getMethod ov "__init__" pl)
      callWith pos f first (backTo pos (starEach (e :: es) X.env)) []))
    (hse : starEach (e :: es) X.env = (false, eval e X.env) :: starEach es X.env) (hpl : (backTo pos (starEach es X.env)).any (·.1) = false) :
    PySem.wpAt (model X.prog X.w) X.A (.func body X.env) (eval (.Call (.Attribute (.Call (.Name "super" p0) [] [] p1) "__init__" apos) (e :: es) [] pos) X.env) (EP X pins σ Q) X.xe s := by
  refine PySem.qo_call (pl := pl) ?_ hev
  refine at_super I hks hkc hka rfl hfu hf hp hco hcc hoc hvs hfile htop hm hboot hcl hcell hD hDd hns hv he hsub (fun so h' hso hsz kk => ?_)
  have J := I.kept (t' := s.toks) kk
  obtain ⟨t1, ho⟩ := exo_at J.hok he
  obtain ⟨hh, g, d, tk, os⟩ := s
  have hI : PySem.W.Looks (model X.prog X.w) h' (isInstance (.ref a) (.type "ValueError")) true := by
    have IA : PySem.W.InstAt h' a ({ cls := .ref C, dict := none, data := .fields #[.ref t1, .none, .none, .none, .bool false, .none] } : Obj) C none := ⟨ho, rfl, rfl, trivial⟩
    exact IA.type.andThen (PySem.W.looks_subIn J.kIn hB)
  have hxC : a ≠ C := by
    have IA : PySem.W.InstAt h' a ({ cls := .ref C, dict := none, data := .fields #[.ref t1, .none, .none, .none, .bool false, .none] } : Obj) C none := ⟨ho, rfl, rfl, trivial⟩
    exact PySem.W.ks_ne J.kIn IA hC
  refine PySem.W.kxs_getMethod PySem.W.kxs_ValueError hso (PySem.W.looks_opaque J.kIn hop) (l₀ := cdC.mro) (fun A Q E s k q => wpAny_bind ((PySem.W.looks_clsIn J.kIn hC) A _ E s k (wpAny_pure q))) rfl J.kIn hal hI hxC rfl ?_
  have J2 := J.kept (t' := tk + 1) (h' := h'.push (PySem.W.kxs_mw "ValueError.__init__" a)) (fun _ _ q => Heap.get?_push_of_some _ q)
  have hn := J.hok.fresh (Nat.le_refl h'.objs.size)
  have J3 : Inv X (pins ++ [(h'.objs.size, PySem.W.kxs_mw "ValueError.__init__" a)]) σ H _ := J2.pins_of fun p hp => (List.mem_append.mp hp).elim (fun z => J2.pin p (List.mem_append_right _ z)) fun z => by
    rw [List.mem_singleton.mp z]
    exact ⟨Heap.get?_push_at rfl rfl, hn, Ne.symm (Nat.ne_of_lt J.lt), J.nofs (Nat.le_refl _), fun v e => by cases e⟩
  rw [hse]
  refine PySem.W.kxs_callWith (i := "ValueError.__init__") (x := a) (by show (false || (backTo pos (starEach es X.env)).any (·.1)) = false; rw [hpl]; rfl) (PySem.Calls.evalArgs_plain ?_)
  have r := ha.run pos _ _ σ H _ J3 h
  rw [hse] at r
  refine thn r fun us s1 ⟨vs, H1, I1, r1, hz, ea, q⟩ => ?_
  have hu := (I1.pin (h'.objs.size, PySem.W.kxs_mw "ValueError.__init__" a) (List.mem_append_right _ (List.mem_append_right _ (List.mem_singleton.mpr rfl)))).1
  refine ⟨hu, ?_⟩
  refine at_mw T I1 hu ea (by show us.length ≤ sizeLine; rw [← Paired.length r1, sizeLine_eq]; omega) fun s' I2 => ⟨.non, H1, I2.unpinned, rfl, q⟩
end Q
namespace Q
open PySem PySem.Spec PyProof.Rows L2 TL NdefX
/-- the body: super().__init__(e, ..), then one statement more -/
theorem at_body {X : Cx} {pins : List (Addr × Obj)} {σ : L2.St} {H : Hp} {s : Shared} {D0 : Ends} {t2 : TS} {st2 : Stmt} {pos2 : Pos} {body : List Stmt} {p0 p1 apos pos : Pos} {e : Expr} {es : List Expr} {ta : TA} {f cc c a C D : Addr} {oc : Value} {od : Option Addr} {osl : Array (Option Value)} {fd : FuncData} {ar : Arg} {vs : Array Value} {file : Str} {tf : Tok} {ocode oD : Obj} {cl2 : Value} {od2 : Option Addr} {osl2 : Array (Option Value)} {cdD cdC : ClassData} {m : Str → Option Value} {pl : Sem Bool}
    (T : OexC X.K C) (I : Inv X pins σ H s) (hks : X.env.kindOf "super" = some .globalImplicit) (hkc : X.env.kindOf "__class__" = some .free) (hka : X.env.kindOf ar.arg = some .local) (hfu : X.env.func = some f)
    (hf : X.K.lookup f = some ⟨oc, od, .func fd, osl⟩) (hp : (fd.params.posonlyargs ++ fd.params.args).head? = some ar) (hco : X.env.code = .ref cc) (hcc : X.K.lookup cc = some ocode) (hoc : ocode.data = .fields vs) (hvs : vs[2]? = some (.str file tf))
    (hfile : ((X.prog.main.file : Str) == file) = true) (htop : (X.prog.main.scope.names.lookup ("super" : Str)).isSome = false) (hm : X.mg "super" = none) (hboot : bootBuiltins "super" = some (.type "super"))
    (hcl : X.env.cells.lookup ("__class__" : Str) = some c) (hcell : X.K.lookup c = some ⟨cl2, od2, .cell (some (.ref D)), osl2⟩) (hD : X.K.lookup D = some oD) (hDd : oD.data = .cls cdD)
    (hN : X.N[0]? = some ar.arg) (hσ : σ[0]? = some (some (.ref a))) (he : H a = some (exo a C none)) (hsub : PySem.W.mroIn X.K C (.ref D) = some true)
    (hC : PySem.W.clsIn X.K C = some cdC) (hal : PySem.W.alongIn X.K "__init__" ((cdC.mro.dropWhile (· != .ref D)).drop 1) = some (some (.builtin "ValueError.__init__"))) (hB : PySem.W.subIn X.K (.ref C) (.type "ValueError") = some true) (hop : PySem.W.nsIn X.K cStatics "thirdparty.any" = some none)
    (ha : PA X (e :: es) ta) (h : ta σ H fun vs H1 => vs.length ≤ 1000 ∧ H1 a = some (exo a C none) ∧ t2 D0 σ H1)
    (hev : eval (.Call (.Attribute (.Call (.Name "super" p0) [] [] p1) "__init__" apos) (e :: es) [] pos) X.env = (do
      let ov ← attributeBase (.Call (.Name "super" p0) [] [] p1) "__init__" X.env (eval (.Call (.Name "super" p0) [] [] p1) X.env)
      standAt apos.atName
      let (f, first) ← holding [ov] (getMethod ov "__init__" pl)
      callWith pos f first (backTo pos (starEach (e :: es) X.env)) []))
    (hse : starEach (e :: es) X.env = (false, eval e X.env) :: starEach es X.env) (hpl : (backTo pos (starEach es X.env)).any (·.1) = false)
    (h2 : PS X st2 t2) (hi : interactive X.env = false) (hsw : swapsWith (.Call (.Attribute (.Call (.Name "super" p0) [] [] p1) "__init__" apos) (e :: es) [] pos) none pos2.line X.env = pure false) :
    PySem.wpAt (model X.prog X.w) X.A (.func body X.env) (execs [.Expr (.Call (.Attribute (.Call (.Name "super" p0) [] [] p1) "__init__" apos) (e :: es) [] pos) pos2, st2] X.env) (SP X pins D0) X.xe s := by
  obtain ⟨m, hns, hl⟩ := I.loc
  obtain ⟨u, ru, lk⟩ := hl 0 _ _ hN hσ (.inl hka)
  cases ru
  have hv : m ar.arg = some (.ref a) := by
    rcases lk with z | ⟨z | z, _⟩
    · exact z.2
    · rw [hka] at z; cases z
    · rw [hka] at z; cases z
  refine PySem.qo_execs (PySem.qo_expr (PySem.wpAt_mono (at_superinit (pins := pins) (Q := fun _ H1 => t2 D0 σ H1) T I hks hkc hka hfu hf hp hco hcc hoc hvs hfile htop hm hboot hcl hcell hD hDd hns hv he hsub hC hal hB hop ha h hev hse hpl) (fun v s2 h3 => ?_) fun _ _ x => x) hi hsw)
  obtain ⟨x, H1, I1, r, q⟩ := h3
  exact ⟨rfl, (pss_one h2).run pins s2 σ H1 D0 I1 q⟩
end Q
namespace Q
open PySem PySem.Spec PyProof.Rows L2 TL NdefX
/-- what such an __init__ keeps -/
def spInit (C : Addr) (fld : Str) (Pv : V → Prop) : Sp := fun vs H Q _ => ∃ (a : Addr) (v : V), vs = [.ref a, v] ∧ Pv v ∧ H a = some (exo a C none) ∧ ∀ H1 : Hp, (∀ b o, H b = some o → H1 b = some o) → ∀ dx, H1 dx = none → dx ≠ a → Q .non (upd (upd H1 dx (exd dx [(fld, v)])) a (exo a C (some dx)))
theorem fnok_init {CX : CXT} {P : Program} {w : World} {K : PySem.W.Frag} {mg : Str → Option Value} {base : Heap} {N : List Str} {F : NF} {f c C D : Addr} {k : Nat} {doc pm ctv oc cl2 : Value} {od od2 : Option Addr} {osl osl2 : Array (Option Value)} {n0 n1 fld : Str} {Pv : V → Prop}
    {p0 p1 apos pos pos2 : Pos} {e : Expr} {es : List Expr} {st2 : Stmt} {ta : TA} {t2 : TS} {ar : Arg} {vs : Array Value} {file : Str} {tf : Tok} {ocode oD : Obj} {cdD cdC : ClassData} {pl : Env → Sem Bool}
    (T : OexC K C) (lk : K.lookup f = some ⟨oc, od, .func (F.fd doc pm ctv), osl⟩) (hcd : PySem.W.codeIn K (.ref F.c) F.qual = true) (S : NScope N [n0, n1] [("__class__" : Str)] F.scope) (hcl : F.cl = [(("__class__" : Str), c)]) (lc : K.lookup c = some ⟨cl2, od2, .cell (some (.ref D)), osl2⟩)
    (hb : F.body = [.Expr (.Call (.Attribute (.Call (.Name "super" p0) [] [] p1) "__init__" apos) (e :: es) [] pos) pos2, st2]) (hks : F.scope.names.lookup ("super" : Str) = some .globalImplicit) (hp : (F.params.posonlyargs ++ F.params.args).head? = some ar) (har : ar.arg = n0)
    (hcc : K.lookup F.c = some ocode) (hoc : ocode.data = .fields vs) (hvs : vs[2]? = some (.str file tf)) (hfile : ((P.main.file : Str) == file) = true) (htop : (P.main.scope.names.lookup ("super" : Str)).isSome = false) (hm : mg "super" = none) (hboot : bootBuiltins "super" = some (.type "super"))
    (hD : K.lookup D = some oD) (hDd : oD.data = .cls cdD) (hsub : PySem.W.mroIn K C (.ref D) = some true) (hC : PySem.W.clsIn K C = some cdC) (hal : PySem.W.alongIn K "__init__" ((cdC.mro.dropWhile (· != .ref D)).drop 1) = some (some (.builtin "ValueError.__init__")))
    (hB : PySem.W.subIn K (.ref C) (.type "ValueError") = some true) (hop : PySem.W.nsIn K cStatics "thirdparty.any" = some none)
    (ha : ∀ A outer s H E, PA (ncx CX P w K mg base N F f A outer s H E) (e :: es) ta) (hta : ∀ (a : Addr) (v : V) (H : Hp) (R : List V → Hp → Prop), Pv v → (∀ (us : List V) (H1 : Hp), us.length ≤ 1000 → (∀ b o, H b = some o → H1 b = some o) → R us H1) → ta (startF N [.ref a, v] [some (.ref D)]) H R)
    (h2 : ∀ A outer s H E, PS (ncx CX P w K mg base N F f A outer s H E) st2 t2) (ht2 : ∀ a v H (D0 : Ends), H a = some (exo a C none) → (∀ dx, H dx = none → dx ≠ a → D0.nx (startF N [.ref a, v] [some (.ref D)]) (upd (upd H dx (exd dx [(fld, v)])) a (exo a C (some dx)))) → t2 D0 (startF N [.ref a, v] [some (.ref D)]) H)
    (hev : ∀ L, eval (.Call (.Attribute (.Call (.Name "super" p0) [] [] p1) "__init__" apos) (e :: es) [] pos) (envF F f L) = (do
      let ov ← attributeBase (.Call (.Name "super" p0) [] [] p1) "__init__" (envF F f L) (eval (.Call (.Name "super" p0) [] [] p1) (envF F f L))
      standAt apos.atName
      let (fx, first) ← holding [ov] (getMethod ov "__init__" (pl (envF F f L)))
      callWith pos fx first (backTo pos (starEach (e :: es) (envF F f L))) []))
    (hse : ∀ L, starEach (e :: es) (envF F f L) = (false, eval e (envF F f L)) :: starEach es (envF F f L)) (hpl : ∀ L, (backTo pos (starEach es (envF F f L))).any (·.1) = false)
    (hsw : ∀ L, swapsWith (.Call (.Attribute (.Call (.Name "super" p0) [] [] p1) "__init__" apos) (e :: es) [] pos) none pos2.line (envF F f L) = pure false) :
    FnOk P w K mg base CX (k + 1) f (F.fd doc pm ctv) [n0, n1] (spInit C fld Pv) := by
  refine fnok_at lk hcd S hcl lc (fun vs H Q E q => by obtain ⟨a, v, rfl, _⟩ := q; rfl) (fun A outer s H vs' Q E s1 hr q I => ?_)
  obtain ⟨a, v, rfl, pv, he, hq⟩ := q
  have eb : (ncx CX P w K mg base N F f A outer s H E).env = envF F f s.heap.objs.size := rfl
  rw [hb]
  have hN : N[0]? = some ar.arg := by
    have := S.pre
    rw [har]
    cases N with
    | nil => simp at this
    | cons x N => simp at this; rw [this.1]; rfl
  exact at_body (m := fun _ => none) (X := ncx CX P w K mg base N F f A outer s H E) (body := [.Expr (.Call (.Attribute (.Call (.Name "super" p0) [] [] p1) "__init__" apos) (e :: es) [] pos) pos2, st2]) (t2 := t2) (pl := pl (envF F f s.heap.objs.size)) (f := f) (fd := F.fd doc pm ctv) (ar := ar) (a := a) T I hks (S.frk _ (.head _)) (har ▸ S.par n0 (.head _)) rfl lk hp rfl hcc hoc hvs hfile htop hm hboot (by show F.cl.lookup _ = _; rw [hcl]; rfl) lc hD hDd hN rfl he hsub hC hal hB hop (ha A outer s H E)
    (hta a v H _ pv fun us H1 hu hk => ⟨hu, hk _ _ he, ht2 a v H1 _ (hk _ _ he) fun dx h1 h2 => hq H1 hk dx h1 h2⟩) (hev _) (hse _) (hpl _) (h2 A outer s H E) I.quiet (hsw _)
end Q

set_option Elab.async false
set_option linter.all false
set_option maxRecDepth 100000
set_option maxHeartbeats 1000000
/-! QP: raise of an exception class with its own __init__ (super().__init__(..) and one field); except C as e, where e.f is read; the tests of the head that say so. -/
namespace Q
open PySem PySem.Spec PyProof.Rows L2 TL NdefX
/-- an exception class of the text whose own __init__ says super() and keeps its argument as a field -/
structure XI (K : Fr) (mg : Str → Option Value) (P : Program) (x : Str) (C : Addr) (fld : Str) (ps : List Str) (Pv : V → Prop) : Prop where
  T : OexC K C
  g : mg x = some (.ref C)
  made : ∃ (fI : Addr) (fd : FuncData), PySem.W.findIn K (.ref C) "__init__" = some (some (.ref fI)) ∧ PySem.W.typeIn K (.ref fI) = some (.type "function") ∧ Binds K fd ps [] ∧
    ∀ (w : World) (base : Heap), FnOk P w K mg base (L2.CX P w) 1 fI fd ps (spInit C fld Pv)
section
variable {K : Fr} {g g' : G} {E : XK} {W W0 : WX} {X : Cx} {H : Hp} {h : Sto} {σ : L2.St} {env : Env'} {m1 ms me : EM} {pos : Pos}
def mRaiseF (C : Nat) (f : Str) (q : U → Bool) (me : EM) : SM := fun env h => match me env h with
  | .ok u h1 => if q u = true then .ex C (some h1.length) env (h1 ++ [.xd [(f, u)]]) else .bad
  | .exc C' n h1 => .ex C' n env h1
  | .bad => .bad
theorem ss_raiseF {x fld : Str} {C : Addr} {ps : List Str} {Pv : V → Prop} {q : U → Bool} {e : Expr} {p pos2 : Pos} (hc : X.calm = true) (tk : Takes X W) (T : XI X.K X.mg X.prog x C fld ps Pv) (hr : Room 2 X.A) (hg : Gl X x)
    (hq : ∀ (K : Fr) (g : G) (v : V) (u : U), Rep K g v u → q u = true → Pv v) (ha : PA X [e] (aM X.K W (aCons me aNil))) (hdb : (x == ("__debug__" : Str)) = false := by decide)
    (h2 : starEach [e] X.env = (false, eval e X.env) :: starEach [] X.env := by rfl) (h3 : (backTo pos (starEach [] X.env)).any (·.1) = false := by rfl) :
    PS X (.Raise (some (.Call (.Name x p) [e] [] pos)) none pos2) (sM X.K W (mRaiseF C fld q me)) := by
  obtain ⟨fI, fd, iC, tI, hb, F⟩ := T.made
  refine PS.weak (ps_raise hc tk (pmk_oex (CX := L2.CX X.prog X.w) T.T iC tI (F X.w X.base) hr hb .nil passL hg T.g ha hdb h2 h3)) fun D σ H ⟨g, env, h, hr', er, w⟩ => ?_
  refine ⟨g, env, h, hr', er, ?_⟩
  unfold mRaiseF at w
  cases e1 : me env h with
  | bad => rw [e1] at w; exact w.elim
  | exc C' n h1 =>
    rw [e1] at w
    have e2 : aCons me aNil env h = .exc C' n h1 := by unfold aCons; rw [e1]; rfl
    rw [e2]
    exact fun H1 g1 d l1 hr1 hd => w σ H1 g1 d l1 hr1 (er.mono l1) hd
  | ok u h1 =>
    rw [e1] at w
    simp only at w
    split at w
    · rename_i hqu
      have e2 : aCons me aNil env h = .ok [u] h1 := by unfold aCons; rw [e1]; rfl
      rw [e2]
      intro vs H1 g1 l1 hr1 rs
      cases rs with
      | @cons v _ vr _ rv rr =>
        cases rr
        refine ⟨by simp, fun a na => ⟨a, v, by simp, hq _ _ _ _ rv hqu, upd_same, fun H3 hk dx nd ne => ⟨rfl, dx, [(fld, v)], upd_same, ?_, ?_, ?_⟩⟩⟩
        · rw [upd_ne ne, upd_same]
        · cases z : H1 dx with
          | none => rfl
          | some o =>
            have := hk dx o (by rw [upd_ne ne]; exact z)
            rw [nd] at this; cases this
        · have keep : ∀ b o, b ≠ a → H1 b = some o → H3 b = some o := fun b o hb z => hk b o (by rw [upd_ne hb]; exact z)
          let H4 : Hp := fun b => if b = a then none else H3 b
          have e4 : upd (del (upd (upd H3 dx (exd dx [(fld, v)])) a (exo a C (some dx))) a) dx (.xd [(fld, v)]) = upd H4 dx (.xd [(fld, v)]) := by
            funext b
            by_cases hb : b = dx
            · rw [hb, upd_same, upd_same]
            · rw [upd_ne hb, upd_ne hb]
              by_cases ha : b = a
              · rw [ha, del_same]; exact (if_pos rfl).symm
              · rw [del_ne ha, upd_ne ha, upd_ne hb]; exact (if_neg ha).symm
          rw [e4]
          have nd4 : H4 dx = none := by show (if dx = a then none else H3 dx) = none; rw [if_neg ne]; exact nd
          have up : ∀ b o, H1 b = some o → H4 b = some o := fun b o z => by
            have hb : b ≠ a := fun e => by rw [e, na] at z; cases z
            show (if b = a then none else H3 b) = some o
            rw [if_neg hb]; exact keep b o hb z
          have hr4 : HR X.K g1 H4 h1 := ⟨fun b o z => up b o (hr1.ex b o z), hr1.len, hr1.nd, hr1.fr, fun n b o z1 z2 => by
            have := hr1.ob n b o z1 z2
            obtain ⟨o2, z3⟩ := this.is
            exact this.mono (Le.refl g1) (by rw [z3]; exact up b o2 z3)⟩
          exact w σ _ (g1.new dx) (some dx) (l1.trans Le.new) (hr4.new nd4 ⟨[(fld, v)], upd_same, .cons (rv.mono Le.new) .nil⟩) (er.mono (l1.trans Le.new)) ⟨dx, rfl, by
            show (g1.al ++ [dx])[h1.length]? = _
            rw [← hr1.len]; simp⟩
    · exact w.elim
/-! ### except C as e: e.f -/
def mXfE (i a : Nat) (d : Option Nat) (f : Str) : EM := fun env h => match env[i]? with
  | some (some (.xv a' d' _ (some k))) => if a' = a ∧ d' = d then (match h[k]? with
    | some (.xd fs) => (match fs.lookup f with
      | some u => .ok u h
      | none => .bad)
    | _ => .bad) else .bad
  | _ => .bad
theorem se_xf {a D : Addr} {d : Option Addr} {oe : Obj} {pn : List (Addr × Obj)} {i : Nat} {x f : Str} {p2 : Pos} (T : XfC X.K D) (hno : PySem.W.findIn X.K (.ref D) f = some none) (hz : Zc (.ref D) d oe) (hfl : ∃ vs, oe.data = .fields vs)
    (hN : (X.suite a ((a, oe) :: pn)).N[i]? = some x := by rfl) (hv : Vis (X.suite a ((a, oe) :: pn)).env.scope x := by first | exact Or.inl rfl | exact Or.inr (Or.inl rfl) | exact Or.inr (Or.inr rfl))
    (hd : (x == ("__debug__" : Str)) = false := by decide) (hcd : (x == ("__classdict__" : Str)) = false := by decide)
    (hb : attributeBase (.Name x p2) f (X.suite a ((a, oe) :: pn)).env (eval (.Name x p2) (X.suite a ((a, oe) :: pn)).env) = eval (.Name x p2) (X.suite a ((a, oe) :: pn)).env := by rfl) :
    PE (X.suite a ((a, oe) :: pn)) (.Attribute (.Name x p2) f pos) (tM X.K W (mXfE i a d f)) := by
  refine PE.weak (pe_xf (d := d) (pos := pos) T hno hz hfl (se_var (K := X.K) (W := W) hN hv hd hcd) hb) fun σ H Q ⟨g, env, h, hr, er, w⟩ => ?_
  refine ⟨g, env, h, hr, er, ?_⟩
  unfold mXfE at w
  unfold mVar
  split at w
  · rename_i a' d' C' k e
    split at w
    · rename_i ea
      obtain ⟨rfl, rfl⟩ := ea
      rw [e]
      intro v H1 g1 l1 hr1 rv
      split at w
      · rename_i fs ek
        split at w
        · rename_i u el
          cases rv with
          | xv hd1 =>
            obtain ⟨dd, ed, ga⟩ := hd1
            obtain ⟨vs, hH, rf⟩ := hr1.ob k dd _ ga ek
            obtain ⟨v2, lv, rv2⟩ := (rf.look (f := f)).1 u el
            exact ⟨rfl, rfl, dd, vs, v2, ed, hH, lv, w v2 H1 g1 l1 hr1 rv2⟩
        · exact w.elim
      · exact w.elim
    · exact w.elim
  · exact w.elim
/-- in the suite the name holds the field's value: nothing else of e is asked but its class -/
def mTryAsF (i : Nat) (ys : List Nat) (f : Str) (mb ms : SM) : SM := fun env h => match mb env h with
  | .ex C n env1 h1 => (match n with
    | some k => if C ∈ ys ∧ i < env1.length then (match h1[k]? with
      | some (.xd fs) => (match fs.lookup f with
        | some u => (ms (env1.set i (some u)) h1).cl i
        | none => .bad)
      | _ => .bad) else .bad
    | none => .bad)
  | r => r
theorem ss_tryAsF {mb ms : SM} {mx : Nat → Option Nat → SM} {x n f : Str} {C : Addr} {i : Nat} {ys : List Nat} {body suite : List Stmt} {b₀ : Stmt} {np pos' : Pos} (hs : X.stack = X.env :: X.outer) (hf : X.env.frame = some X.env.locals) (hN : X.N.Nodup) (hi : X.N[i]? = some n) (hln : X.env.kindOf n = some .local)
    (hg : Gl X x) (hm : X.mg x = some (.ref C)) (tk : Takes X W) (hy : ∀ D ∈ ys, PySem.W.exmOne X.K (.ref D) (.ref C) = some true)
    (hb : ∀ (W' : WX) (pn : List (Addr × Obj)) (xe : Value → Shared → Prop), Takes (X.tr pn xe) W' → PassesOwn (model X.prog X.w) X.A X.env xe → PSs (X.tr pn xe) body (sM X.K W' mb))
    (hsu : ∀ (a : Addr) (oe : Obj) (D : Nat) (d : Option Addr) (pn : List (Addr × Obj)), D ∈ ys → Zc (.ref D) d oe → (∃ vs, oe.data = .fields vs) → PSs (X.suite a ((a, oe) :: pn)) (b₀ :: suite) (sM X.K W0 (mx a d)))
    (hgen : ∀ (a D k : Nat) (d : Option Nat) (env : Env') (h : Sto) (fs : List (Str × U)) (u : U), i < env.length → h[k]? = some (.xd fs) → fs.lookup f = some u → (mx a d (env.set i (some (.xv a d D (some k)))) h).cl i = (ms (env.set i (some u)) h).cl i) (hdb : (x == ("__debug__" : Str)) = false := by decide) :
    PS X (.Try body [.ExceptHandler (some (.Name x np)) (some n) (b₀ :: suite) pos'] [] [] pos) (sM X.K W (mTryAsF i ys f mb ms)) :=
  PS.weak (ps_try_as (tb := fun W' => sM X.K W' mb) (ts := fun a cls d D σ H => ∃ C', C' ∈ ys ∧ cls = .ref C' ∧ sM X.K W0 (mx a d) D σ H) hs hf hN hi hln ⟨hg, hdb, .inl hm⟩ tk hb
    (fun a oe cls d pn hz hfl => ⟨fun pins s σ H D I ⟨C', hC, e1, q⟩ => by
      subst e1
      exact (hsu a oe C' d pn hC hz hfl).run pins s σ H D I q⟩)) fun D σ H ⟨g, env, h, hr, er, w⟩ => ⟨g, env, h, hr, er, by
    unfold mTryAsF at w
    cases e : mb env h with
    | ex C' n e1 h1 =>
      rw [e] at w
      intro σ1 H1 g1 d l1 hr1 er1 hd
      simp only at w
      split at w
      · rename_i k
        split at w
        · rename_i hc
          obtain ⟨hc, hl⟩ := hc
          split at w
          · rename_i fs ek
            split at w
            · rename_i u el
              refine ⟨true, hy C' hc, fun _ a ha => ⟨C', hc, rfl, g1, e1.set i (some (.xv a d C' (some k))), h1, hr1, er1.set i (.xv hd), ?_⟩, fun z => nomatch z⟩
              refine WS.mono l1 (WS.cl (W := W) ?_)
              rw [hgen a C' k d e1 h1 fs u hl ek el]
              exact w
            · exact w.elim
          · exact w.elim
        · exact w.elim
      · exact w.elim
    | nx e1 h1 => rw [e] at w; exact w
    | rt u h1 => rw [e] at w; exact w
    | bk e1 h1 => rw [e] at w; exact w
    | ct e1 h1 => rw [e] at w; exact w
    | bad => rw [e] at w; exact w⟩
/-! ### isinstance(e, c), e an exception that has a dict -/
theorem wp_no {α : Type} {M : Model} {A : Around} {c : Bool} {t e : Sem α} {Q : α → Shared → Prop} {E : Value → Shared → Prop} {s : Shared} (h : c = false) (x : wpAny M A e Q E s) : wpAny M A (if c = true then t else e) Q E s := by
  rw [if_neg (by rw [h]; decide)]; exact x
theorem own_cls {K : Fr} {prog : Program} {w : World} {A : Around} {E' : Value → Shared → Prop} {s : Shared} {x D : Addr} {ox : Obj} {od : Option Obj} {Q : Option Value → Shared → Prop} (C : ExcC K D) (KX : K.In s.heap) (I : PySem.W.InstAt s.heap x ox D od) (hq : Q (some (.ref D)) { s with toks := s.toks + 1 }) :
    wpAny (model prog w) A (getAttr? (.ref x) "__class__") Q E' s := by
  have hf : PySem.W.findObj K D od "__class__" = some (.bind (.builtin "getset_descriptor.__get__") (.builtin "object.__class__")) := by
    obtain ⟨cd, hc, _⟩ := PySem.W.any_some C.hd
    unfold PySem.W.findObj; rw [hc, Option.bind_some, C.ha, Option.bind_some]; simp [C.hn, C.ht]
  obtain ⟨hp, gs, dr, tk, os⟩ := s
  have nog : (Value.builtin "BaseException.__getattribute__" == Value.builtin "object.__getattribute__") = false := by decide +kernel
  have T0 := I.type (M := model prog w); have F0 := PySem.W.looks_find (M := model prog w) KX I hf; have G0 := PySem.W.looks_findIn (M := model prog w) KX C.hg; have N0 := PySem.W.looks_findIn (M := model prog w) KX C.hk
  unfold getAttr? getAttrBy? getAttrBy; refine wpAny_bind (wpAny_mkText (wpAny_bind (wpAny_attempt (wpAny_holding (wpAny_bind (T0.at (wpAny_bind (G0.at ?_))))))))
  refine wp_no (by rw [nog]; rfl) ?_; unfold getAttrByItsOwn hookBefore
  refine wpAny_bind ?_; refine PySem.W.KFB.if_so (show onTheHeap (Value.ref D) = true from rfl) (N0.at ?_)
  refine wpAny_bind (wpAny_attempt (wpAny_holding ?_)); unfold callGetattribute; refine wp_no rfl ?_; unfold boundAndCalled
  rw [PySem.F.excAttr_ValueError.ga.bind (.ref x)]; refine wpAny_bind (wpAny_pure ?_)
  refine wpAny_call (codeAny_call_builtin PySem.F.excAttr_ValueError.ga.plain PySem.F.entry_bexc_ga ?_)
  refine @PySem.W.check_slot (model prog w) _ _ ⟨hp, gs, dr, tk + 1, os⟩ "BaseException.__getattribute__" "BaseException" "__getattribute__" (.ref x) [.str "__class__" tk] [] _ (by decide +kernel) (by decide +kernel) (T0.andThen (PySem.W.looks_subIn KX C.hs)) (PySem.F.args_bexc_ga (.ref x) (.str "__class__" tk)) ?_
  unfold Builtin.«object.__getattribute__»; refine wpAny_bind (wpAny_of_eq (a := ((Value.ref x : Value), [Value.str "__class__" tk])) (by first | rfl | (simp only [slotArgs]; rfl)) ?_)
  refine wpAny_bind (wpAny_pure (wpAny_bind (T0.at (wpAny_bind (F0.at ?_))))); refine wpAny_bind (wpAny_holding (wpAny_call (PySem.W.class_get (s := ⟨hp, gs, dr, tk + 1, os⟩) (ox := ox) (od := od) KX I C.hm ?_)))
  refine wpAny_pure ?_; show wpAny _ _ (handedOut (.ref D)) _ _ _; rw [PySem.W.handedOut_of (v := .ref D) rfl]
  first | exact wpAny_pure (wpAny_pure hq) | exact wpAny_pure hq | exact wpAny_pure (wpAny_bind (wpAny_pure (wpAny_pure hq)))
theorem kitx_own {K : Fr} {x D : Addr} {ox : Obj} (C : ExcC K D) : PySem.W.KitX K (.ref x) (.ref D) (fun h => ∃ od, PySem.W.InstAt h x ox D od) where
  ty := fun _ _ _ ⟨_, I⟩ => I.type
  it := fun M h KX _ A' Q' E' s' k q => by
    obtain ⟨cd, hc, _⟩ := PySem.W.any_some C.hd
    unfold PySem.W.clsIn at hc
    split at hc
    · rename_i e0
      unfold isType loadHead; exact wpAny_bind (wpAny_loadPart (k _ _ (KX _ _ e0)) (wpAny_pure q))
    · cases hc
  ne := fun h tp dd its n sl KX htp => (PySem.W.handS_kitx_exc (x := x) (ox := ox) C.hg C.hk C.hs C.hd C.ha C.hn C.ht C.hm).ne h tp dd its n sl KX htp
  ca := fun KX ⟨_, I⟩ k => own_cls C KX I k
def rIsF (K : Fr) (D a : Addr) (d : Option Addr) : List V → Hp → VK → Prop := fun xs H Q => ∃ (c : V) (cv : Value) (b : Bool), xs = [.ref a, c] ∧ (∀ u, RelV c u → u = cv) ∧ PySem.W.kitOne K (.ref D) cv = some b ∧ (∃ dd fs, d = some dd ∧ H dd = some (.xd fs)) ∧ Q (.bl b) H
theorem call_isF {X : Cx} {a D : Addr} {d : Option Addr} {oe : Obj} {pn : List (Addr × Obj)} (C : ExcC X.K D) (hz : Zc (.ref D) d oe) (hf : ∃ vs, oe.data = .fields vs) : CallR (X.suite a ((a, oe) :: pn)) (.builtin "isinstance") (rIsF X.K D a d) := by
  rintro pins s σ H xs us Q I r ⟨c, cv, b, rfl, hcv, e, ⟨dd, fs, rfl, hH⟩, q⟩
  obtain ⟨mA, hns, _⟩ := (I.hok dd _ hH : ObjOk X.prog X.w H s.heap dd (.xd fs))
  obtain ⟨od, ho, _⟩ := lookIn_ns hns
  cases r with
  | cons rx rr => cases rr with
    | cons rt rr =>
      cases rr; cases rx
      have ec := hcv _ rt; subst ec
      obtain ⟨vs, hv⟩ := hf
      obtain ⟨hget, _⟩ := I.pin (a, oe) (List.mem_append.mpr (.inl List.mem_cons_self))
      have J : PySem.W.InstAt s.heap a oe D (some od) := by
        refine ⟨hget, hz.1, ?_, by rw [hz.2]; exact ho⟩
        unfold PySem.W.notCls; rw [hv]
        all_goals rfl
      exact PySem.W.kia_one (kitx_own C) I.kIn ⟨_, J⟩ e (fun z => nomatch z) fun tk => ⟨.bl b, H, I.kept (t' := tk) fun _ _ z => z, rfl, q⟩
def mIsF (i a : Nat) (d : Option Nat) (b : Bool) : EM := fun env h => match env[i]? with
  | some (some (.xv a' d' _ (some k))) => if a' = a ∧ d' = d then (match h[k]? with
    | some (.xd _) => .ok (.bl b) h
    | _ => .bad) else .bad
  | _ => .bad
theorem se_isF {a D : Addr} {d : Option Addr} {oe : Obj} {pn : List (Addr × Obj)} {i : Nat} {b : Bool} {x f : Str} {cv : V} {cu : Value} {p1 p2 p3 : Pos} {ce : Expr} (hC : ExcC X.K D) (hz : Zc (.ref D) d oe) (hfl : ∃ vs, oe.data = .fields vs)
    (hgI : Gl (X.suite a ((a, oe) :: pn)) f) (hmI : (X.suite a ((a, oe) :: pn)).mg f = none) (hc : PE (X.suite a ((a, oe) :: pn)) ce (tC cv)) (hu : ∀ u, RelV cv u → u = cu) (hk : PySem.W.kitOne X.K (.ref D) cu = some b)
    (hN : (X.suite a ((a, oe) :: pn)).N[i]? = some x := by rfl) (hv : Vis (X.suite a ((a, oe) :: pn)).env.scope x := by first | exact Or.inl rfl | exact Or.inr (Or.inl rfl) | exact Or.inr (Or.inr rfl))
    (hd : (x == ("__debug__" : Str)) = false := by decide) (hcd : (x == ("__classdict__" : Str)) = false := by decide)
    (hvI : bootBuiltins f = some (.builtin "isinstance") := by decide +kernel) (hn : f ≠ "__name__" := by decide) (hdb : (f == ("__debug__" : Str)) = false := by decide)
    (he2 : starEach [ce] (X.suite a ((a, oe) :: pn)).env = [(false, eval ce (X.suite a ((a, oe) :: pn)).env)] := by rfl) :
    PE (X.suite a ((a, oe) :: pn)) (.Call (.Name f p1) [.Name x p2, ce] [] p3) (tM X.K W (mIsF i a d b)) := by
  refine PE.weak (pe_callB (call_isF hC hz hfl) hgI hmI hvI (pa_cons (se_var (K := X.K) (W := W) hN hv hd hcd) (pa_cons hc pa_nil he2) rfl) hn hdb rfl (by rw [he2]; rfl)) fun σ H Q ⟨g, env, h, hr, er, w⟩ => ?_
  refine ⟨g, env, h, hr, er, ?_⟩
  unfold mIsF at w
  unfold mVar
  split at w
  · rename_i a' d' C' k e
    split at w
    · rename_i ea
      obtain ⟨rfl, rfl⟩ := ea
      rw [e]
      intro v H1 g1 l1 hr1 rv
      split at w
      · rename_i fs ek
        cases rv with
        | xv hd1 =>
          obtain ⟨dd, ed, ga⟩ := hd1
          obtain ⟨vs, hH, rf⟩ := hr1.ob k dd _ ga ek
          exact ⟨cv, cu, b, rfl, hu, hk, ⟨dd, vs, ed, hH⟩, w _ H1 g1 l1 hr1 (.bl b)⟩
      · exact w.elim
    · exact w.elim
  · exact w.elim
def isIntU : U → Bool
  | .int i => decide (i.natAbs < 2 ^ 100)
  | _ => false
abbrev PvI : V → Prop := fun v => ∃ i : Int, v = .int i ∧ i.natAbs < 2 ^ 100
theorem int_VU : ∀ (K : Fr) (g : G) (v : V) (u : U), Rep K g v u → isIntU u = true → PvI v := fun K g v u r z => by
  cases r <;> first | exact ⟨_, rfl, of_decide_eq_true z⟩ | cases z
theorem sInt_40 {i : Int} (h : i.natAbs < 2 ^ 100) : (sInt i).length ≤ 40 := by
  have d : ∀ n : Nat, n ≤ 2 ^ 100 → n.repr.toList.length ≤ 37 := fun n hn => by
    rw [Nat.toList_repr]
    exact (Nat.length_toDigits_le_iff (by decide) (by decide)).mpr (Nat.lt_of_le_of_lt hn (by decide))
  unfold sInt
  rw [List.length_map]
  cases i with
  | ofNat n =>
    have := d n (Nat.le_of_lt h)
    show n.repr.toList.length ≤ 40
    omega
  | negSucc n =>
    have := d (n + 1) (Nat.le_of_lt h)
    have e : (toString (Int.negSucc n)) = "-" ++ (n + 1).repr := rfl
    rw [e, String.toList_append, List.length_append]
    have : ("-" : String).toList.length = 1 := rfl
    omega
theorem hm_text {S : List Nat} (hS : S.length ≤ 1000000 := by decide) : ∀ (a D : Nat) (v : V), PvI v → ∃ u us, (∀ g : G, Rep K g v u) ∧ (aCons (mBin uAdd (mC (.str S)) (mCB uStr (aCons (mVar 1) aNil))) aNil) [some (.xv a none 0 none), some u, some (.xv D none 0 none)] [] = .ok us [] ∧ us.length ≤ 1000 := by
  rintro a D v ⟨i, rfl, hi⟩
  have h1 := sInt_40 hi
  have h2 : i.natAbs.log2 < 1920 := by
    by_cases h0 : i.natAbs = 0
    · rw [h0]; decide
    · exact (Nat.log2_lt h0).mpr (Nat.lt_trans hi (by exact Nat.pow_lt_pow_right (by decide) (by decide)))
  refine ⟨.int i, [.str (S ++ sInt i)], fun g => .int i, ?_, by simp⟩
  have h3 : S.length + (sInt i).length ≤ 16000000 := by omega
  simp [aCons, aNil, mBin, mCB, mC, mVar, uStr, uAdd, R.bind, h2, h3]
end
end Q
namespace QH
open PySem PySem.Spec PyProof.Rows L2 Q NdefX
/-! ### tests of a class with its own __init__ -/
def isNon : Value → Bool
  | .none => true
  | _ => false
theorem isNon_ok : ∀ {v : Value}, isNon v = true → v = .none := fun {v} h => by
  cases v <;> first | rfl | (simp [isNon] at h)
/-- the closure is the cell of the class at C alone -/
def cloB (K : Fr) (C : Addr) (cl : List (Str × Addr)) : Bool := match cl with
  | [(y, c)] => decide (y = "__class__") && (match K.lookup c with
    | some ⟨_, _, .cell (some (.ref D)), _⟩ => decide (D = C)
    | _ => false)
  | _ => false
theorem cloB_ok {K : Fr} {C : Addr} {cl : List (Str × Addr)} (h : cloB K C cl = true) : ∃ c oc od osl, cl = [(("__class__" : Str), c)] ∧ K.lookup c = some ⟨oc, od, .cell (some (.ref C)), osl⟩ := by
  unfold cloB at h
  split at h
  · rename_i y c
    obtain ⟨h1, h2⟩ := Bool.and_eq_true_iff.mp h
    have e := of_decide_eq_true h1
    subst e
    split at h2
    · rename_i oc od D osl e
      have e2 := of_decide_eq_true h2
      subst e2
      exact ⟨c, oc, od, osl, rfl, e⟩
    · cases h2
  · cases h
def codeB (K : Fr) (qual file : Str) (v : Value) : Bool := match v with
  | .ref c => PySem.W.codeIn K (.ref c) qual && (match K.lookup c with
    | some ⟨_, _, .fields vs, _⟩ => (match vs[2]? with
      | some (Value.str z _) => decide (z = file)
      | _ => false)
    | _ => false)
  | _ => false
theorem codeB_ok {K : Fr} {qual file : Str} {v : Value} (h : codeB K qual file v = true) : ∃ c oc vs tf, v = .ref c ∧ PySem.W.codeIn K (.ref c) qual = true ∧ K.lookup c = some oc ∧ oc.data = .fields vs ∧ vs[2]? = some (.str file tf) := by
  unfold codeB at h
  split at h
  · rename_i c
    obtain ⟨h1, h2⟩ := Bool.and_eq_true_iff.mp h
    split at h2
    · rename_i a b vs d e
      split at h2
      · rename_i z tf e3
        have e2 := of_decide_eq_true h2
        subst e2
        exact ⟨c, _, vs, tf, rfl, h1, e, rfl, e3⟩
      · cases h2
    · cases h2
  · cases h
def fdB (K : Fr) (C : Addr) (qual file : Str) (fd : FuncData) : Bool := isNon fd.defaults && (isNon fd.kwdefaults && (fd.annotations.isNone && (cloB K C fd.closure && codeB K qual file fd.code)))
/-- the __init__ of the class x -/
def iAd (K : Fr) (x : Str) : Addr := He.fAd K (x, some "__init__")
def fnWI (K : Fr) (x : Str) : He.FnW := match K.lookup (iAd K x) with
  | some ⟨_, _, .func fd, _⟩ => some (fd.name, fd.qualname, fd.params, fd.body, fd.scope, fd.globals, [], fd.builtins)
  | _ => none
def fnB (K : Fr) (x qual file : Str) : Bool := match K.lookup (iAd K x) with
  | some ⟨_, _, .func fd, _⟩ => fdB K (He.ga K x) qual file fd
  | _ => false
/-- such an __init__, by its class, qualified name, statement and file -/
structure InD where
  x : Str
  qual : Str
  file : Str
  st : Stmt
def InD.nf (d : InD) (c cc : Addr) : NF := ⟨"__init__", d.qual, defArgs d.st, defBody d.st, defScope d.st, [(("__class__" : Str), c)], cc⟩
def InD.val (d : InD) : He.FnW := some ("__init__", d.qual, defArgs d.st, .stmts (defBody d.st), defScope d.st, mainGlobals, [], builtinsNs)
theorem InD.fn {K : Fr} {d : InD} (e : fnWI K d.x = d.val) (h : fnB K d.x d.qual d.file = true) : ∃ c cc oc od osl doc pm ctv oc2 od2 osl2 o3 vs tf, K.lookup (iAd K d.x) = some ⟨oc, od, .func ((d.nf c cc).fd doc pm ctv), osl⟩ ∧ PySem.W.codeIn K (.ref cc) d.qual = true ∧
    K.lookup c = some ⟨oc2, od2, .cell (some (.ref (He.ga K d.x))), osl2⟩ ∧ K.lookup cc = some o3 ∧ o3.data = .fields vs ∧ vs[2]? = some (.str d.file tf) := by
  unfold fnWI at e
  unfold fnB at h
  cases q : K.lookup (iAd K d.x) with
  | none => rw [q] at h; cases h
  | some o =>
    obtain ⟨oc, od, dt, osl⟩ := o
    rw [q] at h e
    cases dt with
    | func fd =>
      obtain ⟨n1, n2, n3, n4, n5, n6, n7, n8, n9, n10, n11, n12, n13, n14, n15⟩ := fd
      have e2 : (some (n1, n2, n3, n4, n5, n6, [], n15) : He.FnW) = d.val := e
      unfold InD.val at e2
      simp only [Option.some.injEq, Prod.mk.injEq] at e2
      obtain ⟨h1, h2, h3, h4, h5, h6, _, h8⟩ := e2
      have hh : fdB K (He.ga K d.x) d.qual d.file ⟨n1, n2, n3, n4, n5, n6, n7, n8, n9, n10, n11, n12, n13, n14, n15⟩ = true := h
      unfold fdB at hh
      simp only [Bool.and_eq_true] at hh
      obtain ⟨k1, k2, k3, k4, k5⟩ := hh
      have k1 := isNon_ok k1
      have k2 := isNon_ok k2
      obtain ⟨c, oc2, od2, osl2, k4, lc⟩ := cloB_ok k4
      obtain ⟨cc, o3, vs, tf, k5, kc, lcc, hd, hv⟩ := codeB_ok k5
      have k3 : n12 = none := by cases n12 with | none => rfl | some _ => cases k3
      subst h1 h2 h3 h4 h5 h6 h8 k1 k2 k3 k4 k5
      exact ⟨c, cc, oc, od, osl, n10, n11, n14, oc2, od2, osl2, o3, vs, tf, rfl, kc, lc, lcc, hd, hv⟩
    | _ => cases h
def clB (C : Addr) : Option Obj → Bool
  | some ⟨.type t, _, .cls cd, sl⟩ => decide (t = "type") && (match cd.mro, sl.toList with
    | .ref C' :: bm, [_, _, _, _, some (.builtin n), _] => decide (C' = C) && (decide (n = "ValueError.__new__") && (!cd.hasDel && (cd.hasDict && PySem.HandSPX.refsVE bm)))
    | _, _ => false)
  | _ => false
theorem clB_ok {C : Addr} {o : Option Obj} (h : clB C o = true) : ∃ nm q N bs bm sn sub ab col dd k0 k1 k2 k3 k5, o = some (excClassObj nm q C N bs bm true sn sub ab col dd k0 k1 k2 k3 k5 "ValueError.__new__") ∧ PySem.HandSPX.refsVE bm = true := by
  unfold clB at h
  split at h
  · rename_i t dd cd sl
    obtain ⟨h1, h⟩ := Bool.and_eq_true_iff.mp h
    have h1 := of_decide_eq_true h1
    split at h
    · rename_i C' bm k0 k1 k2 k3 n k5 hm hs
      simp only [Bool.and_eq_true, decide_eq_true_eq, Bool.not_eq_true'] at h
      obtain ⟨rfl, rfl, hdel, hdict, hr⟩ := h
      obtain ⟨nm, bs, mro, ns, qn, hd, sn, sub, ab, col, del⟩ := cd
      dsimp only at hm hdel hdict
      subst hm hdel hdict h1
      have hsl : sl = #[k0, k1, k2, k3, some (.builtin "ValueError.__new__"), k5] := by
        obtain ⟨l⟩ := sl
        simp only at hs
        rw [hs]
      subst hsl
      exact ⟨nm, qn, ns, bs, bm, sn, sub, ab, col, dd, k0, k1, k2, k3, k5, rfl, hr⟩
    · cases h
  · cases h
def tXi (x fld : Str) : Ts := fun K => clB (He.ga K x) (K.lookup (He.ga K x)) && (He.eqO (PySem.W.findIn K (.ref (He.ga K x)) "__setattr__") (some (some (.builtin "object.__setattr__"))) &&
  (decide (PySem.W.subIn K (.ref (He.ga K x)) (.type "BaseException") = some true) && (decide (PySem.W.typeIn K (.ref (He.ga K x)) = some (.type "type")) && (PySem.W.keepIn K (.ref (He.ga K x)) &&
  (He.eqO (PySem.W.findIn K (.ref (He.ga K x)) "__init__") (some (some (.ref (iAd K x)))) && (decide (PySem.W.typeIn K (.ref (iAd K x)) = some (.type "function")) && (He.eqO (PySem.W.findIn K (.ref (He.ga K x)) fld) (some none) &&
  (decide (PySem.W.mroIn K (He.ga K x) (.ref (He.ga K x)) = some true) && ((match PySem.W.clsIn K (He.ga K x) with
    | some cd => He.eqO (PySem.W.alongIn K "__init__" ((cd.mro.dropWhile (· != .ref (He.ga K x))).drop 1)) (some (some (.builtin "ValueError.__init__")))
    | none => false) && (decide (PySem.W.subIn K (.ref (He.ga K x)) (.type "ValueError") = some true) && He.eqO (PySem.W.nsIn K cStatics "thirdparty.any") (some none)))))))))))
/-- what stands in the program's own top -/
def progB (P : Program) (file : Str) : Bool := ((P.main.file : Str) == file) && !(P.main.scope.names.lookup ("super" : Str)).isSome
section
variable {K : Fr} {h : Heap} {mg : Str → Option Value}
theorem xi {P : Program} {x qual file fld n0 n1 : Str} {st : Stmt} {Pv : V → Prop} {p0 p1 apos pos pos2 q1 q2 q3 q4 : Pos} {e : Expr} {es : List Expr} {am : AM} {ar : Arg} (X : K.In h) (GN : h.Ns mainGlobals mg) (c1 : tXi x fld K = true) (c2 : tGlo x K = true) (c3 : tFree "super" K = true)
    (c4 : fnB K x qual file = true) (c5 : fnWI K x = (⟨x, qual, file, st⟩ : InD).val) (hP : progB P file = true)
    (S : NScope [n0, n1, "__class__"] [n0, n1] ["__class__"] (defScope st)) (hb : defBody st = [.Expr (.Call (.Attribute (.Call (.Name "super" p0) [] [] p1) "__init__" apos) (e :: es) [] pos) pos2, .Assign [.Attribute (.Name n0 q1) fld q2] (.Name n1 q3) q4])
    (hp : ((defArgs st).posonlyargs ++ (defArgs st).args).head? = some ar) (har : ar.arg = n0) (hks : (defScope st).names.lookup ("super" : Str) = some .globalImplicit) (hn : (n0 == ("__debug__" : Str)) = false ∧ (n0 == ("__classdict__" : Str)) = false ∧ (n1 == ("__debug__" : Str)) = false ∧ (n1 == ("__classdict__" : Str)) = false)
    (hbind : ∀ (c cc : Addr) (doc pm ctv : Value) (us : List Value), us.length = 2 → bindArgs (((⟨x, qual, file, st⟩ : InD).nf c cc).fd doc pm ctv) ⟨us, []⟩ = pure ([n0, n1].zip us))
    (ha : ∀ (w : World) (base : Heap) (c cc : Addr) (f : Addr) (A : Around) (outer : List Env) (s : Shared) (H : Hp) (E : XK), PA (ncx (L2.CX P w) P w K mg base [n0, n1, "__class__"] ((⟨x, qual, file, st⟩ : InD).nf c cc) f A outer s H E) (e :: es) (aM K (fun _ _ _ _ => False) am))
    (hm : ∀ (a D : Nat) (v : V), Pv v → ∃ u us, (∀ g : G, Rep K g v u) ∧ am [some (.xv a none 0 none), some u, some (.xv D none 0 none)] [] = .ok us [] ∧ us.length ≤ 1000)
    (hev : ∀ (c cc f L : Addr), eval (.Call (.Attribute (.Call (.Name "super" p0) [] [] p1) "__init__" apos) (e :: es) [] pos) (envF ((⟨x, qual, file, st⟩ : InD).nf c cc) f L) = (do
      let ov ← attributeBase (.Call (.Name "super" p0) [] [] p1) "__init__" (envF ((⟨x, qual, file, st⟩ : InD).nf c cc) f L) (eval (.Call (.Name "super" p0) [] [] p1) (envF ((⟨x, qual, file, st⟩ : InD).nf c cc) f L))
      standAt apos.atName
      let (fx, first) ← holding [ov] (getMethod ov "__init__" (do return (← importBound (.Call (.Name "super" p0) [] [] p1) (envF ((⟨x, qual, file, st⟩ : InD).nf c cc) f L)).getD true))
      callWith pos fx first (backTo pos (starEach (e :: es) (envF ((⟨x, qual, file, st⟩ : InD).nf c cc) f L))) []))
    (hse : ∀ (c cc f L : Addr), starEach (e :: es) (envF ((⟨x, qual, file, st⟩ : InD).nf c cc) f L) = (false, eval e (envF ((⟨x, qual, file, st⟩ : InD).nf c cc) f L)) :: starEach es (envF ((⟨x, qual, file, st⟩ : InD).nf c cc) f L))
    (hpl : ∀ (c cc f L : Addr), (backTo pos (starEach es (envF ((⟨x, qual, file, st⟩ : InD).nf c cc) f L))).any (·.1) = false)
    (hsw : ∀ (c cc f L : Addr), swapsWith (.Call (.Attribute (.Call (.Name "super" p0) [] [] p1) "__init__" apos) (e :: es) [] pos) none pos2.line (envF ((⟨x, qual, file, st⟩ : InD).nf c cc) f L) = pure false)
    (hsw2 : ∀ (c cc f L : Addr), swapsWith (.Name n1 q3) (some (.Attribute (.Name n0 q1) fld q2)) q4.line (envF ((⟨x, qual, file, st⟩ : InD).nf c cc) f L) = pure false) :
    XI K mg P x (He.ga K x) fld [n0, n1] Pv := by
  unfold tXi at c1
  simp only [Bool.and_eq_true] at c1
  obtain ⟨d1, d2, d3, d4, d5, d6, d7, d8, d9, d10, d11, d12⟩ := c1
  obtain ⟨hP1, hP2⟩ := Bool.and_eq_true_iff.mp hP
  have T : OexC K (He.ga K x) := ⟨by obtain ⟨nm, q, N, bs, bm, sn, sub, ab, col, dd, k0, k1, k2, k3, k5, e1, e2⟩ := clB_ok d1; exact ⟨nm, q, N, bs, bm, sn, sub, ab, col, dd, k0, k1, k2, k3, k5, e1, e2⟩, He.eqO_ok d2, of_decide_eq_true d3, of_decide_eq_true d4, d5⟩
  obtain ⟨c, cc, oc, od, osl, doc, pm, ctv, oc2, od2, osl2, o3, vs, tf, lk, hcd, lc, lcc, hod, hov⟩ := InD.fn (d := ⟨x, qual, file, st⟩) c5 c4
  have lk : K.lookup (iAd K x) = some ⟨oc, od, .func (((⟨x, qual, file, st⟩ : InD).nf c cc).fd doc pm ctv), osl⟩ := lk
  obtain ⟨nm, q, N, bs, bm, sn, sub, ab, col, dd, k0, k1, k2, k3, k5, hC0, hbm⟩ := T.cls
  obtain ⟨cdC, hC, hal⟩ : ∃ cdC, PySem.W.clsIn K (He.ga K x) = some cdC ∧ PySem.W.alongIn K "__init__" ((cdC.mro.dropWhile (· != .ref (He.ga K x))).drop 1) = some (some (.builtin "ValueError.__init__")) := by
    split at d10
    · rename_i cd e1
      exact ⟨cd, e1, He.eqO_ok d10⟩
    · cases d10
  refine ⟨T, glo X GN c2, iAd K x, _, He.eqO_ok d6, of_decide_eq_true d7, .all fun us hl => hbind c cc doc pm ctv us hl, fun w base => ?_⟩
  have hN0 : ∀ (A : Around) (outer : List Env) (s : Shared) (H : Hp) (E : XK), Vis (ncx (L2.CX P w) P w K mg base [n0, n1, "__class__"] ((⟨x, qual, file, st⟩ : InD).nf c cc) (iAd K x) A outer s H E).env.scope n0 := fun A outer s H E => .inl (S.par n0 (.head _))
  have hN1 : ∀ (A : Around) (outer : List Env) (s : Shared) (H : Hp) (E : XK), Vis (ncx (L2.CX P w) P w K mg base [n0, n1, "__class__"] ((⟨x, qual, file, st⟩ : InD).nf c cc) (iAd K x) A outer s H E).env.scope n1 := fun A outer s H E => .inl (S.par n1 (.tail _ (.head _)))
  refine fnok_init (k := 0) (Pv := Pv) (ta := aM K (fun _ _ _ _ => False) am) (t2 := tOst K fld (tVar 0) (tVar 1)) (ar := ar) (pl := fun env => (do return (← importBound (.Call (.Name "super" p0) [] [] p1) env).getD true)) T lk hcd S rfl lc hb hks hp har lcc hod hov hP1 (by simpa using hP2) (free X GN c3) (by decide +kernel) hC0 rfl (of_decide_eq_true d9) hC hal (of_decide_eq_true d11) (He.eqO_ok d12)
    (fun A outer s H E => ha w base c cc (iAd K x) A outer s H E) (fun a v H R pv hR => ?_) (fun A outer s H E => ps_ost (pe_var (i := 0) rfl (hN0 A outer s H E) hn.1 hn.2.1) (pe_var (i := 1) rfl (hN1 A outer s H E) hn.2.2.1 hn.2.2.2) (hsw2 c cc (iAd K x) s.heap.objs.size)) (fun a v H D0 he hD => ?_) (fun L => hev c cc (iAd K x) L) (fun L => hse c cc (iAd K x) L) (fun L => hpl c cc (iAd K x) L) (fun L => hsw c cc (iAd K x) L)
  · obtain ⟨u, us, ru, eu, hl⟩ := hm a (He.ga K x) v pv
    refine ⟨⟨[], H⟩, [some (.xv a none 0 none), some u, some (.xv (He.ga K x) none 0 none)], [], ⟨fun _ _ z => z, rfl, List.nodup_nil, (fun _ z => by cases z), (fun n a o z => by simp at z)⟩, ⟨by rfl, fun i u' z => ?_⟩, ?_⟩
    · match i, z with
      | 0, z => cases z; exact ⟨_, rfl, .xv rfl⟩
      | 1, z => cases z; exact ⟨_, rfl, ru _⟩
      | 2, z => cases z; exact ⟨_, rfl, .xv rfl⟩
    · rw [eu]
      exact fun vs H1 g1 l1 hr1 rs => hR vs H1 (by rw [rs.len]; exact hl) fun b o z => hr1.ex b o (l1.F b o z)
  · exact ⟨v, rfl, .ref a, rfl, a, _, rfl, T, He.eqO_ok d8, .inl ⟨he, fun dx h1 h2 => hD dx h1 h2⟩⟩
end
/-! ### the head, such classes told, too -/
def refsI (o : Obj) : List Addr := He.refsD o ++ match o.data with
  | .func fd => fd.closure.map (·.2)
  | _ => []
def lvlI (g : Addr → Option Obj) : Nat → List Addr → List Addr
  | 0, as => as
  | n + 1, as => as ++ lvlI g n (as.flatMap fun a => ((g a).map refsI).getD [])
def obsI (ts : List Ts) (fn : List He.DefD) (fi : List InD) (K : Fr) : He.AlD := (((ts.all fun t => t K) && fn.all fun d => d.ok K) && fi.all fun d => fnB K d.x d.qual d.file, (fn.map fun d => He.fnW K d.at_) ++ fi.map fun d => fnWI K d.x)
def valI (fn : List He.DefD) (fi : List InD) : He.AlD := (true, fn.map He.DefD.val ++ fi.map InD.val)
def obsAtI (n : Nat) (ts : List Ts) (fn : List He.DefD) (fi : List InD) (g : Addr → Option Obj) : He.AlD := obsI ts fn fi (He.frG g (lvlI g n [mainGlobals, cStatics]))
def SaysI (ts : List Ts) (fn : List He.DefD) (fi : List InD) (K : Fr) : Prop := obsI ts fn fi K = valI fn fi
def hookI (n : Nat) (ts : List Ts) (fn : List He.DefD) (fi : List InD) : PySem.W.Hook :=
  { α := He.AlD, obs := fun s => obsAtI n ts fn fi s.heap.get?, val := fun _ => valI fn fi, says := fun _ h => ∃ K : Fr, K.In h ∧ SaysI ts fn fi K,
    of := fun _ _ z => ⟨_, He.frG_in, z⟩, keeps := fun _ _ _ y k => y.elim fun K y => ⟨K, PySem.W.Frag.In.keeps y.1 k, y.2⟩ }
theorem obsI_eq {n : Nat} {ts : List Ts} {fn : List He.DefD} {fi : List InD} (s : PySem.W.SharedT) : obsAtI n ts fn fi (HandSHeadRun.getT s) = (hookI n ts fn fi).obs s.abs :=
  congrArg (obsAtI n ts fn fi) (funext fun a => HandSHeadRun.getT_eq s a)
theorem SaysI.says {ts : List Ts} {fn : List He.DefD} {fi : List InD} {K : Fr} (c : SaysI ts fn fi K) : Says ts fn K := by
  have c1 : (((ts.all fun t => t K) && fn.all fun d => d.ok K) && fi.all fun d => fnB K d.x d.qual d.file) = true := congrArg Prod.fst c
  have c2 : (fn.map fun d => He.fnW K d.at_) ++ fi.map (fun d => fnWI K d.x) = fn.map He.DefD.val ++ fi.map InD.val := congrArg Prod.snd c
  have c3 := (List.append_inj c2 (by simp)).1
  exact Prod.ext (Bool.and_eq_true_iff.mp c1).1 c3
theorem SaysI.i {ts : List Ts} {fn : List He.DefD} {fi : List InD} {K : Fr} (c : SaysI ts fn fi K) (i : Nat) {d : InD} (z : fi[i]? = some d := by rfl) : fnB K d.x d.qual d.file = true ∧ fnWI K d.x = d.val := by
  have c1 : (((ts.all fun t => t K) && fn.all fun d => d.ok K) && fi.all fun d => fnB K d.x d.qual d.file) = true := congrArg Prod.fst c
  have c2 : (fn.map fun d => He.fnW K d.at_) ++ fi.map (fun d => fnWI K d.x) = fn.map He.DefD.val ++ fi.map InD.val := congrArg Prod.snd c
  have c3 := (List.append_inj c2 (by simp)).2
  have c4 := congrArg (fun l => l[i]?) c3
  simp only [List.getElem?_map, z, Option.map_some] at c4
  exact ⟨List.all_eq_true.mp (Bool.and_eq_true_iff.mp c1).2 d (List.mem_of_getElem? z), Option.some.inj c4⟩
/-- except C as e: e.f may be read -/
def tXf (x f : Str) : Ts := fun K => xfB K (He.ga K x) && He.eqO (PySem.W.findIn K (.ref (He.ga K x)) f) (some none)
theorem xf {K : Fr} {x f : Str} (c : tXf x f K = true) : XfC K (He.ga K x) ∧ PySem.W.findIn K (.ref (He.ga K x)) f = some none :=
  have ⟨c1, c2⟩ := Bool.and_eq_true_iff.mp c
  ⟨xfB_ok c1, He.eqO_ok c2⟩
theorem walkI {l : PySem.W.OpenLaw} {k : Nat} {q : Program} {loose : List Str} {XP : (Str → Option Value) → Heap → Prop} {ts : List Ts} {fn : List He.DefD} {fi : List InD} {n : Nat} {d : DefRec} {x : Str}
    (hn : l.most = some 63) (hdf : d.params.defaults = []) (hr : Room k callerA)
    (F : ∀ (w : World) (mg : Str → Option Value) (fa : Addr) (h : Heap) (K : Fr), K.In h → h.Ns mainGlobals mg → mg d.name = some (.ref fa) → SaysI ts fn fi K →
      ∃ fd : FuncData, (∀ (s : Shared) (u : Value), BindsTo s fd ⟨[u], []⟩ [(x, u)]) ∧ ∀ base : Heap, K.In base → base.Ns mainGlobals mg → FnOk l.prog w K mg base (L2.CX l.prog w) k fa fd [x] (spEnd K)) :
    PySem.W.WalkO q loose XP (hookI n ts fn fi).says l.row.toRowW d [] (fun f vs => PySem.call f vs) := by
  refine Att.attach_call hn hdf ?_
  intro w s0 s1 mg mb fa o p1 p2 p3 a vs ns G Y ho hd hc hm hobj hi hl hg
  obtain ⟨K, KX, c⟩ := Y
  obtain ⟨fd, hb, hF⟩ := F w mg fa _ K KX G.T.g hm c
  refine law_call KX G.T.g G.T.b G.T.builtins G.T.nolimit hg hobj hi (Nat.le_trans hl (by decide)) hr hF hb (fun H _ hS => ⟨a, ns, rfl, hl, hS, fun _ => rfl⟩) fun H e s' z => ?_
  obtain ⟨_, _, _, _, _, _, _, _, _, _, _, _, z⟩ := z
  exact z
end QH

set_option Elab.async false
set_option linter.all false
set_option maxRecDepth 100000
set_option maxHeartbeats 1000000
/-! QF: int(text of digits). -/
namespace Q
open PySem PySem.Spec PyProof.Rows L2 TL
/-- the number that a row of digits tells -/
def dVal (s : List Nat) : Int := ((s.foldl (fun a c => a * 10 + (c - 48)) 0 : Nat) : Int)
def isDig (c : Nat) : Bool := decide (48 ≤ c ∧ c ≤ 57)
section
variable {K : Fr} {g g' : G} {E : XK} {W : WX} {X : Cx} {H : Hp} {h : Sto} {σ : L2.St} {e : Expr} {es : List Expr} {am : AM} {pos p : Pos} {n : Str}
def uIntS (us : List U) (h : Sto) : R U := match us with
  | [.str s] => if s.all isDig = true ∧ s ≠ [] ∧ s.length ≤ 640 then .ok (.int (dVal s)) h else .bad
  | _ => .bad
theorem ok_intS : CallOK K (fun xs H Q => ∃ a n, xs = [.str a] ∧ PySem.intText? a = some n ∧ a.length ≤ 640 ∧ Q (.int n) H) uIntS := by
  intro E g H h vs us Q hr rv t
  unfold uIntS at t
  split at t
  · rename_i s
    split at t
    · rename_i z
      obtain ⟨z1, z2, z3⟩ := z
      cases rv with
      | cons r1 r2 =>
        cases r2
        cases r1
        refine ⟨⟨s.toArray⟩, dVal s, rfl, ?_, ?_, t _ _ g (Le.refl _) hr (.int _)⟩
        · refine PySem.intText_digits (x := ⟨s.toArray⟩) (fun c hc => ?_) (by simpa using z2) (by show s.toArray.size ≤ 4300; simp; omega)
          have hc : c ∈ s := by simpa using hc
          exact of_decide_eq_true (List.all_eq_true.mp z1 c hc)
        · show s.toArray.size ≤ 640
          simpa using z3
    · exact t.elim
  · exact t.elim
theorem se_intS (hg : Gl X n) (hm : X.mg n = none) (ha : PA X (e :: es) (aM X.K W am)) (hn : n ≠ "__name__" := by decide) (hdb : (n == ("__debug__" : Str)) = false := by decide)
    (he : starEach (e :: es) X.env = (false, eval e X.env) :: starEach es X.env := by rfl) (hpl : (backTo pos (starEach es X.env)).any (·.1) = false := by rfl)
    (hv : bootBuiltins n = some (.type "int") := by decide +kernel) : PE X (.Call (.Name n p) (e :: es) [] pos) (tM X.K W (mCB uIntS am)) := se_ct call_int_str ok_intS hg hm hv ha hn hdb he hpl
end
end Q

set_option Elab.async false
set_option linter.all false
/-! PDef: pure meanings. The second layer: values without a store, owned things as trees. Nothing of the kit is used here. -/
namespace P
abbrev DK := Sum Int (List Nat)
/-- data that nobody changes any more -/
inductive D where
  | non | bl (b : Bool) | int (i : Int) | str (s : List Nat) | tup (ds : List D) | lst (ds : List D) | kl (ds : List D)
  | dK (kvs : List (DK × D)) | dT (kvs : List (List DK × D)) | ins (C : Nat) (fs : List (String × D)) | dKl (kvs : List (DK × D))
  deriving Inhabited, Repr
/-- what a slot holds: data, or a thing that only this slot knows (a tree of such things) -/
inductive T where
  | hole | leaf (d : D) | ls (ds : List D) | lT (ts : List T) | dK (kvs : List (DK × D)) | dT (kvs : List (List DK × D)) | is (C : Nat) (fs : List (String × T))
  deriving Inhabited, Repr
mutual
/-- the tree is nobody's any more -/
def T.fz : T → Option D
  | .hole => none
  | .leaf d => some d
  | .ls ds => some (.lst ds)
  | .lT ts => match T.fzs ts with
    | some ds => some (.lst ds)
    | none => none
  | .dK kvs => some (.dK kvs)
  | .dT kvs => some (.dT kvs)
  | .is C fs => match T.fzf fs with
    | some ds => some (.ins C ds)
    | none => none
def T.fzs : List T → Option (List D)
  | [] => some []
  | t :: ts => match T.fz t, T.fzs ts with
    | some d, some ds => some (d :: ds)
    | _, _ => none
def T.fzf : List (String × T) → Option (List (String × D))
  | [] => some []
  | (f, t) :: r => match T.fz t, T.fzf r with
    | some d, some ds => some ((f, d) :: ds)
    | _, _ => none
end
def leaves : List (String × T) → Option (List (String × D))
  | [] => some []
  | (f, .leaf d) :: r => (leaves r).map ((f, d) :: ·)
  | _ :: _ => none
/-- what a slot's thing looks like from above -/
def T.vw : T → Option D
  | .leaf d => some d
  | .ls ds => some (.lst ds)
  | .dK kvs => some (.dK kvs)
  | .dT kvs => some (.dT kvs)
  | .is C fs => (leaves fs).map (.ins C)
  | _ => none
mutual
/-- no list, dict or object in it -/
def D.flat : D → Bool
  | .tup ds => D.flats ds
  | .non => true
  | .bl _ => true
  | .int _ => true
  | .str _ => true
  | _ => false
def D.flats : List D → Bool
  | [] => true
  | d :: ds => d.flat && D.flats ds
end
mutual
def T.flat : T → Bool
  | .hole => true
  | .leaf d => d.flat
  | .ls ds => D.flats ds
  | .lT ts => T.flats ts
  | .dK kvs => D.flats (kvs.map (·.2))
  | .dT kvs => D.flats (kvs.map (·.2))
  | .is _ fs => T.flatf fs
def T.flats : List T → Bool
  | [] => true
  | t :: ts => t.flat && T.flats ts
def T.flatf : List (String × T) → Bool
  | [] => true
  | (_, t) :: r => t.flat && T.flatf r
end
/-! places -/
def ixN (n : Nat) (i : Int) : Option Nat := if 0 ≤ i then (if i < n then some i.toNat else none) else if -(n : Int) ≤ i then some (i + n).toNat else none
def atI {α : Type} (l : List α) (i : Int) : Option α := (ixN l.length i).bind fun k => l[k]?
def putF {α : Type} (f : String) (v : α) : List (String × α) → List (String × α)
  | [] => [(f, v)]
  | (g, x) :: r => if g = f then (g, v) :: r else (g, x) :: putF f v r
inductive Ac where
  | fld (Cs : List Nat) (f : String) | ix (i : Int)
def T.get1 : T → Ac → Option T
  | .lT ts, .ix i => atI ts i
  | .ls ds, .ix i => (atI ds i).map .leaf
  | .is C fs, .fld Cs f => if C ∈ Cs then fs.lookup f else none
  | .leaf (.ins C fs), .fld Cs f => if C ∈ Cs then (fs.lookup f).map .leaf else none
  | .leaf (.lst ds), .ix i => (atI ds i).map .leaf
  | .leaf (.tup ds), .ix i => (atI ds i).map .leaf
  | _, _ => none
def T.set1 : T → Ac → T → T
  | .lT ts, .ix i, s => match ixN ts.length i with
    | some k => .lT (ts.set k s)
    | none => .lT ts
  | .is C fs, .fld _ f, s => .is C (putF f s fs)
  | t, _, _ => t
def T.get : T → List Ac → Option T
  | t, [] => some t
  | t, a :: r => match t.get1 a with
    | some s => s.get r
    | none => none
def T.set : T → List Ac → T → T
  | _, [], s => s
  | t, a :: r, s => match t.get1 a with
    | some u => t.set1 a (u.set r s)
    | none => t
abbrev Env := List T
inductive PR (α : Type) where
  | ok (a : α) (e : Env)
  | exc (C : Nat) (x : Option (List (String × D))) (e : Env)
  | bad
  deriving Repr
inductive PRS where
  | nx (e : Env)
  | rt (t : T) (e : Env)
  | bk (e : Env)
  | ct (e : Env)
  | ex (C : Nat) (x : Option (List (String × D))) (e : Env)
  | bad
  deriving Repr
inductive PF where
  | ok (t : T) (ws : List T)
  | exc (C : Nat) (x : Option (List (String × D)))
  | bad
  deriving Repr
def PR.bind {α β : Type} (r : PR α) (f : α → Env → PR β) : PR β := match r with
  | .ok a e => f a e
  | .exc C x e => .exc C x e
  | .bad => .bad
def PR.st {α : Type} (r : PR α) (f : α → Env → PRS) : PRS := match r with
  | .ok a e => f a e
  | .exc C x e => .ex C x e
  | .bad => .bad
/-- only what ends well -/
def PR.no {α : Type} (r : PR α) : PR α := match r with
  | .ok a e => .ok a e
  | _ => .bad
def PRS.no (r : PRS) : PRS := match r with
  | .ex _ _ _ => .bad
  | r => r
abbrev PE := Env → PR D
abbrev PT := Env → PR T
abbrev PB := Env → PR Bool
abbrev PDs := Env → PR (List D)
abbrev PTs := Env → PR (List T)
abbrev PO := Env → PR (Option Int)
abbrev PS := Env → PRS
abbrev PSem := List T → PF
def oE {α : Type} (o : Option α) (e : Env) : PR α := match o with
  | some a => .ok a e
  | none => .bad
/-! ### expressions -/
def pVar (i : Nat) : PE := fun e => match e[i]? with
  | some (.leaf d) => .ok d e
  | _ => .bad
/-- the thing in the slot becomes data -/
def pFv (i : Nat) : PE := fun e => match e[i]? with
  | some t => (match t.fz with
    | some d => .ok d (e.set i (.leaf d))
    | none => .bad)
  | none => .bad
/-- it is only looked at -/
def pVw (i : Nat) : PE := fun e => match e[i]? with
  | some t => oE t.vw e
  | none => .bad
/-- it leaves the slot -/
def pMv (i : Nat) : PT := fun e => match e[i]? with
  | some .hole => .bad
  | some t => .ok t (e.set i .hole)
  | none => .bad
def pC (d : D) : PE := fun e => .ok d e
def pLf (a : PE) : PT := fun e => (a e).bind fun d e1 => .ok (.leaf d) e1
def pFz (a : PT) : PE := fun e => (a e).bind fun t e1 => oE t.fz e1
def pBin (g : D → D → Option D) (a b : PE) : PE := fun e => (a e).bind fun x e1 => (b e1).bind fun y e2 => oE (g x y) e2
def pUn (g : D → Option D) (a : PE) : PE := fun e => (a e).bind fun x e1 => oE (g x) e1
def cMul (i j : Int) : Prop := i.natAbs ≤ 9000000000000000000 ∨ j.natAbs ≤ 9000000000000000000
instance : ∀ i j, Decidable (cMul i j) := fun i j => by unfold cMul; exact inferInstance
def gSub : D → D → Option D
  | .int i, .int j => some (.int (i - j))
  | _, _ => none
def gMul : D → D → Option D
  | .int i, .int j => if cMul i j then some (.int (i * j)) else none
  | _, _ => none
def gDiv : D → D → Option D
  | .int i, .int j => if 0 < j ∧ j.natAbs < 1073741824 then some (.int (i / j)) else none
  | _, _ => none
def gMod : D → D → Option D
  | .int i, .int j => if 0 < j then some (.int (i % j)) else none
  | _, _ => none
def gPow : D → D → Option D
  | .int i, .int j => if 0 ≤ j ∧ j.natAbs ≤ 1000 ∧ 0 ≤ i ∧ i.natAbs < 1000 then some (.int (i ^ j.toNat)) else none
  | _, _ => none
def gNeg : D → Option D
  | .int i => some (.int (-i))
  | _ => none
def gNot : D → Option D
  | .bl b => some (.bl (!b))
  | _ => none
/-- the sum: numbers, texts, lists (a new one) -/
def tAdd : D → D → Option T
  | .int i, .int j => some (.leaf (.int (i + j)))
  | .str s, .str t => if s.length + t.length ≤ 16000000 then some (.leaf (.str (s ++ t))) else none
  | .lst s, .lst t => if s.length + t.length ≤ 16000000 then some (.ls (s ++ t)) else none
  | .tup s, .tup t => if s.length + t.length ≤ 16000000 then some (.leaf (.tup (s ++ t))) else none
  | _, _ => none
def pAdd (a b : PE) : PT := fun e => (a e).bind fun x e1 => (b e1).bind fun y e2 => oE (tAdd x y) e2
def pAnd (a b : PE) : PE := fun e => (a e).bind fun x e1 => match x with
  | .bl true => b e1
  | .bl false => .ok (.bl false) e1
  | _ => .bad
def pOr (a b : PE) : PE := fun e => (a e).bind fun x e1 => match x with
  | .bl false => b e1
  | .bl true => .ok (.bl true) e1
  | _ => .bad
def pIf (t : PB) (a b : PE) : PE := fun e => (t e).bind fun c e1 => if c = true then a e1 else b e1
def pIfT (t : PB) (a b : PT) : PT := fun e => (t e).bind fun c e1 => if c = true then a e1 else b e1
def dNil : PDs := fun e => .ok [] e
def dCons (a : PE) (r : PDs) : PDs := fun e => (a e).bind fun d e1 => (r e1).bind fun ds e2 => .ok (d :: ds) e2
def tNil : PTs := fun e => .ok [] e
def tCons (a : PT) (r : PTs) : PTs := fun e => (a e).bind fun d e1 => (r e1).bind fun ds e2 => .ok (d :: ds) e2
def pTup (am : PDs) : PE := fun e => (am e).bind fun ds e1 => if ds.length ≤ 16000000 then .ok (.tup ds) e1 else .bad
def pLst (am : PDs) : PT := fun e => (am e).bind fun ds e1 => if ds.length ≤ 16000000 then .ok (.ls ds) e1 else .bad
def pLsT (am : PTs) : PT := fun e => (am e).bind fun ds e1 => if ds.length ≤ 16000000 then .ok (.lT ds) e1 else .bad
def gIx : D → D → Option D
  | .kl ds, .int i => atI ds i
  | .str s, .int i => if s.length ≤ 16000000 then (atI s i).map fun c => .str [c] else none
  | .lst ds, .int i => atI ds i
  | .tup ds, .int i => atI ds i
  | _, _ => none
/-- a part of a list -/
def sIx (n d : Nat) : Option Int → Nat
  | none => d
  | some i => if i < 0 then (i + n).toNat else min i.toNat n
def cut {α : Type} (xs : List α) (lo hi : Option Int) : List α := (xs.drop (sIx xs.length 0 lo)).take (sIx xs.length xs.length hi - sIx xs.length 0 lo)
def oNo : PO := fun e => .ok none e
def oSo (a : PE) : PO := fun e => (a e).bind fun x e1 => match x with
  | .int i => .ok (some i) e1
  | _ => .bad
def tSl : D → Option Int → Option Int → Option T
  | .str s, lo, hi => if s.length ≤ 16000000 then some (.leaf (.str (cut s lo hi))) else none
  | .tup us, lo, hi => some (.leaf (.tup (cut us lo hi)))
  | .lst us, lo, hi => some (.ls (cut us lo hi))
  | _, _, _ => none
def pSl (a : PE) (lo hi : PO) : PT := fun e => (a e).bind fun x e1 => (lo e1).bind fun l e2 => (hi e2).bind fun u e3 => oE (tSl x l u) e3
def gFld (Cs : List Nat) (f : String) : D → Option D
  | .ins C fs => if C ∈ Cs then fs.lookup f else none
  | _ => none
/-- calls of built-ins on data -/
def pCB (g : List D → Option D) (am : PDs) : PE := fun e => (am e).bind fun ds e1 => oE (g ds) e1
def pCT (g : List D → Option T) (am : PDs) : PT := fun e => (am e).bind fun ds e1 => oE (g ds) e1
def gLen : List D → Option D
  | [.kl ds] => some (.int ds.length)
  | [.str s] => if s.length ≤ 16000000 then some (.int s.length) else none
  | [.lst ds] => some (.int ds.length)
  | [.tup ds] => some (.int ds.length)
  | _ => none
def gInt : List D → Option D
  | [.int i] => some (.int i)
  | [.bl b] => some (.int (if b then 1 else 0))
  | _ => none
def gList : List D → Option T
  | [.kl ds] => some (.ls ds)
  | [.lst ds] => some (.ls ds)
  | [.tup ds] => some (.ls ds)
  | _ => none
def gTuple : List D → Option D
  | [.lst ds] => some (.tup ds)
  | [.tup ds] => some (.tup ds)
  | _ => none
def gMin : List D → Option D
  | [.int i, .int j] => some (.int (if j < i then j else i))
  | _ => none
def gMax : List D → Option D
  | [.int i, .int j] => some (.int (if j > i then j else i))
  | _ => none
def gAbs : List D → Option D
  | [.int i] => some (.int (if i < 0 then -i else i))
  | _ => none
def strL : List D → Option (List (List Nat))
  | [] => some []
  | .str s :: r => match strL r with
    | some ss => some (s :: ss)
    | none => none
  | _ :: _ => none
def joinL (s : List Nat) : List (List Nat) → List Nat
  | [] => []
  | [x] => x
  | x :: y :: r => x ++ (s ++ joinL s (y :: r))
def gJoin (s : List Nat) : D → Option D
  | .lst ds => (strL ds).bind fun ss => if (ss.map List.length).sum + ss.length * s.length ≤ 16000000 then some (.str (joinL s ss)) else none
  | .tup ds => (strL ds).bind fun ss => if (ss.map List.length).sum + ss.length * s.length ≤ 16000000 then some (.str (joinL s ss)) else none
  | _ => none
/-- a text's method of one argument -/
def pSM1 (g : List Nat → D → Option D) (a b : PE) : PE := fun e => (a e).bind fun x e1 => match x with
  | .str s => (b e1).bind fun y e2 => oE (g s y) e2
  | _ => .bad
/-! ### tests -/
mutual
def D.eq : D → D → Bool
  | .non, .non => true
  | .bl a, .bl b => a == b
  | .bl a, .int j => (if a then 1 else 0) == j
  | .int i, .bl b => i == (if b then 1 else 0)
  | .int i, .int j => i == j
  | .str x, .str y => x == y
  | .lst xs, .lst ys => D.eqs xs ys
  | .tup xs, .tup ys => D.eqs xs ys
  | _, _ => false
def D.eqs : List D → List D → Bool
  | [], [] => true
  | x :: xs, y :: ys => D.eq x y && D.eqs xs ys
  | [], _ :: _ => false
  | _ :: _, [] => false
end
mutual
/-- nested at most so deep, no dict, no object -/
def D.ok : Nat → D → Bool
  | _, .non => true
  | _, .bl _ => true
  | _, .int _ => true
  | _, .str s => s.all (· < 1114112)
  | 0, _ => false
  | n + 1, .tup ds => D.oks n ds
  | n + 1, .lst ds => D.oks n ds
  | _, _ => false
def D.oks : Nat → List D → Bool
  | _, [] => true
  | n, d :: ds => D.ok n d && D.oks n ds
end
def atom : D → Bool
  | .non => true
  | .bl _ => true
  | .int _ => true
  | .str _ => true
  | _ => false
/-- a number beside a truth -/
def mixed : D → D → Bool
  | .bl _, .int _ => true
  | .int _, .bl _ => true
  | _, _ => false
def cEq (x y : D) : Option Bool := if (atom x && atom y && !mixed x y) || (D.ok 50 x && D.ok 50 y) then some (D.eq x y) else none
def cNe (x y : D) : Option Bool := (cEq x y).map not
def cI (p : Int → Int → Bool) : D → D → Option Bool
  | .int i, .int j => some (p i j)
  | _, _ => none
abbrev cLt := cI fun i j => decide (i < j)
abbrev cLe := cI fun i j => decide (i ≤ j)
abbrev cGt := cI fun i j => decide (j < i)
abbrev cGe := cI fun i j => decide (j ≤ i)
def cIs : D → D → Option Bool
  | .non, .non => some true
  | _, .non => some false
  | _, _ => none
def cIsN (x y : D) : Option Bool := (cIs x y).map not
def cIn0 (x : D) (ds : List D) : Option Bool := if (atom x && ds.all atom) || (D.ok 50 x && D.oks 49 ds) then some (ds.any fun y => D.eq y x) else none
def keyOf : D → Option DK
  | .int i => some (.inl i)
  | .str s => some (.inr s)
  | _ => none
def keysOf : List D → Option (List DK)
  | [] => some []
  | d :: ds => match keyOf d, keysOf ds with
    | some k, some ks => some (k :: ks)
    | _, _ => none
def cIn : D → D → Option Bool
  | x, .lst ds => cIn0 x ds
  | x, .tup ds => if (atom x && ds.all atom) then some (ds.any fun y => D.eq y x) else none
  | _, _ => none
def cNin (x y : D) : Option Bool := (cIn x y).map not
def tCmp (f : D → D → Option Bool) (a b : PE) : PB := fun e => (a e).bind fun x e1 => (b e1).bind fun y e2 => oE (f x y) e2
def pB (t : PB) : PE := fun e => (t e).bind fun b e1 => .ok (.bl b) e1
def tAnd (a b : PB) : PB := fun e => (a e).bind fun c e1 => if c = true then b e1 else .ok false e1
def tOr (a b : PB) : PB := fun e => (a e).bind fun c e1 => if c = true then .ok true e1 else b e1
def tNot (a : PB) : PB := fun e => (a e).bind fun c e1 => .ok (!c) e1
def truD : D → Option Bool
  | .non => some false
  | .bl b => some b
  | .int i => some (i != 0)
  | .str s => if s.length ≤ 16000000 then some (!s.isEmpty) else none
  | .tup us => some (!us.isEmpty)
  | .lst us => some (!us.isEmpty)
  | .dK us => some (!us.isEmpty)
  | _ => none
def tTru (a : PE) : PB := fun e => (a e).bind fun x e1 => oE (truD x) e1
def tYes : PB := fun e => .ok true e
inductive Ty where
  | bool | int | str | tuple | list | dict
def isD (T : Ty) : D → Option Bool
  | .non => some false
  | .bl _ => some (match T with | .bool => true | .int => true | _ => false)
  | .int _ => some (match T with | .int => true | _ => false)
  | .str _ => some (match T with | .str => true | _ => false)
  | .tup _ => some (match T with | .tuple => true | _ => false)
  | .lst _ => some (match T with | .list => true | _ => false)
  | .kl _ => some (match T with | .list => true | _ => false)
  | .dK _ => some (match T with | .dict => true | _ => false)
  | .dT _ => some (match T with | .dict => true | _ => false)
  | .ins _ _ => none
  | .dKl _ => none
def tIs (T : Ty) (a : PE) : PB := fun e => (a e).bind fun x e1 => oE (isD T x) e1
def tIs2 (T S : Ty) (a : PE) : PB := fun e => (a e).bind fun x e1 => oE ((isD T x).bind fun b => (isD S x).map fun c => b || c) e1
/-! ### paths -/
inductive Pth where
  | var (i : Nat) | fld (p : Pth) (Cs : List Nat) (f : String) | ix (p : Pth) (a : PE)
def Pth.root : Pth → Nat
  | .var i => i
  | .fld p _ _ => p.root
  | .ix p _ => p.root
def Pth.isVar : Pth → Bool
  | .var _ => true
  | _ => false
def getP (i : Nat) (r : List Ac) (e : Env) : Option T := match e[i]? with
  | some t => t.get r
  | none => none
def setP (i : Nat) (r : List Ac) (s : T) (e : Env) : Env := match e[i]? with
  | some t => e.set i (t.set r s)
  | none => e
/-- the path leads somewhere -/
def atP (i : Nat) (r : List Ac) (e : Env) : PR (List Ac) := match getP i r e with
  | some .hole => .bad
  | some _ => .ok r e
  | none => .bad
def Pth.ev : Pth → Env → PR (List Ac)
  | .var i, e => atP i [] e
  | .fld p Cs f, e => (p.ev e).bind fun r e1 => atP p.root (r ++ [.fld Cs f]) e1
  | .ix p a, e => (p.ev e).bind fun r e1 => (a e1).bind fun x e2 => match x with
    | .int i => atP p.root (r ++ [.ix i]) e2
    | _ => .bad
/-- what stands at a path, to be kept -/
def pRd (p : Pth) : PE := fun e => (p.ev e).bind fun r e1 => match getP p.root r e1 with
  | some (.leaf d) => .ok d e1
  | some t => (match t.fz with
    | some d => .ok d (setP p.root r (.leaf d) e1)
    | none => .bad)
  | none => .bad
/-- .. to be looked at -/
def pVp (p : Pth) : PE := fun e => (p.ev e).bind fun r e1 => match getP p.root r e1 with
  | some t => oE t.vw e1
  | none => .bad
/-- a change of the list at a path, behind values -/
def pUpd (p : Pth) (a : PDs) (g : T → List D → Option (D × T)) : PE := fun e => (p.ev e).bind fun r e1 => match getP p.root r e1 with
  | some (.ls _) => (a e1).bind fun ds e2 => (match getP p.root r e2 with
    | some t => (match g t ds with
      | some (d, s) => .ok d (setP p.root r s e2)
      | none => .bad)
    | none => .bad)
  | _ => .bad
def uApp : T → List D → Option (D × T)
  | .ls xs, [d] => if xs.length < 16000000 then some (.non, .ls (xs ++ [d])) else none
  | _, _ => none
def uExt : T → List D → Option (D × T)
  | .ls xs, [.lst ys] => if xs.length + ys.length ≤ 16000000 then some (.non, .ls (xs ++ ys)) else none
  | _, _ => none
/-! ### calls -/
def callR (r : PF) (e : Env) : PR T := match r with
  | .ok t _ => .ok t e
  | .exc C x => .exc C x e
  | .bad => .bad
def pCall (n : Nat) (sem : PSem) (am : PDs) : PT := fun e => (am e).bind fun ds e1 => if ds.length = n then callR (sem (ds.map .leaf)) e1 else .bad
def insT (k : Nat) (s : T) (ds : List D) : List T := (ds.take k).map .leaf ++ s :: (ds.drop k).map .leaf
/-- the argument at place k is the slot i, which the call may change -/
def pCallV (n k i : Nat) (sem : PSem) (am : PDs) : PT := fun e => match e[i]? with
  | some .hole => .bad
  | none => .bad
  | some _ => (am e).bind fun ds e1 => match e1[i]? with
    | some s => (if ds.length + 1 = n ∧ k ≤ ds.length then (match sem (insT k s ds) with
      | .ok t [w] => .ok t (e1.set i w)
      | .exc C x => .exc C x (e1.set i .hole)
      | _ => .bad) else .bad)
    | none => .bad
/-- .. which is only looked at during the call -/
def pCallB (n k i : Nat) (sem : PSem) (am : PDs) : PT := fun e => match e[i]? with
  | some .hole => .bad
  | none => .bad
  | some _ => (am e).bind fun ds e1 => match e1[i]? with
    | some s => (match s.fz with
      | some d => (if ds.length + 1 = n ∧ k ≤ ds.length then (match sem (insT k (.leaf d) ds) with
        | .ok t _ => if t.flat = true then .ok t e1 else .bad
        | .exc C none => .exc C none e1
        | _ => .bad) else .bad)
      | none => .bad)
    | none => .bad
/-- a method of the object at a path, which it may change -/
def pMeth (C : Nat) (m : String) (n : Nat) (sem : PSem) (p : Pth) (am : PDs) : PT := fun e => (p.ev e).bind fun r e1 => match getP p.root r e1 with
  | some (.is C1 fs) => (if C1 = C ∧ fs.lookup m = none then (am e1).bind fun ds e2 => (match getP p.root r e2 with
    | some (.is C2 fs2) => (if ds.length + 1 = n then (match sem (.is C2 fs2 :: ds.map .leaf) with
      | .ok t [w] => .ok t (setP p.root r w e2)
      | .exc C x => .exc C x (setP p.root r .hole e2)
      | _ => .bad) else .bad)
    | _ => .bad) else .bad)
  | _ => .bad
/-- .. which is only looked at -/
def pMethB (C : Nat) (m : String) (n : Nat) (sem : PSem) (p : Pth) (am : PDs) : PT := fun e => (p.ev e).bind fun r e1 => match getP p.root r e1 with
  | some (.is C1 fs) => (if C1 = C ∧ fs.lookup m = none then (am e1).bind fun ds e2 => (match getP p.root r e2 with
    | some (.is C2 fs2) => (match (T.is C2 fs2).fz with
      | some d => (if ds.length + 1 = n then (match sem (.leaf d :: ds.map .leaf) with
        | .ok t _ => if t.flat = true then .ok t e2 else .bad
        | .exc C none => .exc C none e2
        | _ => .bad) else .bad)
      | none => .bad)
    | _ => .bad) else .bad)
  | _ => .bad
/-- a method of an object that is data -/
def pMethD (C : Nat) (m : String) (n : Nat) (sem : PSem) (o : PE) (am : PDs) : PT := fun e => (o e).bind fun x e1 => match x with
  | .ins C1 fs => (if C1 = C ∧ fs.lookup m = none then (am e1).bind fun ds e2 => (if ds.length + 1 = n then callR (sem (.leaf (.ins C1 fs) :: ds.map .leaf)) e2 else .bad) else .bad)
  | _ => .bad
/-- a new object -/
def pMake (C n : Nat) (sem : PSem) (am : PDs) : PT := fun e => (am e).bind fun ds e1 => if ds.length + 1 = n then (match sem (.is C [] :: ds.map .leaf) with
  | .ok (.leaf .non) [w] => .ok w e1
  | _ => .bad) else .bad
/-! ### statements -/
def sNx : PS := fun e => .nx e
def sSeq (a b : PS) : PS := fun e => match a e with
  | .nx e1 => b e1
  | r => r
def sAsg (i : Nat) (a : PT) : PS := fun e => (a e).st fun t e1 => .nx (e1.set i t)
def setA : Env → List Nat → List D → Env
  | e, i :: is, d :: ds => setA (e.set i (.leaf d)) is ds
  | e, _, _ => e
/-- targets -/
inductive CT where
  | one (i : Nat) | tup (is : List Nat) | lst (is : List Nat) | nst (i : Nat) (is : List Nat) | nsl (is : List Nat) (i : Nat)
def CT.ix : CT → List Nat
  | .one i => [i]
  | .tup is => is
  | .lst is => is
  | .nst i is => i :: is
  | .nsl is i => i :: is
def CT.asg (c : CT) (d : D) (e : Env) : Option Env := match c, d with
  | .one i, d => some (e.set i (.leaf d))
  | .tup is, .tup ds => if ds.length = is.length then some (setA e is ds) else none
  | .lst is, .lst ds => if ds.length = is.length then some (setA e is ds) else none
  | .nst i is, .tup [x, .tup ds] => if ds.length = is.length then some (setA (e.set i (.leaf x)) is ds) else none
  | .nsl is i, .tup [.tup ds, x] => if ds.length = is.length then some ((setA e is ds).set i (.leaf x)) else none
  | _, _ => none
def sUnp (c : CT) (a : PE) : PS := fun e => (a e).st fun d e1 => match c.asg d e1 with
  | some e2 => .nx e2
  | none => .bad
def sRet (a : PT) : PS := fun e => (a e).st fun t e1 => .rt t e1
def sRetN : PS := fun e => .rt (.leaf .non) e
def sDrop (a : PT) : PS := fun e => (a e).st fun _ e1 => .nx e1
def sIf (t : PB) (a b : PS) : PS := fun e => (t e).st fun c e1 => if c = true then a e1 else b e1
def sBrk : PS := fun e => .bk e
def sCnt : PS := fun e => .ct e
/-- names that are not read any more -/
def kill : List Nat → Env → Env
  | [], e => e
  | i :: is, e => kill is (e.set i .hole)
def forL (K : List Nat) (c : CT) (b : PS) : List D → Env → PRS
  | [], e => .nx (kill K e)
  | d :: ds, e => match c.asg d (kill K e) with
    | some e1 => (match b e1 with
      | .nx e2 => forL K c b ds e2
      | .ct e2 => forL K c b ds e2
      | .bk e2 => .nx (kill K e2)
      | r => r)
    | none => .bad
def sFor (K : List Nat) (it : PDs) (c : CT) (b : PS) : PS := fun e => (it e).st fun ds e1 => forL K c b ds e1
def whL (K : List Nat) (t : PB) (b : PS) : Nat → Env → PRS
  | 0, _ => .bad
  | n + 1, e => (t (kill K e)).st fun c e1 => if c = true then (match b e1 with
      | .nx e2 => whL K t b n e2
      | .ct e2 => whL K t b n e2
      | .bk e2 => .nx (kill K e2)
      | r => r) else .nx e1
def sWhile (K : List Nat) (n : Nat) (t : PB) (b : PS) : PS := fun e => whL K t b n e
/-! iteration -/
def rng (lo : Int) (n : Nat) : List D := (List.range n).map fun i => .int (lo + (i : Nat))
/-- what is walked, out of arguments -/
def iOp (g : List D → Option (List D)) (am : PDs) : PDs := fun e => (am e).bind fun ds e1 => oE (g ds) e1
def gR1 : List D → Option (List D)
  | [.int j] => if j.natAbs ≤ 1000000000 then some (rng 0 j.toNat) else none
  | _ => none
def gR2 : List D → Option (List D)
  | [.int i, .int j] => if i.natAbs ≤ 1000000000 ∧ j.natAbs ≤ 1000000000 then some (rng i (j - i).toNat) else none
  | _ => none
abbrev iR1 := iOp gR1
abbrev iR2 := iOp gR2
def seqD : D → Option (List D)
  | .kl ds => some ds
  | .str s => some (s.map fun c => .str [c])
  | .lst ds => some ds
  | .tup ds => some ds
  | _ => none
def iE (a : PE) : PDs := fun e => (a e).bind fun x e1 => oE (seqD x) e1
def pairs (xs ys : List D) : List D := (xs.zip ys).map fun p => .tup [p.1, p.2]
def sqD : D → Option (List D)
  | .lst ds => some ds
  | .tup ds => some ds
  | .kl ds => some ds
  | _ => none
def gZ : List D → Option (List D)
  | [x, y] => (match sqD x, sqD y with
    | some us, some ts => some (pairs us ts)
    | _, _ => none)
  | _ => none
def gN : List D → Option (List D)
  | [.lst us] => some (pairs (rng 0 us.length) us)
  | _ => none
abbrev iZ := iOp gZ
abbrev iN := iOp gN
/-- comprehensions -/
def lcL (c : CT) (t : PB) (a : PE) (vs : List Nat) : List D → List D → Env → PR (List D)
  | [], acc, e => .ok acc e
  | d :: ds, acc, e => match c.asg d (kill vs e) with
    | some e1 => (t e1).no.bind fun b e2 => if b = true then (a e2).no.bind fun y e3 => if acc.length < 16000000 then lcL c t a vs ds (acc ++ [y]) e3 else .bad else lcL c t a vs ds acc e2
    | none => .bad
def pLc (it : PDs) (c : CT) (t : PB) (a : PE) (vs : List Nat) : PT := fun e => (it e).bind fun ds e1 => (lcL c t a vs ds [] e1).bind fun r e2 => .ok (.ls r) (kill vs e2)
/-- .. whose items are trees -/
def lcT (c : CT) (a : PT) (vs : List Nat) : List D → List T → Env → PR (List T)
  | [], acc, e => .ok acc e
  | d :: ds, acc, e => match c.asg d (kill vs e) with
    | some e1 => (a e1).no.bind fun y e3 => if acc.length < 16000000 then lcT c a vs ds (acc ++ [y]) e3 else .bad
    | none => .bad
def pLcT (it : PDs) (c : CT) (a : PT) (vs : List Nat) : PT := fun e => (it e).bind fun ds e1 => (lcT c a vs ds [] e1).bind fun r e2 => .ok (.lT r) (kill vs e2)
/-! stores -/
def sSetI (p : Pth) (i a : PE) : PS := fun e => (a e).st fun d e1 => (p.ev e1).st fun r e2 => (i e2).st fun x e3 => match x, getP p.root r e3 with
  | .int k, some (.ls ds) => (match ixN ds.length k with
    | some j => .nx (setP p.root r (.ls (ds.set j d)) e3)
    | none => .bad)
  | _, _ => .bad
def sAug (g : D → D → Option D) (i : Nat) (a : PE) : PS := fun e => match e[i]? with
  | some (.leaf x) => (a e).st fun y e1 => (match g x y with
    | some z => .nx (e1.set i (.leaf z))
    | none => .bad)
  | _ => .bad
def gIAdd : D → D → Option D
  | .int i, .int j => some (.int (i + j))
  | .str s, .str t => if s.length + t.length ≤ 16000000 then some (.str (s ++ t)) else none
  | _, _ => none
def sAugI (g : D → D → Option D) (p : Pth) (i a : PE) : PS := fun e => (p.ev e).st fun r e1 => (i e1).st fun x e2 => match x, getP p.root r e2 with
  | .int k, some (.ls ds) => (match atI ds k with
    | some z => (a e2).st fun y e3 => (match g z y, getP p.root r e3 with
      | some w, some (.ls ds2) => (match ixN ds2.length k with
        | some j => .nx (setP p.root r (.ls (ds2.set j w)) e3)
        | none => .bad)
      | _, _ => .bad)
    | none => .bad)
  | _, _ => .bad
def sSetF (Cs : List Nat) (f : String) (p : Pth) (a : PT) : PS := fun e => (a e).st fun t e1 => (p.ev e1).st fun r e2 => match getP p.root r e2 with
  | some (.is C fs) => if C ∈ Cs ∧ fs.length < 1000 then .nx (setP p.root r (.is C (putF f t fs)) e2) else .bad
  | _ => .bad
def sAugF (Cs : List Nat) (g : D → D → Option D) (f : String) (p : Pth) (a : PE) : PS := fun e => (p.ev e).st fun r e1 => match getP p.root r e1 with
  | some (.is C fs) => if C ∈ Cs then (match fs.lookup f with
    | some (.leaf z) => (a e1).st fun y e3 => (match g z y, getP p.root r e3 with
      | some w, some (.is C2 fs2) => if C2 = C ∧ fs2.length < 1000 then .nx (setP p.root r (.is C2 (putF f (.leaf w) fs2)) e3) else .bad
      | _, _ => .bad)
    | _ => .bad) else .bad
  | _ => .bad
/-! exceptions -/
def sRaise (C : Nat) : PS := fun e => .ex C none e
def sTry (ys : List Nat) (b s : PS) : PS := fun e => match b e with
  | .ex C _ e1 => if C ∈ ys then (s e1).no else .bad
  | r => r
/-! ### defs -/
def pick {α : Type} : List Bool → List α → List α
  | true :: m, a :: l => a :: pick m l
  | false :: m, _ :: l => pick m l
  | _, _ => []
def pFn (n : Nat) (mask : List Bool) (body : PS) : PSem := fun ts => if mask.length ≤ ts.length then (match body (ts ++ List.replicate (n - ts.length) .hole) with
  | .nx e => .ok (.leaf .non) (pick mask e)
  | .rt t e => .ok t (pick mask e)
  | .ex C x _ => .exc C x
  | _ => .bad) else .bad
/-! ### dicts whose keys are numbers and texts -/
def valK : List (DK × D) → DK → Option D
  | [], _ => none
  | (j, x) :: r, k => if j = k then some x else valK r k
def repK : List (DK × D) → DK → D → List (DK × D)
  | [], _, _ => []
  | (j, x) :: r, k, v => (if j = k then (j, v) else (j, x)) :: repK r k v
def putK (kvs : List (DK × D)) (k : DK) (v : D) : List (DK × D) := if (valK kvs k).isSome = true then repK kvs k v else kvs ++ [(k, v)]
def gDGet : D → D → Option D
  | .dK kvs, y => (keyOf y).bind fun k => valK kvs k
  | .dKl kvs, y => (keyOf y).bind fun k => valK kvs k
  | _, _ => none
def cDIn : D → D → Option Bool
  | y, .dK kvs => (keyOf y).map fun k => (valK kvs k).isSome
  | y, .dKl kvs => (keyOf y).map fun k => (valK kvs k).isSome
  | _, _ => none
def cDNin (y x : D) : Option Bool := (cDIn y x).map not
def gDLen : List D → Option D
  | [.dK kvs] => some (.int kvs.length)
  | [.dKl kvs] => some (.int kvs.length)
  | _ => none
def gDCopy : List D → Option T
  | [.dK kvs] => some (.dK kvs)
  | [.dKl kvs] => some (.dK kvs)
  | _ => none
def pDNew : PT := fun e => .ok (.dK []) e
def sSetK (p : Pth) (i a : PE) : PS := fun e => (a e).st fun d e1 => (p.ev e1).st fun r e2 => (i e2).st fun x e3 => match keyOf x, getP p.root r e3 with
  | some k, some (.dK ds) => if ds.length < 16000000 then .nx (setP p.root r (.dK (putK ds k d)) e3) else .bad
  | _, _ => .bad
def pairsK : List D → Option (List (DK × D))
  | [] => some []
  | k :: v :: r => (match keyOf k, pairsK r with
    | some k, some kvs => some ((k, v) :: kvs)
    | _, _ => none)
  | _ => none
def mergeP (kvs more : List (DK × D)) : List (DK × D) := more.foldl (fun acc kv => putK acc kv.1 kv.2) kvs
/-- a display: keys and values in turn -/
def pDisp (am : PDs) : PT := fun e => (am e).bind fun ds e1 => match pairsK ds with
  | some kvs => if kvs.length ≤ 15 then .ok (.dK (mergeP [] kvs)) e1 else .bad
  | none => .bad
def dkD : DK → D
  | .inl i => .int i
  | .inr s => .str s
/-- a walk over the keys of the dict in a slot, which nobody changes any more -/
def iKv (i : Nat) : PDs := fun e => match e[i]? with
  | some (.dK kvs) => .ok (kvs.map fun p => dkD p.1) (e.set i (.leaf (.dKl kvs)))
  | some (.leaf (.dKl kvs)) => .ok (kvs.map fun p => dkD p.1) e
  | _ => .bad
/-! ### more built-ins -/
def intsD : List D → Option (List Int)
  | [] => some []
  | .int i :: r => (intsD r).map (i :: ·)
  | _ :: _ => none
def blsD : List D → Option (List Bool)
  | [] => some []
  | .bl i :: r => (blsD r).map (i :: ·)
  | _ :: _ => none
/-- a function of the numbers of a list -/
def gLI (f : List Int → Option Int) : List D → Option D
  | [.lst ds] => (intsD ds).bind fun ns => (f ns).map .int
  | [.kl ds] => (intsD ds).bind fun ns => (f ns).map .int
  | _ => none
def gLB (f : List Bool → Bool) : List D → Option D
  | [.lst ds] => (blsD ds).map fun bs => .bl (f bs)
  | _ => none
def maxL : List Int → Option Int
  | [] => none
  | i :: r => some (r.foldl (fun a b => if b > a then b else a) i)
def minL : List Int → Option Int
  | [] => none
  | i :: r => some (r.foldl (fun a b => if b < a then b else a) i)
abbrev gSum := gLI fun ns => some ns.sum
abbrev gMax1 := gLI maxL
abbrev gMin1 := gLI minL
abbrev gAny := gLB fun bs => bs.any id
abbrev gAll := gLB fun bs => bs.all id
def insI (i : Int) : List Int → List Int
  | [] => [i]
  | j :: r => if i ≤ j then i :: j :: r else j :: insI i r
def sortI (ns : List Int) : List Int := ns.foldr insI []
def gSortI : List D → Option T
  | [.lst ds] => (intsD ds).map fun ns => .ls ((sortI ns).map .int)
  | [.kl ds] => (intsD ds).map fun ns => .ls ((sortI ns).map .int)
  | _ => none
/-! ### texts, places, chains -/
def gOrd : List D → Option D
  | [.str [c]] => some (.int c)
  | _ => none
def pChain (f f' : D → D → Option Bool) (a b c : PE) : PE := fun e => (a e).bind fun x e1 => (b e1).bind fun y e2 => (oE (f x y) e2).bind fun k e3 => if k = true then (c e3).bind fun z e4 => (oE (f' y z) e4).bind fun k e5 => .ok (.bl k) e5 else .ok (.bl false) e3
def gMulS : D → D → Option D
  | .str s, .int k => if s.length * k.toNat ≤ 16000000 ∧ k.natAbs ≤ 1000000000 then some (.str (List.replicate k.toNat s).flatten) else none
  | _, _ => none
/-- a sign in a text -/
def cInS : D → D → Option Bool
  | .str [c], .str z => some (decide (c ∈ z))
  | _, _ => none
def cNinS (x y : D) : Option Bool := (cInS x y).map not
/-- the first place of a sign in a text -/
def gIndexS (s : List Nat) : D → Option D
  | .str [c] => (s.findIdx? (· == c)).map fun (i : Nat) => D.int i
  | _ => none
/-- .. of a plain value in a list -/
def gIndexL : D → D → Option D
  | .lst ds, y => if ds.all atom = true ∧ atom y = true then (ds.findIdx? fun z => D.eq z y).map fun (i : Nat) => D.int i else none
  | _, _ => none
def pIndexL (a b : PE) : PE := fun e => (a e).bind fun x e1 => match x with
  | .lst ds => (b e1).bind fun y e2 => oE (gIndexL (.lst ds) y) e2
  | _ => .bad
/-- .. of a text in a written tuple -/
def gIndexT (ss : List (List Nat)) : List D → Option D
  | [.str z] => (ss.findIdx? (· == z)).map fun (i : Nat) => D.int i
  | _ => none
/-- the name of an exception goes -/
def PRS.cl (i : Nat) : PRS → PRS
  | .nx e => .nx (e.set i .hole)
  | .rt t e => .rt t (e.set i .hole)
  | .bk e => .bk (e.set i .hole)
  | .ct e => .ct (e.set i .hole)
  | .ex _ _ _ => .bad
  | .bad => .bad
def sTryAs (i : Nat) (ys : List Nat) (b s : PS) : PS := fun e => match b e with
  | .ex C x e1 => if C ∈ ys ∧ x = none ∧ i < e1.length then (s (e1.set i .hole)).cl i else .bad
  | r => r
/-! ### more of lists and numbers -/
def sInt (i : Int) : List Nat := (toString i).toList.map Char.toNat
def gStr : List D → Option D
  | [.int i] => if i.natAbs.log2 < 1920 then some (.str (sInt i)) else none
  | _ => none
def uPop : T → List D → Option (D × T)
  | .ls us, [] => (us[us.length - 1]?).map fun y => (y, .ls us.dropLast)
  | _, _ => none
def uIns : T → List D → Option (D × T)
  | .ls us, [.int i, d] => if us.length < 16000000 ∧ 0 ≤ i ∧ i < 1000000000000000000 then some (.non, .ls (us.take i.toNat ++ [d] ++ us.drop i.toNat)) else none
  | _, _ => none
/-- [::-1] of a list: a new one -/
def gRev : D → Option T
  | .lst us => some (.ls us.reverse)
  | .kl us => some (.ls us.reverse)
  | _ => none
def pRev (a : PE) : PT := fun e => (a e).bind fun x e1 => oE (gRev x) e1
def rngD (hi : Int) (n : Nat) : List D := (List.range n).map fun i => .int (hi - (i : Nat))
def gR3 : List D → Option (List D)
  | [.int i, .int j, .int c] => if i.natAbs ≤ 1000000000 ∧ j.natAbs ≤ 1000000000 ∧ c = -1 then some (rngD i (i - j).toNat) else none
  | _ => none
abbrev iR3 := iOp gR3
/-! ### comprehensions whose items may raise -/
def lcLX (c : CT) (t : PB) (a : PE) (vs : List Nat) : List D → List D → Env → PR (List D)
  | [], acc, e => .ok acc e
  | d :: ds, acc, e => match c.asg d (kill vs e) with
    | some e1 => (t e1).no.bind fun b e2 => if b = true then (a e2).bind fun y e3 => if acc.length < 16000000 then lcLX c t a vs ds (acc ++ [y]) e3 else .bad else lcLX c t a vs ds acc e2
    | none => .bad
/-- behind a comprehension: its names are gone -/
def PR.kl {α β : Type} (vs : List Nat) (f : α → β) : PR α → PR β
  | .ok a e => .ok (f a) (kill vs e)
  | .exc C x e => .exc C x (kill vs e)
  | .bad => .bad
def pLcX (it : PDs) (c : CT) (t : PB) (a : PE) (vs : List Nat) : PT := fun e => (it e).bind fun ds e1 => (lcLX c t a vs ds [] e1).kl vs .ls
/-! ### a number that only the kernel sees through (so that nobody walks a long range while a proof is read) -/
def kA (n : Nat) (i : Int) : Int := if n = 0 then i else kA (n / 2) i
termination_by n
decreasing_by omega
def kI (i : Int) : Int := kA 1 i
end P

set_option Elab.async false
set_option linter.all false
set_option maxRecDepth 100000
set_option maxHeartbeats 1000000
/-! PS1: what it means that a meaning over the store does as a pure meaning says. -/
namespace P
open Q (U O Sto Env' R RS EM TM AM SM Sem')
abbrev fs' (f : String) : PySem.Str := PySem.Str.ofString f
section
variable (cc : Nat → Nat) (h : Sto) (F : Nat → Prop)
mutual
inductive Dn : U → D → Prop
  | non : Dn .non .non
  | bl (b : Bool) : Dn (.bl b) (.bl b)
  | int (i : Int) : Dn (.int i) (.int i)
  | str (s : List Nat) : Dn (.str s) (.str s)
  | tup {us : List U} {ds : List D} (r : Dns us ds) : Dn (.tup us) (.tup ds)
  | fl {us : List U} {ds : List D} (r : Dns us ds) : Dn (.fl us) (.lst ds)
  | kl {us : List U} {ds : List D} (r : Dns us ds) : Dn (.kl us) (.kl ds)
  | lst {n : Nat} {us : List U} {ds : List D} (f : F n) (e : h[n]? = some (.lst us)) (r : Dns us ds) : Dn (.ref n) (.lst ds)
  | dK {n : Nat} {us : List (Q.DK × U)} {ds : List (DK × D)} (f : F n) (e : h[n]? = some (.dK us)) (k : us.map Prod.fst = ds.map Prod.fst) (r : Dns (us.map Prod.snd) (ds.map Prod.snd)) : Dn (.ref n) (.dK ds)
  | dT {n : Nat} {us : List (List Q.DK × U)} {ds : List (List DK × D)} (f : F n) (e : h[n]? = some (.dT us)) (k : us.map Prod.fst = ds.map Prod.fst) (r : Dns (us.map Prod.snd) (ds.map Prod.snd)) : Dn (.ref n) (.dT ds)
  | ins {n C : Nat} {us : List (PySem.Str × U)} {ds : List (String × D)} (f : F n) (e : h[n]? = some (.ins (cc C) us)) (k : us.map Prod.fst = ds.map fun p => fs' p.1) (r : Dns (us.map Prod.snd) (ds.map Prod.snd)) : Dn (.ref n) (.ins C ds)
  | dKl {n : Nat} {us : List (Q.DK × U)} {ds : List (DK × D)} (f : F n) (e : h[n]? = some (.dKl us)) (k : us.map Prod.fst = ds.map Prod.fst) (r : Dns (us.map Prod.snd) (ds.map Prod.snd)) : Dn (.ref n) (.dKl ds)
inductive Dns : List U → List D → Prop
  | nil : Dns [] []
  | cons {u : U} {d : D} {us : List U} {ds : List D} (x : Dn u d) (r : Dns us ds) : Dns (u :: us) (d :: ds)
end
mutual
inductive Ow : U → T → List Nat → Prop
  | hole (u : U) : Ow u .hole []
  | leaf {u : U} {d : D} (r : Dn cc h F u d) : Ow u (.leaf d) []
  | ls {n : Nat} {us : List U} {ds : List D} (e : h[n]? = some (.lst us)) (r : Dns cc h F us ds) : Ow (.ref n) (.ls ds) [n]
  | lT {n : Nat} {us : List U} {ts : List T} {fp : List Nat} (e : h[n]? = some (.lst us)) (r : Ows us ts fp) : Ow (.ref n) (.lT ts) (n :: fp)
  | dK {n : Nat} {us : List (Q.DK × U)} {ds : List (DK × D)} (e : h[n]? = some (.dK us)) (k : us.map Prod.fst = ds.map Prod.fst) (r : Dns cc h F (us.map Prod.snd) (ds.map Prod.snd)) : Ow (.ref n) (.dK ds) [n]
  | dT {n : Nat} {us : List (List Q.DK × U)} {ds : List (List DK × D)} (e : h[n]? = some (.dT us)) (k : us.map Prod.fst = ds.map Prod.fst) (r : Dns cc h F (us.map Prod.snd) (ds.map Prod.snd)) : Ow (.ref n) (.dT ds) [n]
  | is {n C : Nat} {us : List (PySem.Str × U)} {ts : List (String × T)} {fp : List Nat} (e : h[n]? = some (.ins (cc C) us)) (k : us.map Prod.fst = ts.map fun p => fs' p.1) (r : Ows (us.map Prod.snd) (ts.map Prod.snd) fp) : Ow (.ref n) (.is C ts) (n :: fp)
inductive Ows : List U → List T → List Nat → Prop
  | nil : Ows [] [] []
  | cons {u : U} {t : T} {us : List U} {ts : List T} {f1 f2 : List Nat} (x : Ow u t f1) (r : Ows us ts f2) : Ows (u :: us) (t :: ts) (f1 ++ f2)
end
/-- a slot -/
def Os (o : Option U) (t : T) (f : List Nat) : Prop := match o with
  | some u => Ow cc h F u t f
  | none => t = .hole ∧ f = []
inductive Ev : Env' → Env → List Nat → Prop
  | nil : Ev [] [] []
  | cons {o : Option U} {t : T} {env : Env'} {e : Env} {f1 f2 : List Nat} (x : Os cc h F o t f1) (r : Ev env e f2) : Ev (o :: env) (t :: e) (f1 ++ f2)
/-- what stands at the top -/
def Tp (u : U) : D → Prop
  | .lst ds => ∃ us, Q.mL h u = some us ∧ Dns cc h F us ds
  | .dK ds => ∃ n us, u = .ref n ∧ h[n]? = some (.dK us) ∧ us.map Prod.fst = ds.map Prod.fst ∧ Dns cc h F (us.map Prod.snd) (ds.map Prod.snd)
  | .dT ds => ∃ n us, u = .ref n ∧ h[n]? = some (.dT us) ∧ us.map Prod.fst = ds.map Prod.fst ∧ Dns cc h F (us.map Prod.snd) (ds.map Prod.snd)
  | .ins C ds => ∃ n us, u = .ref n ∧ h[n]? = some (.ins (cc C) us) ∧ us.map Prod.fst = (ds.map fun p => fs' p.1) ∧ Dns cc h F (us.map Prod.snd) (ds.map Prod.snd)
  | d => Dn cc h F u d
end
/-- what is frozen stays -/
structure Stab (h : Sto) (F : Nat → Prop) (h' : Sto) (F' : Nat → Prop) : Prop where
  le : ∀ n, F n → F' n
  eq : ∀ n, F n → h'[n]? = h[n]?
/-- .. and what is in f -/
def Keep (f : List Nat) (h h' : Sto) : Prop := ∀ n ∈ f, h'[n]? = h[n]?
structure SR (h : Sto) (F : Nat → Prop) (fp : List Nat) : Prop where
  nd : fp.Nodup
  lt : ∀ n ∈ fp, n < h.length
  fF : ∀ n ∈ fp, ¬ F n
  Fl : ∀ n, F n → n < h.length
structure Fr (h : Sto) (F : Nat → Prop) (fp : List Nat) (h' : Sto) (F' : Nat → Prop) (fp' : List Nat) : Prop where
  len : h.length ≤ h'.length
  eq : ∀ n, n < h.length → n ∉ fp → h'[n]? = h[n]?
  le : ∀ n, F n → F' n
  new : ∀ n, F' n → F n ∨ n ∈ fp ∨ h.length ≤ n
  own : ∀ n ∈ fp', n ∈ fp ∨ h.length ≤ n
  sr : SR h' F' fp'
/-- nothing that was there is another one -/
def Sm (h h' : Sto) : Prop := ∀ n, n < h.length → h'[n]? = h[n]?
section
variable {cc : Nat → Nat} {h h' h1 h2 : Sto} {F F' F1 F2 : Nat → Prop} {u : U} {d : D} {us : List U} {ds : List D} {t : T} {ts : List T} {f f1 f2 fp fp' fp1 fp2 : List Nat} {env env' : Env'} {e e' : Env}
theorem Stab.refl : Stab h F h F := ⟨fun _ x => x, fun _ _ => rfl⟩
theorem Stab.trans (a : Stab h F h1 F1) (b : Stab h1 F1 h2 F2) : Stab h F h2 F2 := ⟨fun n x => b.le n (a.le n x), fun n x => (b.eq n (a.le n x)).trans (a.eq n x)⟩
mutual
theorem Dn.mono (s : Stab h F h' F') : ∀ {u : U} {d : D}, Dn cc h F u d → Dn cc h' F' u d
  | _, _, .non => .non
  | _, _, .bl b => .bl b
  | _, _, .int b => .int b
  | _, _, .str b => .str b
  | _, _, .tup r => .tup (Dns.mono s r)
  | _, _, .fl r => .fl (Dns.mono s r)
  | _, _, .kl r => .kl (Dns.mono s r)
  | _, _, .lst f e r => .lst (s.le _ f) ((s.eq _ f).trans e) (Dns.mono s r)
  | _, _, .dK f e k r => .dK (s.le _ f) ((s.eq _ f).trans e) k (Dns.mono s r)
  | _, _, .dT f e k r => .dT (s.le _ f) ((s.eq _ f).trans e) k (Dns.mono s r)
  | _, _, .dKl f e k r => .dKl (s.le _ f) ((s.eq _ f).trans e) k (Dns.mono s r)
  | _, _, .ins f e k r => .ins (s.le _ f) ((s.eq _ f).trans e) k (Dns.mono s r)
theorem Dns.mono (s : Stab h F h' F') : ∀ {us : List U} {ds : List D}, Dns cc h F us ds → Dns cc h' F' us ds
  | _, _, .nil => .nil
  | _, _, .cons x r => .cons (Dn.mono s x) (Dns.mono s r)
end
theorem keep_l {h h' : Sto} (k : Keep (f1 ++ f2) h h') : Keep f1 h h' := fun n m => k n (List.mem_append_left _ m)
theorem keep_r {h h' : Sto} (k : Keep (f1 ++ f2) h h') : Keep f2 h h' := fun n m => k n (List.mem_append_right _ m)
mutual
theorem Ow.mono (s : Stab h F h' F') : ∀ {u : U} {t : T} {f : List Nat}, Keep f h h' → Ow cc h F u t f → Ow cc h' F' u t f
  | _, _, _, _, .hole u => .hole u
  | _, _, _, _, .leaf r => .leaf (r.mono s)
  | _, _, _, k, .ls e r => .ls ((k _ (List.mem_singleton.mpr rfl)).trans e) (r.mono s)
  | _, _, _, k, .lT e r => .lT ((k _ List.mem_cons_self).trans e) (Ows.mono s (fun n m => k n (List.mem_cons_of_mem _ m)) r)
  | _, _, _, k, .dK e q r => .dK ((k _ (List.mem_singleton.mpr rfl)).trans e) q (r.mono s)
  | _, _, _, k, .dT e q r => .dT ((k _ (List.mem_singleton.mpr rfl)).trans e) q (r.mono s)
  | _, _, _, k, .is e q r => .is ((k _ List.mem_cons_self).trans e) q (Ows.mono s (fun n m => k n (List.mem_cons_of_mem _ m)) r)
theorem Ows.mono (s : Stab h F h' F') : ∀ {us : List U} {ts : List T} {f : List Nat}, Keep f h h' → Ows cc h F us ts f → Ows cc h' F' us ts f
  | _, _, _, _, .nil => .nil
  | _, _, _, k, .cons x r => .cons (Ow.mono s (keep_l k) x) (Ows.mono s (keep_r k) r)
end
theorem Os.mono (s : Stab h F h' F') {o : Option U} (k : Keep f h h') (x : Os cc h F o t f) : Os cc h' F' o t f := by
  cases o with
  | none => exact x
  | some u => exact Ow.mono s k x
theorem Ev.mono (s : Stab h F h' F') : ∀ {env : Env'} {e : Env} {f : List Nat}, Keep f h h' → Ev cc h F env e f → Ev cc h' F' env e f
  | _, _, _, _, .nil => .nil
  | _, _, _, k, .cons x r => .cons (x.mono s (keep_l k)) (Ev.mono s (keep_r k) r)
theorem Tp.mono (s : Stab h F h' F') (sr : SR h F fp) (k : Sm h h') (x : Tp cc h F u d) : Tp cc h' F' u d := by
  have g : ∀ {n : Nat} {o : O}, h[n]? = some o → h'[n]? = some o := fun {n o} q => (k n (List.getElem?_eq_some_iff.mp q).1).trans q
  cases d with
  | lst ds =>
    obtain ⟨us, a, r⟩ := x
    refine ⟨us, ?_, r.mono s⟩
    cases u with
    | ref n =>
      simp only [Q.e_mL_ref] at a ⊢
      split at a
      · rename_i q; rw [g q]; exact a
      · cases a
    | _ => exact a
  | dK ds => obtain ⟨n, us, a, b, c, r⟩ := x; exact ⟨n, us, a, g b, c, r.mono s⟩
  | dT ds => obtain ⟨n, us, a, b, c, r⟩ := x; exact ⟨n, us, a, g b, c, r.mono s⟩
  | ins C ds => obtain ⟨n, us, a, b, c, r⟩ := x; exact ⟨n, us, a, g b, c, r.mono s⟩
  | _ => exact Dn.mono s x
theorem Dn.tp (x : Dn cc h F u d) : Tp cc h F u d := by
  cases x with
  | fl r => exact ⟨_, rfl, r⟩
  | kl r => exact Dn.kl r
  | lst f e r => exact ⟨_, by rw [Q.e_mL_ref, e], r⟩
  | dK f e k r => exact ⟨_, _, rfl, e, k, r⟩
  | dT f e k r => exact ⟨_, _, rfl, e, k, r⟩
  | dKl f e k r => exact .dKl f e k r
  | ins f e k r => exact ⟨_, _, rfl, e, k, r⟩
  | non => exact Dn.non
  | bl b => exact Dn.bl b
  | int b => exact Dn.int b
  | str b => exact Dn.str b
  | tup r => exact Dn.tup r
/-! frames -/
theorem SR.perm (p : fp.Perm fp') (x : SR h F fp) : SR h F fp' := ⟨p.nodup_iff.mp x.nd, fun n m => x.lt n (p.mem_iff.mpr m), fun n m => x.fF n (p.mem_iff.mpr m), x.Fl⟩
theorem SR.sub (x : SR h F fp) (s : fp'.Sublist fp) : SR h F fp' := ⟨x.nd.sublist s, fun n m => x.lt n (s.subset m), fun n m => x.fF n (s.subset m), x.Fl⟩
theorem SR.left (x : SR h F (f1 ++ f2)) : SR h F f1 := x.sub (List.sublist_append_left _ _)
theorem SR.right (x : SR h F (f1 ++ f2)) : SR h F f2 := x.sub (List.sublist_append_right _ _)
theorem Fr.refl (x : SR h F fp) : Fr h F fp h F fp := ⟨Nat.le_refl _, fun _ _ _ => rfl, fun _ y => y, fun _ y => .inl y, fun _ y => .inl y, x⟩
theorem Fr.trans (a : Fr h F fp h1 F1 fp1) (b : Fr h1 F1 fp1 h2 F2 fp2) : Fr h F fp h2 F2 fp2 where
  len := Nat.le_trans a.len b.len
  eq := fun n l m => by
    have : n ∉ fp1 := fun z => by
      rcases a.own n z with y | y
      · exact m y
      · omega
    rw [b.eq n (Nat.lt_of_lt_of_le l a.len) this, a.eq n l m]
  le := fun n x => b.le n (a.le n x)
  new := fun n x => by
    rcases b.new n x with y | y | y
    · exact a.new n y
    · rcases a.own n y with z | z
      · exact .inr (.inl z)
      · exact .inr (.inr z)
    · exact .inr (.inr (Nat.le_trans a.len y))
  own := fun n x => by
    rcases b.own n x with y | y
    · exact a.own n y
    · exact .inr (Nat.le_trans a.len y)
  sr := b.sr
theorem Fr.perm (a : Fr h F fp h1 F1 fp1) (p : fp1.Perm fp2) : Fr h F fp h1 F1 fp2 := ⟨a.len, a.eq, a.le, a.new, fun n m => a.own n (p.mem_iff.mpr m), a.sr.perm p⟩
theorem Fr.sub (a : Fr h F fp h1 F1 fp1) (s : fp2.Sublist fp1) : Fr h F fp h1 F1 fp2 := ⟨a.len, a.eq, a.le, a.new, fun n m => a.own n (s.subset m), a.sr.sub s⟩
theorem Fr.permL (a : Fr h F fp h1 F1 fp1) (p : fp.Perm fp2) : Fr h F fp2 h1 F1 fp1 := ⟨a.len, fun n l m => a.eq n l fun z => m (p.mem_iff.mp z), a.le, fun n x => (a.new n x).imp_right fun y => y.imp_left p.mem_iff.mp, fun n m => (a.own n m).imp_left p.mem_iff.mp, a.sr⟩
theorem Fr.stab (a : Fr h F fp h1 F1 fp1) (x : SR h F fp) : Stab h F h1 F1 := ⟨a.le, fun n y => a.eq n (x.Fl n y) fun m => x.fF n m y⟩
/-- something is held meanwhile -/
theorem Fr.hold (a : Fr h F f2 h1 F1 fp1) (x : SR h F (f1 ++ f2)) : Fr h F (f1 ++ f2) h1 F1 (f1 ++ fp1) where
  len := a.len
  eq := fun n l m => a.eq n l fun z => m (List.mem_append_right _ z)
  le := a.le
  new := fun n y => (a.new n y).imp_right fun y => y.imp_left (List.mem_append_right _)
  own := fun n m => by
    rcases List.mem_append.mp m with m | m
    · exact .inl (List.mem_append_left _ m)
    · exact (a.own n m).imp_left (List.mem_append_right _)
  sr := by
    have nd := List.nodup_append.mp x.nd
    refine ⟨List.nodup_append.mpr ⟨nd.1, a.sr.nd, fun p hp q hq z => ?_⟩, fun n m => ?_, fun n m y => ?_, a.sr.Fl⟩
    · subst z
      rcases a.own p hq with y | y
      · exact nd.2.2 p hp p y rfl
      · exact absurd (x.lt p (List.mem_append_left _ hp)) (by omega)
    · rcases List.mem_append.mp m with m | m
      · exact Nat.lt_of_lt_of_le (x.lt n (List.mem_append_left _ m)) a.len
      · exact a.sr.lt n m
    · rcases List.mem_append.mp m with m | m
      · rcases a.new n y with z | z | z
        · exact x.fF n (List.mem_append_left _ m) z
        · exact nd.2.2 n m n z rfl
        · exact absurd (x.lt n (List.mem_append_left _ m)) (by omega)
      · exact a.sr.fF n m y
theorem Fr.kept (a : Fr h F f2 h1 F1 fp1) (x : SR h F (f1 ++ f2)) : Keep f1 h h1 := fun n m => a.eq n (x.lt n (List.mem_append_left _ m)) fun z => (List.nodup_append.mp x.nd).2.2 n m n z rfl
/-- a new thing -/
theorem SR.app (x : SR h F fp) (o : O) : SR (h ++ [o]) F (h.length :: fp) where
  nd := List.nodup_cons.mpr ⟨fun m => absurd (x.lt _ m) (by omega), x.nd⟩
  lt := fun n m => by
    rcases List.mem_cons.mp m with rfl | m
    · simp
    · have := x.lt n m; simp; omega
  fF := fun n m y => by
    rcases List.mem_cons.mp m with rfl | m
    · exact absurd (x.Fl _ y) (by omega)
    · exact x.fF n m y
  Fl := fun n y => by have := x.Fl n y; simp; omega
theorem Fr.app (x : SR h F fp) (o : O) : Fr h F fp (h ++ [o]) F (h.length :: fp) where
  len := by simp
  eq := fun n l _ => List.getElem?_append_left l
  le := fun _ y => y
  new := fun _ y => .inl y
  own := fun n m => by
    rcases List.mem_cons.mp m with rfl | m
    · exact .inr (Nat.le_refl _)
    · exact .inl m
  sr := x.app o
theorem Sm.app (h : Sto) (l : Sto) : Sm h (h ++ l) := fun n q => List.getElem?_append_left q
theorem Sm.refl (h : Sto) : Sm h h := fun _ _ => rfl
theorem Sm.trans (l : h.length ≤ h1.length) (a : Sm h h1) (b : Sm h1 h2) : Sm h h2 := fun n q => (b n (by omega)).trans (a n q)
theorem Keep.app (x : SR h F fp) (l : Sto) : Keep fp h (h ++ l) := fun n m => List.getElem?_append_left (x.lt n m)
theorem Stab.app (x : SR h F fp) (l : Sto) : Stab h F (h ++ l) F := ⟨fun _ y => y, fun n y => List.getElem?_append_left (x.Fl n y)⟩
/-- what is owned becomes frozen -/
theorem SR.freeze (x : SR h F (f1 ++ f2)) : SR h (fun n => F n ∨ n ∈ f1) f2 where
  nd := x.right.nd
  lt := x.right.lt
  fF := fun n m y => by
    rcases y with y | y
    · exact x.right.fF n m y
    · exact (List.nodup_append.mp x.nd).2.2 n y n m rfl
  Fl := fun n y => by
    rcases y with y | y
    · exact x.Fl n y
    · exact x.lt n (List.mem_append_left _ y)
theorem Fr.freeze (x : SR h F (f1 ++ f2)) : Fr h F (f1 ++ f2) h (fun n => F n ∨ n ∈ f1) f2 where
  len := Nat.le_refl _
  eq := fun _ _ _ => rfl
  le := fun _ y => .inl y
  new := fun n y => y.imp_right fun y => .inl (List.mem_append_left _ y)
  own := fun n m => .inl (List.mem_append_right _ m)
  sr := x.freeze
theorem Stab.freeze (f1 : List Nat) : Stab h F h (fun n => F n ∨ n ∈ f1) := ⟨fun _ y => .inl y, fun _ _ => rfl⟩
/-- an owned thing changes -/
theorem SR.set (x : SR h F fp) {n : Nat} (o : O) : SR (h.set n o) F fp := ⟨x.nd, fun k m => by simpa using x.lt k m, x.fF, fun k m => by simpa using x.Fl k m⟩
theorem Fr.set (x : SR h F fp) {n : Nat} (m : n ∈ fp) (o : O) : Fr h F fp (h.set n o) F fp where
  len := by simp
  eq := fun k _ z => List.getElem?_set_ne (by intro y; subst y; exact z m)
  le := fun _ y => y
  new := fun _ y => .inl y
  own := fun _ y => .inl y
  sr := x.set o
theorem Stab.set (x : SR h F fp) {n : Nat} (m : n ∈ fp) (o : O) : Stab h F (h.set n o) F := ⟨fun _ y => y, fun k y => List.getElem?_set_ne (by intro z; subst z; exact x.fF n m y)⟩
theorem Keep.set {n : Nat} (o : O) (m : n ∉ f) : Keep f h (h.set n o) := fun k y => List.getElem?_set_ne (by intro z; subst z; exact m y)
/-! freezing -/
mutual
theorem Ow.frz : ∀ {u : U} {t : T} {f : List Nat} {d : D}, Ow cc h F u t f → t.fz = some d → ∀ G : Nat → Prop, (∀ n, F n → G n) → (∀ n ∈ f, G n) → Dn cc h G u d
  | _, _, _, _, .hole u, q, G, a, b => by cases q
  | _, _, _, _, .leaf r, q, G, a, b => by cases q; exact r.mono ⟨a, fun _ _ => rfl⟩
  | _, _, _, _, .ls e r, q, G, a, b => by cases q; exact .lst (b _ (List.mem_singleton.mpr rfl)) e (r.mono ⟨a, fun _ _ => rfl⟩)
  | _, _, _, d, .lT (ts := ts) e r, q, G, a, b => by
    unfold T.fz at q
    cases q1 : T.fzs ts with
    | none => rw [q1] at q; cases q
    | some ds =>
      rw [q1] at q
      cases q
      exact .lst (b _ List.mem_cons_self) e (Ows.frz r q1 G a fun n m => b n (List.mem_cons_of_mem _ m))
  | _, _, _, _, .dK e k r, q, G, a, b => by cases q; exact .dK (b _ (List.mem_singleton.mpr rfl)) e k (r.mono ⟨a, fun _ _ => rfl⟩)
  | _, _, _, _, .dT e k r, q, G, a, b => by cases q; exact .dT (b _ (List.mem_singleton.mpr rfl)) e k (r.mono ⟨a, fun _ _ => rfl⟩)
  | _, _, _, d, .is (us := us) (ts := ts) e k r, q, G, a, b => by
    unfold T.fz at q
    cases q1 : T.fzf ts with
    | none => rw [q1] at q; cases q
    | some ds =>
      rw [q1] at q
      cases q
      have q2 : ∀ {ts : List (String × T)} {ds : List (String × D)}, T.fzf ts = some ds → T.fzs (ts.map Prod.snd) = some (ds.map Prod.snd) ∧ ts.map Prod.fst = ds.map Prod.fst := by
        intro ts
        induction ts with
        | nil => intro ds q; cases q; exact ⟨rfl, rfl⟩
        | cons p r ih =>
          obtain ⟨g, t⟩ := p
          intro ds q
          unfold T.fzf at q
          cases q3 : T.fz t with
          | none => rw [q3] at q; cases q
          | some d =>
            cases q4 : T.fzf r with
            | none => rw [q3, q4] at q; cases q
            | some ds' =>
              rw [q3, q4] at q
              cases q
              obtain ⟨i1, i2⟩ := ih q4
              refine ⟨?_, by simp [i2]⟩
              simp only [List.map_cons]
              unfold T.fzs
              rw [q3, i1]
      obtain ⟨q3, q4⟩ := q2 q1
      have k2 : us.map Prod.fst = ds.map fun p => fs' p.1 := by
        rw [k]
        have : (ts.map Prod.fst).map fs' = (ds.map Prod.fst).map fs' := by rw [q4]
        simpa [List.map_map, Function.comp_def] using this
      exact .ins (b _ List.mem_cons_self) e k2 (Ows.frz r q3 G a fun n m => b n (List.mem_cons_of_mem _ m))
theorem Ows.frz : ∀ {us : List U} {ts : List T} {f : List Nat} {ds : List D}, Ows cc h F us ts f → T.fzs ts = some ds → ∀ G : Nat → Prop, (∀ n, F n → G n) → (∀ n ∈ f, G n) → Dns cc h G us ds
  | _, _, _, _, .nil, q, G, a, b => by cases q; exact .nil
  | _, _, _, _, .cons (t := t) (ts := ts) x r, q, G, a, b => by
    unfold T.fzs at q
    cases q1 : T.fz t with
    | none => rw [q1] at q; cases q
    | some d =>
      cases q2 : T.fzs ts with
      | none => rw [q1, q2] at q; cases q
      | some ds =>
        rw [q1, q2] at q
        cases q
        exact .cons (Ow.frz x q1 G a fun n m => b n (List.mem_append_left _ m)) (Ows.frz r q2 G a fun n m => b n (List.mem_append_right _ m))
end
/-! flat data -/
mutual
theorem Dn.flat : ∀ {u : U} {d : D}, Dn cc h F u d → d.flat = true → ∀ h' G, Dn cc h' G u d
  | _, _, .non, _, _, _ => .non
  | _, _, .bl b, _, _, _ => .bl b
  | _, _, .int b, _, _, _ => .int b
  | _, _, .str b, _, _, _ => .str b
  | _, _, .tup r, q, h', G => .tup (Dns.flat r q h' G)
  | _, _, .fl r, q, _, _ => by cases q
  | _, _, .kl r, q, _, _ => by cases q
  | _, _, .lst f e r, q, _, _ => by cases q
  | _, _, .dK f e k r, q, _, _ => by cases q
  | _, _, .dT f e k r, q, _, _ => by cases q
  | _, _, .dKl f e k r, q, _, _ => by cases q
  | _, _, .ins f e k r, q, _, _ => by cases q
theorem Dns.flat : ∀ {us : List U} {ds : List D}, Dns cc h F us ds → D.flats ds = true → ∀ h' G, Dns cc h' G us ds
  | _, _, .nil, _, _, _ => .nil
  | _, _, .cons x r, q, h', G => by
    unfold D.flats at q
    rw [Bool.and_eq_true] at q
    exact .cons (Dn.flat x q.1 h' G) (Dns.flat r q.2 h' G)
end
mutual
theorem Ow.flt : ∀ {u : U} {t : T} {f : List Nat}, Ow cc h F u t f → t.flat = true → ∀ G, Ow cc h G u t f
  | _, _, _, .hole u, _, _ => .hole u
  | _, _, _, .leaf r, q, G => .leaf (r.flat q h G)
  | _, _, _, .ls e r, q, G => .ls e (r.flat q h G)
  | _, _, _, .lT e r, q, G => .lT e (Ows.flt r q G)
  | _, _, _, .dK e k r, q, G => .dK e k (r.flat q h G)
  | _, _, _, .dT e k r, q, G => .dT e k (r.flat q h G)
  | _, _, _, .is (ts := ts) e k r, q, G => .is e k (Ows.flt r (by
      have : ∀ ts : List (String × T), T.flatf ts = T.flats (ts.map Prod.snd) := by
        intro ts
        induction ts with
        | nil => rfl
        | cons p r ih => obtain ⟨g, t⟩ := p; unfold T.flatf; rw [ih]; simp only [List.map_cons]; conv => rhs; unfold T.flats
      rw [← this]; exact q) G)
theorem Ows.flt : ∀ {us : List U} {ts : List T} {f : List Nat}, Ows cc h F us ts f → T.flats ts = true → ∀ G, Ows cc h G us ts f
  | _, _, _, .nil, _, _ => .nil
  | _, _, _, .cons x r, q, G => by
    unfold T.flats at q
    rw [Bool.and_eq_true] at q
    exact .cons (Ow.flt x q.1 G) (Ows.flt r q.2 G)
end
end
end P

set_option Elab.async false
set_option linter.all false
set_option maxRecDepth 100000
set_option maxHeartbeats 1000000
/-! PS2: places in slots and trees; outcomes. -/
namespace P
open Q (U O Sto Env' R RS EM TM AM SM Sem')
section
variable {cc : Nat → Nat} {h h' h1 h2 : Sto} {F F' F1 F2 : Nat → Prop} {u : U} {d : D} {us : List U} {ds : List D} {t : T} {ts : List T} {f f1 f2 fp fp' fp1 fp2 : List Nat} {env env' : Env'} {e e' : Env} {i : Nat}
theorem perm_mid {a b c : List Nat} : (a ++ (b ++ c)).Perm (b ++ (a ++ c)) := by
  rw [← List.append_assoc, ← List.append_assoc]
  exact List.Perm.append_right c List.perm_append_comm
/-- a slot and the others -/
theorem Ev.at : ∀ {env : Env'} {e : Env} {fp : List Nat} {i : Nat} {t : T}, Ev cc h F env e fp → e[i]? = some t → ∃ o f1 f2, env[i]? = some o ∧ Os cc h F o t f1 ∧ fp.Perm (f1 ++ f2) ∧
    ∀ h' F' o' t' f1', Stab h F h' F' → Keep f2 h h' → Os cc h' F' o' t' f1' → ∃ fp', Ev cc h' F' (env.set i o') (e.set i t') fp' ∧ fp'.Perm (f1' ++ f2)
  | _, _, _, _, _, .nil, q => by simp at q
  | _, _, _, 0, _, .cons (o := o) (f1 := f1) (f2 := f2) x r, q => by
    simp at q; subst q
    exact ⟨o, f1, f2, rfl, x, .refl _, fun h' F' o' t' f1' s k y => ⟨f1' ++ f2, .cons y (r.mono s k), .refl _⟩⟩
  | _, _, _, i + 1, _, .cons (o := o) (f1 := f1) (f2 := f2) x r, q => by
    obtain ⟨o2, g1, g2, a, b, p, z⟩ := Ev.at (i := i) r (by simpa using q)
    refine ⟨o2, g1, f1 ++ g2, by simpa using a, b, (p.append_left f1).trans perm_mid, fun h' F' o' t' f1' s k y => ?_⟩
    obtain ⟨fp', ev, p'⟩ := z h' F' o' t' f1' s (keep_r k) y
    exact ⟨f1 ++ fp', .cons (x.mono s (keep_l k)) ev, (p'.append_left f1).trans perm_mid⟩
theorem Ev.len : ∀ {env : Env'} {e : Env} {fp : List Nat}, Ev cc h F env e fp → env.length = e.length
  | _, _, _, .nil => rfl
  | _, _, _, .cons _ r => by simp [Ev.len r]
theorem list_set_same {α : Type} : ∀ {l : List α} {i : Nat} {x : α}, l[i]? = some x → l.set i x = l
  | [], _, _, q => by simp at q
  | a :: l, 0, x, q => by simp at q; simp [q]
  | a :: l, i + 1, x, q => by simp at q; simp [list_set_same q]
/-- the slot's thing goes -/
theorem Ev.hole (x : Ev cc h F env e fp) (i : Nat) : ∃ fp', Ev cc h F env (e.set i .hole) fp' ∧ ∃ f1, fp.Perm (f1 ++ fp') := by
  cases q : e[i]? with
  | none => exact ⟨fp, by rw [List.set_eq_of_length_le (by simpa using q)]; exact x, [], .refl _⟩
  | some t =>
    obtain ⟨o, f1, f2, a, b, p, z⟩ := x.at q
    obtain ⟨fp', ev, p'⟩ := z h F o .hole [] .refl (fun _ _ => rfl) (by
      cases o with
      | none => exact ⟨rfl, rfl⟩
      | some u => exact .hole u)
    rw [list_set_same a] at ev
    exact ⟨fp', ev, f1, p.trans (List.Perm.append_left f1 p'.symm)⟩
/-- another value in the slot -/
theorem Ev.put (x : Ev cc h F env e fp) (i : Nat) (o : Option U) (y : Os cc h F o t f) : ∃ fp', Ev cc h F (env.set i o) (e.set i t) (fp') ∧ ∃ g f1 f2, fp.Perm (f1 ++ f2) ∧ fp'.Perm (g ++ f2) ∧ g.Sublist f := by
  by_cases hi : i < e.length
  · obtain ⟨o1, f1, f2, a, b, p, z⟩ := x.at (List.getElem?_eq_getElem hi)
    obtain ⟨fp', ev, p'⟩ := z h F o t f .refl (fun _ _ => rfl) y
    exact ⟨fp', ev, f, f1, f2, p, p', .refl _⟩
  · have hl := x.len
    rw [List.set_eq_of_length_le (by omega), List.set_eq_of_length_le (by omega)]
    exact ⟨fp, x, [], [], fp, .refl _, .refl _, List.nil_sublist _⟩
theorem Ev.putD (x : Ev cc h F env e fp) (i : Nat) {u : U} {d : D} (y : Dn cc h F u d) : ∃ fp', Ev cc h F (env.set i (some u)) (e.set i (.leaf d)) fp' ∧ ∃ f1, fp.Perm (f1 ++ fp') := by
  obtain ⟨fp', ev, g, f1, f2, p, p', s⟩ := x.put i (some u) (show Os cc h F (some u) (.leaf d) [] from .leaf y)
  have : g = [] := List.sublist_nil.mp s
  subst this
  exact ⟨fp', ev, f1, p.trans (List.Perm.append_left f1 (by simpa using p'.symm))⟩
/-! trees -/
def at1 (h : Sto) : U → Ac → Option U
  | u, .ix i => (match Q.sL h u with
    | some us => L2.atI us i
    | none => none)
  | .ref n, .fld _ f => (match h[n]? with
    | some (.ins _ fs) => fs.lookup (fs' f)
    | _ => none)
  | _, _ => none
def atU (h : Sto) : U → List Ac → Option U
  | u, [] => some u
  | u, a :: r => match at1 h u a with
    | some v => atU h v r
    | none => none
theorem sL_mono (k : Sm h h') {us : List U} (q : Q.sL h u = some us) : Q.sL h' u = some us := by
  cases u with
  | ref n =>
    simp only [Q.e_sL_ref] at q ⊢
    split at q
    · rename_i q1
      rw [(k n (List.getElem?_eq_some_iff.mp q1).1).trans q1]; exact q
    · cases q
  | _ => exact q
theorem at1_mono (k : Sm h h') {v : U} {a : Ac} (q : at1 h u a = some v) : at1 h' u a = some v := by
  cases a with
  | ix i =>
    have q : (match Q.sL h u with
      | some us => L2.atI us i
      | none => none) = some v := by cases u <;> exact q
    have g : at1 h' u (.ix i) = (match Q.sL h' u with
      | some us => L2.atI us i
      | none => none) := by cases u <;> rfl
    rw [g]
    cases q1 : Q.sL h u with
    | none => rw [q1] at q; cases q
    | some us => rw [q1] at q; rw [sL_mono k q1]; exact q
  | fld Cs f =>
    cases u with
    | ref n =>
      simp only [at1] at q ⊢
      split at q
      · rename_i q1
        rw [(k n (List.getElem?_eq_some_iff.mp q1).1).trans q1]; exact q
      · cases q
    | _ => cases q
theorem atU_mono (k : Sm h h') : ∀ {u v : U} {r : List Ac}, atU h u r = some v → atU h' u r = some v
  | u, v, [], q => q
  | u, v, a :: r, q => by
    unfold atU at q ⊢
    cases q1 : at1 h u a with
    | none => rw [q1] at q; cases q
    | some w => rw [q1] at q; rw [at1_mono k q1]; exact atU_mono k q
theorem get_cons (t : T) (a : Ac) (r : List Ac) : t.get (a :: r) = (t.get1 a).bind fun v => v.get r := by
  conv => lhs; unfold T.get
  cases t.get1 a <;> rfl
theorem get_app : ∀ (t : T) (r s : List Ac), t.get (r ++ s) = (t.get r).bind fun v => v.get s
  | t, [], s => by
    have : t.get [] = some t := by unfold T.get; rfl
    rw [this]; rfl
  | t, a :: r, s => by
    rw [List.cons_append, get_cons, get_cons]
    cases t.get1 a with
    | none => rfl
    | some v => exact get_app v r s
theorem Dns.get : ∀ {us : List U} {ds : List D} {i : Nat} {d : D}, Dns cc h F us ds → ds[i]? = some d → ∃ u, us[i]? = some u ∧ Dn cc h F u d
  | _, _, _, _, .nil, q => by simp at q
  | _, _, 0, _, .cons x r, q => by simp at q; subst q; exact ⟨_, rfl, x⟩
  | _, _, i + 1, _, .cons x r, q => by simpa using Dns.get (i := i) r (by simpa using q)
theorem Dns.len : ∀ {us : List U} {ds : List D}, Dns cc h F us ds → us.length = ds.length
  | _, _, .nil => rfl
  | _, _, .cons _ r => by simp [Dns.len r]
theorem Dns.at {i : Int} {d : D} (r : Dns cc h F us ds) (q : P.atI ds i = some d) : ∃ u, L2.atI us i = some u ∧ Dn cc h F u d := by
  have q : L2.atI ds i = some d := q
  unfold L2.atI at q ⊢
  rw [r.len]
  cases q1 : L2.ixN ds.length i with
  | none => rw [q1] at q; cases q
  | some k =>
    rw [q1] at q
    exact r.get q
theorem Ows.len : ∀ {us : List U} {ts : List T} {f : List Nat}, Ows cc h F us ts f → us.length = ts.length
  | _, _, _, .nil => rfl
  | _, _, _, .cons _ r => by simp [Ows.len r]
theorem Ows.at : ∀ {us : List U} {ts : List T} {fp : List Nat} {i : Nat} {t : T}, Ows cc h F us ts fp → ts[i]? = some t → ∃ o f1 f2, us[i]? = some o ∧ Ow cc h F o t f1 ∧ fp.Perm (f1 ++ f2) ∧
    ∀ h' F' o' t' f1', Stab h F h' F' → Keep f2 h h' → Ow cc h' F' o' t' f1' → ∃ fp', Ows cc h' F' (us.set i o') (ts.set i t') fp' ∧ fp'.Perm (f1' ++ f2)
  | _, _, _, _, _, .nil, q => by simp at q
  | _, _, _, 0, _, .cons (u := o) (f1 := f1) (f2 := f2) x r, q => by
    simp at q; subst q
    exact ⟨o, f1, f2, rfl, x, .refl _, fun h' F' o' t' f1' s k y => ⟨f1' ++ f2, .cons y (r.mono s k), .refl _⟩⟩
  | _, _, _, i + 1, _, .cons (u := o) (f1 := f1) (f2 := f2) x r, q => by
    obtain ⟨o2, g1, g2, a, b, p, z⟩ := Ows.at (i := i) r (by simpa using q)
    refine ⟨o2, g1, f1 ++ g2, by simpa using a, b, (p.append_left f1).trans perm_mid, fun h' F' o' t' f1' s k y => ?_⟩
    obtain ⟨fp', ev, p'⟩ := z h' F' o' t' f1' s (keep_r k) y
    exact ⟨f1 ++ fp', .cons (x.mono s (keep_l k)) ev, (p'.append_left f1).trans perm_mid⟩
theorem fs_inj {f g : String} (e : fs' f = fs' g) : f = g := by
  have e : PySem.Str.ofString f = PySem.Str.ofString g := e
  rw [PySem.Str.ofString_eq_toList, PySem.Str.ofString_eq_toList] at e
  injection e with e
  have e := congrArg Array.toList e
  simp only [List.toList_toArray] at e
  have : Function.Injective Char.toNat := fun a b q => Char.toNat_inj.mp q
  have := List.map_inj_right (fun a b q => this q) |>.mp e
  exact String.toList_inj.mp this
/-- the place of a field -/
theorem look_at {α β : Type} : ∀ {us : List (PySem.Str × α)} {ts : List (String × β)} {f : String} {t : β}, us.map Prod.fst = (ts.map fun p => fs' p.1) → ts.lookup f = some t → ∃ i, (ts.map Prod.snd)[i]? = some t ∧
    (∀ v, (us.map Prod.snd)[i]? = some v → us.lookup (fs' f) = some v) ∧ ∀ s, (putF f s ts).map Prod.snd = (ts.map Prod.snd).set i s ∧ (putF f s ts).map Prod.fst = ts.map Prod.fst
  | us, [], f, t, _, q => by simp at q
  | [], (g, x) :: ts, f, t, e, q => by simp at e
  | (k, u) :: us, (g, x) :: ts, f, t, e, q => by
    simp only [List.map_cons, List.cons.injEq] at e
    obtain ⟨e1, e2⟩ := e
    by_cases c : f = g
    · subst c
      rw [List.lookup_cons_self] at q
      cases q
      refine ⟨0, rfl, fun v z => ?_, fun s => ?_⟩
      · simp at z; subst z; rw [e1]; simp
      · unfold putF; rw [if_pos rfl]
        exact ⟨rfl, rfl⟩
    · have c1 : (f == g) = false := by simpa using c
      rw [List.lookup_cons, c1] at q
      obtain ⟨i, a, b, d⟩ := look_at e2 q
      refine ⟨i + 1, by simpa using a, fun v z => ?_, fun s => ?_⟩
      · rw [e1, List.lookup_cons]
        have : (fs' f == fs' g) = false := by
          rw [beq_eq_false_iff_ne]
          exact fun z => c (fs_inj z)
        rw [this]
        exact b v (by simpa using z)
      · unfold putF
        rw [if_neg (fun z => c z.symm)]
        obtain ⟨d1, d2⟩ := d s
        exact ⟨by simp [d1], by simp [d2]⟩
/-- a place in a tree -/
def T.isLeaf : T → Bool
  | .leaf _ => true
  | _ => false
theorem leaf_get : ∀ (r : List Ac) {d : D} {s : T}, (T.leaf d).get r = some s → s.isLeaf = true
  | [], d, s, q => by unfold T.get at q; cases q; rfl
  | a :: r, d, s, q => by
    unfold T.get at q
    cases q1 : (T.leaf d).get1 a with
    | none => rw [q1] at q; cases q
    | some v =>
      rw [q1] at q
      have : ∃ d', v = .leaf d' := by
        unfold T.get1 at q1
        split at q1 <;> first | cases q1; done | skip
        all_goals (rename_i hh; cases hh)
        all_goals (try (split at q1; case isFalse => cases q1))
        all_goals (obtain ⟨w, _, rfl⟩ := Option.map_eq_some_iff.mp q1; exact ⟨w, rfl⟩)
      obtain ⟨d', rfl⟩ := this
      exact leaf_get r q
theorem Dn.at1 {a : Ac} {s : T} (x : Dn cc h F u d) (q : (T.leaf d).get1 a = some s) : ∃ v d', at1 h u a = some v ∧ s = .leaf d' ∧ Dn cc h F v d' := by
  cases a with
  | ix i =>
    have g : P.at1 h u (.ix i) = (match Q.sL h u with
      | some us => L2.atI us i
      | none => none) := by cases u <;> rfl
    rw [g]
    cases x with
    | tup r =>
      obtain ⟨w, q1, rfl⟩ := Option.map_eq_some_iff.mp q
      obtain ⟨v, a1, a2⟩ := r.at q1
      exact ⟨v, w, a1, rfl, a2⟩
    | fl r =>
      obtain ⟨w, q1, rfl⟩ := Option.map_eq_some_iff.mp q
      obtain ⟨v, a1, a2⟩ := r.at q1
      exact ⟨v, w, a1, rfl, a2⟩
    | lst f e r =>
      obtain ⟨w, q1, rfl⟩ := Option.map_eq_some_iff.mp q
      obtain ⟨v, a1, a2⟩ := r.at q1
      exact ⟨v, w, by rw [Q.e_sL_ref, e]; exact a1, rfl, a2⟩
    | _ => cases q
  | fld Cs f =>
    cases x with
    | @ins n C us ds f' e k r =>
      have q : (if C ∈ Cs then (ds.lookup f).map T.leaf else none) = some s := q
      split at q
      case isFalse => cases q
      obtain ⟨w, q1, rfl⟩ := Option.map_eq_some_iff.mp q
      obtain ⟨i, a1, a2, _⟩ := look_at k q1
      obtain ⟨v, b1, b2⟩ := r.get a1
      refine ⟨v, w, ?_, rfl, b2⟩
      unfold P.at1
      simp only [e]
      exact a2 v b1
    | _ => cases q
theorem Ow.at1 {a : Ac} {s : T} (x : Ow cc h F u t f) (q : t.get1 a = some s) : ∃ v f1 f2, at1 h u a = some v ∧ Ow cc h F v s f1 ∧ f.Perm (f1 ++ f2) ∧
    (s.isLeaf = false → ∀ h' F' s' f1', Stab h F h' F' → Keep f2 h h' → Ow cc h' F' v s' f1' → ∃ f', Ow cc h' F' u (t.set1 a s') f' ∧ f'.Perm (f1' ++ f2)) := by
  cases x with
  | hole u => cases a <;> cases q
  | leaf r =>
    obtain ⟨v, d', a1, rfl, a2⟩ := r.at1 q
    exact ⟨v, [], [], a1, .leaf a2, .refl _, fun z => by cases z⟩
  | @ls n us ds e r =>
    cases a with
    | ix i =>
      obtain ⟨w, q1, rfl⟩ := Option.map_eq_some_iff.mp q
      obtain ⟨v, a1, a2⟩ := r.at q1
      refine ⟨v, [], [n], ?_, .leaf a2, .refl _, fun z => by cases z⟩
      show (match Q.sL h (.ref n) with | some us => L2.atI us i | none => none) = _
      rw [Q.e_sL_ref, e]; exact a1
    | fld Cs f => cases q
  | @lT n us ts fp e r =>
    cases a with
    | ix i =>
      have q : P.atI ts i = some s := q
      unfold P.atI at q
      cases q1 : P.ixN ts.length i with
      | none => rw [q1] at q; cases q
      | some k =>
        rw [q1] at q
        obtain ⟨v, f1, f2, a1, a2, a3, a4⟩ := r.at (i := k) q
        refine ⟨v, f1, n :: f2, ?_, a2, ?_, fun _ h' F' s' f1' st k2 y => ?_⟩
        · show (match Q.sL h (.ref n) with | some us => L2.atI us i | none => none) = _
          rw [Q.e_sL_ref, e]
          show L2.atI us i = _
          unfold L2.atI
          rw [r.len, show L2.ixN ts.length i = some k from q1]
          exact a1
        · exact (a3.cons n).trans List.perm_middle.symm
        · obtain ⟨fp', b1, b2⟩ := a4 h' F' v s' f1' st (fun m z => k2 m (List.mem_cons_of_mem _ z)) y
          rw [list_set_same a1] at b1
          refine ⟨n :: fp', ?_, (b2.cons n).trans List.perm_middle.symm⟩
          have g : (T.lT ts).set1 (.ix i) s' = .lT (ts.set k s') := by
            show (match P.ixN ts.length i with | some k => T.lT (ts.set k s') | none => T.lT ts) = _
            rw [q1]
          rw [g]
          exact .lT ((k2 n List.mem_cons_self).trans e) b1
    | fld Cs f => cases q
  | dK e k r => cases a <;> cases q
  | dT e k r => cases a <;> cases q
  | @is n C us ts fp e k r =>
    cases a with
    | ix i => cases q
    | fld Cs f =>
      have q : (if C ∈ Cs then ts.lookup f else none) = some s := q
      split at q
      case isFalse => cases q
      obtain ⟨i, a1, a2, a3⟩ := look_at k q
      obtain ⟨v, f1, f2, b1, b2, b3, b4⟩ := r.at a1
      refine ⟨v, f1, n :: f2, ?_, b2, (b3.cons n).trans List.perm_middle.symm, fun _ h' F' s' f1' st k2 y => ?_⟩
      · unfold P.at1
        simp only [e]
        exact a2 v b1
      · obtain ⟨fp', c1, c2⟩ := b4 h' F' v s' f1' st (fun m z => k2 m (List.mem_cons_of_mem _ z)) y
        rw [list_set_same b1] at c1
        obtain ⟨d1, d2⟩ := a3 s'
        refine ⟨n :: fp', ?_, (c2.cons n).trans List.perm_middle.symm⟩
        unfold T.set1
        refine .is ((k2 n List.mem_cons_self).trans e) ?_ (by rw [d1]; exact c1)
        rw [k]
        have : (ts.map Prod.fst).map fs' = ((putF f s' ts).map Prod.fst).map fs' := by rw [d2]
        simpa [List.map_map, Function.comp_def] using this
theorem get_nil (t : T) : t.get [] = some t := by unfold T.get; rfl
theorem set_nil (t s : T) : t.set [] s = s := by unfold T.set; rfl
theorem atU_nil (h : Sto) (u : U) : atU h u [] = some u := by unfold atU; rfl
theorem Ow.at : ∀ (r : List Ac) {u : U} {t : T} {f : List Nat} {s : T}, Ow cc h F u t f → t.get r = some s → ∃ v f1 f2, atU h u r = some v ∧ Ow cc h F v s f1 ∧ f.Perm (f1 ++ f2) ∧
    (s.isLeaf = false → ∀ h' F' s' f1', Stab h F h' F' → Keep f2 h h' → Ow cc h' F' v s' f1' → ∃ f', Ow cc h' F' u (t.set r s') f' ∧ f'.Perm (f1' ++ f2))
  | [], u, t, f, s, x, q => by
    rw [get_nil] at q
    cases q
    refine ⟨u, f, [], atU_nil _ _, x, by simp, fun _ h' F' s' f1' st k y => ⟨f1', by rw [set_nil]; exact y, by simp⟩⟩
  | a :: r, u, t, f, s, x, q => by
    unfold T.get at q
    cases q1 : t.get1 a with
    | none => rw [q1] at q; cases q
    | some w =>
      rw [q1] at q
      obtain ⟨v, f1, f2, a1, a2, a3, a4⟩ := x.at1 q1
      obtain ⟨v', g1, g2, b1, b2, b3, b4⟩ := Ow.at r a2 q
      refine ⟨v', g1, g2 ++ f2, ?_, b2, ?_, fun z h' F' s' f1' st k y => ?_⟩
      · unfold atU; rw [a1]; exact b1
      · rw [← List.append_assoc]; exact a3.trans (b3.append_right f2)
      · obtain ⟨f', c1, c2⟩ := b4 z h' F' s' f1' st (keep_l k) y
        have wl : w.isLeaf = false := by
          cases w with
          | leaf d => rw [leaf_get r q] at z; cases z
          | _ => rfl
        obtain ⟨f'', d1, d2⟩ := a4 wl h' F' (w.set r s') f' st (keep_r k) c1
        refine ⟨f'', ?_, ?_⟩
        · unfold T.set; rw [q1]; exact d1
        · rw [← List.append_assoc]; exact d2.trans (c2.append_right f2)
/-- a place below a slot -/
theorem Ev.pt {i : Nat} {r : List Ac} {s : T} (x : Ev cc h F env e fp) (q : getP i r e = some s) (nl : s ≠ .hole) : ∃ o v f1 f2, env[i]? = some (some o) ∧ atU h o r = some v ∧ Ow cc h F v s f1 ∧ fp.Perm (f1 ++ f2) ∧
    (s.isLeaf = false → ∀ h' F' s' f1', Stab h F h' F' → Keep f2 h h' → Ow cc h' F' v s' f1' → ∃ fp', Ev cc h' F' env (setP i r s' e) fp' ∧ fp'.Perm (f1' ++ f2)) := by
  unfold getP at q
  cases q1 : e[i]? with
  | none => rw [q1] at q; cases q
  | some t =>
    rw [q1] at q
    obtain ⟨o, f1, f2, a1, a2, a3, a4⟩ := x.at q1
    cases o with
    | none =>
      obtain ⟨rfl, rfl⟩ := a2
      cases r with
      | nil => have q : T.get .hole [] = some s := q; rw [get_nil] at q; cases q; exact absurd rfl nl
      | cons a r => have q : T.get .hole (a :: r) = some s := q; unfold T.get at q; cases a <;> cases q
    | some o =>
      obtain ⟨v, g1, g2, b1, b2, b3, b4⟩ := Ow.at r a2 q
      refine ⟨o, v, g1, g2 ++ f2, a1, b1, b2, ?_, fun z h' F' s' f1' st k y => ?_⟩
      · rw [← List.append_assoc]; exact a3.trans (b3.append_right f2)
      · obtain ⟨f', c1, c2⟩ := b4 z h' F' s' f1' st (keep_l k) y
        obtain ⟨fp', d1, d2⟩ := a4 h' F' (some o) (t.set r s') f' st (keep_r k) c1
        rw [list_set_same a1] at d1
        refine ⟨fp', ?_, ?_⟩
        · unfold setP; rw [q1]; exact d1
        · rw [← List.append_assoc]; exact d2.trans (c2.append_right f2)
end
end P

set_option Elab.async false
set_option linter.all false
set_option maxRecDepth 100000
set_option maxHeartbeats 1000000
/-! PS3: expressions and tests do as their pure meanings say. -/
namespace P
open Q (U O Sto Env' R RS EM TM AM SM Sem')
section
variable (cc : Nat → Nat)
def Xd (h : Sto) (F : Nat → Prop) : Option Nat → Option (List (String × D)) → Prop
  | none, none => True
  | some n, some fs => F n ∧ ∃ us, h[n]? = some (.xd us) ∧ us.map Prod.fst = (fs.map fun p => fs' p.1) ∧ Dns cc h F (us.map Prod.snd) (fs.map Prod.snd)
  | _, _ => False
def Out {α β : Type} (q : Bool) (Rel : Sto → (Nat → Prop) → α → β → List Nat → Prop) (h : Sto) (F : Nat → Prop) (fp : List Nat) (env : Env') (r : R α) (s : PR β) : Prop := match s with
  | .ok b e' => ∃ a h' F' f1 f2, r = .ok a h' ∧ Rel h' F' a b f1 ∧ Ev cc h' F' env e' f2 ∧ Fr h F fp h' F' (f1 ++ f2) ∧ (q = true → Sm h h')
  | .exc C x e' => ∃ n h' F' f2, r = .exc (cc C) n h' ∧ Ev cc h' F' env e' f2 ∧ Fr h F fp h' F' f2 ∧ Xd cc h' F' n x
  | .bad => True
def Sim {α β : Type} (q : Bool) (Rel : Sto → (Nat → Prop) → α → β → List Nat → Prop) (m : Env' → Sto → R α) (p : Env → PR β) : Prop :=
  ∀ h F env e fp, Ev cc h F env e fp → SR h F fp → Out cc q Rel h F fp env (m env h) (p e)
def RD (h : Sto) (F : Nat → Prop) (u : U) (d : D) (f : List Nat) : Prop := f = [] ∧ Dn cc h F u d
def RX (s : Bool) (h : Sto) (F : Nat → Prop) (u : U) (d : D) (f : List Nat) : Prop := f = [] ∧ (if s = true then Dn cc h F u d else Tp cc h F u d)
def RT (h : Sto) (F : Nat → Prop) (u : U) (t : T) (f : List Nat) : Prop := Ow cc h F u t f
def RE {α : Type} (h : Sto) (F : Nat → Prop) (a b : α) (f : List Nat) : Prop := f = [] ∧ a = b
def RDs (h : Sto) (F : Nat → Prop) (u : List U) (d : List D) (f : List Nat) : Prop := f = [] ∧ Dns cc h F u d
def RTs (h : Sto) (F : Nat → Prop) (u : List U) (d : List T) (f : List Nat) : Prop := Ows cc h F u d f
/-- arguments: data, or one that is only looked at -/
def RA (s : Bool) (h : Sto) (F : Nat → Prop) (us : List U) (ds : List D) (f : List Nat) : Prop := f = [] ∧ (if s = true then Dns cc h F us ds else ∃ u d, us = [u] ∧ ds = [d] ∧ Tp cc h F u d)
end
section
variable {cc : Nat → Nat} {h h' h1 h2 : Sto} {F F' F1 F2 : Nat → Prop} {u : U} {d : D} {us : List U} {ds : List D} {t : T} {ts : List T} {f f1 f2 fp fp' fp1 fp2 : List Nat} {env env' : Env'} {e e' : Env} {i : Nat} {q s s1 s2 : Bool}
  {α β γ δ : Type}
theorem Out.ret {Rel : Sto → (Nat → Prop) → α → β → List Nat → Prop} {a : α} {b : β} (r : Rel h' F' a b f1) (x : Ev cc h' F' env e f2) (fr : Fr h F fp h' F' (f1 ++ f2)) (k : Sm h h') : Out cc q Rel h F fp env (.ok a h') (.ok b e) :=
  ⟨a, h', F', f1, f2, rfl, r, x, fr, fun _ => k⟩
theorem Out.ret0 {Rel : Sto → (Nat → Prop) → α → β → List Nat → Prop} {a : α} {b : β} (r : Rel h F a b []) (x : Ev cc h F env e fp) (sr : SR h F fp) : Out cc q Rel h F fp env (.ok a h) (.ok b e) :=
  ⟨a, h, F, [], fp, rfl, r, x, Fr.refl sr, fun _ => Sm.refl h⟩
theorem Out.bind {R1 : Sto → (Nat → Prop) → α → β → List Nat → Prop} {R2 : Sto → (Nat → Prop) → γ → δ → List Nat → Prop} {r : R α} {s : PR β} {g : α → Sto → R γ} {p : β → Env → PR δ} (o : Out cc q R1 h F fp env r s)
    (k : ∀ a b h1 F1 e1 f1 f2, R1 h1 F1 a b f1 → Ev cc h1 F1 env e1 f2 → Fr h F fp h1 F1 (f1 ++ f2) → (q = true → Sm h h1) → Out cc q R2 h1 F1 (f1 ++ f2) env (g a h1) (p b e1)) : Out cc q R2 h F fp env (r.bind g) (s.bind p) := by
  cases s with
  | bad => trivial
  | exc C x e' =>
    obtain ⟨n, h', F', f2, e1, b⟩ := o
    exact ⟨n, h', F', f2, by rw [e1]; rfl, b⟩
  | ok b e' =>
    obtain ⟨a, h1, F1, f1, f2, e1, r1, x1, fr, sm⟩ := o
    have := k a b h1 F1 e' f1 f2 r1 x1 fr sm
    rw [e1]
    show Out cc q R2 h F fp env (g a h1) (p b e')
    cases e2 : p b e' with
    | bad => trivial
    | exc C x e'' =>
      rw [e2] at this
      obtain ⟨n, h', F', f3, a1, a2, a3, a4⟩ := this
      exact ⟨n, h', F', f3, a1, a2, fr.trans a3, a4⟩
    | ok c e'' =>
      rw [e2] at this
      obtain ⟨a', h', F', f3, f4, a1, a2, a3, a4, a5⟩ := this
      exact ⟨a', h', F', f3, f4, a1, a2, a3, fr.trans a4, fun z => Sm.trans fr.len (sm z) (a5 z)⟩
theorem Out.hold {R2 R3 : Sto → (Nat → Prop) → α → β → List Nat → Prop} {r : R α} {s : PR β} (o : Out cc q R2 h F f2 env r s) (sr : SR h F (f1 ++ f2))
    (k : ∀ a b h' F' f', R2 h' F' a b f' → Stab h F h' F' → Keep f1 h h' → R3 h' F' a b (f1 ++ f')) : Out cc q R3 h F (f1 ++ f2) env r s := by
  cases s with
  | bad => trivial
  | exc C x e' =>
    obtain ⟨n, h', F', f3, a1, a2, a3, a4⟩ := o
    exact ⟨n, h', F', f3, a1, a2, (a3.hold sr).sub (List.sublist_append_right _ _), a4⟩
  | ok b e' =>
    obtain ⟨a, h', F', f3, f4, a1, a2, a3, a4, a5⟩ := o
    exact ⟨a, h', F', f1 ++ f3, f4, a1, k a b h' F' f3 a2 (a4.stab sr.right) (a4.kept sr), a3, by rw [List.append_assoc]; exact a4.hold sr, a5⟩
/-- what was held is given up -/
theorem Out.drop {R2 : Sto → (Nat → Prop) → α → β → List Nat → Prop} {r : R α} {s : PR β} (o : Out cc q R2 h F f2 env r s) (sr : SR h F (f1 ++ f2)) : Out cc q R2 h F (f1 ++ f2) env r s := by
  cases s with
  | bad => trivial
  | exc C x e' =>
    obtain ⟨n, h', F', f3, a1, a2, a3, a4⟩ := o
    exact ⟨n, h', F', f3, a1, a2, (a3.hold sr).sub (List.sublist_append_right _ _), a4⟩
  | ok b e' =>
    obtain ⟨a, h', F', f3, f4, a1, a2, a3, a4, a5⟩ := o
    exact ⟨a, h', F', f3, f4, a1, a2, a3, (a4.hold sr).sub (List.sublist_append_right _ _), a5⟩
theorem Out.rel {R2 R3 : Sto → (Nat → Prop) → α → β → List Nat → Prop} {r : R α} {s : PR β} (o : Out cc q R2 h F fp env r s) (k : ∀ a b h' F' f', R2 h' F' a b f' → R3 h' F' a b f') : Out cc q R3 h F fp env r s := by
  cases s with
  | bad => trivial
  | exc C x e' => exact o
  | ok b e' =>
    obtain ⟨a, h', F', f3, f4, a1, a2, a3⟩ := o
    exact ⟨a, h', F', f3, f4, a1, k _ _ _ _ _ a2, a3⟩
/-- a change of the result alone -/
theorem Out.bind0 {R1 : Sto → (Nat → Prop) → α → β → List Nat → Prop} {R2 : Sto → (Nat → Prop) → γ → δ → List Nat → Prop} {r : R α} {s : PR β} {g : α → Sto → R γ} {p : β → Env → PR δ} (sr : SR h F fp) (o : Out cc q R1 h F fp env r s)
    (k : ∀ a b h1 F1 e1 f2, R1 h1 F1 a b [] → Ev cc h1 F1 env e1 f2 → SR h1 F1 f2 → Stab h F h1 F1 → (q = true → Sm h h1) → Out cc q R2 h1 F1 f2 env (g a h1) (p b e1)) (n : ∀ a b h F f, R1 h F a b f → f = []) : Out cc q R2 h F fp env (r.bind g) (s.bind p) :=
  o.bind fun a b h1 F1 e1 f1 f2 r1 x1 fr sm => by
    have := n _ _ _ _ _ r1
    subst this
    exact k a b h1 F1 e1 f2 r1 x1 fr.sr (fr.stab sr) sm
theorem rd_nil : ∀ (a : U) (b : D) (h : Sto) (F : Nat → Prop) (f : List Nat), RD cc h F a b f → f = [] := fun _ _ _ _ _ x => x.1
theorem rx_nil {s : Bool} : ∀ (a : U) (b : D) (h : Sto) (F : Nat → Prop) (f : List Nat), RX cc s h F a b f → f = [] := fun _ _ _ _ _ x => x.1
theorem ra_nil {s : Bool} : ∀ (a : List U) (b : List D) (h : Sto) (F : Nat → Prop) (f : List Nat), RA cc s h F a b f → f = [] := fun _ _ _ _ _ x => x.1
theorem rds_nil : ∀ (a : List U) (b : List D) (h : Sto) (F : Nat → Prop) (f : List Nat), RDs cc h F a b f → f = [] := fun _ _ _ _ _ x => x.1
theorem re_nil : ∀ (a b : α) (h : Sto) (F : Nat → Prop) (f : List Nat), RE h F a b f → f = [] := fun _ _ _ _ _ x => x.1
theorem RX.tp (x : RX cc s h F u d f) : Tp cc h F u d := by
  obtain ⟨_, x⟩ := x
  split at x
  · exact x.tp
  · exact x
theorem RX.later (x : RX cc s h F u d f) (sr : SR h F fp) (st : Stab h F h1 F1) (sm : q = true → Sm h h1) (z : s = true ∨ q = true) : Tp cc h1 F1 u d := by
  rcases z with z | z
  · subst z
    have y : Dn cc h F u d := by have := x.2; simpa using this
    exact (y.mono st).tp
  · exact Tp.mono st sr (sm z) x.tp
theorem RD.rx (x : RD cc h F u d f) : RX cc true h F u d f := ⟨x.1, by simpa using x.2⟩
theorem Sim.rx {m : EM} {p : PE} (a : Sim cc q (RD cc) m p) : Sim cc q (RX cc true) m p := fun h F env e fp x sr => (a h F env e fp x sr).rel fun _ _ _ _ _ r => r.rx
theorem Sim.rd {m : EM} {p : PE} (a : Sim cc q (RX cc true) m p) : Sim cc q (RD cc) m p := fun h F env e fp x sr => (a h F env e fp x sr).rel fun _ _ _ _ _ r => ⟨r.1, by have := r.2; simpa using this⟩
theorem Sim.weak {Rel : Sto → (Nat → Prop) → α → β → List Nat → Prop} {m : Env' → Sto → R α} {p : Env → PR β} (a : Sim cc true Rel m p) : Sim cc false Rel m p := fun h F env e fp x sr => by
  have := a h F env e fp x sr
  cases e1 : p e with
  | bad => trivial
  | exc C y e' => rw [e1] at this; exact this
  | ok b e' =>
    rw [e1] at this
    obtain ⟨a, h', F', f1, f2, a1, a2, a3, a4, a5⟩ := this
    exact ⟨a, h', F', f1, f2, a1, a2, a3, a4, fun z => by cases z⟩
/-! slots -/
theorem sim_var {i : Nat} : Sim cc q (RD cc) (Q.mVar i) (pVar i) := fun h F env e fp x sr => by
  unfold pVar
  split
  · rename_i d q1
    obtain ⟨o, f1, f2, a1, a2, a3, _⟩ := x.at q1
    cases o with
    | none => cases a2.1
    | some u =>
      cases a2 with
      | leaf r => exact ⟨u, h, F, [], fp, by rw [Q.e_var, a1], ⟨rfl, r⟩, x, Fr.refl sr, fun _ => Sm.refl h⟩
  · trivial
theorem leaves_of : ∀ {us : List (PySem.Str × U)} {ts : List (String × T)} {ds : List (String × D)} {f : List Nat}, leaves ts = some ds → Ows cc h F (us.map Prod.snd) (ts.map Prod.snd) f → us.map Prod.fst = (ts.map fun p => fs' p.1) → us.map Prod.fst = (ds.map fun p => fs' p.1) ∧ Dns cc h F (us.map Prod.snd) (ds.map Prod.snd)
  | [], [], ds, f, q, _, _ => by cases q; exact ⟨rfl, .nil⟩
  | _ :: _, [], _, _, _, _, e => by simp at e
  | [], _ :: _, _, _, _, _, e => by simp at e
  | (k, u) :: us, (g, t) :: ts, ds, f, q, r, e => by
    simp only [List.map_cons, List.cons.injEq] at e
    cases t with
    | leaf d =>
      unfold leaves at q
      obtain ⟨ds', q1, rfl⟩ := Option.map_eq_some_iff.mp q
      simp only [List.map_cons] at r
      cases r with
      | cons a b =>
        obtain ⟨i1, i2⟩ := leaves_of q1 b e.2
        cases a with
        | leaf a => exact ⟨by simp [e.1, i1], .cons a i2⟩
    | _ => cases q
theorem Ow.vw (x : Ow cc h F u t f) (q : t.vw = some d) : Tp cc h F u d := by
  cases x with
  | leaf r => cases q; exact r.tp
  | ls e r => cases q; exact ⟨_, by rw [Q.e_mL_ref, e], r⟩
  | dK e k r => cases q; exact ⟨_, _, rfl, e, k, r⟩
  | dT e k r => cases q; exact ⟨_, _, rfl, e, k, r⟩
  | is e k r =>
    obtain ⟨ds, q1, rfl⟩ := Option.map_eq_some_iff.mp q
    obtain ⟨a, b⟩ := leaves_of q1 r k
    exact ⟨_, _, rfl, e, a, b⟩
  | hole u => cases q
  | lT e r => cases q
theorem sim_vw {i : Nat} : Sim cc q (RX cc false) (Q.mVar i) (pVw i) := fun h F env e fp x sr => by
  unfold pVw
  split
  · rename_i t q1
    obtain ⟨o, f1, f2, a1, a2, a3, _⟩ := x.at q1
    cases q2 : t.vw with
    | none => trivial
    | some d =>
      cases o with
      | none => obtain ⟨rfl, _⟩ := a2; cases q2
      | some u => exact ⟨u, h, F, [], fp, by rw [Q.e_var, a1], ⟨rfl, Ow.vw a2 q2⟩, x, Fr.refl sr, fun _ => Sm.refl h⟩
  · trivial
theorem sim_fv {i : Nat} : Sim cc q (RD cc) (Q.mVar i) (pFv i) := fun h F env e fp x sr => by
  unfold pFv
  split
  · rename_i t q1
    split
    · rename_i d q2
      obtain ⟨o, f1, f2, a1, a2, a3, a4⟩ := x.at q1
      cases o with
      | none => obtain ⟨rfl, _⟩ := a2; cases q2
      | some u =>
        have dn := Ow.frz a2 q2 (fun n => F n ∨ n ∈ f1) (fun _ y => .inl y) (fun _ y => .inr y)
        obtain ⟨fp', b1, b2⟩ := a4 h (fun n => F n ∨ n ∈ f1) (some u) (.leaf d) [] (Stab.freeze f1) (fun _ _ => rfl) (.leaf dn)
        rw [list_set_same a1] at b1
        exact ⟨u, h, _, [], fp', by rw [Q.e_var, a1], ⟨rfl, dn⟩, b1, ((Fr.freeze (sr.perm a3)).perm b2.symm).permL a3.symm, fun _ => Sm.refl h⟩
    · trivial
  · trivial
theorem sim_mv {i : Nat} : Sim cc q (RT cc) (Q.mVar i) (pMv i) := fun h F env e fp x sr => by
  unfold pMv
  split
  · trivial
  · rename_i t nh q1
    obtain ⟨o, f1, f2, a1, a2, a3, a4⟩ := x.at q1
    cases o with
    | none => obtain ⟨rfl, _⟩ := a2; exact (nh rfl).elim
    | some u =>
      obtain ⟨fp', b1, b2⟩ := a4 h F (some u) .hole [] .refl (fun _ _ => rfl) (.hole u)
      rw [list_set_same a1] at b1
      exact ⟨u, h, F, f1, fp', by rw [Q.e_var, a1], a2, b1, (Fr.refl sr).perm (a3.trans (List.Perm.append_left f1 b2.symm)), fun _ => Sm.refl h⟩
  · trivial
theorem sim_c {u : U} {d : D} (r : ∀ h F, Dn cc h F u d) : Sim cc q (RD cc) (Q.mC u) (pC d) := fun h F env e fp x sr => Out.ret0 ⟨rfl, r h F⟩ x sr
theorem sim_lf {m : EM} {p : PE} (a : Sim cc q (RD cc) m p) : Sim cc q (RT cc) m (pLf p) := fun h F env e fp x sr => by
  have := a h F env e fp x sr
  unfold pLf
  cases e1 : p e with
  | bad => trivial
  | exc C y e' => rw [e1] at this; exact this
  | ok b e' =>
    rw [e1] at this
    obtain ⟨a, h', F', f1, f2, a1, a2, a3⟩ := this
    obtain ⟨rfl, dn⟩ := a2
    exact ⟨a, h', F', [], f2, a1, .leaf dn, a3⟩
theorem sim_fz {m : EM} {p : PT} (a : Sim cc q (RT cc) m p) : Sim cc q (RD cc) m (pFz p) := fun h F env e fp x sr => by
  have := a h F env e fp x sr
  unfold pFz
  cases e1 : p e with
  | bad => trivial
  | exc C y e' => rw [e1] at this; exact this
  | ok b e' =>
    rw [e1] at this
    obtain ⟨u, h', F', f1, f2, a1, a2, a3, a4, a5⟩ := this
    show Out cc q (RD cc) h F fp env _ (oE b.fz e')
    cases q1 : b.fz with
    | none => trivial
    | some d =>
      have dn := Ow.frz a2 q1 (fun n => F' n ∨ n ∈ f1) (fun _ y => .inl y) (fun _ y => .inr y)
      exact ⟨u, h', _, [], f2, a1, ⟨rfl, dn⟩, Ev.mono (Stab.freeze f1) (fun _ _ => rfl) a3, a4.trans (Fr.freeze a4.sr), a5⟩
/-! ### operators -/
def OpB (cc : Nat → Nat) {α β : Type} (f : U → U → Sto → R α) (g : D → D → Option β) (Rel : Sto → (Nat → Prop) → α → β → List Nat → Prop) : Prop :=
  ∀ (q : Bool) (h : Sto) (F : Nat → Prop) (fp : List Nat) (env : Env') (e : Env) (u1 : U) (d1 : D) (u2 : U) (d2 : D), Ev cc h F env e fp → SR h F fp → Tp cc h F u1 d1 → Tp cc h F u2 d2 → Out cc q Rel h F fp env (f u1 u2 h) (oE (g d1 d2) e)
theorem sim_two {f : U → U → Sto → R α} {g : D → D → Option β} {Rel : Sto → (Nat → Prop) → α → β → List Nat → Prop} (ok : OpB cc f g Rel) {ma mb : EM} {pa pb : PE} (a : Sim cc q (RX cc s1) ma pa) (b : Sim cc q (RX cc s2) mb pb) (z : s1 = true ∨ q = true) :
    Sim cc q Rel (fun env h => (ma env h).bind fun x h1 => (mb env h1).bind fun y h2 => f x y h2) (fun e => (pa e).bind fun x e1 => (pb e1).bind fun y e2 => oE (g x y) e2) := fun h F env e fp x sr =>
  Out.bind0 sr (a h F env e fp x sr) (fun u d h1 F1 e1 f2 r1 x1 sr1 st sm => Out.bind0 sr1 (b h1 F1 env e1 f2 x1 sr1) (fun u2 d2 h2 F2 e2 f3 r2 x2 sr2 st2 sm2 => ok q h2 F2 f3 env e2 u d u2 d2 x2 sr2 (r1.later sr1 st2 sm2 z) r2.tp) rx_nil) rx_nil
theorem sim_bin {f : U → U → Sto → R U} {g : D → D → Option D} (ok : OpB cc f g (RD cc)) {ma mb : EM} {pa pb : PE} (a : Sim cc q (RX cc s1) ma pa) (b : Sim cc q (RX cc s2) mb pb) (z : s1 = true ∨ q = true) : Sim cc q (RD cc) (Q.mBin f ma mb) (pBin g pa pb) := sim_two ok a b z
theorem sim_add' {f : U → U → Sto → R U} (ok : OpB cc f tAdd (RT cc)) {ma mb : EM} {pa pb : PE} (a : Sim cc q (RX cc s1) ma pa) (b : Sim cc q (RX cc s2) mb pb) (z : s1 = true ∨ q = true) : Sim cc q (RT cc) (Q.mBin f ma mb) (pAdd pa pb) := sim_two ok a b z
theorem op_int {c : Int → Int → Prop} [∀ i j, Decidable (c i j)] {f : Int → Int → Int} {g : D → D → Option D} (hg : ∀ i j, g (.int i) (.int j) = if c i j then some (.int (f i j)) else none) (hn : ∀ x y, (∀ i j, x = .int i → y = .int j → False) → g x y = none) : OpB cc (Q.uI c f) g (RD cc) := by
  intro q h F fp env e u1 d1 u2 d2 x sr t1 t2
  by_cases z : ∃ i j, d1 = .int i ∧ d2 = .int j
  · obtain ⟨i, j, rfl, rfl⟩ := z
    cases t1; cases t2
    rw [hg]
    by_cases y : c i j
    · rw [if_pos y]
      have : Q.uI c f (.int i) (.int j) h = .ok (.int (f i j)) h := by unfold Q.uI; simp only; rw [if_pos y]
      rw [this]
      exact Out.ret0 ⟨rfl, .int _⟩ x sr
    · rw [if_neg y]; trivial
  · rw [hn d1 d2 fun i j a b => z ⟨i, j, a, b⟩]; trivial
end
end P

set_option Elab.async false
set_option linter.all false
set_option maxRecDepth 100000
set_option maxHeartbeats 1000000
/-! PS4: operators, tests, lists of arguments. -/
namespace P
open Q (U O Sto Env' R RS EM TM AM SM Sem')
section
variable {cc : Nat → Nat} {h h' h1 h2 : Sto} {F F' F1 F2 : Nat → Prop} {u : U} {d : D} {us : List U} {ds : List D} {t : T} {ts : List T} {f f1 f2 fp fp' fp1 fp2 : List Nat} {env env' : Env'} {e e' : Env} {i : Nat} {q s s1 s2 : Bool}
  {α β γ δ : Type}
theorem op_sub : OpB cc Q.uSub gSub (RD cc) := op_int (fun i j => by show some _ = _; rw [if_pos (show Q.cT i j from trivial)]) (fun x y n => by unfold gSub; split <;> first | rfl | exact (n _ _ rfl rfl).elim)
theorem op_int' {c : Int → Int → Prop} [∀ i j, Decidable (c i j)] {c2 : Int → Int → Prop} [∀ i j, Decidable (c2 i j)] {f : Int → Int → Int} {g : D → D → Option D} (hc : ∀ i j, c2 i j → c i j) (hg : ∀ i j, g (.int i) (.int j) = if c2 i j then some (.int (f i j)) else none) (hn : ∀ x y, (∀ i j, x = .int i → y = .int j → False) → g x y = none) : OpB cc (Q.uI c f) g (RD cc) := by
  intro q h F fp env e u1 d1 u2 d2 x sr t1 t2
  by_cases z : ∃ i j, d1 = .int i ∧ d2 = .int j
  · obtain ⟨i, j, rfl, rfl⟩ := z
    cases t1; cases t2
    rw [hg]
    by_cases y : c2 i j
    · rw [if_pos y]
      have : Q.uI c f (.int i) (.int j) h = .ok (.int (f i j)) h := by unfold Q.uI; simp only; rw [if_pos (hc i j y)]
      rw [this]
      exact Out.ret0 ⟨rfl, .int _⟩ x sr
    · rw [if_neg y]; trivial
  · rw [hn d1 d2 fun i j a b => z ⟨i, j, a, b⟩]; trivial
theorem op_mul : OpB cc Q.uMul gMul (RD cc) := op_int' (c := Q.cMul) (c2 := P.cMul) (f := fun i j => i * j) (fun i j h => by unfold P.cMul at h; unfold Q.cMul; omega) (fun i j => rfl) (fun x y n => by unfold gMul; split <;> first | rfl | exact (n _ _ rfl rfl).elim)
theorem op_div : OpB cc Q.uDiv gDiv (RD cc) := op_int' (c := Q.cDiv) (c2 := fun _ j => 0 < j ∧ j.natAbs < 1073741824) (f := fun i j => i / j) (fun i j h => by unfold Q.cDiv; omega) (fun i j => rfl) (fun x y n => by unfold gDiv; split <;> first | rfl | exact (n _ _ rfl rfl).elim)
theorem op_mod : OpB cc Q.uMod gMod (RD cc) := op_int (c := Q.cMod) (f := fun i j => i % j) (fun i j => by
  show (if 0 < j then some (D.int (i % j)) else none) = _
  by_cases z : 0 < j
  · rw [if_pos z, if_pos (show Q.cMod i j from z)]
  · rw [if_neg z, if_neg (show ¬ Q.cMod i j from z)]) (fun x y n => by unfold gMod; split <;> first | rfl | exact (n _ _ rfl rfl).elim)
theorem op_pow : OpB cc Q.uPow gPow (RD cc) := op_int' (c := Q.cPow) (c2 := fun i j => 0 ≤ j ∧ j.natAbs ≤ 1000 ∧ 0 ≤ i ∧ i.natAbs < 1000) (f := fun i j => i ^ j.toNat) (fun i j h => by unfold Q.cPow; omega) (fun i j => rfl) (fun x y n => by unfold gPow; split <;> first | rfl | exact (n _ _ rfl rfl).elim)
theorem Dns.app : ∀ {us : List U} {ds : List D} {vs : List U} {es : List D}, Dns cc h F us ds → Dns cc h F vs es → Dns cc h F (us ++ vs) (ds ++ es)
  | _, _, _, _, .nil, y => y
  | _, _, _, _, .cons x r, y => .cons x (Dns.app r y)
theorem Dns.take : ∀ (n : Nat) {us : List U} {ds : List D}, Dns cc h F us ds → Dns cc h F (us.take n) (ds.take n)
  | 0, _, _, _ => by simp; exact .nil
  | n + 1, _, _, .nil => by simp; exact .nil
  | n + 1, _, _, .cons x r => by simp; exact .cons x (Dns.take n r)
theorem Dns.drop : ∀ (n : Nat) {us : List U} {ds : List D}, Dns cc h F us ds → Dns cc h F (us.drop n) (ds.drop n)
  | 0, _, _, r => by simpa using r
  | n + 1, _, _, .nil => by simp; exact .nil
  | n + 1, _, _, .cons x r => by simp; exact Dns.drop n r
theorem Dns.set : ∀ (n : Nat) {us : List U} {ds : List D} {u : U} {d : D}, Dns cc h F us ds → Dn cc h F u d → Dns cc h F (us.set n u) (ds.set n d)
  | _, _, _, _, _, .nil, _ => by simp; exact .nil
  | 0, _, _, _, _, .cons x r, y => .cons y r
  | n + 1, _, _, _, _, .cons x r, y => .cons x (Dns.set n r y)
theorem cut_eq {α : Type} (xs : List α) (lo hi : Option Int) : P.cut xs lo hi = Q.cut xs lo hi := by
  have : ∀ n d o, P.sIx n d o = HT.sIx n d o := fun n d o => by cases o <;> rfl
  unfold P.cut Q.cut
  rw [this, this]
theorem Dns.cut {us : List U} {ds : List D} (r : Dns cc h F us ds) (lo hi : Option Int) : Dns cc h F (Q.cut us lo hi) (P.cut ds lo hi) := by
  rw [cut_eq]
  unfold Q.cut
  rw [r.len]
  exact (r.drop _).take _
/-- a new list -/
theorem out_new {us : List U} {ds : List D} (x : Ev cc h F env e fp) (sr : SR h F fp) (r : Dns cc h F us ds) : Out cc q (RT cc) h F fp env (.ok (.ref h.length) (h ++ [.lst us])) (.ok (.ls ds) e) := by
  have st := Stab.app sr [O.lst us]
  exact ⟨_, _, F, [h.length], fp, rfl, .ls (by rw [List.getElem?_append_right (Nat.le_refl _), Nat.sub_self]; rfl) (r.mono st), x.mono st (Keep.app sr _), Fr.app sr _, fun _ => Sm.app h _⟩
theorem aL_of_mL {u : U} {us : List U} (q : Q.mL h u = some us) : Q.aL h u = some us := by cases u <;> first | exact q | cases q
theorem sL_of_mL {u : U} {us : List U} (q : Q.mL h u = some us) : Q.sL h u = some us := by cases u <;> first | exact q | cases q
theorem op_add : OpB cc Q.uAdd tAdd (RT cc) := by
  intro q h F fp env e u1 d1 u2 d2 x sr t1 t2
  unfold tAdd
  split
  · cases t1; cases t2
    exact Out.ret0 (.leaf (.int _)) x sr
  · rename_i s t
    cases t1; cases t2
    split
    · rename_i z
      rw [Q.e_add_s, if_pos z]
      exact Out.ret0 (.leaf (.str _)) x sr
    · trivial
  · rename_i s t
    obtain ⟨us, a1, a2⟩ := t1
    obtain ⟨vs, b1, b2⟩ := t2
    split
    · rename_i z
      have g : Q.uAdd u1 u2 h = (match Q.mL h u1, Q.mL h u2 with
        | some us, some ts => if us.length + ts.length ≤ 16000000 then .ok (.ref h.length) (h ++ [.lst (us ++ ts)]) else .bad
        | _, _ => .bad) := by
        cases u1 <;> first | (cases a1; done) | (cases u2 <;> first | rfl | (cases b1; done))
      rw [g, a1, b1]
      simp only
      rw [if_pos (by rw [a2.len, b2.len]; exact z)]
      exact out_new x sr (a2.app b2)
    · trivial
  · rename_i s t
    cases t1 with
    | @tup us _ r1 =>
    cases t2 with
    | @tup vs _ r2 =>
    split
    · rename_i z
      show Out cc q (RT cc) _ _ _ _ (if us.length + vs.length ≤ 16000000 then R.ok (.tup (us ++ vs)) h else .bad) _
      rw [if_pos (by rw [r1.len, r2.len]; exact z)]
      exact Out.ret0 (.leaf (.tup (r1.app r2))) x sr
    · trivial
  · trivial

/-! ### arguments -/
theorem sim_dnil : Sim cc q (RDs cc) Q.aNil dNil := fun h F env e fp x sr => Out.ret0 ⟨rfl, .nil⟩ x sr
theorem sim_dcons {m : EM} {p : PE} {am : AM} {pa : PDs} (a : Sim cc q (RD cc) m p) (b : Sim cc q (RDs cc) am pa) : Sim cc q (RDs cc) (Q.aCons m am) (dCons p pa) := fun h F env e fp x sr =>
  Out.bind0 sr (a h F env e fp x sr) (fun u d h1 F1 e1 f2 r1 x1 sr1 st sm => Out.bind0 sr1 (b h1 F1 env e1 f2 x1 sr1) (fun us ds h2 F2 e2 f3 r2 x2 sr2 st2 sm2 => Out.ret0 ⟨rfl, .cons (r1.2.mono st2) r2.2⟩ x2 sr2) rds_nil) rd_nil
theorem sim_ra {am : AM} {pa : PDs} (a : Sim cc q (RDs cc) am pa) : Sim cc q (RA cc true) am pa := fun h F env e fp x sr => (a h F env e fp x sr).rel fun _ _ _ _ _ r => ⟨r.1, by simpa using r.2⟩
theorem sim_one {m : EM} {p : PE} (a : Sim cc q (RX cc s) m p) : Sim cc q (RA cc false) (Q.aCons m Q.aNil) (dCons p dNil) := fun h F env e fp x sr =>
  Out.bind0 sr (a h F env e fp x sr) (fun u d h1 F1 e1 f2 r1 x1 sr1 st sm => Out.ret0 ⟨rfl, u, d, rfl, rfl, r1.tp⟩ x1 sr1) rx_nil
theorem sim_tup {am : AM} {pa : PDs} (a : Sim cc q (RDs cc) am pa) : Sim cc q (RD cc) (Q.mTup am) (pTup pa) := fun h F env e fp x sr =>
  Out.bind0 sr (a h F env e fp x sr) (fun us ds h1 F1 e1 f2 r1 x1 sr1 st sm => by
    by_cases z : ds.length ≤ 16000000
    · rw [if_pos z, if_pos (by rw [r1.2.len]; exact z)]
      exact Out.ret0 ⟨rfl, .tup r1.2⟩ x1 sr1
    · rw [if_neg z]; trivial) rds_nil
theorem sim_lst {am : AM} {pa : PDs} (a : Sim cc q (RDs cc) am pa) : Sim cc q (RT cc) (Q.mLst am) (pLst pa) := fun h F env e fp x sr =>
  Out.bind0 sr (a h F env e fp x sr) (fun us ds h1 F1 e1 f2 r1 x1 sr1 st sm => by
    by_cases z : ds.length ≤ 16000000
    · rw [if_pos z, if_pos (by rw [r1.2.len]; exact z)]
      exact out_new x1 sr1 r1.2
    · rw [if_neg z]; trivial) rds_nil
/-! ### more operators -/
theorem op_ix : OpB cc Q.uIx gIx (RD cc) := by
  intro q h F fp env e u1 d1 u2 d2 x sr t1 t2
  have lst : ∀ {us : List U} {ds : List D} {i : Int}, (∀ s, u1 ≠ .str s) → Q.sL h u1 = some us → Dns cc h F us ds → Out cc q (RD cc) h F fp env (Q.uIx u1 (.int i) h) (oE (atI ds i) e) := by
    intro us ds i ns a r
    have g : Q.uIx u1 (.int i) h = (match Q.sL h u1 with
      | some us => Q.oR (L2.atI us i) h
      | none => .bad) := by cases u1 <;> first | rfl | exact (ns _ rfl).elim
    cases q1 : atI ds i with
    | none => trivial
    | some d =>
      obtain ⟨v, b1, b2⟩ := r.at q1
      rw [g, a]
      simp only [b1]
      exact Out.ret0 ⟨rfl, b2⟩ x sr
  unfold gIx
  split
  · cases t2; cases t1 with
    | kl r => exact lst (fun _ z => by cases z) rfl r
  · rename_i s i
    cases t1; cases t2
    rw [Q.e_ix_s]
    by_cases z : s.length ≤ 16000000
    · rw [if_pos z, if_pos z]
      cases q1 : atI s i with
      | none => trivial
      | some c =>
        have q1 : L2.atI s i = some c := q1
        rw [q1]
        exact Out.ret0 ⟨rfl, .str _⟩ x sr
    · rw [if_neg z, if_neg z]; trivial
  · cases t2
    obtain ⟨us, a, r⟩ := t1
    exact lst (fun s z => by subst z; cases a) (sL_of_mL a) r
  · cases t2; cases t1 with
    | tup r => exact lst (fun _ z => by cases z) rfl r
  · trivial
theorem sim_oso {m : EM} {p : PE} (a : Sim cc q (RD cc) m p) : Sim cc q RE (Q.oSome m) (oSo p) := fun h F env e fp x sr =>
  Out.bind0 sr (a h F env e fp x sr) (fun u d h1 F1 e1 f2 r1 x1 sr1 st sm => by
    have r := r1.2
    cases r with
    | int i => exact Out.ret0 ⟨rfl, rfl⟩ x1 sr1
    | _ => trivial) rd_nil
theorem sim_sl {m : EM} {p : PE} {lo hi : Q.OM} {plo phi : PO} (a : Sim cc q (RX cc s) m p) (b : Sim cc q RE lo plo) (c : Sim cc q RE hi phi) (z : s = true ∨ q = true) : Sim cc q (RT cc) (Q.mSl m lo hi) (pSl p plo phi) := fun h F env e fp x sr =>
  Out.bind0 sr (a h F env e fp x sr) (fun u d h1 F1 e1 f2 r1 x1 sr1 st sm => Out.bind0 sr1 (b h1 F1 env e1 f2 x1 sr1) (fun l l' h2 F2 e2 f3 r2 x2 sr2 st2 sm2 => Out.bind0 sr2 (c h2 F2 env e2 f3 x2 sr2) (fun v v' h3 F3 e3 f4 r3 x3 sr3 st3 sm3 => by
    obtain ⟨_, rfl⟩ := r2
    obtain ⟨_, rfl⟩ := r3
    have t1 : Tp cc h3 F3 u d := r1.later sr1 (st2.trans st3) (fun y => by
      intro n l
      have hl : n < h2.length := by
        cases g : h1[n]? with
        | none => have := List.getElem?_eq_none_iff.mp g; omega
        | some o =>
          have := sm2 y n l
          rw [g] at this
          exact (List.getElem?_eq_some_iff.mp this).1
      rw [sm3 y n hl, sm2 y n l]) z
    cases d with
    | str s2 =>
      cases t1
      rw [Q.e_sl_s]
      show Out cc q (RT cc) _ _ _ _ _ (oE (if s2.length ≤ 16000000 then some (.leaf (.str (P.cut s2 l v))) else none) e3)
      by_cases w : s2.length ≤ 16000000
      · rw [if_pos w, if_pos w, cut_eq]
        exact Out.ret0 (.leaf (.str _)) x3 sr3
      · rw [if_neg w, if_neg w]; trivial
    | tup us =>
      cases t1 with
      | @tup us' _ r => exact Out.ret0 (.leaf (.tup (r.cut _ _))) x3 sr3
    | lst us =>
      obtain ⟨us', a1, r⟩ := t1
      have g : Q.uSl u l v h3 = .ok (.ref h3.length) (h3 ++ [.lst (Q.cut us' l v)]) := by
        cases u with
        | ref n => rw [Q.e_sl_ref, aL_of_mL a1]
        | fl w => cases a1; rfl
        | _ => cases a1
      rw [g]
      exact out_new x3 sr3 (r.cut _ _)
    | _ => trivial) re_nil) re_nil) rx_nil
theorem sim_not {m : EM} {p : PE} (a : Sim cc q (RD cc) m p) : Sim cc q (RD cc) (Q.mNot m) (pUn gNot p) := fun h F env e fp x sr =>
  Out.bind0 sr (a h F env e fp x sr) (fun u d h1 F1 e1 f2 r1 x1 sr1 st sm => by
    have r := r1.2
    cases r with
    | bl i => exact Out.ret0 ⟨rfl, .bl _⟩ x1 sr1
    | _ => trivial) rd_nil
theorem sim_and {m m2 : EM} {p p2 : PE} (a : Sim cc q (RD cc) m p) (b : Sim cc q (RD cc) m2 p2) : Sim cc q (RD cc) (Q.mAnd m m2) (pAnd p p2) := fun h F env e fp x sr =>
  Out.bind0 sr (a h F env e fp x sr) (fun u d h1 F1 e1 f2 r1 x1 sr1 st sm => by
    have r := r1.2
    cases r with
    | bl i =>
      cases i with
      | true => exact b _ _ _ _ _ x1 sr1
      | false => exact Out.ret0 ⟨rfl, .bl _⟩ x1 sr1
    | _ => trivial) rd_nil
/-! ### tests -/
theorem sim_tand {t t2 : TM} {p p2 : PB} (a : Sim cc q RE t p) (b : Sim cc q RE t2 p2) : Sim cc q RE (Q.bAnd t t2) (tAnd p p2) := fun h F env e fp x sr =>
  Out.bind0 sr (a h F env e fp x sr) (fun u d h1 F1 e1 f2 r1 x1 sr1 st sm => by
    obtain ⟨_, rfl⟩ := r1
    cases u with
    | true => exact b _ _ _ _ _ x1 sr1
    | false => exact Out.ret0 ⟨rfl, rfl⟩ x1 sr1) re_nil
theorem sim_tor {t t2 : TM} {p p2 : PB} (a : Sim cc q RE t p) (b : Sim cc q RE t2 p2) : Sim cc q RE (Q.bOr t t2) (tOr p p2) := fun h F env e fp x sr =>
  Out.bind0 sr (a h F env e fp x sr) (fun u d h1 F1 e1 f2 r1 x1 sr1 st sm => by
    obtain ⟨_, rfl⟩ := r1
    cases u with
    | false => exact b _ _ _ _ _ x1 sr1
    | true => exact Out.ret0 ⟨rfl, rfl⟩ x1 sr1) re_nil
theorem sim_tnot {t : TM} {p : PB} (a : Sim cc q RE t p) : Sim cc q RE (Q.bNot t) (tNot p) := fun h F env e fp x sr =>
  Out.bind0 sr (a h F env e fp x sr) (fun u d h1 F1 e1 f2 r1 x1 sr1 st sm => by
    obtain ⟨_, rfl⟩ := r1
    exact Out.ret0 ⟨rfl, rfl⟩ x1 sr1) re_nil
theorem sim_b {t : TM} {p : PB} (a : Sim cc q RE t p) : Sim cc q (RD cc) (Q.mB t) (pB p) := fun h F env e fp x sr =>
  Out.bind0 sr (a h F env e fp x sr) (fun u d h1 F1 e1 f2 r1 x1 sr1 st sm => by
    obtain ⟨_, rfl⟩ := r1
    exact Out.ret0 ⟨rfl, .bl _⟩ x1 sr1) re_nil
theorem sim_tru {m : EM} {p : PE} (a : Sim cc q (RX cc s) m p) : Sim cc q RE (Q.bTru m) (tTru p) := fun h F env e fp x sr =>
  Out.bind0 sr (a h F env e fp x sr) (fun u d h1 F1 e1 f2 r1 x1 sr1 st sm => by
    have t1 := r1.tp
    have done : ∀ b, Q.truU h1 u = some b → Out cc q RE h1 F1 f2 env (Q.oB (Q.truU h1 u) h1) (oE (some b) e1) := fun b z => by
      rw [z]; exact Out.ret0 ⟨rfl, rfl⟩ x1 sr1
    have em : ∀ {us : List U} {ds : List D}, Dns cc h1 F1 us ds → (!us.isEmpty) = !ds.isEmpty := fun r => by cases r <;> rfl
    cases d with
    | non => cases t1; exact done _ rfl
    | bl b => cases t1; exact done _ rfl
    | int b => cases t1; exact done _ rfl
    | str s2 =>
      cases t1
      unfold truD
      by_cases w : s2.length ≤ 16000000
      · simp only [if_pos w]; exact done _ (by show (if s2.length ≤ 16000000 then some (!s2.isEmpty) else none) = _; rw [if_pos w])
      · simp only [if_neg w]; trivial
    | tup ds => cases t1 with | tup r => exact done _ (by rw [← em r]; rfl)
    | lst ds =>
      obtain ⟨us, a1, r⟩ := t1
      refine done _ ?_
      rw [← em r]
      cases u with
      | ref n =>
        simp only [Q.e_mL_ref] at a1
        split at a1
        · rename_i q1; cases a1; unfold Q.truU; simp only [q1]
        · cases a1
      | fl w => cases a1; rfl
      | _ => cases a1
    | dK ds =>
      obtain ⟨n, us, rfl, a1, a2, r⟩ := t1
      refine done _ ?_
      unfold Q.truU
      simp only [a1]
      congr 1
      cases us with
      | nil => cases ds with
        | nil => rfl
        | cons _ _ => simp at a2
      | cons _ _ => cases ds with
        | nil => simp at a2
        | cons _ _ => rfl
    | _ => trivial) rx_nil
end
end P

set_option Elab.async false
set_option linter.all false
set_option maxRecDepth 100000
set_option maxHeartbeats 1000000
/-! PS5: comparisons, built-ins, comprehensions, iteration. -/
namespace P
open Q (U O Sto Env' R RS EM TM AM SM Sem')
section
variable {cc : Nat → Nat} {h h' h1 h2 : Sto} {F F' F1 F2 : Nat → Prop} {u : U} {d : D} {us : List U} {ds : List D} {t : T} {ts : List T} {f f1 f2 fp fp' fp1 fp2 : List Nat} {env env' : Env'} {e e' : Env} {i : Nat} {q s s1 s2 : Bool}
  {α β γ δ : Type}
/-! data as the lower layer knows it -/
mutual
def py : D → PySem.PyData
  | .non => .none
  | .bl b => .bool b
  | .int i => .int i
  | .str s => .str ⟨s.toArray⟩
  | .tup ds => .tuple (pys ds)
  | .lst ds => .list (pys ds)
  | _ => .none
def pys : List D → List PySem.PyData
  | [] => []
  | d :: ds => py d :: pys ds
end
mutual
theorem pyd_of : ∀ {d : D} {u : U} {n m : Nat}, Dn cc h F u d → D.ok n d = true → n < m → Q.pyd m h u = some (py d)
  | .non, _, n, m + 1, .non, _, _ => by unfold py; rfl
  | .bl b, _, n, m + 1, .bl _, _, _ => by unfold py; rfl
  | .int b, _, n, m + 1, .int _, _, _ => by unfold py; rfl
  | .str b, _, n, m + 1, .str _, _, _ => by unfold py; rfl
  | .tup ds, _, n, m + 1, .tup (us := us) r, q, l => by
    cases n with
    | zero => simp [D.ok] at q
    | succ n =>
      simp only [D.ok] at q
      show (Q.allO (Q.pyd m h) us).map PySem.PyData.tuple = _
      rw [pyds_of r q (by omega)]
      unfold py; rfl
  | .lst ds, _, n, m + 1, .fl (us := us) r, q, l => by
    cases n with
    | zero => simp [D.ok] at q
    | succ n =>
      simp only [D.ok] at q
      show (Q.allO (Q.pyd m h) us).map PySem.PyData.list = _
      rw [pyds_of r q (by omega)]
      unfold py; rfl
  | .lst ds, _, n, m + 1, .lst (us := us) f e r, q, l => by
    cases n with
    | zero => simp [D.ok] at q
    | succ n =>
      simp only [D.ok] at q
      rename_i k
      show (match Q.aL h (.ref k) with | some us => (Q.allO (Q.pyd m h) us).map PySem.PyData.list | none => none) = _
      rw [Q.e_aL_ref, e]
      simp only
      rw [pyds_of r q (by omega)]
      unfold py; rfl
  | .kl ds, _, n, _, .kl _, q, _ => by cases n <;> simp [D.ok] at q
  | .dK ds, _, n, _, .dK _ _ _ _, q, _ => by cases n <;> simp [D.ok] at q
  | .dT ds, _, n, _, .dT _ _ _ _, q, _ => by cases n <;> simp [D.ok] at q
  | .dKl ds, _, n, _, .dKl _ _ _ _, q, _ => by cases n <;> simp [D.ok] at q
  | .ins C ds, _, n, _, .ins _ _ _ _, q, _ => by cases n <;> simp [D.ok] at q
theorem pyds_of : ∀ {ds : List D} {us : List U} {n m : Nat}, Dns cc h F us ds → D.oks n ds = true → n < m → Q.allO (Q.pyd m h) us = some (pys ds)
  | [], _, _, _, .nil, _, _ => by unfold Q.allO pys; rfl
  | d :: ds, _, n, m, .cons x r, q, l => by
    unfold D.oks at q
    rw [Bool.and_eq_true] at q
    unfold Q.allO
    rw [pyd_of x q.1 l, pyds_of r q.2 l]
    simp only [pys]
end
mutual
theorem lay_py : ∀ {d : D} {n : Nat}, D.ok n d = true → PySem.PyData.canLay0 (py d) = true ∧ PySem.PyData.depth (py d) ≤ n
  | .non, n, _ => by simp [py, PySem.PyData.canLay0, PySem.PyData.depth]
  | .bl b, n, _ => by simp [py, PySem.PyData.canLay0, PySem.PyData.depth]
  | .int b, n, _ => by simp [py, PySem.PyData.canLay0, PySem.PyData.depth]
  | .str b, n, q => by
    refine ⟨?_, by simp [py, PySem.PyData.depth]⟩
    have q : b.all (· < 1114112) = true := by cases n <;> simpa [D.ok] using q
    simp only [py, PySem.PyData.canLay0, PySem.PyData.strOk]
    simpa using q
  | .tup ds, 0, q => by simp [D.ok] at q
  | .tup ds, n + 1, q => by
    simp only [D.ok] at q
    obtain ⟨a, b⟩ := lay_pys q
    simp only [py, PySem.PyData.canLay0, PySem.PyData.depth]
    exact ⟨a, by omega⟩
  | .lst ds, 0, q => by simp [D.ok] at q
  | .lst ds, n + 1, q => by
    simp only [D.ok] at q
    obtain ⟨a, b⟩ := lay_pys q
    simp only [py, PySem.PyData.canLay0, PySem.PyData.depth]
    exact ⟨a, by omega⟩
  | .kl ds, n, q => by cases n <;> simp [D.ok] at q
  | .dK ds, n, q => by cases n <;> simp [D.ok] at q
  | .dT ds, n, q => by cases n <;> simp [D.ok] at q
  | .dKl ds, n, q => by cases n <;> simp [D.ok] at q
  | .ins C ds, n, q => by cases n <;> simp [D.ok] at q
theorem lay_pys : ∀ {ds : List D} {n : Nat}, D.oks n ds = true → PySem.PyData.canLayAll0 (pys ds) = true ∧ PySem.PyData.depthAll (pys ds) ≤ n
  | [], n, _ => by simp [pys, PySem.PyData.canLayAll0, PySem.PyData.depthAll]
  | d :: ds, n, q => by
    unfold D.oks at q
    rw [Bool.and_eq_true] at q
    obtain ⟨a1, a2⟩ := lay_py q.1
    obtain ⟨b1, b2⟩ := lay_pys q.2
    simp only [pys, PySem.PyData.canLayAll0, PySem.PyData.depthAll]
    exact ⟨by rw [a1, b1]; rfl, by omega⟩
end
theorem str_beq (s t : List Nat) : ((⟨s.toArray⟩ : PySem.Str) == ⟨t.toArray⟩) = (s == t) := by
  by_cases e : s = t
  · subst e; simp
  · rw [beq_eq_false_iff_ne.mpr e, beq_eq_false_iff_ne.mpr fun z => e ((Q.str_eq s t).mp z)]
mutual
theorem eqv_py : ∀ {d e : D} {n m : Nat}, D.ok n d = true → D.ok m e = true → PySem.PyData.eqv (py d) (py e) = D.eq d e
  | d, e, n, m, a, b => by
    cases d with
    | tup ds =>
      cases n with
      | zero => simp [D.ok] at a
      | succ n =>
        cases e with
        | tup es =>
          cases m with
          | zero => simp [D.ok] at b
          | succ m =>
            simp only [D.ok] at a b
            simp only [py, PySem.PyData.eqv, D.eq]
            exact eqv_pys a b
        | kl _ => cases m <;> simp [D.ok] at b
        | dK _ => cases m <;> simp [D.ok] at b
        | dT _ => cases m <;> simp [D.ok] at b
        | dKl _ => cases m <;> simp [D.ok] at b
        | ins _ _ => cases m <;> simp [D.ok] at b
        | _ => simp [py, PySem.PyData.eqv, D.eq]
    | lst ds =>
      cases n with
      | zero => simp [D.ok] at a
      | succ n =>
        cases e with
        | lst es =>
          cases m with
          | zero => simp [D.ok] at b
          | succ m =>
            simp only [D.ok] at a b
            simp only [py, PySem.PyData.eqv, D.eq]
            exact eqv_pys a b
        | kl _ => cases m <;> simp [D.ok] at b
        | dK _ => cases m <;> simp [D.ok] at b
        | dT _ => cases m <;> simp [D.ok] at b
        | dKl _ => cases m <;> simp [D.ok] at b
        | ins _ _ => cases m <;> simp [D.ok] at b
        | _ => simp [py, PySem.PyData.eqv, D.eq]
    | kl _ => cases n <;> simp [D.ok] at a
    | dK _ => cases n <;> simp [D.ok] at a
    | dT _ => cases n <;> simp [D.ok] at a
    | dKl _ => cases n <;> simp [D.ok] at a
    | ins _ _ => cases n <;> simp [D.ok] at a
    | str x =>
      cases e with
      | str y => simp only [py, PySem.PyData.eqv, D.eq]; exact str_beq x y
      | kl _ => cases m <;> simp [D.ok] at b
      | dK _ => cases m <;> simp [D.ok] at b
      | dT _ => cases m <;> simp [D.ok] at b
      | dKl _ => cases m <;> simp [D.ok] at b
      | ins _ _ => cases m <;> simp [D.ok] at b
      | _ => simp [py, PySem.PyData.eqv, D.eq]
    | _ =>
      cases e with
      | kl _ => cases m <;> simp [D.ok] at b
      | dK _ => cases m <;> simp [D.ok] at b
      | dT _ => cases m <;> simp [D.ok] at b
      | dKl _ => cases m <;> simp [D.ok] at b
      | ins _ _ => cases m <;> simp [D.ok] at b
      | _ => simp [py, PySem.PyData.eqv, D.eq]
theorem eqv_pys : ∀ {ds es : List D} {n m : Nat}, D.oks n ds = true → D.oks m es = true → PySem.PyData.eqvAll (pys ds) (pys es) = D.eqs ds es
  | [], [], _, _, _, _ => by simp [pys, PySem.PyData.eqvAll, D.eqs]
  | [], _ :: _, _, _, _, _ => by simp [pys, PySem.PyData.eqvAll, D.eqs]
  | _ :: _, [], _, _, _, _ => by simp [pys, PySem.PyData.eqvAll, D.eqs]
  | d :: ds, e :: es, n, m, a, b => by
    unfold D.oks at a b
    rw [Bool.and_eq_true] at a b
    simp only [pys, PySem.PyData.eqvAll, D.eqs]
    rw [eqv_py a.1 b.1, eqv_pys a.2 b.2]
end
theorem shaped_py {n : Nat} (a : D.ok n d = true) (l : n ≤ 60) : PySem.SeqAt.shaped (py d) = true := by
  obtain ⟨b, c⟩ := lay_py a
  show (PySem.PyData.canLay0 (py d) && decide (PySem.PyData.depth (py d) ≤ 64)) = true
  rw [b]
  simp; omega
theorem pyd_tp {n m : Nat} (x : Tp cc h F u d) (q : D.ok n d = true) (l : n < m) : Q.pyd m h u = some (py d) := by
  cases d with
  | lst ds =>
    obtain ⟨us, a, r⟩ := x
    cases n with
    | zero => simp [D.ok] at q
    | succ n =>
      cases m with
      | zero => omega
      | succ m =>
        simp only [D.ok] at q
        have g : Q.pyd (m + 1) h u = (Q.allO (Q.pyd m h) us).map PySem.PyData.list := by
          cases u with
          | fl w => cases a; rfl
          | ref k =>
            show (match Q.aL h (.ref k) with | some us => (Q.allO (Q.pyd m h) us).map PySem.PyData.list | none => none) = _
            rw [aL_of_mL a]
          | _ => cases a
        rw [g, pyds_of r q (by omega)]
        simp only [py]; rfl
  | dK _ => cases n <;> simp [D.ok] at q
  | dT _ => cases n <;> simp [D.ok] at q
  | ins _ _ => cases n <;> simp [D.ok] at q
  | _ => exact pyd_of x q l
/-! ### comparisons -/
def CmpD (cc : Nat → Nat) (f : Sto → U → U → Option Bool) (g : D → D → Option Bool) : Prop := ∀ h F u1 d1 u2 d2 b, Tp cc h F u1 d1 → Tp cc h F u2 d2 → g d1 d2 = some b → f h u1 u2 = some b
theorem sim_cmp {f : Sto → U → U → Option Bool} {g : D → D → Option Bool} (ok : CmpD cc f g) {ma mb : EM} {pa pb : PE} (a : Sim cc q (RX cc s1) ma pa) (b : Sim cc q (RX cc s2) mb pb) (z : s1 = true ∨ q = true) : Sim cc q RE (Q.bCmp f ma mb) (tCmp g pa pb) :=
  sim_two (f := fun x y h => Q.oB (f h x y) h) (fun q h F fp env e u1 d1 u2 d2 x sr t1 t2 => by
    cases e1 : g d1 d2 with
    | none => trivial
    | some b =>
      show Out cc q RE h F fp env (Q.oB (f h u1 u2) h) _
      rw [ok h F u1 d1 u2 d2 b t1 t2 e1]
      exact Out.ret0 ⟨rfl, rfl⟩ x sr) a b z
theorem cmp_int {p : Int → Int → Bool} : CmpD cc (Q.cI p) (P.cI p) := fun h F u1 d1 u2 d2 b t1 t2 e => by
  unfold P.cI at e
  split at e
  · cases t1; cases t2; cases e; rfl
  · cases e
theorem cmp_lt : CmpD cc Q.cLt P.cLt := cmp_int
theorem cmp_gt : CmpD cc Q.cGt P.cGt := cmp_int
theorem cmp_ge : CmpD cc Q.cGe P.cGe := cmp_int
theorem atom_tp (x : Tp cc h F u d) (a : atom d = true) : (d = .non ∧ u = .non) ∨ (∃ b, d = .bl b ∧ u = .bl b) ∨ (∃ i, d = .int i ∧ u = .int i) ∨ ∃ s, d = .str s ∧ u = .str s := by
  cases d with
  | non => cases x; exact .inl ⟨rfl, rfl⟩
  | bl b => cases x; exact .inr (.inl ⟨_, rfl, rfl⟩)
  | int b => cases x; exact .inr (.inr (.inl ⟨_, rfl, rfl⟩))
  | str b => cases x; exact .inr (.inr (.inr ⟨_, rfl, rfl⟩))
  | _ => cases a
theorem deep_tp {n : Nat} (x : Tp cc h F u d) (a : ¬ atom d = true) (c : D.ok n d = true) : (∃ us, u = .tup us) ∨ (∃ us, u = .fl us) ∨ ∃ n, u = .ref n := by
  cases d with
  | tup ds => cases x with | tup r => exact .inl ⟨_, rfl⟩
  | lst ds => obtain ⟨us, a, _⟩ := x; cases u <;> first | exact .inr (.inl ⟨_, rfl⟩) | exact .inr (.inr ⟨_, rfl⟩) | cases a
  | non => exact absurd rfl a
  | bl _ => exact absurd rfl a
  | int _ => exact absurd rfl a
  | str _ => exact absurd rfl a
  | _ => cases n <;> simp [D.ok] at c
theorem cmp_eq : CmpD cc Q.cEq P.cEq := fun h F u1 d1 u2 d2 b t1 t2 e => by
  unfold P.cEq at e
  split at e
  · rename_i c
    cases e
    rw [Bool.or_eq_true, Bool.and_eq_true, Bool.and_eq_true, Bool.and_eq_true] at c
    have deep : D.ok 50 d1 = true → D.ok 50 d2 = true → Q.eqP h u1 u2 = some (D.eq d1 d2) := fun a1 a2 => by
      unfold Q.eqP
      rw [pyd_tp t1 a1 (by decide), pyd_tp t2 a2 (by decide)]
      simp only
      rw [if_pos ⟨shaped_py a1 (by decide), shaped_py a2 (by decide)⟩, eqv_py a1 a2]
    by_cases at1 : atom d1 = true
    · by_cases at2 : atom d2 = true
      · rcases atom_tp t1 at1 with ⟨rfl, rfl⟩ | ⟨b1, rfl, rfl⟩ | ⟨b1, rfl, rfl⟩ | ⟨b1, rfl, rfl⟩ <;> rcases atom_tp t2 at2 with ⟨rfl, rfl⟩ | ⟨b2, rfl, rfl⟩ | ⟨b2, rfl, rfl⟩ | ⟨b2, rfl, rfl⟩ <;> first
          | (simp [Q.cEq, D.eq]; done)
          | (simp only [Q.cEq, D.eq]; congr 1; by_cases z : b1 = b2 <;> simp [z]; done)
          | (exact deep (by simp [D.ok]) (by simp [D.ok]))
      · rcases c with ⟨⟨_, c⟩, _⟩ | ⟨c1, c2⟩
        · exact absurd c at2
        · have d2' : Q.cEq h u1 u2 = Q.eqP h u1 u2 := by
            rcases deep_tp t2 at2 c2 with ⟨us, rfl⟩ | ⟨us, rfl⟩ | ⟨n, rfl⟩ <;> cases u1 <;> rfl
          rw [d2', deep c1 c2]
    · rcases c with ⟨⟨c, _⟩, _⟩ | ⟨c1, c2⟩
      · exact absurd c at1
      · have d1' : Q.cEq h u1 u2 = Q.eqP h u1 u2 := by
          rcases deep_tp t1 at1 c1 with ⟨us, rfl⟩ | ⟨us, rfl⟩ | ⟨n, rfl⟩ <;> cases u2 <;> rfl
        rw [d1', deep c1 c2]
  · cases e
theorem cmp_ne : CmpD cc Q.cNe P.cNe := fun h F u1 d1 u2 d2 b t1 t2 e => by
  unfold P.cNe at e
  unfold Q.cNe
  cases e1 : P.cEq d1 d2 with
  | none => rw [e1] at e; cases e
  | some c => rw [e1] at e; rw [cmp_eq h F u1 d1 u2 d2 c t1 t2 e1]; exact e
theorem cmp_is : CmpD cc Q.cIs P.cIs := fun h F u1 d1 u2 d2 b t1 t2 e => by
  cases d2 with
  | non =>
    cases t2
    cases d1 with
    | non => cases t1; cases e; rfl
    | lst ds => cases e; obtain ⟨us, a, _⟩ := t1; cases u1 <;> first | rfl | cases a
    | dK ds => cases e; obtain ⟨n, us, rfl, _⟩ := t1; rfl
    | dT ds => cases e; obtain ⟨n, us, rfl, _⟩ := t1; rfl
    | ins C ds => cases e; obtain ⟨n, us, rfl, _⟩ := t1; rfl
    | _ => cases e; cases t1; rfl
  | _ => unfold P.cIs at e; split at e <;> first | (rename_i z; cases z; done) | cases e
end
end P

set_option Elab.async false
set_option linter.all false
set_option maxRecDepth 100000
set_option maxHeartbeats 1000000
/-! PS6: membership, built-ins, fields, changes at places. -/
namespace P
open Q (U O Sto Env' R RS EM TM AM SM Sem')
section
variable {cc : Nat → Nat} {h h' h1 h2 : Sto} {F F' F1 F2 : Nat → Prop} {u : U} {d : D} {us : List U} {ds : List D} {t : T} {ts : List T} {f f1 f2 fp fp' fp1 fp2 : List Nat} {env env' : Env'} {e e' : Env} {i : Nat} {q s s1 s2 : Bool}
  {α β γ δ : Type}
theorem eqF_D {u v : U} {d e : D} (x : Tp cc h F u d) (y : Tp cc h F v e) (a : atom d = true) (b : atom e = true) : Q.eqF u v = D.eq d e := by
  rcases atom_tp x a with ⟨rfl, rfl⟩ | ⟨b1, rfl, rfl⟩ | ⟨b1, rfl, rfl⟩ | ⟨b1, rfl, rfl⟩ <;> rcases atom_tp y b with ⟨rfl, rfl⟩ | ⟨b2, rfl, rfl⟩ | ⟨b2, rfl, rfl⟩ | ⟨b2, rfl, rfl⟩ <;> simp [Q.eqF, D.eq]
theorem atom_flat (x : Tp cc h F u d) (a : atom d = true) : Q.flatU u = true := by
  rcases atom_tp x a with ⟨rfl, rfl⟩ | ⟨b1, rfl, rfl⟩ | ⟨b1, rfl, rfl⟩ | ⟨b1, rfl, rfl⟩ <;> rfl
theorem flat_atom (x : Dn cc h F u d) (a : Q.flatU u = true) : atom d = true := by cases x <;> first | rfl | cases a
theorem inF_D (x : Tp cc h F u d) (a : atom d = true) : ∀ {us : List U} {ds : List D}, Dns cc h F us ds → ds.all atom = true → Q.inF u us = (ds.any fun y => D.eq y d) ∧ us.all Q.flatU = true
  | _, _, .nil, _ => ⟨rfl, rfl⟩
  | _, _, .cons y r, b => by
    rw [List.all_cons, Bool.and_eq_true] at b
    obtain ⟨i1, i2⟩ := inF_D x a r b.2
    refine ⟨?_, by rw [List.all_cons, atom_flat y.tp b.1, i2]; rfl⟩
    show (Q.eqF _ u || Q.inF u _) = _
    rw [List.any_cons, i1, eqF_D y.tp x b.1 a]
theorem all_atom : ∀ {us : List U} {ds : List D}, Dns cc h F us ds → us.all Q.flatU = true → ds.all atom = true
  | _, _, .nil, _ => rfl
  | _, _, .cons y r, b => by
    rw [List.all_cons, Bool.and_eq_true] at b
    rw [List.all_cons, flat_atom y b.1, all_atom r b.2]; rfl
theorem tp_atom (x : Tp cc h F u d) (a : Q.flatU u = true) : atom d = true := by
  cases d with
  | lst ds => obtain ⟨us, b, _⟩ := x; cases u <;> first | cases a; done | cases b
  | dK ds => obtain ⟨n, us, rfl, _⟩ := x; cases a
  | dT ds => obtain ⟨n, us, rfl, _⟩ := x; cases a
  | ins C ds => obtain ⟨n, us, rfl, _⟩ := x; cases a
  | _ => exact flat_atom x a
theorem any_py {n m : Nat} (a : D.ok n d = true) : ∀ {ds : List D}, D.oks m ds = true → ((pys ds).any fun z => PySem.PyData.eqv z (py d)) = ds.any fun y => D.eq y d
  | [], _ => by simp [pys]
  | y :: ds, b => by
    unfold D.oks at b
    rw [Bool.and_eq_true] at b
    simp only [pys, List.any_cons]
    rw [eqv_py b.1 a, any_py a b.2]
theorem cmp_in : CmpD cc Q.cIn P.cIn := fun h F u1 d1 u2 d2 b t1 t2 e => by
  cases d2 with
  | lst ds =>
    obtain ⟨us, a, r⟩ := t2
    have e : P.cIn0 d1 ds = some b := by cases d1 <;> exact e
    unfold P.cIn0 at e
    split at e
    · rename_i c
      cases e
      unfold Q.cIn
      rw [sL_of_mL a]
      simp only
      by_cases w : Q.flatU u1 = true ∧ us.all Q.flatU = true
      · rw [if_pos w]
        rw [(inF_D t1 (tp_atom t1 w.1) r (all_atom r w.2)).1]
      · rw [if_neg w]
        rw [Bool.or_eq_true, Bool.and_eq_true, Bool.and_eq_true] at c
        rcases c with c | c
        · exact absurd ⟨atom_flat t1 c.1, (inF_D t1 c.1 r c.2).2⟩ w
        · have o2 : D.ok 50 (.lst ds) = true := by simp only [D.ok]; exact c.2
          have p2 := pyd_tp (m := 60) (show Tp cc h F u2 (.lst ds) from ⟨us, a, r⟩) o2 (by decide)
          unfold Q.inP
          rw [pyd_tp t1 c.1 (by decide), p2]
          simp only [py]
          have s2 := shaped_py o2 (by decide)
          simp only [py] at s2
          rw [if_pos ⟨shaped_py c.1 (by decide), s2⟩, any_py c.1 c.2]
    · cases e
  | tup ds =>
    cases t2 with
    | @tup us _ r =>
      have e : (if (atom d1 && ds.all atom) = true then some (ds.any fun y => D.eq y d1) else none) = some b := by cases d1 <;> exact e
      split at e
      · rename_i c
        cases e
        rw [Bool.and_eq_true] at c
        obtain ⟨i1, i2⟩ := inF_D t1 c.1 r c.2
        show (if Q.flatU u1 = true ∧ us.all Q.flatU = true then some (Q.inF u1 us) else _) = _
        rw [if_pos ⟨atom_flat t1 c.1, i2⟩, i1]
      · cases e
  | _ => cases d1 <;> cases e
/-! isinstance -/
def tyQ : Ty → Q.Ty
  | .bool => .bool | .int => .int | .str => .str | .tuple => .tuple | .list => .list | .dict => .dict
theorem is_tp (T : Ty) (x : Tp cc h F u d) {b : Bool} (e : isD T d = some b) : Q.isU (tyQ T) h u = some b := by
  rw [← e]
  cases d with
  | lst ds =>
    obtain ⟨us, a, _⟩ := x
    cases u with
    | ref n =>
      simp only [Q.e_mL_ref] at a
      split at a
      · rename_i z; unfold Q.isU; simp only [z]; cases T <;> rfl
      · cases a
    | fl w => cases T <;> rfl
    | _ => cases a
  | dK ds => obtain ⟨n, us, rfl, a, _⟩ := x; unfold Q.isU; simp only [a]; cases T <;> rfl
  | dT ds => obtain ⟨n, us, rfl, a, _⟩ := x; unfold Q.isU; simp only [a]; cases T <;> rfl
  | ins C ds => cases e
  | dKl ds => cases e
  | _ => cases x <;> cases T <;> rfl
theorem sim_is {T : Ty} {m : EM} {p : PE} (a : Sim cc q (RX cc s) m p) : Sim cc q RE (Q.bIs (tyQ T) m) (tIs T p) := fun h F env e fp x sr =>
  Out.bind0 sr (a h F env e fp x sr) (fun u d h1 F1 e1 f2 r1 x1 sr1 st sm => by
    cases q1 : isD T d with
    | none => trivial
    | some b => rw [is_tp T r1.tp q1]; exact Out.ret0 ⟨rfl, rfl⟩ x1 sr1) rx_nil
/-! ### built-ins -/
def OpL (cc : Nat → Nat) {α β : Type} (s : Bool) (f : List U → Sto → R α) (g : List D → Option β) (Rel : Sto → (Nat → Prop) → α → β → List Nat → Prop) : Prop :=
  ∀ (q : Bool) (h : Sto) (F : Nat → Prop) (fp : List Nat) (env : Env') (e : Env) (us : List U) (ds : List D), Ev cc h F env e fp → SR h F fp → RA cc s h F us ds [] → Out cc q Rel h F fp env (f us h) (oE (g ds) e)
theorem sim_cb {f : List U → Sto → R U} {g : List D → Option D} (ok : OpL cc s f g (RD cc)) {am : AM} {pa : PDs} (a : Sim cc q (RA cc s) am pa) : Sim cc q (RD cc) (Q.mCB f am) (pCB g pa) := fun h F env e fp x sr =>
  Out.bind0 sr (a h F env e fp x sr) (fun us ds h1 F1 e1 f2 r1 x1 sr1 st sm => ok q h1 F1 f2 env e1 us ds x1 sr1 r1) ra_nil
theorem sim_ct {f : List U → Sto → R U} {g : List D → Option T} (ok : OpL cc s f g (RT cc)) {am : AM} {pa : PDs} (a : Sim cc q (RA cc s) am pa) : Sim cc q (RT cc) (Q.mCB f am) (pCT g pa) := fun h F env e fp x sr =>
  Out.bind0 sr (a h F env e fp x sr) (fun us ds h1 F1 e1 f2 r1 x1 sr1 st sm => ok q h1 F1 f2 env e1 us ds x1 sr1 r1) ra_nil
theorem ra_one {d : D} (x : RA cc s h F us [d] f) : ∃ u, us = [u] ∧ Tp cc h F u d := by
  obtain ⟨_, x⟩ := x
  split at x
  · cases x with
    | cons y r => cases r; exact ⟨_, rfl, y.tp⟩
  · obtain ⟨u, d', rfl, z, t⟩ := x
    cases z
    exact ⟨u, rfl, t⟩
theorem op_len : OpL cc s Q.uLen gLen (RD cc) := by
  intro q h F fp env e us ds x sr r
  unfold gLen
  split
  · obtain ⟨u, rfl, t⟩ := ra_one r
    cases t with
    | kl r =>
      rw [Q.e_len_kl, r.len]
      exact Out.ret0 ⟨rfl, .int _⟩ x sr
  · rename_i s2
    obtain ⟨u, rfl, t⟩ := ra_one r
    cases t
    rw [Q.e_len_s]
    by_cases z : s2.length ≤ 16000000
    · rw [if_pos z, if_pos z]; exact Out.ret0 ⟨rfl, .int _⟩ x sr
    · rw [if_neg z, if_neg z]; trivial
  · obtain ⟨u, rfl, t⟩ := ra_one r
    obtain ⟨us, a, r⟩ := t
    have g : Q.uLen [u] h = .ok (.int us.length) h := by
      cases u with
      | ref n => rw [Q.e_len_ref, sL_of_mL a]
      | fl w => cases a; rfl
      | _ => cases a
    rw [g, r.len]
    exact Out.ret0 ⟨rfl, .int _⟩ x sr
  · obtain ⟨u, rfl, t⟩ := ra_one r
    cases t with
    | tup r => rw [Q.e_len_tup, r.len]; exact Out.ret0 ⟨rfl, .int _⟩ x sr
  · trivial
theorem op_int1 : OpL cc s Q.uInt gInt (RD cc) := by
  intro q h F fp env e us ds x sr r
  unfold gInt
  split
  · obtain ⟨u, rfl, t⟩ := ra_one r; cases t; exact Out.ret0 ⟨rfl, .int _⟩ x sr
  · obtain ⟨u, rfl, t⟩ := ra_one r; cases t; exact Out.ret0 ⟨rfl, .int _⟩ x sr
  · trivial
theorem op_list : OpL cc s Q.uList gList (RT cc) := by
  intro q h F fp env e us ds x sr r
  have go : ∀ {u : U} {us : List U} {ds : List D}, Q.sL h u = some us → Dns cc h F us ds → Out cc q (RT cc) h F fp env (Q.uList [u] h) (oE (some (T.ls ds)) e) := fun a r => by
    rw [Q.e_list, a]; exact out_new x sr r
  unfold gList
  split
  · obtain ⟨u, rfl, t⟩ := ra_one r; cases t with | kl r => exact go rfl r
  · obtain ⟨u, rfl, t⟩ := ra_one r; obtain ⟨us, a, r⟩ := t; exact go (sL_of_mL a) r
  · obtain ⟨u, rfl, t⟩ := ra_one r; cases t with | tup r => exact go rfl r
  · trivial
theorem op_tuple : OpL cc s Q.uTuple gTuple (RD cc) := by
  intro q h F fp env e us ds x sr r
  unfold gTuple
  split
  · obtain ⟨u, rfl, t⟩ := ra_one r; obtain ⟨us, a, r⟩ := t
    rw [Q.e_tuple, sL_of_mL a]; exact Out.ret0 ⟨rfl, .tup r⟩ x sr
  · obtain ⟨u, rfl, t⟩ := ra_one r; cases t with | tup r => rw [Q.e_tuple]; exact Out.ret0 ⟨rfl, .tup r⟩ x sr
  · trivial
/-! texts -/
theorem strs_of : ∀ {us : List U} {ds : List D} {ss : List (List Nat)}, Dns cc h F us ds → strL ds = some ss → Q.strsOf us = some ss
  | _, _, _, .nil, q => by cases q; rfl
  | _, _, ss, .cons (d := d) (ds := ds) x r, q => by
    cases x with
    | str s =>
      unfold strL at q
      cases q1 : strL ds with
      | none => rw [q1] at q; cases q
      | some ss' =>
        rw [q1] at q; cases q
        unfold Q.strsOf
        rw [strs_of r q1]; rfl
    | _ => cases q
theorem joinL_eq : @P.joinL = @TL.joinL := by
  funext s l
  induction l with
  | nil => rfl
  | cons x r ih =>
    cases r with
    | nil => rfl
    | cons y r => show x ++ (s ++ P.joinL s (y :: r)) = x ++ (s ++ TL.joinL s (y :: r)); rw [ih]
theorem op_join : ∀ (q : Bool) (h : Sto) (F : Nat → Prop) (fp : List Nat) (env : Env') (e : Env) (s : List Nat) (u2 : U) (d2 : D), Ev cc h F env e fp → SR h F fp → Tp cc h F u2 d2 → Out cc q (RD cc) h F fp env (Q.uJoin (.str s) u2 h) (oE (gJoin s d2) e) := by
  intro q h F fp env e s u2 d2 x sr t
  have go : ∀ {us : List U} {ds : List D}, Q.sL h u2 = some us → Dns cc h F us ds → Out cc q (RD cc) h F fp env (Q.uJoin (.str s) u2 h) (oE ((strL ds).bind fun ss => if (ss.map List.length).sum + ss.length * s.length ≤ 16000000 then some (D.str (P.joinL s ss)) else none) e) := by
    intro us ds a r
    cases q1 : strL ds with
    | none => trivial
    | some ss =>
      rw [Q.e_join, a]
      simp only [Option.bind, strs_of r q1]
      by_cases z : (ss.map List.length).sum + ss.length * s.length ≤ 16000000
      · rw [if_pos z, if_pos z, joinL_eq]; exact Out.ret0 ⟨rfl, .str _⟩ x sr
      · rw [if_neg z, if_neg z]; trivial
  cases d2 with
  | lst ds => obtain ⟨us, a, r⟩ := t; exact go (sL_of_mL a) r
  | tup ds => cases t with | tup r => exact go rfl r
  | _ => trivial
theorem sim_join {ma mb : EM} {pa pb : PE} (a : Sim cc q (RD cc) ma pa) (b : Sim cc q (RX cc s2) mb pb) : Sim cc q (RD cc) (Q.mSM1 Q.uJoin ma mb) (pSM1 gJoin pa pb) := fun h F env e fp x sr =>
  Out.bind0 sr (a h F env e fp x sr) (fun u d h1 F1 e1 f2 r1 x1 sr1 st sm => by
    obtain ⟨_, r1⟩ := r1
    cases r1 with
    | str s => exact Out.bind0 sr1 (b h1 F1 env e1 f2 x1 sr1) (fun u2 d2 h2 F2 e2 f3 r2 x2 sr2 st2 sm2 => op_join q h2 F2 f3 env e2 s u2 d2 x2 sr2 r2.tp) rx_nil
    | _ => trivial) rd_nil
end
end P

set_option Elab.async false
set_option linter.all false
set_option maxRecDepth 100000
set_option maxHeartbeats 1000000
/-! PS7: paths. -/
namespace P
open Q (U O Sto Env' R RS EM TM AM SM Sem')
section
variable {cc : Nat → Nat} {h h' h1 h2 : Sto} {F F' F1 F2 : Nat → Prop} {u v : U} {d : D} {us : List U} {ds : List D} {t : T} {ts : List T} {f f1 f2 fp fp' fp1 fp2 : List Nat} {env env' : Env'} {e e' : Env} {i : Nat} {q s s1 s2 : Bool}
  {α β γ δ : Type}
/-! ### paths -/
def RP (env : Env') (p : Pth) (h : Sto) (F : Nat → Prop) (u : U) (r : List Ac) (f : List Nat) : Prop := f = [] ∧ (∃ o, env[p.root]? = some (some o) ∧ atU h o r = some u) ∧ (p.isVar = true → r = [])
def SimP (cc : Nat → Nat) (m : EM) (p : Pth) : Prop := ∀ h F env e fp, Ev cc h F env e fp → SR h F fp → Out cc true (RP env p) h F fp env (m env h) (p.ev e)
theorem rp_nil {p : Pth} : ∀ (a : U) (b : List Ac) (h : Sto) (F : Nat → Prop) (f : List Nat), RP env p h F a b f → f = [] := fun _ _ _ _ _ x => x.1
theorem atP_cases (r : List Ac) : atP i r e = .bad ∨ (atP i r e = .ok r e ∧ ∃ t, getP i r e = some t ∧ t ≠ .hole) := by
  unfold atP
  split
  · exact .inl rfl
  · rename_i t nh q1
    exact .inr ⟨rfl, t, q1, nh⟩
  · exact .inl rfl
theorem simP_var {i : Nat} : SimP cc (Q.mVar i) (.var i) := fun h F env e fp x sr => by
  show Out cc true (RP env (.var i)) h F fp env _ (atP i [] e)
  rcases atP_cases (i := i) (e := e) [] with z | ⟨z, t, q1, nh⟩
  · rw [z]; trivial
  · rw [z]
    obtain ⟨o, v, f1, f2, a1, a2, _⟩ := x.pt q1 nh
    rw [atU_nil] at a2
    cases a2
    exact ⟨o, h, F, [], fp, by rw [Q.e_var, a1], ⟨rfl, ⟨o, a1, atU_nil _ _⟩, fun _ => rfl⟩, x, Fr.refl sr, fun _ => Sm.refl h⟩
theorem getP_app {r : List Ac} {a : Ac} {s : T} (q : getP i (r ++ [a]) e = some s) : ∃ t, getP i r e = some t ∧ t.get1 a = some s := by
  unfold getP at q ⊢
  cases q1 : e[i]? with
  | none => rw [q1] at q; cases q
  | some t =>
    rw [q1] at q
    simp only at q ⊢
    rw [get_app] at q
    cases q2 : t.get r with
    | none => rw [q2] at q; cases q
    | some w =>
      rw [q2] at q
      refine ⟨w, rfl, ?_⟩
      have q : w.get [a] = some s := q
      rw [get_cons] at q
      cases q3 : w.get1 a with
      | none => rw [q3] at q; cases q
      | some w' => rw [q3] at q; have q : w'.get [] = some s := q; rw [get_nil] at q; exact q
/-- what a path that leads somewhere gives below -/
theorem Ev.up {r : List Ac} {a : Ac} {s : T} {o : U} (x : Ev cc h F env e fp) (q : getP i (r ++ [a]) e = some s) (nh : s ≠ .hole) (ho : env[i]? = some (some o)) : ∃ t u, getP i r e = some t ∧ t.get1 a = some s ∧ atU h o r = some u ∧ ∃ f1, Ow cc h F u t f1 := by
  obtain ⟨t, q1, q2⟩ := getP_app q
  have nt : t ≠ .hole := fun z => by subst z; cases a <;> cases q2
  obtain ⟨o', v, f1, f2, a1, a2, a3, _⟩ := x.pt q1 nt
  rw [ho] at a1
  cases a1
  exact ⟨t, v, q1, q2, a2, f1, a3⟩
theorem Out.anyQ {Rel : Sto → (Nat → Prop) → α → β → List Nat → Prop} {r : R α} {s : PR β} (o : Out cc true Rel h F fp env r s) : Out cc q Rel h F fp env r s := by
  cases s with
  | bad => trivial
  | exc C x e' => exact o
  | ok b e' =>
    obtain ⟨a, h', F', f3, f4, a1, a2, a3, a4, a5⟩ := o
    exact ⟨a, h', F', f3, f4, a1, a2, a3, a4, fun _ => a5 rfl⟩
/-! changes -/
def UpdOk (cc : Nat → Nat) (s : Bool) (f : U → List U → Sto → R U) (g : T → List D → Option (D × T)) : Prop := ∀ h F v t us ds d t' f1, Ow cc h F v t f1 → RA cc s h F us ds [] → g t ds = some (d, t') → t.isLeaf = false ∧
  ∃ n o u, n ∈ f1 ∧ f v us h = .ok u (h.set n o) ∧ ∀ fp, SR h F (f1 ++ fp) → Dn cc (h.set n o) F u d ∧ Ow cc (h.set n o) F v t' f1
/-- evaluated parts behind a path: the path is still there -/
theorem path_later {p : Pth} {q : Bool} {Rel : Sto → (Nat → Prop) → α → β → List Nat → Prop} {r : List Ac} {o u : U} {s : R α} {k : PR β} (b2 : atU h o r = some u) (b3 : p.isVar = true → r = []) (z : p.isVar = true ∨ q = true) (bb : Out cc q Rel h F fp env s k) :
    Out cc false (fun h' F' a b f => Rel h' F' a b f ∧ atU h' o r = some u) h F fp env s k := by
  cases k with
  | bad => trivial
  | exc C y e' => exact bb
  | ok y e' =>
    obtain ⟨a, h', F', f3, f4, a1, a2, a3, a4, a5⟩ := bb
    refine ⟨a, h', F', f3, f4, a1, ⟨a2, ?_⟩, a3, a4, fun z => by cases z⟩
    rcases z with z | z
    · have := b3 z
      subst this
      rw [atU_nil] at b2 ⊢
      exact b2
    · exact atU_mono (a5 z) b2
/-- a place changes -/
theorem out_set {i : Nat} {r : List Ac} {t' : T} {n : Nat} {ob : O} {Rel : Sto → (Nat → Prop) → α → β → List Nat → Prop} {a : α} {b : β} {g1 g2 : List Nat} (sr : SR h F fp) (c4 : fp.Perm (g1 ++ g2)) (n1 : n ∈ g1)
    (c5 : ∀ h' F' s' f1', Stab h F h' F' → Keep g2 h h' → Ow cc h' F' u s' f1' → ∃ fp', Ev cc h' F' env (setP i r s' e) fp' ∧ fp'.Perm (f1' ++ g2)) {g3 : List Nat} (n2 : Ow cc (h.set n ob) F u t' g3) (g3s : g3.Sublist g1) (n3 : Rel (h.set n ob) F a b []) : Out cc false Rel h F fp env (.ok a (h.set n ob)) (.ok b (setP i r t' e)) := by
  have sr' := sr.perm c4
  have n4 : n ∉ g2 := fun m => (List.nodup_append.mp sr'.nd).2.2 n n1 n m rfl
  obtain ⟨fp', d1, d2⟩ := c5 (h.set n ob) F t' g3 (Stab.set sr' (List.mem_append_left _ n1) ob) (Keep.set ob n4) n2
  exact ⟨a, _, F, [], fp', rfl, n3, d1, (((Fr.set sr' (List.mem_append_left _ n1) ob).sub (g3s.append_right g2)).perm d2.symm).permL c4.symm, fun z => by cases z⟩
theorem sim_upd {f : U → List U → Sto → R U} {g : T → List D → Option (D × T)} (ok : UpdOk cc s f g) {m : EM} {p : Pth} {am : AM} {pa : PDs} (a : SimP cc m p) (b : Sim cc q (RA cc s) am pa) (z : p.isVar = true ∨ q = true) : Sim cc false (RD cc) (Q.mLM f m am) (pUpd p pa g) := fun h F env e fp x sr =>
  Out.bind0 sr (Out.anyQ (a h F env e fp x sr)) (fun u r h1 F1 e1 f2 r1 x1 sr1 st sm => by
    obtain ⟨_, ⟨o, b1, b2⟩, b3⟩ := r1
    cases q1 : getP p.root r e1 with
    | none => trivial
    | some t =>
      cases t with
      | ls xs =>
        have al : (Q.aL h1 u).isSome = true := by
          obtain ⟨o', v, g1, g2, c1, c2, c3, _⟩ := x1.pt q1 (fun z => by cases z)
          rw [b1] at c1; cases c1
          rw [b2] at c2; cases c2
          cases c3 with
          | ls e r => rw [Q.e_aL_ref, e]; rfl
        rw [if_pos al]
        refine Out.bind0 sr1 (path_later b2 b3 z (b h1 F1 env e1 f2 x1 sr1)) (fun us ds h2 F2 e2 f3 r2 x2 sr2 st2 sm2 => ?_) (fun _ _ _ _ _ x => x.1.1)
        obtain ⟨ra, b2⟩ := r2
        cases q2 : getP p.root r e2 with
        | none => trivial
        | some t =>
          simp only
          cases q3 : g t ds with
          | none => trivial
          | some dt =>
            obtain ⟨d, t'⟩ := dt
            simp only
            have nh : t ≠ .hole := fun z => by
              subst z
              obtain ⟨_, n, o, u', m, _⟩ := ok h2 F2 (.ref 0) .hole us ds d t' [] (.hole _) ra q3
              cases m
            obtain ⟨o', v, g1, g2, c1, c2, c3, c4, c5⟩ := x2.pt q2 nh
            rw [b1] at c1; cases c1
            rw [b2] at c2; cases c2
            obtain ⟨lf, n, ob, u', m1, m2, m3⟩ := ok h2 F2 u t us ds d t' g1 c3 ra q3
            obtain ⟨m4, m5⟩ := m3 g2 (sr2.perm c4)
            rw [m2]
            exact out_set sr2 c4 m1 (c5 lf) m5 (List.Sublist.refl _) ⟨rfl, m4⟩
      | _ => trivial) rp_nil
theorem upd_app : UpdOk cc true Q.uApp P.uApp := by
  intro h F v t us ds d t' f1 w r q
  cases t with
  | ls xs =>
    cases ds with
    | nil => cases q
    | cons d1 ds =>
      cases ds with
      | cons _ _ => cases q
      | nil =>
        have q : (if xs.length < 16000000 then some (D.non, T.ls (xs ++ [d1])) else none) = some (d, t') := q
        split at q
        case isFalse => cases q
        rename_i hz
        cases q
        obtain ⟨_, r⟩ := r
        simp only [if_true] at r
        cases r with
        | @cons u _ _ _ y r =>
          cases r
          cases w with
          | @ls n ys _ e rr =>
            refine ⟨rfl, n, .lst (ys ++ [u]), .non, List.mem_singleton.mpr rfl, ?_, fun fp sr => ?_⟩
            · rw [Q.e_app, e]; simp only; rw [if_pos (by rw [rr.len]; exact hz)]
            · have st := Stab.set sr (List.mem_append_left _ (List.mem_singleton.mpr rfl)) (O.lst (ys ++ [u]))
              exact ⟨.non, .ls (by rw [List.getElem?_set_self (List.getElem?_eq_some_iff.mp e).1]) ((rr.app (.cons y .nil)).mono st)⟩
  | _ => cases q
end
end P

set_option Elab.async false
set_option linter.all false
set_option maxRecDepth 100000
set_option maxHeartbeats 1000000
/-! PS8: what is walked, comprehensions. -/
namespace P
open Q (U O Sto Env' R RS EM TM AM SM Sem')
section
variable {cc : Nat → Nat} {h h' h1 h2 : Sto} {F F' F1 F2 : Nat → Prop} {u v : U} {d : D} {us : List U} {ds : List D} {t : T} {ts : List T} {f f1 f2 fp fp' fp1 fp2 : List Nat} {env env' : Env'} {e e' : Env} {i : Nat} {q s s1 s2 : Bool}
  {α β γ δ : Type}
/-- what is walked is frozen -/
def RI (cc : Nat → Nat) (h : Sto) (F : Nat → Prop) (a : Q.Chk × List U) (b : List D) (f : List Nat) : Prop := f = [] ∧ Dns cc h F a.2 b ∧ ∀ p ∈ a.1, F p.1 ∧ h[p.1]? = some (.lst p.2)
theorem ri_nil : ∀ (a : Q.Chk × List U) (b : List D) (h : Sto) (F : Nat → Prop) (f : List Nat), RI cc h F a b f → f = [] := fun _ _ _ _ _ x => x.1
def ChkF (h : Sto) (F : Nat → Prop) (c : Q.Chk) : Prop := ∀ p ∈ c, F p.1 ∧ h[p.1]? = some (.lst p.2)
theorem ChkF.mono {c : Q.Chk} (x : ChkF h F c) (st : Stab h F h' F') : ChkF h' F' c := fun p m => ⟨st.le _ (x p m).1, (st.eq _ (x p m).1).trans (x p m).2⟩
theorem ChkF.ok {c : Q.Chk} (x : ChkF h F c) : Q.chkOk c h := fun p m => (x p m).2
theorem rng_dns (lo : Int) (n : Nat) : Dns cc h F (Q.rng lo n) (P.rng lo n) := by
  have : ∀ l : List Nat, Dns cc h F (l.map fun i => U.int (lo + (i : Nat))) (l.map fun i => D.int (lo + (i : Nat))) := by
    intro l
    induction l with
    | nil => exact .nil
    | cons x r ih => exact .cons (.int _) ih
  exact this _
theorem sim_r1 {am : AM} {pa : PDs} (a : Sim cc q (RDs cc) am pa) : Sim cc q (RI cc) (Q.itR1 am) (iR1 pa) := fun h F env e fp x sr =>
  Out.bind0 sr (a h F env e fp x sr) (fun us ds h1 F1 e1 f2 r1 x1 sr1 st sm => by
    obtain ⟨_, r⟩ := r1
    cases q1 : gR1 ds with
    | none => trivial
    | some l =>
      unfold gR1 at q1
      split at q1
      case h_2 => cases q1
      rename_i j
      split at q1
      case isFalse => cases q1
      rename_i z
      cases q1
      cases r with
      | cons y r =>
        cases r; cases y
        simp only; rw [if_pos (by omega)]
        exact Out.ret0 ⟨rfl, rng_dns _ _, fun _ m => nomatch m⟩ x1 sr1) rds_nil
/-! ### targets -/
/-- another frame of the same slots where the pure one has nothing -/
theorem Ev.swap : ∀ {env env' : Env'} {e : Env} {fp : List Nat}, Ev cc h F env e fp → env'.length = env.length → (∀ (i : Nat) (t : T), e[i]? = some t → t ≠ T.hole → env'[i]? = env[i]?) → Ev cc h F env' e fp
  | [], [], _, _, .nil, _, _ => .nil
  | [], _ :: _, _, _, _, l, _ => by simp at l
  | _ :: _, [], _, _, _, l, _ => by simp at l
  | o :: env, o' :: env', _, _, .cons (t := t) (f1 := f1) x r, l, k => by
    have r' := Ev.swap r (by simpa using l) fun i t q n => by simpa using k (i + 1) t (by simpa using q) n
    by_cases z : t = .hole
    · subst z
      have hf : f1 = [] := by
        cases o with
        | none => exact x.2
        | some u => cases x; rfl
      subst hf
      refine .cons ?_ r'
      cases o' with
      | none => exact ⟨rfl, rfl⟩
      | some u => exact .hole u
    · have : o' = o := by simpa using k 0 t rfl z
      subst this
      exact .cons x r'
theorem kill_get : ∀ (K : List Nat) (e : Env) (i : Nat) (t : T), (P.kill K e)[i]? = some t → t ≠ T.hole → i ∉ K ∧ e[i]? = some t
  | [], e, i, t, q, n => ⟨by simp, q⟩
  | k :: K, e, i, t, q, n => by
    obtain ⟨a, b⟩ := kill_get K (e.set k .hole) i t q n
    by_cases z : k = i
    · subst z
      have : k < e.length := by have := (List.getElem?_eq_some_iff.mp b).1; simpa using this
      rw [List.getElem?_set_self this] at b
      exact absurd (Option.some.inj b).symm n
    · rw [List.getElem?_set_ne z] at b
      exact ⟨by simp [a, Ne.symm z], b⟩
theorem Ev.kill : ∀ (K : List Nat) {e : Env} {fp : List Nat}, Ev cc h F env e fp → ∃ fp', Ev cc h F env (kill K e) fp' ∧ ∃ f1, fp.Perm (f1 ++ fp')
  | [], e, fp, x => ⟨fp, x, [], .refl _⟩
  | k :: K, e, fp, x => by
    obtain ⟨fp1, x1, f1, p1⟩ := x.hole k
    obtain ⟨fp2, x2, f2, p2⟩ := Ev.kill K x1
    exact ⟨fp2, x2, f1 ++ f2, by rw [List.append_assoc]; exact p1.trans (p2.append_left f1)⟩
theorem wipe_get : ∀ (vs : List Nat) (env : Env') (i : Nat), i ∉ vs → (Q.wipeE env vs)[i]? = env[i]?
  | [], env, i, _ => rfl
  | v :: vs, env, i, n => by
    show ((Q.wipeE env vs).set v none)[i]? = _
    rw [List.getElem?_set_ne (fun z => n (by simp [z])), wipe_get vs env i (fun z => n (List.mem_cons_of_mem _ z))]
theorem wipe_len : ∀ (vs : List Nat) (env : Env'), (Q.wipeE env vs).length = env.length
  | [], env => rfl
  | v :: vs, env => by show ((Q.wipeE env vs).set v none).length = _; rw [List.length_set, wipe_len vs env]
/-- frames alike but at the slots that are killed -/
theorem Ev.swapK {vs : List Nat} (x : Ev cc h F env (P.kill vs e) fp) (l : env'.length = env.length) (k : ∀ i, i ∉ vs → env'[i]? = env[i]?) : Ev cc h F env' (P.kill vs e) fp :=
  x.swap l fun i t q n => k i (kill_get vs e i t q n).1
theorem setA_get {α : Type} : ∀ {env : List (Option α)} {is : List Nat} {us : List α} {i : Nat}, i ∉ is → (Q.setA env is us)[i]? = env[i]?
  | env, [], us, i, _ => by unfold Q.setA; rfl
  | env, j :: is, [], i, _ => by unfold Q.setA; rfl
  | env, j :: is, u :: us, i, n => by
    unfold Q.setA
    rw [setA_get (fun z => n (List.mem_cons_of_mem _ z)), List.getElem?_set_ne (fun z => n (by simp [z]))]
theorem setA_len {α : Type} : ∀ {env : List (Option α)} {is : List Nat} {us : List α}, (Q.setA env is us).length = env.length
  | env, [], us => by unfold Q.setA; rfl
  | env, j :: is, [] => by unfold Q.setA; rfl
  | env, j :: is, u :: us => by unfold Q.setA; rw [setA_len]; simp
def ctQ : CT → Q.CT
  | .one i => .one i
  | .tup is => .tup is
  | .lst is => .lst is
  | .nst i is => .nst i is
  | .nsl is i => .nsl is i
theorem Ev.setA : ∀ {is : List Nat} {us : List U} {ds : List D} {env : Env'} {e : Env} {fp : List Nat}, Ev cc h F env e fp → Dns cc h F us ds → us.length = is.length → ∃ fp', Ev cc h F (Q.setA env is us) (P.setA e is ds) fp' ∧ ∃ f1, fp.Perm (f1 ++ fp')
  | [], _, _, env, e, fp, x, _, _ => by unfold Q.setA P.setA; exact ⟨fp, x, [], .refl _⟩
  | i :: is, _, _, env, e, fp, x, .nil, l => by simp at l
  | i :: is, _, _, env, e, fp, x, .cons (u := u) y r, l => by
    unfold Q.setA P.setA
    obtain ⟨fp1, x1, f1, p1⟩ := x.putD i y
    obtain ⟨fp3, x3, f3, p3⟩ := Ev.setA x1 r (by simpa using l)
    refine ⟨fp3, x3, f1 ++ f3, ?_⟩
    rw [List.append_assoc]
    exact p1.trans (p3.append_left f1)
/-- a target takes data -/
theorem ct_asg {c : CT} {e1 : Env} (x : Ev cc h F env e fp) (y : Dn cc h F u d) (q1 : c.asg d e = some e1) : ∃ env1, (ctQ c).asg u env h = some env1 ∧ env1.length = env.length ∧ (∀ i, i ∉ c.ix → env1[i]? = env[i]?) ∧ ∃ fp', Ev cc h F env1 e1 fp' ∧ ∃ f1, fp.Perm (f1 ++ fp') := by
  cases c with
  | one i =>
    have q1 : some (e.set i (.leaf d)) = some e1 := by cases d <;> exact q1
    cases q1
    obtain ⟨fp1, x1, f1, p1⟩ := x.putD i y
    exact ⟨env.set i (some u), rfl, by simp, fun j n => List.getElem?_set_ne (fun z => n (by simp [CT.ix, z])), fp1, x1, f1, p1⟩
  | tup is =>
    cases y with
    | @tup us ds r =>
      have q1 : (if ds.length = is.length then some (P.setA e is ds) else none) = some e1 := q1
      split at q1
      case isFalse => cases q1
      rename_i hl
      cases q1
      obtain ⟨fp1, x1, f1, p1⟩ := x.setA r (by rw [r.len]; exact hl)
      refine ⟨Q.setA env is us, ?_, setA_len, fun j n => setA_get n, fp1, x1, f1, p1⟩
      show (if us.length = is.length then some (Q.setA env is us) else none) = _
      rw [if_pos (by rw [r.len]; exact hl)]
    | _ => cases q1
  | lst is =>
    cases d with
    | lst ds =>
      obtain ⟨us, a1, r⟩ := y.tp
      have q1 : (if ds.length = is.length then some (P.setA e is ds) else none) = some e1 := q1
      split at q1
      case isFalse => cases q1
      rename_i hl
      cases q1
      obtain ⟨fp1, x1, f1, p1⟩ := x.setA r (by rw [r.len]; exact hl)
      refine ⟨Q.setA env is us, ?_, setA_len, fun j n => setA_get n, fp1, x1, f1, p1⟩
      show (match Q.mL h u with | some us => if us.length = is.length then some (Q.setA env is us) else none | none => none) = _
      rw [a1]
      simp only
      rw [if_pos (by rw [r.len]; exact hl)]
    | _ => cases q1
  | nst i is =>
    unfold CT.asg at q1
    split at q1 <;> try (cases q1; done)
    all_goals try contradiction
    rename_i i' is' xd ds hq
    cases hq
    split at q1
    case isFalse => cases q1
    rename_i hl
    cases q1
    cases y with
    | tup r =>
    cases r with
    | cons ya yr =>
    cases yr with
    | cons yb yr2 =>
    cases yr2
    cases yb with
    | @tup us _ r =>
    obtain ⟨fp1, x1, f1, p1⟩ := x.putD i ya
    obtain ⟨fp2, x2, f2, p2⟩ := x1.setA r (by rw [r.len]; exact hl)
    refine ⟨Q.setA (env.set i (some _)) is us, ?_, by rw [setA_len]; simp, fun j n => ?_, fp2, x2, f1 ++ f2, ?_⟩
    · show (if us.length = is.length then some (Q.setA (env.set i (some _)) is us) else none) = _
      rw [if_pos (by rw [r.len]; exact hl)]
    · rw [setA_get (fun z => n (List.mem_cons_of_mem _ z)), List.getElem?_set_ne (fun z => n (by simp [CT.ix, z]))]
    · rw [List.append_assoc]; exact p1.trans (p2.append_left f1)
  | nsl is i =>
    unfold CT.asg at q1
    split at q1 <;> try (cases q1; done)
    all_goals try contradiction
    rename_i is' i' ds xd hq
    cases hq
    split at q1
    case isFalse => cases q1
    rename_i hl
    cases q1
    cases y with
    | tup r =>
    cases r with
    | cons ya yr =>
    cases yr with
    | cons yb yr2 =>
    cases yr2
    cases ya with
    | @tup us _ r =>
    obtain ⟨fp1, x1, f1, p1⟩ := x.setA r (by rw [r.len]; exact hl)
    obtain ⟨fp2, x2, f2, p2⟩ := x1.putD i yb
    refine ⟨(Q.setA env is us).set i (some _), ?_, by simp [setA_len], fun j n => ?_, fp2, x2, f1 ++ f2, ?_⟩
    · show (if us.length = is.length then some ((Q.setA env is us).set i (some _)) else none) = _
      rw [if_pos (by rw [r.len]; exact hl)]
    · rw [List.getElem?_set_ne (fun z => n (by simp [CT.ix, z])), setA_get (fun z => n (List.mem_cons_of_mem _ z))]
    · rw [List.append_assoc]; exact p1.trans (p2.append_left f1)
/-! ### comprehensions -/
theorem lc_go {c : CT} {t : TM} {me : EM} {pt : PB} {pe : PE} {vs : List Nat} {n : Nat} {env0 : Env'} (ht : Sim cc q RE t pt) (he : Sim cc q (RD cc) me pe) (hc : ∀ i ∈ c.ix, i ∈ vs) :
    ∀ {us : List U} {ds : List D} {accU : List U} {accD : List D} {ck : Q.Chk} {h : Sto} {F : Nat → Prop} {e : Env} {fp : List Nat}, Dns cc h F us ds → ChkF h F ck → h[n]? = some (.lst accU) → Dns cc h F accU accD → Ev cc h F env0 (kill vs e) fp → SR h F (n :: fp) →
      match lcL c pt pe vs ds accD e with
      | .ok r e' => ∃ h' F' f2 accU', Q.lcL ck (ctQ c) t me n env0 us h = .ok (.ref n) h' ∧ h'[n]? = some (.lst accU') ∧ Dns cc h' F' accU' r ∧ Ev cc h' F' env0 (kill vs e') f2 ∧ Fr h F (n :: fp) h' F' (n :: f2) ∧ (q = true → ∀ k, k < h.length → k ≠ n → h'[k]? = h[k]?)
      | .exc _ _ _ => False
      | .bad => True
  | _, _, accU, accD, ck, h, F, e, fp, .nil, k, hn, ra, x, sr => by
    unfold lcL Q.lcL
    rw [if_pos k.ok]
    exact ⟨h, F, fp, accU, rfl, hn, ra, x, Fr.refl sr, fun _ _ _ _ => rfl⟩
  | _, _, accU, accD, ck, h, F, e, fp, .cons (us := us) (ds := ds) (u := u) (d := d) y r, k, hn, ra, x, sr => by
    unfold lcL
    cases q1 : c.asg d (kill vs e) with
    | none => trivial
    | some e1 =>
      obtain ⟨env1, a1, al, a2, fp1, x1, g1, p1⟩ := ct_asg x y q1
      have sr1 : SR h F (n :: fp1) := (sr.perm (p1.cons n)).sub ((List.sublist_append_right g1 fp1).cons₂ n)
      have srs : SR h F ([n] ++ fp1) := sr1
      have tt := ht h F env1 e1 fp1 x1 srs.right
      unfold Q.lcL
      rw [if_pos k.ok, a1]
      simp only
      cases q2 : pt e1 with
      | bad => trivial
      | exc C z e' => trivial
      | ok b e2 =>
        rw [q2] at tt
        obtain ⟨b', h2, F2, f3, f4, b1, ⟨rfl, rfl⟩, x2, fr2, sm2⟩ := tt
        rw [b1]
        have fr2' : Fr h F ([n] ++ fp1) h2 F2 ([n] ++ f4) := fr2.hold srs
        have keep2 : h2[n]? = h[n]? := fr2.kept srs n (List.mem_singleton.mpr rfl)
        have st2 := fr2'.stab srs
        show match (if b' = true then (pe e2).no.bind fun y e3 => if accD.length < 16000000 then lcL c pt pe vs ds (accD ++ [y]) e3 else .bad else lcL c pt pe vs ds accD e2) with
          | .ok r e' => ∃ h' F' f2 accU', (if b' = true then (me env1 h2).no.bind fun y h2 => (match h2[n]? with
              | some (.lst acc) => if acc.length < 16000000 then Q.lcL ck (ctQ c) t me n env0 us (h2.set n (.lst (acc ++ [y]))) else .bad
              | _ => .bad) else Q.lcL ck (ctQ c) t me n env0 us h2) = .ok (.ref n) h' ∧ h'[n]? = some (.lst accU') ∧ Dns cc h' F' accU' r ∧ Ev cc h' F' env0 (kill vs e') f2 ∧ Fr h F (n :: fp) h' F' (n :: f2) ∧ (q = true → ∀ k, k < h.length → k ≠ n → h'[k]? = h[k]?)
          | .exc _ _ _ => False
          | .bad => True
        have fr0 : Fr h F (n :: fp) h2 F2 (n :: f4) := by
          have z : Fr h F (n :: fp) h F (n :: fp1) := (Fr.refl sr).perm (p1.cons n) |>.sub ((List.sublist_append_right g1 fp1).cons₂ n)
          exact z.trans fr2'
        have x2' : ∀ {h3 F3 e3 f5}, Ev cc h3 F3 env1 e3 f5 → ∃ f6, Ev cc h3 F3 env0 (kill vs e3) f6 ∧ ∃ f7, f5.Perm (f7 ++ f6) := fun {h3 F3 e3 f5} x => by
          obtain ⟨f6, y6, f7, p7⟩ := x.kill vs
          exact ⟨f6, y6.swapK al.symm (fun i n => (a2 i (fun z => n (hc i z))).symm), f7, p7⟩
        cases b' with
        | false =>
          rw [if_neg (by decide)]
          obtain ⟨f6, y6, f7, p7⟩ := x2' x2
          have srn : SR h2 F2 (n :: f6) := (fr2'.sr.perm (p7.cons n)).sub ((List.sublist_append_right f7 f6).cons₂ n)
          have ih := lc_go (accU := accU) (accD := accD) (ck := ck) (e := e2) ht he hc (r.mono st2) (k.mono st2) (keep2.trans hn) (ra.mono st2) y6 srn
          cases q3 : lcL c pt pe vs ds accD e2 with
          | bad => trivial
          | exc C z e' => rw [q3] at ih; exact ih.elim
          | ok rr e' =>
            rw [q3] at ih
            obtain ⟨h', F', g2, accU', c1, c2, c3, c4, c5, c6⟩ := ih
            rw [if_neg (by decide)]
            refine ⟨h', F', g2, accU', c1, c2, c3, c4, (fr0.perm (p7.cons n) |>.sub ((List.sublist_append_right f7 f6).cons₂ n)).trans c5, fun z k1 l1 n1 => ?_⟩
            rw [c6 z k1 (Nat.lt_of_lt_of_le l1 fr2.len) n1, sm2 z k1 l1]
        | true =>
          rw [if_pos rfl]
          have ee := he h2 F2 env1 e2 f4 x2 fr2'.sr.right
          cases q3 : pe e2 with
          | bad => trivial
          | exc C z e' => trivial
          | ok yv e3 =>
            rw [q3] at ee
            obtain ⟨uv, h3, F3, f5, f8, d1, ⟨rfl, d2⟩, x3, fr3, sm3⟩ := ee
            have fr3' : Fr h2 F2 ([n] ++ f4) h3 F3 ([n] ++ f8) := fr3.hold fr2'.sr
            have keep3 : h3[n]? = h2[n]? := fr3.kept fr2'.sr n (List.mem_singleton.mpr rfl)
            have st3 := fr3'.stab fr2'.sr
            have hn3 : h3[n]? = some (.lst accU) := (keep3.trans keep2).trans hn
            show match (if accD.length < 16000000 then lcL c pt pe vs ds (accD ++ [yv]) e3 else .bad) with
              | .ok r e' => _
              | .exc _ _ _ => False
              | .bad => True
            by_cases hz : accD.length < 16000000
            case neg => rw [if_neg hz]; trivial
            rw [if_pos hz]
            have hl : n < h3.length := (List.getElem?_eq_some_iff.mp hn3).1
            have sr3 : SR h3 F3 ([n] ++ f8) := fr3'.sr
            have frs : Fr h3 F3 ([n] ++ f8) (h3.set n (.lst (accU ++ [uv]))) F3 ([n] ++ f8) := Fr.set sr3 (List.mem_append_left _ (List.mem_singleton.mpr rfl)) _
            have sts := frs.stab sr3
            obtain ⟨f6, y6, f7, p7⟩ := x2' (x3.mono sts (Keep.set _ (fun m => (List.nodup_append.mp sr3.nd).2.2 n (List.mem_singleton.mpr rfl) n m rfl)))
            have srn : SR (h3.set n (.lst (accU ++ [uv]))) F3 (n :: f6) := (frs.sr.perm (p7.cons n)).sub ((List.sublist_append_right f7 f6).cons₂ n)
            have sta := (st2.trans st3).trans sts
            have ih := lc_go (accU := accU ++ [uv]) (accD := accD ++ [yv]) (ck := ck) (e := e3) ht he hc (r.mono sta) (k.mono sta) (List.getElem?_set_self hl) ((ra.mono sta).app (.cons (d2.mono sts) .nil)) y6 srn
            cases q4 : lcL c pt pe vs ds (accD ++ [yv]) e3 with
            | bad => trivial
            | exc C z e' => rw [q4] at ih; exact ih.elim
            | ok rr e' =>
              rw [q4] at ih
              obtain ⟨h', F', g2, accU', c1, c2, c3, c4, c5, c6⟩ := ih
              refine ⟨h', F', g2, accU', ?_, c2, c3, c4, (((fr0.trans fr3').trans frs).perm (p7.cons n) |>.sub ((List.sublist_append_right f7 f6).cons₂ n)).trans c5, fun z k1 l1 n1 => ?_⟩
              · rw [if_pos rfl, d1]
                show (match h3[n]? with
                  | some (.lst acc) => if acc.length < 16000000 then Q.lcL ck (ctQ c) t me n env0 us (h3.set n (.lst (acc ++ [uv]))) else .bad
                  | _ => .bad) = _
                rw [hn3]
                simp only
                rw [if_pos (by rw [ra.len]; exact hz)]
                exact c1
              · have l2 : k1 < h2.length := Nat.lt_of_lt_of_le l1 fr2.len
                have l3 : k1 < h3.length := Nat.lt_of_lt_of_le l2 fr3.len
                rw [c6 z k1 (by simpa using l3) n1, List.getElem?_set_ne (Ne.symm n1), sm3 z k1 l2, sm2 z k1 l1]
end
end P

set_option Elab.async false
set_option linter.all false
set_option maxRecDepth 100000
set_option maxHeartbeats 1000000
/-! PS9: comprehensions, statements. -/
namespace P
open Q (U O Sto Env' R RS EM TM AM SM Sem')
section
variable {cc : Nat → Nat} {h h' h1 h2 : Sto} {F F' F1 F2 : Nat → Prop} {u v : U} {d : D} {us : List U} {ds : List D} {t : T} {ts : List T} {f f1 f2 fp fp' fp1 fp2 : List Nat} {env env' : Env'} {e e' : Env} {i : Nat} {q s s1 s2 : Bool}
  {α β γ δ : Type}
/-- slots of a def: N of them -/
def SimN (cc : Nat → Nat) {α β : Type} (N : Nat) (q : Bool) (Rel : Sto → (Nat → Prop) → α → β → List Nat → Prop) (m : Env' → Sto → R α) (p : Env → PR β) : Prop :=
  ∀ h F env e fp, env.length = N → Ev cc h F env e fp → SR h F fp → Out cc q Rel h F fp env (m env h) (p e)
theorem Sim.n {Rel : Sto → (Nat → Prop) → α → β → List Nat → Prop} {m : Env' → Sto → R α} {p : Env → PR β} {N : Nat} (a : Sim cc q Rel m p) : SimN cc N q Rel m p := fun h F env e fp _ x sr => a h F env e fp x sr
theorem sim_lc {mi : Q.IM'} {pi : PDs} {c : CT} {t : TM} {me : EM} {pt : PB} {pe : PE} {vs : List Nat} (hi : Sim cc q (RI cc) mi pi) (ht : Sim cc q RE t pt) (he : Sim cc q (RD cc) me pe) (hc : ∀ i ∈ c.ix, i ∈ vs) : Sim cc q (RT cc) (Q.mLc mi (ctQ c) t me vs) (pLc pi c pt pe vs) := fun h F env e fp x sr =>
  Out.bind0 sr (hi h F env e fp x sr) (fun z ds h1 F1 e1 f2 r1 x1 sr1 st sm => by
    obtain ⟨ck, us⟩ := z
    obtain ⟨_, r, kf⟩ := r1
    show Out cc q (RT cc) h1 F1 f2 env (Q.lcL ck (ctQ c) t me h1.length (Q.wipeE env vs) us (h1 ++ [.lst []])) ((lcL c pt pe vs ds [] e1).bind fun r e2 => .ok (.ls r) (kill vs e2))
    have sta := Stab.app sr1 [O.lst []]
    obtain ⟨f6, y6, f7, p7⟩ := (x1.mono sta (Keep.app sr1 _)).kill vs
    have y7 := y6.swapK (wipe_len vs env) (fun i n => wipe_get vs env i n)
    have fra := Fr.app sr1 (O.lst [])
    have frs : Fr h1 F1 f2 (h1 ++ [.lst []]) F1 (h1.length :: f6) := (fra.perm (p7.cons _)).sub ((List.sublist_append_right f7 f6).cons₂ _)
    have go := lc_go (c := c) (vs := vs) (n := h1.length) (env0 := Q.wipeE env vs) (accU := []) (accD := []) (e := e1) (q := q) ht he hc (r.mono sta) (ChkF.mono kf sta) (by rw [List.getElem?_append_right (Nat.le_refl _), Nat.sub_self]; rfl) .nil y7 frs.sr
    cases q1 : lcL c pt pe vs ds [] e1 with
    | bad => trivial
    | exc C z e' => rw [q1] at go; exact go.elim
    | ok rr e' =>
      rw [q1] at go
      obtain ⟨h', F', g2, accU', c1, c2, c3, c4, c5, c6⟩ := go
      refine ⟨_, h', F', [h1.length], g2, c1, .ls c2 c3, c4.swapK (wipe_len vs env).symm (fun i n => (wipe_get vs env i n).symm), frs.trans c5, fun z k l => ?_⟩
      rw [c6 z k (by simp; omega) (by omega), List.getElem?_append_left l]) ri_nil
theorem Ows.app : ∀ {us : List U} {ts : List T} {vs : List U} {rs : List T} {f1 f2 : List Nat}, Ows cc h F us ts f1 → Ows cc h F vs rs f2 → Ows cc h F (us ++ vs) (ts ++ rs) (f1 ++ f2)
  | _, _, _, _, _, _, .nil, y => y
  | _, _, _, _, _, f2, .cons (f1 := g1) (f2 := g2) x r, y => by rw [List.append_assoc]; exact .cons x (Ows.app r y)
theorem Ow.one {f : List Nat} (x : Ow cc h F u t f) : Ows cc h F [u] [t] f := by
  have := Ows.cons x (.nil (cc := cc) (h := h) (F := F))
  rwa [List.append_nil] at this
/-! ### statements -/
/-- the slots that the mask keeps hold what they held -/
def Kp (m : List Bool) (env env' : Env') : Prop := pick m env' = pick m env
def OutS (cc : Nat → Nat) (m : List Bool) (h : Sto) (F : Nat → Prop) (fp : List Nat) (env : Env') (r : RS) (s : PRS) : Prop := match s with
  | .nx e' => ∃ env' h' F' f2, r = .nx env' h' ∧ Ev cc h' F' env' e' f2 ∧ Fr h F fp h' F' f2 ∧ Kp m env env'
  | .bk e' => ∃ env' h' F' f2, r = .bk env' h' ∧ Ev cc h' F' env' e' f2 ∧ Fr h F fp h' F' f2 ∧ Kp m env env'
  | .ct e' => ∃ env' h' F' f2, r = .ct env' h' ∧ Ev cc h' F' env' e' f2 ∧ Fr h F fp h' F' f2 ∧ Kp m env env'
  | .rt t e' => ∃ u env' h' F' f1 f2, r = .rt u h' ∧ Ow cc h' F' u t f1 ∧ Ev cc h' F' env' e' f2 ∧ Fr h F fp h' F' (f1 ++ f2) ∧ Kp m env env'
  | .ex C x e' => ∃ n env' h' F' f2, r = .ex (cc C) n env' h' ∧ Ev cc h' F' env' e' f2 ∧ Fr h F fp h' F' f2 ∧ Xd cc h' F' n x ∧ Kp m env env'
  | .bad => True
def SimS (cc : Nat → Nat) (m : List Bool) (ms : SM) (p : PS) : Prop := ∀ h F env e fp, Ev cc h F env e fp → SR h F fp → OutS cc m h F fp env (ms env h) (p e)
theorem OutS.trans {mk : List Bool} {r : RS} {s : PRS} (fr : Fr h F fp h1 F1 fp1) (k : Kp mk env env') (o : OutS cc mk h1 F1 fp1 env' r s) : OutS cc mk h F fp env r s := by
  cases s with
  | nx e' => obtain ⟨env2, h', F', f2, a, b, c, d⟩ := o; exact ⟨env2, h', F', f2, a, b, fr.trans c, d.trans k⟩
  | bk e' => obtain ⟨env2, h', F', f2, a, b, c, d⟩ := o; exact ⟨env2, h', F', f2, a, b, fr.trans c, d.trans k⟩
  | ct e' => obtain ⟨env2, h', F', f2, a, b, c, d⟩ := o; exact ⟨env2, h', F', f2, a, b, fr.trans c, d.trans k⟩
  | rt t e' => obtain ⟨u, env2, h', F', f1, f2, a, b, c, d, e⟩ := o; exact ⟨u, env2, h', F', f1, f2, a, b, c, fr.trans d, e.trans k⟩
  | ex C x e' => obtain ⟨n, env2, h', F', f2, a, b, c, d, e⟩ := o; exact ⟨n, env2, h', F', f2, a, b, fr.trans c, d, e.trans k⟩
  | bad => trivial
theorem Kp.refl {m : List Bool} (env : Env') : Kp m env env := rfl
theorem OutS.st {mk : List Bool} {R1 : Sto → (Nat → Prop) → α → β → List Nat → Prop} {r : R α} {s : PR β} {g : α → Sto → RS} {p : β → Env → PRS} (o : Out cc q R1 h F fp env r s)
    (k : ∀ a b h1 F1 e1 f1 f2, R1 h1 F1 a b f1 → Ev cc h1 F1 env e1 f2 → Fr h F fp h1 F1 (f1 ++ f2) → (q = true → Sm h h1) → OutS cc mk h1 F1 (f1 ++ f2) env (g a h1) (p b e1)) : OutS cc mk h F fp env (Q.R.st r env g) (s.st p) := by
  cases s with
  | bad => trivial
  | exc C x e' =>
    obtain ⟨n, h', F', f2, e1, a, b, c⟩ := o
    exact ⟨n, env, h', F', f2, by rw [e1]; rfl, a, b, c, Kp.refl env⟩
  | ok b e' =>
    obtain ⟨a, h1, F1, f1, f2, e1, r1, x1, fr, sm⟩ := o
    rw [e1]
    exact OutS.trans fr (Kp.refl env) (k a b h1 F1 e' f1 f2 r1 x1 fr sm)
theorem OutS.st0 {mk : List Bool} {R1 : Sto → (Nat → Prop) → α → β → List Nat → Prop} {r : R α} {s : PR β} {g : α → Sto → RS} {p : β → Env → PRS} (sr : SR h F fp) (o : Out cc q R1 h F fp env r s)
    (k : ∀ a b h1 F1 e1 f2, R1 h1 F1 a b [] → Ev cc h1 F1 env e1 f2 → SR h1 F1 f2 → Stab h F h1 F1 → (q = true → Sm h h1) → OutS cc mk h1 F1 f2 env (g a h1) (p b e1)) (n : ∀ a b h F f, R1 h F a b f → f = []) : OutS cc mk h F fp env (Q.R.st r env g) (s.st p) :=
  OutS.st o fun a b h1 F1 e1 f1 f2 r1 x1 fr sm => by
    have := n _ _ _ _ _ r1
    subst this
    exact k a b h1 F1 e1 f2 r1 x1 fr.sr (fr.stab sr) sm
variable {mk : List Bool}
theorem ss_nx : SimS cc mk Q.mNx sNx := fun h F env e fp x sr => ⟨env, h, F, fp, rfl, x, Fr.refl sr, Kp.refl env⟩
theorem ss_seq {m1 m2 : SM} {p1 p2 : PS} (a : SimS cc mk m1 p1) (b : SimS cc mk m2 p2) : SimS cc mk (Q.mSeq m1 m2) (sSeq p1 p2) := fun h F env e fp x sr => by
  have := a h F env e fp x sr
  unfold Q.mSeq sSeq
  cases q1 : p1 e with
  | nx e1 =>
    rw [q1] at this
    obtain ⟨env', h', F', f2, a1, a2, a3, a4⟩ := this
    rw [a1]
    exact OutS.trans a3 a4 (b h' F' env' e1 f2 a2 a3.sr)
  | rt t e1 => rw [q1] at this; obtain ⟨u, env2, h', F', f1, f2, a, r⟩ := this; rw [a]; exact ⟨u, env2, h', F', f1, f2, rfl, r⟩
  | bk e1 => rw [q1] at this; obtain ⟨env2, h', F', f2, a, r⟩ := this; rw [a]; exact ⟨env2, h', F', f2, rfl, r⟩
  | ct e1 => rw [q1] at this; obtain ⟨env2, h', F', f2, a, r⟩ := this; rw [a]; exact ⟨env2, h', F', f2, rfl, r⟩
  | ex C y e1 => rw [q1] at this; obtain ⟨n, env2, h', F', f2, a, r⟩ := this; rw [a]; exact ⟨n, env2, h', F', f2, rfl, r⟩
  | bad => trivial
theorem pick_set {α : Type} : ∀ {m : List Bool} {i : Nat} {l : List α} {x : α}, m.getD i false = false → pick m (l.set i x) = pick m l
  | [], i, l, x, _ => by simp [pick]
  | b :: m, i, [], x, _ => by simp
  | b :: m, 0, a :: l, x, q => by simp at q; subst q; simp [pick]
  | b :: m, i + 1, a :: l, x, q => by
    have := pick_set (m := m) (i := i) (l := l) (x := x) (by simpa using q)
    cases b <;> simp [pick, this]
theorem Kp.set {i : Nat} {o : Option U} (z : mk.getD i false = false) : Kp mk env (env.set i o) := pick_set z
theorem ss_asg {i : Nat} {m : EM} {p : PT} (a : Sim cc q (RT cc) m p) (z : mk.getD i false = false := by rfl) : SimS cc mk (Q.mAsg (.one i) m) (sAsg i p) := fun h F env e fp x sr =>
  OutS.st (a h F env e fp x sr) fun u t h1 F1 e1 f1 f2 r1 x1 fr sm => by
    obtain ⟨fp', ev, g, g1, g2, p1, p2, sub⟩ := x1.put i (some u) (show Os cc h1 F1 (some u) t f1 from r1)
    refine ⟨env.set i (some u), h1, F1, fp', rfl, ev, ?_, Kp.set z⟩
    have pp : (f1 ++ f2).Perm (g1 ++ (f1 ++ g2)) := (p1.append_left f1).trans perm_mid
    exact (((Fr.refl fr.sr).perm pp).sub ((sub.append_right g2).trans (List.sublist_append_right g1 _))).perm p2.symm
theorem ss_unp {c : CT} {m : EM} {p : PE} (a : Sim cc q (RD cc) m p) (z : (c.ix.all fun i => !mk.getD i false) = true := by rfl) : SimS cc mk (Q.mAsg (ctQ c) m) (sUnp c p) := fun h F env e fp x sr =>
  OutS.st0 sr (a h F env e fp x sr) (fun u d h1 F1 e1 f2 r1 x1 sr1 st sm => by
    cases q1 : c.asg d e1 with
    | none => trivial
    | some e2 =>
      obtain ⟨env1, a1, al, a2, fp1, x2, g1, p1⟩ := ct_asg x1 r1.2 q1
      refine ⟨env1, h1, F1, fp1, ?_, x2, ((Fr.refl sr1).perm p1).sub (List.sublist_append_right _ _), ?_⟩
      · show (match (ctQ c).asg u env h1 with | some e => RS.nx e h1 | none => .bad) = _
        rw [a1]
      · have : ∀ (m : List Bool) (l l' : Env') (off : Nat), l'.length = l.length → (∀ i, m.getD i false = true → l'[i]? = l[i]?) → pick m l' = pick m l := by
          intro m
          induction m with
          | nil => intro l l' _ _ _; simp [pick]
          | cons b m ih =>
            intro l l' off hl k
            cases l with
            | nil => have : l' = [] := List.length_eq_zero_iff.mp (by simpa using hl); subst this; rfl
            | cons x l =>
              cases l' with
              | nil => simp at hl
              | cons x' l' =>
                have := ih l l' off (by simpa using hl) fun i q => by simpa using k (i + 1) (by simpa using q)
                cases b with
                | false => simpa [pick] using this
                | true =>
                  have h0 : x' = x := by simpa using k 0 rfl
                  subst h0
                  simp [pick, this]
        refine this mk env env1 0 al fun i q => a2 i fun m => ?_
        have := List.all_eq_true.mp z i m
        rw [q] at this
        cases this) rd_nil
theorem ss_ret {m : EM} {p : PT} (a : Sim cc q (RT cc) m p) : SimS cc mk (Q.mRet m) (sRet p) := fun h F env e fp x sr =>
  OutS.st (a h F env e fp x sr) fun u t h1 F1 e1 f1 f2 r1 x1 fr sm => ⟨u, env, h1, F1, f1, f2, rfl, r1, x1, Fr.refl fr.sr, Kp.refl env⟩
theorem ss_drop {m : EM} {p : PT} (a : Sim cc q (RT cc) m p) : SimS cc mk (Q.mDrop m) (sDrop p) := fun h F env e fp x sr =>
  OutS.st (a h F env e fp x sr) fun u t h1 F1 e1 f1 f2 r1 x1 fr sm => ⟨env, h1, F1, f2, rfl, x1, (Fr.refl fr.sr).sub (List.sublist_append_right _ _), Kp.refl env⟩
theorem ss_if {t : TM} {pt : PB} {m1 m2 : SM} {p1 p2 : PS} (c : Sim cc q RE t pt) (a : SimS cc mk m1 p1) (b : SimS cc mk m2 p2) : SimS cc mk (Q.mIfS t m1 m2) (sIf pt p1 p2) := fun h F env e fp x sr =>
  OutS.st0 sr (c h F env e fp x sr) (fun u d h1 F1 e1 f2 r1 x1 sr1 st sm => by
    obtain ⟨_, rfl⟩ := r1
    cases u with
    | true => exact a _ _ _ _ _ x1 sr1
    | false => exact b _ _ _ _ _ x1 sr1) re_nil
end
end P

set_option Elab.async false
set_option linter.all false
set_option maxRecDepth 100000
set_option maxHeartbeats 1000000
/-! PS10: loops, stores, exceptions. -/
namespace P
open Q (U O Sto Env' R RS EM TM AM SM Sem')
section
variable {cc : Nat → Nat} {h h' h1 h2 : Sto} {F F' F1 F2 : Nat → Prop} {u v : U} {d : D} {us : List U} {ds : List D} {t : T} {ts : List T} {f f1 f2 fp fp' fp1 fp2 : List Nat} {env env' : Env'} {e e' : Env} {i : Nat} {q s s1 s2 : Bool}
  {α β γ δ : Type} {mk : List Bool}
theorem kp_off {m : List Bool} : ∀ {l l' : Env'}, l'.length = l.length → (∀ i, m.getD i false = true → l'[i]? = l[i]?) → pick m l' = pick m l := by
  induction m with
  | nil => intro l l' _ _; simp [pick]
  | cons b m ih =>
    intro l l' hl k
    cases l with
    | nil => have : l' = [] := List.length_eq_zero_iff.mp (by simpa using hl); subst this; rfl
    | cons x l =>
      cases l' with
      | nil => simp at hl
      | cons x' l' =>
        have := ih (l := l) (l' := l') (by simpa using hl) fun i q => by simpa using k (i + 1) (by simpa using q)
        cases b with
        | false => simpa [pick] using this
        | true =>
          have h0 : x' = x := by simpa using k 0 rfl
          subst h0
          simp [pick, this]
theorem kp_asg {c : CT} {env1 : Env'} (z : (c.ix.all fun i => !mk.getD i false) = true) (al : env1.length = env.length) (a2 : ∀ i, i ∉ c.ix → env1[i]? = env[i]?) : Kp mk env env1 :=
  kp_off al fun i q => a2 i fun m => by
    have := List.all_eq_true.mp z i m
    rw [q] at this
    cases this
theorem for_go {c : CT} {mb : SM} {pb : PS} {K : List Nat} {ck : Q.Chk} (hb : SimS cc mk mb pb) (z : (c.ix.all fun i => !mk.getD i false) = true) :
    ∀ {us : List U} {ds : List D} {h : Sto} {F : Nat → Prop} {env : Env'} {e : Env} {fp : List Nat}, Dns cc h F us ds → ChkF h F ck → Ev cc h F env e fp → SR h F fp → OutS cc mk h F fp env (Q.forL ck (ctQ c) mb us env h) (forL K c pb ds e)
  | _, _, h, F, env, e, fp, .nil, k, x, sr => by
    unfold Q.forL forL
    rw [if_pos k.ok]
    obtain ⟨fp1, x1, f1, p1⟩ := x.kill K
    exact ⟨env, h, F, fp1, rfl, x1, ((Fr.refl sr).perm p1).sub (List.sublist_append_right _ _), Kp.refl env⟩
  | _, _, h, F, env, e, fp, .cons (us := us) (ds := ds) (u := u) (d := d) y r, k, x, sr => by
    obtain ⟨fp1, x1, f1, p1⟩ := x.kill K
    have fr1 : Fr h F fp h F fp1 := ((Fr.refl sr).perm p1).sub (List.sublist_append_right _ _)
    unfold forL
    cases q1 : c.asg d (kill K e) with
    | none => trivial
    | some e1 =>
      obtain ⟨env1, a1, al, a2, fp2, x2, g1, p2⟩ := ct_asg x1 y q1
      have fr2 : Fr h F fp h F fp2 := (fr1.perm p2).sub (List.sublist_append_right _ _)
      have kp := kp_asg (mk := mk) z al a2
      unfold Q.forL
      rw [if_pos k.ok, a1]
      simp only
      have bb := hb h F env1 e1 fp2 x2 fr2.sr
      cases q2 : pb e1 with
      | bad => trivial
      | nx e2 =>
        rw [q2] at bb
        obtain ⟨env2, h2, F2, f2, b1, b2, b3, b4⟩ := bb
        rw [b1]
        exact OutS.trans (fr2.trans b3) (b4.trans kp) (for_go hb z (r.mono (b3.stab fr2.sr)) (k.mono (b3.stab fr2.sr)) b2 b3.sr)
      | ct e2 =>
        rw [q2] at bb
        obtain ⟨env2, h2, F2, f2, b1, b2, b3, b4⟩ := bb
        rw [b1]
        exact OutS.trans (fr2.trans b3) (b4.trans kp) (for_go hb z (r.mono (b3.stab fr2.sr)) (k.mono (b3.stab fr2.sr)) b2 b3.sr)
      | bk e2 =>
        rw [q2] at bb
        obtain ⟨env2, h2, F2, f2, b1, b2, b3, b4⟩ := bb
        rw [b1]
        obtain ⟨fp3, x3, f3, p3⟩ := b2.kill K
        exact ⟨env2, h2, F2, fp3, rfl, x3, ((fr2.trans b3).perm p3).sub (List.sublist_append_right _ _), b4.trans kp⟩
      | rt t e2 =>
        rw [q2] at bb
        obtain ⟨u, env2, h2, F2, f1, f2, b1, b2, b3, b4, b5⟩ := bb
        rw [b1]
        exact ⟨u, env2, h2, F2, f1, f2, rfl, b2, b3, fr2.trans b4, b5.trans kp⟩
      | ex C y e2 =>
        rw [q2] at bb
        obtain ⟨n, env2, h2, F2, f2, b1, b2, b3, b4, b5⟩ := bb
        rw [b1]
        exact ⟨n, env2, h2, F2, f2, rfl, b2, fr2.trans b3, b4, b5.trans kp⟩
theorem ss_for {K : List Nat} {c : CT} {mi : Q.IM'} {pi : PDs} {mb : SM} {pb : PS} (hi : Sim cc q (RI cc) mi pi) (hb : SimS cc mk mb pb) (z : (c.ix.all fun i => !mk.getD i false) = true := by rfl) : SimS cc mk (Q.mFor mi (ctQ c) mb) (sFor K pi c pb) := fun h F env e fp x sr =>
  OutS.st0 sr (hi h F env e fp x sr) (fun a ds h1 F1 e1 f2 r1 x1 sr1 st sm => for_go hb z r1.2.1 r1.2.2 x1 sr1) ri_nil
theorem wh_go {K : List Nat} {t : TM} {pt : PB} {mb : SM} {pb : PS} (ht : Sim cc q RE t pt) (hb : SimS cc mk mb pb) : ∀ (n : Nat) {h : Sto} {F : Nat → Prop} {env : Env'} {e : Env} {fp : List Nat}, Ev cc h F env e fp → SR h F fp → OutS cc mk h F fp env (Q.whL t mb n env h) (whL K pt pb n e)
  | 0, _, _, _, _, _, _, _ => trivial
  | n + 1, h, F, env, e, fp, x, sr => by
    obtain ⟨fp1, x1, f1, p1⟩ := x.kill K
    have fr1 : Fr h F fp h F fp1 := ((Fr.refl sr).perm p1).sub (List.sublist_append_right _ _)
    refine OutS.trans fr1 (Kp.refl env) ?_
    unfold Q.whL whL
    refine OutS.st0 fr1.sr (ht h F env _ fp1 x1 fr1.sr) (fun a b h1 F1 e1 f2 r1 x1 sr1 st sm => ?_) re_nil
    obtain ⟨_, rfl⟩ := r1
    cases a with
    | false => rw [if_neg (by decide), if_neg (by decide)]; exact ⟨env, h1, F1, f2, rfl, x1, Fr.refl sr1, Kp.refl env⟩
    | true =>
      rw [if_pos rfl, if_pos rfl]
      have bb := hb h1 F1 env e1 f2 x1 sr1
      cases q2 : pb e1 with
      | bad => trivial
      | nx e2 =>
        rw [q2] at bb
        obtain ⟨env2, h2, F2, f2, b1, b2, b3, b4⟩ := bb
        rw [b1]
        exact OutS.trans b3 b4 (wh_go ht hb n b2 b3.sr)
      | ct e2 =>
        rw [q2] at bb
        obtain ⟨env2, h2, F2, f2, b1, b2, b3, b4⟩ := bb
        rw [b1]
        exact OutS.trans b3 b4 (wh_go ht hb n b2 b3.sr)
      | bk e2 =>
        rw [q2] at bb
        obtain ⟨env2, h2, F2, f2, b1, b2, b3, b4⟩ := bb
        rw [b1]
        obtain ⟨fp3, x3, f3, p3⟩ := b2.kill K
        exact ⟨env2, h2, F2, fp3, rfl, x3, (b3.perm p3).sub (List.sublist_append_right _ _), b4⟩
      | rt t e2 =>
        rw [q2] at bb
        obtain ⟨u, env2, h2, F2, f1, f2, b1, r⟩ := bb
        rw [b1]
        exact ⟨u, env2, h2, F2, f1, f2, rfl, r⟩
      | ex C y e2 =>
        rw [q2] at bb
        obtain ⟨n, env2, h2, F2, f2, b1, r⟩ := bb
        rw [b1]
        exact ⟨n, env2, h2, F2, f2, rfl, r⟩
theorem ss_while {K : List Nat} {n : Nat} {t : TM} {pt : PB} {mb : SM} {pb : PS} (ht : Sim cc q RE t pt) (hb : SimS cc mk mb pb) : SimS cc mk (Q.mWhile n t mb) (sWhile K n pt pb) := fun h F env e fp x sr => wh_go ht hb n x sr
theorem OutS.no {r : RS} {s : PRS} (o : OutS cc mk h F fp env r s) : OutS cc mk h F fp env (Q.RS.no r) s.no := by
  cases s with
  | nx e' => obtain ⟨env2, h', F', f2, a, b⟩ := o; rw [a]; exact ⟨env2, h', F', f2, rfl, b⟩
  | bk e' => obtain ⟨env2, h', F', f2, a, b⟩ := o; rw [a]; exact ⟨env2, h', F', f2, rfl, b⟩
  | ct e' => obtain ⟨env2, h', F', f2, a, b⟩ := o; rw [a]; exact ⟨env2, h', F', f2, rfl, b⟩
  | rt t e' => obtain ⟨u, env2, h', F', f1, f2, a, b⟩ := o; rw [a]; exact ⟨u, env2, h', F', f1, f2, rfl, b⟩
  | ex C x e' => trivial
  | bad => trivial
/-! stores -/
theorem OutS.stP {m : EM} {p : Pth} {g : U → Sto → RS} {k : List Ac → Env → PRS} (a : SimP cc m p) (x : Ev cc h F env e fp) (sr : SR h F fp)
    (z : ∀ u r h1 F1 e1 f2, (∃ o, env[p.root]? = some (some o) ∧ atU h1 o r = some u) → (p.isVar = true → r = []) → Ev cc h1 F1 env e1 f2 → SR h1 F1 f2 → Stab h F h1 F1 → OutS cc mk h1 F1 f2 env (g u h1) (k r e1)) : OutS cc mk h F fp env (Q.R.st (m env h) env g) ((p.ev e).st k) :=
  OutS.st0 sr (a h F env e fp x sr) (fun u r h1 F1 e1 f2 r1 x1 sr1 st sm => z u r h1 F1 e1 f2 r1.2.1 r1.2.2 x1 sr1 st) rp_nil
/-- a place changes, in a statement -/
theorem outS_set {i : Nat} {r : List Ac} {t' : T} {n : Nat} {ob : O} {g1 g2 : List Nat} (sr : SR h F fp) (c4 : fp.Perm (g1 ++ g2)) (n1 : n ∈ g1)
    (c5 : ∀ h' F' s' f1', Stab h F h' F' → Keep g2 h h' → Ow cc h' F' u s' f1' → ∃ fp', Ev cc h' F' env (setP i r s' e) fp' ∧ fp'.Perm (f1' ++ g2)) {g3 : List Nat} (n2 : Ow cc (h.set n ob) F u t' g3) (g3s : g3.Sublist g1) : OutS cc mk h F fp env (.nx env (h.set n ob)) (.nx (setP i r t' e)) := by
  have sr' := sr.perm c4
  have n4 : n ∉ g2 := fun m => (List.nodup_append.mp sr'.nd).2.2 n n1 n m rfl
  obtain ⟨fp', d1, d2⟩ := c5 (h.set n ob) F t' g3 (Stab.set sr' (List.mem_append_left _ n1) ob) (Keep.set ob n4) n2
  exact ⟨env, _, F, fp', rfl, d1, (((Fr.set sr' (List.mem_append_left _ n1) ob).sub (g3s.append_right g2)).perm d2.symm).permL c4.symm, Kp.refl env⟩
theorem ss_setI {m mi me : EM} {p : Pth} {pi pa : PE} (ap : SimP cc m p) (b : Sim cc q (RD cc) mi pi) (a : Sim cc s (RD cc) me pa) (z : p.isVar = true ∨ q = true) : SimS cc mk (Q.mSetI Q.uSetL m mi me) (sSetI p pi pa) := fun h F env e fp x sr =>
  OutS.st0 sr (a h F env e fp x sr) (fun ud d h1 F1 e1 f1 r1 x1 sr1 st1 sm1 => OutS.stP ap x1 sr1 fun u r h2 F2 e2 f2 ⟨o, b1, b2⟩ b3 x2 sr2 st2 =>
    OutS.st0 sr2 (path_later b2 b3 z (b h2 F2 env e2 f2 x2 sr2)) (fun ui di h3 F3 e3 f3 r3 x3 sr3 st3 sm3 => by
      obtain ⟨⟨_, r3⟩, b2⟩ := r3
      cases r3 with
      | int k =>
        cases q1 : getP p.root r e3 with
        | none => trivial
        | some t =>
          cases t with
          | ls xs =>
            obtain ⟨o', v, g1, g2, c1, c2, c3, c4, c5⟩ := x3.pt q1 (fun z => by cases z)
            rw [b1] at c1; cases c1
            rw [b2] at c2; cases c2
            cases c3 with
            | @ls n ys _ en rr =>
              show OutS cc mk h3 F3 f3 env (match Q.uSetL (.ref n) (.int k) ud h3 with | some h4 => RS.nx env h4 | none => .bad) (match ixN xs.length k with | some j => .nx (setP p.root r (.ls (xs.set j d)) e3) | none => .bad)
              cases q2 : ixN xs.length k with
              | none => trivial
              | some j =>
                have q2' : L2.ixN ys.length k = some j := by rw [rr.len]; exact q2
                rw [Q.e_set, en]
                simp only [q2', Option.map]
                have sr4 := sr3.perm c4
                have stn := Stab.set sr4 (List.mem_append_left _ (List.mem_singleton.mpr rfl)) (O.lst (ys.set j ud))
                exact outS_set sr3 c4 (List.mem_singleton.mpr rfl) (c5 rfl) (.ls (by rw [List.getElem?_set_self (List.getElem?_eq_some_iff.mp en).1]) ((rr.set j (r1.2.mono (st2.trans st3))).mono stn)) (List.Sublist.refl _)
          | _ => trivial
      | _ => trivial) (fun _ _ _ _ _ x => x.1.1)) rd_nil
theorem ss_aug {f : U → U → Sto → R U} {g : D → D → Option D} (ok : OpB cc f g (RD cc)) {i : Nat} {me : EM} {pa : PE} (a : Sim cc q (RX cc s) me pa) (z : mk.getD i false = false := by rfl) : SimS cc mk (Q.mAug f i me) (sAug g i pa) := fun h F env e fp x sr => by
  unfold sAug
  split
  · rename_i d q1
    obtain ⟨o, f1, f2, a1, a2, a3, _⟩ := x.at q1
    cases o with
    | none => cases a2.1
    | some u =>
      cases a2 with
      | leaf dn =>
        rw [Q.e_aug, a1]
        refine OutS.st0 sr (a h F env e fp x sr) (fun u2 d2 h1 F1 e1 f2 r1 x1 sr1 st sm => ?_) rx_nil
        have oo := ok q h1 F1 f2 env e1 u d u2 d2 x1 sr1 (dn.mono st).tp r1.tp
        cases q2 : g d d2 with
        | none => trivial
        | some w =>
          rw [q2] at oo
          obtain ⟨uw, h', F', f3, f4, b1, ⟨rfl, b2⟩, b3, b4, b5⟩ := oo
          rw [b1]
          obtain ⟨fp1, x2, g1, p1⟩ := b3.putD i b2
          exact ⟨env.set i (some uw), h', F', fp1, rfl, x2, (b4.perm p1).sub (List.sublist_append_right _ _), Kp.set z⟩
  · trivial
theorem op_iadd : OpB cc Q.uIAdd gIAdd (RD cc) := by
  intro q h F fp env e u1 d1 u2 d2 x sr t1 t2
  unfold gIAdd
  split
  · cases t1; cases t2; exact Out.ret0 ⟨rfl, .int _⟩ x sr
  · rename_i s t
    cases t1; cases t2
    rw [Q.e_iadd_s]
    by_cases z : s.length + t.length ≤ 16000000
    · rw [if_pos z, if_pos z]; exact Out.ret0 ⟨rfl, .str _⟩ x sr
    · rw [if_neg z, if_neg z]; trivial
  · trivial
end
end P

set_option Elab.async false
set_option linter.all false
set_option maxRecDepth 100000
set_option maxHeartbeats 1000000
/-! PS11: stores by an operator, fields, calls, defs. -/
namespace P
open Q (U O Sto Env' R RS EM TM AM SM Sem')
section
variable {cc : Nat → Nat} {h h' h1 h2 : Sto} {F F' F1 F2 : Nat → Prop} {u v : U} {d : D} {us : List U} {ds : List D} {t : T} {ts : List T} {f f1 f2 fp fp' fp1 fp2 : List Nat} {env env' : Env'} {e e' : Env} {i : Nat} {q s s1 s2 : Bool}
  {α β γ δ : Type} {mk : List Bool}
theorem ss_augI {f : U → U → Sto → R U} {g : D → D → Option D} (ok : OpB cc f g (RD cc)) {m mi me : EM} {p : Pth} {pi pa : PE} (ap : SimP cc m p) (b : Sim cc q (RD cc) mi pi) (a : Sim cc q (RD cc) me pa) (z : p.isVar = true ∨ q = true) : SimS cc mk (Q.mAugI Q.uIxL f Q.uSetL m mi me) (sAugI g p pi pa) := fun h F env e fp x sr =>
  OutS.stP ap x sr fun u r h1 F1 e1 f1 ⟨o, b1, b2⟩ b3 x1 sr1 st1 =>
    OutS.st0 sr1 (path_later b2 b3 z (b h1 F1 env e1 f1 x1 sr1)) (fun ui di h2 F2 e2 f2 r2 x2 sr2 st2 sm2 => by
      obtain ⟨⟨_, r2⟩, b2⟩ := r2
      cases r2 with
      | int k =>
        cases q1 : getP p.root r e2 with
        | none => trivial
        | some t =>
          cases t with
          | ls xs =>
            obtain ⟨o', v, g1, g2, c1, c2, c3, c4, c5⟩ := x2.pt q1 (fun z => by cases z)
            rw [b1] at c1; cases c1
            rw [b2] at c2; cases c2
            cases c3 with
            | @ls n ys _ en rr =>
              show OutS cc mk h2 F2 f2 env (Q.R.st (Q.uIxL (.ref n) (.int k) h2) env _) (match atI xs k with | some z => _ | none => PRS.bad)
              cases q2 : atI xs k with
              | none => trivial
              | some zd =>
                obtain ⟨zu, d1, d2⟩ := rr.at q2
                rw [Q.e_ixL, en]
                simp only [d1]
                show OutS cc mk h2 F2 f2 env (Q.R.st (me env h2) env _) ((pa e2).st _)
                refine OutS.st0 sr2 (path_later b2 b3 z (a h2 F2 env e2 f2 x2 sr2)) (fun uy dy h3 F3 e3 f3 r3 x3 sr3 st3 sm3 => ?_) (fun _ _ _ _ _ x => x.1.1)
                obtain ⟨r3, b2⟩ := r3
                have oo := ok true h3 F3 f3 env e3 zu zd uy dy x3 sr3 (d2.mono st3).tp r3.2.tp
                cases q3 : g zd dy with
                | none => trivial
                | some w =>
                  rw [q3] at oo
                  obtain ⟨uw, h', F', f4, f5, e4, ⟨rfl, e5⟩, e6, e7, e8⟩ := oo
                  cases q4 : getP p.root r e3 with
                  | none => trivial
                  | some t =>
                    cases t with
                    | ls xs2 =>
                      have b2' := atU_mono (e8 rfl) b2
                      obtain ⟨o', v, g1, g2, c1, c2, c3, c4, c5⟩ := e6.pt q4 (fun z => by cases z)
                      rw [b1] at c1; cases c1
                      rw [b2'] at c2; cases c2
                      cases c3 with
                      | @ls _ ys2 _ en2 rr2 =>
                        rw [e4]
                        show OutS cc mk h3 F3 f3 env (match Q.uSetL (.ref n) (.int k) uw h' with | some h6 => RS.nx env h6 | none => .bad) (match ixN xs2.length k with | some j => .nx (setP p.root r (.ls (xs2.set j w)) e3) | none => .bad)
                        cases q5 : ixN xs2.length k with
                        | none => trivial
                        | some j =>
                          have q5' : L2.ixN ys2.length k = some j := by rw [rr2.len]; exact q5
                          rw [Q.e_set, en2]
                          simp only [q5', Option.map]
                          have sr4 := e7.sr.perm c4
                          have stn := Stab.set sr4 (List.mem_append_left _ (List.mem_singleton.mpr rfl)) (O.lst (ys2.set j uw))
                          exact OutS.trans e7 (Kp.refl env) (outS_set e7.sr c4 (List.mem_singleton.mpr rfl) (c5 rfl) (.ls (by rw [List.getElem?_set_self (List.getElem?_eq_some_iff.mp en2).1]) ((rr2.set j e5).mono stn)) (List.Sublist.refl _))
                    | _ => trivial
          | _ => trivial
      | _ => trivial) (fun _ _ _ _ _ x => x.1.1)
/-! fields -/
end
end P

set_option Elab.async false
set_option linter.all false
set_option maxRecDepth 100000
set_option maxHeartbeats 1000000
/-! PS12: calls, defs, the end. -/
namespace P
open Q (U O Sto Env' R RS EM TM AM SM Sem')
section
variable {cc : Nat → Nat} {h h' h1 h2 : Sto} {F F' F1 F2 : Nat → Prop} {u v : U} {d : D} {us : List U} {ds : List D} {t : T} {ts : List T} {f f1 f2 fp fp' fp1 fp2 : List Nat} {env env' : Env'} {e e' : Env} {i : Nat} {q s s1 s2 : Bool}
  {α β γ δ : Type} {mk : List Bool}
def SimF (cc : Nat → Nat) (mask : List Bool) (sem : Sem') (ps : PSem) : Prop := ∀ h F us ts fp, Ows cc h F us ts fp → SR h F fp → match ps ts with
  | .ok t ws => ∃ u h' F' f1 f2, sem us h = .ok u h' ∧ Ow cc h' F' u t f1 ∧ Ows cc h' F' (pick mask us) ws f2 ∧ Fr h F fp h' F' (f1 ++ f2)
  | .exc C x => ∃ n h' F', sem us h = .exc (cc C) n h' ∧ Fr h F fp h' F' [] ∧ Xd cc h' F' n x
  | .bad => True
theorem Dns.ows : ∀ {us : List U} {ds : List D}, Dns cc h F us ds → Ows cc h F us (ds.map .leaf) []
  | _, _, .nil => .nil
  | _, _, .cons x r => .cons (f1 := []) (f2 := []) (.leaf x) (Dns.ows r)
/-- a call with data alone, some things held meanwhile -/
theorem call_out {mask : List Bool} {sem : Sem'} {ps : PSem} (ok : SimF cc mask sem ps) {us : List U} {ts : List T} {fa : List Nat} (x : Ev cc h F env e fp) (sr : SR h F (fa ++ fp)) (r : Ows cc h F us ts fa) : 
    match ps ts with
    | .ok t ws => ∃ u h' F' f1 f2, sem us h = .ok u h' ∧ Ow cc h' F' u t f1 ∧ Ows cc h' F' (pick mask us) ws f2 ∧ Ev cc h' F' env e fp ∧ Fr h F (fa ++ fp) h' F' (f1 ++ (f2 ++ fp)) ∧ Keep fp h h' ∧ Stab h F h' F' ∧ (fa = [] → Sm h h')
    | .exc C x => ∃ n h' F', sem us h = .exc (cc C) n h' ∧ Ev cc h' F' env e fp ∧ Fr h F (fa ++ fp) h' F' fp ∧ Xd cc h' F' n x ∧ Keep fp h h' ∧ Stab h F h' F'
    | .bad => True := by
  have o := ok h F us ts fa r sr.left
  have sr' : SR h F (fp ++ fa) := sr.perm List.perm_append_comm
  cases q1 : ps ts with
  | bad => trivial
  | exc C x =>
    rw [q1] at o
    obtain ⟨n, h', F', a1, a2, a3⟩ := o
    have k := a2.kept sr'
    have st := a2.stab sr.left
    refine ⟨n, h', F', a1, (by assumption : Ev cc h F env e fp).mono st k, ?_, a3, k, st⟩
    have := (a2.hold sr').permL List.perm_append_comm
    simpa using this
  | ok t ws =>
    rw [q1] at o
    obtain ⟨u, h', F', f1, f2, a1, a2, a3, a4⟩ := o
    have k := a4.kept sr'
    have st := a4.stab sr.left
    refine ⟨u, h', F', f1, f2, a1, a2, a3, x.mono st k, ?_, k, st, fun z => ?_⟩
    · have := (a4.hold sr').permL List.perm_append_comm
      refine this.perm ?_
      rw [← List.append_assoc f1]
      exact List.perm_append_comm
    · subst z
      exact fun n l => a4.eq n l (by simp)
theorem sim_call {mask : List Bool} {n : Nat} {sem : Sem'} {ps : PSem} (ok : SimF cc mask sem ps) {am : AM} {pa : PDs} (a : Sim cc q (RDs cc) am pa) : Sim cc q (RT cc) (Q.mCall n sem am) (pCall n ps pa) := fun h F env e fp x sr =>
  Out.bind0 sr (a h F env e fp x sr) (fun us ds h1 F1 e1 f2 r1 x1 sr1 st sm => by
    by_cases z : ds.length = n
    case neg => rw [if_neg z]; trivial
    rw [if_pos z, if_pos (by rw [r1.2.len]; exact z)]
    have o := call_out ok (fa := []) x1 sr1 r1.2.ows
    cases q1 : ps (ds.map .leaf) with
    | bad => trivial
    | exc C y =>
      rw [q1] at o
      obtain ⟨n, h', F', a1, a2, a3, a4, _⟩ := o
      exact ⟨n, h', F', f2, a1, a2, a3, a4⟩
    | ok t ws =>
      rw [q1] at o
      obtain ⟨u, h', F', f3, f4, a1, a2, a3, a4, a5, _, _, a6⟩ := o
      exact ⟨u, h', F', f3, f2, a1, a2, a4, a5.sub ((List.sublist_append_right f4 f2).append_left f3), fun _ => a6 rfl⟩) rds_nil
/-! an argument that is a slot -/
def RAV (cc : Nat → Nat) (v : U) (k : Nat) (h : Sto) (F : Nat → Prop) (us : List U) (ds : List D) (f : List Nat) : Prop := f = [] ∧ ∃ us1 us2 ds1 ds2, us = us1 ++ v :: us2 ∧ us1.length = k ∧ ds = ds1 ++ ds2 ∧ Dns cc h F us1 ds1 ∧ Dns cc h F us2 ds2
def SimAV (cc : Nat → Nat) (q : Bool) (i k : Nat) (am : AM) (pa : PDs) : Prop := ∀ h F env e fp v, Ev cc h F env e fp → SR h F fp → env[i]? = some (some v) → Out cc q (RAV cc v k) h F fp env (am env h) (pa e)
theorem rav_nil {v : U} {k : Nat} : ∀ (a : List U) (b : List D) (h : Sto) (F : Nat → Prop) (f : List Nat), RAV cc v k h F a b f → f = [] := fun _ _ _ _ _ x => x.1
theorem av_0 {i : Nat} {am : AM} {pa : PDs} (a : Sim cc q (RDs cc) am pa) : SimAV cc q i 0 (Q.aCons (Q.mVar i) am) pa := fun h F env e fp v x sr hv => by
  have : Q.aCons (Q.mVar i) am env h = (am env h).bind fun us h2 => .ok (v :: us) h2 := by
    show (Q.mVar i env h).bind _ = _
    rw [Q.e_var, hv]; rfl
  rw [this]
  have p : pa e = (pa e).bind fun ds e2 => .ok ds e2 := by cases pa e <;> rfl
  rw [p]
  exact Out.bind0 sr (a h F env e fp x sr) (fun us ds h1 F1 e1 f2 r1 x1 sr1 st sm => Out.ret0 ⟨rfl, [], us, [], ds, rfl, rfl, rfl, .nil, r1.2⟩ x1 sr1) rds_nil
theorem pick_mid {α : Type} : ∀ {us1 us2 : List α} {v : α}, pick (List.replicate us1.length false ++ [true]) (us1 ++ v :: us2) = [v]
  | [], us2, v => by simp [pick]
  | x :: us1, us2, v => by
    show pick (false :: (List.replicate us1.length false ++ [true])) (x :: (us1 ++ v :: us2)) = [v]
    simp only [pick]
    exact pick_mid
theorem insT_eq {ds1 ds2 : List D} {s : T} : insT ds1.length s (ds1 ++ ds2) = ds1.map .leaf ++ s :: ds2.map .leaf := by
  unfold insT
  rw [List.take_left' rfl, List.drop_left' rfl]
theorem rav_ows {us1 us2 : List U} {ds1 ds2 : List D} {s : T} {fs : List Nat} (y1 : Dns cc h F us1 ds1) (y2 : Dns cc h F us2 ds2) (w : Ow cc h F v s fs) : Ows cc h F (us1 ++ v :: us2) (ds1.map .leaf ++ s :: ds2.map .leaf) fs := by
  have b := Ows.app (y1.ows) (Ows.cons w y2.ows)
  simpa using b
theorem slot_val {i : Nat} {t : T} (x : Ev cc h F env e fp) (q1 : e[i]? = some t) (nh : t ≠ .hole) : ∃ v, env[i]? = some (some v) := by
  obtain ⟨o, f1, f2, a1, a2, _⟩ := x.at q1
  cases o with
  | none => exact absurd a2.1 nh
  | some v => exact ⟨v, a1⟩
theorem sim_callV {n k i : Nat} {sem : Sem'} {ps : PSem} (ok : SimF cc (List.replicate k false ++ [true]) sem ps) {am : AM} {pa : PDs} (a : SimAV cc q i k am pa) : Sim cc false (RT cc) (Q.mCall n sem am) (pCallV n k i ps pa) := fun h F env e fp x sr => by
  unfold pCallV
  split
  · trivial
  · trivial
  rename_i s0 nh0 q0
  obtain ⟨v, hv⟩ := slot_val x q0 nh0
  have aa : Out cc false (RAV cc v k) h F fp env (am env h) (pa e) := by
    have := a h F env e fp v x sr hv
    cases e1 : pa e with
    | bad => trivial
    | exc C y e' => rw [e1] at this; exact this
    | ok b e' => rw [e1] at this; obtain ⟨a, h', F', f1, f2, a1, a2, a3, a4, a5⟩ := this; exact ⟨a, h', F', f1, f2, a1, a2, a3, a4, fun z => by cases z⟩
  refine Out.bind0 sr aa (fun us ds h1 F1 e1 f2 r1 x1 sr1 st sm => ?_) rav_nil
  obtain ⟨_, us1, us2, ds1, ds2, rfl, rfl, rfl, y1, y2⟩ := r1
  cases q1 : e1[i]? with
  | none => trivial
  | some s =>
    simp only
    by_cases z : (ds1 ++ ds2).length + 1 = n ∧ us1.length ≤ (ds1 ++ ds2).length
    case neg => rw [if_neg z]; trivial
    rw [if_pos z, if_pos (by have := y1.len; have := y2.len; simp at z ⊢; omega)]
    obtain ⟨o, g1, g2, c1, c2, c3, c4⟩ := x1.at q1
    rw [hv] at c1; cases c1
    have sr2 := sr1.perm c3
    have rr := rav_ows y1 y2 c2
    have ts : insT us1.length s (ds1 ++ ds2) = ds1.map .leaf ++ s :: ds2.map .leaf := by rw [y1.len]; exact insT_eq
    rw [ts]
    have o := ok h1 F1 _ _ g1 rr sr2.left
    have sr3 : SR h1 F1 (g2 ++ g1) := sr2.perm List.perm_append_comm
    cases q2 : ps (ds1.map .leaf ++ s :: ds2.map .leaf) with
    | bad => trivial
    | exc C y =>
      rw [q2] at o
      obtain ⟨m, h', F', b1, b2, b3⟩ := o
      obtain ⟨fp', d1, d2⟩ := c4 h' F' (some v) .hole [] (b2.stab sr2.left) (b2.kept sr3) (.hole v)
      rw [list_set_same hv] at d1
      refine ⟨m, h', F', fp', b1, d1, ?_, b3⟩
      exact ((b2.hold sr3).permL (List.perm_append_comm.trans c3.symm)).perm (by simpa using d2.symm)
    | ok t ws =>
      rw [q2] at o
      obtain ⟨u, h', F', f3, f4, b1, b2, b3, b4⟩ := o
      rw [pick_mid] at b3
      cases ws with
      | nil => trivial
      | cons w ws =>
        cases ws with
        | cons _ _ => trivial
        | nil =>
          cases b3 with
          | @cons _ _ _ _ fw _ b3 b5 =>
            cases b5
            obtain ⟨fp', d1, d2⟩ := c4 h' F' (some v) w fw (b4.stab sr2.left) (b4.kept sr3) b3
            rw [list_set_same hv] at d1
            refine ⟨u, h', F', f3, fp', b1, b2, d1, ?_, fun z => by cases z⟩
            refine ((b4.hold sr3).permL (List.perm_append_comm.trans c3.symm)).perm ?_
            have : (g2 ++ (f3 ++ (fw ++ []))).Perm (f3 ++ (fw ++ g2)) := by
              rw [List.append_nil]
              exact perm_mid.trans (List.perm_append_comm.append_left f3)
            exact this.trans (d2.symm.append_left f3)
/-! methods -/
/-! ### defs -/
theorem evs_of : ∀ {us : List U} {ts : List T} {fp : List Nat} (k : Nat), Ows cc h F us ts fp → Ev cc h F (us.map some ++ List.replicate k none) (ts ++ List.replicate k .hole) fp
  | _, _, _, 0, .nil => .nil
  | _, _, _, k + 1, .nil => by
    have r : Ev cc h F (([] : List U).map some ++ List.replicate k none) (([] : List T) ++ List.replicate k .hole) [] := evs_of k .nil
    exact Ev.cons (o := none) (t := .hole) (f1 := []) (f2 := []) ⟨rfl, rfl⟩ r
  | _, _, _, k, .cons (f1 := f1) (f2 := f2) x r => .cons (o := some _) x (evs_of k r)
/-- what the mask keeps -/
theorem ev_pick : ∀ {m : List Bool} {env : Env'} {e : Env} {fp : List Nat} {us : List U}, Ev cc h F env e fp → pick m env = (pick m us).map some → ∃ f, Ows cc h F (pick m us) (pick m e) f ∧ f.Sublist fp
  | [], env, e, fp, us, x, k => by
    have e1 : pick ([] : List Bool) us = [] := by simp [pick]
    have e2 : pick ([] : List Bool) e = [] := by simp [pick]
    rw [e1, e2]
    exact ⟨[], .nil, List.nil_sublist _⟩
  | b :: m, _, _, _, us, .nil, k => by
    have e2 : pick (b :: m) ([] : Env) = [] := by cases b <;> simp [pick]
    have e3 : pick (b :: m) ([] : Env') = [] := by cases b <;> simp [pick]
    rw [e3] at k
    have e1 : pick (b :: m) us = [] := List.map_eq_nil_iff.mp k.symm
    rw [e1, e2]
    exact ⟨[], .nil, List.nil_sublist _⟩
  | false :: m, _, _, _, us, .cons (env := env0) (f1 := f1) (f2 := f2) x r, k => by
    cases us with
    | nil =>
      have e1 : pick (false :: m) ([] : List U) = [] := by simp [pick]
      rw [e1] at k ⊢
      simp only [pick] at k ⊢
      have k2 : pick m env0 = (pick m ([] : List U)).map some := by
        have : pick m ([] : List U) = [] := by cases m with
          | nil => simp [pick]
          | cons b m => cases b <;> simp [pick]
        rw [this]; exact k
      obtain ⟨f, a, b⟩ := ev_pick r k2
      have : pick m ([] : List U) = [] := by cases m with
        | nil => simp [pick]
        | cons b m => cases b <;> simp [pick]
      rw [this] at a
      exact ⟨f, a, b.trans (List.sublist_append_right _ _)⟩
    | cons u us =>
      simp only [pick] at k ⊢
      obtain ⟨f, a, b⟩ := ev_pick r k
      exact ⟨f, a, b.trans (List.sublist_append_right _ _)⟩
  | true :: m, _, _, _, us, .cons (o := o) (t := t) (f1 := f1) (f2 := f2) x r, k => by
    cases us with
    | nil => simp [pick] at k
    | cons u us =>
      simp only [pick, List.map_cons, List.cons.injEq] at k ⊢
      obtain ⟨rfl, k⟩ := k
      obtain ⟨f, a, b⟩ := ev_pick r k
      exact ⟨f1 ++ f, .cons x a, b.append_left f1⟩
theorem pick_map : ∀ {m : List Bool} {us : List U} {k : Nat}, m.length ≤ us.length → pick m (us.map some ++ List.replicate k none) = (pick m us).map some
  | [], us, k, _ => by simp [pick]
  | b :: m, [], k, l => by simp at l
  | true :: m, u :: us, k, l => by
    have := pick_map (m := m) (us := us) (k := k) (by simpa using l)
    simp [pick, this]
  | false :: m, u :: us, k, l => by
    have := pick_map (m := m) (us := us) (k := k) (by simpa using l)
    simp [pick, this]
theorem simF_fn {n : Nat} {mask : List Bool} {mb : SM} {pb : PS} (a : SimS cc mask mb pb) : SimF cc mask (Q.fnM n mb) (pFn n mask pb) := fun h F us ts fp r sr => by
  by_cases hl : mask.length ≤ us.length
  · have x := evs_of (n - us.length) r
    rw [r.len] at x
    have o := a h F _ _ fp x sr
    rw [← r.len] at o
    have kp : ∀ {env' : Env'}, Kp mask (us.map some ++ List.replicate (n - us.length) none) env' → pick mask env' = (pick mask us).map some := fun k => k.trans (pick_map hl)
    unfold pFn Q.fnM
    rw [if_pos (by rw [← r.len]; exact hl)]
    rw [r.len] at o ⊢
    cases q1 : pb (ts ++ List.replicate (n - ts.length) .hole) with
    | bad => trivial
    | bk e1 => trivial
    | ct e1 => trivial
    | nx e1 =>
      rw [q1] at o
      obtain ⟨env', h', F', f2, a1, a2, a3, a4⟩ := o
      rw [← r.len] at a4
      obtain ⟨f, b1, b2⟩ := ev_pick a2 (kp a4)
      exact ⟨.non, h', F', [], f, by rw [a1], .leaf .non, b1, a3.sub b2⟩
    | rt t e1 =>
      rw [q1] at o
      obtain ⟨u, env', h', F', f1, f2, a1, a2, a3, a4, a5⟩ := o
      rw [← r.len] at a5
      obtain ⟨f, b1, b2⟩ := ev_pick a3 (kp a5)
      exact ⟨u, h', F', f1, f, by rw [a1], a2, b1, a4.sub (b2.append_left f1)⟩
    | ex C y e1 =>
      rw [q1] at o
      obtain ⟨m, env', h', F', f2, a1, a2, a3, a4, a5⟩ := o
      exact ⟨m, h', F', by rw [a1], a3.sub (List.nil_sublist _), a4⟩
  · unfold pFn
    rw [if_neg (by rw [← r.len]; exact hl)]
    trivial
theorem simF_bad {mask : List Bool} {sem : Sem'} : SimF cc mask sem (fun _ => .bad) := fun _ _ _ _ _ _ _ => trivial
/-! ### the end -/
theorem sem_true {sem : Sem'} {ps : PSem} (ok : SimF cc [] sem ps) (ht : ∀ ns : List Int, ns.length ≤ 63 → ∃ ws, ps [.leaf (.kl (ns.map .int))] = .ok (.leaf (.bl true)) ws) : Q.semTrue sem := fun ns hl => by
  obtain ⟨ws, e⟩ := ht ns hl
  have dn : Dns cc [] (fun _ => False) (ns.map U.int) (ns.map D.int) := by
    have : ∀ l : List Int, Dns cc [] (fun _ => False) (l.map U.int) (l.map D.int) := fun l => by
      induction l with
      | nil => exact .nil
      | cons x r ih => exact .cons (.int _) ih
    exact this ns
  have o := ok [] (fun _ => False) [.kl (ns.map U.int)] [.leaf (.kl (ns.map .int))] [] (.cons (f1 := []) (f2 := []) (.leaf (.kl dn)) .nil) ⟨List.nodup_nil, (fun _ m => nomatch m), (fun _ m => nomatch m), (fun _ m => m.elim)⟩
  rw [e] at o
  obtain ⟨u, h', F', f1, f2, a1, a2, _⟩ := o
  cases a2 with
  | leaf a2 =>
    cases a2
    exact ⟨h', a1⟩
end
end P

set_option Elab.async false
set_option linter.all false
set_option maxRecDepth 100000
set_option maxHeartbeats 1000000
/-! PS13: things that are only looked at during a call. -/
namespace P
open Q (U O Sto Env' R RS EM TM AM SM Sem')
section
variable {cc : Nat → Nat} {h h' h1 h2 : Sto} {F F' F1 F2 : Nat → Prop} {u v : U} {d : D} {us : List U} {ds : List D} {t : T} {ts : List T} {f f1 f2 fp fp' fp1 fp2 : List Nat} {env env' : Env'} {e e' : Env} {i : Nat} {q s s1 s2 : Bool}
  {α β γ δ : Type} {mk : List Bool}
theorem sim_yes : Sim cc q RE Q.bYes tYes := fun h F env e fp x sr => Out.ret0 ⟨rfl, rfl⟩ x sr
end
end P


set_option Elab.async false
set_option linter.all false
set_option maxRecDepth 100000
set_option maxHeartbeats 1000000
/-! PSD: dicts. -/
namespace P
open Q (U O Sto Env' R RS EM TM AM SM Sem')
section
variable {cc : Nat → Nat} {h h' h1 h2 : Sto} {F F' F1 F2 : Nat → Prop} {u : U} {d : D} {t : T} {ts : List T} {f f1 f2 fp fp' fp1 fp2 : List Nat} {env env' : Env'} {e e' : Env} {q s s1 s2 : Bool} {mk : List Bool}
end
end P

set_option Elab.async false
set_option linter.all false
set_option maxRecDepth 100000
set_option maxHeartbeats 1000000
/-! PSE: more built-ins on lists. -/
namespace P
open Q (U O Sto Env' R RS EM TM AM SM Sem')
section
variable {cc : Nat → Nat} {h h' h1 h2 : Sto} {F F' F1 F2 : Nat → Prop} {u : U} {d : D} {us : List U} {ds : List D} {t : T} {ts : List T} {f f1 f2 fp fp' fp1 fp2 : List Nat} {env env' : Env'} {e e' : Env} {i : Nat} {q s s1 s2 : Bool}
/-- what leaves all as it was may stand anywhere -/
theorem Sim.qu {α β : Type} {Rel : Sto → (Nat → Prop) → α → β → List Nat → Prop} {m : Env' → Sto → R α} {p : Env → PR β} (a : Sim cc true Rel m p) : Sim cc q Rel m p := fun h F env e fp x sr => by
  have := a h F env e fp x sr
  unfold Out at this ⊢
  cases q1 : p e with
  | ok b e' => rw [q1] at this; obtain ⟨a, h', F', f1, f2, r1, r2, r3, r4, r5⟩ := this; exact ⟨a, h', F', f1, f2, r1, r2, r3, r4, fun _ => r5 rfl⟩
  | exc C z e' => rw [q1] at this; exact this
  | bad => trivial
end
end P

set_option Elab.async false
set_option linter.all false
set_option maxRecDepth 100000
set_option maxHeartbeats 1000000
/-! PST: texts, places, chains, except X as e. -/
namespace P
open Q (U O Sto Env' R RS EM TM AM SM Sem')
section
variable {cc : Nat → Nat} {h h' h1 h2 : Sto} {F F' F1 F2 : Nat → Prop} {u : U} {d : D} {us : List U} {ds : List D} {t : T} {ts : List T} {f f1 f2 fp fp' fp1 fp2 : List Nat} {env env' : Env'} {e e' : Env} {i : Nat} {q s s1 s2 : Bool} {mk : List Bool}
theorem op_mulS : OpB cc Q.uMulS gMulS (RD cc) := by
  intro q h F fp env e u1 d1 u2 d2 x sr t1 t2
  unfold gMulS
  split
  · rename_i s k
    cases t1; cases t2
    show Out cc q (RD cc) h F fp env (if s.length * k.toNat ≤ 16000000 ∧ k.natAbs ≤ 1000000000 then R.ok (.str (List.replicate k.toNat s).flatten) h else .bad) _
    by_cases z : s.length * k.toNat ≤ 16000000 ∧ k.natAbs ≤ 1000000000
    · rw [if_pos z, if_pos z]; exact Out.ret0 ⟨rfl, .str _⟩ x sr
    · rw [if_neg z, if_neg z]; trivial
  · trivial
theorem cmp_inS : CmpD cc Q.cInS P.cInS := fun h F u1 d1 u2 d2 b t1 t2 e => by
  unfold P.cInS at e
  split at e
  · cases t1; cases t2; exact e
  · cases e
theorem dns_strs : ∀ ss : List (List Nat), Dns cc h F (ss.map U.str) (ss.map D.str)
  | [] => .nil
  | s :: r => .cons (.str s) (dns_strs r)
/-! except X as e -/
theorem Ev.clr (x : Ev cc h F env e fp) (i : Nat) : ∃ fp', Ev cc h F (env.set i none) (e.set i .hole) fp' ∧ ∃ g, fp.Perm (g ++ fp') := by
  obtain ⟨fp', b, g, f1, f2, q1, q2, q3⟩ := x.put i none (t := .hole) (f := []) ⟨rfl, rfl⟩
  have : g = [] := List.sublist_nil.mp q3
  subst this
  exact ⟨fp', b, f1, q1.trans (List.Perm.append_left f1 q2.symm)⟩
theorem Kp.clr {env2 : Env'} {i : Nat} (z : (!mk.getD i false) = true) (k : Kp mk env env2) : Kp mk env (env2.set i none) := by
  refine Eq.trans (kp_off (by simp) fun j hj => ?_) k
  have : i ≠ j := fun e => by subst e; rw [hj] at z; cases z
  rw [List.getElem?_set_ne this]
theorem OutS.cl {r : RS} {s : PRS} (z : (!mk.getD i false) = true) (o : OutS cc mk h F fp env r s) : OutS cc mk h F fp env (r.cl i) (s.cl i) := by
  cases s with
  | nx e' =>
    obtain ⟨env2, h', F', f2, a, b, c, d⟩ := o
    rw [a]
    obtain ⟨fp', b', g, p⟩ := b.clr i
    exact ⟨_, h', F', fp', rfl, b', (c.perm p).sub (List.sublist_append_right g fp'), d.clr z⟩
  | bk e' =>
    obtain ⟨env2, h', F', f2, a, b, c, d⟩ := o
    rw [a]
    obtain ⟨fp', b', g, p⟩ := b.clr i
    exact ⟨_, h', F', fp', rfl, b', (c.perm p).sub (List.sublist_append_right g fp'), d.clr z⟩
  | ct e' =>
    obtain ⟨env2, h', F', f2, a, b, c, d⟩ := o
    rw [a]
    obtain ⟨fp', b', g, p⟩ := b.clr i
    exact ⟨_, h', F', fp', rfl, b', (c.perm p).sub (List.sublist_append_right g fp'), d.clr z⟩
  | rt t e' =>
    obtain ⟨u, env2, h', F', f1, f2, a, b0, b, c, d⟩ := o
    rw [a]
    obtain ⟨fp', b', g, p⟩ := b.clr i
    have pp : (f1 ++ f2).Perm (g ++ (f1 ++ fp')) := (List.Perm.append_left f1 p).trans (List.perm_append_comm_assoc f1 g fp')
    exact ⟨u, _, h', F', f1, fp', rfl, b0, b', (c.perm pp).sub (List.sublist_append_right g (f1 ++ fp')), d.clr z⟩
  | ex C x e' => trivial
  | bad => trivial
end
end P

set_option Elab.async false
set_option linter.all false
set_option maxRecDepth 100000
set_option maxHeartbeats 1000000
/-! PSR: str(number), pop, insert, [::-1], range downwards. -/
namespace P
open Q (U O Sto Env' R RS EM TM AM SM Sem')
section
variable {cc : Nat → Nat} {h h' h1 h2 : Sto} {F F' F1 F2 : Nat → Prop} {u : U} {d : D} {us : List U} {ds : List D} {t : T} {ts : List T} {f f1 f2 fp fp' fp1 fp2 : List Nat} {env env' : Env'} {e e' : Env} {i : Nat} {q s s1 s2 : Bool} {mk : List Bool}
theorem op_str : OpL cc s Q.uStr gStr (RD cc) := by
  intro q h F fp env e us ds x sr r
  unfold gStr
  split
  · rename_i k
    obtain ⟨u, rfl, t⟩ := ra_one r; cases t
    show Out cc q (RD cc) h F fp env (if k.natAbs.log2 < 1920 then R.ok (.str (Q.sInt k)) h else .bad) _
    by_cases z : k.natAbs.log2 < 1920
    · rw [if_pos z, if_pos z]; exact Out.ret0 ⟨rfl, .str _⟩ x sr
    · rw [if_neg z, if_neg z]; trivial
  · trivial
theorem Dns.dropLast {us : List U} {ds : List D} (r : Dns cc h F us ds) : Dns cc h F us.dropLast ds.dropLast := by
  rw [List.dropLast_eq_take, List.dropLast_eq_take, r.len]
  exact r.take _
end
end P

set_option Elab.async false
set_option linter.all false
set_option maxRecDepth 100000
set_option maxHeartbeats 1000000
/-! PSX: comprehensions whose items may raise. -/
namespace P
open Q (U O Sto Env' R RS EM TM AM SM Sem')
section
variable {cc : Nat → Nat} {h h' h1 h2 : Sto} {F F' F1 F2 : Nat → Prop} {u : U} {d : D} {us : List U} {ds : List D} {t : T} {ts : List T} {f f1 f2 fp fp' fp1 fp2 : List Nat} {env env' : Env'} {e e' : Env} {i : Nat} {q s s1 s2 : Bool} {mk : List Bool}
end
end P

set_option Elab.async false
set_option linter.all false
/-! PDefB: sorted texts, keys, locked dicts, things that are lent by a path, that are handed over. -/
namespace P
def ltL : List Nat → List Nat → Bool
  | [], [] => false
  | [], _ :: _ => true
  | _ :: _, [] => false
  | a :: r, b :: t => a < b || (a == b && ltL r t)
def insS (x : List Nat) : List (List Nat) → List (List Nat)
  | [] => [x]
  | y :: r => if ltL y x = true then y :: insS x r else x :: y :: r
def sortS (ss : List (List Nat)) : List (List Nat) := ss.foldr insS []
def strsD : List D → Option (List (List Nat))
  | [] => some []
  | .str s :: r => (strsD r).map (s :: ·)
  | _ :: _ => none
def keysS : List (DK × D) → Option (List (List Nat))
  | [] => some []
  | (.inr s, _) :: r => (keysS r).map (s :: ·)
  | _ :: _ => none
def srtS (o : Option (List (List Nat))) : Option T := match o with
  | some ss => if ss.length < 64 then some (.ls ((sortS ss).map .str)) else none
  | none => none
def gSortS : List D → Option T
  | [.lst ds] => srtS (strsD ds)
  | [.kl ds] => srtS (strsD ds)
  | _ => none
def gSortD : List D → Option T
  | [.dK kvs] => srtS (keysS kvs)
  | [.dKl kvs] => srtS (keysS kvs)
  | _ => none
def gListD : List D → Option T
  | [.dK kvs] => some (.ls (kvs.map fun p => dkD p.1))
  | [.dKl kvs] => some (.ls (kvs.map fun p => dkD p.1))
  | _ => none
/-- a dict becomes data that nobody changes any more, so that it may be walked -/
def pLk (a : PT) : PE := fun e => (a e).bind fun t e1 => match t with
  | .dK kvs => .ok (.dKl kvs) e1
  | .leaf (.dKl kvs) => .ok (.dKl kvs) e1
  | _ => .bad
/-- a call whose first argument stands at a path and is only looked at -/
def pCallBP (n : Nat) (sem : PSem) (p : Pth) (am : PDs) : PT := fun e => (p.ev e).bind fun r e1 => (am e1).bind fun ds e2 => match getP p.root r e2 with
  | some t => (match t.fz with
    | some d => (if ds.length + 1 = n then (match sem (.leaf d :: ds.map .leaf) with
      | .ok t _ => if t.flat = true then .ok t e2 else .bad
      | .exc C none => .exc C none e2
      | _ => .bad) else .bad)
    | none => .bad)
  | none => .bad
/-- a call to which things are handed over -/
def pCallO (n : Nat) (sem : PSem) (am : PTs) : PT := fun e => (am e).bind fun ts e1 => if ts.length = n then callR (sem ts) e1 else .bad
/-- one of the things in a list that is nobody's -/
def pIxT (a : PT) (b : PE) : PT := fun e => (a e).bind fun t e1 => (b e1).bind fun x e2 => match t, x with
  | .lT ts, .int i => oE (atI ts i) e2
  | _, _ => .bad
/-- what stands at a path is taken away -/
def pMvP (p : Pth) : PT := fun e => (p.ev e).bind fun r e1 => match getP p.root r e1 with
  | some .hole => .bad
  | some (.leaf d) => .ok (.leaf d) e1
  | some t => .ok t (setP p.root r .hole e1)
  | none => .bad
end P

set_option Elab.async false
set_option linter.all false
set_option maxRecDepth 100000
set_option maxHeartbeats 1000000
/-! PSY: sorted texts, keys, locked dicts, things that are lent by a path, that are handed over. -/
namespace P
open Q (U O Sto Env' R RS EM TM AM SM Sem')
section
variable {cc : Nat → Nat} {h h' h1 h2 : Sto} {F F' F1 F2 : Nat → Prop} {u v : U} {d : D} {us : List U} {ds : List D} {t : T} {ts : List T} {f f1 f2 fp fp' fp1 fp2 : List Nat} {env env' : Env'} {e e' : Env} {i : Nat} {q s s1 s2 : Bool} {mk : List Bool}
end
end P

set_option Elab.async false
set_option linter.all false
/-! PDefC: setdefault, *e in a display. -/
namespace P
/-- a change of the dict at a path -/
def pUpdD (p : Pth) (a : PDs) (g : T → List D → Option (D × T)) : PE := fun e => (p.ev e).bind fun r e1 => match getP p.root r e1 with
  | some (.dK _) => (a e1).bind fun ds e2 => (match getP p.root r e2 with
    | some t => (match g t ds with
      | some (d, s) => .ok d (setP p.root r s e2)
      | none => .bad)
    | none => .bad)
  | _ => .bad
def uSd : T → List D → Option (D × T)
  | .dK kvs, [x, d] => (match keyOf x with
    | some k => (match valK kvs k with
      | some y => some (y, .dK kvs)
      | none => if kvs.length < 16000000 then some (d, .dK (putK kvs k d)) else none)
    | none => none)
  | _, _ => none
def sqS : D → Option (List D)
  | .kl us => some us
  | .lst us => some us
  | .tup us => some us
  | _ => none
def dStar (a : PE) (b : PDs) : PDs := fun e => (a e).bind fun x e1 => match sqS x with
  | some us => (b e1).bind fun ys e2 => .ok (us ++ ys) e2
  | none => .bad
end P

set_option Elab.async false
set_option linter.all false
set_option maxRecDepth 100000
set_option maxHeartbeats 1000000
/-! PSU: setdefault, *e in a display. -/
namespace P
open Q (U O Sto Env' R RS EM TM AM SM Sem')
section
variable {cc : Nat → Nat} {h h' h1 h2 : Sto} {F F' F1 F2 : Nat → Prop} {u : U} {d : D} {us : List U} {ds : List D} {t : T} {ts : List T} {f f1 f2 fp fp' fp1 fp2 : List Nat} {env env' : Env'} {e e' : Env} {i : Nat} {q s s1 s2 : Bool} {mk : List Bool}
end
end P

set_option Elab.async false
set_option linter.all false
/-! PDefD: get of a dict, a list times a number. -/
namespace P
def gG (kvs : List (DK × D)) : List D → Option D
  | [y] => (keyOf y).map fun k => (valK kvs k).getD .non
  | [y, z] => (keyOf y).map fun k => (valK kvs k).getD z
  | _ => none
def pGet (a : PE) (b : PDs) : PE := fun e => (a e).bind fun x e1 => match x with
  | .dK kvs => (b e1).bind fun ds e2 => oE (gG kvs ds) e2
  | .dKl kvs => (b e1).bind fun ds e2 => oE (gG kvs ds) e2
  | _ => .bad
def tMulL : D → D → Option T
  | .lst us, .int k => if us.length * k.toNat ≤ 16000000 ∧ k.natAbs ≤ 1000000000 then some (.ls (List.replicate k.toNat us).flatten) else none
  | _, _ => none
def pMulL (a b : PE) : PT := fun e => (a e).bind fun x e1 => (b e1).bind fun y e2 => oE (tMulL x y) e2
end P

set_option Elab.async false
set_option linter.all false
set_option maxRecDepth 100000
set_option maxHeartbeats 1000000
/-! PSV: get of a dict, a list times a number. -/
namespace P
open Q (U O Sto Env' R RS EM TM AM SM Sem')
section
variable {cc : Nat → Nat} {h h' h1 h2 : Sto} {F F' F1 F2 : Nat → Prop} {u : U} {d : D} {us : List U} {ds : List D} {t : T} {ts : List T} {f f1 f2 fp fp' fp1 fp2 : List Nat} {env env' : Env'} {e e' : Env} {i : Nat} {q s s1 s2 : Bool} {mk : List Bool}
end
end P

set_option Elab.async false
set_option linter.all false
/-! PDefE: comprehensions of two clauses. -/
namespace P
def lcL2 (c : CT) (t : PB) (it1 : PDs) (c1 : CT) (t1 : PB) (a : PE) (vs vs1 : List Nat) : List D → List D → Env → PR (List D)
  | [], acc, e => .ok acc e
  | d :: ds, acc, e => match c.asg d (kill vs e) with
    | some e1 => (t e1).no.bind fun b e2 => if b = true then (it1 e2).no.bind fun ds1 e3 => (lcL c1 t1 a vs1 ds1 acc e3).bind fun acc e4 => lcL2 c t it1 c1 t1 a vs vs1 ds acc (kill vs1 e4)
        else lcL2 c t it1 c1 t1 a vs vs1 ds acc e2
    | none => .bad
def pLc2 (it : PDs) (c : CT) (t : PB) (it1 : PDs) (c1 : CT) (t1 : PB) (a : PE) (vs vs1 : List Nat) : PT := fun e => (it e).bind fun ds e1 => (lcL2 c t it1 c1 t1 a vs vs1 ds [] e1).bind fun r e2 => .ok (.ls r) (kill vs e2)
end P

set_option Elab.async false
set_option linter.all false
set_option maxRecDepth 100000
set_option maxHeartbeats 1000000
/-! PSW: comprehensions of two clauses. -/
namespace P
open Q (U O Sto Env' R RS EM TM AM SM Sem')
section
variable {cc : Nat → Nat} {h h' h1 h2 : Sto} {F F' F1 F2 : Nat → Prop} {u : U} {d : D} {us : List U} {ds : List D} {t : T} {ts : List T} {f f1 f2 fp fp' fp1 fp2 : List Nat} {env env' : Env'} {e e' : Env} {i : Nat} {q s s1 s2 : Bool} {mk : List Bool}
end
end P

set_option Elab.async false
set_option linter.all false
/-! PDefF: dict comprehensions of one clause; isupper; a change of a list that nobody owns. -/
namespace P
def dcL (c : CT) (t : PB) (pk pv : PE) (vs : List Nat) : List D → List (DK × D) → Env → PR (List (DK × D))
  | [], acc, e => .ok acc e
  | d :: ds, acc, e => match c.asg d (kill vs e) with
    | some e1 => (t e1).no.bind fun b e2 => if b = true then (pk e2).no.bind fun y e3 => (pv e3).no.bind fun z e4 => (match keyOf y with
        | some k => if acc.length < 16000000 then dcL c t pk pv vs ds (putK acc k z) e4 else .bad
        | none => .bad) else dcL c t pk pv vs ds acc e2
    | none => .bad
def pDc (it : PDs) (c : CT) (t : PB) (pk pv : PE) (vs : List Nat) : PT := fun e => (it e).bind fun ds e1 => (dcL c t pk pv vs ds [] e1).bind fun r e2 => .ok (.dK r) (kill vs e2)
def gUp : List Nat → Option D
  | [] => some (.bl false)
  | [c] => if c < 128 then some (.bl (decide (65 ≤ c) && decide (c ≤ 90))) else none
  | _ => none
def pSM0 (g : List Nat → Option D) (a : PE) : PE := fun e => (a e).bind fun x e1 => match x with
  | .str s => oE (g s) e1
  | _ => .bad
/-- a change of a list that the expression makes, and that nobody keeps -/
def pUpdT (o : PT) (a : PDs) (g : T → List D → Option (D × T)) : PE := fun e => (o e).bind fun t e1 => match t with
  | .ls xs => (a e1).bind fun ds e2 => (match g (.ls xs) ds with
    | some (d, _) => .ok d e2
    | none => .bad)
  | _ => .bad
/-- a dict that a slot owns is locked where it stands, and stays there as data -/
def pLkV (i : Nat) : PE := fun e => match e[i]? with
  | some (.dK kvs) => .ok (.dKl kvs) (e.set i (.leaf (.dKl kvs)))
  | some (.leaf (.dKl kvs)) => .ok (.dKl kvs) e
  | _ => .bad
end P

set_option Elab.async false
set_option linter.all false
set_option maxRecDepth 100000
set_option maxHeartbeats 1000000
/-! PSF: dict comprehensions of one clause. -/
namespace P
open Q (U O Sto Env' R RS EM TM AM SM Sem')
section
variable {cc : Nat → Nat} {h h' h1 h2 : Sto} {F F' F1 F2 : Nat → Prop} {u : U} {d : D} {us : List U} {ds : List D} {t : T} {ts : List T} {f f1 f2 fp fp' fp1 fp2 : List Nat} {env env' : Env'} {e e' : Env} {i : Nat} {q s s1 s2 : Bool} {mk : List Bool}
end
end P

set_option Elab.async false
set_option linter.all false
/-! PDefG: great numbers, a tuple times a number, str of a truth, lower, split, replace, what is never reached. -/
namespace P
def cMulW (i j : Int) : Prop := i.natAbs.log2 + j.natAbs.log2 < 1000000
instance : ∀ i j, Decidable (cMulW i j) := fun i j => by unfold cMulW; exact inferInstance
def cDivW (j : Int) : Prop := 0 < j ∧ j.natAbs.log2 < 9000
instance : ∀ j, Decidable (cDivW j) := fun j => by unfold cDivW; exact inferInstance
def gMulW : D → D → Option D
  | .int i, .int j => if cMulW i j then some (.int (i * j)) else none
  | _, _ => none
def gDivW : D → D → Option D
  | .int i, .int j => if cDivW j then some (.int (i / j)) else none
  | _, _ => none
def gMulT : D → D → Option D
  | .tup us, .int k => if 0 < us.length ∧ 2 ≤ k ∧ k ≤ 1000 ∧ us.length ≤ 1000 then some (.tup (List.replicate k.toNat us).flatten) else none
  | _, _ => none
def kTrue : List Nat := [84, 114, 117, 101]
def kFalse : List Nat := [70, 97, 108, 115, 101]
def gStrV : List D → Option D
  | [.int i] => if i.natAbs.log2 < 1920 then some (.str (sInt i)) else none
  | [.bl b] => some (.str (if b = true then kTrue else kFalse))
  | _ => none
def gLow (s : List Nat) : Option D := if s = kTrue then some (.str [116, 114, 117, 101]) else if s = kFalse then some (.str [102, 97, 108, 115, 101]) else none
def splitC (c : Nat) : List Nat → List (List Nat)
  | [] => [[]]
  | x :: r => if x = c then [] :: splitC c r else match splitC c r with
    | p :: ps => (x :: p) :: ps
    | [] => [[x]]
def gSplit (s : List Nat) : D → Option T
  | .str [c] => if s.length ≤ 16000000 then some (.ls ((splitC c s).map .str)) else none
  | _ => none
/-- a text's method of one argument that gives a new list -/
def pSM1T (g : List Nat → D → Option T) (a b : PE) : PT := fun e => (a e).bind fun x e1 => match x with
  | .str s => (b e1).bind fun y e2 => oE (g s y) e2
  | _ => .bad
def replC (c : Nat) (z s : List Nat) : List Nat := s.flatMap fun x => if x = c then z else [x]
def pRepA (d : List Nat) (c : Nat) (z : List Nat) (a : PE) : PE := fun e => (a e).bind fun x e1 => match x with
  | .str s => if s.length * (z.length + 1) + z.length + d.length ≤ 1000000 then .ok (.str (d ++ replC c z s)) e1 else .bad
  | _ => .bad
def uExtT : T → List D → Option (D × T)
  | .ls us, [.tup ds] => if us.length + ds.length ≤ 16000000 then some (.non, .ls (us ++ ds)) else none
  | _, _ => none
def cEqE : D → D → Option Bool
  | .tup us, .tup [] => some us.isEmpty
  | _, _ => none
def pBadE : PE := fun _ => .bad
def pBadT : PT := fun _ => .bad
def sBad : PS := fun _ => .bad
def pBadD : PDs := fun _ => .bad
end P

set_option Elab.async false
set_option linter.all false
set_option maxRecDepth 100000
set_option maxHeartbeats 1000000
/-! PSG: great numbers, a tuple times a number, str of a truth, lower, split, replace, what is never reached. -/
namespace P
open Q (U O Sto Env' R RS EM TM AM SM Sem')
section
variable {cc : Nat → Nat} {h h' h1 h2 : Sto} {F F' F1 F2 : Nat → Prop} {u : U} {d : D} {us : List U} {ds : List D} {t : T} {ts : List T} {f f1 f2 fp fp' fp1 fp2 : List Nat} {env env' : Env'} {e e' : Env} {i : Nat} {q s s1 s2 : Bool} {mk : List Bool}
theorem splitC_eq (c : Nat) : ∀ s, Q.splitC c s = splitC c s
  | [] => rfl
  | x :: r => by
    unfold Q.splitC splitC
    rw [splitC_eq c r]
    all_goals (cases splitC c r <;> rfl)
theorem sim_split {ma mb : EM} {pa pb : PE} (a : Sim cc q (RD cc) ma pa) (b : Sim cc q (RX cc s2) mb pb) : Sim cc q (RT cc) (Q.mSM1 Q.uSplit ma mb) (pSM1T gSplit pa pb) := fun h F env e fp x sr =>
  Out.bind0 sr (a h F env e fp x sr) (fun u d h1 F1 e1 f2 r1 x1 sr1 st sm => by
    obtain ⟨_, r1⟩ := r1
    cases r1 with
    | str s =>
      exact Out.bind0 sr1 (b h1 F1 env e1 f2 x1 sr1) (fun u2 d2 h2 F2 e2 f3 r2 x2 sr2 st2 sm2 => by
        show Out cc q (RT cc) h2 F2 f3 env (Q.uSplit (.str s) u2 h2) (oE (gSplit s d2) e2)
        have t := r2.tp
        unfold gSplit
        split
        · rename_i c
          cases t
          show Out cc q (RT cc) h2 F2 f3 env (if s.length ≤ 16000000 then R.ok (.ref h2.length) (h2 ++ [.lst ((Q.splitC c s).map .str)]) else .bad) _
          by_cases z : s.length ≤ 16000000
          · rw [if_pos z, if_pos z, splitC_eq]
            exact out_new x2 sr2 (dns_strs _)
          · rw [if_neg z, if_neg z]; trivial
        · trivial) rx_nil
    | _ => trivial) rd_nil
theorem sim_repA {d : List Nat} {c : Nat} {z : List Nat} {ma : EM} {pa : PE} (a : Sim cc q (RD cc) ma pa) : Sim cc q (RD cc) (Q.mRepA d c z ma) (pRepA d c z pa) := fun h F env e fp x sr =>
  Out.bind0 sr (a h F env e fp x sr) (fun u d' h1 F1 e1 f2 r1 x1 sr1 st sm => by
    obtain ⟨_, r1⟩ := r1
    cases r1 with
    | str s =>
      show Out cc q (RD cc) h1 F1 f2 env (if s.length * (z.length + 1) + z.length + d.length ≤ 1000000 then R.ok (.str (d ++ Q.replC c z s)) h1 else .bad) (if s.length * (z.length + 1) + z.length + d.length ≤ 1000000 then .ok (.str (d ++ replC c z s)) e1 else .bad)
      by_cases y : s.length * (z.length + 1) + z.length + d.length ≤ 1000000
      · rw [if_pos y, if_pos y]; exact Out.ret0 ⟨rfl, .str _⟩ x1 sr1
      · rw [if_neg y, if_neg y]; trivial
    | _ => trivial) rd_nil
end
end P

set_option Elab.async false
set_option linter.all false
/-! PDefH: sorted of pairs of a number and a list of texts, d.update(e), {**d, k: v}, (n, s) <= (m, t). -/
namespace P
abbrev IS := Int × List (List Nat)
def leIS (a b : IS) : Bool := decide (a.1 < b.1 ∨ (a.1 = b.1 ∧ a.2 ≤ b.2))
def keyIS : D → Option IS
  | .tup [.int n, .lst xs] => (strsD xs).map fun ss => (n, ss)
  | _ => none
def keysT : List D → Option (List IS)
  | [] => some []
  | x :: r => match keyIS x, keysT r with
    | some k, some ks => some (k :: ks)
    | _, _ => none
def srtT (ds : List D) (ks : List IS) : List D := ((ds.zip ks).mergeSort fun p q => leIS p.2 q.2).map Prod.fst
def gSortT : List D → Option T
  | [.lst ds] => (keysT ds).map fun ks => .ls (srtT ds ks)
  | _ => none
def uUpd : T → List D → Option (D × T)
  | .dK kvs, [.dK more] => if kvs.length + more.length ≤ 16000000 then some (.non, .dK (mergeP kvs more)) else none
  | _, _ => none
def sDK : D → Option (List (DK × D))
  | .dK kvs => some kvs
  | .dKl kvs => some kvs
  | _ => none
def pStar (pd pk pv : PE) : PT := fun e => (pd e).bind fun d e1 => match sDK d with
  | some kvs => if kvs.length ≤ 16000000 then (pk e1).bind fun x e2 => (pv e2).bind fun y e3 => (match keyOf x with
      | some k => if (mergeP [] kvs).length < 16000000 then .ok (.dK (putK (mergeP [] kvs) k y)) e3 else .bad
      | none => .bad) else .bad
  | none => .bad
def cLeP : D → D → Option Bool
  | .tup [.int n, .str p], .tup [.int m, .str q] => some (decide (n < m ∨ (n = m ∧ p ≤ q)))
  | _, _ => none
end P

set_option Elab.async false
set_option linter.all false
set_option maxRecDepth 100000
set_option maxHeartbeats 1000000
/-! PSH: sorted of pairs of a number and a list of texts, d.update(e), {**d, k: v}, (n, s) <= (m, t). -/
namespace P
open Q (U O Sto Env' R RS EM TM AM SM Sem')
section
variable {cc : Nat → Nat} {h h' h1 h2 : Sto} {F F' F1 F2 : Nat → Prop} {u : U} {d : D} {us : List U} {ds : List D} {t : T} {ts : List T} {f f1 f2 fp fp' fp1 fp2 : List Nat} {env env' : Env'} {e e' : Env} {i : Nat} {q s s1 s2 : Bool} {mk : List Bool}
/-! ### d.update(e) -/
/-! ### {**d, k: v} -/
end
end P

set_option Elab.async false
set_option linter.all false
/-! PDefI: s.find(c, i), c one sign. -/
namespace P
def fdF (s : List Nat) (c i : Nat) : Int := match (s.drop i).findIdx? (· == c) with
  | some j => ((i + j : Nat) : Int)
  | none => -1
def gFind (s : List Nat) : List D → Option D
  | [.str [c], .int i] => if 0 ≤ i then some (.int (fdF s c i.toNat)) else none
  | _ => none
def pFind (a : PE) (b : PDs) : PE := fun e => (a e).bind fun x e1 => match x with
  | .str s => (b e1).bind fun ds e2 => oE (gFind s ds) e2
  | _ => .bad
end P

set_option Elab.async false
set_option linter.all false
set_option maxRecDepth 100000
set_option maxHeartbeats 1000000
/-! PSI: s.find(c, i), c one sign. -/
namespace P
open Q (U O Sto Env' R RS EM TM AM SM Sem')
section
variable {cc : Nat → Nat} {h h' h1 h2 : Sto} {F F' F1 F2 : Nat → Prop} {u : U} {d : D} {us : List U} {ds : List D} {f f1 f2 fp : List Nat} {env : Env'} {e e' : Env} {q s : Bool}
theorem sim_find {mo : EM} {am : AM} {pa : PE} {pd : PDs} (a : Sim cc q (RD cc) mo pa) (b : Sim cc q (RDs cc) am pd) : Sim cc q (RD cc) (Q.mFind mo am) (pFind pa pd) := fun h F env e fp x sr =>
  Out.bind0 sr (a h F env e fp x sr) (fun u d h1 F1 e1 f2 r1 x1 sr1 st sm => by
    obtain ⟨_, r1⟩ := r1
    cases r1 with
    | str s =>
      refine Out.bind0 sr1 (b h1 F1 env e1 f2 x1 sr1) (fun us ds h2 F2 e2 f3 r2 x2 sr2 st2 sm2 => ?_) rds_nil
      obtain ⟨_, r2⟩ := r2
      unfold gFind
      split
      · rename_i c i
        cases r2 with
        | cons y1 y2 =>
        cases y2 with
        | cons y3 y4 =>
        cases y4
        cases y1
        cases y3
        unfold Q.uFind
        by_cases z : 0 ≤ i
        · simp only [if_pos z]; exact Out.ret0 ⟨rfl, .int _⟩ x2 sr2
        · simp only [if_neg z]; trivial
      · trivial
    | _ => trivial) rd_nil
end
end P

set_option Elab.async false
set_option linter.all false
/-! PDefJ: raise of a class with a field, except C as e where the field is read (the name stands for the field's value). -/
namespace P
def sRaiseF (C : Nat) (f : String) (q : D → Bool) (pe : PE) : PS := fun e => (pe e).st fun d e1 => if q d = true then .ex C (some [(f, d)]) e1 else .bad
def sTryAsF (i : Nat) (ys : List Nat) (f : String) (b s : PS) : PS := fun e => match b e with
  | .ex C x e1 => (match x with
    | some fs => if C ∈ ys ∧ i < e1.length then (match fs.lookup f with
      | some d => (s (e1.set i (.leaf d))).cl i
      | none => .bad) else .bad
    | none => .bad)
  | r => r
def isIntD : D → Bool
  | .int i => decide (i.natAbs < 2 ^ 100)
  | _ => false
/-- int(text of digits) -/
def dVal (s : List Nat) : Int := ((s.foldl (fun a c => a * 10 + (c - 48)) 0 : Nat) : Int)
def isDig (c : Nat) : Bool := decide (48 ≤ c ∧ c ≤ 57)
def gIntS : List D → Option D
  | [.str s] => if s.all isDig = true ∧ s ≠ [] ∧ s.length ≤ 640 then some (.int (dVal s)) else none
  | _ => none
end P

set_option Elab.async false
set_option linter.all false
set_option maxRecDepth 100000
set_option maxHeartbeats 1000000
/-! PSJ: raise with a field, except C as e: e.f. -/
namespace P
open Q (U O Sto Env' R RS EM TM AM SM Sem')
section
variable {cc : Nat → Nat} {h h' h1 h2 : Sto} {F F' F1 F2 : Nat → Prop} {u : U} {d : D} {us : List U} {ds : List D} {f f1 f2 fp : List Nat} {env : Env'} {e e' : Env} {q s : Bool} {mk : List Bool} {i : Nat}
theorem int_DU : ∀ (h : Sto) (F : Nat → Prop) (u : U) (d : D), Dn cc h F u d → isIntD d = true → Q.isIntU u = true := fun h F u d r z => by
  cases r <;> first | exact z | cases z
theorem ss_raiseF {qU : U → Bool} {qD : D → Bool} {me : EM} {pe : PE} {C : Nat} {fl : String} (a : Sim cc q (RD cc) me pe) (hq : ∀ (h : Sto) (F : Nat → Prop) (u : U) (d : D), Dn cc h F u d → qD d = true → qU u = true) : SimS cc mk (Q.mRaiseF (cc C) (fs' fl) qU me) (sRaiseF C fl qD pe) := fun h F env e fp x sr => by
  have hm : Q.mRaiseF (cc C) (fs' fl) qU me env h = Q.R.st (me env h) env (fun u h1 => if qU u = true then .ex (cc C) (some h1.length) env (h1 ++ [.xd [(fs' fl, u)]]) else .bad) := by
    unfold Q.mRaiseF; cases me env h <;> rfl
  rw [hm]
  exact OutS.st0 sr (a h F env e fp x sr) (fun u d h1 F1 e1 f2 r1 x1 sr1 st sm => by
    by_cases w : qD d = true
    · rw [if_pos w, if_pos (hq h1 F1 u d r1.2 w)]
      have a1 := Fr.app sr1 (.xd [(fs' fl, u)])
      have a2 := Fr.freeze (f1 := [h1.length]) (f2 := f2) (SR.app sr1 (.xd [(fs' fl, u)]))
      have fr := a1.trans a2
      have stab := fr.stab sr1
      exact ⟨some h1.length, env, _, _, f2, rfl, x1.mono stab (Keep.app sr1 _), fr, ⟨.inr (by simp), [(fs' fl, u)], by simp, rfl, .cons (r1.2.mono stab) .nil⟩, Kp.refl env⟩
    · rw [if_neg w]; trivial) rd_nil
theorem Kp.put {env2 : Env'} {o : Option U} (z : (!mk.getD i false) = true) (k : Kp mk env env2) : Kp mk env (env2.set i o) := by
  refine Eq.trans (kp_off (by simp) fun j hj => ?_) k
  have : i ≠ j := fun e => by subst e; rw [hj] at z; cases z
  rw [List.getElem?_set_ne this]
theorem xd_look {us : List (PySem.Str × U)} {fs : List (String × D)} {fl : String} (hk : us.map Prod.fst = (fs.map fun p => fs' p.1)) (hd : Dns cc h F (us.map Prod.snd) (fs.map Prod.snd)) (el : fs.lookup fl = some d) : ∃ u, us.lookup (fs' fl) = some u ∧ Dn cc h F u d := by
  induction fs generalizing us with
  | nil => cases el
  | cons p r ih =>
    cases us with
    | nil => cases hk
    | cons p' us =>
      obtain ⟨k', u'⟩ := p'
      obtain ⟨k, d'⟩ := p
      simp only [List.map_cons, List.cons.injEq] at hk hd
      obtain ⟨k1, k2⟩ := hk
      cases hd with
      | cons x rr =>
      subst k1
      by_cases z : fl = k
      · subst z
        simp only [List.lookup_cons, beq_self_eq_true] at el ⊢
        cases el
        exact ⟨u', rfl, x⟩
      · have z1 : (fl == k) = false := by simpa using z
        have z2 : (fs' fl == fs' k) = false := by
          rw [beq_eq_false_iff_ne]
          exact fun y => z (fs_inj y)
        simp only [List.lookup_cons, z1] at el
        simp only [List.lookup_cons, z2]
        exact ih k2 rr el
theorem ss_tryAsF {ys : List Nat} {fl : String} {mb ms : SM} {pb ps : PS} (a : SimS cc mk mb pb) (b : SimS cc mk ms ps) (z : (!mk.getD i false) = true := by rfl) : SimS cc mk (Q.mTryAsF i (ys.map cc) (fs' fl) mb ms) (sTryAsF i ys fl pb ps) := fun h F env e fp x sr => by
  have bb := a h F env e fp x sr
  unfold Q.mTryAsF sTryAsF
  cases q1 : pb e with
  | ex C y e1 =>
    rw [q1] at bb
    obtain ⟨n, env2, h2, F2, f2, b1, b2, b3, b4, b5⟩ := bb
    simp only [b1]
    cases y with
    | none => trivial
    | some fs =>
      cases n with
      | none => exact b4.elim
      | some k =>
        obtain ⟨hF, us, hk, hkeys, hd⟩ := b4
        by_cases w : C ∈ ys ∧ i < e1.length
        · dsimp only
          rw [if_pos ⟨List.mem_map_of_mem (f := cc) w.1, by rw [b2.len]; exact w.2⟩, if_pos w]
          simp only [hk]
          cases el : fs.lookup fl with
          | none => trivial
          | some d =>
            obtain ⟨u, hu, hd'⟩ := xd_look hkeys hd el
            simp only [hu]
            obtain ⟨fp', b', g, p⟩ := b2.putD i hd'
            have fr : Fr h F fp h2 F2 fp' := (b3.perm p).sub (List.sublist_append_right g fp')
            exact OutS.trans fr (Kp.put z b5) (OutS.cl z (b h2 F2 _ _ fp' b' fr.sr))
        · dsimp only; rw [if_neg w]; trivial
  | nx e1 => rw [q1] at bb; obtain ⟨env2, h', F', f2, a, r⟩ := bb; rw [a]; exact ⟨env2, h', F', f2, rfl, r⟩
  | bk e1 => rw [q1] at bb; obtain ⟨env2, h', F', f2, a, r⟩ := bb; rw [a]; exact ⟨env2, h', F', f2, rfl, r⟩
  | ct e1 => rw [q1] at bb; obtain ⟨env2, h', F', f2, a, r⟩ := bb; rw [a]; exact ⟨env2, h', F', f2, rfl, r⟩
  | rt t e1 => rw [q1] at bb; obtain ⟨u, env2, h', F', f1, f2, a, r⟩ := bb; rw [a]; exact ⟨u, env2, h', F', f1, f2, rfl, r⟩
  | bad => trivial
theorem op_intS : OpL cc s Q.uIntS gIntS (RD cc) := by
  intro q h F fp env e us ds x sr r
  unfold gIntS
  split
  · rename_i k
    obtain ⟨u, rfl, t⟩ := ra_one r; cases t
    show Out cc q (RD cc) h F fp env (if k.all isDig = true ∧ k ≠ [] ∧ k.length ≤ 640 then R.ok (.int (dVal k)) h else .bad) _
    by_cases z : k.all isDig = true ∧ k ≠ [] ∧ k.length ≤ 640
    · rw [if_pos z, if_pos z]; exact Out.ret0 ⟨rfl, .int _⟩ x sr
    · rw [if_neg z, if_neg z]; trivial
  · trivial
end
end P

set_option Elab.async false
set_option linter.all false
set_option maxRecDepth 100000
set_option maxHeartbeats 1000000
/-! PLem: how pure meanings are reckoned. -/
namespace P
section
variable {α β : Type} {a : α} {e e1 e2 : Env} {d x y : D} {ds us : List D} {i j : Int} {k n : Nat} {t : T} {ts : List T} {C : Nat}
@[simp] theorem r_ok {f : α → Env → PR β} : (PR.ok a e).bind f = f a e := rfl
@[simp] theorem r_exc {z : Option (List (String × D))} {f : α → Env → PR β} : (PR.exc C z e : PR α).bind f = .exc C z e := rfl
@[simp] theorem r_bad {f : α → Env → PR β} : (PR.bad : PR α).bind f = .bad := rfl
@[simp] theorem r_st {f : α → Env → PRS} : (PR.ok a e).st f = f a e := rfl
@[simp] theorem r_stx {z : Option (List (String × D))} {f : α → Env → PRS} : (PR.exc C z e : PR α).st f = .ex C z e := rfl
@[simp] theorem r_stb {f : α → Env → PRS} : (PR.bad : PR α).st f = .bad := rfl
@[simp] theorem r_no : (PR.ok a e).no = .ok a e := rfl
@[simp] theorem r_snx : (PRS.nx e).no = .nx e := rfl
@[simp] theorem r_srt : (PRS.rt t e).no = .rt t e := rfl
@[simp] theorem r_some : oE (some a) e = .ok a e := rfl
@[simp] theorem r_none : oE (none : Option α) e = .bad := rfl
/-! trees -/
@[simp] theorem fz_leaf : (T.leaf d).fz = some d := rfl
@[simp] theorem fz_ls : (T.ls ds).fz = some (.lst ds) := rfl
@[simp] theorem fz_dK {kvs : List (DK × D)} : (T.dK kvs).fz = some (.dK kvs) := rfl
@[simp] theorem fz_dT {kvs : List (List DK × D)} : (T.dT kvs).fz = some (.dT kvs) := rfl
@[simp] theorem fz_lT : (T.lT ts).fz = match T.fzs ts with | some ds => some (.lst ds) | none => none := by
  conv => lhs; unfold T.fz
  all_goals (cases T.fzs ts <;> rfl)
@[simp] theorem fz_is {fs : List (String × T)} : (T.is C fs).fz = match T.fzf fs with | some ds => some (.ins C ds) | none => none := by
  conv => lhs; unfold T.fz
  all_goals (cases T.fzf fs <;> rfl)
@[simp] theorem fzs_nil : T.fzs [] = some [] := rfl
@[simp] theorem fzs_cons : T.fzs (t :: ts) = match t.fz, T.fzs ts with | some d, some ds => some (d :: ds) | _, _ => none := by
  conv => lhs; unfold T.fzs
  all_goals (cases t.fz <;> cases T.fzs ts <;> rfl)
@[simp] theorem fzf_nil : T.fzf [] = some [] := rfl
@[simp] theorem fzf_cons {f : String} {r : List (String × T)} : T.fzf ((f, t) :: r) = match t.fz, T.fzf r with | some d, some ds => some ((f, d) :: ds) | _, _ => none := by
  conv => lhs; unfold T.fzf
  all_goals (cases t.fz <;> cases T.fzf r <;> rfl)
@[simp] theorem vw_leaf : (T.leaf d).vw = some d := rfl
@[simp] theorem vw_ls : (T.ls ds).vw = some (.lst ds) := rfl
@[simp] theorem vw_dK {kvs : List (DK × D)} : (T.dK kvs).vw = some (.dK kvs) := rfl
@[simp] theorem vw_dT {kvs : List (List DK × D)} : (T.dT kvs).vw = some (.dT kvs) := rfl
@[simp] theorem get_nil' : t.get [] = some t := by unfold T.get; rfl
@[simp] theorem get_cons' {c : Ac} {r : List Ac} : t.get (c :: r) = match t.get1 c with | some s => s.get r | none => none := by
  conv => lhs; unfold T.get
  all_goals (cases t.get1 c <;> rfl)
@[simp] theorem set_nil' {s : T} : t.set [] s = s := by unfold T.set; rfl
@[simp] theorem set_cons' {c : Ac} {r : List Ac} {s : T} : t.set (c :: r) s = match t.get1 c with | some u => t.set1 c (u.set r s) | none => t := by
  conv => lhs; unfold T.set
  all_goals (cases t.get1 c <;> rfl)
@[simp] theorem g1_lT : (T.lT ts).get1 (.ix i) = atI ts i := rfl
@[simp] theorem g1_ls : (T.ls ds).get1 (.ix i) = (atI ds i).map .leaf := rfl
@[simp] theorem g1_is {fs : List (String × T)} {Cs : List Nat} {f : String} : (T.is C fs).get1 (.fld Cs f) = if C ∈ Cs then fs.lookup f else none := rfl
@[simp] theorem g1_ins {fs : List (String × D)} {Cs : List Nat} {f : String} : (T.leaf (.ins C fs)).get1 (.fld Cs f) = if C ∈ Cs then (fs.lookup f).map .leaf else none := rfl
@[simp] theorem g1_ll : (T.leaf (.lst ds)).get1 (.ix i) = (atI ds i).map .leaf := rfl
@[simp] theorem g1_lt : (T.leaf (.tup ds)).get1 (.ix i) = (atI ds i).map .leaf := rfl
@[simp] theorem s1_lT {s : T} : (T.lT ts).set1 (.ix i) s = match ixN ts.length i with | some k => .lT (ts.set k s) | none => .lT ts := rfl
@[simp] theorem s1_is {fs : List (String × T)} {Cs : List Nat} {f : String} {s : T} : (T.is C fs).set1 (.fld Cs f) s = .is C (putF f s fs) := rfl
@[simp] theorem getP_def {r : List Ac} : getP k r e = match e[k]? with | some t => t.get r | none => none := rfl
@[simp] theorem setP_def {r : List Ac} {s : T} : setP k r s e = match e[k]? with | some t => e.set k (t.set r s) | none => e := rfl
@[simp] theorem atP_def {r : List Ac} : atP k r e = match getP k r e with | some .hole => .bad | some _ => .ok r e | none => .bad := rfl
@[simp] theorem ev_pvar : (Pth.var k).ev e = atP k [] e := rfl
@[simp] theorem ev_pfld {p : Pth} {Cs : List Nat} {f : String} : (Pth.fld p Cs f).ev e = (p.ev e).bind fun r e1 => atP p.root (r ++ [.fld Cs f]) e1 := rfl
@[simp] theorem ev_pix {p : Pth} {b : PE} : (Pth.ix p b).ev e = (p.ev e).bind fun r e1 => (b e1).bind fun x e2 => match x with | .int i => atP p.root (r ++ [.ix i]) e2 | _ => .bad := rfl
@[simp] theorem root_var : (Pth.var k).root = k := rfl
@[simp] theorem root_fld {p : Pth} {Cs : List Nat} {f : String} : (Pth.fld p Cs f).root = p.root := rfl
@[simp] theorem root_ix {p : Pth} {b : PE} : (Pth.ix p b).root = p.root := rfl
/-! expressions -/
variable {pa pb pc : PE} {ta tb : PT} {b1 b2 : PB} {am : PDs} {g : D → D → Option D} {g1 : D → Option D}
@[simp] theorem v_var : pVar k e = match e[k]? with | some (.leaf d) => .ok d e | _ => .bad := rfl
@[simp] theorem v_fv : pFv k e = match e[k]? with | some t => (match t.fz with | some d => .ok d (e.set k (.leaf d)) | none => .bad) | none => .bad := rfl
@[simp] theorem v_vw : pVw k e = match e[k]? with | some t => oE t.vw e | none => .bad := rfl
@[simp] theorem v_mv : pMv k e = match e[k]? with | some .hole => .bad | some t => .ok t (e.set k .hole) | none => .bad := rfl
@[simp] theorem v_c : pC d e = .ok d e := rfl
@[simp] theorem v_lf : pLf pa e = (pa e).bind fun d e1 => .ok (.leaf d) e1 := rfl
@[simp] theorem v_fz : pFz ta e = (ta e).bind fun t e1 => oE t.fz e1 := rfl
@[simp] theorem v_bin : pBin g pa pb e = (pa e).bind fun x e1 => (pb e1).bind fun y e2 => oE (g x y) e2 := rfl
@[simp] theorem v_un : pUn g1 pa e = (pa e).bind fun x e1 => oE (g1 x) e1 := rfl
@[simp] theorem v_add : pAdd pa pb e = (pa e).bind fun x e1 => (pb e1).bind fun y e2 => oE (tAdd x y) e2 := rfl
@[simp] theorem v_and : pAnd pa pb e = (pa e).bind fun x e1 => match x with | .bl true => pb e1 | .bl false => .ok (.bl false) e1 | _ => .bad := rfl
@[simp] theorem v_or : pOr pa pb e = (pa e).bind fun x e1 => match x with | .bl false => pb e1 | .bl true => .ok (.bl true) e1 | _ => .bad := rfl
@[simp] theorem v_if : pIf b1 pa pb e = (b1 e).bind fun c e1 => if c = true then pa e1 else pb e1 := rfl
@[simp] theorem v_ifT : pIfT b1 ta tb e = (b1 e).bind fun c e1 => if c = true then ta e1 else tb e1 := rfl
@[simp] theorem v_dnil : dNil e = .ok [] e := rfl
@[simp] theorem v_dcons : dCons pa am e = (pa e).bind fun d e1 => (am e1).bind fun ds e2 => .ok (d :: ds) e2 := rfl
@[simp] theorem v_tnil : tNil e = .ok [] e := rfl
@[simp] theorem v_tcons {at' : PTs} : tCons ta at' e = (ta e).bind fun d e1 => (at' e1).bind fun ds e2 => .ok (d :: ds) e2 := rfl
@[simp] theorem v_tup : pTup am e = (am e).bind fun ds e1 => if ds.length ≤ 16000000 then .ok (.tup ds) e1 else .bad := rfl
@[simp] theorem v_lst : pLst am e = (am e).bind fun ds e1 => if ds.length ≤ 16000000 then .ok (.ls ds) e1 else .bad := rfl
@[simp] theorem v_lsT {at' : PTs} : pLsT at' e = (at' e).bind fun ds e1 => if ds.length ≤ 16000000 then .ok (.lT ds) e1 else .bad := rfl
@[simp] theorem v_ono : oNo e = .ok none e := rfl
@[simp] theorem v_oso : oSo pa e = (pa e).bind fun x e1 => match x with | .int i => .ok (some i) e1 | _ => .bad := rfl
@[simp] theorem v_sl {lo hi : PO} : pSl pa lo hi e = (pa e).bind fun x e1 => (lo e1).bind fun l e2 => (hi e2).bind fun u e3 => oE (tSl x l u) e3 := rfl
@[simp] theorem v_cb {f : List D → Option D} : pCB f am e = (am e).bind fun ds e1 => oE (f ds) e1 := rfl
@[simp] theorem v_ct {f : List D → Option T} : pCT f am e = (am e).bind fun ds e1 => oE (f ds) e1 := rfl
@[simp] theorem v_sm1 {f : List Nat → D → Option D} : pSM1 f pa pb e = (pa e).bind fun x e1 => match x with | .str s => (pb e1).bind fun y e2 => oE (f s y) e2 | _ => .bad := rfl
@[simp] theorem v_b : pB b1 e = (b1 e).bind fun b e1 => .ok (.bl b) e1 := rfl
@[simp] theorem v_cmp {f : D → D → Option Bool} : tCmp f pa pb e = (pa e).bind fun x e1 => (pb e1).bind fun y e2 => oE (f x y) e2 := rfl
@[simp] theorem v_tand : tAnd b1 b2 e = (b1 e).bind fun c e1 => if c = true then b2 e1 else .ok false e1 := rfl
@[simp] theorem v_tor : tOr b1 b2 e = (b1 e).bind fun c e1 => if c = true then .ok true e1 else b2 e1 := rfl
@[simp] theorem v_tnot : tNot b1 e = (b1 e).bind fun c e1 => .ok (!c) e1 := rfl
@[simp] theorem v_tru : tTru pa e = (pa e).bind fun x e1 => oE (truD x) e1 := rfl
@[simp] theorem v_yes : tYes e = .ok true e := rfl
@[simp] theorem v_is {A : Ty} : tIs A pa e = (pa e).bind fun x e1 => oE (isD A x) e1 := rfl
@[simp] theorem v_is2 {A B : Ty} : tIs2 A B pa e = (pa e).bind fun x e1 => oE ((isD A x).bind fun b => (isD B x).map fun c => b || c) e1 := rfl
@[simp] theorem v_rd {p : Pth} : pRd p e = (p.ev e).bind fun r e1 => match getP p.root r e1 with | some (.leaf d) => .ok d e1 | some t => (match t.fz with | some d => .ok d (setP p.root r (.leaf d) e1) | none => .bad) | none => .bad := rfl
@[simp] theorem v_vp {p : Pth} : pVp p e = (p.ev e).bind fun r e1 => match getP p.root r e1 with | some t => oE t.vw e1 | none => .bad := rfl
@[simp] theorem v_upd {p : Pth} {f : T → List D → Option (D × T)} : pUpd p am f e = (p.ev e).bind fun r e1 => match getP p.root r e1 with
  | some (.ls _) => (am e1).bind fun ds e2 => (match getP p.root r e2 with
    | some t => (match f t ds with
      | some (d, s) => .ok d (setP p.root r s e2)
      | none => .bad)
    | none => .bad)
  | _ => .bad := rfl
@[simp] theorem v_app : uApp (.ls us) [d] = if us.length < 16000000 then some (.non, .ls (us ++ [d])) else none := rfl
@[simp] theorem v_ext : uExt (.ls us) [.lst ds] = if us.length + ds.length ≤ 16000000 then some (.non, .ls (us ++ ds)) else none := rfl
/-! operators -/
@[simp] theorem o_sub : gSub (.int i) (.int j) = some (.int (i - j)) := rfl
@[simp] theorem o_mul : gMul (.int i) (.int j) = if cMul i j then some (.int (i * j)) else none := rfl
@[simp] theorem o_div : gDiv (.int i) (.int j) = if 0 < j ∧ j.natAbs < 1073741824 then some (.int (i / j)) else none := rfl
@[simp] theorem o_mod : gMod (.int i) (.int j) = if 0 < j then some (.int (i % j)) else none := rfl
@[simp] theorem o_pow : gPow (.int i) (.int j) = if 0 ≤ j ∧ j.natAbs ≤ 1000 ∧ 0 ≤ i ∧ i.natAbs < 1000 then some (.int (i ^ j.toNat)) else none := rfl
@[simp] theorem o_neg : gNeg (.int i) = some (.int (-i)) := rfl
@[simp] theorem o_not {b : Bool} : gNot (.bl b) = some (.bl (!b)) := rfl
@[simp] theorem o_add : tAdd (.int i) (.int j) = some (.leaf (.int (i + j))) := rfl
@[simp] theorem o_adds {s t : List Nat} : tAdd (.str s) (.str t) = if s.length + t.length ≤ 16000000 then some (.leaf (.str (s ++ t))) else none := rfl
@[simp] theorem o_addl : tAdd (.lst us) (.lst ds) = if us.length + ds.length ≤ 16000000 then some (.ls (us ++ ds)) else none := rfl
@[simp] theorem o_addt : tAdd (.tup us) (.tup ds) = if us.length + ds.length ≤ 16000000 then some (.leaf (.tup (us ++ ds))) else none := rfl
@[simp] theorem o_iadd : gIAdd (.int i) (.int j) = some (.int (i + j)) := rfl
@[simp] theorem o_iadds {s t : List Nat} : gIAdd (.str s) (.str t) = if s.length + t.length ≤ 16000000 then some (.str (s ++ t)) else none := rfl
@[simp] theorem o_ixs {s : List Nat} : gIx (.str s) (.int i) = if s.length ≤ 16000000 then (atI s i).map fun c => .str [c] else none := rfl
@[simp] theorem o_ixl : gIx (.lst ds) (.int i) = atI ds i := rfl
@[simp] theorem o_ixt : gIx (.tup ds) (.int i) = atI ds i := rfl
@[simp] theorem o_ixk : gIx (.kl ds) (.int i) = atI ds i := rfl
@[simp] theorem o_sls {s : List Nat} {lo hi : Option Int} : tSl (.str s) lo hi = if s.length ≤ 16000000 then some (.leaf (.str (cut s lo hi))) else none := rfl
@[simp] theorem o_slt {lo hi : Option Int} : tSl (.tup us) lo hi = some (.leaf (.tup (cut us lo hi))) := rfl
@[simp] theorem o_sll {lo hi : Option Int} : tSl (.lst us) lo hi = some (.ls (cut us lo hi)) := rfl
@[simp] theorem o_fld {Cs : List Nat} {f : String} {fs : List (String × D)} : gFld Cs f (.ins C fs) = if C ∈ Cs then fs.lookup f else none := rfl
@[simp] theorem o_lens {s : List Nat} : gLen [.str s] = if s.length ≤ 16000000 then some (.int s.length) else none := rfl
@[simp] theorem o_lenl : gLen [.lst ds] = some (.int ds.length) := rfl
@[simp] theorem o_lent : gLen [.tup ds] = some (.int ds.length) := rfl
@[simp] theorem o_lenk : gLen [.kl ds] = some (.int ds.length) := rfl
@[simp] theorem o_int : gInt [.int i] = some (.int i) := rfl
@[simp] theorem o_intb {b : Bool} : gInt [.bl b] = some (.int (if b then 1 else 0)) := rfl
@[simp] theorem o_listl : gList [.lst ds] = some (.ls ds) := rfl
@[simp] theorem o_listt : gList [.tup ds] = some (.ls ds) := rfl
@[simp] theorem o_listk : gList [.kl ds] = some (.ls ds) := rfl
@[simp] theorem o_tupl : gTuple [.lst ds] = some (.tup ds) := rfl
@[simp] theorem o_tupt : gTuple [.tup ds] = some (.tup ds) := rfl
@[simp] theorem o_min : gMin [.int i, .int j] = some (.int (if j < i then j else i)) := rfl
@[simp] theorem o_max : gMax [.int i, .int j] = some (.int (if j > i then j else i)) := rfl
@[simp] theorem o_abs : gAbs [.int i] = some (.int (if i < 0 then -i else i)) := rfl
@[simp] theorem o_joinl {s : List Nat} : gJoin s (.lst ds) = (strL ds).bind fun ss => if (ss.map List.length).sum + ss.length * s.length ≤ 16000000 then some (.str (joinL s ss)) else none := rfl
@[simp] theorem c_cI {p : Int → Int → Bool} : cI p (.int i) (.int j) = some (p i j) := rfl
@[simp] theorem c_ne : cNe x y = (cEq x y).map not := rfl
@[simp] theorem c_isn : cIs .non .non = some true := rfl
@[simp] theorem c_isx : cIsN x y = (cIs x y).map not := rfl
@[simp] theorem c_nin : cNin x y = (cIn x y).map not := rfl
@[simp] theorem c_eqi : cEq (.int i) (.int j) = some (decide (i = j)) := by
  show (if _ then some (D.eq (.int i) (.int j)) else none) = _
  rw [if_pos (by rfl)]
  simp only [D.eq]; congr 1
@[simp] theorem c_eqs {s t : List Nat} : cEq (.str s) (.str t) = some (decide (s = t)) := by
  show (if _ then some (D.eq (.str s) (.str t)) else none) = _
  rw [if_pos (by rfl)]
  simp only [D.eq]
  by_cases h : s = t <;> simp [h]
@[simp] theorem c_eqb {b c : Bool} : cEq (.bl b) (.bl c) = some (decide (b = c)) := by cases b <;> cases c <;> rfl
@[simp] theorem c_eqis {s : List Nat} : cEq (.int i) (.str s) = some false := rfl
@[simp] theorem c_eqsi {s : List Nat} : cEq (.str s) (.int i) = some false := rfl
@[simp] theorem c_inl : cIn x (.lst ds) = cIn0 x ds := by cases x <;> rfl
theorem cMul_l' (h1 : -1000000000000000000 < i) (h2 : i < 1000000000000000000) : cMul i j := .inl (by omega)
@[simp] theorem cMul_r (h : j.natAbs ≤ 9000000000000000000) : cMul i j := .inr h
@[simp] theorem cMul_l (h : i.natAbs ≤ 9000000000000000000) : cMul i j := .inl h
@[simp] theorem t_non : truD .non = some false := rfl
@[simp] theorem t_bl {b : Bool} : truD (.bl b) = some b := rfl
@[simp] theorem t_int : truD (.int i) = some (i != 0) := rfl
@[simp] theorem t_str {s : List Nat} : truD (.str s) = if s.length ≤ 16000000 then some (!s.isEmpty) else none := rfl
@[simp] theorem t_lst : truD (.lst ds) = some (!ds.isEmpty) := rfl
@[simp] theorem t_tup : truD (.tup ds) = some (!ds.isEmpty) := rfl
/-! places -/
theorem ixN_nat {j : Nat} (h : j < n) : ixN n (j : Int) = some j := by
  unfold ixN
  rw [if_pos (by omega), if_pos (by omega)]; rfl
theorem atI_nat {l : List α} {j : Nat} : atI l (j : Int) = l[j]? := by
  unfold atI
  by_cases h : j < l.length
  · rw [ixN_nat h]; rfl
  · unfold ixN
    rw [if_pos (by omega), if_neg (by omega), List.getElem?_eq_none (by omega)]; rfl
@[simp] theorem atI_cast {l : List α} {j : Nat} : atI l (j : Int) = l[j]? := atI_nat
@[simp] theorem atI_0 {l : List α} : atI l 0 = l[0]? := atI_nat (j := 0)
@[simp] theorem atI_2 {l : List α} : atI l 2 = l[2]? := atI_nat (j := 2)
@[simp] theorem atI_3 {l : List α} : atI l 3 = l[3]? := atI_nat (j := 3)
@[simp] theorem atI_4 {l : List α} : atI l 4 = l[4]? := atI_nat (j := 4)
@[simp] theorem atI_5 {l : List α} : atI l 5 = l[5]? := atI_nat (j := 5)
@[simp] theorem atI_6 {l : List α} : atI l 6 = l[6]? := atI_nat (j := 6)
@[simp] theorem atI_7 {l : List α} : atI l 7 = l[7]? := atI_nat (j := 7)
@[simp] theorem atI_8 {l : List α} : atI l 8 = l[8]? := atI_nat (j := 8)
@[simp] theorem atI_9 {l : List α} : atI l 9 = l[9]? := atI_nat (j := 9)
@[simp] theorem atI_10 {l : List α} : atI l 10 = l[10]? := atI_nat (j := 10)
@[simp] theorem atI_11 {l : List α} : atI l 11 = l[11]? := atI_nat (j := 11)
@[simp] theorem atI_12 {l : List α} : atI l 12 = l[12]? := atI_nat (j := 12)
@[simp] theorem atI_13 {l : List α} : atI l 13 = l[13]? := atI_nat (j := 13)
@[simp] theorem atI_1 {l : List α} : atI l 1 = l[1]? := atI_nat (j := 1)
theorem atI_pos {l : List α} (h : 0 ≤ i) : atI l i = l[i.toNat]? := by
  have := atI_nat (l := l) (j := i.toNat)
  rwa [Int.toNat_of_nonneg h] at this
@[simp] theorem put_nil {f : String} {v : α} : putF f v [] = [(f, v)] := rfl
@[simp] theorem put_cons {f g : String} {v w : α} {r : List (String × α)} : putF f v ((g, w) :: r) = if g = f then (g, v) :: r else (g, w) :: putF f v r := rfl
/-! slices -/
theorem cut_to {l : List α} (h : 0 ≤ i) : cut l none (some i) = l.take i.toNat := by
  unfold cut sIx
  simp only [List.drop_zero, Nat.sub_zero]
  rw [if_neg (by omega)]
  by_cases h : i.toNat ≤ l.length
  · rw [Nat.min_eq_left h]
  · rw [Nat.min_eq_right (by omega), List.take_of_length_le (Nat.le_refl _), List.take_of_length_le (by omega)]
theorem cut_from {l : List α} (h : 0 ≤ i) : cut l (some i) none = l.drop i.toNat := by
  unfold cut sIx
  simp only []
  rw [if_neg (by omega)]
  by_cases h : i.toNat ≤ l.length
  · rw [Nat.min_eq_left h, List.take_of_length_le (by simp)]
  · rw [Nat.min_eq_right (by omega), List.drop_of_length_le (Nat.le_refl _), List.drop_of_length_le (by omega)]; simp
@[simp] theorem cut_toN {l : List α} : cut l none (some (k : Int)) = l.take k := by rw [cut_to (by omega)]; rfl
@[simp] theorem cut_fromN {l : List α} : cut l (some (k : Int)) none = l.drop k := by rw [cut_from (by omega)]; rfl
theorem cut_mid {l : List α} {a b : Nat} (h : a ≤ b) : cut l (some (a : Int)) (some (b : Int)) = (l.drop a).take (b - a) := by
  unfold cut sIx
  simp only []
  rw [if_neg (by omega), if_neg (by omega)]
  simp only [Int.toNat_natCast]
  by_cases ha : a ≤ l.length
  · rw [Nat.min_eq_left ha]
    by_cases hb : b ≤ l.length
    · rw [Nat.min_eq_left hb]
    · rw [Nat.min_eq_right (by omega), List.take_of_length_le (by simp), List.take_of_length_le (by simp; omega)]
  · have e : min a l.length = l.length := Nat.min_eq_right (by omega)
    rw [e, List.drop_of_length_le (Nat.le_refl _), List.drop_of_length_le (by omega)]; simp
/-! statements -/
variable {m1 m2 : PS} {K : List Nat} {c : CT} {b : PS}
@[simp] theorem s_nx : sNx e = .nx e := rfl
@[simp] theorem s_seq : sSeq m1 m2 e = match m1 e with | .nx e1 => m2 e1 | r => r := rfl
@[simp] theorem s_asg : sAsg k ta e = (ta e).st fun t e1 => .nx (e1.set k t) := rfl
@[simp] theorem s_unp : sUnp c pa e = (pa e).st fun d e1 => match c.asg d e1 with | some e2 => .nx e2 | none => .bad := rfl
@[simp] theorem s_one : (CT.one k).asg d e = some (e.set k (.leaf d)) := by cases d <;> rfl
@[simp] theorem s_tup {is : List Nat} : (CT.tup is).asg (.tup us) e = if us.length = is.length then some (setA e is us) else none := rfl
@[simp] theorem s_lst {is : List Nat} : (CT.lst is).asg (.lst us) e = if us.length = is.length then some (setA e is us) else none := rfl
@[simp] theorem s_setA_c {i : Nat} {is : List Nat} : setA e (i :: is) (d :: us) = setA (e.set i (.leaf d)) is us := rfl
@[simp] theorem s_setA_n : setA e [] us = e := by unfold setA; rfl
@[simp] theorem s_ret : sRet ta e = (ta e).st fun t e1 => .rt t e1 := rfl
@[simp] theorem s_retN : sRetN e = .rt (.leaf .non) e := rfl
@[simp] theorem s_drop : sDrop ta e = (ta e).st fun _ e1 => .nx e1 := rfl
@[simp] theorem s_if : sIf b1 m1 m2 e = (b1 e).st fun c e1 => if c = true then m1 e1 else m2 e1 := rfl
@[simp] theorem s_brk : sBrk e = .bk e := rfl
@[simp] theorem s_cnt : sCnt e = .ct e := rfl
@[simp] theorem kill_nil : kill [] e = e := rfl
@[simp] theorem kill_cons : kill (k :: K) e = kill K (e.set k .hole) := rfl
@[simp] theorem s_for {it : PDs} : sFor K it c b e = (it e).st fun ds e1 => forL K c b ds e1 := rfl
@[simp] theorem s_while {t : PB} : sWhile K n t b e = whL K t b n e := rfl
@[simp] theorem i_op {f : List D → Option (List D)} : iOp f am e = (am e).bind fun ds e1 => oE (f ds) e1 := rfl
@[simp] theorem i_r1 : gR1 [.int j] = if j.natAbs ≤ 1000000000 then some (rng 0 j.toNat) else none := rfl
@[simp] theorem i_r2 : gR2 [.int i, .int j] = if i.natAbs ≤ 1000000000 ∧ j.natAbs ≤ 1000000000 then some (rng i (j - i).toNat) else none := rfl
@[simp] theorem i_e : iE pa e = (pa e).bind fun x e1 => oE (seqD x) e1 := rfl
@[simp] theorem i_str {s : List Nat} : seqD (.str s) = some (s.map fun c => .str [c]) := rfl
@[simp] theorem i_lst : seqD (.lst ds) = some ds := rfl
@[simp] theorem i_tup : seqD (.tup ds) = some ds := rfl
@[simp] theorem i_kl : seqD (.kl ds) = some ds := rfl
@[simp] theorem i_z {x y : D} : gZ [x, y] = match sqD x, sqD y with | some us, some ts => some (pairs us ts) | _, _ => none := rfl
@[simp] theorem sq_l : sqD (.lst ds) = some ds := rfl
@[simp] theorem sq_t : sqD (.tup ds) = some ds := rfl
@[simp] theorem sq_k : sqD (.kl ds) = some ds := rfl
@[simp] theorem i_n : gN [.lst us] = some (pairs (rng 0 us.length) us) := rfl
@[simp] theorem s_setI {p : Pth} : sSetI p pb pa e = (pa e).st fun d e1 => (p.ev e1).st fun r e2 => (pb e2).st fun x e3 => match x, getP p.root r e3 with
  | .int k, some (.ls ds) => (match ixN ds.length k with
    | some j => .nx (setP p.root r (.ls (ds.set j d)) e3)
    | none => .bad)
  | _, _ => .bad := rfl
@[simp] theorem s_aug : sAug g k pa e = match e[k]? with
  | some (.leaf x) => (pa e).st fun y e1 => (match g x y with
    | some z => .nx (e1.set k (.leaf z))
    | none => .bad)
  | _ => .bad := rfl
@[simp] theorem s_augI {p : Pth} : sAugI g p pb pa e = (p.ev e).st fun r e1 => (pb e1).st fun x e2 => match x, getP p.root r e2 with
  | .int k, some (.ls ds) => (match atI ds k with
    | some z => (pa e2).st fun y e3 => (match g z y, getP p.root r e3 with
      | some w, some (.ls ds2) => (match ixN ds2.length k with
        | some j => .nx (setP p.root r (.ls (ds2.set j w)) e3)
        | none => .bad)
      | _, _ => .bad)
    | none => .bad)
  | _, _ => .bad := rfl
@[simp] theorem s_setF {p : Pth} {Cs : List Nat} {f : String} : sSetF Cs f p ta e = (ta e).st fun t e1 => (p.ev e1).st fun r e2 => match getP p.root r e2 with
  | some (.is C fs) => if C ∈ Cs ∧ fs.length < 1000 then .nx (setP p.root r (.is C (putF f t fs)) e2) else .bad
  | _ => .bad := rfl
@[simp] theorem s_augF {p : Pth} {Cs : List Nat} {f : String} : sAugF Cs g f p pa e = (p.ev e).st fun r e1 => match getP p.root r e1 with
  | some (.is C fs) => if C ∈ Cs then (match fs.lookup f with
    | some (.leaf z) => (pa e1).st fun y e3 => (match g z y, getP p.root r e3 with
      | some w, some (.is C2 fs2) => if C2 = C ∧ fs2.length < 1000 then .nx (setP p.root r (.is C2 (putF f (.leaf w) fs2)) e3) else .bad
      | _, _ => .bad)
    | _ => .bad) else .bad
  | _ => .bad := rfl
@[simp] theorem s_raise : sRaise C e = .ex C none e := rfl
@[simp] theorem s_try {ys : List Nat} : sTry ys m1 m2 e = match m1 e with | .ex C _ e1 => if C ∈ ys then (m2 e1).no else .bad | r => r := rfl
/-! calls -/
variable {sem : PSem}
@[simp] theorem l_ok {ws : List T} : callR (.ok t ws) e = .ok t e := rfl
@[simp] theorem l_exc {z : Option (List (String × D))} : callR (.exc C z) e = .exc C z e := rfl
@[simp] theorem l_call : pCall n sem am e = (am e).bind fun ds e1 => if ds.length = n then callR (sem (ds.map .leaf)) e1 else .bad := rfl
@[simp] theorem l_insT {s : T} : insT k s ds = (ds.take k).map .leaf ++ s :: (ds.drop k).map .leaf := rfl
@[simp] theorem l_callV {k i : Nat} : pCallV n k i sem am e = match e[i]? with
  | some .hole => .bad
  | none => .bad
  | some _ => (am e).bind fun ds e1 => match e1[i]? with
    | some s => (if ds.length + 1 = n ∧ k ≤ ds.length then (match sem (insT k s ds) with
      | .ok t [w] => .ok t (e1.set i w)
      | .exc C x => .exc C x (e1.set i .hole)
      | _ => .bad) else .bad)
    | none => .bad := rfl
@[simp] theorem l_callB {k i : Nat} : pCallB n k i sem am e = match e[i]? with
  | some .hole => .bad
  | none => .bad
  | some _ => (am e).bind fun ds e1 => match e1[i]? with
    | some s => (match s.fz with
      | some d => (if ds.length + 1 = n ∧ k ≤ ds.length then (match sem (insT k (.leaf d) ds) with
        | .ok t _ => if t.flat = true then .ok t e1 else .bad
        | .exc C none => .exc C none e1
        | _ => .bad) else .bad)
      | none => .bad)
    | none => .bad := rfl
@[simp] theorem l_meth {m : String} {p : Pth} : pMeth C m n sem p am e = (p.ev e).bind fun r e1 => match getP p.root r e1 with
  | some (.is C1 fs) => (if C1 = C ∧ fs.lookup m = none then (am e1).bind fun ds e2 => (match getP p.root r e2 with
    | some (.is C2 fs2) => (if ds.length + 1 = n then (match sem (.is C2 fs2 :: ds.map .leaf) with
      | .ok t [w] => .ok t (setP p.root r w e2)
      | .exc C x => .exc C x (setP p.root r .hole e2)
      | _ => .bad) else .bad)
    | _ => .bad) else .bad)
  | _ => .bad := rfl
@[simp] theorem l_methB {m : String} {p : Pth} : pMethB C m n sem p am e = (p.ev e).bind fun r e1 => match getP p.root r e1 with
  | some (.is C1 fs) => (if C1 = C ∧ fs.lookup m = none then (am e1).bind fun ds e2 => (match getP p.root r e2 with
    | some (.is C2 fs2) => (match (T.is C2 fs2).fz with
      | some d => (if ds.length + 1 = n then (match sem (.leaf d :: ds.map .leaf) with
        | .ok t _ => if t.flat = true then .ok t e2 else .bad
        | .exc C none => .exc C none e2
        | _ => .bad) else .bad)
      | none => .bad)
    | _ => .bad) else .bad)
  | _ => .bad := rfl
@[simp] theorem l_methD {m : String} : pMethD C m n sem pa am e = (pa e).bind fun x e1 => match x with
  | .ins C1 fs => (if C1 = C ∧ fs.lookup m = none then (am e1).bind fun ds e2 => (if ds.length + 1 = n then callR (sem (.leaf (.ins C1 fs) :: ds.map .leaf)) e2 else .bad) else .bad)
  | _ => .bad := rfl
@[simp] theorem l_make : pMake C n sem am e = (am e).bind fun ds e1 => if ds.length + 1 = n then (match sem (.is C [] :: ds.map .leaf) with
  | .ok (.leaf .non) [w] => .ok w e1
  | _ => .bad) else .bad := rfl
@[simp] theorem pick_t {α : Type} {m : List Bool} {a : α} {l : List α} : pick (true :: m) (a :: l) = a :: pick m l := rfl
@[simp] theorem pick_f {α : Type} {m : List Bool} {a : α} {l : List α} : pick (false :: m) (a :: l) = pick m l := rfl
@[simp] theorem pick_n {α : Type} {l : List α} : pick [] l = [] := by cases l <;> rfl
@[simp] theorem f_fn {mask : List Bool} : pFn n mask m1 ts = if mask.length ≤ ts.length then (match m1 (ts ++ List.replicate (n - ts.length) .hole) with
  | .nx e => .ok (.leaf .non) (pick mask e)
  | .rt t e => .ok t (pick mask e)
  | .ex C x _ => .exc C x
  | _ => .bad) else .bad := rfl
end
/-! ### loops -/
section
variable {K : List Nat} {c : CT} {b : PS} {σ : Type}
theorem kill_set : ∀ (K : List Nat) (e : Env) (k : Nat), kill K (e.set k .hole) = (kill K e).set k .hole
  | [], e, k => rfl
  | j :: K, e, k => by
    rw [kill_cons, kill_cons]
    by_cases h : k = j
    · subst h; rw [List.set_set, kill_set K e k, List.set_set]
    · rw [List.set_comm _ _ h, kill_set K]
theorem kill_idem : ∀ (K : List Nat) (e : Env), kill K (kill K e) = kill K e
  | [], e => rfl
  | k :: K, e => by rw [kill_cons, kill_cons, kill_set, kill_idem K, kill_set, List.set_set]
/-- how a turn ends -/
def fin (K : List Nat) : PRS → PRS
  | .nx e => .nx (kill K e)
  | .ct e => .nx (kill K e)
  | .bk e => .bk (kill K e)
  | r => r
def turn (K : List Nat) (c : CT) (b : PS) (d : D) (e : Env) : PRS := match c.asg d e with
  | some e1 => fin K (b e1)
  | none => .bad
@[simp] theorem fin_nx {e : Env} : fin K (.nx e) = .nx (kill K e) := rfl
@[simp] theorem fin_ct {e : Env} : fin K (.ct e) = .nx (kill K e) := rfl
@[simp] theorem fin_bk {e : Env} : fin K (.bk e) = .bk (kill K e) := rfl
@[simp] theorem fin_rt {t : T} {e : Env} : fin K (.rt t e) = .rt t e := rfl
@[simp] theorem fin_ex {C : Nat} {x : Option (List (String × D))} {e : Env} : fin K (.ex C x e) = .ex C x e := rfl
@[simp] theorem turn_def {d : D} {e : Env} : turn K c b d e = match c.asg d e with | some e1 => fin K (b e1) | none => .bad := rfl
theorem for_nil {e : Env} : forL K c b [] e = .nx (kill K e) := rfl
theorem for_kill : ∀ (ds : List D) (e : Env), forL K c b ds (kill K e) = forL K c b ds e
  | [], e => by rw [for_nil, for_nil, kill_idem]
  | d :: ds, e => by unfold forL; rw [kill_idem]
theorem for_cons {d : D} {ds : List D} {e : Env} : forL K c b (d :: ds) e = match turn K c b d (kill K e) with
    | .nx e1 => forL K c b ds e1
    | .bk e1 => .nx e1
    | r => r := by
  conv => lhs; unfold forL
  unfold turn
  cases c.asg d (kill K e) with
  | none => rfl
  | some e1 =>
    simp only
    cases b e1 with
    | nx e2 => exact (for_kill ds e2).symm
    | ct e2 => exact (for_kill ds e2).symm
    | _ => rfl
theorem turn_kill {d : D} {e e1 : Env} (h1 : turn K c b d e = .nx e1) : kill K e1 = e1 := by
  unfold turn at h1
  cases q : c.asg d e with
  | none => rw [q] at h1; cases h1
  | some e2 =>
    rw [q] at h1
    simp only at h1
    cases q2 : b e2 with
    | nx e2 => rw [q2] at h1; cases h1; exact kill_idem _ _
    | ct e2 => rw [q2] at h1; cases h1; exact kill_idem _ _
    | _ => rw [q2] at h1; cases h1
/-- something holds between two turns -/
theorem for_inv (I : Nat → Env → Prop) : ∀ (ds : List D) {j : Nat} {e : Env}, I j (kill K e) → (∀ i d e, ds[i]? = some d → I (j + i) e → ∃ e1, turn K c b d e = .nx e1 ∧ I (j + i + 1) e1) → ∃ e1, forL K c b ds e = .nx e1 ∧ I (j + ds.length) e1
  | [], j, e, h, _ => ⟨_, for_nil, h⟩
  | d :: ds, j, e, h, st => by
    obtain ⟨e1, h1, p1⟩ := st 0 d _ rfl h
    rw [for_cons, h1]
    have := for_inv I ds (j := j + 1) (e := e1) (by rw [turn_kill h1]; exact p1) fun i d e hd p => by
      have := st (i + 1) d e (by simpa using hd) (by rw [show j + (i + 1) = j + 1 + i by omega]; exact p)
      rwa [show j + (i + 1) = j + 1 + i by omega] at this
    rwa [show j + (d :: ds).length = j + 1 + ds.length by simp; omega]
/-- a search -/
theorem for_find (E : Env) (p : D → Bool) (r : D → T) (g : D → Env) : ∀ (ds : List D) {e : Env}, kill K e = E → (∀ d, d ∈ ds → turn K c b d E = if p d = true then .rt (r d) (g d) else .nx E) → forL K c b ds e = match ds.find? p with
    | some d => .rt (r d) (g d)
    | none => .nx E
  | [], e, h, _ => by rw [for_nil, h]; rfl
  | d :: ds, e, h, st => by
    rw [for_cons, h, st d List.mem_cons_self]
    by_cases hp : p d = true
    · rw [if_pos hp, List.find?_cons_of_pos hp]
    · rw [if_neg hp, List.find?_cons_of_neg hp]
      exact for_find E p r g ds (by rw [← h, kill_idem]) fun d m => st d (List.mem_cons_of_mem _ m)
/-! while -/
theorem wh_kill {t : PB} : ∀ (n : Nat) (e : Env), whL K t b n (kill K e) = whL K t b n e
  | 0, _ => rfl
  | n + 1, e => by unfold whL; rw [kill_idem]
theorem wh_step {t : PB} {n : Nat} {e : Env} : whL K t b (n + 1) e = (t (kill K e)).st fun c e1 => if c = true then (match fin K (b e1) with
    | .nx e2 => whL K t b n e2
    | .bk e2 => .nx e2
    | r => r) else .nx e1 := by
  conv => lhs; unfold whL
  congr 1
  funext c e1
  by_cases h : c = true
  · rw [if_pos h, if_pos h]
    cases b e1 with
    | nx e2 => exact (wh_kill n e2).symm
    | ct e2 => exact (wh_kill n e2).symm
    | _ => rfl
  · rw [if_neg h, if_neg h]
/-- a while loop by what holds before each turn -/
theorem wh_inv {t : PB} (I : Nat → Env → Prop) (Z : Env → Prop)
    (st : ∀ k e, I k e → (∃ e1, t e = .ok false e1 ∧ Z e1) ∨ ∃ e1, t e = .ok true e1 ∧ ((∃ k' e2, k' < k ∧ fin K (b e1) = .nx e2 ∧ I k' e2) ∨ ∃ e2, fin K (b e1) = .bk e2 ∧ Z e2)) :
    ∀ (n k : Nat) (e : Env), k < n → I k (kill K e) → ∃ e1, whL K t b n e = .nx e1 ∧ Z e1
  | 0, _, _, z, _ => (Nat.not_lt_zero _ z).elim
  | n + 1, k, e, hk, p => by
    rw [wh_step]
    rcases st k _ p with ⟨e1, h1, z⟩ | ⟨e1, h1, ⟨k', e2, lk, h2, p2⟩ | ⟨e2, h2, z⟩⟩
    · rw [h1]; exact ⟨e1, rfl, z⟩
    · rw [h1, r_st, if_pos rfl, h2]
      have hk2 : kill K e2 = e2 := by
        cases q : b e1 with
        | nx e3 => rw [q] at h2; cases h2; exact kill_idem _ _
        | ct e3 => rw [q] at h2; cases h2; exact kill_idem _ _
        | _ => rw [q] at h2; cases h2
      exact wh_inv I Z st n k' e2 (by omega) (by rw [hk2]; exact p2)
    · rw [h1, r_st, if_pos rfl, h2]
      exact ⟨e2, rfl, z⟩
/-! comprehensions -/
def lcT1 (c : CT) (t : PB) (a : PE) (vs : List Nat) (d : D) (e : Env) : PR (Option D) := match c.asg d e with
  | some e1 => (t e1).no.bind fun b e2 => if b = true then (a e2).no.bind fun y e3 => .ok (some y) (kill vs e3) else .ok none (kill vs e2)
  | none => .bad
@[simp] theorem lcT1_def {t : PB} {a : PE} {vs : List Nat} {d : D} {e : Env} : lcT1 c t a vs d e = match c.asg d e with
  | some e1 => (t e1).no.bind fun b e2 => if b = true then (a e2).no.bind fun y e3 => .ok (some y) (kill vs e3) else .ok none (kill vs e2)
  | none => .bad := rfl
/-- a state is carried, something is asked of the items -/
theorem lc_inv {t : PB} {a : PE} {vs : List Nat} (I : Nat → List D → Env → Prop) : ∀ (ds acc : List D) {j : Nat} {e : Env}, acc.length + ds.length < 16000000 → I j acc (kill vs e) →
    (∀ i d acc e, ds[i]? = some d → I (j + i) acc e → ∃ o e1, lcT1 c t a vs d e = .ok o e1 ∧ I (j + i + 1) (acc ++ o.toList) e1) → ∃ r e1, (lcL c t a vs ds acc e).bind (fun r e => .ok r (kill vs e)) = .ok r e1 ∧ I (j + ds.length) r e1
  | [], acc, j, e, _, h, _ => ⟨acc, kill vs e, by unfold lcL; rfl, h⟩
  | d :: ds, acc, j, e, hz, h, st => by
    obtain ⟨o, e1, h1, p1⟩ := st 0 d acc _ rfl h
    have next := fun (acc' : List D) (hl : acc'.length ≤ acc.length + 1) (e2 : Env) (p : I (j + 1) acc' (kill vs e2)) => lc_inv I ds acc' (j := j + 1) (e := e2) (by simp at hz; omega) p fun i d acc e hd p => by
      have := st (i + 1) d acc e (by simpa using hd) (by rw [show j + (i + 1) = j + 1 + i by omega]; exact p)
      rwa [show j + (i + 1) = j + 1 + i by omega] at this
    rw [show j + (d :: ds).length = j + 1 + ds.length by simp; omega]
    unfold lcL
    unfold lcT1 at h1
    cases q : c.asg d (kill vs e) with
    | none => rw [q] at h1; cases h1
    | some e0 =>
      rw [q] at h1
      simp only at h1 ⊢
      cases q2 : t e0 with
      | bad => rw [q2] at h1; cases h1
      | exc C x e' => rw [q2] at h1; cases h1
      | ok bv e2 =>
        rw [q2] at h1
        cases bv with
        | false =>
          have h1 : PR.ok (none : Option D) (kill vs e2) = .ok o e1 := h1
          cases h1
          have p1 : I (j + 1) acc (kill vs e2) := by simpa using p1
          exact next acc (by omega) e2 p1
        | true =>
          have h1 : ((a e2).no.bind fun y e3 => PR.ok (some y) (kill vs e3)) = .ok o e1 := h1
          show ∃ r e1, PR.bind ((a e2).no.bind fun y e3 => if acc.length < 16000000 then lcL c t a vs ds (acc ++ [y]) e3 else .bad) _ = _ ∧ _
          cases q3 : a e2 with
          | bad => rw [q3] at h1; cases h1
          | exc C x e' => rw [q3] at h1; cases h1
          | ok y e3 =>
            rw [q3] at h1
            have h1 : PR.ok (some y) (kill vs e3) = .ok o e1 := h1
            cases h1
            rw [r_no, r_ok, if_pos (by simp at hz; omega)]
            exact next (acc ++ [y]) (by simp) e3 p1
def lcR (c : CT) (t : PB) (a : PE) (vs : List Nat) (ds : List D) (e : Env) : PR (List D) := (lcL c t a vs ds [] e).bind fun r e => .ok r (kill vs e)
@[simp] theorem v_lc {it : PDs} {t : PB} {a : PE} {vs : List Nat} {e : Env} : pLc it c t a vs e = (it e).bind fun ds e1 => (lcR c t a vs ds e1).bind fun r e2 => .ok (.ls r) e2 := by
  unfold pLc lcR
  cases it e with
  | bad => rfl
  | exc C x e1 => rfl
  | ok ds e1 => simp only [r_ok]; cases lcL c t a vs ds [] e1 <;> rfl
theorem rng_len {lo : Int} {n : Nat} : (rng lo n).length = n := by simp [rng]
theorem rng_get {lo : Int} {n i : Nat} {d : D} (h : (rng lo n)[i]? = some d) : i < n ∧ d = .int (lo + i) := by
  unfold rng at h
  rw [List.getElem?_map] at h
  cases q : (List.range n)[i]? with
  | none => rw [q] at h; cases h
  | some k =>
    rw [q] at h
    obtain ⟨a, b⟩ := List.getElem?_eq_some_iff.mp q
    simp at a b
    subst b
    cases h
    exact ⟨a, rfl⟩
theorem rng_mem {lo : Int} {n : Nat} {d : D} (h : d ∈ rng lo n) : ∃ i : Nat, i < n ∧ d = .int (lo + i) := by
  obtain ⟨i, a, rfl⟩ := List.mem_map.mp h
  exact ⟨i, by simpa using a, rfl⟩
/-! loops that stand in a goal: generalize hF : forL _ _ _ _ _ = F, then one of these -/
theorem for_st {F : PRS} {ds : List D} {e : Env} (hF : forL K c b ds e = F) (E : σ → Env) (R : Nat → σ → Prop) (s0 : σ) (h0 : kill K e = E s0) (r0 : R 0 s0)
    (st : ∀ i d s, ds[i]? = some d → R i s → ∃ s', turn K c b d (E s) = .nx (E s') ∧ R (i + 1) s') : ∃ s, F = .nx (E s) ∧ R ds.length s := by
  obtain ⟨e1, q, s, rfl, r⟩ := for_inv (K := K) (c := c) (b := b) (fun i e => ∃ s, e = E s ∧ R i s) ds (j := 0) (e := e) ⟨s0, h0, r0⟩ (by
    rintro i d e hd ⟨s, rfl, r⟩
    rw [Nat.zero_add] at r
    obtain ⟨s', a, b⟩ := st i d s hd r
    exact ⟨_, a, s', rfl, by rw [Nat.zero_add]; exact b⟩)
  rw [Nat.zero_add] at r
  exact ⟨s, hF.symm.trans q, r⟩
theorem for_fi {F : PRS} {ds : List D} {e : Env} (hF : forL K c b ds e = F) (E : Env) (p : D → Bool) (r : D → T) (g : D → Env) (h0 : kill K e = E) (st : ∀ d, d ∈ ds → turn K c b d E = if p d = true then .rt (r d) (g d) else .nx E) : F = match ds.find? p with
    | some d => .rt (r d) (g d)
    | none => .nx E := hF.symm.trans (for_find E p r g ds h0 st)
/-- nothing is carried, no turn ends the loop -/
theorem for_all {F : PRS} {ds : List D} {e : Env} (hF : forL K c b ds e = F) (E : Env) (h0 : kill K e = E) (st : ∀ d, d ∈ ds → turn K c b d E = .nx E) : F = .nx E := by
  have := for_fi hF E (fun _ => false) (fun _ => .hole) (fun _ => []) h0 (by intro d m; rw [st d m]; rfl)
  rw [this]
  cases q : ds.find? fun _ => false with
  | none => rfl
  | some d => have := List.find?_some q; cases this
theorem wh_st {t : PB} {n : Nat} {F : PRS} {e : Env} (hF : whL K t b n e = F) (E : σ → Env) (R : Nat → σ → Prop) (Z : Env → Prop) (k0 : Nat) (s0 : σ) (hk : k0 < n) (h0 : kill K e = E s0) (r0 : R k0 s0)
    (st : ∀ k s, R k s → (∃ e1, t (E s) = .ok false e1 ∧ Z e1) ∨ ∃ e1, t (E s) = .ok true e1 ∧ ((∃ k' s', k' < k ∧ fin K (b e1) = .nx (E s') ∧ R k' s') ∨ ∃ e2, fin K (b e1) = .bk e2 ∧ Z e2)) : ∃ e1, F = .nx e1 ∧ Z e1 := by
  obtain ⟨e1, q, z⟩ := wh_inv (K := K) (t := t) (b := b) (fun k e => ∃ s, e = E s ∧ R k s) Z (by
    rintro k e ⟨s, rfl, r⟩
    rcases st k s r with h | ⟨e1, a, ⟨k', s', l, a2, r2⟩ | h⟩
    · exact .inl h
    · exact .inr ⟨e1, a, .inl ⟨k', _, l, a2, s', rfl, r2⟩⟩
    · exact .inr ⟨e1, a, .inr h⟩) n k0 e hk ⟨s0, h0, r0⟩
  exact ⟨e1, hF.symm.trans q, z⟩
theorem lc_st {t : PB} {a : PE} {vs : List Nat} {F : PR (List D)} {ds : List D} {e : Env} (hF : lcR c t a vs ds e = F) (E : σ → Env) (R : Nat → List D → σ → Prop) (s0 : σ) (hz : ds.length < 16000000) (h0 : kill vs e = E s0) (r0 : R 0 [] s0)
    (st : ∀ i d acc s, ds[i]? = some d → R i acc s → ∃ o s', lcT1 c t a vs d (E s) = .ok o (E s') ∧ R (i + 1) (acc ++ o.toList) s') : ∃ r s, F = .ok r (E s) ∧ R ds.length r s := by
  obtain ⟨r, e1, q, s, rfl, p⟩ := lc_inv (c := c) (t := t) (a := a) (vs := vs) (fun i acc e => ∃ s, e = E s ∧ R i acc s) ds [] (j := 0) (e := e) (by simpa using hz) ⟨s0, h0, r0⟩ (by
    rintro i d acc e hd ⟨s, rfl, r⟩
    rw [Nat.zero_add] at r
    obtain ⟨o, s', a, b⟩ := st i d acc s hd r
    exact ⟨o, _, a, s', rfl, by rw [Nat.zero_add]; exact b⟩)
  rw [Nat.zero_add] at p
  exact ⟨r, s, hF.symm.trans q, p⟩
end
/-! dicts -/
section
variable {e : Env} {pa pb : PE} {kvs : List (DK × D)} {y : D} {i : Nat} {am : PDs}
@[simp] theorem d_get : gDGet (.dK kvs) y = (keyOf y).bind fun k => valK kvs k := rfl
@[simp] theorem d_getl : gDGet (.dKl kvs) y = (keyOf y).bind fun k => valK kvs k := rfl
@[simp] theorem d_in : cDIn y (.dK kvs) = (keyOf y).map fun k => (valK kvs k).isSome := by unfold cDIn; cases y <;> rfl
@[simp] theorem d_inl : cDIn y (.dKl kvs) = (keyOf y).map fun k => (valK kvs k).isSome := by unfold cDIn; cases y <;> rfl
@[simp] theorem d_nin {x : D} : cDNin y x = (cDIn y x).map not := rfl
@[simp] theorem d_new : pDNew e = .ok (.dK []) e := rfl
@[simp] theorem d_disp : pDisp am e = (am e).bind fun ds e1 => match pairsK ds with
  | some kvs => if kvs.length ≤ 15 then .ok (.dK (mergeP [] kvs)) e1 else .bad
  | none => .bad := rfl
@[simp] theorem d_set {p : Pth} : sSetK p pb pa e = (pa e).st fun d e1 => (p.ev e1).st fun r e2 => (pb e2).st fun x e3 => match keyOf x, getP p.root r e3 with
  | some k, some (.dK ds) => if ds.length < 16000000 then .nx (setP p.root r (.dK (putK ds k d)) e3) else .bad
  | _, _ => .bad := rfl
@[simp] theorem d_kv : iKv i e = match e[i]? with
  | some (.dK kvs) => .ok (kvs.map fun p => dkD p.1) (e.set i (.leaf (.dKl kvs)))
  | some (.leaf (.dKl kvs)) => .ok (kvs.map fun p => dkD p.1) e
  | _ => .bad := rfl
@[simp] theorem d_key : ∀ {k : DK}, keyOf (dkD k) = some k
  | .inl _ => rfl
  | .inr _ => rfl
@[simp] theorem d_keyi {j : Int} : keyOf (.int j) = some (.inl j) := rfl
@[simp] theorem d_keys {s : List Nat} : keyOf (.str s) = some (.inr s) := rfl
end
/-! more built-ins -/
section
variable {ds : List D} {f : List Int → Option Int} {fb : List Bool → Bool}
@[simp] theorem b_li : gLI f [.lst ds] = (intsD ds).bind fun ns => (f ns).map .int := rfl
@[simp] theorem b_lb : gLB fb [.lst ds] = (blsD ds).map fun bs => .bl (fb bs) := rfl
@[simp] theorem b_sortI : gSortI [.lst ds] = (intsD ds).map fun ns => .ls ((sortI ns).map .int) := rfl
@[simp] theorem b_intsD : ∀ ns : List Int, intsD (ns.map .int) = some ns
  | [] => rfl
  | n :: r => by simp [intsD, b_intsD r]
@[simp] theorem b_blsD : ∀ ns : List Bool, blsD (ns.map .bl) = some ns
  | [] => rfl
  | n :: r => by simp [blsD, b_blsD r]
end
/-! conditions that omega sees: simp (disch := omega) [if_le, if_lt] -/
theorem if_le {α : Type} {a b : Nat} {x y : α} (h : a ≤ b) : (if a ≤ b then x else y) = x := if_pos h
theorem if_lt {α : Type} {a b : Nat} {x y : α} (h : a < b) : (if a < b then x else y) = x := if_pos h
/-! membership -/
section
variable {f a : List Nat} {ds : List D} {i : Int}
@[simp] theorem D_eq_ss : D.eq (.str a) (.str f) = decide (f = a) := by
  simp only [D.eq]
  by_cases h : f = a
  · subst h; simp
  · simp [h]; intro z; exact absurd z.symm h
@[simp] theorem D_eq_ii {j : Int} : D.eq (.int j) (.int i) = decide (i = j) := by
  simp only [D.eq]
  by_cases h : i = j
  · subst h; simp
  · simp [h]; intro z; exact absurd z.symm h
@[simp] theorem D_eq_is : D.eq (.int i) (.str f) = false := by simp [D.eq]
@[simp] theorem D_eq_si : D.eq (.str f) (.int i) = false := by simp [D.eq]
@[simp] theorem atom_str : atom (.str f) = true := rfl
@[simp] theorem atom_int : atom (.int i) = true := rfl
@[simp] theorem atom_bl {b : Bool} : atom (.bl b) = true := rfl
@[simp] theorem atom_non : atom .non = true := rfl
@[simp] theorem atom_tup : atom (.tup ds) = false := rfl
@[simp] theorem atom_lst : atom (.lst ds) = false := rfl
@[simp] theorem c_in_st : cIn (.str f) (.tup ds) = if ds.all atom = true then some (ds.any fun y => D.eq y (.str f)) else none := by
  show (if (atom (.str f) && ds.all atom) = true then _ else _) = _
  simp
@[simp] theorem c_in_it : cIn (.int i) (.tup ds) = if ds.all atom = true then some (ds.any fun y => D.eq y (.int i)) else none := by
  show (if (atom (.int i) && ds.all atom) = true then _ else _) = _
  simp
end
/-! the greatest and the least -/
/-! texts, places, chains -/
section
variable {e : Env} {pa pb pc : PE} {s z : List Nat} {c k : Nat} {i : Int} {f f' : D → D → Option Bool} {ds : List D} {y : D} {ss : List (List Nat)}
@[simp] theorem x_ord : gOrd [.str [c]] = some (.int c) := rfl
@[simp] theorem x_chain : pChain f f' pa pb pc e = (pa e).bind fun x e1 => (pb e1).bind fun y e2 => (oE (f x y) e2).bind fun k e3 => if k = true then (pc e3).bind fun z e4 => (oE (f' y z) e4).bind fun k e5 => .ok (.bl k) e5 else .ok (.bl false) e3 := rfl
@[simp] theorem x_mulS : gMulS (.str s) (.int i) = if s.length * i.toNat ≤ 16000000 ∧ i.natAbs ≤ 1000000000 then some (.str (List.replicate i.toNat s).flatten) else none := rfl
@[simp] theorem x_inS : cInS (.str [c]) (.str z) = some (decide (c ∈ z)) := rfl
@[simp] theorem x_ninS : cNinS (.str [c]) (.str z) = some (!decide (c ∈ z)) := rfl
@[simp] theorem x_indexS : gIndexS s (.str [c]) = (s.findIdx? (· == c)).map fun (i : Nat) => D.int i := rfl
@[simp] theorem x_indexL : gIndexL (.lst ds) y = if ds.all atom = true ∧ atom y = true then (ds.findIdx? fun z => D.eq z y).map fun (i : Nat) => D.int i else none := rfl
@[simp] theorem x_pindexL : pIndexL pa pb e = (pa e).bind fun x e1 => match x with | .lst ds => (pb e1).bind fun y e2 => oE (gIndexL (.lst ds) y) e2 | _ => .bad := rfl
@[simp] theorem x_indexT : gIndexT ss [.str z] = (ss.findIdx? (· == z)).map fun (i : Nat) => D.int i := rfl
@[simp] theorem x_tryAs {ys : List Nat} {b w : PS} : sTryAs k ys b w e = match b e with
  | .ex C x e1 => if C ∈ ys ∧ x = none ∧ k < e1.length then (w (e1.set k .hole)).cl k else .bad
  | r => r := rfl
@[simp] theorem x_clnx : (PRS.nx e).cl k = .nx (e.set k .hole) := rfl
@[simp] theorem x_clrt {t : T} : (PRS.rt t e).cl k = .rt t (e.set k .hole) := rfl
end
/-! ### comprehensions whose items may raise -/
section
variable {α β : Type} {e : Env} {it : PDs} {c : CT} {t : PB} {a : PE} {vs : List Nat}
@[simp] theorem y_lcX : pLcX it c t a vs e = (it e).bind fun ds e1 => (lcLX c t a vs ds [] e1).kl vs .ls := rfl
@[simp] theorem y_klok {f : α → β} {x : α} : (PR.ok x e).kl vs f = .ok (f x) (kill vs e) := rfl
@[simp] theorem y_klex {f : α → β} {C : Nat} {x : Option (List (String × D))} : (PR.exc C x e : PR α).kl vs f = .exc C x (kill vs e) := rfl
end
theorem kA_eq (n : Nat) (i : Int) : kA n i = i := by
  induction n using Nat.strongRecOn with
  | _ n ih =>
    unfold kA
    split
    · rfl
    · exact ih _ (by omega)
@[simp] theorem kI_eq (i : Int) : kI i = i := kA_eq 1 i
end P

set_option Elab.async false
set_option linter.all false
set_option maxRecDepth 100000
set_option maxHeartbeats 1000000
/-! PLemB: how the rest of the pure meanings is reckoned. -/
namespace P
section
variable {α β : Type} {e e1 e2 E : Env} {d x : D} {ds us : List D} {n : Nat} {t : T} {ts : List T} {pa : PT} {pb : PE} {sem : PSem} {am : PDs} {at' : PTs} {p : Pth} {kvs : List (DK × D)} {it : PDs} {c : CT} {a : PT} {vs : List Nat}
@[simp] theorem w_lk : pLk pa e = (pa e).bind fun t e1 => match t with
  | .dK kvs => .ok (.dKl kvs) e1
  | .leaf (.dKl kvs) => .ok (.dKl kvs) e1
  | _ => .bad := rfl
@[simp] theorem w_callBP : pCallBP n sem p am e = (p.ev e).bind fun r e1 => (am e1).bind fun ds e2 => match getP p.root r e2 with
  | some t => (match t.fz with
    | some d => (if ds.length + 1 = n then (match sem (.leaf d :: ds.map .leaf) with
      | .ok t _ => if t.flat = true then .ok t e2 else .bad
      | .exc C none => .exc C none e2
      | _ => .bad) else .bad)
    | none => .bad)
  | none => .bad := rfl
@[simp] theorem w_callO : pCallO n sem at' e = (at' e).bind fun ts e1 => if ts.length = n then callR (sem ts) e1 else .bad := rfl
@[simp] theorem w_ixT : pIxT pa pb e = (pa e).bind fun t e1 => (pb e1).bind fun x e2 => match t, x with
  | .lT ts, .int i => oE (atI ts i) e2
  | _, _ => .bad := rfl
@[simp] theorem w_mvP : pMvP p e = (p.ev e).bind fun r e1 => match getP p.root r e1 with
  | some .hole => .bad
  | some (.leaf d) => .ok (.leaf d) e1
  | some t => .ok t (setP p.root r .hole e1)
  | none => .bad := rfl
@[simp] theorem w_sortS : gSortS [.lst ds] = srtS (strsD ds) := rfl
@[simp] theorem w_sortD : gSortD [.dK kvs] = srtS (keysS kvs) := rfl
@[simp] theorem w_sortDl : gSortD [.dKl kvs] = srtS (keysS kvs) := rfl
@[simp] theorem w_listD : gListD [.dK kvs] = some (.ls (kvs.map fun p => dkD p.1)) := rfl
@[simp] theorem w_listDl : gListD [.dKl kvs] = some (.ls (kvs.map fun p => dkD p.1)) := rfl
@[simp] theorem w_strs : ∀ ss : List (List Nat), strsD (ss.map .str) = some ss
  | [] => rfl
  | s :: r => by simp [strsD, w_strs r]
theorem flats_all : ∀ ds : List D, D.flats ds = ds.all D.flat
  | [] => by unfold D.flats; rfl
  | d :: ds => by unfold D.flats; rw [flats_all ds]; rfl
@[simp] theorem fl_tup : D.flat (.tup ds) = ds.all D.flat := by
  conv => lhs; unfold D.flat
  exact flats_all ds
@[simp] theorem fl_int {i : Int} : D.flat (.int i) = true := by unfold D.flat; rfl
@[simp] theorem fl_str {s : List Nat} : D.flat (.str s) = true := by unfold D.flat; rfl
@[simp] theorem fl_bl {b : Bool} : D.flat (.bl b) = true := by unfold D.flat; rfl
@[simp] theorem fl_non : D.flat .non = true := by unfold D.flat; rfl
@[simp] theorem tfl_leaf : T.flat (.leaf d) = d.flat := by unfold T.flat; rfl
@[simp] theorem tfl_ls : T.flat (.ls ds) = ds.all D.flat := by
  conv => lhs; unfold T.flat
  exact flats_all ds
theorem tflats_all : ∀ ts : List T, T.flats ts = ts.all T.flat
  | [] => by unfold T.flats; rfl
  | d :: ds => by unfold T.flats; rw [tflats_all ds]; rfl
@[simp] theorem tfl_lT : T.flat (.lT ts) = ts.all T.flat := by
  conv => lhs; unfold T.flat
  exact tflats_all ts
@[simp] theorem tfl_dK : T.flat (.dK kvs) = (kvs.map (·.2)).all D.flat := by
  conv => lhs; unfold T.flat
  exact flats_all _
@[simp] theorem tfl_nil : T.flatf [] = true := by unfold T.flatf; rfl
@[simp] theorem tfl_cons {g : String} {r : List (String × T)} : T.flatf ((g, t) :: r) = (t.flat && T.flatf r) := by
  conv => lhs; unfold T.flatf
@[simp] theorem tfl_is {C : Nat} {fs : List (String × T)} : T.flat (.is C fs) = T.flatf fs := by
  conv => lhs; unfold T.flat
end
end P

set_option Elab.async false
set_option linter.all false
set_option maxRecDepth 100000
set_option maxHeartbeats 1000000
/-! PLemC: how setdefault and *e are reckoned. -/
namespace P
section
variable {e : Env} {d x : D} {ds us : List D} {pb : PE} {am : PDs} {p : Pth} {kvs : List (DK × D)} {i : Int} {s : List Nat}
@[simp] theorem x_updD {f : T → List D → Option (D × T)} : pUpdD p am f e = (p.ev e).bind fun r e1 => match getP p.root r e1 with
  | some (.dK _) => (am e1).bind fun ds e2 => (match getP p.root r e2 with
    | some t => (match f t ds with
      | some (d, s) => .ok d (setP p.root r s e2)
      | none => .bad)
    | none => .bad)
  | _ => .bad := rfl
@[simp] theorem x_sdi : uSd (.dK kvs) [.int i, d] = (match valK kvs (.inl i) with
  | some y => some (y, .dK kvs)
  | none => if kvs.length < 16000000 then some (d, .dK (putK kvs (.inl i) d)) else none) := rfl
@[simp] theorem x_sds : uSd (.dK kvs) [.str s, d] = (match valK kvs (.inr s) with
  | some y => some (y, .dK kvs)
  | none => if kvs.length < 16000000 then some (d, .dK (putK kvs (.inr s) d)) else none) := rfl
@[simp] theorem x_sql : sqS (.lst us) = some us := rfl
@[simp] theorem x_sqk : sqS (.kl us) = some us := rfl
@[simp] theorem x_sqt : sqS (.tup us) = some us := rfl
@[simp] theorem x_star : dStar pb am e = (pb e).bind fun x e1 => match sqS x with
  | some us => (am e1).bind fun ys e2 => .ok (us ++ ys) e2
  | none => .bad := rfl
end
end P

set_option Elab.async false
set_option linter.all false
set_option maxRecDepth 100000
set_option maxHeartbeats 1000000
/-! PLemD: how get and list times number are reckoned. -/
namespace P
section
variable {e : Env} {x y z : D} {ds us : List D} {pa pb : PE} {am : PDs} {kvs : List (DK × D)} {k : Int}
@[simp] theorem x_get : pGet pa am e = (pa e).bind fun x e1 => match x with
  | .dK kvs => (am e1).bind fun ds e2 => oE (gG kvs ds) e2
  | .dKl kvs => (am e1).bind fun ds e2 => oE (gG kvs ds) e2
  | _ => .bad := rfl
@[simp] theorem x_g1 : gG kvs [y] = (keyOf y).map fun k => (valK kvs k).getD .non := rfl
@[simp] theorem x_g2 : gG kvs [y, z] = (keyOf y).map fun k => (valK kvs k).getD z := rfl
@[simp] theorem x_mulL : pMulL pa pb e = (pa e).bind fun x e1 => (pb e1).bind fun y e2 => oE (tMulL x y) e2 := rfl
@[simp] theorem x_tmulL : tMulL (.lst us) (.int k) = if us.length * k.toNat ≤ 16000000 ∧ k.natAbs ≤ 1000000000 then some (.ls (List.replicate k.toNat us).flatten) else none := rfl
end
end P

set_option Elab.async false
set_option linter.all false
set_option maxRecDepth 100000
set_option maxHeartbeats 1000000
/-! PLemE: how comprehensions of two clauses are reckoned. -/
namespace P
section
variable {it it1 : PDs} {c c1 : CT} {t t1 : PB} {a : PE} {vs vs1 : List Nat} {e : Env}
def lcR2 (c : CT) (t : PB) (it1 : PDs) (c1 : CT) (t1 : PB) (a : PE) (vs vs1 : List Nat) (ds : List D) (e : Env) : PR (List D) := (lcL2 c t it1 c1 t1 a vs vs1 ds [] e).bind fun r e => .ok r (kill vs e)
@[simp] theorem v_lc2 : pLc2 it c t it1 c1 t1 a vs vs1 e = (it e).bind fun ds e1 => (lcR2 c t it1 c1 t1 a vs vs1 ds e1).bind fun r e2 => .ok (.ls r) e2 := by
  unfold pLc2 lcR2
  cases it e with
  | ok ds e1 =>
    show (lcL2 c t it1 c1 t1 a vs vs1 ds [] e1).bind _ = _
    show _ = ((lcL2 c t it1 c1 t1 a vs vs1 ds [] e1).bind _).bind _
    cases lcL2 c t it1 c1 t1 a vs vs1 ds [] e1 <;> rfl
  | _ => rfl
end
end P

set_option Elab.async false
set_option linter.all false
set_option maxRecDepth 100000
set_option maxHeartbeats 1000000
/-! PLemF: how dict comprehensions, isupper and changes of lists that nobody owns are reckoned. -/
namespace P
section
variable {it : PDs} {c : CT} {t : PB} {pk pv a : PE} {o : PT} {am : PDs} {vs : List Nat} {e : Env} {s : List Nat} {g : T → List D → Option (D × T)} {x : Nat}
def dcR (c : CT) (t : PB) (pk pv : PE) (vs : List Nat) (ds : List D) (e : Env) : PR (List (DK × D)) := (dcL c t pk pv vs ds [] e).bind fun r e => .ok r (kill vs e)
@[simp] theorem v_dc : pDc it c t pk pv vs e = (it e).bind fun ds e1 => (dcR c t pk pv vs ds e1).bind fun r e2 => .ok (.dK r) e2 := by
  unfold pDc dcR
  cases it e with
  | ok ds e1 =>
    show (dcL c t pk pv vs ds [] e1).bind _ = _
    show _ = ((dcL c t pk pv vs ds [] e1).bind _).bind _
    cases dcL c t pk pv vs ds [] e1 <;> rfl
  | _ => rfl
@[simp] theorem v_sm0 {f : List Nat → Option D} : pSM0 f a e = (a e).bind fun x e1 => match x with | .str s => oE (f s) e1 | _ => .bad := rfl
@[simp] theorem x_up0 : gUp [] = some (.bl false) := rfl
@[simp] theorem x_up1 : gUp [x] = if x < 128 then some (.bl (decide (65 ≤ x) && decide (x ≤ 90))) else none := rfl
@[simp] theorem v_updT : pUpdT o am g e = (o e).bind fun t e1 => match t with
  | .ls xs => (am e1).bind fun ds e2 => (match g (.ls xs) ds with
    | some (d, _) => .ok d e2
    | none => .bad)
  | _ => .bad := rfl
end
end P

set_option Elab.async false
set_option linter.all false
set_option maxHeartbeats 1000000
/-! PLemG: how these are reckoned. -/
namespace P
section
variable {e : Env} {d x y : D} {ds us : List D} {pa pb : PE} {i j k : Int} {c : Nat} {s z : List Nat} {b : Bool} {g : List Nat → D → Option T}
@[simp] theorem z_mulW : gMulW (.int i) (.int j) = if cMulW i j then some (.int (i * j)) else none := rfl
@[simp] theorem z_divW : gDivW (.int i) (.int j) = if cDivW j then some (.int (i / j)) else none := rfl
@[simp] theorem z_mulT : gMulT (.tup us) (.int k) = if 0 < us.length ∧ 2 ≤ k ∧ k ≤ 1000 ∧ us.length ≤ 1000 then some (.tup (List.replicate k.toNat us).flatten) else none := rfl
@[simp] theorem z_strI : gStrV [.int i] = if i.natAbs.log2 < 1920 then some (.str (sInt i)) else none := rfl
@[simp] theorem z_strB : gStrV [.bl b] = some (.str (if b = true then kTrue else kFalse)) := rfl
@[simp] theorem z_split : gSplit s (.str [c]) = if s.length ≤ 16000000 then some (.ls ((splitC c s).map .str)) else none := rfl
@[simp] theorem z_sm1t : pSM1T g pa pb e = (pa e).bind fun x e1 => match x with | .str s => (pb e1).bind fun y e2 => oE (g s y) e2 | _ => .bad := rfl
@[simp] theorem z_repA : pRepA s c z pa e = (pa e).bind fun x e1 => match x with | .str t => if t.length * (z.length + 1) + z.length + s.length ≤ 1000000 then .ok (.str (s ++ replC c z t)) e1 else .bad | _ => .bad := rfl
@[simp] theorem z_extT : uExtT (.ls us) [.tup ds] = if us.length + ds.length ≤ 16000000 then some (.non, .ls (us ++ ds)) else none := rfl
@[simp] theorem z_eqE : cEqE (.tup us) (.tup []) = some us.isEmpty := rfl
theorem log2_lt {n b : Nat} (h : n < 2 ^ b) (hb : 0 < b) : n.log2 < b := by
  by_cases z : n = 0
  · subst z; simp; exact hb
  · exact (Nat.log2_lt z).mpr h
end
end P

set_option Elab.async false
set_option linter.all false
/-! PLemH: lemmas on PDefH. -/
namespace P
@[simp] theorem h_star {pd pk pv : PE} {e : Env} : pStar pd pk pv e = (pd e).bind fun d e1 => match sDK d with
  | some kvs => if kvs.length ≤ 16000000 then (pk e1).bind fun x e2 => (pv e2).bind fun y e3 => (match keyOf x with
      | some k => if (mergeP [] kvs).length < 16000000 then .ok (.dK (putK (mergeP [] kvs) k y)) e3 else .bad
      | none => .bad) else .bad
  | none => .bad := rfl
@[simp] theorem h_sdk {kvs : List (DK × D)} : sDK (.dK kvs) = some kvs := rfl
@[simp] theorem h_sdkl {kvs : List (DK × D)} : sDK (.dKl kvs) = some kvs := rfl
@[simp] theorem h_sortT {ds : List D} : gSortT [.lst ds] = (keysT ds).map fun ks => .ls (srtT ds ks) := rfl
@[simp] theorem h_upd {kvs more : List (DK × D)} : P.uUpd (.dK kvs) [.dK more] = if kvs.length + more.length ≤ 16000000 then some (.non, .dK (mergeP kvs more)) else none := rfl
@[simp] theorem h_leP {n m : Int} {p q : List Nat} : cLeP (.tup [.int n, .str p]) (.tup [.int m, .str q]) = some (decide (n < m ∨ (n = m ∧ p ≤ q))) := rfl
end P

set_option Elab.async false
set_option linter.all false
/-! PLemI: lemmas on PDefI. -/
namespace P
@[simp] theorem i_find {a : PE} {b : PDs} {e : Env} : pFind a b e = (a e).bind fun x e1 => match x with
  | .str s => (b e1).bind fun ds e2 => oE (gFind s ds) e2
  | _ => .bad := rfl
@[simp] theorem i_gfind {s : List Nat} {c : Nat} {i : Int} : gFind s [.str [c], .int i] = if 0 ≤ i then some (.int (fdF s c i.toNat)) else none := rfl
end P

set_option Elab.async false
set_option linter.all false
/-! PLemJ: lemmas on PDefJ. -/
namespace P
@[simp] theorem j_raiseF {C : Nat} {f : String} {q : D → Bool} {pe : PE} {e : Env} : sRaiseF C f q pe e = (pe e).st fun d e1 => if q d = true then .ex C (some [(f, d)]) e1 else .bad := rfl
@[simp] theorem j_isInt {i : Int} : isIntD (.int i) = decide (i.natAbs < 2 ^ 100) := rfl
@[simp] theorem j_tryAsF {k : Nat} {ys : List Nat} {f : String} {b w : PS} {e : Env} : sTryAsF k ys f b w e = match b e with
  | .ex C x e1 => (match x with
    | some fs => if C ∈ ys ∧ k < e1.length then (match fs.lookup f with
      | some d => (w (e1.set k (.leaf d))).cl k
      | none => .bad) else .bad
    | none => .bad)
  | r => r := rfl
@[simp] theorem j_intS {s : List Nat} : gIntS [.str s] = if s.all isDig = true ∧ s ≠ [] ∧ s.length ≤ 640 then some (.int (dVal s)) else none := rfl
end P

set_option Elab.async false
set_option linter.all false
set_option maxRecDepth 100000
set_option maxHeartbeats 2000000
/-! PLaw: what many laws share. -/
namespace P
def lawMix : PSem := pFn 3 [] (sSeq (sAsg 2 (pLf (pBin gMod (pCB gInt (dCons (pFz (pAdd (pFz (pAdd (pBin gMul (pCB gInt (dCons (pVar 0) dNil)) (pC (.int 48271))) (pBin gMul (pVar 1) (pC (.int 69621))))) (pC (.int 12345)))) dNil)) (pC (.int 2147483647)))))
    (sSeq (sAsg 2 (pLf (pBin gMod (pCB gInt (dCons (pFz (pAdd (pFz (pAdd (pBin gMul (pVar 2) (pVar 2)) (pBin gMul (pVar 1) (pC (.int 40692))))) (pC (.int 1)))) dNil)) (pC (.int 2147483399)))))
    (sRet (pLf (pBin gMod (pBin gDiv (pVar 2) (pC (.int 5))) (pC (.int 9973)))))))
def lawDraws : PSem := pFn 5 [] (sSeq (sAsg 1 (pLst dNil))
    (sSeq (sFor [2, 3, 4] (iR1 (dCons (pCB gMin (dCons (pC (.int 63)) (dCons (pCB gLen (dCons (pVar 0) dNil)) dNil))) dNil)) (.one 2) (sSeq (sAsg 3 (pLf (pCB gInt (dCons (pBin gIx (pVar 0) (pVar 2)) dNil))))
    (sIf (tCmp cLt (pVar 3) (pBin gPow (pC (.int 10)) (pC (.int 18)))) (sDrop (pLf (pUpd (.var 1) (dCons (pFz (pCall 2 lawMix (dCons (pVar 3) (dCons (pVar 2) dNil)))) dNil) uApp))) (sFor [4] (iR1 (dCons (pC (.int 60)) dNil)) (.one 4) (sIf (tCmp cGt (pVar 3) (pC (.int 0))) (sSeq (sDrop (pLf (pUpd (.var 1) (dCons (pBin gMod (pCB gInt (dCons (pVar 3) dNil)) (pC (.int 9973))) dNil) uApp)))
    (sAsg 3 (pLf (pBin gDiv (pVar 3) (pC (.int 9973)))))) sNx)))))
    (sRet (pMv 1))))
def lawAt : PSem := pFn 2 [] (sSeq (sIf (tCmp cLt (pVar 1) (pCB gLen (dCons (pVar 0) dNil))) (sRet (pLf (pBin gIx (pVar 0) (pVar 1)))) sNx)
    (sSeq (sIf (tCmp cEq (pCB gLen (dCons (pVar 0) dNil)) (pC (.int 0))) (sRet (pCall 2 lawMix (dCons (pVar 1) (dCons (pC (.int 77)) dNil)))) sNx)
    (sRet (pCall 2 lawMix (dCons (pFz (pAdd (pBin gIx (pVar 0) (pBin gMod (pCB gInt (dCons (pVar 1) dNil)) (pCB gLen (dCons (pVar 0) dNil)))) (pBin gMul (pVar 1) (pC (.int 131))))) (dCons (pVar 1) dNil))))))
def lawNext : PSem := pFn 2 [true] (sSeq (sAugI gIAdd (.var 0) (pC (.int 1)) (pC (.int 1)))
    (sRet (pLf (pBin gMod (pFz (pCall 2 lawAt (dCons (pBin gIx (pVw 0) (pC (.int 0))) (dCons (pBin gIx (pVw 0) (pC (.int 1))) dNil)))) (pVar 1)))))
def lawIsInt : PSem := pFn 1 [] (sRet (pLf (pAnd (pB (tIs .int (pVar 0))) (pUn gNot (pB (tIs .bool (pVar 0)))))))
def lawSame : Nat → PSem
  | 0 => fun _ => .bad
  | n + 1 => pFn 3 [] (sSeq (sIf (tIs2 .list .tuple (pVar 1)) (sSeq (sIf (tOr (tCmp cNe (pB (tIs .list (pVar 1))) (pB (tIs .list (pVar 0)))) (tCmp cNe (pB (tIs .tuple (pVar 1))) (pB (tIs .tuple (pVar 0))))) (sRet (pLf (pC (.bl false)))) sNx)
    (sSeq (sIf (tCmp cNe (pCB gLen (dCons (pVar 0) dNil)) (pCB gLen (dCons (pVar 1) dNil))) (sRet (pLf (pC (.bl false)))) sNx)
    (sSeq (sFor [2] (iR1 (dCons (pCB gLen (dCons (pVar 1) dNil)) dNil)) (.one 2) (sIf (tNot (tTru (pFz (pCall 2 (lawSame n) (dCons (pBin gIx (pVar 0) (pVar 2)) (dCons (pBin gIx (pVar 1) (pVar 2)) dNil)))))) (sRet (pLf (pC (.bl false)))) sNx))
    (sRet (pLf (pC (.bl true))))))) sNx)
    (sSeq (sIf (tCmp cIs (pVar 1) (pC .non)) (sRet (pLf (pB (tCmp cIs (pVar 0) (pC .non))))) sNx)
    (sSeq (sIf (tIs .bool (pVar 1)) (sRet (pLf (pAnd (pB (tIs .bool (pVar 0))) (pB (tCmp cEq (pVar 0) (pVar 1)))))) sNx)
    (sSeq (sIf (tIs .int (pVar 1)) (sRet (pLf (pAnd (pFz (pCall 1 lawIsInt (dCons (pVar 0) dNil))) (pB (tCmp cEq (pVar 0) (pVar 1)))))) sNx)
    (sRet (pLf (pAnd (pB (tIs .str (pVar 0))) (pB (tCmp cEq (pVar 0) (pVar 1))))))))))
/-- lists of natural numbers -/
abbrev In (l : List Nat) : List D := l.map fun (n : Nat) => D.int (n : Int)
def mixF (c k : Int) : Int :=
  ((c * 48271 + k * 69621 + 12345) % 2147483647 * ((c * 48271 + k * 69621 + 12345) % 2147483647) + k * 40692 + 1) % 2147483399 / 5 % 9973
theorem mixF_bd (c k : Int) : 0 ≤ mixF c k ∧ mixF c k < 9973 := ⟨Int.emod_nonneg _ (by decide), Int.emod_lt_of_pos _ (by decide)⟩
def mixN (c k : Int) : Nat := (mixF c k).toNat
theorem mixN_eq (c k : Int) : mixF c k = (mixN c k : Int) := by have := mixF_bd c k; unfold mixN; omega
theorem lawMix_ok (c k : Int) : lawMix [.leaf (.int c), .leaf (.int k)] = .ok (.leaf (.int (mixN c k))) [] := by
  rw [← mixN_eq]
  have h1 : 0 ≤ (c * 48271 + k * 69621 + 12345) % 2147483647 := Int.emod_nonneg _ (by decide)
  have h2 : (c * 48271 + k * 69621 + 12345) % 2147483647 < 2147483647 := Int.emod_lt_of_pos _ (by decide)
  unfold lawMix mixF
  simp
  generalize (c * 48271 + k * 69621 + 12345) % 2147483647 = z at h1 h2 ⊢
  have h3 : cMul z z := cMul_l' (by omega) (by omega)
  simp [h3]
/-- all draws are small -/
def Dr (vs : List Nat) : Prop := ∀ v ∈ vs, v < 9973
/-- what _law_at gives -/
def atN (vs : List Nat) (i : Nat) : Nat :=
  if i < vs.length then vs.getD i 0 else if vs = [] then mixN i 77 else mixN (vs.getD (i % vs.length) 0 + i * 131) i
theorem lawAt_int {vs : List Nat} {j : Int} (h : 0 ≤ j) : lawAt [.leaf (.lst (In vs)), .leaf (.int j)] = .ok (.leaf (.int (atN vs j.toNat))) [] := by
  unfold lawAt atN
  have ej : ((j.toNat : Nat) : Int) = j := Int.toNat_of_nonneg h
  simp only [ej]
  by_cases c : j < vs.length
  · have c' : j.toNat < vs.length := by omega
    have hg : atI (In vs) j = some (.int (vs.getD j.toNat 0 : Nat)) := by
      rw [atI_pos h, List.getElem?_map, List.getD_eq_getElem?_getD, List.getElem?_eq_getElem c']; rfl
    simp [c, c', hg]
  · have c' : ¬ j.toNat < vs.length := by omega
    by_cases z : vs = []
    · have h0 : ¬ j < 0 := by omega
      subst z; simp [lawMix_ok, h0]
    · have hp : 0 < vs.length := List.length_pos_iff.mpr z
      have hm : j.toNat % vs.length < vs.length := Nat.mod_lt _ hp
      have e1 : atI (In vs) (j % (vs.length : Int)) = some (.int (vs.getD (j.toNat % vs.length) 0 : Nat)) := by
        have : j % (vs.length : Int) = ((j.toNat % vs.length : Nat) : Int) := by rw [Int.natCast_emod, ej]
        rw [this, atI_nat, List.getElem?_map, List.getD_eq_getElem?_getD, List.getElem?_eq_getElem hm]; rfl
      have hl : ¬ (vs.length : Int) = 0 := by omega
      generalize vs.getD (j.toNat % vs.length) 0 = w at e1 ⊢
      simp [c, c', z, hp, e1, lawMix_ok]
theorem lawAt_ok (vs : List Nat) (i : Nat) : lawAt [.leaf (.lst (In vs)), .leaf (.int i)] = .ok (.leaf (.int (atN vs i))) [] := lawAt_int (by omega)
/-- the state of a drawing -/
abbrev stT (vs : List Nat) (i : Nat) : T := .ls [.lst (In vs), .int (i : Int)]
theorem lawNext_ok {vs : List Nat} (i : Nat) {L : Int} (h : 0 < L) : lawNext [stT vs i, .leaf (.int L)] = .ok (.leaf (.int ((atN vs (i + 1) : Int) % L))) [stT vs (i + 1)] := by
  have e1 : lawAt [.leaf (.lst (In vs)), .leaf (.int ((i : Int) + 1))] = .ok (.leaf (.int (atN vs (i + 1)))) [] := lawAt_ok vs (i + 1)
  have e2 : T.ls [.lst (In vs), .int ((i + 1 : Nat) : Int)] = T.ls [.lst (In vs), .int ((i : Int) + 1)] := rfl
  unfold lawNext stT
  rw [e2]
  simp [ixN, e1, h]
theorem nx (vs : List Nat) (i : Nat) {L : Int} (h : 0 < L) : ∃ v : Nat, (v : Int) < L ∧ lawNext [stT vs i, .leaf (.int L)] = .ok (.leaf (.int v)) [stT vs (i + 1)] := by
  have h1 := Int.emod_nonneg (atN vs (i + 1) : Int) (show L ≠ 0 by omega)
  refine ⟨((atN vs (i + 1) : Int) % L).toNat, ?_, ?_⟩
  · rw [Int.toNat_of_nonneg h1]; exact Int.emod_lt_of_pos _ h
  · rw [lawNext_ok i h, Int.toNat_of_nonneg h1]
/-- nested at most so deep, no list too long, no dict -/
def D.sm : Nat → D → Bool
  | 0, _ => false
  | _, .non => true
  | _, .bl _ => true
  | _, .int _ => true
  | _, .str _ => true
  | n + 1, .tup ds => decide (ds.length ≤ 1000000) && ds.all (D.sm n)
  | n + 1, .lst ds => decide (ds.length ≤ 1000000) && ds.all (D.sm n)
  | _, _ => false
@[simp] theorem sm_int {n : Nat} {i : Int} : D.sm (n + 1) (.int i) = true := rfl
@[simp] theorem sm_str {n : Nat} {i : List Nat} : D.sm (n + 1) (.str i) = true := rfl
@[simp] theorem sm_bl {n : Nat} {i : Bool} : D.sm (n + 1) (.bl i) = true := rfl
@[simp] theorem sm_non {n : Nat} : D.sm (n + 1) .non = true := rfl
@[simp] theorem sm_tup {n : Nat} {ds : List D} : D.sm (n + 1) (.tup ds) = (decide (ds.length ≤ 1000000) && ds.all (D.sm n)) := rfl
@[simp] theorem sm_lst {n : Nat} {ds : List D} : D.sm (n + 1) (.lst ds) = (decide (ds.length ≤ 1000000) && ds.all (D.sm n)) := rfl
/-! equality of data -/
mutual
theorem D.eq_refl : ∀ {d : D} {n : Nat}, D.ok n d = true → D.eq d d = true
  | .non, _, _ => by simp [D.eq]
  | .bl b, _, _ => by simp [D.eq]
  | .int b, _, _ => by simp [D.eq]
  | .str b, _, _ => by simp [D.eq]
  | .tup ds, 0, h => by simp [D.ok] at h
  | .tup ds, n + 1, h => by simp only [D.ok] at h; simp only [D.eq]; exact D.eqs_refl h
  | .lst ds, 0, h => by simp [D.ok] at h
  | .lst ds, n + 1, h => by simp only [D.ok] at h; simp only [D.eq]; exact D.eqs_refl h
  | .kl _, n, h => by cases n <;> simp [D.ok] at h
  | .dK _, n, h => by cases n <;> simp [D.ok] at h
  | .dT _, n, h => by cases n <;> simp [D.ok] at h
  | .dKl _, n, h => by cases n <;> simp [D.ok] at h
  | .ins _ _, n, h => by cases n <;> simp [D.ok] at h
theorem D.eqs_refl : ∀ {ds : List D} {n : Nat}, D.oks n ds = true → D.eqs ds ds = true
  | [], _, _ => by simp [D.eqs]
  | d :: ds, n, h => by
    unfold D.oks at h
    rw [Bool.and_eq_true] at h
    unfold D.eqs
    rw [D.eq_refl h.1, D.eqs_refl h.2]; rfl
end
@[simp] theorem oks_nil {n : Nat} : D.oks n [] = true := by unfold D.oks; rfl
@[simp] theorem oks_cons {n : Nat} {d : D} {ds : List D} : D.oks n (d :: ds) = (D.ok n d && D.oks n ds) := by conv => lhs; unfold D.oks
theorem oks_all {n : Nat} : ∀ {ds : List D}, D.oks n ds = ds.all (D.ok n)
  | [] => by simp
  | d :: ds => by simp [oks_all (ds := ds)]
@[simp] theorem ok_int {n : Nat} {i : Int} : D.ok n (.int i) = true := by cases n <;> simp [D.ok]
@[simp] theorem ok_bl {n : Nat} {i : Bool} : D.ok n (.bl i) = true := by cases n <;> simp [D.ok]
@[simp] theorem ok_non {n : Nat} : D.ok n .non = true := by cases n <;> simp [D.ok]
@[simp] theorem ok_str {n : Nat} {s : List Nat} : D.ok n (.str s) = s.all (· < 1114112) := by cases n <;> simp [D.ok]
@[simp] theorem ok_tup {n : Nat} {ds : List D} : D.ok (n + 1) (.tup ds) = D.oks n ds := by simp [D.ok]
@[simp] theorem ok_lst {n : Nat} {ds : List D} : D.ok (n + 1) (.lst ds) = D.oks n ds := by simp [D.ok]
theorem oks_In {n : Nat} {l : List Nat} : D.oks n (In l) = true := by rw [oks_all]; simp
theorem eqs_In : ∀ {l m : List Nat}, D.eqs (In l) (In m) = decide (l = m)
  | [], [] => by simp [D.eqs]
  | [], _ :: _ => by simp [D.eqs]
  | _ :: _, [] => by simp [D.eqs]
  | x :: l, y :: m => by
    simp only [List.map_cons, D.eqs, D.eq]
    rw [eqs_In (l := l) (m := m)]
    by_cases h : x = y
    · subst h; simp
    · have : ¬ (x : Int) = (y : Int) := by omega
      simp [h, this]
@[simp] theorem cEq_In {l m : List Nat} : cEq (.lst (In l)) (.lst (In m)) = some (decide (l = m)) := by
  unfold cEq
  have : (D.ok 50 (.lst (In l)) && D.ok 50 (.lst (In m))) = true := by
    rw [ok_lst, ok_lst, oks_In, oks_In]; rfl
  rw [this]
  simp [D.eq, eqs_In]
end P

set_option Elab.async false
set_option linter.all false
set_option maxRecDepth 100000
set_option maxHeartbeats 2000000
/-! PLawB: what the laws k20 to k33 share. -/
namespace P
def lawNextB : PSem := pFn 4 [true] (sSeq (sIf (tAnd (tCmp cEq (pBin gIx (pVw 0) (pC (.int 2))) (pC (.int 0))) (tCmp cLt (pBin gIx (pVw 0) (pC (.int 1))) (pCB gLen (dCons (pBin gIx (pVw 0) (pC (.int 0))) dNil)))) (sSeq (sAsg 2 (pLf (pBin gIx (pBin gIx (pVw 0) (pC (.int 0))) (pBin gIx (pVw 0) (pC (.int 1))))))
    (sSeq (sAugI gIAdd (.var 0) (pC (.int 1)) (pC (.int 1)))
    (sIf (tCmp cGe (pVar 2) (pBin gPow (pC (.int 10)) (pC (.int 18)))) (sSetI (.var 0) (pC (.int 2)) (pVar 2)) (sSetI (.var 0) (pC (.int 3)) (pBin gMod (pCB gInt (dCons (pFz (pAdd (pFz (pAdd (pBin gMul (pBin gIx (pVw 0) (pC (.int 3))) (pC (.int 48271))) (pBin gMod (pCB gInt (dCons (pVar 2) dNil)) (pC (.int 2147483647))))) (pC (.int 7)))) dNil)) (pC (.int 2147483647))))))) sNx)
    (sSeq (sIf (tCmp cGt (pBin gIx (pVw 0) (pC (.int 2))) (pC (.int 0))) (sSeq (sAsg 3 (pLf (pBin gMod (pCB gInt (dCons (pBin gIx (pVw 0) (pC (.int 2))) dNil)) (pVar 1))))
    (sSeq (sSetI (.var 0) (pC (.int 2)) (pBin gDiv (pBin gIx (pVw 0) (pC (.int 2))) (pVar 1)))
    (sRet (pLf (pVar 3))))) sNx)
    (sSeq (sSetI (.var 0) (pC (.int 3)) (pBin gMod (pCB gInt (dCons (pFz (pAdd (pBin gMul (pBin gIx (pVw 0) (pC (.int 3))) (pC (.int 69621))) (pC (.int 12345)))) dNil)) (pC (.int 2147483647))))
    (sRet (pLf (pBin gMod (pCB gInt (dCons (pBin gDiv (pBin gIx (pVw 0) (pC (.int 3))) (pC (.int 7))) dNil)) (pVar 1)))))))
def lawSameB : Nat → PSem
  | 0 => fun _ => .bad
  | n + 1 => pFn 3 [] (sSeq (sIf (tCmp cIs (pVar 1) (pC .non)) (sRet (pLf (pB (tCmp cIs (pVar 0) (pC .non))))) sNx)
    (sSeq (sIf (tIs .bool (pVar 1)) (sRet (pLf (pAnd (pB (tIs .bool (pVar 0))) (pB (tCmp cEq (pVar 0) (pVar 1)))))) sNx)
    (sSeq (sIf (tIs .int (pVar 1)) (sRet (pLf (pAnd (pB (tIs .int (pVar 0))) (pAnd (pUn gNot (pB (tIs .bool (pVar 0)))) (pB (tCmp cEq (pVar 0) (pVar 1))))))) sNx)
    (sSeq (sIf (tIs .str (pVar 1)) (sRet (pLf (pAnd (pB (tIs .str (pVar 0))) (pB (tCmp cEq (pVar 0) (pVar 1)))))) sNx)
    (sSeq (sIf (tAnd (tIs .tuple (pVar 1)) (tNot (tIs .tuple (pVar 0)))) (sRet (pLf (pC (.bl false)))) sNx)
    (sSeq (sIf (tAnd (tIs .list (pVar 1)) (tNot (tIs .list (pVar 0)))) (sRet (pLf (pC (.bl false)))) sNx)
    (sSeq (sIf (tCmp cNe (pCB gLen (dCons (pVar 0) dNil)) (pCB gLen (dCons (pVar 1) dNil))) (sRet (pLf (pC (.bl false)))) sNx)
    (sSeq (sFor [2] (iR1 (dCons (pCB gLen (dCons (pVar 1) dNil)) dNil)) (.one 2) (sIf (tNot (tTru (pFz (pCall 2 (lawSameB n) (dCons (pBin gIx (pVar 0) (pVar 2)) (dCons (pBin gIx (pVar 1) (pVar 2)) dNil)))))) (sRet (pLf (pC (.bl false)))) sNx))
    (sRet (pLf (pC (.bl true))))))))))))
/-- the state of a drawing -/
structure NS where
  ns : List Int
  i : Nat
  a : Int
  b : Int
def NS.one (s : NS) : NS := if s.a = 0 ∧ s.i < s.ns.length then (if 1000000000000000000 ≤ s.ns.getD s.i 0 then { s with i := s.i + 1, a := s.ns.getD s.i 0 } else { s with i := s.i + 1, b := (s.b * 48271 + s.ns.getD s.i 0 % 2147483647 + 7) % 2147483647 }) else s
def nxS (s : NS) (L : Int) : NS := if 0 < s.one.a then { s.one with a := s.one.a / L } else { s.one with b := (s.one.b * 69621 + 12345) % 2147483647 }
def nxV (s : NS) (L : Int) : Int := if 0 < s.one.a then s.one.a % L else ((s.one.b * 69621 + 12345) % 2147483647) / 7 % L
theorem nxV_pos (s : NS) {L : Int} (h : 0 < L) : 0 ≤ nxV s L := by
  unfold nxV; split <;> exact Int.emod_nonneg _ (by omega)
theorem nxV_lt (s : NS) {L : Int} (h : 0 < L) : nxV s L < L := by
  unfold nxV; split <;> exact Int.emod_lt_of_pos _ h
abbrev stB (s : NS) (r : List D) : T := .ls (.lst (s.ns.map .int) :: .int s.i :: .int s.a :: .int s.b :: r)
theorem lawNextB_ok (s : NS) (r : List D) {L : Int} (h : 0 < L) (h2 : L.natAbs < 1073741824) : lawNextB [stB s r, .leaf (.int L)] = .ok (.leaf (.int (nxV s L))) [stB (nxS s L) r] := by
  obtain ⟨ns, i, a, b⟩ := s
  have hix : ∀ n : Nat, 4 ≤ n → ixN n 0 = some 0 ∧ ixN n 1 = some 1 ∧ ixN n 2 = some 2 ∧ ixN n 3 = some 3 := fun n hn => by
    unfold ixN; refine ⟨?_, ?_, ?_, ?_⟩ <;> rw [if_pos (by decide), if_pos (by omega)] <;> rfl
  have q := hix (r.length + 1 + 1 + 1 + 1) (by omega)
  unfold lawNextB nxV nxS NS.one stB
  by_cases c : a = 0 ∧ i < ns.length
  · obtain ⟨rfl, ci⟩ := c
    have hg : ns[i]? = some ns[i] := List.getElem?_eq_getElem ci
    by_cases c2 : 1000000000000000000 ≤ ns[i]
    · have c3 : (0 : Int) < ns[i] := by omega
      simp [q, ci, hg, c2, c3, h, h2]
    · simp [q, ci, hg, c2, h, h2]
  · have c' : ¬ (a = 0 ∧ (i : Int) < ns.length) := fun z => c ⟨z.1, by omega⟩
    by_cases c3 : 0 < a
    · have c4 : ¬ a = 0 := by omega
      simp [q, c3, c4, h, h2]
    · by_cases c4 : a = 0
      · subst c4
        have ci : ¬ i < ns.length := fun z => c ⟨rfl, z⟩
        simp [q, ci, h, h2]
      · simp [q, c3, c4, h, h2]
theorem lawSameB_ok : ∀ (n : Nat) (d : D), D.sm n d = true → lawSameB n [.leaf d, .leaf d] = .ok (.leaf (.bl true)) []
  | 0, d, h => by simp [D.sm] at h
  | n + 1, .non, h => by unfold lawSameB; simp [isD, cIs]
  | n + 1, .bl b, h => by unfold lawSameB; simp [isD, cIs]
  | n + 1, .int b, h => by unfold lawSameB; simp [isD, cIs]
  | n + 1, .str b, h => by unfold lawSameB; simp [isD, cIs]
  | n + 1, .tup ds, h => by
    simp only [D.sm, Bool.and_eq_true, decide_eq_true_eq, List.all_eq_true] at h
    have hz : ds.length ≤ 1000000000 := by omega
    unfold lawSameB; simp [isD, hz, cIs]
    generalize hF : forL _ _ _ _ _ = F
    have := for_all hF [.leaf (.tup ds), .leaf (.tup ds), .hole] (by simp) (by
      intro d m
      obtain ⟨i, hi, rfl⟩ := rng_mem m
      have hg : ds[i]? = some ds[i] := List.getElem?_eq_getElem hi
      have ih := lawSameB_ok n ds[i] (h.2 _ (List.getElem_mem hi))
      simp [hg, ih])
    subst this
    simp
  | n + 1, .lst ds, h => by
    simp only [D.sm, Bool.and_eq_true, decide_eq_true_eq, List.all_eq_true] at h
    have hz : ds.length ≤ 1000000000 := by omega
    unfold lawSameB; simp [isD, hz, cIs]
    generalize hF : forL _ _ _ _ _ = F
    have := for_all hF [.leaf (.lst ds), .leaf (.lst ds), .hole] (by simp) (by
      intro d m
      obtain ⟨i, hi, rfl⟩ := rng_mem m
      have hg : ds[i]? = some ds[i] := List.getElem?_eq_getElem hi
      have ih := lawSameB_ok n ds[i] (h.2 _ (List.getElem_mem hi))
      simp [hg, ih])
    subst this
    simp
  | n + 1, .kl ds, h => by simp [D.sm] at h
  | n + 1, .dK ds, h => by simp [D.sm] at h
  | n + 1, .dT ds, h => by simp [D.sm] at h
  | n + 1, .dKl ds, h => by simp [D.sm] at h
  | n + 1, .ins _ ds, h => by simp [D.sm] at h
end P

set_option Elab.async false
set_option linter.all false
set_option maxRecDepth 100000
set_option maxHeartbeats 2000000
/-! PLawC: the drawing of k25 to k28 (great limits). -/
namespace P
def lawNextW : PSem := pFn 4 [true] (sSeq (sIf (tAnd (tCmp cEq (pBin gIx (pVw 0) (pC (.int 2))) (pC (.int 0))) (tCmp cLt (pBin gIx (pVw 0) (pC (.int 1))) (pCB gLen (dCons (pBin gIx (pVw 0) (pC (.int 0))) dNil)))) (sSeq (sAsg 2 (pLf (pBin gIx (pBin gIx (pVw 0) (pC (.int 0))) (pBin gIx (pVw 0) (pC (.int 1))))))
    (sSeq (sAugI gIAdd (.var 0) (pC (.int 1)) (pC (.int 1)))
    (sIf (tCmp cGe (pVar 2) (pBin gPow (pC (.int 10)) (pC (.int 18)))) (sSetI (.var 0) (pC (.int 2)) (pVar 2)) (sSetI (.var 0) (pC (.int 3)) (pBin gMod (pCB gInt (dCons (pFz (pAdd (pFz (pAdd (pBin gMul (pBin gIx (pVw 0) (pC (.int 3))) (pC (.int 48271))) (pBin gMod (pCB gInt (dCons (pVar 2) dNil)) (pC (.int 2147483647))))) (pC (.int 7)))) dNil)) (pC (.int 2147483647))))))) sNx)
    (sSeq (sIf (tCmp cGt (pBin gIx (pVw 0) (pC (.int 2))) (pC (.int 0))) (sSeq (sAsg 3 (pLf (pBin gMod (pCB gInt (dCons (pBin gIx (pVw 0) (pC (.int 2))) dNil)) (pVar 1))))
    (sSeq (sSetI (.var 0) (pC (.int 2)) (pBin gDivW (pBin gIx (pVw 0) (pC (.int 2))) (pVar 1)))
    (sRet (pLf (pVar 3))))) sNx)
    (sSeq (sSetI (.var 0) (pC (.int 3)) (pBin gMod (pCB gInt (dCons (pFz (pAdd (pBin gMul (pBin gIx (pVw 0) (pC (.int 3))) (pC (.int 69621))) (pC (.int 12345)))) dNil)) (pC (.int 2147483647))))
    (sRet (pLf (pBin gMod (pCB gInt (dCons (pBin gDivW (pBin gIx (pVw 0) (pC (.int 3))) (pC (.int 7))) dNil)) (pVar 1)))))))
end P

set_option Elab.async false
set_option linter.all false
set_option maxRecDepth 100000
set_option maxHeartbeats 4000000
namespace LAW
open PySem PySem.Spec PyProof.Rows L2 TL Q
noncomputable def m_law_next (cc : Nat → Nat) : Sem' := fnM 4 (mSeq (mIfS (bAnd (bCmp cEq (mBin uIx (mVar 0) (mC (.int 2))) (mC (.int 0))) (bCmp cLt (mBin uIx (mVar 0) (mC (.int 1))) (mCB uLen (aCons (mBin uIx (mVar 0) (mC (.int 0))) aNil)))) (mSeq (mAsg (.one 2) (mBin uIx (mBin uIx (mVar 0) (mC (.int 0))) (mBin uIx (mVar 0) (mC (.int 1)))))
    (mSeq (mAugI uIxL uIAdd uSetL (mVar 0) (mC (.int 1)) (mC (.int 1)))
    (mIfS (bCmp cGe (mVar 2) (mBin uPow (mC (.int 10)) (mC (.int 18)))) (mSetI uSetL (mVar 0) (mC (.int 2)) (mVar 2)) (mSetI uSetL (mVar 0) (mC (.int 3)) (mBin uMod (mCB uInt (aCons (mBin uAdd (mBin uAdd (mBin uMul (mBin uIx (mVar 0) (mC (.int 3))) (mC (.int 48271))) (mBin uMod (mCB uInt (aCons (mVar 2) aNil)) (mC (.int 2147483647)))) (mC (.int 7))) aNil)) (mC (.int 2147483647))))))) mNx)
    (mSeq (mIfS (bCmp cGt (mBin uIx (mVar 0) (mC (.int 2))) (mC (.int 0))) (mSeq (mAsg (.one 3) (mBin uMod (mCB uInt (aCons (mBin uIx (mVar 0) (mC (.int 2))) aNil)) (mVar 1)))
    (mSeq (mSetI uSetL (mVar 0) (mC (.int 2)) (mBin uDiv (mBin uIx (mVar 0) (mC (.int 2))) (mVar 1)))
    (mRet (mVar 3)))) mNx)
    (mSeq (mSetI uSetL (mVar 0) (mC (.int 3)) (mBin uMod (mCB uInt (aCons (mBin uAdd (mBin uMul (mBin uIx (mVar 0) (mC (.int 3))) (mC (.int 69621))) (mC (.int 12345))) aNil)) (mC (.int 2147483647))))
    (mRet (mBin uMod (mCB uInt (aCons (mBin uDiv (mBin uIx (mVar 0) (mC (.int 3))) (mC (.int 7))) aNil)) (mVar 1))))))
noncomputable def m_law_gap (cc : Nat → Nat) : Sem' := fnM 4 (mSeq (mAsg (.one 2) (mC (.str [])))
    (mSeq (mFor (itR1 (aCons (mCall 2 (m_law_next cc) (aCons (mVar 0) (aCons (mC (.int 3)) aNil))) aNil)) (.one 3) (mAsg (.one 2) (mBin uAdd (mVar 2) (mBin uIx (mC (.str [32, 10])) (mCall 2 (m_law_next cc) (aCons (mVar 0) (aCons (mC (.int 2)) aNil)))))))
    (mSeq (mIfS (bAnd (bTru (mVar 1)) (bCmp cEq (mVar 2) (mC (.str [])))) (mRet (mC (.str [32]))) mNx)
    (mRet (mVar 2)))))
noncomputable def m_law_same (cc : Nat → Nat) : Nat → Sem'
  | 0 => fun _ _ => .bad
  | n + 1 => fnM 3 (mSeq (mIfS (bCmp cIs (mVar 1) (mC .non)) (mRet (mB (bCmp cIs (mVar 0) (mC .non)))) mNx)
    (mSeq (mIfS (bIs .bool (mVar 1)) (mRet (mAnd (mB (bIs .bool (mVar 0))) (mB (bCmp cEq (mVar 0) (mVar 1))))) mNx)
    (mSeq (mIfS (bIs .int (mVar 1)) (mRet (mAnd (mB (bIs .int (mVar 0))) (mAnd (mNot (mB (bIs .bool (mVar 0)))) (mB (bCmp cEq (mVar 0) (mVar 1)))))) mNx)
    (mSeq (mIfS (bIs .str (mVar 1)) (mRet (mAnd (mB (bIs .str (mVar 0))) (mB (bCmp cEq (mVar 0) (mVar 1))))) mNx)
    (mSeq (mIfS (bAnd (bIs .tuple (mVar 1)) (bNot (bIs .tuple (mVar 0)))) (mRet (mC (.bl false))) mNx)
    (mSeq (mIfS (bAnd (bIs .list (mVar 1)) (bNot (bIs .list (mVar 0)))) (mRet (mC (.bl false))) mNx)
    (mSeq (mIfS (bCmp cNe (mCB uLen (aCons (mVar 0) aNil)) (mCB uLen (aCons (mVar 1) aNil))) (mRet (mC (.bl false))) mNx)
    (mSeq (mFor (itR1 (aCons (mCB uLen (aCons (mVar 1) aNil)) aNil)) (.one 2) (mIfS (bNot (bTru (mCall 2 (m_law_same cc n) (aCons (mBin uIx (mVar 0) (mVar 2)) (aCons (mBin uIx (mVar 1) (mVar 2)) aNil))))) (mRet (mC (.bl false))) mNx))
    (mRet (mC (.bl true)))))))))))
noncomputable def m_law_keywords (cc : Nat → Nat) : Sem' := fnM 1 (mSeq (mAsg (.one 0) (mC (.str [100, 97, 116, 97, 32, 102, 117, 110, 32, 99, 101, 108, 108, 32, 118, 105, 101, 119, 32, 97, 99, 116, 32, 116, 117, 114, 110, 32, 116, 104, 101, 110, 32, 116, 114, 117, 101, 32, 102, 97, 108, 115, 101, 32, 110, 111, 116, 32, 97, 110, 100, 32, 111, 114, 32, 105, 102, 32, 101, 108, 115, 101, 32, 108, 101, 116, 32, 105, 110, 32, 99, 97, 115, 101, 32, 111, 102, 32, 101, 110, 100, 32, 110, 117, 109, 32, 116, 101, 120, 116, 32, 98, 111, 111, 108, 32, 108, 105, 115, 116, 32, 109, 111, 100])))
    (mRet (mSM1 uSplit (mVar 0) (mC (.str [32])))))
noncomputable def m_law_word (cc : Nat → Nat) : Sem' := fnM 5 (mSeq (mAsg (.one 2) (mC (.str [97, 98, 99, 100, 101, 102, 103, 104, 105, 106, 107, 108, 109, 110, 111, 112, 113, 114, 115, 116, 117, 118, 119, 120, 121, 122, 65, 66, 67, 68, 69, 70, 71, 72, 73, 74, 75, 76, 77, 78, 79, 80, 81, 82, 83, 84, 85, 86, 87, 88, 89, 90, 48, 49, 50, 51, 52, 53, 54, 55, 56, 57, 95])))
    (mSeq (mAsg (.one 3) (mBin uIx (mVar 1) (mCall 2 (m_law_next cc) (aCons (mVar 0) (aCons (mC (.int 26)) aNil)))))
    (mSeq (mFor (itR1 (aCons (mCall 2 (m_law_next cc) (aCons (mVar 0) (aCons (mC (.int 5)) aNil))) aNil)) (.one 4) (mAsg (.one 3) (mBin uAdd (mVar 3) (mBin uIx (mVar 2) (mCall 2 (m_law_next cc) (aCons (mVar 0) (aCons (mC (.int 63)) aNil)))))))
    (mSeq (mIfS (bCmp cIn (mVar 3) (mCall 0 (m_law_keywords cc) aNil)) (mAsg (.one 3) (mBin uAdd (mVar 3) (mC (.str [95])))) mNx)
    (mRet (mVar 3))))))
noncomputable def m_law_name (cc : Nat → Nat) : Sem' := fnM 1 (mRet (mCall 2 (m_law_word cc) (aCons (mVar 0) (aCons (mC (.str [97, 98, 99, 100, 101, 102, 103, 104, 105, 106, 107, 108, 109, 110, 111, 112, 113, 114, 115, 116, 117, 118, 119, 120, 121, 122])) aNil))))
noncomputable def m_law_maker (cc : Nat → Nat) : Sem' := fnM 1 (mRet (mCall 2 (m_law_word cc) (aCons (mVar 0) (aCons (mC (.str [65, 66, 67, 68, 69, 70, 71, 72, 73, 74, 75, 76, 77, 78, 79, 80, 81, 82, 83, 84, 85, 86, 87, 88, 89, 90])) aNil))))
noncomputable def m_law_digits (cc : Nat → Nat) : Sem' := fnM 3 (mRet (mSM1 uJoin (mC (.str [])) (mLc (itR1 (aCons (mVar 1) aNil)) (.one 2) bYes (mCB uStr (aCons (mCall 2 (m_law_next cc) (aCons (mVar 0) (aCons (mC (.int 10)) aNil))) aNil)) [2])))
noncomputable def m_law_quoted (cc : Nat → Nat) : Sem' := fnM 1 (mRet (mBin uAdd (mRepA [39] 39 [39, 39] (mVar 0)) (mC (.str [39]))))
noncomputable def m_law_char (cc : Nat → Nat) : Sem' := fnM 2 (mSeq (mAsg (.one 1) (mC (.str [32, 39, 33, 34, 35, 36, 38, 40, 41, 42, 43, 44, 45, 46, 47, 48, 49, 50, 51, 52, 53, 54, 55, 56, 57, 58, 59, 60, 61, 62, 63, 64, 65, 66, 67, 68, 69, 70, 71, 72, 73, 74, 75, 76, 77, 78, 79, 80, 81, 82, 83, 84, 85, 86, 87, 88, 89, 90, 91, 92, 93, 94, 95, 96])))
    (mSeq (mAsg (.one 1) (mBin uAdd (mVar 1) (mC (.str [97, 98, 99, 100, 101, 102, 103, 104, 105, 106, 107, 108, 109, 110, 111, 112, 113, 114, 115, 116, 117, 118, 119, 120, 121, 122, 123, 124, 125, 126, 10]))))
    (mRet (mBin uIx (mVar 1) (mBin uMod (mCB uInt (aCons (mVar 0) aNil)) (mC (.int 95)))))))
noncomputable def m_law_token (cc : Nat → Nat) : Sem' := fnM 10 (mSeq (mAsg (.one 1) (mCall 2 (m_law_next cc) (aCons (mVar 0) (aCons (mC (.int 12)) aNil))))
    (mSeq (mIfS (bCmp cLt (mVar 1) (mC (.int 2))) (mSeq (mAsg (.one 2) (mBin uIx (mCall 0 (m_law_keywords cc) aNil) (mCall 2 (m_law_next cc) (aCons (mVar 0) (aCons (mC (.int 24)) aNil)))))
    (mRet (mTup (aCons (mC (.str [107, 101, 121, 119, 111, 114, 100])) (aCons (mVar 2) (aCons (mVar 2) aNil)))))) mNx)
    (mSeq (mIfS (bCmp cLt (mVar 1) (mC (.int 4))) (mSeq (mAsg (.one 3) (mCall 1 (m_law_name cc) (aCons (mVar 0) aNil)))
    (mRet (mTup (aCons (mC (.str [110, 97, 109, 101])) (aCons (mVar 3) (aCons (mVar 3) aNil)))))) mNx)
    (mSeq (mIfS (bCmp cLt (mVar 1) (mC (.int 6))) (mSeq (mAsg (.one 4) (mCall 1 (m_law_maker cc) (aCons (mVar 0) aNil)))
    (mRet (mTup (aCons (mC (.str [109, 97, 107, 101, 114])) (aCons (mVar 4) (aCons (mVar 4) aNil)))))) mNx)
    (mSeq (mIfS (bCmp cLt (mVar 1) (mC (.int 8))) (mSeq (mAsg (.one 5) (mCall 2 (m_law_digits cc) (aCons (mVar 0) (aCons (mBin uAdd (mC (.int 1)) (mCall 2 (m_law_next cc) (aCons (mVar 0) (aCons (mC (.int 18)) aNil)))) aNil))))
    (mRet (mTup (aCons (mC (.str [110, 117, 109, 98, 101, 114])) (aCons (mCB uIntS (aCons (mVar 5) aNil)) (aCons (mVar 5) aNil)))))) mNx)
    (mSeq (mIfS (bCmp cLt (mVar 1) (mC (.int 10))) (mSeq (mAsg (.one 6) (mSM1 uJoin (mC (.str [])) (mLc (itR1 (aCons (mCall 2 (m_law_next cc) (aCons (mVar 0) (aCons (mC (.int 6)) aNil))) aNil)) (.one 7) bYes (mCall 1 (m_law_char cc) (aCons (mCall 2 (m_law_next cc) (aCons (mVar 0) (aCons (mC (.int 95)) aNil))) aNil)) [7])))
    (mSeq (mIfS (bCmp cEq (mCall 2 (m_law_next cc) (aCons (mVar 0) (aCons (mC (.int 20)) aNil))) (mC (.int 19))) (mAsg (.one 6) (mBin uAdd (mVar 6) (mBin uMulS (mC (.str [113, 39])) (mC (.int 150))))) mNx)
    (mRet (mTup (aCons (mC (.str [116, 101, 120, 116])) (aCons (mVar 6) (aCons (mCall 1 (m_law_quoted cc) (aCons (mVar 6) aNil)) aNil))))))) mNx)
    (mSeq (mAsg (.one 8) (mLst (aCons (mC (.str [40])) (aCons (mC (.str [41])) (aCons (mC (.str [91])) (aCons (mC (.str [93])) (aCons (mC (.str [44])) (aCons (mC (.str [59])) (aCons (mC (.str [124])) (aCons (mC (.str [61])) (aCons (mC (.str [60])) (aCons (mC (.str [43])) (aCons (mC (.str [45])) (aCons (mC (.str [42])) (aCons (mC (.str [47])) (aCons (mC (.str [58])) (aCons (mC (.str [43, 43])) (aCons (mC (.str [58, 58])) (aCons (mC (.str [45, 62])) (aCons (mC (.str [58, 61])) aNil))))))))))))))))))))
    (mSeq (mAsg (.one 9) (mBin uIx (mVar 8) (mCall 2 (m_law_next cc) (aCons (mVar 0) (aCons (mC (.int 18)) aNil)))))
    (mRet (mTup (aCons (mC (.str [115, 105, 103, 110])) (aCons (mVar 9) (aCons (mVar 9) aNil)))))))))))))
noncomputable def m_run_end (cc : Nat → Nat) : Sem' := fnM 4 (mSeq (mAsg (.one 3) (mVar 1))
    (mSeq (mWhile 1000000 (bAnd (bCmp cLt (mVar 3) (mCB uLen (aCons (mVar 0) aNil))) (bCmp cInS (mBin uIx (mVar 0) (mVar 3)) (mVar 2))) (mAug uIAdd 3 (mC (.int 1))))
    (mRet (mVar 3))))
noncomputable def m_read_word (cc : Nat → Nat) : Sem' := fnM 4 (mSeq (mAsg (.one 2) (mCall 3 (m_run_end cc) (aCons (mVar 0) (aCons (mVar 1) (aCons (mC (.str [97, 98, 99, 100, 101, 102, 103, 104, 105, 106, 107, 108, 109, 110, 111, 112, 113, 114, 115, 116, 117, 118, 119, 120, 121, 122, 65, 66, 67, 68, 69, 70, 71, 72, 73, 74, 75, 76, 77, 78, 79, 80, 81, 82, 83, 84, 85, 86, 87, 88, 89, 90, 48, 49, 50, 51, 52, 53, 54, 55, 56, 57, 95])) aNil)))))
    (mSeq (mAsg (.one 3) (mSl (mVar 0) (oSome (mVar 1)) (oSome (mVar 2))))
    (mSeq (mIfS (bCmp cInS (mBin uIx (mVar 0) (mVar 1)) (mC (.str [65, 66, 67, 68, 69, 70, 71, 72, 73, 74, 75, 76, 77, 78, 79, 80, 81, 82, 83, 84, 85, 86, 87, 88, 89, 90]))) (mRet (mTup (aCons (mC (.str [109, 97, 107, 101, 114])) (aCons (mVar 3) (aCons (mVar 2) aNil))))) mNx)
    (mSeq (mIfS (bCmp cIn (mVar 3) (mC (.tup [.str [100, 97, 116, 97], .str [102, 117, 110], .str [99, 101, 108, 108], .str [118, 105, 101, 119], .str [97, 99, 116], .str [116, 117, 114, 110], .str [116, 104, 101, 110], .str [116, 114, 117, 101], .str [102, 97, 108, 115, 101], .str [110, 111, 116], .str [97, 110, 100], .str [111, 114], .str [105, 102], .str [101, 108, 115, 101], .str [108, 101, 116], .str [105, 110], .str [99, 97, 115, 101], .str [111, 102], .str [101, 110, 100], .str [110, 117, 109], .str [116, 101, 120, 116], .str [98, 111, 111, 108], .str [108, 105, 115, 116], .str [109, 111, 100]]))) (mRet (mTup (aCons (mC (.str [107, 101, 121, 119, 111, 114, 100])) (aCons (mVar 3) (aCons (mVar 2) aNil))))) mNx)
    (mRet (mTup (aCons (mC (.str [110, 97, 109, 101])) (aCons (mVar 3) (aCons (mVar 2) aNil)))))))))
noncomputable def m_read_number (cc : Nat → Nat) : Sem' := fnM 3 (mSeq (mAsg (.one 2) (mCall 3 (m_run_end cc) (aCons (mVar 0) (aCons (mVar 1) (aCons (mC (.str [48, 49, 50, 51, 52, 53, 54, 55, 56, 57])) aNil)))))
    (mSeq (mIfS (bCmp cGt (mBin uSub (mVar 2) (mVar 1)) (mC (.int 18))) (mRaiseF (cc 0) "position" isIntU (mVar 1)) mNx)
    (mRet (mTup (aCons (mC (.str [110, 117, 109, 98, 101, 114])) (aCons (mCB uIntS (aCons (mSl (mVar 0) (oSome (mVar 1)) (oSome (mVar 2))) aNil)) (aCons (mVar 2) aNil)))))))
noncomputable def m_read_text (cc : Nat → Nat) : Sem' := fnM 5 (mSeq (mAsg (.one 2) (mLst aNil))
    (mSeq (mAsg (.one 3) (mBin uAdd (mVar 1) (mC (.int 1))))
    (mSeq (mAsg (.one 4) (mFind (mVar 0) (aCons (mC (.str [39])) (aCons (mVar 3) aNil))))
    (mSeq (mWhile 1000000 (bAnd (bCmp cGe (mVar 4) (mC (.int 0))) (bCmp cEq (mSl (mVar 0) (oSome (mBin uAdd (mVar 4) (mC (.int 1)))) (oSome (mBin uAdd (mVar 4) (mC (.int 2))))) (mC (.str [39])))) (mSeq (mDrop (mLM uApp (mVar 2) (aCons (mSl (mVar 0) (oSome (mVar 3)) (oSome (mBin uAdd (mVar 4) (mC (.int 1))))) aNil)))
    (mSeq (mAsg (.one 3) (mBin uAdd (mVar 4) (mC (.int 2))))
    (mAsg (.one 4) (mFind (mVar 0) (aCons (mC (.str [39])) (aCons (mVar 3) aNil)))))))
    (mSeq (mIfS (bCmp cLt (mVar 4) (mC (.int 0))) (mRaiseF (cc 0) "position" isIntU (mVar 1)) mNx)
    (mSeq (mDrop (mLM uApp (mVar 2) (aCons (mSl (mVar 0) (oSome (mVar 3)) (oSome (mVar 4))) aNil)))
    (mRet (mTup (aCons (mC (.str [116, 101, 120, 116])) (aCons (mSM1 uJoin (mC (.str [])) (mVar 2)) (aCons (mBin uAdd (mVar 4) (mC (.int 1))) aNil)))))))))))
noncomputable def m_read_token (cc : Nat → Nat) : Sem' := fnM 3 (mSeq (mAsg (.one 2) (mBin uIx (mVar 0) (mVar 1)))
    (mSeq (mIfS (bOr (bCmp cInS (mVar 2) (mC (.str [97, 98, 99, 100, 101, 102, 103, 104, 105, 106, 107, 108, 109, 110, 111, 112, 113, 114, 115, 116, 117, 118, 119, 120, 121, 122]))) (bCmp cInS (mVar 2) (mC (.str [65, 66, 67, 68, 69, 70, 71, 72, 73, 74, 75, 76, 77, 78, 79, 80, 81, 82, 83, 84, 85, 86, 87, 88, 89, 90])))) (mRet (mCall 2 (m_read_word cc) (aCons (mVar 0) (aCons (mVar 1) aNil)))) mNx)
    (mSeq (mIfS (bCmp cInS (mVar 2) (mC (.str [48, 49, 50, 51, 52, 53, 54, 55, 56, 57]))) (mRet (mCall 2 (m_read_number cc) (aCons (mVar 0) (aCons (mVar 1) aNil)))) mNx)
    (mSeq (mIfS (bCmp cEq (mVar 2) (mC (.str [39]))) (mRet (mCall 2 (m_read_text cc) (aCons (mVar 0) (aCons (mVar 1) aNil)))) mNx)
    (mSeq (mIfS (bCmp cIn (mSl (mVar 0) (oSome (mVar 1)) (oSome (mBin uAdd (mVar 1) (mC (.int 2))))) (mC (.tup [.str [43, 43], .str [58, 58], .str [45, 62], .str [58, 61]]))) (mRet (mTup (aCons (mC (.str [115, 105, 103, 110])) (aCons (mSl (mVar 0) (oSome (mVar 1)) (oSome (mBin uAdd (mVar 1) (mC (.int 2))))) (aCons (mBin uAdd (mVar 1) (mC (.int 2))) aNil))))) mNx)
    (mSeq (mIfS (bCmp cIn (mVar 2) (mC (.tup [.str [40], .str [41], .str [91], .str [93], .str [44], .str [59], .str [124], .str [61], .str [60], .str [43], .str [45], .str [42], .str [47], .str [58]]))) (mRet (mTup (aCons (mC (.str [115, 105, 103, 110])) (aCons (mVar 2) (aCons (mBin uAdd (mVar 1) (mC (.int 1))) aNil))))) mNx)
    (mRaiseF (cc 0) "position" isIntU (mVar 1))))))))
noncomputable def m_tokenize (cc : Nat → Nat) : Sem' := fnM 6 (mSeq (mAsg (.one 1) (mLst aNil))
    (mSeq (mAsg (.one 2) (mC (.int 0)))
    (mSeq (mWhile 1000000 (bCmp cLt (mVar 2) (mCB uLen (aCons (mVar 0) aNil))) (mIfS (bCmp cIn (mBin uIx (mVar 0) (mVar 2)) (mTup (aCons (mC (.str [32])) (aCons (mC (.str [10])) aNil)))) (mAug uIAdd 2 (mC (.int 1))) (mSeq (mAsg (.tup [3, 4, 5]) (mCall 2 (m_read_token cc) (aCons (mVar 0) (aCons (mVar 2) aNil))))
    (mSeq (mDrop (mLM uApp (mVar 1) (aCons (mTup (aCons (mVar 3) (aCons (mVar 4) (aCons (mVar 2) aNil)))) aNil)))
    (mAsg (.one 2) (mVar 5))))))
    (mRet (mVar 1)))))
noncomputable def m_law_read (cc : Nat → Nat) : Sem' := fnM 2 (mTryAsF 1 [(cc 0)] "position" (mRet (mTup (aCons (mC (.str [116, 111, 107, 101, 110, 115])) (aCons (mCall 1 (m_tokenize cc) (aCons (mVar 0) aNil)) aNil)))) (mRet (mTup (aCons (mC (.str [114, 101, 102, 117, 115, 101, 100])) (aCons (mVar 1) (aCons (mAnd (mC (.bl true)) (mC (.bl true))) aNil))))))
noncomputable def m_law_joins (cc : Nat → Nat) : Sem' := fnM 5 (mSeq (mAsg (.one 2) (mC (.str [97, 98, 99, 100, 101, 102, 103, 104, 105, 106, 107, 108, 109, 110, 111, 112, 113, 114, 115, 116, 117, 118, 119, 120, 121, 122, 65, 66, 67, 68, 69, 70, 71, 72, 73, 74, 75, 76, 77, 78, 79, 80, 81, 82, 83, 84, 85, 86, 87, 88, 89, 90])))
    (mSeq (mAsg (.one 3) (mBin uIx (mVar 0) (mC (.int 0))))
    (mSeq (mAsg (.one 4) (mBin uIx (mVar 1) (mC (.int 0))))
    (mSeq (mIfS (bCmp cInS (mVar 3) (mVar 2)) (mRet (mB (bCmp cInS (mVar 4) (mBin uAdd (mVar 2) (mC (.str [48, 49, 50, 51, 52, 53, 54, 55, 56, 57, 95])))))) mNx)
    (mSeq (mIfS (bCmp cInS (mVar 3) (mC (.str [48, 49, 50, 51, 52, 53, 54, 55, 56, 57]))) (mRet (mB (bCmp cInS (mVar 4) (mC (.str [48, 49, 50, 51, 52, 53, 54, 55, 56, 57]))))) mNx)
    (mSeq (mIfS (bCmp cEq (mVar 3) (mC (.str [39]))) (mRet (mB (bCmp cEq (mVar 4) (mC (.str [39]))))) mNx)
    (mRet (mAnd (mB (bCmp cIn (mVar 0) (mLst (aCons (mC (.str [43])) (aCons (mC (.str [58])) aNil))))) (mB (bCmp cInS (mVar 4) (mC (.str [43, 58, 61]))))))))))))
noncomputable def m_law (cc : Nat → Nat) : Sem' := fnM 13 (mSeq (mAsg (.one 1) (mLst (aCons (mCB uList (aCons (mVar 0) aNil)) (aCons (mC (.int 0)) (aCons (mC (.int 0)) (aCons (mC (.int 1)) aNil))))))
    (mSeq (mAsg (.one 2) (mCall 2 (m_law_next cc) (aCons (mVar 1) (aCons (mC (.int 25)) aNil))))
    (mSeq (mIfS (bCmp cEq (mCall 2 (m_law_next cc) (aCons (mVar 1) (aCons (mC (.int 5)) aNil))) (mC (.int 4))) (mAsg (.one 2) (mCall 2 (m_law_next cc) (aCons (mVar 1) (aCons (mC (.int 151)) aNil)))) mNx)
    (mSeq (mAsg (.one 3) (mCall 2 (m_law_gap cc) (aCons (mVar 1) (aCons (mC (.bl false)) aNil))))
    (mSeq (mAsg (.one 4) (mLst aNil))
    (mSeq (mAsg (.one 5) (mC (.str [32])))
    (mSeq (mFor (itR1 (aCons (mVar 2) aNil)) (.one 6) (mSeq (mAsg (.tup [7, 8, 9]) (mCall 1 (m_law_token cc) (aCons (mVar 1) aNil)))
    (mSeq (mAsg (.one 3) (mBin uAdd (mVar 3) (mCall 2 (m_law_gap cc) (aCons (mVar 1) (aCons (mCall 2 (m_law_joins cc) (aCons (mVar 5) (aCons (mVar 9) aNil))) aNil)))))
    (mSeq (mDrop (mLM uApp (mVar 4) (aCons (mTup (aCons (mVar 7) (aCons (mVar 8) (aCons (mCB uLen (aCons (mVar 3) aNil)) aNil)))) aNil)))
    (mSeq (mAsg (.one 3) (mBin uAdd (mVar 3) (mVar 9)))
    (mAsg (.one 5) (mVar 9)))))))
    (mSeq (mIfS (bNot (bTru (mCall 2 (m_law_same cc 4) (aCons (mC (.tup [.str [100, 97, 116, 97], .str [102, 117, 110], .str [99, 101, 108, 108], .str [118, 105, 101, 119], .str [97, 99, 116], .str [116, 117, 114, 110], .str [116, 104, 101, 110], .str [116, 114, 117, 101], .str [102, 97, 108, 115, 101], .str [110, 111, 116], .str [97, 110, 100], .str [111, 114], .str [105, 102], .str [101, 108, 115, 101], .str [108, 101, 116], .str [105, 110], .str [99, 97, 115, 101], .str [111, 102], .str [101, 110, 100], .str [110, 117, 109], .str [116, 101, 120, 116], .str [98, 111, 111, 108], .str [108, 105, 115, 116], .str [109, 111, 100]])) (aCons (mCB uTuple (aCons (mCall 0 (m_law_keywords cc) aNil) aNil)) aNil))))) (mRet (mC (.bl false))) mNx)
    (mSeq (mAsg (.one 3) (mBin uAdd (mVar 3) (mCall 2 (m_law_gap cc) (aCons (mVar 1) (aCons (mC (.bl false)) aNil)))))
    (mSeq (mAsg (.one 10) (mCall 2 (m_law_next cc) (aCons (mVar 1) (aCons (mC (.int 9)) aNil))))
    (mSeq (mIfS (bCmp cLt (mVar 10) (mC (.int 6))) (mRet (mCall 2 (m_law_same cc 4) (aCons (mCall 1 (m_law_read cc) (aCons (mVar 3) aNil)) (aCons (mTup (aCons (mC (.str [116, 111, 107, 101, 110, 115])) (aCons (mVar 4) aNil))) aNil)))) mNx)
    (mSeq (mAsg (.one 3) (mBin uAdd (mVar 3) (mC (.str [32]))))
    (mSeq (mAsg (.one 11) (mCB uLen (aCons (mVar 3) aNil)))
    (mSeq (mIfS (bCmp cEq (mVar 10) (mC (.int 6))) (mAsg (.one 3) (mBin uAdd (mBin uAdd (mVar 3) (mC (.str [39, 97, 39, 39, 98]))) (mBin uIx (mC (.str [32, 99])) (mCall 2 (m_law_next cc) (aCons (mVar 1) (aCons (mC (.int 2)) aNil)))))) (mIfS (bCmp cEq (mVar 10) (mC (.int 7))) (mAsg (.one 3) (mBin uAdd (mBin uAdd (mBin uAdd (mVar 3) (mCall 2 (m_law_digits cc) (aCons (mVar 1) (aCons (mBin uAdd (mC (.int 19)) (mCall 2 (m_law_next cc) (aCons (mVar 1) (aCons (mC (.int 30)) aNil)))) aNil)))) (mC (.str [32]))) (mVar 3))) (mSeq (mAsg (.one 12) (mC (.str [33, 34, 35, 36, 38, 46, 62, 63, 64, 92, 94, 95, 96, 123, 125, 126])))
    (mAsg (.one 3) (mBin uAdd (mBin uAdd (mVar 3) (mBin uIx (mVar 12) (mCall 2 (m_law_next cc) (aCons (mVar 1) (aCons (mCB uLen (aCons (mVar 12) aNil)) aNil))))) (mVar 3))))))
    (mRet (mCall 2 (m_law_same cc 4) (aCons (mCall 1 (m_law_read cc) (aCons (mVar 3) aNil)) (aCons (mTup (aCons (mC (.str [114, 101, 102, 117, 115, 101, 100])) (aCons (mVar 11) (aCons (mC (.bl true)) aNil)))) aNil))))))))))))))))))
end LAW

set_option Elab.async false
set_option linter.all false
set_option maxRecDepth 100000
namespace LAW
open P
def p_law_next : PSem := pFn 4 [true] (sSeq (sIf (tAnd (tCmp cEq (pBin gIx (pVw 0) (pC (.int 2))) (pC (.int 0))) (tCmp cLt (pBin gIx (pVw 0) (pC (.int 1))) (pCB gLen (dCons (pBin gIx (pVw 0) (pC (.int 0))) dNil)))) (sSeq (sAsg 2 (pLf (pBin gIx (pBin gIx (pVw 0) (pC (.int 0))) (pBin gIx (pVw 0) (pC (.int 1))))))
    (sSeq (sAugI gIAdd (.var 0) (pC (.int 1)) (pC (.int 1)))
    (sIf (tCmp cGe (pVar 2) (pBin gPow (pC (.int 10)) (pC (.int 18)))) (sSetI (.var 0) (pC (.int 2)) (pVar 2)) (sSetI (.var 0) (pC (.int 3)) (pBin gMod (pCB gInt (dCons (pFz (pAdd (pFz (pAdd (pBin gMul (pBin gIx (pVw 0) (pC (.int 3))) (pC (.int 48271))) (pBin gMod (pCB gInt (dCons (pVar 2) dNil)) (pC (.int 2147483647))))) (pC (.int 7)))) dNil)) (pC (.int 2147483647))))))) sNx)
    (sSeq (sIf (tCmp cGt (pBin gIx (pVw 0) (pC (.int 2))) (pC (.int 0))) (sSeq (sAsg 3 (pLf (pBin gMod (pCB gInt (dCons (pBin gIx (pVw 0) (pC (.int 2))) dNil)) (pVar 1))))
    (sSeq (sSetI (.var 0) (pC (.int 2)) (pBin gDiv (pBin gIx (pVw 0) (pC (.int 2))) (pVar 1)))
    (sRet (pLf (pVar 3))))) sNx)
    (sSeq (sSetI (.var 0) (pC (.int 3)) (pBin gMod (pCB gInt (dCons (pFz (pAdd (pBin gMul (pBin gIx (pVw 0) (pC (.int 3))) (pC (.int 69621))) (pC (.int 12345)))) dNil)) (pC (.int 2147483647))))
    (sRet (pLf (pBin gMod (pCB gInt (dCons (pBin gDiv (pBin gIx (pVw 0) (pC (.int 3))) (pC (.int 7))) dNil)) (pVar 1)))))))
def p_law_gap : PSem := pFn 4 [true] (sSeq (sAsg 2 (pLf (pC (.str []))))
    (sSeq (sFor [3] (iR1 (dCons (pFz (pCallV 2 0 0 p_law_next (dCons (pC (.int 3)) dNil))) dNil)) (.one 3) (sAsg 2 (pLf (pFz (pAdd (pVar 2) (pBin gIx (pC (.str [32, 10])) (pFz (pCallV 2 0 0 p_law_next (dCons (pC (.int 2)) dNil)))))))))
    (sSeq (sIf (tAnd (tTru (pVar 1)) (tCmp cEq (pVar 2) (pC (.str [])))) (sRet (pLf (pC (.str [32])))) sNx)
    (sRet (pLf (pVar 2))))))
def p_law_same : Nat → PSem
  | 0 => fun _ => .bad
  | n + 1 => pFn 3 [] (sSeq (sIf (tCmp cIs (pVar 1) (pC .non)) (sRet (pLf (pB (tCmp cIs (pVar 0) (pC .non))))) sNx)
    (sSeq (sIf (tIs .bool (pVar 1)) (sRet (pLf (pAnd (pB (tIs .bool (pVar 0))) (pB (tCmp cEq (pVar 0) (pVar 1)))))) sNx)
    (sSeq (sIf (tIs .int (pVar 1)) (sRet (pLf (pAnd (pB (tIs .int (pVar 0))) (pAnd (pUn gNot (pB (tIs .bool (pVar 0)))) (pB (tCmp cEq (pVar 0) (pVar 1))))))) sNx)
    (sSeq (sIf (tIs .str (pVar 1)) (sRet (pLf (pAnd (pB (tIs .str (pVar 0))) (pB (tCmp cEq (pVar 0) (pVar 1)))))) sNx)
    (sSeq (sIf (tAnd (tIs .tuple (pVar 1)) (tNot (tIs .tuple (pVar 0)))) (sRet (pLf (pC (.bl false)))) sNx)
    (sSeq (sIf (tAnd (tIs .list (pVar 1)) (tNot (tIs .list (pVar 0)))) (sRet (pLf (pC (.bl false)))) sNx)
    (sSeq (sIf (tCmp cNe (pCB gLen (dCons (pVar 0) dNil)) (pCB gLen (dCons (pVar 1) dNil))) (sRet (pLf (pC (.bl false)))) sNx)
    (sSeq (sFor [2] (iR1 (dCons (pCB gLen (dCons (pVar 1) dNil)) dNil)) (.one 2) (sIf (tNot (tTru (pFz (pCall 2 (p_law_same n) (dCons (pBin gIx (pVar 0) (pVar 2)) (dCons (pBin gIx (pVar 1) (pVar 2)) dNil)))))) (sRet (pLf (pC (.bl false)))) sNx))
    (sRet (pLf (pC (.bl true))))))))))))
def p_law_keywords : PSem := pFn 1 [] (sSeq (sAsg 0 (pLf (pC (.str [100, 97, 116, 97, 32, 102, 117, 110, 32, 99, 101, 108, 108, 32, 118, 105, 101, 119, 32, 97, 99, 116, 32, 116, 117, 114, 110, 32, 116, 104, 101, 110, 32, 116, 114, 117, 101, 32, 102, 97, 108, 115, 101, 32, 110, 111, 116, 32, 97, 110, 100, 32, 111, 114, 32, 105, 102, 32, 101, 108, 115, 101, 32, 108, 101, 116, 32, 105, 110, 32, 99, 97, 115, 101, 32, 111, 102, 32, 101, 110, 100, 32, 110, 117, 109, 32, 116, 101, 120, 116, 32, 98, 111, 111, 108, 32, 108, 105, 115, 116, 32, 109, 111, 100]))))
    (sRet (pSM1T gSplit (pVar 0) (pC (.str [32])))))
def p_law_word : PSem := pFn 5 [true] (sSeq (sAsg 2 (pLf (pC (.str [97, 98, 99, 100, 101, 102, 103, 104, 105, 106, 107, 108, 109, 110, 111, 112, 113, 114, 115, 116, 117, 118, 119, 120, 121, 122, 65, 66, 67, 68, 69, 70, 71, 72, 73, 74, 75, 76, 77, 78, 79, 80, 81, 82, 83, 84, 85, 86, 87, 88, 89, 90, 48, 49, 50, 51, 52, 53, 54, 55, 56, 57, 95]))))
    (sSeq (sAsg 3 (pLf (pBin gIx (pVar 1) (pFz (pCallV 2 0 0 p_law_next (dCons (pC (.int 26)) dNil))))))
    (sSeq (sFor [4] (iR1 (dCons (pFz (pCallV 2 0 0 p_law_next (dCons (pC (.int 5)) dNil))) dNil)) (.one 4) (sAsg 3 (pLf (pFz (pAdd (pVar 3) (pBin gIx (pVar 2) (pFz (pCallV 2 0 0 p_law_next (dCons (pC (.int 63)) dNil)))))))))
    (sSeq (sIf (tCmp cIn (pVar 3) (pFz (pCall 0 p_law_keywords dNil))) (sAsg 3 (pLf (pFz (pAdd (pVar 3) (pC (.str [95])))))) sNx)
    (sRet (pLf (pVar 3)))))))
def p_law_name : PSem := pFn 1 [true] (sRet (pCallV 2 0 0 p_law_word (dCons (pC (.str [97, 98, 99, 100, 101, 102, 103, 104, 105, 106, 107, 108, 109, 110, 111, 112, 113, 114, 115, 116, 117, 118, 119, 120, 121, 122])) dNil)))
def p_law_maker : PSem := pFn 1 [true] (sRet (pCallV 2 0 0 p_law_word (dCons (pC (.str [65, 66, 67, 68, 69, 70, 71, 72, 73, 74, 75, 76, 77, 78, 79, 80, 81, 82, 83, 84, 85, 86, 87, 88, 89, 90])) dNil)))
def p_law_digits : PSem := pFn 3 [true] (sRet (pLf (pSM1 gJoin (pC (.str [])) (pFz (pLc (iR1 (dCons (pVar 1) dNil)) (.one 2) tYes (pCB gStr (dCons (pFz (pCallV 2 0 0 p_law_next (dCons (pC (.int 10)) dNil))) dNil)) [2])))))
def p_law_quoted : PSem := pFn 1 [] (sRet (pAdd (pRepA [39] 39 [39, 39] (pVar 0)) (pC (.str [39]))))
def p_law_char : PSem := pFn 2 [] (sSeq (sAsg 1 (pLf (pC (.str [32, 39, 33, 34, 35, 36, 38, 40, 41, 42, 43, 44, 45, 46, 47, 48, 49, 50, 51, 52, 53, 54, 55, 56, 57, 58, 59, 60, 61, 62, 63, 64, 65, 66, 67, 68, 69, 70, 71, 72, 73, 74, 75, 76, 77, 78, 79, 80, 81, 82, 83, 84, 85, 86, 87, 88, 89, 90, 91, 92, 93, 94, 95, 96]))))
    (sSeq (sAsg 1 (pLf (pFz (pAdd (pVar 1) (pC (.str [97, 98, 99, 100, 101, 102, 103, 104, 105, 106, 107, 108, 109, 110, 111, 112, 113, 114, 115, 116, 117, 118, 119, 120, 121, 122, 123, 124, 125, 126, 10]))))))
    (sRet (pLf (pBin gIx (pVar 1) (pBin gMod (pCB gInt (dCons (pVar 0) dNil)) (pC (.int 95))))))))
def p_law_token : PSem := pFn 10 [true] (sSeq (sAsg 1 (pLf (pFz (pCallV 2 0 0 p_law_next (dCons (pC (.int 12)) dNil)))))
    (sSeq (sIf (tCmp cLt (pVar 1) (pC (.int 2))) (sSeq (sAsg 2 (pLf (pBin gIx (pFz (pCall 0 p_law_keywords dNil)) (pFz (pCallV 2 0 0 p_law_next (dCons (pC (.int 24)) dNil))))))
    (sRet (pLf (pTup (dCons (pC (.str [107, 101, 121, 119, 111, 114, 100])) (dCons (pVar 2) (dCons (pVar 2) dNil))))))) sNx)
    (sSeq (sIf (tCmp cLt (pVar 1) (pC (.int 4))) (sSeq (sAsg 3 (pLf (pFz (pCallV 1 0 0 p_law_name dNil))))
    (sRet (pLf (pTup (dCons (pC (.str [110, 97, 109, 101])) (dCons (pVar 3) (dCons (pVar 3) dNil))))))) sNx)
    (sSeq (sIf (tCmp cLt (pVar 1) (pC (.int 6))) (sSeq (sAsg 4 (pLf (pFz (pCallV 1 0 0 p_law_maker dNil))))
    (sRet (pLf (pTup (dCons (pC (.str [109, 97, 107, 101, 114])) (dCons (pVar 4) (dCons (pVar 4) dNil))))))) sNx)
    (sSeq (sIf (tCmp cLt (pVar 1) (pC (.int 8))) (sSeq (sAsg 5 (pLf (pFz (pCallV 2 0 0 p_law_digits (dCons (pFz (pAdd (pC (.int 1)) (pFz (pCallV 2 0 0 p_law_next (dCons (pC (.int 18)) dNil))))) dNil)))))
    (sRet (pLf (pTup (dCons (pC (.str [110, 117, 109, 98, 101, 114])) (dCons (pCB gIntS (dCons (pVar 5) dNil)) (dCons (pVar 5) dNil))))))) sNx)
    (sSeq (sIf (tCmp cLt (pVar 1) (pC (.int 10))) (sSeq (sAsg 6 (pLf (pSM1 gJoin (pC (.str [])) (pFz (pLc (iR1 (dCons (pFz (pCallV 2 0 0 p_law_next (dCons (pC (.int 6)) dNil))) dNil)) (.one 7) tYes (pFz (pCall 1 p_law_char (dCons (pFz (pCallV 2 0 0 p_law_next (dCons (pC (.int 95)) dNil))) dNil))) [7])))))
    (sSeq (sIf (tCmp cEq (pFz (pCallV 2 0 0 p_law_next (dCons (pC (.int 20)) dNil))) (pC (.int 19))) (sAsg 6 (pLf (pFz (pAdd (pVar 6) (pBin gMulS (pC (.str [113, 39])) (pC (.int 150))))))) sNx)
    (sRet (pLf (pTup (dCons (pC (.str [116, 101, 120, 116])) (dCons (pVar 6) (dCons (pFz (pCall 1 p_law_quoted (dCons (pVar 6) dNil))) dNil)))))))) sNx)
    (sSeq (sAsg 8 (pLf (pFz (pLst (dCons (pC (.str [40])) (dCons (pC (.str [41])) (dCons (pC (.str [91])) (dCons (pC (.str [93])) (dCons (pC (.str [44])) (dCons (pC (.str [59])) (dCons (pC (.str [124])) (dCons (pC (.str [61])) (dCons (pC (.str [60])) (dCons (pC (.str [43])) (dCons (pC (.str [45])) (dCons (pC (.str [42])) (dCons (pC (.str [47])) (dCons (pC (.str [58])) (dCons (pC (.str [43, 43])) (dCons (pC (.str [58, 58])) (dCons (pC (.str [45, 62])) (dCons (pC (.str [58, 61])) dNil))))))))))))))))))))))
    (sSeq (sAsg 9 (pLf (pBin gIx (pVar 8) (pFz (pCallV 2 0 0 p_law_next (dCons (pC (.int 18)) dNil))))))
    (sRet (pLf (pTup (dCons (pC (.str [115, 105, 103, 110])) (dCons (pVar 9) (dCons (pVar 9) dNil))))))))))))))
def p_run_end : PSem := pFn 4 [] (sSeq (sAsg 3 (pLf (pVar 1)))
    (sSeq (sWhile [] 1000000 (tAnd (tCmp cLt (pVar 3) (pCB gLen (dCons (pVar 0) dNil))) (tCmp cInS (pBin gIx (pVar 0) (pVar 3)) (pVar 2))) (sAug gIAdd 3 (pC (.int 1))))
    (sRet (pLf (pVar 3)))))
def p_read_word : PSem := pFn 4 [] (sSeq (sAsg 2 (pLf (pFz (pCall 3 p_run_end (dCons (pVar 0) (dCons (pVar 1) (dCons (pC (.str [97, 98, 99, 100, 101, 102, 103, 104, 105, 106, 107, 108, 109, 110, 111, 112, 113, 114, 115, 116, 117, 118, 119, 120, 121, 122, 65, 66, 67, 68, 69, 70, 71, 72, 73, 74, 75, 76, 77, 78, 79, 80, 81, 82, 83, 84, 85, 86, 87, 88, 89, 90, 48, 49, 50, 51, 52, 53, 54, 55, 56, 57, 95])) dNil)))))))
    (sSeq (sAsg 3 (pLf (pFz (pSl (pVar 0) (oSo (pVar 1)) (oSo (pVar 2))))))
    (sSeq (sIf (tCmp cInS (pBin gIx (pVar 0) (pVar 1)) (pC (.str [65, 66, 67, 68, 69, 70, 71, 72, 73, 74, 75, 76, 77, 78, 79, 80, 81, 82, 83, 84, 85, 86, 87, 88, 89, 90]))) (sRet (pLf (pTup (dCons (pC (.str [109, 97, 107, 101, 114])) (dCons (pVar 3) (dCons (pVar 2) dNil)))))) sNx)
    (sSeq (sIf (tCmp cIn (pVar 3) (pC (.tup [.str [100, 97, 116, 97], .str [102, 117, 110], .str [99, 101, 108, 108], .str [118, 105, 101, 119], .str [97, 99, 116], .str [116, 117, 114, 110], .str [116, 104, 101, 110], .str [116, 114, 117, 101], .str [102, 97, 108, 115, 101], .str [110, 111, 116], .str [97, 110, 100], .str [111, 114], .str [105, 102], .str [101, 108, 115, 101], .str [108, 101, 116], .str [105, 110], .str [99, 97, 115, 101], .str [111, 102], .str [101, 110, 100], .str [110, 117, 109], .str [116, 101, 120, 116], .str [98, 111, 111, 108], .str [108, 105, 115, 116], .str [109, 111, 100]]))) (sRet (pLf (pTup (dCons (pC (.str [107, 101, 121, 119, 111, 114, 100])) (dCons (pVar 3) (dCons (pVar 2) dNil)))))) sNx)
    (sRet (pLf (pTup (dCons (pC (.str [110, 97, 109, 101])) (dCons (pVar 3) (dCons (pVar 2) dNil))))))))))
def p_read_number : PSem := pFn 3 [] (sSeq (sAsg 2 (pLf (pFz (pCall 3 p_run_end (dCons (pVar 0) (dCons (pVar 1) (dCons (pC (.str [48, 49, 50, 51, 52, 53, 54, 55, 56, 57])) dNil)))))))
    (sSeq (sIf (tCmp cGt (pBin gSub (pVar 2) (pVar 1)) (pC (.int 18))) (sRaiseF 0 "position" isIntD (pVar 1)) sNx)
    (sRet (pLf (pTup (dCons (pC (.str [110, 117, 109, 98, 101, 114])) (dCons (pCB gIntS (dCons (pFz (pSl (pVar 0) (oSo (pVar 1)) (oSo (pVar 2)))) dNil)) (dCons (pVar 2) dNil))))))))
def p_read_text : PSem := pFn 5 [] (sSeq (sAsg 2 (pLst dNil))
    (sSeq (sAsg 3 (pLf (pFz (pAdd (pVar 1) (pC (.int 1))))))
    (sSeq (sAsg 4 (pLf (pFind (pVar 0) (dCons (pC (.str [39])) (dCons (pVar 3) dNil)))))
    (sSeq (sWhile [] 1000000 (tAnd (tCmp cGe (pVar 4) (pC (.int 0))) (tCmp cEq (pFz (pSl (pVar 0) (oSo (pFz (pAdd (pVar 4) (pC (.int 1))))) (oSo (pFz (pAdd (pVar 4) (pC (.int 2))))))) (pC (.str [39])))) (sSeq (sDrop (pLf (pUpd (.var 2) (dCons (pFz (pSl (pVar 0) (oSo (pVar 3)) (oSo (pFz (pAdd (pVar 4) (pC (.int 1))))))) dNil) uApp)))
    (sSeq (sAsg 3 (pLf (pFz (pAdd (pVar 4) (pC (.int 2))))))
    (sAsg 4 (pLf (pFind (pVar 0) (dCons (pC (.str [39])) (dCons (pVar 3) dNil))))))))
    (sSeq (sIf (tCmp cLt (pVar 4) (pC (.int 0))) (sRaiseF 0 "position" isIntD (pVar 1)) sNx)
    (sSeq (sDrop (pLf (pUpd (.var 2) (dCons (pFz (pSl (pVar 0) (oSo (pVar 3)) (oSo (pVar 4)))) dNil) uApp)))
    (sRet (pLf (pTup (dCons (pC (.str [116, 101, 120, 116])) (dCons (pSM1 gJoin (pC (.str [])) (pVw 2)) (dCons (pFz (pAdd (pVar 4) (pC (.int 1)))) dNil))))))))))))
def p_read_token : PSem := pFn 3 [] (sSeq (sAsg 2 (pLf (pBin gIx (pVar 0) (pVar 1))))
    (sSeq (sIf (tOr (tCmp cInS (pVar 2) (pC (.str [97, 98, 99, 100, 101, 102, 103, 104, 105, 106, 107, 108, 109, 110, 111, 112, 113, 114, 115, 116, 117, 118, 119, 120, 121, 122]))) (tCmp cInS (pVar 2) (pC (.str [65, 66, 67, 68, 69, 70, 71, 72, 73, 74, 75, 76, 77, 78, 79, 80, 81, 82, 83, 84, 85, 86, 87, 88, 89, 90])))) (sRet (pCall 2 p_read_word (dCons (pVar 0) (dCons (pVar 1) dNil)))) sNx)
    (sSeq (sIf (tCmp cInS (pVar 2) (pC (.str [48, 49, 50, 51, 52, 53, 54, 55, 56, 57]))) (sRet (pCall 2 p_read_number (dCons (pVar 0) (dCons (pVar 1) dNil)))) sNx)
    (sSeq (sIf (tCmp cEq (pVar 2) (pC (.str [39]))) (sRet (pCall 2 p_read_text (dCons (pVar 0) (dCons (pVar 1) dNil)))) sNx)
    (sSeq (sIf (tCmp cIn (pFz (pSl (pVar 0) (oSo (pVar 1)) (oSo (pFz (pAdd (pVar 1) (pC (.int 2))))))) (pC (.tup [.str [43, 43], .str [58, 58], .str [45, 62], .str [58, 61]]))) (sRet (pLf (pTup (dCons (pC (.str [115, 105, 103, 110])) (dCons (pFz (pSl (pVar 0) (oSo (pVar 1)) (oSo (pFz (pAdd (pVar 1) (pC (.int 2))))))) (dCons (pFz (pAdd (pVar 1) (pC (.int 2)))) dNil)))))) sNx)
    (sSeq (sIf (tCmp cIn (pVar 2) (pC (.tup [.str [40], .str [41], .str [91], .str [93], .str [44], .str [59], .str [124], .str [61], .str [60], .str [43], .str [45], .str [42], .str [47], .str [58]]))) (sRet (pLf (pTup (dCons (pC (.str [115, 105, 103, 110])) (dCons (pVar 2) (dCons (pFz (pAdd (pVar 1) (pC (.int 1)))) dNil)))))) sNx)
    (sRaiseF 0 "position" isIntD (pVar 1))))))))
def p_tokenize : PSem := pFn 6 [] (sSeq (sAsg 1 (pLst dNil))
    (sSeq (sAsg 2 (pLf (pC (.int 0))))
    (sSeq (sWhile [3, 4, 5] 1000000 (tCmp cLt (pVar 2) (pCB gLen (dCons (pVar 0) dNil))) (sIf (tCmp cIn (pBin gIx (pVar 0) (pVar 2)) (pTup (dCons (pC (.str [32])) (dCons (pC (.str [10])) dNil)))) (sAug gIAdd 2 (pC (.int 1))) (sSeq (sUnp (.tup [3, 4, 5]) (pFz (pCall 2 p_read_token (dCons (pVar 0) (dCons (pVar 2) dNil)))))
    (sSeq (sDrop (pLf (pUpd (.var 1) (dCons (pTup (dCons (pVar 3) (dCons (pVar 4) (dCons (pVar 2) dNil)))) dNil) uApp)))
    (sAsg 2 (pLf (pVar 5)))))))
    (sRet (pMv 1)))))
def p_law_read : PSem := pFn 2 [] (sTryAsF 1 [0] "position" (sRet (pLf (pTup (dCons (pC (.str [116, 111, 107, 101, 110, 115])) (dCons (pFz (pCall 1 p_tokenize (dCons (pVar 0) dNil))) dNil))))) (sRet (pLf (pTup (dCons (pC (.str [114, 101, 102, 117, 115, 101, 100])) (dCons (pVar 1) (dCons (pAnd (pC (.bl true)) (pC (.bl true))) dNil)))))))
def p_law_joins : PSem := pFn 5 [] (sSeq (sAsg 2 (pLf (pC (.str [97, 98, 99, 100, 101, 102, 103, 104, 105, 106, 107, 108, 109, 110, 111, 112, 113, 114, 115, 116, 117, 118, 119, 120, 121, 122, 65, 66, 67, 68, 69, 70, 71, 72, 73, 74, 75, 76, 77, 78, 79, 80, 81, 82, 83, 84, 85, 86, 87, 88, 89, 90]))))
    (sSeq (sAsg 3 (pLf (pBin gIx (pVar 0) (pC (.int 0)))))
    (sSeq (sAsg 4 (pLf (pBin gIx (pVar 1) (pC (.int 0)))))
    (sSeq (sIf (tCmp cInS (pVar 3) (pVar 2)) (sRet (pLf (pB (tCmp cInS (pVar 4) (pFz (pAdd (pVar 2) (pC (.str [48, 49, 50, 51, 52, 53, 54, 55, 56, 57, 95])))))))) sNx)
    (sSeq (sIf (tCmp cInS (pVar 3) (pC (.str [48, 49, 50, 51, 52, 53, 54, 55, 56, 57]))) (sRet (pLf (pB (tCmp cInS (pVar 4) (pC (.str [48, 49, 50, 51, 52, 53, 54, 55, 56, 57])))))) sNx)
    (sSeq (sIf (tCmp cEq (pVar 3) (pC (.str [39]))) (sRet (pLf (pB (tCmp cEq (pVar 4) (pC (.str [39])))))) sNx)
    (sRet (pLf (pAnd (pB (tCmp cIn (pVar 0) (pFz (pLst (dCons (pC (.str [43])) (dCons (pC (.str [58])) dNil)))))) (pB (tCmp cInS (pVar 4) (pC (.str [43, 58, 61])))))))))))))
def p_law : PSem := pFn 13 [] (sSeq (sAsg 1 (pLst (dCons (pFz (pCT gList (dCons (pVar 0) dNil))) (dCons (pC (.int 0)) (dCons (pC (.int 0)) (dCons (pC (.int 1)) dNil))))))
    (sSeq (sAsg 2 (pLf (pFz (pCallV 2 0 1 p_law_next (dCons (pC (.int 25)) dNil)))))
    (sSeq (sIf (tCmp cEq (pFz (pCallV 2 0 1 p_law_next (dCons (pC (.int 5)) dNil))) (pC (.int 4))) (sAsg 2 (pLf (pFz (pCallV 2 0 1 p_law_next (dCons (pC (.int 151)) dNil))))) sNx)
    (sSeq (sAsg 3 (pLf (pFz (pCallV 2 0 1 p_law_gap (dCons (pC (.bl false)) dNil)))))
    (sSeq (sAsg 4 (pLst dNil))
    (sSeq (sAsg 5 (pLf (pC (.str [32]))))
    (sSeq (sFor [6, 7, 8, 9] (iR1 (dCons (pVar 2) dNil)) (.one 6) (sSeq (sUnp (.tup [7, 8, 9]) (pFz (pCallV 1 0 1 p_law_token dNil)))
    (sSeq (sAsg 3 (pLf (pFz (pAdd (pVar 3) (pFz (pCallV 2 0 1 p_law_gap (dCons (pFz (pCall 2 p_law_joins (dCons (pVar 5) (dCons (pVar 9) dNil)))) dNil)))))))
    (sSeq (sDrop (pLf (pUpd (.var 4) (dCons (pTup (dCons (pVar 7) (dCons (pVar 8) (dCons (pCB gLen (dCons (pVar 3) dNil)) dNil)))) dNil) uApp)))
    (sSeq (sAsg 3 (pLf (pFz (pAdd (pVar 3) (pVar 9)))))
    (sAsg 5 (pLf (pVar 9))))))))
    (sSeq (sIf (tNot (tTru (pFz (pCall 2 (p_law_same 4) (dCons (pC (.tup [.str [100, 97, 116, 97], .str [102, 117, 110], .str [99, 101, 108, 108], .str [118, 105, 101, 119], .str [97, 99, 116], .str [116, 117, 114, 110], .str [116, 104, 101, 110], .str [116, 114, 117, 101], .str [102, 97, 108, 115, 101], .str [110, 111, 116], .str [97, 110, 100], .str [111, 114], .str [105, 102], .str [101, 108, 115, 101], .str [108, 101, 116], .str [105, 110], .str [99, 97, 115, 101], .str [111, 102], .str [101, 110, 100], .str [110, 117, 109], .str [116, 101, 120, 116], .str [98, 111, 111, 108], .str [108, 105, 115, 116], .str [109, 111, 100]])) (dCons (pCB gTuple (dCons (pFz (pCall 0 p_law_keywords dNil)) dNil)) dNil)))))) (sRet (pLf (pC (.bl false)))) sNx)
    (sSeq (sAsg 3 (pLf (pFz (pAdd (pVar 3) (pFz (pCallV 2 0 1 p_law_gap (dCons (pC (.bl false)) dNil)))))))
    (sSeq (sAsg 10 (pLf (pFz (pCallV 2 0 1 p_law_next (dCons (pC (.int 9)) dNil)))))
    (sSeq (sIf (tCmp cLt (pVar 10) (pC (.int 6))) (sRet (pCall 2 (p_law_same 4) (dCons (pFz (pCall 1 p_law_read (dCons (pVar 3) dNil))) (dCons (pTup (dCons (pC (.str [116, 111, 107, 101, 110, 115])) (dCons (pFv 4) dNil))) dNil)))) sNx)
    (sSeq (sAsg 3 (pLf (pFz (pAdd (pVar 3) (pC (.str [32]))))))
    (sSeq (sAsg 11 (pLf (pCB gLen (dCons (pVar 3) dNil))))
    (sSeq (sIf (tCmp cEq (pVar 10) (pC (.int 6))) (sAsg 3 (pLf (pFz (pAdd (pFz (pAdd (pVar 3) (pC (.str [39, 97, 39, 39, 98])))) (pBin gIx (pC (.str [32, 99])) (pFz (pCallV 2 0 1 p_law_next (dCons (pC (.int 2)) dNil)))))))) (sIf (tCmp cEq (pVar 10) (pC (.int 7))) (sAsg 3 (pLf (pFz (pAdd (pFz (pAdd (pFz (pAdd (pVar 3) (pFz (pCallV 2 0 1 p_law_digits (dCons (pFz (pAdd (pC (.int 19)) (pFz (pCallV 2 0 1 p_law_next (dCons (pC (.int 30)) dNil))))) dNil))))) (pC (.str [32])))) (pVar 3))))) (sSeq (sAsg 12 (pLf (pC (.str [33, 34, 35, 36, 38, 46, 62, 63, 64, 92, 94, 95, 96, 123, 125, 126]))))
    (sAsg 3 (pLf (pFz (pAdd (pFz (pAdd (pVar 3) (pBin gIx (pVar 12) (pFz (pCallV 2 0 1 p_law_next (dCons (pCB gLen (dCons (pVar 12) dNil)) dNil)))))) (pVar 3))))))))
    (sRet (pCall 2 (p_law_same 4) (dCons (pFz (pCall 1 p_law_read (dCons (pVar 3) dNil))) (dCons (pTup (dCons (pC (.str [114, 101, 102, 117, 115, 101, 100])) (dCons (pVar 11) (dCons (pC (.bl true)) dNil)))) dNil))))))))))))))))))
end LAW

set_option Elab.async false
set_option linter.all false
set_option maxRecDepth 100000
set_option maxHeartbeats 4000000
namespace LAW
open P
abbrev S := List Nat
abbrev LO : S := [97, 98, 99, 100, 101, 102, 103, 104, 105, 106, 107, 108, 109, 110, 111, 112, 113, 114, 115, 116, 117, 118, 119, 120, 121, 122]
abbrev UP : S := [65, 66, 67, 68, 69, 70, 71, 72, 73, 74, 75, 76, 77, 78, 79, 80, 81, 82, 83, 84, 85, 86, 87, 88, 89, 90]
abbrev DG : S := [48, 49, 50, 51, 52, 53, 54, 55, 56, 57]
abbrev WD : S := [97, 98, 99, 100, 101, 102, 103, 104, 105, 106, 107, 108, 109, 110, 111, 112, 113, 114, 115, 116, 117, 118, 119, 120, 121, 122, 65, 66, 67, 68, 69, 70, 71, 72, 73, 74, 75, 76, 77, 78, 79, 80, 81, 82, 83, 84, 85, 86, 87, 88, 89, 90, 48, 49, 50, 51, 52, 53, 54, 55, 56, 57, 95]
abbrev KW : List S := [[100, 97, 116, 97], [102, 117, 110], [99, 101, 108, 108], [118, 105, 101, 119], [97, 99, 116], [116, 117, 114, 110], [116, 104, 101, 110], [116, 114, 117, 101], [102, 97, 108, 115, 101], [110, 111, 116], [97, 110, 100], [111, 114], [105, 102], [101, 108, 115, 101], [108, 101, 116], [105, 110], [99, 97, 115, 101], [111, 102], [101, 110, 100], [110, 117, 109], [116, 101, 120, 116], [98, 111, 111, 108], [108, 105, 115, 116], [109, 111, 100]]
abbrev SG : List S := [[40], [41], [91], [93], [44], [59], [124], [61], [60], [43], [45], [42], [47], [58], [43, 43], [58, 58], [45, 62], [58, 61]]
theorem next_eq : p_law_next = lawNextB := rfl
theorem same_eq : ∀ n, p_law_same n = lawSameB n
  | 0 => rfl
  | n + 1 => by unfold p_law_same lawSameB; rw [same_eq n]
theorem nx_ok (s : NS) (L : Int) (h : 0 < L := by decide) (h2 : L.natAbs < 1073741824 := by decide) : p_law_next [stB s [], .leaf (.int L)] = .ok (.leaf (.int (nxV s L))) [stB (nxS s L) []] := by
  rw [next_eq]; exact lawNextB_ok s [] h h2
theorem nx_nat (s : NS) (L : Int) (h : 0 < L := by decide) : ∃ k : Nat, nxV s L = k ∧ (k : Int) < L := ⟨(nxV s L).toNat, by have := nxV_pos s h; omega, by have := nxV_pos s h; have := nxV_lt s h; omega⟩
theorem atI_get {α : Type} {xs : List α} {k : Nat} (h : k < xs.length) : atI xs (k : Int) = some xs[k] := by
  unfold atI ixN
  rw [if_pos (by omega), if_pos (by omega)]
  simp [List.getElem?_eq_getElem h]
theorem gap_ok (s : NS) (b : Bool) : ∃ g s', p_law_gap [stB s [], .leaf (.bl b)] = .ok (.leaf (.str g)) [stB s' []] ∧ (∀ c ∈ g, c = 32 ∨ c = 10) ∧ g.length ≤ 2 ∧ (b = true → g ≠ []) := by
  generalize hR : p_law_gap _ = R
  unfold p_law_gap at hR
  obtain ⟨k, hk, hk3⟩ := nx_nat s 3
  have hn := nx_ok s 3
  have hk4 : k ≤ 1000000000 := by omega
  simp [hn, hk, hk4] at hR
  generalize hF : forL _ _ _ _ _ = F at hR
  obtain ⟨⟨s2, g⟩, rfl, hg1, hg2⟩ := for_st hF (fun (s : NS × S) => [stB s.1 [], .leaf (.bl b), .leaf (.str s.2), .hole]) (fun i s => (∀ c ∈ s.2, c = 32 ∨ c = 10) ∧ s.2.length = i) (nxS s 3, []) (by simp) ⟨by simp, rfl⟩ (by
    rintro i d ⟨s1, g⟩ hd ⟨h1, h2⟩
    obtain ⟨j, hj, hj2⟩ := nx_nat s1 2
    have hn := nx_ok s1 2
    have hi : i < k := by
      have := (List.getElem?_eq_some_iff.mp hd).1
      simpa [rng] using this
    have hl : g.length + 1 ≤ 16000000 := by simp at h2; omega
    rcases (show j = 0 ∨ j = 1 by omega) with rfl | rfl
    · refine ⟨(nxS s1 2, g ++ [32]), by simp [hn, hj, atI, ixN, hl], ?_, by simp at h2 ⊢; omega⟩
      intro c hc; simp at hc; rcases hc with hc | hc
      · exact h1 c hc
      · exact .inl hc
    · refine ⟨(nxS s1 2, g ++ [10]), by simp [hn, hj, atI, ixN, hl], ?_, by simp at h2 ⊢; omega⟩
      intro c hc; simp at hc; rcases hc with hc | hc
      · exact h1 c hc
      · exact .inr hc)
  simp at hg1 hR
  have hg2 : g.length = k := by simpa [rng] using hg2
  cases b with
  | false => simp at hR; exact ⟨g, s2, hR.symm, hg1, by omega, by simp⟩
  | true =>
    cases g with
    | nil => simp [cEq, atom, mixed, D.eq] at hR; exact ⟨[32], s2, hR.symm, by simp, by simp, by simp⟩
    | cons c r => simp [cEq, atom, mixed, D.eq] at hR; exact ⟨c :: r, s2, hR.symm, hg1, by omega, by simp⟩
theorem mem_kw_us {w : S} : w ++ [95] ∉ KW := by
  intro h
  have : ∀ x ∈ KW, x.getLast? ≠ some 95 := by decide
  exact this _ h (by simp)
theorem split_kw : splitC 32 [100, 97, 116, 97, 32, 102, 117, 110, 32, 99, 101, 108, 108, 32, 118, 105, 101, 119, 32, 97, 99, 116, 32, 116, 117, 114, 110, 32, 116, 104, 101, 110, 32, 116, 114, 117, 101, 32, 102, 97, 108, 115, 101, 32, 110, 111, 116, 32, 97, 110, 100, 32, 111, 114, 32, 105, 102, 32, 101, 108, 115, 101, 32, 108, 101, 116, 32, 105, 110, 32, 99, 97, 115, 101, 32, 111, 102, 32, 101, 110, 100, 32, 110, 117, 109, 32, 116, 101, 120, 116, 32, 98, 111, 111, 108, 32, 108, 105, 115, 116, 32, 109, 111, 100] = KW := by decide
theorem keywords_ok : p_law_keywords [] = .ok (.ls (KW.map .str)) [] := by
  unfold p_law_keywords
  simp [-List.map_cons, split_kw]
theorem any_str {w : S} (L : List S) : ((L.map D.str).any fun y => D.eq y (.str w)) = decide (w ∈ L) := by
  rw [List.any_map]
  simp only [Function.comp_def]
  rw [Bool.eq_iff_iff, List.any_eq_true, decide_eq_true_eq]
  constructor
  · rintro ⟨x, hx, e⟩
    have e : x = w := by simpa [D.eq] using e
    exact e ▸ hx
  · intro h; exact ⟨w, h, by simp [D.eq]⟩
theorem all_str (L : List S) : (L.map D.str).all atom = true := by
  rw [List.all_map]; exact List.all_eq_true.mpr fun x _ => rfl
theorem in_strs (w : S) (L : List S) : cIn0 (.str w) (L.map .str) = some (decide (w ∈ L)) := by
  unfold cIn0
  rw [all_str, any_str]
  exact if_pos rfl
theorem word_ok (s : NS) (fs : S) (hf : fs.length = 26) : ∃ c r s', p_law_word [stB s [], .leaf (.str fs)] = .ok (.leaf (.str (c :: r))) [stB s' []] ∧ c ∈ fs ∧ (∀ x ∈ r, x ∈ WD) ∧ r.length ≤ 6 ∧ (c :: r) ∉ KW := by
  generalize hR : p_law_word _ = R
  unfold p_law_word at hR
  obtain ⟨k, hk, hk3⟩ := nx_nat s 26
  obtain ⟨m, hm, hm3⟩ := nx_nat (nxS s 26) 5
  have hn := nx_ok s 26
  have hn2 := nx_ok (nxS s 26) 5
  have hm4 : m ≤ 1000000000 := by omega
  have hat : atI fs (k : Int) = some fs[k] := atI_get (by omega)
  have hz : fs.length ≤ 16000000 := by omega
  simp [-List.mem_cons, hn, hn2, hk, hm, hm4, hat, hz] at hR
  generalize hF : forL _ _ _ _ _ = F at hR
  obtain ⟨⟨s2, r⟩, rfl, hg1, hg2⟩ := for_st hF (fun (s : NS × S) => [stB s.1 [], .leaf (.str fs), .leaf (.str WD), .leaf (.str (fs[k] :: s.2)), .hole]) (fun i s => (∀ c ∈ s.2, c ∈ WD) ∧ s.2.length = i) (nxS (nxS s 26) 5, []) (by simp) ⟨by simp, rfl⟩ (by
    rintro i d ⟨s1, g⟩ hd ⟨h1, h2⟩
    obtain ⟨j, hj, hj2⟩ := nx_nat s1 63
    have hn := nx_ok s1 63
    have hi : i < m := by
      have := (List.getElem?_eq_some_iff.mp hd).1
      simpa [rng] using this
    have hj3 : j < WD.length := by show j < 63; omega
    have hl : g.length + 1 + 1 ≤ 16000000 := by simp at h2; omega
    have ha : atI WD (j : Int) = some WD[j] := atI_get hj3
    refine ⟨(nxS s1 63, g ++ [WD[j]]), by simp [-List.mem_cons, -List.getElem_cons, hn, hj, ha, hl], ?_, by simp at h2 ⊢; omega⟩
    intro c hc
    rcases List.mem_append.mp hc with hc | hc
    · exact h1 c hc
    · rw [List.mem_singleton.mp hc]; exact List.getElem_mem hj3)
  have hg2 : r.length = m := by simpa [rng] using hg2
  have hkw := keywords_ok
  have hi := in_strs (fs[k] :: r) KW
  by_cases hw : fs[k] :: r ∈ KW
  · simp [-List.mem_cons, -List.map_cons, hkw, hi, hw, hg2] at hR
    rw [if_pos (by omega)] at hR
    exact ⟨fs[k], r ++ [95], s2, hR.symm, List.getElem_mem _, fun x hx => (List.mem_append.mp hx).elim (hg1 x) fun z => by rw [List.mem_singleton.mp z]; decide, by simp; omega, by
      have := mem_kw_us (w := fs[k] :: r)
      exact this⟩
  · simp [-List.mem_cons, -List.map_cons, hkw, hi, hw] at hR
    exact ⟨fs[k], r, s2, hR.symm, List.getElem_mem _, hg1, by omega, hw⟩
end LAW

set_option Elab.async false
set_option linter.all false
set_option maxRecDepth 100000
set_option maxHeartbeats 4000000
namespace LAW
open P
theorem strL_map : ∀ ss : List S, strL (ss.map .str) = some ss
  | [] => rfl
  | s :: r => by simp [strL, strL_map r]
theorem join_ones : ∀ cs : S, joinL [] (cs.map fun c => [c]) = cs
  | [] => rfl
  | [c] => rfl
  | c :: a :: cs => by
    have := join_ones (a :: cs)
    simp only [List.map_cons, joinL] at *
    rw [this]; rfl
theorem sum_ones : ∀ cs : S, (List.map List.length (cs.map fun c => [c])).sum = cs.length
  | [] => rfl
  | c :: cs => by
    have := sum_ones cs
    simp only [List.map_cons, List.sum_cons, this, List.length_cons, List.length_nil]; omega
theorem gj_ones (cs : S) (h : cs.length ≤ 1000000) : gJoin [] (.lst (cs.map fun c => .str [c])) = some (.str cs) := by
  have e : (cs.map fun c => D.str [c]) = (cs.map fun c => [c]).map .str := by rw [List.map_map]; rfl
  rw [e, o_joinl, strL_map]
  show (if _ then some (D.str (joinL [] (cs.map fun c => [c]))) else none) = _
  rw [join_ones, sum_ones, if_pos (by simp; omega)]
theorem sInt_dig {j : Nat} (h : j < 10) : sInt (j : Int) = [48 + j] := by
  rcases (show j = 0 ∨ j = 1 ∨ j = 2 ∨ j = 3 ∨ j = 4 ∨ j = 5 ∨ j = 6 ∨ j = 7 ∨ j = 8 ∨ j = 9 by omega) with rfl | rfl | rfl | rfl | rfl | rfl | rfl | rfl | rfl | rfl <;> decide +kernel
theorem rng_len {lo : Int} {n : Nat} : (rng lo n).length = n := by simp [rng]
theorem digits_ok (s : NS) (n : Nat) (hn : n ≤ 60) : ∃ w s', p_law_digits [stB s [], .leaf (.int n)] = .ok (.leaf (.str w)) [stB s' []] ∧ w.length = n ∧ w.all isDig = true := by
  generalize hR : p_law_digits _ = R
  unfold p_law_digits at hR
  have hn4 : n ≤ 1000000000 := by omega
  simp [hn4] at hR
  generalize hF : lcR _ _ _ _ _ _ = F at hR
  obtain ⟨acc, s2, rfl, w, rfl, h2, h3⟩ := lc_st hF (fun (s : NS) => [stB s [], .leaf (.int n), .hole]) (fun i acc _ => ∃ w : S, acc = (w.map fun c => .str [c]) ∧ w.length = i ∧ w.all isDig = true) s (by rw [rng_len]; omega) (by simp) ⟨[], rfl, rfl, rfl⟩ (by
    rintro i d acc s1 hd ⟨w, rfl, h2, h3⟩
    obtain ⟨j, hj, hj2⟩ := nx_nat s1 10
    have hn := nx_ok s1 10
    have hs := sInt_dig (j := j) (by omega)
    have hl : (j : Int).natAbs.log2 < 1920 := by
      have : ∀ k, k < 10 → Nat.log2 k < 1920 := by decide
      exact this _ (by omega)
    have hl : j.log2 < 1920 := by simpa using hl
    refine ⟨some (.str [48 + j]), nxS s1 10, by simp [hn, hj, gStr, hs, hl], w ++ [48 + j], by simp, by simp [h2], ?_⟩
    rw [List.all_append, h3]
    simp [isDig]; omega)
  rw [rng_len] at h2
  have := gj_ones w (by omega)
  simp [-o_joinl, this] at hR
  exact ⟨w, s2, hR.symm, h2, h3⟩
abbrev CHS : S := [32, 39, 33, 34, 35, 36, 38, 40, 41, 42, 43, 44, 45, 46, 47, 48, 49, 50, 51, 52, 53, 54, 55, 56, 57, 58, 59, 60, 61, 62, 63, 64, 65, 66, 67, 68, 69, 70, 71, 72, 73, 74, 75, 76, 77, 78, 79, 80, 81, 82, 83, 84, 85, 86, 87, 88, 89, 90, 91, 92, 93, 94, 95, 96, 97, 98, 99, 100, 101, 102, 103, 104, 105, 106, 107, 108, 109, 110, 111, 112, 113, 114, 115, 116, 117, 118, 119, 120, 121, 122, 123, 124, 125, 126, 10]
theorem char_ok (j : Nat) (h : j < 95) : ∃ c, p_law_char [.leaf (.int j)] = .ok (.leaf (.str [c])) [] := by
  generalize hR : p_law_char _ = R
  unfold p_law_char at hR
  have e1 : ((j : Int) % 95) = j := by omega
  have hc : CHS[j]? = some (CHS[j]'(by show j < 95; exact h)) := List.getElem?_eq_getElem _
  generalize CHS[j]'(by show j < 95; exact h) = c at hc
  simp [e1, hc] at hR
  exact ⟨c, hR.symm⟩
/-- a quoted text -/
def qt (t : S) : S := 39 :: (replC 39 [39, 39] t ++ [39])
theorem replC_len : ∀ t : S, (replC 39 [39, 39] t).length ≤ 2 * t.length
  | [] => by simp [replC]
  | c :: t => by
    have := replC_len t
    unfold replC at *
    rw [List.flatMap_cons, List.length_append, List.length_cons]
    have h : (if c = 39 then [39, 39] else [c]).length ≤ 2 := by split <;> simp
    omega
theorem quoted_ok (t : S) (h : t.length ≤ 1000) : p_law_quoted [.leaf (.str t)] = .ok (.leaf (.str (qt t))) [] := by
  have := replC_len t
  unfold p_law_quoted qt
  simp [show t.length * 3 ≤ 999997 by omega, show (replC 39 [39, 39] t).length + 1 + 1 ≤ 16000000 by omega]
end LAW

set_option Elab.async false
set_option linter.all false
set_option maxRecDepth 100000
set_option maxHeartbeats 4000000
namespace LAW
open P
abbrev kKeyword : S := [107, 101, 121, 119, 111, 114, 100]
abbrev kName : S := [110, 97, 109, 101]
abbrev kMaker : S := [109, 97, 107, 101, 114]
abbrev kNumber : S := [110, 117, 109, 98, 101, 114]
abbrev kText : S := [116, 101, 120, 116]
abbrev kSign : S := [115, 105, 103, 110]
inductive TokW : S → D → S → Prop
  | key {c : Nat} {r : S} (hc : c ∈ LO) (hr : ∀ x ∈ r, x ∈ WD) (k : c :: r ∈ KW) : TokW kKeyword (.str (c :: r)) (c :: r)
  | name {c : Nat} {r : S} (hc : c ∈ LO) (hr : ∀ x ∈ r, x ∈ WD) (k : c :: r ∉ KW) : TokW kName (.str (c :: r)) (c :: r)
  | maker {c : Nat} {r : S} (hc : c ∈ UP) (hr : ∀ x ∈ r, x ∈ WD) : TokW kMaker (.str (c :: r)) (c :: r)
  | num {c : Nat} {r : S} (hd : (c :: r).all isDig = true) (hl : r.length ≤ 17) : TokW kNumber (.int (dVal (c :: r))) (c :: r)
  | text (t : S) (h : t.length ≤ 1000) : TokW kText (.str t) (qt t)
  | sign {w : S} (h : w ∈ SG) : TokW kSign (.str w) w
theorem kw_form : ∀ w ∈ KW, ∃ c r, w = c :: r ∧ c ∈ LO ∧ (∀ x ∈ r, x ∈ WD) ∧ r.length ≤ 6 := by
  have : ∀ w ∈ KW, w ≠ [] ∧ w.headD 0 ∈ LO ∧ (∀ x ∈ w.tail, x ∈ WD) ∧ w.tail.length ≤ 6 := by decide
  intro w hw
  obtain ⟨h1, h2, h3, h4⟩ := this w hw
  cases w with
  | nil => exact absurd rfl h1
  | cons c r => exact ⟨c, r, rfl, h2, h3, h4⟩
theorem token_ok (s : NS) : ∃ kd v w s', p_law_token [stB s []] = .ok (.leaf (.tup [.str kd, v, .str w])) [stB s' []] ∧ TokW kd v w ∧ w.length ≤ 2100 := by
  generalize hR : p_law_token _ = R
  unfold p_law_token at hR
  obtain ⟨k, hk, hk3⟩ := nx_nat s 12
  have hn := nx_ok s 12
  rw [hk] at hn
  generalize hs1 : nxS s 12 = s1 at hn
  by_cases c1 : (k : Int) < 2
  · obtain ⟨j, hj, hj3⟩ := nx_nat s1 24
    have hn2 := nx_ok s1 24
    have hj4 : j < KW.length := by show j < 24; omega
    have hat : (KW.map D.str)[j]? = some (.str KW[j]) := by rw [List.getElem?_map, List.getElem?_eq_getElem hj4]; rfl
    have hkw := keywords_ok
    generalize KW.map D.str = KD at hat hkw
    have hm : KW[j] ∈ KW := List.getElem_mem hj4
    generalize KW[j] = w at hat hm
    simp [-List.mem_cons, hn, hn2, hj, c1, hkw, hat] at hR
    obtain ⟨c, r, rfl, g1, g2, g3⟩ := kw_form w hm
    exact ⟨_, _, _, _, hR.symm, .key g1 g2 hm, by simp; omega⟩
  by_cases c2 : (k : Int) < 4
  · obtain ⟨c, r, s2, h1, h2, h3, h4, h5⟩ := word_ok s1 LO rfl
    have e : p_law_name [stB s1 []] = .ok (.leaf (.str (c :: r))) [stB s2 []] := by
      unfold p_law_name; simp [-List.mem_cons, h1]
    simp [-List.mem_cons, hn, c1, c2, e] at hR
    exact ⟨_, _, _, _, hR.symm, .name h2 h3 h5, by simp; omega⟩
  by_cases c3 : (k : Int) < 6
  · obtain ⟨c, r, s2, h1, h2, h3, h4, h5⟩ := word_ok s1 UP rfl
    have e : p_law_maker [stB s1 []] = .ok (.leaf (.str (c :: r))) [stB s2 []] := by
      unfold p_law_maker; simp [-List.mem_cons, h1]
    simp [-List.mem_cons, hn, c1, c2, c3, e] at hR
    exact ⟨_, _, _, _, hR.symm, .maker h2 h3, by simp; omega⟩
  by_cases c4 : (k : Int) < 8
  · obtain ⟨j, hj, hj3⟩ := nx_nat s1 18
    have hn2 := nx_ok s1 18
    rw [hj] at hn2
    obtain ⟨w, s2, h1, h2, h3⟩ := digits_ok (nxS s1 18) (1 + j) (by omega)
    have hw : w ≠ [] := by intro z; rw [z] at h2; simp only [List.length_nil] at h2; omega
    have e : ((1 + j : Nat) : Int) = 1 + (j : Int) := by omega
    rw [e] at h1
    simp [-List.mem_cons, hn, hn2, c1, c2, c3, c4, h1, h3, hw, show w.length ≤ 640 by omega] at hR
    cases w with
    | nil => exact absurd rfl hw
    | cons c r => exact ⟨_, _, _, _, hR.symm, .num h3 (by simp at h2; omega), by simp at h2 ⊢; omega⟩
  by_cases c5 : (k : Int) < 10
  · obtain ⟨n, hn', hn3⟩ := nx_nat s1 6
    have hn2 := nx_ok s1 6
    rw [hn'] at hn2
    generalize nxS s1 6 = s2 at hn2
    simp [-List.mem_cons, hn, hn2, c1, c2, c3, c4, c5, show n ≤ 1000000000 by omega] at hR
    generalize hF : lcR _ _ _ _ _ _ = F at hR
    obtain ⟨acc, s3, rfl, t, rfl, h2⟩ := lc_st hF (fun (s : NS) => [stB s [], .leaf (.int k), .hole, .hole, .hole, .hole, .hole, .hole, .hole, .hole]) (fun i acc _ => ∃ w : S, acc = (w.map fun c => .str [c]) ∧ w.length = i) s2 (by rw [rng_len]; omega) (by simp) ⟨[], rfl, rfl⟩ (by
      rintro i d acc s1 hd ⟨w, rfl, h2⟩
      obtain ⟨j, hj, hj2⟩ := nx_nat s1 95
      have hn := nx_ok s1 95
      rw [hj] at hn
      obtain ⟨c, hc⟩ := char_ok j (by omega)
      exact ⟨some (.str [c]), nxS s1 95, by simp [hn, hc], w ++ [c], by simp, by simp [h2]⟩)
    rw [rng_len] at h2
    have hj := gj_ones t (by omega)
    obtain ⟨m, hm, hm3⟩ := nx_nat s3 20
    have hn3 := nx_ok s3 20
    rw [hm] at hn3
    by_cases c6 : m = 19
    · subst c6
      simp [-o_joinl, -List.mem_cons, hj, hn3, show t.length ≤ 15999700 by omega] at hR
      rw [quoted_ok _ (by simp; omega)] at hR
      simp [-List.mem_cons] at hR
      refine ⟨_, _, _, _, hR.symm, .text _ (by simp; omega), ?_⟩
      unfold qt
      rw [List.length_cons, List.length_append]
      refine Nat.le_trans (Nat.add_le_add_right (Nat.add_le_add_right (replC_len _) _) _) ?_
      simp; omega
    · have hq := quoted_ok t (by omega)
      have c7 : ¬ (m : Int) = 19 := by omega
      simp [-o_joinl, -List.mem_cons, hj, hn3, hq, c7] at hR
      refine ⟨_, _, _, _, hR.symm, .text _ (by omega), ?_⟩
      have := replC_len t
      unfold qt
      simp; omega
  · obtain ⟨j, hj, hj3⟩ := nx_nat s1 18
    have hn2 := nx_ok s1 18
    rw [hj] at hn2
    have hj4 : j < SG.length := by show j < 18; omega
    have hat : (SG.map D.str)[j]? = some (.str SG[j]) := by rw [List.getElem?_map, List.getElem?_eq_getElem hj4]; rfl
    have hm : SG[j] ∈ SG := List.getElem_mem hj4
    generalize SG[j] = w at hat hm
    simp only [List.map_cons, List.map_nil] at hat
    simp [-List.mem_cons, hn, hn2, c1, c2, c3, c4, c5, hat] at hR
    have hw : w.length ≤ 2 := by
      have : ∀ w ∈ SG, w.length ≤ 2 := by decide
      exact this w hm
    exact ⟨_, _, _, _, hR.symm, .sign hm, by omega⟩
end LAW

set_option Elab.async false
set_option linter.all false
set_option maxRecDepth 100000
set_option maxHeartbeats 4000000
namespace LAW
open P
abbrev LU : S := [97, 98, 99, 100, 101, 102, 103, 104, 105, 106, 107, 108, 109, 110, 111, 112, 113, 114, 115, 116, 117, 118, 119, 120, 121, 122, 65, 66, 67, 68, 69, 70, 71, 72, 73, 74, 75, 76, 77, 78, 79, 80, 81, 82, 83, 84, 85, 86, 87, 88, 89, 90]
def jn (a : Nat) (w' : S) (c : Nat) : Bool := if a ∈ LU then decide (c ∈ WD) else if a ∈ DG then decide (c ∈ DG) else if a = 39 then decide (c = 39) else decide (a :: w' ∈ ([[43], [58]] : List S)) && decide (c ∈ ([43, 58, 61] : S))
theorem joins_ok (a : Nat) (w' : S) (c : Nat) (r : S) (h1 : w'.length ≤ 100000) (h2 : r.length ≤ 100000) : p_law_joins [.leaf (.str (a :: w')), .leaf (.str (c :: r))] = .ok (.leaf (.bl (jn a w' c))) [] := by
  have hi := in_strs (a :: w') [[43], [58]]
  simp only [List.map_cons, List.map_nil] at hi
  have ea : atI (a :: w') 0 = some a := atI_get (k := 0) (xs := a :: w') (by simp)
  have ec : atI (c :: r) 0 = some c := atI_get (k := 0) (xs := c :: r) (by simp)
  unfold p_law_joins jn
  by_cases q1 : a ∈ LU
  · simp [-List.mem_cons, ea, ec, q1, show w'.length ≤ 15999999 by omega, show r.length ≤ 15999999 by omega]
  by_cases q2 : a ∈ DG
  · simp [-List.mem_cons, ea, ec, q1, q2, show w'.length ≤ 15999999 by omega, show r.length ≤ 15999999 by omega]
  by_cases q3 : a = 39
  · subst q3
    simp [-List.mem_cons, ea, ec, q1, q2, show w'.length ≤ 15999999 by omega, show r.length ≤ 15999999 by omega, cEq, atom, mixed, D.eq]
    by_cases e : c = 39 <;> simp [e]
  · by_cases q4 : a :: w' ∈ ([[43], [58]] : List S)
    · simp [-List.mem_cons, ea, ec, q1, q2, q3, hi, q4, show w'.length ≤ 15999999 by omega, show r.length ≤ 15999999 by omega, cEq, atom, mixed, D.eq]
    · simp [-List.mem_cons, ea, ec, q1, q2, q3, hi, q4, show w'.length ≤ 15999999 by omega, show r.length ≤ 15999999 by omega, cEq, atom, mixed, D.eq]
/-- a run of signs of al that begins at s -/
structure Rn (X al : S) (s n : Nat) : Prop where
  i : ∀ i, i < n → ∃ c, X[s + i]? = some c ∧ c ∈ al
  e : X[s + n]? = none ∨ ∃ c, X[s + n]? = some c ∧ c ∉ al
  l : s + n ≤ X.length
theorem rn_of {al w rest pre : S} (h : ∀ c ∈ w, c ∈ al) (h2 : ∀ c, rest.head? = some c → c ∉ al) : Rn (pre ++ (w ++ rest)) al pre.length w.length where
  i := fun i hi => by
    rw [List.getElem?_append_right (by omega), Nat.add_sub_cancel_left, List.getElem?_append_left hi]
    exact ⟨w[i], List.getElem?_eq_getElem hi, h _ (List.getElem_mem hi)⟩
  e := by
    rw [List.getElem?_append_right (by omega), Nat.add_sub_cancel_left, List.getElem?_append_right (by omega), Nat.sub_self]
    cases rest with
    | nil => exact .inl rfl
    | cons c r => exact .inr ⟨c, rfl, h2 c rfl⟩
  l := by simp
theorem run_ok {X al : S} {s n : Nat} (R : Rn X al s n) (hX : X.length ≤ 900000) : p_run_end [.leaf (.str X), .leaf (.int s), .leaf (.str al)] = .ok (.leaf (.int ((s + n : Nat) : Int))) [] := by
  generalize hR : p_run_end _ = Q
  unfold p_run_end at hR
  simp at hR
  generalize hF : whL _ _ _ _ _ = F at hR
  have hl := R.l
  obtain ⟨e1, rfl, rfl⟩ := wh_st hF (fun (i : Nat) => [.leaf (.str X), .leaf (.int s), .leaf (.str al), .leaf (.int ((s + i : Nat) : Int))]) (fun k i => k + i = n) (fun e => e = [.leaf (.str X), .leaf (.int s), .leaf (.str al), .leaf (.int ((s + n : Nat) : Int))]) n 0 (by omega) (by simp) (by omega) (by
    intro k i hk
    have hz : X.length ≤ 16000000 := by omega
    by_cases hin : i < n
    · obtain ⟨c, hc, hm⟩ := R.i i hin
      have hlt : s + i < X.length := by omega
      have ha : atI X ((s + i : Nat) : Int) = some c := by rw [atI_get hlt]; rw [List.getElem?_eq_getElem hlt] at hc; exact hc
      have hlt' : (s : Int) + (i : Int) < X.length := by omega
      have ha' : atI X ((s : Int) + (i : Int)) = some c := by rw [← ha]; rw [Int.natCast_add]
      refine .inr ⟨_, by simp [ha', hm, hz, hlt']; rfl, .inl ⟨k - 1, i + 1, by omega, ?_, by omega⟩⟩
      simp
      omega
    · have hi : i = n := by omega
      subst hi
      refine .inl ⟨_, ?_, rfl⟩
      rcases R.e with h | ⟨c, hc, hm⟩
      · have : X.length ≤ s + i := List.getElem?_eq_none_iff.mp h
        simp [hz, show ¬ (s : Int) + (i : Int) < X.length by omega]
      · have hlt : s + i < X.length := (List.getElem?_eq_some_iff.mp hc).1
        have ha : atI X ((s + i : Nat) : Int) = some c := by rw [atI_get hlt]; rw [List.getElem?_eq_getElem hlt] at hc; exact hc
        have ha' : atI X ((s : Int) + (i : Int)) = some c := by rw [← ha]; rw [Int.natCast_add]
        simp [ha', hm, hz, show (s : Int) + (i : Int) < X.length by omega])
  simp at hR
  rw [← hR]
  simp
end LAW

set_option Elab.async false
set_option linter.all false
set_option maxRecDepth 100000
set_option maxHeartbeats 4000000
namespace LAW
open P
theorem at_mid {pre rest : S} {c : Nat} : atI (pre ++ c :: rest) (pre.length : Int) = some c := by
  rw [atI_get (by simp)]; simp
theorem cut_w {pre w rest : S} : cut (pre ++ (w ++ rest)) (some (pre.length : Int)) (some ((pre.length + w.length : Nat) : Int)) = w := by
  rw [cut_mid (by omega)]
  simp
theorem in_tup (w : S) (L : List S) : cIn (.str w) (.tup (L.map .str)) = some (decide (w ∈ L)) := by
  rw [c_in_st, all_str, any_str]; exact if_pos rfl
theorem rword_ok {pre rest r : S} {c : Nat} (hc : c ∈ LO ∨ c ∈ UP) (hr : ∀ x ∈ r, x ∈ WD) (h2 : ∀ d, rest.head? = some d → d ∉ WD) (hX : (pre ++ ((c :: r) ++ rest)).length ≤ 900000) :
    p_read_word [.leaf (.str (pre ++ ((c :: r) ++ rest))), .leaf (.int pre.length)] = .ok (.leaf (.tup [.str (if c ∈ UP then kMaker else if c :: r ∈ KW then kKeyword else kName), .str (c :: r), .int ((pre.length + (c :: r).length : Nat) : Int)])) [] := by
  have hw : ∀ x ∈ c :: r, x ∈ WD := fun x hx => (List.mem_cons.mp hx).elim (fun e => by
    subst e
    have : ∀ y, y ∈ LO ∨ y ∈ UP → y ∈ WD := by
      intro y hy
      have h1 : ∀ y ∈ LO, y ∈ WD := by decide
      have h2 : ∀ y ∈ UP, y ∈ WD := by decide
      exact hy.elim (h1 y) (h2 y)
    exact this x hc) (hr x)
  have hrun := run_ok (rn_of (pre := pre) hw h2) hX
  have hcut := cut_w (pre := pre) (w := c :: r) (rest := rest)
  have hat : atI (pre ++ ((c :: r) ++ rest)) (pre.length : Int) = some c := at_mid
  have hin := in_tup (c :: r) KW
  simp only [List.map_cons, List.map_nil] at hin
  generalize hX' : pre ++ ((c :: r) ++ rest) = X at *
  generalize hE : pre.length + (c :: r).length = E at *
  unfold p_read_word
  have hz : X.length ≤ 16000000 := by omega
  by_cases q : c ∈ UP
  · simp [-List.mem_cons, -c_in_st, -Int.natCast_add, hrun, hcut, hat, hz, q]
  · by_cases q2 : c :: r ∈ KW
    · simp [-List.mem_cons, -c_in_st, -Int.natCast_add, hrun, hcut, hat, hz, q, hin, q2]
    · simp [-List.mem_cons, -c_in_st, -Int.natCast_add, hrun, hcut, hat, hz, q, hin, q2]
theorem rnum_ok {pre rest w : S} (hw : w.all isDig = true) (h0 : w ≠ []) (h2 : ∀ d, rest.head? = some d → d ∉ DG) (hX : (pre ++ (w ++ rest)).length ≤ 900000) :
    p_read_number [.leaf (.str (pre ++ (w ++ rest))), .leaf (.int pre.length)] = if w.length ≤ 18 then .ok (.leaf (.tup [.str kNumber, .int (dVal w), .int ((pre.length + w.length : Nat) : Int)])) [] else .exc 0 (some [("position", .int pre.length)]) := by
  have hw2 : ∀ x ∈ w, x ∈ DG := fun x hx => by
    have := List.all_eq_true.mp hw x hx
    have : 48 ≤ x ∧ x ≤ 57 := by simpa [isDig] using this
    rcases (show x = 48 ∨ x = 49 ∨ x = 50 ∨ x = 51 ∨ x = 52 ∨ x = 53 ∨ x = 54 ∨ x = 55 ∨ x = 56 ∨ x = 57 by omega) with rfl | rfl | rfl | rfl | rfl | rfl | rfl | rfl | rfl | rfl <;> decide
  have hrun := run_ok (rn_of (pre := pre) hw2 h2) hX
  have hcut := cut_w (pre := pre) (w := w) (rest := rest)
  have hpl : pre.length ≤ (pre ++ (w ++ rest)).length := by simp
  have hp100 : pre.length < 1267650600228229401496703205376 := Nat.lt_of_le_of_lt (Nat.le_trans hpl hX) (by decide)
  generalize hX' : pre ++ (w ++ rest) = X at *
  unfold p_read_number
  have hz : X.length ≤ 16000000 := by omega
  have hsub : (((pre.length + w.length : Nat) : Int) - (pre.length : Int)) = w.length := by omega
  by_cases q : w.length ≤ 18
  · rw [if_pos q]
    simp [-List.mem_cons, -List.all_eq_true, -Int.natCast_add, hrun, hcut, hz, hsub, show ¬ (18 : Int) < w.length by omega, hw, h0, show w.length ≤ 640 by omega]
  · rw [if_neg q]
    simp [-List.mem_cons, -Int.natCast_add, hrun, hcut, hz, hsub, show (18 : Int) < w.length by omega, hp100]
end LAW

set_option Elab.async false
set_option linter.all false
set_option maxRecDepth 100000
set_option maxHeartbeats 4000000
namespace LAW
open P
theorem fd_drop {X u r : S} {b c : Nat} (h : X.drop b = u ++ c :: r) (hu : c ∉ u) : fdF X c b = ((b + u.length : Nat) : Int) := by
  unfold fdF
  have : (X.drop b).findIdx? (· == c) = some u.length := by
    rw [h, List.findIdx?_append]
    have h1 : u.findIdx? (· == c) = none := by
      rw [List.findIdx?_eq_none_iff]
      intro x hx
      have : x ≠ c := fun e => hu (e ▸ hx)
      simpa using this
    rw [h1]
    simp [List.findIdx?_cons]
  rw [this]
theorem fd_none {X : S} {b c : Nat} (h : c ∉ X.drop b) : fdF X c b = -1 := by
  unfold fdF
  have h1 : (X.drop b).findIdx? (· == c) = none := by
    rw [List.findIdx?_eq_none_iff]
    intro x hx
    have : x ≠ c := fun e => h (e ▸ hx)
    simpa using this
  rw [h1]
abbrev RQ (t : S) : S := replC 39 [39, 39] t
theorem rq_app (a b : S) : RQ (a ++ b) = RQ a ++ RQ b := by unfold RQ replC; rw [List.flatMap_append]
theorem rq_no {a : S} (h : 39 ∉ a) : RQ a = a := by
  unfold RQ replC
  induction a with
  | nil => rfl
  | cons c a ih =>
    rw [List.mem_cons, not_or] at h
    rw [List.flatMap_cons, ih h.2, if_neg (fun e => h.1 e.symm)]; rfl
/-- the first sign c of a text -/
theorem first_of (c : Nat) : ∀ t : S, c ∉ t ∨ ∃ u r, t = u ++ c :: r ∧ c ∉ u
  | [] => .inl (by simp)
  | x :: t => by
    by_cases e : x = c
    · exact .inr ⟨[], t, by rw [e]; rfl, by simp⟩
    · rcases first_of c t with h | ⟨u, r, rfl, h⟩
      · exact .inl (by simp [h, Ne.symm e])
      · exact .inr ⟨x :: u, r, rfl, by simp [h, Ne.symm e]⟩
theorem join_strs (ss : List S) : joinL [] ss = ss.flatten := by
  induction ss with
  | nil => rfl
  | cons a r ih => cases r with
    | nil => simp [joinL]
    | cons b r => simp only [joinL, List.flatten_cons] at *; rw [ih]; rfl
theorem join_snoc {P : List S} {t1 u : S} (h : joinL [] P = t1) : joinL [] (P ++ [u]) = t1 ++ u := by
  rw [join_strs] at *
  simp [h]
/-- the state of the reader of a text -/
structure RT where
  P : List S
  t1 : S
  t2 : S
  b : Nat
  q : Int
structure RTok (X : S) (s : Nat) (t tail : S) (k : Nat) (z : RT) : Prop where
  t : t = z.t1 ++ z.t2
  b : X.drop z.b = RQ z.t2 ++ tail
  p : z.b = s + 1 + (RQ z.t1).length
  j : joinL [] z.P = z.t1
  q : z.q = fdF X 39 z.b
  k : z.t2.length ≤ k
  n : z.P.length ≤ z.t1.length
  l : z.b + (RQ z.t2).length + tail.length = X.length
theorem rtext_loop {X t tail : S} {s : Nat} (hX : X.length ≤ 900000) (ht : tail = [] ∨ ∃ r, tail = 39 :: r ∧ r.head? ≠ some 39) (h0 : X.drop (s + 1) = RQ t ++ tail) (hl : s + 1 ≤ X.length) {F : PRS}
    (hF : whL [] (tAnd (tCmp cGe (pVar 4) (pC (.int 0))) (tCmp cEq (pFz (pSl (pVar 0) (oSo (pFz (pAdd (pVar 4) (pC (.int 1))))) (oSo (pFz (pAdd (pVar 4) (pC (.int 2))))))) (pC (.str [39])))) (sSeq (sDrop (pLf (pUpd (.var 2) (dCons (pFz (pSl (pVar 0) (oSo (pVar 3)) (oSo (pFz (pAdd (pVar 4) (pC (.int 1))))))) dNil) uApp)))
      (sSeq (sAsg 3 (pLf (pFz (pAdd (pVar 4) (pC (.int 2))))))
      (sAsg 4 (pLf (pFind (pVar 0) (dCons (pC (.str [39])) (dCons (pVar 3) dNil))))))) 1000000 [.leaf (.str X), .leaf (.int s), .ls [], .leaf (.int ((s : Int) + 1)), .leaf (.int (fdF X 39 (s + 1)))] = F) :
    ∃ z : RT, F = .nx [.leaf (.str X), .leaf (.int s), .ls (z.P.map .str), .leaf (.int z.b), .leaf (.int z.q)] ∧ 39 ∉ z.t2 ∧ ∃ k, RTok X s t tail k z := by
  have htl : t.length ≤ (RQ t).length := by
    unfold RQ replC
    induction t with
    | nil => simp
    | cons c t ih => 
      clear h0 hF
      have : ∀ t : S, t.length ≤ (t.flatMap fun x => if x = 39 then [39, 39] else [x]).length := by
        intro t
        induction t with
        | nil => simp
        | cons c t ih =>
          rw [List.flatMap_cons, List.length_append, List.length_cons]
          have h : 1 ≤ (if c = 39 then [39, 39] else [c]).length := by split <;> simp
          omega
      exact this _
  have hl2 : (RQ t).length + tail.length = X.length - (s + 1) := by
    have := congrArg List.length h0
    simp only [List.length_drop, List.length_append] at this
    omega
  obtain ⟨e1, rfl, z, he, h1, h2⟩ := wh_st hF (fun (z : RT) => [.leaf (.str X), .leaf (.int s), .ls (z.P.map .str), .leaf (.int z.b), .leaf (.int z.q)]) (fun k z => RTok X s t tail k z) (fun e => ∃ z : RT, e = [.leaf (.str X), .leaf (.int s), .ls (z.P.map .str), .leaf (.int z.b), .leaf (.int z.q)] ∧ 39 ∉ z.t2 ∧ ∃ k, RTok X s t tail k z)
    t.length ⟨[], [], t, s + 1, fdF X 39 (s + 1)⟩ (by omega) (by simp) ⟨rfl, h0, by simp [RQ, replC], rfl, rfl, Nat.le_refl _, Nat.le_refl _, by show s + 1 + (RQ t).length + tail.length = X.length; omega⟩ (by
    rintro k ⟨P, t1, t2, b, q⟩ R
    have hz : X.length ≤ 16000000 := by omega
    obtain ⟨rt, rb, rp, rj, rq, rk, rn, rl⟩ := R
    dsimp only at rt rb rp rj rq rk rn rl
    rcases first_of 39 t2 with h | ⟨u, r, rfl, hu⟩
    · -- no quote is left in the text
      rw [rq_no h] at rb rl
      rcases ht with rfl | ⟨r, rfl, hr⟩
      · have hq : q = -1 := by rw [rq, fd_none]; rw [rb]; simpa using h
        refine .inl ⟨_, ?_, ⟨P, t1, t2, b, q⟩, rfl, h, k, ⟨rt, by rw [rq_no h]; exact rb, rp, rj, rq, rk, rn, by rw [rq_no h]; exact rl⟩⟩
        subst hq
        simp
      · have hq : q = ((b + t2.length : Nat) : Int) := by rw [rq, fd_drop rb h]
        have hd : X.drop (b + t2.length + 1) = r := by
          rw [Nat.add_assoc, ← List.drop_drop, rb]
          simp [List.drop_append]
        have hc : cut X (some (q + 1)) (some (q + 2)) = r.take 1 := by
          have e1 : q + 1 = ((b + t2.length + 1 : Nat) : Int) := by omega
          have e2 : q + 2 = ((b + t2.length + 2 : Nat) : Int) := by omega
          rw [e1, e2, cut_mid (by omega), hd]
          congr 1; omega
        have hne : r.take 1 ≠ [39] := by
          cases r with
          | nil => simp
          | cons c r => intro e; simp at e; exact hr (by rw [e]; rfl)
        refine .inl ⟨_, ?_, ⟨P, t1, t2, b, q⟩, rfl, h, k, ⟨rt, by rw [rq_no h]; exact rb, rp, rj, rq, rk, rn, by rw [rq_no h]; exact rl⟩⟩
        have hq0 : 0 ≤ q := by omega
        simp [hq0, hz, hc, hne, cEq, atom, mixed, D.eq]
    · -- one more doubled quote
      have e1 : RQ (u ++ 39 :: r) = u ++ 39 :: 39 :: RQ r := by
        rw [rq_app, rq_no hu]; rfl
      rw [e1] at rb rl
      have hq : q = ((b + u.length : Nat) : Int) := by
        rw [rq]
        exact fd_drop (r := 39 :: (RQ r ++ tail)) (by rw [rb]; simp) hu
      have hd : ∀ n, n ≤ 2 → X.drop (b + u.length + n) = (39 :: 39 :: (RQ r ++ tail)).drop n := fun n hn => by
        rw [Nat.add_assoc, ← List.drop_drop, rb]
        simp [List.drop_append]
      have hc : cut X (some (q + 1)) (some (q + 2)) = [39] := by
        have e1 : q + 1 = ((b + u.length + 1 : Nat) : Int) := by omega
        have e2 : q + 2 = ((b + u.length + 2 : Nat) : Int) := by omega
        rw [e1, e2, cut_mid (by omega), hd 1 (by omega)]
        rw [show b + u.length + 2 - (b + u.length + 1) = 1 by omega]; rfl
      have hc2 : cut X (some (b : Int)) (some (q + 1)) = u ++ [39] := by
        have e1 : q + 1 = ((b + u.length + 1 : Nat) : Int) := by omega
        rw [e1, cut_mid (by omega), rb, show b + u.length + 1 - b = u.length + 1 by omega]
        simp [List.take_append]
        exact List.take_of_length_le (by omega)
      have hq0 : 0 ≤ q := by omega
      have hb2 : q + 2 = ((b + u.length + 2 : Nat) : Int) := by omega
      have hPl : P.length < 16000000 := by
        have : t1.length ≤ (RQ t1).length := by
          have : ∀ t : S, t.length ≤ (t.flatMap fun x => if x = 39 then [39, 39] else [x]).length := by
            intro t
            induction t with
            | nil => simp
            | cons c t ih =>
              rw [List.flatMap_cons, List.length_append, List.length_cons]
              have h : 1 ≤ (if c = 39 then [39, 39] else [c]).length := by split <;> simp
              omega
          exact this _
        omega
      refine .inr ⟨_, by simp [hq0, hz, hc, cEq, atom, mixed, D.eq]; rfl, .inl ⟨k - 1, ⟨P ++ [u ++ [39]], t1 ++ (u ++ [39]), r, b + u.length + 2, fdF X 39 (b + u.length + 2)⟩, ?_, ?_, ⟨?_, ?_, ?_, ?_, rfl, ?_, ?_, ?_⟩⟩⟩
      · simp at rk; omega
      · have hge : 0 ≤ (b : Int) + u.length + 2 := by omega
        have htn : ((b : Int) + u.length + 2).toNat = b + u.length + 2 := by omega
        simp [hz, hc2, hPl, hb2, hge, htn]
      · dsimp only; rw [rt]; simp
      · dsimp only; rw [hd 2 (by omega)]; rfl
      · dsimp only
        rw [rq_app, rq_app, rq_no hu, rp]
        simp [RQ, replC]; omega
      · exact join_snoc rj
      · dsimp only; simp at rk; omega
      · dsimp only; simp; omega
      · dsimp only; simp at rl; omega)
  exact ⟨z, by rw [he], h1, h2⟩
end LAW

set_option Elab.async false
set_option linter.all false
set_option maxRecDepth 100000
set_option maxHeartbeats 4000000
namespace LAW
open P
theorem drop_pre {pre w : S} {c : Nat} : (pre ++ c :: w).drop (pre.length + 1) = w := by
  rw [← List.drop_drop, List.drop_left]; rfl
theorem sum_len (P : List S) : (P.map List.length).sum = (joinL [] P).length := by rw [join_strs, List.length_flatten]
theorem rtext_ok {pre t rest : S} (h2 : rest.head? ≠ some 39) (hX : (pre ++ (qt t ++ rest)).length ≤ 900000) :
    p_read_text [.leaf (.str (pre ++ (qt t ++ rest))), .leaf (.int pre.length)] = .ok (.leaf (.tup [.str kText, .str t, .int ((pre.length + (qt t).length : Nat) : Int)])) [] := by
  have h0 : (pre ++ (qt t ++ rest)).drop (pre.length + 1) = RQ t ++ (39 :: rest) := by
    unfold qt
    rw [List.cons_append, drop_pre]; simp
  have hl : pre.length + 1 ≤ (pre ++ (qt t ++ rest)).length := by unfold qt; simp
  have hlen : (pre ++ (qt t ++ rest)).length = pre.length + (qt t).length + rest.length := by simp; omega
  generalize pre ++ (qt t ++ rest) = X at *
  generalize hs : pre.length = s at *
  generalize hR : p_read_text _ = Q
  unfold p_read_text at hR
  have e1 : (0 : Int) ≤ (s : Int) + 1 := by omega
  have e2 : ((s : Int) + 1).toNat = s + 1 := by omega
  simp [e1, e2] at hR
  generalize hF : whL _ _ _ _ _ = F at hR
  obtain ⟨z, rfl, h39, k, R⟩ := rtext_loop hX (.inr ⟨rest, rfl, h2⟩) h0 hl hF
  have hz : X.length ≤ 16000000 := by omega
  have rb := R.b
  have rl := R.l
  rw [rq_no h39] at rb rl
  have hq : z.q = ((z.b + z.t2.length : Nat) : Int) := by rw [R.q, fd_drop rb h39]
  have hc : cut X (some (z.b : Int)) (some z.q) = z.t2 := by
    rw [hq, cut_mid (by omega), rb]; simp
  have hPl : z.P.length < 16000000 := by
    have h1 := R.n
    have h3 : z.t1.length ≤ t.length := by rw [R.t]; simp
    have h4 := congrArg List.length h0
    have h5 : ∀ t : S, t.length ≤ (RQ t).length := by
      intro t
      induction t with
      | nil => simp
      | cons c t ih =>
        unfold RQ replC at *
        rw [List.flatMap_cons, List.length_append, List.length_cons]
        have h : 1 ≤ (if c = 39 then [39, 39] else [c]).length := by split <;> simp
        omega
    have h6 := h5 t
    simp only [List.length_drop, List.length_append] at h4
    omega
  have hq0 : ¬ z.q < 0 := by omega
  have hj : joinL [] (z.P ++ [z.t2]) = t := by rw [join_snoc R.j, R.t]
  have hjs : ((z.P ++ [z.t2]).map List.length).sum ≤ 16000000 := by
    rw [sum_len, hj]
    have h4 := congrArg List.length h0
    have h5 : t.length ≤ (RQ t).length := by
      have : ∀ t : S, t.length ≤ (RQ t).length := by
        intro t
        induction t with
        | nil => simp
        | cons c t ih =>
          unfold RQ replC at *
          rw [List.flatMap_cons, List.length_append, List.length_cons]
          have h : 1 ≤ (if c = 39 then [39, 39] else [c]).length := by split <;> simp
          omega
      exact this t
    simp only [List.length_drop, List.length_append] at h4
    omega
  have hgj : gJoin [] (.lst (z.P.map D.str ++ [.str z.t2])) = some (.str t) := by
    have e : z.P.map D.str ++ [.str z.t2] = (z.P ++ [z.t2]).map D.str := by simp
    rw [e, o_joinl, strL_map]
    show (if _ then some (D.str (joinL [] (z.P ++ [z.t2]))) else none) = _
    rw [if_pos (by simpa using hjs), hj]
  have hend : z.q + 1 = ((s + (qt t).length : Nat) : Int) := by
    rw [hq]; simp only [List.length_cons] at rl; omega
  simp [-o_joinl, -Int.natCast_add, hq0, hz, hc, hPl, hgj, hend] at hR
  exact hR.symm
theorem rtext_err {pre t : S} (hX : (pre ++ (39 :: RQ t)).length ≤ 900000) :
    p_read_text [.leaf (.str (pre ++ (39 :: RQ t))), .leaf (.int pre.length)] = .exc 0 (some [("position", .int pre.length)]) := by
  have h0 : (pre ++ (39 :: RQ t)).drop (pre.length + 1) = RQ t ++ [] := by rw [drop_pre]; simp
  have hl : pre.length + 1 ≤ (pre ++ (39 :: RQ t)).length := by simp
  generalize pre ++ (39 :: RQ t) = X at *
  generalize hs : pre.length = s at *
  generalize hR : p_read_text _ = Q
  unfold p_read_text at hR
  have e1 : (0 : Int) ≤ (s : Int) + 1 := by omega
  have e2 : ((s : Int) + 1).toNat = s + 1 := by omega
  simp [e1, e2] at hR
  generalize hF : whL _ _ _ _ _ = F at hR
  obtain ⟨z, rfl, h39, k, R⟩ := rtext_loop hX (.inl rfl) h0 hl hF
  have rb := R.b
  rw [rq_no h39] at rb
  have hq : z.q = -1 := by rw [R.q, fd_none]; rw [rb]; simpa using h39
  have hp : s < 1267650600228229401496703205376 := Nat.lt_of_lt_of_le (Nat.lt_of_lt_of_le (Nat.lt_succ_self s) (Nat.le_trans hl hX)) (by decide)
  simp [hq, hp] at hR
  exact hR.symm
end LAW

set_option Elab.async false
set_option linter.all false
set_option maxRecDepth 100000
set_option maxHeartbeats 4000000
namespace LAW
open P
abbrev LG : List S := [[43, 43], [58, 58], [45, 62], [58, 61]]
abbrev SH : List S := [[40], [41], [91], [93], [44], [59], [124], [61], [60], [43], [45], [42], [47], [58]]
/-- what may stand behind a token -/
def Fo (w : S) (o : Option Nat) : Prop := ∀ d, o = some d → jn (w.headD 0) w.tail d = false ∧ d ≠ 62
theorem lo_up : ∀ c ∈ LO, c ∉ UP := by decide
theorem lo_lu : ∀ c ∈ LO, c ∈ LU := by decide
theorem up_lu : ∀ c ∈ UP, c ∈ LU := by decide
theorem dg_no : ∀ c ∈ DG, c ∉ LO ∧ c ∉ UP ∧ c ∉ LU := by decide
theorem sg_head : ∀ w ∈ SG, w.headD 0 ∉ LO ∧ w.headD 0 ∉ UP ∧ w.headD 0 ∉ DG ∧ w.headD 0 ≠ 39 ∧ w.headD 0 ∉ LU ∧ w ≠ [] ∧ (w ∈ LG ∨ w ∈ SH) := by decide
theorem sh_one : ∀ w ∈ SH, w.tail = [] := by decide
theorem lg_two : ∀ w ∈ LG, w.length = 2 := by decide
theorem lg_form : ∀ w ∈ LG, ∃ a b, w = [a, b] := fun w h => by
  have := lg_two w h
  match w, this with
  | [a, b], _ => exact ⟨a, b, rfl⟩
theorem cut2 {pre w : S} (h : 0 < w.length) : cut (pre ++ w) (some (pre.length : Int)) (some ((pre.length : Int) + 2)) = w.take 2 := by
  have e : ((pre.length : Int) + 2) = ((pre.length + 2 : Nat) : Int) := by omega
  rw [e, cut_mid (by omega), show pre.length + 2 - pre.length = 2 by omega, List.drop_left]
/-- the token's kind, value and length -/
abbrev rd (kd : S) (v : D) (n : Nat) : T := .leaf (.tup [.str kd, v, .int (n : Int)])
theorem not_long {c d : Nat} (h : jn c [] d = false) (h62 : d ≠ 62) (h1 : c ∉ LU) (h2 : c ∉ DG) (h3 : c ≠ 39) : [c, d] ∉ LG := by
  unfold jn at h
  rw [if_neg h1, if_neg h2, if_neg h3] at h
  intro hm
  simp at hm h
  rcases hm with ⟨rfl, rfl⟩ | ⟨rfl, rfl⟩ | ⟨rfl, rfl⟩ | ⟨rfl, rfl⟩ <;> simp at h h62
theorem rsign_ok {pre rest w : S} (hw : w ∈ SG) (hf : Fo w rest.head?) (hX : (pre ++ (w ++ rest)).length ≤ 900000) :
    p_read_token [.leaf (.str (pre ++ (w ++ rest))), .leaf (.int pre.length)] = .ok (rd kSign (.str w) (pre.length + w.length)) [] := by
  obtain ⟨h1, h2, h3, h4, h5, h6, h7⟩ := sg_head w hw
  cases w with
  | nil => exact absurd rfl h6
  | cons c r =>
    simp only [List.headD_cons] at h1 h2 h3 h4 h5
    have hat : atI (pre ++ ((c :: r) ++ rest)) (pre.length : Int) = some c := at_mid
    have hcut := cut2 (pre := pre) (w := (c :: r) ++ rest) (by simp)
    have hz : (pre ++ ((c :: r) ++ rest)).length ≤ 16000000 := by omega
    have hlg := in_tup (((c :: r) ++ rest).take 2) LG
    have hsh := in_tup [c] SH
    simp only [List.map_cons, List.map_nil] at hlg hsh
    rcases h7 with h7 | h7
    · obtain ⟨a, b, e⟩ := lg_form _ h7
      have e1 : c = a := by injection e
      have e2 : r = [b] := by injection e
      subst e1 e2
      have ht : (([c, b] ++ rest).take 2) = [c, b] := rfl
      rw [ht] at hcut hlg
      generalize pre ++ ([c, b] ++ rest) = X at *
      unfold p_read_token
      simp [-List.mem_cons, -c_in_st, hat, hcut, hz, h1, h2, h3, h4, hlg, h7, cEq, atom, mixed, D.eq]
    · have hr : r = [] := sh_one _ h7
      subst hr
      have ht : ([c] ++ rest).take 2 ∉ LG := by
        cases rest with
        | nil => intro z; have := lg_two _ z; simp at this
        | cons d rest =>
          have := hf d rfl
          exact not_long (d := d) this.1 this.2 h5 h3 h4
      generalize hq : ([c] ++ rest).take 2 = q at *
      generalize pre ++ ([c] ++ rest) = X at *
      unfold p_read_token
      simp [-List.mem_cons, -c_in_st, hat, hcut, hz, h1, h2, h3, h4, hlg, ht, hsh, h7, cEq, atom, mixed, D.eq]
theorem read_ok {pre rest w kd : S} {v : D} (t : TokW kd v w) (hf : Fo w rest.head?) (hX : (pre ++ (w ++ rest)).length ≤ 900000) :
    p_read_token [.leaf (.str (pre ++ (w ++ rest))), .leaf (.int pre.length)] = .ok (rd kd v (pre.length + w.length)) [] := by
  have word : ∀ {c : Nat} {r : S}, (c ∈ LO ∨ c ∈ UP) → (∀ x ∈ r, x ∈ WD) → Fo (c :: r) rest.head? → (pre ++ ((c :: r) ++ rest)).length ≤ 900000 →
      p_read_token [.leaf (.str (pre ++ ((c :: r) ++ rest))), .leaf (.int pre.length)] = .ok (rd (if c ∈ UP then kMaker else if c :: r ∈ KW then kKeyword else kName) (.str (c :: r)) (pre.length + (c :: r).length)) [] := fun {c r} hc hr hf hX => by
    have hlu : c ∈ LU := hc.elim (lo_lu c) (up_lu c)
    have hw := rword_ok (pre := pre) (rest := rest) hc hr (fun d hd => by
      have := (hf d hd).1
      unfold jn at this
      rw [if_pos (by exact hlu)] at this
      exact of_decide_eq_false this) hX
    have hat : atI (pre ++ ((c :: r) ++ rest)) (pre.length : Int) = some c := at_mid
    have hz : (pre ++ ((c :: r) ++ rest)).length ≤ 16000000 := by omega
    generalize pre ++ ((c :: r) ++ rest) = X at *
    unfold p_read_token
    by_cases q : c ∈ LO
    · simp [-List.mem_cons, hat, hz, q, hw]
    · have q2 : c ∈ UP := hc.resolve_left q
      simp only [if_pos q2] at hw
      simp [-List.mem_cons, hat, hz, q, q2, hw]
  cases t with
  | key hc hr k =>
    rename_i c r
    have := word (.inl hc) hr hf hX
    rw [if_neg (lo_up c hc), if_pos k] at this
    exact this
  | name hc hr k =>
    rename_i c r
    have := word (.inl hc) hr hf hX
    rw [if_neg (lo_up c hc), if_neg k] at this
    exact this
  | maker hc hr =>
    rename_i c r
    have := word (.inr hc) hr hf hX
    rw [if_pos hc] at this
    exact this
  | num hd hl =>
    rename_i c r
    have hdc : c ∈ DG := by
      have := List.all_eq_true.mp hd c (.head _)
      have : 48 ≤ c ∧ c ≤ 57 := by simpa [isDig] using this
      rcases (show c = 48 ∨ c = 49 ∨ c = 50 ∨ c = 51 ∨ c = 52 ∨ c = 53 ∨ c = 54 ∨ c = 55 ∨ c = 56 ∨ c = 57 by omega) with rfl | rfl | rfl | rfl | rfl | rfl | rfl | rfl | rfl | rfl <;> decide
    obtain ⟨n1, n2, n3⟩ := dg_no c hdc
    have hw := rnum_ok (pre := pre) (rest := rest) hd (by simp) (fun d hd => by
      have := (hf d hd).1
      unfold jn at this
      rw [if_neg (by exact n3), if_pos (by exact hdc)] at this
      exact of_decide_eq_false this) hX
    rw [if_pos (by simp; omega)] at hw
    have hat : atI (pre ++ ((c :: r) ++ rest)) (pre.length : Int) = some c := at_mid
    have hz : (pre ++ ((c :: r) ++ rest)).length ≤ 16000000 := by omega
    generalize pre ++ ((c :: r) ++ rest) = X at *
    generalize dVal (c :: r) = dv at *
    unfold p_read_token
    simp [-List.mem_cons, hat, hz, n1, n2, hdc, hw]
  | text t ht =>
    have hw := rtext_ok (pre := pre) (t := t) (rest := rest) (fun e => by
      have := (hf 39 e).1
      simp [jn, qt] at this) hX
    have hat : atI (pre ++ (qt t ++ rest)) (pre.length : Int) = some 39 := at_mid (rest := RQ t ++ [39] ++ rest)
    have hz : (pre ++ (qt t ++ rest)).length ≤ 16000000 := by omega
    generalize pre ++ (qt t ++ rest) = X at *
    unfold p_read_token
    simp [-List.mem_cons, -Int.natCast_add, hat, hz, hw, cEq, atom, mixed, D.eq, show ¬ (39 : Nat) ∈ LO by decide, show ¬ (39 : Nat) ∈ UP by decide, show ¬ (39 : Nat) ∈ DG by decide]
  | sign h => exact rsign_ok h hf hX
end LAW

set_option Elab.async false
set_option linter.all false
set_option maxRecDepth 100000
set_option maxHeartbeats 4000000
namespace LAW
open P
/-- a gap and the token behind it -/
structure It where
  g : S
  kd : S
  v : D
  w : S
def txt : List It → S → S
  | [], tl => tl
  | i :: r, tl => i.g ++ (i.w ++ txt r tl)
def tks : Nat → List It → List D
  | _, [] => []
  | p, i :: r => .tup [.str i.kd, i.v, .int ((p + i.g.length : Nat) : Int)] :: tks (p + i.g.length + i.w.length) r
def Bl (g : S) : Prop := ∀ c ∈ g, c = 32 ∨ c = 10
def Gd : List It → S → Prop
  | [], _ => True
  | i :: r, tl => Bl i.g ∧ TokW i.kd i.v i.w ∧ Fo i.w (txt r tl).head? ∧ Gd r tl
theorem tok_cons {kd w : S} {v : D} (t : TokW kd v w) : ∃ c r, w = c :: r ∧ c ≠ 32 ∧ c ≠ 10 ∧ c ≠ 62 := by
  have lo : ∀ c ∈ LO, c ≠ 32 ∧ c ≠ 10 ∧ c ≠ 62 := by decide
  have up : ∀ c ∈ UP, c ≠ 32 ∧ c ≠ 10 ∧ c ≠ 62 := by decide
  cases t with
  | key hc hr k => exact ⟨_, _, rfl, lo _ hc⟩
  | name hc hr k => exact ⟨_, _, rfl, lo _ hc⟩
  | maker hc hr => exact ⟨_, _, rfl, up _ hc⟩
  | num hd hl =>
    rename_i c r
    have := List.all_eq_true.mp hd c (.head _)
    have : 48 ≤ c ∧ c ≤ 57 := by simpa [isDig] using this
    exact ⟨_, _, rfl, by omega, by omega, by omega⟩
  | text t ht => exact ⟨_, _, rfl, by decide, by decide, by decide⟩
  | sign h =>
    have : ∀ w ∈ SG, w ≠ [] ∧ w.headD 0 ≠ 32 ∧ w.headD 0 ≠ 10 ∧ w.headD 0 ≠ 62 := by decide
    obtain ⟨h1, h2⟩ := this _ h
    cases w with
    | nil => exact absurd rfl h1
    | cons c r => exact ⟨c, r, rfl, h2⟩
abbrev tokT : PB := tCmp cLt (pVar 2) (pCB gLen (dCons (pVar 0) dNil))
abbrev tokB : PS := sIf (tCmp cIn (pBin gIx (pVar 0) (pVar 2)) (pTup (dCons (pC (.str [32])) (dCons (pC (.str [10])) dNil)))) (sAug gIAdd 2 (pC (.int 1))) (sSeq (sUnp (.tup [3, 4, 5]) (pFz (pCall 2 p_read_token (dCons (pVar 0) (dCons (pVar 2) dNil)))))
    (sSeq (sDrop (pLf (pUpd (.var 1) (dCons (pTup (dCons (pVar 3) (dCons (pVar 4) (dCons (pVar 2) dNil)))) dNil) uApp)))
    (sAsg 2 (pLf (pVar 5)))))
abbrev EZ (X : S) (acc : List D) (p : Nat) : Env := [.leaf (.str X), .ls acc, .leaf (.int (p : Int)), .hole, .hole, .hole]
abbrev wl (n : Nat) (e : Env) : PRS := whL [3, 4, 5] tokT tokB n e
theorem wl_end {X : S} {acc : List D} {n : Nat} (h : X.length ≤ 900000) : wl (n + 1) (EZ X acc X.length) = .nx (EZ X acc X.length) := by
  unfold wl
  rw [wh_step]
  simp [show X.length ≤ 16000000 by omega]
theorem wl_gap : ∀ {g pre rest : S} {acc : List D} {n : Nat}, Bl g → (pre ++ (g ++ rest)).length ≤ 900000 → wl (n + g.length) (EZ (pre ++ (g ++ rest)) acc pre.length) = wl n (EZ (pre ++ (g ++ rest)) acc (pre.length + g.length))
  | [], pre, rest, acc, n, _, _ => rfl
  | c :: g, pre, rest, acc, n, hb, hX => by
    have ih := wl_gap (g := g) (pre := pre ++ [c]) (rest := rest) (acc := acc) (n := n) (fun x hx => hb x (.tail _ hx)) (by simpa [Nat.add_assoc] using hX)
    have hat : atI (pre ++ ((c :: g) ++ rest)) (pre.length : Int) = some c := at_mid
    have hlt : (pre.length : Int) < (pre ++ ((c :: g) ++ rest)).length := by simp; omega
    have e : pre ++ [c] ++ (g ++ rest) = pre ++ ((c :: g) ++ rest) := by simp
    rw [e] at ih
    have hc := hb c (.head _)
    rw [show n + (c :: g).length = (n + g.length) + 1 by simp; omega]
    unfold wl at *
    rw [wh_step]
    have el : (pre ++ [c]).length = pre.length + 1 := by simp
    rw [el, show pre.length + 1 + g.length = pre.length + (c :: g).length by simp; omega] at ih
    rw [← ih]
    generalize pre ++ ((c :: g) ++ rest) = X at *
    rcases hc with rfl | rfl
    · simp [show X.length ≤ 16000000 by omega, hlt, hat, D.eq]
      rfl
    · simp [show X.length ≤ 16000000 by omega, hlt, hat, D.eq]
      rfl
theorem wl_tok {pre w rest kd : S} {v : D} {acc : List D} {n : Nat} (t : TokW kd v w) (hf : Fo w rest.head?) (hX : (pre ++ (w ++ rest)).length ≤ 900000) (ha : acc.length ≤ 900000) :
    wl (n + 1) (EZ (pre ++ (w ++ rest)) acc pre.length) = wl n (EZ (pre ++ (w ++ rest)) (acc ++ [.tup [.str kd, v, .int (pre.length : Int)]]) (pre.length + w.length)) := by
  have hr := read_ok (pre := pre) t hf hX
  obtain ⟨c, r, rfl, h1, h2, _⟩ := tok_cons t
  have hat : atI (pre ++ ((c :: r) ++ rest)) (pre.length : Int) = some c := at_mid
  have hlt : (pre.length : Int) < (pre ++ ((c :: r) ++ rest)).length := by simp; omega
  generalize pre.length + (c :: r).length = E at *
  generalize pre ++ ((c :: r) ++ rest) = X at *
  unfold wl
  conv => lhs; rw [wh_step]
  simp [-Int.natCast_add, show X.length ≤ 16000000 by omega, hlt, hat, D.eq, h1, h2, Ne.symm h1, Ne.symm h2, hr, show acc.length < 16000000 by omega]
  all_goals rw [← wh_kill]; rfl
theorem wl_err {pre x : S} {acc : List D} {n c : Nat} {r : S} (hx : x = c :: r) (h1 : c ≠ 32) (h2 : c ≠ 10) (hr : p_read_token [.leaf (.str (pre ++ x)), .leaf (.int pre.length)] = .exc 0 (some [("position", .int pre.length)])) (hX : (pre ++ x).length ≤ 900000) :
    ∃ e, wl (n + 1) (EZ (pre ++ x) acc pre.length) = .ex 0 (some [("position", .int pre.length)]) e := by
  subst hx
  have hat : atI (pre ++ c :: r) (pre.length : Int) = some c := at_mid
  have hlt : (pre.length : Int) < (pre ++ c :: r).length := by simp; omega
  generalize pre ++ c :: r = X at *
  unfold wl
  rw [wh_step]
  simp [show X.length ≤ 16000000 by omega, hlt, hat, D.eq, h1, h2, Ne.symm h1, Ne.symm h2, hr]
end LAW

set_option Elab.async false
set_option linter.all false
set_option maxRecDepth 100000
set_option maxHeartbeats 4000000
namespace LAW
open P
def pc : List It → S
  | [] => []
  | i :: r => i.g ++ (i.w ++ pc r)
theorem txt_pc : ∀ (its : List It) (tl : S), txt its tl = pc its ++ tl
  | [], tl => rfl
  | i :: r, tl => by simp [txt, pc, txt_pc r tl]
def stp : List It → Nat
  | [] => 0
  | i :: r => i.g.length + (1 + stp r)
theorem stp_le {tl : S} : ∀ {its : List It}, Gd its tl → stp its ≤ (pc its).length ∧ its.length ≤ (pc its).length
  | [], _ => by simp [stp, pc]
  | i :: r, ⟨_, t, _, g⟩ => by
    have ih := stp_le g
    obtain ⟨c, w, e, _⟩ := tok_cons t
    have : 1 ≤ i.w.length := by rw [e]; simp
    simp only [stp, pc, List.length_append, List.length_cons]
    omega
theorem wl_its {tl : S} : ∀ {its : List It} {pre : S} {acc : List D} {n : Nat}, Gd its tl → (pre ++ txt its tl).length ≤ 900000 → acc.length + its.length ≤ 900000 →
    wl (n + stp its) (EZ (pre ++ txt its tl) acc pre.length) = wl n (EZ (pre ++ txt its tl) (acc ++ tks pre.length its) (pre.length + (pc its).length))
  | [], pre, acc, n, _, _, _ => by simp [stp, tks, pc, txt]
  | i :: r, pre, acc, n, ⟨b, t, f, g⟩, hX, ha => by
    simp only [List.length_cons] at ha
    have e1 : pre ++ txt (i :: r) tl = pre ++ (i.g ++ (i.w ++ txt r tl)) := rfl
    have e2 : pre ++ txt (i :: r) tl = (pre ++ i.g) ++ (i.w ++ txt r tl) := by rw [e1]; simp
    have e3 : pre ++ txt (i :: r) tl = (pre ++ i.g ++ i.w) ++ txt r tl := by rw [e1]; simp
    have s1 := wl_gap (pre := pre) (rest := i.w ++ txt r tl) (acc := acc) (n := n + (1 + stp r)) b (by rw [← e1]; exact hX)
    have s2 := wl_tok (pre := pre ++ i.g) (rest := txt r tl) (acc := acc) (n := n + stp r) t f (by rw [← e2]; exact hX) (by omega)
    have s3 := wl_its (its := r) (pre := pre ++ i.g ++ i.w) (acc := acc ++ [.tup [.str i.kd, i.v, .int ((pre ++ i.g).length : Int)]]) (n := n) g (by rw [← e3]; exact hX) (by simp; omega)
    rw [← e1] at s1
    rw [← e2] at s2
    rw [← e3] at s3
    generalize pre ++ txt (i :: r) tl = X at *
    have l1 : (pre ++ i.g).length = pre.length + i.g.length := by simp
    have l2 : (pre ++ i.g ++ i.w).length = pre.length + i.g.length + i.w.length := by simp; omega
    rw [l1] at s2
    rw [l1, l2] at s3
    rw [show n + stp (i :: r) = n + (1 + stp r) + i.g.length by simp only [stp]; omega, s1, show n + (1 + stp r) = n + stp r + 1 by omega, s2, s3]
    congr 1
    rw [show pre.length + i.g.length + i.w.length + (pc r).length = pre.length + (pc (i :: r)).length by simp [pc]; omega]
    simp [tks]
theorem bl_app {a b : S} (ha : Bl a) (hb : Bl b) : Bl (a ++ b) := fun c hc => (List.mem_append.mp hc).elim (ha c) (hb c)
theorem tokenize_ok {its : List It} {tl : S} (g : Gd its tl) (b : Bl tl) (hX : (txt its tl).length ≤ 800000) : p_tokenize [.leaf (.str (txt its tl))] = .ok (.ls (tks 0 its)) [] := by
  generalize hR : p_tokenize _ = Q
  unfold p_tokenize at hR
  simp at hR
  generalize hF : whL _ _ _ _ _ = F at hR
  obtain ⟨s1, s2⟩ := stp_le g
  have hl : (txt its tl).length = (pc its).length + tl.length := by rw [txt_pc]; simp
  have h1 := wl_its (pre := []) (acc := []) (n := 1000000 - stp its) g (by simp; omega) (by simp; omega)
  have h2 := wl_gap (pre := pc its) (g := tl) (rest := []) (acc := tks 0 its) (n := 1000000 - stp its - tl.length) b (by rw [List.append_nil, ← txt_pc]; omega)
  have h3 := wl_end (X := txt its tl) (acc := tks 0 its) (n := 1000000 - stp its - tl.length - 1) (by omega)
  rw [List.append_nil, ← txt_pc] at h2
  rw [show 1000000 - stp its - tl.length + tl.length = 1000000 - stp its by omega] at h2
  rw [show 1000000 - stp its + stp its = 1000000 by omega] at h1
  rw [show 1000000 - stp its - tl.length - 1 + 1 = 1000000 - stp its - tl.length by omega] at h3
  rw [hl] at h3
  simp only [List.nil_append, List.length_nil, Nat.zero_add] at h1
  have hF2 : F = .nx (EZ (txt its tl) (tks 0 its) ((pc its).length + tl.length)) := by
    rw [← hF, ← h3, ← h2, ← h1]; rfl
  rw [hF2] at hR
  simp at hR
  exact hR.symm
theorem tokenize_err {its : List It} {gp x r : S} {c : Nat} (hx : x = c :: r) (h1 : c ≠ 32) (h2 : c ≠ 10) (g : Gd its (gp ++ x)) (b : Bl gp) (hX : (txt its (gp ++ x)).length ≤ 800000)
    (hr : ∀ pre : S, (pre ++ x).length ≤ 800000 → p_read_token [.leaf (.str (pre ++ x)), .leaf (.int pre.length)] = .exc 0 (some [("position", .int pre.length)])) :
    p_tokenize [.leaf (.str (txt its (gp ++ x)))] = .exc 0 (some [("position", .int ((pc its ++ gp).length : Int))]) := by
  generalize hR : p_tokenize _ = Q
  unfold p_tokenize at hR
  simp at hR
  generalize hF : whL _ _ _ _ _ = F at hR
  obtain ⟨s1, s2⟩ := stp_le g
  have ht : txt its (gp ++ x) = (pc its ++ gp) ++ x := by rw [txt_pc]; simp
  have hl : (txt its (gp ++ x)).length = (pc its).length + gp.length + x.length := by rw [ht]; simp; omega
  have e1 := wl_its (pre := []) (acc := []) (n := 1000000 - stp its) g (by simp; omega) (by simp; omega)
  have e2 := wl_gap (pre := pc its) (g := gp) (rest := x) (acc := tks 0 its) (n := 1000000 - stp its - gp.length) b (by rw [← txt_pc]; omega)
  obtain ⟨e, e3⟩ := wl_err (pre := pc its ++ gp) (acc := tks 0 its) (n := 1000000 - stp its - gp.length - 1) hx h1 h2 (hr _ (by rw [← ht]; exact hX)) (by rw [← ht]; omega)
  rw [← txt_pc] at e2
  rw [← ht] at e3
  rw [show 1000000 - stp its - gp.length + gp.length = 1000000 - stp its by omega] at e2
  rw [show 1000000 - stp its + stp its = 1000000 by omega] at e1
  rw [show 1000000 - stp its - gp.length - 1 + 1 = 1000000 - stp its - gp.length by omega, show (pc its ++ gp).length = (pc its).length + gp.length by simp] at e3
  simp only [List.nil_append, List.length_nil, Nat.zero_add] at e1
  have hF2 : F = .ex 0 (some [("position", .int (((pc its).length + gp.length : Nat) : Int))]) e := by
    rw [← hF, ← e3, ← e2, ← e1]; rfl
  rw [hF2] at hR
  simp at hR
  rw [← hR]; simp
theorem lread_ok {its : List It} {tl : S} (g : Gd its tl) (b : Bl tl) (hX : (txt its tl).length ≤ 800000) : p_law_read [.leaf (.str (txt its tl))] = .ok (.leaf (.tup [.str [116, 111, 107, 101, 110, 115], .lst (tks 0 its)])) [] := by
  unfold p_law_read
  simp [tokenize_ok g b hX]
theorem lread_err {its : List It} {gp x r : S} {c : Nat} (hx : x = c :: r) (h1 : c ≠ 32) (h2 : c ≠ 10) (g : Gd its (gp ++ x)) (b : Bl gp) (hX : (txt its (gp ++ x)).length ≤ 800000)
    (hr : ∀ pre : S, (pre ++ x).length ≤ 800000 → p_read_token [.leaf (.str (pre ++ x)), .leaf (.int pre.length)] = .exc 0 (some [("position", .int pre.length)])) :
    p_law_read [.leaf (.str (txt its (gp ++ x)))] = .ok (.leaf (.tup [.str [114, 101, 102, 117, 115, 101, 100], .int ((pc its ++ gp).length : Int), .bl true])) [] := by
  unfold p_law_read
  simp [tokenize_err hx h1 h2 g b hX hr]
end LAW

set_option Elab.async false
set_option linter.all false
set_option maxRecDepth 100000
set_option maxHeartbeats 4000000
namespace LAW
open P
abbrev ST : S := [33, 34, 35, 36, 38, 46, 62, 63, 64, 92, 94, 95, 96, 123, 125, 126]
theorem st_no : ∀ c ∈ ST, c ∉ LO ∧ c ∉ UP ∧ c ∉ DG ∧ c ≠ 39 ∧ [c] ∉ SH ∧ (∀ w ∈ LG, w.headD 0 ≠ c) ∧ c ≠ 32 ∧ c ≠ 10 := by decide
theorem pos100 {pre x : S} (h : (pre ++ x).length ≤ 800000) : pre.length < 1267650600228229401496703205376 := by
  have : pre.length ≤ (pre ++ x).length := by simp
  exact Nat.lt_of_le_of_lt (Nat.le_trans this h) (by decide)
theorem err_strange {c : Nat} {y : S} (hc : c ∈ ST) (pre : S) (hX : (pre ++ c :: y).length ≤ 800000) : p_read_token [.leaf (.str (pre ++ c :: y)), .leaf (.int pre.length)] = .exc 0 (some [("position", .int pre.length)]) := by
  obtain ⟨h1, h2, h3, h4, h5, h6, _⟩ := st_no c hc
  have hat : atI (pre ++ c :: y) (pre.length : Int) = some c := at_mid
  have hcut := cut2 (pre := pre) (w := c :: y) (by simp)
  have hz : (pre ++ c :: y).length ≤ 16000000 := by omega
  have hp := pos100 hX
  have ht : (c :: y).take 2 ∉ LG := fun z => h6 _ z (by cases y <;> rfl)
  have hlg := in_tup ((c :: y).take 2) LG
  have hsh := in_tup [c] SH
  simp only [List.map_cons, List.map_nil] at hlg hsh
  generalize hq : (c :: y).take 2 = q at *
  generalize pre ++ c :: y = X at *
  unfold p_read_token
  simp [-List.mem_cons, -c_in_st, hat, hcut, hz, h1, h2, h3, h4, hlg, ht, hsh, h5, hp, cEq, atom, mixed, D.eq]
theorem err_open {c : Nat} (hc : c = 32 ∨ c = 99) (pre : S) (hX : (pre ++ [39, 97, 39, 39, 98, c]).length ≤ 800000) : p_read_token [.leaf (.str (pre ++ [39, 97, 39, 39, 98, c])), .leaf (.int pre.length)] = .exc 0 (some [("position", .int pre.length)]) := by
  have e : [39, 97, 39, 39, 98, c] = 39 :: RQ [97, 39, 98, c] := by rcases hc with rfl | rfl <;> decide
  have hw := rtext_err (pre := pre) (t := [97, 39, 98, c]) (by rw [← e]; omega)
  rw [← e] at hw
  have hat : atI (pre ++ [39, 97, 39, 39, 98, c]) (pre.length : Int) = some 39 := at_mid
  generalize pre ++ [39, 97, 39, 39, 98, c] = X at *
  unfold p_read_token
  simp [-List.mem_cons, hat, show X.length ≤ 16000000 by omega, hw, cEq, atom, mixed, D.eq, show ¬ (39 : Nat) ∈ LO by decide, show ¬ (39 : Nat) ∈ UP by decide, show ¬ (39 : Nat) ∈ DG by decide]
theorem dig_dg {c : Nat} (h : isDig c = true) : c ∈ DG := by
  have : 48 ≤ c ∧ c ≤ 57 := by simpa [isDig] using h
  rcases (show c = 48 ∨ c = 49 ∨ c = 50 ∨ c = 51 ∨ c = 52 ∨ c = 53 ∨ c = 54 ∨ c = 55 ∨ c = 56 ∨ c = 57 by omega) with rfl | rfl | rfl | rfl | rfl | rfl | rfl | rfl | rfl | rfl <;> decide
theorem err_long {c : Nat} {r y : S} (hd : (c :: r).all isDig = true) (hl : 18 < (c :: r).length) (pre : S) (hX : (pre ++ ((c :: r) ++ 32 :: y)).length ≤ 800000) : p_read_token [.leaf (.str (pre ++ ((c :: r) ++ 32 :: y))), .leaf (.int pre.length)] = .exc 0 (some [("position", .int pre.length)]) := by
  have hdc := dig_dg (List.all_eq_true.mp hd c (.head _))
  obtain ⟨n1, n2, n3⟩ := dg_no c hdc
  have hw := rnum_ok (pre := pre) (rest := 32 :: y) hd (by simp) (fun d hd => by cases hd; decide) (by omega)
  rw [if_neg (by omega)] at hw
  have hat : atI (pre ++ ((c :: r) ++ 32 :: y)) (pre.length : Int) = some c := at_mid
  generalize pre ++ ((c :: r) ++ 32 :: y) = X at *
  unfold p_read_token
  simp [-List.mem_cons, hat, show X.length ≤ 16000000 by omega, n1, n2, hdc, hw]
/-! what is drawn, so far -/
def Op (its : List It) (lw : S) : Prop := ∀ tl, Fo lw tl.head? → Gd its tl
theorem jn_bl (a : Nat) (w : S) {d : Nat} (h : d = 32 ∨ d = 10) : jn a w d = false ∧ d ≠ 62 := by
  unfold jn
  refine ⟨?_, by omega⟩
  rcases h with rfl | rfl
  · split
    · decide
    · split
      · decide
      · split
        · decide
        · rw [show decide (32 ∈ ([43, 58, 61] : S)) = false by decide, Bool.and_false]
  · split
    · decide
    · split
      · decide
      · split
        · decide
        · rw [show decide (10 ∈ ([43, 58, 61] : S)) = false by decide, Bool.and_false]
theorem fo_bl {lw g : S} (h : Bl g) (rest : S) (hr : g = [] → Fo lw rest.head?) : Fo lw (g ++ rest).head? := by
  cases g with
  | nil => exact hr rfl
  | cons c g => intro d hd; cases hd; exact jn_bl _ _ (h c (.head _))
theorem gd_snoc {i : It} {tl : S} : ∀ {its : List It}, Gd its (i.g ++ (i.w ++ tl)) → Bl i.g → TokW i.kd i.v i.w → Fo i.w tl.head? → Gd (its ++ [i]) tl
  | [], _, b, t, f => ⟨b, t, f, trivial⟩
  | j :: r, ⟨b', t', f', g'⟩, b, t, f => by
    have e : txt (r ++ [i]) tl = txt r (i.g ++ (i.w ++ tl)) := by
      clear f' g'
      induction r with
      | nil => rfl
      | cons k r ih => simp only [List.cons_append, txt]; rw [ih]
    exact ⟨b', t', by show Fo j.w (txt (r ++ [i]) tl).head?; rw [e]; exact f', gd_snoc g' b t f⟩
theorem op_snoc {its : List It} {lw : S} {i : It} (o : Op its lw) (b : Bl i.g) (t : TokW i.kd i.v i.w) (hj : i.g = [] → jn (lw.headD 0) lw.tail (i.w.headD 0) = false) : Op (its ++ [i]) i.w := fun tl f => by
  refine gd_snoc (o _ (fo_bl b _ fun e => ?_)) b t f
  obtain ⟨c, r, ew, h1, h2, h3⟩ := tok_cons t
  intro d hd
  rw [ew] at hd
  cases hd
  have := hj e
  rw [ew] at this
  exact ⟨this, h3⟩
theorem pc_snoc {i : It} : ∀ {its : List It}, pc (its ++ [i]) = pc its ++ (i.g ++ i.w)
  | [] => by simp [pc]
  | j :: r => by simp [pc, pc_snoc (its := r)]
theorem tks_snoc {i : It} : ∀ {its : List It} {p : Nat}, tks p (its ++ [i]) = tks p its ++ [.tup [.str i.kd, i.v, .int ((p + (pc its).length + i.g.length : Nat) : Int)]]
  | [], p => by simp [tks, pc]
  | j :: r, p => by
    simp only [List.cons_append, tks, tks_snoc (its := r), pc, List.length_append]
    rw [show p + j.g.length + j.w.length + (pc r).length + i.g.length = p + (j.g.length + (j.w.length + (pc r).length)) + i.g.length by omega]
theorem tks_sm : ∀ {its : List It} {p : Nat} {tl : S}, Gd its tl → (tks p its).all (D.sm 2) = true
  | [], _, _, _ => rfl
  | ⟨g0, kd, v, w⟩ :: r, p, tl, ⟨_, t, _, g⟩ => by
    simp only [tks, List.all_cons, tks_sm g, Bool.and_true]
    dsimp only at t
    cases t <;> simp [D.sm]
theorem tks_len : ∀ {its : List It} {p : Nat}, (tks p its).length = its.length
  | [], _ => rfl
  | i :: r, p => by simp [tks, tks_len (its := r)]
end LAW

set_option Elab.async false
set_option linter.all false
set_option maxRecDepth 100000
set_option maxHeartbeats 4000000
namespace LAW
open P
structure LS where
  s : NS
  its : List It
  gp : S
  lw : S
structure LR (i : Nat) (z : LS) : Prop where
  o : Op z.its z.lw
  g : Bl z.gp
  ne : z.lw ≠ []
  l : (pc z.its ++ z.gp).length ≤ 2104 * i + 2
  lw : z.lw.length ≤ 2100
  n : z.its.length = i
theorem p_true (ns : List Int) (hn : ns.length ≤ 63) : ∃ ws, p_law [.leaf (.kl (ns.map .int))] = .ok (.leaf (.bl true)) ws := by
  generalize hR : p_law _ = R
  unfold p_law at hR
  have hns : ns.length ≤ 16000000 := by omega
  obtain ⟨k1, hk1, hk1'⟩ := nx_nat ⟨ns, 0, 0, 1⟩ 25
  have hn1 : p_law_next [.ls [.lst (ns.map .int), .int 0, .int 0, .int 1], .leaf (.int 25)] = .ok (.leaf (.int (nxV ⟨ns, 0, 0, 1⟩ 25))) [stB (nxS ⟨ns, 0, 0, 1⟩ 25) []] := nx_ok ⟨ns, 0, 0, 1⟩ 25
  rw [hk1] at hn1
  generalize nxS ⟨ns, 0, 0, 1⟩ 25 = s1 at hn1
  obtain ⟨k2, hk2, hk2'⟩ := nx_nat s1 5
  have hn2 := nx_ok s1 5
  rw [hk2] at hn2
  generalize nxS s1 5 = s2 at hn2
  obtain ⟨k3, hk3, hk3'⟩ := nx_nat s2 151
  have hn3 := nx_ok s2 151
  rw [hk3] at hn3
  obtain ⟨s3, k, hk, hcnt⟩ : ∃ (s3 : NS) (k : Nat), k ≤ 150 ∧ (sIf (tCmp cEq (pFz (pCallV 2 0 1 p_law_next (dCons (pC (.int 5)) dNil))) (pC (.int 4))) (sAsg 2 (pLf (pFz (pCallV 2 0 1 p_law_next (dCons (pC (.int 151)) dNil))))) sNx) [.leaf (.kl (ns.map .int)), stB s1 [], .leaf (.int (k1 : Int)), .hole, .hole, .hole, .hole, .hole, .hole, .hole, .hole, .hole, .hole] =
      .nx [.leaf (.kl (ns.map .int)), stB s3 [], .leaf (.int (k : Int)), .hole, .hole, .hole, .hole, .hole, .hole, .hole, .hole, .hole, .hole] := by
    by_cases c : (k2 : Int) = 4
    · exact ⟨nxS s2 151, k3, by omega, by simp [hn2, hn3, c]⟩
    · exact ⟨s2, k1, by omega, by simp [hn2, c]⟩
  generalize hC : sIf (tCmp cEq (pFz (pCallV 2 0 1 p_law_next (dCons (pC (.int 5)) dNil))) (pC (.int 4))) _ _ = C at hR hcnt
  generalize hT : sSeq (sIf (tNot (tTru (pFz (pCall 2 (p_law_same 4) _)))) _ _) _ = TL at hR
  obtain ⟨g0, s4, hg0, hb0, hl0, -⟩ := gap_ok s3 false
  have hk9 : k ≤ 1000000000 := by omega
  simp [hn1, hcnt, hg0, hk9, hns] at hR
  generalize hF : forL _ _ _ _ _ = F at hR
  obtain ⟨z, rfl, hz⟩ := for_st hF (fun (z : LS) => [.leaf (.kl (ns.map .int)), stB z.s [], .leaf (.int (k : Int)), .leaf (.str (pc z.its ++ z.gp)), .ls (tks 0 z.its), .leaf (.str z.lw), .hole, .hole, .hole, .hole, .hole, .hole, .hole])
    (fun i z => LR i z) ⟨s4, [], g0, [32]⟩ (by simp [pc, tks]) ⟨fun _ _ => trivial, hb0, by simp, by simp [pc]; omega, by simp, rfl⟩ (by
    rintro i d ⟨s, its, gp, lw⟩ hd ⟨ho, hg, hne, hl, hlw, hni⟩
    dsimp only at ho hg hne hl hlw hni
    have hi : i < k := by
      have := (List.getElem?_eq_some_iff.mp hd).1
      simpa [rng] using this
    obtain ⟨kd, v, w, s', ht, tw, hwl⟩ := token_ok s
    obtain ⟨c, r, rfl, c1, c2, c3⟩ := tok_cons tw
    cases lw with
    | nil => exact absurd rfl hne
    | cons a w' =>
      have hj := joins_ok a w' c r (by simp at hlw; omega) (by simp at hwl; omega)
      obtain ⟨g, s'', hgg, hgb, hgl, hgn⟩ := gap_ok s' (jn a w' c)
      have hpos : ((pc its ++ gp ++ g).length : Int) = ((0 + (pc its).length + (gp ++ g).length : Nat) : Int) := by simp <;> omega
      have e1 : (pc its ++ gp).length + g.length ≤ 16000000 := by omega
      have e2 : (pc its ++ gp).length + g.length + (c :: r).length ≤ 16000000 := by omega
      have e3 : (tks 0 its).length < 16000000 := by rw [tks_len]; omega
      simp only [List.length_append, List.length_cons] at e1 e2
      refine ⟨⟨s'', its ++ [⟨gp ++ g, kd, v, c :: r⟩], [], c :: r⟩, ?_, ⟨?_, by simp [Bl], by simp, ?_, hwl, by simp [hni]⟩⟩
      · rw [tks_snoc, pc_snoc]
        have hl' : (pc its).length + gp.length ≤ 2104 * i + 2 := by simpa using hl
        have hr' : r.length + 1 ≤ 2100 := by simpa using hwl
        have q1 : (pc its).length + gp.length + g.length ≤ 16000000 := by omega
        have q2 : (pc its).length + (gp.length + g.length) ≤ 16000000 := by omega
        have q3 : (pc its).length + (gp.length + g.length) + (r.length + 1) ≤ 16000000 := by omega
        simp [ht, hj, hgg, e3, q1, q2, q3]
      · exact op_snoc ho (bl_app hg hgb) tw (fun e => by
          have : g = [] := (List.append_eq_nil_iff.mp e).2
          cases q : jn a w' c with
          | true => exact absurd this (hgn q)
          | false => exact q)
      · rw [pc_snoc]; simp at hl hwl ⊢; omega)
  obtain ⟨s, its, gp, lw⟩ := z
  obtain ⟨ho, hg, hne, hl, hlw, hni⟩ := hz
  dsimp only at ho hg hne hl hlw hni
  have hlen : (rng 0 k).length = k := rng_len
  rw [hlen] at hl
  have hl : (pc its).length + gp.length ≤ 2104 * k + 2 := by simpa using hl
  clear hF hcnt hC
  subst hT
  have hkw := keywords_ok
  have hsame : p_law_same 4 [.leaf (.tup (KW.map .str)), .leaf (.tup (KW.map .str))] = .ok (.leaf (.bl true)) [] := by
    rw [same_eq]; exact lawSameB_ok 4 _ (by decide)
  obtain ⟨g, s1, hgg, hgb, hgl, -⟩ := gap_ok s false
  obtain ⟨p, hp, hp9⟩ := nx_nat s1 9
  have hn := nx_ok s1 9
  rw [hp] at hn
  generalize nxS s1 9 = s2 at hn
  have q1 : (pc its).length + gp.length + g.length ≤ 16000000 := by omega
  have q2 : (pc its).length + (gp.length + g.length) ≤ 16000000 := by omega
  simp only [List.map_cons, List.map_nil] at hkw hsame
  by_cases c1 : (p : Int) < 6
  · have hgd : Gd its (gp ++ g) := ho _ (by
      have := fo_bl (lw := lw) (bl_app hg hgb) [] (fun e => by intro d hd; cases hd)
      simpa using this)
    have hrd := lread_ok hgd (bl_app hg hgb) (by rw [txt_pc]; simp; omega)
    rw [txt_pc] at hrd
    have hs2 : p_law_same 4 [.leaf (.tup [.str [116, 111, 107, 101, 110, 115], .lst (tks 0 its)]), .leaf (.tup [.str [116, 111, 107, 101, 110, 115], .lst (tks 0 its)])] = .ok (.leaf (.bl true)) [] := by
      rw [same_eq]
      refine lawSameB_ok 4 _ ?_
      have h2 := tks_sm (p := 0) hgd
      have h3 : (tks 0 its).length ≤ 1000000 := by rw [tks_len, hni, hlen]; omega
      simp only [D.sm, List.all_cons, List.all_nil, h2, h3, List.length_cons, List.length_nil]
      simp
    simp [hkw, hsame, hgg, q1, q2, hn, c1, hrd, hs2] at hR
    exact ⟨_, hR.symm⟩
  -- something that is no token
  have hbl : Bl (gp ++ (g ++ [32])) := bl_app hg (bl_app hgb (fun c hc => .inl (List.mem_singleton.mp hc)))
  have hgd : ∀ x, Gd its ((gp ++ (g ++ [32])) ++ x) := fun x => ho _ (fo_bl hbl x (fun e => by simp at e))
  generalize hL : pc its ++ (gp ++ (g ++ [32])) = L at *
  have hLl : L.length = (pc its).length + gp.length + g.length + 1 := by rw [← hL]; simp; omega
  have hLl2 : L.length ≤ 400000 := by omega
  have same : p_law_same 4 [.leaf (.tup [.str [114, 101, 102, 117, 115, 101, 100], .int (L.length : Int), .bl true]), .leaf (.tup [.str [114, 101, 102, 117, 115, 101, 100], .int (L.length : Int), .bl true])] = .ok (.leaf (.bl true)) [] := by
    rw [same_eq]; exact lawSameB_ok 4 _ (by simp [D.sm])
  have fin : ∀ {x r : S} {c : Nat}, x = c :: r → c ≠ 32 → c ≠ 10 → (L ++ x).length ≤ 800000 → (∀ pre : S, (pre ++ x).length ≤ 800000 → p_read_token [.leaf (.str (pre ++ x)), .leaf (.int pre.length)] = .exc 0 (some [("position", .int pre.length)])) →
      p_law_read [.leaf (.str (L ++ x))] = .ok (.leaf (.tup [.str [114, 101, 102, 117, 115, 101, 100], .int (L.length : Int), .bl true])) [] := fun {x r c} hx h1 h2 hl hr => by
    have e : txt its ((gp ++ (g ++ [32])) ++ x) = L ++ x := by rw [txt_pc, ← hL]; simp
    have := lread_err hx h1 h2 (hgd x) hbl (by rw [e]; exact hl) hr
    rw [e, hL] at this
    exact this
  have q3 : (pc its).length + (gp.length + g.length) + 1 ≤ 16000000 := by omega
  have q4 : (pc its).length + (gp.length + (g.length + 1)) ≤ 16000000 := by omega
  have hL2 : pc its ++ (gp ++ (g ++ [32])) = L := hL
  by_cases c2 : (p : Int) = 6
  · obtain ⟨j, hj, hj2⟩ := nx_nat s2 2
    have hn2 := nx_ok s2 2
    rw [hj] at hn2
    have q5 : L.length ≤ 16000000 := by omega
    have q6 : L.length ≤ 15999995 := by omega
    have q7 : L.length + 5 ≤ 16000000 := by omega
    have q8 : L.length + 6 ≤ 16000000 := by omega
    have q9 : L.length ≤ 15999994 := by omega
    rcases (show j = 0 ∨ j = 1 by omega) with rfl | rfl
    · have f := fin (x := [39, 97, 39, 39, 98, 32]) rfl (by decide) (by decide) (by simp; omega) (err_open (.inl rfl))
      simp [hkw, hsame, hgg, q1, q2, q3, q5, q6, q7, q8, q9, hn, hn2, c1, c2, hL2, f, same, atI, ixN] at hR
      exact ⟨_, hR.symm⟩
    · have f := fin (x := [39, 97, 39, 39, 98, 99]) rfl (by decide) (by decide) (by simp; omega) (err_open (.inr rfl))
      simp [hkw, hsame, hgg, q1, q2, q3, q5, q6, q7, q8, q9, hn, hn2, c1, c2, hL2, f, same, atI, ixN] at hR
      exact ⟨_, hR.symm⟩
  by_cases c3 : (p : Int) = 7
  · obtain ⟨j, hj, hj2⟩ := nx_nat s2 30
    have hn2 := nx_ok s2 30
    rw [hj] at hn2
    obtain ⟨w, s3, h1, h2, h3⟩ := digits_ok (nxS s2 30) (19 + j) (by omega)
    have e : ((19 + j : Nat) : Int) = 19 + (j : Int) := by omega
    rw [e] at h1
    cases w with
    | nil => simp only [List.length_nil] at h2; omega
    | cons c r =>
      have hw : 18 < (c :: r).length := by omega
      have hc := dig_dg (List.all_eq_true.mp h3 c (.head _))
      have f := fin (x := (c :: r) ++ 32 :: L) rfl (by intro z; subst z; exact absurd hc (by decide)) (by intro z; subst z; exact absurd hc (by decide)) (by simp only [List.length_append, List.length_cons] at h2 ⊢; omega) (err_long h3 hw)
      simp only [List.length_cons] at h2
      have t0 : L.length + (r.length + 1) ≤ 16000000 := by omega
      have t1 : L.length + (r.length + 1) + 1 ≤ 16000000 := by omega
      have t2 : L.length + (r.length + 1 + 1) ≤ 16000000 := by omega
      have t3 : L.length + (r.length + 1 + 1) + L.length ≤ 16000000 := by omega
      have t4 : L.length + (r.length + 1 + (L.length + 1)) ≤ 16000000 := by omega
      have t5 : L.length + (r.length + (1 + 1)) ≤ 16000000 := by omega
      have f2 : p_law_read [.leaf (.str (L ++ c :: (r ++ 32 :: L)))] = .ok (.leaf (.tup [.str [114, 101, 102, 117, 115, 101, 100], .int (L.length : Int), .bl true])) [] := by rw [← f]; rfl
      simp [hkw, hsame, hgg, q1, q2, q3, hn, hn2, h1, c1, c2, c3, hL2, t0, t1, t2, t3, t4, t5, f2, same, show L.length ≤ 16000000 by omega] at hR
      exact ⟨_, hR.symm⟩
  · obtain ⟨j, hj, hj2⟩ := nx_nat s2 16
    have hn2 := nx_ok s2 16
    rw [hj] at hn2
    have hj3 : j < ST.length := by show j < 16; omega
    have hat : atI ST (j : Int) = some ST[j] := atI_get hj3
    have hm : ST[j] ∈ ST := List.getElem_mem hj3
    generalize ST[j] = c at hat hm
    obtain ⟨_, _, _, _, _, _, n1, n2⟩ := st_no c hm
    have f := fin (x := c :: L) rfl n1 n2 (by simp; omega) (err_strange hm)
    simp [-List.mem_cons, hkw, hsame, hgg, q1, q2, q3, hn, hn2, c1, c2, c3, hL2, hat, f, same, show L.length ≤ 16000000 by omega, show L.length ≤ 15999999 by omega, show L.length + 1 + L.length ≤ 16000000 by omega, show L.length + (L.length + 1) ≤ 16000000 by omega] at hR
    exact ⟨_, hR.symm⟩
end LAW

set_option Elab.async false
set_option linter.all false
set_option maxRecDepth 100000
set_option maxHeartbeats 4000000
namespace LAW
open P
theorem sim_law_next (cc : Nat → Nat) : SimF cc [true] (m_law_next cc) p_law_next := by
  unfold m_law_next p_law_next
  exact simF_fn (ss_seq (ss_if (q := true) (sim_tand (Sim.qu (sim_cmp cmp_eq (Sim.rx (Sim.qu (sim_bin op_ix (sim_vw (i := 0)) (Sim.rx (sim_c fun _ _ => .int _)) (Or.inr rfl)))) (Sim.rx (sim_c fun _ _ => .int _)) (Or.inr rfl))) (Sim.qu (sim_cmp cmp_lt (Sim.rx (Sim.qu (sim_bin op_ix (sim_vw (i := 0)) (Sim.rx (sim_c fun _ _ => .int _)) (Or.inr rfl)))) (Sim.rx (sim_cb op_len (sim_one (Sim.rx (Sim.qu (sim_bin op_ix (sim_vw (i := 0)) (Sim.rx (sim_c fun _ _ => .int _)) (Or.inr rfl))))))) (Or.inr rfl)))) (ss_seq (ss_asg (q := true) (i := 2) (sim_lf (Sim.qu (sim_bin op_ix (Sim.rx (Sim.qu (sim_bin op_ix (sim_vw (i := 0)) (Sim.rx (sim_c fun _ _ => .int _)) (Or.inr rfl)))) (Sim.rx (Sim.qu (sim_bin op_ix (sim_vw (i := 0)) (Sim.rx (sim_c fun _ _ => .int _)) (Or.inr rfl)))) (Or.inr rfl)))))
    (ss_seq (ss_augI (q := true) op_iadd (simP_var (i := 0)) (sim_c fun _ _ => .int _) (sim_c fun _ _ => .int _) (by first | exact Or.inl rfl | exact Or.inr rfl))
    (ss_if (q := true) (Sim.qu (sim_cmp cmp_ge (Sim.rx (sim_var (i := 2))) (Sim.rx (sim_bin op_pow (Sim.rx (sim_c fun _ _ => .int _)) (Sim.rx (sim_c fun _ _ => .int _)) (Or.inl rfl))) (Or.inr rfl))) (ss_setI (s := true) (q := true) (simP_var (i := 0)) (sim_c fun _ _ => .int _) (sim_var (i := 2)) (by first | exact Or.inl rfl | exact Or.inr rfl)) (ss_setI (s := true) (q := true) (simP_var (i := 0)) (sim_c fun _ _ => .int _) (sim_bin op_mod (Sim.rx (sim_cb op_int1 (sim_one (Sim.rx (sim_fz (Sim.qu (sim_add' op_add (Sim.rx (sim_fz (Sim.qu (sim_add' op_add (Sim.rx (sim_bin op_mul (Sim.rx (Sim.qu (sim_bin op_ix (sim_vw (i := 0)) (Sim.rx (sim_c fun _ _ => .int _)) (Or.inr rfl)))) (Sim.rx (sim_c fun _ _ => .int _)) (Or.inl rfl))) (Sim.rx (sim_bin op_mod (Sim.rx (sim_cb op_int1 (sim_one (Sim.rx (sim_var (i := 2)))))) (Sim.rx (sim_c fun _ _ => .int _)) (Or.inl rfl))) (Or.inr rfl))))) (Sim.rx (sim_c fun _ _ => .int _)) (Or.inr rfl)))))))) (Sim.rx (sim_c fun _ _ => .int _)) (Or.inl rfl)) (by first | exact Or.inl rfl | exact Or.inr rfl))))) ss_nx)
    (ss_seq (ss_if (q := true) (Sim.qu (sim_cmp cmp_gt (Sim.rx (Sim.qu (sim_bin op_ix (sim_vw (i := 0)) (Sim.rx (sim_c fun _ _ => .int _)) (Or.inr rfl)))) (Sim.rx (sim_c fun _ _ => .int _)) (Or.inr rfl))) (ss_seq (ss_asg (q := true) (i := 3) (sim_lf (sim_bin op_mod (Sim.rx (sim_cb op_int1 (sim_one (Sim.rx (Sim.qu (sim_bin op_ix (sim_vw (i := 0)) (Sim.rx (sim_c fun _ _ => .int _)) (Or.inr rfl))))))) (Sim.rx (sim_var (i := 1))) (Or.inl rfl))))
    (ss_seq (ss_setI (s := true) (q := true) (simP_var (i := 0)) (sim_c fun _ _ => .int _) (sim_bin op_div (Sim.rx (Sim.qu (sim_bin op_ix (sim_vw (i := 0)) (Sim.rx (sim_c fun _ _ => .int _)) (Or.inr rfl)))) (Sim.rx (sim_var (i := 1))) (Or.inl rfl)) (by first | exact Or.inl rfl | exact Or.inr rfl))
    (ss_ret (q := true) (sim_lf (sim_var (i := 3)))))) ss_nx)
    (ss_seq (ss_setI (s := true) (q := true) (simP_var (i := 0)) (sim_c fun _ _ => .int _) (sim_bin op_mod (Sim.rx (sim_cb op_int1 (sim_one (Sim.rx (sim_fz (Sim.qu (sim_add' op_add (Sim.rx (sim_bin op_mul (Sim.rx (Sim.qu (sim_bin op_ix (sim_vw (i := 0)) (Sim.rx (sim_c fun _ _ => .int _)) (Or.inr rfl)))) (Sim.rx (sim_c fun _ _ => .int _)) (Or.inl rfl))) (Sim.rx (sim_c fun _ _ => .int _)) (Or.inr rfl)))))))) (Sim.rx (sim_c fun _ _ => .int _)) (Or.inl rfl)) (by first | exact Or.inl rfl | exact Or.inr rfl))
    (ss_ret (q := true) (sim_lf (sim_bin op_mod (Sim.rx (sim_cb op_int1 (sim_one (Sim.rx (sim_bin op_div (Sim.rx (Sim.qu (sim_bin op_ix (sim_vw (i := 0)) (Sim.rx (sim_c fun _ _ => .int _)) (Or.inr rfl)))) (Sim.rx (sim_c fun _ _ => .int _)) (Or.inl rfl)))))) (Sim.rx (sim_var (i := 1))) (Or.inl rfl)))))))
theorem sim_law_gap (cc : Nat → Nat) : SimF cc [true] (m_law_gap cc) p_law_gap := by
  unfold m_law_gap p_law_gap
  exact simF_fn (ss_seq (ss_asg (q := true) (i := 2) (sim_lf (sim_c fun _ _ => .str _)))
    (ss_seq (ss_for (q := false) (c := (.one 3)) (sim_r1 (sim_dcons (sim_fz (sim_callV (q := false) (k := 0) (i := 0) (sim_law_next cc) (av_0 (sim_dcons (sim_c fun _ _ => .int _) sim_dnil)))) sim_dnil)) (ss_asg (q := false) (i := 2) (sim_lf (sim_fz (sim_add' op_add (Sim.rx (sim_var (i := 2))) (Sim.rx (sim_bin op_ix (Sim.rx (sim_c fun _ _ => .str _)) (Sim.rx (sim_fz (sim_callV (q := false) (k := 0) (i := 0) (sim_law_next cc) (av_0 (sim_dcons (sim_c fun _ _ => .int _) sim_dnil))))) (Or.inl rfl))) (Or.inl rfl))))))
    (ss_seq (ss_if (q := true) (sim_tand (sim_tru (Sim.rx (sim_var (i := 1)))) (Sim.qu (sim_cmp cmp_eq (Sim.rx (sim_var (i := 2))) (Sim.rx (sim_c fun _ _ => .str _)) (Or.inr rfl)))) (ss_ret (q := true) (sim_lf (sim_c fun _ _ => .str _))) ss_nx)
    (ss_ret (q := true) (sim_lf (sim_var (i := 2)))))))
theorem simg_law_same (cc : Nat → Nat) : ∀ n : Nat, SimF cc [] (m_law_same cc n) (p_law_same n)
  | 0 => (by unfold m_law_same p_law_same; exact simF_bad)
  | n + 1 => by
    obtain ih_law_same := simg_law_same cc n
    exact (by
      unfold m_law_same p_law_same
      exact simF_fn (ss_seq (ss_if (q := true) (Sim.qu (sim_cmp cmp_is (Sim.rx (sim_var (i := 1))) (Sim.rx (sim_c fun _ _ => .non)) (Or.inr rfl))) (ss_ret (q := true) (sim_lf (sim_b (Sim.qu (sim_cmp cmp_is (Sim.rx (sim_var (i := 0))) (Sim.rx (sim_c fun _ _ => .non)) (Or.inr rfl)))))) ss_nx)
    (ss_seq (ss_if (q := true) (sim_is (T := .bool) (Sim.rx (sim_var (i := 1)))) (ss_ret (q := true) (sim_lf (sim_and (sim_b (sim_is (T := .bool) (Sim.rx (sim_var (i := 0))))) (sim_b (Sim.qu (sim_cmp cmp_eq (Sim.rx (sim_var (i := 0))) (Sim.rx (sim_var (i := 1))) (Or.inr rfl))))))) ss_nx)
    (ss_seq (ss_if (q := true) (sim_is (T := .int) (Sim.rx (sim_var (i := 1)))) (ss_ret (q := true) (sim_lf (sim_and (sim_b (sim_is (T := .int) (Sim.rx (sim_var (i := 0))))) (sim_and (sim_not (sim_b (sim_is (T := .bool) (Sim.rx (sim_var (i := 0)))))) (sim_b (Sim.qu (sim_cmp cmp_eq (Sim.rx (sim_var (i := 0))) (Sim.rx (sim_var (i := 1))) (Or.inr rfl)))))))) ss_nx)
    (ss_seq (ss_if (q := true) (sim_is (T := .str) (Sim.rx (sim_var (i := 1)))) (ss_ret (q := true) (sim_lf (sim_and (sim_b (sim_is (T := .str) (Sim.rx (sim_var (i := 0))))) (sim_b (Sim.qu (sim_cmp cmp_eq (Sim.rx (sim_var (i := 0))) (Sim.rx (sim_var (i := 1))) (Or.inr rfl))))))) ss_nx)
    (ss_seq (ss_if (q := true) (sim_tand (sim_is (T := .tuple) (Sim.rx (sim_var (i := 1)))) (sim_tnot (sim_is (T := .tuple) (Sim.rx (sim_var (i := 0)))))) (ss_ret (q := true) (sim_lf (sim_c fun _ _ => .bl _))) ss_nx)
    (ss_seq (ss_if (q := true) (sim_tand (sim_is (T := .list) (Sim.rx (sim_var (i := 1)))) (sim_tnot (sim_is (T := .list) (Sim.rx (sim_var (i := 0)))))) (ss_ret (q := true) (sim_lf (sim_c fun _ _ => .bl _))) ss_nx)
    (ss_seq (ss_if (q := true) (Sim.qu (sim_cmp cmp_ne (Sim.rx (sim_cb op_len (sim_one (Sim.rx (sim_var (i := 0)))))) (Sim.rx (sim_cb op_len (sim_one (Sim.rx (sim_var (i := 1)))))) (Or.inr rfl))) (ss_ret (q := true) (sim_lf (sim_c fun _ _ => .bl _))) ss_nx)
    (ss_seq (ss_for (q := true) (c := (.one 2)) (sim_r1 (sim_dcons (sim_cb op_len (sim_one (Sim.rx (sim_var (i := 1))))) sim_dnil)) (ss_if (q := true) (sim_tnot (sim_tru (Sim.rx (sim_fz (sim_call ih_law_same (sim_dcons (Sim.qu (sim_bin op_ix (Sim.rx (sim_var (i := 0))) (Sim.rx (sim_var (i := 2))) (Or.inr rfl))) (sim_dcons (Sim.qu (sim_bin op_ix (Sim.rx (sim_var (i := 1))) (Sim.rx (sim_var (i := 2))) (Or.inr rfl))) sim_dnil))))))) (ss_ret (q := true) (sim_lf (sim_c fun _ _ => .bl _))) ss_nx))
    (ss_ret (q := true) (sim_lf (sim_c fun _ _ => .bl _))))))))))))
theorem sim_law_same (cc : Nat → Nat) (n : Nat) : SimF cc [] (m_law_same cc n) (p_law_same n) := (simg_law_same cc n)
theorem sim_law_keywords (cc : Nat → Nat) : SimF cc [] (m_law_keywords cc) p_law_keywords := by
  unfold m_law_keywords p_law_keywords
  exact simF_fn (ss_seq (ss_asg (q := true) (i := 0) (sim_lf (sim_c fun _ _ => .str _)))
    (ss_ret (q := true) (sim_split (sim_var (i := 0)) (Sim.rx (sim_c fun _ _ => .str _)))))
theorem sim_law_word (cc : Nat → Nat) : SimF cc [true] (m_law_word cc) p_law_word := by
  unfold m_law_word p_law_word
  exact simF_fn (ss_seq (ss_asg (q := true) (i := 2) (sim_lf (sim_c fun _ _ => .str _)))
    (ss_seq (ss_asg (q := false) (i := 3) (sim_lf (sim_bin op_ix (Sim.rx (sim_var (i := 1))) (Sim.rx (sim_fz (sim_callV (q := false) (k := 0) (i := 0) (sim_law_next cc) (av_0 (sim_dcons (sim_c fun _ _ => .int _) sim_dnil))))) (Or.inl rfl))))
    (ss_seq (ss_for (q := false) (c := (.one 4)) (sim_r1 (sim_dcons (sim_fz (sim_callV (q := false) (k := 0) (i := 0) (sim_law_next cc) (av_0 (sim_dcons (sim_c fun _ _ => .int _) sim_dnil)))) sim_dnil)) (ss_asg (q := false) (i := 3) (sim_lf (sim_fz (sim_add' op_add (Sim.rx (sim_var (i := 3))) (Sim.rx (sim_bin op_ix (Sim.rx (sim_var (i := 2))) (Sim.rx (sim_fz (sim_callV (q := false) (k := 0) (i := 0) (sim_law_next cc) (av_0 (sim_dcons (sim_c fun _ _ => .int _) sim_dnil))))) (Or.inl rfl))) (Or.inl rfl))))))
    (ss_seq (ss_if (q := true) (Sim.qu (sim_cmp cmp_in (Sim.rx (sim_var (i := 3))) (Sim.rx (sim_fz (sim_call (sim_law_keywords cc) sim_dnil))) (Or.inr rfl))) (ss_asg (q := true) (i := 3) (sim_lf (sim_fz (Sim.qu (sim_add' op_add (Sim.rx (sim_var (i := 3))) (Sim.rx (sim_c fun _ _ => .str _)) (Or.inr rfl)))))) ss_nx)
    (ss_ret (q := true) (sim_lf (sim_var (i := 3))))))))
theorem sim_law_name (cc : Nat → Nat) : SimF cc [true] (m_law_name cc) p_law_name := by
  unfold m_law_name p_law_name
  exact simF_fn (ss_ret (q := false) (sim_callV (q := false) (k := 0) (i := 0) (sim_law_word cc) (av_0 (sim_dcons (sim_c fun _ _ => .str _) sim_dnil))))
theorem sim_law_maker (cc : Nat → Nat) : SimF cc [true] (m_law_maker cc) p_law_maker := by
  unfold m_law_maker p_law_maker
  exact simF_fn (ss_ret (q := false) (sim_callV (q := false) (k := 0) (i := 0) (sim_law_word cc) (av_0 (sim_dcons (sim_c fun _ _ => .str _) sim_dnil))))
theorem sim_law_digits (cc : Nat → Nat) : SimF cc [true] (m_law_digits cc) p_law_digits := by
  unfold m_law_digits p_law_digits
  exact simF_fn (ss_ret (q := false) (sim_lf (sim_join (sim_c fun _ _ => .str _) (Sim.rx (sim_fz (sim_lc (c := (.one 2)) (sim_r1 (sim_dcons (sim_var (i := 1)) sim_dnil)) sim_yes (sim_cb op_str (sim_one (Sim.rx (sim_fz (sim_callV (q := false) (k := 0) (i := 0) (sim_law_next cc) (av_0 (sim_dcons (sim_c fun _ _ => .int _) sim_dnil))))))) (by decide)))))))
theorem sim_law_quoted (cc : Nat → Nat) : SimF cc [] (m_law_quoted cc) p_law_quoted := by
  unfold m_law_quoted p_law_quoted
  exact simF_fn (ss_ret (q := true) (Sim.qu (sim_add' op_add (Sim.rx (sim_repA (d := [39]) (c := 39) (z := [39, 39]) (sim_var (i := 0)))) (Sim.rx (sim_c fun _ _ => .str _)) (Or.inr rfl))))
theorem sim_law_char (cc : Nat → Nat) : SimF cc [] (m_law_char cc) p_law_char := by
  unfold m_law_char p_law_char
  exact simF_fn (ss_seq (ss_asg (q := true) (i := 1) (sim_lf (sim_c fun _ _ => .str _)))
    (ss_seq (ss_asg (q := true) (i := 1) (sim_lf (sim_fz (Sim.qu (sim_add' op_add (Sim.rx (sim_var (i := 1))) (Sim.rx (sim_c fun _ _ => .str _)) (Or.inr rfl))))))
    (ss_ret (q := true) (sim_lf (Sim.qu (sim_bin op_ix (Sim.rx (sim_var (i := 1))) (Sim.rx (sim_bin op_mod (Sim.rx (sim_cb op_int1 (sim_one (Sim.rx (sim_var (i := 0)))))) (Sim.rx (sim_c fun _ _ => .int _)) (Or.inl rfl))) (Or.inr rfl)))))))
theorem sim_law_token (cc : Nat → Nat) : SimF cc [true] (m_law_token cc) p_law_token := by
  unfold m_law_token p_law_token
  exact simF_fn (ss_seq (ss_asg (q := false) (i := 1) (sim_lf (sim_fz (sim_callV (q := false) (k := 0) (i := 0) (sim_law_next cc) (av_0 (sim_dcons (sim_c fun _ _ => .int _) sim_dnil))))))
    (ss_seq (ss_if (q := true) (Sim.qu (sim_cmp cmp_lt (Sim.rx (sim_var (i := 1))) (Sim.rx (sim_c fun _ _ => .int _)) (Or.inr rfl))) (ss_seq (ss_asg (q := false) (i := 2) (sim_lf (sim_bin op_ix (Sim.rx (sim_fz (sim_call (sim_law_keywords cc) sim_dnil))) (Sim.rx (sim_fz (sim_callV (q := false) (k := 0) (i := 0) (sim_law_next cc) (av_0 (sim_dcons (sim_c fun _ _ => .int _) sim_dnil))))) (Or.inl rfl))))
    (ss_ret (q := true) (sim_lf (sim_tup (sim_dcons (sim_c fun _ _ => .str _) (sim_dcons (sim_var (i := 2)) (sim_dcons (sim_var (i := 2)) sim_dnil))))))) ss_nx)
    (ss_seq (ss_if (q := true) (Sim.qu (sim_cmp cmp_lt (Sim.rx (sim_var (i := 1))) (Sim.rx (sim_c fun _ _ => .int _)) (Or.inr rfl))) (ss_seq (ss_asg (q := false) (i := 3) (sim_lf (sim_fz (sim_callV (q := false) (k := 0) (i := 0) (sim_law_name cc) (av_0 sim_dnil)))))
    (ss_ret (q := true) (sim_lf (sim_tup (sim_dcons (sim_c fun _ _ => .str _) (sim_dcons (sim_var (i := 3)) (sim_dcons (sim_var (i := 3)) sim_dnil))))))) ss_nx)
    (ss_seq (ss_if (q := true) (Sim.qu (sim_cmp cmp_lt (Sim.rx (sim_var (i := 1))) (Sim.rx (sim_c fun _ _ => .int _)) (Or.inr rfl))) (ss_seq (ss_asg (q := false) (i := 4) (sim_lf (sim_fz (sim_callV (q := false) (k := 0) (i := 0) (sim_law_maker cc) (av_0 sim_dnil)))))
    (ss_ret (q := true) (sim_lf (sim_tup (sim_dcons (sim_c fun _ _ => .str _) (sim_dcons (sim_var (i := 4)) (sim_dcons (sim_var (i := 4)) sim_dnil))))))) ss_nx)
    (ss_seq (ss_if (q := true) (Sim.qu (sim_cmp cmp_lt (Sim.rx (sim_var (i := 1))) (Sim.rx (sim_c fun _ _ => .int _)) (Or.inr rfl))) (ss_seq (ss_asg (q := false) (i := 5) (sim_lf (sim_fz (sim_callV (q := false) (k := 0) (i := 0) (sim_law_digits cc) (av_0 (sim_dcons (sim_fz (sim_add' op_add (Sim.rx (sim_c fun _ _ => .int _)) (Sim.rx (sim_fz (sim_callV (q := false) (k := 0) (i := 0) (sim_law_next cc) (av_0 (sim_dcons (sim_c fun _ _ => .int _) sim_dnil))))) (Or.inl rfl))) sim_dnil))))))
    (ss_ret (q := true) (sim_lf (sim_tup (sim_dcons (sim_c fun _ _ => .str _) (sim_dcons (sim_cb op_intS (sim_one (Sim.rx (sim_var (i := 5))))) (sim_dcons (sim_var (i := 5)) sim_dnil))))))) ss_nx)
    (ss_seq (ss_if (q := true) (Sim.qu (sim_cmp cmp_lt (Sim.rx (sim_var (i := 1))) (Sim.rx (sim_c fun _ _ => .int _)) (Or.inr rfl))) (ss_seq (ss_asg (q := false) (i := 6) (sim_lf (sim_join (sim_c fun _ _ => .str _) (Sim.rx (sim_fz (sim_lc (c := (.one 7)) (sim_r1 (sim_dcons (sim_fz (sim_callV (q := false) (k := 0) (i := 0) (sim_law_next cc) (av_0 (sim_dcons (sim_c fun _ _ => .int _) sim_dnil)))) sim_dnil)) sim_yes (sim_fz (sim_call (sim_law_char cc) (sim_dcons (sim_fz (sim_callV (q := false) (k := 0) (i := 0) (sim_law_next cc) (av_0 (sim_dcons (sim_c fun _ _ => .int _) sim_dnil)))) sim_dnil))) (by decide)))))))
    (ss_seq (ss_if (q := false) (sim_cmp cmp_eq (Sim.rx (sim_fz (sim_callV (q := false) (k := 0) (i := 0) (sim_law_next cc) (av_0 (sim_dcons (sim_c fun _ _ => .int _) sim_dnil))))) (Sim.rx (sim_c fun _ _ => .int _)) (Or.inl rfl)) (ss_asg (q := true) (i := 6) (sim_lf (sim_fz (Sim.qu (sim_add' op_add (Sim.rx (sim_var (i := 6))) (Sim.rx (sim_bin op_mulS (Sim.rx (sim_c fun _ _ => .str _)) (Sim.rx (sim_c fun _ _ => .int _)) (Or.inl rfl))) (Or.inr rfl)))))) ss_nx)
    (ss_ret (q := true) (sim_lf (sim_tup (sim_dcons (sim_c fun _ _ => .str _) (sim_dcons (sim_var (i := 6)) (sim_dcons (sim_fz (sim_call (sim_law_quoted cc) (sim_dcons (sim_var (i := 6)) sim_dnil))) sim_dnil)))))))) ss_nx)
    (ss_seq (ss_asg (q := true) (i := 8) (sim_lf (sim_fz (sim_lst (sim_dcons (sim_c fun _ _ => .str _) (sim_dcons (sim_c fun _ _ => .str _) (sim_dcons (sim_c fun _ _ => .str _) (sim_dcons (sim_c fun _ _ => .str _) (sim_dcons (sim_c fun _ _ => .str _) (sim_dcons (sim_c fun _ _ => .str _) (sim_dcons (sim_c fun _ _ => .str _) (sim_dcons (sim_c fun _ _ => .str _) (sim_dcons (sim_c fun _ _ => .str _) (sim_dcons (sim_c fun _ _ => .str _) (sim_dcons (sim_c fun _ _ => .str _) (sim_dcons (sim_c fun _ _ => .str _) (sim_dcons (sim_c fun _ _ => .str _) (sim_dcons (sim_c fun _ _ => .str _) (sim_dcons (sim_c fun _ _ => .str _) (sim_dcons (sim_c fun _ _ => .str _) (sim_dcons (sim_c fun _ _ => .str _) (sim_dcons (sim_c fun _ _ => .str _) sim_dnil))))))))))))))))))))))
    (ss_seq (ss_asg (q := false) (i := 9) (sim_lf (sim_bin op_ix (Sim.rx (sim_var (i := 8))) (Sim.rx (sim_fz (sim_callV (q := false) (k := 0) (i := 0) (sim_law_next cc) (av_0 (sim_dcons (sim_c fun _ _ => .int _) sim_dnil))))) (Or.inl rfl))))
    (ss_ret (q := true) (sim_lf (sim_tup (sim_dcons (sim_c fun _ _ => .str _) (sim_dcons (sim_var (i := 9)) (sim_dcons (sim_var (i := 9)) sim_dnil))))))))))))))
theorem sim_run_end (cc : Nat → Nat) : SimF cc [] (m_run_end cc) p_run_end := by
  unfold m_run_end p_run_end
  exact simF_fn (ss_seq (ss_asg (q := true) (i := 3) (sim_lf (sim_var (i := 1))))
    (ss_seq (ss_while (q := true) (sim_tand (Sim.qu (sim_cmp cmp_lt (Sim.rx (sim_var (i := 3))) (Sim.rx (sim_cb op_len (sim_one (Sim.rx (sim_var (i := 0)))))) (Or.inr rfl))) (Sim.qu (sim_cmp cmp_inS (Sim.rx (Sim.qu (sim_bin op_ix (Sim.rx (sim_var (i := 0))) (Sim.rx (sim_var (i := 3))) (Or.inr rfl)))) (Sim.rx (sim_var (i := 2))) (Or.inr rfl)))) (ss_aug (q := true) op_iadd (i := 3) (Sim.rx (sim_c fun _ _ => .int _))))
    (ss_ret (q := true) (sim_lf (sim_var (i := 3))))))
theorem sim_read_word (cc : Nat → Nat) : SimF cc [] (m_read_word cc) p_read_word := by
  unfold m_read_word p_read_word
  exact simF_fn (ss_seq (ss_asg (q := true) (i := 2) (sim_lf (sim_fz (sim_call (sim_run_end cc) (sim_dcons (sim_var (i := 0)) (sim_dcons (sim_var (i := 1)) (sim_dcons (sim_c fun _ _ => .str _) sim_dnil)))))))
    (ss_seq (ss_asg (q := true) (i := 3) (sim_lf (sim_fz (Sim.qu (sim_sl (Sim.rx (sim_var (i := 0))) (sim_oso (sim_var (i := 1))) (sim_oso (sim_var (i := 2))) (Or.inr rfl))))))
    (ss_seq (ss_if (q := true) (Sim.qu (sim_cmp cmp_inS (Sim.rx (Sim.qu (sim_bin op_ix (Sim.rx (sim_var (i := 0))) (Sim.rx (sim_var (i := 1))) (Or.inr rfl)))) (Sim.rx (sim_c fun _ _ => .str _)) (Or.inr rfl))) (ss_ret (q := true) (sim_lf (sim_tup (sim_dcons (sim_c fun _ _ => .str _) (sim_dcons (sim_var (i := 3)) (sim_dcons (sim_var (i := 2)) sim_dnil)))))) ss_nx)
    (ss_seq (ss_if (q := true) (Sim.qu (sim_cmp cmp_in (Sim.rx (sim_var (i := 3))) (Sim.rx (sim_c fun _ _ => .tup (dns_strs [[100, 97, 116, 97], [102, 117, 110], [99, 101, 108, 108], [118, 105, 101, 119], [97, 99, 116], [116, 117, 114, 110], [116, 104, 101, 110], [116, 114, 117, 101], [102, 97, 108, 115, 101], [110, 111, 116], [97, 110, 100], [111, 114], [105, 102], [101, 108, 115, 101], [108, 101, 116], [105, 110], [99, 97, 115, 101], [111, 102], [101, 110, 100], [110, 117, 109], [116, 101, 120, 116], [98, 111, 111, 108], [108, 105, 115, 116], [109, 111, 100]]))) (Or.inr rfl))) (ss_ret (q := true) (sim_lf (sim_tup (sim_dcons (sim_c fun _ _ => .str _) (sim_dcons (sim_var (i := 3)) (sim_dcons (sim_var (i := 2)) sim_dnil)))))) ss_nx)
    (ss_ret (q := true) (sim_lf (sim_tup (sim_dcons (sim_c fun _ _ => .str _) (sim_dcons (sim_var (i := 3)) (sim_dcons (sim_var (i := 2)) sim_dnil))))))))))
theorem sim_read_number (cc : Nat → Nat) : SimF cc [] (m_read_number cc) p_read_number := by
  unfold m_read_number p_read_number
  exact simF_fn (ss_seq (ss_asg (q := true) (i := 2) (sim_lf (sim_fz (sim_call (sim_run_end cc) (sim_dcons (sim_var (i := 0)) (sim_dcons (sim_var (i := 1)) (sim_dcons (sim_c fun _ _ => .str _) sim_dnil)))))))
    (ss_seq (ss_if (q := true) (Sim.qu (sim_cmp cmp_gt (Sim.rx (sim_bin op_sub (Sim.rx (sim_var (i := 2))) (Sim.rx (sim_var (i := 1))) (Or.inl rfl))) (Sim.rx (sim_c fun _ _ => .int _)) (Or.inr rfl))) (ss_raiseF (q := true) (Sim.rx (sim_var (i := 1))) int_DU) ss_nx)
    (ss_ret (q := true) (sim_lf (sim_tup (sim_dcons (sim_c fun _ _ => .str _) (sim_dcons (sim_cb op_intS (sim_one (Sim.rx (sim_fz (Sim.qu (sim_sl (Sim.rx (sim_var (i := 0))) (sim_oso (sim_var (i := 1))) (sim_oso (sim_var (i := 2))) (Or.inr rfl))))))) (sim_dcons (sim_var (i := 2)) sim_dnil))))))))
theorem sim_read_text (cc : Nat → Nat) : SimF cc [] (m_read_text cc) p_read_text := by
  unfold m_read_text p_read_text
  exact simF_fn (ss_seq (ss_asg (q := true) (i := 2) (sim_lst sim_dnil))
    (ss_seq (ss_asg (q := true) (i := 3) (sim_lf (sim_fz (Sim.qu (sim_add' op_add (Sim.rx (sim_var (i := 1))) (Sim.rx (sim_c fun _ _ => .int _)) (Or.inr rfl))))))
    (ss_seq (ss_asg (q := true) (i := 4) (sim_lf (sim_find (sim_var (i := 0)) (sim_dcons (sim_c fun _ _ => .str _) (sim_dcons (sim_var (i := 3)) sim_dnil)))))
    (ss_seq (ss_while (q := true) (sim_tand (Sim.qu (sim_cmp cmp_ge (Sim.rx (sim_var (i := 4))) (Sim.rx (sim_c fun _ _ => .int _)) (Or.inr rfl))) (Sim.qu (sim_cmp cmp_eq (Sim.rx (sim_fz (Sim.qu (sim_sl (Sim.rx (sim_var (i := 0))) (sim_oso (sim_fz (Sim.qu (sim_add' op_add (Sim.rx (sim_var (i := 4))) (Sim.rx (sim_c fun _ _ => .int _)) (Or.inr rfl))))) (sim_oso (sim_fz (Sim.qu (sim_add' op_add (Sim.rx (sim_var (i := 4))) (Sim.rx (sim_c fun _ _ => .int _)) (Or.inr rfl))))) (Or.inr rfl))))) (Sim.rx (sim_c fun _ _ => .str _)) (Or.inr rfl)))) (ss_seq (ss_drop (q := false) (sim_lf (sim_upd (q := true) upd_app (simP_var (i := 2)) (sim_ra (sim_dcons (sim_fz (Sim.qu (sim_sl (Sim.rx (sim_var (i := 0))) (sim_oso (sim_var (i := 3))) (sim_oso (sim_fz (Sim.qu (sim_add' op_add (Sim.rx (sim_var (i := 4))) (Sim.rx (sim_c fun _ _ => .int _)) (Or.inr rfl))))) (Or.inr rfl)))) sim_dnil)) (by first | exact Or.inl rfl | exact Or.inr rfl))))
    (ss_seq (ss_asg (q := true) (i := 3) (sim_lf (sim_fz (Sim.qu (sim_add' op_add (Sim.rx (sim_var (i := 4))) (Sim.rx (sim_c fun _ _ => .int _)) (Or.inr rfl))))))
    (ss_asg (q := true) (i := 4) (sim_lf (sim_find (sim_var (i := 0)) (sim_dcons (sim_c fun _ _ => .str _) (sim_dcons (sim_var (i := 3)) sim_dnil))))))))
    (ss_seq (ss_if (q := true) (Sim.qu (sim_cmp cmp_lt (Sim.rx (sim_var (i := 4))) (Sim.rx (sim_c fun _ _ => .int _)) (Or.inr rfl))) (ss_raiseF (q := true) (Sim.rx (sim_var (i := 1))) int_DU) ss_nx)
    (ss_seq (ss_drop (q := false) (sim_lf (sim_upd (q := true) upd_app (simP_var (i := 2)) (sim_ra (sim_dcons (sim_fz (Sim.qu (sim_sl (Sim.rx (sim_var (i := 0))) (sim_oso (sim_var (i := 3))) (sim_oso (sim_var (i := 4))) (Or.inr rfl)))) sim_dnil)) (by first | exact Or.inl rfl | exact Or.inr rfl))))
    (ss_ret (q := true) (sim_lf (sim_tup (sim_dcons (sim_c fun _ _ => .str _) (sim_dcons (sim_join (sim_c fun _ _ => .str _) (sim_vw (i := 2))) (sim_dcons (sim_fz (Sim.qu (sim_add' op_add (Sim.rx (sim_var (i := 4))) (Sim.rx (sim_c fun _ _ => .int _)) (Or.inr rfl)))) sim_dnil))))))))))))
theorem sim_read_token (cc : Nat → Nat) : SimF cc [] (m_read_token cc) p_read_token := by
  unfold m_read_token p_read_token
  exact simF_fn (ss_seq (ss_asg (q := true) (i := 2) (sim_lf (Sim.qu (sim_bin op_ix (Sim.rx (sim_var (i := 0))) (Sim.rx (sim_var (i := 1))) (Or.inr rfl)))))
    (ss_seq (ss_if (q := true) (sim_tor (Sim.qu (sim_cmp cmp_inS (Sim.rx (sim_var (i := 2))) (Sim.rx (sim_c fun _ _ => .str _)) (Or.inr rfl))) (Sim.qu (sim_cmp cmp_inS (Sim.rx (sim_var (i := 2))) (Sim.rx (sim_c fun _ _ => .str _)) (Or.inr rfl)))) (ss_ret (q := true) (sim_call (sim_read_word cc) (sim_dcons (sim_var (i := 0)) (sim_dcons (sim_var (i := 1)) sim_dnil)))) ss_nx)
    (ss_seq (ss_if (q := true) (Sim.qu (sim_cmp cmp_inS (Sim.rx (sim_var (i := 2))) (Sim.rx (sim_c fun _ _ => .str _)) (Or.inr rfl))) (ss_ret (q := true) (sim_call (sim_read_number cc) (sim_dcons (sim_var (i := 0)) (sim_dcons (sim_var (i := 1)) sim_dnil)))) ss_nx)
    (ss_seq (ss_if (q := true) (Sim.qu (sim_cmp cmp_eq (Sim.rx (sim_var (i := 2))) (Sim.rx (sim_c fun _ _ => .str _)) (Or.inr rfl))) (ss_ret (q := true) (sim_call (sim_read_text cc) (sim_dcons (sim_var (i := 0)) (sim_dcons (sim_var (i := 1)) sim_dnil)))) ss_nx)
    (ss_seq (ss_if (q := true) (Sim.qu (sim_cmp cmp_in (Sim.rx (sim_fz (Sim.qu (sim_sl (Sim.rx (sim_var (i := 0))) (sim_oso (sim_var (i := 1))) (sim_oso (sim_fz (Sim.qu (sim_add' op_add (Sim.rx (sim_var (i := 1))) (Sim.rx (sim_c fun _ _ => .int _)) (Or.inr rfl))))) (Or.inr rfl))))) (Sim.rx (sim_c fun _ _ => .tup (dns_strs [[43, 43], [58, 58], [45, 62], [58, 61]]))) (Or.inr rfl))) (ss_ret (q := true) (sim_lf (sim_tup (sim_dcons (sim_c fun _ _ => .str _) (sim_dcons (sim_fz (Sim.qu (sim_sl (Sim.rx (sim_var (i := 0))) (sim_oso (sim_var (i := 1))) (sim_oso (sim_fz (Sim.qu (sim_add' op_add (Sim.rx (sim_var (i := 1))) (Sim.rx (sim_c fun _ _ => .int _)) (Or.inr rfl))))) (Or.inr rfl)))) (sim_dcons (sim_fz (Sim.qu (sim_add' op_add (Sim.rx (sim_var (i := 1))) (Sim.rx (sim_c fun _ _ => .int _)) (Or.inr rfl)))) sim_dnil)))))) ss_nx)
    (ss_seq (ss_if (q := true) (Sim.qu (sim_cmp cmp_in (Sim.rx (sim_var (i := 2))) (Sim.rx (sim_c fun _ _ => .tup (dns_strs [[40], [41], [91], [93], [44], [59], [124], [61], [60], [43], [45], [42], [47], [58]]))) (Or.inr rfl))) (ss_ret (q := true) (sim_lf (sim_tup (sim_dcons (sim_c fun _ _ => .str _) (sim_dcons (sim_var (i := 2)) (sim_dcons (sim_fz (Sim.qu (sim_add' op_add (Sim.rx (sim_var (i := 1))) (Sim.rx (sim_c fun _ _ => .int _)) (Or.inr rfl)))) sim_dnil)))))) ss_nx)
    (ss_raiseF (q := true) (Sim.rx (sim_var (i := 1))) int_DU)))))))
theorem sim_tokenize (cc : Nat → Nat) : SimF cc [] (m_tokenize cc) p_tokenize := by
  unfold m_tokenize p_tokenize
  exact simF_fn (ss_seq (ss_asg (q := true) (i := 1) (sim_lst sim_dnil))
    (ss_seq (ss_asg (q := true) (i := 2) (sim_lf (sim_c fun _ _ => .int _)))
    (ss_seq (ss_while (q := true) (Sim.qu (sim_cmp cmp_lt (Sim.rx (sim_var (i := 2))) (Sim.rx (sim_cb op_len (sim_one (Sim.rx (sim_var (i := 0)))))) (Or.inr rfl))) (ss_if (q := true) (Sim.qu (sim_cmp cmp_in (Sim.rx (Sim.qu (sim_bin op_ix (Sim.rx (sim_var (i := 0))) (Sim.rx (sim_var (i := 2))) (Or.inr rfl)))) (Sim.rx (sim_tup (sim_dcons (sim_c fun _ _ => .str _) (sim_dcons (sim_c fun _ _ => .str _) sim_dnil)))) (Or.inr rfl))) (ss_aug (q := true) op_iadd (i := 2) (Sim.rx (sim_c fun _ _ => .int _))) (ss_seq (ss_unp (q := true) (c := (.tup [3, 4, 5])) (sim_fz (sim_call (sim_read_token cc) (sim_dcons (sim_var (i := 0)) (sim_dcons (sim_var (i := 2)) sim_dnil)))))
    (ss_seq (ss_drop (q := false) (sim_lf (sim_upd (q := true) upd_app (simP_var (i := 1)) (sim_ra (sim_dcons (sim_tup (sim_dcons (sim_var (i := 3)) (sim_dcons (sim_var (i := 4)) (sim_dcons (sim_var (i := 2)) sim_dnil)))) sim_dnil)) (by first | exact Or.inl rfl | exact Or.inr rfl))))
    (ss_asg (q := true) (i := 2) (sim_lf (sim_var (i := 5))))))))
    (ss_ret (q := true) (sim_mv (i := 1))))))
theorem sim_law_read (cc : Nat → Nat) : SimF cc [] (m_law_read cc) p_law_read := by
  unfold m_law_read p_law_read
  exact simF_fn (ss_tryAsF (i := 1) (ys := [0]) (fl := "position") (ss_ret (q := true) (sim_lf (sim_tup (sim_dcons (sim_c fun _ _ => .str _) (sim_dcons (sim_fz (sim_call (sim_tokenize cc) (sim_dcons (sim_var (i := 0)) sim_dnil))) sim_dnil))))) (ss_ret (q := true) (sim_lf (sim_tup (sim_dcons (sim_c fun _ _ => .str _) (sim_dcons (sim_var (i := 1)) (sim_dcons (sim_and (sim_c fun _ _ => .bl _) (sim_c fun _ _ => .bl _)) sim_dnil)))))))
theorem sim_law_joins (cc : Nat → Nat) : SimF cc [] (m_law_joins cc) p_law_joins := by
  unfold m_law_joins p_law_joins
  exact simF_fn (ss_seq (ss_asg (q := true) (i := 2) (sim_lf (sim_c fun _ _ => .str _)))
    (ss_seq (ss_asg (q := true) (i := 3) (sim_lf (Sim.qu (sim_bin op_ix (Sim.rx (sim_var (i := 0))) (Sim.rx (sim_c fun _ _ => .int _)) (Or.inr rfl)))))
    (ss_seq (ss_asg (q := true) (i := 4) (sim_lf (Sim.qu (sim_bin op_ix (Sim.rx (sim_var (i := 1))) (Sim.rx (sim_c fun _ _ => .int _)) (Or.inr rfl)))))
    (ss_seq (ss_if (q := true) (Sim.qu (sim_cmp cmp_inS (Sim.rx (sim_var (i := 3))) (Sim.rx (sim_var (i := 2))) (Or.inr rfl))) (ss_ret (q := true) (sim_lf (sim_b (Sim.qu (sim_cmp cmp_inS (Sim.rx (sim_var (i := 4))) (Sim.rx (sim_fz (Sim.qu (sim_add' op_add (Sim.rx (sim_var (i := 2))) (Sim.rx (sim_c fun _ _ => .str _)) (Or.inr rfl))))) (Or.inr rfl)))))) ss_nx)
    (ss_seq (ss_if (q := true) (Sim.qu (sim_cmp cmp_inS (Sim.rx (sim_var (i := 3))) (Sim.rx (sim_c fun _ _ => .str _)) (Or.inr rfl))) (ss_ret (q := true) (sim_lf (sim_b (Sim.qu (sim_cmp cmp_inS (Sim.rx (sim_var (i := 4))) (Sim.rx (sim_c fun _ _ => .str _)) (Or.inr rfl)))))) ss_nx)
    (ss_seq (ss_if (q := true) (Sim.qu (sim_cmp cmp_eq (Sim.rx (sim_var (i := 3))) (Sim.rx (sim_c fun _ _ => .str _)) (Or.inr rfl))) (ss_ret (q := true) (sim_lf (sim_b (Sim.qu (sim_cmp cmp_eq (Sim.rx (sim_var (i := 4))) (Sim.rx (sim_c fun _ _ => .str _)) (Or.inr rfl)))))) ss_nx)
    (ss_ret (q := true) (sim_lf (sim_and (sim_b (Sim.qu (sim_cmp cmp_in (Sim.rx (sim_var (i := 0))) (Sim.rx (sim_fz (sim_lst (sim_dcons (sim_c fun _ _ => .str _) (sim_dcons (sim_c fun _ _ => .str _) sim_dnil))))) (Or.inr rfl)))) (sim_b (Sim.qu (sim_cmp cmp_inS (Sim.rx (sim_var (i := 4))) (Sim.rx (sim_c fun _ _ => .str _)) (Or.inr rfl)))))))))))))
theorem sim_law (cc : Nat → Nat) : SimF cc [] (m_law cc) p_law := by
  unfold m_law p_law
  exact simF_fn (ss_seq (ss_asg (q := true) (i := 1) (sim_lst (sim_dcons (sim_fz (sim_ct op_list (sim_one (Sim.rx (sim_var (i := 0)))))) (sim_dcons (sim_c fun _ _ => .int _) (sim_dcons (sim_c fun _ _ => .int _) (sim_dcons (sim_c fun _ _ => .int _) sim_dnil))))))
    (ss_seq (ss_asg (q := false) (i := 2) (sim_lf (sim_fz (sim_callV (q := false) (k := 0) (i := 1) (sim_law_next cc) (av_0 (sim_dcons (sim_c fun _ _ => .int _) sim_dnil))))))
    (ss_seq (ss_if (q := false) (sim_cmp cmp_eq (Sim.rx (sim_fz (sim_callV (q := false) (k := 0) (i := 1) (sim_law_next cc) (av_0 (sim_dcons (sim_c fun _ _ => .int _) sim_dnil))))) (Sim.rx (sim_c fun _ _ => .int _)) (Or.inl rfl)) (ss_asg (q := false) (i := 2) (sim_lf (sim_fz (sim_callV (q := false) (k := 0) (i := 1) (sim_law_next cc) (av_0 (sim_dcons (sim_c fun _ _ => .int _) sim_dnil)))))) ss_nx)
    (ss_seq (ss_asg (q := false) (i := 3) (sim_lf (sim_fz (sim_callV (q := false) (k := 0) (i := 1) (sim_law_gap cc) (av_0 (sim_dcons (sim_c fun _ _ => .bl _) sim_dnil))))))
    (ss_seq (ss_asg (q := true) (i := 4) (sim_lst sim_dnil))
    (ss_seq (ss_asg (q := true) (i := 5) (sim_lf (sim_c fun _ _ => .str _)))
    (ss_seq (ss_for (q := true) (c := (.one 6)) (sim_r1 (sim_dcons (sim_var (i := 2)) sim_dnil)) (ss_seq (ss_unp (q := false) (c := (.tup [7, 8, 9])) (sim_fz (sim_callV (q := false) (k := 0) (i := 1) (sim_law_token cc) (av_0 sim_dnil))))
    (ss_seq (ss_asg (q := false) (i := 3) (sim_lf (sim_fz (sim_add' op_add (Sim.rx (sim_var (i := 3))) (Sim.rx (sim_fz (sim_callV (q := false) (k := 0) (i := 1) (sim_law_gap cc) (av_0 (sim_dcons (sim_fz (sim_call (sim_law_joins cc) (sim_dcons (sim_var (i := 5)) (sim_dcons (sim_var (i := 9)) sim_dnil)))) sim_dnil))))) (Or.inl rfl)))))
    (ss_seq (ss_drop (q := false) (sim_lf (sim_upd (q := true) upd_app (simP_var (i := 4)) (sim_ra (sim_dcons (sim_tup (sim_dcons (sim_var (i := 7)) (sim_dcons (sim_var (i := 8)) (sim_dcons (sim_cb op_len (sim_one (Sim.rx (sim_var (i := 3))))) sim_dnil)))) sim_dnil)) (by first | exact Or.inl rfl | exact Or.inr rfl))))
    (ss_seq (ss_asg (q := true) (i := 3) (sim_lf (sim_fz (Sim.qu (sim_add' op_add (Sim.rx (sim_var (i := 3))) (Sim.rx (sim_var (i := 9))) (Or.inr rfl))))))
    (ss_asg (q := true) (i := 5) (sim_lf (sim_var (i := 9)))))))))
    (ss_seq (ss_if (q := true) (sim_tnot (sim_tru (Sim.rx (sim_fz (sim_call (sim_law_same cc 4) (sim_dcons (sim_c fun _ _ => .tup (dns_strs [[100, 97, 116, 97], [102, 117, 110], [99, 101, 108, 108], [118, 105, 101, 119], [97, 99, 116], [116, 117, 114, 110], [116, 104, 101, 110], [116, 114, 117, 101], [102, 97, 108, 115, 101], [110, 111, 116], [97, 110, 100], [111, 114], [105, 102], [101, 108, 115, 101], [108, 101, 116], [105, 110], [99, 97, 115, 101], [111, 102], [101, 110, 100], [110, 117, 109], [116, 101, 120, 116], [98, 111, 111, 108], [108, 105, 115, 116], [109, 111, 100]])) (sim_dcons (sim_cb op_tuple (sim_one (Sim.rx (sim_fz (sim_call (sim_law_keywords cc) sim_dnil))))) sim_dnil))))))) (ss_ret (q := true) (sim_lf (sim_c fun _ _ => .bl _))) ss_nx)
    (ss_seq (ss_asg (q := false) (i := 3) (sim_lf (sim_fz (sim_add' op_add (Sim.rx (sim_var (i := 3))) (Sim.rx (sim_fz (sim_callV (q := false) (k := 0) (i := 1) (sim_law_gap cc) (av_0 (sim_dcons (sim_c fun _ _ => .bl _) sim_dnil))))) (Or.inl rfl)))))
    (ss_seq (ss_asg (q := false) (i := 10) (sim_lf (sim_fz (sim_callV (q := false) (k := 0) (i := 1) (sim_law_next cc) (av_0 (sim_dcons (sim_c fun _ _ => .int _) sim_dnil))))))
    (ss_seq (ss_if (q := true) (Sim.qu (sim_cmp cmp_lt (Sim.rx (sim_var (i := 10))) (Sim.rx (sim_c fun _ _ => .int _)) (Or.inr rfl))) (ss_ret (q := true) (sim_call (sim_law_same cc 4) (sim_dcons (sim_fz (sim_call (sim_law_read cc) (sim_dcons (sim_var (i := 3)) sim_dnil))) (sim_dcons (sim_tup (sim_dcons (sim_c fun _ _ => .str _) (sim_dcons (sim_fv (i := 4)) sim_dnil))) sim_dnil)))) ss_nx)
    (ss_seq (ss_asg (q := true) (i := 3) (sim_lf (sim_fz (Sim.qu (sim_add' op_add (Sim.rx (sim_var (i := 3))) (Sim.rx (sim_c fun _ _ => .str _)) (Or.inr rfl))))))
    (ss_seq (ss_asg (q := true) (i := 11) (sim_lf (sim_cb op_len (sim_one (Sim.rx (sim_var (i := 3)))))))
    (ss_seq (ss_if (q := true) (Sim.qu (sim_cmp cmp_eq (Sim.rx (sim_var (i := 10))) (Sim.rx (sim_c fun _ _ => .int _)) (Or.inr rfl))) (ss_asg (q := false) (i := 3) (sim_lf (sim_fz (sim_add' op_add (Sim.rx (sim_fz (Sim.qu (sim_add' op_add (Sim.rx (sim_var (i := 3))) (Sim.rx (sim_c fun _ _ => .str _)) (Or.inr rfl))))) (Sim.rx (sim_bin op_ix (Sim.rx (sim_c fun _ _ => .str _)) (Sim.rx (sim_fz (sim_callV (q := false) (k := 0) (i := 1) (sim_law_next cc) (av_0 (sim_dcons (sim_c fun _ _ => .int _) sim_dnil))))) (Or.inl rfl))) (Or.inl rfl))))) (ss_if (q := true) (Sim.qu (sim_cmp cmp_eq (Sim.rx (sim_var (i := 10))) (Sim.rx (sim_c fun _ _ => .int _)) (Or.inr rfl))) (ss_asg (q := false) (i := 3) (sim_lf (sim_fz (sim_add' op_add (Sim.rx (sim_fz (sim_add' op_add (Sim.rx (sim_fz (sim_add' op_add (Sim.rx (sim_var (i := 3))) (Sim.rx (sim_fz (sim_callV (q := false) (k := 0) (i := 1) (sim_law_digits cc) (av_0 (sim_dcons (sim_fz (sim_add' op_add (Sim.rx (sim_c fun _ _ => .int _)) (Sim.rx (sim_fz (sim_callV (q := false) (k := 0) (i := 1) (sim_law_next cc) (av_0 (sim_dcons (sim_c fun _ _ => .int _) sim_dnil))))) (Or.inl rfl))) sim_dnil))))) (Or.inl rfl)))) (Sim.rx (sim_c fun _ _ => .str _)) (Or.inl rfl)))) (Sim.rx (sim_var (i := 3))) (Or.inl rfl))))) (ss_seq (ss_asg (q := true) (i := 12) (sim_lf (sim_c fun _ _ => .str _)))
    (ss_asg (q := false) (i := 3) (sim_lf (sim_fz (sim_add' op_add (Sim.rx (sim_fz (sim_add' op_add (Sim.rx (sim_var (i := 3))) (Sim.rx (sim_bin op_ix (Sim.rx (sim_var (i := 12))) (Sim.rx (sim_fz (sim_callV (q := false) (k := 0) (i := 1) (sim_law_next cc) (av_0 (sim_dcons (sim_cb op_len (sim_one (Sim.rx (sim_var (i := 12))))) sim_dnil))))) (Or.inl rfl))) (Or.inl rfl)))) (Sim.rx (sim_var (i := 3))) (Or.inl rfl))))))))
    (ss_ret (q := true) (sim_call (sim_law_same cc 4) (sim_dcons (sim_fz (sim_call (sim_law_read cc) (sim_dcons (sim_var (i := 3)) sim_dnil))) (sim_dcons (sim_tup (sim_dcons (sim_c fun _ _ => .str _) (sim_dcons (sim_var (i := 11)) (sim_dcons (sim_c fun _ _ => .bl _) sim_dnil)))) sim_dnil))))))))))))))))))
theorem law_true (cc : Nat → Nat) : Q.semTrue (m_law cc) := by
  have h := sim_law cc
  have t := p_true
  generalize m_law cc = m at h ⊢
  generalize p_law = p at h t
  exact P.sem_true h t
end LAW

set_option Elab.async false
set_option linter.all false
set_option maxRecDepth 100000
set_option maxHeartbeats 4000000
namespace LAW
open PySem PySem.Spec PyProof.Rows L2 TL Q
def topS (i : Nat) : Stmt := PySem.Challenge.pw_quillrun_k21_tokens_read_back.main.body.getD i (.Pass ⟨0, 0, 0, 0⟩)
abbrev s_law_next : Stmt := topS 19
abbrev n_law_next : List Str := ["_law_state", "_law_limit", "_law_cell", "_law_value"]
theorem sc_law_next : FnScope n_law_next ["_law_state", "_law_limit"] (defScope s_law_next) := ⟨rfl, rfl, rfl, by decide +kernel, rfl, by decide +kernel, by decide +kernel⟩
abbrev s_law_gap : Stmt := topS 30
abbrev n_law_gap : List Str := ["_law_state", "_law_needed", "_law_gap_here", "_law_k"]
theorem sc_law_gap : FnScope n_law_gap ["_law_state", "_law_needed"] (defScope s_law_gap) := ⟨rfl, rfl, rfl, by decide +kernel, rfl, by decide +kernel, by decide +kernel⟩
abbrev s_law_same : Stmt := topS 20
abbrev n_law_same : List Str := ["_law_actual", "_law_expected", "_law_k"]
theorem sc_law_same : FnScope n_law_same ["_law_actual", "_law_expected"] (defScope s_law_same) := ⟨rfl, rfl, rfl, by decide +kernel, rfl, by decide +kernel, by decide +kernel⟩
abbrev s_law_keywords : Stmt := topS 21
abbrev n_law_keywords : List Str := ["_law_words"]
theorem sc_law_keywords : FnScope n_law_keywords [] (defScope s_law_keywords) := ⟨rfl, rfl, rfl, by decide +kernel, rfl, by decide +kernel, by decide +kernel⟩
abbrev s_law_word : Stmt := topS 22
abbrev n_law_word : List Str := ["_law_state", "_law_first", "_law_following", "_law_word_here", "_law_k"]
theorem sc_law_word : FnScope n_law_word ["_law_state", "_law_first"] (defScope s_law_word) := ⟨rfl, rfl, rfl, by decide +kernel, rfl, by decide +kernel, by decide +kernel⟩
abbrev s_law_name : Stmt := topS 23
abbrev n_law_name : List Str := ["_law_state"]
theorem sc_law_name : FnScope n_law_name ["_law_state"] (defScope s_law_name) := ⟨rfl, rfl, rfl, by decide +kernel, rfl, by decide +kernel, by decide +kernel⟩
abbrev s_law_maker : Stmt := topS 24
abbrev n_law_maker : List Str := ["_law_state"]
theorem sc_law_maker : FnScope n_law_maker ["_law_state"] (defScope s_law_maker) := ⟨rfl, rfl, rfl, by decide +kernel, rfl, by decide +kernel, by decide +kernel⟩
abbrev s_law_digits : Stmt := topS 26
abbrev n_law_digits : List Str := ["_law_state", "_law_count", "_law_k"]
theorem sc_law_digits : FnScope n_law_digits ["_law_state", "_law_count"] (defScope s_law_digits) := ⟨rfl, rfl, rfl, by decide +kernel, rfl, by decide +kernel, by decide +kernel⟩
abbrev s_law_quoted : Stmt := topS 27
abbrev n_law_quoted : List Str := ["_law_text"]
theorem sc_law_quoted : FnScope n_law_quoted ["_law_text"] (defScope s_law_quoted) := ⟨rfl, rfl, rfl, by decide +kernel, rfl, by decide +kernel, by decide +kernel⟩
abbrev s_law_char : Stmt := topS 25
abbrev n_law_char : List Str := ["_law_index", "_law_chars"]
theorem sc_law_char : FnScope n_law_char ["_law_index"] (defScope s_law_char) := ⟨rfl, rfl, rfl, by decide +kernel, rfl, by decide +kernel, by decide +kernel⟩
abbrev s_law_token : Stmt := topS 28
abbrev n_law_token : List Str := ["_law_state", "_law_pick", "_law_word_here", "_law_name_here", "_law_maker_here", "_law_digits_here", "_law_text", "_law_k", "_law_signs", "_law_sign"]
theorem sc_law_token : FnScope n_law_token ["_law_state"] (defScope s_law_token) := ⟨rfl, rfl, rfl, by decide +kernel, rfl, by decide +kernel, by decide +kernel⟩
abbrev s_run_end : Stmt := topS 12
abbrev n_run_end : List Str := ["chunk", "start", "allowed", "end"]
theorem sc_run_end : FnScope n_run_end ["chunk", "start", "allowed"] (defScope s_run_end) := ⟨rfl, rfl, rfl, by decide +kernel, rfl, by decide +kernel, by decide +kernel⟩
abbrev s_read_word : Stmt := topS 14
abbrev n_read_word : List Str := ["chunk", "start", "end", "word"]
theorem sc_read_word : FnScope n_read_word ["chunk", "start"] (defScope s_read_word) := ⟨rfl, rfl, rfl, by decide +kernel, rfl, by decide +kernel, by decide +kernel⟩
abbrev s_read_number : Stmt := topS 15
abbrev n_read_number : List Str := ["chunk", "start", "end"]
theorem sc_read_number : FnScope n_read_number ["chunk", "start"] (defScope s_read_number) := ⟨rfl, rfl, rfl, by decide +kernel, rfl, by decide +kernel, by decide +kernel⟩
abbrev s_read_text : Stmt := topS 13
abbrev n_read_text : List Str := ["chunk", "start", "parts", "begin", "quote"]
theorem sc_read_text : FnScope n_read_text ["chunk", "start"] (defScope s_read_text) := ⟨rfl, rfl, rfl, by decide +kernel, rfl, by decide +kernel, by decide +kernel⟩
abbrev s_read_token : Stmt := topS 16
abbrev n_read_token : List Str := ["chunk", "start", "first"]
theorem sc_read_token : FnScope n_read_token ["chunk", "start"] (defScope s_read_token) := ⟨rfl, rfl, rfl, by decide +kernel, rfl, by decide +kernel, by decide +kernel⟩
abbrev s_tokenize : Stmt := topS 17
abbrev n_tokenize : List Str := ["chunk", "tokens", "start", "kind", "value", "end"]
theorem sc_tokenize : FnScope n_tokenize ["chunk"] (defScope s_tokenize) := ⟨rfl, rfl, rfl, by decide +kernel, rfl, by decide +kernel, by decide +kernel⟩
abbrev s_law_read : Stmt := topS 31
abbrev n_law_read : List Str := ["_law_text", "e"]
theorem sc_law_read : FnScope n_law_read ["_law_text"] (defScope s_law_read) := ⟨rfl, rfl, rfl, by decide +kernel, rfl, by decide +kernel, by decide +kernel⟩
abbrev s_law_joins : Stmt := topS 29
abbrev n_law_joins : List Str := ["_law_written", "_law_other", "_law_letters", "_law_first", "_law_begin"]
theorem sc_law_joins : FnScope n_law_joins ["_law_written", "_law_other"] (defScope s_law_joins) := ⟨rfl, rfl, rfl, by decide +kernel, rfl, by decide +kernel, by decide +kernel⟩
abbrev s_law : Stmt := topS 32
abbrev n_law : List Str := ["_law_script", "_law_state", "_law_count", "_law_text", "_law_tokens", "_law_previous", "_law_k", "_law_kind", "_law_value", "_law_written", "_law_pick", "_law_place", "_law_strange"]
theorem sc_law : FnScope n_law ["_law_script"] (defScope s_law) := ⟨rfl, rfl, rfl, by decide +kernel, rfl, by decide +kernel, by decide +kernel⟩
structure Txt (K : Fr) (mg : Str → Option Value) where
  prog : Program
  cc : Nat → Nat
  cx_RefusedChunk : Addr
  a_law_next : Addr
  fd_law_next : FuncData
  F_law_next : Fun K "_law_next" "_law_next" s_law_next a_law_next fd_law_next
  b_law_next : Binds K fd_law_next ["_law_state", "_law_limit"] []
  g_law_next : mg "_law_next" = some (.ref a_law_next)
  a_law_gap : Addr
  fd_law_gap : FuncData
  F_law_gap : Fun K "_law_gap" "_law_gap" s_law_gap a_law_gap fd_law_gap
  b_law_gap : Binds K fd_law_gap ["_law_state", "_law_needed"] []
  g_law_gap : mg "_law_gap" = some (.ref a_law_gap)
  a_law_same : Addr
  fd_law_same : FuncData
  F_law_same : Fun K "_law_same" "_law_same" s_law_same a_law_same fd_law_same
  b_law_same : Binds K fd_law_same ["_law_actual", "_law_expected"] []
  g_law_same : mg "_law_same" = some (.ref a_law_same)
  a_law_keywords : Addr
  fd_law_keywords : FuncData
  F_law_keywords : Fun K "_law_keywords" "_law_keywords" s_law_keywords a_law_keywords fd_law_keywords
  b_law_keywords : Binds K fd_law_keywords [] []
  g_law_keywords : mg "_law_keywords" = some (.ref a_law_keywords)
  a_law_word : Addr
  fd_law_word : FuncData
  F_law_word : Fun K "_law_word" "_law_word" s_law_word a_law_word fd_law_word
  b_law_word : Binds K fd_law_word ["_law_state", "_law_first"] []
  g_law_word : mg "_law_word" = some (.ref a_law_word)
  a_law_name : Addr
  fd_law_name : FuncData
  F_law_name : Fun K "_law_name" "_law_name" s_law_name a_law_name fd_law_name
  b_law_name : Binds K fd_law_name ["_law_state"] []
  g_law_name : mg "_law_name" = some (.ref a_law_name)
  a_law_maker : Addr
  fd_law_maker : FuncData
  F_law_maker : Fun K "_law_maker" "_law_maker" s_law_maker a_law_maker fd_law_maker
  b_law_maker : Binds K fd_law_maker ["_law_state"] []
  g_law_maker : mg "_law_maker" = some (.ref a_law_maker)
  a_law_digits : Addr
  fd_law_digits : FuncData
  F_law_digits : Fun K "_law_digits" "_law_digits" s_law_digits a_law_digits fd_law_digits
  b_law_digits : Binds K fd_law_digits ["_law_state", "_law_count"] []
  g_law_digits : mg "_law_digits" = some (.ref a_law_digits)
  a_law_quoted : Addr
  fd_law_quoted : FuncData
  F_law_quoted : Fun K "_law_quoted" "_law_quoted" s_law_quoted a_law_quoted fd_law_quoted
  b_law_quoted : Binds K fd_law_quoted ["_law_text"] []
  g_law_quoted : mg "_law_quoted" = some (.ref a_law_quoted)
  a_law_char : Addr
  fd_law_char : FuncData
  F_law_char : Fun K "_law_char" "_law_char" s_law_char a_law_char fd_law_char
  b_law_char : Binds K fd_law_char ["_law_index"] []
  g_law_char : mg "_law_char" = some (.ref a_law_char)
  a_law_token : Addr
  fd_law_token : FuncData
  F_law_token : Fun K "_law_token" "_law_token" s_law_token a_law_token fd_law_token
  b_law_token : Binds K fd_law_token ["_law_state"] []
  g_law_token : mg "_law_token" = some (.ref a_law_token)
  a_run_end : Addr
  fd_run_end : FuncData
  F_run_end : Fun K "run_end" "run_end" s_run_end a_run_end fd_run_end
  b_run_end : Binds K fd_run_end ["chunk", "start", "allowed"] []
  g_run_end : mg "run_end" = some (.ref a_run_end)
  a_read_word : Addr
  fd_read_word : FuncData
  F_read_word : Fun K "read_word" "read_word" s_read_word a_read_word fd_read_word
  b_read_word : Binds K fd_read_word ["chunk", "start"] []
  g_read_word : mg "read_word" = some (.ref a_read_word)
  a_read_number : Addr
  fd_read_number : FuncData
  F_read_number : Fun K "read_number" "read_number" s_read_number a_read_number fd_read_number
  b_read_number : Binds K fd_read_number ["chunk", "start"] []
  g_read_number : mg "read_number" = some (.ref a_read_number)
  a_read_text : Addr
  fd_read_text : FuncData
  F_read_text : Fun K "read_text" "read_text" s_read_text a_read_text fd_read_text
  b_read_text : Binds K fd_read_text ["chunk", "start"] []
  g_read_text : mg "read_text" = some (.ref a_read_text)
  a_read_token : Addr
  fd_read_token : FuncData
  F_read_token : Fun K "read_token" "read_token" s_read_token a_read_token fd_read_token
  b_read_token : Binds K fd_read_token ["chunk", "start"] []
  g_read_token : mg "read_token" = some (.ref a_read_token)
  a_tokenize : Addr
  fd_tokenize : FuncData
  F_tokenize : Fun K "tokenize" "tokenize" s_tokenize a_tokenize fd_tokenize
  b_tokenize : Binds K fd_tokenize ["chunk"] []
  g_tokenize : mg "tokenize" = some (.ref a_tokenize)
  a_law_read : Addr
  fd_law_read : FuncData
  F_law_read : Fun K "_law_read" "_law_read" s_law_read a_law_read fd_law_read
  b_law_read : Binds K fd_law_read ["_law_text"] []
  g_law_read : mg "_law_read" = some (.ref a_law_read)
  a_law_joins : Addr
  fd_law_joins : FuncData
  F_law_joins : Fun K "_law_joins" "_law_joins" s_law_joins a_law_joins fd_law_joins
  b_law_joins : Binds K fd_law_joins ["_law_written", "_law_other"] []
  g_law_joins : mg "_law_joins" = some (.ref a_law_joins)
  a_law : Addr
  fd_law : FuncData
  F_law : Fun K "law" "law" s_law a_law fd_law
  b_law : Binds K fd_law ["_law_script"] []
  g_law : mg "law" = some (.ref a_law)
  z_ValueError : mg "ValueError" = none
  z_bool : mg "bool" = none
  z_int : mg "int" = none
  z_isinstance : mg "isinstance" = none
  z_len : mg "len" = none
  z_list : mg "list" = none
  z_range : mg "range" = none
  z_str : mg "str" = none
  z_tuple : mg "tuple" = none
  x_RefusedChunk : XI K mg prog "RefusedChunk" (cc 0) "position" ["self", "position"] PvI
  gk_QuillrunError : mg "QuillrunError" = some (.ref (cc 1))
  gx_RefusedChunk : mg "RefusedChunk" = some (.ref (cx_RefusedChunk))
  em_RefusedChunk : ∀ D ∈ [cc 0], PySem.W.exmOne K (.ref D) (.ref cx_RefusedChunk) = some true
  n_WORD : ∃ t, mg "WORD" = some (.str ⟨[97, 98, 99, 100, 101, 102, 103, 104, 105, 106, 107, 108, 109, 110, 111, 112, 113, 114, 115, 116, 117, 118, 119, 120, 121, 122, 65, 66, 67, 68, 69, 70, 71, 72, 73, 74, 75, 76, 77, 78, 79, 80, 81, 82, 83, 84, 85, 86, 87, 88, 89, 90, 48, 49, 50, 51, 52, 53, 54, 55, 56, 57, 95].toArray⟩ t)
  n_UPPER : ∃ t, mg "UPPER" = some (.str ⟨[65, 66, 67, 68, 69, 70, 71, 72, 73, 74, 75, 76, 77, 78, 79, 80, 81, 82, 83, 84, 85, 86, 87, 88, 89, 90].toArray⟩ t)
  n_KEYWORDS : ∃ a, mg "KEYWORDS" = some (.ref a) ∧ KT K a (([[100, 97, 116, 97], [102, 117, 110], [99, 101, 108, 108], [118, 105, 101, 119], [97, 99, 116], [116, 117, 114, 110], [116, 104, 101, 110], [116, 114, 117, 101], [102, 97, 108, 115, 101], [110, 111, 116], [97, 110, 100], [111, 114], [105, 102], [101, 108, 115, 101], [108, 101, 116], [105, 110], [99, 97, 115, 101], [111, 102], [101, 110, 100], [110, 117, 109], [116, 101, 120, 116], [98, 111, 111, 108], [108, 105, 115, 116], [109, 111, 100]].map fun s => (⟨s.toArray⟩ : Str)).map V.str)
  n_DIGITS : ∃ t, mg "DIGITS" = some (.str ⟨[48, 49, 50, 51, 52, 53, 54, 55, 56, 57].toArray⟩ t)
  n_MOST_DIGITS : ∃ t, mg "MOST_DIGITS" = some (.int 18 t)
  n_LOWER : ∃ t, mg "LOWER" = some (.str ⟨[97, 98, 99, 100, 101, 102, 103, 104, 105, 106, 107, 108, 109, 110, 111, 112, 113, 114, 115, 116, 117, 118, 119, 120, 121, 122].toArray⟩ t)
  n_LONG_SIGNS : ∃ a, mg "LONG_SIGNS" = some (.ref a) ∧ KT K a (([[43, 43], [58, 58], [45, 62], [58, 61]].map fun s => (⟨s.toArray⟩ : Str)).map V.str)
  n_SHORT_SIGNS : ∃ a, mg "SHORT_SIGNS" = some (.ref a) ∧ KT K a (([[40], [41], [91], [93], [44], [59], [124], [61], [60], [43], [45], [42], [47], [58]].map fun s => (⟨s.toArray⟩ : Str)).map V.str)
  ec_RefusedChunk : ∀ D ∈ [cc 0], ExcC K D
  xf_RefusedChunk : ∀ D ∈ [cc 0], XfC K D ∧ PySem.W.findIn K (.ref D) "position" = some none
  ki_RefusedChunk_QuillrunError : ∀ D ∈ [cc 0], PySem.W.kitOne K (.ref D) (.ref (cc 1)) = some true
  ki_RefusedChunk_ValueError : ∀ D ∈ [cc 0], PySem.W.kitOne K (.ref D) (.type "ValueError") = some true
section
variable {P : Program} {W : World} {K : Fr} {mg : Str → Option Value} {base : Heap}
theorem ok_law_next (T : Txt K mg) : FnOk T.prog W K mg base (L2.CX T.prog W) 1 T.a_law_next T.fd_law_next ["_law_state", "_law_limit"] (spM K 2 (m_law_next T.cc)) :=
  fn_ok (k := 0) T.F_law_next sc_law_next fun cdv A outer s H E hr tk hp => (ss_cons (ss_if (PW.pt (bw_and (bt_eq hr (se_ix (se_var (i := 0)) se_int) se_int) (bw_and1 (bt_lt (se_ix (se_var (i := 0)) se_int) (se_len (by rfl) T.z_len (sa_cons (se_ix (se_var (i := 0)) se_int) sa_nil)))))) (ss_cons (ss_set (i := 2) sc_law_next.nd rfl (by first | exact Or.inl rfl | exact Or.inr rfl) (se_ix (se_ix (se_var (i := 0)) se_int) (se_ix (se_var (i := 0)) se_int)))
    (ss_cons (ss_augIL opr_iadd ok_iadd (se_var (i := 0)) se_int se_int)
    (ss_one (ss_if (bt_ge (se_var (i := 2)) (se_pow se_int se_int)) (ss_one (ss_setIL (se_var (i := 2)) (se_var (i := 0)) se_int)) (ss_one (ss_setIL (se_mod (se_int' (by rfl) T.z_int (sa_cons (se_add (se_add (se_mul (se_ix (se_var (i := 0)) se_int) se_int) (se_mod (se_int' (by rfl) T.z_int (sa_cons (se_var (i := 2)) sa_nil)) se_int)) se_int) sa_nil)) se_int) (se_var (i := 0)) se_int)))))) ss_nil)
    (ss_cons (ss_if (bt_gt (se_ix (se_var (i := 0)) se_int) se_int) (ss_cons (ss_set (i := 3) sc_law_next.nd rfl (by first | exact Or.inl rfl | exact Or.inr rfl) (se_mod (se_int' (by rfl) T.z_int (sa_cons (se_ix (se_var (i := 0)) se_int) sa_nil)) (se_var (i := 1))))
    (ss_cons (ss_setIL (se_div (se_ix (se_var (i := 0)) se_int) (se_var (i := 1))) (se_var (i := 0)) se_int)
    (ss_one (ss_ret (se_var (i := 3)))))) ss_nil)
    (ss_cons (ss_setIL (se_mod (se_int' (by rfl) T.z_int (sa_cons (se_add (se_mul (se_ix (se_var (i := 0)) se_int) se_int) se_int) sa_nil)) se_int) (se_var (i := 0)) se_int)
    (ss_one (ss_ret (se_mod (se_int' (by rfl) T.z_int (sa_cons (se_div (se_ix (se_var (i := 0)) se_int) se_int) sa_nil)) (se_var (i := 1))))))))
theorem ok_law_gap (T : Txt K mg) : FnOk T.prog W K mg base (L2.CX T.prog W) 2 T.a_law_gap T.fd_law_gap ["_law_state", "_law_needed"] (spM K 2 (m_law_gap T.cc)) :=
  fn_ok (k := 1) T.F_law_gap sc_law_gap fun cdv A outer s H E hr tk hp => (ss_cons (ss_set (i := 2) sc_law_gap.nd rfl (by first | exact Or.inl rfl | exact Or.inr rfl) (se_str (by decide +kernel)))
    (ss_cons (ss_for hp rfl (si_r1 (by rfl) T.z_range (sa_cons (se_call tk (ok_law_next T) (hr.mono (by omega)) (by rfl) T.g_law_next T.F_law_next.kp T.b_law_next (sa_cons (se_var (i := 0)) (sa_cons se_int sa_nil))) sa_nil)) (pg_one (i := 3) sc_law_gap.nd rfl (by first | exact Or.inl rfl | exact Or.inr rfl)) (ss_one (ss_set (i := 2) sc_law_gap.nd rfl (by first | exact Or.inl rfl | exact Or.inr rfl) (se_add (se_var (i := 2)) (se_ix (se_str (by decide +kernel)) (se_call tk (ok_law_next T) (hr.mono (by omega)) (by rfl) T.g_law_next T.F_law_next.kp T.b_law_next (sa_cons (se_var (i := 0)) (sa_cons se_int sa_nil))))))))
    (ss_cons (ss_if (PW.pt (bw_and (bt_tru (se_var (i := 1))) (bw_and1 (bt_eq hr (se_var (i := 2)) (se_str (by decide +kernel)))))) (ss_one (ss_ret (se_str (by decide +kernel)))) ss_nil)
    (ss_one (ss_ret (se_var (i := 2)))))))
theorem okg_law_same (T : Txt K mg) : ∀ n : Nat, FnOk T.prog W K mg base (L2.CX T.prog W) (0 + n) T.a_law_same T.fd_law_same ["_law_actual", "_law_expected"] (spM K 2 (m_law_same T.cc n))
  | 0 => (by unfold m_law_same; exact fn_bad rfl)
  | n + 1 => by
    obtain ih_law_same := okg_law_same T n
    exact (by
      unfold m_law_same
      exact fn_ok (k := 0 + n) T.F_law_same sc_law_same fun cdv A outer s H E hr tk hp => (ss_cons (ss_if (bt_is (se_var (i := 1)) se_non) (ss_one (ss_ret (se_is (se_var (i := 0)) se_non))) ss_nil)
    (ss_cons (ss_if (bt_isi (T := .bool) (by rfl) T.z_isinstance (se_var (i := 1)) (by rfl) T.z_bool) (ss_one (ss_ret (se_and (se_isi (T := .bool) (by rfl) T.z_isinstance (se_var (i := 0)) (by rfl) T.z_bool) (se_one (se_eq hr (se_var (i := 0)) (se_var (i := 1))))))) ss_nil)
    (ss_cons (ss_if (bt_isi (T := .int) (by rfl) T.z_isinstance (se_var (i := 1)) (by rfl) T.z_int) (ss_one (ss_ret (se_and (se_isi (T := .int) (by rfl) T.z_isinstance (se_var (i := 0)) (by rfl) T.z_int) (se_and (se_not (se_isi (T := .bool) (by rfl) T.z_isinstance (se_var (i := 0)) (by rfl) T.z_bool)) (se_one (se_eq hr (se_var (i := 0)) (se_var (i := 1)))))))) ss_nil)
    (ss_cons (ss_if (bt_isi (T := .str) (by rfl) T.z_isinstance (se_var (i := 1)) (by rfl) T.z_str) (ss_one (ss_ret (se_and (se_isi (T := .str) (by rfl) T.z_isinstance (se_var (i := 0)) (by rfl) T.z_str) (se_one (se_eq hr (se_var (i := 0)) (se_var (i := 1))))))) ss_nil)
    (ss_cons (ss_if (PW.pt (bw_and (bt_isi (T := .tuple) (by rfl) T.z_isinstance (se_var (i := 1)) (by rfl) T.z_tuple) (bw_and1 (bt_not (bt_isi (T := .tuple) (by rfl) T.z_isinstance (se_var (i := 0)) (by rfl) T.z_tuple))))) (ss_one (ss_ret se_bl)) ss_nil)
    (ss_cons (ss_if (PW.pt (bw_and (bt_isi (T := .list) (by rfl) T.z_isinstance (se_var (i := 1)) (by rfl) T.z_list) (bw_and1 (bt_not (bt_isi (T := .list) (by rfl) T.z_isinstance (se_var (i := 0)) (by rfl) T.z_list))))) (ss_one (ss_ret se_bl)) ss_nil)
    (ss_cons (ss_if (bt_ne hr (se_len (by rfl) T.z_len (sa_cons (se_var (i := 0)) sa_nil)) (se_len (by rfl) T.z_len (sa_cons (se_var (i := 1)) sa_nil))) (ss_one (ss_ret se_bl)) ss_nil)
    (ss_cons (ss_for hp rfl (si_r1 (by rfl) T.z_range (sa_cons (se_len (by rfl) T.z_len (sa_cons (se_var (i := 1)) sa_nil)) sa_nil)) (pg_one (i := 2) sc_law_same.nd rfl (by first | exact Or.inl rfl | exact Or.inr rfl)) (ss_one (ss_if (bt_not (bt_tru (se_call tk ih_law_same hr (by rfl) T.g_law_same T.F_law_same.kp T.b_law_same (sa_cons (se_ix (se_var (i := 0)) (se_var (i := 2))) (sa_cons (se_ix (se_var (i := 1)) (se_var (i := 2))) sa_nil))))) (ss_one (ss_ret se_bl)) ss_nil)))
    (ss_one (ss_ret se_bl)))))))))))
theorem ok_law_same (T : Txt K mg) (n : Nat) : FnOk T.prog W K mg base (L2.CX T.prog W) (0 + n) T.a_law_same T.fd_law_same ["_law_actual", "_law_expected"] (spM K 2 (m_law_same T.cc n)) := (okg_law_same T n)
theorem ok_law_keywords (T : Txt K mg) : FnOk T.prog W K mg base (L2.CX T.prog W) 1 T.a_law_keywords T.fd_law_keywords [] (spM K 0 (m_law_keywords T.cc)) :=
  fn_ok (k := 0) T.F_law_keywords sc_law_keywords fun cdv A outer s H E hr tk hp => (ss_cons (ss_set (i := 0) sc_law_keywords.nd rfl (by first | exact Or.inl rfl | exact Or.inr rfl) (se_str (by decide +kernel)))
    (ss_one (ss_ret (se_split (se_var (i := 0)) (se_str (by decide +kernel))))))
theorem ok_law_word (T : Txt K mg) : FnOk T.prog W K mg base (L2.CX T.prog W) 2 T.a_law_word T.fd_law_word ["_law_state", "_law_first"] (spM K 2 (m_law_word T.cc)) :=
  fn_ok (k := 1) T.F_law_word sc_law_word fun cdv A outer s H E hr tk hp => (ss_cons (ss_set (i := 2) sc_law_word.nd rfl (by first | exact Or.inl rfl | exact Or.inr rfl) (se_str (by decide +kernel)))
    (ss_cons (ss_set (i := 3) sc_law_word.nd rfl (by first | exact Or.inl rfl | exact Or.inr rfl) (se_ix (se_var (i := 1)) (se_call tk (ok_law_next T) (hr.mono (by omega)) (by rfl) T.g_law_next T.F_law_next.kp T.b_law_next (sa_cons (se_var (i := 0)) (sa_cons se_int sa_nil)))))
    (ss_cons (ss_for hp rfl (si_r1 (by rfl) T.z_range (sa_cons (se_call tk (ok_law_next T) (hr.mono (by omega)) (by rfl) T.g_law_next T.F_law_next.kp T.b_law_next (sa_cons (se_var (i := 0)) (sa_cons se_int sa_nil))) sa_nil)) (pg_one (i := 4) sc_law_word.nd rfl (by first | exact Or.inl rfl | exact Or.inr rfl)) (ss_one (ss_set (i := 3) sc_law_word.nd rfl (by first | exact Or.inl rfl | exact Or.inr rfl) (se_add (se_var (i := 3)) (se_ix (se_var (i := 2)) (se_call tk (ok_law_next T) (hr.mono (by omega)) (by rfl) T.g_law_next T.F_law_next.kp T.b_law_next (sa_cons (se_var (i := 0)) (sa_cons se_int sa_nil))))))))
    (ss_cons (ss_if (bt_in (se_var (i := 3)) (se_call0 tk (ok_law_keywords T) (hr.mono (by omega)) (by rfl) T.g_law_keywords T.F_law_keywords.kp T.b_law_keywords) hr) (ss_one (ss_set (i := 3) sc_law_word.nd rfl (by first | exact Or.inl rfl | exact Or.inr rfl) (se_add (se_var (i := 3)) (se_str (by decide +kernel))))) ss_nil)
    (ss_one (ss_ret (se_var (i := 3))))))))
theorem ok_law_name (T : Txt K mg) : FnOk T.prog W K mg base (L2.CX T.prog W) 3 T.a_law_name T.fd_law_name ["_law_state"] (spM K 1 (m_law_name T.cc)) :=
  fn_ok (k := 2) T.F_law_name sc_law_name fun cdv A outer s H E hr tk hp => (ss_one (ss_ret (se_call tk (ok_law_word T) (hr.mono (by omega)) (by rfl) T.g_law_word T.F_law_word.kp T.b_law_word (sa_cons (se_var (i := 0)) (sa_cons (se_str (by decide +kernel)) sa_nil)))))
theorem ok_law_maker (T : Txt K mg) : FnOk T.prog W K mg base (L2.CX T.prog W) 3 T.a_law_maker T.fd_law_maker ["_law_state"] (spM K 1 (m_law_maker T.cc)) :=
  fn_ok (k := 2) T.F_law_maker sc_law_maker fun cdv A outer s H E hr tk hp => (ss_one (ss_ret (se_call tk (ok_law_word T) (hr.mono (by omega)) (by rfl) T.g_law_word T.F_law_word.kp T.b_law_word (sa_cons (se_var (i := 0)) (sa_cons (se_str (by decide +kernel)) sa_nil)))))
theorem ok_law_digits (T : Txt K mg) : FnOk T.prog W K mg base (L2.CX T.prog W) 2 T.a_law_digits T.fd_law_digits ["_law_state", "_law_count"] (spM K 2 (m_law_digits T.cc)) :=
  fn_ok (k := 1) T.F_law_digits sc_law_digits fun cdv A outer s H E hr tk hp => (ss_one (ss_ret (se_join (se_str (by decide +kernel)) (se_lc rfl sc_law_digits.nd (si_r1 (by rfl) T.z_range (sa_cons (se_var (i := 1)) sa_nil)) (blkOk_by (own := [("_law_k", 2)]) (N := n_law_digits) (sc := defScope s_law_digits) (by decide +kernel)) rfl (by decide) (fun _ _ _ _ _ => (pg_one (i := 2) sc_law_digits.nd rfl (by first | exact Or.inl rfl | exact Or.inr rfl))) (fun _ _ _ _ _ => pts_y) (fun _ _ _ _ _ => (se_str' (by rfl) T.z_str (sa_cons (se_call takes0 (ok_law_next T) (hr.mono (by omega)) (by rfl) T.g_law_next T.F_law_next.kp T.b_law_next (sa_cons (se_var (i := 0)) (sa_cons se_int sa_nil))) sa_nil)))))))
theorem ok_law_quoted (T : Txt K mg) : FnOk T.prog W K mg base (L2.CX T.prog W) 1 T.a_law_quoted T.fd_law_quoted ["_law_text"] (spM K 1 (m_law_quoted T.cc)) :=
  fn_ok (k := 0) T.F_law_quoted sc_law_quoted fun cdv A outer s H E hr tk hp => (ss_one (ss_ret (se_add (se_repA (d := [39]) (c := 39) (z := [39, 39]) (se_var (i := 0))) (se_str (by decide +kernel)))))
theorem ok_law_char (T : Txt K mg) : FnOk T.prog W K mg base (L2.CX T.prog W) 1 T.a_law_char T.fd_law_char ["_law_index"] (spM K 1 (m_law_char T.cc)) :=
  fn_ok (k := 0) T.F_law_char sc_law_char fun cdv A outer s H E hr tk hp => (ss_cons (ss_set (i := 1) sc_law_char.nd rfl (by first | exact Or.inl rfl | exact Or.inr rfl) (se_str (by decide +kernel)))
    (ss_cons (ss_set (i := 1) sc_law_char.nd rfl (by first | exact Or.inl rfl | exact Or.inr rfl) (se_add (se_var (i := 1)) (se_str (by decide +kernel))))
    (ss_one (ss_ret (se_ix (se_var (i := 1)) (se_mod (se_int' (by rfl) T.z_int (sa_cons (se_var (i := 0)) sa_nil)) se_int))))))
theorem ok_law_token (T : Txt K mg) : FnOk T.prog W K mg base (L2.CX T.prog W) 4 T.a_law_token T.fd_law_token ["_law_state"] (spM K 1 (m_law_token T.cc)) :=
  fn_ok (k := 3) T.F_law_token sc_law_token fun cdv A outer s H E hr tk hp => (ss_cons (ss_set (i := 1) sc_law_token.nd rfl (by first | exact Or.inl rfl | exact Or.inr rfl) (se_call tk (ok_law_next T) (hr.mono (by omega)) (by rfl) T.g_law_next T.F_law_next.kp T.b_law_next (sa_cons (se_var (i := 0)) (sa_cons se_int sa_nil))))
    (ss_cons (ss_if (bt_lt (se_var (i := 1)) se_int) (ss_cons (ss_set (i := 2) sc_law_token.nd rfl (by first | exact Or.inl rfl | exact Or.inr rfl) (se_ix (se_call0 tk (ok_law_keywords T) (hr.mono (by omega)) (by rfl) T.g_law_keywords T.F_law_keywords.kp T.b_law_keywords) (se_call tk (ok_law_next T) (hr.mono (by omega)) (by rfl) T.g_law_next T.F_law_next.kp T.b_law_next (sa_cons (se_var (i := 0)) (sa_cons se_int sa_nil)))))
    (ss_one (ss_ret (se_tup (sa_cons (se_str (by decide +kernel)) (sa_cons (se_var (i := 2)) (sa_cons (se_var (i := 2)) sa_nil))))))) ss_nil)
    (ss_cons (ss_if (bt_lt (se_var (i := 1)) se_int) (ss_cons (ss_set (i := 3) sc_law_token.nd rfl (by first | exact Or.inl rfl | exact Or.inr rfl) (se_call tk (ok_law_name T) (hr.mono (by omega)) (by rfl) T.g_law_name T.F_law_name.kp T.b_law_name (sa_cons (se_var (i := 0)) sa_nil)))
    (ss_one (ss_ret (se_tup (sa_cons (se_str (by decide +kernel)) (sa_cons (se_var (i := 3)) (sa_cons (se_var (i := 3)) sa_nil))))))) ss_nil)
    (ss_cons (ss_if (bt_lt (se_var (i := 1)) se_int) (ss_cons (ss_set (i := 4) sc_law_token.nd rfl (by first | exact Or.inl rfl | exact Or.inr rfl) (se_call tk (ok_law_maker T) (hr.mono (by omega)) (by rfl) T.g_law_maker T.F_law_maker.kp T.b_law_maker (sa_cons (se_var (i := 0)) sa_nil)))
    (ss_one (ss_ret (se_tup (sa_cons (se_str (by decide +kernel)) (sa_cons (se_var (i := 4)) (sa_cons (se_var (i := 4)) sa_nil))))))) ss_nil)
    (ss_cons (ss_if (bt_lt (se_var (i := 1)) se_int) (ss_cons (ss_set (i := 5) sc_law_token.nd rfl (by first | exact Or.inl rfl | exact Or.inr rfl) (se_call tk (ok_law_digits T) (hr.mono (by omega)) (by rfl) T.g_law_digits T.F_law_digits.kp T.b_law_digits (sa_cons (se_var (i := 0)) (sa_cons (se_add se_int (se_call tk (ok_law_next T) (hr.mono (by omega)) (by rfl) T.g_law_next T.F_law_next.kp T.b_law_next (sa_cons (se_var (i := 0)) (sa_cons se_int sa_nil)))) sa_nil))))
    (ss_one (ss_ret (se_tup (sa_cons (se_str (by decide +kernel)) (sa_cons (se_intS (by rfl) T.z_int (sa_cons (se_var (i := 5)) sa_nil)) (sa_cons (se_var (i := 5)) sa_nil))))))) ss_nil)
    (ss_cons (ss_if (bt_lt (se_var (i := 1)) se_int) (ss_cons (ss_set (i := 6) sc_law_token.nd rfl (by first | exact Or.inl rfl | exact Or.inr rfl) (se_join (se_str (by decide +kernel)) (se_lc rfl sc_law_token.nd (si_r1 (by rfl) T.z_range (sa_cons (se_call tk (ok_law_next T) (hr.mono (by omega)) (by rfl) T.g_law_next T.F_law_next.kp T.b_law_next (sa_cons (se_var (i := 0)) (sa_cons se_int sa_nil))) sa_nil)) (blkOk_by (own := [("_law_k", 7)]) (N := n_law_token) (sc := defScope s_law_token) (by decide +kernel)) rfl (by decide) (fun _ _ _ _ _ => (pg_one (i := 7) sc_law_token.nd rfl (by first | exact Or.inl rfl | exact Or.inr rfl))) (fun _ _ _ _ _ => pts_y) (fun _ _ _ _ _ => (se_call takes0 (ok_law_char T) (hr.mono (by omega)) (by rfl) T.g_law_char T.F_law_char.kp T.b_law_char (sa_cons (se_call takes0 (ok_law_next T) (hr.mono (by omega)) (by rfl) T.g_law_next T.F_law_next.kp T.b_law_next (sa_cons (se_var (i := 0)) (sa_cons se_int sa_nil))) sa_nil))))))
    (ss_cons (ss_if (bt_eq hr (se_call tk (ok_law_next T) (hr.mono (by omega)) (by rfl) T.g_law_next T.F_law_next.kp T.b_law_next (sa_cons (se_var (i := 0)) (sa_cons se_int sa_nil))) se_int) (ss_one (ss_set (i := 6) sc_law_token.nd rfl (by first | exact Or.inl rfl | exact Or.inr rfl) (se_add (se_var (i := 6)) (se_mulS (se_str (by decide +kernel)) se_int)))) ss_nil)
    (ss_one (ss_ret (se_tup (sa_cons (se_str (by decide +kernel)) (sa_cons (se_var (i := 6)) (sa_cons (se_call tk (ok_law_quoted T) (hr.mono (by omega)) (by rfl) T.g_law_quoted T.F_law_quoted.kp T.b_law_quoted (sa_cons (se_var (i := 6)) sa_nil)) sa_nil)))))))) ss_nil)
    (ss_cons (ss_set (i := 8) sc_law_token.nd rfl (by first | exact Or.inl rfl | exact Or.inr rfl) (se_lst (sa_cons (se_str (by decide +kernel)) (sa_cons (se_str (by decide +kernel)) (sa_cons (se_str (by decide +kernel)) (sa_cons (se_str (by decide +kernel)) (sa_cons (se_str (by decide +kernel)) (sa_cons (se_str (by decide +kernel)) (sa_cons (se_str (by decide +kernel)) (sa_cons (se_str (by decide +kernel)) (sa_cons (se_str (by decide +kernel)) (sa_cons (se_str (by decide +kernel)) (sa_cons (se_str (by decide +kernel)) (sa_cons (se_str (by decide +kernel)) (sa_cons (se_str (by decide +kernel)) (sa_cons (se_str (by decide +kernel)) (sa_cons (se_str (by decide +kernel)) (sa_cons (se_str (by decide +kernel)) (sa_cons (se_str (by decide +kernel)) (sa_cons (se_str (by decide +kernel)) sa_nil))))))))))))))))))))
    (ss_cons (ss_set (i := 9) sc_law_token.nd rfl (by first | exact Or.inl rfl | exact Or.inr rfl) (se_ix (se_var (i := 8)) (se_call tk (ok_law_next T) (hr.mono (by omega)) (by rfl) T.g_law_next T.F_law_next.kp T.b_law_next (sa_cons (se_var (i := 0)) (sa_cons se_int sa_nil)))))
    (ss_one (ss_ret (se_tup (sa_cons (se_str (by decide +kernel)) (sa_cons (se_var (i := 9)) (sa_cons (se_var (i := 9)) sa_nil))))))))))))))
theorem ok_run_end (T : Txt K mg) : FnOk T.prog W K mg base (L2.CX T.prog W) 1 T.a_run_end T.fd_run_end ["chunk", "start", "allowed"] (spM K 3 (m_run_end T.cc)) :=
  fn_ok (k := 0) T.F_run_end sc_run_end fun cdv A outer s H E hr tk hp => (ss_cons (ss_set (i := 3) sc_run_end.nd rfl (by first | exact Or.inl rfl | exact Or.inr rfl) (se_var (i := 1)))
    (ss_cons (ss_while hp (PW.pt (bw_and (bt_lt (se_var (i := 3)) (se_len (by rfl) T.z_len (sa_cons (se_var (i := 0)) sa_nil))) (bw_and1 (bt_inS (se_ix (se_var (i := 0)) (se_var (i := 3))) (se_var (i := 2)))))) (ss_one (ss_aug (i := 3) opr_iadd ok_iadd sc_run_end.nd rfl (by first | exact Or.inl rfl | exact Or.inr rfl) se_int)))
    (ss_one (ss_ret (se_var (i := 3))))))
theorem ok_read_word (T : Txt K mg) : FnOk T.prog W K mg base (L2.CX T.prog W) 2 T.a_read_word T.fd_read_word ["chunk", "start"] (spM K 2 (m_read_word T.cc)) :=
  fn_ok (k := 1) T.F_read_word sc_read_word fun cdv A outer s H E hr tk hp => (ss_cons (ss_set (i := 2) sc_read_word.nd rfl (by first | exact Or.inl rfl | exact Or.inr rfl) (se_call tk (ok_run_end T) (hr.mono (by omega)) (by rfl) T.g_run_end T.F_run_end.kp T.b_run_end (sa_cons (se_var (i := 0)) (sa_cons (se_var (i := 1)) (sa_cons (se_gstr (by rfl) T.n_WORD) sa_nil)))))
    (ss_cons (ss_set (i := 3) sc_read_word.nd rfl (by first | exact Or.inl rfl | exact Or.inr rfl) (se_sl (se_var (i := 0)) (so_some (se_var (i := 1))) (so_some (se_var (i := 2)))))
    (ss_cons (ss_if (bt_inS (se_ix (se_var (i := 0)) (se_var (i := 1))) (se_gstr (by rfl) T.n_UPPER)) (ss_one (ss_ret (se_tup (sa_cons (se_str (by decide +kernel)) (sa_cons (se_var (i := 3)) (sa_cons (se_var (i := 2)) sa_nil)))))) ss_nil)
    (ss_cons (ss_if (bt_in (se_var (i := 3)) (se_gstup (by rfl) T.n_KEYWORDS) hr) (ss_one (ss_ret (se_tup (sa_cons (se_str (by decide +kernel)) (sa_cons (se_var (i := 3)) (sa_cons (se_var (i := 2)) sa_nil)))))) ss_nil)
    (ss_one (ss_ret (se_tup (sa_cons (se_str (by decide +kernel)) (sa_cons (se_var (i := 3)) (sa_cons (se_var (i := 2)) sa_nil))))))))))
theorem ok_read_number (T : Txt K mg) : FnOk T.prog W K mg base (L2.CX T.prog W) 3 T.a_read_number T.fd_read_number ["chunk", "start"] (spM K 2 (m_read_number T.cc)) :=
  fn_ok (k := 2) T.F_read_number sc_read_number fun cdv A outer s H E hr tk hp => (ss_cons (ss_set (i := 2) sc_read_number.nd rfl (by first | exact Or.inl rfl | exact Or.inr rfl) (se_call tk (ok_run_end T) (hr.mono (by omega)) (by rfl) T.g_run_end T.F_run_end.kp T.b_run_end (sa_cons (se_var (i := 0)) (sa_cons (se_var (i := 1)) (sa_cons (se_gstr (by rfl) T.n_DIGITS) sa_nil)))))
    (ss_cons (ss_if (bt_gt (se_sub (se_var (i := 2)) (se_var (i := 1))) (se_gint (by rfl) T.n_MOST_DIGITS)) (ss_one (ss_raiseF rfl tk T.x_RefusedChunk (hr.mono (by omega)) (by rfl) int_VU (sa_cons (se_var (i := 1)) sa_nil))) ss_nil)
    (ss_one (ss_ret (se_tup (sa_cons (se_str (by decide +kernel)) (sa_cons (se_intS (by rfl) T.z_int (sa_cons (se_sl (se_var (i := 0)) (so_some (se_var (i := 1))) (so_some (se_var (i := 2)))) sa_nil)) (sa_cons (se_var (i := 2)) sa_nil))))))))
theorem ok_read_text (T : Txt K mg) : FnOk T.prog W K mg base (L2.CX T.prog W) 3 T.a_read_text T.fd_read_text ["chunk", "start"] (spM K 2 (m_read_text T.cc)) :=
  fn_ok (k := 2) T.F_read_text sc_read_text fun cdv A outer s H E hr tk hp => (ss_cons (ss_set (i := 2) sc_read_text.nd rfl (by first | exact Or.inl rfl | exact Or.inr rfl) (se_lst sa_nil))
    (ss_cons (ss_set (i := 3) sc_read_text.nd rfl (by first | exact Or.inl rfl | exact Or.inr rfl) (se_add (se_var (i := 1)) se_int))
    (ss_cons (ss_set (i := 4) sc_read_text.nd rfl (by first | exact Or.inl rfl | exact Or.inr rfl) (se_find (se_var (i := 0)) (sa_cons (se_str (by decide +kernel)) (sa_cons (se_var (i := 3)) sa_nil))))
    (ss_cons (ss_while hp (PW.pt (bw_and (bt_ge (se_var (i := 4)) se_int) (bw_and1 (bt_eq hr (se_sl (se_var (i := 0)) (so_some (se_add (se_var (i := 4)) se_int)) (so_some (se_add (se_var (i := 4)) se_int))) (se_str (by decide +kernel)))))) (ss_cons (ss_expr (se_app (se_var (i := 2)) (sa_cons (se_sl (se_var (i := 0)) (so_some (se_var (i := 3))) (so_some (se_add (se_var (i := 4)) se_int))) sa_nil)))
    (ss_cons (ss_set (i := 3) sc_read_text.nd rfl (by first | exact Or.inl rfl | exact Or.inr rfl) (se_add (se_var (i := 4)) se_int))
    (ss_one (ss_set (i := 4) sc_read_text.nd rfl (by first | exact Or.inl rfl | exact Or.inr rfl) (se_find (se_var (i := 0)) (sa_cons (se_str (by decide +kernel)) (sa_cons (se_var (i := 3)) sa_nil))))))))
    (ss_cons (ss_if (bt_lt (se_var (i := 4)) se_int) (ss_one (ss_raiseF rfl tk T.x_RefusedChunk (hr.mono (by omega)) (by rfl) int_VU (sa_cons (se_var (i := 1)) sa_nil))) ss_nil)
    (ss_cons (ss_expr (se_app (se_var (i := 2)) (sa_cons (se_sl (se_var (i := 0)) (so_some (se_var (i := 3))) (so_some (se_var (i := 4)))) sa_nil)))
    (ss_one (ss_ret (se_tup (sa_cons (se_str (by decide +kernel)) (sa_cons (se_join (se_str (by decide +kernel)) (se_var (i := 2))) (sa_cons (se_add (se_var (i := 4)) se_int) sa_nil))))))))))))
theorem ok_read_token (T : Txt K mg) : FnOk T.prog W K mg base (L2.CX T.prog W) 4 T.a_read_token T.fd_read_token ["chunk", "start"] (spM K 2 (m_read_token T.cc)) :=
  fn_ok (k := 3) T.F_read_token sc_read_token fun cdv A outer s H E hr tk hp => (ss_cons (ss_set (i := 2) sc_read_token.nd rfl (by first | exact Or.inl rfl | exact Or.inr rfl) (se_ix (se_var (i := 0)) (se_var (i := 1))))
    (ss_cons (ss_if (PW.pt (bw_or (bt_inS (se_var (i := 2)) (se_gstr (by rfl) T.n_LOWER)) (bw_or1 (bt_inS (se_var (i := 2)) (se_gstr (by rfl) T.n_UPPER))))) (ss_one (ss_ret (se_call tk (ok_read_word T) (hr.mono (by omega)) (by rfl) T.g_read_word T.F_read_word.kp T.b_read_word (sa_cons (se_var (i := 0)) (sa_cons (se_var (i := 1)) sa_nil))))) ss_nil)
    (ss_cons (ss_if (bt_inS (se_var (i := 2)) (se_gstr (by rfl) T.n_DIGITS)) (ss_one (ss_ret (se_call tk (ok_read_number T) (hr.mono (by omega)) (by rfl) T.g_read_number T.F_read_number.kp T.b_read_number (sa_cons (se_var (i := 0)) (sa_cons (se_var (i := 1)) sa_nil))))) ss_nil)
    (ss_cons (ss_if (bt_eq hr (se_var (i := 2)) (se_str (by decide +kernel))) (ss_one (ss_ret (se_call tk (ok_read_text T) (hr.mono (by omega)) (by rfl) T.g_read_text T.F_read_text.kp T.b_read_text (sa_cons (se_var (i := 0)) (sa_cons (se_var (i := 1)) sa_nil))))) ss_nil)
    (ss_cons (ss_if (bt_in (se_sl (se_var (i := 0)) (so_some (se_var (i := 1))) (so_some (se_add (se_var (i := 1)) se_int))) (se_gstup (by rfl) T.n_LONG_SIGNS) hr) (ss_one (ss_ret (se_tup (sa_cons (se_str (by decide +kernel)) (sa_cons (se_sl (se_var (i := 0)) (so_some (se_var (i := 1))) (so_some (se_add (se_var (i := 1)) se_int))) (sa_cons (se_add (se_var (i := 1)) se_int) sa_nil)))))) ss_nil)
    (ss_cons (ss_if (bt_in (se_var (i := 2)) (se_gstup (by rfl) T.n_SHORT_SIGNS) hr) (ss_one (ss_ret (se_tup (sa_cons (se_str (by decide +kernel)) (sa_cons (se_var (i := 2)) (sa_cons (se_add (se_var (i := 1)) se_int) sa_nil)))))) ss_nil)
    (ss_one (ss_raiseF rfl tk T.x_RefusedChunk (hr.mono (by omega)) (by rfl) int_VU (sa_cons (se_var (i := 1)) sa_nil)))))))))
theorem ok_tokenize (T : Txt K mg) : FnOk T.prog W K mg base (L2.CX T.prog W) 5 T.a_tokenize T.fd_tokenize ["chunk"] (spM K 1 (m_tokenize T.cc)) :=
  fn_ok (k := 4) T.F_tokenize sc_tokenize fun cdv A outer s H E hr tk hp => (ss_cons (ss_set (i := 1) sc_tokenize.nd rfl (by first | exact Or.inl rfl | exact Or.inr rfl) (se_lst sa_nil))
    (ss_cons (ss_set (i := 2) sc_tokenize.nd rfl (by first | exact Or.inl rfl | exact Or.inr rfl) se_int)
    (ss_cons (ss_while hp (bt_lt (se_var (i := 2)) (se_len (by rfl) T.z_len (sa_cons (se_var (i := 0)) sa_nil))) (ss_one (ss_if (bt_in (se_ix (se_var (i := 0)) (se_var (i := 2))) (se_tup (sa_cons (se_str (by decide +kernel)) (sa_cons (se_str (by decide +kernel)) sa_nil))) hr) (ss_one (ss_aug (i := 2) opr_iadd ok_iadd sc_tokenize.nd rfl (by first | exact Or.inl rfl | exact Or.inr rfl) se_int)) (ss_cons (ss_setT (is := [3, 4, 5]) rfl (se_call tk (ok_read_token T) (hr.mono (by omega)) (by rfl) T.g_read_token T.F_read_token.kp T.b_read_token (sa_cons (se_var (i := 0)) (sa_cons (se_var (i := 2)) sa_nil))) (pgs_c (i := 3) sc_tokenize.nd rfl (by first | exact Or.inl rfl | exact Or.inr rfl) (pgs_c (i := 4) sc_tokenize.nd rfl (by first | exact Or.inl rfl | exact Or.inr rfl) (pgs_c (i := 5) sc_tokenize.nd rfl (by first | exact Or.inl rfl | exact Or.inr rfl) pgs_n))))
    (ss_cons (ss_expr (se_app (se_var (i := 1)) (sa_cons (se_tup (sa_cons (se_var (i := 3)) (sa_cons (se_var (i := 4)) (sa_cons (se_var (i := 2)) sa_nil)))) sa_nil)))
    (ss_one (ss_set (i := 2) sc_tokenize.nd rfl (by first | exact Or.inl rfl | exact Or.inr rfl) (se_var (i := 5)))))))))
    (ss_one (ss_ret (se_var (i := 1)))))))
theorem ok_law_read (T : Txt K mg) : FnOk T.prog W K mg base (L2.CX T.prog W) 6 T.a_law_read T.fd_law_read ["_law_text"] (spM K 1 (m_law_read T.cc)) :=
  fn_ok (k := 5) T.F_law_read sc_law_read fun cdv A outer s H E hr tk hp => (ss_one (ss_tryAsF (W0 := fun _ _ _ _ => False) (i := 1) (ys := [(T.cc 0)]) (f := "position") (mx := fun a d => (mRet (mTup (aCons (mC (.str [114, 101, 102, 117, 115, 101, 100])) (aCons (mXfE 1 a d "position") (aCons (mAnd (mIsF 1 a d true) (mIsF 1 a d true)) aNil)))))) rfl rfl sc_law_read.nd rfl rfl (by rfl) T.gx_RefusedChunk tk T.em_RefusedChunk (fun _ _ _ tk hp => (ss_one (ss_ret (se_tup (sa_cons (se_str (by decide +kernel)) (sa_cons (se_call tk (ok_tokenize T) (hr.mono (by omega)) (by rfl) T.g_tokenize T.F_tokenize.kp T.b_tokenize (sa_cons (se_var (i := 0)) sa_nil)) sa_nil)))))) (fun a oe D d pn hD hz hfl => (ss_one (ss_ret (se_tup (sa_cons (se_str (by decide +kernel)) (sa_cons (se_xf (i := 1) (T.xf_RefusedChunk D hD).1 (T.xf_RefusedChunk D hD).2 hz hfl) (sa_cons (se_and (se_isF (i := 1) (b := true) (T.ec_RefusedChunk D hD) hz hfl (by rfl) T.z_isinstance (pe_glob (v := .ref _) (by rfl) T.gk_QuillrunError rfl) (fun _ r => r) (T.ki_RefusedChunk_QuillrunError D hD)) (se_one (se_isF (i := 1) (b := true) (T.ec_RefusedChunk D hD) hz hfl (by rfl) T.z_isinstance (pe_bltn (v := .ty "ValueError") (by rfl) T.z_ValueError (by decide +kernel) rfl) (fun _ r => r) (T.ki_RefusedChunk_ValueError D hD)))) sa_nil))))))) (fun a D k d env h fs u hi hk hu => ret_cl (by simp [mAnd, mOr, mNot, mB, bCmp, mCB, mLst, mTup, aCons, aNil, mVar, mC, mXfE, mIsF, R.bind_ok, hi, hk, hu, List.getElem?_set]))))
theorem ok_law_joins (T : Txt K mg) : FnOk T.prog W K mg base (L2.CX T.prog W) 1 T.a_law_joins T.fd_law_joins ["_law_written", "_law_other"] (spM K 2 (m_law_joins T.cc)) :=
  fn_ok (k := 0) T.F_law_joins sc_law_joins fun cdv A outer s H E hr tk hp => (ss_cons (ss_set (i := 2) sc_law_joins.nd rfl (by first | exact Or.inl rfl | exact Or.inr rfl) (se_str (by decide +kernel)))
    (ss_cons (ss_set (i := 3) sc_law_joins.nd rfl (by first | exact Or.inl rfl | exact Or.inr rfl) (se_ix (se_var (i := 0)) se_int))
    (ss_cons (ss_set (i := 4) sc_law_joins.nd rfl (by first | exact Or.inl rfl | exact Or.inr rfl) (se_ix (se_var (i := 1)) se_int))
    (ss_cons (ss_if (bt_inS (se_var (i := 3)) (se_var (i := 2))) (ss_one (ss_ret (se_inS (se_var (i := 4)) (se_add (se_var (i := 2)) (se_str (by decide +kernel)))))) ss_nil)
    (ss_cons (ss_if (bt_inS (se_var (i := 3)) (se_str (by decide +kernel))) (ss_one (ss_ret (se_inS (se_var (i := 4)) (se_str (by decide +kernel))))) ss_nil)
    (ss_cons (ss_if (bt_eq hr (se_var (i := 3)) (se_str (by decide +kernel))) (ss_one (ss_ret (se_eq hr (se_var (i := 4)) (se_str (by decide +kernel))))) ss_nil)
    (ss_one (ss_ret (se_and (se_in (se_var (i := 0)) (se_lst (sa_cons (se_str (by decide +kernel)) (sa_cons (se_str (by decide +kernel)) sa_nil))) hr) (se_one (se_inS (se_var (i := 4)) (se_str (by decide +kernel)))))))))))))
theorem ok_law (T : Txt K mg) : FnOk T.prog W K mg base (L2.CX T.prog W) 7 T.a_law T.fd_law ["_law_script"] (spM K 1 (m_law T.cc)) :=
  fn_ok (k := 6) T.F_law sc_law fun cdv A outer s H E hr tk hp => (ss_cons (ss_set (i := 1) sc_law.nd rfl (by first | exact Or.inl rfl | exact Or.inr rfl) (se_lst (sa_cons (se_list (by rfl) T.z_list (sa_cons (se_var (i := 0)) sa_nil)) (sa_cons se_int (sa_cons se_int (sa_cons se_int sa_nil))))))
    (ss_cons (ss_set (i := 2) sc_law.nd rfl (by first | exact Or.inl rfl | exact Or.inr rfl) (se_call tk (ok_law_next T) (hr.mono (by omega)) (by rfl) T.g_law_next T.F_law_next.kp T.b_law_next (sa_cons (se_var (i := 1)) (sa_cons se_int sa_nil))))
    (ss_cons (ss_if (bt_eq hr (se_call tk (ok_law_next T) (hr.mono (by omega)) (by rfl) T.g_law_next T.F_law_next.kp T.b_law_next (sa_cons (se_var (i := 1)) (sa_cons se_int sa_nil))) se_int) (ss_one (ss_set (i := 2) sc_law.nd rfl (by first | exact Or.inl rfl | exact Or.inr rfl) (se_call tk (ok_law_next T) (hr.mono (by omega)) (by rfl) T.g_law_next T.F_law_next.kp T.b_law_next (sa_cons (se_var (i := 1)) (sa_cons se_int sa_nil))))) ss_nil)
    (ss_cons (ss_set (i := 3) sc_law.nd rfl (by first | exact Or.inl rfl | exact Or.inr rfl) (se_call tk (ok_law_gap T) (hr.mono (by omega)) (by rfl) T.g_law_gap T.F_law_gap.kp T.b_law_gap (sa_cons (se_var (i := 1)) (sa_cons se_bl sa_nil))))
    (ss_cons (ss_set (i := 4) sc_law.nd rfl (by first | exact Or.inl rfl | exact Or.inr rfl) (se_lst sa_nil))
    (ss_cons (ss_set (i := 5) sc_law.nd rfl (by first | exact Or.inl rfl | exact Or.inr rfl) (se_str (by decide +kernel)))
    (ss_cons (ss_for hp rfl (si_r1 (by rfl) T.z_range (sa_cons (se_var (i := 2)) sa_nil)) (pg_one (i := 6) sc_law.nd rfl (by first | exact Or.inl rfl | exact Or.inr rfl)) (ss_cons (ss_setT (is := [7, 8, 9]) rfl (se_call tk (ok_law_token T) (hr.mono (by omega)) (by rfl) T.g_law_token T.F_law_token.kp T.b_law_token (sa_cons (se_var (i := 1)) sa_nil)) (pgs_c (i := 7) sc_law.nd rfl (by first | exact Or.inl rfl | exact Or.inr rfl) (pgs_c (i := 8) sc_law.nd rfl (by first | exact Or.inl rfl | exact Or.inr rfl) (pgs_c (i := 9) sc_law.nd rfl (by first | exact Or.inl rfl | exact Or.inr rfl) pgs_n))))
    (ss_cons (ss_set (i := 3) sc_law.nd rfl (by first | exact Or.inl rfl | exact Or.inr rfl) (se_add (se_var (i := 3)) (se_call tk (ok_law_gap T) (hr.mono (by omega)) (by rfl) T.g_law_gap T.F_law_gap.kp T.b_law_gap (sa_cons (se_var (i := 1)) (sa_cons (se_call tk (ok_law_joins T) (hr.mono (by omega)) (by rfl) T.g_law_joins T.F_law_joins.kp T.b_law_joins (sa_cons (se_var (i := 5)) (sa_cons (se_var (i := 9)) sa_nil))) sa_nil)))))
    (ss_cons (ss_expr (se_app (se_var (i := 4)) (sa_cons (se_tup (sa_cons (se_var (i := 7)) (sa_cons (se_var (i := 8)) (sa_cons (se_len (by rfl) T.z_len (sa_cons (se_var (i := 3)) sa_nil)) sa_nil)))) sa_nil)))
    (ss_cons (ss_set (i := 3) sc_law.nd rfl (by first | exact Or.inl rfl | exact Or.inr rfl) (se_add (se_var (i := 3)) (se_var (i := 9))))
    (ss_one (ss_set (i := 5) sc_law.nd rfl (by first | exact Or.inl rfl | exact Or.inr rfl) (se_var (i := 9)))))))))
    (ss_cons (ss_if (bt_not (bt_tru (se_call tk (ok_law_same T 4) (hr.mono (by omega)) (by rfl) T.g_law_same T.F_law_same.kp T.b_law_same (sa_cons (se_gstup (by rfl) T.n_KEYWORDS) (sa_cons (se_tuple (by rfl) T.z_tuple (sa_cons (se_call0 tk (ok_law_keywords T) (hr.mono (by omega)) (by rfl) T.g_law_keywords T.F_law_keywords.kp T.b_law_keywords) sa_nil)) sa_nil))))) (ss_one (ss_ret se_bl)) ss_nil)
    (ss_cons (ss_set (i := 3) sc_law.nd rfl (by first | exact Or.inl rfl | exact Or.inr rfl) (se_add (se_var (i := 3)) (se_call tk (ok_law_gap T) (hr.mono (by omega)) (by rfl) T.g_law_gap T.F_law_gap.kp T.b_law_gap (sa_cons (se_var (i := 1)) (sa_cons se_bl sa_nil)))))
    (ss_cons (ss_set (i := 10) sc_law.nd rfl (by first | exact Or.inl rfl | exact Or.inr rfl) (se_call tk (ok_law_next T) (hr.mono (by omega)) (by rfl) T.g_law_next T.F_law_next.kp T.b_law_next (sa_cons (se_var (i := 1)) (sa_cons se_int sa_nil))))
    (ss_cons (ss_if (bt_lt (se_var (i := 10)) se_int) (ss_one (ss_ret (se_call tk (ok_law_same T 4) (hr.mono (by omega)) (by rfl) T.g_law_same T.F_law_same.kp T.b_law_same (sa_cons (se_call tk (ok_law_read T) (hr.mono (by omega)) (by rfl) T.g_law_read T.F_law_read.kp T.b_law_read (sa_cons (se_var (i := 3)) sa_nil)) (sa_cons (se_tup (sa_cons (se_str (by decide +kernel)) (sa_cons (se_var (i := 4)) sa_nil))) sa_nil))))) ss_nil)
    (ss_cons (ss_set (i := 3) sc_law.nd rfl (by first | exact Or.inl rfl | exact Or.inr rfl) (se_add (se_var (i := 3)) (se_str (by decide +kernel))))
    (ss_cons (ss_set (i := 11) sc_law.nd rfl (by first | exact Or.inl rfl | exact Or.inr rfl) (se_len (by rfl) T.z_len (sa_cons (se_var (i := 3)) sa_nil)))
    (ss_cons (ss_if (bt_eq hr (se_var (i := 10)) se_int) (ss_one (ss_set (i := 3) sc_law.nd rfl (by first | exact Or.inl rfl | exact Or.inr rfl) (se_add (se_add (se_var (i := 3)) (se_str (by decide +kernel))) (se_ix (se_str (by decide +kernel)) (se_call tk (ok_law_next T) (hr.mono (by omega)) (by rfl) T.g_law_next T.F_law_next.kp T.b_law_next (sa_cons (se_var (i := 1)) (sa_cons se_int sa_nil))))))) (ss_one (ss_if (bt_eq hr (se_var (i := 10)) se_int) (ss_one (ss_set (i := 3) sc_law.nd rfl (by first | exact Or.inl rfl | exact Or.inr rfl) (se_add (se_add (se_add (se_var (i := 3)) (se_call tk (ok_law_digits T) (hr.mono (by omega)) (by rfl) T.g_law_digits T.F_law_digits.kp T.b_law_digits (sa_cons (se_var (i := 1)) (sa_cons (se_add se_int (se_call tk (ok_law_next T) (hr.mono (by omega)) (by rfl) T.g_law_next T.F_law_next.kp T.b_law_next (sa_cons (se_var (i := 1)) (sa_cons se_int sa_nil)))) sa_nil)))) (se_str (by decide +kernel))) (se_var (i := 3))))) (ss_cons (ss_set (i := 12) sc_law.nd rfl (by first | exact Or.inl rfl | exact Or.inr rfl) (se_str (by decide +kernel)))
    (ss_one (ss_set (i := 3) sc_law.nd rfl (by first | exact Or.inl rfl | exact Or.inr rfl) (se_add (se_add (se_var (i := 3)) (se_ix (se_var (i := 12)) (se_call tk (ok_law_next T) (hr.mono (by omega)) (by rfl) T.g_law_next T.F_law_next.kp T.b_law_next (sa_cons (se_var (i := 1)) (sa_cons (se_len (by rfl) T.z_len (sa_cons (se_var (i := 12)) sa_nil)) sa_nil))))) (se_var (i := 3)))))))))
    (ss_one (ss_ret (se_call tk (ok_law_same T 4) (hr.mono (by omega)) (by rfl) T.g_law_same T.F_law_same.kp T.b_law_same (sa_cons (se_call tk (ok_law_read T) (hr.mono (by omega)) (by rfl) T.g_law_read T.F_law_read.kp T.b_law_read (sa_cons (se_var (i := 3)) sa_nil)) (sa_cons (se_tup (sa_cons (se_str (by decide +kernel)) (sa_cons (se_var (i := 11)) (sa_cons se_bl sa_nil)))) sa_nil)))))))))))))))))))
end
end LAW

set_option Elab.async false
set_option linter.all false
set_option maxRecDepth 100000
set_option maxHeartbeats 4000000
namespace LAW
open PySem PySem.Spec PyProof.Rows L2 TL Q
def hd_F : List He.DefD := ([QH.dd ("_law_next", none) "_law_next" "_law_next" s_law_next,
  QH.dd ("_law_gap", none) "_law_gap" "_law_gap" s_law_gap,
  QH.dd ("_law_same", none) "_law_same" "_law_same" s_law_same,
  QH.dd ("_law_keywords", none) "_law_keywords" "_law_keywords" s_law_keywords,
  QH.dd ("_law_word", none) "_law_word" "_law_word" s_law_word,
  QH.dd ("_law_name", none) "_law_name" "_law_name" s_law_name,
  QH.dd ("_law_maker", none) "_law_maker" "_law_maker" s_law_maker,
  QH.dd ("_law_digits", none) "_law_digits" "_law_digits" s_law_digits,
  QH.dd ("_law_quoted", none) "_law_quoted" "_law_quoted" s_law_quoted,
  QH.dd ("_law_char", none) "_law_char" "_law_char" s_law_char,
  QH.dd ("_law_token", none) "_law_token" "_law_token" s_law_token,
  QH.dd ("run_end", none) "run_end" "run_end" s_run_end,
  QH.dd ("read_word", none) "read_word" "read_word" s_read_word,
  QH.dd ("read_number", none) "read_number" "read_number" s_read_number,
  QH.dd ("read_text", none) "read_text" "read_text" s_read_text,
  QH.dd ("read_token", none) "read_token" "read_token" s_read_token,
  QH.dd ("tokenize", none) "tokenize" "tokenize" s_tokenize,
  QH.dd ("_law_read", none) "_law_read" "_law_read" s_law_read,
  QH.dd ("_law_joins", none) "_law_joins" "_law_joins" s_law_joins,
  QH.dd ("law", none) "law" "law" s_law] : List He.DefD)
def hd_T : List QH.Ts := ([QH.tGlo "_law_next",
  QH.tGlo "_law_gap",
  QH.tGlo "_law_same",
  QH.tGlo "_law_keywords",
  QH.tGlo "_law_word",
  QH.tGlo "_law_name",
  QH.tGlo "_law_maker",
  QH.tGlo "_law_digits",
  QH.tGlo "_law_quoted",
  QH.tGlo "_law_char",
  QH.tGlo "_law_token",
  QH.tGlo "run_end",
  QH.tGlo "read_word",
  QH.tGlo "read_number",
  QH.tGlo "read_text",
  QH.tGlo "read_token",
  QH.tGlo "tokenize",
  QH.tGlo "_law_read",
  QH.tGlo "_law_joins",
  QH.tGlo "law",
  QH.tFree "ValueError",
  QH.tFree "bool",
  QH.tFree "int",
  QH.tFree "isinstance",
  QH.tFree "len",
  QH.tFree "list",
  QH.tFree "range",
  QH.tFree "str",
  QH.tFree "tuple",
  QH.tXi "RefusedChunk" "position"] : List QH.Ts) ++ ([QH.tGlo "RefusedChunk",
  QH.tFree "super",
  QH.tGlo "QuillrunError",
  QH.tExm "RefusedChunk" "RefusedChunk",
  QH.tStr "WORD" [97, 98, 99, 100, 101, 102, 103, 104, 105, 106, 107, 108, 109, 110, 111, 112, 113, 114, 115, 116, 117, 118, 119, 120, 121, 122, 65, 66, 67, 68, 69, 70, 71, 72, 73, 74, 75, 76, 77, 78, 79, 80, 81, 82, 83, 84, 85, 86, 87, 88, 89, 90, 48, 49, 50, 51, 52, 53, 54, 55, 56, 57, 95],
  QH.tStr "UPPER" [65, 66, 67, 68, 69, 70, 71, 72, 73, 74, 75, 76, 77, 78, 79, 80, 81, 82, 83, 84, 85, 86, 87, 88, 89, 90],
  QH.tTup "KEYWORDS" [[100, 97, 116, 97], [102, 117, 110], [99, 101, 108, 108], [118, 105, 101, 119], [97, 99, 116], [116, 117, 114, 110], [116, 104, 101, 110], [116, 114, 117, 101], [102, 97, 108, 115, 101], [110, 111, 116], [97, 110, 100], [111, 114], [105, 102], [101, 108, 115, 101], [108, 101, 116], [105, 110], [99, 97, 115, 101], [111, 102], [101, 110, 100], [110, 117, 109], [116, 101, 120, 116], [98, 111, 111, 108], [108, 105, 115, 116], [109, 111, 100]],
  QH.tStr "DIGITS" [48, 49, 50, 51, 52, 53, 54, 55, 56, 57],
  QH.tInt "MOST_DIGITS" 18,
  QH.tStr "LOWER" [97, 98, 99, 100, 101, 102, 103, 104, 105, 106, 107, 108, 109, 110, 111, 112, 113, 114, 115, 116, 117, 118, 119, 120, 121, 122],
  QH.tTup "LONG_SIGNS" [[43, 43], [58, 58], [45, 62], [58, 61]],
  QH.tTup "SHORT_SIGNS" [[40], [41], [91], [93], [44], [59], [124], [61], [60], [43], [45], [42], [47], [58]],
  QH.tEc "RefusedChunk",
  QH.tXf "RefusedChunk" "position",
  QH.tKitG "RefusedChunk" "QuillrunError" true,
  QH.tKitT "RefusedChunk" "ValueError" true] : List QH.Ts)
abbrev si_RefusedChunk : Stmt := inClass (topS 2) 0
def hd_I : List QH.InD := [⟨"RefusedChunk", "RefusedChunk.__init__", "/claim/cut.py", si_RefusedChunk⟩]
def hd_N : List PySem.Str := (["QuillrunError",
  "RefusedChunk",
  "KEYWORDS",
  "LOWER",
  "UPPER",
  "DIGITS",
  "WORD",
  "LONG_SIGNS",
  "SHORT_SIGNS",
  "MOST_DIGITS",
  "run_end",
  "read_text",
  "read_word",
  "read_number",
  "read_token",
  "tokenize",
  "_law_next",
  "_law_same",
  "_law_keywords",
  "_law_word",
  "_law_name",
  "_law_maker",
  "_law_char",
  "_law_digits",
  "_law_quoted",
  "_law_token",
  "_law_joins",
  "_law_gap",
  "_law_read"] : List PySem.Str)
theorem hd_txt {P : Program} {K : Fr} {h : Heap} {mg : Str → Option Value} (X : K.In h) (G : h.Ns mainGlobals mg) (c : QH.Says hd_T hd_F K) (ci : QH.SaysI hd_T hd_F hd_I K) (hP : QH.progB P "/claim/cut.py" = true) {fdL : FuncData} (FL : Fun K "law" "law" s_law (He.fAd K ("law", none)) fdL) :
    ∃ T : Txt K mg, T.a_law = He.fAd K ("law", none) ∧ T.fd_law = fdL ∧ T.prog = P := by
  obtain ⟨d0, F0⟩ := c.f 0 (a := ("_law_next", none)) (x := "_law_next") (q := "_law_next") (st := s_law_next) rfl
  obtain ⟨d1, F1⟩ := c.f 1 (a := ("_law_gap", none)) (x := "_law_gap") (q := "_law_gap") (st := s_law_gap) rfl
  obtain ⟨d2, F2⟩ := c.f 2 (a := ("_law_same", none)) (x := "_law_same") (q := "_law_same") (st := s_law_same) rfl
  obtain ⟨d3, F3⟩ := c.f 3 (a := ("_law_keywords", none)) (x := "_law_keywords") (q := "_law_keywords") (st := s_law_keywords) rfl
  obtain ⟨d4, F4⟩ := c.f 4 (a := ("_law_word", none)) (x := "_law_word") (q := "_law_word") (st := s_law_word) rfl
  obtain ⟨d5, F5⟩ := c.f 5 (a := ("_law_name", none)) (x := "_law_name") (q := "_law_name") (st := s_law_name) rfl
  obtain ⟨d6, F6⟩ := c.f 6 (a := ("_law_maker", none)) (x := "_law_maker") (q := "_law_maker") (st := s_law_maker) rfl
  obtain ⟨d7, F7⟩ := c.f 7 (a := ("_law_digits", none)) (x := "_law_digits") (q := "_law_digits") (st := s_law_digits) rfl
  obtain ⟨d8, F8⟩ := c.f 8 (a := ("_law_quoted", none)) (x := "_law_quoted") (q := "_law_quoted") (st := s_law_quoted) rfl
  obtain ⟨d9, F9⟩ := c.f 9 (a := ("_law_char", none)) (x := "_law_char") (q := "_law_char") (st := s_law_char) rfl
  obtain ⟨d10, F10⟩ := c.f 10 (a := ("_law_token", none)) (x := "_law_token") (q := "_law_token") (st := s_law_token) rfl
  obtain ⟨d11, F11⟩ := c.f 11 (a := ("run_end", none)) (x := "run_end") (q := "run_end") (st := s_run_end) rfl
  obtain ⟨d12, F12⟩ := c.f 12 (a := ("read_word", none)) (x := "read_word") (q := "read_word") (st := s_read_word) rfl
  obtain ⟨d13, F13⟩ := c.f 13 (a := ("read_number", none)) (x := "read_number") (q := "read_number") (st := s_read_number) rfl
  obtain ⟨d14, F14⟩ := c.f 14 (a := ("read_text", none)) (x := "read_text") (q := "read_text") (st := s_read_text) rfl
  obtain ⟨d15, F15⟩ := c.f 15 (a := ("read_token", none)) (x := "read_token") (q := "read_token") (st := s_read_token) rfl
  obtain ⟨d16, F16⟩ := c.f 16 (a := ("tokenize", none)) (x := "tokenize") (q := "tokenize") (st := s_tokenize) rfl
  obtain ⟨d17, F17⟩ := c.f 17 (a := ("_law_read", none)) (x := "_law_read") (q := "_law_read") (st := s_law_read) rfl
  obtain ⟨d18, F18⟩ := c.f 18 (a := ("_law_joins", none)) (x := "_law_joins") (q := "_law_joins") (st := s_law_joins) rfl
  exact ⟨⟨P,
    fun i => match i with | 0 => He.ga K "RefusedChunk" | 1 => He.ga K "QuillrunError" | _ => 0,
    He.ga K "RefusedChunk",
    He.fAd K ("_law_next", none), _, F0, F0.binds (ps := ["_law_state", "_law_limit"]) (fun _ _ _ _ _ _ us hl => match us, hl with | [_, _], _ => rfl),
    QH.glo X G (c.t 0 rfl),
    He.fAd K ("_law_gap", none), _, F1, F1.binds (ps := ["_law_state", "_law_needed"]) (fun _ _ _ _ _ _ us hl => match us, hl with | [_, _], _ => rfl),
    QH.glo X G (c.t 1 rfl),
    He.fAd K ("_law_same", none), _, F2, F2.binds (ps := ["_law_actual", "_law_expected"]) (fun _ _ _ _ _ _ us hl => match us, hl with | [_, _], _ => rfl),
    QH.glo X G (c.t 2 rfl),
    He.fAd K ("_law_keywords", none), _, F3, F3.binds (ps := []) (fun _ _ _ _ _ _ us hl => match us, hl with | [], _ => rfl),
    QH.glo X G (c.t 3 rfl),
    He.fAd K ("_law_word", none), _, F4, F4.binds (ps := ["_law_state", "_law_first"]) (fun _ _ _ _ _ _ us hl => match us, hl with | [_, _], _ => rfl),
    QH.glo X G (c.t 4 rfl),
    He.fAd K ("_law_name", none), _, F5, F5.binds (ps := ["_law_state"]) (fun _ _ _ _ _ _ us hl => match us, hl with | [_], _ => rfl),
    QH.glo X G (c.t 5 rfl),
    He.fAd K ("_law_maker", none), _, F6, F6.binds (ps := ["_law_state"]) (fun _ _ _ _ _ _ us hl => match us, hl with | [_], _ => rfl),
    QH.glo X G (c.t 6 rfl),
    He.fAd K ("_law_digits", none), _, F7, F7.binds (ps := ["_law_state", "_law_count"]) (fun _ _ _ _ _ _ us hl => match us, hl with | [_, _], _ => rfl),
    QH.glo X G (c.t 7 rfl),
    He.fAd K ("_law_quoted", none), _, F8, F8.binds (ps := ["_law_text"]) (fun _ _ _ _ _ _ us hl => match us, hl with | [_], _ => rfl),
    QH.glo X G (c.t 8 rfl),
    He.fAd K ("_law_char", none), _, F9, F9.binds (ps := ["_law_index"]) (fun _ _ _ _ _ _ us hl => match us, hl with | [_], _ => rfl),
    QH.glo X G (c.t 9 rfl),
    He.fAd K ("_law_token", none), _, F10, F10.binds (ps := ["_law_state"]) (fun _ _ _ _ _ _ us hl => match us, hl with | [_], _ => rfl),
    QH.glo X G (c.t 10 rfl),
    He.fAd K ("run_end", none), _, F11, F11.binds (ps := ["chunk", "start", "allowed"]) (fun _ _ _ _ _ _ us hl => match us, hl with | [_, _, _], _ => rfl),
    QH.glo X G (c.t 11 rfl),
    He.fAd K ("read_word", none), _, F12, F12.binds (ps := ["chunk", "start"]) (fun _ _ _ _ _ _ us hl => match us, hl with | [_, _], _ => rfl),
    QH.glo X G (c.t 12 rfl),
    He.fAd K ("read_number", none), _, F13, F13.binds (ps := ["chunk", "start"]) (fun _ _ _ _ _ _ us hl => match us, hl with | [_, _], _ => rfl),
    QH.glo X G (c.t 13 rfl),
    He.fAd K ("read_text", none), _, F14, F14.binds (ps := ["chunk", "start"]) (fun _ _ _ _ _ _ us hl => match us, hl with | [_, _], _ => rfl),
    QH.glo X G (c.t 14 rfl),
    He.fAd K ("read_token", none), _, F15, F15.binds (ps := ["chunk", "start"]) (fun _ _ _ _ _ _ us hl => match us, hl with | [_, _], _ => rfl),
    QH.glo X G (c.t 15 rfl),
    He.fAd K ("tokenize", none), _, F16, F16.binds (ps := ["chunk"]) (fun _ _ _ _ _ _ us hl => match us, hl with | [_], _ => rfl),
    QH.glo X G (c.t 16 rfl),
    He.fAd K ("_law_read", none), _, F17, F17.binds (ps := ["_law_text"]) (fun _ _ _ _ _ _ us hl => match us, hl with | [_], _ => rfl),
    QH.glo X G (c.t 17 rfl),
    He.fAd K ("_law_joins", none), _, F18, F18.binds (ps := ["_law_written", "_law_other"]) (fun _ _ _ _ _ _ us hl => match us, hl with | [_, _], _ => rfl),
    QH.glo X G (c.t 18 rfl),
    He.fAd K ("law", none), _, FL, FL.binds (ps := ["_law_script"]) (fun _ _ _ _ _ _ us hl => match us, hl with | [_], _ => rfl),
    QH.glo X G (c.t 19 rfl),
    QH.free X G (c.t 20 rfl),
    QH.free X G (c.t 21 rfl),
    QH.free X G (c.t 22 rfl),
    QH.free X G (c.t 23 rfl),
    QH.free X G (c.t 24 rfl),
    QH.free X G (c.t 25 rfl),
    QH.free X G (c.t 26 rfl),
    QH.free X G (c.t 27 rfl),
    QH.free X G (c.t 28 rfl),
    QH.xi (st := si_RefusedChunk) (am := (aCons (mBin uAdd (mC (.str [117, 110, 101, 120, 112, 101, 99, 116, 101, 100, 32, 116, 101, 120, 116, 32, 97, 116, 32, 112, 111, 115, 105, 116, 105, 111, 110, 32])) (mCB uStr (aCons (mVar 1) aNil))) aNil)) (Pv := PvI) X G (c.t 29 rfl) (c.t 30 rfl) (c.t 31 rfl) (ci.i 0 rfl).1 (ci.i 0 rfl).2 hP (NdefX.nscope_by (by decide +kernel)) rfl rfl rfl rfl ⟨by decide, by decide, by decide, by decide⟩ (fun c cc doc pm ctv us hl => match us, hl with | [_, _], _ => rfl)
      (fun w base c1 cc f A outer s H E => (sa_cons (se_add (se_str (by decide +kernel)) (se_str' (by rfl) (QH.free X G (c.t 27 rfl)) (sa_cons (se_var (i := 1)) sa_nil))) sa_nil)) hm_text (fun c cc f L => rfl) (fun c cc f L => rfl) (fun c cc f L => rfl) (fun c cc f L => rfl) (fun c cc f L => rfl),
    QH.glo X G (c.t 32 rfl),
    QH.glo X G (c.t 30 rfl),
    (QH.all1 (QH.exm (c.t 33 rfl)) QH.all0),
    QH.str X G (c.t 34 rfl),
    QH.str X G (c.t 35 rfl),
    QH.tup X G (c.t 36 rfl),
    QH.str X G (c.t 37 rfl),
    QH.int X G (c.t 38 rfl),
    QH.str X G (c.t 39 rfl),
    QH.tup X G (c.t 40 rfl),
    QH.tup X G (c.t 41 rfl),
    (QH.all1 (QH.ec (c.t 42 rfl)) QH.all0),
    (QH.all1 (QH.xf (c.t 43 rfl)) QH.all0),
    (QH.all1 (QH.kitG (c.t 44 rfl)) QH.all0),
    (QH.all1 (QH.kitT (c.t 45 rfl)) QH.all0)⟩, rfl, rfl, rfl⟩
theorem hd_all {l : PySem.W.OpenLaw} {w : World} {K : Fr} {h : Heap} {mg : Str → Option Value} {fa : Addr} (X : K.In h) (G : h.Ns mainGlobals mg) (hfa : mg "law" = some (.ref fa)) (ci : QH.SaysI hd_T hd_F hd_I K) (hP : QH.progB l.prog "/claim/cut.py" = true) :
    ∃ fd : FuncData, (∀ (s : Shared) (v : Value), BindsTo s fd ⟨[v], []⟩ [("_law_script", v)]) ∧ ∀ base : Heap, K.In base → base.Ns mainGlobals mg → FnOk l.prog w K mg base (L2.CX l.prog w) 7 fa fd ["_law_script"] (spEnd K) := by
  have c := ci.says
  obtain ⟨fdL, FL⟩ := c.f 19 (a := ("law", none)) (x := "law") (q := "law") (st := s_law) rfl
  have e := hfa.symm.trans (QH.glo X G (c.t 19 rfl))
  cases e
  obtain ⟨T, e1, e2, e3⟩ := hd_txt X G c ci hP FL
  refine ⟨fdL, fun s v => ?_, fun base _ _ => ?_⟩
  · obtain ⟨_, _, _, _, _, _, _, _, _, e, _, _⟩ := FL.ex
    rw [e]
    exact .of_eq rfl
  · have z := fn_end (law_true T.cc) (ok_law (W := w) (base := base) T)
    rw [e1, e2, e3] at z
    exact z
abbrev hd_R : PySem.W.OpenRow := PySem.W.OpenLaw.row PySem.Challenge.rw_quillrun_k21_tokens_read_back
abbrev hd_Q : Program := PySem.W.view hd_R.prog [32]
abbrev hd_K : PySem.W.Hook := QH.hookI 5 hd_T hd_F hd_I
def hd_O (s : PySem.W.SharedT) : He.AlD := QH.obsAtI 5 hd_T hd_F hd_I (HandSHeadRun.getT s)
set_option maxHeartbeats 0 in
theorem hd_run (w : World) : HandSHeadRun.RunEq hd_R hd_Q hd_K hd_O 30000 hd_N w := by
  intro os
  kernel_rfl
end LAW
open PySem PySem.W PyProof.Rows in
set_option maxRecDepth 100000 in
set_option maxHeartbeats 0 in
theorem PySem.Challenge.cw_quillrun_k21_tokens_read_back_holds : PySem.Challenge.rw_quillrun_k21_tokens_read_back.Holds := by
  w_on; o_law
  refine HandSHeadRun.head_any (r := OpenLaw.row PySem.Challenge.rw_quillrun_k21_tokens_read_back) (q := view (OpenLaw.row PySem.Challenge.rw_quillrun_k21_tokens_read_back).prog [32]) (H := LAW.hd_K) (ob := LAW.hd_O) (M := 30000) (loose := LAW.hd_N) (d := HandSHeadRun.topDef (OpenLaw.row PySem.Challenge.rw_quillrun_k21_tokens_read_back).prog 32) (kwd := []) (fun s => QH.obsI_eq s)
    (by kernel_rfl) (fun s => by kernel_rfl) LAW.hd_run (by kernel_rfl) (by kernel_rfl) (by kernel_rfl) (by rfl) (by first | assumption | decide +kernel) (by decide +kernel) ⟨rfl, rfl, rfl, rfl, rfl, by decide +kernel⟩ ?hw ?hc
  case hw => w_witness2
  case hc =>
    refine QH.walkI (l := PySem.Challenge.rw_quillrun_k21_tokens_read_back) (k := 7) (x := "_law_script") (ts := LAW.hd_T) (fn := LAW.hd_F) (fi := LAW.hd_I) rfl (by kernel_rfl) ⟨rfl, by decide, by decide⟩ ?F
    intro w mg fa h K KX G hm c
    have e : (HandSHeadRun.topDef (OpenLaw.row PySem.Challenge.rw_quillrun_k21_tokens_read_back).prog 32).name = ("law" : PySem.Str) := by kernel_rfl
    rw [e] at hm
    exact LAW.hd_all KX G hm c (by kernel_rfl)

