import PyProof.Rows.All
import Wide.All
import OpenK.AllK
import Wide.FinOn
import HandS.ForMost
import HandS.IsInst
import HandS.Flow
import HandS.Walk
import HandS.WordsExc
import HandS.Exc
import HandS.TryOnly
import HandS.ExcOwn
import HandS.ExcInit
import HandS.ExcField
import HandS.Deep
import HandS.TupAny
import HandS.Zip
import HandS.NoneIn
import HandS.Dict
import HandS.WordsDict
import HandS.Iter
import HandS.SortInts
import HandS.StrMore
import HandS.Replace
import HandS.Codes
import HandS.Strs
import PyProof.StrLawsOcc
import PyProof.StrOps2
import HandS.ExcIs
import HandS.List
import HandS.More
import HandS.Style
import HandS.Comp
import HandS.Star
import KE.KDictLaws
import PySem.Challenge.RW_quillrun_k10_schemes_and_instances
set_option Elab.async false
set_option linter.all false
set_option maxRecDepth 100000
/-! The layer Q: meanings (plain Lean functions over plain values and a store) of the text's defs, and why the machine does as they say. -/
namespace Q
open PySem PySem.Spec PyProof.Rows L2 TL

abbrev Fr := PySem.W.Frag
/-- plain values: fl a list that nobody changes any more, kl one of the written part, ref an object of the store, xv an exception in hand (its addresses, its class, its fields' place in the store) -/
inductive U where
  | non | bl (b : Bool) | int (i : Int) | str (s : List Nat) | tup (us : List U) | fl (us : List U) | kl (us : List U) | ref (n : Nat) | xv (a : Nat) (d : Option Nat) (C : Nat) (n : Option Nat)
/-- keys of dicts -/
abbrev DK := Sum Int (List Nat)
inductive O where
  | lst (us : List U)
  | dK (kvs : List (DK × U))
  | dT (kvs : List (List DK × U))
  | dKl (kvs : List (DK × U))
  | ins (C : Nat) (fs : List (Str × U))
  | xd (fs : List (Str × U))
abbrev Sto := List O
abbrev Env' := List (Option U)
inductive R (α : Type) where
  | ok (a : α) (h : Sto)
  | exc (C : Nat) (n : Option Nat) (h : Sto)
  | bad
inductive RS where
  | nx (e : Env') (h : Sto)
  | rt (u : U) (h : Sto)
  | bk (e : Env') (h : Sto)
  | ct (e : Env') (h : Sto)
  | ex (C : Nat) (n : Option Nat) (e : Env') (h : Sto)
  | bad
abbrev EM := Env' → Sto → R U
abbrev TM := Env' → Sto → R Bool
abbrev AM := Env' → Sto → R (List U)
abbrev SM := Env' → Sto → RS
abbrev GM := U → Env' → Sto → RS
abbrev IM := Env' → Sto → R (Option (Nat × List U) × List U)
def R.bind {α β : Type} (r : R α) (f : α → Sto → R β) : R β := match r with
  | .ok a h => f a h
  | .exc C n h => .exc C n h
  | .bad => .bad
theorem R.bind_ok {α β : Type} {a : α} {h : Sto} {f : α → Sto → R β} : (R.ok a h).bind f = f a h := rfl
theorem R.bind_exc {α β : Type} {C : Nat} {n : Option Nat} {h : Sto} {f : α → Sto → R β} : (R.exc C n h : R α).bind f = .exc C n h := rfl
theorem R.bind_bad {α β : Type} {f : α → Sto → R β} : (R.bad : R α).bind f = .bad := rfl

structure G where
  al : List Addr
  F : Hp
structure Le (g g' : G) : Prop where
  al : ∃ b, g'.al = g.al ++ b
  F : ∀ a o, g.F a = some o → g'.F a = some o
theorem Le.refl (g : G) : Le g g := ⟨⟨[], by simp⟩, fun _ _ h => h⟩
theorem Le.trans {a b c : G} (x : Le a b) (y : Le b c) : Le a c := by
  obtain ⟨u, e1⟩ := x.al
  obtain ⟨v, e2⟩ := y.al
  exact ⟨⟨u ++ v, by rw [e2, e1, List.append_assoc]⟩, fun q o h => y.F q o (x.F q o h)⟩
theorem Le.get {g g' : G} (l : Le g g') {n : Nat} {a : Addr} (h : g.al[n]? = some a) : g'.al[n]? = some a := by
  obtain ⟨b, e⟩ := l.al
  rw [e, List.getElem?_append_left (List.getElem?_eq_some_iff.mp h).1]
  exact h

/-- the address of an exception's fields -/
def DOf (g : G) : Option Nat → Option Addr → Prop
  | none, d => d = none
  | some k, d => ∃ a, d = some a ∧ g.al[k]? = some a
theorem DOf.mono {g g' : G} (l : Le g g') : ∀ {n : Option Nat} {d : Option Addr}, DOf g n d → DOf g' n d
  | none, _, h => h
  | some _, _, ⟨a, e, h⟩ => ⟨a, e, l.get h⟩
mutual
inductive Rep (K : Fr) (g : G) : V → U → Prop
  | non : Rep K g .non .non
  | bl (b : Bool) : Rep K g (.bl b) (.bl b)
  | int (i : Int) : Rep K g (.int i) (.int i)
  | str (s : List Nat) : Rep K g (.str ⟨s.toArray⟩) (.str s)
  | tup {a : Addr} {vs : List V} {us : List U} (h : SqT K g.F a vs) (r : Reps K g vs us) : Rep K g (.ref a) (.tup us)
  | fl {a : Addr} {vs : List V} {us : List U} (h : g.F a = some (.lst vs)) (r : Reps K g vs us) : Rep K g (.ref a) (.fl us)
  | kl {a : Addr} {vs : List V} {us : List U} (h : SqL K g.F a vs) (r : Reps K g vs us) : Rep K g (.ref a) (.kl us)
  | ref {a : Addr} {n : Nat} (h : g.al[n]? = some a) : Rep K g (.ref a) (.ref n)
  | xv {a C : Nat} {d : Option Nat} {n : Option Nat} (h : DOf g n d) : Rep K g (.ref a) (.xv a d C n)
inductive Reps (K : Fr) (g : G) : List V → List U → Prop
  | nil : Reps K g [] []
  | cons {v : V} {u : U} {vs : List V} {us : List U} (h : Rep K g v u) (r : Reps K g vs us) : Reps K g (v :: vs) (u :: us)
end

theorem rd_mono {F F' : Hp} {a : Addr} {u : HO} (e : ∀ a o, F a = some o → F' a = some o) (h : Rd F a u) : Rd F' a u := by
  rcases h with h | ⟨o, h⟩
  · exact .inl (e a _ h)
  · exact .inr ⟨o, e a _ h⟩
theorem sql_mono {K : Fr} {F F' : Hp} {a : Addr} {xs : List V} (e : ∀ a o, F a = some o → F' a = some o) (h : SqL K F a xs) : SqL K F' a xs := by
  rcases h with h | h
  · exact .inl (rd_mono e h)
  · exact .inr h
theorem sqt_mono {K : Fr} {F F' : Hp} {a : Addr} {xs : List V} (e : ∀ a o, F a = some o → F' a = some o) (h : SqT K F a xs) : SqT K F' a xs := by
  rcases h with h | h
  · exact .inl (rd_mono e h)
  · exact .inr h

mutual
theorem Rep.mono {K : Fr} {g g' : G} (l : Le g g') : ∀ {v : V} {u : U}, Rep K g v u → Rep K g' v u
  | _, _, .non => .non
  | _, _, .bl b => .bl b
  | _, _, .int i => .int i
  | _, _, .str s => .str s
  | _, _, .tup h r => .tup (sqt_mono l.F h) (Reps.mono l r)
  | _, _, .fl h r => .fl (l.F _ _ h) (Reps.mono l r)
  | _, _, .kl h r => .kl (sql_mono l.F h) (Reps.mono l r)
  | _, _, .ref h => .ref (l.get h)
  | _, _, .xv h => .xv (h.mono l)
theorem Reps.mono {K : Fr} {g g' : G} (l : Le g g') : ∀ {vs : List V} {us : List U}, Reps K g vs us → Reps K g' vs us
  | _, _, .nil => .nil
  | _, _, .cons h r => .cons (Rep.mono l h) (Reps.mono l r)
end
section
variable {K : Fr} {g g' : G} {vs ws : List V} {us ts : List U} {v : V} {u : U}
theorem Reps.len : ∀ {vs : List V} {us : List U}, Reps K g vs us → vs.length = us.length
  | _, _, .nil => rfl
  | _, _, .cons _ r => by simp [Reps.len r]
theorem Reps.app : ∀ {vs ws : List V} {us ts : List U}, Reps K g vs us → Reps K g ws ts → Reps K g (vs ++ ws) (us ++ ts)
  | _, _, _, _, .nil, s => s
  | _, _, _, _, .cons h r, s => .cons h (Reps.app r s)
theorem Reps.one (h : Rep K g v u) : Reps K g [v] [u] := .cons h .nil
theorem Reps.get : ∀ {vs : List V} {us : List U} {i : Nat} {u : U}, Reps K g vs us → us[i]? = some u → ∃ v, vs[i]? = some v ∧ Rep K g v u
  | _, _, _, _, .nil, h => by simp at h
  | _, _, 0, _, .cons h r, e => by simp at e; subst e; exact ⟨_, rfl, h⟩
  | _, _, i + 1, _, .cons h r, e => by simpa using Reps.get (i := i) r (by simpa using e)
theorem Reps.getV : ∀ {vs : List V} {us : List U} {i : Nat} {v : V}, Reps K g vs us → vs[i]? = some v → ∃ u, us[i]? = some u ∧ Rep K g v u
  | _, _, _, _, .nil, h => by simp at h
  | _, _, 0, _, .cons h r, e => by simp at e; subst e; exact ⟨_, rfl, h⟩
  | _, _, i + 1, _, .cons h r, e => by simpa using Reps.getV (i := i) r (by simpa using e)
theorem Reps.drop : ∀ {vs : List V} {us : List U} (i : Nat), Reps K g vs us → Reps K g (vs.drop i) (us.drop i)
  | _, _, 0, r => r
  | _, _, _ + 1, .nil => .nil
  | _, _, i + 1, .cons _ r => Reps.drop i r
theorem Reps.take : ∀ {vs : List V} {us : List U} (i : Nat), Reps K g vs us → Reps K g (vs.take i) (us.take i)
  | _, _, 0, _ => .nil
  | _, _, _ + 1, .nil => .nil
  | _, _, i + 1, .cons h r => .cons h (Reps.take i r)
theorem Reps.set : ∀ {vs : List V} {us : List U} (i : Nat) {v : V} {u : U}, Rep K g v u → Reps K g vs us → Reps K g (vs.set i v) (us.set i u)
  | _, _, _, _, _, _, .nil => .nil
  | _, _, 0, _, _, h, .cons _ r => .cons h r
  | _, _, i + 1, _, _, h, .cons h' r => .cons h' (Reps.set i h r)
theorem Reps.erase : ∀ {vs : List V} {us : List U} (i : Nat), Reps K g vs us → Reps K g (vs.eraseIdx i) (us.eraseIdx i)
  | _, _, _, .nil => .nil
  | _, _, 0, .cons _ r => r
  | _, _, i + 1, .cons h r => .cons h (Reps.erase i r)
theorem Reps.dropLast : ∀ {vs : List V} {us : List U}, Reps K g vs us → Reps K g vs.dropLast us.dropLast := fun {vs us} r => by
  rw [List.dropLast_eq_take, List.dropLast_eq_take, r.len]
  exact r.take _
theorem Reps.rev : ∀ {vs : List V} {us : List U}, Reps K g vs us → Reps K g vs.reverse us.reverse
  | _, _, .nil => .nil
  | _, _, .cons h r => by rw [List.reverse_cons, List.reverse_cons]; exact (Reps.rev r).app (.one h)
/-- ints, texts -/
theorem Reps.ints : ∀ {vs : List V} {ns : List Int}, Reps K g vs (ns.map U.int) → vs = ns.map V.int
  | _, [], .nil => rfl
  | _, _ :: _, .cons h r => by cases h; rw [Reps.ints r]; rfl
theorem Reps.ofInts : ∀ (ns : List Int), Reps K g (ns.map V.int) (ns.map U.int)
  | [] => .nil
  | n :: r => .cons (.int n) (Reps.ofInts r)
theorem Reps.strs : ∀ {vs : List V} {ns : List (List Nat)}, Reps K g vs (ns.map U.str) → vs = (ns.map fun s => (⟨s.toArray⟩ : Str)).map V.str
  | _, [], .nil => rfl
  | _, _ :: _, .cons h r => by cases h; rw [Reps.strs r]; rfl
theorem Reps.bls : ∀ {vs : List V} {ns : List Bool}, Reps K g vs (ns.map U.bl) → vs = ns.map V.bl
  | _, [], .nil => rfl
  | _, _ :: _, .cons h r => by cases h; rw [Reps.bls r]; rfl
end

/-- a key -/
def kk : DK → Key
  | .inl i => .inl i
  | .inr s => .inr ⟨s.toArray⟩
inductive RepK (K : Fr) (g : G) : List (Key × V) → List (DK × U) → Prop
  | nil : RepK K g [] []
  | cons {k : DK} {v : V} {u : U} {vs us} (h : Rep K g v u) (r : RepK K g vs us) : RepK K g ((kk k, v) :: vs) ((k, u) :: us)
inductive RepT (K : Fr) (g : G) : List (List Key × V) → List (List DK × U) → Prop
  | nil : RepT K g [] []
  | cons {k : List DK} {v : V} {u : U} {vs us} (h : Rep K g v u) (r : RepT K g vs us) : RepT K g ((k.map kk, v) :: vs) ((k, u) :: us)
inductive RepF (K : Fr) (g : G) : List (Str × V) → List (Str × U) → Prop
  | nil : RepF K g [] []
  | cons {k : Str} {v : V} {u : U} {vs us} (h : Rep K g v u) (r : RepF K g vs us) : RepF K g ((k, v) :: vs) ((k, u) :: us)
theorem RepK.mono {K : Fr} {g g' : G} (l : Le g g') : ∀ {vs us}, RepK K g vs us → RepK K g' vs us
  | _, _, .nil => .nil
  | _, _, .cons h r => .cons (h.mono l) (RepK.mono l r)
theorem RepT.mono {K : Fr} {g g' : G} (l : Le g g') : ∀ {vs us}, RepT K g vs us → RepT K g' vs us
  | _, _, .nil => .nil
  | _, _, .cons h r => .cons (h.mono l) (RepT.mono l r)
theorem RepF.mono {K : Fr} {g g' : G} (l : Le g g') : ∀ {vs us}, RepF K g vs us → RepF K g' vs us
  | _, _, .nil => .nil
  | _, _, .cons h r => .cons (h.mono l) (RepF.mono l r)

def ObR (K : Fr) (g : G) (H : Hp) (a : Addr) : O → Prop
  | .lst us => ∃ vs, H a = some (.lst vs) ∧ Reps K g vs us
  | .dK us => ∃ vs, H a = some (.dK vs) ∧ RepK K g vs us
  | .dT us => ∃ vs, H a = some (.dT vs) ∧ RepT K g vs us
  | .dKl us => ∃ od vs, g.F a = some (.frz od (.dK vs)) ∧ H a = some (.frz od (.dK vs)) ∧ RepK K g vs us
  | .ins C us => ∃ dx vs, H a = some (.ins C dx vs) ∧ RepF K g vs us
  | .xd us => ∃ vs, H a = some (.xd vs) ∧ RepF K g vs us
theorem ObR.mono {K : Fr} {g g' : G} {H H' : Hp} {a : Addr} (l : Le g g') (e : H' a = H a) : ∀ {o : O}, ObR K g H a o → ObR K g' H' a o
  | .lst _, ⟨vs, h, r⟩ => ⟨vs, e.trans h, r.mono l⟩
  | .dK _, ⟨vs, h, r⟩ => ⟨vs, e.trans h, r.mono l⟩
  | .dT _, ⟨vs, h, r⟩ => ⟨vs, e.trans h, r.mono l⟩
  | .dKl _, ⟨od, vs, f, h, r⟩ => ⟨od, vs, l.F _ _ f, e.trans h, r.mono l⟩
  | .ins _ _, ⟨dx, vs, h, r⟩ => ⟨dx, vs, e.trans h, r.mono l⟩
  | .xd _, ⟨vs, h, r⟩ => ⟨vs, e.trans h, r.mono l⟩
theorem ObR.is {K : Fr} {g : G} {H : Hp} {a : Addr} : ∀ {o : O}, ObR K g H a o → ∃ u, H a = some u
  | .lst _, ⟨vs, h, r⟩ => ⟨_, h⟩
  | .dK _, ⟨vs, h, r⟩ => ⟨_, h⟩
  | .dT _, ⟨vs, h, r⟩ => ⟨_, h⟩
  | .dKl _, ⟨od, vs, f, h, r⟩ => ⟨_, h⟩
  | .ins _ _, ⟨dx, vs, h, r⟩ => ⟨_, h⟩
  | .xd _, ⟨vs, h, r⟩ => ⟨_, h⟩
structure HR (K : Fr) (g : G) (H : Hp) (h : Sto) : Prop where
  ex : ∀ a o, g.F a = some o → H a = some o
  len : g.al.length = h.length
  nd : g.al.Nodup
  fr : ∀ a, a ∈ g.al → ∀ u, g.F a = some u → ∃ od vs, u = .frz od (.dK vs)
  ob : ∀ (n : Nat) a o, g.al[n]? = some a → h[n]? = some o → ObR K g H a o
section
variable {K : Fr} {g g' : G} {H H' : Hp} {h h' : Sto} {a p : Addr} {vs : List V} {us : List U} {v : V} {u : U} {n : Nat}
theorem HR.sqT (x : HR K g H h) (q : SqT K g.F a vs) : SqT K H a vs := sqt_mono x.ex q
theorem HR.sqL (x : HR K g H h) (q : SqL K g.F a vs) : SqL K H a vs := sql_mono x.ex q
theorem HR.get (x : HR K g H h) {o : O} (e : h[n]? = some o) : ∃ a, g.al[n]? = some a ∧ ObR K g H a o := by
  have h1 : n < g.al.length := by rw [x.len]; exact (List.getElem?_eq_some_iff.mp e).1
  exact ⟨g.al[n], List.getElem?_eq_getElem h1, x.ob n _ o (List.getElem?_eq_getElem h1) e⟩
theorem HR.is (x : HR K g H h) (m : a ∈ g.al) : ∃ u, H a = some u := by
  obtain ⟨n, hn, e⟩ := List.mem_iff_getElem.mp m
  have h1 : n < h.length := by rw [← x.len]; exact hn
  exact ObR.is (x.ob n a h[n] (by rw [List.getElem?_eq_getElem hn, e]) (List.getElem?_eq_getElem h1))
theorem HR.notF (x : HR K g H h) (q : H p = none) : g.F p = none := by
  cases e : g.F p with
  | none => rfl
  | some o => rw [x.ex p o e] at q; cases q
theorem HR.notA (x : HR K g H h) (q : H p = none) : p ∉ g.al := fun m => by
  obtain ⟨u, e⟩ := x.is m
  rw [e] at q; cases q
theorem HR.neA (x : HR K g H h) (q : H p = none) {n : Nat} (e : g.al[n]? = Option.some a) : a ≠ p := fun z => by
  subst z
  exact x.notA q (List.mem_of_getElem? e)
theorem HR.neM (x : HR K g H h) (q : H p = none) (e : a ∈ g.al) : a ≠ p := fun z => by
  subst z
  exact x.notA q e
/-- something that nobody here knows comes -/
theorem HR.skip (x : HR K g H h) (q : H p = none) (o : HO) : HR K g (upd H p o) h where
  ex := fun a u e => by rw [upd_ne (ne_of_none (x.ex a u e) q)]; exact x.ex a u e
  len := x.len
  nd := x.nd
  fr := x.fr
  ob := fun n a u e1 e2 => (x.ob n a u e1 e2).mono (Le.refl g) (upd_ne (x.neA q e1))
/-- a new thing that lasts -/
def G.put (g : G) (p : Addr) (o : HO) : G := ⟨g.al, upd g.F p o⟩
theorem Le.put (q : g.F p = none) (o : HO) : Le g (g.put p o) := ⟨⟨[], by simp [G.put]⟩, fun a u e => by
  show upd g.F p o a = some u
  rw [upd_ne (ne_of_none e q)]; exact e⟩
theorem HR.put (x : HR K g H h) (q : H p = none) (o : HO) : HR K (g.put p o) (upd H p o) h where
  ex := fun a u e => by
    by_cases z : a = p
    · subst z
      have e : upd g.F a o a = Option.some u := e
      rw [upd_same] at e; rw [upd_same]; exact e
    · have e : upd g.F p o a = Option.some u := e
      rw [upd_ne z] at e; rw [upd_ne z]; exact x.ex a u e
  len := x.len
  nd := x.nd
  fr := fun a m u e => by
    have e : upd g.F p o a = Option.some u := e
    rw [upd_ne (x.neM q m)] at e; exact x.fr a m u e
  ob := fun n a u e1 e2 => (x.ob n a u e1 e2).mono (Le.put (x.notF q) o) (upd_ne (x.neA q e1))
theorem HR.newTup (x : HR K g H h) (q : H p = none) (r : Reps K g vs us) : Le g (g.put p (.tup vs)) ∧ HR K (g.put p (.tup vs)) (upd H p (.tup vs)) h ∧ Rep K (g.put p (.tup vs)) (.ref p) (.tup us) := by
  have l := Le.put (g := g) (x.notF q) (.tup vs)
  exact ⟨l, x.put q _, .tup (.inl (.inl (show upd g.F p (.tup vs) p = _ from upd_same))) (r.mono l)⟩
theorem HR.newFl (x : HR K g H h) (q : H p = none) (r : Reps K g vs us) : Le g (g.put p (.lst vs)) ∧ HR K (g.put p (.lst vs)) (upd H p (.lst vs)) h ∧ Rep K (g.put p (.lst vs)) (.ref p) (.fl us) := by
  have l := Le.put (g := g) (x.notF q) (.lst vs)
  exact ⟨l, x.put q _, .fl (show upd g.F p (.lst vs) p = _ from upd_same) (r.mono l)⟩
/-- a new object of the store -/
def G.new (g : G) (p : Addr) : G := ⟨g.al ++ [p], g.F⟩
theorem Le.new : Le g (g.new p) := ⟨⟨[p], rfl⟩, fun _ _ e => e⟩
theorem HR.new (x : HR K g H h) (q : H p = none) {o : HO} {b : O} (r : ObR K (g.new p) (upd H p o) p b) : HR K (g.new p) (upd H p o) (h ++ [b]) where
  ex := fun a u e => by rw [upd_ne (ne_of_none (x.ex a u e) q)]; exact x.ex a u e
  len := by simp [G.new, x.len]
  nd := by
    show (g.al ++ [p]).Nodup
    rw [List.nodup_append]
    exact ⟨x.nd, by simp, fun a m b mb => by
      rw [List.mem_singleton] at mb
      subst mb
      exact fun z => x.notA q (z ▸ m)⟩
  fr := fun a m => by
    rcases List.mem_append.mp m with m | m
    · exact x.fr a m
    · rw [List.mem_singleton] at m
      subst m
      intro u e
      rw [show (g.new a).F a = none from x.notF q] at e; cases e
  ob := fun n a u e1 e2 => by
    have e1 : (g.al ++ [p])[n]? = Option.some a := e1
    by_cases hn : n < h.length
    · rw [List.getElem?_append_left (by rw [x.len]; exact hn)] at e1
      rw [List.getElem?_append_left hn] at e2
      exact (x.ob n a u e1 e2).mono Le.new (upd_ne (x.neA q e1))
    · have h2 : n < (h ++ [b]).length := (List.getElem?_eq_some_iff.mp e2).1
      have e3 : n = h.length := by simp at h2; omega
      subst e3
      rw [List.getElem?_append_right (Nat.le_refl _), Nat.sub_self] at e2
      rw [List.getElem?_append_right (by rw [x.len]; exact Nat.le_refl _), x.len, Nat.sub_self] at e1
      simp at e1 e2
      subst e1; subst e2
      exact r
theorem HR.newRef (x : HR K g H h) : Rep K (g.new p) (.ref p) (.ref h.length) := .ref (by
  show (g.al ++ [p])[h.length]? = _
  rw [← x.len]; simp)
theorem HR.newLst (x : HR K g H h) (q : H p = none) (r : Reps K g vs us) : HR K (g.new p) (upd H p (.lst vs)) (h ++ [.lst us]) :=
  x.new q ⟨vs, upd_same, r.mono Le.new⟩
/-- an object of the store changes -/
theorem HR.set (x : HR K g H h) (e : g.al[n]? = some a) (nf : ∀ od u, H a ≠ some (.frz od u)) {o : HO} {b : O} (r : ObR K g (upd H a o) a b) : HR K g (upd H a o) (h.set n b) where
  ex := fun c u q => by
    have : c ≠ a := fun z => by
      obtain ⟨od, vs, rfl⟩ := x.fr a (List.mem_of_getElem? e) u (z ▸ q)
      exact nf _ _ (z ▸ x.ex c _ q)
    rw [upd_ne this]; exact x.ex c u q
  len := by simp [x.len]
  nd := x.nd
  fr := x.fr
  ob := fun m c u e1 e2 => by
    by_cases hm : m = n
    · subst hm
      rw [e] at e1; cases e1
      have hl : m < h.length := by rw [← x.len]; exact (List.getElem?_eq_some_iff.mp e).1
      rw [List.getElem?_set_self hl] at e2
      cases e2
      exact r
    · rw [List.getElem?_set_ne (Ne.symm hm)] at e2
      have ne : c ≠ a := fun z => by
        subst z
        exact hm (nd_ix x.nd e1 e)
      exact (x.ob m c u e1 e2).mono (Le.refl g) (upd_ne ne)
theorem HR.setLst (x : HR K g H h) (e : g.al[n]? = some a) {ws : List V} (nf : H a = some (.lst ws)) (r : Reps K g vs us) : HR K g (upd H a (.lst vs)) (h.set n (.lst us)) := x.set e (fun _ _ z => by rw [nf] at z; cases z) ⟨vs, upd_same, r⟩
/-- a dict is locked for good -/
theorem HR.lock (x : HR K g H h) (e : g.al[n]? = some a) {ws : List (Key × V)} {us : List (DK × U)} (nf : H a = some (.dK ws)) (r : RepK K g ws us) (od : Obj) : Le g (g.put a (.frz od (.dK ws))) ∧ HR K (g.put a (.frz od (.dK ws))) (upd H a (.frz od (.dK ws))) (h.set n (.dKl us)) := by
  have f0 : g.F a = none := by
    cases f : g.F a with
    | none => rfl
    | some u =>
      obtain ⟨od', vs', rfl⟩ := x.fr a (List.mem_of_getElem? e) u f
      rw [x.ex _ _ f] at nf; cases nf
  have l := Le.put f0 (.frz od (.dK ws))
  refine ⟨l, ⟨fun c u q => ?_, by simp [G.put, x.len], x.nd, fun c m u q => ?_, fun m c u e1 e2 => ?_⟩⟩
  · by_cases z : c = a
    · subst z
      have q : upd g.F c (.frz od (.dK ws)) c = Option.some u := q
      rw [upd_same] at q; rw [upd_same]; exact q
    · have q : upd g.F a (.frz od (.dK ws)) c = Option.some u := q
      rw [upd_ne z] at q; rw [upd_ne z]; exact x.ex c u q
  · have q : upd g.F a (.frz od (.dK ws)) c = Option.some u := q
    by_cases z : c = a
    · subst z
      rw [upd_same] at q; cases q
      exact ⟨_, _, rfl⟩
    · rw [upd_ne z] at q; exact x.fr c m u q
  · by_cases hm : m = n
    · subst hm
      have e1 : g.al[m]? = Option.some c := e1
      rw [e] at e1; cases e1
      have hl : m < h.length := by rw [← x.len]; exact (List.getElem?_eq_some_iff.mp e).1
      rw [List.getElem?_set_self hl] at e2
      cases e2
      exact ⟨od, ws, show upd g.F a (.frz od (.dK ws)) a = _ from upd_same, upd_same, r.mono l⟩
    · rw [List.getElem?_set_ne (Ne.symm hm)] at e2
      have ne : c ≠ a := fun z => by
        subst z
        exact hm (nd_ix x.nd e1 e)
      exact (x.ob m c u e1 e2).mono l (upd_ne ne)
theorem HR.lst (x : HR K g H h) (e : h[n]? = some (.lst us)) (q : g.al[n]? = some a) : ∃ vs, H a = some (.lst vs) ∧ Reps K g vs us := x.ob n a _ q e
end

/-! ### the judgements -/
def ER (K : Fr) (g : G) (σ : L2.St) (env : Env') : Prop := σ.length = env.length ∧ ∀ (i : Nat) u, env[i]? = some (some u) → ∃ v, σ[i]? = some (some v) ∧ Rep K g v u
theorem ER.mono {K : Fr} {g g' : G} {σ : L2.St} {env : Env'} (l : Le g g') (e : ER K g σ env) : ER K g' σ env := ⟨e.1, fun i u q => by
  obtain ⟨v, a, b⟩ := e.2 i u q
  exact ⟨v, a, b.mono l⟩⟩
theorem ER.set {K : Fr} {g : G} {σ : L2.St} {env : Env'} {v : V} {u : U} (e : ER K g σ env) (i : Nat) (r : Rep K g v u) : ER K g (σ.set i (some v)) (env.set i (some u)) := by
  refine ⟨by simp [e.1], fun j w q => ?_⟩
  by_cases hj : i = j
  · subst hj
    by_cases hl : i < env.length
    · rw [List.getElem?_set_self hl] at q
      cases q
      exact ⟨v, by rw [List.getElem?_set_self (by rw [e.1]; exact hl)], r⟩
    · rw [List.getElem?_eq_none (by simpa using hl)] at q
      cases q
  · rw [List.getElem?_set_ne hj] at q
    obtain ⟨v', a, b⟩ := e.2 j w q
    exact ⟨v', by rw [List.getElem?_set_ne hj]; exact a, b⟩

/-- what is wished of an exception at the slots σ -/
def atSl (W : WX) (σ : L2.St) : XK := fun c d H => W c d σ H
def WE (K : Fr) (E : XK) (g : G) (r : R U) (Q : VK) : Prop := match r with
  | .ok u h => ∀ v H g', Le g g' → HR K g' H h → Rep K g' v u → Q v H
  | .exc C n h => ∀ H g' d, Le g g' → HR K g' H h → DOf g' n d → E (.ref C) d H
  | .bad => False
def WT (K : Fr) (E : XK) (g : G) (r : R Bool) (Q : Bool → Hp → Prop) : Prop := match r with
  | .ok b h => ∀ H g', Le g g' → HR K g' H h → Q b H
  | .exc C n h => ∀ H g' d, Le g g' → HR K g' H h → DOf g' n d → E (.ref C) d H
  | .bad => False
def WA (K : Fr) (E : XK) (g : G) (r : R (List U)) (Q : List V → Hp → Prop) : Prop := match r with
  | .ok us h => ∀ vs H g', Le g g' → HR K g' H h → Reps K g' vs us → Q vs H
  | .exc C n h => ∀ H g' d, Le g g' → HR K g' H h → DOf g' n d → E (.ref C) d H
  | .bad => False
def WS (K : Fr) (W : WX) (g : G) (r : RS) (D : Ends) : Prop := match r with
  | .nx e h => ∀ σ H g', Le g g' → HR K g' H h → ER K g' σ e → D.nx σ H
  | .rt u h => ∀ v H g', Le g g' → HR K g' H h → Rep K g' v u → D.rt v H
  | .bk e h => ∀ σ H g', Le g g' → HR K g' H h → ER K g' σ e → D.bk σ H
  | .ct e h => ∀ σ H g', Le g g' → HR K g' H h → ER K g' σ e → D.ct σ H
  | .ex C n e h => ∀ σ H g' d, Le g g' → HR K g' H h → ER K g' σ e → DOf g' n d → W (.ref C) d σ H
  | .bad => False
section
variable {K : Fr} {g g' : G} {X : Cx} {E : XK} {W : WX}
theorem WE.mono {r : R U} {Q : VK} (l : Le g g') (w : WE K E g r Q) : WE K E g' r Q := by
  cases r with
  | ok u h => exact fun v H g2 l2 => w v H g2 (l.trans l2)
  | exc C n h => exact fun H g2 d l2 => w H g2 d (l.trans l2)
  | bad => exact w
theorem WT.mono {r : R Bool} {Q : Bool → Hp → Prop} (l : Le g g') (w : WT K E g r Q) : WT K E g' r Q := by
  cases r with
  | ok u h => exact fun H g2 l2 => w H g2 (l.trans l2)
  | exc C n h => exact fun H g2 d l2 => w H g2 d (l.trans l2)
  | bad => exact w
theorem WA.mono {r : R (List U)} {Q : List V → Hp → Prop} (l : Le g g') (w : WA K E g r Q) : WA K E g' r Q := by
  cases r with
  | ok u h => exact fun v H g2 l2 => w v H g2 (l.trans l2)
  | exc C n h => exact fun H g2 d l2 => w H g2 d (l.trans l2)
  | bad => exact w
theorem WS.mono {r : RS} {D : Ends} (l : Le g g') (w : WS K W g r D) : WS K W g' r D := by
  cases r with
  | nx e h => exact fun σ H g2 l2 => w σ H g2 (l.trans l2)
  | rt u h => exact fun v H g2 l2 => w v H g2 (l.trans l2)
  | bk e h => exact fun σ H g2 l2 => w σ H g2 (l.trans l2)
  | ct e h => exact fun σ H g2 l2 => w σ H g2 (l.trans l2)
  | ex C n e h => exact fun σ H g2 d l2 => w σ H g2 d (l.trans l2)
  | bad => exact w
def tM (K : Fr) (W : WX) (m : EM) : TE := fun σ H Q => ∃ g env h, HR K g H h ∧ ER K g σ env ∧ WE K (atSl W σ) g (m env h) Q
def bM (K : Fr) (W : WX) (m : TM) : TT := fun σ H Q => ∃ g env h, HR K g H h ∧ ER K g σ env ∧ WT K (atSl W σ) g (m env h) Q
def aM (K : Fr) (W : WX) (m : AM) : TA := fun σ H Q => ∃ g env h, HR K g H h ∧ ER K g σ env ∧ WA K (atSl W σ) g (m env h) Q
def sM (K : Fr) (W : WX) (m : SM) : TS := fun D σ H => ∃ g env h, HR K g H h ∧ ER K g σ env ∧ WS K W g (m env h) D
theorem PE.weak {e : Expr} {t t' : TE} (p : PE X e t) (h : ∀ σ H Q, t' σ H Q → t σ H Q) : PE X e t' := ⟨fun pins s σ H Q I q => p.run pins s σ H Q I (h σ H Q q)⟩
theorem PT.weak {e : Expr} {t t' : TT} (p : PT X e t) (h : ∀ σ H Q, t' σ H Q → t σ H Q) : PT X e t' := ⟨fun pins s σ H Q I q => p.run pins s σ H Q I (h σ H Q q)⟩
theorem PW.weak {e : Expr} {t t' : TT} (p : PW X e t) (h : ∀ σ H Q, t' σ H Q → t σ H Q) : PW X e t' := ⟨fun wh pins s σ H Q I q => p.run wh pins s σ H Q I (h σ H Q q)⟩
theorem PA.weak {e : List Expr} {t t' : TA} (p : PA X e t) (h : ∀ σ H Q, t' σ H Q → t σ H Q) : PA X e t' := ⟨fun pos pins s σ H Q I q => p.run pos pins s σ H Q I (h σ H Q q)⟩
theorem PS.weak {e : Stmt} {t t' : TS} (p : PS X e t) (h : ∀ D σ H, t' D σ H → t D σ H) : PS X e t' := ⟨fun pins s σ H D I q => p.run pins s σ H D I (h D σ H q)⟩
theorem PSs.weak {e : List Stmt} {t t' : TS} (p : PSs X e t) (h : ∀ D σ H, t' D σ H → t D σ H) : PSs X e t' := ⟨fun pins s σ H D I q => p.run pins s σ H D I (h D σ H q)⟩
theorem PG.weak {e : Expr} {t t' : TG} (p : PG X e t) (h : ∀ v σ H Q, t' v σ H Q → t v σ H Q) : PG X e t' := ⟨fun pins s σ H v u Q I r q => p.run pins s σ H v u Q I r (h v σ H Q q)⟩
/-- a part is evaluated, then what is behind -/
theorem tM_to {m : EM} {σ : L2.St} {H : Hp} {env : Env'} {h : Sto} {Q : VK} (x : HR K g H h) (e : ER K g σ env) (w : WE K (atSl W σ) g (m env h) Q) : tM K W m σ H Q := ⟨g, env, h, x, e, w⟩
end
end Q

set_option Elab.async false
set_option linter.all false
set_option maxRecDepth 100000
set_option maxHeartbeats 1000000
namespace Q
open PySem PySem.Spec PyProof.Rows L2 TL
section
variable {K : Fr} {g g' : G} {E : XK} {W : WX} {X : Cx} {H : Hp} {h : Sto} {v w : V} {x y : U}
/-! ### what a value is -/
/-- the items of a list that stands by itself -/
def mL (h : Sto) : U → Option (List U)
  | .fl us => some us
  | .ref n => match h[n]? with
    | some (.lst us) => some us
    | _ => none
  | _ => none
/-- of any list -/
def aL (h : Sto) : U → Option (List U)
  | .kl us => some us
  | x => mL h x
/-- of a list or a tuple -/
def sL (h : Sto) : U → Option (List U)
  | .tup us => some us
  | x => aL h x
theorem mL_of {us : List U} (hr : HR K g H h) (r : Rep K g v x) (e : mL h x = some us) : ∃ a vs, v = .ref a ∧ H a = some (.lst vs) ∧ Reps K g vs us := by
  cases r with
  | fl q s => cases e; exact ⟨_, _, rfl, hr.ex _ _ q, s⟩
  | ref q =>
    rename_i a n
    cases e2 : h[n]? with
    | none => simp [mL, e2] at e
    | some o =>
      cases o with
      | lst ts =>
        simp [mL, e2] at e
        subst e
        obtain ⟨vs, h1, h2⟩ := hr.ob n a _ q e2
        exact ⟨_, _, rfl, h1, h2⟩
      | _ => simp [mL, e2] at e
  | _ => simp [mL] at e
theorem aL_of {us : List U} (hr : HR K g H h) (r : Rep K g v x) (e : aL h x = some us) : ∃ a vs, v = .ref a ∧ SqL K H a vs ∧ Reps K g vs us := by
  cases r with
  | kl q s => cases e; exact ⟨_, _, rfl, hr.sqL q, s⟩
  | fl q s => cases e; exact ⟨_, _, rfl, .inl (.inl (hr.ex _ _ q)), s⟩
  | ref q =>
    obtain ⟨a, vs, h1, h2, h3⟩ := mL_of hr (.ref q) (show mL h (.ref _) = _ from e)
    exact ⟨a, vs, h1, .inl (.inl h2), h3⟩
  | _ => simp [aL, mL] at e
theorem sL_of {us : List U} (hr : HR K g H h) (r : Rep K g v x) (e : sL h x = some us) : ∃ a vs, v = .ref a ∧ (SqL K H a vs ∨ SqT K H a vs) ∧ Reps K g vs us := by
  cases r with
  | tup q s => cases e; exact ⟨_, _, rfl, .inr (hr.sqT q), s⟩
  | kl q s => cases e; exact ⟨_, _, rfl, .inl (hr.sqL q), s⟩
  | fl q s => cases e; exact ⟨_, _, rfl, .inl (.inl (.inl (hr.ex _ _ q))), s⟩
  | ref q =>
    obtain ⟨a, vs, h1, h2, h3⟩ := mL_of hr (.ref q) (show mL h (.ref _) = _ from e)
    exact ⟨a, vs, h1, .inl (.inl (.inl h2)), h3⟩
  | _ => simp [sL, aL, mL] at e
theorem tup_of {us : List U} (hr : HR K g H h) (r : Rep K g v (.tup us)) : ∃ a vs, v = .ref a ∧ SqT K H a vs ∧ Reps K g vs us := by
  cases r with
  | tup q s => exact ⟨_, _, rfl, hr.sqT q, s⟩

/-- data of any depth -/
def allO {α : Type} (f : U → Option α) : List U → Option (List α)
  | [] => some []
  | u :: us => match f u, allO f us with
    | some d, some ds => some (d :: ds)
    | _, _ => none
def pyd : Nat → Sto → U → Option PyData
  | 0, _, _ => none
  | n + 1, h, x => match x with
    | .non => some .none
    | .bl b => some (.bool b)
    | .int i => some (.int i)
    | .str s => some (.str ⟨s.toArray⟩)
    | .tup us => (allO (pyd n h) us).map .tuple
    | x => match aL h x with
      | some us => (allO (pyd n h) us).map .list
      | none => none
theorem dpAll_of {f : U → Option PyData} (ih : ∀ (v : V) (x : U) (d : PyData), Rep K g v x → f x = some d → Dp K H v d) : ∀ {vs : List V} {us : List U} {ds : List PyData}, Reps K g vs us → allO f us = some ds → DpAll K H vs ds
  | _, _, _, .nil, e => by cases e; exact .nil
  | _, _, ds, .cons r rs, e => by
    unfold allO at e
    split at e
    · rename_i d ds' e1 e2
      cases e
      exact .cons (ih _ _ _ r e1) (dpAll_of ih rs e2)
    · cases e
theorem dp_of (hr : HR K g H h) : ∀ (n : Nat) (v : V) (x : U) (d : PyData), Rep K g v x → pyd n h x = some d → Dp K H v d
  | 0, _, _, _, _, e => by cases e
  | n + 1, v, x, d, r, e => by
    have ls : ∀ {us : List U}, aL h x = some us → (allO (pyd n h) us).map PyData.list = some d → Dp K H v d := by
      intro us e1 e2
      obtain ⟨a, vs, rfl, q, rs⟩ := aL_of hr r e1
      cases e3 : allO (pyd n h) us with
      | none => rw [e3] at e2; cases e2
      | some ds =>
        rw [e3] at e2
        cases e2
        exact .lst q (dpAll_of (dp_of hr n) rs e3)
    cases r with
    | non => cases e; exact .non
    | bl b => cases e; exact .bl b
    | int i => cases e; exact .int i
    | str s => cases e; exact .str _
    | @tup a vs us q rs =>
      have e : (allO (pyd n h) us).map PyData.tuple = some d := e
      cases e3 : allO (pyd n h) us with
      | none => rw [e3] at e; cases e
      | some ds =>
        rw [e3] at e
        cases e
        exact .tup (hr.sqT q) (dpAll_of (dp_of hr n) rs e3)
    | @fl a vs us q rs => exact ls (us := us) rfl e
    | @kl a vs us q rs => exact ls (us := us) rfl e
    | @ref a m q =>
      have e : (match aL h (.ref m) with
        | some us => (allO (pyd n h) us).map PyData.list
        | none => none) = some d := e
      split at e
      · rename_i us e1
        exact ls e1 e
      · cases e
    | xv q => cases e
/-- equality of data -/
def eqP (h : Sto) (x y : U) : Option Bool := match pyd 60 h x, pyd 60 h y with
  | some d, some e => if SeqAt.shaped d = true ∧ SeqAt.shaped e = true then some (PyData.eqv d e) else none
  | _, _ => none
theorem eqP_of {b : Bool} (hr : HR K g H h) (rx : Rep K g v x) (ry : Rep K g w y) (e : eqP h x y = some b) : ∃ d e, Dp K H v d ∧ Dp K H w e ∧ SeqAt.shaped d = true ∧ SeqAt.shaped e = true ∧ PyData.eqv d e = b := by
  unfold eqP at e
  split at e
  · rename_i d1 d2 e1 e2
    split at e
    · rename_i z
      cases e
      exact ⟨d1, d2, dp_of hr _ _ _ _ rx e1, dp_of hr _ _ _ _ ry e2, z.1, z.2, rfl⟩
    · cases e
  · cases e
/-! ### operators by values -/
def BinOK (K : Fr) (r : R2) (f : U → U → Sto → R U) : Prop := ∀ E g H h v w x y Q, HR K g H h → Rep K g v x → Rep K g w y → WE K E g (f x y h) Q → r v w H Q
def mVar (i : Nat) : EM := fun env h => match env[i]? with
  | some (some u) => .ok u h
  | _ => .bad
def mC (u : U) : EM := fun _ h => .ok u h
def mBin (f : U → U → Sto → R U) (a b : EM) : EM := fun env h => (a env h).bind fun x h1 => (b env h1).bind fun y h2 => f x y h2
theorem se_var {i : Nat} {x : Str} {pos : Pos} (hN : X.N[i]? = some x := by rfl) (hv : Vis X.env.scope x := by first | exact Or.inl rfl | exact Or.inr (Or.inl rfl) | exact Or.inr (Or.inr rfl))
    (hd : (x == ("__debug__" : Str)) = false := by decide) (hcd : (x == ("__classdict__" : Str)) = false := by decide) : PE X (.Name x pos) (tM K W (mVar i)) := by
  refine PE.weak (pe_var hN hv hd hcd) fun σ H Q q => ?_
  obtain ⟨g, env, h, hr, er, w⟩ := q
  unfold mVar at w
  split at w
  · rename_i u e
    obtain ⟨v, a, b⟩ := er.2 i u e
    exact ⟨v, a, w v H g (Le.refl g) hr b⟩
  · exact w.elim
theorem se_int {i j pos} : PE X (.Constant (.int i) j pos) (tM K W (mC (.int i))) := PE.weak pe_int fun σ H Q ⟨g, env, h, hr, er, w⟩ => w _ H g (Le.refl g) hr (.int i)
theorem se_bl {i j pos} : PE X (.Constant (.bool i) j pos) (tM K W (mC (.bl i))) := PE.weak pe_bl fun σ H Q ⟨g, env, h, hr, er, w⟩ => w _ H g (Le.refl g) hr (.bl i)
theorem se_non {j pos} : PE X (.Constant .none j pos) (tM K W (mC .non)) := PE.weak pe_non fun σ H Q ⟨g, env, h, hr, er, w⟩ => w _ H g (Le.refl g) hr .non
theorem se_str {x : Str} {s : List Nat} {j pos} (e : x.cps.toList = s := by rfl) : PE X (.Constant (.str x) j pos) (tM K W (mC (.str s))) := by
  subst e
  exact PE.weak pe_str fun σ H Q ⟨g, env, h, hr, er, w⟩ => w _ H g (Le.refl g) hr (.str _)
theorem bin_to {a b : EM} {f : U → U → Sto → R U} {r : R2} (ok : BinOK K r f) {σ : L2.St} {Q : VK} (t : tM K W (mBin f a b) σ H Q) : tOp r (tM K W a) (tM K W b) σ H Q := by
  obtain ⟨g, env, h, hr, er, w⟩ := t
  refine ⟨g, env, h, hr, er, ?_⟩
  unfold mBin at w
  cases ea : a env h with
  | bad => rw [ea] at w; exact w.elim
  | exc C n h => rw [ea] at w; exact w
  | ok x h1 =>
    rw [ea] at w
    have w : WE K (atSl W σ) g ((b env h1).bind fun y h2 => f x y h2) Q := w
    intro v H1 g1 l1 hr1 rv
    refine ⟨g1, env, h1, hr1, er.mono l1, ?_⟩
    cases eb : b env h1 with
    | bad => rw [eb] at w; exact w.elim
    | exc C n h => rw [eb] at w; exact fun H2 g2 d l2 => w H2 g2 d (l1.trans l2)
    | ok y h2 =>
      rw [eb] at w
      intro u H2 g2 l2 hr2 ru
      exact ok _ g2 H2 h2 v u x y Q hr2 (rv.mono l2) ru (WE.mono (l1.trans l2) w)
theorem se_bin {op : Operator} {r : R2} {f : U → U → Sto → R U} {a b : Expr} {ma mb : EM} {pos : Pos} (ho : OpR X (binaryOp op) r) (ok : BinOK K r f) (ha : PE X a (tM K W ma)) (hb : PE X b (tM K W mb)) :
    PE X (.BinOp a op b pos) (tM K W (mBin f ma mb)) := PE.weak (pe_op ho ha hb) fun σ H Q t => bin_to ok t

theorem str_app (s t : List Nat) : ((⟨s.toArray⟩ : Str) ++ (⟨t.toArray⟩ : Str)) = ⟨(s ++ t).toArray⟩ := by
  apply ext_tl
  rw [tl_append, tl_mk, tl_mk, tl_mk]
theorem str_len (s : List Nat) : (⟨s.toArray⟩ : Str).length = s.length := by rw [len_tl, tl_mk]
def uAdd (x y : U) (h : Sto) : R U := match x, y with
  | .int i, .int j => .ok (.int (i + j)) h
  | .str s, .str t => if s.length + t.length ≤ 16000000 then .ok (.str (s ++ t)) h else .bad
  | .tup s, .tup t => if s.length + t.length ≤ 16000000 then .ok (.tup (s ++ t)) h else .bad
  | x, y => match mL h x, mL h y with
    | some us, some ts => if us.length + ts.length ≤ 16000000 then .ok (.ref h.length) (h ++ [.lst (us ++ ts)]) else .bad
    | _, _ => .bad
abbrev rAddA (K : Fr) : R2 := fun x y H Q => (∃ i j, x = V.int i ∧ y = V.int j ∧ Q (.int (i + j)) H) ∨ (∃ i j, x = V.str i ∧ y = V.str j ∧ i.length + j.length ≤ sizeLine ∧ Q (.str (i ++ j)) H) ∨ rCatA K x y H Q ∨ rCat x y H Q
theorem opr_add : OpR X (binaryOp .Add) (rAddA X.K) := op_add.or (op_add_str.or (op_catA.or op_cat))
theorem sz16 {n : Nat} (h : n ≤ 16000000) : n ≤ sizeLine := Nat.le_trans h (by decide)
theorem ok_add : BinOK K (rAddA K) uAdd := by
  intro E g H h v w x y Q hr rx ry t
  unfold uAdd at t
  split at t
  · cases rx; cases ry
    exact .inl ⟨_, _, rfl, rfl, t _ _ g (Le.refl g) hr (.int _)⟩
  · cases rx; cases ry
    split at t
    · rename_i z
      refine .inr (.inl ⟨_, _, rfl, rfl, by rw [str_len, str_len]; exact sz16 z, ?_⟩)
      rw [str_app]
      exact t _ _ g (Le.refl g) hr (.str _)
    · exact t.elim
  · rename_i us ts
    split at t
    · rename_i z
      obtain ⟨a, vs, rfl, h1, r1⟩ := tup_of hr rx
      obtain ⟨b, ws, rfl, h2, r2⟩ := tup_of hr ry
      refine .inr (.inr (.inl ⟨a, b, vs, ws, rfl, rfl, h1, h2, by rw [r1.len, r2.len]; exact sz16 z, fun e => ?_, fun _ e => ?_, fun _ _ p hp => ?_⟩))
      · subst e
        cases r1
        exact t _ _ g (Le.refl g) hr ry
      · subst e
        cases r2
        rw [List.append_nil] at t
        exact t _ _ g (Le.refl g) hr rx
      · obtain ⟨l, a1, a2⟩ := hr.newTup hp (r1.app r2)
        exact t _ _ _ l a1 a2
    · exact t.elim
  · split at t
    · rename_i us ts e1 e2
      split at t
      · rename_i z
        obtain ⟨a, vs, rfl, h1, r1⟩ := mL_of hr rx e1
        obtain ⟨b, ws, rfl, h2, r2⟩ := mL_of hr ry e2
        refine .inr (.inr (.inr ⟨a, b, vs, ws, rfl, rfl, h1, h2, by rw [r1.len, r2.len]; exact sz16 z, fun p hp => ?_⟩))
        exact t _ _ (g.new p) Le.new (hr.newLst hp (r1.app r2)) hr.newRef
      · exact t.elim
    · exact t.elim
theorem se_add {a b : Expr} {ma mb : EM} {pos : Pos} (ha : PE X a (tM X.K W ma)) (hb : PE X b (tM X.K W mb)) : PE X (.BinOp a .Add b pos) (tM X.K W (mBin uAdd ma mb)) := se_bin opr_add ok_add ha hb
/-- ints under a condition -/
def uI (c : Int → Int → Prop) [∀ i j, Decidable (c i j)] (f : Int → Int → Int) (x y : U) (h : Sto) : R U := match x, y with
  | .int i, .int j => if c i j then .ok (.int (f i j)) h else .bad
  | _, _ => .bad
theorem ok_I {C : Int → Int → Prop} {c : Int → Int → Prop} [∀ i j, Decidable (c i j)] {f : Int → Int → Int} (hc : ∀ i j, c i j → C i j) : BinOK K (rI C fun i j => .int (f i j)) (uI c f) := by
  intro E g H h v w x y Q hr rx ry t
  unfold uI at t
  split at t
  · cases rx; cases ry
    split at t
    · rename_i z
      exact ⟨_, _, rfl, rfl, hc _ _ z, t _ _ g (Le.refl g) hr (.int _)⟩
    · exact t.elim
  · exact t.elim
def cT (_ _ : Int) : Prop := True
instance : ∀ i j, Decidable (cT i j) := fun _ _ => isTrue trivial
def cMul (i j : Int) : Prop := (-18446744073709551616 < i ∧ i < 18446744073709551616) ∨ (-18446744073709551616 < j ∧ j < 18446744073709551616)
instance : ∀ i j, Decidable (cMul i j) := fun i j => by unfold cMul; exact inferInstance
def cDiv (_ j : Int) : Prop := 0 < j ∧ j < 1073741824
instance : ∀ i j, Decidable (cDiv i j) := fun i j => by unfold cDiv; exact inferInstance
def cMod (_ j : Int) : Prop := 0 < j
instance : ∀ i j, Decidable (cMod i j) := fun i j => by unfold cMod; exact inferInstance
def cPow (i j : Int) : Prop := 0 ≤ j ∧ j ≤ 1000 ∧ 0 ≤ i ∧ i < 1000
instance : ∀ i j, Decidable (cPow i j) := fun i j => by unfold cPow; exact inferInstance
abbrev uSub := uI cT (fun i j => i - j)
abbrev uMul := uI cMul (fun i j => i * j)
abbrev uDiv := uI cDiv (fun i j => i / j)
abbrev uMod := uI cMod (fun i j => i % j)
abbrev uPow := uI cPow (fun i j => i ^ j.toNat)
theorem se_sub {a b : Expr} {ma mb : EM} {pos : Pos} (ha : PE X a (tM K W ma)) (hb : PE X b (tM K W mb)) : PE X (.BinOp a .Sub b pos) (tM K W (mBin uSub ma mb)) :=
  PE.weak (pe_op op_sub ha hb) fun σ H Q t => bin_to (r := rI0 fun i j => .int (i - j)) (fun E g H h v w x y Q hr rx ry t => by
    obtain ⟨i, j, e1, e2, _, q⟩ := ok_I (C := fun _ _ => True) (c := cT) (fun _ _ _ => trivial) E g H h v w x y Q hr rx ry t
    exact ⟨i, j, e1, e2, q⟩) t
theorem se_mul {a b : Expr} {ma mb : EM} {pos : Pos} (ha : PE X a (tM K W ma)) (hb : PE X b (tM K W mb)) : PE X (.BinOp a .Mult b pos) (tM K W (mBin uMul ma mb)) :=
  se_bin op_mul (ok_I fun i j c => by unfold cMul at c; unfold CMul; omega) ha hb
theorem se_div {a b : Expr} {ma mb : EM} {pos : Pos} (ha : PE X a (tM K W ma)) (hb : PE X b (tM K W mb)) : PE X (.BinOp a .FloorDiv b pos) (tM K W (mBin uDiv ma mb)) := se_bin op_fdiv (ok_I fun _ _ c => c) ha hb
theorem se_mod {a b : Expr} {ma mb : EM} {pos : Pos} (ha : PE X a (tM K W ma)) (hb : PE X b (tM K W mb)) : PE X (.BinOp a .Mod b pos) (tM K W (mBin uMod ma mb)) := se_bin op_mod (ok_I fun _ _ c => c) ha hb
theorem se_pow {a b : Expr} {ma mb : EM} {pos : Pos} (ha : PE X a (tM K W ma)) (hb : PE X b (tM K W mb)) : PE X (.BinOp a .Pow b pos) (tM K W (mBin uPow ma mb)) :=
  se_bin op_pow (ok_I fun i j c => by unfold cPow at c; unfold CPow; omega) ha hb
/-- -a -/
def mNeg (a : EM) : EM := fun env h => (a env h).bind fun x h1 => match x with
  | .int i => .ok (.int (-i)) h1
  | _ => .bad
theorem se_neg {a : Expr} {ma : EM} {pos : Pos} (ha : PE X a (tM K W ma)) : PE X (.UnaryOp .USub a pos) (tM K W (mNeg ma)) := by
  refine PE.weak (pe_un un_neg ha) fun σ H Q ⟨g, env, h, hr, er, w⟩ => ⟨g, env, h, hr, er, ?_⟩
  unfold mNeg at w
  cases ea : ma env h with
  | bad => rw [ea] at w; exact w.elim
  | exc C n h => rw [ea] at w; exact w
  | ok x h1 =>
    rw [ea] at w
    intro v H1 g1 l1 hr1 rv
    cases rv with
    | int i => exact ⟨i, rfl, w _ H1 g1 l1 hr1 (.int _)⟩
    | _ => exact w.elim
/-! ### comparisons -/
def CmpOK (K : Fr) (r : R2) (f : Sto → U → U → Option Bool) : Prop := ∀ g H h v w x y (b : Bool) Q, HR K g H h → Rep K g v x → Rep K g w y → f h x y = some b → Q (.bl b) H → r v w H Q
def oB (o : Option Bool) (h : Sto) : R Bool := match o with
  | some b => .ok b h
  | none => .bad
def bCmp (f : Sto → U → U → Option Bool) (a b : EM) : TM := fun env h => (a env h).bind fun x h1 => (b env h1).bind fun y h2 => oB (f h2 x y) h2
/-- a test as a value -/
def mB (t : TM) : EM := fun env h => (t env h).bind fun b h1 => .ok (.bl b) h1
theorem cmp_to {a b : EM} {f : Sto → U → U → Option Bool} {r : R2} (ok : CmpOK K r f) {σ : L2.St} {Q : VK} {P : Bool → Hp → Prop} (t : bM K W (bCmp f a b) σ H P) (hq : ∀ b H, P b H → Q (.bl b) H) : tOp r (tM K W a) (tM K W b) σ H Q := by
  obtain ⟨g, env, h, hr, er, w⟩ := t
  refine ⟨g, env, h, hr, er, ?_⟩
  unfold bCmp at w
  cases ea : a env h with
  | bad => rw [ea] at w; exact w.elim
  | exc C n h => rw [ea] at w; exact w
  | ok x h1 =>
    rw [ea] at w
    have w : WT K (atSl W σ) g ((b env h1).bind fun y h2 => oB (f h2 x y) h2) P := w
    intro v H1 g1 l1 hr1 rv
    refine ⟨g1, env, h1, hr1, er.mono l1, ?_⟩
    cases eb : b env h1 with
    | bad => rw [eb] at w; exact w.elim
    | exc C n h => rw [eb] at w; exact fun H2 g2 d l2 => w H2 g2 d (l1.trans l2)
    | ok y h2 =>
      rw [eb] at w
      intro u H2 g2 l2 hr2 ru
      have w : WT K (atSl W σ) g (oB (f h2 x y) h2) P := w
      cases ef : f h2 x y with
      | none => rw [ef] at w; exact w.elim
      | some c =>
        rw [ef] at w
        exact ok g2 H2 h2 v u x y c Q hr2 (rv.mono l2) ru ef (hq _ _ (w H2 g2 (l1.trans l2) hr2))
theorem bt_cmp {op : CmpOp} {r : R2} {f : Sto → U → U → Option Bool} {a b : Expr} {ma mb : EM} {pos : Pos} (ho : OpR X (compareOp op) r) (ok : CmpOK K r f) (ha : PE X a (tM K W ma)) (hb : PE X b (tM K W mb)) (hm : behindInMarks op b = false) :
    PT X (.Compare a [op] [b] pos) (bM K W (bCmp f ma mb)) := PT.weak (pt_cmpR ho ha hb hm) fun σ H Q t => cmp_to ok t fun b H q => ⟨b, rfl, q⟩
/-- a test as a value, by a rule of values -/
theorem mB_to {t : TM} {σ : L2.St} {Q : VK} (q : tM K W (mB t) σ H Q) : bM K W t σ H fun b H => Q (.bl b) H := by
  obtain ⟨g, env, h, hr, er, w⟩ := q
  refine ⟨g, env, h, hr, er, ?_⟩
  unfold mB at w
  cases et : t env h with
  | bad => rw [et] at w; exact w.elim
  | exc C n h => rw [et] at w; exact w
  | ok b h1 => rw [et] at w; exact fun H g' l hr' => w _ H g' l hr' (.bl b)
theorem se_cmp {op : CmpOp} {r : R2} {f : Sto → U → U → Option Bool} {a b : Expr} {ma mb : EM} {pos : Pos} (ho : OpR X (compareOp op) r) (ok : CmpOK K r f) (ha : PE X a (tM K W ma)) (hb : PE X b (tM K W mb)) (hm : behindInMarks op b = false) :
    PE X (.Compare a [op] [b] pos) (tM K W (mB (bCmp f ma mb))) := PE.weak (pe_cmpR ho ha hb hm) fun σ H Q t => cmp_to ok (mB_to t) fun b H q => q
def cEq0 (_ : Sto) (x y : U) : Option Bool := match x, y with
  | .int i, .int j => some (decide (i = j))
  | .str i, .str j => some (decide (i = j))
  | .bl i, .bl j => some (decide (i = j))
  | .non, .non => some true
  | .int _, .str _ => some false
  | .str _, .int _ => some false
  | .non, .int _ => some false
  | .int _, .non => some false
  | .non, .str _ => some false
  | .str _, .non => some false
  | .non, .bl _ => some false
  | .bl _, .non => some false
  | .bl _, .str _ => some false
  | .str _, .bl _ => some false
  | _, _ => none
def cEq (h : Sto) (x y : U) : Option Bool := match x, y with
  | .int i, .int j => some (decide (i = j))
  | .str i, .str j => some (decide (i = j))
  | .bl i, .bl j => some (decide (i = j))
  | .non, .non => some true
  | .int _, .str _ => some false
  | .str _, .int _ => some false
  | .non, .int _ => some false
  | .int _, .non => some false
  | .non, .str _ => some false
  | .str _, .non => some false
  | .non, .bl _ => some false
  | .bl _, .non => some false
  | .bl _, .str _ => some false
  | .str _, .bl _ => some false
  | x, y => eqP h x y
theorem cEq_cases (h : Sto) (x y : U) : cEq h x y = cEq0 h x y ∨ cEq h x y = eqP h x y := by
  cases x <;> cases y <;> first | exact .inl rfl | exact .inr rfl
theorem str_eq (s t : List Nat) : ((⟨s.toArray⟩ : Str) = ⟨t.toArray⟩) ↔ s = t := ⟨fun e => by
  have := congrArg tl e
  rwa [tl_mk, tl_mk] at this, fun e => by rw [e]⟩
theorem eq_core {v w : V} {x y : U} {b : Bool} (rx : Rep K g v x) (ry : Rep K g w y) (e : cEq0 h x y = some b) : scal v w = true ∧ decide (v = w) = b := by
  unfold cEq0 at e
  split at e <;> cases rx <;> cases ry <;> cases e <;> refine ⟨rfl, ?_⟩ <;> simp [str_eq]
abbrev rEqA (K : Fr) : R2 := fun x y H Q => rEq x y H Q ∨ rEqD K x y H Q
abbrev rNeA (K : Fr) : R2 := fun x y H Q => rNe x y H Q ∨ rNeD K x y H Q
theorem ok_eq : CmpOK K (rEqA K) cEq := fun g H h v w x y b Q hr rx ry e q => by
  rcases cEq_cases h x y with e2 | e2
  · rw [e2] at e
    obtain ⟨h1, h2⟩ := eq_core rx ry e
    exact .inl ⟨h1, by rw [h2]; exact q⟩
  · rw [e2] at e
    obtain ⟨d1, d2, q1, q2, q3, q4, q5⟩ := eqP_of hr rx ry e
    exact .inr ⟨d1, d2, q1, q2, q3, q4, by rw [q5]; exact q⟩
def cNe (h : Sto) (x y : U) : Option Bool := (cEq h x y).map not
theorem ok_ne : CmpOK K (rNeA K) cNe := fun g H h v w x y b Q hr rx ry e q => by
  unfold cNe at e
  cases e3 : cEq h x y with
  | none => rw [e3] at e; cases e
  | some c =>
    rw [e3] at e
    cases e
    rcases cEq_cases h x y with e2 | e2
    · rw [e2] at e3
      obtain ⟨h1, h2⟩ := eq_core rx ry e3
      exact .inl ⟨h1, by rw [h2]; exact q⟩
    · rw [e2] at e3
      obtain ⟨d1, d2, q1, q2, q3, q4, q5⟩ := eqP_of hr rx ry e3
      exact .inr ⟨d1, d2, q1, q2, q3, q4, by rw [q5]; exact q⟩
theorem hu64 {A : Around} {k : Nat} (hr : Room k A) : A.units + 64 < cLine := by have := hr.un; omega
theorem hu65 {A : Around} {k : Nat} (hr : Room k A) : A.units + 65 < cLine := by have := hr.un; omega
def cI (p : Int → Int → Bool) (_ : Sto) (x y : U) : Option Bool := match x, y with
  | .int i, .int j => some (p i j)
  | _, _ => none
theorem ok_cI {p : Int → Int → Bool} : CmpOK K (rI0 fun i j => .bl (p i j)) (cI p) := fun g H h v w x y b Q hr rx ry e q => by
  unfold cI at e
  split at e
  · cases rx; cases ry; cases e
    exact ⟨_, _, rfl, rfl, q⟩
  · cases e
abbrev cLt := cI fun i j => decide (i < j)
abbrev cLe := cI fun i j => decide (i ≤ j)
abbrev cGt := cI fun i j => decide (j < i)
abbrev cGe := cI fun i j => decide (j ≤ i)
section
variable {a b : Expr} {ma mb : EM} {pos : Pos} (ha : PE X a (tM K W ma)) (hb : PE X b (tM K W mb))
include ha hb
theorem bt_lt : PT X (.Compare a [.Lt] [b] pos) (bM K W (bCmp cLt ma mb)) := bt_cmp op_lt ok_cI ha hb (nomark _)
theorem bt_le : PT X (.Compare a [.LtE] [b] pos) (bM K W (bCmp cLe ma mb)) := bt_cmp op_le ok_cI ha hb (nomark _)
theorem bt_gt : PT X (.Compare a [.Gt] [b] pos) (bM K W (bCmp cGt ma mb)) := bt_cmp op_gt ok_cI ha hb (nomark _)
theorem bt_ge : PT X (.Compare a [.GtE] [b] pos) (bM K W (bCmp cGe ma mb)) := bt_cmp op_ge ok_cI ha hb (nomark _)
theorem se_lt : PE X (.Compare a [.Lt] [b] pos) (tM K W (mB (bCmp cLt ma mb))) := se_cmp op_lt ok_cI ha hb (nomark _)
theorem se_le : PE X (.Compare a [.LtE] [b] pos) (tM K W (mB (bCmp cLe ma mb))) := se_cmp op_le ok_cI ha hb (nomark _)
theorem se_gt : PE X (.Compare a [.Gt] [b] pos) (tM K W (mB (bCmp cGt ma mb))) := se_cmp op_gt ok_cI ha hb (nomark _)
theorem se_ge : PE X (.Compare a [.GtE] [b] pos) (tM K W (mB (bCmp cGe ma mb))) := se_cmp op_ge ok_cI ha hb (nomark _)
end
section
variable {a b : Expr} {ma mb : EM} {pos : Pos} {k : Nat} (hr : Room k X.A) (ha : PE X a (tM X.K W ma)) (hb : PE X b (tM X.K W mb))
include hr ha hb
theorem bt_eq : PT X (.Compare a [.Eq] [b] pos) (bM X.K W (bCmp cEq ma mb)) := bt_cmp (op_eq.or (op_eqD (hu64 hr))) ok_eq ha hb (nomark _)
theorem bt_ne : PT X (.Compare a [.NotEq] [b] pos) (bM X.K W (bCmp cNe ma mb)) := bt_cmp (op_ne.or (op_neD (hu64 hr))) ok_ne ha hb (nomark _)
theorem se_eq : PE X (.Compare a [.Eq] [b] pos) (tM X.K W (mB (bCmp cEq ma mb))) := se_cmp (op_eq.or (op_eqD (hu64 hr))) ok_eq ha hb (nomark _)
theorem se_ne : PE X (.Compare a [.NotEq] [b] pos) (tM X.K W (mB (bCmp cNe ma mb))) := se_cmp (op_ne.or (op_neD (hu64 hr))) ok_ne ha hb (nomark _)
end
/-- is None -/
def cIs (_ : Sto) (x y : U) : Option Bool := match y with
  | .non => some (match x with
    | .non => true
    | _ => false)
  | _ => none
def cIsN (h : Sto) (x y : U) : Option Bool := (cIs h x y).map not
theorem is_core {v w : V} {x y : U} {b : Bool} (rx : Rep K g v x) (ry : Rep K g w y) (e : cIs h x y = some b) : w = .non ∧ decide (v = .non) = b := by
  unfold cIs at e
  split at e
  · cases ry
    refine ⟨rfl, ?_⟩
    cases rx <;> cases e <;> simp
  · cases e
theorem ok_is : CmpOK K (fun x y H Q => y = .non ∧ Q (.bl (decide (x = .non))) H) cIs := fun g H h v w x y b Q hr rx ry e q => by
  obtain ⟨h1, h2⟩ := is_core rx ry e
  exact ⟨h1, by rw [h2]; exact q⟩
theorem ok_isN : CmpOK K (fun x y H Q => y = .non ∧ Q (.bl (!decide (x = .non))) H) cIsN := fun g H h v w x y b Q hr rx ry e q => by
  unfold cIsN at e
  cases e2 : cIs h x y with
  | none => rw [e2] at e; cases e
  | some c =>
    rw [e2] at e
    cases e
    obtain ⟨h1, h2⟩ := is_core rx ry e2
    exact ⟨h1, by rw [h2]; exact q⟩
/-- in a list or tuple of flat things -/
def flatU : U → Bool
  | .non => true
  | .bl _ => true
  | .int _ => true
  | .str _ => true
  | _ => false
def eqF : U → U → Bool
  | .non, .non => true
  | .bl a, .bl b => a == b
  | .bl a, .int b => (if a then 1 else 0) == b
  | .int a, .bl b => a == (if b then 1 else 0)
  | .int a, .int b => a == b
  | .str a, .str b => a == b
  | _, _ => false
def inF (x : U) (us : List U) : Bool := us.any fun y => eqF y x
theorem flat_of {v : V} {x : U} (r : Rep K g v x) (f : flatU x = true) : flatV v = true := by cases r <;> first | rfl | cases f
theorem flats_of : ∀ {vs : List V} {us : List U}, Reps K g vs us → us.all flatU = true → vs.all flatV = true
  | _, _, .nil, _ => rfl
  | _, _, .cons h r, f => by
    rw [List.all_cons, Bool.and_eq_true] at f
    rw [List.all_cons, flat_of h f.1, flats_of r f.2]; rfl
theorem eqF_of {v w : V} {x y : U} (rx : Rep K g v x) (ry : Rep K g w y) (fx : flatU x = true) (fy : flatU y = true) : eqV v w = eqF x y := by
  cases rx <;> cases ry <;> first | cases fx; done | cases fy; done | rfl | skip
  rename_i s t
  show ((⟨s.toArray⟩ : Str) == ⟨t.toArray⟩) = (s == t)
  by_cases e : s = t
  · subst e; simp
  · rw [beq_eq_false_iff_ne.mpr e, beq_eq_false_iff_ne.mpr fun z => e ((str_eq s t).mp z)]
theorem inF_of {v : V} {x : U} (rx : Rep K g v x) (fx : flatU x = true) : ∀ {vs : List V} {us : List U}, Reps K g vs us → us.all flatU = true → inV v vs = inF x us
  | _, _, .nil, _ => rfl
  | _, _, .cons h r, f => by
    rw [List.all_cons, Bool.and_eq_true] at f
    show (eqV _ v || inV v _) = (eqF _ x || inF x _)
    rw [eqF_of h rx f.1 fx, inF_of rx fx r f.2]
/-- .. of data -/
def inP (h : Sto) (x y : U) : Option Bool := match pyd 60 h x, pyd 60 h y with
  | some d, some (.list ds) => if SeqAt.shaped d = true ∧ SeqAt.shaped (.list ds) = true then some (ds.any fun z => PyData.eqv z d) else none
  | _, _ => none
def cIn (h : Sto) (x y : U) : Option Bool := match sL h y with
  | some us => if flatU x = true ∧ us.all flatU = true then some (inF x us) else inP h x y
  | none => none
def cNin (h : Sto) (x y : U) : Option Bool := (cIn h x y).map not
abbrev rInA (K : Fr) : R2 := fun x y H Q => rIn K false x y H Q ∨ rInD K x y H Q
abbrev rNinA (K : Fr) : R2 := fun x y H Q => rIn K true x y H Q ∨ rNotInD K x y H Q
theorem ok_in : CmpOK K (rInA K) cIn := fun g H h v w x y b Q hr rx ry e q => by
  unfold cIn at e
  split at e
  · rename_i us e1
    split at e
    · rename_i c
      cases e
      obtain ⟨a, vs, rfl, h1, r1⟩ := sL_of hr ry e1
      refine .inl ⟨a, vs, rfl, h1, flat_of rx c.1, flats_of r1 c.2, ?_⟩
      rw [inF_of rx c.1 r1 c.2]
      exact q
    · unfold inP at e
      split at e
      · rename_i d ds e2 e3
        split at e
        · rename_i z
          cases e
          exact .inr ⟨d, ds, dp_of hr _ _ _ _ rx e2, dp_of hr _ _ _ _ ry e3, z.1, z.2, q⟩
        · cases e
      · cases e
  · cases e
theorem ok_nin : CmpOK K (rNinA K) cNin := fun g H h v w x y b Q hr rx ry e q => by
  unfold cNin at e
  cases e0 : cIn h x y with
  | none => rw [e0] at e; cases e
  | some c0 =>
    rw [e0] at e
    cases e
    unfold cIn at e0
    split at e0
    · rename_i us e1
      split at e0
      · rename_i c
        cases e0
        obtain ⟨a, vs, rfl, h1, r1⟩ := sL_of hr ry e1
        refine .inl ⟨a, vs, rfl, h1, flat_of rx c.1, flats_of r1 c.2, ?_⟩
        rw [inF_of rx c.1 r1 c.2]
        exact q
      · unfold inP at e0
        split at e0
        · rename_i d ds e2 e3
          split at e0
          · rename_i z
            cases e0
            exact .inr ⟨d, ds, dp_of hr _ _ _ _ rx e2, dp_of hr _ _ _ _ ry e3, z.1, z.2, q⟩
          · cases e0
        · cases e0
    · cases e0
section
variable {a b : Expr} {ma mb : EM} {pos : Pos} (ha : PE X a (tM X.K W ma)) (hb : PE X b (tM X.K W mb))
include ha hb
theorem bt_is : PT X (.Compare a [.Is] [b] pos) (bM X.K W (bCmp cIs ma mb)) := bt_cmp op_isN ok_is ha hb (nomark _)
theorem bt_isnot : PT X (.Compare a [.IsNot] [b] pos) (bM X.K W (bCmp cIsN ma mb)) := bt_cmp op_notN ok_isN ha hb (nomark _)
theorem se_is : PE X (.Compare a [.Is] [b] pos) (tM X.K W (mB (bCmp cIs ma mb))) := se_cmp op_isN ok_is ha hb (nomark _)
theorem se_isnot : PE X (.Compare a [.IsNot] [b] pos) (tM X.K W (mB (bCmp cIsN ma mb))) := se_cmp op_notN ok_isN ha hb (nomark _)
variable {k : Nat} (hr : Room k X.A)
include hr
theorem bt_in (hm : behindInMarks .In b = false := by rfl) : PT X (.Compare a [.In] [b] pos) (bM X.K W (bCmp cIn ma mb)) := bt_cmp (op_in_seq.or (op_inD (hu65 hr))) ok_in ha hb hm
theorem bt_nin (hm : behindInMarks .NotIn b = false := by rfl) : PT X (.Compare a [.NotIn] [b] pos) (bM X.K W (bCmp cNin ma mb)) := bt_cmp (op_notIn_seq.or (op_notInD (hu65 hr))) ok_nin ha hb hm
theorem se_in (hm : behindInMarks .In b = false := by rfl) : PE X (.Compare a [.In] [b] pos) (tM X.K W (mB (bCmp cIn ma mb))) := se_cmp (op_in_seq.or (op_inD (hu65 hr))) ok_in ha hb hm
theorem se_nin (hm : behindInMarks .NotIn b = false := by rfl) : PE X (.Compare a [.NotIn] [b] pos) (tM X.K W (mB (bCmp cNin ma mb))) := se_cmp (op_notIn_seq.or (op_notInD (hu65 hr))) ok_nin ha hb hm
end
end
end Q

set_option Elab.async false
set_option linter.all false
set_option maxRecDepth 100000
set_option maxHeartbeats 1000000
namespace Q
open PySem PySem.Spec PyProof.Rows L2 TL
section
variable {K : Fr} {g g' : G} {E : XK} {W : WX} {X : Cx} {H : Hp} {h : Sto} {v w : V} {x y : U} {a b c e o : Expr} {es rest : List Expr} {ma mb mc me : EM} {ta tb : TM} {pos : Pos}
/-! ### parts -/
/-- from the end of a part to what is behind it -/
theorem wE {r : R U} {f : U → Sto → R U} {Q P : VK} (t : WE K E g (r.bind f) Q) (k : ∀ u h v H g', Le g g' → HR K g' H h → Rep K g' v u → WE K E g' (f u h) Q → P v H) : WE K E g r P := by
  cases r with
  | bad => exact t
  | exc C n h => exact t
  | ok u h => exact fun v H g' l hr rv => k u h v H g' l hr rv (WE.mono l t)
theorem wT {r : R Bool} {f : Bool → Sto → R U} {Q : VK} {P : Bool → Hp → Prop} (t : WE K E g (r.bind f) Q) (k : ∀ u h H g', Le g g' → HR K g' H h → WE K E g' (f u h) Q → P u H) : WT K E g r P := by
  cases r with
  | bad => exact t
  | exc C n h => exact t
  | ok u h => exact fun H g' l hr => k u h H g' l hr (WE.mono l t)
theorem wA {r : R (List U)} {f : List U → Sto → R U} {Q : VK} {P : List V → Hp → Prop} (t : WE K E g (r.bind f) Q) (k : ∀ u h v H g', Le g g' → HR K g' H h → Reps K g' v u → WE K E g' (f u h) Q → P v H) : WA K E g r P := by
  cases r with
  | bad => exact t
  | exc C n h => exact t
  | ok u h => exact fun v H g' l hr rv => k u h v H g' l hr rv (WE.mono l t)
theorem wET {r : R U} {f : U → Sto → R Bool} {Q : Bool → Hp → Prop} {P : VK} (t : WT K E g (r.bind f) Q) (k : ∀ u h v H g', Le g g' → HR K g' H h → Rep K g' v u → WT K E g' (f u h) Q → P v H) : WE K E g r P := by
  cases r with
  | bad => exact t
  | exc C n h => exact t
  | ok u h => exact fun v H g' l hr rv => k u h v H g' l hr rv (WT.mono l t)
theorem wTT {r : R Bool} {f : Bool → Sto → R Bool} {Q P : Bool → Hp → Prop} (t : WT K E g (r.bind f) Q) (k : ∀ u h H g', Le g g' → HR K g' H h → WT K E g' (f u h) Q → P u H) : WT K E g r P := by
  cases r with
  | bad => exact t
  | exc C n h => exact t
  | ok u h => exact fun H g' l hr => k u h H g' l hr (WT.mono l t)
theorem wEA {r : R U} {f : U → Sto → R (List U)} {Q : List V → Hp → Prop} {P : VK} (t : WA K E g (r.bind f) Q) (k : ∀ u h v H g', Le g g' → HR K g' H h → Rep K g' v u → WA K E g' (f u h) Q → P v H) : WE K E g r P := by
  cases r with
  | bad => exact t
  | exc C n h => exact t
  | ok u h => exact fun v H g' l hr rv => k u h v H g' l hr rv (WA.mono l t)
theorem wAA {r : R (List U)} {f : List U → Sto → R (List U)} {Q P : List V → Hp → Prop} (t : WA K E g (r.bind f) Q) (k : ∀ u h v H g', Le g g' → HR K g' H h → Reps K g' v u → WA K E g' (f u h) Q → P v H) : WA K E g r P := by
  cases r with
  | bad => exact t
  | exc C n h => exact t
  | ok u h => exact fun v H g' l hr rv => k u h v H g' l hr rv (WA.mono l t)

/-! ### tests -/
def bAnd (a b : TM) : TM := fun env h => (a env h).bind fun c h1 => if c = true then b env h1 else .ok false h1
def bOr (a b : TM) : TM := fun env h => (a env h).bind fun c h1 => if c = true then .ok true h1 else b env h1
def bNot (a : TM) : TM := fun env h => (a env h).bind fun c h1 => .ok (!c) h1
theorem bw_and1 (ha : PT X a (bM K W ta)) : PW X (.BoolOp .And [a] pos) (bM K W ta) := pw_and1 ha
theorem bw_or1 (ha : PT X a (bM K W ta)) : PW X (.BoolOp .Or [a] pos) (bM K W ta) := pw_or1 ha
theorem bw_and (ha : PT X a (bM K W ta)) (hb : PW X (.BoolOp .And (b :: rest) pos) (bM K W tb)) : PW X (.BoolOp .And (a :: b :: rest) pos) (bM K W (bAnd ta tb)) :=
  PW.weak (pw_and ha hb) fun σ H Q ⟨g, env, h, hr, er, w⟩ => ⟨g, env, h, hr, er, wTT w fun c h1 H1 g1 l1 hr1 w1 => by
    cases c with
    | true => exact ⟨g1, env, h1, hr1, er.mono l1, w1⟩
    | false => exact w1 H1 g1 (Le.refl _) hr1⟩
theorem bw_or (ha : PT X a (bM K W ta)) (hb : PW X (.BoolOp .Or (b :: rest) pos) (bM K W tb)) : PW X (.BoolOp .Or (a :: b :: rest) pos) (bM K W (bOr ta tb)) :=
  PW.weak (pw_or ha hb) fun σ H Q ⟨g, env, h, hr, er, w⟩ => ⟨g, env, h, hr, er, wTT w fun c h1 H1 g1 l1 hr1 w1 => by
    cases c with
    | false => exact ⟨g1, env, h1, hr1, er.mono l1, w1⟩
    | true => exact w1 H1 g1 (Le.refl _) hr1⟩
theorem bt_not (ha : PT X a (bM K W ta)) : PT X (.UnaryOp .Not a pos) (bM K W (bNot ta)) :=
  PT.weak (pt_not ha) fun σ H Q ⟨g, env, h, hr, er, w⟩ => ⟨g, env, h, hr, er, wTT w fun c h1 H1 g1 l1 hr1 w1 => w1 H1 g1 (Le.refl _) hr1⟩
/-- the truth of a value -/
def truU (h : Sto) : U → Option Bool
  | .non => some false
  | .bl b => some b
  | .int i => some (i != 0)
  | .str s => if s.length ≤ 16000000 then some (!s.isEmpty) else none
  | .ref n => match h[n]? with
    | some (.lst us) => some (!us.isEmpty)
    | some (.dK kvs) => some (!kvs.isEmpty)
    | _ => none
  | .tup us => some (!us.isEmpty)
  | .fl us => some (!us.isEmpty)
  | .kl us => some (!us.isEmpty)
  | .xv _ _ _ _ => none
theorem Reps.emp : ∀ {vs : List V} {us : List U}, Reps K g vs us → (!us.isEmpty) = !vs.isEmpty
  | _, _, .nil => rfl
  | _, _, .cons _ _ => rfl
theorem RepK.emp : ∀ {vs us}, RepK K g vs us → (!us.isEmpty) = !vs.isEmpty
  | _, _, .nil => rfl
  | _, _, .cons _ _ => rfl
theorem tru_of {k : Bool} (hr : HR K g H h) (r : Rep K g v x) (q : truU h x = some k) : TruV K v H k := by
  cases r with
  | non => cases q; rfl
  | bl b => cases q; rfl
  | int i => cases q; rfl
  | str s =>
    simp only [truU] at q
    split at q
    · rename_i z
      cases q
      refine ⟨by rw [str_len]; exact sz16 z, ?_⟩
      rw [str_len]
      cases s with
      | nil => rfl
      | cons c r => simp; omega
    · cases q
  | tup t r => cases q; exact .inr (.inl ⟨_, hr.sqT t, r.emp⟩)
  | fl t r => cases q; exact .inl ⟨_, .inl (.inl (hr.ex _ _ t)), r.emp⟩
  | kl t r => cases q; exact .inl ⟨_, hr.sqL t, r.emp⟩
  | ref t =>
    rename_i a n
    simp only [truU] at q
    split at q
    · rename_i us e
      cases q
      obtain ⟨vs, h1, h2⟩ := hr.ob n a _ t e
      exact .inl ⟨_, .inl (.inl h1), h2.emp⟩
    · rename_i us e
      cases q
      obtain ⟨vs, h1, h2⟩ := hr.ob n a _ t e
      exact .inr (.inr ⟨_, h1, h2.emp⟩)
    · cases q
  | xv _ => cases q
def bTru (a : EM) : TM := fun env h => (a env h).bind fun x h1 => oB (truU h1 x) h1
theorem bt_tru (ha : PE X a (tM X.K W ma)) (he : ∀ whole, isTrue a X.env whole = (do let v ← whole; standAt a.pos; holding [v] (truthy v)) := by intro _; rfl) : PT X a (bM X.K W (bTru ma)) :=
  PT.weak (pt_truth ha he) fun σ H Q ⟨g, env, h, hr, er, w⟩ => ⟨g, env, h, hr, er, wET w fun u h1 v H1 g1 l1 hr1 rv w1 => by
    cases et : truU h1 u with
    | none => rw [et] at w1; exact w1.elim
    | some k =>
      rw [et] at w1
      exact ⟨k, tru_of hr1 rv et, w1 H1 g1 (Le.refl _) hr1⟩⟩
/-- and, or, not as values of bools -/
def mAnd (a b : EM) : EM := fun env h => (a env h).bind fun x h1 => match x with
  | .bl true => b env h1
  | .bl false => .ok (.bl false) h1
  | _ => .bad
def mOr (a b : EM) : EM := fun env h => (a env h).bind fun x h1 => match x with
  | .bl false => b env h1
  | .bl true => .ok (.bl true) h1
  | _ => .bad
def mNot (a : EM) : EM := fun env h => (a env h).bind fun x h1 => match x with
  | .bl c => .ok (.bl (!c)) h1
  | _ => .bad
theorem se_one {op} (h : PE X a (tM K W ma)) : PE X (.BoolOp op [a] pos) (tM K W ma) := pe_one h
theorem se_and (ha : PE X a (tM K W ma)) (hb : PE X (.BoolOp .And (b :: rest) pos) (tM K W mb)) : PE X (.BoolOp .And (a :: b :: rest) pos) (tM K W (mAnd ma mb)) :=
  PE.weak (pe_and ha hb) fun σ H Q ⟨g, env, h, hr, er, w⟩ => ⟨g, env, h, hr, er, wE w fun u h1 v H1 g1 l1 hr1 rv w1 => by
    cases rv with
    | bl c =>
      cases c with
      | true => exact ⟨true, rfl, g1, env, h1, hr1, er.mono l1, w1⟩
      | false => exact ⟨false, rfl, w1 _ H1 g1 (Le.refl _) hr1 (.bl _)⟩
    | _ => exact w1.elim⟩
theorem se_or (ha : PE X a (tM K W ma)) (hb : PE X (.BoolOp .Or (b :: rest) pos) (tM K W mb)) : PE X (.BoolOp .Or (a :: b :: rest) pos) (tM K W (mOr ma mb)) :=
  PE.weak (pe_or ha hb) fun σ H Q ⟨g, env, h, hr, er, w⟩ => ⟨g, env, h, hr, er, wE w fun u h1 v H1 g1 l1 hr1 rv w1 => by
    cases rv with
    | bl c =>
      cases c with
      | false => exact ⟨false, rfl, g1, env, h1, hr1, er.mono l1, w1⟩
      | true => exact ⟨true, rfl, w1 _ H1 g1 (Le.refl _) hr1 (.bl _)⟩
    | _ => exact w1.elim⟩
theorem se_not (ha : PE X a (tM K W ma)) : PE X (.UnaryOp .Not a pos) (tM K W (mNot ma)) :=
  PE.weak (pe_not ha) fun σ H Q ⟨g, env, h, hr, er, w⟩ => ⟨g, env, h, hr, er, wE w fun u h1 v H1 g1 l1 hr1 rv w1 => by
    cases rv with
    | bl c => exact ⟨c, rfl, w1 _ H1 g1 (Le.refl _) hr1 (.bl _)⟩
    | _ => exact w1.elim⟩
/-- a if t else b -/
def mIf (t : TM) (a b : EM) : EM := fun env h => (t env h).bind fun c h1 => if c = true then a env h1 else b env h1
theorem se_if (hc : PT X c (bM K W ta)) (ha : PE X a (tM K W ma)) (hb : PE X b (tM K W mb)) : PE X (.IfExp c a b pos) (tM K W (mIf ta ma mb)) :=
  PE.weak (pe_ifExp hc ha hb) fun σ H Q ⟨g, env, h, hr, er, w⟩ => ⟨g, env, h, hr, er, wT w fun c h1 H1 g1 l1 hr1 w1 => by
    cases c with
    | true => exact ⟨g1, env, h1, hr1, er.mono l1, w1⟩
    | false => exact ⟨g1, env, h1, hr1, er.mono l1, w1⟩⟩

/-! ### arguments, displays -/
def aNil : AM := fun _ h => .ok [] h
def aCons (a : EM) (r : AM) : AM := fun env h => (a env h).bind fun x h1 => (r env h1).bind fun xs h2 => .ok (x :: xs) h2
variable {am : AM}
theorem sa_nil : PA X [] (aM K W aNil) := PA.weak pa_nil fun σ H Q ⟨g, env, h, hr, er, w⟩ => w [] H g (Le.refl _) hr .nil
theorem sa_cons (ha : PE X e (tM K W me)) (hr : PA X es (aM K W am)) (hs : starEach (e :: es) X.env = (false, eval e X.env) :: starEach es X.env := by rfl) : PA X (e :: es) (aM K W (aCons me am)) :=
  PA.weak (pa_cons ha hr hs) fun σ H Q ⟨g, env, h, hr, er, w⟩ => ⟨g, env, h, hr, er, wEA w fun u h1 v H1 g1 l1 hr1 rv w1 =>
    ⟨g1, env, h1, hr1, er.mono l1, wAA w1 fun us h2 vs H2 g2 l2 hr2 rvs w2 => w2 _ H2 g2 (Le.refl _) hr2 (.cons (rv.mono l2) rvs)⟩⟩
def mTup (am : AM) : EM := fun env h => (am env h).bind fun us h1 => if us.length ≤ 16000000 then .ok (.tup us) h1 else .bad
def mLst (am : AM) : EM := fun env h => (am env h).bind fun us h1 => if us.length ≤ 16000000 then .ok (.ref h1.length) (h1 ++ [.lst us]) else .bad
theorem se_tup {x1} (ha : PA X es (aM K W am)) : PE X (.Tuple es x1 pos) (tM K W (mTup am)) :=
  PE.weak (pe_tup ha) fun σ H Q ⟨g, env, h, hr, er, w⟩ => ⟨g, env, h, hr, er, wA w fun us h1 vs H1 g1 l1 hr1 rv w1 => by
    split at w1
    · rename_i z
      refine ⟨by rw [rv.len]; exact sz16 z, fun p hp => ?_⟩
      obtain ⟨l, q, r⟩ := hr1.newTup hp rv
      exact w1 _ _ _ l q r
    · exact w1.elim⟩
theorem se_lst (ha : PA X es (aM K W am)) : PE X (.List es pos) (tM K W (mLst am)) :=
  PE.weak (pe_lst ha) fun σ H Q ⟨g, env, h, hr, er, w⟩ => ⟨g, env, h, hr, er, wA w fun us h1 vs H1 g1 l1 hr1 rv w1 => by
    split at w1
    · rename_i z
      exact ⟨by rw [rv.len]; exact sz16 z, fun p hp => w1 _ _ _ Le.new (hr1.newLst hp rv) hr1.newRef⟩
    · exact w1.elim⟩

/-! ### subscripts, slices -/
theorem at_len {α β : Type} {xs : List α} {ys : List β} {i : Int} {v : α} (hl : xs.length = ys.length) (hv : atI xs i = some v) : ∃ j, ixN ys.length i = some j ∧ xs[j]? = some v := by
  unfold atI at hv
  cases e : ixN xs.length i with
  | none => rw [e] at hv; cases hv
  | some j =>
    rw [e] at hv
    exact ⟨j, by rw [← hl]; exact e, hv⟩
theorem Reps.at {vs : List V} {us : List U} {i : Int} {u : U} (r : Reps K g vs us) (q : atI us i = some u) : ∃ v, atI vs i = some v ∧ Rep K g v u := by
  obtain ⟨j, h1, h2⟩ := at_len (ys := vs) r.len.symm q
  obtain ⟨v, h3, h4⟩ := r.get h2
  exact ⟨v, by unfold atI; rw [h1]; exact h3, h4⟩
def oR (o : Option U) (h : Sto) : R U := match o with
  | some u => .ok u h
  | none => .bad
def uIx (x y : U) (h : Sto) : R U := match y with
  | .int i => (match x with
    | .str s => if s.length ≤ 16000000 then oR ((atI s i).map fun c => .str [c]) h else .bad
    | x => match sL h x with
      | some us => oR (atI us i) h
      | none => .bad)
  | _ => .bad
theorem ok_ix : BinOK K (rIx K) uIx := by
  intro E g H h v w x y Q hr rx ry t
  unfold uIx at t
  split at t
  · rename_i i
    cases ry with
    | int _ =>
      split at t
      · rename_i s
        cases rx with
        | str _ =>
          split at t
          · rename_i z
            cases e1 : atI s i with
            | none => rw [e1] at t; exact t.elim
            | some c =>
              rw [e1] at t
              exact .inr (.inr ⟨_, i, c, rfl, rfl, by rw [str_len]; exact sz16 z, by simpa using e1, t _ _ g (Le.refl _) hr (.str [c])⟩)
          · exact t.elim
      · split at t
        · rename_i us e1
          cases e2 : atI us i with
          | none => rw [e2] at t; exact t.elim
          | some u =>
            rw [e2] at t
            obtain ⟨p, vs, rfl, h1, r1⟩ := sL_of hr rx e1
            obtain ⟨z, h2, h3⟩ := r1.at e2
            have fin := t _ _ g (Le.refl _) hr h3
            rcases h1 with h1 | h1
            · exact .inl ⟨p, vs, i, z, rfl, rfl, h1, h2, fin⟩
            · exact .inr (.inl ⟨p, vs, i, z, rfl, rfl, h1, h2, fin⟩)
        · exact t.elim
  · exact t.elim
theorem se_ix (ha : PE X a (tM X.K W ma)) (hb : PE X b (tM X.K W mb)) (hs : PlainIx b := by exact fun _ _ => rfl) : PE X (.Subscript a b pos) (tM X.K W (mBin uIx ma mb)) :=
  PE.weak (pe_ix ix_seq ha hb hs) fun σ H Q t => bin_to ok_ix t
def cut {α : Type} (xs : List α) (lo hi : Option Int) : List α := (xs.drop (HT.sIx xs.length 0 lo)).take (HT.sIx xs.length xs.length hi - HT.sIx xs.length 0 lo)
theorem Reps.cut {vs : List V} {us : List U} (r : Reps K g vs us) (lo hi : Option Int) : Reps K g (cutV vs lo hi) (_root_.Q.cut us lo hi) := by
  unfold cutV _root_.Q.cut
  rw [r.len]
  exact (r.drop _).take _
def uSl (x : U) (lo hi : Option Int) (h : Sto) : R U := match x with
  | .str s => if s.length ≤ 16000000 then .ok (.str (cut s lo hi)) h else .bad
  | .tup us => .ok (.tup (cut us lo hi)) h
  | x => match aL h x with
    | some us => .ok (.ref h.length) (h ++ [.lst (cut us lo hi)])
    | none => .bad
def rSlQ (K : Fr) : V → Option Int → Option Int → Hp → VK → Prop := fun x lo hi H Q => rSlS x lo hi H Q ∨ rSlA K x lo hi H Q ∨ rSlL K x lo hi H Q
theorem sl_all : SlR X (rSlQ X.K) := sl_str.or (sl_tupA.or sl_list)
/-- an optional part of a slice -/
abbrev OM := Env' → Sto → R (Option Int)
def WO (K : Fr) (E : XK) (g : G) (r : R (Option Int)) (Q : Option Int → Hp → Prop) : Prop := match r with
  | .ok b h => ∀ H g', Le g g' → HR K g' H h → Q b H
  | .exc C n h => ∀ H g' d, Le g g' → HR K g' H h → DOf g' n d → E (.ref C) d H
  | .bad => False
def oM (K : Fr) (W : WX) (m : OM) : TO := fun σ H Q => ∃ g env h, HR K g H h ∧ ER K g σ env ∧ WO K (atSl W σ) g (m env h) Q
def oNone : OM := fun _ h => .ok none h
def oSome (a : EM) : OM := fun env h => (a env h).bind fun x h1 => match x with
  | .int i => .ok (some i) h1
  | _ => .bad
theorem PO.weak {X : Cx} {e : Option Expr} {t t' : TO} (p : PO X e t) (h : ∀ σ H Q, t' σ H Q → t σ H Q) : PO X e t' := ⟨fun pins s σ H Q I q => p.run pins s σ H Q I (h σ H Q q)⟩
theorem so_none : PO X none (oM K W oNone) := PO.weak po_none fun σ H Q ⟨g, env, h, hr, er, w⟩ => w H g (Le.refl _) hr
theorem so_some (ha : PE X a (tM K W ma)) : PO X (some a) (oM K W (oSome ma)) := PO.weak (po_some ha) fun σ H Q ⟨g, env, h, hr, er, w⟩ => ⟨g, env, h, hr, er, by
  unfold oSome at w
  cases ea : ma env h with
  | bad => rw [ea] at w; exact w.elim
  | exc C n h => rw [ea] at w; exact w
  | ok u h1 =>
    rw [ea] at w
    intro v H1 g1 l1 hr1 rv
    cases rv with
    | int i => exact ⟨i, rfl, w H1 g1 l1 hr1⟩
    | _ => exact w.elim⟩
def mSl (a : EM) (lo hi : OM) : EM := fun env h => (a env h).bind fun x h1 => (lo env h1).bind fun l h2 => (hi env h2).bind fun u h3 => uSl x l u h3
theorem wOE {r : R (Option Int)} {f : Option Int → Sto → R U} {Q : VK} {P : Option Int → Hp → Prop} (t : WE K E g (r.bind f) Q) (k : ∀ u h H g', Le g g' → HR K g' H h → WE K E g' (f u h) Q → P u H) : WO K E g r P := by
  cases r with
  | bad => exact t
  | exc C n h => exact t
  | ok u h => exact fun H g' l hr => k u h H g' l hr (WE.mono l t)
theorem sl_to {lo hi : Option Int} {Q : VK} (hr : HR K g H h) (rx : Rep K g v x) (t : WE K E g (uSl x lo hi h) Q) : rSlQ K v lo hi H Q := by
  unfold uSl at t
  split at t
  · cases rx
    split at t
    · rename_i s z
      refine .inl ⟨_, rfl, by rw [str_len]; exact sz16 z, ?_⟩
      have e : cutS ⟨s.toArray⟩ lo hi = ⟨(cut s lo hi).toArray⟩ := by
        unfold cutS _root_.Q.cut
        rw [str_len]
      rw [e]
      exact t _ _ g (Le.refl _) hr (.str _)
    · exact t.elim
  · rename_i us
    obtain ⟨p, vs, rfl, h1, r1⟩ := tup_of hr rx
    refine .inr (.inl ⟨p, vs, rfl, h1, fun z => ?_, fun _ q hq => ?_⟩)
    · rw [r1.len] at z
      have e : cut us lo hi = us := by
        unfold _root_.Q.cut
        rw [z.1, z.2]; simp
      rw [e] at t
      exact t _ _ g (Le.refl _) hr rx
    · obtain ⟨l, a1, a2⟩ := hr.newTup hq (r1.cut lo hi)
      exact t _ _ _ l a1 a2
  · split at t
    · rename_i us e1
      obtain ⟨p, vs, rfl, h1, r1⟩ := aL_of hr rx e1
      exact .inr (.inr ⟨p, vs, rfl, h1, fun q hq => t _ _ _ Le.new (hr.newLst hq (r1.cut lo hi)) hr.newRef⟩)
    · exact t.elim
variable {lo hi : Option Expr} {ml mh : OM} {p2 : Pos}
theorem se_sl (he : PE X e (tM X.K W me)) (hl : PO X lo (oM X.K W ml)) (hu : PO X hi (oM X.K W mh)) : PE X (.Subscript e (.Slice lo hi none p2) pos) (tM X.K W (mSl me ml mh)) :=
  PE.weak (pe_slice sl_all he hl hu) fun σ H Q ⟨g, env, h, hr, er, w⟩ => ⟨g, env, h, hr, er, wE w fun u h1 v H1 g1 l1 hr1 rv w1 =>
    ⟨g1, env, h1, hr1, er.mono l1, wOE w1 fun lo h2 H2 g2 l2 hr2 w2 => ⟨g2, env, h2, hr2, er.mono (l1.trans l2), wOE w2 fun hi h3 H3 g3 l3 hr3 w3 =>
      sl_to hr3 (rv.mono (l2.trans l3)) w3⟩⟩⟩

/-! ### calls of the built-ins -/
def CallOK (K : Fr) (r : List V → Hp → VK → Prop) (f : List U → Sto → R U) : Prop := ∀ E g H h vs us Q, HR K g H h → Reps K g vs us → WE K E g (f us h) Q → r vs H Q
def mCB (f : List U → Sto → R U) (am : AM) : EM := fun env h => (am env h).bind f
variable {r : List V → Hp → VK → Prop} {f : List U → Sto → R U} {id T : String} {n : Str} {p : Pos}
theorem cb_to {σ : L2.St} {Q : VK} (ok : CallOK K r f) (q : tM K W (mCB f am) σ H Q) : tCB r (aM K W am) σ H Q := by
  obtain ⟨g, env, h, hr, er, w⟩ := q
  exact ⟨g, env, h, hr, er, wA w fun us h1 vs H1 g1 l1 hr1 rv w1 => ok _ g1 H1 h1 vs us Q hr1 rv w1⟩
theorem se_cb (hc : CallR X (.builtin id) r) (ok : CallOK K r f) (hg : Gl X n) (hm : X.mg n = none) (hv : bootBuiltins n = some (.builtin id)) (ha : PA X (e :: es) (aM K W am)) (hn : n ≠ "__name__" := by decide) (hdb : (n == ("__debug__" : Str)) = false := by decide)
    (he : starEach (e :: es) X.env = (false, eval e X.env) :: starEach es X.env := by rfl) (hpl : (backTo pos (starEach es X.env)).any (·.1) = false := by rfl) : PE X (.Call (.Name n p) (e :: es) [] pos) (tM K W (mCB f am)) :=
  PE.weak (pe_callB hc hg hm hv ha hn hdb he hpl) fun σ H Q q => cb_to ok q
theorem se_ct (hc : CallR X (.type T) r) (ok : CallOK K r f) (hg : Gl X n) (hm : X.mg n = none) (hv : bootBuiltins n = some (.type T)) (ha : PA X (e :: es) (aM K W am)) (hn : n ≠ "__name__" := by decide) (hdb : (n == ("__debug__" : Str)) = false := by decide)
    (he : starEach (e :: es) X.env = (false, eval e X.env) :: starEach es X.env := by rfl) (hpl : (backTo pos (starEach es X.env)).any (·.1) = false := by rfl) : PE X (.Call (.Name n p) (e :: es) [] pos) (tM K W (mCB f am)) :=
  PE.weak (pe_callTy hc hg hm hv ha hn hdb he hpl) fun σ H Q q => cb_to ok q
def uLen (us : List U) (h : Sto) : R U := match us with
  | [.str s] => if s.length ≤ 16000000 then .ok (.int s.length) h else .bad
  | [x] => match sL h x with
    | some us => .ok (.int us.length) h
    | none => .bad
  | _ => .bad
theorem ok_len : CallOK K (fun xs H Q => ∃ x n, xs = [x] ∧ LenV K x H n ∧ Q (.int n) H) uLen := by
  intro E g H h vs us Q hr rv t
  unfold uLen at t
  split at t
  · cases rv with
    | cons r1 r2 =>
      cases r2
      cases r1
      split at t
      · rename_i s z
        exact ⟨_, s.length, rfl, ⟨by rw [str_len]; exact sz16 z, (str_len _).symm⟩, t _ _ g (Le.refl _) hr (.int _)⟩
      · exact t.elim
  · cases rv with
    | cons r1 r2 =>
      cases r2
      split at t
      · rename_i us e1
        obtain ⟨p, vs, rfl, h1, r1⟩ := sL_of hr r1 e1
        refine ⟨_, us.length, rfl, ?_, t _ _ g (Le.refl _) hr (.int _)⟩
        rcases h1 with h1 | h1
        · exact .inl ⟨vs, h1, r1.len.symm⟩
        · exact .inr ⟨vs, h1, r1.len.symm⟩
      · exact t.elim
  · exact t.elim
def uInt (us : List U) (h : Sto) : R U := match us with
  | [.int i] => .ok (.int i) h
  | [.bl b] => .ok (.int (if b then 1 else 0)) h
  | _ => .bad
theorem ok_int : CallOK K (fun xs H Q => (∃ i, xs = [.int i] ∧ Q (.int i) H) ∨ ∃ k, xs = [.bl k] ∧ Q (.int (if k then 1 else 0)) H) uInt := by
  intro E g H h vs us Q hr rv t
  unfold uInt at t
  split at t
  · cases rv with
    | cons r1 r2 => cases r2; cases r1; exact .inl ⟨_, rfl, t _ _ g (Le.refl _) hr (.int _)⟩
  · cases rv with
    | cons r1 r2 => cases r2; cases r1; exact .inr ⟨_, rfl, t _ _ g (Le.refl _) hr (.int _)⟩
  · exact t.elim
def uList (us : List U) (h : Sto) : R U := match us with
  | [x] => match sL h x with
    | some us => .ok (.ref h.length) (h ++ [.lst us])
    | none => .bad
  | _ => .bad
theorem ok_list : CallOK K (fun xs H Q => ∃ p ys, xs = [.ref p] ∧ (SqL K H p ys ∨ SqT K H p ys) ∧ ∀ l, H l = none → Q (.ref l) (upd H l (.lst ys))) uList := by
  intro E g H h vs us Q hr rv t
  unfold uList at t
  split at t
  · cases rv with
    | cons r1 r2 =>
      cases r2
      split at t
      · rename_i us e1
        obtain ⟨p, vs, rfl, h1, r1⟩ := sL_of hr r1 e1
        exact ⟨p, vs, rfl, h1, fun l hl => t _ _ _ Le.new (hr.newLst hl r1) hr.newRef⟩
      · exact t.elim
  · exact t.elim
def uTuple (us : List U) (h : Sto) : R U := match us with
  | [x] => match sL h x with
    | some us => .ok (.tup us) h
    | none => .bad
  | _ => .bad
theorem ok_tuple : CallOK K (fun xs H Q => ∃ p ys, xs = [.ref p] ∧ ((SqL K H p ys ∧ ∀ l, H l = none → Q (.ref l) (upd H l (.tup ys))) ∨ (SqT K H p ys ∧ Q (.ref p) H))) uTuple := by
  intro E g H h vs us Q hr rv t
  unfold uTuple at t
  split at t
  · rename_i x
    cases rv with
    | @cons v0 _ _ _ r1 r2 =>
      cases r2
      have aux : ∀ us, aL h x = some us → WE K E g (.ok (.tup us) h) Q → ∃ p ys, [v0] = [V.ref p] ∧ ((SqL K H p ys ∧ ∀ l, H l = none → Q (.ref l) (upd H l (.tup ys))) ∨ (SqT K H p ys ∧ Q (.ref p) H)) := fun us e1 t => by
        obtain ⟨p, vs, rfl, h1, r2⟩ := aL_of hr r1 e1
        refine ⟨p, vs, rfl, .inl ⟨h1, fun l hl => ?_⟩⟩
        obtain ⟨l1, a1, a2⟩ := hr.newTup hl r2
        exact t _ _ _ l1 a1 a2
      split at t
      · rename_i us e1
        cases r1 with
        | tup q s =>
          cases e1
          exact ⟨_, _, rfl, .inr ⟨hr.sqT q, t _ _ g (Le.refl _) hr (.tup q s)⟩⟩
        | kl q s => exact aux us e1 t
        | fl q s => exact aux us e1 t
        | ref q => exact aux us e1 t
        | _ => simp [sL, aL, mL] at e1
      · exact t.elim
  · exact t.elim
def uMin (us : List U) (h : Sto) : R U := match us with
  | [.int i, .int j] => .ok (.int (if j < i then j else i)) h
  | _ => .bad
def uMax (us : List U) (h : Sto) : R U := match us with
  | [.int i, .int j] => .ok (.int (if j > i then j else i)) h
  | _ => .bad
def uAbs (us : List U) (h : Sto) : R U := match us with
  | [.int i] => .ok (.int (if i < 0 then -i else i)) h
  | _ => .bad
theorem ok_min : CallOK K (fun xs H Q => ∃ i j, xs = [.int i, .int j] ∧ Q (.int (if j < i then j else i)) H) uMin := by
  intro E g H h vs us Q hr rv t
  unfold uMin at t
  split at t
  · cases rv with
    | cons r1 r2 => cases r2 with
      | cons r2 r3 => cases r3; cases r1; cases r2; exact ⟨_, _, rfl, t _ _ g (Le.refl _) hr (.int _)⟩
  · exact t.elim
theorem ok_max : CallOK K (fun xs H Q => ∃ i j, xs = [.int i, .int j] ∧ Q (.int (if j > i then j else i)) H) uMax := by
  intro E g H h vs us Q hr rv t
  unfold uMax at t
  split at t
  · cases rv with
    | cons r1 r2 => cases r2 with
      | cons r2 r3 => cases r3; cases r1; cases r2; exact ⟨_, _, rfl, t _ _ g (Le.refl _) hr (.int _)⟩
  · exact t.elim
theorem ok_abs : CallOK K (fun xs H Q => ∃ i, xs = [.int i] ∧ Q (.int (if i < 0 then -i else i)) H) uAbs := by
  intro E g H h vs us Q hr rv t
  unfold uAbs at t
  split at t
  · cases rv with
    | cons r1 r2 => cases r2; cases r1; exact ⟨_, rfl, t _ _ g (Le.refl _) hr (.int _)⟩
  · exact t.elim
section
variable (hg : Gl X n) (hm : X.mg n = none) (ha : PA X (e :: es) (aM X.K W am)) (hn : n ≠ "__name__" := by decide) (hdb : (n == ("__debug__" : Str)) = false := by decide)
    (he : starEach (e :: es) X.env = (false, eval e X.env) :: starEach es X.env := by rfl) (hpl : (backTo pos (starEach es X.env)).any (·.1) = false := by rfl)
include hg hm ha hn hdb he hpl
theorem se_len (hv : bootBuiltins n = some (.builtin "len") := by decide +kernel) : PE X (.Call (.Name n p) (e :: es) [] pos) (tM X.K W (mCB uLen am)) := se_cb call_len ok_len hg hm hv ha hn hdb he hpl
theorem se_int' (hv : bootBuiltins n = some (.type "int") := by decide +kernel) : PE X (.Call (.Name n p) (e :: es) [] pos) (tM X.K W (mCB uInt am)) := se_ct call_int1 ok_int hg hm hv ha hn hdb he hpl
theorem se_list (hv : bootBuiltins n = some (.type "list") := by decide +kernel) : PE X (.Call (.Name n p) (e :: es) [] pos) (tM X.K W (mCB uList am)) := se_ct call_list_of ok_list hg hm hv ha hn hdb he hpl
theorem se_tuple (hv : bootBuiltins n = some (.type "tuple") := by decide +kernel) : PE X (.Call (.Name n p) (e :: es) [] pos) (tM X.K W (mCB uTuple am)) := se_ct call_tuple_of ok_tuple hg hm hv ha hn hdb he hpl
theorem se_min (hc : X.calm = true) (hv : bootBuiltins n = some (.builtin "min") := by decide +kernel) : PE X (.Call (.Name n p) (e :: es) [] pos) (tM X.K W (mCB uMin am)) := se_cb (call_min2 hc) ok_min hg hm hv ha hn hdb he hpl
theorem se_max (hc : X.calm = true) (hv : bootBuiltins n = some (.builtin "max") := by decide +kernel) : PE X (.Call (.Name n p) (e :: es) [] pos) (tM X.K W (mCB uMax am)) := se_cb (call_max2 hc) ok_max hg hm hv ha hn hdb he hpl
theorem se_abs (hv : bootBuiltins n = some (.builtin "abs") := by decide +kernel) : PE X (.Call (.Name n p) (e :: es) [] pos) (tM X.K W (mCB uAbs am)) := se_cb call_abs ok_abs hg hm hv ha hn hdb he hpl
end
/-! ### methods of built-in types -/
def MtOK (K : Fr) (r : V → List V → Hp → VK → Prop) (f : U → List U → Sto → R U) : Prop := ∀ E g H h v x vs us Q, HR K g H h → Rep K g v x → Reps K g vs us → WE K E g (f x us h) Q → r v vs H Q
/-- a list's method: the receiver is a list -/
def mLM (f : U → List U → Sto → R U) (o : EM) (am : AM) : EM := fun env h => (o env h).bind fun x h1 => if (aL h1 x).isSome = true then (am env h1).bind fun us h2 => f x us h2 else .bad
theorem lm_to {r : V → List V → Hp → VK → Prop} {f : U → List U → Sto → R U} {mo : EM} {σ : L2.St} {Q : VK} (ok : MtOK K r f) (q : tM K W (mLM f mo am) σ H Q) : tBM K "list" r (tM K W mo) (aM K W am) σ H Q := by
  obtain ⟨g, env, h, hr, er, w⟩ := q
  refine ⟨g, env, h, hr, er, wE w fun u h1 v H1 g1 l1 hr1 rv w1 => ?_⟩
  cases ea : aL h1 u with
  | none => rw [ea] at w1; exact w1.elim
  | some us =>
    rw [ea] at w1
    obtain ⟨a, vs, rfl, h2, r2⟩ := aL_of hr1 rv ea
    exact ⟨.inl ⟨rfl, vs, h2⟩, g1, env, h1, hr1, er.mono l1, wA w1 fun us h2 vs H2 g2 l2 hr2 rvs w2 => ok _ g2 H2 h2 _ u vs us Q hr2 (rv.mono l2) rvs w2⟩
def uApp (x : U) (us : List U) (h : Sto) : R U := match x, us with
  | .ref n, [y] => (match h[n]? with
    | some (.lst xs) => if xs.length < 16000000 then .ok .non (h.set n (.lst (xs ++ [y]))) else .bad
    | _ => .bad)
  | _, _ => .bad
theorem sz16l {n : Nat} (h : n < 16000000) : n < sizeLine := Nat.lt_of_lt_of_le h (by decide)
theorem ok_app : MtOK K rAppend uApp := by
  intro E g H h v x vs us Q hr rx rvs t
  unfold uApp at t
  split at t
  · rename_i n y
    split at t
    · rename_i xs e1
      split at t
      · rename_i z
        cases rx with
        | ref q =>
          rename_i a
          cases rvs with
          | cons r1 r2 =>
            cases r2
            obtain ⟨ws, h1, h2⟩ := hr.ob n a _ q e1
            exact ⟨a, ws, _, rfl, rfl, h1, by rw [h2.len]; exact sz16l z, t _ _ g (Le.refl _) (hr.setLst q h1 (h2.app (.one r1))) .non⟩
      · exact t.elim
    · exact t.elim
  · exact t.elim
def uExt (x : U) (us : List U) (h : Sto) : R U := match x, us with
  | .ref n, [y] => (match h[n]?, mL h y with
    | some (.lst xs), some ys => if xs.length + ys.length ≤ 16000000 then .ok .non (h.set n (.lst (xs ++ ys))) else .bad
    | _, _ => .bad)
  | _, _ => .bad
theorem ok_ext : MtOK K rExtend uExt := by
  intro E g H h v x vs us Q hr rx rvs t
  unfold uExt at t
  split at t
  · rename_i n y
    split at t
    · rename_i xs ys e1 e2
      split at t
      · rename_i z
        cases rx with
        | ref q =>
          rename_i a
          cases rvs with
          | cons r1 r2 =>
            cases r2
            obtain ⟨ws, h1, h2⟩ := hr.ob n a _ q e1
            obtain ⟨b, zs, rfl, h3, h4⟩ := mL_of hr r1 e2
            exact ⟨a, b, ws, zs, rfl, rfl, h1, h3, by rw [h2.len, h4.len]; exact sz16 z, t _ _ g (Le.refl _) (hr.setLst q h1 (h2.app h4)) .non⟩
      · exact t.elim
    · exact t.elim
  · exact t.elim
section
variable {mo : EM} {apos cpos : Pos} (ho : PE X o (tM X.K W mo)) (ha : PA X (e :: es) (aM X.K W am))
    (hfew : ((backTo cpos (starEach (e :: es) X.env)).all (fun x => !x.1) && (backToKw cpos (keywordEach [] X.env)).all (fun x => x.1.isSome)
      && decide ((e :: es).length + ([] : List Keyword).length + (if ([] : List Keyword).isEmpty then 0 else 1) < 30)) = true := by rfl)
    (hline : (apos.endLine == cpos.line) = true := by rfl) (hs : starEach (e :: es) X.env = (false, eval e X.env) :: starEach es X.env := by rfl) (hplain : (backTo cpos (starEach es X.env)).any (·.1) = false := by rfl)
include ho ha hfew hline hs hplain
theorem se_app (hbase : attributeBase o "append" X.env (eval o X.env) = eval o X.env := by rfl) : PE X (.Call (.Attribute o "append" apos) (e :: es) [] cpos) (tM X.K W (mLM uApp mo am)) :=
  PE.weak (pe_bm PySem.F.plainAttrs_list PySem.F.slot_list_append PySem.F.type_list_append mt_append ho ha hbase hfew hline hs hplain) fun σ H Q q => lm_to ok_app q
theorem se_ext (hbase : attributeBase o "extend" X.env (eval o X.env) = eval o X.env := by rfl) : PE X (.Call (.Attribute o "extend" apos) (e :: es) [] cpos) (tM X.K W (mLM uExt mo am)) :=
  PE.weak (pe_bm PySem.F.plainAttrs_list PySem.F.slot_list_extend PySem.F.type_list_extend mt_extend ho ha hbase hfew hline hs hplain) fun σ H Q q => lm_to ok_ext q
end
end
end Q

set_option Elab.async false
set_option linter.all false
set_option maxRecDepth 100000
set_option maxHeartbeats 2000000
/-! QZ: zip of two sequences, each a list or a tuple. -/
namespace QZ
open PySem PySem.Spec PyProof.Rows L2
open PySem.Sem (wp)
/-- the kind of a part: a list or a tuple -/
inductive ZK where
  | l | t
def ZK.cls : ZK → String
  | .l => "list_iterator"
  | .t => "tuple_iterator"
def ItIs (k : ZK) (h : Heap) (a p : Addr) (i : Nat) : Prop := match k with
  | .l => h.IsListIter a p i
  | .t => h.IsTupleIter a p i
def SqIs (k : ZK) (h : Heap) (p : Addr) (xs : Array Value) : Prop := match k with
  | .l => h.IsList p xs
  | .t => h.IsTuple p xs
theorem ItIs.ext {k : ZK} {h h' : Heap} {a p b : Addr} {i : Nat} (x : ItIs k h a p i) (q : Heap.ExtBut b h h') (n : a ≠ b) : ItIs k h' a p i := by
  cases k
  · exact Heap.IsListIter.extBut x q n
  · exact Heap.IsTupleIter.extBut x q n
theorem SqIs.ext {k : ZK} {h h' : Heap} {p b : Addr} {xs : Array Value} (x : SqIs k h p xs) (q : Heap.ExtBut b h h') (n : p ≠ b) : SqIs k h' p xs := by
  cases k
  · exact Heap.IsList.extBut x q n
  · exact Heap.IsTuple.extBut x q n
theorem ItIs.mv {k : ZK} {h h' : Heap} {a p : Addr} {i : Nat} (x : ItIs k h a p i) (q : ∀ o, h.get? a = some o → h'.get? a = some o) : ItIs k h' a p i := by
  cases k
  · exact Heap.IsListIter.at x q
  · exact Heap.IsTupleIter.at x q
theorem ItIs.obj {k : ZK} {h : Heap} {a p : Addr} {i : Nat} (x : ItIs k h a p i) : ∃ o, h.get? a = some o ∧ ∀ v, o.data ≠ .cell v := by
  cases k
  · obtain ⟨o, e, _, d⟩ := x; exact ⟨o, e, fun v q => by rw [d] at q; cases q⟩
  · obtain ⟨o, e, _, d⟩ := x; exact ⟨o, e, fun v q => by rw [d] at q; cases q⟩
theorem ItIs.lt {k : ZK} {h : Heap} {a p : Addr} {i : Nat} (x : ItIs k h a p i) : a < h.objs.size := by
  obtain ⟨o, e, _⟩ := x.obj; exact Heap.lt_size e
section
variable {prog : Program} {w : World} {A : Around} {E : Value → Shared → Prop} {s : Shared}
theorem nx_item {k : ZK} {a p : Addr} {i : Nat} {xs : Array Value} {x : Value} {Q : Value → Shared → Prop} (hi : ItIs k s.heap a p i) (hl : SqIs k s.heap p xs) (hx : xs[i]? = some x)
    (hq : ∀ h2, ItIs k h2 a p (i + 1) → Heap.SameBut a s.heap h2 → Q x { s with heap := h2 }) : wpAny (model prog w) A (Builtin.SmallTypes.nextOf (.ref a)) Q E s := by
  cases k
  · exact wpAny_nextOf_list_item hi hl hx hq
  · exact RZ.nextOf_tuple_item hi hl hx hq
theorem nx_end {k : ZK} {a p : Addr} {i : Nat} {xs : Array Value} {Q : Value → Shared → Prop} (hh : A.handled = none) (hi : ItIs k s.heap a p i) (hl : SqIs k s.heap p xs) (hx : xs[i]? = none)
    (hq : ∀ h2 e, Heap.ExtBut a s.heap h2 → (∃ o, h2.get? e = some o ∧ o.cls = .type "StopIteration") → E (.ref e) { s with heap := h2 }) : wpAny (model prog w) A (Builtin.SmallTypes.nextOf (.ref a)) Q E s := by
  cases k
  · exact wpAny_nextOf_list_end hh hi hl hx hq
  · exact RZ.nextOf_tuple_end hh hi hl hx hq
variable {k k' : ZK} {z ti to a b p q : Addr} {i j : Nat} {xs ys : Array Value} {x y u v : Value}
/-- what a turn leaves -/
def Kp (z to a b : Addr) (h h2 : Heap) : Prop := ∀ c o, c ≠ z → c ≠ to → c ≠ a → c ≠ b → h.get? c = some o → h2.get? c = some o
theorem z_item {Q : Value → Shared → Prop} (D : ZipApart z ti to a b p q) (hz : IsZip s.heap z ti to .none) (hI : IsPair s.heap ti (.ref a) (.ref b)) (hO : IsPair s.heap to u v)
    (h1 : ItIs k s.heap a p i) (h2 : ItIs k' s.heap b q j) (l1 : SqIs k s.heap p xs) (l2 : SqIs k' s.heap q ys) (hx : xs[i]? = some x) (hy : ys[j]? = some y)
    (hQ : ∀ h9, IsZip h9 z ti to (rawInt s.heap.objs.size) → IsPair h9 to x y → ItIs k h9 a p (i + 1) → ItIs k' h9 b q (j + 1) → IsPair h9 s.heap.objs.size x y → h9.objs.size = s.heap.objs.size + 1 → Kp z to a b s.heap h9 →
      Q (.ref s.heap.objs.size) { s with heap := h9 }) :
    wpAny (model prog w) A (Builtin.«zip.__next__» ⟨[.ref z], []⟩) (fun fin s' => ∃ v, fin = .done (.ret v) ∧ Q v s') E s := by
  show wpAny _ _ (field (.ref z) 2 >>= _) _ _ _; refine wpAny_bind (wpAny_field hz rfl (x := .bool false) rfl ?_)
  show wpAny _ _ (field (.ref z) 3 >>= _) _ _ _; refine wpAny_bind (wpAny_field hz rfl (x := .ref ti) rfl ?_); refine wpAny_bind (wpAny_seqItems hI rfl ?_)
  show wpAny _ _ (Builtin.SmallTypes.ownedTupleIsFree (.ref z) >>= _) _ _ _; refine wpAny_bind ?_; unfold Builtin.SmallTypes.ownedTupleIsFree
  refine wpAny_bind (wpAny_field hz rfl (x := .none) rfl (wpAny_pure ?_)); simp only [if_true]; refine wpAny_bind (wpAny_rule ?_)
  refine wpAny_bind (wpAny_field hz rfl (x := .ref to) rfl ?_); refine wpAny_bind (wpAny_setField_rec hz (by simp) fun g1 zz1 e1 => ?_)
  have zz1 : IsZip g1 z ti to .ellipsis := zz1
  refine wpAny_bind ?_; simp only [List.zipIdx_cons, List.zipIdx_nil, List.forIn_cons, List.forIn_nil]
  refine wpAny_bind (wpAny_bind (wpAny_onRaise ?_)); show wpAny _ _ (Builtin.SmallTypes.nextOf (.ref a) >>= _) _ _ _
  refine wpAny_bind (nx_item (h1.ext e1.extBut D.i1z) (l1.ext e1.extBut D.l1z) hx fun g2 n1 e2 => wpAny_pure ?_)
  have hO2 : IsPair g2 to u v := e2.extBut _ _ D.TOi1 (e1.extBut _ _ D.TOz hO)
  refine wpAny_bind (wpAny_seqItems hO2 rfl ?_); refine wpAny_bind (wpAny_updateSeq_pair hO2 fun g3 hO3 e3 => ?_)
  have hO3 : IsPair g3 to x v := hO3
  refine wpAny_bind (wpAny_letGo (wpAny_pure ?_)); refine wpAny_bind (wpAny_bind (wpAny_onRaise ?_)); show wpAny _ _ (Builtin.SmallTypes.nextOf (.ref b) >>= _) _ _ _
  refine wpAny_bind (nx_item (((h2.ext e1.extBut D.i2z).ext e2.extBut D.i12.symm).ext e3.extBut D.TOi2.symm) (((l2.ext e1.extBut D.l2z).ext e2.extBut D.l2i1).ext e3.extBut D.l2TO) hy fun g4 n2 e4 => wpAny_pure ?_)
  have hO4 : IsPair g4 to x v := e4.extBut _ _ D.TOi2 hO3
  refine wpAny_bind (wpAny_seqItems hO4 rfl ?_); refine wpAny_bind (wpAny_updateSeq_pair hO4 fun g5 hO5 e5 => ?_)
  have hO5 : IsPair g5 to x y := hO5
  refine wpAny_bind (wpAny_letGo (wpAny_pure (wpAny_pure ?_))); refine wpAny_bind (wpAny_seqItems hO5 rfl ?_); refine wpAny_bind (wpAny_newTuple ?_)
  have zs : g5.objs.size = s.heap.objs.size := by rw [e5.1, e4.1, e3.1, e2.1, e1.1]
  have zz5 : IsZip g5 z ti to .ellipsis := e5.extBut _ _ D.TOz.symm (e4.extBut _ _ D.i2z.symm (e3.extBut _ _ D.TOz.symm (e2.extBut _ _ D.i1z.symm zz1)))
  have kp5 : Kp z to a b s.heap g5 := fun c o c1 c2 c3 c4 e => e5.extBut _ _ c2 (e4.extBut _ _ c4 (e3.extBut _ _ c2 (e2.extBut _ _ c3 (e1.extBut _ _ c1 e))))
  have m1 : ItIs k g5 a p (i + 1) := ((n1.ext e3.extBut D.TOi1.symm).ext e4.extBut D.i12).ext e5.extBut D.TOi1.symm
  have m2 : ItIs k' g5 b q (j + 1) := n2.ext e5.extBut D.TOi2.symm
  have ltz : z < g5.objs.size := Heap.lt_size zz5
  show wpAny _ _ (Builtin.SmallTypes.ownedTupleHandOut (.ref z) (.ref g5.objs.size) >>= _) _ _ _; refine wpAny_bind ?_; unfold Builtin.SmallTypes.ownedTupleHandOut
  have zz6 : IsZip (g5.push { cls := .type "tuple", data := .seq #[x, y] }) z ti to .ellipsis := Heap.get?_push_of_some _ zz5
  refine wpAny_bind (wpAny_setField_rec zz6 (by simp) fun g7 zz7 e7 => ?_)
  have zz7 : IsZip g7 z ti to (rawInt g5.objs.size) := zz7
  refine wpAny_setField_rec zz7 (by simp) fun g8 zz8 e8 => ?_
  have zz8 : IsZip g8 z ti to (rawInt g5.objs.size) := zz8
  have up : ∀ c o, c ≠ z → g5.get? c = some o → g8.get? c = some o := fun c o c1 e => e8.extBut _ _ c1 (e7.extBut _ _ c1 (Heap.get?_push_of_some _ e))
  have hT : IsPair g8 g5.objs.size x y := e8.extBut _ _ (Nat.ne_of_gt ltz) (e7.extBut _ _ (Nat.ne_of_gt ltz) (Heap.get?_push_size _ rfl))
  have zs8 : g8.objs.size = g5.objs.size + 1 := by rw [e8.1, e7.1, Heap.size_push]
  rw [zs] at zz8 hT zs8
  refine wpAny_pure ⟨_, rfl, ?_⟩; show Q (.ref g5.objs.size) _; rw [zs]
  exact hQ g8 zz8 (up _ _ D.TOz hO5) (m1.mv fun o e => up _ o D.i1z e) (m2.mv fun o e => up _ o D.i2z e) hT zs8 fun c o c1 c2 c3 c4 e => up c o c1 (kp5 c o c1 c2 c3 c4 e)
theorem z_end {Q : Fin → Shared → Prop} (hh : A.handled = none) (D : ZipApart z ti to a b p q) (hz : IsZip s.heap z ti to .none) (hI : IsPair s.heap ti (.ref a) (.ref b)) (hO : IsPair s.heap to u v)
    (h1 : ItIs k s.heap a p i) (h2 : ItIs k' s.heap b q j) (l1 : SqIs k s.heap p xs) (l2 : SqIs k' s.heap q ys) (hend : xs[i]? = none ∨ ys[j]? = none)
    (hE : ∀ h9 e, Kp z to a b s.heap h9 → (∃ o, h9.get? e = some o ∧ o.cls = .type "StopIteration") → E (.ref e) { s with heap := h9 }) : wpAny (model prog w) A (Builtin.«zip.__next__» ⟨[.ref z], []⟩) Q E s := by
  show wpAny _ _ (field (.ref z) 2 >>= _) _ _ _; refine wpAny_bind (wpAny_field hz rfl (x := .bool false) rfl ?_)
  show wpAny _ _ (field (.ref z) 3 >>= _) _ _ _; refine wpAny_bind (wpAny_field hz rfl (x := .ref ti) rfl ?_); refine wpAny_bind (wpAny_seqItems hI rfl ?_)
  show wpAny _ _ (Builtin.SmallTypes.ownedTupleIsFree (.ref z) >>= _) _ _ _; refine wpAny_bind ?_; unfold Builtin.SmallTypes.ownedTupleIsFree
  refine wpAny_bind (wpAny_field hz rfl (x := .none) rfl (wpAny_pure ?_)); simp only [if_true]; refine wpAny_bind (wpAny_rule ?_)
  refine wpAny_bind (wpAny_field hz rfl (x := .ref to) rfl ?_); refine wpAny_bind (wpAny_setField_rec hz (by simp) fun g1 zz1 e1 => ?_)
  have zz1 : IsZip g1 z ti to .ellipsis := zz1
  refine wpAny_bind ?_; simp only [List.zipIdx_cons, List.zipIdx_nil, List.forIn_cons, List.forIn_nil]
  refine wpAny_bind (wpAny_bind (wpAny_onRaise ?_)); show wpAny _ _ (Builtin.SmallTypes.nextOf (.ref a) >>= _) _ _ _
  cases hx : xs[i]? with
  | none =>
    refine wpAny_bind (nx_end hh (h1.ext e1.extBut D.i1z) (l1.ext e1.extBut D.l1z) hx fun g2 e e2 he => ?_)
    obtain ⟨o, ho, hc⟩ := he
    have zz2 : IsZip g2 z ti to .ellipsis := e2 _ _ D.i1z.symm zz1
    have ne : e ≠ z := fun x => by subst x; rw [zz2] at ho; cases ho; simp at hc
    exact wpAny_setField_rec zz2 (by simp) fun g3 _ e3 => hE g3 e (fun c o c1 _ c3 _ x => e3.extBut _ _ c1 (e2 _ _ c3 (e1.extBut _ _ c1 x))) ⟨o, e3.extBut _ _ ne ho, hc⟩
  | some x =>
    have hy : ys[j]? = none := hend.resolve_left fun h => by rw [hx] at h; cases h
    refine wpAny_bind (nx_item (h1.ext e1.extBut D.i1z) (l1.ext e1.extBut D.l1z) hx fun g2 n1 e2 => wpAny_pure ?_)
    have hO2 : IsPair g2 to u v := e2.extBut _ _ D.TOi1 (e1.extBut _ _ D.TOz hO)
    refine wpAny_bind (wpAny_seqItems hO2 rfl ?_); refine wpAny_bind (wpAny_updateSeq_pair hO2 fun g3 hO3 e3 => ?_)
    refine wpAny_bind (wpAny_letGo (wpAny_pure ?_)); refine wpAny_bind (wpAny_bind (wpAny_onRaise ?_)); show wpAny _ _ (Builtin.SmallTypes.nextOf (.ref b) >>= _) _ _ _
    refine wpAny_bind (nx_end hh (((h2.ext e1.extBut D.i2z).ext e2.extBut D.i12.symm).ext e3.extBut D.TOi2.symm) (((l2.ext e1.extBut D.l2z).ext e2.extBut D.l2i1).ext e3.extBut D.l2TO) hy fun g4 e e4 he => ?_)
    obtain ⟨o, ho, hc⟩ := he
    have zz4 : IsZip g4 z ti to .ellipsis := e4 _ _ D.i2z.symm (e3.extBut _ _ D.TOz.symm (e2.extBut _ _ D.i1z.symm zz1))
    have ne : e ≠ z := fun x => by subst x; rw [zz4] at ho; cases ho; simp at hc
    exact wpAny_setField_rec zz4 (by simp) fun g5 _ e5 => hE g5 e (fun c o c1 c2 c3 c4 x => e5.extBut _ _ c1 (e4 _ _ c4 (e3.extBut _ _ c2 (e2.extBut _ _ c3 (e1.extBut _ _ c1 x))))) ⟨o, e5.extBut _ _ ne ho, hc⟩
theorem zn_item {Q : Option Value → Shared → Prop} (D : ZipApart z ti to a b p q) (hz : IsZip s.heap z ti to .none) (hI : IsPair s.heap ti (.ref a) (.ref b)) (hO : IsPair s.heap to u v)
    (h1 : ItIs k s.heap a p i) (h2 : ItIs k' s.heap b q j) (l1 : SqIs k s.heap p xs) (l2 : SqIs k' s.heap q ys) (hx : xs[i]? = some x) (hy : ys[j]? = some y)
    (hQ : ∀ h9, IsZip h9 z ti to (rawInt s.heap.objs.size) → IsPair h9 to x y → ItIs k h9 a p (i + 1) → ItIs k' h9 b q (j + 1) → IsPair h9 s.heap.objs.size x y → h9.objs.size = s.heap.objs.size + 1 → Kp z to a b s.heap h9 →
      Q (some (.ref s.heap.objs.size)) { s with heap := h9 }) : wpAny (model prog w) A (pyNext (.ref z)) Q E s := by
  have hT : s.TypeIs (.ref z) "zip" := ⟨_, hz, rfl⟩
  unfold pyNext
  exact wpAny_bind (wpAny_attempt (wpAny_callSpecial?_slot (name := Str.ofString "__next__") hT F.slot_zip_next (wpAny_call_entry F.slot_zip_next hT F.entry_zip_next
      (z_item D hz hI hO h1 h2 l1 l2 hx hy fun h' a1 a2 a3 a4 a5 a6 a7 => wpAny_pure (hQ h' a1 a2 a3 a4 a5 a6 a7)) (F.args_zip_next_1 _))))
theorem zn_end {Q : Option Value → Shared → Prop} (hh : A.handled = none) (D : ZipApart z ti to a b p q) (hz : IsZip s.heap z ti to .none) (hI : IsPair s.heap ti (.ref a) (.ref b)) (hO : IsPair s.heap to u v)
    (h1 : ItIs k s.heap a p i) (h2 : ItIs k' s.heap b q j) (l1 : SqIs k s.heap p xs) (l2 : SqIs k' s.heap q ys) (hend : xs[i]? = none ∨ ys[j]? = none)
    (hQ : ∀ h9, Kp z to a b s.heap h9 → Q none { s with heap := h9 }) : wpAny (model prog w) A (pyNext (.ref z)) Q E s := by
  have hT : s.TypeIs (.ref z) "zip" := ⟨_, hz, rfl⟩
  unfold pyNext
  refine wpAny_bind (wpAny_attempt (wpAny_callSpecial?_slot (name := Str.ofString "__next__") hT F.slot_zip_next (wpAny_call_entry F.slot_zip_next hT F.entry_zip_next
    (z_end hh D hz hI hO h1 h2 l1 l2 hend fun h' e hk he => ?_) (F.args_zip_next_1 _))))
  obtain ⟨o, ho, hc⟩ := he
  exact wpAny_bind (wpAny_isInstance (T := "StopIteration") (b := true) ⟨o, ho, hc⟩ isSubtype_stop (wpAny_pure (hQ _ hk)))
end
def zO1 (k : ZK) (p : Addr) : Obj := { cls := .type k.cls, data := .fields #[.ref p, .int 0 0] }
def zH2 (k k' : ZK) (h : Heap) (p q : Addr) : Heap := (h.push (zO1 k p)).push (zO1 k' q)
def zH3 (k k' : ZK) (h : Heap) (p q : Addr) : Heap := (zH2 k k' h p q).push { cls := .type "tuple", data := .seq #[.ref h.objs.size, .ref (h.push (zO1 k p)).objs.size] }
def zH4 (k k' : ZK) (h : Heap) (p q : Addr) : Heap := (zH3 k k' h p q).push { cls := .type "tuple", data := .seq #[.none, .none] }
def zH5 (k k' : ZK) (h : Heap) (p q : Addr) : Heap := (zH4 k k' h p q).push { cls := .type "zip", data := .fields #[.none, .bool false, .bool false, .ref (zH2 k k' h p q).objs.size, .ref (zH3 k k' h p q).objs.size] }
theorem z_new (k k' : ZK) (p q : Addr) (xs ys : Array Value) : Meets (Builtin.«zip.__new__» ⟨[.type "zip", .ref p, .ref q], []⟩)
    (fun _ R s => SqIs k s.heap p xs ∧ SqIs k' s.heap q ys ∧ R (.ok (.ret (.ref (zH4 k k' s.heap p q).objs.size))) { s with heap := zH5 k k' s.heap p q }) :=
  .of_wp fun prog w A R s h => by
    obtain ⟨hp, g, d, tk, os⟩ := s; obtain ⟨hl1, hl2, h⟩ := h; have hsub := sub_zip
    cases k <;> cases k'
    · have hL1 : Heap.IsList (Shared.heap ⟨hp, g, d, tk, os⟩) p xs := hl1
      have hL2 : Heap.IsList (Shared.heap ⟨hp.push { cls := .type "list_iterator", data := .fields #[.ref p, .int 0 0] }, g, d, tk, os⟩) q ys := Heap.IsList.push hl2 _
      wp_walk using wpAny_pyIter_list hL1, wpAny_pyIter_list hL2
      exact ⟨_, rfl, h⟩
    · have hL1 : Heap.IsList (Shared.heap ⟨hp, g, d, tk, os⟩) p xs := hl1
      have hL2 : Heap.IsTuple (Shared.heap ⟨hp.push { cls := .type "list_iterator", data := .fields #[.ref p, .int 0 0] }, g, d, tk, os⟩) q ys := Heap.IsTuple.push hl2 _
      wp_walk using wpAny_pyIter_list hL1, wpAny_pyIter_tuple hL2
      exact ⟨_, rfl, h⟩
    · have hL1 : Heap.IsTuple (Shared.heap ⟨hp, g, d, tk, os⟩) p xs := hl1
      have hL2 : Heap.IsList (Shared.heap ⟨hp.push { cls := .type "tuple_iterator", data := .fields #[.ref p, .int 0 0] }, g, d, tk, os⟩) q ys := Heap.IsList.push hl2 _
      wp_walk using wpAny_pyIter_tuple hL1, wpAny_pyIter_list hL2
      exact ⟨_, rfl, h⟩
    · have hL1 : Heap.IsTuple (Shared.heap ⟨hp, g, d, tk, os⟩) p xs := hl1
      have hL2 : Heap.IsTuple (Shared.heap ⟨hp.push { cls := .type "tuple_iterator", data := .fields #[.ref p, .int 0 0] }, g, d, tk, os⟩) q ys := Heap.IsTuple.push hl2 _
      wp_walk using wpAny_pyIter_tuple hL1, wpAny_pyIter_tuple hL2
      exact ⟨_, rfl, h⟩
section
variable {prog : Program} {w : World} {A : Around} {E : Value → Shared → Prop} {s : Shared}
theorem z_call {k k' : ZK} {p q : Addr} {xs ys : Array Value} {Q : Value → Shared → Prop} (hl1 : SqIs k s.heap p xs) (hl2 : SqIs k' s.heap q ys)
    (h : ∀ h9, IsZip h9 (s.heap.objs.size + 4) (s.heap.objs.size + 2) (s.heap.objs.size + 3) .none → IsPair h9 (s.heap.objs.size + 2) (.ref s.heap.objs.size) (.ref (s.heap.objs.size + 1)) → IsPair h9 (s.heap.objs.size + 3) .none .none →
      ItIs k h9 s.heap.objs.size p 0 → ItIs k' h9 (s.heap.objs.size + 1) q 0 → (∀ c o, s.heap.get? c = some o → h9.get? c = some o) → Q (.ref (s.heap.objs.size + 4)) { s with heap := h9 }) :
    wpAny (model prog w) A (call (.type "zip") [.ref p, .ref q]) Q E s := by
  refine callType_new F.called_zip (by decide) (F.typeCall_zip_2 _ _) (F.newCall_zip_2 _ _) (fun obj => F.args_object_init_3 obj _ _) F.entry_zip_new (z_new k k' p q xs ys) ⟨hl1, hl2, ?_⟩
  have z1 : (s.heap.push (zO1 k p)).objs.size = s.heap.objs.size + 1 := Heap.size_push ..
  have z2 : (zH2 k k' s.heap p q).objs.size = s.heap.objs.size + 2 := (Heap.size_push ..).trans (by rw [z1])
  have z3 : (zH3 k k' s.heap p q).objs.size = s.heap.objs.size + 3 := (Heap.size_push ..).trans (by rw [z2])
  have z4 : (zH4 k k' s.heap p q).objs.size = s.heap.objs.size + 4 := (Heap.size_push ..).trans (by rw [z3])
  have g5 : (zH5 k k' s.heap p q).get? (zH4 k k' s.heap p q).objs.size = some _ := Heap.get?_push_size _ rfl
  have u5 : ∀ c o, (zH4 k k' s.heap p q).get? c = some o → (zH5 k k' s.heap p q).get? c = some o := fun c o e => Heap.get?_push_of_some _ e
  have u4 : ∀ c o, (zH3 k k' s.heap p q).get? c = some o → (zH5 k k' s.heap p q).get? c = some o := fun c o e => u5 c o (Heap.get?_push_of_some _ e)
  have u3 : ∀ c o, (zH2 k k' s.heap p q).get? c = some o → (zH5 k k' s.heap p q).get? c = some o := fun c o e => u4 c o (Heap.get?_push_of_some _ e)
  have u2 : ∀ c o, (s.heap.push (zO1 k p)).get? c = some o → (zH5 k k' s.heap p q).get? c = some o := fun c o e => u3 c o (Heap.get?_push_of_some _ e)
  have g4 : (zH5 k k' s.heap p q).get? (zH3 k k' s.heap p q).objs.size = some { cls := .type "tuple", data := .seq #[.none, .none] } := u5 _ _ (Heap.get?_push_size _ rfl)
  have g3 : (zH5 k k' s.heap p q).get? (zH2 k k' s.heap p q).objs.size = some { cls := .type "tuple", data := .seq #[.ref s.heap.objs.size, .ref (s.heap.push (zO1 k p)).objs.size] } := u4 _ _ (Heap.get?_push_size _ rfl)
  have g2 : (zH5 k k' s.heap p q).get? (s.heap.push (zO1 k p)).objs.size = some (zO1 k' q) := u3 _ _ (Heap.get?_push_size _ rfl)
  have g1 : (zH5 k k' s.heap p q).get? s.heap.objs.size = some (zO1 k p) := u2 _ _ (Heap.get?_push_size _ rfl)
  show _ ∧ _
  rw [z2, z3, z4] at g5; rw [z1, z2] at g3; rw [z3] at g4; rw [z1] at g2; rw [z4]
  refine ⟨⟨_, g5, rfl⟩, h _ g5 g3 g4 ?_ ?_ fun c o x => u2 c o (Heap.get?_push_of_some _ x)⟩
  · cases k
    · exact ⟨_, g1, rfl, rfl⟩
    · exact ⟨_, g1, rfl, rfl⟩
  · cases k'
    · exact ⟨_, g2, rfl, rfl⟩
    · exact ⟨_, g2, rfl, rfl⟩
end
/-- a sequence of that kind -/
def SqK (k : ZK) (K : PySem.W.Frag) (H : Hp) (a : Addr) (xs : List V) : Prop := match k with
  | .l => SqL K H a xs
  | .t => SqT K H a xs
theorem sqk_of {k : ZK} {X : Cx} {pins : List (Addr × Obj)} {σ : L2.St} {H : Hp} {s : Shared} {a : Addr} {xs : List V} (I : Inv X pins σ H s) (q : SqK k X.K H a xs) :
    ∃ its : List Value, Vals xs its ∧ SqIs k s.heap a its.toArray ∧ a < s.heap.objs.size := by
  cases k
  · obtain ⟨its, r, p, _⟩ := I.list q
    exact ⟨its, r, p.isList, p.lt⟩
  · obtain ⟨its, r, p, _⟩ := I.tuple q
    obtain ⟨o, ho, _⟩ := id p
    exact ⟨its, r, p, Heap.lt_size ho⟩
theorem sqk_inj {k : ZK} {X : Cx} {pins : List (Addr × Obj)} {σ : L2.St} {H : Hp} {s : Shared} {a : Addr} {xs ys : List V} (I : Inv X pins σ H s) (p : SqK k X.K H a xs) (q : SqK k X.K H a ys) : xs = ys := by
  cases k
  · exact I.list_inj p q
  · exact I.tuple_inj p q
def ItzG (k k' : ZK) (K : PySem.W.Frag) (a b : Addr) : It :=
  ⟨fun i H => ∃ (xs ys : List V) (x y : V), SqK k K H a xs ∧ SqK k' K H b ys ∧ xs[i]? = some x ∧ ys[i]? = some y,
    fun i H v H' => ∃ T x y, v = .ref T ∧ H T = none ∧ H' = upd H T (.tup [x, y]) ∧ (∀ xs, SqK k K H a xs → xs[i]? = some x) ∧ ∀ ys, SqK k' K H b ys → ys[i]? = some y,
    fun i H => ∃ xs ys : List V, SqK k K H a xs ∧ SqK k' K H b ys ∧ (xs.length ≤ i ∨ ys.length ≤ i)⟩
theorem five {z ti to a b : Addr} {c : Addr} (h : c ∈ [z, ti, to, a, b]) : c = z ∨ c = ti ∨ c = to ∨ c = a ∨ c = b := by simpa using h
theorem not5 {z ti to a b : Addr} {c : Addr} (h : c ∉ [z, ti, to, a, b]) : c ≠ z ∧ c ≠ ti ∧ c ≠ to ∧ c ≠ a ∧ c ≠ b := by simpa using h
theorem z_turn {k k' : ZK} {P : Program} {w : World} {K : PySem.W.Frag} {elts : List Expr} {kk : Nat} {tpos : Pos} {p q z ti to a b : Addr} (D : ZipApart z ti to a b p q) :
    Turn P w K (.Tuple elts kk tpos) (ItzG k k' K p q) [z, ti, to, a, b] z (fun i h => IsZip h z ti to .none ∧ IsPair h ti (.ref a) (.ref b) ∧ (∃ x y, IsPair h to x y) ∧ ItIs k h a p i ∧ ItIs k' h b q i) where
  mem := List.mem_cons_self
  obj := fun i h ⟨hz, hI, ⟨x, y, hO⟩, h1, h2⟩ c hc => by
    rcases five hc with e | e | e | e | e
    · rw [e]; exact ⟨_, hz, fun v y => nomatch y⟩
    · rw [e]; exact ⟨_, hI, fun v y => nomatch y⟩
    · rw [e]; exact ⟨_, hO, fun v y => nomatch y⟩
    · rw [e]; exact h1.obj
    · rw [e]; exact h2.obj
  keep := fun i h h' ⟨hz, hI, ⟨x, y, hO⟩, h1, h2⟩ kp => ⟨kp z (by simp) _ hz, kp ti (by simp) _ hI, ⟨x, y, kp to (by simp) _ hO⟩, h1.mv fun o e => kp a (by simp) o e, h2.mv fun o e => kp b (by simp) o e⟩
  item := by
    rintro X rfl rfl rfl hc i pins s σ H E I hf ⟨hz, hI, ⟨x0, y0, hO⟩, h1, h2⟩ ⟨xs, ys, x, y, hqx, hqy, hx, hy⟩
    obtain ⟨its, rv, p1, _⟩ := sqk_of I hqx
    obtain ⟨its2, rv2, p2, _⟩ := sqk_of I hqy
    obtain ⟨u, hu, ru⟩ := rv.get hx
    obtain ⟨u2, hu2, ru2⟩ := rv2.get hy
    have ltz : z < s.heap.objs.size := Heap.lt_size hz
    refine zn_item D hz hI hO h1 h2 p1 p2 (x := u) (y := u2) (by simpa using hu) (by simpa using hu2) fun g z' O' m1 m2 hT hsz hk => ⟨_, rfl, wpAny_letOwnedTupleGo_zip (s := { s with heap := g }) z' fun g2 z2 sb => ?_⟩
    have hT2 : g2.get? s.heap.objs.size = some { cls := .type "tuple", data := .seq #[u, u2] } := (sb.2 _ (Nat.ne_of_gt ltz)).trans hT
    have new : ObjOk X.prog X.w (upd H s.heap.objs.size (.tup [x, y])) g2 s.heap.objs.size (.tup [x, y]) := ⟨show 2 ≤ sizeLine by decide, [u, u2], .cons ru (.cons ru2 .nil), ⟨_, hT2, rfl, _, rfl⟩⟩
    have I1 : Inv X pins σ (upd H s.heap.objs.size (.tup [x, y])) { s with heap := g2 } := I.turnedNew (t' := s.toks) (ch := [z, ti, to, a, b]) (fun c o hb e => by
      obtain ⟨n1, n2, n3, n4, n5⟩ := not5 hb
      exact (sb.2 c n1).trans (hk c o n1 n3 n4 n5 e)) hf (Nat.le_refl _) new
    refine ⟨.ref s.heap.objs.size, _, I1, rfl, ⟨_, x, y, rfl, I.hok.fresh (Nat.le_refl _), rfl, fun l hl => by rw [sqk_inj I hl hqx]; exact hx, fun l hl => by rw [sqk_inj I hl hqy]; exact hy⟩,
      ⟨z2, (sb.2 _ D.TIz).trans (hk _ _ D.TIz D.TITO D.TIi1 D.TIi2 hI), ⟨u, u2, (sb.2 _ D.TOz).trans O'⟩, m1.mv fun o e => (sb.2 _ D.i1z).trans e, m2.mv fun o e => (sb.2 _ D.i2z).trans e⟩, fun c hcm => ?_⟩
    have hlt : c < s.heap.objs.size := by
      rcases five hcm with e | e | e | e | e
      · rw [e]; exact ltz
      · rw [e]; exact Heap.lt_size hI
      · rw [e]; exact Heap.lt_size hO
      · rw [e]; exact h1.lt
      · rw [e]; exact h2.lt
    rw [upd_ne (Nat.ne_of_lt hlt)]; exact (hf c hcm).1
  done := by
    rintro X rfl rfl rfl hc i pins s σ H E I hf ⟨hz, hI, ⟨x0, y0, hO⟩, h1, h2⟩ ⟨xs, ys, hqx, hqy, hend⟩
    obtain ⟨its, rv, p1, _⟩ := sqk_of I hqx
    obtain ⟨its2, rv2, p2, _⟩ := sqk_of I hqy
    have e1 := rv.length
    have e2 := rv2.length
    have he : its.toArray[i]? = none ∨ its2.toArray[i]? = none := hend.imp (fun q => by simp; omega) (fun q => by simp; omega)
    exact zn_end (I.ok.hd hc) D hz hI hO h1 h2 p1 p2 he fun g hk => ⟨rfl, I.turnedL (t' := s.toks) (ch := [z, ti, to, a, b]) (fun c o hb e => by
      obtain ⟨n1, n2, n3, n4, n5⟩ := not5 hb
      exact hk c o n1 n3 n4 n5 e) hf⟩
  self := fun A i s Q E st h => wpAny_pyIter_zip st.1 h
def iZipG (K : PySem.W.Frag) (ta : TA) : TI := fun σ H R => ta σ H fun vs H1 => ∃ k k' a b xs ys, vs = [.ref a, .ref b] ∧ SqK k K H1 a xs ∧ SqK k' K H1 b ys ∧ R (ItzG k k' K a b) H1
theorem pi_zipG {X : Cx} {e e2 : Expr} {ta : TA} {p pos tpos : Pos} {elts : List Expr} {kk : Nat} (hg : Gl X "zip") (hm : X.mg "zip" = none) (ha : PA X [e, e2] ta)
    (hs : starEach [e, e2] X.env = (false, eval e X.env) :: starEach [e2] X.env := by rfl) (hpl : (backTo pos (starEach [e2] X.env)).any (·.1) = false := by rfl) :
    PI X (.Tuple elts kk tpos) (.Call (.Name "zip" p) [e, e2] [] pos) (iZipG X.K ta) := by
  refine ⟨fun pins s σ H R I h => Call_ (ld_blt I hg hm PyProof.Rows.boot_zip (PyProof.Rows.callWith_type1 (thn (ha.run pos pins s σ H _ I h) fun us s1 ⟨vs, H1, I1, r1, q1⟩ => ?_) hs hpl))⟩
  obtain ⟨k, k', a, b, xs, ys, rfl, hqx, hqy, q⟩ := q1
  cases r1 with
  | cons r rr =>
  cases rr with
  | cons r' rr =>
  cases rr
  cases r
  cases r'
  obtain ⟨its, rv, p1, la⟩ := sqk_of I1 hqx
  obtain ⟨its2, rv2, p2, lb⟩ := sqk_of I1 hqy
  refine z_call p1 p2 fun g hz hI hO h1 h2 hk => wpAny_pyIter_zip hz ?_
  refine ⟨s1.heap.objs.size + 4, [s1.heap.objs.size + 4, s1.heap.objs.size + 2, s1.heap.objs.size + 3, s1.heap.objs.size, s1.heap.objs.size + 1], _, _, H1, rfl, I1.kept (t' := s1.toks) hk, z_turn (PySem.W.ktu_apart s1.heap.objs.size a b la lb), ⟨hz, hI, ⟨_, _, hO⟩, h1, h2⟩, fun c hcm => ?_, q⟩
  have hle : s1.heap.objs.size ≤ c := by
    rcases five hcm with e | e | e | e | e
    · rw [e]; exact Nat.le_add_right _ _
    · rw [e]; exact Nat.le_add_right _ _
    · rw [e]; exact Nat.le_add_right _ _
    · rw [e]; exact Nat.le_refl _
    · rw [e]; exact Nat.le_add_right _ _
  exact I1.fpOk hle (I1.hok.fresh hle)
end QZ

set_option Elab.async false
set_option linter.all false
set_option maxRecDepth 100000
set_option maxHeartbeats 1000000
namespace Q
open PySem PySem.Spec PyProof.Rows L2 TL
/-! ### targets -/
inductive CT where
  | one (i : Nat)
  | tup (is : List Nat)
  | lst (is : List Nat)
  | nst (i : Nat) (is : List Nat)
  | nsl (is : List Nat) (i : Nat)
def CT.ix : CT → List Nat
  | .one i => [i]
  | .tup is => is
  | .lst is => is
  | .nst i is => i :: is
  | .nsl is i => i :: is
def setA {α : Type} : List (Option α) → List Nat → List α → List (Option α)
  | e, i :: is, u :: us => setA (e.set i (some u)) is us
  | e, _, _ => e
def CT.asg (c : CT) (u : U) (env : Env') (h : Sto) : Option Env' := match c with
  | .one i => some (env.set i (some u))
  | .tup is => match u with
    | .tup us => if us.length = is.length then some (setA env is us) else none
    | _ => none
  | .lst is => match mL h u with
    | some us => if us.length = is.length then some (setA env is us) else none
    | none => none
  | .nst i is => match u with
    | .tup [x, .tup us] => if us.length = is.length then some (setA (env.set i (some x)) is us) else none
    | _ => none
  | .nsl is i => match u with
    | .tup [.tup us, x] => if us.length = is.length then some ((setA env is us).set i (some x)) else none
    | _ => none
def gAll : List Nat → TGs
  | [] => gNil
  | i :: is => gCons (gName i) (gAll is)
theorem gAll_to : ∀ (is : List Nat) (vs : List V) (σ : L2.St) (H : Hp) (Q : L2.St → Hp → Prop), vs.length = is.length → Q (setA σ is vs) H → gAll is vs σ H Q
  | [], [], σ, H, Q, _, q => ⟨rfl, q⟩
  | i :: is, v :: vs, σ, H, Q, hl, q => ⟨v, vs, rfl, gAll_to is vs (σ.set i (some v)) H Q (by simpa using hl) q⟩
  | [], _ :: _, _, _, _, hl, _ => by simp at hl
  | _ :: _, [], _, _, _, hl, _ => by simp at hl
theorem ER.setA {K : Fr} {g : G} : ∀ {is : List Nat} {vs : List V} {us : List U} {σ : L2.St} {env : Env'}, ER K g σ env → Reps K g vs us → ER K g (Q.setA σ is vs) (Q.setA env is us)
  | [], _, _, _, _, e, _ => by unfold Q.setA; exact e
  | _ :: _, _, _, _, _, e, .nil => by unfold Q.setA; exact e
  | i :: is, _, _, _, _, e, .cons h r => by unfold Q.setA; exact ER.setA (e.set i h) r
theorem wipe_get (σ : L2.St) : ∀ (vs : List Nat) (j : Nat), (wipe σ vs)[j]? = if j ∈ vs ∧ j < σ.length then some none else σ[j]?
  | [], j => by simp [wipe]
  | v :: vs, j => by
    unfold wipe
    by_cases hv : v = j
    · subst hv
      by_cases hl : v < σ.length
      · rw [List.getElem?_set_self (by rw [wipe_length]; exact hl), if_pos ⟨List.mem_cons_self, hl⟩]
      · rw [List.getElem?_eq_none (by rw [List.length_set, wipe_length]; omega), if_neg (fun z => hl z.2), List.getElem?_eq_none (by omega)]
    · rw [List.getElem?_set_ne hv, wipe_get σ vs j]
      by_cases hj : j ∈ vs ∧ j < σ.length
      · rw [if_pos hj, if_pos ⟨List.mem_cons_of_mem _ hj.1, hj.2⟩]
      · rw [if_neg hj, if_neg fun z => hj ⟨(List.mem_cons.mp z.1).resolve_left (Ne.symm hv), z.2⟩]
theorem wipe_set (σ : L2.St) (vs : List Nat) {i : Nat} (hi : i ∈ vs) (x : Option V) : wipe (σ.set i x) vs = wipe σ vs := by
  apply List.ext_getElem?
  intro j
  rw [wipe_get, wipe_get, List.length_set]
  by_cases hj : j ∈ vs ∧ j < σ.length
  · rw [if_pos hj, if_pos hj]
  · rw [if_neg hj, if_neg hj]
    by_cases e : i = j
    · subst e
      have : ¬ i < σ.length := fun z => hj ⟨hi, z⟩
      rw [List.getElem?_eq_none (by rw [List.length_set]; omega), List.getElem?_eq_none (by omega)]
    · rw [List.getElem?_set_ne e]
theorem wipe_wipe (σ : L2.St) (vs : List Nat) : wipe (wipe σ vs) vs = wipe σ vs := by
  apply List.ext_getElem?
  intro j
  rw [wipe_get, wipe_length, wipe_get]
  by_cases hj : j ∈ vs ∧ j < σ.length
  · rw [if_pos hj, if_pos hj]
  · rw [if_neg hj]
theorem wipe_setA (vs : List Nat) : ∀ (is : List Nat) (xs : List V) (σ : L2.St), (∀ i ∈ is, i ∈ vs) → wipe (setA σ is xs) vs = wipe σ vs
  | [], _, σ, _ => by unfold setA; rfl
  | _ :: _, [], σ, _ => by unfold setA; rfl
  | i :: is, x :: xs, σ, h => by
    unfold setA
    rw [wipe_setA vs is xs _ fun j hj => h j (List.mem_cons_of_mem _ hj), wipe_set σ vs (h i List.mem_cons_self)]
def wipeE (e : Env') : List Nat → Env'
  | [] => e
  | v :: vs => (wipeE e vs).set v none
section
variable {K : Fr} {g g' : G} {E : XK} {W : WX} {X : Cx} {H : Hp} {h : Sto} {v w : V} {x y : U} {σ : L2.St} {env : Env'}
theorem ER.none (e : ER K g σ env) (i : Nat) : ER K g (σ.set i none) (env.set i none) := by
  refine ⟨by simp [e.1], fun j w q => ?_⟩
  by_cases hj : i = j
  · subst hj
    by_cases hl : i < env.length
    · rw [List.getElem?_set_self hl] at q; cases q
    · rw [List.getElem?_eq_none (by simpa using hl)] at q; cases q
  · rw [List.getElem?_set_ne hj] at q
    obtain ⟨v', a, b⟩ := e.2 j w q
    exact ⟨v', by rw [List.getElem?_set_ne hj]; exact a, b⟩
theorem ER.wipe (e : ER K g σ env) : ∀ vs : List Nat, ER K g (L2.wipe σ vs) (wipeE env vs)
  | [] => e
  | v :: vs => (ER.wipe e vs).none v
/-- the targets' reading -/
def CT.rd (K : Fr) : CT → TG
  | .one i => gName i
  | .tup is => gTup K is.length (gAll is)
  | .lst is => gUnl K is.length (gAll is)
  | .nst i is => gTup K 2 (gCons (gName i) (gCons (gTup K is.length (gAll is)) gNil))
  | .nsl is i => gTup K 2 (gCons (gTup K is.length (gAll is)) (gCons (gName i) gNil))
theorem ct_to {c : CT} {u : U} {env' : Env'} {Q : L2.St → Hp → Prop} (hr : HR K g H h) (er : ER K g σ env) (rv : Rep K g v u) (e : c.asg u env h = some env')
    (k : ∀ σ', ER K g σ' env' → (∀ vs : List Nat, (∀ i ∈ c.ix, i ∈ vs) → wipe σ' vs = wipe σ vs) → Q σ' H) : c.rd K v σ H Q := by
  cases c with
  | one i =>
    cases e
    exact k _ (er.set i rv) fun vs hv => wipe_set σ vs (hv i (List.mem_singleton.mpr rfl)) _
  | tup is =>
    unfold CT.asg at e
    cases u with
    | tup us =>
      simp only at e
      split at e
      · rename_i hl
        cases e
        obtain ⟨a, vs, rfl, h1, r1⟩ := tup_of hr rv
        exact ⟨a, vs, rfl, h1, by rw [r1.len]; exact hl, gAll_to is vs σ H Q (by rw [r1.len]; exact hl) (k _ (er.setA r1) fun ws hw => wipe_setA ws is vs σ hw)⟩
      · cases e
    | _ => cases e
  | lst is =>
    unfold CT.asg at e
    cases em : mL h u with
    | none => simp [em] at e
    | some us =>
      simp only [em] at e
      split at e
      · rename_i hl
        cases e
        obtain ⟨a, vs, rfl, h1, r1⟩ := mL_of hr rv em
        exact ⟨a, vs, rfl, .inl (.inl h1), by rw [r1.len]; exact hl, gAll_to is vs σ H Q (by rw [r1.len]; exact hl) (k _ (er.setA r1) fun ws hw => wipe_setA ws is vs σ hw)⟩
      · cases e
  | nst i is =>
    unfold CT.asg at e
    simp only at e
    split at e
    · rename_i x us
      split at e
      · rename_i hl
        cases e
        obtain ⟨a, vs, rfl, h1, r1⟩ := tup_of hr rv
        cases r1 with
        | cons ra rb =>
        cases rb with
        | cons rc rd =>
        cases rd
        obtain ⟨a2, vs2, rfl, h2, r2⟩ := tup_of hr rc
        refine ⟨a, _, rfl, h1, rfl, _, _, rfl, _, _, rfl, a2, vs2, rfl, h2, by rw [r2.len]; exact hl, gAll_to is vs2 _ H _ (by rw [r2.len]; exact hl) ⟨rfl, k _ ((er.set i ra).setA r2) fun ws hw => ?_⟩⟩
        rw [wipe_setA ws is vs2 _ fun j hj => hw j (List.mem_cons_of_mem _ hj), wipe_set σ ws (hw i List.mem_cons_self)]
      · cases e
    · cases e
  | nsl is i =>
    unfold CT.asg at e
    simp only at e
    split at e
    · rename_i us x
      split at e
      · rename_i hl
        cases e
        obtain ⟨a, vs, rfl, h1, r1⟩ := tup_of hr rv
        cases r1 with
        | cons ra rb =>
        cases rb with
        | cons rc rd =>
        cases rd
        obtain ⟨a2, vs2, rfl, h2, r2⟩ := tup_of hr ra
        refine ⟨a, _, rfl, h1, rfl, _, _, rfl, a2, vs2, rfl, h2, by rw [r2.len]; exact hl, gAll_to is vs2 _ H _ (by rw [r2.len]; exact hl) ⟨_, _, rfl, rfl, k _ ((er.setA r2).set i rc) fun ws hw => ?_⟩⟩
        rw [wipe_set _ ws (hw i List.mem_cons_self), wipe_setA ws is vs2 _ fun j hj => hw j (List.mem_cons_of_mem _ hj)]
      · cases e
    · cases e
end

/-! ### what is walked -/
abbrev Chk := List (Nat × List U)
def chkOk (c : Chk) (h : Sto) : Prop := ∀ p ∈ c, h[p.1]? = some (.lst p.2)
theorem chkOk_nil (h : Sto) : chkOk [] h := fun _ z => nomatch z
abbrev IM' := Env' → Sto → R (Chk × List U)
structure ItOk (K : Fr) (g : G) (J : It) (c : Chk) (us : List U) : Prop where
  go : ∀ g' H h i, Le g g' → HR K g' H h → chkOk c h → i < us.length → J.go i H
  stop : ∀ g' H h, Le g g' → HR K g' H h → chkOk c h → J.stop us.length H
  yl : ∀ g' H h i x H', Le g g' → HR K g' H h → chkOk c h → i < us.length → J.yld i H x H' → ∃ g2 u, Le g' g2 ∧ HR K g2 H' h ∧ us[i]? = some u ∧ Rep K g2 x u
def WI (K : Fr) (E : XK) (g : G) (r : R (Chk × List U)) (P : It → Hp → Prop) : Prop := match r with
  | .ok (c, us) h' => ∀ J H' g', Le g g' → HR K g' H' h' → ItOk K g' J c us → P J H'
  | .exc C n h => ∀ H g' d, Le g g' → HR K g' H h → DOf g' n d → E (.ref C) d H
  | .bad => False
def iM (K : Fr) (W : WX) (m : IM') : TI := fun σ H P => ∃ g env h, HR K g H h ∧ ER K g σ env ∧ WI K (atSl W σ) g (m env h) P
section
variable {K : Fr} {g g' : G} {E : XK} {W : WX} {X : Cx} {H : Hp} {h : Sto} {v w : V} {x y : U} {σ : L2.St} {env : Env'} {a b c e o tg : Expr} {es rest : List Expr} {ma mb mc me : EM} {ta tb : TM} {pos : Pos} {am : AM} {n : Str} {p : Pos}
theorem PI.weak {tg iter : Expr} {t t' : TI} (p : PI X tg iter t) (h : ∀ σ H Q, t' σ H Q → t σ H Q) : PI X tg iter t' := ⟨fun pins s σ H Q I q => p.run pins s σ H Q I (h σ H Q q)⟩
theorem WI.mono {r : R (Chk × List U)} {P : It → Hp → Prop} (l : Le g g') (w : WI K E g r P) : WI K E g' r P := by
  cases r with
  | ok u h => exact fun J H g2 l2 => w J H g2 (l.trans l2)
  | exc C n h => exact fun H g2 d l2 => w H g2 d (l.trans l2)
  | bad => exact w
theorem wAI {r : R (List U)} {f : List U → Sto → R (Chk × List U)} {P : List V → Hp → Prop} {Q : It → Hp → Prop} (t : WI K E g (r.bind f) Q)
    (k : ∀ us h v H g', Le g g' → HR K g' H h → Reps K g' v us → WI K E g' (f us h) Q → P v H) : WA K E g r P := by
  cases r with
  | bad => exact t
  | exc C n h => exact t
  | ok us h1 => exact fun v H1 g1 l1 hr1 rv => k us h1 v H1 g1 l1 hr1 rv (WI.mono l1 t)
theorem wEI {r : R U} {f : U → Sto → R (Chk × List U)} {P : VK} {Q : It → Hp → Prop} (t : WI K E g (r.bind f) Q)
    (k : ∀ us h v H g', Le g g' → HR K g' H h → Rep K g' v us → WI K E g' (f us h) Q → P v H) : WE K E g r P := by
  cases r with
  | bad => exact t
  | exc C n h => exact t
  | ok us h1 => exact fun v H1 g1 l1 hr1 rv => k us h1 v H1 g1 l1 hr1 rv (WI.mono l1 t)
/-- lo, lo + 1, .. -/
def rng (lo : Int) (n : Nat) : List U := (List.range n).map fun i => .int (lo + (i : Nat))
theorem rng_len (lo : Int) (n : Nat) : (rng lo n).length = n := by simp [rng]
theorem rng_get {lo : Int} {n i : Nat} (h : i < n) : (rng lo n)[i]? = some (.int (lo + (i : Nat))) := by simp [rng, h]
theorem it_range {lo : Int} {n : Nat} : ItOk K g (Itr lo n) [] (rng lo n) where
  go := fun _ _ _ i _ _ _ hi => by rw [rng_len] at hi; exact hi
  stop := fun _ _ _ _ _ _ => by rw [rng_len]; exact Nat.le_refl _
  yl := fun g' H h i x H' _ hr _ hi y => by
    rw [rng_len] at hi
    obtain ⟨rfl, rfl⟩ := y
    exact ⟨g', _, Le.refl _, hr, rng_get hi, .int _⟩
def itR1 (am : AM) : IM' := fun env h => (am env h).bind fun us h1 => match us with
  | [.int j] => if -1000000000 ≤ j ∧ j ≤ 1000000000 then .ok ([], rng 0 j.toNat) h1 else .bad
  | _ => .bad
def itR2 (am : AM) : IM' := fun env h => (am env h).bind fun us h1 => match us with
  | [.int i, .int j] => if (-1000000000 ≤ i ∧ i ≤ 1000000000) ∧ (-1000000000 ≤ j ∧ j ≤ 1000000000) then .ok ([], rng i (j - i).toNat) h1 else .bad
  | _ => .bad
theorem si_r1 (hg : Gl X "range") (hm : X.mg "range" = none) (ha : PA X [a] (aM K W am)) (hs : starEach [a] X.env = [(false, eval a X.env)] := by rfl) : PI X tg (.Call (.Name "range" p) [a] [] pos) (iM K W (itR1 am)) :=
  PI.weak (pi_range1 hg hm ha hs) fun σ H Q ⟨g, env, h, hr, er, w⟩ => ⟨g, env, h, hr, er, wAI w fun us h1 v H1 g1 l1 hr1 rv w1 => by
    split at w1
    · split at w1
      · rename_i z
        cases rv with
        | cons r1 r2 =>
          cases r2
          cases r1
          exact ⟨_, rfl, by omega, by omega, w1 _ H1 g1 (Le.refl _) hr1 it_range⟩
      · exact w1.elim
    · exact w1.elim⟩
theorem si_r2 (hg : Gl X "range") (hm : X.mg "range" = none) (ha : PA X [a, b] (aM K W am)) (hs : starEach [a, b] X.env = [(false, eval a X.env), (false, eval b X.env)] := by rfl) (hs2 : starEach [b] X.env = [(false, eval b X.env)] := by rfl) : PI X tg (.Call (.Name "range" p) [a, b] [] pos) (iM K W (itR2 am)) :=
  PI.weak (pi_range2 hg hm ha hs hs2) fun σ H Q ⟨g, env, h, hr, er, w⟩ => ⟨g, env, h, hr, er, wAI w fun us h1 v H1 g1 l1 hr1 rv w1 => by
    split at w1
    · split at w1
      · rename_i z
        cases rv with
        | cons r1 r2 =>
          cases r2 with
          | cons r2 r3 =>
            cases r3
            cases r1
            cases r2
            exact ⟨_, _, rfl, by omega, w1 _ H1 g1 (Le.refl _) hr1 it_range⟩
      · exact w1.elim
    · exact w1.elim⟩
/-- a list, a tuple, a text -/
def chkOf (x : U) (us : List U) : Chk := match x with
  | .ref n => [(n, us)]
  | _ => []
def itE (a : EM) : IM' := fun env h => (a env h).bind fun x h1 => match x with
  | .str s => .ok ([], s.map fun c => .str [c]) h1
  | x => match sL h1 x with
    | some us => .ok (chkOf x us, us) h1
    | none => .bad
/-- an iterable by its value: a list, a tuple or a text -/
def iAny (K : Fr) (tl : TE) : TI := fun σ H P => tl σ H fun x H1 => (∃ a, x = .ref a ∧ (∃ xs, SqL K H1 a xs) ∧ P (Itl K a) H1) ∨ (∃ a, x = .ref a ∧ (∃ xs, SqT K H1 a xs) ∧ P (Itt K a) H1) ∨ ∃ z, x = .str z ∧ P (Its z) H1
theorem pi_any {l : Expr} {tl : TE} (hl : PE X l tl) : PI X tg l (iAny X.K tl) := by
  refine ⟨fun pins s σ H R I h => ?_⟩
  refine thn (hl.run pins s σ H _ I h) fun v s1 ⟨x, H1, I1, r1, q1⟩ => ?_
  rcases q1 with q1 | q1 | q1
  · obtain ⟨a, e, ⟨xs, hq⟩, q⟩ := q1
    subst e
    cases r1
    obtain ⟨its, rv, p, hz⟩ := I1.list hq
    refine wpAny_pyIter_list p.isList ?_
    refine ⟨s1.heap.objs.size, [s1.heap.objs.size], _, _, H1, rfl, I1.kept (t' := s1.toks) fun b o e => Heap.get?_push_of_some _ e, turn_list a _, ⟨_, Heap.get?_push_size _ rfl, rfl, rfl⟩, fun b hb => ?_, q⟩
    have e : b = s1.heap.objs.size := by simpa using hb
    subst e
    exact I1.fpOk (Nat.le_refl _) (I1.hok.fresh (Nat.le_refl _))
  · obtain ⟨a, e, ⟨xs, hq⟩, q⟩ := q1
    subst e
    cases r1
    obtain ⟨its, rv, p, hz⟩ := I1.tuple hq
    refine wpAny_pyIter_tuple (show s1.heap.IsTuple a its.toArray from p) ?_
    refine ⟨s1.heap.objs.size, [s1.heap.objs.size], _, _, H1, rfl, I1.kept (t' := s1.toks) fun b o e => Heap.get?_push_of_some _ e, turn_tuple a _, ⟨_, Heap.get?_push_size _ rfl, rfl, rfl⟩, fun b hb => ?_, q⟩
    have e : b = s1.heap.objs.size := by simpa using hb
    subst e
    exact I1.fpOk (Nat.le_refl _) (I1.hok.fresh (Nat.le_refl _))
  · obtain ⟨z, ex, q⟩ := q1
    subst ex
    obtain ⟨t, rfl⟩ := r1
    cases ha : z.cps.all (· < 128)
    · exact wpAny_pyIter_wide ha (pi_one (tk := s1.toks) I1 _ (turn_str _ z t "str_iterator" (.inr rfl)) ⟨_, Heap.get?_push_size _ rfl, rfl, rfl⟩ q)
    · exact wpAny_pyIter_ascii ha (pi_one (tk := s1.toks) I1 _ (turn_str _ z t "str_ascii_iterator" (.inl rfl)) ⟨_, Heap.get?_push_size _ rfl, rfl, rfl⟩ q)
/-- a list that lies in F, or is of the written part -/
theorem it_kl {a : Addr} {vs : List V} {us : List U} (q : SqL K g.F a vs) (r : Reps K g vs us) (one : ∀ g' H h, Le g g' → HR K g' H h → ∀ ys, SqL K H a ys → ys = vs) : ItOk K g (Itl K a) [] us where
  go := fun g' H h i l hr _ hi => by
    have hv : i < vs.length := by rw [r.len]; exact hi
    exact ⟨vs, vs[i], hr.sqL (sql_mono l.F q), by simp [hv]⟩
  stop := fun g' H h l hr _ => ⟨vs, hr.sqL (sql_mono l.F q), by rw [r.len]; exact Nat.le_refl _⟩
  yl := fun g' H h i x H' l hr _ hi y => by
    obtain ⟨rfl, y⟩ := y
    have hx := y vs (hr.sqL (sql_mono l.F q))
    obtain ⟨u, hu, ru⟩ := r.getV hx
    exact ⟨g', u, Le.refl _, hr, hu, ru.mono l⟩
theorem it_L {a : Addr} {vs : List V} {us : List U} (q : SqL K g.F a vs) (r : Reps K g vs us) : ItOk K g (Itl K a) [] us where
  go := fun g' H h i l hr _ hi => by
    have hv : i < vs.length := by rw [r.len]; exact hi
    exact ⟨vs, vs[i], hr.sqL (sql_mono l.F q), by simp [hv]⟩
  stop := fun g' H h l hr _ => ⟨vs, hr.sqL (sql_mono l.F q), by rw [r.len]; exact Nat.le_refl _⟩
  yl := fun g' H h i x H' l hr _ hi y => by
    obtain ⟨rfl, y⟩ := y
    have hx := y vs (hr.sqL (sql_mono l.F q))
    obtain ⟨u, hu, ru⟩ := r.getV hx
    exact ⟨g', u, Le.refl _, hr, hu, ru.mono l⟩
theorem it_T {a : Addr} {vs : List V} {us : List U} (q : SqT K g.F a vs) (r : Reps K g vs us) : ItOk K g (Itt K a) [] us where
  go := fun g' H h i l hr _ hi => by
    have hv : i < vs.length := by rw [r.len]; exact hi
    exact ⟨vs, vs[i], hr.sqT (sqt_mono l.F q), by simp [hv]⟩
  stop := fun g' H h l hr _ => ⟨vs, hr.sqT (sqt_mono l.F q), by rw [r.len]; exact Nat.le_refl _⟩
  yl := fun g' H h i x H' l hr _ hi y => by
    obtain ⟨rfl, y⟩ := y
    have hx := y vs (hr.sqT (sqt_mono l.F q))
    obtain ⟨u, hu, ru⟩ := r.getV hx
    exact ⟨g', u, Le.refl _, hr, hu, ru.mono l⟩
theorem it_ref {a : Addr} {n : Nat} {us : List U} (q : g.al[n]? = some a) : ItOk K g (Itl K a) [(n, us)] us where
  go := fun g' H h i l hr ck hi => by
    obtain ⟨vs, h1, h2⟩ := hr.ob n a _ (l.get q) (ck (n, us) (List.mem_singleton.mpr rfl))
    have hv : i < vs.length := by rw [h2.len]; exact hi
    exact ⟨vs, vs[i], .inl (.inl h1), by simp [hv]⟩
  stop := fun g' H h l hr ck => by
    obtain ⟨vs, h1, h2⟩ := hr.ob n a _ (l.get q) (ck (n, us) (List.mem_singleton.mpr rfl))
    exact ⟨vs, .inl (.inl h1), by rw [h2.len]; exact Nat.le_refl _⟩
  yl := fun g' H h i x H' l hr ck hi y => by
    obtain ⟨vs, h1, h2⟩ := hr.ob n a _ (l.get q) (ck (n, us) (List.mem_singleton.mpr rfl))
    obtain ⟨rfl, y⟩ := y
    obtain ⟨u, hu, ru⟩ := h2.getV (y vs (.inl (.inl h1)))
    exact ⟨g', u, Le.refl _, hr, hu, ru⟩
theorem it_str {s : List Nat} : ItOk K g (Its ⟨s.toArray⟩) [] (s.map fun c => .str [c]) where
  go := fun g' H h i l hr _ hi => by simpa [Its] using hi
  stop := fun g' H h l hr _ => by simp [Its]
  yl := fun g' H h i x H' l hr _ hi y => by
    obtain ⟨rfl, c, hc, rfl⟩ := y
    refine ⟨g', .str [c], Le.refl _, hr, ?_, .str [c]⟩
    have hc : s[i]? = some c := by simpa using hc
    simp [hc]
theorem si_e (he : PE X e (tM X.K W me)) : PI X tg e (iM X.K W (itE me)) :=
  PI.weak (pi_any he) fun σ H Q ⟨g, env, h, hr, er, w⟩ => ⟨g, env, h, hr, er, wEI w fun u h1 v H1 g1 l1 hr1 rv w1 => by
    cases rv with
    | str s => exact .inr (.inr ⟨_, rfl, w1 _ H1 g1 (Le.refl _) hr1 it_str⟩)
    | tup q r => exact .inr (.inl ⟨_, rfl, ⟨_, hr1.sqT q⟩, w1 _ H1 g1 (Le.refl _) hr1 (it_T q r)⟩)
    | fl q r => exact .inl ⟨_, rfl, ⟨_, .inl (.inl (hr1.ex _ _ q))⟩, w1 _ H1 g1 (Le.refl _) hr1 (it_L (.inl (.inl q)) r)⟩
    | kl q r => exact .inl ⟨_, rfl, ⟨_, hr1.sqL q⟩, w1 _ H1 g1 (Le.refl _) hr1 (it_L q r)⟩
    | @ref a n q =>
      have w1 : WI X.K (atSl W σ) g1 (match sL h1 (.ref n) with
        | some us => (R.ok (chkOf (.ref n) us, us) h1 : R (Chk × List U))
        | none => .bad) Q := w1
      cases es : sL h1 (.ref n) with
      | none => rw [es] at w1; exact w1.elim
      | some us =>
        rw [es] at w1
        obtain ⟨b, vs, hb, h2, r2⟩ := mL_of hr1 (.ref q) (show mL h1 (.ref n) = _ from es)
        cases hb
        exact .inl ⟨_, rfl, ⟨vs, .inl (.inl h2)⟩, w1 _ H1 g1 (Le.refl _) hr1 (it_ref q)⟩
    | _ => exact w1.elim⟩
/-- pairs of the turn and the item; of two lists -/
def pairs (xs ys : List U) : List U := (xs.zip ys).map fun p => .tup [p.1, p.2]
theorem pairs_get {xs ys : List U} {i : Nat} {x y : U} (h1 : xs[i]? = some x) (h2 : ys[i]? = some y) : (pairs xs ys)[i]? = some (.tup [x, y]) := by
  unfold pairs
  rw [List.getElem?_map, show (xs.zip ys)[i]? = some (x, y) from List.getElem?_zip_eq_some.mpr ⟨h1, h2⟩]
  rfl
theorem pairs_len (xs ys : List U) : (pairs xs ys).length = min xs.length ys.length := by simp [pairs]
/-- where a list lies: what it holds as long as it is not touched -/
structure LsOk (K : Fr) (g : G) (a : Addr) (c : Chk) (us : List U) : Prop where
  is : ∀ g' H h, Le g g' → HR K g' H h → chkOk c h → ∃ vs, SqL K H a vs ∧ Reps K g' vs us
theorem ls_of {us : List U} (hr : HR K g H h) (r : Rep K g v x) (e : aL h x = some us) : ∃ a, v = .ref a ∧ LsOk K g a (chkOf x us) us ∧ ∃ vs, SqL K H a vs := by
  cases r with
  | kl q s => cases e; exact ⟨_, rfl, ⟨fun g' H h l hr _ => ⟨_, hr.sqL (sql_mono l.F q), s.mono l⟩⟩, _, hr.sqL q⟩
  | fl q s => cases e; exact ⟨_, rfl, ⟨fun g' H h l hr _ => ⟨_, .inl (.inl (hr.ex _ _ (l.F _ _ q))), s.mono l⟩⟩, _, .inl (.inl (hr.ex _ _ q))⟩
  | @ref a n q =>
    obtain ⟨b, vs, hb, h2, r2⟩ := mL_of hr (.ref q) (show mL h (.ref n) = _ from e)
    cases hb
    refine ⟨_, rfl, ⟨fun g' H h l hr ck => ?_⟩, vs, .inl (.inl h2)⟩
    obtain ⟨ws, h1, h3⟩ := hr.ob n _ _ (l.get q) (ck (n, us) (List.mem_singleton.mpr rfl))
    exact ⟨ws, .inl (.inl h1), h3⟩
  | _ => simp [aL, mL] at e
theorem chk_app {c d : Chk} {h : Sto} (k : chkOk (c ++ d) h) : chkOk c h ∧ chkOk d h := ⟨fun p hp => k p (List.mem_append_left _ hp), fun p hp => k p (List.mem_append_right _ hp)⟩
structure LzOk (K : Fr) (g : G) (k : QZ.ZK) (a : Addr) (c : Chk) (us : List U) : Prop where
  is : ∀ g' H h, Le g g' → HR K g' H h → chkOk c h → ∃ vs, QZ.SqK k K H a vs ∧ Reps K g' vs us
theorem lz_of {us : List U} (hr : HR K g H h) (r : Rep K g v x) (e : sL h x = some us) : ∃ k a, v = .ref a ∧ LzOk K g k a (chkOf x us) us ∧ ∃ vs, QZ.SqK k K H a vs := by
  have go : aL h x = some us → ∃ k a, v = .ref a ∧ LzOk K g k a (chkOf x us) us ∧ ∃ vs, QZ.SqK k K H a vs := fun e => by
    obtain ⟨a, rfl, la, vs, hv⟩ := ls_of hr r e
    exact ⟨.l, a, rfl, ⟨fun g' H h l hr ck => la.is g' H h l hr ck⟩, vs, hv⟩
  cases r with
  | tup q s => cases e; exact ⟨.t, _, rfl, ⟨fun g' H h l hr _ => ⟨_, hr.sqT (sqt_mono l.F q), s.mono l⟩⟩, _, hr.sqT q⟩
  | kl q s => exact go e
  | fl q s => exact go e
  | ref q => exact go e
  | _ => simp [sL, aL, mL] at e
theorem it_zip {k k' : QZ.ZK} {a b : Addr} {c d : Chk} {us ts : List U} (la : LzOk K g k a c us) (lb : LzOk K g k' b d ts) : ItOk K g (QZ.ItzG k k' K a b) (c ++ d) (pairs us ts) where
  go := fun g' H h i l hr ck hi => by
    rw [pairs_len] at hi
    obtain ⟨vs, h1, r1⟩ := la.is g' H h l hr (chk_app ck).1
    obtain ⟨ws, h2, r2⟩ := lb.is g' H h l hr (chk_app ck).2
    have e1 : i < vs.length := by rw [r1.len]; omega
    have e2 : i < ws.length := by rw [r2.len]; omega
    exact ⟨vs, ws, vs[i], ws[i], h1, h2, by simp [e1], by simp [e2]⟩
  stop := fun g' H h l hr ck => by
    rw [pairs_len]
    obtain ⟨vs, h1, r1⟩ := la.is g' H h l hr (chk_app ck).1
    obtain ⟨ws, h2, r2⟩ := lb.is g' H h l hr (chk_app ck).2
    exact ⟨vs, ws, h1, h2, by rw [r1.len, r2.len]; omega⟩
  yl := fun g' H h i x H' l hr ck hi y => by
    obtain ⟨vs, h1, r1⟩ := la.is g' H h l hr (chk_app ck).1
    obtain ⟨ws, h2, r2⟩ := lb.is g' H h l hr (chk_app ck).2
    obtain ⟨T, x1, x2, rfl, hT, rfl, y1, y2⟩ := y
    obtain ⟨u1, q1, z1⟩ := r1.getV (y1 vs h1)
    obtain ⟨u2, q2, z2⟩ := r2.getV (y2 ws h2)
    obtain ⟨l2, a1, a2⟩ := hr.newTup hT (.cons z1 (.cons z2 .nil))
    exact ⟨_, _, l2, a1, pairs_get q1 q2, a2⟩
theorem it_enum {a : Addr} {c : Chk} {us : List U} (la : LsOk K g a c us) : ItOk K g (Ite K a) c (pairs (rng 0 us.length) us) where
  go := fun g' H h i l hr ck hi => by
    rw [pairs_len, rng_len] at hi
    obtain ⟨vs, h1, r1⟩ := la.is g' H h l hr ck
    have e1 : i < vs.length := by rw [r1.len]; omega
    exact ⟨vs, vs[i], h1, by simp [e1]⟩
  stop := fun g' H h l hr ck => by
    rw [pairs_len, rng_len]
    obtain ⟨vs, h1, r1⟩ := la.is g' H h l hr ck
    exact ⟨vs, h1, by rw [r1.len]; omega⟩
  yl := fun g' H h i x H' l hr ck hi y => by
    rw [pairs_len, rng_len] at hi
    obtain ⟨vs, h1, r1⟩ := la.is g' H h l hr ck
    obtain ⟨T, x2, rfl, hT, rfl, y2⟩ := y
    obtain ⟨u2, q2, z2⟩ := r1.getV (y2 vs h1)
    obtain ⟨l2, a1, a2⟩ := hr.newTup hT (.cons (.int (i : Nat)) (.cons z2 .nil))
    refine ⟨_, _, l2, a1, pairs_get (x := .int (i : Nat)) ?_ q2, a2⟩
    rw [rng_get (by omega)]
    simp
def itZ (am : AM) : IM' := fun env h => (am env h).bind fun us h1 => match us with
  | [x, y] => (match sL h1 x, sL h1 y with
    | some us, some ts => .ok (chkOf x us ++ chkOf y ts, pairs us ts) h1
    | _, _ => .bad)
  | _ => .bad
def itN (am : AM) : IM' := fun env h => (am env h).bind fun us h1 => match us with
  | [x] => (match aL h1 x with
    | some us => .ok (chkOf x us, pairs (rng 0 us.length) us) h1
    | _ => .bad)
  | _ => .bad
variable {tpos : Pos} {elts : List Expr} {kk : Nat}
theorem si_zip (hg : Gl X "zip") (hm : X.mg "zip" = none) (ha : PA X [a, b] (aM X.K W am)) (hs : starEach [a, b] X.env = (false, eval a X.env) :: starEach [b] X.env := by rfl) (hpl : (backTo pos (starEach [b] X.env)).any (·.1) = false := by rfl) : PI X (.Tuple elts kk tpos) (.Call (.Name "zip" p) [a, b] [] pos) (iM X.K W (itZ am)) :=
  PI.weak (QZ.pi_zipG hg hm ha hs hpl) fun σ H Q ⟨g, env, h, hr, er, w⟩ => ⟨g, env, h, hr, er, wAI w fun us h1 v H1 g1 l1 hr1 rv w1 => by
    split at w1
    · split at w1
      · rename_i e1 e2
        cases rv with
        | cons r1 r2 =>
          cases r2 with
          | cons r2 r3 =>
            cases r3
            obtain ⟨k, a, rfl, la, vs, ha⟩ := lz_of hr1 r1 e1
            obtain ⟨k', b, rfl, lb, ws, hb⟩ := lz_of hr1 r2 e2
            exact ⟨k, k', a, b, vs, ws, rfl, ha, hb, w1 _ H1 g1 (Le.refl _) hr1 (it_zip la lb)⟩
      · exact w1.elim
    · exact w1.elim⟩
theorem si_enum (hg : Gl X "enumerate") (hm : X.mg "enumerate" = none) (ha : PA X [a] (aM X.K W am)) (hs : starEach [a] X.env = [(false, eval a X.env)] := by rfl) : PI X (.Tuple elts kk tpos) (.Call (.Name "enumerate" p) [a] [] pos) (iM X.K W (itN am)) :=
  PI.weak (pi_enum hg hm ha hs) fun σ H Q ⟨g, env, h, hr, er, w⟩ => ⟨g, env, h, hr, er, wAI w fun us h1 v H1 g1 l1 hr1 rv w1 => by
    split at w1
    · split at w1
      · rename_i e1
        cases rv with
        | cons r1 r2 =>
          cases r2
          obtain ⟨a, rfl, la, vs, ha⟩ := ls_of hr1 r1 e1
          exact ⟨a, vs, rfl, ha, w1 _ H1 g1 (Le.refl _) hr1 (it_enum la)⟩
      · exact w1.elim
    · exact w1.elim⟩
end
end Q

set_option Elab.async false
set_option linter.all false
set_option maxRecDepth 100000
set_option maxHeartbeats 1000000
namespace Q
open PySem PySem.Spec PyProof.Rows L2 TL
/-! ### statements -/
def mNx : SM := fun env h => .nx env h
def mSeq (a b : SM) : SM := fun env h => match a env h with
  | .nx e h1 => b e h1
  | r => r
def gCT (c : CT) (u : U) (env : Env') (h : Sto) : RS := match c.asg u env h with
  | some e => .nx e h
  | none => .bad
/-- a statement goes on with what a part gives -/
def R.st {α : Type} (r : R α) (env : Env') (f : α → Sto → RS) : RS := match r with
  | .ok a h => f a h
  | .exc C n h => .ex C n env h
  | .bad => .bad
def mAsg (c : CT) (a : EM) : SM := fun env h => (a env h).st env fun u h1 => gCT c u env h1
def mRet (a : EM) : SM := fun env h => (a env h).st env fun u h1 => .rt u h1
def mRetN : SM := fun _ h => .rt .non h
def mDrop (a : EM) : SM := fun env h => (a env h).st env fun _ h1 => .nx env h1
def mIfS (t : TM) (a b : SM) : SM := fun env h => (t env h).st env fun c h1 => if c = true then a env h1 else b env h1
def mBrk : SM := fun env h => .bk env h
def mCnt : SM := fun env h => .ct env h
section
variable {K : Fr} {g g' : G} {E : XK} {W : WX} {X : Cx} {H : Hp} {h : Sto} {v w : V} {x y : U} {σ : L2.St} {env : Env'} {a b c e o tg : Expr} {es rest : List Expr} {ma mb mc me mo : EM} {ta tb : TM} {pos : Pos} {am : AM} {n : Str} {p : Pos}
  {st : Stmt} {sts : List Stmt} {m m1 m2 : SM}
theorem ss_nil : PSs X [] (sM K W mNx) := PSs.weak pss_nil fun D σ H ⟨g, env, h, hr, er, w⟩ => w σ H g (Le.refl _) hr er
theorem ss_cons (h1 : PS X st (sM K W m1)) (h2 : PSs X sts (sM K W m2)) : PSs X (st :: sts) (sM K W (mSeq m1 m2)) :=
  PSs.weak (pss_cons h1 h2) fun D σ H ⟨g, env, h, hr, er, w⟩ => ⟨g, env, h, hr, er, by
    unfold mSeq at w
    cases e1 : m1 env h with
    | nx e h1 =>
      rw [e1] at w
      exact fun σ1 H1 g1 l1 hr1 er1 => ⟨g1, e, h1, hr1, er1, WS.mono l1 w⟩
    | rt u h1 => rw [e1] at w; exact w
    | bk e h1 => rw [e1] at w; exact w
    | ct e h1 => rw [e1] at w; exact w
    | ex C n e h => rw [e1] at w; exact w
    | bad => rw [e1] at w; exact w⟩
theorem ss_one (h1 : PS X st (sM K W m)) : PSs X [st] (sM K W m) := pss_one h1
theorem wAsg {r : R U} {f : U → Sto → RS} {D : Ends} {P : VK} (er : ER K g σ env) (t : WS K W g (r.st env f) D) (k : ∀ u h v H g', Le g g' → HR K g' H h → Rep K g' v u → WS K W g' (f u h) D → P v H) : WE K (atSl W σ) g r P := by
  cases r with
  | bad => exact t
  | exc C n h => exact fun H g' d l hr q => t σ H g' d l hr (er.mono l) q
  | ok u h => exact fun v H g' l hr rv => k u h v H g' l hr rv (WS.mono l t)
theorem wTst {r : R Bool} {f : Bool → Sto → RS} {D : Ends} {P : Bool → Hp → Prop} (er : ER K g σ env) (t : WS K W g (r.st env f) D) (k : ∀ u h H g', Le g g' → HR K g' H h → WS K W g' (f u h) D → P u H) : WT K (atSl W σ) g r P := by
  cases r with
  | bad => exact t
  | exc C n h => exact fun H g' d l hr q => t σ H g' d l hr (er.mono l) q
  | ok u h => exact fun H g' l hr => k u h H g' l hr (WS.mono l t)
theorem gct_to {ct : CT} {D : Ends} {u : U} (hr : HR K g H h) (er : ER K g σ env) (rv : Rep K g v u) (w : WS K W g (gCT ct u env h) D) : ct.rd K v σ H D.nx := by
  unfold gCT at w
  cases e : ct.asg u env h with
  | none => rw [e] at w; exact w.elim
  | some env' =>
    rw [e] at w
    exact ct_to hr er rv e fun σ' er' _ => w σ' H g (Le.refl _) hr er'
theorem asg_to {ct : CT} {D : Ends} (q : sM K W (mAsg ct ma) D σ H) : tAsg (tM K W ma) (ct.rd K) D σ H := by
  obtain ⟨g, env, h, hr, er, w⟩ := q
  exact ⟨g, env, h, hr, er, wAsg er w fun u h1 v H1 g1 l1 hr1 rv w1 => gct_to hr1 (er.mono l1) rv w1⟩
theorem ss_set {i : Nat} {x : Str} {pos' : Pos} (hN : X.N.Nodup) (hi : X.N[i]? = some x) (hx : L2.Loc X.env.scope x) (he : PE X e (tM K W me)) (hs : swapsWith e (some (.Name x pos')) pos.line X.env = pure false := by rfl)
    (hf : X.fn x = true ∨ X.env.scope.names.lookup x = some .local := by first | exact .inl rfl | exact .inr rfl | assumption) : PS X (.Assign [.Name x pos'] e pos) (sM K W (mAsg (.one i) me)) :=
  PS.weak (ps_set hN hi hx he hs hf) fun D σ H q => asg_to q
theorem ss_setT {is : List Nat} {elts : List Expr} {kk : Nat} {tp : Pos} (hc : X.calm = true) (he : PE X e (tM X.K W me)) (hg : PGs X elts (gAll is)) (hn : (assignEach elts X.env).length = is.length := by rfl) (hst : (assignEach elts X.env).findIdx? (·.1) = none := by rfl)
    (hs : swapsWithSole [.Tuple elts kk tp] e pos.line X.env = pure false := by rfl) (hw : swappedStores [.Tuple elts kk tp] e X.env = pure none := by rfl) (h1 : (assignEach [.Tuple elts kk tp] X.env).map (·.2) = [assign (.Tuple elts kk tp) X.env] := by rfl) :
    PS X (.Assign [.Tuple elts kk tp] e pos) (sM X.K W (mAsg (.tup is) me)) :=
  PS.weak (ps_asg he (pg_tup hc hg hn hst) hs hw h1) fun D σ H q => asg_to q
theorem ss_setL {is : List Nat} {elts : List Expr} {kk : Nat} {tp : Pos} (hc : X.calm = true) (he : PE X e (tM X.K W me)) (hg : PGs X elts (gAll is)) (hn : (assignEach elts X.env).length = is.length := by rfl) (hst : (assignEach elts X.env).findIdx? (·.1) = none := by rfl)
    (hs : swapsWithSole [.Tuple elts kk tp] e pos.line X.env = pure false := by rfl) (hw : swappedStores [.Tuple elts kk tp] e X.env = pure none := by rfl) (h1 : (assignEach [.Tuple elts kk tp] X.env).map (·.2) = [assign (.Tuple elts kk tp) X.env] := by rfl) :
    PS X (.Assign [.Tuple elts kk tp] e pos) (sM X.K W (mAsg (.lst is) me)) :=
  PS.weak (ps_asg he (pg_unl hc hg hn hst) hs hw h1) fun D σ H q => asg_to q
theorem ss_ret (he : PE X e (tM K W me)) : PS X (.Return (some e) pos) (sM K W (mRet me)) :=
  PS.weak (ps_ret he) fun D σ H ⟨g, env, h, hr, er, w⟩ => ⟨g, env, h, hr, er, wAsg er w fun u h1 v H1 g1 l1 hr1 rv w1 => w1 v H1 g1 (Le.refl _) hr1 rv⟩
theorem ss_retN : PS X (.Return none pos) (sM K W mRetN) := PS.weak ps_retN fun D σ H ⟨g, env, h, hr, er, w⟩ => w .non H g (Le.refl _) hr .non
theorem ss_expr (he : PE X e (tM K W me)) (hs : swapsWith e none pos.line X.env = pure false := by rfl) : PS X (.Expr e pos) (sM K W (mDrop me)) :=
  PS.weak (ps_expr he hs) fun D σ H ⟨g, env, h, hr, er, w⟩ => ⟨g, env, h, hr, er, wAsg er w fun u h1 v H1 g1 l1 hr1 rv w1 => w1 σ H1 g1 (Le.refl _) hr1 (er.mono l1)⟩
theorem ss_if {sa sb : List Stmt} (hc : PT X c (bM K W ta)) (ha : PSs X sa (sM K W m1)) (hb : PSs X sb (sM K W m2)) : PS X (.If c sa sb pos) (sM K W (mIfS ta m1 m2)) :=
  PS.weak (ps_if hc ha hb) fun D σ H ⟨g, env, h, hr, er, w⟩ => ⟨g, env, h, hr, er, wTst er w fun k h1 H1 g1 l1 hr1 w1 => by
      cases k with
      | true => exact ⟨g1, env, h1, hr1, er.mono l1, w1⟩
      | false => exact ⟨g1, env, h1, hr1, er.mono l1, w1⟩⟩
theorem ss_pass : PS X (.Pass pos) (sM K W mNx) := PS.weak ps_pass fun D σ H ⟨g, env, h, hr, er, w⟩ => w σ H g (Le.refl _) hr er
theorem ss_brk : PS X (.Break pos) (sM K W mBrk) := PS.weak ps_break fun D σ H ⟨g, env, h, hr, er, w⟩ => w σ H g (Le.refl _) hr er
theorem ss_cnt : PS X (.Continue pos) (sM K W mCnt) := PS.weak ps_continue fun D σ H ⟨g, env, h, hr, er, w⟩ => w σ H g (Le.refl _) hr er

/-! ### for -/
open Classical in
noncomputable def forL (c : Chk) (ct : CT) (mb : SM) : List U → Env' → Sto → RS
  | [], env, h => if chkOk c h then .nx env h else .bad
  | u :: us, env, h => if chkOk c h then (match ct.asg u env h with
      | some env1 => (match mb env1 h with
        | .nx e h1 => forL c ct mb us e h1
        | .ct e h1 => forL c ct mb us e h1
        | .bk e h1 => .nx e h1
        | r => r)
      | none => .bad) else .bad
noncomputable def mFor (mi : IM') (ct : CT) (mb : SM) : SM := fun env h => (mi env h).st env fun z h1 => forL z.1 ct mb z.2 env h1
theorem for_to {J : It} {c : Chk} {us : List U} {ct : CT} {mb : SM} {tb' : TS} {D : Ends} (hb : ∀ D σ H, sM K W mb D σ H → tb' D σ H) (hr : HR K g H h) (er : ER K g σ env) (ok : ItOk K g J c us) (w : WS K W g (forL c ct mb us env h) D) :
    ∃ W : Nat → Nat → L2.St → Hp → Prop, (∃ m, W 0 m σ H) ∧ ∀ i m σ H, W i m σ H →
      (J.stop i H ∧ D.nx σ H) ∨ (J.go i H ∧ ∃ N : L2.St → Hp → Prop, (∀ σ' H', N σ' H' → ∃ m', m' < m ∧ W (i + 1) m' σ' H') ∧ ∀ x H', J.yld i H x H' → ct.rd K x σ H' fun σ2 H2 => tb' { D with nx := N, ct := N, bk := D.nx } σ2 H2) := by
  refine ⟨fun i m σ H => m = us.length - i ∧ i ≤ us.length ∧ ∃ g' env h, Le g g' ∧ HR K g' H h ∧ ER K g' σ env ∧ WS K W g' (forL c ct mb (us.drop i) env h) D, ⟨us.length, by simp, Nat.zero_le _, g, env, h, Le.refl _, hr, er, w⟩, ?_⟩
  rintro i m σ H ⟨rfl, hi, g', env, h, l, hr, er, w⟩
  by_cases hlt : i < us.length
  · rw [List.drop_eq_getElem_cons hlt] at w
    unfold forL at w
    split at w
    · rename_i ck
      refine .inr ⟨ok.go g' H h i l hr ck hlt, fun σ' H' => i + 1 ≤ us.length ∧ ∃ g2 env h, Le g g2 ∧ HR K g2 H' h ∧ ER K g2 σ' env ∧ WS K W g2 (forL c ct mb (us.drop (i + 1)) env h) D, fun σ' H' q => ⟨us.length - (i + 1), by omega, rfl, q⟩, fun x H' y => ?_⟩
      obtain ⟨g2, u, l2, hr2, hu, ru⟩ := ok.yl g' H h i x H' l hr ck hlt y
      have eu : us[i] = u := by
        rw [List.getElem?_eq_getElem hlt] at hu
        exact Option.some.inj hu
      rw [eu] at w
      cases ea : ct.asg u env h with
      | none => rw [ea] at w; exact w.elim
      | some env1 =>
        rw [ea] at w
        refine ct_to hr2 (er.mono l2) ru ea fun σ2 er2 _ => hb _ _ _ ⟨g2, env1, h, hr2, er2, ?_⟩
        have w := WS.mono l2 w
        simp only at w
        cases eb : mb env1 h with
        | bad => rw [eb] at w; exact w
        | ex C n e h => rw [eb] at w; exact w
        | rt u h1 => rw [eb] at w; exact w
        | bk e h1 => rw [eb] at w; exact w
        | nx e h1 => rw [eb] at w; exact fun σ3 H3 g3 l3 hr3 er3 => ⟨hlt, g3, e, h1, (l.trans l2).trans l3, hr3, er3, WS.mono l3 w⟩
        | ct e h1 => rw [eb] at w; exact fun σ3 H3 g3 l3 hr3 er3 => ⟨hlt, g3, e, h1, (l.trans l2).trans l3, hr3, er3, WS.mono l3 w⟩
    · exact w.elim
  · have e : i = us.length := by omega
    subst e
    rw [List.drop_length] at w
    unfold forL at w
    split at w
    · rename_i ck
      exact .inl ⟨ok.stop g' H h l hr ck, w σ H g' (Le.refl _) hr er⟩
    · exact w.elim
variable {mi : IM'} {ct : CT} {iter : Expr} {body : List Stmt} {mbs : SM}
theorem ss_for (hp : PassesOwn (model X.prog X.w) X.A X.env X.xe) (hc : X.calm = true) (hi : PI X tg iter (iM X.K W mi)) (hg : PG X tg (ct.rd X.K)) (hb : PSs X body (sM X.K W mbs)) (hs : ∀ x, foldedSetIterable iter X.env x = pure x := by intro _; rfl) :
    PS X (.For tg iter body [] pos) (sM X.K W (mFor mi ct mbs)) :=
  PS.weak (ps_for hp hc hi hg hb hs) fun D σ H ⟨g, env, h, hr, er, w⟩ => ⟨g, env, h, hr, er, by
    unfold mFor at w
    cases e : mi env h with
    | bad => rw [e] at w; exact w
    | exc C n h => rw [e] at w; exact fun H g' d l hr q => w σ H g' d l hr (er.mono l) q
    | ok z h1 =>
      obtain ⟨c, us⟩ := z
      rw [e] at w
      exact fun J H1 g1 l1 hr1 ok => for_to (fun _ _ _ q => q) hr1 (er.mono l1) ok (WS.mono l1 w)⟩
theorem pg_one {i : Nat} {x : Str} (hN : X.N.Nodup) (hi : X.N[i]? = some x) (hx : L2.Loc X.env.scope x) (hf : X.fn x = true ∨ X.env.scope.names.lookup x = some .local := by first | exact .inl rfl | exact .inr rfl | assumption) : PG X (.Name x pos) ((CT.one i).rd K) := pg_name hN hi hx hf
theorem pg_tupA {is : List Nat} {elts : List Expr} {kk : Nat} (hc : X.calm = true) (hg : PGs X elts (gAll is)) (hn : (assignEach elts X.env).length = is.length := by rfl) (hst : (assignEach elts X.env).findIdx? (·.1) = none := by rfl) : PG X (.Tuple elts kk pos) ((CT.tup is).rd X.K) := pg_tup hc hg hn hst
theorem pgs_n : PGs X [] (gAll []) := pgs_nil
theorem pg_nst {i : Nat} {x : Str} {is : List Nat} {elts : List Expr} {k1 k2 : Nat} {p1 p2 p3 : Pos} (hc : X.calm = true) (hN : X.N.Nodup) (hi : X.N[i]? = some x) (hx : L2.Loc X.env.scope x) (hg : PGs X elts (gAll is))
    (hf : X.fn x = true ∨ X.env.scope.names.lookup x = some .local := by first | exact .inl rfl | exact .inr rfl | assumption)
    (hn : (assignEach elts X.env).length = is.length := by rfl) (hst : (assignEach elts X.env).findIdx? (·.1) = none := by rfl) : PG X (.Tuple [.Name x p1, .Tuple elts k1 p2] k2 p3) ((CT.nst i is).rd X.K) :=
  pg_tup hc (pgs_cons (pg_name hN hi hx hf) (pgs_cons (pg_tup hc hg hn hst) pgs_nil))
theorem pg_nsl {i : Nat} {x : Str} {is : List Nat} {elts : List Expr} {k1 k2 : Nat} {p1 p2 p3 : Pos} (hc : X.calm = true) (hN : X.N.Nodup) (hi : X.N[i]? = some x) (hx : L2.Loc X.env.scope x) (hg : PGs X elts (gAll is))
    (hf : X.fn x = true ∨ X.env.scope.names.lookup x = some .local := by first | exact .inl rfl | exact .inr rfl | assumption)
    (hn : (assignEach elts X.env).length = is.length := by rfl) (hst : (assignEach elts X.env).findIdx? (·.1) = none := by rfl) : PG X (.Tuple [.Tuple elts k1 p2, .Name x p1] k2 p3) ((CT.nsl is i).rd X.K) :=
  pg_tup hc (pgs_cons (pg_tup hc hg hn hst) (pgs_cons (pg_name hN hi hx hf) pgs_nil))
theorem pgs_c {i : Nat} {x : Str} {is : List Nat} {es : List Expr} (hN : X.N.Nodup) (hi : X.N[i]? = some x) (hx : L2.Loc X.env.scope x) (h2 : PGs X es (gAll is)) (hf : X.fn x = true ∨ X.env.scope.names.lookup x = some .local := by first | exact .inl rfl | exact .inr rfl | assumption)
    (hs : (assignEach (.Name x pos :: es) X.env).map (·.2) = assign (.Name x pos) X.env :: (assignEach es X.env).map (·.2) := by rfl) : PGs X (.Name x pos :: es) (gAll (i :: is)) := pgs_cons (pg_name hN hi hx hf) h2 hs
/-! ### while -/
def whL (t : TM) (mb : SM) : Nat → Env' → Sto → RS
  | 0, _, _ => .bad
  | n + 1, env, h => (t env h).st env fun c h1 => if c = true then (match mb env h1 with
      | .nx e h2 => whL t mb n e h2
      | .ct e h2 => whL t mb n e h2
      | .bk e h2 => .nx e h2
      | r => r) else .nx env h1
def mWhile (n : Nat) (t : TM) (mb : SM) : SM := fun env h => whL t mb n env h
theorem ss_while {n : Nat} (hp : PassesOwn (model X.prog X.w) X.A X.env X.xe) (hc : PT X c (bM K W ta)) (hb : PSs X body (sM K W mbs)) : PS X (.While c body [] pos) (sM K W (mWhile n ta mbs)) :=
  PS.weak (ps_while hp hc hb) fun D σ H ⟨g, env, h, hr, er, w⟩ => by
    refine ⟨fun m σ H => ∃ g env h, HR K g H h ∧ ER K g σ env ∧ WS K W g (whL ta mbs m env h) D, ⟨n, g, env, h, hr, er, w⟩, ?_⟩
    rintro m σ H ⟨g, env, h, hr, er, w⟩
    cases m with
    | zero => exact w.elim
    | succ m =>
      unfold whL at w
      refine ⟨g, env, h, hr, er, wTst er w fun k h1 H1 g1 l1 hr1 w => ?_⟩
      · cases k with
        | false => exact w σ H1 g1 (Le.refl _) hr1 (er.mono l1)
        | true =>
          refine ⟨fun σ' H' => ∃ g env h, HR K g H' h ∧ ER K g σ' env ∧ WS K W g (whL ta mbs m env h) D, fun σ' H' q => ⟨m, Nat.lt_succ_self m, q⟩, g1, env, h1, hr1, er.mono l1, ?_⟩
          have w : WS K W g1 (match mbs env h1 with
            | .nx e h2 => whL ta mbs m e h2
            | .ct e h2 => whL ta mbs m e h2
            | .bk e h2 => .nx e h2
            | r => r) D := w
          cases eb : mbs env h1 with
          | bad => rw [eb] at w; exact w
          | ex C n e h => rw [eb] at w; exact w
          | rt u h1 => rw [eb] at w; exact w
          | bk e h1 => rw [eb] at w; exact w
          | nx e h1 => rw [eb] at w; exact fun σ3 H3 g3 l3 hr3 er3 => ⟨g3, e, h1, hr3, er3, WS.mono l3 w⟩
          | ct e h1 => rw [eb] at w; exact fun σ3 H3 g3 l3 hr3 er3 => ⟨g3, e, h1, hr3, er3, WS.mono l3 w⟩
/-! ### comprehensions -/
/-- nothing may be raised here -/
def R.no {α : Type} (r : R α) : R α := match r with
  | .ok a h => .ok a h
  | _ => .bad
abbrev W0 : WX := fun _ _ _ _ => False
open Classical in
noncomputable def lcL (c : Chk) (ct : CT) (t : TM) (me : EM) (n : Nat) (env : Env') : List U → Sto → R U
  | [], h => if chkOk c h then .ok (.ref n) h else .bad
  | u :: us, h => if chkOk c h then (match ct.asg u env h with
      | some env1 => (t env1 h).no.bind fun b h1 => if b = true then (me env1 h1).no.bind fun y h2 => (match h2[n]? with
          | some (.lst acc) => if acc.length < 16000000 then lcL c ct t me n env us (h2.set n (.lst (acc ++ [y]))) else .bad
          | _ => .bad) else lcL c ct t me n env us h1
      | none => .bad) else .bad
noncomputable def mLc (mi : IM') (ct : CT) (t : TM) (me : EM) (vs : List Nat) : EM := fun env h => (mi env h).bind fun z h1 => lcL z.1 ct t me h1.length (wipeE env vs) z.2 (h1 ++ [.lst []])
def bYes : TM := fun _ h => .ok true h
theorem wTno {r : R Bool} {f : Bool → Sto → R U} {Q : VK} {E' : XK} {P : Bool → Hp → Prop} (t : WE K E g (r.no.bind f) Q) (k : ∀ u h H g', Le g g' → HR K g' H h → WE K E g' (f u h) Q → P u H) : WT K E' g r P := by
  cases r with
  | bad => exact t
  | exc C n h => exact t.elim
  | ok u h => exact fun H g' l hr => k u h H g' l hr (WE.mono l t)
theorem wEno {r : R U} {f : U → Sto → R U} {Q P : VK} {E' : XK} (t : WE K E g (r.no.bind f) Q) (k : ∀ u h v H g', Le g g' → HR K g' H h → Rep K g' v u → WE K E g' (f u h) Q → P v H) : WE K E' g r P := by
  cases r with
  | bad => exact t
  | exc C n h => exact t.elim
  | ok u h => exact fun v H g' l hr rv => k u h v H g' l hr rv (WE.mono l t)
theorem lc_to {J : It} {c : Chk} {us : List U} {Q : VK} {vs : List Nat} {tt : TT} {te : TE} {H1 : Hp} {h1 : Sto} {env : Env'} {D : Addr} (hct : ∀ i ∈ ct.ix, i ∈ vs) (ht : ∀ σ H Q, bM K W0 ta σ H Q → tt σ H Q) (he : ∀ σ H Q, tM K W0 me σ H Q → te σ H Q)
    (hr : HR K g H1 h1) (er : ER K g σ env) (ok : ItOk K g J c us) (hD : H1 D = none) (w : WE K E g (lcL c ct ta me h1.length (wipeE env vs) us (h1 ++ [.lst []])) Q) :
    ∃ W : Nat → Nat → Hp → Prop, (∃ m, W 0 m (upd H1 D (.lst []))) ∧ ∀ i m H, W i m H →
      (J.stop i H ∧ Q (.ref D) H) ∨ (J.go i H ∧ ∃ Nx : Hp → Prop, (∀ H', Nx H' → ∃ m', m' < m ∧ W (i + 1) m' H') ∧ ∀ x H', J.yld i H x H' → ct.rd K x (wipe σ vs) H' fun σ2 H2 => wipe σ2 vs = wipe σ vs ∧ tt σ2 H2 fun b H3 =>
        if b = true then te σ2 H3 fun y H4 => ∃ acc, H4 D = some (.lst acc) ∧ acc.length < sizeLine ∧ Nx (upd H4 D (.lst (acc ++ [y]))) else Nx H3) := by
  have hDn : (g.new D).al[h1.length]? = some D := by
    show (g.al ++ [D])[h1.length]? = _
    rw [← hr.len]; simp
  have hr0 : HR K (g.new D) (upd H1 D (.lst [])) (h1 ++ [.lst []]) := hr.newLst hD .nil
  refine ⟨fun i m H => m = us.length - i ∧ i ≤ us.length ∧ ∃ g' h, Le (g.new D) g' ∧ HR K g' H h ∧ WE K E g' (lcL c ct ta me h1.length (wipeE env vs) (us.drop i) h) Q, ⟨us.length, by simp, Nat.zero_le _, g.new D, _, Le.refl _, hr0, WE.mono Le.new w⟩, ?_⟩
  rintro i m H ⟨rfl, hi, g', h, l, hr, w⟩
  have l0 : Le g g' := Le.new.trans l
  have hn' : g'.al[h1.length]? = some D := l.get hDn
  by_cases hlt : i < us.length
  · rw [List.drop_eq_getElem_cons hlt] at w
    unfold lcL at w
    split at w
    · rename_i ck
      refine .inr ⟨ok.go g' H h i l0 hr ck hlt, fun H' => i + 1 ≤ us.length ∧ ∃ g2 h, Le (g.new D) g2 ∧ HR K g2 H' h ∧ WE K E g2 (lcL c ct ta me h1.length (wipeE env vs) (us.drop (i + 1)) h) Q, fun H' q => ⟨us.length - (i + 1), by omega, rfl, q⟩, fun x H' y => ?_⟩
      obtain ⟨g2, u, l2, hr2, hu, ru⟩ := ok.yl g' H h i x H' l0 hr ck hlt y
      have eu : us[i] = u := by
        rw [List.getElem?_eq_getElem hlt] at hu
        exact Option.some.inj hu
      rw [eu] at w
      cases ea : ct.asg u (wipeE env vs) h with
      | none => rw [ea] at w; exact w.elim
      | some env1 =>
        rw [ea] at w
        have w : WE K E g' ((ta env1 h).no.bind _) Q := w
        refine ct_to hr2 ((er.wipe vs).mono (l0.trans l2)) ru ea fun σ2 er2 hw => ⟨by rw [hw vs hct, wipe_wipe], ht _ _ _ ⟨g2, env1, h, hr2, er2, ?_⟩⟩
        refine wTno (WE.mono l2 w) fun b h2 H2 g3 l3 hr3 w3 => ?_
        have er3 := er2.mono l3
        cases b with
        | false => exact ⟨hlt, g3, h2, (l.trans l2).trans l3, hr3, w3⟩
        | true =>
          have w3 : WE K E g3 ((me env1 h2).no.bind _) Q := w3
          refine he _ _ _ ⟨g3, env1, h2, hr3, er3, wEno w3 fun y h3 vy H3 g4 l4 hr4 ry w4 => ?_⟩
          have hn4 : g4.al[h1.length]? = some D := ((l2.trans l3).trans l4).get hn'
          split at w4
          · rename_i acc e4
            split at w4
            · rename_i z
              obtain ⟨vacc, h5, r5⟩ := hr4.ob _ _ _ hn4 e4
              exact ⟨vacc, h5, by rw [r5.len]; exact sz16l z, hlt, g4, _, ((l.trans l2).trans l3).trans l4, hr4.setLst hn4 h5 (r5.app (.one ry)), w4⟩
            · exact w4.elim
          · exact w4.elim
    · exact w.elim
  · have e : i = us.length := by omega
    subst e
    rw [List.drop_length] at w
    unfold lcL at w
    split at w
    · rename_i ck
      exact .inl ⟨ok.stop g' H h l0 hr ck, w (.ref D) H g' (Le.refl _) hr (.ref hn')⟩
    · exact w.elim
theorem lcM_to {vs : List Nat} {tt : TT} {te : TE} {Q : VK} (hct : ∀ i ∈ ct.ix, i ∈ vs) (ht : ∀ σ H Q, bM K W0 ta σ H Q → tt σ H Q) (he : ∀ σ H Q, tM K W0 me σ H Q → te σ H Q) (q : tM K W (mLc mi ct ta me vs) σ H Q) : tLc (iM K W mi) (ct.rd K) tt te vs σ H Q := by
  obtain ⟨g, env, h, hr, er, w⟩ := q
  refine ⟨g, env, h, hr, er, ?_⟩
  unfold mLc at w
  cases e : mi env h with
  | bad => rw [e] at w; exact w
  | exc C n h => rw [e] at w; exact w
  | ok z h1 =>
    obtain ⟨c, us⟩ := z
    rw [e] at w
    have w : WE K (atSl W σ) g (lcL c ct ta me h1.length (wipeE env vs) us (h1 ++ [.lst []])) Q := w
    exact fun J H1 g1 l1 hr1 ok D hD => lc_to hct ht he hr1 (er.mono l1) ok hD (WE.mono l1 w)
abbrev Blk (X : Cx) (scope : Scope) (P : Cx → Prop) : Prop := ∀ (s : Shared) (H : Hp) (C : Addr) (cl : List (Str × Addr)) (fp : List Addr), P (X.blk s H scope (compEnvC scope cl C X.env) fp)
theorem pts_y {X : Cx} : PTs X [] (bM K W bYes) := ⟨fun pins s σ H Q I ⟨g, env, h, hr, er, w⟩ => pts_nil.run pins s σ H Q I (w H g (Le.refl _) hr)⟩
theorem pts_1 {X : Cx} (h : PT X c (bM K W ta)) : PTs X [c] (bM K W ta) := pts_one h
variable {elt : Expr} {ifs : List Expr} {scope : Scope} {own : List (Str × Nat)}
theorem se_lc {vs : List Nat} (hc : X.calm = true) (hN : X.N.Nodup) (hi : PI X tg iter (iM X.K W mi)) (ok : BlkOk X.N X.env.scope scope own) (hv : own.map (·.2) = vs) (hct : ∀ i ∈ ct.ix, i ∈ vs)
    (hg : Blk X scope fun Y => PG Y tg (ct.rd X.K)) (ht : Blk X scope fun Y => PTs Y ifs (bM X.K W0 ta)) (he : Blk X scope fun Y => PE Y elt (tM X.K W0 me)) (hs : ∀ x, foldedSetIterable iter X.env x = pure x := by intro _; rfl) :
    PE X (.ListComp elt [⟨tg, iter, ifs, 0⟩] scope pos) (tM X.K W (mLc mi ct ta me vs)) := by
  subst hv
  exact PE.weak (pe_lc hc hN hi ok hg ht he hs) fun σ H Q q => lcM_to hct (fun _ _ _ z => z) (fun _ _ _ z => z) q
theorem ss_setLc {i : Nat} {y : Str} {py spos : Pos} {vs : List Nat} (hc : X.calm = true) (hN : X.N.Nodup) (hy : X.N[i]? = some y) (hyl : X.env.scope.names.lookup y = some .local) (hsw : swapsWith (.ListComp elt [⟨tg, iter, ifs, 0⟩] scope pos) (some (.Name y py)) spos.line X.env = pure true)
    (hi : PI X tg iter (iM X.K W mi)) (ok : BlkOk X.N X.env.scope scope own) (hv : own.map (·.2) = vs) (hct : ∀ i ∈ ct.ix, i ∈ vs)
    (hg : Blk X scope fun Y => PG Y tg (ct.rd X.K)) (ht : Blk X scope fun Y => PTs Y ifs (bM X.K W0 ta)) (he : Blk X scope fun Y => PE Y elt (tM X.K W0 me)) (hs : ∀ x, foldedSetIterable iter X.env x = pure x := by intro _; rfl) :
    PS X (.Assign [.Name y py] (.ListComp elt [⟨tg, iter, ifs, 0⟩] scope pos) spos) (sM X.K W (mAsg (.one i) (mLc mi ct ta me vs))) := by
  subst hv
  exact PS.weak (L2.ps_setLc hc hN hy hyl hsw hi ok hg ht he hs) fun D σ H ⟨g, env, h, hr, er, w⟩ => by
    have q : tM X.K W (mLc mi ct ta me (own.map (·.2))) σ H fun x H1 => gName i x σ H1 D.nx := ⟨g, env, h, hr, er, wAsg er w fun u h1 v H1 g1 l1 hr1 rv w1 => gct_to (ct := .one i) (K := X.K) hr1 (er.mono l1) rv w1⟩
    exact lcM_to hct (fun _ _ _ z => z) (fun _ _ _ z => z) q
/-! ### stores into lists, += -/
def uSetL (x y z : U) (h : Sto) : Option Sto := match x, y with
  | .ref n, .int k => (match h[n]? with
    | some (.lst us) => (ixN us.length k).map fun j => h.set n (.lst (us.set j z))
    | _ => none)
  | _, _ => none
theorem setL_to {z : U} {vx vy vz : V} {h' : Sto} {Q : Hp → Prop} (hr : HR K g H h) (rx : Rep K g vx x) (ry : Rep K g vy y) (rz : Rep K g vz z) (e : uSetL x y z h = some h') (k : ∀ H', HR K g H' h' → Q H') : rSetL vx vy vz H Q := by
  unfold uSetL at e
  split at e
  · rename_i n i
    split at e
    · rename_i us e1
      cases ei : ixN us.length i with
      | none => rw [ei] at e; cases e
      | some j =>
        rw [ei] at e
        cases e
        cases ry
        cases rx with
        | ref q =>
          rename_i a
          obtain ⟨vs, h1, r1⟩ := hr.ob n a _ q e1
          exact ⟨a, vs, i, j, rfl, rfl, h1, by rw [r1.len]; exact ei, k _ (hr.setLst q h1 (r1.set j rz))⟩
    · cases e
  · cases e
/-- o[i] = e of a list -/
def mSetI (f : U → U → U → Sto → Option Sto) (o i e : EM) : SM := fun env h => (e env h).st env fun z h1 => (o env h1).st env fun x h2 => (i env h2).st env fun y h3 => match f x y z h3 with
  | some h4 => .nx env h4
  | none => .bad
def SetOK (K : Fr) (r : TSet) (f : U → U → U → Sto → Option Sto) : Prop := ∀ g H h vx vy vz x y z h' Q, HR K g H h → Rep K g vx x → Rep K g vy y → Rep K g vz z → f x y z h = some h' → (∀ H', HR K g H' h' → Q H') → r vx vy vz H Q
theorem ok_setL : SetOK K rSetL uSetL := fun g H h vx vy vz x y z h' Q hr rx ry rz e k => setL_to hr rx ry rz e k
theorem seti_to {r : TSet} {f : U → U → U → Sto → Option Sto} {D : Ends} (ok : SetOK K r f) (q : sM K W (mSetI f mo ma me) D σ H) : tAsg (tM K W me) (gSub (tM K W mo) (tM K W ma) r) D σ H := by
  obtain ⟨g, env, h, hr, er, w⟩ := q
  refine ⟨g, env, h, hr, er, wAsg er w fun z h1 vz H1 g1 l1 hr1 rz w1 => ⟨g1, env, h1, hr1, er.mono l1, wAsg (er.mono l1) w1 fun x h2 vx H2 g2 l2 hr2 rx w2 => ⟨g2, env, h2, hr2, er.mono (l1.trans l2), wAsg (er.mono (l1.trans l2)) w2 fun y h3 vy H3 g3 l3 hr3 ry w3 => ?_⟩⟩⟩
  cases e : f x y z h3 with
  | none => rw [e] at w3; exact w3.elim
  | some h4 =>
    rw [e] at w3
    exact ok g3 H3 h3 vx vy vz x y z h4 _ hr3 (rx.mono l3) ry (rz.mono (l2.trans l3)) e fun H4 hr4 => w3 σ H4 g3 (Le.refl _) hr4 (er.mono ((l1.trans l2).trans l3))
variable {i : Expr} {ix : EM} {tpos : Pos}
theorem ss_setI {r : TSet} {f : U → U → U → Sto → Option Sto} (hp : PSet X r) (ok : SetOK K r f) (he : PE X e (tM K W me)) (ho : PE X o (tM K W mo)) (hi : PE X i (tM K W ix))
    (ha : ∀ v, assign (.Subscript o i tpos) X.env v = (do
      let ov ← holding [v] (eval o X.env)
      let iv ← holding [v, ov] (eval i X.env)
      standAt tpos
      holding [v, ov, iv] (setItem ov iv v)
      release [v, ov, iv] []) := by intro _; rfl)
    (hs : swapsWithSole [.Subscript o i tpos] e pos.line X.env = pure false := by rfl) (hw : swappedStores [.Subscript o i tpos] e X.env = pure none := by rfl) (h1 : (assignEach [.Subscript o i tpos] X.env).map (·.2) = [assign (.Subscript o i tpos) X.env] := by rfl) :
    PS X (.Assign [.Subscript o i tpos] e pos) (sM K W (mSetI f mo ix me)) :=
  PS.weak (ps_asg he (pg_sub ho hi hp ha) hs hw h1) fun D σ H q => seti_to ok q
theorem ss_setIL (he : PE X e (tM K W me)) (ho : PE X o (tM K W mo)) (hi : PE X i (tM K W ix))
    (ha : ∀ v, assign (.Subscript o i tpos) X.env v = (do
      let ov ← holding [v] (eval o X.env)
      let iv ← holding [v, ov] (eval i X.env)
      standAt tpos
      holding [v, ov, iv] (setItem ov iv v)
      release [v, ov, iv] []) := by intro _; rfl)
    (hs : swapsWithSole [.Subscript o i tpos] e pos.line X.env = pure false := by rfl) (hw : swappedStores [.Subscript o i tpos] e X.env = pure none := by rfl) (h1 : (assignEach [.Subscript o i tpos] X.env).map (·.2) = [assign (.Subscript o i tpos) X.env] := by rfl) :
    PS X (.Assign [.Subscript o i tpos] e pos) (sM K W (mSetI uSetL mo ix me)) := ss_setI set_list ok_setL he ho hi ha hs hw h1
/-- x += e at a name -/
def uIAdd (x y : U) (h : Sto) : R U := match x, y with
  | .int i, .int j => .ok (.int (i + j)) h
  | .str s, .str t => if s.length + t.length ≤ 16000000 then .ok (.str (s ++ t)) h else .bad
  | _, _ => .bad
abbrev rIAdd : R2 := fun x y H Q => (∃ i j, x = V.int i ∧ y = V.int j ∧ Q (.int (i + j)) H) ∨ (∃ i j, x = V.str i ∧ y = V.str j ∧ i.length + j.length ≤ sizeLine ∧ Q (.str (i ++ j)) H)
theorem opr_iadd : OpR X (inplaceOp .Add) rIAdd := iop_add.or iop_add_str
theorem ok_iadd : BinOK K rIAdd uIAdd := by
  intro E g H h v w x y Q hr rx ry t
  unfold uIAdd at t
  split at t
  · cases rx; cases ry
    exact .inl ⟨_, _, rfl, rfl, t _ _ g (Le.refl g) hr (.int _)⟩
  · cases rx; cases ry
    split at t
    · rename_i z
      refine .inr ⟨_, _, rfl, rfl, by rw [str_len, str_len]; exact sz16 z, ?_⟩
      rw [str_app]
      exact t _ _ g (Le.refl g) hr (.str _)
    · exact t.elim
  · exact t.elim
abbrev uISub := uI cT (fun i j => i - j)
theorem ok_isub : BinOK K (rI0 fun i j => .int (i - j)) uISub := fun E g H h v w x y Q hr rx ry t => by
  obtain ⟨i, j, e1, e2, _, q⟩ := ok_I (C := fun _ _ => True) (c := cT) (fun _ _ _ => trivial) E g H h v w x y Q hr rx ry t
  exact ⟨i, j, e1, e2, q⟩
def mAug (f : U → U → Sto → R U) (i : Nat) (e : EM) : SM := fun env h => match env[i]? with
  | some (some x) => (e env h).st env fun y h1 => (f x y h1).st env fun z h2 => .nx (env.set i (some z)) h2
  | _ => .bad
theorem ss_aug {op : Operator} {r : R2} {f : U → U → Sto → R U} {i : Nat} {x : Str} {pos' : Pos} (ho : OpR X (inplaceOp op) r) (ok : BinOK K r f) (hN : X.N.Nodup) (hi : X.N[i]? = some x) (hx : L2.Loc X.env.scope x) (he : PE X e (tM K W me))
    (hf : X.fn x = true ∨ X.env.scope.names.lookup x = some .local := by first | exact .inl rfl | exact .inr rfl | assumption) : PS X (.AugAssign (.Name x pos') op e pos) (sM K W (mAug f i me)) :=
  PS.weak (ps_aug (ti := r) hN hi hx he ho hf) fun D σ H ⟨g, env, h, hr, er, w⟩ => by
    unfold mAug at w
    split at w
    · rename_i x ex
      obtain ⟨v, ev, rv⟩ := er.2 i x ex
      refine ⟨v, ev, g, env, h, hr, er, wAsg er w fun y h1 vy H1 g1 l1 hr1 ry w1 => ?_⟩
      exact ok _ g1 H1 h1 v vy x y _ hr1 (rv.mono l1) ry (wAsg (er.mono l1) w1 fun z h2 vz H2 g2 l2 hr2 rz w2 => w2 _ H2 g2 (Le.refl _) hr2 ((er.mono (l1.trans l2)).set i rz))
    · exact w.elim
/-- o[i] += e of a list -/
theorem pget_list : PGet X (rIxL X.K) := by
  intro pins s σ H o i ov iv Q I ro ri h
  obtain ⟨p, xs, i, z, rfl, rfl, hq, he, q⟩ := h
  cases ro
  obtain ⟨t, rfl⟩ := ri
  obtain ⟨its, r, pl, hz⟩ := I.list hq
  obtain ⟨j, h1, h2, h3, h4, h5⟩ := atI_get he
  obtain ⟨w, ew, rw'⟩ := r.get h2
  have hl := r.length
  have hn := line63
  have fin : EP X pins σ Q w s := ⟨z, H, I, rw', q⟩
  by_cases h0 : 0 ≤ i
  · have hj : i.toNat = j := by
      rw [seqIndex_of h0 h5] at h1
      exact Option.some.inj h1
    exact wpAny_getItem_list pl.isList h0 (by omega) (by rw [hj]; simpa using ew) fin
  · have hj : (i + (its.toArray.size : Int)).toNat = j := by
      rw [seqIndex_neg (by omega) h4] at h1
      rw [List.size_toArray, ← hl]
      exact Option.some.inj h1
    exact wpAny_getItem_list_neg pl.isList (by omega) (by rw [List.size_toArray] <;> omega) (by omega) (by rw [hj]; simpa using ew) fin
def uIxL (x y : U) (h : Sto) : R U := match x, y with
  | .ref n, .int i => (match h[n]? with
    | some (.lst us) => oR (atI us i) h
    | _ => .bad)
  | _, _ => .bad
theorem ok_ixL : BinOK K (rIxL K) uIxL := by
  intro E g H h v w x y Q hr rx ry t
  unfold uIxL at t
  split at t
  · rename_i n i
    split at t
    · rename_i us e1
      cases ry
      cases rx with
      | ref q =>
        rename_i a
        obtain ⟨vs, h1, r1⟩ := hr.ob n a _ q e1
        cases e2 : atI us i with
        | none => rw [e2] at t; exact t.elim
        | some u =>
          rw [e2] at t
          obtain ⟨z, h2, h3⟩ := r1.at e2
          exact ⟨a, vs, i, z, rfl, rfl, .inl (.inl h1), h2, t _ _ g (Le.refl _) hr h3⟩
    · exact t.elim
  · exact t.elim
def mAugI (gt : U → U → Sto → R U) (f : U → U → Sto → R U) (st : U → U → U → Sto → Option Sto) (o i e : EM) : SM := fun env h => (o env h).st env fun x h1 => (i env h1).st env fun y h2 => (gt x y h2).st env fun z h3 => (e env h3).st env fun u h4 => (f z u h4).st env fun q h5 => match st x y q h5 with
  | some h6 => .nx env h6
  | none => .bad
theorem augi_to {rg : R2} {r : R2} {rs : TSet} {gt f : U → U → Sto → R U} {sf : U → U → U → Sto → Option Sto} {D : Ends} (og : BinOK K rg gt) (ok : BinOK K r f) (os : SetOK K rs sf) (q : sM K W (mAugI gt f sf mo ix me) D σ H) : tAugS (tM K W mo) (tM K W ix) (tM K W me) rg r rs D σ H := by
  obtain ⟨g, env, h, hr, er, w⟩ := q
  refine ⟨g, env, h, hr, er, wAsg er w fun x h1 vx H1 g1 l1 hr1 rx w1 => ⟨g1, env, h1, hr1, er.mono l1, wAsg (er.mono l1) w1 fun y h2 vy H2 g2 l2 hr2 ry w2 => ?_⟩⟩
  refine og _ g2 H2 h2 vx vy x y _ hr2 (rx.mono l2) ry (wAsg (er.mono (l1.trans l2)) w2 fun z h3 vz H3 g3 l3 hr3 rz w3 => ⟨g3, env, h3, hr3, er.mono ((l1.trans l2).trans l3), wAsg (er.mono ((l1.trans l2).trans l3)) w3 fun u h4 vu H4 g4 l4 hr4 ru w4 => ?_⟩)
  refine ok _ g4 H4 h4 vz vu z u _ hr4 (rz.mono l4) ru (wAsg (er.mono (((l1.trans l2).trans l3).trans l4)) w4 fun q h5 vq H5 g5 l5 hr5 rq w5 => ?_)
  cases e : sf x y q h5 with
  | none => rw [e] at w5; exact w5.elim
  | some h6 =>
    rw [e] at w5
    have l25 := (l3.trans l4).trans l5
    exact os g5 H5 h5 vx vy vq x y q h6 _ hr5 (rx.mono (l2.trans l25)) (ry.mono l25) rq e fun H6 hr6 => w5 σ H6 g5 (Le.refl _) hr6 (er.mono ((l1.trans l2).trans l25))
theorem ss_augIL {op : Operator} {r : R2} {f : U → U → Sto → R U} (hop : OpR X (inplaceOp op) r) (ok : BinOK X.K r f) (ho : PE X o (tM X.K W mo)) (hi : PE X i (tM X.K W ix)) (he : PE X e (tM X.K W me))
    (ha : ∀ ov iv new, augStore i ov iv new = (do holding [new, ov, iv] (setItem ov iv new); release [new, ov, iv] []; pure .next) := by intros; rfl) : PS X (.AugAssign (.Subscript o i tpos) op e pos) (sM X.K W (mAugI uIxL f uSetL mo ix me)) :=
  PS.weak (ps_augS ho hi pget_list he hop set_list ha) fun D σ H q => augi_to ok_ixL ok ok_setL q
end
end Q

set_option Elab.async false
set_option linter.all false
set_option maxRecDepth 100000
set_option maxHeartbeats 1000000
namespace Q
open PySem PySem.Spec PyProof.Rows L2 TL
/-! ### calls of the text's defs -/
abbrev Sem' := List U → Sto → R U
def spM (K : Fr) (n : Nat) (sem : Sem') : Sp := fun vs H Q E => vs.length = n ∧ ∃ g us h, HR K g H h ∧ Reps K g vs us ∧ WE K E g (sem us h) Q
def fnM (n : Nat) (body : SM) : Sem' := fun us h => match body (us.map some ++ List.replicate (n - us.length) none) h with
  | .nx _ h' => .ok .non h'
  | .rt u h' => .ok u h'
  | .ex C n _ h' => .exc C n h'
  | _ => .bad
theorem er_start {K : Fr} {g : G} {N : List Str} : ∀ {vs : List V} {us : List U}, Reps K g vs us → ER K g (L2.start N vs) (us.map some ++ List.replicate (N.length - us.length) none) := by
  intro vs us r
  refine ⟨by simp [L2.start, r.len], fun i u e => ?_⟩
  by_cases hi : i < us.length
  · rw [List.getElem?_append_left (by simpa using hi)] at e
    rw [List.getElem?_map] at e
    cases eu : us[i]? with
    | none => rw [eu] at e; cases e
    | some w =>
      rw [eu] at e
      cases e
      obtain ⟨v, hv, rv⟩ := r.get eu
      refine ⟨v, ?_, rv⟩
      unfold L2.start
      rw [List.getElem?_append_left (by rw [List.length_map, r.len]; exact hi), List.getElem?_map, hv]
      rfl
  · rw [List.getElem?_append_right (by simpa using Nat.le_of_not_lt hi)] at e
    have := List.getElem?_replicate (a := (none : Option U)) (n := N.length - us.length) (i := i - (us.map some).length)
    rw [this] at e
    split at e <;> cases e
section
/-- a def's wish of what it raises -/
abbrev WR (E : XK) : WX := fun c d _ H => E c d H
variable {P : Program} {Wd : World} {K : Fr} {mg : Str → Option Value} {base : Heap}
theorem fn_ok {x qual : Str} {st : Stmt} {f : Addr} {fd : FuncData} {N ps : List Str} {k : Nat} {body : SM} (F : Fun K x qual st f fd) (S : FnScope N ps (defScope st))
    (hb : ∀ (cdv : Value) (A : Around) (outer : List Env) (s : Shared) (H : Hp) (E : XK), Room k (A.deeper (envOfC qual (defScope st) s.heap.objs.size f cdv)) →
      Takes (cxOf (L2.CX P Wd) P Wd K mg base N qual (defScope st) f cdv A outer s H E) (WR E) →
      PassesOwn (model P Wd) (cxOf (L2.CX P Wd) P Wd K mg base N qual (defScope st) f cdv A outer s H E).A (cxOf (L2.CX P Wd) P Wd K mg base N qual (defScope st) f cdv A outer s H E).env (cxOf (L2.CX P Wd) P Wd K mg base N qual (defScope st) f cdv A outer s H E).xe →
      PSs (cxOf (L2.CX P Wd) P Wd K mg base N qual (defScope st) f cdv A outer s H E) (defBody st) (sM K (WR E) body)) : FnOk P Wd K mg base (L2.CX P Wd) (k + 1) f fd ps (spM K ps.length (fnM N.length body)) := by
  refine F.okX S (fun vs H Q E h => h.1) (fun cdv A outer s H vs Q E hr h => ⟨_, hb cdv A outer s H E hr (takes_of rfl rfl rfl rfl) (passes_of rfl), ?_⟩)
  obtain ⟨hl, g, us, h0, hr0, rv, w⟩ := h
  refine ⟨g, us.map some ++ List.replicate (N.length - us.length) none, h0, hr0, er_start rv, ?_⟩
  unfold fnM at w
  cases e : body (us.map some ++ List.replicate (N.length - us.length) none) h0 with
  | nx e1 h1 => rw [e] at w; exact fun σ H1 g1 l1 hr1 _ => w .non H1 g1 l1 hr1 .non
  | rt u h1 => rw [e] at w; exact w
  | bk e1 h1 => rw [e] at w; exact w.elim
  | ct e1 h1 => rw [e] at w; exact w.elim
  | ex C n e1 h1 => rw [e] at w; exact fun σ H1 g1 d l1 hr1 _ q => w H1 g1 d l1 hr1 q
  | bad => rw [e] at w; exact w.elim
/-- nothing is said -/
theorem fn_bad {f : Addr} {fd : FuncData} {ps : List Str} {k n : Nat} (h : ps.length = n) : FnOk P Wd K mg base (L2.CX P Wd) k f fd ps (spM K n fun _ _ => .bad) :=
  ⟨fun vs H Q E q => q.1.trans h.symm, fun A outer s H args us vs Q E hr e0 hb rv q => by
    obtain ⟨_, g, us, h, _, _, w⟩ := q
    exact w.elim⟩
end
section
variable {K : Fr} {g g' : G} {E : XK} {W : WX} {X : Cx} {H : Hp} {h : Sto} {v w : V} {x y : U} {σ : L2.St} {env : Env'} {a b c e o tg : Expr} {es rest : List Expr} {ma mb mc me mo : EM} {ta tb : TM} {pos : Pos} {am : AM} {n : Str} {p : Pos}
def mCall (n : Nat) (sem : Sem') (am : AM) : EM := fun env h => (am env h).bind fun us h1 => if us.length = n then sem us h1 else .bad
variable {sem : Sem'} {f : Addr} {fd : FuncData} {ps : List Str} {k m : Nat}
theorem call_to {Q : VK} (q : tM K W (mCall m sem am) σ H Q) : tCallS (spM K m sem) (fun σ => atSl W σ) (aM K W am) σ H Q := by
  obtain ⟨g, env, h, hr, er, w⟩ := q
  refine ⟨g, env, h, hr, er, wA w fun us h1 vs H1 g1 l1 hr1 rv w1 => ?_⟩
  split at w1
  · rename_i z
    exact ⟨by rw [rv.len]; exact z, g1, us, h1, hr1, rv, w1⟩
  · exact w1.elim
theorem se_call (tk : Takes X W) (F : FnOk X.prog X.w X.K X.mg X.base (L2.CX X.prog X.w) k f fd ps (spM X.K m sem)) (hr : Room k X.A) (hg : Gl X n) (hm : X.mg n = some (.ref f)) (hk : PySem.W.keepIn X.K (.ref f) = true) (hb : Binds X.K fd ps [])
    (ha : PA X (e :: es) (aM X.K W am)) (hdb : (n == ("__debug__" : Str)) = false := by decide) (h2 : starEach (e :: es) X.env = (false, eval e X.env) :: starEach es X.env := by rfl) (h3 : (backTo pos (starEach es X.env)).any (·.1) = false := by rfl) :
    PE X (.Call (.Name n p) (e :: es) [] pos) (tM X.K W (mCall m sem am)) :=
  PE.weak (pe_callS (E := fun σ => atSl W σ) F hr hg hm hk hb (fun σ => passAt tk σ) ha hdb h2 h3) fun σ H Q q => call_to q
theorem pe_callS0 {sp : Sp} {E : L2.St → XK} (F : FnOk X.prog X.w X.K X.mg X.base (L2.CX X.prog X.w) k f fd ps sp) (hr : Room k X.A) (hg : Gl X n) (hm : X.mg n = some (.ref f)) (hk : PySem.W.keepIn X.K (.ref f) = true) (hb : Binds X.K fd ps []) (hx : ∀ σ, PassesAt (L2.CX X.prog X.w) X σ (E σ))
    (hdb : (n == ("__debug__" : Str)) = false := by decide) : PE X (.Call (.Name n p) [] [] pos) (tCallS sp E tNil) := by
  refine ⟨fun pins s σ H Q I h => ?_⟩
  refine wpAny_Call_Name_kw (ld_glob I hg hm ?_ hdb)
  exact PySem.W.callWith_K0 I.kIn hk (run_fnS F hr hb (hx σ) I .nil h)
theorem se_call0 (tk : Takes X W) (F : FnOk X.prog X.w X.K X.mg X.base (L2.CX X.prog X.w) k f fd ps (spM X.K m sem)) (hr : Room k X.A) (hg : Gl X n) (hm : X.mg n = some (.ref f)) (hk : PySem.W.keepIn X.K (.ref f) = true) (hb : Binds X.K fd ps [])
    (hdb : (n == ("__debug__" : Str)) = false := by decide) : PE X (.Call (.Name n p) [] [] pos) (tM X.K W (mCall m sem aNil)) :=
  PE.weak (pe_callS0 (E := fun σ => atSl W σ) F hr hg hm hk hb (fun σ => passAt tk σ) hdb) fun σ H Q q => by
    have q := call_to q
    obtain ⟨g, env, h, hr, er, w⟩ := q
    exact w [] H g (Le.refl _) hr .nil

/-! ### isinstance -/
inductive Ty where
  | bool | int | str | tuple | list | dict
def Ty.nm : Ty → String
  | .bool => "bool" | .int => "int" | .str => "str" | .tuple => "tuple" | .list => "list" | .dict => "dict"
def isU (T : Ty) (h : Sto) : U → Option Bool
  | .non => some false
  | .bl _ => some (match T with | .bool => true | .int => true | _ => false)
  | .int _ => some (match T with | .int => true | _ => false)
  | .str _ => some (match T with | .str => true | _ => false)
  | .tup _ => some (match T with | .tuple => true | _ => false)
  | .fl _ => some (match T with | .list => true | _ => false)
  | .kl _ => some (match T with | .list => true | _ => false)
  | .xv _ _ _ _ => none
  | .ref n => match h[n]? with
    | some (.lst _) => some (match T with | .list => true | _ => false)
    | some (.dK _) => some (match T with | .dict => true | _ => false)
    | some (.dT _) => some (match T with | .dict => true | _ => false)
    | _ => none
theorem tyL {a : Addr} {vs : List V} (q : SqL K H a vs) : TyX K H (.ref a) (.type "list") := by
  rcases q with (q | ⟨o, q⟩) | ⟨o, its, n, q, c, _⟩
  · exact .base (.lst q)
  · exact .base (.frz q)
  · exact .kList q c
theorem tyT {a : Addr} {vs : List V} (q : SqT K H a vs) : TyX K H (.ref a) (.type "tuple") := by
  rcases q with (q | ⟨o, q⟩) | ⟨o, its, n, q, c, _⟩
  · exact .base (.tup q)
  · exact .fTuple q
  · exact .kTuple q c
theorem ty_of {T0 : Ty} {b0 : Bool} (hr : HR K g H h) (r : Rep K g v x) (e0 : isU T0 h x = some b0) : ∃ t, TyX K H v t ∧ ∀ (T : Ty) (b : Bool), isU T h x = some b → PySem.W.kitOne K t (.type T.nm) = some b := by
  cases r with
  | non => exact ⟨_, .base .non, fun T b e => by cases e; exact kit_ty (by cases T <;> decide +kernel)⟩
  | bl c => exact ⟨_, .base (.bl c), fun T b e => by cases e; exact kit_ty (by cases T <;> decide +kernel)⟩
  | int i => exact ⟨_, .base (.int i), fun T b e => by cases e; exact kit_ty (by cases T <;> decide +kernel)⟩
  | str s => exact ⟨_, .base (.str _), fun T b e => by cases e; exact kit_ty (by cases T <;> decide +kernel)⟩
  | tup q s => exact ⟨_, tyT (hr.sqT q), fun T b e => by cases e; exact kit_ty (by cases T <;> decide +kernel)⟩
  | fl q s => exact ⟨_, .base (.lst (hr.ex _ _ q)), fun T b e => by cases e; exact kit_ty (by cases T <;> decide +kernel)⟩
  | kl q s => exact ⟨_, tyL (hr.sqL q), fun T b e => by cases e; exact kit_ty (by cases T <;> decide +kernel)⟩
  | @ref a n q =>
    cases eo : h[n]? with
    | none => simp only [isU, eo] at e0; cases e0
    | some o =>
      cases o with
      | lst us =>
        obtain ⟨vs, h1, _⟩ := hr.ob _ _ _ q eo
        exact ⟨_, .base (.lst h1), fun T b e => by simp only [isU, eo] at e; cases e; exact kit_ty (by cases T <;> decide +kernel)⟩
      | dK us =>
        obtain ⟨vs, h1, _⟩ := hr.ob _ _ _ q eo
        exact ⟨_, .base (.dK h1), fun T b e => by simp only [isU, eo] at e; cases e; exact kit_ty (by cases T <;> decide +kernel)⟩
      | dT us =>
        obtain ⟨vs, h1, _⟩ := hr.ob _ _ _ q eo
        exact ⟨_, .base (.dT h1), fun T b e => by simp only [isU, eo] at e; cases e; exact kit_ty (by cases T <;> decide +kernel)⟩
      | ins C fs => simp only [isU, eo] at e0; cases e0
      | dKl us => simp only [isU, eo] at e0; cases e0
      | xd fs => simp only [isU, eo] at e0; cases e0
  | xv _ => cases e0
def bIs (T : Ty) (a : EM) : TM := fun env h => (a env h).bind fun x h1 => oB (isU T h1 x) h1
def bIs2 (T S : Ty) (a : EM) : TM := fun env h => (a env h).bind fun x h1 => oB ((isU T h1 x).bind fun b => (isU S h1 x).map fun c => b || c) h1
theorem boot_ty (T : Ty) : bootBuiltins (Str.ofString T.nm) = some (.type T.nm) := by cases T <;> decide +kernel
theorem ty_ne (T : Ty) : (Str.ofString T.nm) ≠ "__name__" := by cases T <;> decide
theorem ty_db (T : Ty) : ((Str.ofString T.nm) == ("__debug__" : Str)) = false := by cases T <;> decide
section
variable {T S : Ty} {p2 p3 p4 : Pos} {t2 : Str} (hg : Gl X n) (hm : X.mg n = none) (hv : bootBuiltins n = some (.builtin "isinstance")) (ha : PE X a (tM X.K W ma)) (hn : n ≠ "__name__") (hdb : (n == ("__debug__" : Str)) = false)
include hg hm hv ha hn hdb
theorem isi_core (hgT : Gl X (Str.ofString T.nm)) (hmT : X.mg (Str.ofString T.nm) = none)
    (he : starEach [a, .Name (Str.ofString T.nm) p2] X.env = (false, eval a X.env) :: starEach [.Name (Str.ofString T.nm) p2] X.env) (he2 : starEach [.Name (Str.ofString T.nm) p2] X.env = (false, eval (.Name (Str.ofString T.nm) p2) X.env) :: starEach [] X.env) (hpl : (backTo pos (starEach [.Name (Str.ofString T.nm) p2] X.env)).any (·.1) = false) :
    PE X (.Call (.Name n p) [a, .Name (Str.ofString T.nm) p2] [] pos) (fun σ H Q => bM X.K W (bIs T ma) σ H fun b H => Q (.bl b) H) :=
  PE.weak (pe_callB call_isi hg hm hv (pa_cons ha (pa_cons (pe_bltn (v := .ty T.nm) hgT hmT (boot_ty T) rfl (ty_ne T) (ty_db T)) pa_nil he2) he) hn hdb he hpl) fun σ H Q ⟨g, env, h, hr, er, w⟩ => ⟨g, env, h, hr, er, wET w fun u h1 v H1 g1 l1 hr1 rv w1 => by
    cases e : isU T h1 u with
    | none => rw [e] at w1; exact w1.elim
    | some b =>
      rw [e] at w1
      obtain ⟨t, h2, h3⟩ := ty_of hr1 rv e
      exact ⟨v, .ty T.nm, t, .type T.nm, b, rfl, .ty _, h2, h3 T b e, w1 H1 g1 (Le.refl _) hr1⟩⟩
theorem isi2_core (hgT : Gl X (Str.ofString T.nm)) (hmT : X.mg (Str.ofString T.nm) = none) (hgS : Gl X (Str.ofString S.nm)) (hmS : X.mg (Str.ofString S.nm) = none) {kt : Nat}
    (he : starEach [a, .Tuple [.Name (Str.ofString T.nm) p2, .Name (Str.ofString S.nm) p3] kt p4] X.env = (false, eval a X.env) :: starEach [.Tuple [.Name (Str.ofString T.nm) p2, .Name (Str.ofString S.nm) p3] kt p4] X.env)
    (he2 : starEach [.Tuple [.Name (Str.ofString T.nm) p2, .Name (Str.ofString S.nm) p3] kt p4] X.env = (false, eval (.Tuple [.Name (Str.ofString T.nm) p2, .Name (Str.ofString S.nm) p3] kt p4) X.env) :: starEach [] X.env)
    (he3 : starEach [.Name (Str.ofString T.nm) p2, .Name (Str.ofString S.nm) p3] X.env = (false, eval (.Name (Str.ofString T.nm) p2) X.env) :: starEach [.Name (Str.ofString S.nm) p3] X.env)
    (he4 : starEach [.Name (Str.ofString S.nm) p3] X.env = (false, eval (.Name (Str.ofString S.nm) p3) X.env) :: starEach [] X.env)
    (hpl : (backTo pos (starEach [.Tuple [.Name (Str.ofString T.nm) p2, .Name (Str.ofString S.nm) p3] kt p4] X.env)).any (·.1) = false) :
    PE X (.Call (.Name n p) [a, .Tuple [.Name (Str.ofString T.nm) p2, .Name (Str.ofString S.nm) p3] kt p4] [] pos) (fun σ H Q => bM X.K W (bIs2 T S ma) σ H fun b H => Q (.bl b) H) :=
  PE.weak (pe_callB call_isiT hg hm hv (pa_cons ha (pa_cons (pe_tup (pa_cons (pe_bltn (v := .ty T.nm) hgT hmT (boot_ty T) rfl (ty_ne T) (ty_db T)) (pa_cons (pe_bltn (v := .ty S.nm) hgS hmS (boot_ty S) rfl (ty_ne S) (ty_db S)) pa_nil he4) he3)) pa_nil he2) he) hn hdb he hpl) fun σ H Q ⟨g, env, h, hr, er, w⟩ => ⟨g, env, h, hr, er, wET w fun u h1 v H1 g1 l1 hr1 rv w1 => by
    cases e : isU T h1 u with
    | none => rw [e] at w1; exact w1.elim
    | some b =>
      cases e2 : isU S h1 u with
      | none => rw [e, e2] at w1; exact w1.elim
      | some c =>
        rw [e, e2] at w1
        refine ⟨show 2 ≤ sizeLine by decide, fun q hq => ?_⟩
        have hr2 := hr1.skip hq (.tup [.ty T.nm, .ty S.nm])
        obtain ⟨t', h2, h3⟩ := ty_of hr2 rv e
        refine ⟨v, q, [.ty T.nm, .ty S.nm], t', [.type T.nm, .type S.nm], b || c, rfl, upd_same, .cons (.ty _) (.cons (.ty _) .nil), h2, ?_, w1 _ g1 (Le.refl _) hr2⟩
        refine kitAny_cons (h3 T b e) (fun hb => ?_) (fun hb => by rw [hb]; rfl)
        refine kitAny_cons (h3 S c e2) (fun hc => ?_) (fun hc => by rw [hc]; cases b <;> rfl)
        rw [hb, hc]
        exact kitAny_nil⟩
end
end
end Q

set_option Elab.async false
set_option linter.all false
set_option maxRecDepth 100000
set_option maxHeartbeats 1000000
namespace Q
open PySem PySem.Spec PyProof.Rows L2 TL
section
variable {K : Fr} {g g' : G} {E : XK} {W : WX} {X : Cx} {H : Hp} {h : Sto} {v w : V} {x y : U} {σ : L2.St} {env : Env'} {a b c e o tg : Expr} {es rest : List Expr} {ma mb mc me mo : EM} {ta tb : TM} {pos : Pos} {am : AM} {n : Str} {p : Pos}
/-- from a reading of a bool -/
theorem bt_of {t : TM} (he : PE X e (fun σ H Q => bM K W t σ H fun b H => Q (.bl b) H)) (hw : ∀ whole, isTrue e X.env whole = (do let v ← whole; standAt e.pos; holding [v] (truthy v))) : PT X e (bM K W t) :=
  PT.weak (pt_val he hw) fun σ H Q ⟨g, env, h, hr, er, w⟩ => ⟨g, env, h, hr, er, by
    cases e : t env h with
    | bad => rw [e] at w; exact w
    | exc C n h => rw [e] at w; exact w
    | ok b h1 => rw [e] at w; exact fun H1 g1 l1 hr1 => ⟨b, rfl, w H1 g1 l1 hr1⟩⟩
theorem se_of {t : TM} (he : PE X e (fun σ H Q => bM K W t σ H fun b H => Q (.bl b) H)) : PE X e (tM K W (mB t)) := PE.weak he fun σ H Q q => mB_to q
section
variable {T S : Ty} {p2 p3 p4 : Pos} {kt : Nat}
theorem bt_isi (hg : Gl X "isinstance") (hm : X.mg "isinstance" = none) (ha : PE X a (tM X.K W ma)) (hgT : Gl X (Str.ofString T.nm)) (hmT : X.mg (Str.ofString T.nm) = none)
    (he : starEach [a, .Name (Str.ofString T.nm) p2] X.env = (false, eval a X.env) :: starEach [.Name (Str.ofString T.nm) p2] X.env := by rfl) (he2 : starEach [.Name (Str.ofString T.nm) p2] X.env = (false, eval (.Name (Str.ofString T.nm) p2) X.env) :: starEach [] X.env := by rfl) (hpl : (backTo pos (starEach [.Name (Str.ofString T.nm) p2] X.env)).any (·.1) = false := by rfl)
    (hw : ∀ whole, isTrue (.Call (.Name "isinstance" p) [a, .Name (Str.ofString T.nm) p2] [] pos) X.env whole = (do let v ← whole; standAt pos; holding [v] (truthy v)) := by intro _; rfl) :
    PT X (.Call (.Name "isinstance" p) [a, .Name (Str.ofString T.nm) p2] [] pos) (bM X.K W (bIs T ma)) := bt_of (isi_core hg hm (by decide +kernel) ha (by decide) (by decide) hgT hmT he he2 hpl) hw
theorem se_isi (hg : Gl X "isinstance") (hm : X.mg "isinstance" = none) (ha : PE X a (tM X.K W ma)) (hgT : Gl X (Str.ofString T.nm)) (hmT : X.mg (Str.ofString T.nm) = none)
    (he : starEach [a, .Name (Str.ofString T.nm) p2] X.env = (false, eval a X.env) :: starEach [.Name (Str.ofString T.nm) p2] X.env := by rfl) (he2 : starEach [.Name (Str.ofString T.nm) p2] X.env = (false, eval (.Name (Str.ofString T.nm) p2) X.env) :: starEach [] X.env := by rfl) (hpl : (backTo pos (starEach [.Name (Str.ofString T.nm) p2] X.env)).any (·.1) = false := by rfl) :
    PE X (.Call (.Name "isinstance" p) [a, .Name (Str.ofString T.nm) p2] [] pos) (tM X.K W (mB (bIs T ma))) := se_of (isi_core hg hm (by decide +kernel) ha (by decide) (by decide) hgT hmT he he2 hpl)
theorem bt_isi2 (hg : Gl X "isinstance") (hm : X.mg "isinstance" = none) (ha : PE X a (tM X.K W ma)) (hgT : Gl X (Str.ofString T.nm)) (hmT : X.mg (Str.ofString T.nm) = none) (hgS : Gl X (Str.ofString S.nm)) (hmS : X.mg (Str.ofString S.nm) = none)
    (he : starEach [a, .Tuple [.Name (Str.ofString T.nm) p2, .Name (Str.ofString S.nm) p3] kt p4] X.env = (false, eval a X.env) :: starEach [.Tuple [.Name (Str.ofString T.nm) p2, .Name (Str.ofString S.nm) p3] kt p4] X.env := by rfl)
    (he2 : starEach [.Tuple [.Name (Str.ofString T.nm) p2, .Name (Str.ofString S.nm) p3] kt p4] X.env = (false, eval (.Tuple [.Name (Str.ofString T.nm) p2, .Name (Str.ofString S.nm) p3] kt p4) X.env) :: starEach [] X.env := by rfl)
    (he3 : starEach [.Name (Str.ofString T.nm) p2, .Name (Str.ofString S.nm) p3] X.env = (false, eval (.Name (Str.ofString T.nm) p2) X.env) :: starEach [.Name (Str.ofString S.nm) p3] X.env := by rfl)
    (he4 : starEach [.Name (Str.ofString S.nm) p3] X.env = (false, eval (.Name (Str.ofString S.nm) p3) X.env) :: starEach [] X.env := by rfl)
    (hpl : (backTo pos (starEach [.Tuple [.Name (Str.ofString T.nm) p2, .Name (Str.ofString S.nm) p3] kt p4] X.env)).any (·.1) = false := by rfl)
    (hw : ∀ whole, isTrue (.Call (.Name "isinstance" p) [a, .Tuple [.Name (Str.ofString T.nm) p2, .Name (Str.ofString S.nm) p3] kt p4] [] pos) X.env whole = (do let v ← whole; standAt pos; holding [v] (truthy v)) := by intro _; rfl) :
    PT X (.Call (.Name "isinstance" p) [a, .Tuple [.Name (Str.ofString T.nm) p2, .Name (Str.ofString S.nm) p3] kt p4] [] pos) (bM X.K W (bIs2 T S ma)) := bt_of (isi2_core hg hm (by decide +kernel) ha (by decide) (by decide) hgT hmT hgS hmS he he2 he3 he4 hpl) hw
end
/-! ### texts -/
def strsOf : List U → Option (List (List Nat))
  | [] => some []
  | .str s :: r => (strsOf r).map (s :: ·)
  | _ :: _ => none
theorem strs_eq : ∀ {us : List U} {ss : List (List Nat)}, strsOf us = some ss → us = ss.map U.str
  | [], _, e => by cases e; rfl
  | .str s :: r, ss, e => by
    unfold strsOf at e
    cases e2 : strsOf r with
    | none => rw [e2] at e; cases e
    | some t =>
      rw [e2] at e
      cases e
      rw [strs_eq e2]; rfl
  | .non :: _, _, e => by cases e
  | .bl _ :: _, _, e => by cases e
  | .int _ :: _, _, e => by cases e
  | .tup _ :: _, _, e => by cases e
  | .fl _ :: _, _, e => by cases e
  | .kl _ :: _, _, e => by cases e
  | .ref _ :: _, _, e => by cases e
theorem strsOf_map (ss : List (List Nat)) : strsOf (ss.map U.str) = some ss := by
  induction ss with
  | nil => rfl
  | cons s r ih => rw [List.map_cons, strsOf, ih]; rfl
/-- a text's method of one argument -/
def mSM1 (f : U → U → Sto → R U) (o a : EM) : EM := fun env h => (o env h).bind fun x h1 => match x with
  | .str s => (a env h1).bind fun y h2 => f (.str s) y h2
  | _ => .bad
def mSM0 (f : U → Sto → R U) (o : EM) : EM := fun env h => (o env h).bind fun x h1 => match x with
  | .str s => f (.str s) h1
  | _ => .bad
def M1OK (K : Fr) (r : V → List V → Hp → VK → Prop) (f : U → U → Sto → R U) : Prop := ∀ E g H h v w s y Q, HR K g H h → Rep K g v (.str s) → Rep K g w y → WE K E g (f (.str s) y h) Q → r v [w] H Q
def M0OK (K : Fr) (r : V → List V → Hp → VK → Prop) (f : U → Sto → R U) : Prop := ∀ E g H h v s Q, HR K g H h → Rep K g v (.str s) → WE K E g (f (.str s) h) Q → r v [] H Q
theorem m1_to {r : V → List V → Hp → VK → Prop} {f : U → U → Sto → R U} {Q : VK} (ok : M1OK K r f) (q : tM K W (mSM1 f mo ma) σ H Q) : tM1 r (tM K W mo) (tM K W ma) σ H Q := by
  obtain ⟨g, env, h, hr, er, w⟩ := q
  refine ⟨g, env, h, hr, er, wE w fun x h1 v H1 g1 l1 hr1 rx w1 => ?_⟩
  cases rx with
  | str s => exact ⟨⟨_, rfl⟩, g1, env, h1, hr1, er.mono l1, wE w1 fun y h2 u H2 g2 l2 hr2 ry w2 => ok _ g2 H2 h2 _ u s y Q hr2 (.str s) ry w2⟩
  | _ => exact w1.elim
theorem m0_to {r : V → List V → Hp → VK → Prop} {f : U → Sto → R U} {Q : VK} (ok : M0OK K r f) (q : tM K W (mSM0 f mo) σ H Q) : tM0 r (tM K W mo) σ H Q := by
  obtain ⟨g, env, h, hr, er, w⟩ := q
  refine ⟨g, env, h, hr, er, wE w fun x h1 v H1 g1 l1 hr1 rx w1 => ?_⟩
  cases rx with
  | str s => exact ⟨⟨_, rfl⟩, ok _ g1 H1 h1 _ s Q hr1 (.str s) w1⟩
  | _ => exact w1.elim
def uJoin (x y : U) (h : Sto) : R U := match x with
  | .str s => (match (sL h y).bind strsOf with
    | some ss => if (ss.map List.length).sum + ss.length * s.length ≤ 16000000 then .ok (.str (joinL s ss)) h else .bad
    | none => .bad)
  | _ => .bad
theorem ok_join : M1OK K (fun x xs H Q => ∃ a p, ∃ ys : List Str, x = .str a ∧ xs = [.ref p] ∧ (SqL K H p (ys.map V.str) ∨ SqT K H p (ys.map V.str)) ∧ (ys.map (·.length)).sum + ys.length * a.length ≤ 16777216 ∧ Q (.str (Txt.join a ys)) H) uJoin := by
  intro E g H h v w s y Q hr rx ry t
  simp only [uJoin] at t
  cases e : sL h y with
  | none => rw [e] at t; exact t.elim
  | some us =>
    cases e2 : strsOf us with
    | none => rw [e] at t; simp only [Option.bind, e2] at t; exact t.elim
    | some ss =>
      rw [e] at t
      simp only [Option.bind, e2] at t
      split at t
      · rename_i z
        have es := strs_eq e2
        subst es
        obtain ⟨p, vs, rfl, h1, r1⟩ := sL_of hr ry e
        have ev := r1.strs
        subst ev
        cases rx
        refine ⟨⟨s.toArray⟩, p, ss.map fun s => ⟨s.toArray⟩, rfl, rfl, h1, ?_, ?_⟩
        · have e3 : ((ss.map fun s => (⟨s.toArray⟩ : Str)).map (·.length)) = ss.map List.length := by
            rw [List.map_map]
            exact List.map_congr_left fun s _ => str_len s
          rw [e3, List.length_map, str_len]
          omega
        · have e3 : Txt.join ⟨s.toArray⟩ (ss.map fun s => (⟨s.toArray⟩ : Str)) = ⟨(joinL s ss).toArray⟩ := by
            apply ext_tl
            rw [join_eq, tl_join, tl_mk, tl_mk, List.map_map]
            congr 1
            have : (tl ∘ fun s : List Nat => (⟨s.toArray⟩ : Str)) = id := by
              funext s
              exact tl_mk s
            rw [this, List.map_id]
          rw [e3]
          exact t _ _ g (Le.refl _) hr (.str _)
      · exact t.elim
theorem se_join {apos : Pos} (ho : PE X o (tM X.K W mo)) (he : PE X e (tM X.K W me)) (hs : starEach [e] X.env = [(false, eval e X.env)] := by rfl) (hbase : attributeBase o "join" X.env (eval o X.env) = eval o X.env := by rfl) (hline : (apos.endLine == pos.line) = true := by rfl) :
    PE X (.Call (.Attribute o "join" apos) [e] [] pos) (tM X.K W (mSM1 uJoin mo me)) := PE.weak (pe_join ho he hs hbase hline) fun σ H Q q => m1_to ok_join q
end
/-! ### the end -/
def semTrue (sem : Sem') : Prop := ∀ ns : List Int, ns.length ≤ 63 → ∃ h', sem [.kl (ns.map U.int)] [] = .ok (.bl true) h'
theorem sp_end {K : Fr} {sem : Sem'} (ht : semTrue sem) {H : Hp} {a : Addr} {ns : List Int} (hl : ns.length ≤ 63) (hS : SqL K H a (ns.map V.int)) : spM K 1 sem [.ref a] H (fun v _ => v = .bl true) fun _ _ _ => False := by
  obtain ⟨h', e⟩ := ht ns hl
  refine ⟨rfl, ⟨[], H⟩, [.kl (ns.map U.int)], [], ⟨fun a o e => e, rfl, List.nodup_nil, fun a m => (nomatch m), fun n a o e => by simp at e⟩, .cons (.kl hS (Reps.ofInts ns)) .nil, ?_⟩
  rw [e]
  intro v H1 g1 l1 hr1 rv
  cases rv
  rfl
/-- the law's promise, whatever its meaning is -/
def spEnd (K : Fr) : Sp := fun vs H Q _ => ∃ (a : Addr) (ns : List Int), vs = [.ref a] ∧ ns.length ≤ 63 ∧ SqL K H a (ns.map V.int) ∧ ∀ H', Q (.bl true) H'
theorem fn_end {P : Program} {Wd : World} {K : Fr} {mg : Str → Option Value} {base : Heap} {f : Addr} {fd : FuncData} {ps : List Str} {k : Nat} {sem : Sem'} (ht : semTrue sem) (F : FnOk P Wd K mg base (L2.CX P Wd) k f fd ps (spM K 1 sem)) : FnOk P Wd K mg base (L2.CX P Wd) k f fd ps (spEnd K) :=
  F.imp fun vs H Q E ⟨a, ns, e, hl, hS, q⟩ => by
    subst e
    obtain ⟨hz, g, us, h, hr, rv, w⟩ := sp_end ht hl hS
    refine ⟨hz, g, us, h, hr, rv, ?_⟩
    cases es : sem us h with
    | bad => rw [es] at w; exact w
    | exc C n h => rw [es] at w; exact fun H1 g1 d l1 hr1 q => (w H1 g1 d l1 hr1 q).elim
    | ok u h1 =>
      rw [es] at w
      intro v H1 g1 l1 hr1 r1
      have := w v H1 g1 l1 hr1 r1
      subst this
      exact q H1
theorem walkQ {l : PySem.W.OpenLaw} {k : Nat} {q : Program} {loose : List Str} {XP : (Str → Option Value) → Heap → Prop} {YP : World → Heap → Prop} {d : DefRec} {K : Params → PySem.W.Frag} {x : Str}
    (hn : l.most = some 63) (hdf : d.params.defaults = []) (hr : Room k callerA) (hY : ∀ (w : World) (h : Heap), YP w h → (K w.params).In h)
    (F : ∀ (w : World) (mg : Str → Option Value) (fa : Addr) (h : Heap), (K w.params).In h → h.Ns mainGlobals mg → mg d.name = some (.ref fa) →
      ∃ fd : FuncData, (∀ (s : Shared) (u : Value), BindsTo s fd ⟨[u], []⟩ [(x, u)]) ∧ ∀ base : Heap, (K w.params).In base → base.Ns mainGlobals mg → FnOk l.prog w (K w.params) mg base (L2.CX l.prog w) k fa fd [x] (spEnd (K w.params))) :
    PySem.W.WalkO q loose XP YP l.row.toRowW d [] (fun f vs => PySem.call f vs) :=
  walk_of (n := 63) (CX := fun w => L2.CX l.prog w) (sp := fun w => spEnd (K w.params)) hn (by decide) hdf hr hY F (fun w H a ns hl _ hS => ⟨a, ns, rfl, hl, hS, fun _ => rfl⟩) fun _ _ _ _ _ z => by
    obtain ⟨_, _, _, _, _, _, _, _, _, _, _, _, z⟩ := z
    exact z
end Q

set_option Elab.async false
set_option linter.all false
set_option maxRecDepth 100000
set_option maxHeartbeats 1000000
/-! Q8: how meanings are reckoned. -/
namespace Q
open L2
section
variable {env : Env'} {h h1 : Sto} {u x y z : U} {us xs ys : List U} {a b c d : EM} {t s : TM} {m m1 m2 : SM} {am : AM} {α β : Type}
@[simp] theorem e_bind_ok {a : α} {f : α → Sto → R β} : (R.ok a h).bind f = f a h := rfl
@[simp] theorem e_bind_exc {C : Nat} {n : Option Nat} {f : α → Sto → R β} : (R.exc C n h : R α).bind f = .exc C n h := rfl
@[simp] theorem e_bind_bad {f : α → Sto → R β} : (R.bad : R α).bind f = .bad := rfl
@[simp] theorem e_var {i : Nat} : mVar i env h = match env[i]? with | some (some u) => .ok u h | _ => .bad := rfl
@[simp] theorem e_c : mC u env h = .ok u h := rfl
@[simp] theorem e_bin {f : U → U → Sto → R U} : mBin f a b env h = (a env h).bind fun x h1 => (b env h1).bind fun y h2 => f x y h2 := rfl
@[simp] theorem e_neg : mNeg a env h = (a env h).bind fun x h1 => match x with | .int i => .ok (.int (-i)) h1 | _ => .bad := rfl
@[simp] theorem e_add_i {i j : Int} : uAdd (.int i) (.int j) h = .ok (.int (i + j)) h := rfl
@[simp] theorem e_add_s {i j : List Nat} : uAdd (.str i) (.str j) h = if i.length + j.length ≤ 16000000 then .ok (.str (i ++ j)) h else .bad := rfl
@[simp] theorem e_add_ref {n : Nat} : uAdd (.ref n) y h = match mL h (.ref n), mL h y with
    | some us, some ts => if us.length + ts.length ≤ 16000000 then .ok (.ref h.length) (h ++ [.lst (us ++ ts)]) else .bad
    | _, _ => .bad := by cases y <;> rfl
@[simp] theorem e_add_fl : uAdd (.fl us) y h = match mL h y with
    | some ts => if us.length + ts.length ≤ 16000000 then .ok (.ref h.length) (h ++ [.lst (us ++ ts)]) else .bad
    | _ => .bad := by
  have e : uAdd (.fl us) y h = match mL h (.fl us), mL h y with
    | some us, some ts => if us.length + ts.length ≤ 16000000 then .ok (.ref h.length) (h ++ [.lst (us ++ ts)]) else .bad
    | _, _ => .bad := by cases y <;> rfl
  rw [e]
  cases mL h y <;> rfl
@[simp] theorem e_sub_i {i j : Int} : uSub (.int i) (.int j) h = .ok (.int (i - j)) h := rfl
@[simp] theorem e_mul_i {i j : Int} : uMul (.int i) (.int j) h = if cMul i j then .ok (.int (i * j)) h else .bad := rfl
@[simp] theorem e_div_i {i j : Int} : uDiv (.int i) (.int j) h = if cDiv i j then .ok (.int (i / j)) h else .bad := rfl
@[simp] theorem e_mod_i {i j : Int} : uMod (.int i) (.int j) h = if cMod i j then .ok (.int (i % j)) h else .bad := rfl
@[simp] theorem e_pow_i {i j : Int} : uPow (.int i) (.int j) h = if cPow i j then .ok (.int (i ^ j.toNat)) h else .bad := rfl
@[simp] theorem e_isub_i {i j : Int} : uISub (.int i) (.int j) h = .ok (.int (i - j)) h := rfl
@[simp] theorem e_iadd_i {i j : Int} : uIAdd (.int i) (.int j) h = .ok (.int (i + j)) h := rfl
@[simp] theorem e_iadd_s {i j : List Nat} : uIAdd (.str i) (.str j) h = if i.length + j.length ≤ 16000000 then .ok (.str (i ++ j)) h else .bad := rfl
@[simp] theorem e_cmp {f : Sto → U → U → Option Bool} : bCmp f a b env h = (a env h).bind fun x h1 => (b env h1).bind fun y h2 => oB (f h2 x y) h2 := rfl
@[simp] theorem e_oB_some {b : Bool} : oB (some b) h = .ok b h := rfl
@[simp] theorem e_oR_some : oR (some u) h = .ok u h := rfl
@[simp] theorem e_mB : mB t env h = (t env h).bind fun b h1 => .ok (.bl b) h1 := rfl
@[simp] theorem e_eq_i {i j : Int} : cEq h (.int i) (.int j) = some (decide (i = j)) := rfl
@[simp] theorem e_eq_s {i j : List Nat} : cEq h (.str i) (.str j) = some (decide (i = j)) := rfl
@[simp] theorem e_eq_b {i j : Bool} : cEq h (.bl i) (.bl j) = some (decide (i = j)) := rfl
@[simp] theorem e_eq_is {i : Int} {j : List Nat} : cEq h (.int i) (.str j) = some false := rfl
@[simp] theorem e_eq_si {i : Int} {j : List Nat} : cEq h (.str j) (.int i) = some false := rfl
@[simp] theorem e_eq_nn : cEq h .non .non = some true := rfl
@[simp] theorem e_ne : cNe h x y = (cEq h x y).map not := rfl
@[simp] theorem e_lt {i j : Int} {p : Int → Int → Bool} : cI p h (.int i) (.int j) = some (p i j) := rfl
@[simp] theorem e_is : cIs h x .non = some (match x with | .non => true | _ => false) := rfl
@[simp] theorem e_isn : cIsN h x y = (cIs h x y).map not := rfl
@[simp] theorem e_in : cIn h x y = match sL h y with | some us => if flatU x = true ∧ us.all flatU = true then some (inF x us) else inP h x y | none => none := rfl
@[simp] theorem e_nin : cNin h x y = (cIn h x y).map not := rfl
@[simp] theorem e_flat_i {i : Int} : flatU (.int i) = true := rfl
@[simp] theorem e_flat_s {i : List Nat} : flatU (.str i) = true := rfl
@[simp] theorem e_flat_b {i : Bool} : flatU (.bl i) = true := rfl
@[simp] theorem e_flat_n : flatU .non = true := rfl
@[simp] theorem e_mL_ref {n : Nat} : mL h (.ref n) = match h[n]? with | some (.lst us) => some us | _ => none := rfl
@[simp] theorem e_mL_fl : mL h (.fl us) = some us := rfl
@[simp] theorem e_aL_ref {n : Nat} : aL h (.ref n) = match h[n]? with | some (.lst us) => some us | _ => none := rfl
@[simp] theorem e_aL_fl : aL h (.fl us) = some us := rfl
@[simp] theorem e_aL_kl : aL h (.kl us) = some us := rfl
@[simp] theorem e_sL_ref {n : Nat} : sL h (.ref n) = match h[n]? with | some (.lst us) => some us | _ => none := rfl
@[simp] theorem e_sL_fl : sL h (.fl us) = some us := rfl
@[simp] theorem e_sL_kl : sL h (.kl us) = some us := rfl
@[simp] theorem e_sL_tup : sL h (.tup us) = some us := rfl
@[simp] theorem e_and : bAnd t s env h = (t env h).bind fun c h1 => if c = true then s env h1 else .ok false h1 := rfl
@[simp] theorem e_or : bOr t s env h = (t env h).bind fun c h1 => if c = true then .ok true h1 else s env h1 := rfl
@[simp] theorem e_not : bNot t env h = (t env h).bind fun c h1 => .ok (!c) h1 := rfl
@[simp] theorem e_tru : bTru a env h = (a env h).bind fun x h1 => oB (truU h1 x) h1 := rfl
@[simp] theorem e_tru_b {b : Bool} : truU h (.bl b) = some b := rfl
@[simp] theorem e_tru_i {i : Int} : truU h (.int i) = some (i != 0) := rfl
@[simp] theorem e_tru_n : truU h .non = some false := rfl
@[simp] theorem e_mAnd : mAnd a b env h = (a env h).bind fun x h1 => match x with | .bl true => b env h1 | .bl false => .ok (.bl false) h1 | _ => .bad := rfl
@[simp] theorem e_mOr : mOr a b env h = (a env h).bind fun x h1 => match x with | .bl false => b env h1 | .bl true => .ok (.bl true) h1 | _ => .bad := rfl
@[simp] theorem e_mNot : mNot a env h = (a env h).bind fun x h1 => match x with | .bl c => .ok (.bl (!c)) h1 | _ => .bad := rfl
@[simp] theorem e_mIf : mIf t a b env h = (t env h).bind fun c h1 => if c = true then a env h1 else b env h1 := rfl
@[simp] theorem e_aNil : aNil env h = .ok [] h := rfl
@[simp] theorem e_aCons : aCons a am env h = (a env h).bind fun x h1 => (am env h1).bind fun xs h2 => .ok (x :: xs) h2 := rfl
@[simp] theorem e_tup : mTup am env h = (am env h).bind fun us h1 => if us.length ≤ 16000000 then .ok (.tup us) h1 else .bad := rfl
@[simp] theorem e_lst : mLst am env h = (am env h).bind fun us h1 => if us.length ≤ 16000000 then .ok (.ref h1.length) (h1 ++ [.lst us]) else .bad := rfl
@[simp] theorem e_ix_s {s : List Nat} {i : Int} : uIx (.str s) (.int i) h = if s.length ≤ 16000000 then oR ((atI s i).map fun c => .str [c]) h else .bad := rfl
@[simp] theorem e_ix_ref {n : Nat} {i : Int} : uIx (.ref n) (.int i) h = match sL h (.ref n) with | some us => oR (atI us i) h | none => .bad := rfl
@[simp] theorem e_ix_tup {i : Int} : uIx (.tup us) (.int i) h = oR (atI us i) h := rfl
@[simp] theorem e_ix_fl {i : Int} : uIx (.fl us) (.int i) h = oR (atI us i) h := rfl
@[simp] theorem e_ix_kl {i : Int} : uIx (.kl us) (.int i) h = oR (atI us i) h := rfl
@[simp] theorem e_oNone : oNone env h = .ok none h := rfl
@[simp] theorem e_oSome : oSome a env h = (a env h).bind fun x h1 => match x with | .int i => .ok (some i) h1 | _ => .bad := rfl
@[simp] theorem e_sl {lo hi : OM} : mSl a lo hi env h = (a env h).bind fun x h1 => (lo env h1).bind fun l h2 => (hi env h2).bind fun u h3 => uSl x l u h3 := rfl
@[simp] theorem e_sl_s {s : List Nat} {lo hi : Option Int} : uSl (.str s) lo hi h = if s.length ≤ 16000000 then .ok (.str (cut s lo hi)) h else .bad := rfl
@[simp] theorem e_sl_ref {n : Nat} {lo hi : Option Int} : uSl (.ref n) lo hi h = match aL h (.ref n) with | some us => .ok (.ref h.length) (h ++ [.lst (cut us lo hi)]) | none => .bad := rfl
@[simp] theorem e_sl_fl {lo hi : Option Int} : uSl (.fl us) lo hi h = .ok (.ref h.length) (h ++ [.lst (cut us lo hi)]) := rfl
@[simp] theorem e_sl_kl {lo hi : Option Int} : uSl (.kl us) lo hi h = .ok (.ref h.length) (h ++ [.lst (cut us lo hi)]) := rfl
@[simp] theorem e_cb {f : List U → Sto → R U} : mCB f am env h = (am env h).bind f := rfl
@[simp] theorem e_len_s {s : List Nat} : uLen [.str s] h = if s.length ≤ 16000000 then .ok (.int s.length) h else .bad := rfl
@[simp] theorem e_len_ref {n : Nat} : uLen [.ref n] h = match sL h (.ref n) with | some us => .ok (.int us.length) h | none => .bad := rfl
@[simp] theorem e_len_tup : uLen [.tup us] h = .ok (.int us.length) h := rfl
@[simp] theorem e_len_fl : uLen [.fl us] h = .ok (.int us.length) h := rfl
@[simp] theorem e_len_kl : uLen [.kl us] h = .ok (.int us.length) h := rfl
@[simp] theorem e_int_i {i : Int} : uInt [.int i] h = .ok (.int i) h := rfl
@[simp] theorem e_int_b {i : Bool} : uInt [.bl i] h = .ok (.int (if i then 1 else 0)) h := rfl
@[simp] theorem e_list : uList [x] h = match sL h x with | some us => .ok (.ref h.length) (h ++ [.lst us]) | none => .bad := rfl
@[simp] theorem e_tuple : uTuple [x] h = match sL h x with | some us => .ok (.tup us) h | none => .bad := rfl
@[simp] theorem e_min {i j : Int} : uMin [.int i, .int j] h = .ok (.int (if j < i then j else i)) h := rfl
@[simp] theorem e_max {i j : Int} : uMax [.int i, .int j] h = .ok (.int (if j > i then j else i)) h := rfl
@[simp] theorem e_abs {i : Int} : uAbs [.int i] h = .ok (.int (if i < 0 then -i else i)) h := rfl
@[simp] theorem e_lm {f : U → List U → Sto → R U} : mLM f a am env h = (a env h).bind fun x h1 => if (aL h1 x).isSome = true then (am env h1).bind fun us h2 => f x us h2 else .bad := rfl
@[simp] theorem e_app {n : Nat} : uApp (.ref n) [y] h = match h[n]? with | some (.lst xs) => if xs.length < 16000000 then .ok .non (h.set n (.lst (xs ++ [y]))) else .bad | _ => .bad := rfl
@[simp] theorem e_ext {n : Nat} : uExt (.ref n) [y] h = match h[n]?, mL h y with | some (.lst xs), some ys => if xs.length + ys.length ≤ 16000000 then .ok .non (h.set n (.lst (xs ++ ys))) else .bad | _, _ => .bad := rfl
@[simp] theorem e_nx : mNx env h = .nx env h := rfl
theorem e_seq : mSeq m1 m2 env h = match m1 env h with | .nx e h1 => m2 e h1 | r => r := rfl
@[simp] theorem e_seq_nx {e : Env'} (q : m1 env h = .nx e h1) : mSeq m1 m2 env h = m2 e h1 := by unfold mSeq; rw [q]
@[simp] theorem e_seq_rt (q : m1 env h = .rt u h1) : mSeq m1 m2 env h = .rt u h1 := by unfold mSeq; rw [q]
@[simp] theorem e_seq_ex {C : Nat} {n : Option Nat} {e : Env'} (q : m1 env h = .ex C n e h1) : mSeq m1 m2 env h = .ex C n e h1 := by unfold mSeq; rw [q]
@[simp] theorem e_seq_bk {e : Env'} (q : m1 env h = .bk e h1) : mSeq m1 m2 env h = .bk e h1 := by unfold mSeq; rw [q]
@[simp] theorem e_seq_ct {e : Env'} (q : m1 env h = .ct e h1) : mSeq m1 m2 env h = .ct e h1 := by unfold mSeq; rw [q]
@[simp] theorem e_st_ok {a : α} {f : α → Sto → RS} : (R.ok a h).st env f = f a h := rfl
@[simp] theorem e_st_exc {C : Nat} {n : Option Nat} {f : α → Sto → RS} : (R.exc C n h : R α).st env f = .ex C n env h := rfl
@[simp] theorem e_st_bad {f : α → Sto → RS} : (R.bad : R α).st env f = .bad := rfl
@[simp] theorem e_no_ok {a : α} : (R.ok a h).no = .ok a h := rfl
@[simp] theorem e_asg {k : CT} : mAsg k a env h = (a env h).st env fun u h1 => gCT k u env h1 := rfl
@[simp] theorem e_gct_one {i : Nat} : gCT (.one i) u env h = .nx (env.set i (some u)) h := rfl
@[simp] theorem e_gct_tup {is : List Nat} : gCT (.tup is) (.tup us) env h = if us.length = is.length then .nx (setA env is us) h else .bad := by
  show (match (if us.length = is.length then some (setA env is us) else none) with | some e => RS.nx e h | none => .bad) = _
  by_cases z : us.length = is.length
  · rw [if_pos z, if_pos z]
  · rw [if_neg z, if_neg z]
@[simp] theorem e_ca_one {i : Nat} : (CT.one i).asg u env h = some (env.set i (some u)) := rfl
@[simp] theorem e_ca_tup {is : List Nat} : (CT.tup is).asg (.tup us) env h = if us.length = is.length then some (setA env is us) else none := rfl
@[simp] theorem e_setA_cons {e : Env'} {i : Nat} {is : List Nat} : setA e (i :: is) (u :: us) = setA (e.set i (some u)) is us := by conv => lhs; unfold setA
@[simp] theorem e_setA_nil {e : Env'} {us : List U} : setA e [] us = e := by unfold setA; rfl
@[simp] theorem e_ret : mRet a env h = (a env h).st env fun u h1 => .rt u h1 := rfl
@[simp] theorem e_retN : mRetN env h = .rt .non h := rfl
@[simp] theorem e_drop : mDrop a env h = (a env h).st env fun _ h1 => .nx env h1 := rfl
theorem e_ifs : mIfS t m1 m2 env h = (t env h).st env fun c h1 => if c = true then m1 env h1 else m2 env h1 := rfl
@[simp] theorem e_ifs' {b : Bool} (q : t env h = .ok b h1) : mIfS t m1 m2 env h = if b = true then m1 env h1 else m2 env h1 := by unfold mIfS; rw [q]; rfl
@[simp] theorem e_brk : mBrk env h = .bk env h := rfl
@[simp] theorem e_cnt : mCnt env h = .ct env h := rfl
@[simp] theorem e_call {n : Nat} {sem : Sem'} : mCall n sem am env h = (am env h).bind fun us h1 => if us.length = n then sem us h1 else .bad := rfl
@[simp] theorem e_isT {T : Ty} : bIs T a env h = (a env h).bind fun x h1 => oB (isU T h1 x) h1 := rfl
@[simp] theorem e_isT2 {T S : Ty} : bIs2 T S a env h = (a env h).bind fun x h1 => oB ((isU T h1 x).bind fun b => (isU S h1 x).map fun c => b || c) h1 := rfl
@[simp] theorem e_set {n : Nat} {k : Int} : uSetL (.ref n) (.int k) z h = match h[n]? with | some (.lst us) => (ixN us.length k).map fun j => h.set n (.lst (us.set j z)) | _ => none := rfl
@[simp] theorem e_seti {f : U → U → U → Sto → Option Sto} : mSetI f a b c env h = (c env h).st env fun z h1 => (a env h1).st env fun x h2 => (b env h2).st env fun y h3 => match f x y z h3 with
  | some h4 => .nx env h4
  | none => .bad := rfl
@[simp] theorem e_aug {f : U → U → Sto → R U} {i : Nat} : mAug f i a env h = match env[i]? with
  | some (some x) => (a env h).st env fun y h1 => (f x y h1).st env fun z h2 => .nx (env.set i (some z)) h2
  | _ => .bad := rfl
@[simp] theorem e_augi {gt f : U → U → Sto → R U} {st : U → U → U → Sto → Option Sto} : mAugI gt f st a b c env h = (a env h).st env fun x h1 => (b env h1).st env fun y h2 => (gt x y h2).st env fun z h3 => (c env h3).st env fun u h4 => (f z u h4).st env fun q h5 => match st x y q h5 with
  | some h6 => .nx env h6
  | none => .bad := rfl
@[simp] theorem e_ixL {n : Nat} {i : Int} : uIxL (.ref n) (.int i) h = match h[n]? with | some (.lst us) => oR (atI us i) h | _ => .bad := rfl
@[simp] theorem e_sm1 {f : U → U → Sto → R U} : mSM1 f a b env h = (a env h).bind fun x h1 => match x with | .str s => (b env h1).bind fun y h2 => f (.str s) y h2 | _ => .bad := rfl
@[simp] theorem e_join {s : List Nat} : uJoin (.str s) y h = match (sL h y).bind strsOf with | some ss => if (ss.map List.length).sum + ss.length * s.length ≤ 16000000 then .ok (.str (TL.joinL s ss)) h else .bad | none => .bad := rfl
def r1Of (us : List U) (h : Sto) : R (Chk × List U) := match us with
  | [.int j] => if -1000000000 ≤ j ∧ j ≤ 1000000000 then .ok ([], rng 0 j.toNat) h else .bad
  | _ => .bad
def r2Of (us : List U) (h : Sto) : R (Chk × List U) := match us with
  | [.int i, .int j] => if (-1000000000 ≤ i ∧ i ≤ 1000000000) ∧ (-1000000000 ≤ j ∧ j ≤ 1000000000) then .ok ([], rng i (j - i).toNat) h else .bad
  | _ => .bad
@[simp] theorem e_r1 : itR1 am env h = (am env h).bind r1Of := rfl
@[simp] theorem e_r2 : itR2 am env h = (am env h).bind r2Of := rfl
@[simp] theorem e_r1i {j : Int} : r1Of [.int j] h = if -1000000000 ≤ j ∧ j ≤ 1000000000 then .ok ([], rng 0 j.toNat) h else .bad := rfl
@[simp] theorem e_r2i {i j : Int} : r2Of [.int i, .int j] h = if (-1000000000 ≤ i ∧ i ≤ 1000000000) ∧ (-1000000000 ≤ j ∧ j ≤ 1000000000) then .ok ([], rng i (j - i).toNat) h else .bad := rfl
def seqOf (x : U) (h : Sto) : R (Chk × List U) := match x with
  | .str s => .ok ([], s.map fun c => .str [c]) h
  | x => match sL h x with
    | some us => .ok (chkOf x us, us) h
    | none => .bad
@[simp] theorem e_itE : itE a env h = (a env h).bind seqOf := rfl
@[simp] theorem e_seq_s {s : List Nat} : seqOf (.str s) h = .ok ([], s.map fun c => .str [c]) h := rfl
@[simp] theorem e_seq_tup : seqOf (.tup us) h = .ok ([], us) h := rfl
@[simp] theorem e_seq_fl : seqOf (.fl us) h = .ok ([], us) h := rfl
@[simp] theorem e_seq_kl : seqOf (.kl us) h = .ok ([], us) h := rfl
@[simp] theorem e_seq_ref {n : Nat} (q : h[n]? = some (.lst us)) : seqOf (.ref n) h = .ok ([(n, us)], us) h := by simp [seqOf, q, chkOf]
def zipOf (us : List U) (h : Sto) : R (Chk × List U) := match us with
  | [x, y] => (match sL h x, sL h y with
    | some us, some ts => .ok (chkOf x us ++ chkOf y ts, pairs us ts) h
    | _, _ => .bad)
  | _ => .bad
def enumOf (us : List U) (h : Sto) : R (Chk × List U) := match us with
  | [x] => (match aL h x with
    | some us => .ok (chkOf x us, pairs (rng 0 us.length) us) h
    | _ => .bad)
  | _ => .bad
@[simp] theorem e_itZ : itZ am env h = (am env h).bind zipOf := rfl
@[simp] theorem e_itN : itN am env h = (am env h).bind enumOf := rfl
@[simp] theorem e_zip : zipOf [x, y] h = match sL h x, sL h y with
    | some us, some ts => .ok (chkOf x us ++ chkOf y ts, pairs us ts) h
    | _, _ => .bad := rfl
@[simp] theorem e_enum : enumOf [x] h = match aL h x with
    | some us => .ok (chkOf x us, pairs (rng 0 us.length) us) h
    | _ => .bad := rfl
@[simp] theorem e_chk_ref {n : Nat} : chkOf (.ref n) us = [(n, us)] := rfl
@[simp] theorem e_chk_fl : chkOf (.fl xs) us = [] := rfl
@[simp] theorem e_chk_kl : chkOf (.kl xs) us = [] := rfl
@[simp] theorem e_chk_tup : chkOf (.tup xs) us = [] := rfl
@[simp] theorem e_yes : bYes env h = .ok true h := rfl
theorem e_for {mi : IM'} {k : CT} {c : Chk} (q : mi env h = .ok (c, us) h1) : mFor mi k m env h = forL c k m us env h1 := by unfold mFor; rw [q]; rfl
theorem e_forL_nil {k : CT} : forL [] k m [] env h = .nx env h := by unfold forL; rw [if_pos (chkOk_nil h)]
theorem e_forL_cons {k : CT} {env1 : Env'} (q : k.asg u env h = some env1) : forL [] k m (u :: us) env h = match m env1 h with
        | .nx e h1 => forL [] k m us e h1
        | .ct e h1 => forL [] k m us e h1
        | .bk e h1 => .nx e h1
        | r => r := by
  conv => lhs; unfold forL
  rw [if_pos (chkOk_nil h), q]
  all_goals rfl
/-- .. over a list of the store -/
theorem e_forC_nil {c : Chk} {k : CT} (ck : chkOk c h) : forL c k m [] env h = .nx env h := by unfold forL; rw [if_pos ck]
theorem e_forC_cons {c : Chk} {k : CT} {env1 : Env'} (ck : chkOk c h) (q : k.asg u env h = some env1) : forL c k m (u :: us) env h = match m env1 h with
        | .nx e h1 => forL c k m us e h1
        | .ct e h1 => forL c k m us e h1
        | .bk e h1 => .nx e h1
        | r => r := by
  conv => lhs; unfold forL
  rw [if_pos ck, q]
  all_goals rfl
theorem chk_one {n : Nat} : chkOk [(n, us)] h ↔ h[n]? = some (.lst us) := by simp [chkOk]
theorem e_fnM {n : Nat} {body : SM} : fnM n body us h = match body (us.map some ++ List.replicate (n - us.length) none) h with
  | .nx _ h' => .ok .non h'
  | .rt u h' => .ok u h'
  | .ex C n _ h' => .exc C n h'
  | _ => .bad := rfl
theorem e_fn_rt {n : Nat} {body : SM} (q : body (us.map some ++ List.replicate (n - us.length) none) h = .rt u h1) : fnM n body us h = .ok u h1 := by unfold fnM; rw [q]
theorem e_fn_ex {n : Nat} {body : SM} {C : Nat} {k : Option Nat} {e : Env'} (q : body (us.map some ++ List.replicate (n - us.length) none) h = .ex C k e h1) : fnM n body us h = .exc C k h1 := by unfold fnM; rw [q]
theorem e_fn_nx {n : Nat} {body : SM} {e : Env'} (q : body (us.map some ++ List.replicate (n - us.length) none) h = .nx e h1) : fnM n body us h = .ok .non h1 := by unfold fnM; rw [q]
/-- a comprehension whose parts leave the store as it is and reckon f of each item -/
theorem e_lcL {c : Chk} {k : CT} {me : EM} {n : Nat} {e0 : Env'} {f : U → U} : ∀ (us : List U) (acc : List U) (h : Sto), (∀ o, chkOk c (h.set n o)) → h[n]? = some (.lst acc) → acc.length + us.length < 16000000 →
    (∀ u ∈ us, ∀ h', (∀ i, i ≠ n → h'[i]? = h[i]?) → ∃ env1, k.asg u e0 h' = some env1 ∧ me env1 h' = .ok (f u) h') → lcL c k bYes me n e0 us h = .ok (.ref n) (h.set n (.lst (acc ++ us.map f)))
  | [], acc, h, ck, hn, hz, hm => by
    have e : h.set n (.lst acc) = h := by
      apply List.ext_getElem?
      intro j
      by_cases hj : n = j
      · subst hj
        rw [List.getElem?_set_self (List.getElem?_eq_some_iff.mp hn).1, hn]
      · rw [List.getElem?_set_ne hj]
    have ck0 := ck (.lst acc)
    rw [e] at ck0
    unfold lcL
    rw [if_pos ck0, List.map_nil, List.append_nil, e]
  | u :: us, acc, h, ck, hn, hz, hm => by
    have e : h.set n (.lst acc) = h := by
      apply List.ext_getElem?
      intro j
      by_cases hj : n = j
      · subst hj
        rw [List.getElem?_set_self (List.getElem?_eq_some_iff.mp hn).1, hn]
      · rw [List.getElem?_set_ne hj]
    have ck0 := ck (.lst acc)
    rw [e] at ck0
    obtain ⟨env1, e1, e2⟩ := hm u List.mem_cons_self h fun _ _ => rfl
    have hl : n < h.length := (List.getElem?_eq_some_iff.mp hn).1
    have ih := e_lcL (c := c) (k := k) (me := me) (n := n) (e0 := e0) (f := f) us (acc ++ [f u]) (h.set n (.lst (acc ++ [f u]))) (fun o => by rw [List.set_set]; exact ck o) (by rw [List.getElem?_set_self hl])
      (by simp at hz ⊢; omega) (fun w hw h' hh => hm w (List.mem_cons_of_mem _ hw) h' fun i hi => by rw [hh i hi, List.getElem?_set_ne (Ne.symm hi)])
    unfold lcL
    rw [if_pos ck0, e1]
    simp only [e_yes, e_no_ok, e_bind_ok, if_true, e2, hn]
    rw [if_pos (by simp at hz; omega), ih, List.set_set, List.append_assoc]
    rfl
/-! ### the store -/
theorem lt_of_some {n : Nat} (q : (h[n]?).isSome = true) : n < h.length := by
  cases e : h[n]? with
  | none => rw [e] at q; cases q
  | some o => exact (List.getElem?_eq_some_iff.mp e).1
@[simp] theorem st_app {l : Sto} {n : Nat} (q : (h[n]?).isSome = true) : (h ++ l)[n]? = h[n]? := List.getElem?_append_left (lt_of_some q)
@[simp] theorem st_gs {n : Nat} {o : O} (q : (h[n]?).isSome = true) : (h.set n o)[n]? = some o := List.getElem?_set_self (lt_of_some q)
@[simp] theorem st_gn {n k : Nat} {o : O} (q : n ≠ k) : (h.set n o)[k]? = h[k]? := List.getElem?_set_ne q
@[simp] theorem c_mod {i j : Int} : cMod i j ↔ 0 < j := Iff.rfl
@[simp] theorem c_div {i j : Int} : cDiv i j ↔ 0 < j ∧ j < 1073741824 := Iff.rfl
@[simp] theorem c_mul {i j : Int} : cMul i j ↔ (-18446744073709551616 < i ∧ i < 18446744073709551616) ∨ (-18446744073709551616 < j ∧ j < 18446744073709551616) := Iff.rfl
@[simp] theorem c_pow {i j : Int} : cPow i j ↔ 0 ≤ j ∧ j ≤ 1000 ∧ 0 ≤ i ∧ i < 1000 := Iff.rfl
@[simp] theorem st_len {l : Sto} : (h ++ l)[h.length]? = l[0]? := by
  rw [List.getElem?_append_right (Nat.le_refl _), Nat.sub_self]
@[simp] theorem st_lenk {l : Sto} {k : Nat} : (h ++ l)[h.length + k]? = l[k]? := by
  rw [List.getElem?_append_right (Nat.le_add_right _ _), Nat.add_sub_cancel_left]
@[simp] theorem st_set {l : Sto} {o : O} : (h ++ l).set h.length o = h ++ l.set 0 o := by
  rw [List.set_append_right _ _ (Nat.le_refl _), Nat.sub_self]
@[simp] theorem st_setk {l : Sto} {k : Nat} {o : O} : (h ++ l).set (h.length + k) o = h ++ l.set k o := by
  rw [List.set_append_right _ _ (Nat.le_add_right _ _), Nat.add_sub_cancel_left]
@[simp] theorem st_setl {l : Sto} {p : O} {n : Nat} (q : (h[n]?).isSome = true) : (h ++ l).set n p = h.set n p ++ l := List.set_append_left _ _ (lt_of_some q)
theorem rng_succ (lo : Int) (n : Nat) : rng lo (n + 1) = rng lo n ++ [.int (lo + n)] := by
  unfold rng
  rw [List.range_succ, List.map_append]
  rfl
end
/-- places in written lists -/
@[simp] theorem at0 {α : Type} {a : α} {l : List α} : atI (a :: l) 0 = some a := atI_nat (j := 0) rfl
@[simp] theorem at1 {α : Type} {a b : α} {l : List α} : atI (a :: b :: l) 1 = some b := atI_nat (j := 1) rfl
@[simp] theorem at2 {α : Type} {a b c : α} {l : List α} : atI (a :: b :: c :: l) 2 = some c := atI_nat (j := 2) rfl
@[simp] theorem at3 {α : Type} {a b c d : α} {l : List α} : atI (a :: b :: c :: d :: l) 3 = some d := atI_nat (j := 3) rfl
@[simp] theorem at4 {α : Type} {a b c d e : α} {l : List α} : atI (a :: b :: c :: d :: e :: l) 4 = some e := atI_nat (j := 4) rfl
@[simp] theorem at5 {α : Type} {a b c d e f : α} {l : List α} : atI (a :: b :: c :: d :: e :: f :: l) 5 = some f := atI_nat (j := 5) rfl
theorem at_ok {α : Type} {l : List α} {i : Int} {x : α} (h0 : 0 ≤ i) (h : l[i.toNat]? = some x) : atI l i = some x := by
  have := atI_nat h
  rwa [Int.toNat_of_nonneg h0] at this
end Q

set_option Elab.async false
set_option linter.all false
set_option maxRecDepth 100000
set_option maxHeartbeats 1000000
/-! QC: instances of the text's own classes. -/
namespace Q
open PySem PySem.Spec PyProof.Rows L2 TL
def putU (f : Str) (v : U) : List (Str × U) → List (Str × U)
  | [] => [(f, v)]
  | (g, x) :: r => if g = f then (g, v) :: r else (g, x) :: putU f v r
section
variable {K : Fr} {g g' : G} {E : XK} {W : WX} {X : Cx} {H : Hp} {h : Sto} {v w : V} {x y : U} {σ : L2.St} {env : Env'} {a b c e o tg : Expr} {es rest : List Expr} {ma mb mc me mo : EM} {ta tb : TM} {pos : Pos} {am : AM} {n : Str} {p : Pos}
theorem RepF.look {f : Str} : ∀ {vs us}, RepF K g vs us → (∀ u, us.lookup f = some u → ∃ v, vs.lookup f = some v ∧ Rep K g v u) ∧ (us.lookup f = none → vs.lookup f = none)
  | _, _, .nil => ⟨(fun u e => nomatch e), fun _ => rfl⟩
  | _, _, .cons (k := k) (v := v) (u := u0) (vs := vs) (us := us) hh r => by
    obtain ⟨i1, i2⟩ := RepF.look (f := f) r
    refine ⟨fun u e => ?_, fun e => ?_⟩
    · rw [List.lookup_cons] at e ⊢
      cases hb : f == k with
      | true => rw [hb] at e; simp only at e; cases e; exact ⟨v, rfl, hh⟩
      | false => rw [hb] at e; simp only at e; exact i1 u e
    · rw [List.lookup_cons] at e ⊢
      cases hb : f == k with
      | true => rw [hb] at e; simp only at e; cases e
      | false => rw [hb] at e; simp only at e; exact i2 e
theorem RepF.put {f : Str} {v : V} {u : U} (hh : Rep K g v u) : ∀ {vs us}, RepF K g vs us → RepF K g (putF f v vs) (putU f u us)
  | _, _, .nil => .cons hh .nil
  | _, _, .cons (k := k) (v := v') (u := u') (vs := vs) (us := us) h' r => by
    show RepF K g (if k = f then (k, v) :: vs else (k, v') :: putF f v vs) (if k = f then (k, u) :: us else (k, u') :: putU f u us)
    split
    · exact .cons hh r
    · exact .cons h' (RepF.put hh r)
theorem RepF.len : ∀ {vs us}, RepF K g vs us → vs.length = us.length
  | _, _, .nil => rfl
  | _, _, .cons _ r => by simp [RepF.len r]
/-- what the written part tells of a class that has the attribute f -/
structure FA (K : Fr) (cs : List Nat) (f : Str) : Prop where
  is : ∀ C, C ∈ cs → Cls K C ∧ NoAttr K C f
/-- the instance at x: its class, its attributes -/
def insU (h : Sto) : U → Option (Nat × List (Str × U))
  | .ref n => match h[n]? with
    | some (.ins C fs) => some (C, fs)
    | _ => none
  | _ => none
theorem ins_of {C : Nat} {us : List (Str × U)} (hr : HR K g H h) (r : Rep K g v x) (e : insU h x = some (C, us)) : ∃ n p dx vs, x = .ref n ∧ v = .ref p ∧ g.al[n]? = some p ∧ h[n]? = some (.ins C us) ∧ H p = some (.ins C dx vs) ∧ RepF K g vs us := by
  cases r with
  | @ref p n q =>
    simp only [insU] at e
    split at e
    · rename_i C' us' e1
      cases e
      obtain ⟨dx, vs, h1, h2⟩ := hr.ob n p _ q e1
      exact ⟨n, p, dx, vs, rfl, rfl, q, e1, h1, h2⟩
    · cases e
  | _ => cases e
/-- o.f -/
def mFld (cs : List Nat) (f : Str) (o : EM) : EM := fun env h => (o env h).bind fun x h1 => match insU h1 x with
  | some (C, fs) => if C ∈ cs then oR (fs.lookup f) h1 else .bad
  | none => .bad
theorem se_fld {cs : List Nat} {f : Str} (T : FA X.K cs f) (he : PE X e (tM X.K W me)) (hb : attributeBase e f X.env (eval e X.env) = eval e X.env := by rfl) : PE X (.Attribute e f pos) (tM X.K W (mFld cs f me)) :=
  PE.weak (pe_fld he hb) fun σ H Q ⟨g, env, h, hr, er, w⟩ => ⟨g, env, h, hr, er, wE w fun u h1 v H1 g1 l1 hr1 rv w1 => by
    split at w1
    · rename_i C fs e1
      split at w1
      · rename_i hc
        obtain ⟨n, q, dx, vs, rfl, rfl, e2, e3, e4, e5⟩ := ins_of hr1 rv e1
        cases el : fs.lookup f with
        | none => rw [el] at w1; exact w1.elim
        | some u =>
          rw [el] at w1
          obtain ⟨z, hz, rz⟩ := e5.look.1 u el
          exact ⟨q, C, dx, vs, z, rfl, e4, (T.is C hc).1, (T.is C hc).2, hz, w1 z H1 g1 (Le.refl _) hr1 rz⟩
      · exact w1.elim
    · exact w1.elim⟩
/-- o.f = e -/
def mSetF (cs : List Nat) (f : Str) (o e : EM) : SM := fun env h => (e env h).st env fun z h1 => (o env h1).st env fun x h2 => match x, insU h2 x with
  | .ref n, some (C, fs) => if C ∈ cs ∧ fs.length < 1000 then .nx env (h2.set n (.ins C (putU f z fs))) else .bad
  | _, _ => .bad
theorem ss_fld {cs : List Nat} {f : Str} {tpos : Pos} (T : FA X.K cs f) (ho : PE X o (tM X.K W mo)) (he : PE X e (tM X.K W me)) (hs : swapsWith e (some (.Attribute o f tpos)) pos.line X.env = pure false := by rfl) : PS X (.Assign [.Attribute o f tpos] e pos) (sM X.K W (mSetF cs f mo me)) :=
  PS.weak (ps_fld ho he hs) fun D σ H ⟨g, env, h, hr, er, w⟩ => ⟨g, env, h, hr, er, wAsg er w fun z h1 vz H1 g1 l1 hr1 rz w1 => ⟨g1, env, h1, hr1, er.mono l1, wAsg (er.mono l1) w1 fun x h2 vx H2 g2 l2 hr2 rx w2 => by
    split at w2
    · rename_i n C fs e1
      split at w2
      · rename_i hc
        obtain ⟨n', q, dx, vs, hn, rfl, e2, e3, e4, e5⟩ := ins_of hr2 rx e1
        cases hn
        refine ⟨q, C, dx, vs, rfl, e4, (T.is C hc.1).1, (T.is C hc.1).2, by rw [e5.len]; exact hc.2, ?_⟩
        exact w2 σ _ g2 (Le.refl _) (hr2.set e2 (fun _ _ z => by rw [e4] at z; cases z) ⟨dx, _, upd_same, e5.put (rz.mono l2)⟩) (er.mono (l1.trans l2))
      · exact w2.elim
    · exact w2.elim⟩⟩
/-- o.f op= e -/
def mAugF (cs : List Nat) (op : U → U → Sto → R U) (f : Str) (o e : EM) : SM := fun env h => (o env h).st env fun x h1 => match x, insU h1 x with
  | .ref n, some (C, fs) => if C ∈ cs then (match fs.lookup f with
    | some u => (e env h1).st env fun y h2 => (op u y h2).st env fun z h3 => (match insU h3 (.ref n) with
      | some (C', fs') => if C' = C ∧ fs'.length < 1000 then .nx env (h3.set n (.ins C (putU f z fs'))) else .bad
      | none => .bad)
    | none => .bad) else .bad
  | _, _ => .bad
theorem ss_augF {cs : List Nat} {f : Str} {tpos : Pos} {op : Operator} {r : R2} {fo : U → U → Sto → R U} (T : FA X.K cs f) (hop : OpR X (inplaceOp op) r) (ok : BinOK X.K r fo) (ho : PE X o (tM X.K W mo)) (he : PE X e (tM X.K W me)) :
    PS X (.AugAssign (.Attribute o f tpos) op e pos) (sM X.K W (mAugF cs fo f mo me)) :=
  PS.weak (ps_fldaug (rd := r) ho he hop) fun D σ H ⟨g, env, h, hr, er, w⟩ => ⟨g, env, h, hr, er, wAsg er w fun x h1 vx H1 g1 l1 hr1 rx w1 => by
    split at w1
    · rename_i n C fs e1
      split at w1
      · rename_i hc
        obtain ⟨n', q, dx, vs, hn, rfl, e2, e3, e4, e5⟩ := ins_of hr1 rx e1
        cases hn
        split at w1
        · rename_i u el
          obtain ⟨z, hz, rz⟩ := e5.look.1 u el
          refine ⟨q, C, dx, vs, z, rfl, e4, (T.is C hc).1, (T.is C hc).2, hz, g1, env, h1, hr1, er.mono l1, wAsg (er.mono l1) w1 fun y h2 vy H2 g2 l2 hr2 ry w2 => ?_⟩
          refine ok _ g2 H2 h2 z vy u y _ hr2 (rz.mono l2) ry (wAsg (er.mono (l1.trans l2)) w2 fun z' h3 vz H3 g3 l3 hr3 rz' w3 => ?_)
          split at w3
          · rename_i C' fs' e6
            split at w3
            · rename_i hc'
              obtain ⟨n'', q', dx', vs', hn, hq, e7, e8, e9, e10⟩ := ins_of hr3 (.ref ((l2.trans l3).get e2)) e6
              cases hn
              cases hq
              have e11 := hc'.1
              subst e11
              refine ⟨dx', vs', e9, by rw [e10.len]; exact hc'.2, ?_⟩
              exact w3 σ _ g3 (Le.refl _) (hr3.set e7 (fun _ _ z => by rw [e9] at z; cases z) ⟨dx', _, upd_same, e10.put rz'⟩) (er.mono ((l1.trans l2).trans l3))
            · exact w3.elim
          · exact w3.elim
        · exact w1.elim
      · exact w1.elim
    · exact w1.elim⟩
/-- o.m(..) -/
def mMeth (C : Nat) (m : Str) (k : Nat) (sem : Sem') (o : EM) (am : AM) : EM := fun env h => (o env h).bind fun x h1 => match insU h1 x with
  | some (C', fs) => if C' = C ∧ fs.lookup m = none then (am env h1).bind fun us h2 => if us.length + 1 = k then sem (x :: us) h2 else .bad else .bad
  | none => .bad
variable {f C : Addr} {fd : FuncData} {ps : List Str} {k j : Nat} {m : Str} {sem : Sem'}
def tMethS (C : Addr) (m : Str) (sp : Sp) (E : L2.St → XK) (to : TE) (t : TA) : TE := fun σ H Q => to σ H fun x H1 => ∃ a dx fs, x = .ref a ∧ H1 a = some (.ins C dx fs) ∧ fs.lookup m = none ∧ t σ H1 fun vs H2 => sp (.ref a :: vs) H2 Q (E σ)
theorem meth_to {Q : VK} (q : tM K W (mMeth C m j sem mo am) σ H Q) : tMethS C m (spM K j sem) (fun σ => atSl W σ) (tM K W mo) (aM K W am) σ H Q := by
  obtain ⟨g, env, h, hr, er, w⟩ := q
  refine ⟨g, env, h, hr, er, wE w fun x h1 v H1 g1 l1 hr1 rv w1 => ?_⟩
  split at w1
  · rename_i C' fs e1
    split at w1
    · rename_i hc
      obtain ⟨n, q, dx, vs, rfl, rfl, e2, e3, e4, e5⟩ := ins_of hr1 rv e1
      have e11 := hc.1
      subst e11
      refine ⟨q, dx, vs, rfl, e4, e5.look.2 hc.2, g1, env, h1, hr1, er.mono l1, wA w1 fun us h2 vs H2 g2 l2 hr2 rvs w2 => ?_⟩
      split at w2
      · rename_i z
        exact ⟨by simp [rvs.len]; exact z, g2, _, h2, hr2, .cons (rv.mono l2) rvs, w2⟩
      · exact w2.elim
    · exact w1.elim
  · exact w1.elim
theorem pe_methS {sp : Sp} {E : L2.St → XK} {apos : Pos} {pl : Sem Bool} {to : TE} {t : TA} (he : PE X o to) (c : Cls X.K C) (hm : Meth X.K C m f) (F : FnOk X.prog X.w X.K X.mg X.base (L2.CX X.prog X.w) k f fd ps sp) (hr : Room k X.A) (hb : Binds X.K fd ps []) (hx : ∀ σ, PassesAt (L2.CX X.prog X.w) X σ (E σ)) (ha : PA X (e :: es) t)
    (hst : starEach (e :: es) X.env = (false, eval e X.env) :: starEach es X.env := by rfl) (hpl : (backTo pos (starEach es X.env)).any (·.1) = false := by rfl)
    (ht : eval (.Call (.Attribute o m apos) (e :: es) [] pos) X.env = (do
      let ov ← eval o X.env
      standAt apos.atName
      let (f, first) ← holding [ov] (getMethod ov m pl)
      callWith pos f first (backTo pos (starEach (e :: es) X.env)) (backToKw pos (keywordEach [] X.env))) := by rfl) :
    PE X (.Call (.Attribute o m apos) (e :: es) [] pos) (tMethS C m sp E to t) := by
  refine ⟨fun pins s σ H Q I h => ?_⟩
  refine PySem.W.methodCall_KW (pl := pl) (thn (he.run pins s σ H _ I h) fun u s1 ⟨x, H1, I1, rx, a, dx, fs, ex, ea, l, q⟩ => ?_) ht
  subst ex
  obtain rfl : u = Value.ref a := rx
  refine getmeth_ok I1 ea c hm l ?_
  refine PySem.W.callWith_K (first := [.ref a]) (h₀ := X.base) I.ok.mod.kin hm.kp (thn (ha.run pos pins s1 σ H1 _ I1 q) fun us s2 ⟨vs, H2, I2, r, q2⟩ => ⟨I2.kIn, ?_⟩) hst hpl
  exact run_fnS (us := .ref a :: us) (vs := .ref a :: vs) F hr hb (hx σ) I2 (.cons rfl r) q2
theorem pe_methS0 {sp : Sp} {E : L2.St → XK} {apos : Pos} {pl : Sem Bool} {to : TE} (he : PE X o to) (c : Cls X.K C) (hm : Meth X.K C m f) (F : FnOk X.prog X.w X.K X.mg X.base (L2.CX X.prog X.w) k f fd ps sp) (hr : Room k X.A) (hb : Binds X.K fd ps []) (hx : ∀ σ, PassesAt (L2.CX X.prog X.w) X σ (E σ))
    (ht : eval (.Call (.Attribute o m apos) [] [] pos) X.env = (do
      let ov ← eval o X.env
      standAt apos.atName
      let (f, first) ← holding [ov] (getMethod ov m pl)
      callWith pos f first (backTo pos (starEach [] X.env)) (backToKw pos (keywordEach [] X.env))) := by rfl) :
    PE X (.Call (.Attribute o m apos) [] [] pos) (tMethS C m sp E to tNil) := by
  refine ⟨fun pins s σ H Q I h => ?_⟩
  refine PySem.W.methodCall_KW (pl := pl) (thn (he.run pins s σ H _ I h) fun u s1 ⟨x, H1, I1, rx, a, dx, fs, ex, ea, l, q⟩ => ?_) ht
  subst ex
  obtain rfl : u = Value.ref a := rx
  refine getmeth_ok I1 ea c hm l ?_
  exact PySem.W.callWith_K0 (first := [.ref a]) I1.kIn hm.kp (run_fnS (us := [.ref a]) (vs := [.ref a]) F hr hb (hx σ) I1 (.cons rfl .nil) q)
theorem se_meth {apos : Pos} {pl : Sem Bool} (tk : Takes X W) (c : Cls X.K C) (hm : Meth X.K C m f) (F : FnOk X.prog X.w X.K X.mg X.base (L2.CX X.prog X.w) k f fd ps (spM X.K j sem)) (hr : Room k X.A) (hb : Binds X.K fd ps []) (he : PE X o (tM X.K W mo)) (ha : PA X (e :: es) (aM X.K W am))
    (hst : starEach (e :: es) X.env = (false, eval e X.env) :: starEach es X.env := by rfl) (hpl : (backTo pos (starEach es X.env)).any (·.1) = false := by rfl)
    (ht : eval (.Call (.Attribute o m apos) (e :: es) [] pos) X.env = (do
      let ov ← eval o X.env
      standAt apos.atName
      let (f, first) ← holding [ov] (getMethod ov m pl)
      callWith pos f first (backTo pos (starEach (e :: es) X.env)) (backToKw pos (keywordEach [] X.env))) := by rfl) : PE X (.Call (.Attribute o m apos) (e :: es) [] pos) (tM X.K W (mMeth C m j sem mo am)) :=
  PE.weak (pe_methS (pl := pl) (E := fun σ => atSl W σ) he c hm F hr hb (fun σ => passAt tk σ) ha hst hpl ht) fun σ H Q q => meth_to q
theorem se_meth0 {apos : Pos} {pl : Sem Bool} (tk : Takes X W) (c : Cls X.K C) (hm : Meth X.K C m f) (F : FnOk X.prog X.w X.K X.mg X.base (L2.CX X.prog X.w) k f fd ps (spM X.K j sem)) (hr : Room k X.A) (hb : Binds X.K fd ps []) (he : PE X o (tM X.K W mo))
    (ht : eval (.Call (.Attribute o m apos) [] [] pos) X.env = (do
      let ov ← eval o X.env
      standAt apos.atName
      let (f, first) ← holding [ov] (getMethod ov m pl)
      callWith pos f first (backTo pos (starEach [] X.env)) (backToKw pos (keywordEach [] X.env))) := by rfl) : PE X (.Call (.Attribute o m apos) [] [] pos) (tM X.K W (mMeth C m j sem mo aNil)) :=
  PE.weak (pe_methS0 (pl := pl) (E := fun σ => atSl W σ) he c hm F hr hb (fun σ => passAt tk σ) ht) fun σ H Q q => by
    have q := meth_to q
    obtain ⟨g, env, h, hr, er, w⟩ := q
    refine ⟨g, env, h, hr, er, ?_⟩
    cases e1 : mo env h with
    | bad => rw [e1] at w; exact w
    | exc C n h => rw [e1] at w; exact w
    | ok x h1 =>
      rw [e1] at w
      intro v H1 g1 l1 hr1 rv
      obtain ⟨a, dx, fs, h1, h2, h3, g2, env2, h4, hr2, er2, w2⟩ := w v H1 g1 l1 hr1 rv
      exact ⟨a, dx, fs, h1, h2, h3, w2 [] H1 g2 (Le.refl _) hr2 .nil⟩
/-- C(..) -/
def mMake (C : Nat) (k : Nat) (sem : Sem') (am : AM) : EM := fun env h => (am env h).bind fun us h1 => if us.length + 1 = k then (match sem (.ref h1.length :: us) (h1 ++ [.ins C []]) with
  | .ok .non h2 => .ok (.ref h1.length) h2
  | _ => .bad) else .bad
theorem make_to {Q : VK} (q : tM K W (mMake C j sem am) σ H Q) : tMake C (spM K j sem) [] E0 (aM K W am) σ H Q := by
  obtain ⟨g, env, h, hr, er, w⟩ := q
  refine ⟨g, env, h, hr, er, wA w fun us h1 vs H1 g1 l1 hr1 rvs w1 => ?_⟩
  intro x dx hx hdx hne
  split at w1
  · rename_i z
    have hr2 := hr1.skip hdx (.own x)
    have hx2 : (upd H1 dx (.own x)) x = none := by rw [upd_ne (Ne.symm hne)]; exact hx
    have hr3 : HR K (g1.new x) (upd (upd H1 dx (.own x)) x (.ins C dx [])) (h1 ++ [.ins C []]) := hr2.new hx2 ⟨dx, [], upd_same, .nil⟩
    have rx : Rep K (g1.new x) (.ref x) (.ref h1.length) := hr1.newRef
    rw [List.append_nil]
    refine ⟨by simp [rvs.len]; exact z, g1.new x, _, _, hr3, .cons rx (rvs.mono Le.new), ?_⟩
    have w1 := WE.mono (Le.new (g := g1) (p := x)) w1
    cases es : sem (.ref h1.length :: us) (h1 ++ [.ins C []]) with
    | bad => rw [es] at w1; exact w1
    | exc C n h => rw [es] at w1; exact w1.elim
    | ok u h2 =>
      rw [es] at w1
      intro v H2 g2 l2 hr4 rv
      cases rv with
      | non => exact ⟨rfl, w1 _ H2 g2 l2 hr4 (rx.mono l2)⟩
      | _ => exact w1.elim
  · exact w1.elim
theorem se_make {fI : Addr} (M : Mk X.K C fI) (F : FnOk X.prog X.w X.K X.mg X.base (L2.CX X.prog X.w) k fI fd ps (spM X.K j sem)) (hr : Room (k + 1) X.A) (hg : Gl X n) (hm : X.mg n = some (.ref C)) (hb : Binds X.K fd ps [])
    (ha : PA X (e :: es) (aM X.K W am)) (hdb : (n == ("__debug__" : Str)) = false := by decide) (h2 : starEach (e :: es) X.env = (false, eval e X.env) :: starEach es X.env := by rfl) (h3 : (backTo pos (starEach es X.env)).any (·.1) = false := by rfl) :
    PE X (.Call (.Name n p) (e :: es) [] pos) (tM X.K W (mMake C j sem am)) :=
  PE.weak (pe_make M F hr hg hm hb .nil passL ha hdb h2 h3) fun σ H Q q => make_to q
theorem se_make0 {fI : Addr} (M : Mk X.K C fI) (F : FnOk X.prog X.w X.K X.mg X.base (L2.CX X.prog X.w) k fI fd ps (spM X.K j sem)) (hr : Room (k + 1) X.A) (hg : Gl X n) (hm : X.mg n = some (.ref C)) (hb : Binds X.K fd ps []) (hdb : (n == ("__debug__" : Str)) = false := by decide) :
    PE X (.Call (.Name n p) [] [] pos) (tM X.K W (mMake C j sem aNil)) :=
  PE.weak (pe_make0 M F hr hg hm hb .nil passL hdb) fun σ H Q q => by
    have q := make_to q
    obtain ⟨g, env, h, hr, er, w⟩ := q
    exact w [] H g (Le.refl _) hr .nil
/-- how it is reckoned -/
@[simp] theorem e_fld {cs : List Nat} {f : Str} : mFld cs f mo env h = (mo env h).bind fun x h1 => match insU h1 x with
  | some (C, fs) => if C ∈ cs then oR (fs.lookup f) h1 else .bad
  | none => .bad := rfl
@[simp] theorem e_insU {n : Nat} : insU h (.ref n) = match h[n]? with | some (.ins C fs) => some (C, fs) | _ => none := rfl
@[simp] theorem e_meth {C : Nat} {m : Str} {k : Nat} : mMeth C m k sem mo am env h = (mo env h).bind fun x h1 => match insU h1 x with
  | some (C', fs) => if C' = C ∧ fs.lookup m = none then (am env h1).bind fun us h2 => if us.length + 1 = k then sem (x :: us) h2 else .bad else .bad
  | none => .bad := rfl
@[simp] theorem e_make {C k : Nat} : mMake C k sem am env h = (am env h).bind fun us h1 => if us.length + 1 = k then (match sem (.ref h1.length :: us) (h1 ++ [.ins C []]) with
  | .ok .non h2 => .ok (.ref h1.length) h2
  | _ => .bad) else .bad := rfl
@[simp] theorem e_setf {cs : List Nat} {f : Str} : mSetF cs f mo me env h = (me env h).st env fun z h1 => (mo env h1).st env fun x h2 => match x, insU h2 x with
  | .ref n, some (C, fs) => if C ∈ cs ∧ fs.length < 1000 then .nx env (h2.set n (.ins C (putU f z fs))) else .bad
  | _, _ => .bad := rfl
@[simp] theorem e_augf {cs : List Nat} {op : U → U → Sto → R U} {f : Str} : mAugF cs op f mo me env h = (mo env h).st env fun x h1 => match x, insU h1 x with
  | .ref n, some (C, fs) => if C ∈ cs then (match fs.lookup f with
    | some u => (me env h1).st env fun y h2 => (op u y h2).st env fun z h3 => (match insU h3 (.ref n) with
      | some (C', fs') => if C' = C ∧ fs'.length < 1000 then .nx env (h3.set n (.ins C (putU f z fs'))) else .bad
      | none => .bad)
    | none => .bad) else .bad
  | _, _ => .bad := rfl
end
end Q

set_option Elab.async false
set_option linter.all false
set_option maxRecDepth 100000
set_option maxHeartbeats 1000000
/-! QX: raise of an own exception class, try .. except, the top's numbers. -/
namespace Q
open PySem PySem.Spec PyProof.Rows L2 TL
section
variable {K : Fr} {g g' : G} {E : XK} {W : WX} {X : Cx} {H : Hp} {h : Sto} {σ : L2.St} {env : Env'} {a b c e o tg : Expr} {ma mb mc me mo : EM} {ta tb : TM} {pos : Pos} {m m1 m2 ms : SM}
/-- an exception class of the text without own __init__ -/
structure XC (K : Fr) (mg : Str → Option Value) (x : Str) (C : Addr) : Prop where
  ex : PySem.W.excIn K C [.type "ValueError", .type "Exception", .type "BaseException", .type "object"] "ValueError.__new__" = true
  g : mg x = some (.ref C)
  k : PySem.W.keepIn K (.ref C) = true
  b : PySem.W.subIn K (.ref C) (.type "BaseException") = some true
  t : PySem.W.typeIn K (.ref C) = some (.type "type")
def mRaise (C : Nat) : SM := fun env h => .ex C none env h
theorem ss_raise {x s : Str} {C : Addr} {j : Nat} {p p2 pos2 : Pos} (hc : X.calm = true) (tk : Takes X W) (T : XC X.K X.mg x C) (hg : Gl X x) (hdb : (x == ("__debug__" : Str)) = false := by decide) :
    PS X (.Raise (some (.Call (.Name x p) [.Constant (.str s) j p2] [] pos)) none pos2) (sM X.K W (mRaise C)) :=
  PS.weak (ps_raise hc tk (pmk_own PySem.F.excBase_ValueError T.ex T.g T.k (raises_own T.b T.t) hg hdb)) fun D σ H ⟨g, env, h, hr, er, w⟩ => w σ H g none (Le.refl _) hr er rfl
/-- nothing may be raised in a suite -/
def RS.no (r : RS) : RS := match r with
  | .ex _ _ _ _ => .bad
  | r => r
/-- try: mb except X: ms; ys: the classes that the clause takes; no others may come -/
def mTry (ys : List Nat) (mb ms : SM) : SM := fun env h => match mb env h with
  | .ex C n env1 h1 => if C ∈ ys then (ms env1 h1).no else .bad
  | r => r
theorem WS.no {r : RS} {D : Ends} {W' : WX} (w : WS K W g r.no D) : WS K W' g r D := by
  cases r with
  | ex C n e h => exact w.elim
  | _ => exact w
theorem ss_try {x : Str} {C : Addr} {ys : List Nat} {body suite : List Stmt} {b₀ : Stmt} {np pos' : Pos} (hs : X.stack = X.env :: X.outer) (hf : X.env.frame = some X.env.locals) (hg : Gl X x) (hm : X.mg x = some (.ref C)) (tk : Takes X W) (hy : ∀ D ∈ ys, PySem.W.exmOne X.K (.ref D) (.ref C) = some true)
    (hb : ∀ (W' : WX) (pn : List (Addr × Obj)) (xe : Value → Shared → Prop), Takes (X.tr pn xe) W' → PassesOwn (model X.prog X.w) X.A X.env xe → PSs (X.tr pn xe) body (sM X.K W' m1))
    (hsu : ∀ (a : Addr) (oe : Obj) (cls : Value) (d : Option Addr) (pn : List (Addr × Obj)), Zc cls d oe → (∃ vs, oe.data = .fields vs) → PSs (X.suite a ((a, oe) :: pn)) (b₀ :: suite) (sM X.K W0 m2)) (hdb : (x == ("__debug__" : Str)) = false := by decide) :
    PS X (.Try body [.ExceptHandler (some (.Name x np)) none (b₀ :: suite) pos'] [] [] pos) (sM X.K W (mTry ys m1 m2)) :=
  PS.weak (ps_try_only (tb := fun W' => sM X.K W' m1) (ts := fun _ _ _ => sM X.K W0 m2) hs hf ⟨hg, hdb, .inl hm⟩ tk hb hsu) fun D σ H ⟨g, env, h, hr, er, w⟩ => ⟨g, env, h, hr, er, by
    unfold mTry at w
    cases e : m1 env h with
    | ex C' n e1 h1 =>
      rw [e] at w
      intro σ1 H1 g1 d l1 hr1 er1 hd
      simp only at w
      split at w
      · rename_i hc
        exact ⟨true, hy C' hc, fun _ a ha => ⟨g1, e1, h1, hr1, er1, WS.mono l1 (WS.no w)⟩, fun z => nomatch z⟩
      · exact w.elim
    | nx e1 h1 => rw [e] at w; exact w
    | rt u h1 => rw [e] at w; exact w
    | bk e1 h1 => rw [e] at w; exact w
    | ct e1 h1 => rw [e] at w; exact w
    | bad => rw [e] at w; exact w⟩
@[simp] theorem e_raise {C : Nat} : mRaise C env h = .ex C none env h := rfl
theorem e_try_nx {ys : List Nat} {e1 : Env'} {h1 : Sto} (q : m1 env h = .nx e1 h1) : mTry ys m1 m2 env h = .nx e1 h1 := by unfold mTry; rw [q]
theorem e_try_rt {ys : List Nat} {u : U} {h1 : Sto} (q : m1 env h = .rt u h1) : mTry ys m1 m2 env h = .rt u h1 := by unfold mTry; rw [q]
theorem e_try_ex {ys : List Nat} {C : Nat} {n : Option Nat} {e1 : Env'} {h1 : Sto} (q : m1 env h = .ex C n e1 h1) (hc : C ∈ ys) : mTry ys m1 m2 env h = (m2 e1 h1).no := by unfold mTry; rw [q]; simp only; rw [if_pos hc]
@[simp] theorem e_no_nx {e1 : Env'} : (RS.nx e1 h).no = .nx e1 h := rfl
@[simp] theorem e_no_rt {u : U} : (RS.rt u h).no = .rt u h := rfl
@[simp] theorem e_no_bk {e1 : Env'} : (RS.bk e1 h).no = .bk e1 h := rfl
@[simp] theorem e_no_ct {e1 : Env'} : (RS.ct e1 h).no = .ct e1 h := rfl
/-- a number of the top -/
theorem se_gint {x : Str} {i : Int} (hg : Gl X x) (hm : ∃ t, X.mg x = some (.int i t)) (hdb : (x == ("__debug__" : Str)) = false := by decide) : PE X (.Name x pos) (tM X.K W (mC (.int i))) := by
  obtain ⟨t, hm⟩ := hm
  exact PE.weak (pe_glob (v := .int i) hg hm ⟨_, rfl⟩ hdb) fun σ H Q ⟨g, env, h, hr, er, w⟩ => w _ H g (Le.refl g) hr (.int i)
end
end Q


set_option Elab.async false
set_option linter.all false
set_option maxRecDepth 100000
set_option maxHeartbeats 1000000
/-! QD: dicts, their keys numbers and texts. -/
namespace Q
open PySem PySem.Spec PyProof.Rows L2 TL
def keyU : U → Option DK
  | .int i => some (.inl i)
  | .str s => some (.inr s)
  | _ => none
def valD : List (DK × U) → DK → Option U
  | [], _ => none
  | (j, x) :: r, k => if j = k then some x else valD r k
def repD : List (DK × U) → DK → U → List (DK × U)
  | [], _, _ => []
  | (j, x) :: r, k, v => (if j = k then (j, v) else (j, x)) :: repD r k v
def putD (kvs : List (DK × U)) (k : DK) (v : U) : List (DK × U) := if (valD kvs k).isSome = true then repD kvs k v else kvs ++ [(k, v)]
def aDK (h : Sto) : U → Option (List (DK × U))
  | .ref n => (match h[n]? with
    | some (.dK us) => some us
    | some (.dKl us) => some us
    | _ => none)
  | _ => none
section
variable {K : Fr} {g g' : G} {E : XK} {W : WX} {X : Cx} {H : Hp} {h : Sto} {σ : L2.St} {env : Env'} {a b c e o tg : Expr} {ma mb mc me mo : EM} {ta tb : TM} {pos : Pos} {m m1 m2 ms : SM} {vs : List (Key × V)} {us : List (DK × U)} {u x y : U} {v w : V} {k : DK}
theorem kk_inj : ∀ {j k : DK}, kk j = kk k → j = k
  | .inl i, .inl j, e => by simp only [kk] at e; cases e; rfl
  | .inr s, .inr t, e => by
    simp only [kk] at e
    injection e with e
    injection e with e
    rw [show s = t by simpa using congrArg Array.toList e]
  | .inl _, .inr _, e => by simp only [kk] at e; cases e
  | .inr _, .inl _, e => by simp only [kk] at e; cases e
theorem key_rep (r : Rep K g w y) (e : keyU y = some k) : w = kV (kk k) := by
  cases r <;> simp only [keyU] at e <;> cases e <;> rfl
def RelO' (K : Fr) (g : G) : Option V → Option U → Prop
  | none, none => True
  | some v, some u => Rep K g v u
  | _, _ => False
theorem RepK.val (k : DK) : ∀ {vs us}, RepK K g vs us → RelO' K g (valV vs (kk k)) (valD us k)
  | _, _, .nil => True.intro
  | _, _, .cons (k := j) (v := v) (u := u) (vs := vs) (us := us) h r => by
    unfold valD
    by_cases e : j = k
    · rw [if_pos e, valV_pos (p := (kk j, v)) (by rw [e])]; exact h
    · rw [if_neg e, valV_neg (p := (kk j, v)) (fun z => e (kk_inj z))]; exact RepK.val k r
theorem RepK.len : ∀ {vs us}, RepK K g vs us → vs.length = us.length
  | _, _, .nil => rfl
  | _, _, .cons h r => by simp [RepK.len r]
theorem RepK.rep (k : DK) (rv : Rep K g v u) : ∀ {vs us}, RepK K g vs us → RepK K g (vs.map fun kv => if kv.1 = kk k then (kv.1, v) else kv) (repD us k u)
  | _, _, .nil => .nil
  | _, _, .cons (k := j) h r => by
    unfold repD
    rw [List.map_cons]
    by_cases e : j = k
    · rw [if_pos e, if_pos (by rw [e])]; exact .cons rv (RepK.rep k rv r)
    · rw [if_neg e, if_neg (fun z => e (kk_inj z))]; exact .cons h (RepK.rep k rv r)
theorem RepK.app : ∀ {vs us ws ts}, RepK K g vs us → RepK K g ws ts → RepK K g (vs ++ ws) (us ++ ts)
  | _, _, _, _, .nil, s => s
  | _, _, _, _, .cons h r, s => .cons h (RepK.app r s)
theorem relO_some {o : Option V} {o' : Option U} (r : RelO' K g o o') : o.isSome = o'.isSome := by
  cases o <;> cases o' <;> first | rfl | exact r.elim
theorem RepK.put (r : RepK K g vs us) (rv : Rep K g v u) (k : DK) : RepK K g (putK vs (kk k) v) (putD us k u) := by
  unfold putK putD
  rw [valV_any, relO_some (r.val k)]
  split
  · exact r.rep k rv
  · exact r.app (.cons rv .nil)
theorem aDK_of (hr : HR K g H h) (r : Rep K g v x) (e : aDK h x = some us) : ∃ a n vs, v = .ref a ∧ x = .ref n ∧ g.al[n]? = some a ∧ Rd H a (.dK vs) ∧ RepK K g vs us := by
  cases r with
  | ref q =>
    rename_i a n
    simp only [aDK] at e
    split at e
    · rename_i us' e1
      cases e
      obtain ⟨vs, h1, h2⟩ := hr.ob n a _ q e1
      exact ⟨a, n, vs, rfl, rfl, q, .inl h1, h2⟩
    · rename_i us' e1
      cases e
      obtain ⟨od, vs, _, h1, h2⟩ := hr.ob n a _ q e1
      exact ⟨a, n, vs, rfl, rfl, q, .inr ⟨od, h1⟩, h2⟩
    · cases e
  | _ => cases e
/-- {} -/
def mDNew : EM := fun _ h => .ok (.ref h.length) (h ++ [.dK []])
theorem se_dnew : PE X (.Dict [] [] pos) (tM K W mDNew) :=
  PE.weak pe_dnewK fun σ H Q ⟨g, env, h, hr, er, w⟩ p q => w _ _ _ Le.new (hr.new q ⟨[], upd_same, .nil⟩) hr.newRef
def uDGet (x y : U) (h : Sto) : R U := match aDK h x, keyU y with
  | some us, some k => oR (valD us k) h
  | _, _ => .bad
theorem ok_dget : BinOK K (fun x y H Q => ∃ a v, x = .ref a ∧ DGet H a y (some v) ∧ Q v H) uDGet := by
  intro E g H h v w x y Q hr rx ry t
  unfold uDGet at t
  split at t
  · rename_i us k e1 e2
    obtain ⟨a, n, vs, rfl, rfl, ha, h1, r1⟩ := aDK_of hr rx e1
    have q := r1.val k
    cases e3 : valD us k with
    | none => rw [e3] at t; exact t.elim
    | some u =>
      rw [e3] at t q
      cases e4 : valV vs (kk k) with
      | none => rw [e4] at q; exact q.elim
      | some z =>
        rw [e4] at q
        refine ⟨a, z, rfl, ?_, t _ _ g (Le.refl _) hr q⟩
        rw [key_rep ry e2, ← e4]
        exact .inl ⟨vs, _, h1, rfl, rfl⟩
  · exact t.elim
theorem se_dget (hu : X.A.units + 1 < cLine) (ha : PE X a (tM X.K W ma)) (hb : PE X b (tM X.K W mb)) (hs : NoSl b := by exact fun _ _ => rfl) : PE X (.Subscript a b pos) (tM X.K W (mBin uDGet ma mb)) :=
  PE.weak (pe_dget hu ha hb hs) fun σ H Q t => bin_to (r := fun x y H Q => ∃ a v, x = .ref a ∧ DGet H a y (some v) ∧ Q v H) ok_dget t
def cDIn (h : Sto) (y x : U) : Option Bool := match aDK h x, keyU y with
  | some us, some k => some (valD us k).isSome
  | _, _ => none
def cDNin (h : Sto) (y x : U) : Option Bool := match aDK h x, keyU y with
  | some us, some k => some (!(valD us k).isSome)
  | _, _ => none
theorem ok_din : CmpOK K (fun y x H Q => ∃ a o, x = .ref a ∧ DGet H a y o ∧ Q (.bl o.isSome) H) cDIn := fun g H h v w x y b Q hr rx ry e q => by
  unfold cDIn at e
  split at e
  · rename_i us k e1 e2
    cases e
    obtain ⟨a, n, vs, rfl, rfl, ha, h1, r1⟩ := aDK_of hr ry e1
    refine ⟨a, _, rfl, ?_, by rw [← relO_some (r1.val k)] at q; exact q⟩
    rw [key_rep rx e2]
    exact .inl ⟨vs, _, h1, rfl, rfl⟩
  · cases e
theorem ok_dnin : CmpOK K (fun y x H Q => ∃ a o, x = .ref a ∧ DGet H a y o ∧ Q (.bl (!o.isSome)) H) cDNin := fun g H h v w x y b Q hr rx ry e q => by
  unfold cDNin at e
  split at e
  · rename_i us k e1 e2
    cases e
    obtain ⟨a, n, vs, rfl, rfl, ha, h1, r1⟩ := aDK_of hr ry e1
    refine ⟨a, _, rfl, ?_, by rw [← relO_some (r1.val k)] at q; exact q⟩
    rw [key_rep rx e2]
    exact .inl ⟨vs, _, h1, rfl, rfl⟩
  · cases e
theorem bt_din (hu : X.A.units + 1 < cLine) (ha : PE X a (tM K W ma)) (hb : PE X b (tM K W mb)) (h1 : behindInMarks .In b = false := by first | exact nobehind _ (by decide) (by decide) | rfl) : PT X (.Compare a [.In] [b] pos) (bM K W (bCmp cDIn ma mb)) :=
  PT.weak (pt_cmp (pc_din hu ha hb) h1) fun σ H Q t => show tOp (fun y x H Q => ∃ a o, x = .ref a ∧ DGet H a y o ∧ Q (.bl o.isSome) H) (tM K W ma) (tM K W mb) σ H (fun v H => ∃ c, v = .bl c ∧ Q c H) from cmp_to ok_din t fun b H q => ⟨b, rfl, q⟩
theorem bt_dnin (hu : X.A.units + 1 < cLine) (ha : PE X a (tM K W ma)) (hb : PE X b (tM K W mb)) (h1 : behindInMarks .NotIn b = false := by first | exact nobehind _ (by decide) (by decide) | rfl) : PT X (.Compare a [.NotIn] [b] pos) (bM K W (bCmp cDNin ma mb)) :=
  PT.weak (pt_cmp (pc_dnotin hu ha hb) h1) fun σ H Q t => show tOp (fun y x H Q => ∃ a o, x = .ref a ∧ DGet H a y o ∧ Q (.bl (!o.isSome)) H) (tM K W ma) (tM K W mb) σ H (fun v H => ∃ c, v = .bl c ∧ Q c H) from cmp_to ok_dnin t fun b H q => ⟨b, rfl, q⟩
theorem se_din (hu : X.A.units + 1 < cLine) (ha : PE X a (tM K W ma)) (hb : PE X b (tM K W mb)) (h1 : behindInMarks .In b = false := by first | exact nobehind _ (by decide) (by decide) | rfl) : PE X (.Compare a [.In] [b] pos) (tM K W (mB (bCmp cDIn ma mb))) :=
  PE.weak (pe_cmp (pc_din hu ha hb) h1) fun σ H Q t => cmp_to (r := fun y x H Q => ∃ a o, x = .ref a ∧ DGet H a y o ∧ Q (.bl o.isSome) H) ok_din (mB_to t) fun b H q => q
theorem se_dnin (hu : X.A.units + 1 < cLine) (ha : PE X a (tM K W ma)) (hb : PE X b (tM K W mb)) (h1 : behindInMarks .NotIn b = false := by first | exact nobehind _ (by decide) (by decide) | rfl) : PE X (.Compare a [.NotIn] [b] pos) (tM K W (mB (bCmp cDNin ma mb))) :=
  PE.weak (pe_cmp (pc_dnotin hu ha hb) h1) fun σ H Q t => cmp_to (r := fun y x H Q => ∃ a o, x = .ref a ∧ DGet H a y o ∧ Q (.bl (!o.isSome)) H) ok_dnin (mB_to t) fun b H q => q
/-- o[i] = e of a dict -/
def uDSet (x y z : U) (h : Sto) : Option Sto := match x with
  | .ref n => (match h[n]?, keyU y with
    | some (.dK us), some k => if us.length < 16000000 then some (h.set n (.dK (putD us k z))) else none
    | _, _ => none)
  | _ => none
def rDSet : TSet := fun o i v H Q => ∃ a H4, o = .ref a ∧ DPut H a i v H4 ∧ Q H4
theorem ok_dset : SetOK K rDSet uDSet := fun g H h vx vy vz x y z h' Q hr rx ry rz e k => by
  unfold uDSet at e
  split at e
  · split at e
    · rename_i us kx e1 e2
      split at e
      · rename_i z1
        cases e
        cases rx with
        | ref ha =>
        rename_i a
        obtain ⟨vs, h1, r1⟩ := hr.ob _ a _ ha e1
        refine ⟨a, _, rfl, ?_, k _ (hr.set ha (fun _ _ z => by rw [h1] at z; cases z) ⟨_, upd_same, r1.put rz kx⟩)⟩
        rw [key_rep ry e2]
        exact DPut.k h1 (by rw [r1.len]; exact sz16l z1)
      · cases e
    · cases e
  · cases e
theorem ss_dset {i : Expr} {ix : EM} {tpos : Pos} (hu : X.A.units + 1 < cLine) (he : PE X e (tM K W me)) (ho : PE X o (tM K W mo)) (hi : PE X i (tM K W ix)) (hs : swapsWith e (some (.Subscript o i tpos)) pos.line X.env = pure false := by rfl) :
    PS X (.Assign [.Subscript o i tpos] e pos) (sM K W (mSetI uDSet mo ix me)) :=
  PS.weak (ps_dput hu ho hi he hs) fun D σ H q => seti_to (r := rDSet) ok_dset q
/-- len of a dict -/
def uDLen (us : List U) (h : Sto) : R U := match us with
  | [x] => (match aDK h x with
    | some us => .ok (.int us.length) h
    | none => .bad)
  | _ => .bad
theorem call_dlen : CallR X (.builtin "len") (fun xs H Q => ∃ a kvs, xs = [V.ref a] ∧ Rd H a (.dK kvs) ∧ Q (.int kvs.length) H) := by
  intro pins s σ H xs us Q I r h
  obtain ⟨a, kvs, rfl, ha, q⟩ := h
  obtain ⟨u, rfl, ru⟩ := vals1 r
  cases ru
  exact d_len I ha fun t s' I' => ⟨.int kvs.length, H, I', ⟨t, rfl⟩, q⟩
theorem ok_dlen : CallOK K (fun xs H Q => ∃ a kvs, xs = [V.ref a] ∧ Rd H a (.dK kvs) ∧ Q (.int kvs.length) H) uDLen := by
  intro E g H h vs us Q hr rvs t
  unfold uDLen at t
  split at t
  · rename_i x
    split at t
    · rename_i us e1
      cases rvs with
      | cons r1 r2 =>
        cases r2
        obtain ⟨a, n, vs, rfl, rfl, ha, h1, r1⟩ := aDK_of hr r1 e1
        exact ⟨a, vs, rfl, h1, by rw [r1.len]; exact t _ _ g (Le.refl _) hr (.int _)⟩
    · exact t.elim
  · exact t.elim
/-- dict(d): a copy -/
def uDCopy (us : List U) (h : Sto) : R U := match us with
  | [x] => (match aDK h x with
    | some us => .ok (.ref h.length) (h ++ [.dK us])
    | none => .bad)
  | _ => .bad
theorem call_dcopy : CallR X (.type "dict") (fun xs H Q => ∃ a kvs, xs = [V.ref a] ∧ Rd H a (.dK kvs) ∧ ∀ p, H p = none → Q (.ref p) (upd H p (.dK kvs))) := by
  intro pins s σ H xs us Q I r h
  obtain ⟨a, kvs, rfl, ha, q⟩ := h
  obtain ⟨u, rfl, ru⟩ := vals1 r
  cases ru
  exact d_copyOf I ha fun p s' hp I' => ⟨.ref p, _, I', rfl, q p hp⟩
theorem ok_dcopy : CallOK K (fun xs H Q => ∃ a kvs, xs = [V.ref a] ∧ Rd H a (.dK kvs) ∧ ∀ p, H p = none → Q (.ref p) (upd H p (.dK kvs))) uDCopy := by
  intro E g H h vs us Q hr rvs t
  unfold uDCopy at t
  split at t
  · rename_i x
    split at t
    · rename_i us e1
      cases rvs with
      | cons r1 r2 =>
        cases r2
        obtain ⟨a, n, vs, rfl, rfl, ha, h1, r1⟩ := aDK_of hr r1 e1
        exact ⟨a, vs, rfl, h1, fun p hp => t _ _ _ Le.new (hr.new hp ⟨vs, upd_same, r1.mono Le.new⟩) hr.newRef⟩
    · exact t.elim
  · exact t.elim
/-! ### displays -/
def pairsD : List U → Option (List (DK × U))
  | [] => some []
  | k :: v :: r => (match keyU k, pairsD r with
    | some k, some kvs => some ((k, v) :: kvs)
    | _, _ => none)
  | _ => none
def mergeD (kvs more : List (DK × U)) : List (DK × U) := more.foldl (fun acc kv => putD acc kv.1 kv.2) kvs
def flat2 (ps : List (V × V)) : List V := ps.flatMap fun p => [p.1, p.2]
theorem flat2_inj : ∀ {ps qs : List (V × V)}, flat2 ps = flat2 qs → ps = qs
  | [], [], _ => rfl
  | [], _ :: _, e => by simp [flat2] at e
  | _ :: _, [], e => by simp [flat2] at e
  | p :: ps, q :: qs, e => by
    simp only [flat2, List.flatMap_cons, List.cons_append, List.nil_append] at e
    injection e with e1 e2
    injection e2 with e2 e3
    rw [flat2_inj (ps := ps) (qs := qs) e3, show p = q from Prod.ext e1 e2]
theorem pairsD_of : ∀ {us : List U} {vs : List V} {kvs : List (DK × U)}, Reps K g vs us → pairsD us = some kvs → ∃ ws : List (Key × V), vs = flat2 (ws.map fun kv => (kV kv.1, kv.2)) ∧ RepK K g ws kvs ∧ ws.length = kvs.length
  | [], _, _, .nil, e => by cases e; exact ⟨[], rfl, .nil, rfl⟩
  | [_], _, _, _, e => by cases e
  | k :: v :: r, _, _, .cons rk (.cons rv rr), e => by
    simp only [pairsD] at e
    split at e
    · rename_i k2 kvs e1 e2
      cases e
      obtain ⟨ws, a, b, c⟩ := pairsD_of rr e2
      rw [key_rep rk e1, a]
      exact ⟨(kk k2, _) :: ws, rfl, .cons rv b, by simp [c]⟩
    · cases e
theorem RepK.merge : ∀ {more : List (DK × U)} {ms : List (Key × V)} {kvs vs}, RepK K g ms more → RepK K g vs kvs → RepK K g (mergeK vs ms) (mergeD kvs more)
  | _, _, _, _, .nil, r => r
  | _, _, kvs, vs, .cons (k := k) (v := v) (u := u) (vs := ms) (us := more) h t, r => show RepK K g (mergeK (putK vs (kk k) v) ms) (mergeD (putD kvs k u) more) from RepK.merge t (r.put h k)
structure Prs (X : Cx) (K : Fr) (W : WX) (pos : Pos) (ks : List (Option Expr)) (vs : List Expr) (am : AM) : Prop where
  go : ∃ trs, PPs X pos ks vs trs ∧ ∀ σ H (Q : List V → Hp → Prop) (P : List (V × V) → Hp → Prop), aM K W am σ H Q → (∀ ps H', Q (flat2 ps) H' → P ps H') → tPairs trs σ H P
theorem prs_nil : Prs X K W pos [] [] aNil := ⟨[], pps_nil, fun σ H Q P ⟨g, env, h, hr, er, w⟩ k => k _ _ (w [] H g (Le.refl _) hr .nil)⟩
theorem prs_cons {k v : Expr} {mk mv : EM} {ks : List (Option Expr)} {vs : List Expr} {am : AM} (hk : PE X k (tM K W mk)) (hv : PE X v (tM K W mv)) (hr : Prs X K W pos ks vs am) : Prs X K W pos (some k :: ks) (v :: vs) (aCons mk (aCons mv am)) := by
  obtain ⟨trs, p, t⟩ := hr
  refine ⟨(tM K W mk, tM K W mv) :: trs, pps_cons hk hv p, fun σ H Q P ⟨g, env, h, hr, er, w⟩ kQ => ⟨g, env, h, hr, er, wEA w fun u h1 v H1 g1 l1 hr1 rv w1 => ?_⟩⟩
  have w1' : WA K (atSl W σ) g1 ((mv env h1).bind fun x h2 => ((am env h2).bind fun xs h3 => R.ok (u :: x :: xs) h3)) Q := by
    have e : ((aCons mv am env h1).bind fun xs h2 => R.ok (u :: xs) h2) = ((mv env h1).bind fun x h2 => ((am env h2).bind fun xs h3 => R.ok (u :: x :: xs) h3)) := by
      unfold aCons
      cases mv env h1 with
      | ok x h2 => show (R.bind (R.bind (am env h2) _) _) = R.bind (am env h2) _; cases am env h2 <;> rfl
      | _ => rfl
    rw [← e]; exact w1
  refine ⟨g1, env, h1, hr1, er.mono l1, wEA w1' fun x h2 y H2 g2 l2 hr2 ry w2 => ?_⟩
  refine t σ H2 (fun vs H3 => Q (v :: y :: vs) H3) _ ⟨g2, env, h2, hr2, er.mono (l1.trans l2), wAA w2 fun us h3 vs H3 g3 l3 hr3 rvs w3 => ?_⟩ fun ps H' z => kQ _ _ z
  exact w3 _ H3 g3 (Le.refl _) hr3 (.cons (rv.mono (l2.trans l3)) (.cons (ry.mono l3) rvs))
def mDisp (am : AM) : EM := fun env h => (am env (h ++ [.dK []])).bind fun us h1 => match pairsD us, h1[h.length]? with
  | some kvs, some (.dK []) => if kvs.length ≤ 15 then .ok (.ref h.length) (h1.set h.length (.dK (mergeD [] kvs))) else .bad
  | _, _ => .bad
theorem se_disp {ks : List (Option Expr)} {vs : List Expr} {am : AM} (hp : Prs X K W pos ks vs am) (hall : ks.all (·.isSome) = true := by rfl) (hl : ks.length = vs.length := by rfl) (h0 : ks ≠ [] := by exact nofun) (h15 : ks.length ≤ 15 := by decide) :
    PE X (.Dict ks vs pos) (tM K W (mDisp am)) := by
  obtain ⟨trs, hp, t⟩ := hp
  refine PE.weak (pe_disp hp hall hl h0 h15) fun σ H Q ⟨g, env, h, hr, er, w⟩ p hp => ?_
  have hr0 : HR K (g.new p) (upd H p (.dK [])) (h ++ [.dK []]) := hr.new hp ⟨[], upd_same, .nil⟩
  refine t σ (upd H p (.dK [])) (fun vs H2 => H2 p = some (.dK []) ∧ ∃ kvs : List (Key × V), vs = flat2 (kvs.map fun kv => (kV kv.1, kv.2)) ∧ kvs.length ≤ 15 ∧ Q (.ref p) (upd H2 p (.dK (mergeK [] kvs)))) _
    ⟨g.new p, env, _, hr0, er.mono Le.new, wA (WE.mono Le.new w) fun us h1 vs H2 g2 l2 hr2 rvs w2 => ?_⟩ fun ps H2 ⟨a, kvs, b, c, d⟩ => ⟨a, kvs, flat2_inj b, c, d⟩
  · cases e1 : pairsD us with
    | none => rw [e1] at w2; exact w2.elim
    | some kvs =>
      rw [e1] at w2
      split at w2
      · rename_i e2 e3
        cases e2
        split at w2
        · rename_i z
          have rr : Rep K g2 (.ref p) (.ref h.length) := hr.newRef.mono l2
          cases rr with
          | ref q =>
            obtain ⟨v0, a1, a2⟩ := hr2.ob _ p _ q e3
            cases a2
            obtain ⟨ws, b1, b2, b3⟩ := pairsD_of rvs e1
            exact ⟨a1, ws, b1, by rw [b3]; exact z, w2 _ _ g2 (Le.refl _) (hr2.set q (fun _ _ z => by rw [a1] at z; cases z) ⟨_, upd_same, RepK.merge b2 .nil⟩) (.ref q)⟩
        · exact w2.elim
      · exact w2.elim
/-! ### a walk over a dict: it is locked for good -/
def lockU (x : U) (h1 : Sto) : R U := match x with
  | .ref n => (match h1[n]? with
    | some (.dK us) => .ok (.ref n) (h1.set n (.dKl us))
    | some (.dKl us) => .ok (.ref n) h1
    | _ => .bad)
  | _ => .bad
def mLock (m : EM) : EM := fun env h => (m env h).bind lockU
theorem se_lock {e : Expr} {m : EM} (he : PE X e (tM K W m)) : PE X e (tM K W (mLock m)) := by
  refine ⟨fun pins s σ H Q I ⟨g, env, h, hr, er, w⟩ => ?_⟩
  have := he.run pins s σ H (fun v H1 => ∃ g1 h1 x, HR K g1 H1 h1 ∧ Rep K g1 v x ∧ WE K (atSl W σ) g1 (lockU x h1) Q) I
    ⟨g, env, h, hr, er, wE w fun u h1 v H1 g1 l1 hr1 rv w1 => ⟨g1, h1, u, hr1, rv, w1⟩⟩
  refine thn this fun v s1 ⟨x, H1, I1, rx, g1, h1, u, hr1, rv, w1⟩ => ?_
  unfold lockU at w1
  split at w1
  · rename_i n
    split at w1
    · rename_i us e1
      cases rv with
      | ref q =>
        rename_i a
        obtain ⟨vs, b1, b2⟩ := hr1.ob _ a _ q e1
        obtain ⟨od, I2⟩ := I1.lock b1 True.intro
        obtain ⟨l, hr2⟩ := hr1.lock q b1 b2 od
        exact ⟨.ref a, _, I2, rx, w1 _ _ _ l hr2 (.ref q)⟩
    · rename_i us e1
      exact ⟨_, _, I1, rx, w1 _ _ _ (Le.refl _) hr1 rv⟩
    · exact w1.elim
  · exact w1.elim
def dkU : DK → U
  | .inl i => .int i
  | .inr s => .str s
theorem rep_key (k : DK) : Rep K g (kV (kk k)) (dkU k) := by
  cases k with
  | inl i => exact .int i
  | inr s => exact .str s
theorem RepK.get : ∀ {vs us} {i : Nat} {k : Key} {v : V}, RepK K g vs us → vs[i]? = some (k, v) → ∃ j u, us[i]? = some (j, u) ∧ k = kk j
  | _, _, _, _, _, .nil, h => by simp at h
  | _, _, 0, _, _, .cons h r, e => by simp at e; exact ⟨_, _, rfl, e.1.symm⟩
  | _, _, i + 1, _, _, .cons h r, e => by simpa using RepK.get (i := i) r (by simpa using e)
theorem it_keys {a : Addr} {od : Obj} {vs : List (Key × V)} {us : List (DK × U)} (q : g.F a = some (.frz od (.dK vs))) (r : RepK K g vs us) : ItOk K g (Itk a od vs) [] (us.map fun p => dkU p.1) where
  go := fun g' H h i l hr _ hi => ⟨hr.ex _ _ (l.F _ _ q), by rw [r.len]; simpa using hi⟩
  stop := fun g' H h l hr _ => ⟨hr.ex _ _ (l.F _ _ q), by rw [r.len]; simp⟩
  yl := fun g' H h i x H' l hr _ hi y => by
    obtain ⟨rfl, k, v, y, rfl⟩ := y
    obtain ⟨j, u, hu, rfl⟩ := r.get y
    exact ⟨g', dkU j, Le.refl _, hr, by simp [hu], rep_key j⟩
def itKeys (a : EM) : IM' := fun env h => (mLock a env h).bind fun x h1 => match aDK h1 x with
  | some us => .ok ([], us.map fun p => dkU p.1) h1
  | none => .bad
theorem mLock_is {m : EM} {env : Env'} {h h1 : Sto} {x : U} (e : mLock m env h = .ok x h1) : ∃ n us, x = .ref n ∧ h1[n]? = some (.dKl us) := by
  unfold mLock at e
  cases q : m env h with
  | ok y h2 =>
    rw [q] at e
    have e : lockU y h2 = R.ok x h1 := e
    unfold lockU at e
    split at e
    · split at e
      · rename_i n _ us e2; cases e; exact ⟨_, us, rfl, by rw [List.getElem?_set_self (List.getElem?_eq_some_iff.mp e2).1]⟩
      · rename_i n _ us e2; cases e; exact ⟨_, us, rfl, e2⟩
      · cases e
    · cases e
  | bad => rw [q] at e; cases e
  | exc C n h => rw [q] at e; cases e
theorem si_keys (he : PE X e (tM X.K W me)) : PI X tg e (iM X.K W (itKeys me)) :=
  PI.weak (pi_keys (se_lock he)) fun σ H P ⟨g, env, h, hr, er, w⟩ => ⟨g, env, h, hr, er, by
    unfold itKeys at w
    cases q : mLock me env h with
    | bad => rw [q] at w; exact w.elim
    | exc C n h => rw [q] at w; exact w
    | ok x h1 =>
      rw [q] at w
      obtain ⟨n, us, rfl, e1⟩ := mLock_is q
      intro v H1 g1 l1 hr1 rv
      cases rv with
      | ref qa =>
        rename_i a
        obtain ⟨od, vs, f, b, r⟩ := hr1.ob _ a _ qa e1
        have w : WI X.K (atSl W σ) g (match aDK h1 (.ref n) with | some us => R.ok ([], us.map fun p => dkU p.1) h1 | none => .bad) P := w
        rw [show aDK h1 (.ref n) = some us by simp only [aDK, e1]] at w
        exact ⟨a, od, rfl, .inl ⟨vs, b, w _ _ g1 l1 hr1 (it_keys f r)⟩⟩⟩
theorem hu1 {A : Around} {k : Nat} (hr : Room k A) : A.units + 1 < cLine := by have := hu64 hr; omega
end
section
variable {X : Cx} {W : WX} {e : Expr} {es : List Expr} {am : AM} {pos p : Pos} {n : Str}
variable (hg : Gl X n) (hm : X.mg n = none) (ha : PA X (e :: es) (aM X.K W am)) (hn : n ≠ "__name__" := by decide) (hdb : (n == ("__debug__" : Str)) = false := by decide)
    (he : starEach (e :: es) X.env = (false, eval e X.env) :: starEach es X.env := by rfl) (hpl : (backTo pos (starEach es X.env)).any (·.1) = false := by rfl)
include hg hm ha hn hdb he hpl
theorem se_dlen (hv : bootBuiltins n = some (.builtin "len") := by decide +kernel) : PE X (.Call (.Name n p) (e :: es) [] pos) (tM X.K W (mCB uDLen am)) := se_cb call_dlen ok_dlen hg hm hv ha hn hdb he hpl
theorem se_dcopy (hv : bootBuiltins n = some (.type "dict") := by decide +kernel) : PE X (.Call (.Name n p) (e :: es) [] pos) (tM X.K W (mCB uDCopy am)) := se_ct call_dcopy ok_dcopy hg hm hv ha hn hdb he hpl
end
end Q

set_option Elab.async false
set_option linter.all false
set_option maxRecDepth 100000
set_option maxHeartbeats 1000000
/-! QE: more built-ins on lists: sum, max, min, any, all, sorted. -/
namespace Q
open PySem PySem.Spec PyProof.Rows L2 TL
section
variable {K : Fr} {g g' : G} {E : XK} {W : WX} {X : Cx} {H : Hp} {h : Sto} {v w : V} {x y : U} {σ : L2.St} {env : Env'} {e : Expr} {es : List Expr} {am : AM} {pos p : Pos} {n : Str}
def intsU : List U → Option (List Int)
  | [] => some []
  | .int i :: r => (intsU r).map (i :: ·)
  | _ :: _ => none
theorem intsU_eq : ∀ {us : List U} {ns : List Int}, intsU us = some ns → us = ns.map U.int
  | [], ns, q => by cases q; rfl
  | .int i :: r, ns, q => by
    unfold intsU at q
    cases q1 : intsU r with
    | none => rw [q1] at q; cases q
    | some ms => rw [q1] at q; cases q; rw [intsU_eq q1]; rfl
  | .non :: _, _, q => by cases q
  | .bl _ :: _, _, q => by cases q
  | .str _ :: _, _, q => by cases q
  | .tup _ :: _, _, q => by cases q
  | .fl _ :: _, _, q => by cases q
  | .kl _ :: _, _, q => by cases q
  | .ref _ :: _, _, q => by cases q
  | .xv _ _ _ _ :: _, _, q => by cases q
def blsU : List U → Option (List Bool)
  | [] => some []
  | .bl i :: r => (blsU r).map (i :: ·)
  | _ :: _ => none
theorem blsU_eq : ∀ {us : List U} {ns : List Bool}, blsU us = some ns → us = ns.map U.bl
  | [], ns, q => by cases q; rfl
  | .bl i :: r, ns, q => by
    unfold blsU at q
    cases q1 : blsU r with
    | none => rw [q1] at q; cases q
    | some ms => rw [q1] at q; cases q; rw [blsU_eq q1]; rfl
  | .non :: _, _, q => by cases q
  | .int _ :: _, _, q => by cases q
  | .str _ :: _, _, q => by cases q
  | .tup _ :: _, _, q => by cases q
  | .fl _ :: _, _, q => by cases q
  | .kl _ :: _, _, q => by cases q
  | .ref _ :: _, _, q => by cases q
  | .xv _ _ _ _ :: _, _, q => by cases q
/-- a function of the ints of a list -/
def uLI (f : List Int → Option U) (us : List U) (h : Sto) : R U := match us with
  | [x] => match aL h x with
    | some xs => (match intsU xs with
      | some ns => (match f ns with
        | some u => .ok u h
        | none => .bad)
      | none => .bad)
    | none => .bad
  | _ => .bad
theorem uLI_of {f : List Int → Option U} {vs : List V} {us : List U} {Q : VK} (hr : HR K g H h) (rv : Reps K g vs us) (t : WE K E g (uLI f us h) Q) : ∃ (a : Addr) (ns : List Int) (u : U), vs = [V.ref a] ∧ SqL K H a (ns.map V.int) ∧ f ns = some u ∧ ∀ v, Rep K g v u → Q v H := by
  unfold uLI at t
  split at t
  · cases rv with
    | cons r1 r2 =>
      cases r2
      split at t
      · rename_i xs e1
        split at t
        · rename_i ns e2
          split at t
          · rename_i u e3
            obtain ⟨p, vs, rfl, h1, r1⟩ := aL_of hr r1 e1
            rw [intsU_eq e2] at r1
            have := r1.ints
            subst this
            exact ⟨p, ns, u, rfl, h1, e3, fun v rv => t v H g (Le.refl _) hr rv⟩
          · exact t.elim
        · exact t.elim
      · exact t.elim
  · exact t.elim
def uLB (f : List Bool → U) (us : List U) (h : Sto) : R U := match us with
  | [x] => match aL h x with
    | some xs => (match blsU xs with
      | some ns => .ok (f ns) h
      | none => .bad)
    | none => .bad
  | _ => .bad
theorem uLB_of {f : List Bool → U} {vs : List V} {us : List U} {Q : VK} (hr : HR K g H h) (rv : Reps K g vs us) (t : WE K E g (uLB f us h) Q) : ∃ (a : Addr) (ns : List Bool), vs = [V.ref a] ∧ SqL K H a (ns.map V.bl) ∧ ∀ v, Rep K g v (f ns) → Q v H := by
  unfold uLB at t
  split at t
  · cases rv with
    | cons r1 r2 =>
      cases r2
      split at t
      · rename_i xs e1
        split at t
        · rename_i ns e2
          obtain ⟨p, vs, rfl, h1, r1⟩ := aL_of hr r1 e1
          rw [blsU_eq e2] at r1
          have := r1.bls
          subst this
          exact ⟨p, ns, rfl, h1, fun v rv => t v H g (Le.refl _) hr rv⟩
        · exact t.elim
      · exact t.elim
  · exact t.elim
def maxL : List Int → Option Int
  | [] => none
  | i :: r => some (r.foldl (fun a b => if b > a then b else a) i)
def minL : List Int → Option Int
  | [] => none
  | i :: r => some (r.foldl (fun a b => if b < a then b else a) i)
theorem maxL_of : ∀ {r : List Int} {i m : Int}, (r.foldl (fun a b => if b > a then b else a) i) = m → (m = i ∨ m ∈ r) ∧ i ≤ m ∧ ∀ y ∈ r, y ≤ m
  | [], i, m, e => by simp at e; subst e; simp
  | b :: r, i, m, e => by
    rw [List.foldl_cons] at e
    obtain ⟨a1, a2, a3⟩ := maxL_of e
    by_cases c : b > i
    · rw [if_pos c] at a1 a2
      refine ⟨.inr ?_, by omega, fun y hy => ?_⟩
      · rcases a1 with a1 | a1
        · rw [a1]; exact List.mem_cons_self
        · exact List.mem_cons_of_mem _ a1
      · rcases List.mem_cons.mp hy with rfl | hy
        · exact a2
        · exact a3 y hy
    · rw [if_neg c] at a1 a2
      refine ⟨a1.imp_right (List.mem_cons_of_mem _), a2, fun y hy => ?_⟩
      rcases List.mem_cons.mp hy with rfl | hy
      · omega
      · exact a3 y hy
theorem minL_of : ∀ {r : List Int} {i m : Int}, (r.foldl (fun a b => if b < a then b else a) i) = m → (m = i ∨ m ∈ r) ∧ m ≤ i ∧ ∀ y ∈ r, m ≤ y
  | [], i, m, e => by simp at e; subst e; simp
  | b :: r, i, m, e => by
    rw [List.foldl_cons] at e
    obtain ⟨a1, a2, a3⟩ := minL_of e
    by_cases c : b < i
    · rw [if_pos c] at a1 a2
      refine ⟨.inr ?_, by omega, fun y hy => ?_⟩
      · rcases a1 with a1 | a1
        · rw [a1]; exact List.mem_cons_self
        · exact List.mem_cons_of_mem _ a1
      · rcases List.mem_cons.mp hy with rfl | hy
        · exact a2
        · exact a3 y hy
    · rw [if_neg c] at a1 a2
      refine ⟨a1.imp_right (List.mem_cons_of_mem _), a2, fun y hy => ?_⟩
      rcases List.mem_cons.mp hy with rfl | hy
      · omega
      · exact a3 y hy
abbrev uSum := uLI fun ns => some (.int ns.sum)
abbrev uMax1 := uLI fun ns => (maxL ns).map U.int
abbrev uMin1 := uLI fun ns => (minL ns).map U.int
abbrev uAny := uLB fun bs => .bl (bs.any id)
abbrev uAll := uLB fun bs => .bl (bs.all id)
theorem ok_sum : CallOK K (rSum K) uSum := fun E g H h vs us Q hr rv t => by
  obtain ⟨a, ns, u, e, s, q, k⟩ := uLI_of hr rv t
  cases q
  exact ⟨a, ns, e, s, k _ (.int _)⟩
theorem ok_any : CallOK K (rAny K) uAny := fun E g H h vs us Q hr rv t => by
  obtain ⟨a, ns, e, s, k⟩ := uLB_of hr rv t
  exact ⟨a, ns, e, s, k _ (.bl _)⟩
theorem ok_all : CallOK K (rAll K) uAll := fun E g H h vs us Q hr rv t => by
  obtain ⟨a, ns, e, s, k⟩ := uLB_of hr rv t
  exact ⟨a, ns, e, s, k _ (.bl _)⟩
theorem ok_max1 : CallOK K (rMax K) uMax1 := fun E g H h vs us Q hr rv t => by
  obtain ⟨a, ns, u, e, s, q, k⟩ := uLI_of hr rv t
  cases ns with
  | nil => cases q
  | cons i r =>
    cases q
    refine ⟨a, _, e, s, by simp, fun m hm hb => ?_⟩
    obtain ⟨b1, b2, b3⟩ := maxL_of (r := r) (i := i) rfl
    have e1 := hb (r.foldl (fun a b => if b > a then b else a) i) (by rcases b1 with b1 | b1; rw [b1]; exact List.mem_cons_self; exact List.mem_cons_of_mem _ b1)
    have e2 : m ≤ (r.foldl (fun a b => if b > a then b else a) i) := by
      rcases List.mem_cons.mp hm with rfl | hm
      · exact b2
      · exact b3 m hm
    rw [show m = _ from Int.le_antisymm e2 e1]
    exact k _ (.int _)
theorem ok_min1 : CallOK K (rMin K) uMin1 := fun E g H h vs us Q hr rv t => by
  obtain ⟨a, ns, u, e, s, q, k⟩ := uLI_of hr rv t
  cases ns with
  | nil => cases q
  | cons i r =>
    cases q
    refine ⟨a, _, e, s, by simp, fun m hm hb => ?_⟩
    obtain ⟨b1, b2, b3⟩ := minL_of (r := r) (i := i) rfl
    have e1 := hb (r.foldl (fun a b => if b < a then b else a) i) (by rcases b1 with b1 | b1; rw [b1]; exact List.mem_cons_self; exact List.mem_cons_of_mem _ b1)
    have e2 : (r.foldl (fun a b => if b < a then b else a) i) ≤ m := by
      rcases List.mem_cons.mp hm with rfl | hm
      · exact b2
      · exact b3 m hm
    rw [show m = _ from Int.le_antisymm e1 e2]
    exact k _ (.int _)
/-! sorted -/
def insI (i : Int) : List Int → List Int
  | [] => [i]
  | j :: r => if i ≤ j then i :: j :: r else j :: insI i r
def sortI (ns : List Int) : List Int := ns.foldr insI []
theorem insI_perm : ∀ {i : Int} {r : List Int}, (insI i r).Perm (i :: r)
  | i, [] => .refl _
  | i, j :: r => by
    unfold insI
    split
    · exact .refl _
    · exact ((insI_perm (r := r)).cons j).trans (.swap i j r)
theorem insI_srt : ∀ {i : Int} {r : List Int}, r.Pairwise (· ≤ ·) → (insI i r).Pairwise (· ≤ ·)
  | i, [], _ => by simp [insI]
  | i, j :: r, p => by
    rw [List.pairwise_cons] at p
    unfold insI
    split
    · rename_i c
      refine List.pairwise_cons.mpr ⟨fun y hy => ?_, List.pairwise_cons.mpr p⟩
      rcases List.mem_cons.mp hy with rfl | hy
      · exact c
      · have := p.1 y hy; omega
    · rename_i c
      refine List.pairwise_cons.mpr ⟨fun y hy => ?_, insI_srt p.2⟩
      rcases List.mem_cons.mp (insI_perm.mem_iff.mp hy) with rfl | hy
      · omega
      · exact p.1 y hy
theorem sortI_perm : ∀ {ns : List Int}, (sortI ns).Perm ns
  | [] => .refl _
  | i :: r => insI_perm.trans ((sortI_perm (ns := r)).cons i)
theorem sortI_srt : ∀ {ns : List Int}, (sortI ns).Pairwise (· ≤ ·)
  | [] => .nil
  | i :: r => insI_srt (sortI_srt (ns := r))
theorem srt_uniq : ∀ {xs ys : List Int}, xs.Perm ys → xs.Pairwise (· ≤ ·) → ys.Pairwise (· ≤ ·) → xs = ys
  | [], ys, p, _, _ => by rw [List.nil_perm.mp p]
  | x :: xs, [], p, _, _ => by have := p.length_eq; simp at this
  | x :: xs, y :: ys, p, a, b => by
    rw [List.pairwise_cons] at a b
    have e : x = y := by
      have h1 : x ∈ y :: ys := p.mem_iff.mp List.mem_cons_self
      have h2 : y ∈ x :: xs := p.mem_iff.mpr List.mem_cons_self
      rcases List.mem_cons.mp h1 with h1 | h1
      · exact h1
      · rcases List.mem_cons.mp h2 with h2 | h2
        · exact h2.symm
        · have := a.1 _ h2; have := b.1 _ h1; omega
    subst e
    rw [srt_uniq (p.cons_inv) a.2 b.2]
def uSortI (us : List U) (h : Sto) : R U := match us with
  | [x] => match aL h x with
    | some xs => (match intsU xs with
      | some ns => .ok (.ref h.length) (h ++ [.lst ((sortI ns).map U.int)])
      | none => .bad)
    | none => .bad
  | _ => .bad
theorem ok_sortI : CallOK K (rSortedI K) uSortI := fun E g H h vs us Q hr rv t => by
  unfold uSortI at t
  split at t
  · cases rv with
    | cons r1 r2 =>
      cases r2
      split at t
      · rename_i xs e1
        split at t
        · rename_i ns e2
          obtain ⟨p, vs, rfl, h1, r1⟩ := aL_of hr r1 e1
          rw [intsU_eq e2] at r1
          have := r1.ints
          subst this
          refine ⟨p, ns, rfl, h1, fun ns' l pm sr hl => ?_⟩
          rw [srt_uniq (pm.trans sortI_perm.symm) sr sortI_srt]
          exact t _ _ _ Le.new (hr.newLst hl (Reps.ofInts _)) hr.newRef
        · exact t.elim
      · exact t.elim
  · exact t.elim
section
variable (hg : Gl X n) (hm : X.mg n = none) (ha : PA X (e :: es) (aM X.K W am)) (hn : n ≠ "__name__" := by decide) (hdb : (n == ("__debug__" : Str)) = false := by decide)
    (he : starEach (e :: es) X.env = (false, eval e X.env) :: starEach es X.env := by rfl) (hpl : (backTo pos (starEach es X.env)).any (·.1) = false := by rfl)
include hg hm ha hn hdb he hpl
theorem se_sum (hc : X.calm = true) (hv : bootBuiltins n = some (.builtin "sum") := by decide +kernel) : PE X (.Call (.Name n p) (e :: es) [] pos) (tM X.K W (mCB uSum am)) := se_cb (cr_sum hc) ok_sum hg hm hv ha hn hdb he hpl
theorem se_max1 (hc : X.calm = true) (hv : bootBuiltins n = some (.builtin "max") := by decide +kernel) : PE X (.Call (.Name n p) (e :: es) [] pos) (tM X.K W (mCB uMax1 am)) := se_cb (cr_max hc) ok_max1 hg hm hv ha hn hdb he hpl
theorem se_min1 (hc : X.calm = true) (hv : bootBuiltins n = some (.builtin "min") := by decide +kernel) : PE X (.Call (.Name n p) (e :: es) [] pos) (tM X.K W (mCB uMin1 am)) := se_cb (cr_min hc) ok_min1 hg hm hv ha hn hdb he hpl
theorem se_any (hc : X.calm = true) (hv : bootBuiltins n = some (.builtin "any") := by decide +kernel) : PE X (.Call (.Name n p) (e :: es) [] pos) (tM X.K W (mCB uAny am)) := se_cb (cr_any hc) ok_any hg hm hv ha hn hdb he hpl
theorem se_all (hc : X.calm = true) (hv : bootBuiltins n = some (.builtin "all") := by decide +kernel) : PE X (.Call (.Name n p) (e :: es) [] pos) (tM X.K W (mCB uAll am)) := se_cb (cr_all hc) ok_all hg hm hv ha hn hdb he hpl
theorem se_sortI (hv : bootBuiltins n = some (.builtin "sorted") := by decide +kernel) : PE X (.Call (.Name n p) (e :: es) [] pos) (tM X.K W (mCB uSortI am)) := se_cb cr_sortedI ok_sortI hg hm hv ha hn hdb he hpl
end
end
end Q

set_option Elab.async false
set_option linter.all false
set_option maxRecDepth 100000
set_option maxHeartbeats 1000000
/-! QT: texts and written values of the top: ord, index, char in text, text * number, chains of comparisons, global texts and tuples. -/
namespace Q
open PySem PySem.Spec PyProof.Rows L2 TL
open Builtin Builtin.Str
/-! ### the first place of a sign -/
theorem occ_done (s sub : Str) (hi : Nat) : ∀ (l : List Nat) (st : Array Nat × Nat), st.fst.size = 1 → (forIn l st (StrLaws.occBody s sub hi 1)).run.fst = st.fst
  | [], st, _ => rfl
  | a :: l, st, h => by
    rw [List.forIn_cons]
    unfold StrLaws.occBody
    rw [if_neg (fun z => by have := z.1.1.1; omega)]
    exact occ_done s sub hi l (st.fst, st.snd) h
theorem occ_first (s sub : Str) (hi : Nat) : ∀ (l : List Nat) (free : Nat), (∀ i ∈ l, free ≤ i) → (forIn l ((#[] : Array Nat), free) (StrLaws.occBody s sub hi 1)).run.fst.toList = (l.find? fun i => decide (i + sub.length ≤ hi) && subAt s sub i).toList
  | [], free, _ => rfl
  | a :: l, free, h => by
    rw [List.forIn_cons]
    unfold StrLaws.occBody
    by_cases c : a + sub.length ≤ hi ∧ subAt s sub a = true
    · rw [if_pos ⟨⟨⟨Nat.zero_lt_one, h a List.mem_cons_self⟩, c.1⟩, c.2⟩, List.find?_cons_of_pos (by simp [c.1, c.2])]
      show (forIn l (#[a], a + sub.length) (StrLaws.occBody s sub hi 1)).run.fst.toList = _
      rw [occ_done s sub hi l _ rfl]; rfl
    · rw [if_neg (fun z => c ⟨z.1.2, z.2⟩), List.find?_cons_of_neg (by simpa using c)]
      exact occ_first s sub hi l free fun i m => h i (List.mem_cons_of_mem _ m)
theorem sub_one (s : List Nat) (c i : Nat) (h : i < s.length) : subAt ⟨s.toArray⟩ ⟨#[c]⟩ i = decide (s[i]? = some c) := by
  unfold subAt
  have e1 : (s.toArray.extract i (i + Str.length ⟨#[c]⟩)) = #[s[i]] := by
    have : Str.length ⟨#[c]⟩ = 1 := rfl
    rw [this]
    apply Array.toList_inj.mp
    simp
    rw [List.take_add_one, List.getElem?_drop, Nat.add_zero, List.getElem?_eq_getElem h]
    simp
  show ((s.toArray.extract i (i + Str.length ⟨#[c]⟩)) == #[c]) = _
  rw [e1, List.getElem?_eq_getElem h]
  by_cases q : s[i] = c <;> simp [q]
theorem occ_index {s : List Nat} {c i : Nat} (h : s.findIdx? (· == c) = some i) : occurrences ⟨s.toArray⟩ ⟨#[c]⟩ 0 (Str.length ⟨s.toArray⟩) 1 = [i] := by
  obtain ⟨hi, h1, h2⟩ := List.findIdx?_eq_some_iff_getElem.mp h
  have hl : Str.length ⟨s.toArray⟩ = s.length := str_len s
  have h0 : Str.length ⟨#[c]⟩ = 1 := rfl
  rw [StrLaws.occ_eq, occ_first _ _ _ _ _ (by simp), hl]
  have : (List.range' 0 (s.length + 1 - 0)).find? (fun j => decide (j + Str.length ⟨#[c]⟩ ≤ s.length) && subAt ⟨s.toArray⟩ ⟨#[c]⟩ j) = some i := by
    rw [List.find?_eq_some_iff_getElem]
    refine ⟨?_, i, by simp; omega, by simp, fun j hj => ?_⟩
    · rw [sub_one s c i hi, h0]; simp at h1; simp [hi, h1]; omega
    · have hj' : j < s.length := by omega
      simp only [List.getElem_range', Nat.zero_add, Nat.one_mul]
      rw [sub_one s c j hj', h0]
      have := h2 j hj
      simp at this
      simp [hj', this]
  rw [this]; rfl
section
variable {K : Fr} {g g' : G} {E : XK} {W : WX} {X : Cx} {H : Hp} {h : Sto} {v w : V} {x y : U} {σ : L2.St} {env : Env'} {a b c o e : Expr} {es : List Expr} {am : AM} {ma mb mc mo me : EM} {pos p apos cpos : Pos} {n : Str}
/-! ### written values of the top -/
theorem se_gstr {x : Str} {s : List Nat} (hg : Gl X x) (hm : ∃ t, X.mg x = some (.str ⟨s.toArray⟩ t)) (hdb : (x == ("__debug__" : Str)) = false := by decide) : PE X (.Name x pos) (tM X.K W (mC (.str s))) := by
  obtain ⟨t, hm⟩ := hm
  exact PE.weak (pe_glob (v := .str ⟨s.toArray⟩) hg hm ⟨_, rfl⟩ hdb) fun σ H Q ⟨g, env, h, hr, er, w⟩ => w _ H g (Le.refl g) hr (.str s)
/-- a tuple of the written part -/
def KT (K : Fr) (a : Addr) (vs : List V) : Prop := ∃ (o : Obj) (its : Array Value) (n : Nat), K.lookup a = some o ∧ o.cls = .type "tuple" ∧ o.dict = none ∧ o.data = .seq its n ∧ its.size ≤ sizeLine ∧ Vals vs its.toList
theorem KT.sq {a : Addr} {vs : List V} {F : Hp} (k : KT K a vs) : SqT K F a vs := by
  obtain ⟨o, its, n, h1, h2, _, h3, h4, h5⟩ := k
  exact .inr ⟨o, its, n, h1, h2, h3, h4, h5⟩
theorem se_gtup {x : Str} {vs : List V} {us : List U} (hg : Gl X x) (hm : ∃ a, X.mg x = some (.ref a) ∧ KT X.K a vs) (r : ∀ g, Reps X.K g vs us) (hdb : (x == ("__debug__" : Str)) = false := by decide) : PE X (.Name x pos) (tM X.K W (mC (.tup us))) := by
  obtain ⟨a, hm, k⟩ := hm
  exact PE.weak (pe_glob (v := .ref a) hg hm rfl hdb) fun σ H Q ⟨g, env, h, hr, er, w⟩ => w _ H g (Le.refl g) hr (.tup k.sq (r g))
/-! ### ord -/
def uOrd (us : List U) (h : Sto) : R U := match us with
  | [.str [c]] => .ok (.int c) h
  | _ => .bad
theorem ok_ord : CallOK K (fun xs H Q => ∃ x : Str, xs = [.str x] ∧ x.length = 1 ∧ Q (.int (x.cps.getD 0 0 : Nat)) H) uOrd := by
  intro E g H h vs us Q hr rv t
  unfold uOrd at t
  split at t
  · cases rv with
    | cons r1 r2 => cases r2; cases r1; exact ⟨_, rfl, rfl, t _ _ g (Le.refl _) hr (.int _)⟩
  · exact t.elim
theorem se_ord (hg : Gl X n) (hm : X.mg n = none) (ha : PA X (e :: es) (aM X.K W am)) (hn : n ≠ "__name__" := by decide) (hdb : (n == ("__debug__" : Str)) = false := by decide)
    (he : starEach (e :: es) X.env = (false, eval e X.env) :: starEach es X.env := by rfl) (hpl : (backTo pos (starEach es X.env)).any (·.1) = false := by rfl)
    (hv : bootBuiltins n = some (.builtin "ord") := by decide +kernel) : PE X (.Call (.Name n p) (e :: es) [] pos) (tM X.K W (mCB uOrd am)) := se_cb call_ord ok_ord hg hm hv ha hn hdb he hpl
/-! ### chains of comparisons -/
def mChain (f f' : Sto → U → U → Option Bool) (a b c : EM) : EM := fun env h => (a env h).bind fun x h1 => (b env h1).bind fun y h2 => (oB (f h2 x y) h2).bind fun k h3 => if k = true then (c env h3).bind fun z h4 => (oB (f' h4 y z) h4).bind fun k h5 => .ok (.bl k) h5 else .ok (.bl false) h3
theorem chain_to {f f' : Sto → U → U → Option Bool} {r r' : R2} (ok : CmpOK K r f) (ok' : CmpOK K r' f') {σ : L2.St} {Q : VK} (q : tM K W (mChain f f' ma mb mc) σ H Q) (hb : ∀ {x y : V} {H : Hp} {Q : VK}, r x y H Q → True) : tChain r r' (tM K W ma) (tM K W mb) (tM K W mc) σ H Q := by
  obtain ⟨g, env, h, hr, er, w⟩ := q
  refine ⟨g, env, h, hr, er, wE w fun x h1 v H1 g1 l1 hr1 rx w1 => ⟨g1, env, h1, hr1, er.mono l1, wE w1 fun y h2 u H2 g2 l2 hr2 ry w2 => ?_⟩⟩
  cases e1 : f h2 x y with
  | none => rw [e1] at w2; exact w2.elim
  | some k =>
    rw [e1] at w2
    refine ok g2 H2 h2 _ _ x y k _ hr2 (rx.mono l2) ry e1 ⟨k, rfl, ?_⟩
    cases k with
    | false => exact w2 _ H2 g2 (Le.refl _) hr2 (.bl false)
    | true =>
      refine ⟨g2, env, h2, hr2, er.mono (l1.trans l2), wE w2 fun z h4 t H4 g4 l4 hr4 rz w4 => ?_⟩
      cases e2 : f' h4 y z with
      | none => rw [e2] at w4; exact w4.elim
      | some k' =>
        rw [e2] at w4
        exact ok' g4 H4 h4 _ _ y z k' _ hr4 (ry.mono l4) rz e2 (w4 _ H4 g4 (Le.refl _) hr4 (.bl k'))
theorem se_chain {op op' : CmpOp} {r r' : R2} {f f' : Sto → U → U → Option Bool} (ho : OpR X (compareOp op) r) (ok : CmpOK X.K r f) (ho' : OpR X (compareOp op') r') (ok' : CmpOK X.K r' f') (ha : PE X a (tM X.K W ma)) (hb : PE X b (tM X.K W mb)) (hc : PE X c (tM X.K W mc))
    (hm : lastMarks [op, op'] [b, c] = false := by with_unfolding_all rfl) : PE X (.Compare a [op, op'] [b, c] pos) (tM X.K W (mChain f f' ma mb mc)) :=
  PE.weak (pe_chain ho ho' ha hb hc hm) fun σ H Q q => chain_to ok ok' q fun _ => trivial
def bChain (f f' : Sto → U → U → Option Bool) (a b c : EM) : TM := fun env h => (a env h).bind fun x h1 => (b env h1).bind fun y h2 => (oB (f h2 x y) h2).bind fun k h3 => if k = true then (c env h3).bind fun z h4 => oB (f' h4 y z) h4 else .ok false h3
theorem chain_toB {f f' : Sto → U → U → Option Bool} {r r' : R2} (ok : CmpOK K r f) (ok' : CmpOK K r' f') {σ : L2.St} {Q : Bool → Hp → Prop} (q : bM K W (bChain f f' ma mb mc) σ H Q) : tChain r r' (tM K W ma) (tM K W mb) (tM K W mc) σ H fun x H' => ∃ k, x = .bl k ∧ Q k H' := by
  obtain ⟨g, env, h, hr, er, w⟩ := q
  refine ⟨g, env, h, hr, er, wET w fun x h1 v H1 g1 l1 hr1 rx w1 => ⟨g1, env, h1, hr1, er.mono l1, wET w1 fun y h2 u H2 g2 l2 hr2 ry w2 => ?_⟩⟩
  cases e1 : f h2 x y with
  | none => rw [e1] at w2; exact w2.elim
  | some k =>
    rw [e1] at w2
    refine ok g2 H2 h2 _ _ x y k _ hr2 (rx.mono l2) ry e1 ⟨k, rfl, ?_⟩
    cases k with
    | false => exact ⟨false, rfl, w2 H2 g2 (Le.refl _) hr2⟩
    | true =>
      refine ⟨g2, env, h2, hr2, er.mono (l1.trans l2), wET w2 fun z h4 t H4 g4 l4 hr4 rz w4 => ?_⟩
      cases e2 : f' h4 y z with
      | none => rw [e2] at w4; exact w4.elim
      | some k' =>
        rw [e2] at w4
        exact ok' g4 H4 h4 _ _ y z k' _ hr4 (ry.mono l4) rz e2 ⟨k', rfl, w4 H4 g4 (Le.refl _) hr4⟩
theorem bTru_chain {f f' : Sto → U → U → Option Bool} : bTru (mChain f f' ma mb mc) = bChain f f' ma mb mc := by
  funext env h
  unfold bTru mChain bChain
  cases ma env h with
  | bad => rfl
  | exc C n h => rfl
  | ok x h1 =>
    show R.bind (R.bind (mb env h1) _) _ = R.bind (mb env h1) _
    cases mb env h1 with
    | bad => rfl
    | exc C n h => rfl
    | ok y h2 =>
      show R.bind (R.bind (oB (f h2 x y) h2) _) _ = R.bind (oB (f h2 x y) h2) _
      cases f h2 x y with
      | none => rfl
      | some k =>
        cases k with
        | false => rfl
        | true =>
          show R.bind (R.bind (mc env h2) _) _ = R.bind (mc env h2) _
          cases mc env h2 with
          | bad => rfl
          | exc C n h => rfl
          | ok z h4 =>
            show R.bind (R.bind (oB (f' h4 y z) h4) _) _ = oB (f' h4 y z) h4
            cases f' h4 y z <;> rfl
theorem bt_chain {op op' : CmpOp} {r r' : R2} {f f' : Sto → U → U → Option Bool} (ho : OpR X (compareOp op) r) (ok : CmpOK X.K r f) (ho' : OpR X (compareOp op') r') (ok' : CmpOK X.K r' f') (ha : PE X a (tM X.K W ma)) (hb : PE X b (tM X.K W mb)) (hc : PE X c (tM X.K W mc))
    (hm : lastMarks [op, op'] [b, c] = false := by with_unfolding_all rfl) : PT X (.Compare a [op, op'] [b, c] pos) (bM X.K W (bTru (mChain f f' ma mb mc))) :=
  PT.weak (pt_chain ho ho' ha hb hc hm) fun σ H Q q => chain_toB ok ok' (bTru_chain ▸ q)
theorem reps_strs : ∀ ss : List (List Nat), Reps K g ((ss.map fun s => (⟨s.toArray⟩ : Str)).map V.str) (ss.map U.str)
  | [] => .nil
  | s :: r => .cons (.str s) (reps_strs r)
theorem se_gstup {x : Str} {ss : List (List Nat)} {us : List U} (hg : Gl X x) (hm : ∃ a, X.mg x = some (.ref a) ∧ KT X.K a ((ss.map fun s => (⟨s.toArray⟩ : Str)).map V.str)) (hu : ss.map U.str = us := by rfl) (hdb : (x == ("__debug__" : Str)) = false := by decide) : PE X (.Name x pos) (tM X.K W (mC (.tup us))) :=
  se_gtup hg hm (fun g => hu ▸ reps_strs ss) hdb
/-! ### text * number -/
def uMulS (x y : U) (h : Sto) : R U := match x, y with
  | .str s, .int k => if s.length * k.toNat ≤ 16000000 ∧ k.natAbs ≤ 1000000000 then .ok (.str (List.replicate k.toNat s).flatten) h else .bad
  | _, _ => .bad
theorem fold_app (l : List (Array Nat)) (acc : Array Nat) : (l.foldl (· ++ ·) acc).toList = acc.toList ++ (l.map Array.toList).flatten := by
  induction l generalizing acc with
  | nil => simp
  | cons a r ih => simp [ih]
theorem op_mulS : OpR X (binaryOp .Mult) (fun x y H Q => ∃ (s : List Nat) (k : Int), x = .str ⟨s.toArray⟩ ∧ y = .int k ∧ s.length * k.toNat ≤ 16000000 ∧ k.natAbs ≤ 1000000000 ∧ Q (.str ⟨(List.replicate k.toNat s).flatten.toArray⟩) H) := by
  intro pins t0 σ H x y v u Q I rx ry h
  obtain ⟨s, k, rfl, rfl, hz, hk, q⟩ := h
  obtain ⟨t, rfl⟩ := rx
  obtain ⟨t', rfl⟩ := ry
  have hl : Str.length ⟨s.toArray⟩ = s.length := str_len s
  have e63 : (2 : Int) ^ 63 = 9223372036854775808 := by decide
  have fin : ∀ (z : Str) tk tok, z = ⟨(List.replicate k.toNat s).flatten.toArray⟩ → EP X pins σ Q (.str z tok) { t0 with toks := tk } := fun z tk tok e => ⟨.str z, H, I.tok _, ⟨_, rfl⟩, by rw [e]; exact q⟩
  refine P.mul_str (by rw [decide_eq_false (by omega), decide_eq_false (by omega)]; rfl) (fun h1 _ => ?_) (fun h1 _ => ?_) ?_
  · rw [hl]
    have h2 : (s.length : Int) * k ≤ 16000000 := by
      have : (k.toNat : Int) = k := Int.toNat_of_nonneg (by omega)
      have h6 : ((s.length * k.toNat : Nat) : Int) = (s.length : Int) * k := by rw [Int.natCast_mul, this]
      rw [← h6]
      generalize s.length * k.toNat = m at hz
      omega
    intro hgt
    have h3 : (2 ^ 63 - 1) / k * k ≤ 2 ^ 63 - 1 := Int.ediv_mul_le _ (by omega)
    have h4 : (2 ^ 63 - 1) < ((2 ^ 63 - 1) / k + 1) * k := Int.lt_ediv_add_one_mul_self _ (by omega)
    have h5 : ((2 ^ 63 - 1) / k + 1) * k ≤ (s.length : Int) * k := Int.mul_le_mul_of_nonneg_right (by omega) (by omega)
    omega
  · rw [hl]
    unfold tooLong
    exact decide_eq_false (by have : (16000000 : Nat) ≤ sizeLine := by decide
                              omega)
  · split
    · rename_i h1
      refine ⟨by decide, fin _ _ _ ?_⟩
      have : k.toNat = 0 := by omega
      rw [this]; rfl
    · split
      · rename_i h1 h2
        refine fin _ _ _ ?_
        rw [hl] at h2
        simp at h2
        rcases h2 with h2 | h2
        · subst h2; simp
        · rw [h2]; simp
      · refine ⟨?_, fin _ _ _ ?_⟩
        · show (List.foldl (· ++ ·) #[] (List.replicate k.toNat s.toArray)).size ≤ _
          rw [← Array.length_toList, fold_app, List.map_replicate, List.length_append, List.length_flatten, List.map_replicate, List.sum_replicate_nat]
          have : (16000000 : Nat) ≤ sizeLine := by decide
          rw [Nat.mul_comm] at hz
          show 0 + k.toNat * s.length ≤ _
          omega
        · congr 1
          apply Array.toList_inj.mp
          rw [fold_app]
          simp
theorem ok_mulS : BinOK K (fun x y H Q => ∃ (s : List Nat) (k : Int), x = .str ⟨s.toArray⟩ ∧ y = .int k ∧ s.length * k.toNat ≤ 16000000 ∧ k.natAbs ≤ 1000000000 ∧ Q (.str ⟨(List.replicate k.toNat s).flatten.toArray⟩) H) uMulS := by
  intro E g H h v w x y Q hr rx ry t
  unfold uMulS at t
  split at t
  · cases rx; cases ry
    split at t
    · rename_i s k z
      exact ⟨s, k, rfl, rfl, z.1, z.2, t _ _ g (Le.refl g) hr (.str _)⟩
    · exact t.elim
  · exact t.elim
theorem se_mulS {a b : Expr} (ha : PE X a (tM X.K W ma)) (hb : PE X b (tM X.K W mb)) : PE X (.BinOp a .Mult b pos) (tM X.K W (mBin uMulS ma mb)) := se_bin op_mulS ok_mulS ha hb
/-! ### a sign in a text -/
def cInS (_ : Sto) (x y : U) : Option Bool := match x, y with
  | .str [c], .str z => some (decide (c ∈ z))
  | _, _ => none
theorem ok_inS : CmpOK K (fun x y H Q => ∃ (c : Nat) (z : Str), x = .str ⟨#[c]⟩ ∧ y = .str z ∧ Q (.bl (decide (c ∈ z.cps.toList))) H) cInS := fun g H h v w x y b Q hr rx ry e q => by
  unfold cInS at e
  split at e
  · cases rx; cases ry; cases e
    exact ⟨_, _, rfl, rfl, q⟩
  · cases e
def cNinS (h : Sto) (x y : U) : Option Bool := (cInS h x y).map not
theorem ok_ninS : CmpOK K (fun x y H Q => ∃ (c : Nat) (z : Str), x = .str ⟨#[c]⟩ ∧ y = .str z ∧ Q (.bl (!decide (c ∈ z.cps.toList))) H) cNinS := fun g H h v w x y b Q hr rx ry e q => by
  unfold cNinS cInS at e
  split at e
  · cases rx; cases ry; cases e
    exact ⟨_, _, rfl, rfl, q⟩
  · cases e
theorem bt_inS (ha : PE X a (tM X.K W ma)) (hb : PE X b (tM X.K W mb)) (hm : behindInMarks .In b = false := by rfl) : PT X (.Compare a [.In] [b] pos) (bM X.K W (bCmp cInS ma mb)) := bt_cmp op_in_sign ok_inS ha hb hm
theorem bt_ninS (ha : PE X a (tM X.K W ma)) (hb : PE X b (tM X.K W mb)) (hm : behindInMarks .NotIn b = false := by rfl) : PT X (.Compare a [.NotIn] [b] pos) (bM X.K W (bCmp cNinS ma mb)) := bt_cmp op_notIn_sign ok_ninS ha hb hm
theorem se_inS (ha : PE X a (tM X.K W ma)) (hb : PE X b (tM X.K W mb)) (hm : behindInMarks .In b = false := by rfl) : PE X (.Compare a [.In] [b] pos) (tM X.K W (mB (bCmp cInS ma mb))) := se_cmp op_in_sign ok_inS ha hb hm
theorem se_ninS (ha : PE X a (tM X.K W ma)) (hb : PE X b (tM X.K W mb)) (hm : behindInMarks .NotIn b = false := by rfl) : PE X (.Compare a [.NotIn] [b] pos) (tM X.K W (mB (bCmp cNinS ma mb))) := se_cmp op_notIn_sign ok_ninS ha hb hm
/-! ### index -/
def uIndexS (x : U) (y : U) (h : Sto) : R U := match x, y with
  | .str s, .str [c] => (match s.findIdx? (· == c) with
    | some i => .ok (.int i) h
    | none => .bad)
  | _, _ => .bad
theorem ok_indexS : M1OK K (fun x xs H Q => ∃ a b i rest, x = .str a ∧ xs = [.str b] ∧ Builtin.Str.occurrences a b 0 a.length 1 = i :: rest ∧ Q (.int (i : Nat)) H) uIndexS := fun E g H h v w s y Q hr rx ry t => by
  unfold uIndexS at t
  split at t
  · rename_i s2 c e1
    cases e1
    cases rx; cases ry
    split at t
    · rename_i i e
      exact ⟨_, _, i, [], rfl, rfl, occ_index e, t _ _ g (Le.refl g) hr (.int _)⟩
    · exact t.elim
  · exact t.elim
theorem se_indexS (ho : PE X o (tM X.K W mo)) (he : PE X e (tM X.K W me)) (hs : starEach [e] X.env = [(false, eval e X.env)] := by rfl) (hbase : attributeBase o "index" X.env (eval o X.env) = eval o X.env := by rfl) (hline : (apos.endLine == pos.line) = true := by rfl) :
    PE X (.Call (.Attribute o "index" apos) [e] [] pos) (tM X.K W (mSM1 uIndexS mo me)) := PE.weak (pe_m1 PySem.F.slot_str_index PySem.F.type_str_index mt_sindex ho he hs hbase hline) fun σ H Q q => m1_to ok_indexS q
def uIndexL (x : U) (us : List U) (h : Sto) : R U := match us with
  | [y] => (match aL h x with
    | some us => if us.all flatU = true ∧ flatU y = true then (match us.findIdx? (fun z => eqF z y) with
      | some i => .ok (.int i) h
      | none => .bad) else .bad
    | none => .bad)
  | _ => .bad
theorem ok_indexL : MtOK K (rIndex K) uIndexL := fun E g H h v x vs us Q hr rx rv t => by
  unfold uIndexL at t
  split at t
  · rename_i y
    split at t
    · rename_i us e1
      split at t
      · rename_i fl
        split at t
        · rename_i i e2
          cases rv with
          | cons ry r2 =>
            cases r2
            obtain ⟨a, ws, rfl, h1, r1⟩ := aL_of hr rx e1
            obtain ⟨hi, q1, q2⟩ := List.findIdx?_eq_some_iff_getElem.mp e2
            obtain ⟨z, hz, rz⟩ := r1.get (List.getElem?_eq_getElem hi)
            have fz : ∀ j (hj : j < us.length), flatU us[j] = true := fun j hj => List.all_eq_true.mp fl.1 _ (List.getElem_mem hj)
            refine ⟨a, ws, _, i, z, rfl, rfl, h1, flat_of ry fl.2, flats_of r1 fl.1, hz, by rw [eqF_of rz ry (fz i hi) fl.2]; exact q1, fun m z' hm hz' => ?_, t _ _ g (Le.refl _) hr (.int _)⟩
            obtain ⟨u', hu', ru'⟩ := r1.getV hz'
            obtain ⟨hm', e3⟩ := List.getElem?_eq_some_iff.mp hu'
            subst e3
            rw [eqF_of ru' ry (fz m hm') fl.2]
            have := q2 m hm
            simpa using this
        · exact t.elim
      · exact t.elim
    · exact t.elim
  · exact t.elim
def uIndexT (us : List U) (ts : List U) (h : Sto) : R U := match ts with
  | [.str z] => (match strsOf us with
    | some ss => (match ss.findIdx? (· == z) with
      | some i => .ok (.int i) h
      | none => .bad)
    | none => .bad)
  | _ => .bad
section
variable (ha : PA X (e :: es) (aM X.K W am))
    (hfew : ((backTo cpos (starEach (e :: es) X.env)).all (fun x => !x.1) && (backToKw cpos (keywordEach [] X.env)).all (fun x => x.1.isSome)
      && decide ((e :: es).length + ([] : List Keyword).length + (if ([] : List Keyword).isEmpty then 0 else 1) < 30)) = true := by rfl)
    (hline : (apos.endLine == cpos.line) = true := by rfl) (hs : starEach (e :: es) X.env = (false, eval e X.env) :: starEach es X.env := by rfl) (hplain : (backTo cpos (starEach es X.env)).any (·.1) = false := by rfl)
include ha hfew hline hs hplain
theorem se_indexL (ho : PE X o (tM X.K W mo)) (hbase : attributeBase o "index" X.env (eval o X.env) = eval o X.env := by rfl) : PE X (.Call (.Attribute o "index" apos) (e :: es) [] cpos) (tM X.K W (mLM uIndexL mo am)) :=
  PE.weak (pe_bm PySem.F.plainAttrs_list PySem.F.slot_list_index PySem.F.type_list_index mt_index ho ha hbase hfew hline hs hplain) fun σ H Q q => lm_to ok_indexL q
/-- the place in a tuple of texts of the top -/
theorem se_indexT {x : Str} {ss : List (List Nat)} (hg : Gl X x) (hm : ∃ a, X.mg x = some (.ref a) ∧ KT X.K a ((ss.map fun s => (⟨s.toArray⟩ : Str)).map V.str)) (hdb : (x == ("__debug__" : Str)) = false := by decide)
    (hbase : attributeBase (.Name x p) "index" X.env (eval (.Name x p) X.env) = eval (.Name x p) X.env := by rfl) : PE X (.Call (.Attribute (.Name x p) "index" apos) (e :: es) [] cpos) (tM X.K W (mCB (uIndexT (ss.map U.str)) am)) := by
  obtain ⟨a, hm, k⟩ := hm
  refine PE.weak (pe_bm PySem.F.plainAttrs_tuple PySem.F.slot_tuple_index PySem.F.type_tuple_index mt_tup_index (pe_glob (v := .ref a) hg hm rfl hdb) ha hbase hfew hline hs hplain) fun σ H Q ⟨g, env, h, hr, er, w⟩ => ?_
  have k' := k
  obtain ⟨ob, _, _, h1, h2, h3, _⟩ := k'
  refine ⟨.inr (.inl ⟨rfl, ob, h1, h2, h3⟩), g, env, h, hr, er, wA w fun ts h3 ws H3 g3 l3 hr3 rvs w3 => ?_⟩
  unfold uIndexT at w3
  split at w3
  · rename_i z
    rw [strsOf_map] at w3
    simp only at w3
    split at w3
    · rename_i i e2
      cases rvs with
      | cons rz r4 =>
        cases r4
        cases rz
        obtain ⟨hi, q1, q2⟩ := List.findIdx?_eq_some_iff_getElem.mp e2
        refine ⟨a, ss.map fun s => (⟨s.toArray⟩ : Str), ⟨z.toArray⟩, i, rfl, rfl, k.sq, ?_, fun m hm hz => ?_, w3 _ _ g3 (Le.refl _) hr3 (.int _)⟩
        · have q1 : ss[i] = z := by simpa using q1
          rw [List.getElem?_map, List.getElem?_eq_getElem hi, q1]; rfl
        · rw [List.getElem?_map] at hz
          cases q : ss[m]? with
          | none => rw [q] at hz; cases hz
          | some t =>
            rw [q] at hz
            obtain ⟨hm', e5⟩ := List.getElem?_eq_some_iff.mp q
            have hz : (⟨t.toArray⟩ : Str) = ⟨z.toArray⟩ := by simpa using hz
            have := (str_eq t z).mp hz
            have q3 := q2 m hm
            rw [e5, this] at q3
            simp at q3
    · exact w3.elim
  · exact w3.elim
end
end
end Q

set_option Elab.async false
set_option linter.all false
set_option maxRecDepth 100000
set_option maxHeartbeats 1000000
/-! QA: except X as e, where e is only asked for its class. -/
namespace Q
open PySem PySem.Spec PyProof.Rows L2 TL
/-- the name of the exception goes -/
def RS.cl (i : Nat) : RS → RS
  | .nx e h => .nx (e.set i none) h
  | .rt u h => .rt u h
  | .bk e h => .bk (e.set i none) h
  | .ct e h => .ct (e.set i none) h
  | .ex _ _ _ _ => .bad
  | .bad => .bad
def mTryAs (i : Nat) (ys : List Nat) (mb ms : SM) : SM := fun env h => match mb env h with
  | .ex C n env1 h1 => if C ∈ ys ∧ n = none ∧ i < env1.length then (ms (env1.set i none) h1).cl i else .bad
  | r => r
def mIsE (i a : Nat) (b : Bool) : EM := fun env h => match env[i]? with
  | some (some (.xv a' none _ none)) => if a' = a then .ok (.bl b) h else .bad
  | _ => .bad
section
variable {K : Fr} {g g' : G} {E : XK} {W W0 : WX} {X : Cx} {H : Hp} {h : Sto} {σ : L2.St} {env : Env'} {m1 ms : SM} {mx : Nat → SM} {pos : Pos}
theorem WS.cl {r : RS} {D : Ends} {i : Nat} {W' : WX} (w : WS K W g (r.cl i) D) : WS K W' g r { nx := fun σ' H' => D.nx (σ'.set i none) H', rt := D.rt, bk := fun σ' H' => D.bk (σ'.set i none) H', ct := fun σ' H' => D.ct (σ'.set i none) H' } := by
  cases r with
  | nx e h => exact fun σ H g' l hr er => w _ H g' l hr (er.none i)
  | rt u h => exact w
  | bk e h => exact fun σ H g' l hr er => w _ H g' l hr (er.none i)
  | ct e h => exact fun σ H g' l hr er => w _ H g' l hr (er.none i)
  | ex C n e h => exact w.elim
  | bad => exact w.elim
theorem ss_tryAs {x n : Str} {C : Addr} {i : Nat} {ys : List Nat} {body suite : List Stmt} {b₀ : Stmt} {np pos' : Pos} (hs : X.stack = X.env :: X.outer) (hf : X.env.frame = some X.env.locals) (hN : X.N.Nodup) (hi : X.N[i]? = some n) (hln : X.env.kindOf n = some .local)
    (hg : Gl X x) (hm : X.mg x = some (.ref C)) (tk : Takes X W) (hy : ∀ D ∈ ys, PySem.W.exmOne X.K (.ref D) (.ref C) = some true)
    (hb : ∀ (W' : WX) (pn : List (Addr × Obj)) (xe : Value → Shared → Prop), Takes (X.tr pn xe) W' → PassesOwn (model X.prog X.w) X.A X.env xe → PSs (X.tr pn xe) body (sM X.K W' m1))
    (hsu : ∀ (a : Addr) (oe : Obj) (D : Nat) (pn : List (Addr × Obj)), D ∈ ys → Zc (.ref D) none oe → (∃ vs, oe.data = .fields vs) → PSs (X.suite a ((a, oe) :: pn)) (b₀ :: suite) (sM X.K W0 (mx a)))
    (hgen : ∀ (a D : Nat) (env : Env') (h : Sto), i < env.length → (mx a (env.set i (some (.xv a none D none))) h).cl i = (ms (env.set i none) h).cl i) (hdb : (x == ("__debug__" : Str)) = false := by decide) :
    PS X (.Try body [.ExceptHandler (some (.Name x np)) (some n) (b₀ :: suite) pos'] [] [] pos) (sM X.K W (mTryAs i ys m1 ms)) :=
  PS.weak (ps_try_as (tb := fun W' => sM X.K W' m1) (ts := fun a cls d D σ H => ∃ C', C' ∈ ys ∧ cls = .ref C' ∧ d = none ∧ sM X.K W0 (mx a) D σ H) hs hf hN hi hln ⟨hg, hdb, .inl hm⟩ tk hb
    (fun a oe cls d pn hz hfl => ⟨fun pins s σ H D I ⟨C', hC, e1, e2, q⟩ => by
      subst e1; subst e2
      exact (hsu a oe C' pn hC hz hfl).run pins s σ H D I q⟩)) fun D σ H ⟨g, env, h, hr, er, w⟩ => ⟨g, env, h, hr, er, by
    unfold mTryAs at w
    cases e : m1 env h with
    | ex C' n e1 h1 =>
      rw [e] at w
      intro σ1 H1 g1 d l1 hr1 er1 hd
      simp only at w
      split at w
      · rename_i hc
        obtain ⟨hc, hn, hl⟩ := hc
        subst hn
        have hd : d = none := hd
        subst hd
        refine ⟨true, hy C' hc, fun _ a ha => ⟨C', hc, rfl, rfl, g1, e1.set i (some (.xv a none C' none)), h1, hr1, er1.set i (.xv rfl), ?_⟩, fun z => nomatch z⟩
        refine WS.mono l1 (WS.cl (W := W) ?_)
        rw [hgen a C' e1 h1 hl]
        exact w
      · exact w.elim
    | nx e1 h1 => rw [e] at w; exact w
    | rt u h1 => rw [e] at w; exact w
    | bk e1 h1 => rw [e] at w; exact w
    | ct e1 h1 => rw [e] at w; exact w
    | bad => rw [e] at w; exact w⟩
theorem ret_cl {i : Nat} {a b : EM} {e1 e2 : Env'} (q : a e1 h = b e2 h) : (mRet a e1 h).cl i = (mRet b e2 h).cl i := by
  unfold mRet
  rw [q]
  cases b e2 h <;> rfl
/-- isinstance(e, c): e the exception in hand, c a class by its name -/
theorem se_isE {a D : Addr} {oe : Obj} {pn : List (Addr × Obj)} {i : Nat} {b : Bool} {x f : Str} {cv : V} {cu : Value} {p1 p2 p3 : Pos} {ce : Expr} (hC : ExcC X.K D) (hz : Zc (.ref D) none oe) (hfl : ∃ vs, oe.data = .fields vs)
    (hgI : Gl (X.suite a ((a, oe) :: pn)) f) (hmI : (X.suite a ((a, oe) :: pn)).mg f = none) (hc : PE (X.suite a ((a, oe) :: pn)) ce (tC cv)) (hu : ∀ u, RelV cv u → u = cu) (hk : PySem.W.kitOne X.K (.ref D) cu = some b)
    (hN : (X.suite a ((a, oe) :: pn)).N[i]? = some x := by rfl) (hv : Vis (X.suite a ((a, oe) :: pn)).env.scope x := by first | exact Or.inl rfl | exact Or.inr (Or.inl rfl) | exact Or.inr (Or.inr rfl))
    (hd : (x == ("__debug__" : Str)) = false := by decide) (hcd : (x == ("__classdict__" : Str)) = false := by decide)
    (hvI : bootBuiltins f = some (.builtin "isinstance") := by decide +kernel) (hn : f ≠ "__name__" := by decide) (hdb : (f == ("__debug__" : Str)) = false := by decide)
    (he2 : starEach [ce] (X.suite a ((a, oe) :: pn)).env = [(false, eval ce (X.suite a ((a, oe) :: pn)).env)] := by rfl) :
    PE (X.suite a ((a, oe) :: pn)) (.Call (.Name f p1) [.Name x p2, ce] [] p3) (tM X.K W (mIsE i a b)) := by
  have hr : ∃ r : List V → Hp → VK → Prop, True := ⟨fun _ _ _ => False, trivial⟩
  refine PE.weak (pe_callB (call_isE hC hz hfl) hgI hmI hvI (pa_cons (se_var (K := X.K) (W := W) hN hv hd hcd) (pa_cons hc pa_nil he2) rfl) hn hdb rfl (by rw [he2]; rfl)) fun σ H Q ⟨g, env, h, hr, er, w⟩ => ?_
  refine ⟨g, env, h, hr, er, ?_⟩
  unfold mIsE at w
  unfold mVar
  split at w
  · rename_i a' C' e
    split at w
    · rename_i ea
      subst ea
      rw [e]
      intro v H1 g1 l1 hr1 rv
      cases rv
      exact ⟨cv, cu, b, rfl, hu, hk, w _ H1 g1 l1 hr1 (.bl b)⟩
    · exact w.elim
  · exact w.elim
theorem kit_self {D : Addr} : PySem.W.kitOne K (.ref D) (.ref D) = some true := by
  unfold PySem.W.kitOne
  rw [if_pos (by simp)]
theorem kit_up {D C : Addr} (h1 : PySem.W.hasDictIn K C = true) (h2 : PySem.W.typeIn K (.ref C) = some (.type "type")) (h3 : PySem.W.subIn K (.ref D) (.ref C) = some true) : PySem.W.kitOne K (.ref D) (.ref C) = some true := by
  unfold PySem.W.kitOne
  split
  · rfl
  · obtain ⟨cd, hc, _⟩ := PySem.W.any_some h1
    show (if ((PySem.W.clsIn K C).isSome && PySem.W.typeIn K (.ref C) == some (.type "type")) = true then PySem.W.subIn K (.ref D) (.ref C) else none) = some true
    rw [if_pos (by rw [hc, h2]; rfl)]
    exact h3
theorem kit_bi {D : Addr} {T : String} {b : Bool} (h1 : PySem.W.kitMeta T = true) (h3 : PySem.W.subIn K (.ref D) (.type T) = some b) : PySem.W.kitOne K (.ref D) (.type T) = some b := by
  unfold PySem.W.kitOne
  rw [if_neg (by simp)]
  show (if PySem.W.kitMeta T = true then PySem.W.subIn K (.ref D) (.type T) else none) = some b
  rw [if_pos h1]
  exact h3
end
end Q

set_option Elab.async false
set_option linter.all false
set_option maxRecDepth 100000
set_option maxHeartbeats 1000000
/-! QR: str(number), list.pop(). -/
namespace Q
open PySem PySem.Spec PyProof.Rows L2 TL
/-- the signs of a number -/
def sInt (i : Int) : List Nat := (toString i).toList.map Char.toNat
section
variable {K : Fr} {g g' : G} {E : XK} {W : WX} {X : Cx} {H : Hp} {h : Sto} {v w : V} {x y : U} {σ : L2.St} {env : Env'} {a b c o e : Expr} {es : List Expr} {am : AM} {ma mb mc mo me : EM} {pos p apos cpos : Pos} {n : Str}
def uStr (us : List U) (h : Sto) : R U := match us with
  | [.int i] => if i.natAbs.log2 < 1920 then .ok (.str (sInt i)) h else .bad
  | _ => .bad
theorem ok_str : CallOK K (fun xs H Q => ∃ i : Int, xs = [.int i] ∧ i.natAbs.log2 < 1920 ∧ Q (.str (toString i)) H) uStr := by
  intro E g H h vs us Q hr rv t
  unfold uStr at t
  split at t
  · rename_i i
    split at t
    · rename_i z
      cases rv with
      | cons r1 r2 =>
        cases r2
        cases r1
        refine ⟨i, rfl, z, ?_⟩
        have : ((toString i : String) : Str) = ⟨(sInt i).toArray⟩ := Str.ofString_eq_toList _
        rw [this]
        exact t _ _ g (Le.refl _) hr (.str _)
    · exact t.elim
  · exact t.elim
theorem se_str' (hg : Gl X n) (hm : X.mg n = none) (ha : PA X (e :: es) (aM X.K W am)) (hn : n ≠ "__name__" := by decide) (hdb : (n == ("__debug__" : Str)) = false := by decide)
    (he : starEach (e :: es) X.env = (false, eval e X.env) :: starEach es X.env := by rfl) (hpl : (backTo pos (starEach es X.env)).any (·.1) = false := by rfl)
    (hv : bootBuiltins n = some (.type "str") := by decide +kernel) : PE X (.Call (.Name n p) (e :: es) [] pos) (tM X.K W (mCB uStr am)) := se_ct call_str_int ok_str hg hm hv ha hn hdb he hpl
/-! ### pop -/
def mLM0 (f : U → List U → Sto → R U) (o : EM) : EM := fun env h => (o env h).bind fun x h1 => if (aL h1 x).isSome = true then f x [] h1 else .bad
theorem lm0_to {r : V → List V → Hp → VK → Prop} {f : U → List U → Sto → R U} {Q : VK} (ok : MtOK K r f) (q : tM K W (mLM0 f mo) σ H Q) : tBM0 K "list" r (tM K W mo) σ H Q := by
  obtain ⟨g, env, h, hr, er, w⟩ := q
  refine ⟨g, env, h, hr, er, wE w fun u h1 v H1 g1 l1 hr1 rv w1 => ?_⟩
  cases ea : aL h1 u with
  | none => rw [ea] at w1; exact w1.elim
  | some us =>
    rw [ea] at w1
    obtain ⟨a, vs, rfl, h2, r2⟩ := aL_of hr1 rv ea
    exact ⟨.inl ⟨rfl, vs, h2⟩, ok _ g1 H1 h1 _ u [] [] Q hr1 rv .nil w1⟩
def uPop (x : U) (us : List U) (h : Sto) : R U := match x, us with
  | .ref n, [] => (match h[n]? with
    | some (.lst xs) => (match xs[xs.length - 1]? with
      | some y => .ok y (h.set n (.lst xs.dropLast))
      | none => .bad)
    | _ => .bad)
  | _, _ => .bad
theorem ok_pop : MtOK K rPop uPop := by
  intro E g H h v x vs us Q hr rx rvs t
  unfold uPop at t
  split at t
  · rename_i n
    split at t
    · rename_i xs e1
      split at t
      · rename_i y e2
        cases rx with
        | ref q =>
          rename_i a
          cases rvs
          obtain ⟨ws, h1, h2⟩ := hr.ob n a _ q e1
          obtain ⟨w, hw, rw'⟩ := h2.get e2
          exact ⟨a, ws, w, rfl, rfl, h1, by rw [h2.len]; exact hw, t _ _ g (Le.refl _) (hr.setLst q h1 h2.dropLast) rw'⟩
      · exact t.elim
    · exact t.elim
  · exact t.elim
theorem se_pop (ho : PE X o (tM X.K W mo)) (hbase : attributeBase o "pop" X.env (eval o X.env) = eval o X.env := by rfl) (hline : (apos.endLine == cpos.line) = true := by rfl) :
    PE X (.Call (.Attribute o "pop" apos) [] [] cpos) (tM X.K W (mLM0 uPop mo)) :=
  PE.weak (pe_bm0 PySem.F.plainAttrs_list PySem.F.slot_list_pop PySem.F.type_list_pop mt_pop ho hbase hline) fun σ H Q q => lm0_to ok_pop q
/-! ### insert -/
def uIns (x : U) (us : List U) (h : Sto) : R U := match x, us with
  | .ref n, [.int i, y] => (match h[n]? with
    | some (.lst xs) => if xs.length < 16000000 ∧ 0 ≤ i ∧ i < 1000000000000000000 then .ok .non (h.set n (.lst (xs.take i.toNat ++ [y] ++ xs.drop i.toNat))) else .bad
    | _ => .bad)
  | _, _ => .bad
theorem ok_ins : MtOK K (fun x vs H Q => ∃ (l : Addr) (xs : List V) (i : Int) (y : V), x = .ref l ∧ vs = [.int i, y] ∧ H l = some (.lst xs) ∧ xs.length < sizeLine ∧ 0 ≤ i ∧ i < 2 ^ 63 ∧
    Q .non (upd H l (.lst (xs.take i.toNat ++ [y] ++ xs.drop i.toNat)))) uIns := by
  intro E g H h v x vs us Q hr rx rvs t
  unfold uIns at t
  split at t
  · rename_i n i y
    split at t
    · rename_i xs e1
      split at t
      · rename_i z
        cases rx with
        | ref q =>
          rename_i a
          cases rvs with
          | cons r1 r2 =>
            cases r2 with
            | cons r2 r3 =>
              cases r3
              cases r1
              obtain ⟨ws, h1, h2⟩ := hr.ob n a _ q e1
              exact ⟨a, ws, i, _, rfl, rfl, h1, by rw [h2.len]; exact sz16l z.1, z.2.1, by have := z.2.2; omega, t _ _ g (Le.refl _) (hr.setLst q h1 (((h2.take i.toNat).app (.one r2)).app (h2.drop i.toNat))) .non⟩
      · exact t.elim
    · exact t.elim
  · exact t.elim
theorem se_ins {e1 e2 : Expr} (ho : PE X o (tM X.K W mo)) (ha : PA X [e1, e2] (aM X.K W am)) (hbase : attributeBase o "insert" X.env (eval o X.env) = eval o X.env := by rfl)
    (hfew : ((backTo cpos (starEach [e1, e2] X.env)).all (fun x => !x.1) && (backToKw cpos (keywordEach [] X.env)).all (fun x => x.1.isSome)
      && decide ([e1, e2].length + ([] : List Keyword).length + (if ([] : List Keyword).isEmpty then 0 else 1) < 30)) = true := by rfl)
    (hline : (apos.endLine == cpos.line) = true := by rfl) (hs : starEach [e1, e2] X.env = (false, eval e1 X.env) :: starEach [e2] X.env := by rfl) (hplain : (backTo cpos (starEach [e2] X.env)).any (·.1) = false := by rfl) :
    PE X (.Call (.Attribute o "insert" apos) [e1, e2] [] cpos) (tM X.K W (mLM uIns mo am)) :=
  PE.weak (pe_bm PySem.F.plainAttrs_list PySem.F.slot_list_insert PySem.F.type_list_insert mt_insert ho ha hbase hfew hline hs hplain) fun σ H Q q => lm_to ok_ins q
/-! ### [::-1] of a list -/
def uRev (x : U) (h : Sto) : R U := match aL h x with
  | some us => .ok (.ref h.length) (h ++ [.lst us.reverse])
  | none => .bad
def mRev (a : EM) : EM := fun env h => (a env h).bind uRev
theorem se_rev {k : Nat} {p1 p2 p3 : Pos} (ha : PE X a (tM X.K W ma)) : PE X (.Subscript a (.Slice none none (some (.UnaryOp .USub (.Constant (.int 1) k p1) p2)) p3) pos) (tM X.K W (mRev ma)) :=
  PE.weak (pe_revL ha) fun σ H Q ⟨g, env, h, hr, er, w⟩ => ⟨g, env, h, hr, er, wE w fun u h1 v H1 g1 l1 hr1 rv w1 => by
    unfold uRev at w1
    cases e : aL h1 u with
    | none => rw [e] at w1; exact w1.elim
    | some us =>
      rw [e] at w1
      obtain ⟨a, vs, rfl, h2, r2⟩ := aL_of hr1 rv e
      exact ⟨a, vs, rfl, h2, fun p hp => w1 _ _ _ Le.new (hr1.newLst hp r2.rev) hr1.newRef⟩⟩
/-! ### range downwards -/
/-- hi, hi - 1, .. -/
def rngD (hi : Int) (n : Nat) : List U := (List.range n).map fun i => .int (hi - (i : Nat))
theorem rngD_len (lo : Int) (n : Nat) : (rngD lo n).length = n := by simp [rngD]
theorem rngD_get {lo : Int} {n i : Nat} (h : i < n) : (rngD lo n)[i]? = some (.int (lo - (i : Nat))) := by simp [rngD, h]
theorem it_rangeD {lo : Int} {n : Nat} : ItOk K g (Itc lo (-1) n) [] (rngD lo n) where
  go := fun _ _ _ i _ _ _ hi => by rw [rngD_len] at hi; exact hi
  stop := fun _ _ _ _ _ _ => by rw [rngD_len]; exact Nat.le_refl _
  yl := fun g' H h i x H' _ hr _ hi y => by
    rw [rngD_len] at hi
    obtain ⟨rfl, rfl⟩ := y
    refine ⟨g', _, Le.refl _, hr, rngD_get hi, ?_⟩
    have : lo + (i : Nat) * (-1 : Int) = lo - (i : Nat) := by omega
    rw [this]
    exact .int _
def itR3 (am : AM) : IM' := fun env h => (am env h).bind fun us h1 => match us with
  | [.int i, .int j, .int c] => if (-1000000000 ≤ i ∧ i ≤ 1000000000) ∧ (-1000000000 ≤ j ∧ j ≤ 1000000000) ∧ c = -1 then .ok ([], rngD i (i - j).toNat) h1 else .bad
  | _ => .bad
theorem si_r3 {tg : Expr} (hg : Gl X "range") (hm : X.mg "range" = none) (ha : PA X [a, b, c] (aM X.K W am)) (hs : starEach [a, b, c] X.env = (false, eval a X.env) :: starEach [b, c] X.env := by rfl) (hpl : (backTo pos (starEach [b, c] X.env)).any (·.1) = false := by rfl) :
    PI X tg (.Call (.Name "range" p) [a, b, c] [] pos) (iM X.K W (itR3 am)) :=
  PI.weak (pi_range3 hg hm ha hs hpl) fun σ H Q ⟨g, env, h, hr, er, w⟩ => ⟨g, env, h, hr, er, wAI w fun us h1 v H1 g1 l1 hr1 rv w1 => by
    split at w1
    · split at w1
      · rename_i z
        cases rv with
        | cons r1 r2 =>
          cases r2 with
          | cons r2 r3 =>
            cases r3 with
            | cons r3 r4 =>
              cases r4
              cases r1; cases r2; cases r3
              obtain ⟨z1, z2, rfl⟩ := z
              exact ⟨_, _, _, _, rfl, .neg (by omega) (by omega) (by omega) (by omega), w1 _ H1 g1 (Le.refl _) hr1 it_rangeD⟩
      · exact w1.elim
    · exact w1.elim⟩
end
end Q

set_option Elab.async false
set_option linter.all false
set_option maxRecDepth 100000
set_option maxHeartbeats 1000000
/-! QL: a list comprehension out of which an exception comes. -/
namespace PySem
open HandSPX
section
variable {M : Model} {A : Around} {E : Value → Shared → Prop} {s : Shared} {Z : Obj → Prop} {base : Heap} {env c : Env} {outer l : List Env} {L e : Addr}
/-- the note is made in the frame alone -/
theorem note_same {x : Value} (h : c.frame = env.frame) : noteFrame x c = noteFrame x env := by
  unfold noteFrame frameOf
  rw [h]
/-- held in another hand -/
theorem look_otherZ {fl : Value} {Q : Unit → Shared → Prop} (hZ : Steady Z) (hfr : A.frames = some (env :: outer)) (hf : env.frame = some L) (hkb : base.StaysIn s.heap) (hen : base.get? e = none) (hl : s.heap.FunFrames base (env :: outer))
    (ht : TracedZ s.heap base e Z fl) (hne : (fl == rawInt L) = false)
    (hQ : ∀ h', HeldZ base (env :: outer) e Z L h' → s.heap.UpToSlots h' → Q () { s with heap := h' }) : wpAny M A (noteFrame (.ref e) env) Q E s := by
  obtain ⟨oe, vs, T, oT, ts, he, hz, hd, h1, hnT, hTe, hT, hdT, h3⟩ := ht
  unfold noteFrame
  simp only [hf]
  refine wpAny_bind (wpAny_field he hd h1 ?_)
  rw [if_pos (show (Value.ref T != Value.none) = true from by simp)]
  refine wpAny_bind (wpAny_field hT hdT h3 ?_)
  rw [if_neg (show ¬ ((fl == rawInt L) = true) from by rw [hne]; simp)]
  refine wpAny_bind (wpAny_setField hT hdT (Array.getElem?_eq_some_iff.mp h3).1 ?_)
  have other : ∀ b, b ≠ T → (s.heap.update T (Obj.mapFields (·.setIfInBounds 3 Value.none))).get? b = s.heap.get? b := fun b hb => Heap.get?_update_other _ _ (Ne.symm hb)
  have noRecord : ∀ b o, s.heap.get? b = some o → (∀ vs, o.data ≠ .fields vs) → b ≠ T := fun b o hb hnf q => by
    rw [q, hT] at hb; injection hb with hb; subst hb; exact hnf ts hdT
  refine wpAny_entryZ hZ hfr (hl.of_keeps fun b o hb hnf => ⟨o, (other b (noRecord b o hb hnf)).trans hb, rfl⟩) hf ((other e (Ne.symm hTe)).trans he)
    (fun b o hbo => (other b fun q => by rw [q, hnT] at hbo; cases hbo).trans (hkb b o hbo)) hen hd (Array.getElem?_eq_some_iff.mp h1).1 hz fun h' hN => ?_
  obtain ⟨x1, x2, x3, x4⟩ := hN
  exact hQ h' ⟨x1, hen, x2, x3⟩ fun b o hb hnf => x4 b o ((other b (noRecord b o hb hnf)).trans hb) hnf
/-- the exception goes on out of the block -/
theorem pass_held {α : Type} {what : String} {a : Addr} {Q : α → Shared → Prop} (hf : c.frame = some L) (hh : HeldZ base l a Z L s.heap)
    (hE : ∀ h', HeldZ base l a Z L h' → s.heap.UpToSlots h' → E (.ref a) { s with heap := h' }) : wpAny M A (passOn what (.ref a) c : Sem α) Q E s := by
  obtain ⟨f1, f2, f3, f4⟩ := hh
  obtain ⟨oe, vs, T, oT, ts, he, hz, hd, h1, hnT, hTe, hT, hdT, h3⟩ := id f4
  unfold passOn
  refine wpAny_bind (wpAny_field he hd h1 ?_)
  rw [if_neg (by simp)]
  rw [hf]
  exact wpAny_bind (setFlight_onZ ⟨f1, f2, f3, f4⟩ fun h' hh up => wpAny_throw (hE h' hh up))
/-- a comprehension's shell; an error tells of the block's own env -/
theorem comp_shell {e : Expr} {scope : Scope} {pos : Pos} {newAcc first : Sem Value} {g : Comprehension} {gs : List Comprehension} {cl : List (Str × Addr)} {Q : Value → Shared → Prop}
    (hcl : clausesOf e = g :: gs) (hs : ∀ x, foldedSetIterable g.iter env x = pure x) (hclos : closureFor scope env = pure cl) (hkind : scope.kind = .function) (hnames : ∀ x ∈ scope.names, x.2 = .local → scope.names.lookup x.1 = some .local)
    (h : wpAny M A first (fun x s₁ => wpAny M A (pyIter x) (fun it s₂ => wpAny M A newAcc (fun acc s₃ => wpAny M A (newFunctionEnv scope env.globals cl [] env.qual none .none (some env)) (fun cenv s₄ =>
      codeAny M A (.compStart e 0 it acc { cenv with scope := relabel scope env }) (fun r s' => ∃ m, s'.heap.Ns cenv.locals m ∧ ∀ h', Heap.SameBut cenv.locals s'.heap h' → match r with
        | .ok _ => Q acc { s' with heap := h' }
        | .error x => wpAny M A (passOn "comprehension.variables-let-go" x { cenv with scope := relabel scope env } : Sem Value) Q E { s' with heap := h' }) s₄) E s₃) E s₂) E s₁) E s) :
    wpAny M A (comprehension e scope env pos newAcc false first) Q E s := by
  unfold comprehension
  rw [hclos, hcl]
  refine wpAny_bind (wpAny_mono h (fun x s1 k1 => ?_) fun _ _ z => z)
  refine wpAny_bind (wpAny_standAt (wpAny_bind (wpAny_of_eq (hs x) (wpAny_bind (wpAny_holding (wpAny_mono k1 (fun it s2 k2 => ?_) fun _ _ z => z))))))
  refine wpAny_standIf (wpAny_bind (wpAny_mono k2 (fun acc s3 k3 => ?_) fun _ _ z => z))
  refine wpAny_bind (wpAny_pure (wpAny_bind (wpAny_mono k3 (fun cenv s4 k4 => ?_) fun _ _ z => z)))
  dsimp only
  refine wpAny_holding (wpAny_bind (wpAny_attempt (wpAny_holding (wpAny_run (codeAny_mono k4 fun r s' hr => ?_)))))
  obtain ⟨m, hn, hr⟩ := hr
  have hv : ∀ x ∈ (scope.names.filter fun x => (x.2 == .local || x.2 == .cell) && x.1 != (".0" : Str)).reverse, x.2 = .local → Env.kindOf { cenv with scope := relabel scope env } x.1 = some .local :=
    fun x hx hl => lookup_relabel_local (hnames x (List.mem_filter.mp (List.mem_reverse.mp hx)).1 hl)
  cases r with
  | ok f => exact wpAny_bind (wpAny_holding (wpAny_comp_letGo (cenv := { cenv with scope := relabel scope env }) hkind _ s' m hv hn fun h' m' _ hs' => wpAny_pure (hr h' hs')))
  | error x => exact wpAny_bind (wpAny_holding (wpAny_comp_letGo (cenv := { cenv with scope := relabel scope env }) hkind _ s' m hv hn fun h' m' _ hs' => hr h' hs'))
end
end PySem
namespace L2
open PySem PySem.Spec PyProof.Rows
theorem ff_at {h h' base base' : Heap} : ∀ {l : List Env}, h.FunFrames base l → (∀ L ∈ frs l, h'.get? L = h.get? L) → (∀ L ∈ frs l, base'.get? L = none) → h'.FunFrames base' l
  | [], _, _, _ => trivial
  | env :: l, ⟨hk, ⟨L, o, hf, _, ho, hd⟩, hr⟩, k, n => by
    have m : L ∈ frs (env :: l) := List.mem_filterMap.mpr ⟨env, List.mem_cons_self, hf⟩
    have up : ∀ b, b ∈ frs l → b ∈ frs (env :: l) := fun b hb => by
      obtain ⟨e, he, q⟩ := List.mem_filterMap.mp hb
      exact List.mem_filterMap.mpr ⟨e, List.mem_cons_of_mem _ he, q⟩
    exact ⟨hk, ⟨L, o, hf, n L m, (k L m).trans ho, hd⟩, ff_at hr (fun b hb => k b (up b hb)) fun b hb => n b (up b hb)⟩
section
variable {X : Cx} {pins : List (Addr × Obj)} {σ : L2.St} {H3 H' : Hp} {s3 sI s' : Shared} {B h' : Heap} {W : WX}
/-- the block's exception, noted in the def's frame, the block's names let go: an exception of the def -/
theorem block_out {XB : Cx} {pins' : List (Addr × Obj)} {σ' : L2.St} {fp : List Addr} {a C : Addr} {cls : Value} {d : Option Addr} (I3 : Inv X pins σ H3 s3) (f3 : ∀ b ∈ fp, FpOk X pins H3 b) (hCs : s3.heap.objs.size ≤ C)
    (e1 : XB.s_0 = s3) (e2 : XB.H_0 = H3) (e3 : XB.env.locals = C) (e4 : XB.outer = X.stack) (e5 : XB.ex = fp) (e6 : XB.stack = X.stack) (e7 : XB.prog = X.prog) (e8 : XB.w = X.w)
    (IB : Inv XB pins' σ' H' sI) (nb : ∀ b o, sI.heap.get? b = some o → b ∉ frs X.stack → B.get? b = some o) (up : sI.heap.UpToSlots s'.heap) (held : HandSPX.HeldZ B X.stack a (Zc cls d) X.env.locals s'.heap) (na : H' a = none) (os : s'.os = sI.os) (ag : AllBare s'.gens)
    (hns : ∃ m, s'.heap.Ns C m) (hsb : ∀ b, b ≠ C → h'.get? b = s'.heap.get? b) :
    ∃ (B' : Heap) (sJ : Shared), Inv X pins σ H' sJ ∧ (∀ b o, sJ.heap.get? b = some o → b ∉ frs X.stack → B'.get? b = some o) ∧ sJ.heap.UpToSlots h' ∧ HandSPX.HeldZ B' X.stack a (Zc cls d) X.env.locals h' ∧ s'.os = sJ.os := by
  subst e1; subst e2; subst e5
  obtain ⟨f1, f2, f3', oe, vs, T, oT, ts, he, hz, hd, h1, hnT, hTe, hT, hdT, ht3⟩ := held
  have base : Un (frs X.stack) XB.ex XB.H_0 H' XB.s_0.heap sI.heap := by
    have := IB.base
    rw [show XB.fs = frs X.stack from by show frs XB.outer = _; rw [e4]] at this
    exact this
  -- no record stands at C
  obtain ⟨m, oC, es, ep, hoC, rC⟩ := hns
  have aC : ∀ b o us, s'.heap.get? b = some o → o.data = .fields us → b ≠ C := fun b o us q1 q2 z => by
    subst z
    rw [hoC] at q1
    cases q1
    rw [rC.1] at q2; cases q2
  obtain ⟨B', b1, b2⟩ := restrict B fun b => decide (b ≠ C)
  have frC : ∀ b, b ∈ frs X.stack → b ≠ C := fun b hb z => by
    obtain ⟨_, o, ho, _⟩ := I3.stack.mem hb
    rw [z] at ho
    exact absurd (Nat.lt_of_lt_of_le (Heap.lt_size ho) hCs) (Nat.lt_irrefl _)
  have bB : ∀ b o, B'.get? b = some o → b ≠ C ∧ B.get? b = some o := fun b o e => by
    by_cases z : b = C
    · rw [b2 b (by simp [z])] at e; cases e
    · exact ⟨z, by rw [← b1 b (by simp [z])]; exact e⟩
  have toB : ∀ b o, b ≠ C → B.get? b = some o → B'.get? b = some o := fun b o z e => by rw [b1 b (by simp [z])]; exact e
  obtain ⟨G, g1, g2⟩ := restrict h' fun b => (B'.get? b).isSome || decide (b ∈ frs X.stack)
  have st : B'.StaysIn h' := fun b o e => by
    obtain ⟨z, e⟩ := bB b o e
    rw [hsb b z]; exact f1 b o e
  have gB : ∀ b o, B'.get? b = some o → G.get? b = some o := fun b o e => by
    rw [g1 b (by simp [e])]; exact st b o e
  have gF : ∀ b, b ∈ frs X.stack → G.get? b = s'.heap.get? b := fun b hb => by rw [g1 b (by simp [hb]), hsb b (frC b hb)]
  have og : ∀ b o, G.get? b = some o → h'.get? b = some o ∧ ((B'.get? b).isSome = true ∨ b ∈ frs X.stack) := fun b o e => by
    cases q : ((B'.get? b).isSome || decide (b ∈ frs X.stack)) with
    | false => rw [g2 b q] at e; cases e
    | true =>
      rw [g1 b q] at e
      exact ⟨e, by simpa [Bool.or_eq_true] using q⟩
  have ltC : ∀ b o, XB.s_0.heap.get? b = some o → b ≠ C := fun b o e z => by
    rw [z] at e
    exact absurd (Nat.lt_of_lt_of_le (Heap.lt_size e) hCs) (Nat.lt_irrefl _)
  have toG : ∀ b o, sI.heap.get? b = some o → b ∉ frs X.stack → b ≠ C → G.get? b = some o := fun b o e hb z => gB b o (toB b o z (nb b o e hb))
  have nf : ∀ b ∈ frs X.stack, ∀ o, XB.s_0.heap.get? b = some o → ∀ us, o.data ≠ .fields us := fun b hb o e => by
    obtain ⟨_, o', e', hd'⟩ := I3.stack.mem hb
    rw [e] at e'; cases e'
    exact hd'
  have u : Un (frs X.stack) XB.ex XB.H_0 H' XB.s_0.heap G := by
    refine ⟨fun b o e n hb hc => toG b o (base.keep b o e n hb hc) hb (ltC b o e), fun b o e n hb hc => ?_, base.free, fun b o e hc => ?_, base.tups, base.frzs, base.tbls⟩
    · obtain ⟨sl, q⟩ := base.slot b o e n hb hc
      obtain ⟨sl2, q2⟩ := up b _ q (nf b hb o e)
      exact ⟨sl2, by rw [gF b hb]; exact q2⟩
    · obtain ⟨o', q⟩ := base.there b o e hc
      by_cases hb : b ∈ frs X.stack
      · obtain ⟨sl, q1⟩ := base.slot b o e (I3.stkFree b hb) hb hc
        obtain ⟨sl2, q2⟩ := up b _ q1 (nf b hb o e)
        exact ⟨_, by rw [gF b hb]; exact q2⟩
      · exact ⟨o', toG b o' q hb (ltC b o e)⟩
  have hok : HOk X.prog X.w H' G := fun b o q => by
    have hh := IB.hok b o q
    rw [e7, e8] at hh
    refine hh.stay (fun c v hc r => toG c v r (fun hm => ?_) fun z => ?_) (fun _ r => r) fun _ _ r => r
    · have z := IB.stkFree c (by rw [e6]; exact hm)
      rcases hc with hc | hc
      · rw [hc, q] at z; cases z
      · rw [hc] at z; cases z
    · have z2 := IB.free
      rw [e3, ← z] at z2
      rcases hc with hc | hc
      · rw [hc, q] at z2; cases z2
      · rw [hc] at z2; cases z2
  have J := I3.call (ch := XB.ex) (h' := G) (g' := s'.gens) (t' := s'.toks) (d' := s'.drawn) u hok ag fun b hb => ⟨(f3 b hb).2.2.2.1, (f3 b hb).2.1, (f3 b hb).2.2.2.2.1, (f3 b hb).2.2.2.2.2⟩
  refine ⟨B', _, J, fun b o e hb => ?_, Heap.UpToSlots.of_keeps fun b o e => (og b o e).1, ⟨st, ?_, ?_, oe, vs, T, oT, ts, ?_, hz, hd, h1, ?_, hTe, ?_, hdT, ht3⟩, ?_⟩
  · obtain ⟨e', h⟩ := og b o e
    rcases h with h | h
    · obtain ⟨o', q⟩ := Option.isSome_iff_exists.mp h
      have z := st b o' q
      rw [e'] at z; cases z
      exact q
    · exact absurd h hb
  · cases q : B'.get? a with
    | none => rfl
    | some o => have := (bB a o q).2; rw [f2] at this; cases this
  · refine ff_at f3' (fun L m => hsb L (frC L m)) fun L m => ?_
    cases q : B'.get? L with
    | none => rfl
    | some o =>
      have := (bB L o q).2
      rw [(f3'.mem m).1] at this; cases this
  · rw [hsb a (aC a oe vs he hd)]; exact he
  · cases q : B'.get? T with
    | none => rfl
    | some o => have := (bB T o q).2; rw [hnT] at this; cases this
  · rw [hsb T (aC T oT ts hT hdT)]; exact hT
  · show s'.os = XB.s_0.os
    rw [os, IB.os]
/-- .. noted, its names let go, passed on: it is in the air of the def -/
theorem block_pass {XB : Cx} {fp : List Addr} {C : Addr} {WB : WX} {ce : Env} {Q : Value → Shared → Prop} (hs : X.stack = X.env :: X.outer) (hf : X.env.frame = some X.env.locals) (I3 : Inv X pins σ H3 s3) (f3 : ∀ b ∈ fp, FpOk X pins H3 b) (hCs : s3.heap.objs.size ≤ C)
    (e1 : XB.s_0 = s3) (e2 : XB.H_0 = H3) (e3 : XB.env.locals = C) (e4 : XB.outer = X.stack) (e5 : XB.ex = fp) (e6 : XB.stack = X.stack) (e7 : XB.prog = X.prog) (e8 : XB.w = X.w) (hce : ce.frame = X.env.frame)
    (tk : Takes X W) (hW : ∀ cls d σ' H', WB cls d σ' H' → W cls d σ H') (u : Value) (x : XE XB WB u s') :
    notedBy (model X.prog X.w) X.A ce (fun e s'' => ∃ m, s''.heap.Ns C m ∧ ∀ h', Heap.SameBut C s''.heap h' → wpAny (model X.prog X.w) X.A (passOn "comprehension.variables-let-go" e ce : Sem Value) Q X.xe { s'' with heap := h' }) u s' := by
  obtain ⟨a, B, sI, pins', σ', H', cls, d, rfl, IB, nb, up, sky, na, os, ag, w⟩ := x
  rw [e6] at nb sky
  have hfr : X.A.frames = some (X.env :: X.outer) := by rw [I3.ok.frames, hs]
  have hfC : ce.frame = some X.env.locals := hce.trans hf
  have nC : C ∉ frs X.stack := fun hb => by
    obtain ⟨_, o, ho, _⟩ := I3.stack.mem hb
    exact absurd (Nat.lt_of_lt_of_le (Heap.lt_size ho) hCs) (Nat.lt_irrefl _)
  have LC : C ≠ X.env.locals := fun z => absurd (Nat.lt_of_lt_of_le I3.lt hCs) (by rw [z]; exact Nat.lt_irrefl _)
  obtain ⟨m, ⟨oC, es, ep, hoC, rC⟩, _⟩ := IB.loc
  rw [e3] at hoC
  show wpAny (model X.prog X.w) X.A (noteFrame (.ref a) ce) _ _ _
  rw [note_same hce]
  have fin : ∀ h1, HandSPX.HeldZ B (X.env :: X.outer) a (Zc cls d) X.env.locals h1 → s'.heap.UpToSlots h1 → ∃ m, h1.Ns C m ∧ ∀ h', Heap.SameBut C h1 h' → wpAny (model X.prog X.w) X.A (passOn "comprehension.variables-let-go" (.ref a) ce : Sem Value) Q X.xe { s' with heap := h' } := fun h1 hh up1 => by
    have hn : h1.Ns C m := ⟨oC, es, ep, hh.1 C oC (nb C oC hoC nC), rC⟩
    refine ⟨m, hn, fun h' sb => ?_⟩
    rw [← hs] at hh
    obtain ⟨B', sJ, J, gr, upJ, held, osJ⟩ := block_out (s' := { s' with heap := h1 }) (h' := h') I3 f3 hCs e1 e2 e3 e4 e5 e6 e7 e8 IB nb (up.trans up1) hh na os ag ⟨m, hn⟩ (fun b hb => sb.2 b hb)
    refine pass_held (s := { s' with heap := h' }) hfC held fun h2 held2 up2 => ?_
    exact tk _ _ ⟨a, B', sJ, pins, σ, H', cls, d, rfl, J, gr, upJ.trans up2, .inr (.inr held2), na, osJ, ag, hW _ _ _ _ w⟩
  rw [hs] at sky
  rcases sky with ⟨hB, hn, hl, oe, vs, he, hz, hd, h1⟩ | fl | hh
  · exact HandSPX.look_newZ Zc.steady hfr hl hf he hB hn hd h1 hz fin
  · exact HandSPX.looks_onZ Zc.steady hfr hf fl fin
  · obtain ⟨f1, f2, f3', f4⟩ := hh
    refine look_otherZ Zc.steady hfr hf f1 f2 f3' f4 ?_ fin
    rw [e3]
    simp [rawInt]
    exact fun z => LC (Int.ofNat_inj.mp z)
theorem Inv.reX {xe : Value → Shared → Prop} {pins : List (Addr × Obj)} {H : Hp} {s : Shared} (I : Inv X pins σ H s) : Inv { X with xe := xe } pins σ H s :=
  ⟨⟨I.ok.mod, I.ok.kind, I.ok.glob, I.ok.blt, I.ok.above, I.ok.inj, I.ok.has, I.ok.cab, I.ok.hd, I.ok.frames, I.ok.stk, I.ok.exf, I.ok.bs, I.ok.bsz, I.ok.noex, I.ok.exfs, I.ok.funs, I.ok.frf⟩,
    I.os, I.bare, I.base, I.loc, I.cell, I.free, I.freeC, I.pin, I.hok, I.len⟩
theorem Inv.unX {xe : Value → Shared → Prop} {pins : List (Addr × Obj)} {H : Hp} {s : Shared} (I : Inv { X with xe := xe } pins σ H s) : Inv X pins σ H s :=
  ⟨⟨I.ok.mod, I.ok.kind, I.ok.glob, I.ok.blt, I.ok.above, I.ok.inj, I.ok.has, I.ok.cab, I.ok.hd, I.ok.frames, I.ok.stk, I.ok.exf, I.ok.bs, I.ok.bsz, I.ok.noex, I.ok.exfs, I.ok.funs, I.ok.frf⟩,
    I.os, I.bare, I.base, I.loc, I.cell, I.free, I.freeC, I.pin, I.hok, I.len⟩
theorem XE.unX {xe : Value → Shared → Prop} {u : Value} (x : XE { X with xe := xe } W u s') : XE X W u s' := by
  obtain ⟨a, B, sI, pins, σ, H, cls, d, e, I, nb, up, sky, na, os, ag, w⟩ := x
  exact ⟨a, B, sI, pins, σ, H, cls, d, e, I.unX, nb, up, sky, na, os, ag, w⟩
/-- the block's context, its exceptions taken by xe -/
abbrev Cx.blkX (X : Cx) (s : Shared) (H : Hp) (scope : Scope) (cenv : Env) (fp : List Addr) (xe : Value → Shared → Prop) : Cx := { X.blk s H scope cenv fp with xe := xe }
/-- [elt for target in iter if ..], exceptions of elt going out -/
theorem pe_lcX {elt tg iter : Expr} {ifs : List Expr} {scope : Scope} {own : List (Str × Nat)} {pos : Pos} {wi : TI} {g : TG} {tt : TT} {te : WX → TE} (hc : X.calm = true) (hN : X.N.Nodup) (hs : X.stack = X.env :: X.outer) (hf : X.env.frame = some X.env.locals) (tk : Takes X W)
    (hi : PI X tg iter wi) (ok : BlkOk X.N X.env.scope scope own)
    (hg : ∀ (s : Shared) (H : Hp) (C : Addr) (cl : List (Str × Addr)) (fp : List Addr) (xe : Value → Shared → Prop), PG (X.blkX s H scope (compEnvC scope cl C X.env) fp xe) tg g)
    (ht : ∀ (s : Shared) (H : Hp) (C : Addr) (cl : List (Str × Addr)) (fp : List Addr) (xe : Value → Shared → Prop), PTs (X.blkX s H scope (compEnvC scope cl C X.env) fp xe) ifs tt)
    (he : ∀ (s : Shared) (H : Hp) (C : Addr) (cl : List (Str × Addr)) (fp : List Addr) (xe : Value → Shared → Prop) (W' : WX), Takes (X.blkX s H scope (compEnvC scope cl C X.env) fp xe) W' → PE (X.blkX s H scope (compEnvC scope cl C X.env) fp xe) elt (te W'))
    (hsi : ∀ x, foldedSetIterable iter X.env x = pure x := by intro _; rfl) :
    PE X (.ListComp elt [⟨tg, iter, ifs, 0⟩] scope pos) (fun σ H Q => tLc wi g tt (te fun cls d _ H' => W cls d σ H') (own.map (·.2)) σ H Q) := by
  refine ⟨fun pins s σ H Q I h => ?_⟩
  rw [eval_ListComp]
  have hfree : ∀ y ∈ scope.names, y.2 = .free → ∃ c, X.env.cells.lookup y.1 = some c := fun y hy e => by
    rcases ok.free y hy e with k | k
    · exact I.ok.has _ (.inl k)
    · exact I.ok.has _ (.inr k)
  refine comp_shell rfl hsi (closure_ok hfree) ok.kind (fun y hy e => by rw [ok.uniq y hy, e]) (thn (hi.run pins s σ H _ I h) fun xv s1 hx => thn hx fun itv s2 h2 => ?_)
  obtain ⟨it, fp, tn, J, H2, e, I2, T, st2, f2, q⟩ := h2
  subst e
  refine wpAny_newObj_type (newEnv_comp ?_) (by show 0 ≤ sizeLine; decide)
  generalize hD : s2.heap.objs.size = D
  have hDn : H2 D = none := I2.hok.fresh (Nat.le_of_eq hD)
  obtain ⟨Wm, ⟨m0, w0⟩, turn⟩ := q D hDn
  generalize hs3 : ({ s2 with heap := s2.heap.push { cls := .type "list", data := .seq ([] : List Value).toArray } } : Shared) = s3
  have I3 : Inv X pins σ (upd H2 D (.lst [])) s3 := by
    rw [← hs3]
    refine I2.laid (t' := s2.toks) (fun b o e => Heap.get?_push_of_some _ e) (Nat.le_of_eq hD) ⟨Nat.zero_le _, [], 0, .nil, ?_⟩
    rw [← hD]
    exact Heap.get?_push_size _ rfl
  have h3 : s3.heap = s2.heap.push { cls := .type "list", data := .seq ([] : List Value).toArray } := by rw [← hs3]
  have f3 : ∀ b ∈ fp, FpOk X pins (upd H2 D (.lst [])) b ∧ b < s3.heap.objs.size := fun b hb => by
    obtain ⟨o, e, _⟩ := T.obj _ _ st2 b hb
    have hlt := Heap.lt_size e
    refine ⟨⟨?_, (f2 b hb).2⟩, by rw [h3, Heap.size_push]; exact Nat.lt_succ_of_lt hlt⟩
    rw [upd_ne (by rw [← hD]; exact Nat.ne_of_lt hlt)]
    exact (f2 b hb).1
  have st3 : tn 0 s3.heap := T.keep _ _ _ st2 fun b _ o e => by rw [h3]; exact Heap.get?_push_of_some _ e
  have I4 := block_start I3 ok hN f3
  show codeAny (model X.prog X.w) X.A (.compStart (.ListComp elt [⟨tg, iter, ifs, 0⟩] scope pos) 0 (.ref it) (.ref D) (compEnvC scope (cellsFrom (s3.heap.objs.size + 1) scope.names (cloFrom X.env.cells scope.names [])) s3.heap.objs.size X.env))
    (fun r s' => ∃ m, s'.heap.Ns s3.heap.objs.size m ∧ ∀ h', Heap.SameBut s3.heap.objs.size s'.heap h' → match r with
      | .ok _ => EP X pins σ Q (.ref D) { s' with heap := h' }
      | .error x => wpAny (model X.prog X.w) X.A (passOn "comprehension.variables-let-go" x (compEnvC scope (cellsFrom (s3.heap.objs.size + 1) scope.names (cloFrom X.env.cells scope.names [])) s3.heap.objs.size X.env) : Sem Value) (EP X pins σ Q) X.xe { s' with heap := h' })
    { s3 with heap := pushCells (s3.heap.push { cls := .type "dict", data := .dict #[] }) scope.names }
  generalize hcl : cellsFrom (s3.heap.objs.size + 1) scope.names (cloFrom X.env.cells scope.names []) = cl at I4 ⊢
  have pg := hg s3 (upd H2 D (.lst [])) s3.heap.objs.size cl fp
  have pt := ht s3 (upd H2 D (.lst [])) s3.heap.objs.size cl fp
  have pe := he s3 (upd H2 D (.lst [])) s3.heap.objs.size cl fp
  have nfp : ∀ b ∈ fp, (upd H2 D (.lst [])) b = none := fun b hb => (f3 b hb).1.1
  generalize hce : compEnvC scope cl s3.heap.objs.size X.env = ce at I4 pg pt pe ⊢
  have cL : ce.locals = s3.heap.objs.size := by subst hce; rfl
  have cF : ce.frame = X.env.frame := by subst hce; rfl
  generalize hH3 : upd H2 D (.lst []) = H3 at I3 I4 pg pt pe w0 nfp f3
  -- the exceptions
  generalize hWB : (fun cls d (_ : L2.St) H' => W cls d σ H' : WX) = WB at turn
  generalize hxe : XE (X.blk s3 H3 scope ce fp) WB = xe
  have tkB : Takes (X.blkX s3 H3 scope ce fp xe) WB := fun u s' x => by
    show xe u s'
    rw [← hxe]
    exact XE.unX x
  have pg := pg xe
  have pt := pt xe
  have pe := pe xe WB tkB
  generalize hR : (fun (r : Result) (s' : Shared) => ∃ m, s'.heap.Ns s3.heap.objs.size m ∧ ∀ h', Heap.SameBut s3.heap.objs.size s'.heap h' → match r with
      | .ok _ => EP X pins σ Q (.ref D) { s' with heap := h' }
      | .error x => wpAny (model X.prog X.w) X.A (passOn "comprehension.variables-let-go" x ce : Sem Value) (EP X pins σ Q) X.xe { s' with heap := h' }) = R
  have hW : ∀ cls d σ' H', WB cls d σ' H' → W cls d σ H' := by rw [← hWB]; exact fun _ _ _ _ z => z
  have errB : ∀ u s', xe u s' → notedBy (model X.prog X.w) X.A ce (fun e s'' => R (.error e) s'') u s' := fun u s' x => by
    rw [← hxe] at x
    rw [← hR]
    exact block_pass (XB := X.blk s3 H3 scope ce fp) (fp := fp) (C := s3.heap.objs.size) (Q := EP X pins σ Q) hs hf I3 (fun b hb => (f3 b hb).1) (Nat.le_refl _) rfl rfl cL rfl rfl rfl rfl rfl cF tk hW u x
  generalize hs4 : ({ s3 with heap := pushCells (s3.heap.push { cls := .type "dict", data := .dict #[] }) scope.names } : Shared) = s4 at I4 ⊢
  have I4 : Inv (X.blkX s3 H3 scope ce fp xe) [] (wipe σ (own.map (·.2))) H3 s4 := I4.reX
  have st4 : tn 0 s4.heap := T.keep _ _ _ st3 fun b _ o e => by rw [← hs4]; exact pushCells_keeps _ _ _ _ (Heap.get?_push_of_some _ e)
  have stat : ∀ {σ' : L2.St} {H' : Hp} {s' : Shared}, Inv (X.blkX s3 H3 scope ce fp xe) [] σ' H' s' → (∀ b ∈ fp, H' b = none) → ∀ b ∈ fp, FpOk (X.blkX s3 H3 scope ce fp xe) [] H' b := fun {σ' H' s'} I' hn b hb =>
    ⟨hn b hb, (I'.ok.exf b hb).1, I'.ok.exfs b hb, .inl hb, fun x c e => (I'.ok.exf b hb).2 x c e, fun p hp => absurd (show p ∈ ([] : List (Addr × Obj)) ++ [] from hp) (by simp)⟩
  have loop : codeAny (model X.prog X.w) X.A (.compLoop (.ListComp elt [⟨tg, iter, ifs, 0⟩] scope pos) 0 (.ref it) (.ref D) ce) R s4 := by
    refine compLoop_any (fun n s' => ∃ i H', Inv (X.blkX s3 H3 scope ce fp xe) [] (wipe σ (own.map (·.2))) H' s' ∧ tn i s'.heap ∧ (∀ b ∈ fp, H' b = none) ∧ Wm i n H') ?_ m0 ⟨0, H3, I4, st4, nfp, w0⟩
    rintro n s5 ⟨i, H5, I5, st5, n5, w5⟩
    rcases turn i n H5 w5 with ⟨stop, qq⟩ | ⟨go, Nx, hNx, step⟩
    · have td := T.done (X.blkX s3 H3 scope ce fp xe) rfl rfl rfl hc i [] s5 _ H5 (fun _ _ => False) I5 (stat I5 n5) st5 stop
      refine thnF td fun r s6 ⟨hr, I6⟩ => ?_
      subst hr
      have I7 : Inv X pins σ H5 s6 := I3.call' (ch := fp) I6.os I6.base I6.hok I6.bare fun b hb => ⟨(f3 b hb).1.2.2.2.1, (f3 b hb).1.2.1, (f3 b hb).1.2.2.2.2.1, (f3 b hb).1.2.2.2.2.2⟩
      have nC : H5 s3.heap.objs.size = none := by
        have z : H5 ce.locals = none := I6.free
        rw [cL] at z
        exact z
      obtain ⟨m, hn, _⟩ := I6.loc
      have hn : s6.heap.Ns ce.locals m := hn
      rw [cL] at hn
      show R (.ok .next) s6
      rw [← hR]
      refine ⟨m, hn, fun h'' sb => ?_⟩
      obtain ⟨p0, p1, p2, p3, p4, p5⟩ := I3.fpOk (H' := H5) (Nat.le_refl _) nC
      exact ⟨.ref D, H5, I7.turned (t' := s6.toks) (fun b o hb e => (sb.2 b hb).trans e) p0 p1 p3 p4 p5, rfl, qq⟩
    · have ti := T.item (X.blkX s3 H3 scope ce fp xe) rfl rfl rfl hc i [] s5 _ H5 (fun _ _ => False) I5 (stat I5 n5) st5 go
      refine thnF ti fun r s6 ⟨u, hr, h6⟩ => ?_
      subst hr
      refine thnF h6 fun _ s7 ⟨x, H7, I7, r7, y7, st7, n7⟩ => ?_
      have I7' := I7.pinned (stat I7 n7) (T.obj _ _ st7)
      refine wpAny_mono (pg.run _ s7 _ H7 x u _ I7' r7 (step x H7 y7)) (fun _ s8 ⟨σ8, H8, I8, hw8, q8⟩ => ?_) errB
      refine wpAny_mono (pt.run _ s8 σ8 H8 _ I8 q8) (fun b s9 ⟨H9, I9, q9⟩ => ?_) errB
      have fin : ∀ {s' : Shared} {H' : Hp}, Inv (X.blkX s3 H3 scope ce fp xe) ([] ++ pinsAt fp s7.heap) σ8 H' s' → Nx H' → ∃ m, m < n ∧ ∃ i H', Inv (X.blkX s3 H3 scope ce fp xe) [] (wipe σ (own.map (·.2))) H' s' ∧ tn i s'.heap ∧ (∀ b ∈ fp, H' b = none) ∧ Wm i m H' := fun {s' H'} I' nx => by
        obtain ⟨m', hm, w'⟩ := hNx H' nx
        have pin' : ∀ b ∈ fp, ∀ o, s7.heap.get? b = some o → s'.heap.get? b = some o ∧ H' b = none := fun b hb o e =>
          let z := I'.pin (b, o) (List.mem_append_right _ (List.mem_append_right _ (mem_pinsAt hb e)))
          ⟨z.1, z.2.1⟩
        have hl : (wipe σ (own.map (·.2))).length = σ8.length := by rw [← hw8, wipe_length]
        refine ⟨m', hm, i + 1, H', (I'.unpinned (pins := [])).weak hl (fun j v e => ?_), T.keep _ _ _ st7 fun b hb o e => (pin' b hb o e).1, fun b hb => ?_, w'⟩
        · rw [← hw8] at e
          exact (wipe_some e).1
        · obtain ⟨o, e, _⟩ := T.obj _ _ st7 b hb
          exact (pin' b hb o e).2
      cases b with
      | false =>
        simp only [Bool.false_eq_true, if_false] at q9 ⊢
        exact fin I9 q9
      | true =>
        simp only [if_true] at q9 ⊢
        refine wpAny_mono (pe.run _ s9 σ8 H9 _ I9 q9) (fun z s10 ⟨yv, H10, I10, r10, acc, hD10, hz10, nx⟩ => ?_) errB
        exact app_ok (X := X.blkX s3 H3 scope ce fp xe) I10 hD10 hz10 r10 fun s11 I11 => fin I11 nx
  exact codeAny_compStart_list loop (T.self X.A 0 _ _ _ st4 loop)
end
end L2

set_option Elab.async false
set_option linter.all false
set_option maxRecDepth 100000
set_option maxHeartbeats 1000000
/-! QM: comprehensions whose items may raise. -/
namespace Q
open PySem PySem.Spec PyProof.Rows L2 TL
section
variable {K : Fr} {g g' : G} {E : XK} {W : WX} {X : Cx} {H : Hp} {h : Sto} {σ : L2.St} {env : Env'} {tg iter elt : Expr} {ct : CT} {mi : IM'} {ta : TM} {me : EM} {ifs : List Expr} {scope : Scope} {own : List (Str × Nat)} {pos : Pos}
open Classical in
noncomputable def lcLX (c : Chk) (ct : CT) (t : TM) (me : EM) (n : Nat) (env : Env') : List U → Sto → R U
  | [], h => if chkOk c h then .ok (.ref n) h else .bad
  | u :: us, h => if chkOk c h then (match ct.asg u env h with
      | some env1 => (t env1 h).no.bind fun b h1 => if b = true then (me env1 h1).bind fun y h2 => (match h2[n]? with
          | some (.lst acc) => if acc.length < 16000000 then lcLX c ct t me n env us (h2.set n (.lst (acc ++ [y]))) else .bad
          | _ => .bad) else lcLX c ct t me n env us h1
      | none => .bad) else .bad
noncomputable def mLcX (mi : IM') (ct : CT) (t : TM) (me : EM) (vs : List Nat) : EM := fun env h => (mi env h).bind fun z h1 => lcLX z.1 ct t me h1.length (wipeE env vs) z.2 (h1 ++ [.lst []])
theorem lc_toX {J : It} {c : Chk} {us : List U} {Q : VK} {vs : List Nat} {tt : TT} {te : TE} {H1 : Hp} {h1 : Sto} {env : Env'} {D : Addr} (hct : ∀ i ∈ ct.ix, i ∈ vs) (ht : ∀ σ H Q, bM K W0 ta σ H Q → tt σ H Q)
    (he : ∀ σ2 H Q, tM K (fun cls d _ H' => W cls d σ H') me σ2 H Q → te σ2 H Q)
    (hr : HR K g H1 h1) (er : ER K g σ env) (ok : ItOk K g J c us) (hD : H1 D = none) (w : WE K (atSl W σ) g (lcLX c ct ta me h1.length (wipeE env vs) us (h1 ++ [.lst []])) Q) :
    ∃ W : Nat → Nat → Hp → Prop, (∃ m, W 0 m (upd H1 D (.lst []))) ∧ ∀ i m H, W i m H →
      (J.stop i H ∧ Q (.ref D) H) ∨ (J.go i H ∧ ∃ Nx : Hp → Prop, (∀ H', Nx H' → ∃ m', m' < m ∧ W (i + 1) m' H') ∧ ∀ x H', J.yld i H x H' → ct.rd K x (wipe σ vs) H' fun σ2 H2 => wipe σ2 vs = wipe σ vs ∧ tt σ2 H2 fun b H3 =>
        if b = true then te σ2 H3 fun y H4 => ∃ acc, H4 D = some (.lst acc) ∧ acc.length < sizeLine ∧ Nx (upd H4 D (.lst (acc ++ [y]))) else Nx H3) := by
  have hDn : (g.new D).al[h1.length]? = some D := by
    show (g.al ++ [D])[h1.length]? = _
    rw [← hr.len]; simp
  have hr0 : HR K (g.new D) (upd H1 D (.lst [])) (h1 ++ [.lst []]) := hr.newLst hD .nil
  refine ⟨fun i m H => m = us.length - i ∧ i ≤ us.length ∧ ∃ g' h, Le (g.new D) g' ∧ HR K g' H h ∧ WE K (atSl W σ) g' (lcLX c ct ta me h1.length (wipeE env vs) (us.drop i) h) Q, ⟨us.length, by simp, Nat.zero_le _, g.new D, _, Le.refl _, hr0, WE.mono Le.new w⟩, ?_⟩
  rintro i m H ⟨rfl, hi, g', h, l, hr, w⟩
  have l0 : Le g g' := Le.new.trans l
  have hn' : g'.al[h1.length]? = some D := l.get hDn
  by_cases hlt : i < us.length
  · rw [List.drop_eq_getElem_cons hlt] at w
    unfold lcLX at w
    split at w
    · rename_i ck
      refine .inr ⟨ok.go g' H h i l0 hr ck hlt, fun H' => i + 1 ≤ us.length ∧ ∃ g2 h, Le (g.new D) g2 ∧ HR K g2 H' h ∧ WE K (atSl W σ) g2 (lcLX c ct ta me h1.length (wipeE env vs) (us.drop (i + 1)) h) Q, fun H' q => ⟨us.length - (i + 1), by omega, rfl, q⟩, fun x H' y => ?_⟩
      obtain ⟨g2, u, l2, hr2, hu, ru⟩ := ok.yl g' H h i x H' l0 hr ck hlt y
      have eu : us[i] = u := by
        rw [List.getElem?_eq_getElem hlt] at hu
        exact Option.some.inj hu
      rw [eu] at w
      cases ea : ct.asg u (wipeE env vs) h with
      | none => rw [ea] at w; exact w.elim
      | some env1 =>
        rw [ea] at w
        have w : WE K (atSl W σ) g' ((ta env1 h).no.bind _) Q := w
        refine ct_to hr2 ((er.wipe vs).mono (l0.trans l2)) ru ea fun σ2 er2 hw => ⟨by rw [hw vs hct, wipe_wipe], ht _ _ _ ⟨g2, env1, h, hr2, er2, ?_⟩⟩
        refine wTno (WE.mono l2 w) fun b h2 H2 g3 l3 hr3 w3 => ?_
        have er3 := er2.mono l3
        cases b with
        | false => exact ⟨hlt, g3, h2, (l.trans l2).trans l3, hr3, w3⟩
        | true =>
          have w3 : WE K (atSl W σ) g3 ((me env1 h2).bind _) Q := w3
          refine he _ _ _ ⟨g3, env1, h2, hr3, er3, ?_⟩
          show WE K (atSl W σ) g3 (me env1 h2) _
          refine wE w3 fun y h3 vy H3 g4 l4 hr4 ry w4 => ?_
          have hn4 : g4.al[h1.length]? = some D := ((l2.trans l3).trans l4).get hn'
          split at w4
          · rename_i acc e4
            split at w4
            · rename_i z
              obtain ⟨vacc, h5, r5⟩ := hr4.ob _ _ _ hn4 e4
              exact ⟨vacc, h5, by rw [r5.len]; exact sz16l z, hlt, g4, _, ((l.trans l2).trans l3).trans l4, hr4.setLst hn4 h5 (r5.app (.one ry)), w4⟩
            · exact w4.elim
          · exact w4.elim
    · exact w.elim
  · have e : i = us.length := by omega
    subst e
    rw [List.drop_length] at w
    unfold lcLX at w
    split at w
    · rename_i ck
      exact .inl ⟨ok.stop g' H h l0 hr ck, w (.ref D) H g' (Le.refl _) hr (.ref hn')⟩
    · exact w.elim
abbrev BlkX (X : Cx) (scope : Scope) (P : Cx → Prop) : Prop := ∀ (s : Shared) (H : Hp) (C : Addr) (cl : List (Str × Addr)) (fp : List Addr) (xe : Value → Shared → Prop), P (X.blkX s H scope (compEnvC scope cl C X.env) fp xe)
theorem se_lcX {vs : List Nat} (hc : X.calm = true) (hN : X.N.Nodup) (hs : X.stack = X.env :: X.outer) (hf : X.env.frame = some X.env.locals) (tk : Takes X W) (hi : PI X tg iter (iM X.K W mi)) (ok : BlkOk X.N X.env.scope scope own) (hv : own.map (·.2) = vs) (hct : ∀ i ∈ ct.ix, i ∈ vs)
    (hg : BlkX X scope fun Y => PG Y tg (ct.rd X.K)) (ht : BlkX X scope fun Y => PTs Y ifs (bM X.K W0 ta))
    (he : ∀ (s : Shared) (H : Hp) (C : Addr) (cl : List (Str × Addr)) (fp : List Addr) (xe : Value → Shared → Prop) (W' : WX), Takes (X.blkX s H scope (compEnvC scope cl C X.env) fp xe) W' → PE (X.blkX s H scope (compEnvC scope cl C X.env) fp xe) elt (tM X.K W' me))
    (hsi : ∀ x, foldedSetIterable iter X.env x = pure x := by intro _; rfl) :
    PE X (.ListComp elt [⟨tg, iter, ifs, 0⟩] scope pos) (tM X.K W (mLcX mi ct ta me vs)) := by
  subst hv
  refine PE.weak (pe_lcX (te := fun W' => tM X.K W' me) hc hN hs hf tk hi ok hg ht he hsi) fun σ H Q q => ?_
  obtain ⟨g, env, h, hr, er, w⟩ := q
  refine ⟨g, env, h, hr, er, ?_⟩
  unfold mLcX at w
  cases e : mi env h with
  | bad => rw [e] at w; exact w
  | exc C n h => rw [e] at w; exact w
  | ok z h1 =>
    obtain ⟨c, us⟩ := z
    rw [e] at w
    have w : WE X.K (atSl W σ) g (lcLX c ct ta me h1.length (wipeE env (own.map (·.2))) us (h1 ++ [.lst []])) Q := w
    exact fun J H1 g1 l1 hr1 ok D hD => lc_toX hct (fun _ _ _ z => z) (fun _ _ _ z => z) hr1 (er.mono l1) ok hD (WE.mono l1 w)
theorem pg_lstA {is : List Nat} {elts : List Expr} {kk : Nat} (hc : X.calm = true) (hg : PGs X elts (gAll is)) (hn : (assignEach elts X.env).length = is.length := by rfl) (hst : (assignEach elts X.env).findIdx? (·.1) = none := by rfl) : PG X (.Tuple elts kk pos) ((CT.lst is).rd X.K) := pg_unl hc hg hn hst
end
end Q

set_option Elab.async false
set_option linter.all false
set_option maxRecDepth 100000
set_option maxHeartbeats 1000000
/-! QS: sorted of texts, sorted and list of a dict. -/
namespace Q
open PySem PySem.Spec PyProof.Rows L2 TL
def ltL : List Nat → List Nat → Bool
  | [], [] => false
  | [], _ :: _ => true
  | _ :: _, [] => false
  | a :: r, b :: t => a < b || (a == b && ltL r t)
theorem ltL_eq : ∀ a b, ltL a b = ltCps a b
  | [], [] => rfl
  | [], _ :: _ => rfl
  | _ :: _, [] => rfl
  | a :: r, b :: t => by unfold ltL ltCps; rw [ltL_eq r t]
theorem ltL_iff : ∀ {a b : List Nat}, ltL a b = true ↔ a < b
  | [], [] => by simp [ltL]
  | [], b :: t => by simp [ltL]
  | a :: r, [] => by simp [ltL]
  | a :: r, b :: t => by
    unfold ltL
    rw [List.cons_lt_cons_iff, ← ltL_iff (a := r) (b := t)]
    simp
theorem ltL_f {a b : List Nat} : ltL a b = false ↔ b ≤ a := by
  rw [← List.not_lt, ← ltL_iff]; simp
def insS (x : List Nat) : List (List Nat) → List (List Nat)
  | [] => [x]
  | y :: r => if ltL y x = true then y :: insS x r else x :: y :: r
def sortS (ss : List (List Nat)) : List (List Nat) := ss.foldr insS []
theorem insS_perm : ∀ {x : List Nat} {r : List (List Nat)}, (insS x r).Perm (x :: r)
  | x, [] => .refl _
  | x, y :: r => by
    unfold insS
    split
    · exact ((insS_perm (r := r)).cons y).trans (.swap x y r)
    · exact .refl _
theorem insS_srt : ∀ {x : List Nat} {r : List (List Nat)}, r.Pairwise (· ≤ ·) → (insS x r).Pairwise (· ≤ ·)
  | x, [], _ => by simp [insS]
  | x, y :: r, p => by
    rw [List.pairwise_cons] at p
    unfold insS
    split
    · rename_i c
      have c := ltL_iff.mp c
      refine List.pairwise_cons.mpr ⟨fun z hz => ?_, insS_srt p.2⟩
      rcases List.mem_cons.mp (insS_perm.mem_iff.mp hz) with rfl | hz
      · exact List.le_of_lt c
      · exact p.1 z hz
    · rename_i c
      have c := ltL_f.mp (by simpa using c)
      refine List.pairwise_cons.mpr ⟨fun z hz => ?_, List.pairwise_cons.mpr p⟩
      rcases List.mem_cons.mp hz with rfl | hz
      · exact c
      · exact List.le_trans c (p.1 z hz)
theorem sortS_perm : ∀ {ss : List (List Nat)}, (sortS ss).Perm ss
  | [] => .refl _
  | x :: r => insS_perm.trans ((sortS_perm (ss := r)).cons x)
theorem sortS_srt : ∀ {ss : List (List Nat)}, (sortS ss).Pairwise (· ≤ ·)
  | [] => .nil
  | x :: r => insS_srt (sortS_srt (ss := r))
theorem srtS_uniq : ∀ {xs ys : List (List Nat)}, xs.Perm ys → xs.Pairwise (· ≤ ·) → ys.Pairwise (· ≤ ·) → xs = ys
  | [], ys, p, _, _ => by rw [List.nil_perm.mp p]
  | x :: xs, [], p, _, _ => by have := p.length_eq; simp at this
  | x :: xs, y :: ys, p, a, b => by
    rw [List.pairwise_cons] at a b
    have e : x = y := by
      have h1 : x ∈ y :: ys := p.mem_iff.mp List.mem_cons_self
      have h2 : y ∈ x :: xs := p.mem_iff.mpr List.mem_cons_self
      rcases List.mem_cons.mp h1 with h1 | h1
      · exact h1
      · rcases List.mem_cons.mp h2 with h2 | h2
        · exact h2.symm
        · exact List.le_antisymm (a.1 _ h2) (b.1 _ h1)
    subst e
    rw [srtS_uniq (p.cons_inv) a.2 b.2]
theorem rising_pw : ∀ {r : List Str} {p : Str}, risingS p r = true → (∀ z ∈ r, p.cps.toList ≤ z.cps.toList) ∧ (r.map fun s => s.cps.toList).Pairwise (· ≤ ·)
  | [], _, _ => ⟨(fun _ m => nomatch m), .nil⟩
  | x :: r, p, h => by
    unfold risingS at h
    rw [Bool.and_eq_true, Bool.not_eq_true', ← ltL_eq, ltL_f] at h
    obtain ⟨a, b⟩ := rising_pw h.2
    refine ⟨fun z hz => ?_, ?_⟩
    · rcases List.mem_cons.mp hz with rfl | hz
      · exact h.1
      · exact List.le_trans h.1 (a z hz)
    · rw [List.map_cons, List.pairwise_cons]
      refine ⟨fun z hz => ?_, b⟩
      obtain ⟨s, hs, rfl⟩ := List.mem_map.mp hz
      exact a s hs
theorem sorted_pw {r : List Str} (h : sortedS r = true) : (r.map fun s => s.cps.toList).Pairwise (· ≤ ·) := by
  cases r with
  | nil => exact .nil
  | cons x r =>
    obtain ⟨a, b⟩ := rising_pw (show risingS x r = true from h)
    rw [List.map_cons, List.pairwise_cons]
    refine ⟨fun z hz => ?_, b⟩
    obtain ⟨s, hs, rfl⟩ := List.mem_map.mp hz
    exact a s hs
abbrev ofL (s : List Nat) : Str := ⟨s.toArray⟩
theorem ofL_to (s : Str) : ofL s.cps.toList = s := by cases s; simp [ofL]
/-- what sorted gives is what sortS gives -/
theorem sorted_is {ss : List (List Nat)} {ys : List Str} (p : ys.Perm (ss.map ofL)) (s : sortedS ys = true) : ys = (sortS ss).map ofL := by
  have e : ys = (ys.map fun s => s.cps.toList).map ofL := by
    rw [List.map_map]
    conv => lhs; rw [← List.map_id ys]
    refine List.map_congr_left fun x _ => ?_
    exact (ofL_to x).symm
  rw [e]
  congr 1
  refine srtS_uniq ?_ (sorted_pw s) sortS_srt
  have := p.map fun s => s.cps.toList
  rw [List.map_map] at this
  have e2 : List.map ((fun s => s.cps.toList) ∘ ofL) ss = ss := by
    conv => rhs; rw [← List.map_id ss]
    exact List.map_congr_left fun x _ => by simp [ofL]
  rw [e2] at this
  exact this.trans sortS_perm.symm
section
variable {K : Fr} {g g' : G} {E : XK} {W : WX} {X : Cx} {H : Hp} {h : Sto} {v w : V} {x y : U} {σ : L2.St} {env : Env'} {e : Expr} {es : List Expr} {am : AM} {pos p : Pos} {n : Str}
def strsU : List U → Option (List (List Nat))
  | [] => some []
  | .str s :: r => (strsU r).map (s :: ·)
  | _ :: _ => none
theorem strsU_eq : ∀ {us : List U} {ss : List (List Nat)}, strsU us = some ss → us = ss.map U.str
  | [], ss, q => by cases q; rfl
  | .str s :: r, ss, q => by
    unfold strsU at q
    cases q1 : strsU r with
    | none => rw [q1] at q; cases q
    | some ms => rw [q1] at q; cases q; rw [strsU_eq q1]; rfl
  | .non :: _, _, q => by cases q
  | .bl _ :: _, _, q => by cases q
  | .int _ :: _, _, q => by cases q
  | .tup _ :: _, _, q => by cases q
  | .fl _ :: _, _, q => by cases q
  | .kl _ :: _, _, q => by cases q
  | .ref _ :: _, _, q => by cases q
def keysS : List (DK × U) → Option (List (List Nat))
  | [] => some []
  | (.inr s, _) :: r => (keysS r).map (s :: ·)
  | _ :: _ => none
theorem keysS_of : ∀ {us : List (DK × U)} {vs : List (Key × V)} {ss : List (List Nat)}, RepK K g vs us → keysS us = some ss → vs.map (·.1) = (ss.map ofL).map Sum.inr ∧ vs.length = ss.length
  | _, _, _, .nil, q => by cases q; exact ⟨rfl, rfl⟩
  | _, _, _, .cons (k := .inl i) h r, q => by cases q
  | _, _, ss, .cons (k := .inr s) (us := us) h r, q => by
    unfold keysS at q
    cases q1 : keysS us with
    | none => rw [q1] at q; cases q
    | some ms =>
      rw [q1] at q; cases q
      obtain ⟨a, b⟩ := keysS_of r q1
      refine ⟨?_, by simp [b]⟩
      rw [List.map_cons, a]; rfl
/-- sorted of a list of texts -/
def uSortS (us : List U) (h : Sto) : R U := match us with
  | [x] => match aL h x with
    | some xs => (match strsU xs with
      | some ss => if ss.length < 64 then .ok (.ref h.length) (h ++ [.lst ((sortS ss).map U.str)]) else .bad
      | none => .bad)
    | none => .bad
  | _ => .bad
theorem ok_sortS : CallOK K (rSortedS K) uSortS := fun E g H h vs us Q hr rv t => by
  unfold uSortS at t
  split at t
  · cases rv with
    | cons r1 r2 =>
      cases r2
      split at t
      · rename_i xs e1
        split at t
        · rename_i ss e2
          split at t
          · rename_i z
            obtain ⟨p, vs, rfl, h1, r1⟩ := aL_of hr r1 e1
            rw [strsU_eq e2] at r1
            have := r1.strs
            subst this
            refine ⟨p, ss.map ofL, rfl, h1, by simpa using z, fun ys l pm sr hl => ?_⟩
            rw [sorted_is pm sr]
            refine t _ _ _ Le.new (hr.newLst hl ?_) hr.newRef
            exact reps_strs (K := K) (g := g) (sortS ss)
          · exact t.elim
        · exact t.elim
      · exact t.elim
  · exact t.elim
/-- sorted of a dict whose keys are texts -/
abbrev rSortD : List V → Hp → VK → Prop := fun xs H Q => ∃ (a : Addr) (kvs : List (Key × V)) (ks : List Str), xs = [.ref a] ∧ Rd H a (.dK kvs) ∧ kvs.map (·.1) = ks.map Sum.inr ∧ ks.length < 64 ∧
    ∀ ys p, ys.Perm ks → sortedS ys = true → H p = none → Q (.ref p) (upd H p (.lst (ys.map V.str)))
def uSortD (us : List U) (h : Sto) : R U := match us with
  | [x] => match aDK h x with
    | some kvs => (match keysS kvs with
      | some ss => if ss.length < 64 then .ok (.ref h.length) (h ++ [.lst ((sortS ss).map U.str)]) else .bad
      | none => .bad)
    | none => .bad
  | _ => .bad
theorem ok_sortD : CallOK K rSortD uSortD := fun E g H h vs us Q hr rv t => by
  unfold uSortD at t
  split at t
  · cases rv with
    | cons r1 r2 =>
      cases r2
      split at t
      · rename_i kvs e1
        split at t
        · rename_i ss e2
          split at t
          · rename_i z
            obtain ⟨a, n, vs, rfl, rfl, ha, h1, r1⟩ := aDK_of hr r1 e1
            obtain ⟨b1, b2⟩ := keysS_of r1 e2
            refine ⟨a, vs, ss.map ofL, rfl, h1, b1, by simpa using z, fun ys l pm sr hl => ?_⟩
            rw [sorted_is pm sr]
            refine t _ _ _ Le.new (hr.newLst hl ?_) hr.newRef
            exact reps_strs (K := K) (g := g) (sortS ss)
          · exact t.elim
        · exact t.elim
      · exact t.elim
  · exact t.elim
/-- list of a dict: its keys -/
abbrev rListD : List V → Hp → VK → Prop := fun xs H Q => ∃ (a : Addr) (kvs : List (Key × V)), xs = [.ref a] ∧ Rd H a (.dK kvs) ∧ ∀ p, H p = none → Q (.ref p) (upd H p (.lst (kvs.map fun kv => kV kv.1)))
def uListD (us : List U) (h : Sto) : R U := match us with
  | [x] => match aDK h x with
    | some kvs => .ok (.ref h.length) (h ++ [.lst (kvs.map fun p => dkU p.1)])
    | none => .bad
  | _ => .bad
theorem reps_keys : ∀ {vs : List (Key × V)} {us : List (DK × U)}, RepK K g vs us → Reps K g (vs.map fun kv => kV kv.1) (us.map fun p => dkU p.1)
  | _, _, .nil => .nil
  | _, _, .cons h r => .cons (rep_key _) (reps_keys r)
theorem ok_listD : CallOK K rListD uListD := fun E g H h vs us Q hr rv t => by
  unfold uListD at t
  split at t
  · cases rv with
    | cons r1 r2 =>
      cases r2
      split at t
      · rename_i kvs e1
        obtain ⟨a, n, vs, rfl, rfl, ha, h1, r1⟩ := aDK_of hr r1 e1
        exact ⟨a, vs, rfl, h1, fun p hp => t _ _ _ Le.new (hr.newLst hp (reps_keys r1)) hr.newRef⟩
      · exact t.elim
  · exact t.elim
section
variable (hg : Gl X n) (hm : X.mg n = none) (ha : PA X (e :: es) (aM X.K W am)) (hn : n ≠ "__name__" := by decide) (hdb : (n == ("__debug__" : Str)) = false := by decide)
    (he : starEach (e :: es) X.env = (false, eval e X.env) :: starEach es X.env := by rfl) (hpl : (backTo pos (starEach es X.env)).any (·.1) = false := by rfl)
include hg hm ha hn hdb he hpl
theorem se_sortS (hv : bootBuiltins n = some (.builtin "sorted") := by decide +kernel) : PE X (.Call (.Name n p) (e :: es) [] pos) (tM X.K W (mCB uSortS am)) := se_cb cr_sortedS ok_sortS hg hm hv ha hn hdb he hpl
theorem se_sortD (hc : X.calm = true) (hv : bootBuiltins n = some (.builtin "sorted") := by decide +kernel) : PE X (.Call (.Name n p) (e :: es) [] pos) (tM X.K W (mCB uSortD am)) := se_cb (call_sortedD hc) ok_sortD hg hm hv ha hn hdb he hpl
theorem se_listD (hc : X.calm = true) (hv : bootBuiltins n = some (.type "list") := by decide +kernel) : PE X (.Call (.Name n p) (e :: es) [] pos) (tM X.K W (mCB uListD am)) := se_ct (call_listD hc) ok_listD hg hm hv ha hn hdb he hpl
end
end
end Q

set_option Elab.async false
set_option linter.all false
set_option maxRecDepth 100000
set_option maxHeartbeats 1000000
/-! QU: setdefault of a dict, displays with a star. -/
namespace Q
open PySem PySem.Spec PyProof.Rows L2 TL
section
variable {K : Fr} {g g' : G} {W : WX} {X : Cx} {H : Hp} {h : Sto} {σ : L2.St} {env : Env'} {a o : Expr} {mo : EM} {am : AM} {apos cpos pos : Pos} {kvs : List (Key × V)} {k : Key} {z : V} {u r : Value} {s : Shared} {pins : List (Addr × Obj)} {A : Around} {E : Value → Shared → Prop} {ad : Addr}
/-! ### setdefault -/
theorem d_setdef {Q : Value → Shared → Prop} (I : Inv X pins σ H s) (e : H ad = some (.dK kvs)) (ry : RelV (kV k) u) (rz : RelV z r) (zz : valV kvs k = none → kvs.length < sizeLine)
    (h1 : ∀ v w' s', valV kvs k = some v → Inv X pins σ H s' → RelV v w' → Q w' s') (h2 : ∀ s', valV kvs k = none → Inv X pins σ (upd H ad (.dK (putK kvs k z))) s' → Q r s') :
    wpAny (model X.prog X.w) A (call (.builtin "dict.setdefault") [.ref ad, u, r]) Q E s := by
  obtain ⟨zl, hd, vs, rel, dd⟩ := dk_of I.hok e
  refine call_meetsIn PySem.F.slot_dict_setdefault dd.typeIs PySem.F.entry_dict_setdefault (PySem.F.args_dict_setdefault_3 _ _ _) (PySem.kt_meets_setdefault (mixKind X.prog X.w) ad (kV_is ry) hd r)
    ⟨vs, dd, by rw [← rel.length]; exact zl, fun w' hw => ?_, fun hn h' dd' hs => ?_⟩
  · have q := rel.val k
    rw [hw] at q
    cases e2 : valV kvs k with
    | none => rw [e2] at q; exact q.elim
    | some v => rw [e2] at q; exact h1 v w' _ e2 (I.tok _) q
  · have hv : valV kvs k = none := by
      have q := rel.val k
      rw [hn] at q
      cases e2 : valV kvs k with
      | none => rfl
      | some v => rw [e2] at q; exact q.elim
    have he : ∃ q, h'.get? ad = some q := let ⟨q, _, _, hq, _⟩ := dd'; ⟨q, hq⟩
    exact h2 _ hv (d_write I (by rw [e]; exact True.intro) hs he (dk_new (Nat.le_trans (length_putK kvs k z) (zz hv)) hd (rel.put k rz) dd'))
def rSd (x : V) (vs : List V) (H : Hp) (Q : VK) : Prop := ∃ ad kvs k z, x = .ref ad ∧ vs = [kV k, z] ∧ H ad = some (.dK kvs) ∧ (∀ v, valV kvs k = some v → Q v H) ∧ (valV kvs k = none → kvs.length < sizeLine ∧ Q z (upd H ad (.dK (putK kvs k z))))
theorem mt_setdef : MtR X "dict.setdefault" rSd := by
  intro pins s σ H x vs v us Q I rx rv h
  obtain ⟨ad, kvs, k, z, rfl, rfl, hH, q1, q2⟩ := h
  cases rx
  obtain ⟨u1, u2, rfl, r1, r2⟩ := rv.two
  exact d_setdef I hH r1 r2 (fun e => (q2 e).1) (fun v w' s' e I' rw' => ⟨v, H, I', rw', q1 v e⟩) fun s' e I' => ⟨z, _, I', r2, (q2 e).2⟩
def uSd (x : U) (us : List U) (h : Sto) : R U := match x, us with
  | .ref n, [y, z] => (match h[n]?, keyU y with
    | some (.dK kvs), some k => (match valD kvs k with
      | some u => .ok u (h.set n (.dK kvs))
      | none => if kvs.length < 16000000 then .ok z (h.set n (.dK (putD kvs k z))) else .bad)
    | _, _ => .bad)
  | _, _ => .bad
theorem ok_sd : MtOK K (fun x vs H Q => rSd x vs H Q) uSd := by
  intro E g H h v x vs us Q hr rx rvs t
  unfold uSd at t
  split at t
  · rename_i n y z
    split at t
    · rename_i kvs k e1 e2
      cases rx with
      | ref q =>
        rename_i a
        cases rvs with
        | cons r1 r2 =>
          cases r2 with
          | cons r2 r3 =>
            cases r3
            obtain ⟨vs, h1, h2⟩ := hr.ob n a _ q e1
            have qv := h2.val k
            cases e3 : valD kvs k with
            | some u0 =>
              rw [e3] at t qv
              cases e4 : valV vs (kk k) with
              | none => rw [e4] at qv; exact qv.elim
              | some w =>
                rw [e4] at qv
                have eh : h.set n (.dK kvs) = h := by
                  refine List.ext_getElem? fun i => ?_
                  rw [List.getElem?_set]
                  split
                  · rename_i ei; subst ei
                    rw [e1]; simp [(List.getElem?_eq_some_iff.mp e1).1]
                  · rfl
                have t : WE K E g (R.ok u0 (h.set n (.dK kvs))) Q := t
                rw [eh] at t
                refine ⟨a, vs, kk k, _, rfl, by rw [key_rep r1 e2], h1, fun v ev => ?_, fun ev => ?_⟩
                · rw [e4] at ev; cases ev
                  exact t _ _ g (Le.refl _) hr qv
                · rw [e4] at ev; cases ev
            | none =>
              rw [e3] at t qv
              cases e4 : valV vs (kk k) with
              | some w => rw [e4] at qv; exact qv.elim
              | none =>
                simp only at t
                split at t
                · rename_i z1
                  refine ⟨a, vs, kk k, _, rfl, by rw [key_rep r1 e2], h1, fun v ev => ?_, fun ev => ⟨by rw [h2.len]; exact sz16l z1, ?_⟩⟩
                  · rw [e4] at ev; cases ev
                  · exact t _ _ g (Le.refl _) (hr.set q (fun _ _ z => by rw [h1] at z; cases z) ⟨_, upd_same, h2.put r2 k⟩) r2
                · exact t.elim
    · exact t.elim
  · exact t.elim
/-- a dict's method: the receiver is a dict -/
def isDK (h : Sto) : U → Bool
  | .ref n => (match h[n]? with
    | some (.dK _) => true
    | _ => false)
  | _ => false
def mDM (f : U → List U → Sto → R U) (o : EM) (am : AM) : EM := fun env h => (o env h).bind fun x h1 => if isDK h1 x = true then (am env h1).bind fun us h2 => f x us h2 else .bad
theorem dm_to {r : V → List V → Hp → VK → Prop} {f : U → List U → Sto → R U} {mo : EM} {σ : L2.St} {Q : VK} (ok : MtOK K r f) (q : tM K W (mDM f mo am) σ H Q) : tBM K "dict" r (tM K W mo) (aM K W am) σ H Q := by
  obtain ⟨g, env, h, hr, er, w⟩ := q
  refine ⟨g, env, h, hr, er, wE w fun u h1 v H1 g1 l1 hr1 rv w1 => ?_⟩
  cases ea : isDK h1 u with
  | false => rw [ea] at w1; exact w1.elim
  | true =>
    rw [ea] at w1
    cases rv with
    | ref q =>
      rename_i n a
      have : ∃ us, h1[a]? = some (.dK us) := by
        simp only [isDK] at ea
        cases e1 : h1[a]? with
        | none => rw [e1] at ea; cases ea
        | some o =>
          rw [e1] at ea
          cases o with
          | dK us => exact ⟨us, rfl⟩
          | _ => cases ea
      obtain ⟨us, e1⟩ := this
      obtain ⟨vs, h2, r2⟩ := hr1.ob a n _ q e1
      exact ⟨.inr (.inr (.inl ⟨rfl, .inl ⟨vs, h2⟩⟩)), g1, env, h1, hr1, er.mono l1, wA w1 fun us h2 vs H2 g2 l2 hr2 rvs w2 => ok _ g2 H2 h2 _ _ vs us Q hr2 ((Rep.ref q).mono l2) rvs w2⟩
    | _ => cases ea
theorem se_setdef {e1 e2 : Expr} (ho : PE X o (tM X.K W mo)) (ha : PA X [e1, e2] (aM X.K W am)) (hbase : attributeBase o "setdefault" X.env (eval o X.env) = eval o X.env := by rfl)
    (hfew : ((backTo cpos (starEach [e1, e2] X.env)).all (fun x => !x.1) && (backToKw cpos (keywordEach [] X.env)).all (fun x => x.1.isSome)
      && decide ([e1, e2].length + ([] : List Keyword).length + (if ([] : List Keyword).isEmpty then 0 else 1) < 30)) = true := by rfl)
    (hline : (apos.endLine == cpos.line) = true := by rfl) (hs : starEach [e1, e2] X.env = (false, eval e1 X.env) :: starEach [e2] X.env := by rfl) (hplain : (backTo cpos (starEach [e2] X.env)).any (·.1) = false := by rfl) :
    PE X (.Call (.Attribute o "setdefault" apos) [e1, e2] [] cpos) (tM X.K W (mDM uSd mo am)) :=
  PE.weak (pe_bm PySem.F.plainAttrs_dict PySem.F.slot_dict_setdefault PySem.F.type_dict_setdefault mt_setdef ho ha hbase hfew hline hs hplain) fun σ H Q q => dm_to ok_sd q
/-! ### *e in a display -/
def aStar (m : EM) (am : AM) : AM := fun env h => (m env h).bind fun x h1 => match sL h1 x with
  | some us => (am env h1).bind fun ys h2 => .ok (us ++ ys) h2
  | none => .bad
theorem sa_star {e : Expr} {es : List Expr} {me : EM} {p : Pos} (he : PE X e (tM X.K W me)) (hr : PA X es (aM X.K W am)) (hs : starEach (.Starred e p :: es) X.env = (true, eval e X.env) :: starEach es X.env := by rfl) : PA X (.Starred e p :: es) (aM X.K W (aStar me am)) :=
  PA.weak (StX.pa_star he hr hs) fun σ H Q ⟨g, env, h, hr, er, w⟩ => ⟨g, env, h, hr, er, wEA w fun u h1 v H1 g1 l1 hr1 rv w1 => by
    cases e1 : sL h1 u with
    | none => rw [e1] at w1; exact w1.elim
    | some us =>
      rw [e1] at w1
      obtain ⟨a, vs, rfl, sq, r⟩ := sL_of hr1 rv e1
      exact ⟨a, vs, rfl, sq.symm, g1, env, h1, hr1, er.mono l1, wAA w1 fun ys h2 ws H2 g2 l2 hr2 rys w2 => w2 _ H2 g2 (Le.refl _) hr2 ((r.mono l2).app rys)⟩⟩
end
end Q

set_option Elab.async false
set_option linter.all false
/-! PDef: pure meanings. The second layer: values without a store, owned things as trees. Nothing of the kit is used here. -/
namespace P
abbrev DK := Sum Int (List Nat)
/-- data that nobody changes any more -/
inductive D where
  | non | bl (b : Bool) | int (i : Int) | str (s : List Nat) | tup (ds : List D) | lst (ds : List D) | kl (ds : List D)
  | dK (kvs : List (DK × D)) | dT (kvs : List (List DK × D)) | ins (C : Nat) (fs : List (String × D)) | dKl (kvs : List (DK × D))
  deriving Inhabited, Repr
/-- what a slot holds: data, or a thing that only this slot knows (a tree of such things) -/
inductive T where
  | hole | leaf (d : D) | ls (ds : List D) | lT (ts : List T) | dK (kvs : List (DK × D)) | dT (kvs : List (List DK × D)) | is (C : Nat) (fs : List (String × T))
  deriving Inhabited, Repr
mutual
/-- the tree is nobody's any more -/
def T.fz : T → Option D
  | .hole => none
  | .leaf d => some d
  | .ls ds => some (.lst ds)
  | .lT ts => match T.fzs ts with
    | some ds => some (.lst ds)
    | none => none
  | .dK kvs => some (.dK kvs)
  | .dT kvs => some (.dT kvs)
  | .is C fs => match T.fzf fs with
    | some ds => some (.ins C ds)
    | none => none
def T.fzs : List T → Option (List D)
  | [] => some []
  | t :: ts => match T.fz t, T.fzs ts with
    | some d, some ds => some (d :: ds)
    | _, _ => none
def T.fzf : List (String × T) → Option (List (String × D))
  | [] => some []
  | (f, t) :: r => match T.fz t, T.fzf r with
    | some d, some ds => some ((f, d) :: ds)
    | _, _ => none
end
def leaves : List (String × T) → Option (List (String × D))
  | [] => some []
  | (f, .leaf d) :: r => (leaves r).map ((f, d) :: ·)
  | _ :: _ => none
/-- what a slot's thing looks like from above -/
def T.vw : T → Option D
  | .leaf d => some d
  | .ls ds => some (.lst ds)
  | .dK kvs => some (.dK kvs)
  | .dT kvs => some (.dT kvs)
  | .is C fs => (leaves fs).map (.ins C)
  | _ => none
mutual
/-- no list, dict or object in it -/
def D.flat : D → Bool
  | .tup ds => D.flats ds
  | .non => true
  | .bl _ => true
  | .int _ => true
  | .str _ => true
  | _ => false
def D.flats : List D → Bool
  | [] => true
  | d :: ds => d.flat && D.flats ds
end
mutual
def T.flat : T → Bool
  | .hole => true
  | .leaf d => d.flat
  | .ls ds => D.flats ds
  | .lT ts => T.flats ts
  | .dK kvs => D.flats (kvs.map (·.2))
  | .dT kvs => D.flats (kvs.map (·.2))
  | .is _ fs => T.flatf fs
def T.flats : List T → Bool
  | [] => true
  | t :: ts => t.flat && T.flats ts
def T.flatf : List (String × T) → Bool
  | [] => true
  | (_, t) :: r => t.flat && T.flatf r
end
/-! places -/
def ixN (n : Nat) (i : Int) : Option Nat := if 0 ≤ i then (if i < n then some i.toNat else none) else if -(n : Int) ≤ i then some (i + n).toNat else none
def atI {α : Type} (l : List α) (i : Int) : Option α := (ixN l.length i).bind fun k => l[k]?
def putF {α : Type} (f : String) (v : α) : List (String × α) → List (String × α)
  | [] => [(f, v)]
  | (g, x) :: r => if g = f then (g, v) :: r else (g, x) :: putF f v r
inductive Ac where
  | fld (Cs : List Nat) (f : String) | ix (i : Int)
def T.get1 : T → Ac → Option T
  | .lT ts, .ix i => atI ts i
  | .ls ds, .ix i => (atI ds i).map .leaf
  | .is C fs, .fld Cs f => if C ∈ Cs then fs.lookup f else none
  | .leaf (.ins C fs), .fld Cs f => if C ∈ Cs then (fs.lookup f).map .leaf else none
  | .leaf (.lst ds), .ix i => (atI ds i).map .leaf
  | .leaf (.tup ds), .ix i => (atI ds i).map .leaf
  | _, _ => none
def T.set1 : T → Ac → T → T
  | .lT ts, .ix i, s => match ixN ts.length i with
    | some k => .lT (ts.set k s)
    | none => .lT ts
  | .is C fs, .fld _ f, s => .is C (putF f s fs)
  | t, _, _ => t
def T.get : T → List Ac → Option T
  | t, [] => some t
  | t, a :: r => match t.get1 a with
    | some s => s.get r
    | none => none
def T.set : T → List Ac → T → T
  | _, [], s => s
  | t, a :: r, s => match t.get1 a with
    | some u => t.set1 a (u.set r s)
    | none => t
abbrev Env := List T
inductive PR (α : Type) where
  | ok (a : α) (e : Env)
  | exc (C : Nat) (x : Option (List (String × D))) (e : Env)
  | bad
  deriving Repr
inductive PRS where
  | nx (e : Env)
  | rt (t : T) (e : Env)
  | bk (e : Env)
  | ct (e : Env)
  | ex (C : Nat) (x : Option (List (String × D))) (e : Env)
  | bad
  deriving Repr
inductive PF where
  | ok (t : T) (ws : List T)
  | exc (C : Nat) (x : Option (List (String × D)))
  | bad
  deriving Repr
def PR.bind {α β : Type} (r : PR α) (f : α → Env → PR β) : PR β := match r with
  | .ok a e => f a e
  | .exc C x e => .exc C x e
  | .bad => .bad
def PR.st {α : Type} (r : PR α) (f : α → Env → PRS) : PRS := match r with
  | .ok a e => f a e
  | .exc C x e => .ex C x e
  | .bad => .bad
/-- only what ends well -/
def PR.no {α : Type} (r : PR α) : PR α := match r with
  | .ok a e => .ok a e
  | _ => .bad
def PRS.no (r : PRS) : PRS := match r with
  | .ex _ _ _ => .bad
  | r => r
abbrev PE := Env → PR D
abbrev PT := Env → PR T
abbrev PB := Env → PR Bool
abbrev PDs := Env → PR (List D)
abbrev PTs := Env → PR (List T)
abbrev PO := Env → PR (Option Int)
abbrev PS := Env → PRS
abbrev PSem := List T → PF
def oE {α : Type} (o : Option α) (e : Env) : PR α := match o with
  | some a => .ok a e
  | none => .bad
/-! ### expressions -/
def pVar (i : Nat) : PE := fun e => match e[i]? with
  | some (.leaf d) => .ok d e
  | _ => .bad
/-- the thing in the slot becomes data -/
def pFv (i : Nat) : PE := fun e => match e[i]? with
  | some t => (match t.fz with
    | some d => .ok d (e.set i (.leaf d))
    | none => .bad)
  | none => .bad
/-- it is only looked at -/
def pVw (i : Nat) : PE := fun e => match e[i]? with
  | some t => oE t.vw e
  | none => .bad
/-- it leaves the slot -/
def pMv (i : Nat) : PT := fun e => match e[i]? with
  | some .hole => .bad
  | some t => .ok t (e.set i .hole)
  | none => .bad
def pC (d : D) : PE := fun e => .ok d e
def pLf (a : PE) : PT := fun e => (a e).bind fun d e1 => .ok (.leaf d) e1
def pFz (a : PT) : PE := fun e => (a e).bind fun t e1 => oE t.fz e1
def pBin (g : D → D → Option D) (a b : PE) : PE := fun e => (a e).bind fun x e1 => (b e1).bind fun y e2 => oE (g x y) e2
def pUn (g : D → Option D) (a : PE) : PE := fun e => (a e).bind fun x e1 => oE (g x) e1
def cMul (i j : Int) : Prop := i.natAbs ≤ 9000000000000000000 ∨ j.natAbs ≤ 9000000000000000000
instance : ∀ i j, Decidable (cMul i j) := fun i j => by unfold cMul; exact inferInstance
def gSub : D → D → Option D
  | .int i, .int j => some (.int (i - j))
  | _, _ => none
def gMul : D → D → Option D
  | .int i, .int j => if cMul i j then some (.int (i * j)) else none
  | _, _ => none
def gDiv : D → D → Option D
  | .int i, .int j => if 0 < j ∧ j.natAbs < 1073741824 then some (.int (i / j)) else none
  | _, _ => none
def gMod : D → D → Option D
  | .int i, .int j => if 0 < j then some (.int (i % j)) else none
  | _, _ => none
def gPow : D → D → Option D
  | .int i, .int j => if 0 ≤ j ∧ j.natAbs ≤ 1000 ∧ 0 ≤ i ∧ i.natAbs < 1000 then some (.int (i ^ j.toNat)) else none
  | _, _ => none
def gNeg : D → Option D
  | .int i => some (.int (-i))
  | _ => none
def gNot : D → Option D
  | .bl b => some (.bl (!b))
  | _ => none
/-- the sum: numbers, texts, lists (a new one) -/
def tAdd : D → D → Option T
  | .int i, .int j => some (.leaf (.int (i + j)))
  | .str s, .str t => if s.length + t.length ≤ 16000000 then some (.leaf (.str (s ++ t))) else none
  | .lst s, .lst t => if s.length + t.length ≤ 16000000 then some (.ls (s ++ t)) else none
  | .tup s, .tup t => if s.length + t.length ≤ 16000000 then some (.leaf (.tup (s ++ t))) else none
  | _, _ => none
def pAdd (a b : PE) : PT := fun e => (a e).bind fun x e1 => (b e1).bind fun y e2 => oE (tAdd x y) e2
def pAnd (a b : PE) : PE := fun e => (a e).bind fun x e1 => match x with
  | .bl true => b e1
  | .bl false => .ok (.bl false) e1
  | _ => .bad
def pOr (a b : PE) : PE := fun e => (a e).bind fun x e1 => match x with
  | .bl false => b e1
  | .bl true => .ok (.bl true) e1
  | _ => .bad
def pIf (t : PB) (a b : PE) : PE := fun e => (t e).bind fun c e1 => if c = true then a e1 else b e1
def pIfT (t : PB) (a b : PT) : PT := fun e => (t e).bind fun c e1 => if c = true then a e1 else b e1
def dNil : PDs := fun e => .ok [] e
def dCons (a : PE) (r : PDs) : PDs := fun e => (a e).bind fun d e1 => (r e1).bind fun ds e2 => .ok (d :: ds) e2
def tNil : PTs := fun e => .ok [] e
def tCons (a : PT) (r : PTs) : PTs := fun e => (a e).bind fun d e1 => (r e1).bind fun ds e2 => .ok (d :: ds) e2
def pTup (am : PDs) : PE := fun e => (am e).bind fun ds e1 => if ds.length ≤ 16000000 then .ok (.tup ds) e1 else .bad
def pLst (am : PDs) : PT := fun e => (am e).bind fun ds e1 => if ds.length ≤ 16000000 then .ok (.ls ds) e1 else .bad
def pLsT (am : PTs) : PT := fun e => (am e).bind fun ds e1 => if ds.length ≤ 16000000 then .ok (.lT ds) e1 else .bad
def gIx : D → D → Option D
  | .kl ds, .int i => atI ds i
  | .str s, .int i => if s.length ≤ 16000000 then (atI s i).map fun c => .str [c] else none
  | .lst ds, .int i => atI ds i
  | .tup ds, .int i => atI ds i
  | _, _ => none
/-- a part of a list -/
def sIx (n d : Nat) : Option Int → Nat
  | none => d
  | some i => if i < 0 then (i + n).toNat else min i.toNat n
def cut {α : Type} (xs : List α) (lo hi : Option Int) : List α := (xs.drop (sIx xs.length 0 lo)).take (sIx xs.length xs.length hi - sIx xs.length 0 lo)
def oNo : PO := fun e => .ok none e
def oSo (a : PE) : PO := fun e => (a e).bind fun x e1 => match x with
  | .int i => .ok (some i) e1
  | _ => .bad
def tSl : D → Option Int → Option Int → Option T
  | .str s, lo, hi => if s.length ≤ 16000000 then some (.leaf (.str (cut s lo hi))) else none
  | .tup us, lo, hi => some (.leaf (.tup (cut us lo hi)))
  | .lst us, lo, hi => some (.ls (cut us lo hi))
  | _, _, _ => none
def pSl (a : PE) (lo hi : PO) : PT := fun e => (a e).bind fun x e1 => (lo e1).bind fun l e2 => (hi e2).bind fun u e3 => oE (tSl x l u) e3
def gFld (Cs : List Nat) (f : String) : D → Option D
  | .ins C fs => if C ∈ Cs then fs.lookup f else none
  | _ => none
/-- calls of built-ins on data -/
def pCB (g : List D → Option D) (am : PDs) : PE := fun e => (am e).bind fun ds e1 => oE (g ds) e1
def pCT (g : List D → Option T) (am : PDs) : PT := fun e => (am e).bind fun ds e1 => oE (g ds) e1
def gLen : List D → Option D
  | [.kl ds] => some (.int ds.length)
  | [.str s] => if s.length ≤ 16000000 then some (.int s.length) else none
  | [.lst ds] => some (.int ds.length)
  | [.tup ds] => some (.int ds.length)
  | _ => none
def gInt : List D → Option D
  | [.int i] => some (.int i)
  | [.bl b] => some (.int (if b then 1 else 0))
  | _ => none
def gList : List D → Option T
  | [.kl ds] => some (.ls ds)
  | [.lst ds] => some (.ls ds)
  | [.tup ds] => some (.ls ds)
  | _ => none
def gTuple : List D → Option D
  | [.lst ds] => some (.tup ds)
  | [.tup ds] => some (.tup ds)
  | _ => none
def gMin : List D → Option D
  | [.int i, .int j] => some (.int (if j < i then j else i))
  | _ => none
def gMax : List D → Option D
  | [.int i, .int j] => some (.int (if j > i then j else i))
  | _ => none
def gAbs : List D → Option D
  | [.int i] => some (.int (if i < 0 then -i else i))
  | _ => none
def strL : List D → Option (List (List Nat))
  | [] => some []
  | .str s :: r => match strL r with
    | some ss => some (s :: ss)
    | none => none
  | _ :: _ => none
def joinL (s : List Nat) : List (List Nat) → List Nat
  | [] => []
  | [x] => x
  | x :: y :: r => x ++ (s ++ joinL s (y :: r))
def gJoin (s : List Nat) : D → Option D
  | .lst ds => (strL ds).bind fun ss => if (ss.map List.length).sum + ss.length * s.length ≤ 16000000 then some (.str (joinL s ss)) else none
  | .tup ds => (strL ds).bind fun ss => if (ss.map List.length).sum + ss.length * s.length ≤ 16000000 then some (.str (joinL s ss)) else none
  | _ => none
/-- a text's method of one argument -/
def pSM1 (g : List Nat → D → Option D) (a b : PE) : PE := fun e => (a e).bind fun x e1 => match x with
  | .str s => (b e1).bind fun y e2 => oE (g s y) e2
  | _ => .bad
/-! ### tests -/
mutual
def D.eq : D → D → Bool
  | .non, .non => true
  | .bl a, .bl b => a == b
  | .bl a, .int j => (if a then 1 else 0) == j
  | .int i, .bl b => i == (if b then 1 else 0)
  | .int i, .int j => i == j
  | .str x, .str y => x == y
  | .lst xs, .lst ys => D.eqs xs ys
  | .tup xs, .tup ys => D.eqs xs ys
  | _, _ => false
def D.eqs : List D → List D → Bool
  | [], [] => true
  | x :: xs, y :: ys => D.eq x y && D.eqs xs ys
  | [], _ :: _ => false
  | _ :: _, [] => false
end
mutual
/-- nested at most so deep, no dict, no object -/
def D.ok : Nat → D → Bool
  | _, .non => true
  | _, .bl _ => true
  | _, .int _ => true
  | _, .str s => s.all (· < 1114112)
  | 0, _ => false
  | n + 1, .tup ds => D.oks n ds
  | n + 1, .lst ds => D.oks n ds
  | _, _ => false
def D.oks : Nat → List D → Bool
  | _, [] => true
  | n, d :: ds => D.ok n d && D.oks n ds
end
def atom : D → Bool
  | .non => true
  | .bl _ => true
  | .int _ => true
  | .str _ => true
  | _ => false
/-- a number beside a truth -/
def mixed : D → D → Bool
  | .bl _, .int _ => true
  | .int _, .bl _ => true
  | _, _ => false
def cEq (x y : D) : Option Bool := if (atom x && atom y && !mixed x y) || (D.ok 50 x && D.ok 50 y) then some (D.eq x y) else none
def cNe (x y : D) : Option Bool := (cEq x y).map not
def cI (p : Int → Int → Bool) : D → D → Option Bool
  | .int i, .int j => some (p i j)
  | _, _ => none
abbrev cLt := cI fun i j => decide (i < j)
abbrev cLe := cI fun i j => decide (i ≤ j)
abbrev cGt := cI fun i j => decide (j < i)
abbrev cGe := cI fun i j => decide (j ≤ i)
def cIs : D → D → Option Bool
  | .non, .non => some true
  | _, .non => some false
  | _, _ => none
def cIsN (x y : D) : Option Bool := (cIs x y).map not
def cIn0 (x : D) (ds : List D) : Option Bool := if (atom x && ds.all atom) || (D.ok 50 x && D.oks 49 ds) then some (ds.any fun y => D.eq y x) else none
def keyOf : D → Option DK
  | .int i => some (.inl i)
  | .str s => some (.inr s)
  | _ => none
def keysOf : List D → Option (List DK)
  | [] => some []
  | d :: ds => match keyOf d, keysOf ds with
    | some k, some ks => some (k :: ks)
    | _, _ => none
def cIn : D → D → Option Bool
  | x, .lst ds => cIn0 x ds
  | x, .tup ds => if (atom x && ds.all atom) then some (ds.any fun y => D.eq y x) else none
  | _, _ => none
def cNin (x y : D) : Option Bool := (cIn x y).map not
def tCmp (f : D → D → Option Bool) (a b : PE) : PB := fun e => (a e).bind fun x e1 => (b e1).bind fun y e2 => oE (f x y) e2
def pB (t : PB) : PE := fun e => (t e).bind fun b e1 => .ok (.bl b) e1
def tAnd (a b : PB) : PB := fun e => (a e).bind fun c e1 => if c = true then b e1 else .ok false e1
def tOr (a b : PB) : PB := fun e => (a e).bind fun c e1 => if c = true then .ok true e1 else b e1
def tNot (a : PB) : PB := fun e => (a e).bind fun c e1 => .ok (!c) e1
def truD : D → Option Bool
  | .non => some false
  | .bl b => some b
  | .int i => some (i != 0)
  | .str s => if s.length ≤ 16000000 then some (!s.isEmpty) else none
  | .tup us => some (!us.isEmpty)
  | .lst us => some (!us.isEmpty)
  | .dK us => some (!us.isEmpty)
  | _ => none
def tTru (a : PE) : PB := fun e => (a e).bind fun x e1 => oE (truD x) e1
def tYes : PB := fun e => .ok true e
inductive Ty where
  | bool | int | str | tuple | list | dict
def isD (T : Ty) : D → Option Bool
  | .non => some false
  | .bl _ => some (match T with | .bool => true | .int => true | _ => false)
  | .int _ => some (match T with | .int => true | _ => false)
  | .str _ => some (match T with | .str => true | _ => false)
  | .tup _ => some (match T with | .tuple => true | _ => false)
  | .lst _ => some (match T with | .list => true | _ => false)
  | .kl _ => some (match T with | .list => true | _ => false)
  | .dK _ => some (match T with | .dict => true | _ => false)
  | .dT _ => some (match T with | .dict => true | _ => false)
  | .ins _ _ => none
  | .dKl _ => none
def tIs (T : Ty) (a : PE) : PB := fun e => (a e).bind fun x e1 => oE (isD T x) e1
def tIs2 (T S : Ty) (a : PE) : PB := fun e => (a e).bind fun x e1 => oE ((isD T x).bind fun b => (isD S x).map fun c => b || c) e1
/-! ### paths -/
inductive Pth where
  | var (i : Nat) | fld (p : Pth) (Cs : List Nat) (f : String) | ix (p : Pth) (a : PE)
def Pth.root : Pth → Nat
  | .var i => i
  | .fld p _ _ => p.root
  | .ix p _ => p.root
def Pth.isVar : Pth → Bool
  | .var _ => true
  | _ => false
def getP (i : Nat) (r : List Ac) (e : Env) : Option T := match e[i]? with
  | some t => t.get r
  | none => none
def setP (i : Nat) (r : List Ac) (s : T) (e : Env) : Env := match e[i]? with
  | some t => e.set i (t.set r s)
  | none => e
/-- the path leads somewhere -/
def atP (i : Nat) (r : List Ac) (e : Env) : PR (List Ac) := match getP i r e with
  | some .hole => .bad
  | some _ => .ok r e
  | none => .bad
def Pth.ev : Pth → Env → PR (List Ac)
  | .var i, e => atP i [] e
  | .fld p Cs f, e => (p.ev e).bind fun r e1 => atP p.root (r ++ [.fld Cs f]) e1
  | .ix p a, e => (p.ev e).bind fun r e1 => (a e1).bind fun x e2 => match x with
    | .int i => atP p.root (r ++ [.ix i]) e2
    | _ => .bad
/-- what stands at a path, to be kept -/
def pRd (p : Pth) : PE := fun e => (p.ev e).bind fun r e1 => match getP p.root r e1 with
  | some (.leaf d) => .ok d e1
  | some t => (match t.fz with
    | some d => .ok d (setP p.root r (.leaf d) e1)
    | none => .bad)
  | none => .bad
/-- .. to be looked at -/
def pVp (p : Pth) : PE := fun e => (p.ev e).bind fun r e1 => match getP p.root r e1 with
  | some t => oE t.vw e1
  | none => .bad
/-- a change of the list at a path, behind values -/
def pUpd (p : Pth) (a : PDs) (g : T → List D → Option (D × T)) : PE := fun e => (p.ev e).bind fun r e1 => match getP p.root r e1 with
  | some (.ls _) => (a e1).bind fun ds e2 => (match getP p.root r e2 with
    | some t => (match g t ds with
      | some (d, s) => .ok d (setP p.root r s e2)
      | none => .bad)
    | none => .bad)
  | _ => .bad
def uApp : T → List D → Option (D × T)
  | .ls xs, [d] => if xs.length < 16000000 then some (.non, .ls (xs ++ [d])) else none
  | _, _ => none
def uExt : T → List D → Option (D × T)
  | .ls xs, [.lst ys] => if xs.length + ys.length ≤ 16000000 then some (.non, .ls (xs ++ ys)) else none
  | _, _ => none
/-! ### calls -/
def callR (r : PF) (e : Env) : PR T := match r with
  | .ok t _ => .ok t e
  | .exc C x => .exc C x e
  | .bad => .bad
def pCall (n : Nat) (sem : PSem) (am : PDs) : PT := fun e => (am e).bind fun ds e1 => if ds.length = n then callR (sem (ds.map .leaf)) e1 else .bad
def insT (k : Nat) (s : T) (ds : List D) : List T := (ds.take k).map .leaf ++ s :: (ds.drop k).map .leaf
/-- the argument at place k is the slot i, which the call may change -/
def pCallV (n k i : Nat) (sem : PSem) (am : PDs) : PT := fun e => match e[i]? with
  | some .hole => .bad
  | none => .bad
  | some _ => (am e).bind fun ds e1 => match e1[i]? with
    | some s => (if ds.length + 1 = n ∧ k ≤ ds.length then (match sem (insT k s ds) with
      | .ok t [w] => .ok t (e1.set i w)
      | .exc C x => .exc C x (e1.set i .hole)
      | _ => .bad) else .bad)
    | none => .bad
/-- .. which is only looked at during the call -/
def pCallB (n k i : Nat) (sem : PSem) (am : PDs) : PT := fun e => match e[i]? with
  | some .hole => .bad
  | none => .bad
  | some _ => (am e).bind fun ds e1 => match e1[i]? with
    | some s => (match s.fz with
      | some d => (if ds.length + 1 = n ∧ k ≤ ds.length then (match sem (insT k (.leaf d) ds) with
        | .ok t _ => if t.flat = true then .ok t e1 else .bad
        | .exc C none => .exc C none e1
        | _ => .bad) else .bad)
      | none => .bad)
    | none => .bad
/-- a method of the object at a path, which it may change -/
def pMeth (C : Nat) (m : String) (n : Nat) (sem : PSem) (p : Pth) (am : PDs) : PT := fun e => (p.ev e).bind fun r e1 => match getP p.root r e1 with
  | some (.is C1 fs) => (if C1 = C ∧ fs.lookup m = none then (am e1).bind fun ds e2 => (match getP p.root r e2 with
    | some (.is C2 fs2) => (if ds.length + 1 = n then (match sem (.is C2 fs2 :: ds.map .leaf) with
      | .ok t [w] => .ok t (setP p.root r w e2)
      | .exc C x => .exc C x (setP p.root r .hole e2)
      | _ => .bad) else .bad)
    | _ => .bad) else .bad)
  | _ => .bad
/-- .. which is only looked at -/
def pMethB (C : Nat) (m : String) (n : Nat) (sem : PSem) (p : Pth) (am : PDs) : PT := fun e => (p.ev e).bind fun r e1 => match getP p.root r e1 with
  | some (.is C1 fs) => (if C1 = C ∧ fs.lookup m = none then (am e1).bind fun ds e2 => (match getP p.root r e2 with
    | some (.is C2 fs2) => (match (T.is C2 fs2).fz with
      | some d => (if ds.length + 1 = n then (match sem (.leaf d :: ds.map .leaf) with
        | .ok t _ => if t.flat = true then .ok t e2 else .bad
        | .exc C none => .exc C none e2
        | _ => .bad) else .bad)
      | none => .bad)
    | _ => .bad) else .bad)
  | _ => .bad
/-- a method of an object that is data -/
def pMethD (C : Nat) (m : String) (n : Nat) (sem : PSem) (o : PE) (am : PDs) : PT := fun e => (o e).bind fun x e1 => match x with
  | .ins C1 fs => (if C1 = C ∧ fs.lookup m = none then (am e1).bind fun ds e2 => (if ds.length + 1 = n then callR (sem (.leaf (.ins C1 fs) :: ds.map .leaf)) e2 else .bad) else .bad)
  | _ => .bad
/-- a new object -/
def pMake (C n : Nat) (sem : PSem) (am : PDs) : PT := fun e => (am e).bind fun ds e1 => if ds.length + 1 = n then (match sem (.is C [] :: ds.map .leaf) with
  | .ok (.leaf .non) [w] => .ok w e1
  | _ => .bad) else .bad
/-! ### statements -/
def sNx : PS := fun e => .nx e
def sSeq (a b : PS) : PS := fun e => match a e with
  | .nx e1 => b e1
  | r => r
def sAsg (i : Nat) (a : PT) : PS := fun e => (a e).st fun t e1 => .nx (e1.set i t)
def setA : Env → List Nat → List D → Env
  | e, i :: is, d :: ds => setA (e.set i (.leaf d)) is ds
  | e, _, _ => e
/-- targets -/
inductive CT where
  | one (i : Nat) | tup (is : List Nat) | lst (is : List Nat) | nst (i : Nat) (is : List Nat) | nsl (is : List Nat) (i : Nat)
def CT.ix : CT → List Nat
  | .one i => [i]
  | .tup is => is
  | .lst is => is
  | .nst i is => i :: is
  | .nsl is i => i :: is
def CT.asg (c : CT) (d : D) (e : Env) : Option Env := match c, d with
  | .one i, d => some (e.set i (.leaf d))
  | .tup is, .tup ds => if ds.length = is.length then some (setA e is ds) else none
  | .lst is, .lst ds => if ds.length = is.length then some (setA e is ds) else none
  | .nst i is, .tup [x, .tup ds] => if ds.length = is.length then some (setA (e.set i (.leaf x)) is ds) else none
  | .nsl is i, .tup [.tup ds, x] => if ds.length = is.length then some ((setA e is ds).set i (.leaf x)) else none
  | _, _ => none
def sUnp (c : CT) (a : PE) : PS := fun e => (a e).st fun d e1 => match c.asg d e1 with
  | some e2 => .nx e2
  | none => .bad
def sRet (a : PT) : PS := fun e => (a e).st fun t e1 => .rt t e1
def sRetN : PS := fun e => .rt (.leaf .non) e
def sDrop (a : PT) : PS := fun e => (a e).st fun _ e1 => .nx e1
def sIf (t : PB) (a b : PS) : PS := fun e => (t e).st fun c e1 => if c = true then a e1 else b e1
def sBrk : PS := fun e => .bk e
def sCnt : PS := fun e => .ct e
/-- names that are not read any more -/
def kill : List Nat → Env → Env
  | [], e => e
  | i :: is, e => kill is (e.set i .hole)
def forL (K : List Nat) (c : CT) (b : PS) : List D → Env → PRS
  | [], e => .nx (kill K e)
  | d :: ds, e => match c.asg d (kill K e) with
    | some e1 => (match b e1 with
      | .nx e2 => forL K c b ds e2
      | .ct e2 => forL K c b ds e2
      | .bk e2 => .nx (kill K e2)
      | r => r)
    | none => .bad
def sFor (K : List Nat) (it : PDs) (c : CT) (b : PS) : PS := fun e => (it e).st fun ds e1 => forL K c b ds e1
def whL (K : List Nat) (t : PB) (b : PS) : Nat → Env → PRS
  | 0, _ => .bad
  | n + 1, e => (t (kill K e)).st fun c e1 => if c = true then (match b e1 with
      | .nx e2 => whL K t b n e2
      | .ct e2 => whL K t b n e2
      | .bk e2 => .nx (kill K e2)
      | r => r) else .nx e1
def sWhile (K : List Nat) (n : Nat) (t : PB) (b : PS) : PS := fun e => whL K t b n e
/-! iteration -/
def rng (lo : Int) (n : Nat) : List D := (List.range n).map fun i => .int (lo + (i : Nat))
/-- what is walked, out of arguments -/
def iOp (g : List D → Option (List D)) (am : PDs) : PDs := fun e => (am e).bind fun ds e1 => oE (g ds) e1
def gR1 : List D → Option (List D)
  | [.int j] => if j.natAbs ≤ 1000000000 then some (rng 0 j.toNat) else none
  | _ => none
def gR2 : List D → Option (List D)
  | [.int i, .int j] => if i.natAbs ≤ 1000000000 ∧ j.natAbs ≤ 1000000000 then some (rng i (j - i).toNat) else none
  | _ => none
abbrev iR1 := iOp gR1
abbrev iR2 := iOp gR2
def seqD : D → Option (List D)
  | .kl ds => some ds
  | .str s => some (s.map fun c => .str [c])
  | .lst ds => some ds
  | .tup ds => some ds
  | _ => none
def iE (a : PE) : PDs := fun e => (a e).bind fun x e1 => oE (seqD x) e1
def pairs (xs ys : List D) : List D := (xs.zip ys).map fun p => .tup [p.1, p.2]
def sqD : D → Option (List D)
  | .lst ds => some ds
  | .tup ds => some ds
  | .kl ds => some ds
  | _ => none
def gZ : List D → Option (List D)
  | [x, y] => (match sqD x, sqD y with
    | some us, some ts => some (pairs us ts)
    | _, _ => none)
  | _ => none
def gN : List D → Option (List D)
  | [.lst us] => some (pairs (rng 0 us.length) us)
  | _ => none
abbrev iZ := iOp gZ
abbrev iN := iOp gN
/-- comprehensions -/
def lcL (c : CT) (t : PB) (a : PE) (vs : List Nat) : List D → List D → Env → PR (List D)
  | [], acc, e => .ok acc e
  | d :: ds, acc, e => match c.asg d (kill vs e) with
    | some e1 => (t e1).no.bind fun b e2 => if b = true then (a e2).no.bind fun y e3 => if acc.length < 16000000 then lcL c t a vs ds (acc ++ [y]) e3 else .bad else lcL c t a vs ds acc e2
    | none => .bad
def pLc (it : PDs) (c : CT) (t : PB) (a : PE) (vs : List Nat) : PT := fun e => (it e).bind fun ds e1 => (lcL c t a vs ds [] e1).bind fun r e2 => .ok (.ls r) (kill vs e2)
/-- .. whose items are trees -/
def lcT (c : CT) (a : PT) (vs : List Nat) : List D → List T → Env → PR (List T)
  | [], acc, e => .ok acc e
  | d :: ds, acc, e => match c.asg d (kill vs e) with
    | some e1 => (a e1).no.bind fun y e3 => if acc.length < 16000000 then lcT c a vs ds (acc ++ [y]) e3 else .bad
    | none => .bad
def pLcT (it : PDs) (c : CT) (a : PT) (vs : List Nat) : PT := fun e => (it e).bind fun ds e1 => (lcT c a vs ds [] e1).bind fun r e2 => .ok (.lT r) (kill vs e2)
/-! stores -/
def sSetI (p : Pth) (i a : PE) : PS := fun e => (a e).st fun d e1 => (p.ev e1).st fun r e2 => (i e2).st fun x e3 => match x, getP p.root r e3 with
  | .int k, some (.ls ds) => (match ixN ds.length k with
    | some j => .nx (setP p.root r (.ls (ds.set j d)) e3)
    | none => .bad)
  | _, _ => .bad
def sAug (g : D → D → Option D) (i : Nat) (a : PE) : PS := fun e => match e[i]? with
  | some (.leaf x) => (a e).st fun y e1 => (match g x y with
    | some z => .nx (e1.set i (.leaf z))
    | none => .bad)
  | _ => .bad
def gIAdd : D → D → Option D
  | .int i, .int j => some (.int (i + j))
  | .str s, .str t => if s.length + t.length ≤ 16000000 then some (.str (s ++ t)) else none
  | _, _ => none
def sAugI (g : D → D → Option D) (p : Pth) (i a : PE) : PS := fun e => (p.ev e).st fun r e1 => (i e1).st fun x e2 => match x, getP p.root r e2 with
  | .int k, some (.ls ds) => (match atI ds k with
    | some z => (a e2).st fun y e3 => (match g z y, getP p.root r e3 with
      | some w, some (.ls ds2) => (match ixN ds2.length k with
        | some j => .nx (setP p.root r (.ls (ds2.set j w)) e3)
        | none => .bad)
      | _, _ => .bad)
    | none => .bad)
  | _, _ => .bad
def sSetF (Cs : List Nat) (f : String) (p : Pth) (a : PT) : PS := fun e => (a e).st fun t e1 => (p.ev e1).st fun r e2 => match getP p.root r e2 with
  | some (.is C fs) => if C ∈ Cs ∧ fs.length < 1000 then .nx (setP p.root r (.is C (putF f t fs)) e2) else .bad
  | _ => .bad
def sAugF (Cs : List Nat) (g : D → D → Option D) (f : String) (p : Pth) (a : PE) : PS := fun e => (p.ev e).st fun r e1 => match getP p.root r e1 with
  | some (.is C fs) => if C ∈ Cs then (match fs.lookup f with
    | some (.leaf z) => (a e1).st fun y e3 => (match g z y, getP p.root r e3 with
      | some w, some (.is C2 fs2) => if C2 = C ∧ fs2.length < 1000 then .nx (setP p.root r (.is C2 (putF f (.leaf w) fs2)) e3) else .bad
      | _, _ => .bad)
    | _ => .bad) else .bad
  | _ => .bad
/-! exceptions -/
def sRaise (C : Nat) : PS := fun e => .ex C none e
def sTry (ys : List Nat) (b s : PS) : PS := fun e => match b e with
  | .ex C _ e1 => if C ∈ ys then (s e1).no else .bad
  | r => r
/-! ### defs -/
def pick {α : Type} : List Bool → List α → List α
  | true :: m, a :: l => a :: pick m l
  | false :: m, _ :: l => pick m l
  | _, _ => []
def pFn (n : Nat) (mask : List Bool) (body : PS) : PSem := fun ts => if mask.length ≤ ts.length then (match body (ts ++ List.replicate (n - ts.length) .hole) with
  | .nx e => .ok (.leaf .non) (pick mask e)
  | .rt t e => .ok t (pick mask e)
  | .ex C x _ => .exc C x
  | _ => .bad) else .bad
/-! ### dicts whose keys are numbers and texts -/
def valK : List (DK × D) → DK → Option D
  | [], _ => none
  | (j, x) :: r, k => if j = k then some x else valK r k
def repK : List (DK × D) → DK → D → List (DK × D)
  | [], _, _ => []
  | (j, x) :: r, k, v => (if j = k then (j, v) else (j, x)) :: repK r k v
def putK (kvs : List (DK × D)) (k : DK) (v : D) : List (DK × D) := if (valK kvs k).isSome = true then repK kvs k v else kvs ++ [(k, v)]
def gDGet : D → D → Option D
  | .dK kvs, y => (keyOf y).bind fun k => valK kvs k
  | .dKl kvs, y => (keyOf y).bind fun k => valK kvs k
  | _, _ => none
def cDIn : D → D → Option Bool
  | y, .dK kvs => (keyOf y).map fun k => (valK kvs k).isSome
  | y, .dKl kvs => (keyOf y).map fun k => (valK kvs k).isSome
  | _, _ => none
def cDNin (y x : D) : Option Bool := (cDIn y x).map not
def gDLen : List D → Option D
  | [.dK kvs] => some (.int kvs.length)
  | [.dKl kvs] => some (.int kvs.length)
  | _ => none
def gDCopy : List D → Option T
  | [.dK kvs] => some (.dK kvs)
  | [.dKl kvs] => some (.dK kvs)
  | _ => none
def pDNew : PT := fun e => .ok (.dK []) e
def sSetK (p : Pth) (i a : PE) : PS := fun e => (a e).st fun d e1 => (p.ev e1).st fun r e2 => (i e2).st fun x e3 => match keyOf x, getP p.root r e3 with
  | some k, some (.dK ds) => if ds.length < 16000000 then .nx (setP p.root r (.dK (putK ds k d)) e3) else .bad
  | _, _ => .bad
def pairsK : List D → Option (List (DK × D))
  | [] => some []
  | k :: v :: r => (match keyOf k, pairsK r with
    | some k, some kvs => some ((k, v) :: kvs)
    | _, _ => none)
  | _ => none
def mergeP (kvs more : List (DK × D)) : List (DK × D) := more.foldl (fun acc kv => putK acc kv.1 kv.2) kvs
/-- a display: keys and values in turn -/
def pDisp (am : PDs) : PT := fun e => (am e).bind fun ds e1 => match pairsK ds with
  | some kvs => if kvs.length ≤ 15 then .ok (.dK (mergeP [] kvs)) e1 else .bad
  | none => .bad
def dkD : DK → D
  | .inl i => .int i
  | .inr s => .str s
/-- a walk over the keys of the dict in a slot, which nobody changes any more -/
def iKv (i : Nat) : PDs := fun e => match e[i]? with
  | some (.dK kvs) => .ok (kvs.map fun p => dkD p.1) (e.set i (.leaf (.dKl kvs)))
  | some (.leaf (.dKl kvs)) => .ok (kvs.map fun p => dkD p.1) e
  | _ => .bad
/-! ### more built-ins -/
def intsD : List D → Option (List Int)
  | [] => some []
  | .int i :: r => (intsD r).map (i :: ·)
  | _ :: _ => none
def blsD : List D → Option (List Bool)
  | [] => some []
  | .bl i :: r => (blsD r).map (i :: ·)
  | _ :: _ => none
/-- a function of the numbers of a list -/
def gLI (f : List Int → Option Int) : List D → Option D
  | [.lst ds] => (intsD ds).bind fun ns => (f ns).map .int
  | [.kl ds] => (intsD ds).bind fun ns => (f ns).map .int
  | _ => none
def gLB (f : List Bool → Bool) : List D → Option D
  | [.lst ds] => (blsD ds).map fun bs => .bl (f bs)
  | _ => none
def maxL : List Int → Option Int
  | [] => none
  | i :: r => some (r.foldl (fun a b => if b > a then b else a) i)
def minL : List Int → Option Int
  | [] => none
  | i :: r => some (r.foldl (fun a b => if b < a then b else a) i)
abbrev gSum := gLI fun ns => some ns.sum
abbrev gMax1 := gLI maxL
abbrev gMin1 := gLI minL
abbrev gAny := gLB fun bs => bs.any id
abbrev gAll := gLB fun bs => bs.all id
def insI (i : Int) : List Int → List Int
  | [] => [i]
  | j :: r => if i ≤ j then i :: j :: r else j :: insI i r
def sortI (ns : List Int) : List Int := ns.foldr insI []
def gSortI : List D → Option T
  | [.lst ds] => (intsD ds).map fun ns => .ls ((sortI ns).map .int)
  | [.kl ds] => (intsD ds).map fun ns => .ls ((sortI ns).map .int)
  | _ => none
/-! ### texts, places, chains -/
def gOrd : List D → Option D
  | [.str [c]] => some (.int c)
  | _ => none
def pChain (f f' : D → D → Option Bool) (a b c : PE) : PE := fun e => (a e).bind fun x e1 => (b e1).bind fun y e2 => (oE (f x y) e2).bind fun k e3 => if k = true then (c e3).bind fun z e4 => (oE (f' y z) e4).bind fun k e5 => .ok (.bl k) e5 else .ok (.bl false) e3
def gMulS : D → D → Option D
  | .str s, .int k => if s.length * k.toNat ≤ 16000000 ∧ k.natAbs ≤ 1000000000 then some (.str (List.replicate k.toNat s).flatten) else none
  | _, _ => none
/-- a sign in a text -/
def cInS : D → D → Option Bool
  | .str [c], .str z => some (decide (c ∈ z))
  | _, _ => none
def cNinS (x y : D) : Option Bool := (cInS x y).map not
/-- the first place of a sign in a text -/
def gIndexS (s : List Nat) : D → Option D
  | .str [c] => (s.findIdx? (· == c)).map fun (i : Nat) => D.int i
  | _ => none
/-- .. of a plain value in a list -/
def gIndexL : D → D → Option D
  | .lst ds, y => if ds.all atom = true ∧ atom y = true then (ds.findIdx? fun z => D.eq z y).map fun (i : Nat) => D.int i else none
  | _, _ => none
def pIndexL (a b : PE) : PE := fun e => (a e).bind fun x e1 => match x with
  | .lst ds => (b e1).bind fun y e2 => oE (gIndexL (.lst ds) y) e2
  | _ => .bad
/-- .. of a text in a written tuple -/
def gIndexT (ss : List (List Nat)) : List D → Option D
  | [.str z] => (ss.findIdx? (· == z)).map fun (i : Nat) => D.int i
  | _ => none
/-- the name of an exception goes -/
def PRS.cl (i : Nat) : PRS → PRS
  | .nx e => .nx (e.set i .hole)
  | .rt t e => .rt t (e.set i .hole)
  | .bk e => .bk (e.set i .hole)
  | .ct e => .ct (e.set i .hole)
  | .ex _ _ _ => .bad
  | .bad => .bad
def sTryAs (i : Nat) (ys : List Nat) (b s : PS) : PS := fun e => match b e with
  | .ex C x e1 => if C ∈ ys ∧ x = none ∧ i < e1.length then (s (e1.set i .hole)).cl i else .bad
  | r => r
/-! ### more of lists and numbers -/
def sInt (i : Int) : List Nat := (toString i).toList.map Char.toNat
def gStr : List D → Option D
  | [.int i] => if i.natAbs.log2 < 1920 then some (.str (sInt i)) else none
  | _ => none
def uPop : T → List D → Option (D × T)
  | .ls us, [] => (us[us.length - 1]?).map fun y => (y, .ls us.dropLast)
  | _, _ => none
def uIns : T → List D → Option (D × T)
  | .ls us, [.int i, d] => if us.length < 16000000 ∧ 0 ≤ i ∧ i < 1000000000000000000 then some (.non, .ls (us.take i.toNat ++ [d] ++ us.drop i.toNat)) else none
  | _, _ => none
/-- [::-1] of a list: a new one -/
def gRev : D → Option T
  | .lst us => some (.ls us.reverse)
  | .kl us => some (.ls us.reverse)
  | _ => none
def pRev (a : PE) : PT := fun e => (a e).bind fun x e1 => oE (gRev x) e1
def rngD (hi : Int) (n : Nat) : List D := (List.range n).map fun i => .int (hi - (i : Nat))
def gR3 : List D → Option (List D)
  | [.int i, .int j, .int c] => if i.natAbs ≤ 1000000000 ∧ j.natAbs ≤ 1000000000 ∧ c = -1 then some (rngD i (i - j).toNat) else none
  | _ => none
abbrev iR3 := iOp gR3
/-! ### comprehensions whose items may raise -/
def lcLX (c : CT) (t : PB) (a : PE) (vs : List Nat) : List D → List D → Env → PR (List D)
  | [], acc, e => .ok acc e
  | d :: ds, acc, e => match c.asg d (kill vs e) with
    | some e1 => (t e1).no.bind fun b e2 => if b = true then (a e2).bind fun y e3 => if acc.length < 16000000 then lcLX c t a vs ds (acc ++ [y]) e3 else .bad else lcLX c t a vs ds acc e2
    | none => .bad
/-- behind a comprehension: its names are gone -/
def PR.kl {α β : Type} (vs : List Nat) (f : α → β) : PR α → PR β
  | .ok a e => .ok (f a) (kill vs e)
  | .exc C x e => .exc C x (kill vs e)
  | .bad => .bad
def pLcX (it : PDs) (c : CT) (t : PB) (a : PE) (vs : List Nat) : PT := fun e => (it e).bind fun ds e1 => (lcLX c t a vs ds [] e1).kl vs .ls
/-! ### a number that only the kernel sees through (so that nobody walks a long range while a proof is read) -/
def kA (n : Nat) (i : Int) : Int := if n = 0 then i else kA (n / 2) i
termination_by n
decreasing_by omega
def kI (i : Int) : Int := kA 1 i
end P

set_option Elab.async false
set_option linter.all false
set_option maxRecDepth 100000
set_option maxHeartbeats 1000000
/-! PS1: what it means that a meaning over the store does as a pure meaning says. -/
namespace P
open Q (U O Sto Env' R RS EM TM AM SM Sem')
abbrev fs' (f : String) : PySem.Str := PySem.Str.ofString f
section
variable (cc : Nat → Nat) (h : Sto) (F : Nat → Prop)
mutual
inductive Dn : U → D → Prop
  | non : Dn .non .non
  | bl (b : Bool) : Dn (.bl b) (.bl b)
  | int (i : Int) : Dn (.int i) (.int i)
  | str (s : List Nat) : Dn (.str s) (.str s)
  | tup {us : List U} {ds : List D} (r : Dns us ds) : Dn (.tup us) (.tup ds)
  | fl {us : List U} {ds : List D} (r : Dns us ds) : Dn (.fl us) (.lst ds)
  | kl {us : List U} {ds : List D} (r : Dns us ds) : Dn (.kl us) (.kl ds)
  | lst {n : Nat} {us : List U} {ds : List D} (f : F n) (e : h[n]? = some (.lst us)) (r : Dns us ds) : Dn (.ref n) (.lst ds)
  | dK {n : Nat} {us : List (Q.DK × U)} {ds : List (DK × D)} (f : F n) (e : h[n]? = some (.dK us)) (k : us.map Prod.fst = ds.map Prod.fst) (r : Dns (us.map Prod.snd) (ds.map Prod.snd)) : Dn (.ref n) (.dK ds)
  | dT {n : Nat} {us : List (List Q.DK × U)} {ds : List (List DK × D)} (f : F n) (e : h[n]? = some (.dT us)) (k : us.map Prod.fst = ds.map Prod.fst) (r : Dns (us.map Prod.snd) (ds.map Prod.snd)) : Dn (.ref n) (.dT ds)
  | ins {n C : Nat} {us : List (PySem.Str × U)} {ds : List (String × D)} (f : F n) (e : h[n]? = some (.ins (cc C) us)) (k : us.map Prod.fst = ds.map fun p => fs' p.1) (r : Dns (us.map Prod.snd) (ds.map Prod.snd)) : Dn (.ref n) (.ins C ds)
  | dKl {n : Nat} {us : List (Q.DK × U)} {ds : List (DK × D)} (f : F n) (e : h[n]? = some (.dKl us)) (k : us.map Prod.fst = ds.map Prod.fst) (r : Dns (us.map Prod.snd) (ds.map Prod.snd)) : Dn (.ref n) (.dKl ds)
inductive Dns : List U → List D → Prop
  | nil : Dns [] []
  | cons {u : U} {d : D} {us : List U} {ds : List D} (x : Dn u d) (r : Dns us ds) : Dns (u :: us) (d :: ds)
end
mutual
inductive Ow : U → T → List Nat → Prop
  | hole (u : U) : Ow u .hole []
  | leaf {u : U} {d : D} (r : Dn cc h F u d) : Ow u (.leaf d) []
  | ls {n : Nat} {us : List U} {ds : List D} (e : h[n]? = some (.lst us)) (r : Dns cc h F us ds) : Ow (.ref n) (.ls ds) [n]
  | lT {n : Nat} {us : List U} {ts : List T} {fp : List Nat} (e : h[n]? = some (.lst us)) (r : Ows us ts fp) : Ow (.ref n) (.lT ts) (n :: fp)
  | dK {n : Nat} {us : List (Q.DK × U)} {ds : List (DK × D)} (e : h[n]? = some (.dK us)) (k : us.map Prod.fst = ds.map Prod.fst) (r : Dns cc h F (us.map Prod.snd) (ds.map Prod.snd)) : Ow (.ref n) (.dK ds) [n]
  | dT {n : Nat} {us : List (List Q.DK × U)} {ds : List (List DK × D)} (e : h[n]? = some (.dT us)) (k : us.map Prod.fst = ds.map Prod.fst) (r : Dns cc h F (us.map Prod.snd) (ds.map Prod.snd)) : Ow (.ref n) (.dT ds) [n]
  | is {n C : Nat} {us : List (PySem.Str × U)} {ts : List (String × T)} {fp : List Nat} (e : h[n]? = some (.ins (cc C) us)) (k : us.map Prod.fst = ts.map fun p => fs' p.1) (r : Ows (us.map Prod.snd) (ts.map Prod.snd) fp) : Ow (.ref n) (.is C ts) (n :: fp)
inductive Ows : List U → List T → List Nat → Prop
  | nil : Ows [] [] []
  | cons {u : U} {t : T} {us : List U} {ts : List T} {f1 f2 : List Nat} (x : Ow u t f1) (r : Ows us ts f2) : Ows (u :: us) (t :: ts) (f1 ++ f2)
end
/-- a slot -/
def Os (o : Option U) (t : T) (f : List Nat) : Prop := match o with
  | some u => Ow cc h F u t f
  | none => t = .hole ∧ f = []
inductive Ev : Env' → Env → List Nat → Prop
  | nil : Ev [] [] []
  | cons {o : Option U} {t : T} {env : Env'} {e : Env} {f1 f2 : List Nat} (x : Os cc h F o t f1) (r : Ev env e f2) : Ev (o :: env) (t :: e) (f1 ++ f2)
/-- what stands at the top -/
def Tp (u : U) : D → Prop
  | .lst ds => ∃ us, Q.mL h u = some us ∧ Dns cc h F us ds
  | .dK ds => ∃ n us, u = .ref n ∧ h[n]? = some (.dK us) ∧ us.map Prod.fst = ds.map Prod.fst ∧ Dns cc h F (us.map Prod.snd) (ds.map Prod.snd)
  | .dT ds => ∃ n us, u = .ref n ∧ h[n]? = some (.dT us) ∧ us.map Prod.fst = ds.map Prod.fst ∧ Dns cc h F (us.map Prod.snd) (ds.map Prod.snd)
  | .ins C ds => ∃ n us, u = .ref n ∧ h[n]? = some (.ins (cc C) us) ∧ us.map Prod.fst = (ds.map fun p => fs' p.1) ∧ Dns cc h F (us.map Prod.snd) (ds.map Prod.snd)
  | d => Dn cc h F u d
end
/-- what is frozen stays -/
structure Stab (h : Sto) (F : Nat → Prop) (h' : Sto) (F' : Nat → Prop) : Prop where
  le : ∀ n, F n → F' n
  eq : ∀ n, F n → h'[n]? = h[n]?
/-- .. and what is in f -/
def Keep (f : List Nat) (h h' : Sto) : Prop := ∀ n ∈ f, h'[n]? = h[n]?
structure SR (h : Sto) (F : Nat → Prop) (fp : List Nat) : Prop where
  nd : fp.Nodup
  lt : ∀ n ∈ fp, n < h.length
  fF : ∀ n ∈ fp, ¬ F n
  Fl : ∀ n, F n → n < h.length
structure Fr (h : Sto) (F : Nat → Prop) (fp : List Nat) (h' : Sto) (F' : Nat → Prop) (fp' : List Nat) : Prop where
  len : h.length ≤ h'.length
  eq : ∀ n, n < h.length → n ∉ fp → h'[n]? = h[n]?
  le : ∀ n, F n → F' n
  new : ∀ n, F' n → F n ∨ n ∈ fp ∨ h.length ≤ n
  own : ∀ n ∈ fp', n ∈ fp ∨ h.length ≤ n
  sr : SR h' F' fp'
/-- nothing that was there is another one -/
def Sm (h h' : Sto) : Prop := ∀ n, n < h.length → h'[n]? = h[n]?
section
variable {cc : Nat → Nat} {h h' h1 h2 : Sto} {F F' F1 F2 : Nat → Prop} {u : U} {d : D} {us : List U} {ds : List D} {t : T} {ts : List T} {f f1 f2 fp fp' fp1 fp2 : List Nat} {env env' : Env'} {e e' : Env}
theorem Stab.refl : Stab h F h F := ⟨fun _ x => x, fun _ _ => rfl⟩
theorem Stab.trans (a : Stab h F h1 F1) (b : Stab h1 F1 h2 F2) : Stab h F h2 F2 := ⟨fun n x => b.le n (a.le n x), fun n x => (b.eq n (a.le n x)).trans (a.eq n x)⟩
mutual
theorem Dn.mono (s : Stab h F h' F') : ∀ {u : U} {d : D}, Dn cc h F u d → Dn cc h' F' u d
  | _, _, .non => .non
  | _, _, .bl b => .bl b
  | _, _, .int b => .int b
  | _, _, .str b => .str b
  | _, _, .tup r => .tup (Dns.mono s r)
  | _, _, .fl r => .fl (Dns.mono s r)
  | _, _, .kl r => .kl (Dns.mono s r)
  | _, _, .lst f e r => .lst (s.le _ f) ((s.eq _ f).trans e) (Dns.mono s r)
  | _, _, .dK f e k r => .dK (s.le _ f) ((s.eq _ f).trans e) k (Dns.mono s r)
  | _, _, .dT f e k r => .dT (s.le _ f) ((s.eq _ f).trans e) k (Dns.mono s r)
  | _, _, .dKl f e k r => .dKl (s.le _ f) ((s.eq _ f).trans e) k (Dns.mono s r)
  | _, _, .ins f e k r => .ins (s.le _ f) ((s.eq _ f).trans e) k (Dns.mono s r)
theorem Dns.mono (s : Stab h F h' F') : ∀ {us : List U} {ds : List D}, Dns cc h F us ds → Dns cc h' F' us ds
  | _, _, .nil => .nil
  | _, _, .cons x r => .cons (Dn.mono s x) (Dns.mono s r)
end
theorem keep_l {h h' : Sto} (k : Keep (f1 ++ f2) h h') : Keep f1 h h' := fun n m => k n (List.mem_append_left _ m)
theorem keep_r {h h' : Sto} (k : Keep (f1 ++ f2) h h') : Keep f2 h h' := fun n m => k n (List.mem_append_right _ m)
mutual
theorem Ow.mono (s : Stab h F h' F') : ∀ {u : U} {t : T} {f : List Nat}, Keep f h h' → Ow cc h F u t f → Ow cc h' F' u t f
  | _, _, _, _, .hole u => .hole u
  | _, _, _, _, .leaf r => .leaf (r.mono s)
  | _, _, _, k, .ls e r => .ls ((k _ (List.mem_singleton.mpr rfl)).trans e) (r.mono s)
  | _, _, _, k, .lT e r => .lT ((k _ List.mem_cons_self).trans e) (Ows.mono s (fun n m => k n (List.mem_cons_of_mem _ m)) r)
  | _, _, _, k, .dK e q r => .dK ((k _ (List.mem_singleton.mpr rfl)).trans e) q (r.mono s)
  | _, _, _, k, .dT e q r => .dT ((k _ (List.mem_singleton.mpr rfl)).trans e) q (r.mono s)
  | _, _, _, k, .is e q r => .is ((k _ List.mem_cons_self).trans e) q (Ows.mono s (fun n m => k n (List.mem_cons_of_mem _ m)) r)
theorem Ows.mono (s : Stab h F h' F') : ∀ {us : List U} {ts : List T} {f : List Nat}, Keep f h h' → Ows cc h F us ts f → Ows cc h' F' us ts f
  | _, _, _, _, .nil => .nil
  | _, _, _, k, .cons x r => .cons (Ow.mono s (keep_l k) x) (Ows.mono s (keep_r k) r)
end
theorem Os.mono (s : Stab h F h' F') {o : Option U} (k : Keep f h h') (x : Os cc h F o t f) : Os cc h' F' o t f := by
  cases o with
  | none => exact x
  | some u => exact Ow.mono s k x
theorem Ev.mono (s : Stab h F h' F') : ∀ {env : Env'} {e : Env} {f : List Nat}, Keep f h h' → Ev cc h F env e f → Ev cc h' F' env e f
  | _, _, _, _, .nil => .nil
  | _, _, _, k, .cons x r => .cons (x.mono s (keep_l k)) (Ev.mono s (keep_r k) r)
theorem Tp.mono (s : Stab h F h' F') (sr : SR h F fp) (k : Sm h h') (x : Tp cc h F u d) : Tp cc h' F' u d := by
  have g : ∀ {n : Nat} {o : O}, h[n]? = some o → h'[n]? = some o := fun {n o} q => (k n (List.getElem?_eq_some_iff.mp q).1).trans q
  cases d with
  | lst ds =>
    obtain ⟨us, a, r⟩ := x
    refine ⟨us, ?_, r.mono s⟩
    cases u with
    | ref n =>
      simp only [Q.e_mL_ref] at a ⊢
      split at a
      · rename_i q; rw [g q]; exact a
      · cases a
    | _ => exact a
  | dK ds => obtain ⟨n, us, a, b, c, r⟩ := x; exact ⟨n, us, a, g b, c, r.mono s⟩
  | dT ds => obtain ⟨n, us, a, b, c, r⟩ := x; exact ⟨n, us, a, g b, c, r.mono s⟩
  | ins C ds => obtain ⟨n, us, a, b, c, r⟩ := x; exact ⟨n, us, a, g b, c, r.mono s⟩
  | _ => exact Dn.mono s x
theorem Dn.tp (x : Dn cc h F u d) : Tp cc h F u d := by
  cases x with
  | fl r => exact ⟨_, rfl, r⟩
  | kl r => exact Dn.kl r
  | lst f e r => exact ⟨_, by rw [Q.e_mL_ref, e], r⟩
  | dK f e k r => exact ⟨_, _, rfl, e, k, r⟩
  | dT f e k r => exact ⟨_, _, rfl, e, k, r⟩
  | dKl f e k r => exact .dKl f e k r
  | ins f e k r => exact ⟨_, _, rfl, e, k, r⟩
  | non => exact Dn.non
  | bl b => exact Dn.bl b
  | int b => exact Dn.int b
  | str b => exact Dn.str b
  | tup r => exact Dn.tup r
/-! frames -/
theorem SR.perm (p : fp.Perm fp') (x : SR h F fp) : SR h F fp' := ⟨p.nodup_iff.mp x.nd, fun n m => x.lt n (p.mem_iff.mpr m), fun n m => x.fF n (p.mem_iff.mpr m), x.Fl⟩
theorem SR.sub (x : SR h F fp) (s : fp'.Sublist fp) : SR h F fp' := ⟨x.nd.sublist s, fun n m => x.lt n (s.subset m), fun n m => x.fF n (s.subset m), x.Fl⟩
theorem SR.left (x : SR h F (f1 ++ f2)) : SR h F f1 := x.sub (List.sublist_append_left _ _)
theorem SR.right (x : SR h F (f1 ++ f2)) : SR h F f2 := x.sub (List.sublist_append_right _ _)
theorem Fr.refl (x : SR h F fp) : Fr h F fp h F fp := ⟨Nat.le_refl _, fun _ _ _ => rfl, fun _ y => y, fun _ y => .inl y, fun _ y => .inl y, x⟩
theorem Fr.trans (a : Fr h F fp h1 F1 fp1) (b : Fr h1 F1 fp1 h2 F2 fp2) : Fr h F fp h2 F2 fp2 where
  len := Nat.le_trans a.len b.len
  eq := fun n l m => by
    have : n ∉ fp1 := fun z => by
      rcases a.own n z with y | y
      · exact m y
      · omega
    rw [b.eq n (Nat.lt_of_lt_of_le l a.len) this, a.eq n l m]
  le := fun n x => b.le n (a.le n x)
  new := fun n x => by
    rcases b.new n x with y | y | y
    · exact a.new n y
    · rcases a.own n y with z | z
      · exact .inr (.inl z)
      · exact .inr (.inr z)
    · exact .inr (.inr (Nat.le_trans a.len y))
  own := fun n x => by
    rcases b.own n x with y | y
    · exact a.own n y
    · exact .inr (Nat.le_trans a.len y)
  sr := b.sr
theorem Fr.perm (a : Fr h F fp h1 F1 fp1) (p : fp1.Perm fp2) : Fr h F fp h1 F1 fp2 := ⟨a.len, a.eq, a.le, a.new, fun n m => a.own n (p.mem_iff.mpr m), a.sr.perm p⟩
theorem Fr.sub (a : Fr h F fp h1 F1 fp1) (s : fp2.Sublist fp1) : Fr h F fp h1 F1 fp2 := ⟨a.len, a.eq, a.le, a.new, fun n m => a.own n (s.subset m), a.sr.sub s⟩
theorem Fr.permL (a : Fr h F fp h1 F1 fp1) (p : fp.Perm fp2) : Fr h F fp2 h1 F1 fp1 := ⟨a.len, fun n l m => a.eq n l fun z => m (p.mem_iff.mp z), a.le, fun n x => (a.new n x).imp_right fun y => y.imp_left p.mem_iff.mp, fun n m => (a.own n m).imp_left p.mem_iff.mp, a.sr⟩
theorem Fr.stab (a : Fr h F fp h1 F1 fp1) (x : SR h F fp) : Stab h F h1 F1 := ⟨a.le, fun n y => a.eq n (x.Fl n y) fun m => x.fF n m y⟩
/-- something is held meanwhile -/
theorem Fr.hold (a : Fr h F f2 h1 F1 fp1) (x : SR h F (f1 ++ f2)) : Fr h F (f1 ++ f2) h1 F1 (f1 ++ fp1) where
  len := a.len
  eq := fun n l m => a.eq n l fun z => m (List.mem_append_right _ z)
  le := a.le
  new := fun n y => (a.new n y).imp_right fun y => y.imp_left (List.mem_append_right _)
  own := fun n m => by
    rcases List.mem_append.mp m with m | m
    · exact .inl (List.mem_append_left _ m)
    · exact (a.own n m).imp_left (List.mem_append_right _)
  sr := by
    have nd := List.nodup_append.mp x.nd
    refine ⟨List.nodup_append.mpr ⟨nd.1, a.sr.nd, fun p hp q hq z => ?_⟩, fun n m => ?_, fun n m y => ?_, a.sr.Fl⟩
    · subst z
      rcases a.own p hq with y | y
      · exact nd.2.2 p hp p y rfl
      · exact absurd (x.lt p (List.mem_append_left _ hp)) (by omega)
    · rcases List.mem_append.mp m with m | m
      · exact Nat.lt_of_lt_of_le (x.lt n (List.mem_append_left _ m)) a.len
      · exact a.sr.lt n m
    · rcases List.mem_append.mp m with m | m
      · rcases a.new n y with z | z | z
        · exact x.fF n (List.mem_append_left _ m) z
        · exact nd.2.2 n m n z rfl
        · exact absurd (x.lt n (List.mem_append_left _ m)) (by omega)
      · exact a.sr.fF n m y
theorem Fr.kept (a : Fr h F f2 h1 F1 fp1) (x : SR h F (f1 ++ f2)) : Keep f1 h h1 := fun n m => a.eq n (x.lt n (List.mem_append_left _ m)) fun z => (List.nodup_append.mp x.nd).2.2 n m n z rfl
/-- a new thing -/
theorem SR.app (x : SR h F fp) (o : O) : SR (h ++ [o]) F (h.length :: fp) where
  nd := List.nodup_cons.mpr ⟨fun m => absurd (x.lt _ m) (by omega), x.nd⟩
  lt := fun n m => by
    rcases List.mem_cons.mp m with rfl | m
    · simp
    · have := x.lt n m; simp; omega
  fF := fun n m y => by
    rcases List.mem_cons.mp m with rfl | m
    · exact absurd (x.Fl _ y) (by omega)
    · exact x.fF n m y
  Fl := fun n y => by have := x.Fl n y; simp; omega
theorem Fr.app (x : SR h F fp) (o : O) : Fr h F fp (h ++ [o]) F (h.length :: fp) where
  len := by simp
  eq := fun n l _ => List.getElem?_append_left l
  le := fun _ y => y
  new := fun _ y => .inl y
  own := fun n m => by
    rcases List.mem_cons.mp m with rfl | m
    · exact .inr (Nat.le_refl _)
    · exact .inl m
  sr := x.app o
theorem Sm.app (h : Sto) (l : Sto) : Sm h (h ++ l) := fun n q => List.getElem?_append_left q
theorem Sm.refl (h : Sto) : Sm h h := fun _ _ => rfl
theorem Sm.trans (l : h.length ≤ h1.length) (a : Sm h h1) (b : Sm h1 h2) : Sm h h2 := fun n q => (b n (by omega)).trans (a n q)
theorem Keep.app (x : SR h F fp) (l : Sto) : Keep fp h (h ++ l) := fun n m => List.getElem?_append_left (x.lt n m)
theorem Stab.app (x : SR h F fp) (l : Sto) : Stab h F (h ++ l) F := ⟨fun _ y => y, fun n y => List.getElem?_append_left (x.Fl n y)⟩
/-- what is owned becomes frozen -/
theorem SR.freeze (x : SR h F (f1 ++ f2)) : SR h (fun n => F n ∨ n ∈ f1) f2 where
  nd := x.right.nd
  lt := x.right.lt
  fF := fun n m y => by
    rcases y with y | y
    · exact x.right.fF n m y
    · exact (List.nodup_append.mp x.nd).2.2 n y n m rfl
  Fl := fun n y => by
    rcases y with y | y
    · exact x.Fl n y
    · exact x.lt n (List.mem_append_left _ y)
theorem Fr.freeze (x : SR h F (f1 ++ f2)) : Fr h F (f1 ++ f2) h (fun n => F n ∨ n ∈ f1) f2 where
  len := Nat.le_refl _
  eq := fun _ _ _ => rfl
  le := fun _ y => .inl y
  new := fun n y => y.imp_right fun y => .inl (List.mem_append_left _ y)
  own := fun n m => .inl (List.mem_append_right _ m)
  sr := x.freeze
theorem Stab.freeze (f1 : List Nat) : Stab h F h (fun n => F n ∨ n ∈ f1) := ⟨fun _ y => .inl y, fun _ _ => rfl⟩
/-- an owned thing changes -/
theorem SR.set (x : SR h F fp) {n : Nat} (o : O) : SR (h.set n o) F fp := ⟨x.nd, fun k m => by simpa using x.lt k m, x.fF, fun k m => by simpa using x.Fl k m⟩
theorem Fr.set (x : SR h F fp) {n : Nat} (m : n ∈ fp) (o : O) : Fr h F fp (h.set n o) F fp where
  len := by simp
  eq := fun k _ z => List.getElem?_set_ne (by intro y; subst y; exact z m)
  le := fun _ y => y
  new := fun _ y => .inl y
  own := fun _ y => .inl y
  sr := x.set o
theorem Stab.set (x : SR h F fp) {n : Nat} (m : n ∈ fp) (o : O) : Stab h F (h.set n o) F := ⟨fun _ y => y, fun k y => List.getElem?_set_ne (by intro z; subst z; exact x.fF n m y)⟩
theorem Keep.set {n : Nat} (o : O) (m : n ∉ f) : Keep f h (h.set n o) := fun k y => List.getElem?_set_ne (by intro z; subst z; exact m y)
/-! freezing -/
mutual
theorem Ow.frz : ∀ {u : U} {t : T} {f : List Nat} {d : D}, Ow cc h F u t f → t.fz = some d → ∀ G : Nat → Prop, (∀ n, F n → G n) → (∀ n ∈ f, G n) → Dn cc h G u d
  | _, _, _, _, .hole u, q, G, a, b => by cases q
  | _, _, _, _, .leaf r, q, G, a, b => by cases q; exact r.mono ⟨a, fun _ _ => rfl⟩
  | _, _, _, _, .ls e r, q, G, a, b => by cases q; exact .lst (b _ (List.mem_singleton.mpr rfl)) e (r.mono ⟨a, fun _ _ => rfl⟩)
  | _, _, _, d, .lT (ts := ts) e r, q, G, a, b => by
    unfold T.fz at q
    cases q1 : T.fzs ts with
    | none => rw [q1] at q; cases q
    | some ds =>
      rw [q1] at q
      cases q
      exact .lst (b _ List.mem_cons_self) e (Ows.frz r q1 G a fun n m => b n (List.mem_cons_of_mem _ m))
  | _, _, _, _, .dK e k r, q, G, a, b => by cases q; exact .dK (b _ (List.mem_singleton.mpr rfl)) e k (r.mono ⟨a, fun _ _ => rfl⟩)
  | _, _, _, _, .dT e k r, q, G, a, b => by cases q; exact .dT (b _ (List.mem_singleton.mpr rfl)) e k (r.mono ⟨a, fun _ _ => rfl⟩)
  | _, _, _, d, .is (us := us) (ts := ts) e k r, q, G, a, b => by
    unfold T.fz at q
    cases q1 : T.fzf ts with
    | none => rw [q1] at q; cases q
    | some ds =>
      rw [q1] at q
      cases q
      have q2 : ∀ {ts : List (String × T)} {ds : List (String × D)}, T.fzf ts = some ds → T.fzs (ts.map Prod.snd) = some (ds.map Prod.snd) ∧ ts.map Prod.fst = ds.map Prod.fst := by
        intro ts
        induction ts with
        | nil => intro ds q; cases q; exact ⟨rfl, rfl⟩
        | cons p r ih =>
          obtain ⟨g, t⟩ := p
          intro ds q
          unfold T.fzf at q
          cases q3 : T.fz t with
          | none => rw [q3] at q; cases q
          | some d =>
            cases q4 : T.fzf r with
            | none => rw [q3, q4] at q; cases q
            | some ds' =>
              rw [q3, q4] at q
              cases q
              obtain ⟨i1, i2⟩ := ih q4
              refine ⟨?_, by simp [i2]⟩
              simp only [List.map_cons]
              unfold T.fzs
              rw [q3, i1]
      obtain ⟨q3, q4⟩ := q2 q1
      have k2 : us.map Prod.fst = ds.map fun p => fs' p.1 := by
        rw [k]
        have : (ts.map Prod.fst).map fs' = (ds.map Prod.fst).map fs' := by rw [q4]
        simpa [List.map_map, Function.comp_def] using this
      exact .ins (b _ List.mem_cons_self) e k2 (Ows.frz r q3 G a fun n m => b n (List.mem_cons_of_mem _ m))
theorem Ows.frz : ∀ {us : List U} {ts : List T} {f : List Nat} {ds : List D}, Ows cc h F us ts f → T.fzs ts = some ds → ∀ G : Nat → Prop, (∀ n, F n → G n) → (∀ n ∈ f, G n) → Dns cc h G us ds
  | _, _, _, _, .nil, q, G, a, b => by cases q; exact .nil
  | _, _, _, _, .cons (t := t) (ts := ts) x r, q, G, a, b => by
    unfold T.fzs at q
    cases q1 : T.fz t with
    | none => rw [q1] at q; cases q
    | some d =>
      cases q2 : T.fzs ts with
      | none => rw [q1, q2] at q; cases q
      | some ds =>
        rw [q1, q2] at q
        cases q
        exact .cons (Ow.frz x q1 G a fun n m => b n (List.mem_append_left _ m)) (Ows.frz r q2 G a fun n m => b n (List.mem_append_right _ m))
end
/-! flat data -/
mutual
theorem Dn.flat : ∀ {u : U} {d : D}, Dn cc h F u d → d.flat = true → ∀ h' G, Dn cc h' G u d
  | _, _, .non, _, _, _ => .non
  | _, _, .bl b, _, _, _ => .bl b
  | _, _, .int b, _, _, _ => .int b
  | _, _, .str b, _, _, _ => .str b
  | _, _, .tup r, q, h', G => .tup (Dns.flat r q h' G)
  | _, _, .fl r, q, _, _ => by cases q
  | _, _, .kl r, q, _, _ => by cases q
  | _, _, .lst f e r, q, _, _ => by cases q
  | _, _, .dK f e k r, q, _, _ => by cases q
  | _, _, .dT f e k r, q, _, _ => by cases q
  | _, _, .dKl f e k r, q, _, _ => by cases q
  | _, _, .ins f e k r, q, _, _ => by cases q
theorem Dns.flat : ∀ {us : List U} {ds : List D}, Dns cc h F us ds → D.flats ds = true → ∀ h' G, Dns cc h' G us ds
  | _, _, .nil, _, _, _ => .nil
  | _, _, .cons x r, q, h', G => by
    unfold D.flats at q
    rw [Bool.and_eq_true] at q
    exact .cons (Dn.flat x q.1 h' G) (Dns.flat r q.2 h' G)
end
theorem flats_mem : ∀ {ds : List D}, D.flats ds = true → ∀ d ∈ ds, d.flat = true
  | d :: ds, q, x, m => by
    unfold D.flats at q
    rw [Bool.and_eq_true] at q
    rcases List.mem_cons.mp m with rfl | m
    · exact q.1
    · exact flats_mem q.2 x m
mutual
theorem Ow.flt : ∀ {u : U} {t : T} {f : List Nat}, Ow cc h F u t f → t.flat = true → ∀ G, Ow cc h G u t f
  | _, _, _, .hole u, _, _ => .hole u
  | _, _, _, .leaf r, q, G => .leaf (r.flat q h G)
  | _, _, _, .ls e r, q, G => .ls e (r.flat q h G)
  | _, _, _, .lT e r, q, G => .lT e (Ows.flt r q G)
  | _, _, _, .dK e k r, q, G => .dK e k (r.flat q h G)
  | _, _, _, .dT e k r, q, G => .dT e k (r.flat q h G)
  | _, _, _, .is (ts := ts) e k r, q, G => .is e k (Ows.flt r (by
      have : ∀ ts : List (String × T), T.flatf ts = T.flats (ts.map Prod.snd) := by
        intro ts
        induction ts with
        | nil => rfl
        | cons p r ih => obtain ⟨g, t⟩ := p; unfold T.flatf; rw [ih]; simp only [List.map_cons]; conv => rhs; unfold T.flats
      rw [← this]; exact q) G)
theorem Ows.flt : ∀ {us : List U} {ts : List T} {f : List Nat}, Ows cc h F us ts f → T.flats ts = true → ∀ G, Ows cc h G us ts f
  | _, _, _, .nil, _, _ => .nil
  | _, _, _, .cons x r, q, G => by
    unfold T.flats at q
    rw [Bool.and_eq_true] at q
    exact .cons (Ow.flt x q.1 G) (Ows.flt r q.2 G)
end
end
end P

set_option Elab.async false
set_option linter.all false
set_option maxRecDepth 100000
set_option maxHeartbeats 1000000
/-! PS2: places in slots and trees; outcomes. -/
namespace P
open Q (U O Sto Env' R RS EM TM AM SM Sem')
theorem ixN_eq : @P.ixN = @L2.ixN := rfl
theorem atI_eq {α : Type} : @P.atI α = @L2.atI α := rfl
section
variable {cc : Nat → Nat} {h h' h1 h2 : Sto} {F F' F1 F2 : Nat → Prop} {u : U} {d : D} {us : List U} {ds : List D} {t : T} {ts : List T} {f f1 f2 fp fp' fp1 fp2 : List Nat} {env env' : Env'} {e e' : Env} {i : Nat}
theorem perm_mid {a b c : List Nat} : (a ++ (b ++ c)).Perm (b ++ (a ++ c)) := by
  rw [← List.append_assoc, ← List.append_assoc]
  exact List.Perm.append_right c List.perm_append_comm
/-- a slot and the others -/
theorem Ev.at : ∀ {env : Env'} {e : Env} {fp : List Nat} {i : Nat} {t : T}, Ev cc h F env e fp → e[i]? = some t → ∃ o f1 f2, env[i]? = some o ∧ Os cc h F o t f1 ∧ fp.Perm (f1 ++ f2) ∧
    ∀ h' F' o' t' f1', Stab h F h' F' → Keep f2 h h' → Os cc h' F' o' t' f1' → ∃ fp', Ev cc h' F' (env.set i o') (e.set i t') fp' ∧ fp'.Perm (f1' ++ f2)
  | _, _, _, _, _, .nil, q => by simp at q
  | _, _, _, 0, _, .cons (o := o) (f1 := f1) (f2 := f2) x r, q => by
    simp at q; subst q
    exact ⟨o, f1, f2, rfl, x, .refl _, fun h' F' o' t' f1' s k y => ⟨f1' ++ f2, .cons y (r.mono s k), .refl _⟩⟩
  | _, _, _, i + 1, _, .cons (o := o) (f1 := f1) (f2 := f2) x r, q => by
    obtain ⟨o2, g1, g2, a, b, p, z⟩ := Ev.at (i := i) r (by simpa using q)
    refine ⟨o2, g1, f1 ++ g2, by simpa using a, b, (p.append_left f1).trans perm_mid, fun h' F' o' t' f1' s k y => ?_⟩
    obtain ⟨fp', ev, p'⟩ := z h' F' o' t' f1' s (keep_r k) y
    exact ⟨f1 ++ fp', .cons (x.mono s (keep_l k)) ev, (p'.append_left f1).trans perm_mid⟩
theorem Ev.len : ∀ {env : Env'} {e : Env} {fp : List Nat}, Ev cc h F env e fp → env.length = e.length
  | _, _, _, .nil => rfl
  | _, _, _, .cons _ r => by simp [Ev.len r]
theorem list_set_same {α : Type} : ∀ {l : List α} {i : Nat} {x : α}, l[i]? = some x → l.set i x = l
  | [], _, _, q => by simp at q
  | a :: l, 0, x, q => by simp at q; simp [q]
  | a :: l, i + 1, x, q => by simp at q; simp [list_set_same q]
/-- the slot's thing goes -/
theorem Ev.hole (x : Ev cc h F env e fp) (i : Nat) : ∃ fp', Ev cc h F env (e.set i .hole) fp' ∧ ∃ f1, fp.Perm (f1 ++ fp') := by
  cases q : e[i]? with
  | none => exact ⟨fp, by rw [List.set_eq_of_length_le (by simpa using q)]; exact x, [], .refl _⟩
  | some t =>
    obtain ⟨o, f1, f2, a, b, p, z⟩ := x.at q
    obtain ⟨fp', ev, p'⟩ := z h F o .hole [] .refl (fun _ _ => rfl) (by
      cases o with
      | none => exact ⟨rfl, rfl⟩
      | some u => exact .hole u)
    rw [list_set_same a] at ev
    exact ⟨fp', ev, f1, p.trans (List.Perm.append_left f1 p'.symm)⟩
/-- another value in the slot -/
theorem Ev.put (x : Ev cc h F env e fp) (i : Nat) (o : Option U) (y : Os cc h F o t f) : ∃ fp', Ev cc h F (env.set i o) (e.set i t) (fp') ∧ ∃ g f1 f2, fp.Perm (f1 ++ f2) ∧ fp'.Perm (g ++ f2) ∧ g.Sublist f := by
  by_cases hi : i < e.length
  · obtain ⟨o1, f1, f2, a, b, p, z⟩ := x.at (List.getElem?_eq_getElem hi)
    obtain ⟨fp', ev, p'⟩ := z h F o t f .refl (fun _ _ => rfl) y
    exact ⟨fp', ev, f, f1, f2, p, p', .refl _⟩
  · have hl := x.len
    rw [List.set_eq_of_length_le (by omega), List.set_eq_of_length_le (by omega)]
    exact ⟨fp, x, [], [], fp, .refl _, .refl _, List.nil_sublist _⟩
theorem Ev.putD (x : Ev cc h F env e fp) (i : Nat) {u : U} {d : D} (y : Dn cc h F u d) : ∃ fp', Ev cc h F (env.set i (some u)) (e.set i (.leaf d)) fp' ∧ ∃ f1, fp.Perm (f1 ++ fp') := by
  obtain ⟨fp', ev, g, f1, f2, p, p', s⟩ := x.put i (some u) (show Os cc h F (some u) (.leaf d) [] from .leaf y)
  have : g = [] := List.sublist_nil.mp s
  subst this
  exact ⟨fp', ev, f1, p.trans (List.Perm.append_left f1 (by simpa using p'.symm))⟩
/-! trees -/
def at1 (h : Sto) : U → Ac → Option U
  | u, .ix i => (match Q.sL h u with
    | some us => L2.atI us i
    | none => none)
  | .ref n, .fld _ f => (match h[n]? with
    | some (.ins _ fs) => fs.lookup (fs' f)
    | _ => none)
  | _, _ => none
def atU (h : Sto) : U → List Ac → Option U
  | u, [] => some u
  | u, a :: r => match at1 h u a with
    | some v => atU h v r
    | none => none
theorem sL_mono (k : Sm h h') {us : List U} (q : Q.sL h u = some us) : Q.sL h' u = some us := by
  cases u with
  | ref n =>
    simp only [Q.e_sL_ref] at q ⊢
    split at q
    · rename_i q1
      rw [(k n (List.getElem?_eq_some_iff.mp q1).1).trans q1]; exact q
    · cases q
  | _ => exact q
theorem at1_mono (k : Sm h h') {v : U} {a : Ac} (q : at1 h u a = some v) : at1 h' u a = some v := by
  cases a with
  | ix i =>
    have q : (match Q.sL h u with
      | some us => L2.atI us i
      | none => none) = some v := by cases u <;> exact q
    have g : at1 h' u (.ix i) = (match Q.sL h' u with
      | some us => L2.atI us i
      | none => none) := by cases u <;> rfl
    rw [g]
    cases q1 : Q.sL h u with
    | none => rw [q1] at q; cases q
    | some us => rw [q1] at q; rw [sL_mono k q1]; exact q
  | fld Cs f =>
    cases u with
    | ref n =>
      simp only [at1] at q ⊢
      split at q
      · rename_i q1
        rw [(k n (List.getElem?_eq_some_iff.mp q1).1).trans q1]; exact q
      · cases q
    | _ => cases q
theorem atU_mono (k : Sm h h') : ∀ {u v : U} {r : List Ac}, atU h u r = some v → atU h' u r = some v
  | u, v, [], q => q
  | u, v, a :: r, q => by
    unfold atU at q ⊢
    cases q1 : at1 h u a with
    | none => rw [q1] at q; cases q
    | some w => rw [q1] at q; rw [at1_mono k q1]; exact atU_mono k q
theorem atU_app : ∀ (u : U) (r s : List Ac), atU h u (r ++ s) = (atU h u r).bind fun v => atU h v s
  | u, [], s => by
    have : atU h u [] = some u := by unfold atU; rfl
    rw [this]; rfl
  | u, a :: r, s => by
    have e1 : atU h u ((a :: r) ++ s) = (match at1 h u a with
      | some v => atU h v (r ++ s)
      | none => none) := by show atU h u (a :: (r ++ s)) = _; conv => lhs; unfold atU
    have e2 : atU h u (a :: r) = (match at1 h u a with
      | some v => atU h v r
      | none => none) := by conv => lhs; unfold atU
    rw [e1, e2]
    cases at1 h u a with
    | none => rfl
    | some v => exact atU_app v r s
theorem get_cons (t : T) (a : Ac) (r : List Ac) : t.get (a :: r) = (t.get1 a).bind fun v => v.get r := by
  conv => lhs; unfold T.get
  cases t.get1 a <;> rfl
theorem get_app : ∀ (t : T) (r s : List Ac), t.get (r ++ s) = (t.get r).bind fun v => v.get s
  | t, [], s => by
    have : t.get [] = some t := by unfold T.get; rfl
    rw [this]; rfl
  | t, a :: r, s => by
    rw [List.cons_append, get_cons, get_cons]
    cases t.get1 a with
    | none => rfl
    | some v => exact get_app v r s
theorem Dns.get : ∀ {us : List U} {ds : List D} {i : Nat} {d : D}, Dns cc h F us ds → ds[i]? = some d → ∃ u, us[i]? = some u ∧ Dn cc h F u d
  | _, _, _, _, .nil, q => by simp at q
  | _, _, 0, _, .cons x r, q => by simp at q; subst q; exact ⟨_, rfl, x⟩
  | _, _, i + 1, _, .cons x r, q => by simpa using Dns.get (i := i) r (by simpa using q)
theorem Dns.len : ∀ {us : List U} {ds : List D}, Dns cc h F us ds → us.length = ds.length
  | _, _, .nil => rfl
  | _, _, .cons _ r => by simp [Dns.len r]
theorem Dns.at {i : Int} {d : D} (r : Dns cc h F us ds) (q : P.atI ds i = some d) : ∃ u, L2.atI us i = some u ∧ Dn cc h F u d := by
  have q : L2.atI ds i = some d := q
  unfold L2.atI at q ⊢
  rw [r.len]
  cases q1 : L2.ixN ds.length i with
  | none => rw [q1] at q; cases q
  | some k =>
    rw [q1] at q
    exact r.get q
theorem Ows.len : ∀ {us : List U} {ts : List T} {f : List Nat}, Ows cc h F us ts f → us.length = ts.length
  | _, _, _, .nil => rfl
  | _, _, _, .cons _ r => by simp [Ows.len r]
theorem Ows.at : ∀ {us : List U} {ts : List T} {fp : List Nat} {i : Nat} {t : T}, Ows cc h F us ts fp → ts[i]? = some t → ∃ o f1 f2, us[i]? = some o ∧ Ow cc h F o t f1 ∧ fp.Perm (f1 ++ f2) ∧
    ∀ h' F' o' t' f1', Stab h F h' F' → Keep f2 h h' → Ow cc h' F' o' t' f1' → ∃ fp', Ows cc h' F' (us.set i o') (ts.set i t') fp' ∧ fp'.Perm (f1' ++ f2)
  | _, _, _, _, _, .nil, q => by simp at q
  | _, _, _, 0, _, .cons (u := o) (f1 := f1) (f2 := f2) x r, q => by
    simp at q; subst q
    exact ⟨o, f1, f2, rfl, x, .refl _, fun h' F' o' t' f1' s k y => ⟨f1' ++ f2, .cons y (r.mono s k), .refl _⟩⟩
  | _, _, _, i + 1, _, .cons (u := o) (f1 := f1) (f2 := f2) x r, q => by
    obtain ⟨o2, g1, g2, a, b, p, z⟩ := Ows.at (i := i) r (by simpa using q)
    refine ⟨o2, g1, f1 ++ g2, by simpa using a, b, (p.append_left f1).trans perm_mid, fun h' F' o' t' f1' s k y => ?_⟩
    obtain ⟨fp', ev, p'⟩ := z h' F' o' t' f1' s (keep_r k) y
    exact ⟨f1 ++ fp', .cons (x.mono s (keep_l k)) ev, (p'.append_left f1).trans perm_mid⟩
theorem fs_inj {f g : String} (e : fs' f = fs' g) : f = g := by
  have e : PySem.Str.ofString f = PySem.Str.ofString g := e
  rw [PySem.Str.ofString_eq_toList, PySem.Str.ofString_eq_toList] at e
  injection e with e
  have e := congrArg Array.toList e
  simp only [List.toList_toArray] at e
  have : Function.Injective Char.toNat := fun a b q => Char.toNat_inj.mp q
  have := List.map_inj_right (fun a b q => this q) |>.mp e
  exact String.toList_inj.mp this
/-- the place of a field -/
theorem look_at {α β : Type} : ∀ {us : List (PySem.Str × α)} {ts : List (String × β)} {f : String} {t : β}, us.map Prod.fst = (ts.map fun p => fs' p.1) → ts.lookup f = some t → ∃ i, (ts.map Prod.snd)[i]? = some t ∧
    (∀ v, (us.map Prod.snd)[i]? = some v → us.lookup (fs' f) = some v) ∧ ∀ s, (putF f s ts).map Prod.snd = (ts.map Prod.snd).set i s ∧ (putF f s ts).map Prod.fst = ts.map Prod.fst
  | us, [], f, t, _, q => by simp at q
  | [], (g, x) :: ts, f, t, e, q => by simp at e
  | (k, u) :: us, (g, x) :: ts, f, t, e, q => by
    simp only [List.map_cons, List.cons.injEq] at e
    obtain ⟨e1, e2⟩ := e
    by_cases c : f = g
    · subst c
      rw [List.lookup_cons_self] at q
      cases q
      refine ⟨0, rfl, fun v z => ?_, fun s => ?_⟩
      · simp at z; subst z; rw [e1]; simp
      · unfold putF; rw [if_pos rfl]
        exact ⟨rfl, rfl⟩
    · have c1 : (f == g) = false := by simpa using c
      rw [List.lookup_cons, c1] at q
      obtain ⟨i, a, b, d⟩ := look_at e2 q
      refine ⟨i + 1, by simpa using a, fun v z => ?_, fun s => ?_⟩
      · rw [e1, List.lookup_cons]
        have : (fs' f == fs' g) = false := by
          rw [beq_eq_false_iff_ne]
          exact fun z => c (fs_inj z)
        rw [this]
        exact b v (by simpa using z)
      · unfold putF
        rw [if_neg (fun z => c z.symm)]
        obtain ⟨d1, d2⟩ := d s
        exact ⟨by simp [d1], by simp [d2]⟩
/-- a field's store -/
theorem put_at {w : U} {s : T} {f0 : List Nat} (x : Ow cc h F w s f0) {f : String} : ∀ {us : List (PySem.Str × U)} {ts : List (String × T)} {fp : List Nat}, us.map Prod.fst = (ts.map fun p => fs' p.1) → Ows cc h F (us.map Prod.snd) (ts.map Prod.snd) fp →
    (Q.putU (fs' f) w us).map Prod.fst = ((putF f s ts).map fun p => fs' p.1) ∧ ∃ fp', Ows cc h F ((Q.putU (fs' f) w us).map Prod.snd) ((putF f s ts).map Prod.snd) fp' ∧ ∃ f1 f2, fp.Perm (f1 ++ f2) ∧ fp'.Perm (f0 ++ f2)
  | [], [], fp, _, r => by
    cases r
    exact ⟨rfl, f0 ++ [], .cons x .nil, [], [], .refl _, .refl _⟩
  | _ :: _, [], _, e, _ => by simp at e
  | [], _ :: _, _, e, _ => by simp at e
  | (k, u) :: us, (g, t) :: ts, fp, e, r => by
    simp only [List.map_cons, List.cons.injEq] at e
    obtain ⟨e1, e2⟩ := e
    simp only [List.map_cons] at r
    cases r with
    | @cons _ _ _ _ f1 f2 a b =>
      unfold Q.putU putF
      by_cases c : g = f
      · subst c
        rw [if_pos e1, if_pos rfl]
        exact ⟨by simp [e1, e2], f0 ++ f2, .cons x b, f1, f2, .refl _, .refl _⟩
      · rw [if_neg (fun z => c (fs_inj (e1.symm.trans z))), if_neg c]
        obtain ⟨i1, fp', i2, g1, g2, i3, i4⟩ := put_at x (f := f) e2 b
        refine ⟨by simp [e1, i1], f1 ++ fp', .cons a i2, g1, f1 ++ g2, (i3.append_left f1).trans perm_mid, (i4.append_left f1).trans perm_mid⟩
/-- a place in a tree -/
def T.isLeaf : T → Bool
  | .leaf _ => true
  | _ => false
theorem leaf_get : ∀ (r : List Ac) {d : D} {s : T}, (T.leaf d).get r = some s → s.isLeaf = true
  | [], d, s, q => by unfold T.get at q; cases q; rfl
  | a :: r, d, s, q => by
    unfold T.get at q
    cases q1 : (T.leaf d).get1 a with
    | none => rw [q1] at q; cases q
    | some v =>
      rw [q1] at q
      have : ∃ d', v = .leaf d' := by
        unfold T.get1 at q1
        split at q1 <;> first | cases q1; done | skip
        all_goals (rename_i hh; cases hh)
        all_goals (try (split at q1; case isFalse => cases q1))
        all_goals (obtain ⟨w, _, rfl⟩ := Option.map_eq_some_iff.mp q1; exact ⟨w, rfl⟩)
      obtain ⟨d', rfl⟩ := this
      exact leaf_get r q
theorem Dn.at1 {a : Ac} {s : T} (x : Dn cc h F u d) (q : (T.leaf d).get1 a = some s) : ∃ v d', at1 h u a = some v ∧ s = .leaf d' ∧ Dn cc h F v d' := by
  cases a with
  | ix i =>
    have g : P.at1 h u (.ix i) = (match Q.sL h u with
      | some us => L2.atI us i
      | none => none) := by cases u <;> rfl
    rw [g]
    cases x with
    | tup r =>
      obtain ⟨w, q1, rfl⟩ := Option.map_eq_some_iff.mp q
      obtain ⟨v, a1, a2⟩ := r.at q1
      exact ⟨v, w, a1, rfl, a2⟩
    | fl r =>
      obtain ⟨w, q1, rfl⟩ := Option.map_eq_some_iff.mp q
      obtain ⟨v, a1, a2⟩ := r.at q1
      exact ⟨v, w, a1, rfl, a2⟩
    | lst f e r =>
      obtain ⟨w, q1, rfl⟩ := Option.map_eq_some_iff.mp q
      obtain ⟨v, a1, a2⟩ := r.at q1
      exact ⟨v, w, by rw [Q.e_sL_ref, e]; exact a1, rfl, a2⟩
    | _ => cases q
  | fld Cs f =>
    cases x with
    | @ins n C us ds f' e k r =>
      have q : (if C ∈ Cs then (ds.lookup f).map T.leaf else none) = some s := q
      split at q
      case isFalse => cases q
      obtain ⟨w, q1, rfl⟩ := Option.map_eq_some_iff.mp q
      obtain ⟨i, a1, a2, _⟩ := look_at k q1
      obtain ⟨v, b1, b2⟩ := r.get a1
      refine ⟨v, w, ?_, rfl, b2⟩
      unfold P.at1
      simp only [e]
      exact a2 v b1
    | _ => cases q
theorem set_mid {α : Type} {l : List α} {i : Nat} {x : α} (q : l[i]? = some x) : i < l.length := (List.getElem?_eq_some_iff.mp q).1
theorem ixN_lt {n : Nat} {i : Int} {k : Nat} (q : P.ixN n i = some k) : k < n := by
  have q : L2.ixN n i = some k := q
  exact (L2.ixN_seq q).2.1
theorem Ow.at1 {a : Ac} {s : T} (x : Ow cc h F u t f) (q : t.get1 a = some s) : ∃ v f1 f2, at1 h u a = some v ∧ Ow cc h F v s f1 ∧ f.Perm (f1 ++ f2) ∧
    (s.isLeaf = false → ∀ h' F' s' f1', Stab h F h' F' → Keep f2 h h' → Ow cc h' F' v s' f1' → ∃ f', Ow cc h' F' u (t.set1 a s') f' ∧ f'.Perm (f1' ++ f2)) := by
  cases x with
  | hole u => cases a <;> cases q
  | leaf r =>
    obtain ⟨v, d', a1, rfl, a2⟩ := r.at1 q
    exact ⟨v, [], [], a1, .leaf a2, .refl _, fun z => by cases z⟩
  | @ls n us ds e r =>
    cases a with
    | ix i =>
      obtain ⟨w, q1, rfl⟩ := Option.map_eq_some_iff.mp q
      obtain ⟨v, a1, a2⟩ := r.at q1
      refine ⟨v, [], [n], ?_, .leaf a2, .refl _, fun z => by cases z⟩
      show (match Q.sL h (.ref n) with | some us => L2.atI us i | none => none) = _
      rw [Q.e_sL_ref, e]; exact a1
    | fld Cs f => cases q
  | @lT n us ts fp e r =>
    cases a with
    | ix i =>
      have q : P.atI ts i = some s := q
      unfold P.atI at q
      cases q1 : P.ixN ts.length i with
      | none => rw [q1] at q; cases q
      | some k =>
        rw [q1] at q
        obtain ⟨v, f1, f2, a1, a2, a3, a4⟩ := r.at (i := k) q
        refine ⟨v, f1, n :: f2, ?_, a2, ?_, fun _ h' F' s' f1' st k2 y => ?_⟩
        · show (match Q.sL h (.ref n) with | some us => L2.atI us i | none => none) = _
          rw [Q.e_sL_ref, e]
          show L2.atI us i = _
          unfold L2.atI
          rw [r.len, show L2.ixN ts.length i = some k from q1]
          exact a1
        · exact (a3.cons n).trans List.perm_middle.symm
        · obtain ⟨fp', b1, b2⟩ := a4 h' F' v s' f1' st (fun m z => k2 m (List.mem_cons_of_mem _ z)) y
          rw [list_set_same a1] at b1
          refine ⟨n :: fp', ?_, (b2.cons n).trans List.perm_middle.symm⟩
          have g : (T.lT ts).set1 (.ix i) s' = .lT (ts.set k s') := by
            show (match P.ixN ts.length i with | some k => T.lT (ts.set k s') | none => T.lT ts) = _
            rw [q1]
          rw [g]
          exact .lT ((k2 n List.mem_cons_self).trans e) b1
    | fld Cs f => cases q
  | dK e k r => cases a <;> cases q
  | dT e k r => cases a <;> cases q
  | @is n C us ts fp e k r =>
    cases a with
    | ix i => cases q
    | fld Cs f =>
      have q : (if C ∈ Cs then ts.lookup f else none) = some s := q
      split at q
      case isFalse => cases q
      obtain ⟨i, a1, a2, a3⟩ := look_at k q
      obtain ⟨v, f1, f2, b1, b2, b3, b4⟩ := r.at a1
      refine ⟨v, f1, n :: f2, ?_, b2, (b3.cons n).trans List.perm_middle.symm, fun _ h' F' s' f1' st k2 y => ?_⟩
      · unfold P.at1
        simp only [e]
        exact a2 v b1
      · obtain ⟨fp', c1, c2⟩ := b4 h' F' v s' f1' st (fun m z => k2 m (List.mem_cons_of_mem _ z)) y
        rw [list_set_same b1] at c1
        obtain ⟨d1, d2⟩ := a3 s'
        refine ⟨n :: fp', ?_, (c2.cons n).trans List.perm_middle.symm⟩
        unfold T.set1
        refine .is ((k2 n List.mem_cons_self).trans e) ?_ (by rw [d1]; exact c1)
        rw [k]
        have : (ts.map Prod.fst).map fs' = ((putF f s' ts).map Prod.fst).map fs' := by rw [d2]
        simpa [List.map_map, Function.comp_def] using this
theorem get_nil (t : T) : t.get [] = some t := by unfold T.get; rfl
theorem set_nil (t s : T) : t.set [] s = s := by unfold T.set; rfl
theorem atU_nil (h : Sto) (u : U) : atU h u [] = some u := by unfold atU; rfl
theorem Ow.at : ∀ (r : List Ac) {u : U} {t : T} {f : List Nat} {s : T}, Ow cc h F u t f → t.get r = some s → ∃ v f1 f2, atU h u r = some v ∧ Ow cc h F v s f1 ∧ f.Perm (f1 ++ f2) ∧
    (s.isLeaf = false → ∀ h' F' s' f1', Stab h F h' F' → Keep f2 h h' → Ow cc h' F' v s' f1' → ∃ f', Ow cc h' F' u (t.set r s') f' ∧ f'.Perm (f1' ++ f2))
  | [], u, t, f, s, x, q => by
    rw [get_nil] at q
    cases q
    refine ⟨u, f, [], atU_nil _ _, x, by simp, fun _ h' F' s' f1' st k y => ⟨f1', by rw [set_nil]; exact y, by simp⟩⟩
  | a :: r, u, t, f, s, x, q => by
    unfold T.get at q
    cases q1 : t.get1 a with
    | none => rw [q1] at q; cases q
    | some w =>
      rw [q1] at q
      obtain ⟨v, f1, f2, a1, a2, a3, a4⟩ := x.at1 q1
      obtain ⟨v', g1, g2, b1, b2, b3, b4⟩ := Ow.at r a2 q
      refine ⟨v', g1, g2 ++ f2, ?_, b2, ?_, fun z h' F' s' f1' st k y => ?_⟩
      · unfold atU; rw [a1]; exact b1
      · rw [← List.append_assoc]; exact a3.trans (b3.append_right f2)
      · obtain ⟨f', c1, c2⟩ := b4 z h' F' s' f1' st (keep_l k) y
        have wl : w.isLeaf = false := by
          cases w with
          | leaf d => rw [leaf_get r q] at z; cases z
          | _ => rfl
        obtain ⟨f'', d1, d2⟩ := a4 wl h' F' (w.set r s') f' st (keep_r k) c1
        refine ⟨f'', ?_, ?_⟩
        · unfold T.set; rw [q1]; exact d1
        · rw [← List.append_assoc]; exact d2.trans (c2.append_right f2)
/-- a place below a slot -/
theorem Ev.pt {i : Nat} {r : List Ac} {s : T} (x : Ev cc h F env e fp) (q : getP i r e = some s) (nl : s ≠ .hole) : ∃ o v f1 f2, env[i]? = some (some o) ∧ atU h o r = some v ∧ Ow cc h F v s f1 ∧ fp.Perm (f1 ++ f2) ∧
    (s.isLeaf = false → ∀ h' F' s' f1', Stab h F h' F' → Keep f2 h h' → Ow cc h' F' v s' f1' → ∃ fp', Ev cc h' F' env (setP i r s' e) fp' ∧ fp'.Perm (f1' ++ f2)) := by
  unfold getP at q
  cases q1 : e[i]? with
  | none => rw [q1] at q; cases q
  | some t =>
    rw [q1] at q
    obtain ⟨o, f1, f2, a1, a2, a3, a4⟩ := x.at q1
    cases o with
    | none =>
      obtain ⟨rfl, rfl⟩ := a2
      cases r with
      | nil => have q : T.get .hole [] = some s := q; rw [get_nil] at q; cases q; exact absurd rfl nl
      | cons a r => have q : T.get .hole (a :: r) = some s := q; unfold T.get at q; cases a <;> cases q
    | some o =>
      obtain ⟨v, g1, g2, b1, b2, b3, b4⟩ := Ow.at r a2 q
      refine ⟨o, v, g1, g2 ++ f2, a1, b1, b2, ?_, fun z h' F' s' f1' st k y => ?_⟩
      · rw [← List.append_assoc]; exact a3.trans (b3.append_right f2)
      · obtain ⟨f', c1, c2⟩ := b4 z h' F' s' f1' st (keep_l k) y
        obtain ⟨fp', d1, d2⟩ := a4 h' F' (some o) (t.set r s') f' st (keep_r k) c1
        rw [list_set_same a1] at d1
        refine ⟨fp', ?_, ?_⟩
        · unfold setP; rw [q1]; exact d1
        · rw [← List.append_assoc]; exact d2.trans (c2.append_right f2)
end
end P

set_option Elab.async false
set_option linter.all false
set_option maxRecDepth 100000
set_option maxHeartbeats 1000000
/-! PS3: expressions and tests do as their pure meanings say. -/
namespace P
open Q (U O Sto Env' R RS EM TM AM SM Sem')
section
variable (cc : Nat → Nat)
def Xd (h : Sto) (F : Nat → Prop) : Option Nat → Option (List (String × D)) → Prop
  | none, none => True
  | some n, some fs => F n ∧ ∃ us, h[n]? = some (.xd us) ∧ us.map Prod.fst = (fs.map fun p => fs' p.1) ∧ Dns cc h F (us.map Prod.snd) (fs.map Prod.snd)
  | _, _ => False
def Out {α β : Type} (q : Bool) (Rel : Sto → (Nat → Prop) → α → β → List Nat → Prop) (h : Sto) (F : Nat → Prop) (fp : List Nat) (env : Env') (r : R α) (s : PR β) : Prop := match s with
  | .ok b e' => ∃ a h' F' f1 f2, r = .ok a h' ∧ Rel h' F' a b f1 ∧ Ev cc h' F' env e' f2 ∧ Fr h F fp h' F' (f1 ++ f2) ∧ (q = true → Sm h h')
  | .exc C x e' => ∃ n h' F' f2, r = .exc (cc C) n h' ∧ Ev cc h' F' env e' f2 ∧ Fr h F fp h' F' f2 ∧ Xd cc h' F' n x
  | .bad => True
def Sim {α β : Type} (q : Bool) (Rel : Sto → (Nat → Prop) → α → β → List Nat → Prop) (m : Env' → Sto → R α) (p : Env → PR β) : Prop :=
  ∀ h F env e fp, Ev cc h F env e fp → SR h F fp → Out cc q Rel h F fp env (m env h) (p e)
def RD (h : Sto) (F : Nat → Prop) (u : U) (d : D) (f : List Nat) : Prop := f = [] ∧ Dn cc h F u d
def RX (s : Bool) (h : Sto) (F : Nat → Prop) (u : U) (d : D) (f : List Nat) : Prop := f = [] ∧ (if s = true then Dn cc h F u d else Tp cc h F u d)
def RT (h : Sto) (F : Nat → Prop) (u : U) (t : T) (f : List Nat) : Prop := Ow cc h F u t f
def RE {α : Type} (h : Sto) (F : Nat → Prop) (a b : α) (f : List Nat) : Prop := f = [] ∧ a = b
def RDs (h : Sto) (F : Nat → Prop) (u : List U) (d : List D) (f : List Nat) : Prop := f = [] ∧ Dns cc h F u d
def RTs (h : Sto) (F : Nat → Prop) (u : List U) (d : List T) (f : List Nat) : Prop := Ows cc h F u d f
/-- arguments: data, or one that is only looked at -/
def RA (s : Bool) (h : Sto) (F : Nat → Prop) (us : List U) (ds : List D) (f : List Nat) : Prop := f = [] ∧ (if s = true then Dns cc h F us ds else ∃ u d, us = [u] ∧ ds = [d] ∧ Tp cc h F u d)
end
section
variable {cc : Nat → Nat} {h h' h1 h2 : Sto} {F F' F1 F2 : Nat → Prop} {u : U} {d : D} {us : List U} {ds : List D} {t : T} {ts : List T} {f f1 f2 fp fp' fp1 fp2 : List Nat} {env env' : Env'} {e e' : Env} {i : Nat} {q s s1 s2 : Bool}
  {α β γ δ : Type}
theorem Out.ret {Rel : Sto → (Nat → Prop) → α → β → List Nat → Prop} {a : α} {b : β} (r : Rel h' F' a b f1) (x : Ev cc h' F' env e f2) (fr : Fr h F fp h' F' (f1 ++ f2)) (k : Sm h h') : Out cc q Rel h F fp env (.ok a h') (.ok b e) :=
  ⟨a, h', F', f1, f2, rfl, r, x, fr, fun _ => k⟩
theorem Out.ret0 {Rel : Sto → (Nat → Prop) → α → β → List Nat → Prop} {a : α} {b : β} (r : Rel h F a b []) (x : Ev cc h F env e fp) (sr : SR h F fp) : Out cc q Rel h F fp env (.ok a h) (.ok b e) :=
  ⟨a, h, F, [], fp, rfl, r, x, Fr.refl sr, fun _ => Sm.refl h⟩
theorem Out.bind {R1 : Sto → (Nat → Prop) → α → β → List Nat → Prop} {R2 : Sto → (Nat → Prop) → γ → δ → List Nat → Prop} {r : R α} {s : PR β} {g : α → Sto → R γ} {p : β → Env → PR δ} (o : Out cc q R1 h F fp env r s)
    (k : ∀ a b h1 F1 e1 f1 f2, R1 h1 F1 a b f1 → Ev cc h1 F1 env e1 f2 → Fr h F fp h1 F1 (f1 ++ f2) → (q = true → Sm h h1) → Out cc q R2 h1 F1 (f1 ++ f2) env (g a h1) (p b e1)) : Out cc q R2 h F fp env (r.bind g) (s.bind p) := by
  cases s with
  | bad => trivial
  | exc C x e' =>
    obtain ⟨n, h', F', f2, e1, b⟩ := o
    exact ⟨n, h', F', f2, by rw [e1]; rfl, b⟩
  | ok b e' =>
    obtain ⟨a, h1, F1, f1, f2, e1, r1, x1, fr, sm⟩ := o
    have := k a b h1 F1 e' f1 f2 r1 x1 fr sm
    rw [e1]
    show Out cc q R2 h F fp env (g a h1) (p b e')
    cases e2 : p b e' with
    | bad => trivial
    | exc C x e'' =>
      rw [e2] at this
      obtain ⟨n, h', F', f3, a1, a2, a3, a4⟩ := this
      exact ⟨n, h', F', f3, a1, a2, fr.trans a3, a4⟩
    | ok c e'' =>
      rw [e2] at this
      obtain ⟨a', h', F', f3, f4, a1, a2, a3, a4, a5⟩ := this
      exact ⟨a', h', F', f3, f4, a1, a2, a3, fr.trans a4, fun z => Sm.trans fr.len (sm z) (a5 z)⟩
theorem Out.hold {R2 R3 : Sto → (Nat → Prop) → α → β → List Nat → Prop} {r : R α} {s : PR β} (o : Out cc q R2 h F f2 env r s) (sr : SR h F (f1 ++ f2))
    (k : ∀ a b h' F' f', R2 h' F' a b f' → Stab h F h' F' → Keep f1 h h' → R3 h' F' a b (f1 ++ f')) : Out cc q R3 h F (f1 ++ f2) env r s := by
  cases s with
  | bad => trivial
  | exc C x e' =>
    obtain ⟨n, h', F', f3, a1, a2, a3, a4⟩ := o
    exact ⟨n, h', F', f3, a1, a2, (a3.hold sr).sub (List.sublist_append_right _ _), a4⟩
  | ok b e' =>
    obtain ⟨a, h', F', f3, f4, a1, a2, a3, a4, a5⟩ := o
    exact ⟨a, h', F', f1 ++ f3, f4, a1, k a b h' F' f3 a2 (a4.stab sr.right) (a4.kept sr), a3, by rw [List.append_assoc]; exact a4.hold sr, a5⟩
/-- what was held is given up -/
theorem Out.drop {R2 : Sto → (Nat → Prop) → α → β → List Nat → Prop} {r : R α} {s : PR β} (o : Out cc q R2 h F f2 env r s) (sr : SR h F (f1 ++ f2)) : Out cc q R2 h F (f1 ++ f2) env r s := by
  cases s with
  | bad => trivial
  | exc C x e' =>
    obtain ⟨n, h', F', f3, a1, a2, a3, a4⟩ := o
    exact ⟨n, h', F', f3, a1, a2, (a3.hold sr).sub (List.sublist_append_right _ _), a4⟩
  | ok b e' =>
    obtain ⟨a, h', F', f3, f4, a1, a2, a3, a4, a5⟩ := o
    exact ⟨a, h', F', f3, f4, a1, a2, a3, (a4.hold sr).sub (List.sublist_append_right _ _), a5⟩
theorem Out.rel {R2 R3 : Sto → (Nat → Prop) → α → β → List Nat → Prop} {r : R α} {s : PR β} (o : Out cc q R2 h F fp env r s) (k : ∀ a b h' F' f', R2 h' F' a b f' → R3 h' F' a b f') : Out cc q R3 h F fp env r s := by
  cases s with
  | bad => trivial
  | exc C x e' => exact o
  | ok b e' =>
    obtain ⟨a, h', F', f3, f4, a1, a2, a3⟩ := o
    exact ⟨a, h', F', f3, f4, a1, k _ _ _ _ _ a2, a3⟩
/-- a change of the result alone -/
theorem Out.bind0 {R1 : Sto → (Nat → Prop) → α → β → List Nat → Prop} {R2 : Sto → (Nat → Prop) → γ → δ → List Nat → Prop} {r : R α} {s : PR β} {g : α → Sto → R γ} {p : β → Env → PR δ} (sr : SR h F fp) (o : Out cc q R1 h F fp env r s)
    (k : ∀ a b h1 F1 e1 f2, R1 h1 F1 a b [] → Ev cc h1 F1 env e1 f2 → SR h1 F1 f2 → Stab h F h1 F1 → (q = true → Sm h h1) → Out cc q R2 h1 F1 f2 env (g a h1) (p b e1)) (n : ∀ a b h F f, R1 h F a b f → f = []) : Out cc q R2 h F fp env (r.bind g) (s.bind p) :=
  o.bind fun a b h1 F1 e1 f1 f2 r1 x1 fr sm => by
    have := n _ _ _ _ _ r1
    subst this
    exact k a b h1 F1 e1 f2 r1 x1 fr.sr (fr.stab sr) sm
theorem rd_nil : ∀ (a : U) (b : D) (h : Sto) (F : Nat → Prop) (f : List Nat), RD cc h F a b f → f = [] := fun _ _ _ _ _ x => x.1
theorem rx_nil {s : Bool} : ∀ (a : U) (b : D) (h : Sto) (F : Nat → Prop) (f : List Nat), RX cc s h F a b f → f = [] := fun _ _ _ _ _ x => x.1
theorem ra_nil {s : Bool} : ∀ (a : List U) (b : List D) (h : Sto) (F : Nat → Prop) (f : List Nat), RA cc s h F a b f → f = [] := fun _ _ _ _ _ x => x.1
theorem rds_nil : ∀ (a : List U) (b : List D) (h : Sto) (F : Nat → Prop) (f : List Nat), RDs cc h F a b f → f = [] := fun _ _ _ _ _ x => x.1
theorem re_nil : ∀ (a b : α) (h : Sto) (F : Nat → Prop) (f : List Nat), RE h F a b f → f = [] := fun _ _ _ _ _ x => x.1
theorem RX.tp (x : RX cc s h F u d f) : Tp cc h F u d := by
  obtain ⟨_, x⟩ := x
  split at x
  · exact x.tp
  · exact x
theorem RX.later (x : RX cc s h F u d f) (sr : SR h F fp) (st : Stab h F h1 F1) (sm : q = true → Sm h h1) (z : s = true ∨ q = true) : Tp cc h1 F1 u d := by
  rcases z with z | z
  · subst z
    have y : Dn cc h F u d := by have := x.2; simpa using this
    exact (y.mono st).tp
  · exact Tp.mono st sr (sm z) x.tp
theorem RD.rx (x : RD cc h F u d f) : RX cc true h F u d f := ⟨x.1, by simpa using x.2⟩
theorem Sim.rx {m : EM} {p : PE} (a : Sim cc q (RD cc) m p) : Sim cc q (RX cc true) m p := fun h F env e fp x sr => (a h F env e fp x sr).rel fun _ _ _ _ _ r => r.rx
theorem Sim.rd {m : EM} {p : PE} (a : Sim cc q (RX cc true) m p) : Sim cc q (RD cc) m p := fun h F env e fp x sr => (a h F env e fp x sr).rel fun _ _ _ _ _ r => ⟨r.1, by have := r.2; simpa using this⟩
theorem Sim.weak {Rel : Sto → (Nat → Prop) → α → β → List Nat → Prop} {m : Env' → Sto → R α} {p : Env → PR β} (a : Sim cc true Rel m p) : Sim cc false Rel m p := fun h F env e fp x sr => by
  have := a h F env e fp x sr
  cases e1 : p e with
  | bad => trivial
  | exc C y e' => rw [e1] at this; exact this
  | ok b e' =>
    rw [e1] at this
    obtain ⟨a, h', F', f1, f2, a1, a2, a3, a4, a5⟩ := this
    exact ⟨a, h', F', f1, f2, a1, a2, a3, a4, fun z => by cases z⟩
/-! slots -/
theorem sim_var {i : Nat} : Sim cc q (RD cc) (Q.mVar i) (pVar i) := fun h F env e fp x sr => by
  unfold pVar
  split
  · rename_i d q1
    obtain ⟨o, f1, f2, a1, a2, a3, _⟩ := x.at q1
    cases o with
    | none => cases a2.1
    | some u =>
      cases a2 with
      | leaf r => exact ⟨u, h, F, [], fp, by rw [Q.e_var, a1], ⟨rfl, r⟩, x, Fr.refl sr, fun _ => Sm.refl h⟩
  · trivial
theorem leaves_of : ∀ {us : List (PySem.Str × U)} {ts : List (String × T)} {ds : List (String × D)} {f : List Nat}, leaves ts = some ds → Ows cc h F (us.map Prod.snd) (ts.map Prod.snd) f → us.map Prod.fst = (ts.map fun p => fs' p.1) → us.map Prod.fst = (ds.map fun p => fs' p.1) ∧ Dns cc h F (us.map Prod.snd) (ds.map Prod.snd)
  | [], [], ds, f, q, _, _ => by cases q; exact ⟨rfl, .nil⟩
  | _ :: _, [], _, _, _, _, e => by simp at e
  | [], _ :: _, _, _, _, _, e => by simp at e
  | (k, u) :: us, (g, t) :: ts, ds, f, q, r, e => by
    simp only [List.map_cons, List.cons.injEq] at e
    cases t with
    | leaf d =>
      unfold leaves at q
      obtain ⟨ds', q1, rfl⟩ := Option.map_eq_some_iff.mp q
      simp only [List.map_cons] at r
      cases r with
      | cons a b =>
        obtain ⟨i1, i2⟩ := leaves_of q1 b e.2
        cases a with
        | leaf a => exact ⟨by simp [e.1, i1], .cons a i2⟩
    | _ => cases q
theorem Ow.vw (x : Ow cc h F u t f) (q : t.vw = some d) : Tp cc h F u d := by
  cases x with
  | leaf r => cases q; exact r.tp
  | ls e r => cases q; exact ⟨_, by rw [Q.e_mL_ref, e], r⟩
  | dK e k r => cases q; exact ⟨_, _, rfl, e, k, r⟩
  | dT e k r => cases q; exact ⟨_, _, rfl, e, k, r⟩
  | is e k r =>
    obtain ⟨ds, q1, rfl⟩ := Option.map_eq_some_iff.mp q
    obtain ⟨a, b⟩ := leaves_of q1 r k
    exact ⟨_, _, rfl, e, a, b⟩
  | hole u => cases q
  | lT e r => cases q
theorem sim_vw {i : Nat} : Sim cc q (RX cc false) (Q.mVar i) (pVw i) := fun h F env e fp x sr => by
  unfold pVw
  split
  · rename_i t q1
    obtain ⟨o, f1, f2, a1, a2, a3, _⟩ := x.at q1
    cases q2 : t.vw with
    | none => trivial
    | some d =>
      cases o with
      | none => obtain ⟨rfl, _⟩ := a2; cases q2
      | some u => exact ⟨u, h, F, [], fp, by rw [Q.e_var, a1], ⟨rfl, Ow.vw a2 q2⟩, x, Fr.refl sr, fun _ => Sm.refl h⟩
  · trivial
theorem sim_fv {i : Nat} : Sim cc q (RD cc) (Q.mVar i) (pFv i) := fun h F env e fp x sr => by
  unfold pFv
  split
  · rename_i t q1
    split
    · rename_i d q2
      obtain ⟨o, f1, f2, a1, a2, a3, a4⟩ := x.at q1
      cases o with
      | none => obtain ⟨rfl, _⟩ := a2; cases q2
      | some u =>
        have dn := Ow.frz a2 q2 (fun n => F n ∨ n ∈ f1) (fun _ y => .inl y) (fun _ y => .inr y)
        obtain ⟨fp', b1, b2⟩ := a4 h (fun n => F n ∨ n ∈ f1) (some u) (.leaf d) [] (Stab.freeze f1) (fun _ _ => rfl) (.leaf dn)
        rw [list_set_same a1] at b1
        exact ⟨u, h, _, [], fp', by rw [Q.e_var, a1], ⟨rfl, dn⟩, b1, ((Fr.freeze (sr.perm a3)).perm b2.symm).permL a3.symm, fun _ => Sm.refl h⟩
    · trivial
  · trivial
theorem sim_mv {i : Nat} : Sim cc q (RT cc) (Q.mVar i) (pMv i) := fun h F env e fp x sr => by
  unfold pMv
  split
  · trivial
  · rename_i t nh q1
    obtain ⟨o, f1, f2, a1, a2, a3, a4⟩ := x.at q1
    cases o with
    | none => obtain ⟨rfl, _⟩ := a2; exact (nh rfl).elim
    | some u =>
      obtain ⟨fp', b1, b2⟩ := a4 h F (some u) .hole [] .refl (fun _ _ => rfl) (.hole u)
      rw [list_set_same a1] at b1
      exact ⟨u, h, F, f1, fp', by rw [Q.e_var, a1], a2, b1, (Fr.refl sr).perm (a3.trans (List.Perm.append_left f1 b2.symm)), fun _ => Sm.refl h⟩
  · trivial
theorem sim_c {u : U} {d : D} (r : ∀ h F, Dn cc h F u d) : Sim cc q (RD cc) (Q.mC u) (pC d) := fun h F env e fp x sr => Out.ret0 ⟨rfl, r h F⟩ x sr
theorem sim_lf {m : EM} {p : PE} (a : Sim cc q (RD cc) m p) : Sim cc q (RT cc) m (pLf p) := fun h F env e fp x sr => by
  have := a h F env e fp x sr
  unfold pLf
  cases e1 : p e with
  | bad => trivial
  | exc C y e' => rw [e1] at this; exact this
  | ok b e' =>
    rw [e1] at this
    obtain ⟨a, h', F', f1, f2, a1, a2, a3⟩ := this
    obtain ⟨rfl, dn⟩ := a2
    exact ⟨a, h', F', [], f2, a1, .leaf dn, a3⟩
theorem sim_fz {m : EM} {p : PT} (a : Sim cc q (RT cc) m p) : Sim cc q (RD cc) m (pFz p) := fun h F env e fp x sr => by
  have := a h F env e fp x sr
  unfold pFz
  cases e1 : p e with
  | bad => trivial
  | exc C y e' => rw [e1] at this; exact this
  | ok b e' =>
    rw [e1] at this
    obtain ⟨u, h', F', f1, f2, a1, a2, a3, a4, a5⟩ := this
    show Out cc q (RD cc) h F fp env _ (oE b.fz e')
    cases q1 : b.fz with
    | none => trivial
    | some d =>
      have dn := Ow.frz a2 q1 (fun n => F' n ∨ n ∈ f1) (fun _ y => .inl y) (fun _ y => .inr y)
      exact ⟨u, h', _, [], f2, a1, ⟨rfl, dn⟩, Ev.mono (Stab.freeze f1) (fun _ _ => rfl) a3, a4.trans (Fr.freeze a4.sr), a5⟩
/-- a fresh thing looked at -/
theorem sim_xf {m : EM} {p : PE} (a : Sim cc q (RD cc) m p) : Sim cc q (RX cc true) m p := a.rx
/-! ### operators -/
def OpB (cc : Nat → Nat) {α β : Type} (f : U → U → Sto → R α) (g : D → D → Option β) (Rel : Sto → (Nat → Prop) → α → β → List Nat → Prop) : Prop :=
  ∀ (q : Bool) (h : Sto) (F : Nat → Prop) (fp : List Nat) (env : Env') (e : Env) (u1 : U) (d1 : D) (u2 : U) (d2 : D), Ev cc h F env e fp → SR h F fp → Tp cc h F u1 d1 → Tp cc h F u2 d2 → Out cc q Rel h F fp env (f u1 u2 h) (oE (g d1 d2) e)
theorem sim_two {f : U → U → Sto → R α} {g : D → D → Option β} {Rel : Sto → (Nat → Prop) → α → β → List Nat → Prop} (ok : OpB cc f g Rel) {ma mb : EM} {pa pb : PE} (a : Sim cc q (RX cc s1) ma pa) (b : Sim cc q (RX cc s2) mb pb) (z : s1 = true ∨ q = true) :
    Sim cc q Rel (fun env h => (ma env h).bind fun x h1 => (mb env h1).bind fun y h2 => f x y h2) (fun e => (pa e).bind fun x e1 => (pb e1).bind fun y e2 => oE (g x y) e2) := fun h F env e fp x sr =>
  Out.bind0 sr (a h F env e fp x sr) (fun u d h1 F1 e1 f2 r1 x1 sr1 st sm => Out.bind0 sr1 (b h1 F1 env e1 f2 x1 sr1) (fun u2 d2 h2 F2 e2 f3 r2 x2 sr2 st2 sm2 => ok q h2 F2 f3 env e2 u d u2 d2 x2 sr2 (r1.later sr1 st2 sm2 z) r2.tp) rx_nil) rx_nil
theorem sim_bin {f : U → U → Sto → R U} {g : D → D → Option D} (ok : OpB cc f g (RD cc)) {ma mb : EM} {pa pb : PE} (a : Sim cc q (RX cc s1) ma pa) (b : Sim cc q (RX cc s2) mb pb) (z : s1 = true ∨ q = true) : Sim cc q (RD cc) (Q.mBin f ma mb) (pBin g pa pb) := sim_two ok a b z
theorem sim_add' {f : U → U → Sto → R U} (ok : OpB cc f tAdd (RT cc)) {ma mb : EM} {pa pb : PE} (a : Sim cc q (RX cc s1) ma pa) (b : Sim cc q (RX cc s2) mb pb) (z : s1 = true ∨ q = true) : Sim cc q (RT cc) (Q.mBin f ma mb) (pAdd pa pb) := sim_two ok a b z
theorem op_int {c : Int → Int → Prop} [∀ i j, Decidable (c i j)] {f : Int → Int → Int} {g : D → D → Option D} (hg : ∀ i j, g (.int i) (.int j) = if c i j then some (.int (f i j)) else none) (hn : ∀ x y, (∀ i j, x = .int i → y = .int j → False) → g x y = none) : OpB cc (Q.uI c f) g (RD cc) := by
  intro q h F fp env e u1 d1 u2 d2 x sr t1 t2
  by_cases z : ∃ i j, d1 = .int i ∧ d2 = .int j
  · obtain ⟨i, j, rfl, rfl⟩ := z
    cases t1; cases t2
    rw [hg]
    by_cases y : c i j
    · rw [if_pos y]
      have : Q.uI c f (.int i) (.int j) h = .ok (.int (f i j)) h := by unfold Q.uI; simp only; rw [if_pos y]
      rw [this]
      exact Out.ret0 ⟨rfl, .int _⟩ x sr
    · rw [if_neg y]; trivial
  · rw [hn d1 d2 fun i j a b => z ⟨i, j, a, b⟩]; trivial
end
end P

set_option Elab.async false
set_option linter.all false
set_option maxRecDepth 100000
set_option maxHeartbeats 1000000
/-! PS4: operators, tests, lists of arguments. -/
namespace P
open Q (U O Sto Env' R RS EM TM AM SM Sem')
section
variable {cc : Nat → Nat} {h h' h1 h2 : Sto} {F F' F1 F2 : Nat → Prop} {u : U} {d : D} {us : List U} {ds : List D} {t : T} {ts : List T} {f f1 f2 fp fp' fp1 fp2 : List Nat} {env env' : Env'} {e e' : Env} {i : Nat} {q s s1 s2 : Bool}
  {α β γ δ : Type}
theorem op_sub : OpB cc Q.uSub gSub (RD cc) := op_int (fun i j => by show some _ = _; rw [if_pos (show Q.cT i j from trivial)]) (fun x y n => by unfold gSub; split <;> first | rfl | exact (n _ _ rfl rfl).elim)
theorem op_int' {c : Int → Int → Prop} [∀ i j, Decidable (c i j)] {c2 : Int → Int → Prop} [∀ i j, Decidable (c2 i j)] {f : Int → Int → Int} {g : D → D → Option D} (hc : ∀ i j, c2 i j → c i j) (hg : ∀ i j, g (.int i) (.int j) = if c2 i j then some (.int (f i j)) else none) (hn : ∀ x y, (∀ i j, x = .int i → y = .int j → False) → g x y = none) : OpB cc (Q.uI c f) g (RD cc) := by
  intro q h F fp env e u1 d1 u2 d2 x sr t1 t2
  by_cases z : ∃ i j, d1 = .int i ∧ d2 = .int j
  · obtain ⟨i, j, rfl, rfl⟩ := z
    cases t1; cases t2
    rw [hg]
    by_cases y : c2 i j
    · rw [if_pos y]
      have : Q.uI c f (.int i) (.int j) h = .ok (.int (f i j)) h := by unfold Q.uI; simp only; rw [if_pos (hc i j y)]
      rw [this]
      exact Out.ret0 ⟨rfl, .int _⟩ x sr
    · rw [if_neg y]; trivial
  · rw [hn d1 d2 fun i j a b => z ⟨i, j, a, b⟩]; trivial
theorem op_mul : OpB cc Q.uMul gMul (RD cc) := op_int' (c := Q.cMul) (c2 := P.cMul) (f := fun i j => i * j) (fun i j h => by unfold P.cMul at h; unfold Q.cMul; omega) (fun i j => rfl) (fun x y n => by unfold gMul; split <;> first | rfl | exact (n _ _ rfl rfl).elim)
theorem op_div : OpB cc Q.uDiv gDiv (RD cc) := op_int' (c := Q.cDiv) (c2 := fun _ j => 0 < j ∧ j.natAbs < 1073741824) (f := fun i j => i / j) (fun i j h => by unfold Q.cDiv; omega) (fun i j => rfl) (fun x y n => by unfold gDiv; split <;> first | rfl | exact (n _ _ rfl rfl).elim)
theorem op_mod : OpB cc Q.uMod gMod (RD cc) := op_int (c := Q.cMod) (f := fun i j => i % j) (fun i j => by
  show (if 0 < j then some (D.int (i % j)) else none) = _
  by_cases z : 0 < j
  · rw [if_pos z, if_pos (show Q.cMod i j from z)]
  · rw [if_neg z, if_neg (show ¬ Q.cMod i j from z)]) (fun x y n => by unfold gMod; split <;> first | rfl | exact (n _ _ rfl rfl).elim)
theorem op_pow : OpB cc Q.uPow gPow (RD cc) := op_int' (c := Q.cPow) (c2 := fun i j => 0 ≤ j ∧ j.natAbs ≤ 1000 ∧ 0 ≤ i ∧ i.natAbs < 1000) (f := fun i j => i ^ j.toNat) (fun i j h => by unfold Q.cPow; omega) (fun i j => rfl) (fun x y n => by unfold gPow; split <;> first | rfl | exact (n _ _ rfl rfl).elim)
theorem Dns.app : ∀ {us : List U} {ds : List D} {vs : List U} {es : List D}, Dns cc h F us ds → Dns cc h F vs es → Dns cc h F (us ++ vs) (ds ++ es)
  | _, _, _, _, .nil, y => y
  | _, _, _, _, .cons x r, y => .cons x (Dns.app r y)
theorem Dns.take : ∀ (n : Nat) {us : List U} {ds : List D}, Dns cc h F us ds → Dns cc h F (us.take n) (ds.take n)
  | 0, _, _, _ => by simp; exact .nil
  | n + 1, _, _, .nil => by simp; exact .nil
  | n + 1, _, _, .cons x r => by simp; exact .cons x (Dns.take n r)
theorem Dns.drop : ∀ (n : Nat) {us : List U} {ds : List D}, Dns cc h F us ds → Dns cc h F (us.drop n) (ds.drop n)
  | 0, _, _, r => by simpa using r
  | n + 1, _, _, .nil => by simp; exact .nil
  | n + 1, _, _, .cons x r => by simp; exact Dns.drop n r
theorem Dns.set : ∀ (n : Nat) {us : List U} {ds : List D} {u : U} {d : D}, Dns cc h F us ds → Dn cc h F u d → Dns cc h F (us.set n u) (ds.set n d)
  | _, _, _, _, _, .nil, _ => by simp; exact .nil
  | 0, _, _, _, _, .cons x r, y => .cons y r
  | n + 1, _, _, _, _, .cons x r, y => .cons x (Dns.set n r y)
theorem cut_eq {α : Type} (xs : List α) (lo hi : Option Int) : P.cut xs lo hi = Q.cut xs lo hi := by
  have : ∀ n d o, P.sIx n d o = HT.sIx n d o := fun n d o => by cases o <;> rfl
  unfold P.cut Q.cut
  rw [this, this]
theorem Dns.cut {us : List U} {ds : List D} (r : Dns cc h F us ds) (lo hi : Option Int) : Dns cc h F (Q.cut us lo hi) (P.cut ds lo hi) := by
  rw [cut_eq]
  unfold Q.cut
  rw [r.len]
  exact (r.drop _).take _
/-- a new list -/
theorem out_new {us : List U} {ds : List D} (x : Ev cc h F env e fp) (sr : SR h F fp) (r : Dns cc h F us ds) : Out cc q (RT cc) h F fp env (.ok (.ref h.length) (h ++ [.lst us])) (.ok (.ls ds) e) := by
  have st := Stab.app sr [O.lst us]
  exact ⟨_, _, F, [h.length], fp, rfl, .ls (by rw [List.getElem?_append_right (Nat.le_refl _), Nat.sub_self]; rfl) (r.mono st), x.mono st (Keep.app sr _), Fr.app sr _, fun _ => Sm.app h _⟩
theorem aL_of_mL {u : U} {us : List U} (q : Q.mL h u = some us) : Q.aL h u = some us := by cases u <;> first | exact q | cases q
theorem sL_of_mL {u : U} {us : List U} (q : Q.mL h u = some us) : Q.sL h u = some us := by cases u <;> first | exact q | cases q
theorem op_add : OpB cc Q.uAdd tAdd (RT cc) := by
  intro q h F fp env e u1 d1 u2 d2 x sr t1 t2
  unfold tAdd
  split
  · cases t1; cases t2
    exact Out.ret0 (.leaf (.int _)) x sr
  · rename_i s t
    cases t1; cases t2
    split
    · rename_i z
      rw [Q.e_add_s, if_pos z]
      exact Out.ret0 (.leaf (.str _)) x sr
    · trivial
  · rename_i s t
    obtain ⟨us, a1, a2⟩ := t1
    obtain ⟨vs, b1, b2⟩ := t2
    split
    · rename_i z
      have g : Q.uAdd u1 u2 h = (match Q.mL h u1, Q.mL h u2 with
        | some us, some ts => if us.length + ts.length ≤ 16000000 then .ok (.ref h.length) (h ++ [.lst (us ++ ts)]) else .bad
        | _, _ => .bad) := by
        cases u1 <;> first | (cases a1; done) | (cases u2 <;> first | rfl | (cases b1; done))
      rw [g, a1, b1]
      simp only
      rw [if_pos (by rw [a2.len, b2.len]; exact z)]
      exact out_new x sr (a2.app b2)
    · trivial
  · rename_i s t
    cases t1 with
    | @tup us _ r1 =>
    cases t2 with
    | @tup vs _ r2 =>
    split
    · rename_i z
      show Out cc q (RT cc) _ _ _ _ (if us.length + vs.length ≤ 16000000 then R.ok (.tup (us ++ vs)) h else .bad) _
      rw [if_pos (by rw [r1.len, r2.len]; exact z)]
      exact Out.ret0 (.leaf (.tup (r1.app r2))) x sr
    · trivial
  · trivial

/-! ### arguments -/
theorem sim_dnil : Sim cc q (RDs cc) Q.aNil dNil := fun h F env e fp x sr => Out.ret0 ⟨rfl, .nil⟩ x sr
theorem sim_dcons {m : EM} {p : PE} {am : AM} {pa : PDs} (a : Sim cc q (RD cc) m p) (b : Sim cc q (RDs cc) am pa) : Sim cc q (RDs cc) (Q.aCons m am) (dCons p pa) := fun h F env e fp x sr =>
  Out.bind0 sr (a h F env e fp x sr) (fun u d h1 F1 e1 f2 r1 x1 sr1 st sm => Out.bind0 sr1 (b h1 F1 env e1 f2 x1 sr1) (fun us ds h2 F2 e2 f3 r2 x2 sr2 st2 sm2 => Out.ret0 ⟨rfl, .cons (r1.2.mono st2) r2.2⟩ x2 sr2) rds_nil) rd_nil
theorem sim_ra {am : AM} {pa : PDs} (a : Sim cc q (RDs cc) am pa) : Sim cc q (RA cc true) am pa := fun h F env e fp x sr => (a h F env e fp x sr).rel fun _ _ _ _ _ r => ⟨r.1, by simpa using r.2⟩
theorem sim_one {m : EM} {p : PE} (a : Sim cc q (RX cc s) m p) : Sim cc q (RA cc false) (Q.aCons m Q.aNil) (dCons p dNil) := fun h F env e fp x sr =>
  Out.bind0 sr (a h F env e fp x sr) (fun u d h1 F1 e1 f2 r1 x1 sr1 st sm => Out.ret0 ⟨rfl, u, d, rfl, rfl, r1.tp⟩ x1 sr1) rx_nil
theorem sim_tnil : Sim cc q (RTs cc) Q.aNil tNil := fun h F env e fp x sr => Out.ret0 .nil x sr
theorem sim_tcons {m : EM} {p : PT} {am : AM} {pa : PTs} (a : Sim cc q (RT cc) m p) (b : Sim cc q (RTs cc) am pa) : Sim cc q (RTs cc) (Q.aCons m am) (tCons p pa) := fun h F env e fp x sr =>
  (a h F env e fp x sr).bind fun u t h1 F1 e1 f1 f2 r1 x1 fr sm => by
    refine Out.bind (Out.hold (R3 := fun h' F' us ts f => ∃ g, f = f1 ++ g ∧ Ow cc h' F' u t f1 ∧ Ows cc h' F' us ts g) (b h1 F1 env e1 f2 x1 fr.sr.right) fr.sr fun us ts h' F' f' r st k => ⟨f', rfl, Ow.mono st k r1, r⟩) ?_
    rintro us ts h2 F2 e2 f3 f4 ⟨g, rfl, y1, y2⟩ x2 fr2 sm2
    exact ⟨u :: us, h2, F2, f1 ++ g, f4, rfl, .cons y1 y2, x2, Fr.refl fr2.sr, fun _ => Sm.refl _⟩
theorem sim_tup {am : AM} {pa : PDs} (a : Sim cc q (RDs cc) am pa) : Sim cc q (RD cc) (Q.mTup am) (pTup pa) := fun h F env e fp x sr =>
  Out.bind0 sr (a h F env e fp x sr) (fun us ds h1 F1 e1 f2 r1 x1 sr1 st sm => by
    by_cases z : ds.length ≤ 16000000
    · rw [if_pos z, if_pos (by rw [r1.2.len]; exact z)]
      exact Out.ret0 ⟨rfl, .tup r1.2⟩ x1 sr1
    · rw [if_neg z]; trivial) rds_nil
theorem sim_lst {am : AM} {pa : PDs} (a : Sim cc q (RDs cc) am pa) : Sim cc q (RT cc) (Q.mLst am) (pLst pa) := fun h F env e fp x sr =>
  Out.bind0 sr (a h F env e fp x sr) (fun us ds h1 F1 e1 f2 r1 x1 sr1 st sm => by
    by_cases z : ds.length ≤ 16000000
    · rw [if_pos z, if_pos (by rw [r1.2.len]; exact z)]
      exact out_new x1 sr1 r1.2
    · rw [if_neg z]; trivial) rds_nil
theorem sim_lsT {am : AM} {pa : PTs} (a : Sim cc q (RTs cc) am pa) : Sim cc q (RT cc) (Q.mLst am) (pLsT pa) := fun h F env e fp x sr =>
  (a h F env e fp x sr).bind fun us ts h1 F1 e1 f1 f2 r1 x1 fr sm => by
    by_cases z : ts.length ≤ 16000000
    · rw [if_pos z, if_pos (by rw [Ows.len r1]; exact z)]
      have sr1 := fr.sr
      have st := Stab.app sr1 [O.lst us]
      refine ⟨_, _, F1, h1.length :: f1, f2, rfl, .lT (by rw [List.getElem?_append_right (Nat.le_refl _), Nat.sub_self]; rfl) (Ows.mono st (Keep.app sr1.left _) r1), x1.mono st (Keep.app sr1.right _), Fr.app sr1 _, fun _ => Sm.app _ _⟩
    · rw [if_neg z]; trivial
/-! ### more operators -/
theorem op_ix : OpB cc Q.uIx gIx (RD cc) := by
  intro q h F fp env e u1 d1 u2 d2 x sr t1 t2
  have lst : ∀ {us : List U} {ds : List D} {i : Int}, (∀ s, u1 ≠ .str s) → Q.sL h u1 = some us → Dns cc h F us ds → Out cc q (RD cc) h F fp env (Q.uIx u1 (.int i) h) (oE (atI ds i) e) := by
    intro us ds i ns a r
    have g : Q.uIx u1 (.int i) h = (match Q.sL h u1 with
      | some us => Q.oR (L2.atI us i) h
      | none => .bad) := by cases u1 <;> first | rfl | exact (ns _ rfl).elim
    cases q1 : atI ds i with
    | none => trivial
    | some d =>
      obtain ⟨v, b1, b2⟩ := r.at q1
      rw [g, a]
      simp only [b1]
      exact Out.ret0 ⟨rfl, b2⟩ x sr
  unfold gIx
  split
  · cases t2; cases t1 with
    | kl r => exact lst (fun _ z => by cases z) rfl r
  · rename_i s i
    cases t1; cases t2
    rw [Q.e_ix_s]
    by_cases z : s.length ≤ 16000000
    · rw [if_pos z, if_pos z]
      cases q1 : atI s i with
      | none => trivial
      | some c =>
        have q1 : L2.atI s i = some c := q1
        rw [q1]
        exact Out.ret0 ⟨rfl, .str _⟩ x sr
    · rw [if_neg z, if_neg z]; trivial
  · cases t2
    obtain ⟨us, a, r⟩ := t1
    exact lst (fun s z => by subst z; cases a) (sL_of_mL a) r
  · cases t2; cases t1 with
    | tup r => exact lst (fun _ z => by cases z) rfl r
  · trivial
theorem sim_ono : Sim cc q RE Q.oNone oNo := fun h F env e fp x sr => Out.ret0 ⟨rfl, rfl⟩ x sr
theorem sim_oso {m : EM} {p : PE} (a : Sim cc q (RD cc) m p) : Sim cc q RE (Q.oSome m) (oSo p) := fun h F env e fp x sr =>
  Out.bind0 sr (a h F env e fp x sr) (fun u d h1 F1 e1 f2 r1 x1 sr1 st sm => by
    have r := r1.2
    cases r with
    | int i => exact Out.ret0 ⟨rfl, rfl⟩ x1 sr1
    | _ => trivial) rd_nil
theorem sim_sl {m : EM} {p : PE} {lo hi : Q.OM} {plo phi : PO} (a : Sim cc q (RX cc s) m p) (b : Sim cc q RE lo plo) (c : Sim cc q RE hi phi) (z : s = true ∨ q = true) : Sim cc q (RT cc) (Q.mSl m lo hi) (pSl p plo phi) := fun h F env e fp x sr =>
  Out.bind0 sr (a h F env e fp x sr) (fun u d h1 F1 e1 f2 r1 x1 sr1 st sm => Out.bind0 sr1 (b h1 F1 env e1 f2 x1 sr1) (fun l l' h2 F2 e2 f3 r2 x2 sr2 st2 sm2 => Out.bind0 sr2 (c h2 F2 env e2 f3 x2 sr2) (fun v v' h3 F3 e3 f4 r3 x3 sr3 st3 sm3 => by
    obtain ⟨_, rfl⟩ := r2
    obtain ⟨_, rfl⟩ := r3
    have t1 : Tp cc h3 F3 u d := r1.later sr1 (st2.trans st3) (fun y => by
      intro n l
      have hl : n < h2.length := by
        cases g : h1[n]? with
        | none => have := List.getElem?_eq_none_iff.mp g; omega
        | some o =>
          have := sm2 y n l
          rw [g] at this
          exact (List.getElem?_eq_some_iff.mp this).1
      rw [sm3 y n hl, sm2 y n l]) z
    cases d with
    | str s2 =>
      cases t1
      rw [Q.e_sl_s]
      show Out cc q (RT cc) _ _ _ _ _ (oE (if s2.length ≤ 16000000 then some (.leaf (.str (P.cut s2 l v))) else none) e3)
      by_cases w : s2.length ≤ 16000000
      · rw [if_pos w, if_pos w, cut_eq]
        exact Out.ret0 (.leaf (.str _)) x3 sr3
      · rw [if_neg w, if_neg w]; trivial
    | tup us =>
      cases t1 with
      | @tup us' _ r => exact Out.ret0 (.leaf (.tup (r.cut _ _))) x3 sr3
    | lst us =>
      obtain ⟨us', a1, r⟩ := t1
      have g : Q.uSl u l v h3 = .ok (.ref h3.length) (h3 ++ [.lst (Q.cut us' l v)]) := by
        cases u with
        | ref n => rw [Q.e_sl_ref, aL_of_mL a1]
        | fl w => cases a1; rfl
        | _ => cases a1
      rw [g]
      exact out_new x3 sr3 (r.cut _ _)
    | _ => trivial) re_nil) re_nil) rx_nil
theorem sim_neg {m : EM} {p : PE} (a : Sim cc q (RD cc) m p) : Sim cc q (RD cc) (Q.mNeg m) (pUn gNeg p) := fun h F env e fp x sr =>
  Out.bind0 sr (a h F env e fp x sr) (fun u d h1 F1 e1 f2 r1 x1 sr1 st sm => by
    have r := r1.2
    cases r with
    | int i => exact Out.ret0 ⟨rfl, .int _⟩ x1 sr1
    | _ => trivial) rd_nil
theorem sim_not {m : EM} {p : PE} (a : Sim cc q (RD cc) m p) : Sim cc q (RD cc) (Q.mNot m) (pUn gNot p) := fun h F env e fp x sr =>
  Out.bind0 sr (a h F env e fp x sr) (fun u d h1 F1 e1 f2 r1 x1 sr1 st sm => by
    have r := r1.2
    cases r with
    | bl i => exact Out.ret0 ⟨rfl, .bl _⟩ x1 sr1
    | _ => trivial) rd_nil
theorem sim_and {m m2 : EM} {p p2 : PE} (a : Sim cc q (RD cc) m p) (b : Sim cc q (RD cc) m2 p2) : Sim cc q (RD cc) (Q.mAnd m m2) (pAnd p p2) := fun h F env e fp x sr =>
  Out.bind0 sr (a h F env e fp x sr) (fun u d h1 F1 e1 f2 r1 x1 sr1 st sm => by
    have r := r1.2
    cases r with
    | bl i =>
      cases i with
      | true => exact b _ _ _ _ _ x1 sr1
      | false => exact Out.ret0 ⟨rfl, .bl _⟩ x1 sr1
    | _ => trivial) rd_nil
theorem sim_or {m m2 : EM} {p p2 : PE} (a : Sim cc q (RD cc) m p) (b : Sim cc q (RD cc) m2 p2) : Sim cc q (RD cc) (Q.mOr m m2) (pOr p p2) := fun h F env e fp x sr =>
  Out.bind0 sr (a h F env e fp x sr) (fun u d h1 F1 e1 f2 r1 x1 sr1 st sm => by
    have r := r1.2
    cases r with
    | bl i =>
      cases i with
      | false => exact b _ _ _ _ _ x1 sr1
      | true => exact Out.ret0 ⟨rfl, .bl _⟩ x1 sr1
    | _ => trivial) rd_nil
/-! ### tests -/
theorem sim_if {t : TM} {pt : PB} {m m2 : EM} {p p2 : PE} (c : Sim cc q RE t pt) (a : Sim cc q (RD cc) m p) (b : Sim cc q (RD cc) m2 p2) : Sim cc q (RD cc) (Q.mIf t m m2) (pIf pt p p2) := fun h F env e fp x sr =>
  Out.bind0 sr (c h F env e fp x sr) (fun u d h1 F1 e1 f2 r1 x1 sr1 st sm => by
    obtain ⟨_, rfl⟩ := r1
    cases u with
    | true => exact a _ _ _ _ _ x1 sr1
    | false => exact b _ _ _ _ _ x1 sr1) re_nil
theorem sim_ifT {t : TM} {pt : PB} {m m2 : EM} {p p2 : PT} (c : Sim cc q RE t pt) (a : Sim cc q (RT cc) m p) (b : Sim cc q (RT cc) m2 p2) : Sim cc q (RT cc) (Q.mIf t m m2) (pIfT pt p p2) := fun h F env e fp x sr =>
  Out.bind0 sr (c h F env e fp x sr) (fun u d h1 F1 e1 f2 r1 x1 sr1 st sm => by
    obtain ⟨_, rfl⟩ := r1
    cases u with
    | true => exact a _ _ _ _ _ x1 sr1
    | false => exact b _ _ _ _ _ x1 sr1) re_nil
theorem sim_tand {t t2 : TM} {p p2 : PB} (a : Sim cc q RE t p) (b : Sim cc q RE t2 p2) : Sim cc q RE (Q.bAnd t t2) (tAnd p p2) := fun h F env e fp x sr =>
  Out.bind0 sr (a h F env e fp x sr) (fun u d h1 F1 e1 f2 r1 x1 sr1 st sm => by
    obtain ⟨_, rfl⟩ := r1
    cases u with
    | true => exact b _ _ _ _ _ x1 sr1
    | false => exact Out.ret0 ⟨rfl, rfl⟩ x1 sr1) re_nil
theorem sim_tor {t t2 : TM} {p p2 : PB} (a : Sim cc q RE t p) (b : Sim cc q RE t2 p2) : Sim cc q RE (Q.bOr t t2) (tOr p p2) := fun h F env e fp x sr =>
  Out.bind0 sr (a h F env e fp x sr) (fun u d h1 F1 e1 f2 r1 x1 sr1 st sm => by
    obtain ⟨_, rfl⟩ := r1
    cases u with
    | false => exact b _ _ _ _ _ x1 sr1
    | true => exact Out.ret0 ⟨rfl, rfl⟩ x1 sr1) re_nil
theorem sim_tnot {t : TM} {p : PB} (a : Sim cc q RE t p) : Sim cc q RE (Q.bNot t) (tNot p) := fun h F env e fp x sr =>
  Out.bind0 sr (a h F env e fp x sr) (fun u d h1 F1 e1 f2 r1 x1 sr1 st sm => by
    obtain ⟨_, rfl⟩ := r1
    exact Out.ret0 ⟨rfl, rfl⟩ x1 sr1) re_nil
theorem sim_b {t : TM} {p : PB} (a : Sim cc q RE t p) : Sim cc q (RD cc) (Q.mB t) (pB p) := fun h F env e fp x sr =>
  Out.bind0 sr (a h F env e fp x sr) (fun u d h1 F1 e1 f2 r1 x1 sr1 st sm => by
    obtain ⟨_, rfl⟩ := r1
    exact Out.ret0 ⟨rfl, .bl _⟩ x1 sr1) re_nil
theorem sim_tru {m : EM} {p : PE} (a : Sim cc q (RX cc s) m p) : Sim cc q RE (Q.bTru m) (tTru p) := fun h F env e fp x sr =>
  Out.bind0 sr (a h F env e fp x sr) (fun u d h1 F1 e1 f2 r1 x1 sr1 st sm => by
    have t1 := r1.tp
    have done : ∀ b, Q.truU h1 u = some b → Out cc q RE h1 F1 f2 env (Q.oB (Q.truU h1 u) h1) (oE (some b) e1) := fun b z => by
      rw [z]; exact Out.ret0 ⟨rfl, rfl⟩ x1 sr1
    have em : ∀ {us : List U} {ds : List D}, Dns cc h1 F1 us ds → (!us.isEmpty) = !ds.isEmpty := fun r => by cases r <;> rfl
    cases d with
    | non => cases t1; exact done _ rfl
    | bl b => cases t1; exact done _ rfl
    | int b => cases t1; exact done _ rfl
    | str s2 =>
      cases t1
      unfold truD
      by_cases w : s2.length ≤ 16000000
      · simp only [if_pos w]; exact done _ (by show (if s2.length ≤ 16000000 then some (!s2.isEmpty) else none) = _; rw [if_pos w])
      · simp only [if_neg w]; trivial
    | tup ds => cases t1 with | tup r => exact done _ (by rw [← em r]; rfl)
    | lst ds =>
      obtain ⟨us, a1, r⟩ := t1
      refine done _ ?_
      rw [← em r]
      cases u with
      | ref n =>
        simp only [Q.e_mL_ref] at a1
        split at a1
        · rename_i q1; cases a1; unfold Q.truU; simp only [q1]
        · cases a1
      | fl w => cases a1; rfl
      | _ => cases a1
    | dK ds =>
      obtain ⟨n, us, rfl, a1, a2, r⟩ := t1
      refine done _ ?_
      unfold Q.truU
      simp only [a1]
      congr 1
      cases us with
      | nil => cases ds with
        | nil => rfl
        | cons _ _ => simp at a2
      | cons _ _ => cases ds with
        | nil => simp at a2
        | cons _ _ => rfl
    | _ => trivial) rx_nil
end
end P

set_option Elab.async false
set_option linter.all false
set_option maxRecDepth 100000
set_option maxHeartbeats 1000000
/-! PS5: comparisons, built-ins, comprehensions, iteration. -/
namespace P
open Q (U O Sto Env' R RS EM TM AM SM Sem')
section
variable {cc : Nat → Nat} {h h' h1 h2 : Sto} {F F' F1 F2 : Nat → Prop} {u : U} {d : D} {us : List U} {ds : List D} {t : T} {ts : List T} {f f1 f2 fp fp' fp1 fp2 : List Nat} {env env' : Env'} {e e' : Env} {i : Nat} {q s s1 s2 : Bool}
  {α β γ δ : Type}
/-! data as the lower layer knows it -/
mutual
def py : D → PySem.PyData
  | .non => .none
  | .bl b => .bool b
  | .int i => .int i
  | .str s => .str ⟨s.toArray⟩
  | .tup ds => .tuple (pys ds)
  | .lst ds => .list (pys ds)
  | _ => .none
def pys : List D → List PySem.PyData
  | [] => []
  | d :: ds => py d :: pys ds
end
mutual
theorem pyd_of : ∀ {d : D} {u : U} {n m : Nat}, Dn cc h F u d → D.ok n d = true → n < m → Q.pyd m h u = some (py d)
  | .non, _, n, m + 1, .non, _, _ => by unfold py; rfl
  | .bl b, _, n, m + 1, .bl _, _, _ => by unfold py; rfl
  | .int b, _, n, m + 1, .int _, _, _ => by unfold py; rfl
  | .str b, _, n, m + 1, .str _, _, _ => by unfold py; rfl
  | .tup ds, _, n, m + 1, .tup (us := us) r, q, l => by
    cases n with
    | zero => simp [D.ok] at q
    | succ n =>
      simp only [D.ok] at q
      show (Q.allO (Q.pyd m h) us).map PySem.PyData.tuple = _
      rw [pyds_of r q (by omega)]
      unfold py; rfl
  | .lst ds, _, n, m + 1, .fl (us := us) r, q, l => by
    cases n with
    | zero => simp [D.ok] at q
    | succ n =>
      simp only [D.ok] at q
      show (Q.allO (Q.pyd m h) us).map PySem.PyData.list = _
      rw [pyds_of r q (by omega)]
      unfold py; rfl
  | .lst ds, _, n, m + 1, .lst (us := us) f e r, q, l => by
    cases n with
    | zero => simp [D.ok] at q
    | succ n =>
      simp only [D.ok] at q
      rename_i k
      show (match Q.aL h (.ref k) with | some us => (Q.allO (Q.pyd m h) us).map PySem.PyData.list | none => none) = _
      rw [Q.e_aL_ref, e]
      simp only
      rw [pyds_of r q (by omega)]
      unfold py; rfl
  | .kl ds, _, n, _, .kl _, q, _ => by cases n <;> simp [D.ok] at q
  | .dK ds, _, n, _, .dK _ _ _ _, q, _ => by cases n <;> simp [D.ok] at q
  | .dT ds, _, n, _, .dT _ _ _ _, q, _ => by cases n <;> simp [D.ok] at q
  | .dKl ds, _, n, _, .dKl _ _ _ _, q, _ => by cases n <;> simp [D.ok] at q
  | .ins C ds, _, n, _, .ins _ _ _ _, q, _ => by cases n <;> simp [D.ok] at q
theorem pyds_of : ∀ {ds : List D} {us : List U} {n m : Nat}, Dns cc h F us ds → D.oks n ds = true → n < m → Q.allO (Q.pyd m h) us = some (pys ds)
  | [], _, _, _, .nil, _, _ => by unfold Q.allO pys; rfl
  | d :: ds, _, n, m, .cons x r, q, l => by
    unfold D.oks at q
    rw [Bool.and_eq_true] at q
    unfold Q.allO
    rw [pyd_of x q.1 l, pyds_of r q.2 l]
    simp only [pys]
end
mutual
theorem lay_py : ∀ {d : D} {n : Nat}, D.ok n d = true → PySem.PyData.canLay0 (py d) = true ∧ PySem.PyData.depth (py d) ≤ n
  | .non, n, _ => by simp [py, PySem.PyData.canLay0, PySem.PyData.depth]
  | .bl b, n, _ => by simp [py, PySem.PyData.canLay0, PySem.PyData.depth]
  | .int b, n, _ => by simp [py, PySem.PyData.canLay0, PySem.PyData.depth]
  | .str b, n, q => by
    refine ⟨?_, by simp [py, PySem.PyData.depth]⟩
    have q : b.all (· < 1114112) = true := by cases n <;> simpa [D.ok] using q
    simp only [py, PySem.PyData.canLay0, PySem.PyData.strOk]
    simpa using q
  | .tup ds, 0, q => by simp [D.ok] at q
  | .tup ds, n + 1, q => by
    simp only [D.ok] at q
    obtain ⟨a, b⟩ := lay_pys q
    simp only [py, PySem.PyData.canLay0, PySem.PyData.depth]
    exact ⟨a, by omega⟩
  | .lst ds, 0, q => by simp [D.ok] at q
  | .lst ds, n + 1, q => by
    simp only [D.ok] at q
    obtain ⟨a, b⟩ := lay_pys q
    simp only [py, PySem.PyData.canLay0, PySem.PyData.depth]
    exact ⟨a, by omega⟩
  | .kl ds, n, q => by cases n <;> simp [D.ok] at q
  | .dK ds, n, q => by cases n <;> simp [D.ok] at q
  | .dT ds, n, q => by cases n <;> simp [D.ok] at q
  | .dKl ds, n, q => by cases n <;> simp [D.ok] at q
  | .ins C ds, n, q => by cases n <;> simp [D.ok] at q
theorem lay_pys : ∀ {ds : List D} {n : Nat}, D.oks n ds = true → PySem.PyData.canLayAll0 (pys ds) = true ∧ PySem.PyData.depthAll (pys ds) ≤ n
  | [], n, _ => by simp [pys, PySem.PyData.canLayAll0, PySem.PyData.depthAll]
  | d :: ds, n, q => by
    unfold D.oks at q
    rw [Bool.and_eq_true] at q
    obtain ⟨a1, a2⟩ := lay_py q.1
    obtain ⟨b1, b2⟩ := lay_pys q.2
    simp only [pys, PySem.PyData.canLayAll0, PySem.PyData.depthAll]
    exact ⟨by rw [a1, b1]; rfl, by omega⟩
end
theorem str_beq (s t : List Nat) : ((⟨s.toArray⟩ : PySem.Str) == ⟨t.toArray⟩) = (s == t) := by
  by_cases e : s = t
  · subst e; simp
  · rw [beq_eq_false_iff_ne.mpr e, beq_eq_false_iff_ne.mpr fun z => e ((Q.str_eq s t).mp z)]
mutual
theorem eqv_py : ∀ {d e : D} {n m : Nat}, D.ok n d = true → D.ok m e = true → PySem.PyData.eqv (py d) (py e) = D.eq d e
  | d, e, n, m, a, b => by
    cases d with
    | tup ds =>
      cases n with
      | zero => simp [D.ok] at a
      | succ n =>
        cases e with
        | tup es =>
          cases m with
          | zero => simp [D.ok] at b
          | succ m =>
            simp only [D.ok] at a b
            simp only [py, PySem.PyData.eqv, D.eq]
            exact eqv_pys a b
        | kl _ => cases m <;> simp [D.ok] at b
        | dK _ => cases m <;> simp [D.ok] at b
        | dT _ => cases m <;> simp [D.ok] at b
        | dKl _ => cases m <;> simp [D.ok] at b
        | ins _ _ => cases m <;> simp [D.ok] at b
        | _ => simp [py, PySem.PyData.eqv, D.eq]
    | lst ds =>
      cases n with
      | zero => simp [D.ok] at a
      | succ n =>
        cases e with
        | lst es =>
          cases m with
          | zero => simp [D.ok] at b
          | succ m =>
            simp only [D.ok] at a b
            simp only [py, PySem.PyData.eqv, D.eq]
            exact eqv_pys a b
        | kl _ => cases m <;> simp [D.ok] at b
        | dK _ => cases m <;> simp [D.ok] at b
        | dT _ => cases m <;> simp [D.ok] at b
        | dKl _ => cases m <;> simp [D.ok] at b
        | ins _ _ => cases m <;> simp [D.ok] at b
        | _ => simp [py, PySem.PyData.eqv, D.eq]
    | kl _ => cases n <;> simp [D.ok] at a
    | dK _ => cases n <;> simp [D.ok] at a
    | dT _ => cases n <;> simp [D.ok] at a
    | dKl _ => cases n <;> simp [D.ok] at a
    | ins _ _ => cases n <;> simp [D.ok] at a
    | str x =>
      cases e with
      | str y => simp only [py, PySem.PyData.eqv, D.eq]; exact str_beq x y
      | kl _ => cases m <;> simp [D.ok] at b
      | dK _ => cases m <;> simp [D.ok] at b
      | dT _ => cases m <;> simp [D.ok] at b
      | dKl _ => cases m <;> simp [D.ok] at b
      | ins _ _ => cases m <;> simp [D.ok] at b
      | _ => simp [py, PySem.PyData.eqv, D.eq]
    | _ =>
      cases e with
      | kl _ => cases m <;> simp [D.ok] at b
      | dK _ => cases m <;> simp [D.ok] at b
      | dT _ => cases m <;> simp [D.ok] at b
      | dKl _ => cases m <;> simp [D.ok] at b
      | ins _ _ => cases m <;> simp [D.ok] at b
      | _ => simp [py, PySem.PyData.eqv, D.eq]
theorem eqv_pys : ∀ {ds es : List D} {n m : Nat}, D.oks n ds = true → D.oks m es = true → PySem.PyData.eqvAll (pys ds) (pys es) = D.eqs ds es
  | [], [], _, _, _, _ => by simp [pys, PySem.PyData.eqvAll, D.eqs]
  | [], _ :: _, _, _, _, _ => by simp [pys, PySem.PyData.eqvAll, D.eqs]
  | _ :: _, [], _, _, _, _ => by simp [pys, PySem.PyData.eqvAll, D.eqs]
  | d :: ds, e :: es, n, m, a, b => by
    unfold D.oks at a b
    rw [Bool.and_eq_true] at a b
    simp only [pys, PySem.PyData.eqvAll, D.eqs]
    rw [eqv_py a.1 b.1, eqv_pys a.2 b.2]
end
theorem shaped_py {n : Nat} (a : D.ok n d = true) (l : n ≤ 60) : PySem.SeqAt.shaped (py d) = true := by
  obtain ⟨b, c⟩ := lay_py a
  show (PySem.PyData.canLay0 (py d) && decide (PySem.PyData.depth (py d) ≤ 64)) = true
  rw [b]
  simp; omega
theorem pyd_tp {n m : Nat} (x : Tp cc h F u d) (q : D.ok n d = true) (l : n < m) : Q.pyd m h u = some (py d) := by
  cases d with
  | lst ds =>
    obtain ⟨us, a, r⟩ := x
    cases n with
    | zero => simp [D.ok] at q
    | succ n =>
      cases m with
      | zero => omega
      | succ m =>
        simp only [D.ok] at q
        have g : Q.pyd (m + 1) h u = (Q.allO (Q.pyd m h) us).map PySem.PyData.list := by
          cases u with
          | fl w => cases a; rfl
          | ref k =>
            show (match Q.aL h (.ref k) with | some us => (Q.allO (Q.pyd m h) us).map PySem.PyData.list | none => none) = _
            rw [aL_of_mL a]
          | _ => cases a
        rw [g, pyds_of r q (by omega)]
        simp only [py]; rfl
  | dK _ => cases n <;> simp [D.ok] at q
  | dT _ => cases n <;> simp [D.ok] at q
  | ins _ _ => cases n <;> simp [D.ok] at q
  | _ => exact pyd_of x q l
/-! ### comparisons -/
def CmpD (cc : Nat → Nat) (f : Sto → U → U → Option Bool) (g : D → D → Option Bool) : Prop := ∀ h F u1 d1 u2 d2 b, Tp cc h F u1 d1 → Tp cc h F u2 d2 → g d1 d2 = some b → f h u1 u2 = some b
theorem sim_cmp {f : Sto → U → U → Option Bool} {g : D → D → Option Bool} (ok : CmpD cc f g) {ma mb : EM} {pa pb : PE} (a : Sim cc q (RX cc s1) ma pa) (b : Sim cc q (RX cc s2) mb pb) (z : s1 = true ∨ q = true) : Sim cc q RE (Q.bCmp f ma mb) (tCmp g pa pb) :=
  sim_two (f := fun x y h => Q.oB (f h x y) h) (fun q h F fp env e u1 d1 u2 d2 x sr t1 t2 => by
    cases e1 : g d1 d2 with
    | none => trivial
    | some b =>
      show Out cc q RE h F fp env (Q.oB (f h u1 u2) h) _
      rw [ok h F u1 d1 u2 d2 b t1 t2 e1]
      exact Out.ret0 ⟨rfl, rfl⟩ x sr) a b z
theorem cmp_int {p : Int → Int → Bool} : CmpD cc (Q.cI p) (P.cI p) := fun h F u1 d1 u2 d2 b t1 t2 e => by
  unfold P.cI at e
  split at e
  · cases t1; cases t2; cases e; rfl
  · cases e
theorem cmp_lt : CmpD cc Q.cLt P.cLt := cmp_int
theorem cmp_le : CmpD cc Q.cLe P.cLe := cmp_int
theorem cmp_gt : CmpD cc Q.cGt P.cGt := cmp_int
theorem cmp_ge : CmpD cc Q.cGe P.cGe := cmp_int
theorem atom_tp (x : Tp cc h F u d) (a : atom d = true) : (d = .non ∧ u = .non) ∨ (∃ b, d = .bl b ∧ u = .bl b) ∨ (∃ i, d = .int i ∧ u = .int i) ∨ ∃ s, d = .str s ∧ u = .str s := by
  cases d with
  | non => cases x; exact .inl ⟨rfl, rfl⟩
  | bl b => cases x; exact .inr (.inl ⟨_, rfl, rfl⟩)
  | int b => cases x; exact .inr (.inr (.inl ⟨_, rfl, rfl⟩))
  | str b => cases x; exact .inr (.inr (.inr ⟨_, rfl, rfl⟩))
  | _ => cases a
theorem deep_tp {n : Nat} (x : Tp cc h F u d) (a : ¬ atom d = true) (c : D.ok n d = true) : (∃ us, u = .tup us) ∨ (∃ us, u = .fl us) ∨ ∃ n, u = .ref n := by
  cases d with
  | tup ds => cases x with | tup r => exact .inl ⟨_, rfl⟩
  | lst ds => obtain ⟨us, a, _⟩ := x; cases u <;> first | exact .inr (.inl ⟨_, rfl⟩) | exact .inr (.inr ⟨_, rfl⟩) | cases a
  | non => exact absurd rfl a
  | bl _ => exact absurd rfl a
  | int _ => exact absurd rfl a
  | str _ => exact absurd rfl a
  | _ => cases n <;> simp [D.ok] at c
theorem cmp_eq : CmpD cc Q.cEq P.cEq := fun h F u1 d1 u2 d2 b t1 t2 e => by
  unfold P.cEq at e
  split at e
  · rename_i c
    cases e
    rw [Bool.or_eq_true, Bool.and_eq_true, Bool.and_eq_true, Bool.and_eq_true] at c
    have deep : D.ok 50 d1 = true → D.ok 50 d2 = true → Q.eqP h u1 u2 = some (D.eq d1 d2) := fun a1 a2 => by
      unfold Q.eqP
      rw [pyd_tp t1 a1 (by decide), pyd_tp t2 a2 (by decide)]
      simp only
      rw [if_pos ⟨shaped_py a1 (by decide), shaped_py a2 (by decide)⟩, eqv_py a1 a2]
    by_cases at1 : atom d1 = true
    · by_cases at2 : atom d2 = true
      · rcases atom_tp t1 at1 with ⟨rfl, rfl⟩ | ⟨b1, rfl, rfl⟩ | ⟨b1, rfl, rfl⟩ | ⟨b1, rfl, rfl⟩ <;> rcases atom_tp t2 at2 with ⟨rfl, rfl⟩ | ⟨b2, rfl, rfl⟩ | ⟨b2, rfl, rfl⟩ | ⟨b2, rfl, rfl⟩ <;> first
          | (simp [Q.cEq, D.eq]; done)
          | (simp only [Q.cEq, D.eq]; congr 1; by_cases z : b1 = b2 <;> simp [z]; done)
          | (exact deep (by simp [D.ok]) (by simp [D.ok]))
      · rcases c with ⟨⟨_, c⟩, _⟩ | ⟨c1, c2⟩
        · exact absurd c at2
        · have d2' : Q.cEq h u1 u2 = Q.eqP h u1 u2 := by
            rcases deep_tp t2 at2 c2 with ⟨us, rfl⟩ | ⟨us, rfl⟩ | ⟨n, rfl⟩ <;> cases u1 <;> rfl
          rw [d2', deep c1 c2]
    · rcases c with ⟨⟨c, _⟩, _⟩ | ⟨c1, c2⟩
      · exact absurd c at1
      · have d1' : Q.cEq h u1 u2 = Q.eqP h u1 u2 := by
          rcases deep_tp t1 at1 c1 with ⟨us, rfl⟩ | ⟨us, rfl⟩ | ⟨n, rfl⟩ <;> cases u2 <;> rfl
        rw [d1', deep c1 c2]
  · cases e
theorem cmp_ne : CmpD cc Q.cNe P.cNe := fun h F u1 d1 u2 d2 b t1 t2 e => by
  unfold P.cNe at e
  unfold Q.cNe
  cases e1 : P.cEq d1 d2 with
  | none => rw [e1] at e; cases e
  | some c => rw [e1] at e; rw [cmp_eq h F u1 d1 u2 d2 c t1 t2 e1]; exact e
theorem cmp_is : CmpD cc Q.cIs P.cIs := fun h F u1 d1 u2 d2 b t1 t2 e => by
  cases d2 with
  | non =>
    cases t2
    cases d1 with
    | non => cases t1; cases e; rfl
    | lst ds => cases e; obtain ⟨us, a, _⟩ := t1; cases u1 <;> first | rfl | cases a
    | dK ds => cases e; obtain ⟨n, us, rfl, _⟩ := t1; rfl
    | dT ds => cases e; obtain ⟨n, us, rfl, _⟩ := t1; rfl
    | ins C ds => cases e; obtain ⟨n, us, rfl, _⟩ := t1; rfl
    | _ => cases e; cases t1; rfl
  | _ => unfold P.cIs at e; split at e <;> first | (rename_i z; cases z; done) | cases e
theorem cmp_isn : CmpD cc Q.cIsN P.cIsN := fun h F u1 d1 u2 d2 b t1 t2 e => by
  unfold P.cIsN at e
  unfold Q.cIsN
  cases e1 : P.cIs d1 d2 with
  | none => rw [e1] at e; cases e
  | some c => rw [e1] at e; rw [cmp_is h F u1 d1 u2 d2 c t1 t2 e1]; exact e
end
end P

set_option Elab.async false
set_option linter.all false
set_option maxRecDepth 100000
set_option maxHeartbeats 1000000
/-! PS6: membership, built-ins, fields, changes at places. -/
namespace P
open Q (U O Sto Env' R RS EM TM AM SM Sem')
section
variable {cc : Nat → Nat} {h h' h1 h2 : Sto} {F F' F1 F2 : Nat → Prop} {u : U} {d : D} {us : List U} {ds : List D} {t : T} {ts : List T} {f f1 f2 fp fp' fp1 fp2 : List Nat} {env env' : Env'} {e e' : Env} {i : Nat} {q s s1 s2 : Bool}
  {α β γ δ : Type}
theorem eqF_D {u v : U} {d e : D} (x : Tp cc h F u d) (y : Tp cc h F v e) (a : atom d = true) (b : atom e = true) : Q.eqF u v = D.eq d e := by
  rcases atom_tp x a with ⟨rfl, rfl⟩ | ⟨b1, rfl, rfl⟩ | ⟨b1, rfl, rfl⟩ | ⟨b1, rfl, rfl⟩ <;> rcases atom_tp y b with ⟨rfl, rfl⟩ | ⟨b2, rfl, rfl⟩ | ⟨b2, rfl, rfl⟩ | ⟨b2, rfl, rfl⟩ <;> simp [Q.eqF, D.eq]
theorem atom_flat (x : Tp cc h F u d) (a : atom d = true) : Q.flatU u = true := by
  rcases atom_tp x a with ⟨rfl, rfl⟩ | ⟨b1, rfl, rfl⟩ | ⟨b1, rfl, rfl⟩ | ⟨b1, rfl, rfl⟩ <;> rfl
theorem flat_atom (x : Dn cc h F u d) (a : Q.flatU u = true) : atom d = true := by cases x <;> first | rfl | cases a
theorem inF_D (x : Tp cc h F u d) (a : atom d = true) : ∀ {us : List U} {ds : List D}, Dns cc h F us ds → ds.all atom = true → Q.inF u us = (ds.any fun y => D.eq y d) ∧ us.all Q.flatU = true
  | _, _, .nil, _ => ⟨rfl, rfl⟩
  | _, _, .cons y r, b => by
    rw [List.all_cons, Bool.and_eq_true] at b
    obtain ⟨i1, i2⟩ := inF_D x a r b.2
    refine ⟨?_, by rw [List.all_cons, atom_flat y.tp b.1, i2]; rfl⟩
    show (Q.eqF _ u || Q.inF u _) = _
    rw [List.any_cons, i1, eqF_D y.tp x b.1 a]
theorem all_atom : ∀ {us : List U} {ds : List D}, Dns cc h F us ds → us.all Q.flatU = true → ds.all atom = true
  | _, _, .nil, _ => rfl
  | _, _, .cons y r, b => by
    rw [List.all_cons, Bool.and_eq_true] at b
    rw [List.all_cons, flat_atom y b.1, all_atom r b.2]; rfl
theorem tp_atom (x : Tp cc h F u d) (a : Q.flatU u = true) : atom d = true := by
  cases d with
  | lst ds => obtain ⟨us, b, _⟩ := x; cases u <;> first | cases a; done | cases b
  | dK ds => obtain ⟨n, us, rfl, _⟩ := x; cases a
  | dT ds => obtain ⟨n, us, rfl, _⟩ := x; cases a
  | ins C ds => obtain ⟨n, us, rfl, _⟩ := x; cases a
  | _ => exact flat_atom x a
theorem any_py {n m : Nat} (a : D.ok n d = true) : ∀ {ds : List D}, D.oks m ds = true → ((pys ds).any fun z => PySem.PyData.eqv z (py d)) = ds.any fun y => D.eq y d
  | [], _ => by simp [pys]
  | y :: ds, b => by
    unfold D.oks at b
    rw [Bool.and_eq_true] at b
    simp only [pys, List.any_cons]
    rw [eqv_py b.1 a, any_py a b.2]
theorem cmp_in : CmpD cc Q.cIn P.cIn := fun h F u1 d1 u2 d2 b t1 t2 e => by
  cases d2 with
  | lst ds =>
    obtain ⟨us, a, r⟩ := t2
    have e : P.cIn0 d1 ds = some b := by cases d1 <;> exact e
    unfold P.cIn0 at e
    split at e
    · rename_i c
      cases e
      unfold Q.cIn
      rw [sL_of_mL a]
      simp only
      by_cases w : Q.flatU u1 = true ∧ us.all Q.flatU = true
      · rw [if_pos w]
        rw [(inF_D t1 (tp_atom t1 w.1) r (all_atom r w.2)).1]
      · rw [if_neg w]
        rw [Bool.or_eq_true, Bool.and_eq_true, Bool.and_eq_true] at c
        rcases c with c | c
        · exact absurd ⟨atom_flat t1 c.1, (inF_D t1 c.1 r c.2).2⟩ w
        · have o2 : D.ok 50 (.lst ds) = true := by simp only [D.ok]; exact c.2
          have p2 := pyd_tp (m := 60) (show Tp cc h F u2 (.lst ds) from ⟨us, a, r⟩) o2 (by decide)
          unfold Q.inP
          rw [pyd_tp t1 c.1 (by decide), p2]
          simp only [py]
          have s2 := shaped_py o2 (by decide)
          simp only [py] at s2
          rw [if_pos ⟨shaped_py c.1 (by decide), s2⟩, any_py c.1 c.2]
    · cases e
  | tup ds =>
    cases t2 with
    | @tup us _ r =>
      have e : (if (atom d1 && ds.all atom) = true then some (ds.any fun y => D.eq y d1) else none) = some b := by cases d1 <;> exact e
      split at e
      · rename_i c
        cases e
        rw [Bool.and_eq_true] at c
        obtain ⟨i1, i2⟩ := inF_D t1 c.1 r c.2
        show (if Q.flatU u1 = true ∧ us.all Q.flatU = true then some (Q.inF u1 us) else _) = _
        rw [if_pos ⟨atom_flat t1 c.1, i2⟩, i1]
      · cases e
  | _ => cases d1 <;> cases e
theorem cmp_nin : CmpD cc Q.cNin P.cNin := fun h F u1 d1 u2 d2 b t1 t2 e => by
  unfold P.cNin at e
  unfold Q.cNin
  cases e1 : P.cIn d1 d2 with
  | none => rw [e1] at e; cases e
  | some c => rw [e1] at e; rw [cmp_in h F u1 d1 u2 d2 c t1 t2 e1]; exact e
/-! isinstance -/
def tyQ : Ty → Q.Ty
  | .bool => .bool | .int => .int | .str => .str | .tuple => .tuple | .list => .list | .dict => .dict
theorem is_tp (T : Ty) (x : Tp cc h F u d) {b : Bool} (e : isD T d = some b) : Q.isU (tyQ T) h u = some b := by
  rw [← e]
  cases d with
  | lst ds =>
    obtain ⟨us, a, _⟩ := x
    cases u with
    | ref n =>
      simp only [Q.e_mL_ref] at a
      split at a
      · rename_i z; unfold Q.isU; simp only [z]; cases T <;> rfl
      · cases a
    | fl w => cases T <;> rfl
    | _ => cases a
  | dK ds => obtain ⟨n, us, rfl, a, _⟩ := x; unfold Q.isU; simp only [a]; cases T <;> rfl
  | dT ds => obtain ⟨n, us, rfl, a, _⟩ := x; unfold Q.isU; simp only [a]; cases T <;> rfl
  | ins C ds => cases e
  | dKl ds => cases e
  | _ => cases x <;> cases T <;> rfl
theorem sim_is {T : Ty} {m : EM} {p : PE} (a : Sim cc q (RX cc s) m p) : Sim cc q RE (Q.bIs (tyQ T) m) (tIs T p) := fun h F env e fp x sr =>
  Out.bind0 sr (a h F env e fp x sr) (fun u d h1 F1 e1 f2 r1 x1 sr1 st sm => by
    cases q1 : isD T d with
    | none => trivial
    | some b => rw [is_tp T r1.tp q1]; exact Out.ret0 ⟨rfl, rfl⟩ x1 sr1) rx_nil
theorem sim_is2 {T S : Ty} {m : EM} {p : PE} (a : Sim cc q (RX cc s) m p) : Sim cc q RE (Q.bIs2 (tyQ T) (tyQ S) m) (tIs2 T S p) := fun h F env e fp x sr =>
  Out.bind0 sr (a h F env e fp x sr) (fun u d h1 F1 e1 f2 r1 x1 sr1 st sm => by
    cases q1 : isD T d with
    | none => trivial
    | some b =>
      cases q2 : isD S d with
      | none => trivial
      | some c =>
        rw [is_tp T r1.tp q1, is_tp S r1.tp q2]
        exact Out.ret0 ⟨rfl, rfl⟩ x1 sr1) rx_nil
/-! ### built-ins -/
def OpL (cc : Nat → Nat) {α β : Type} (s : Bool) (f : List U → Sto → R α) (g : List D → Option β) (Rel : Sto → (Nat → Prop) → α → β → List Nat → Prop) : Prop :=
  ∀ (q : Bool) (h : Sto) (F : Nat → Prop) (fp : List Nat) (env : Env') (e : Env) (us : List U) (ds : List D), Ev cc h F env e fp → SR h F fp → RA cc s h F us ds [] → Out cc q Rel h F fp env (f us h) (oE (g ds) e)
theorem sim_cb {f : List U → Sto → R U} {g : List D → Option D} (ok : OpL cc s f g (RD cc)) {am : AM} {pa : PDs} (a : Sim cc q (RA cc s) am pa) : Sim cc q (RD cc) (Q.mCB f am) (pCB g pa) := fun h F env e fp x sr =>
  Out.bind0 sr (a h F env e fp x sr) (fun us ds h1 F1 e1 f2 r1 x1 sr1 st sm => ok q h1 F1 f2 env e1 us ds x1 sr1 r1) ra_nil
theorem sim_ct {f : List U → Sto → R U} {g : List D → Option T} (ok : OpL cc s f g (RT cc)) {am : AM} {pa : PDs} (a : Sim cc q (RA cc s) am pa) : Sim cc q (RT cc) (Q.mCB f am) (pCT g pa) := fun h F env e fp x sr =>
  Out.bind0 sr (a h F env e fp x sr) (fun us ds h1 F1 e1 f2 r1 x1 sr1 st sm => ok q h1 F1 f2 env e1 us ds x1 sr1 r1) ra_nil
theorem ra_one {d : D} (x : RA cc s h F us [d] f) : ∃ u, us = [u] ∧ Tp cc h F u d := by
  obtain ⟨_, x⟩ := x
  split at x
  · cases x with
    | cons y r => cases r; exact ⟨_, rfl, y.tp⟩
  · obtain ⟨u, d', rfl, z, t⟩ := x
    cases z
    exact ⟨u, rfl, t⟩
theorem op_len : OpL cc s Q.uLen gLen (RD cc) := by
  intro q h F fp env e us ds x sr r
  unfold gLen
  split
  · obtain ⟨u, rfl, t⟩ := ra_one r
    cases t with
    | kl r =>
      rw [Q.e_len_kl, r.len]
      exact Out.ret0 ⟨rfl, .int _⟩ x sr
  · rename_i s2
    obtain ⟨u, rfl, t⟩ := ra_one r
    cases t
    rw [Q.e_len_s]
    by_cases z : s2.length ≤ 16000000
    · rw [if_pos z, if_pos z]; exact Out.ret0 ⟨rfl, .int _⟩ x sr
    · rw [if_neg z, if_neg z]; trivial
  · obtain ⟨u, rfl, t⟩ := ra_one r
    obtain ⟨us, a, r⟩ := t
    have g : Q.uLen [u] h = .ok (.int us.length) h := by
      cases u with
      | ref n => rw [Q.e_len_ref, sL_of_mL a]
      | fl w => cases a; rfl
      | _ => cases a
    rw [g, r.len]
    exact Out.ret0 ⟨rfl, .int _⟩ x sr
  · obtain ⟨u, rfl, t⟩ := ra_one r
    cases t with
    | tup r => rw [Q.e_len_tup, r.len]; exact Out.ret0 ⟨rfl, .int _⟩ x sr
  · trivial
theorem op_int1 : OpL cc s Q.uInt gInt (RD cc) := by
  intro q h F fp env e us ds x sr r
  unfold gInt
  split
  · obtain ⟨u, rfl, t⟩ := ra_one r; cases t; exact Out.ret0 ⟨rfl, .int _⟩ x sr
  · obtain ⟨u, rfl, t⟩ := ra_one r; cases t; exact Out.ret0 ⟨rfl, .int _⟩ x sr
  · trivial
theorem op_abs : OpL cc s Q.uAbs gAbs (RD cc) := by
  intro q h F fp env e us ds x sr r
  unfold gAbs
  split
  · obtain ⟨u, rfl, t⟩ := ra_one r; cases t; rw [Q.e_abs]; exact Out.ret0 ⟨rfl, .int _⟩ x sr
  · trivial
theorem op_list : OpL cc s Q.uList gList (RT cc) := by
  intro q h F fp env e us ds x sr r
  have go : ∀ {u : U} {us : List U} {ds : List D}, Q.sL h u = some us → Dns cc h F us ds → Out cc q (RT cc) h F fp env (Q.uList [u] h) (oE (some (T.ls ds)) e) := fun a r => by
    rw [Q.e_list, a]; exact out_new x sr r
  unfold gList
  split
  · obtain ⟨u, rfl, t⟩ := ra_one r; cases t with | kl r => exact go rfl r
  · obtain ⟨u, rfl, t⟩ := ra_one r; obtain ⟨us, a, r⟩ := t; exact go (sL_of_mL a) r
  · obtain ⟨u, rfl, t⟩ := ra_one r; cases t with | tup r => exact go rfl r
  · trivial
theorem op_tuple : OpL cc s Q.uTuple gTuple (RD cc) := by
  intro q h F fp env e us ds x sr r
  unfold gTuple
  split
  · obtain ⟨u, rfl, t⟩ := ra_one r; obtain ⟨us, a, r⟩ := t
    rw [Q.e_tuple, sL_of_mL a]; exact Out.ret0 ⟨rfl, .tup r⟩ x sr
  · obtain ⟨u, rfl, t⟩ := ra_one r; cases t with | tup r => rw [Q.e_tuple]; exact Out.ret0 ⟨rfl, .tup r⟩ x sr
  · trivial
theorem ra_two {d1 d2 : D} (x : RA cc true h F us [d1, d2] f) : ∃ u1 u2, us = [u1, u2] ∧ Dn cc h F u1 d1 ∧ Dn cc h F u2 d2 := by
  obtain ⟨_, x⟩ := x
  simp only [if_true] at x
  cases x with
  | cons y r => cases r with | cons z w => cases w; exact ⟨_, _, rfl, y, z⟩
theorem op_min : OpL cc true Q.uMin gMin (RD cc) := by
  intro q h F fp env e us ds x sr r
  unfold gMin
  split
  · obtain ⟨u1, u2, rfl, a, b⟩ := ra_two r; cases a; cases b; rw [Q.e_min]; exact Out.ret0 ⟨rfl, .int _⟩ x sr
  · trivial
theorem op_max : OpL cc true Q.uMax gMax (RD cc) := by
  intro q h F fp env e us ds x sr r
  unfold gMax
  split
  · obtain ⟨u1, u2, rfl, a, b⟩ := ra_two r; cases a; cases b; rw [Q.e_max]; exact Out.ret0 ⟨rfl, .int _⟩ x sr
  · trivial
/-! texts -/
theorem strs_of : ∀ {us : List U} {ds : List D} {ss : List (List Nat)}, Dns cc h F us ds → strL ds = some ss → Q.strsOf us = some ss
  | _, _, _, .nil, q => by cases q; rfl
  | _, _, ss, .cons (d := d) (ds := ds) x r, q => by
    cases x with
    | str s =>
      unfold strL at q
      cases q1 : strL ds with
      | none => rw [q1] at q; cases q
      | some ss' =>
        rw [q1] at q; cases q
        unfold Q.strsOf
        rw [strs_of r q1]; rfl
    | _ => cases q
theorem joinL_eq : @P.joinL = @TL.joinL := by
  funext s l
  induction l with
  | nil => rfl
  | cons x r ih =>
    cases r with
    | nil => rfl
    | cons y r => show x ++ (s ++ P.joinL s (y :: r)) = x ++ (s ++ TL.joinL s (y :: r)); rw [ih]
theorem op_join : ∀ (q : Bool) (h : Sto) (F : Nat → Prop) (fp : List Nat) (env : Env') (e : Env) (s : List Nat) (u2 : U) (d2 : D), Ev cc h F env e fp → SR h F fp → Tp cc h F u2 d2 → Out cc q (RD cc) h F fp env (Q.uJoin (.str s) u2 h) (oE (gJoin s d2) e) := by
  intro q h F fp env e s u2 d2 x sr t
  have go : ∀ {us : List U} {ds : List D}, Q.sL h u2 = some us → Dns cc h F us ds → Out cc q (RD cc) h F fp env (Q.uJoin (.str s) u2 h) (oE ((strL ds).bind fun ss => if (ss.map List.length).sum + ss.length * s.length ≤ 16000000 then some (D.str (P.joinL s ss)) else none) e) := by
    intro us ds a r
    cases q1 : strL ds with
    | none => trivial
    | some ss =>
      rw [Q.e_join, a]
      simp only [Option.bind, strs_of r q1]
      by_cases z : (ss.map List.length).sum + ss.length * s.length ≤ 16000000
      · rw [if_pos z, if_pos z, joinL_eq]; exact Out.ret0 ⟨rfl, .str _⟩ x sr
      · rw [if_neg z, if_neg z]; trivial
  cases d2 with
  | lst ds => obtain ⟨us, a, r⟩ := t; exact go (sL_of_mL a) r
  | tup ds => cases t with | tup r => exact go rfl r
  | _ => trivial
theorem sim_join {ma mb : EM} {pa pb : PE} (a : Sim cc q (RD cc) ma pa) (b : Sim cc q (RX cc s2) mb pb) : Sim cc q (RD cc) (Q.mSM1 Q.uJoin ma mb) (pSM1 gJoin pa pb) := fun h F env e fp x sr =>
  Out.bind0 sr (a h F env e fp x sr) (fun u d h1 F1 e1 f2 r1 x1 sr1 st sm => by
    obtain ⟨_, r1⟩ := r1
    cases r1 with
    | str s => exact Out.bind0 sr1 (b h1 F1 env e1 f2 x1 sr1) (fun u2 d2 h2 F2 e2 f3 r2 x2 sr2 st2 sm2 => op_join q h2 F2 f3 env e2 s u2 d2 x2 sr2 r2.tp) rx_nil
    | _ => trivial) rd_nil
end
end P

set_option Elab.async false
set_option linter.all false
set_option maxRecDepth 100000
set_option maxHeartbeats 1000000
/-! PS7: paths. -/
namespace P
open Q (U O Sto Env' R RS EM TM AM SM Sem')
section
variable {cc : Nat → Nat} {h h' h1 h2 : Sto} {F F' F1 F2 : Nat → Prop} {u v : U} {d : D} {us : List U} {ds : List D} {t : T} {ts : List T} {f f1 f2 fp fp' fp1 fp2 : List Nat} {env env' : Env'} {e e' : Env} {i : Nat} {q s s1 s2 : Bool}
  {α β γ δ : Type}
/-- fields of data -/
theorem op_fld {Cs : List Nat} {g : String} {m : EM} {p : PE} (a : Sim cc q (RX cc s) m p) : Sim cc q (RD cc) (Q.mFld (Cs.map cc) (fs' g) m) (pUn (gFld Cs g) p) := fun h F env e fp x sr =>
  Out.bind0 sr (a h F env e fp x sr) (fun u d h1 F1 e1 f2 r1 x1 sr1 st sm => by
    have t := r1.tp
    cases d with
    | ins C fs =>
      obtain ⟨n, us, rfl, a1, a2, a3⟩ := t
      show Out cc q (RD cc) _ _ _ _ _ (oE (if C ∈ Cs then fs.lookup g else none) e1)
      by_cases z : C ∈ Cs
      · rw [if_pos z]
        cases q1 : fs.lookup g with
        | none => trivial
        | some y =>
          obtain ⟨i, b1, b2, _⟩ := look_at a2 q1
          obtain ⟨v, c1, c2⟩ := a3.get b1
          rw [Q.e_insU, a1]
          simp only
          rw [if_pos (List.mem_map_of_mem (f := cc) z), b2 v c1]
          exact Out.ret0 ⟨rfl, c2⟩ x1 sr1
      · rw [if_neg z]; trivial
    | _ => trivial) rx_nil
/-! ### paths -/
def RP (env : Env') (p : Pth) (h : Sto) (F : Nat → Prop) (u : U) (r : List Ac) (f : List Nat) : Prop := f = [] ∧ (∃ o, env[p.root]? = some (some o) ∧ atU h o r = some u) ∧ (p.isVar = true → r = [])
def SimP (cc : Nat → Nat) (m : EM) (p : Pth) : Prop := ∀ h F env e fp, Ev cc h F env e fp → SR h F fp → Out cc true (RP env p) h F fp env (m env h) (p.ev e)
theorem rp_nil {p : Pth} : ∀ (a : U) (b : List Ac) (h : Sto) (F : Nat → Prop) (f : List Nat), RP env p h F a b f → f = [] := fun _ _ _ _ _ x => x.1
theorem atP_ok {r r' : List Ac} (q : atP i r e = .ok r' e') : r' = r ∧ e' = e ∧ ∃ t, getP i r e = some t ∧ t ≠ .hole := by
  unfold atP at q
  split at q
  · cases q
  · rename_i t nh q1
    cases q
    exact ⟨rfl, rfl, t, q1, nh⟩
  · cases q
theorem atP_cases (r : List Ac) : atP i r e = .bad ∨ (atP i r e = .ok r e ∧ ∃ t, getP i r e = some t ∧ t ≠ .hole) := by
  unfold atP
  split
  · exact .inl rfl
  · rename_i t nh q1
    exact .inr ⟨rfl, t, q1, nh⟩
  · exact .inl rfl
theorem simP_var {i : Nat} : SimP cc (Q.mVar i) (.var i) := fun h F env e fp x sr => by
  show Out cc true (RP env (.var i)) h F fp env _ (atP i [] e)
  rcases atP_cases (i := i) (e := e) [] with z | ⟨z, t, q1, nh⟩
  · rw [z]; trivial
  · rw [z]
    obtain ⟨o, v, f1, f2, a1, a2, _⟩ := x.pt q1 nh
    rw [atU_nil] at a2
    cases a2
    exact ⟨o, h, F, [], fp, by rw [Q.e_var, a1], ⟨rfl, ⟨o, a1, atU_nil _ _⟩, fun _ => rfl⟩, x, Fr.refl sr, fun _ => Sm.refl h⟩
theorem getP_app {r : List Ac} {a : Ac} {s : T} (q : getP i (r ++ [a]) e = some s) : ∃ t, getP i r e = some t ∧ t.get1 a = some s := by
  unfold getP at q ⊢
  cases q1 : e[i]? with
  | none => rw [q1] at q; cases q
  | some t =>
    rw [q1] at q
    simp only at q ⊢
    rw [get_app] at q
    cases q2 : t.get r with
    | none => rw [q2] at q; cases q
    | some w =>
      rw [q2] at q
      refine ⟨w, rfl, ?_⟩
      have q : w.get [a] = some s := q
      rw [get_cons] at q
      cases q3 : w.get1 a with
      | none => rw [q3] at q; cases q
      | some w' => rw [q3] at q; have q : w'.get [] = some s := q; rw [get_nil] at q; exact q
/-- what a path that leads somewhere gives below -/
theorem Ev.up {r : List Ac} {a : Ac} {s : T} {o : U} (x : Ev cc h F env e fp) (q : getP i (r ++ [a]) e = some s) (nh : s ≠ .hole) (ho : env[i]? = some (some o)) : ∃ t u, getP i r e = some t ∧ t.get1 a = some s ∧ atU h o r = some u ∧ ∃ f1, Ow cc h F u t f1 := by
  obtain ⟨t, q1, q2⟩ := getP_app q
  have nt : t ≠ .hole := fun z => by subst z; cases a <;> cases q2
  obtain ⟨o', v, f1, f2, a1, a2, a3, _⟩ := x.pt q1 nt
  rw [ho] at a1
  cases a1
  exact ⟨t, v, q1, q2, a2, f1, a3⟩
theorem simP_fld {m : EM} {p : Pth} {Cs : List Nat} {g : String} (a : SimP cc m p) : SimP cc (Q.mFld (Cs.map cc) (fs' g) m) (.fld p Cs g) := fun h F env e fp x sr =>
  Out.bind0 sr (a h F env e fp x sr) (fun u r h1 F1 e1 f2 r1 x1 sr1 st sm => by
    obtain ⟨_, ⟨o, b1, b2⟩, _⟩ := r1
    show Out cc true (RP env (.fld p Cs g)) _ _ _ _ _ (atP p.root (r ++ [.fld Cs g]) e1)
    rcases atP_cases (i := p.root) (e := e1) (r ++ [.fld Cs g]) with z | ⟨z, s, q1, nh⟩
    · rw [z]; trivial
    · rw [z]
      obtain ⟨t, u', c1, c2, c3, fo, c4⟩ := x1.up q1 nh b1
      rw [b2] at c3
      cases c3
      obtain ⟨v, g1, g2, d1, _⟩ := c4.at1 c2
      have key : Q.mFld (Cs.map cc) (fs' g) (Q.mC u) env h1 = .ok v h1 := by
        cases c4 with
        | @is n C us ts fp e1 k r' =>
          have c2 : (if C ∈ Cs then ts.lookup g else none) = some s := c2
          split at c2
          case isFalse => cases c2
          rename_i hC
          have d1 : (match h1[n]? with
            | some (.ins _ fs) => fs.lookup (fs' g)
            | _ => none) = some v := d1
          rw [e1] at d1
          rw [Q.e_fld, Q.e_c, Q.e_bind_ok, Q.e_insU, e1]
          simp only at d1 ⊢
          rw [if_pos (List.mem_map_of_mem (f := cc) hC), d1]; rfl
        | leaf dn =>
          cases dn with
          | @ins n C us ds fF e1 k r' =>
            have c2 : (if C ∈ Cs then (ds.lookup g).map T.leaf else none) = some s := c2
            split at c2
            case isFalse => cases c2
            rename_i hC
            have d1 : (match h1[n]? with
              | some (.ins _ fs) => fs.lookup (fs' g)
              | _ => none) = some v := d1
            rw [e1] at d1
            rw [Q.e_fld, Q.e_c, Q.e_bind_ok, Q.e_insU, e1]
            simp only at d1 ⊢
            rw [if_pos (List.mem_map_of_mem (f := cc) hC), d1]; rfl
          | _ => cases c2
        | _ => cases c2
      rw [Q.e_fld, Q.e_c, Q.e_bind_ok] at key
      rw [key]
      refine ⟨v, h1, F1, [], f2, rfl, ⟨rfl, ⟨o, b1, ?_⟩, fun z => by cases z⟩, x1, Fr.refl sr1, fun _ => Sm.refl _⟩
      rw [atU_app, b2]
      show atU h1 u [.fld Cs g] = some v
      unfold atU
      rw [d1]
      exact atU_nil _ _) rp_nil
theorem simP_ix {m mi : EM} {p : Pth} {pi : PE} (a : SimP cc m p) (b : Sim cc true (RD cc) mi pi) : SimP cc (Q.mBin Q.uIx m mi) (.ix p pi) := fun h F env e fp x sr =>
  Out.bind0 sr (a h F env e fp x sr) (fun u r h1 F1 e1 f2 r1 x1 sr1 st sm => Out.bind0 sr1 (b h1 F1 env e1 f2 x1 sr1) (fun w d h2 F2 e2 f3 r2 x2 sr2 st2 sm2 => by
    obtain ⟨_, ⟨o, b1, b2⟩, _⟩ := r1
    have b2 := atU_mono (sm2 rfl) b2
    obtain ⟨_, r2⟩ := r2
    cases r2 with
    | int k =>
      show Out cc true (RP env (.ix p pi)) _ _ _ _ _ (atP p.root (r ++ [.ix k]) e2)
      rcases atP_cases (i := p.root) (e := e2) (r ++ [.ix k]) with z | ⟨z, s, q1, nh⟩
      · rw [z]; trivial
      · rw [z]
        obtain ⟨t, u', c1, c2, c3, fo, c4⟩ := x2.up q1 nh b1
        rw [b2] at c3
        cases c3
        obtain ⟨v, g1, g2, d1, _⟩ := c4.at1 c2
        have d1' : (match Q.sL h2 u with
          | some us => L2.atI us k
          | none => none) = some v := by
          have : at1 h2 u (.ix k) = (match Q.sL h2 u with
            | some us => L2.atI us k
            | none => none) := by cases u <;> rfl
          rw [← this]; exact d1
        have key : Q.uIx u (.int k) h2 = .ok v h2 := by
          cases q5 : Q.sL h2 u with
          | none => rw [q5] at d1'; cases d1'
          | some us =>
            rw [q5] at d1'
            have g : Q.uIx u (.int k) h2 = (match Q.sL h2 u with
              | some us => Q.oR (L2.atI us k) h2
              | none => .bad) := by cases u <;> first | rfl | (cases q5; done)
            rw [g, q5]
            simp only at d1' ⊢
            rw [d1']; rfl
        rw [key]
        refine ⟨v, h2, F2, [], f3, rfl, ⟨rfl, ⟨o, b1, ?_⟩, fun z => by cases z⟩, x2, Fr.refl sr2, fun _ => Sm.refl _⟩
        rw [atU_app, b2]
        show atU h2 u [.ix k] = some v
        unfold atU
        rw [d1]
        exact atU_nil _ _
    | _ => trivial) rd_nil) rp_nil
theorem Out.anyQ {Rel : Sto → (Nat → Prop) → α → β → List Nat → Prop} {r : R α} {s : PR β} (o : Out cc true Rel h F fp env r s) : Out cc q Rel h F fp env r s := by
  cases s with
  | bad => trivial
  | exc C x e' => exact o
  | ok b e' =>
    obtain ⟨a, h', F', f3, f4, a1, a2, a3, a4, a5⟩ := o
    exact ⟨a, h', F', f3, f4, a1, a2, a3, a4, fun _ => a5 rfl⟩
/-- reading -/
theorem Out.bindP {R2 : Sto → (Nat → Prop) → U → δ → List Nat → Prop} {m : EM} {p : Pth} {k : List Ac → Env → PR δ} (a : SimP cc m p) (x : Ev cc h F env e fp) (sr : SR h F fp)
    (z : ∀ u r h1 F1 e1 f2, (∃ o, env[p.root]? = some (some o) ∧ atU h1 o r = some u) → Ev cc h1 F1 env e1 f2 → SR h1 F1 f2 → Stab h F h1 F1 → Out cc q R2 h1 F1 f2 env (.ok u h1) (k r e1)) : Out cc q R2 h F fp env (m env h) ((p.ev e).bind k) := by
  have : m env h = (m env h).bind fun u h1 => .ok u h1 := by cases m env h <;> rfl
  rw [this]
  exact Out.bind0 sr (Out.anyQ (a h F env e fp x sr)) (fun u r h1 F1 e1 f2 r1 x1 sr1 st sm => z u r h1 F1 e1 f2 r1.2.1 x1 sr1 st) rp_nil
theorem sim_rd {m : EM} {p : Pth} (a : SimP cc m p) : Sim cc q (RD cc) m (pRd p) := fun h F env e fp x sr =>
  Out.bindP a x sr fun u r h1 F1 e1 f2 ⟨o, b1, b2⟩ x1 sr1 st => by
    split
    · rename_i d q1
      obtain ⟨o', v, g1, g2, c1, c2, c3, c4, _⟩ := x1.pt q1 (fun z => by cases z)
      rw [b1] at c1; cases c1
      rw [b2] at c2; cases c2
      cases c3 with
      | leaf dn => exact Out.ret0 ⟨rfl, dn⟩ x1 sr1
    · rename_i t nl q1
      split
      · rename_i d q2
        have nh : t ≠ .hole := fun z => by subst z; cases q2
        obtain ⟨o', v, g1, g2, c1, c2, c3, c4, c5⟩ := x1.pt q1 nh
        rw [b1] at c1; cases c1
        rw [b2] at c2; cases c2
        have lf : t.isLeaf = false := by
          cases t with
          | leaf d => exact (nl d rfl).elim
          | _ => rfl
        have dn := Ow.frz c3 q2 (fun n => F1 n ∨ n ∈ g1) (fun _ y => .inl y) (fun _ y => .inr y)
        obtain ⟨fp', d1, d2⟩ := c5 lf h1 (fun n => F1 n ∨ n ∈ g1) (.leaf d) [] (Stab.freeze g1) (fun _ _ => rfl) (.leaf dn)
        exact ⟨u, h1, _, [], fp', rfl, ⟨rfl, dn⟩, d1, ((Fr.freeze (sr1.perm c4)).perm d2.symm).permL c4.symm, fun _ => Sm.refl _⟩
      · trivial
    · trivial
theorem sim_vp {m : EM} {p : Pth} (a : SimP cc m p) : Sim cc q (RX cc false) m (pVp p) := fun h F env e fp x sr =>
  Out.bindP a x sr fun u r h1 F1 e1 f2 ⟨o, b1, b2⟩ x1 sr1 st => by
    split
    · rename_i t q1
      cases q2 : t.vw with
      | none => trivial
      | some d =>
        obtain ⟨o', v, g1, g2, c1, c2, c3, c4, _⟩ := x1.pt q1 (fun z => by subst z; cases q2)
        rw [b1] at c1; cases c1
        rw [b2] at c2; cases c2
        exact Out.ret0 ⟨rfl, c3.vw q2⟩ x1 sr1
    · trivial
/-! changes -/
def UpdOk (cc : Nat → Nat) (s : Bool) (f : U → List U → Sto → R U) (g : T → List D → Option (D × T)) : Prop := ∀ h F v t us ds d t' f1, Ow cc h F v t f1 → RA cc s h F us ds [] → g t ds = some (d, t') → t.isLeaf = false ∧
  ∃ n o u, n ∈ f1 ∧ f v us h = .ok u (h.set n o) ∧ ∀ fp, SR h F (f1 ++ fp) → Dn cc (h.set n o) F u d ∧ Ow cc (h.set n o) F v t' f1
/-- evaluated parts behind a path: the path is still there -/
theorem path_later {p : Pth} {q : Bool} {Rel : Sto → (Nat → Prop) → α → β → List Nat → Prop} {r : List Ac} {o u : U} {s : R α} {k : PR β} (b2 : atU h o r = some u) (b3 : p.isVar = true → r = []) (z : p.isVar = true ∨ q = true) (bb : Out cc q Rel h F fp env s k) :
    Out cc false (fun h' F' a b f => Rel h' F' a b f ∧ atU h' o r = some u) h F fp env s k := by
  cases k with
  | bad => trivial
  | exc C y e' => exact bb
  | ok y e' =>
    obtain ⟨a, h', F', f3, f4, a1, a2, a3, a4, a5⟩ := bb
    refine ⟨a, h', F', f3, f4, a1, ⟨a2, ?_⟩, a3, a4, fun z => by cases z⟩
    rcases z with z | z
    · have := b3 z
      subst this
      rw [atU_nil] at b2 ⊢
      exact b2
    · exact atU_mono (a5 z) b2
/-- a place changes -/
theorem out_set {i : Nat} {r : List Ac} {t' : T} {n : Nat} {ob : O} {Rel : Sto → (Nat → Prop) → α → β → List Nat → Prop} {a : α} {b : β} {g1 g2 : List Nat} (sr : SR h F fp) (c4 : fp.Perm (g1 ++ g2)) (n1 : n ∈ g1)
    (c5 : ∀ h' F' s' f1', Stab h F h' F' → Keep g2 h h' → Ow cc h' F' u s' f1' → ∃ fp', Ev cc h' F' env (setP i r s' e) fp' ∧ fp'.Perm (f1' ++ g2)) {g3 : List Nat} (n2 : Ow cc (h.set n ob) F u t' g3) (g3s : g3.Sublist g1) (n3 : Rel (h.set n ob) F a b []) : Out cc false Rel h F fp env (.ok a (h.set n ob)) (.ok b (setP i r t' e)) := by
  have sr' := sr.perm c4
  have n4 : n ∉ g2 := fun m => (List.nodup_append.mp sr'.nd).2.2 n n1 n m rfl
  obtain ⟨fp', d1, d2⟩ := c5 (h.set n ob) F t' g3 (Stab.set sr' (List.mem_append_left _ n1) ob) (Keep.set ob n4) n2
  exact ⟨a, _, F, [], fp', rfl, n3, d1, (((Fr.set sr' (List.mem_append_left _ n1) ob).sub (g3s.append_right g2)).perm d2.symm).permL c4.symm, fun z => by cases z⟩
theorem sim_upd {f : U → List U → Sto → R U} {g : T → List D → Option (D × T)} (ok : UpdOk cc s f g) {m : EM} {p : Pth} {am : AM} {pa : PDs} (a : SimP cc m p) (b : Sim cc q (RA cc s) am pa) (z : p.isVar = true ∨ q = true) : Sim cc false (RD cc) (Q.mLM f m am) (pUpd p pa g) := fun h F env e fp x sr =>
  Out.bind0 sr (Out.anyQ (a h F env e fp x sr)) (fun u r h1 F1 e1 f2 r1 x1 sr1 st sm => by
    obtain ⟨_, ⟨o, b1, b2⟩, b3⟩ := r1
    cases q1 : getP p.root r e1 with
    | none => trivial
    | some t =>
      cases t with
      | ls xs =>
        have al : (Q.aL h1 u).isSome = true := by
          obtain ⟨o', v, g1, g2, c1, c2, c3, _⟩ := x1.pt q1 (fun z => by cases z)
          rw [b1] at c1; cases c1
          rw [b2] at c2; cases c2
          cases c3 with
          | ls e r => rw [Q.e_aL_ref, e]; rfl
        rw [if_pos al]
        refine Out.bind0 sr1 (path_later b2 b3 z (b h1 F1 env e1 f2 x1 sr1)) (fun us ds h2 F2 e2 f3 r2 x2 sr2 st2 sm2 => ?_) (fun _ _ _ _ _ x => x.1.1)
        obtain ⟨ra, b2⟩ := r2
        cases q2 : getP p.root r e2 with
        | none => trivial
        | some t =>
          simp only
          cases q3 : g t ds with
          | none => trivial
          | some dt =>
            obtain ⟨d, t'⟩ := dt
            simp only
            have nh : t ≠ .hole := fun z => by
              subst z
              obtain ⟨_, n, o, u', m, _⟩ := ok h2 F2 (.ref 0) .hole us ds d t' [] (.hole _) ra q3
              cases m
            obtain ⟨o', v, g1, g2, c1, c2, c3, c4, c5⟩ := x2.pt q2 nh
            rw [b1] at c1; cases c1
            rw [b2] at c2; cases c2
            obtain ⟨lf, n, ob, u', m1, m2, m3⟩ := ok h2 F2 u t us ds d t' g1 c3 ra q3
            obtain ⟨m4, m5⟩ := m3 g2 (sr2.perm c4)
            rw [m2]
            exact out_set sr2 c4 m1 (c5 lf) m5 (List.Sublist.refl _) ⟨rfl, m4⟩
      | _ => trivial) rp_nil
theorem upd_app : UpdOk cc true Q.uApp P.uApp := by
  intro h F v t us ds d t' f1 w r q
  cases t with
  | ls xs =>
    cases ds with
    | nil => cases q
    | cons d1 ds =>
      cases ds with
      | cons _ _ => cases q
      | nil =>
        have q : (if xs.length < 16000000 then some (D.non, T.ls (xs ++ [d1])) else none) = some (d, t') := q
        split at q
        case isFalse => cases q
        rename_i hz
        cases q
        obtain ⟨_, r⟩ := r
        simp only [if_true] at r
        cases r with
        | @cons u _ _ _ y r =>
          cases r
          cases w with
          | @ls n ys _ e rr =>
            refine ⟨rfl, n, .lst (ys ++ [u]), .non, List.mem_singleton.mpr rfl, ?_, fun fp sr => ?_⟩
            · rw [Q.e_app, e]; simp only; rw [if_pos (by rw [rr.len]; exact hz)]
            · have st := Stab.set sr (List.mem_append_left _ (List.mem_singleton.mpr rfl)) (O.lst (ys ++ [u]))
              exact ⟨.non, .ls (by rw [List.getElem?_set_self (List.getElem?_eq_some_iff.mp e).1]) ((rr.app (.cons y .nil)).mono st)⟩
  | _ => cases q
theorem upd_ext : UpdOk cc s Q.uExt P.uExt := by
  intro h F v t us ds d t' f1 w r q
  cases t with
  | ls xs =>
    cases ds with
    | nil => cases q
    | cons d1 ds =>
      cases ds with
      | cons _ _ => cases d1 <;> cases q
      | nil =>
        cases d1 with
        | lst zs =>
          have q : (if xs.length + zs.length ≤ 16000000 then some (D.non, T.ls (xs ++ zs)) else none) = some (d, t') := q
          split at q
          case isFalse => cases q
          rename_i hz
          cases q
          obtain ⟨u, rfl, us, a1, r⟩ := ra_one r
          cases w with
          | @ls n ys _ e rr =>
            refine ⟨rfl, n, .lst (ys ++ us), .non, List.mem_singleton.mpr rfl, ?_, fun fp sr => ?_⟩
            · rw [Q.e_ext, e, a1]; simp only; rw [if_pos (by rw [rr.len, r.len]; exact hz)]
            · have st := Stab.set sr (List.mem_append_left _ (List.mem_singleton.mpr rfl)) (O.lst (ys ++ us))
              exact ⟨.non, .ls (by rw [List.getElem?_set_self (List.getElem?_eq_some_iff.mp e).1]) ((rr.app r).mono st)⟩
        | _ => cases q
  | _ => cases q
end
end P

set_option Elab.async false
set_option linter.all false
set_option maxRecDepth 100000
set_option maxHeartbeats 1000000
/-! PS8: what is walked, comprehensions. -/
namespace P
open Q (U O Sto Env' R RS EM TM AM SM Sem')
section
variable {cc : Nat → Nat} {h h' h1 h2 : Sto} {F F' F1 F2 : Nat → Prop} {u v : U} {d : D} {us : List U} {ds : List D} {t : T} {ts : List T} {f f1 f2 fp fp' fp1 fp2 : List Nat} {env env' : Env'} {e e' : Env} {i : Nat} {q s s1 s2 : Bool}
  {α β γ δ : Type}
/-- what is walked is frozen -/
def RI (cc : Nat → Nat) (h : Sto) (F : Nat → Prop) (a : Q.Chk × List U) (b : List D) (f : List Nat) : Prop := f = [] ∧ Dns cc h F a.2 b ∧ ∀ p ∈ a.1, F p.1 ∧ h[p.1]? = some (.lst p.2)
theorem ri_nil : ∀ (a : Q.Chk × List U) (b : List D) (h : Sto) (F : Nat → Prop) (f : List Nat), RI cc h F a b f → f = [] := fun _ _ _ _ _ x => x.1
def ChkF (h : Sto) (F : Nat → Prop) (c : Q.Chk) : Prop := ∀ p ∈ c, F p.1 ∧ h[p.1]? = some (.lst p.2)
theorem ChkF.mono {c : Q.Chk} (x : ChkF h F c) (st : Stab h F h' F') : ChkF h' F' c := fun p m => ⟨st.le _ (x p m).1, (st.eq _ (x p m).1).trans (x p m).2⟩
theorem ChkF.ok {c : Q.Chk} (x : ChkF h F c) : Q.chkOk c h := fun p m => (x p m).2
theorem rng_dns (lo : Int) (n : Nat) : Dns cc h F (Q.rng lo n) (P.rng lo n) := by
  have : ∀ l : List Nat, Dns cc h F (l.map fun i => U.int (lo + (i : Nat))) (l.map fun i => D.int (lo + (i : Nat))) := by
    intro l
    induction l with
    | nil => exact .nil
    | cons x r ih => exact .cons (.int _) ih
  exact this _
theorem sim_r1 {am : AM} {pa : PDs} (a : Sim cc q (RDs cc) am pa) : Sim cc q (RI cc) (Q.itR1 am) (iR1 pa) := fun h F env e fp x sr =>
  Out.bind0 sr (a h F env e fp x sr) (fun us ds h1 F1 e1 f2 r1 x1 sr1 st sm => by
    obtain ⟨_, r⟩ := r1
    cases q1 : gR1 ds with
    | none => trivial
    | some l =>
      unfold gR1 at q1
      split at q1
      case h_2 => cases q1
      rename_i j
      split at q1
      case isFalse => cases q1
      rename_i z
      cases q1
      cases r with
      | cons y r =>
        cases r; cases y
        simp only; rw [if_pos (by omega)]
        exact Out.ret0 ⟨rfl, rng_dns _ _, fun _ m => nomatch m⟩ x1 sr1) rds_nil
theorem sim_r2 {am : AM} {pa : PDs} (a : Sim cc q (RDs cc) am pa) : Sim cc q (RI cc) (Q.itR2 am) (iR2 pa) := fun h F env e fp x sr =>
  Out.bind0 sr (a h F env e fp x sr) (fun us ds h1 F1 e1 f2 r1 x1 sr1 st sm => by
    obtain ⟨_, r⟩ := r1
    cases q1 : gR2 ds with
    | none => trivial
    | some l =>
      unfold gR2 at q1
      split at q1
      case h_2 => cases q1
      rename_i j
      split at q1
      case isFalse => cases q1
      rename_i z
      cases q1
      cases r with
      | cons y r =>
        cases r with
        | cons y2 r =>
        cases r; cases y; cases y2
        simp only; rw [if_pos (by omega)]
        exact Out.ret0 ⟨rfl, rng_dns _ _, fun _ m => nomatch m⟩ x1 sr1) rds_nil
theorem sim_ie {m : EM} {p : PE} (a : Sim cc q (RD cc) m p) : Sim cc q (RI cc) (Q.itE m) (iE p) := fun h F env e fp x sr =>
  Out.bind0 sr (a h F env e fp x sr) (fun u d h1 F1 e1 f2 r1 x1 sr1 st sm => by
    obtain ⟨_, r⟩ := r1
    cases r with
    | str s =>
      refine Out.ret0 ⟨rfl, ?_, fun _ m => nomatch m⟩ x1 sr1
      have : ∀ l : List Nat, Dns cc h1 F1 (l.map fun c => U.str [c]) (l.map fun c => D.str [c]) := by
        intro l
        induction l with
        | nil => exact .nil
        | cons x r ih => exact .cons (.str _) ih
      exact this _
    | tup r => exact Out.ret0 (a := ([], _)) ⟨rfl, r, fun _ m => nomatch m⟩ x1 sr1
    | fl r => exact Out.ret0 (a := ([], _)) ⟨rfl, r, fun _ m => nomatch m⟩ x1 sr1
    | kl r => exact Out.ret0 (a := ([], _)) ⟨rfl, r, fun _ m => nomatch m⟩ x1 sr1
    | @lst n us _ fF e r =>
      show Out cc q (RI cc) h1 F1 f2 env (match Q.sL h1 (.ref n) with | some us => R.ok (Q.chkOf (.ref n) us, us) h1 | none => .bad) _
      rw [Q.e_sL_ref, e]
      exact Out.ret0 ⟨rfl, r, fun p m => by
        have : p = (n, us) := by simpa [Q.chkOf] using m
        subst this
        exact ⟨fF, e⟩⟩ x1 sr1
    | _ => trivial) rd_nil
theorem pairs_dns : ∀ {us : List U} {ds : List D} {vs : List U} {es : List D}, Dns cc h F us ds → Dns cc h F vs es → Dns cc h F (Q.pairs us vs) (P.pairs ds es)
  | _, _, _, _, .nil, _ => .nil
  | _, _, _, _, .cons x r, .nil => .nil
  | _, _, _, _, .cons x r, .cons y s => .cons (.tup (.cons x (.cons y .nil))) (pairs_dns r s)
theorem chk_dn {ds : List D} (r : Dn cc h F u (.lst ds)) : ∃ us, Q.aL h u = some us ∧ Dns cc h F us ds ∧ ChkF h F (Q.chkOf u us) := by
  cases r with
  | fl r => exact ⟨_, rfl, r, fun _ m => nomatch m⟩
  | @lst n us _ fF e r => exact ⟨us, by rw [Q.e_aL_ref, e], r, fun p m => by
      have : p = (n, us) := by simpa [Q.chkOf] using m
      subst this
      exact ⟨fF, e⟩⟩
theorem chk_sq {ds : List D} (r : Dn cc h F u d) (e : sqD d = some ds) : ∃ us, Q.sL h u = some us ∧ Dns cc h F us ds ∧ ChkF h F (Q.chkOf u us) := by
  cases r with
  | fl r => cases e; exact ⟨_, rfl, r, fun _ m => nomatch m⟩
  | tup r => cases e; exact ⟨_, rfl, r, fun _ m => nomatch m⟩
  | kl r => cases e; exact ⟨_, rfl, r, fun _ m => nomatch m⟩
  | @lst n us _ fF e' r =>
    cases e
    exact ⟨us, by rw [Q.e_sL_ref, e'], r, fun p m => by
      have : p = (n, us) := by simpa [Q.chkOf] using m
      subst this
      exact ⟨fF, e'⟩⟩
  | _ => cases e
theorem sim_iz {am : AM} {pa : PDs} (a : Sim cc q (RDs cc) am pa) : Sim cc q (RI cc) (Q.itZ am) (iZ pa) := fun h F env e fp x sr =>
  Out.bind0 sr (a h F env e fp x sr) (fun us ds h1 F1 e1 f2 r1 x1 sr1 st sm => by
    obtain ⟨_, r⟩ := r1
    cases q1 : gZ ds with
    | none => trivial
    | some l =>
      unfold gZ at q1
      split at q1
      case h_2 => cases q1
      split at q1
      case h_2 => cases q1
      rename_i c1 c2
      cases q1
      cases r with
      | cons y r =>
        cases r with
        | cons y2 r =>
        cases r
        obtain ⟨us, a1, a2, a3⟩ := chk_sq y c1
        obtain ⟨vs, b1, b2, b3⟩ := chk_sq y2 c2
        simp only [a1, b1]
        exact Out.ret0 ⟨rfl, pairs_dns a2 b2, fun p m => by
          rcases List.mem_append.mp m with m | m
          · exact a3 p m
          · exact b3 p m⟩ x1 sr1) rds_nil
theorem sim_in {am : AM} {pa : PDs} (a : Sim cc q (RDs cc) am pa) : Sim cc q (RI cc) (Q.itN am) (iN pa) := fun h F env e fp x sr =>
  Out.bind0 sr (a h F env e fp x sr) (fun us ds h1 F1 e1 f2 r1 x1 sr1 st sm => by
    obtain ⟨_, r⟩ := r1
    cases q1 : gN ds with
    | none => trivial
    | some l =>
      unfold gN at q1
      split at q1
      case h_2 => cases q1
      cases q1
      cases r with
      | cons y r =>
        cases r
        obtain ⟨us, a1, a2, a3⟩ := chk_dn y
        simp only [a1]
        exact Out.ret0 ⟨rfl, by rw [← a2.len]; exact pairs_dns (rng_dns _ _) a2, a3⟩ x1 sr1) rds_nil
/-! ### targets -/
/-- another frame of the same slots where the pure one has nothing -/
theorem Ev.swap : ∀ {env env' : Env'} {e : Env} {fp : List Nat}, Ev cc h F env e fp → env'.length = env.length → (∀ (i : Nat) (t : T), e[i]? = some t → t ≠ T.hole → env'[i]? = env[i]?) → Ev cc h F env' e fp
  | [], [], _, _, .nil, _, _ => .nil
  | [], _ :: _, _, _, _, l, _ => by simp at l
  | _ :: _, [], _, _, _, l, _ => by simp at l
  | o :: env, o' :: env', _, _, .cons (t := t) (f1 := f1) x r, l, k => by
    have r' := Ev.swap r (by simpa using l) fun i t q n => by simpa using k (i + 1) t (by simpa using q) n
    by_cases z : t = .hole
    · subst z
      have hf : f1 = [] := by
        cases o with
        | none => exact x.2
        | some u => cases x; rfl
      subst hf
      refine .cons ?_ r'
      cases o' with
      | none => exact ⟨rfl, rfl⟩
      | some u => exact .hole u
    · have : o' = o := by simpa using k 0 t rfl z
      subst this
      exact .cons x r'
theorem kill_get : ∀ (K : List Nat) (e : Env) (i : Nat) (t : T), (P.kill K e)[i]? = some t → t ≠ T.hole → i ∉ K ∧ e[i]? = some t
  | [], e, i, t, q, n => ⟨by simp, q⟩
  | k :: K, e, i, t, q, n => by
    obtain ⟨a, b⟩ := kill_get K (e.set k .hole) i t q n
    by_cases z : k = i
    · subst z
      have : k < e.length := by have := (List.getElem?_eq_some_iff.mp b).1; simpa using this
      rw [List.getElem?_set_self this] at b
      exact absurd (Option.some.inj b).symm n
    · rw [List.getElem?_set_ne z] at b
      exact ⟨by simp [a, Ne.symm z], b⟩
theorem kill_len : ∀ (K : List Nat) (e : Env), (kill K e).length = e.length
  | [], e => rfl
  | k :: K, e => by show (kill K (e.set k .hole)).length = _; rw [kill_len K]; simp
theorem Ev.kill : ∀ (K : List Nat) {e : Env} {fp : List Nat}, Ev cc h F env e fp → ∃ fp', Ev cc h F env (kill K e) fp' ∧ ∃ f1, fp.Perm (f1 ++ fp')
  | [], e, fp, x => ⟨fp, x, [], .refl _⟩
  | k :: K, e, fp, x => by
    obtain ⟨fp1, x1, f1, p1⟩ := x.hole k
    obtain ⟨fp2, x2, f2, p2⟩ := Ev.kill K x1
    exact ⟨fp2, x2, f1 ++ f2, by rw [List.append_assoc]; exact p1.trans (p2.append_left f1)⟩
theorem wipe_get : ∀ (vs : List Nat) (env : Env') (i : Nat), i ∉ vs → (Q.wipeE env vs)[i]? = env[i]?
  | [], env, i, _ => rfl
  | v :: vs, env, i, n => by
    show ((Q.wipeE env vs).set v none)[i]? = _
    rw [List.getElem?_set_ne (fun z => n (by simp [z])), wipe_get vs env i (fun z => n (List.mem_cons_of_mem _ z))]
theorem wipe_len : ∀ (vs : List Nat) (env : Env'), (Q.wipeE env vs).length = env.length
  | [], env => rfl
  | v :: vs, env => by show ((Q.wipeE env vs).set v none).length = _; rw [List.length_set, wipe_len vs env]
/-- frames alike but at the slots that are killed -/
theorem Ev.swapK {vs : List Nat} (x : Ev cc h F env (P.kill vs e) fp) (l : env'.length = env.length) (k : ∀ i, i ∉ vs → env'[i]? = env[i]?) : Ev cc h F env' (P.kill vs e) fp :=
  x.swap l fun i t q n => k i (kill_get vs e i t q n).1
theorem setA_get {α : Type} : ∀ {env : List (Option α)} {is : List Nat} {us : List α} {i : Nat}, i ∉ is → (Q.setA env is us)[i]? = env[i]?
  | env, [], us, i, _ => by unfold Q.setA; rfl
  | env, j :: is, [], i, _ => by unfold Q.setA; rfl
  | env, j :: is, u :: us, i, n => by
    unfold Q.setA
    rw [setA_get (fun z => n (List.mem_cons_of_mem _ z)), List.getElem?_set_ne (fun z => n (by simp [z]))]
theorem setA_len {α : Type} : ∀ {env : List (Option α)} {is : List Nat} {us : List α}, (Q.setA env is us).length = env.length
  | env, [], us => by unfold Q.setA; rfl
  | env, j :: is, [] => by unfold Q.setA; rfl
  | env, j :: is, u :: us => by unfold Q.setA; rw [setA_len]; simp
def ctQ : CT → Q.CT
  | .one i => .one i
  | .tup is => .tup is
  | .lst is => .lst is
  | .nst i is => .nst i is
  | .nsl is i => .nsl is i
theorem Ev.setA : ∀ {is : List Nat} {us : List U} {ds : List D} {env : Env'} {e : Env} {fp : List Nat}, Ev cc h F env e fp → Dns cc h F us ds → us.length = is.length → ∃ fp', Ev cc h F (Q.setA env is us) (P.setA e is ds) fp' ∧ ∃ f1, fp.Perm (f1 ++ fp')
  | [], _, _, env, e, fp, x, _, _ => by unfold Q.setA P.setA; exact ⟨fp, x, [], .refl _⟩
  | i :: is, _, _, env, e, fp, x, .nil, l => by simp at l
  | i :: is, _, _, env, e, fp, x, .cons (u := u) y r, l => by
    unfold Q.setA P.setA
    obtain ⟨fp1, x1, f1, p1⟩ := x.putD i y
    obtain ⟨fp3, x3, f3, p3⟩ := Ev.setA x1 r (by simpa using l)
    refine ⟨fp3, x3, f1 ++ f3, ?_⟩
    rw [List.append_assoc]
    exact p1.trans (p3.append_left f1)
/-- a target takes data -/
theorem ct_asg {c : CT} {e1 : Env} (x : Ev cc h F env e fp) (y : Dn cc h F u d) (q1 : c.asg d e = some e1) : ∃ env1, (ctQ c).asg u env h = some env1 ∧ env1.length = env.length ∧ (∀ i, i ∉ c.ix → env1[i]? = env[i]?) ∧ ∃ fp', Ev cc h F env1 e1 fp' ∧ ∃ f1, fp.Perm (f1 ++ fp') := by
  cases c with
  | one i =>
    have q1 : some (e.set i (.leaf d)) = some e1 := by cases d <;> exact q1
    cases q1
    obtain ⟨fp1, x1, f1, p1⟩ := x.putD i y
    exact ⟨env.set i (some u), rfl, by simp, fun j n => List.getElem?_set_ne (fun z => n (by simp [CT.ix, z])), fp1, x1, f1, p1⟩
  | tup is =>
    cases y with
    | @tup us ds r =>
      have q1 : (if ds.length = is.length then some (P.setA e is ds) else none) = some e1 := q1
      split at q1
      case isFalse => cases q1
      rename_i hl
      cases q1
      obtain ⟨fp1, x1, f1, p1⟩ := x.setA r (by rw [r.len]; exact hl)
      refine ⟨Q.setA env is us, ?_, setA_len, fun j n => setA_get n, fp1, x1, f1, p1⟩
      show (if us.length = is.length then some (Q.setA env is us) else none) = _
      rw [if_pos (by rw [r.len]; exact hl)]
    | _ => cases q1
  | lst is =>
    cases d with
    | lst ds =>
      obtain ⟨us, a1, r⟩ := y.tp
      have q1 : (if ds.length = is.length then some (P.setA e is ds) else none) = some e1 := q1
      split at q1
      case isFalse => cases q1
      rename_i hl
      cases q1
      obtain ⟨fp1, x1, f1, p1⟩ := x.setA r (by rw [r.len]; exact hl)
      refine ⟨Q.setA env is us, ?_, setA_len, fun j n => setA_get n, fp1, x1, f1, p1⟩
      show (match Q.mL h u with | some us => if us.length = is.length then some (Q.setA env is us) else none | none => none) = _
      rw [a1]
      simp only
      rw [if_pos (by rw [r.len]; exact hl)]
    | _ => cases q1
  | nst i is =>
    unfold CT.asg at q1
    split at q1 <;> try (cases q1; done)
    all_goals try contradiction
    rename_i i' is' xd ds hq
    cases hq
    split at q1
    case isFalse => cases q1
    rename_i hl
    cases q1
    cases y with
    | tup r =>
    cases r with
    | cons ya yr =>
    cases yr with
    | cons yb yr2 =>
    cases yr2
    cases yb with
    | @tup us _ r =>
    obtain ⟨fp1, x1, f1, p1⟩ := x.putD i ya
    obtain ⟨fp2, x2, f2, p2⟩ := x1.setA r (by rw [r.len]; exact hl)
    refine ⟨Q.setA (env.set i (some _)) is us, ?_, by rw [setA_len]; simp, fun j n => ?_, fp2, x2, f1 ++ f2, ?_⟩
    · show (if us.length = is.length then some (Q.setA (env.set i (some _)) is us) else none) = _
      rw [if_pos (by rw [r.len]; exact hl)]
    · rw [setA_get (fun z => n (List.mem_cons_of_mem _ z)), List.getElem?_set_ne (fun z => n (by simp [CT.ix, z]))]
    · rw [List.append_assoc]; exact p1.trans (p2.append_left f1)
  | nsl is i =>
    unfold CT.asg at q1
    split at q1 <;> try (cases q1; done)
    all_goals try contradiction
    rename_i is' i' ds xd hq
    cases hq
    split at q1
    case isFalse => cases q1
    rename_i hl
    cases q1
    cases y with
    | tup r =>
    cases r with
    | cons ya yr =>
    cases yr with
    | cons yb yr2 =>
    cases yr2
    cases ya with
    | @tup us _ r =>
    obtain ⟨fp1, x1, f1, p1⟩ := x.setA r (by rw [r.len]; exact hl)
    obtain ⟨fp2, x2, f2, p2⟩ := x1.putD i yb
    refine ⟨(Q.setA env is us).set i (some _), ?_, by simp [setA_len], fun j n => ?_, fp2, x2, f1 ++ f2, ?_⟩
    · show (if us.length = is.length then some ((Q.setA env is us).set i (some _)) else none) = _
      rw [if_pos (by rw [r.len]; exact hl)]
    · rw [List.getElem?_set_ne (fun z => n (by simp [CT.ix, z])), setA_get (fun z => n (List.mem_cons_of_mem _ z))]
    · rw [List.append_assoc]; exact p1.trans (p2.append_left f1)
/-! ### comprehensions -/
theorem lc_go {c : CT} {t : TM} {me : EM} {pt : PB} {pe : PE} {vs : List Nat} {n : Nat} {env0 : Env'} (ht : Sim cc q RE t pt) (he : Sim cc q (RD cc) me pe) (hc : ∀ i ∈ c.ix, i ∈ vs) :
    ∀ {us : List U} {ds : List D} {accU : List U} {accD : List D} {ck : Q.Chk} {h : Sto} {F : Nat → Prop} {e : Env} {fp : List Nat}, Dns cc h F us ds → ChkF h F ck → h[n]? = some (.lst accU) → Dns cc h F accU accD → Ev cc h F env0 (kill vs e) fp → SR h F (n :: fp) →
      match lcL c pt pe vs ds accD e with
      | .ok r e' => ∃ h' F' f2 accU', Q.lcL ck (ctQ c) t me n env0 us h = .ok (.ref n) h' ∧ h'[n]? = some (.lst accU') ∧ Dns cc h' F' accU' r ∧ Ev cc h' F' env0 (kill vs e') f2 ∧ Fr h F (n :: fp) h' F' (n :: f2) ∧ (q = true → ∀ k, k < h.length → k ≠ n → h'[k]? = h[k]?)
      | .exc _ _ _ => False
      | .bad => True
  | _, _, accU, accD, ck, h, F, e, fp, .nil, k, hn, ra, x, sr => by
    unfold lcL Q.lcL
    rw [if_pos k.ok]
    exact ⟨h, F, fp, accU, rfl, hn, ra, x, Fr.refl sr, fun _ _ _ _ => rfl⟩
  | _, _, accU, accD, ck, h, F, e, fp, .cons (us := us) (ds := ds) (u := u) (d := d) y r, k, hn, ra, x, sr => by
    unfold lcL
    cases q1 : c.asg d (kill vs e) with
    | none => trivial
    | some e1 =>
      obtain ⟨env1, a1, al, a2, fp1, x1, g1, p1⟩ := ct_asg x y q1
      have sr1 : SR h F (n :: fp1) := (sr.perm (p1.cons n)).sub ((List.sublist_append_right g1 fp1).cons₂ n)
      have srs : SR h F ([n] ++ fp1) := sr1
      have tt := ht h F env1 e1 fp1 x1 srs.right
      unfold Q.lcL
      rw [if_pos k.ok, a1]
      simp only
      cases q2 : pt e1 with
      | bad => trivial
      | exc C z e' => trivial
      | ok b e2 =>
        rw [q2] at tt
        obtain ⟨b', h2, F2, f3, f4, b1, ⟨rfl, rfl⟩, x2, fr2, sm2⟩ := tt
        rw [b1]
        have fr2' : Fr h F ([n] ++ fp1) h2 F2 ([n] ++ f4) := fr2.hold srs
        have keep2 : h2[n]? = h[n]? := fr2.kept srs n (List.mem_singleton.mpr rfl)
        have st2 := fr2'.stab srs
        show match (if b' = true then (pe e2).no.bind fun y e3 => if accD.length < 16000000 then lcL c pt pe vs ds (accD ++ [y]) e3 else .bad else lcL c pt pe vs ds accD e2) with
          | .ok r e' => ∃ h' F' f2 accU', (if b' = true then (me env1 h2).no.bind fun y h2 => (match h2[n]? with
              | some (.lst acc) => if acc.length < 16000000 then Q.lcL ck (ctQ c) t me n env0 us (h2.set n (.lst (acc ++ [y]))) else .bad
              | _ => .bad) else Q.lcL ck (ctQ c) t me n env0 us h2) = .ok (.ref n) h' ∧ h'[n]? = some (.lst accU') ∧ Dns cc h' F' accU' r ∧ Ev cc h' F' env0 (kill vs e') f2 ∧ Fr h F (n :: fp) h' F' (n :: f2) ∧ (q = true → ∀ k, k < h.length → k ≠ n → h'[k]? = h[k]?)
          | .exc _ _ _ => False
          | .bad => True
        have fr0 : Fr h F (n :: fp) h2 F2 (n :: f4) := by
          have z : Fr h F (n :: fp) h F (n :: fp1) := (Fr.refl sr).perm (p1.cons n) |>.sub ((List.sublist_append_right g1 fp1).cons₂ n)
          exact z.trans fr2'
        have x2' : ∀ {h3 F3 e3 f5}, Ev cc h3 F3 env1 e3 f5 → ∃ f6, Ev cc h3 F3 env0 (kill vs e3) f6 ∧ ∃ f7, f5.Perm (f7 ++ f6) := fun {h3 F3 e3 f5} x => by
          obtain ⟨f6, y6, f7, p7⟩ := x.kill vs
          exact ⟨f6, y6.swapK al.symm (fun i n => (a2 i (fun z => n (hc i z))).symm), f7, p7⟩
        cases b' with
        | false =>
          rw [if_neg (by decide)]
          obtain ⟨f6, y6, f7, p7⟩ := x2' x2
          have srn : SR h2 F2 (n :: f6) := (fr2'.sr.perm (p7.cons n)).sub ((List.sublist_append_right f7 f6).cons₂ n)
          have ih := lc_go (accU := accU) (accD := accD) (ck := ck) (e := e2) ht he hc (r.mono st2) (k.mono st2) (keep2.trans hn) (ra.mono st2) y6 srn
          cases q3 : lcL c pt pe vs ds accD e2 with
          | bad => trivial
          | exc C z e' => rw [q3] at ih; exact ih.elim
          | ok rr e' =>
            rw [q3] at ih
            obtain ⟨h', F', g2, accU', c1, c2, c3, c4, c5, c6⟩ := ih
            rw [if_neg (by decide)]
            refine ⟨h', F', g2, accU', c1, c2, c3, c4, (fr0.perm (p7.cons n) |>.sub ((List.sublist_append_right f7 f6).cons₂ n)).trans c5, fun z k1 l1 n1 => ?_⟩
            rw [c6 z k1 (Nat.lt_of_lt_of_le l1 fr2.len) n1, sm2 z k1 l1]
        | true =>
          rw [if_pos rfl]
          have ee := he h2 F2 env1 e2 f4 x2 fr2'.sr.right
          cases q3 : pe e2 with
          | bad => trivial
          | exc C z e' => trivial
          | ok yv e3 =>
            rw [q3] at ee
            obtain ⟨uv, h3, F3, f5, f8, d1, ⟨rfl, d2⟩, x3, fr3, sm3⟩ := ee
            have fr3' : Fr h2 F2 ([n] ++ f4) h3 F3 ([n] ++ f8) := fr3.hold fr2'.sr
            have keep3 : h3[n]? = h2[n]? := fr3.kept fr2'.sr n (List.mem_singleton.mpr rfl)
            have st3 := fr3'.stab fr2'.sr
            have hn3 : h3[n]? = some (.lst accU) := (keep3.trans keep2).trans hn
            show match (if accD.length < 16000000 then lcL c pt pe vs ds (accD ++ [yv]) e3 else .bad) with
              | .ok r e' => _
              | .exc _ _ _ => False
              | .bad => True
            by_cases hz : accD.length < 16000000
            case neg => rw [if_neg hz]; trivial
            rw [if_pos hz]
            have hl : n < h3.length := (List.getElem?_eq_some_iff.mp hn3).1
            have sr3 : SR h3 F3 ([n] ++ f8) := fr3'.sr
            have frs : Fr h3 F3 ([n] ++ f8) (h3.set n (.lst (accU ++ [uv]))) F3 ([n] ++ f8) := Fr.set sr3 (List.mem_append_left _ (List.mem_singleton.mpr rfl)) _
            have sts := frs.stab sr3
            obtain ⟨f6, y6, f7, p7⟩ := x2' (x3.mono sts (Keep.set _ (fun m => (List.nodup_append.mp sr3.nd).2.2 n (List.mem_singleton.mpr rfl) n m rfl)))
            have srn : SR (h3.set n (.lst (accU ++ [uv]))) F3 (n :: f6) := (frs.sr.perm (p7.cons n)).sub ((List.sublist_append_right f7 f6).cons₂ n)
            have sta := (st2.trans st3).trans sts
            have ih := lc_go (accU := accU ++ [uv]) (accD := accD ++ [yv]) (ck := ck) (e := e3) ht he hc (r.mono sta) (k.mono sta) (List.getElem?_set_self hl) ((ra.mono sta).app (.cons (d2.mono sts) .nil)) y6 srn
            cases q4 : lcL c pt pe vs ds (accD ++ [yv]) e3 with
            | bad => trivial
            | exc C z e' => rw [q4] at ih; exact ih.elim
            | ok rr e' =>
              rw [q4] at ih
              obtain ⟨h', F', g2, accU', c1, c2, c3, c4, c5, c6⟩ := ih
              refine ⟨h', F', g2, accU', ?_, c2, c3, c4, (((fr0.trans fr3').trans frs).perm (p7.cons n) |>.sub ((List.sublist_append_right f7 f6).cons₂ n)).trans c5, fun z k1 l1 n1 => ?_⟩
              · rw [if_pos rfl, d1]
                show (match h3[n]? with
                  | some (.lst acc) => if acc.length < 16000000 then Q.lcL ck (ctQ c) t me n env0 us (h3.set n (.lst (acc ++ [uv]))) else .bad
                  | _ => .bad) = _
                rw [hn3]
                simp only
                rw [if_pos (by rw [ra.len]; exact hz)]
                exact c1
              · have l2 : k1 < h2.length := Nat.lt_of_lt_of_le l1 fr2.len
                have l3 : k1 < h3.length := Nat.lt_of_lt_of_le l2 fr3.len
                rw [c6 z k1 (by simpa using l3) n1, List.getElem?_set_ne (Ne.symm n1), sm3 z k1 l2, sm2 z k1 l1]
end
end P

set_option Elab.async false
set_option linter.all false
set_option maxRecDepth 100000
set_option maxHeartbeats 1000000
/-! PS9: comprehensions, statements. -/
namespace P
open Q (U O Sto Env' R RS EM TM AM SM Sem')
section
variable {cc : Nat → Nat} {h h' h1 h2 : Sto} {F F' F1 F2 : Nat → Prop} {u v : U} {d : D} {us : List U} {ds : List D} {t : T} {ts : List T} {f f1 f2 fp fp' fp1 fp2 : List Nat} {env env' : Env'} {e e' : Env} {i : Nat} {q s s1 s2 : Bool}
  {α β γ δ : Type}
theorem lt_of_all {vs : List Nat} {n : Nat} (hv : vs.all (· < n) = true) : ∀ i ∈ vs, i < n := fun i m => by simpa using List.all_eq_true.mp hv i m
/-- slots of a def: N of them -/
def SimN (cc : Nat → Nat) {α β : Type} (N : Nat) (q : Bool) (Rel : Sto → (Nat → Prop) → α → β → List Nat → Prop) (m : Env' → Sto → R α) (p : Env → PR β) : Prop :=
  ∀ h F env e fp, env.length = N → Ev cc h F env e fp → SR h F fp → Out cc q Rel h F fp env (m env h) (p e)
theorem Sim.n {Rel : Sto → (Nat → Prop) → α → β → List Nat → Prop} {m : Env' → Sto → R α} {p : Env → PR β} {N : Nat} (a : Sim cc q Rel m p) : SimN cc N q Rel m p := fun h F env e fp _ x sr => a h F env e fp x sr
theorem sim_lc {mi : Q.IM'} {pi : PDs} {c : CT} {t : TM} {me : EM} {pt : PB} {pe : PE} {vs : List Nat} (hi : Sim cc q (RI cc) mi pi) (ht : Sim cc q RE t pt) (he : Sim cc q (RD cc) me pe) (hc : ∀ i ∈ c.ix, i ∈ vs) : Sim cc q (RT cc) (Q.mLc mi (ctQ c) t me vs) (pLc pi c pt pe vs) := fun h F env e fp x sr =>
  Out.bind0 sr (hi h F env e fp x sr) (fun z ds h1 F1 e1 f2 r1 x1 sr1 st sm => by
    obtain ⟨ck, us⟩ := z
    obtain ⟨_, r, kf⟩ := r1
    show Out cc q (RT cc) h1 F1 f2 env (Q.lcL ck (ctQ c) t me h1.length (Q.wipeE env vs) us (h1 ++ [.lst []])) ((lcL c pt pe vs ds [] e1).bind fun r e2 => .ok (.ls r) (kill vs e2))
    have sta := Stab.app sr1 [O.lst []]
    obtain ⟨f6, y6, f7, p7⟩ := (x1.mono sta (Keep.app sr1 _)).kill vs
    have y7 := y6.swapK (wipe_len vs env) (fun i n => wipe_get vs env i n)
    have fra := Fr.app sr1 (O.lst [])
    have frs : Fr h1 F1 f2 (h1 ++ [.lst []]) F1 (h1.length :: f6) := (fra.perm (p7.cons _)).sub ((List.sublist_append_right f7 f6).cons₂ _)
    have go := lc_go (c := c) (vs := vs) (n := h1.length) (env0 := Q.wipeE env vs) (accU := []) (accD := []) (e := e1) (q := q) ht he hc (r.mono sta) (ChkF.mono kf sta) (by rw [List.getElem?_append_right (Nat.le_refl _), Nat.sub_self]; rfl) .nil y7 frs.sr
    cases q1 : lcL c pt pe vs ds [] e1 with
    | bad => trivial
    | exc C z e' => rw [q1] at go; exact go.elim
    | ok rr e' =>
      rw [q1] at go
      obtain ⟨h', F', g2, accU', c1, c2, c3, c4, c5, c6⟩ := go
      refine ⟨_, h', F', [h1.length], g2, c1, .ls c2 c3, c4.swapK (wipe_len vs env).symm (fun i n => (wipe_get vs env i n).symm), frs.trans c5, fun z k l => ?_⟩
      rw [c6 z k (by simp; omega) (by omega), List.getElem?_append_left l]) ri_nil
theorem Ows.app : ∀ {us : List U} {ts : List T} {vs : List U} {rs : List T} {f1 f2 : List Nat}, Ows cc h F us ts f1 → Ows cc h F vs rs f2 → Ows cc h F (us ++ vs) (ts ++ rs) (f1 ++ f2)
  | _, _, _, _, _, _, .nil, y => y
  | _, _, _, _, _, f2, .cons (f1 := g1) (f2 := g2) x r, y => by rw [List.append_assoc]; exact .cons x (Ows.app r y)
theorem Ow.one {f : List Nat} (x : Ow cc h F u t f) : Ows cc h F [u] [t] f := by
  have := Ows.cons x (.nil (cc := cc) (h := h) (F := F))
  rwa [List.append_nil] at this
theorem lcT_go {c : CT} {me : EM} {pe : PT} {vs : List Nat} {n : Nat} {env0 : Env'} (he : Sim cc q (RT cc) me pe) (hc : ∀ i ∈ c.ix, i ∈ vs) :
    ∀ {us : List U} {ds : List D} {accU : List U} {accT : List T} {fa : List Nat} {ck : Q.Chk} {h : Sto} {F : Nat → Prop} {e : Env} {fp : List Nat}, Dns cc h F us ds → ChkF h F ck → h[n]? = some (.lst accU) → Ows cc h F accU accT fa → Ev cc h F env0 (kill vs e) fp → SR h F ((n :: fa) ++ fp) →
      match lcT c pe vs ds accT e with
      | .ok r e' => ∃ h' F' f2 fa' accU', Q.lcL ck (ctQ c) Q.bYes me n env0 us h = .ok (.ref n) h' ∧ h'[n]? = some (.lst accU') ∧ Ows cc h' F' accU' r fa' ∧ Ev cc h' F' env0 (kill vs e') f2 ∧ Fr h F ((n :: fa) ++ fp) h' F' ((n :: fa') ++ f2) ∧ (q = true → ∀ k, k < h.length → k ≠ n → h'[k]? = h[k]?)
      | .exc _ _ _ => False
      | .bad => True
  | _, _, accU, accT, fa, ck, h, F, e, fp, .nil, k, hn, ra, x, sr => by
    unfold lcT Q.lcL
    rw [if_pos k.ok]
    exact ⟨h, F, fp, fa, accU, rfl, hn, ra, x, Fr.refl sr, fun _ _ _ _ => rfl⟩
  | _, _, accU, accT, fa, ck, h, F, e, fp, .cons (us := us) (ds := ds) (u := u) (d := d) y r, k, hn, ra, x, sr => by
    unfold lcT
    cases q1 : c.asg d (kill vs e) with
    | none => trivial
    | some e1 =>
      obtain ⟨env1, a1, al, a2, fp1, x1, g1, p1⟩ := ct_asg x y q1
      have srs : SR h F ((n :: fa) ++ fp1) := (sr.perm (p1.append_left (n :: fa))).sub ((List.sublist_append_right g1 fp1).append_left (n :: fa))
      have fr1 : Fr h F ((n :: fa) ++ fp) h F ((n :: fa) ++ fp1) := ((Fr.refl sr).perm (p1.append_left (n :: fa))).sub ((List.sublist_append_right g1 fp1).append_left (n :: fa))
      have ee := he h F env1 e1 fp1 x1 srs.right
      unfold Q.lcL
      rw [if_pos k.ok, a1]
      simp only [Q.e_yes, Q.e_no_ok, Q.e_bind_ok, if_true]
      have x2' : ∀ {h3 F3 e3 f5}, Ev cc h3 F3 env1 e3 f5 → ∃ f6, Ev cc h3 F3 env0 (kill vs e3) f6 ∧ ∃ f7, f5.Perm (f7 ++ f6) := fun {h3 F3 e3 f5} x => by
        obtain ⟨f6, y6, f7, p7⟩ := x.kill vs
        exact ⟨f6, y6.swapK al.symm (fun i n => (a2 i (fun z => n (hc i z))).symm), f7, p7⟩
      cases q3 : pe e1 with
      | bad => trivial
      | exc C z e' => trivial
      | ok yv e3 =>
        rw [q3] at ee
        obtain ⟨uv, h3, F3, f5, f8, d1, d2, x3, fr3, sm3⟩ := ee
        have fr3' : Fr h F ((n :: fa) ++ fp1) h3 F3 ((n :: fa) ++ (f5 ++ f8)) := fr3.hold srs
        have kp := fr3.kept srs
        have st3 := fr3'.stab srs
        have hn3 : h3[n]? = some (.lst accU) := (kp n List.mem_cons_self).trans hn
        show match (if accT.length < 16000000 then lcT c pe vs ds (accT ++ [yv]) e3 else .bad) with
          | .ok r e' => _
          | .exc _ _ _ => False
          | .bad => True
        by_cases hz : accT.length < 16000000
        case neg => rw [if_neg hz]; trivial
        rw [if_pos hz]
        have hl : n < h3.length := (List.getElem?_eq_some_iff.mp hn3).1
        have sr3 : SR h3 F3 ((n :: fa) ++ (f5 ++ f8)) := fr3'.sr
        have frs : Fr h3 F3 ((n :: fa) ++ (f5 ++ f8)) (h3.set n (.lst (accU ++ [uv]))) F3 ((n :: fa) ++ (f5 ++ f8)) := Fr.set sr3 (List.mem_append_left _ List.mem_cons_self) _
        have sts := frs.stab sr3
        have nn : n ∉ fa ∧ n ∉ f5 ∧ n ∉ f8 := by
          have nd := sr3.nd
          simp only [List.cons_append, List.nodup_cons, List.mem_append, not_or] at nd
          exact nd.1
        obtain ⟨f6, y6, f7, p7⟩ := x2' (x3.mono sts (Keep.set _ nn.2.2))
        have acc' : Ows cc (h3.set n (.lst (accU ++ [uv]))) F3 (accU ++ [uv]) (accT ++ [yv]) (fa ++ f5) :=
          (Ows.mono (st3.trans sts) (fun m mm => by
            rw [List.getElem?_set_ne (by intro z; subst z; exact nn.1 mm)]
            exact kp m (List.mem_cons_of_mem _ mm)) ra).app (Ow.one (Ow.mono sts (Keep.set _ nn.2.1) d2))
        have pp : ((n :: fa) ++ (f5 ++ f8)).Perm (f7 ++ ((n :: (fa ++ f5)) ++ f6)) := by
          have e1 : (n :: fa) ++ (f5 ++ f8) = (n :: (fa ++ f5)) ++ f8 := by simp
          rw [e1]
          exact (p7.append_left _).trans perm_mid
        have srn : SR (h3.set n (.lst (accU ++ [uv]))) F3 ((n :: (fa ++ f5)) ++ f6) := (frs.sr.perm pp).right
        have frn : Fr h F ((n :: fa) ++ fp) (h3.set n (.lst (accU ++ [uv]))) F3 ((n :: (fa ++ f5)) ++ f6) := (((fr1.trans fr3').trans frs).perm pp).sub (List.sublist_append_right _ _)
        have sta := st3.trans sts
        have ih := lcT_go (accU := accU ++ [uv]) (accT := accT ++ [yv]) (ck := ck) (e := e3) he hc (r.mono sta) (k.mono sta) (List.getElem?_set_self hl) acc' y6 srn
        cases q4 : lcT c pe vs ds (accT ++ [yv]) e3 with
        | bad => trivial
        | exc C z e' => rw [q4] at ih; exact ih.elim
        | ok rr e' =>
          rw [q4] at ih
          obtain ⟨h', F', g2, fa', accU', c1, c2, c3, c4, c5, c6⟩ := ih
          refine ⟨h', F', g2, fa', accU', ?_, c2, c3, c4, frn.trans c5, fun z k1 l1 n1 => ?_⟩
          · rw [d1]
            show (match h3[n]? with
              | some (.lst acc) => if acc.length < 16000000 then Q.lcL ck (ctQ c) Q.bYes me n env0 us (h3.set n (.lst (acc ++ [uv]))) else .bad
              | _ => .bad) = _
            rw [hn3]
            simp only
            rw [if_pos (by rw [Ows.len ra]; exact hz)]
            exact c1
          · have l3 : k1 < h3.length := Nat.lt_of_lt_of_le l1 fr3.len
            rw [c6 z k1 (by simpa using l3) n1, List.getElem?_set_ne (Ne.symm n1), sm3 z k1 l1]
theorem sim_lcT {mi : Q.IM'} {pi : PDs} {c : CT} {me : EM} {pe : PT} {vs : List Nat} (hi : Sim cc q (RI cc) mi pi) (he : Sim cc q (RT cc) me pe) (hc : ∀ i ∈ c.ix, i ∈ vs) : Sim cc q (RT cc) (Q.mLc mi (ctQ c) Q.bYes me vs) (pLcT pi c pe vs) := fun h F env e fp x sr =>
  Out.bind0 sr (hi h F env e fp x sr) (fun z ds h1 F1 e1 f2 r1 x1 sr1 st sm => by
    obtain ⟨ck, us⟩ := z
    obtain ⟨_, r, kf⟩ := r1
    show Out cc q (RT cc) h1 F1 f2 env (Q.lcL ck (ctQ c) Q.bYes me h1.length (Q.wipeE env vs) us (h1 ++ [.lst []])) ((lcT c pe vs ds [] e1).bind fun r e2 => .ok (.lT r) (kill vs e2))
    have sta := Stab.app sr1 [O.lst []]
    obtain ⟨f6, y6, f7, p7⟩ := (x1.mono sta (Keep.app sr1 _)).kill vs
    have y7 := y6.swapK (wipe_len vs env) (fun i n => wipe_get vs env i n)
    have fra := Fr.app sr1 (O.lst [])
    have frs : Fr h1 F1 f2 (h1 ++ [.lst []]) F1 ((h1.length :: []) ++ f6) := (fra.perm (p7.cons _)).sub ((List.sublist_append_right f7 f6).cons₂ _)
    have go := lcT_go (c := c) (vs := vs) (n := h1.length) (env0 := Q.wipeE env vs) (accU := []) (accT := []) (fa := []) (e := e1) (q := q) he hc (r.mono sta) (ChkF.mono kf sta) (by rw [List.getElem?_append_right (Nat.le_refl _), Nat.sub_self]; rfl) .nil y7 frs.sr
    cases q1 : lcT c pe vs ds [] e1 with
    | bad => trivial
    | exc C z e' => rw [q1] at go; exact go.elim
    | ok rr e' =>
      rw [q1] at go
      obtain ⟨h', F', g2, fa', accU', c1, c2, c3, c4, c5, c6⟩ := go
      refine ⟨_, h', F', h1.length :: fa', g2, c1, .lT c2 c3, c4.swapK (wipe_len vs env).symm (fun i n => (wipe_get vs env i n).symm), frs.trans c5, fun z k l => ?_⟩
      rw [c6 z k (by simp; omega) (by omega), List.getElem?_append_left l]) ri_nil
/-! ### statements -/
/-- the slots that the mask keeps hold what they held -/
def Kp (m : List Bool) (env env' : Env') : Prop := pick m env' = pick m env
def OutS (cc : Nat → Nat) (m : List Bool) (h : Sto) (F : Nat → Prop) (fp : List Nat) (env : Env') (r : RS) (s : PRS) : Prop := match s with
  | .nx e' => ∃ env' h' F' f2, r = .nx env' h' ∧ Ev cc h' F' env' e' f2 ∧ Fr h F fp h' F' f2 ∧ Kp m env env'
  | .bk e' => ∃ env' h' F' f2, r = .bk env' h' ∧ Ev cc h' F' env' e' f2 ∧ Fr h F fp h' F' f2 ∧ Kp m env env'
  | .ct e' => ∃ env' h' F' f2, r = .ct env' h' ∧ Ev cc h' F' env' e' f2 ∧ Fr h F fp h' F' f2 ∧ Kp m env env'
  | .rt t e' => ∃ u env' h' F' f1 f2, r = .rt u h' ∧ Ow cc h' F' u t f1 ∧ Ev cc h' F' env' e' f2 ∧ Fr h F fp h' F' (f1 ++ f2) ∧ Kp m env env'
  | .ex C x e' => ∃ n env' h' F' f2, r = .ex (cc C) n env' h' ∧ Ev cc h' F' env' e' f2 ∧ Fr h F fp h' F' f2 ∧ Xd cc h' F' n x ∧ Kp m env env'
  | .bad => True
def SimS (cc : Nat → Nat) (m : List Bool) (ms : SM) (p : PS) : Prop := ∀ h F env e fp, Ev cc h F env e fp → SR h F fp → OutS cc m h F fp env (ms env h) (p e)
theorem OutS.trans {mk : List Bool} {r : RS} {s : PRS} (fr : Fr h F fp h1 F1 fp1) (k : Kp mk env env') (o : OutS cc mk h1 F1 fp1 env' r s) : OutS cc mk h F fp env r s := by
  cases s with
  | nx e' => obtain ⟨env2, h', F', f2, a, b, c, d⟩ := o; exact ⟨env2, h', F', f2, a, b, fr.trans c, d.trans k⟩
  | bk e' => obtain ⟨env2, h', F', f2, a, b, c, d⟩ := o; exact ⟨env2, h', F', f2, a, b, fr.trans c, d.trans k⟩
  | ct e' => obtain ⟨env2, h', F', f2, a, b, c, d⟩ := o; exact ⟨env2, h', F', f2, a, b, fr.trans c, d.trans k⟩
  | rt t e' => obtain ⟨u, env2, h', F', f1, f2, a, b, c, d, e⟩ := o; exact ⟨u, env2, h', F', f1, f2, a, b, c, fr.trans d, e.trans k⟩
  | ex C x e' => obtain ⟨n, env2, h', F', f2, a, b, c, d, e⟩ := o; exact ⟨n, env2, h', F', f2, a, b, fr.trans c, d, e.trans k⟩
  | bad => trivial
theorem Kp.refl {m : List Bool} (env : Env') : Kp m env env := rfl
theorem OutS.st {mk : List Bool} {R1 : Sto → (Nat → Prop) → α → β → List Nat → Prop} {r : R α} {s : PR β} {g : α → Sto → RS} {p : β → Env → PRS} (o : Out cc q R1 h F fp env r s)
    (k : ∀ a b h1 F1 e1 f1 f2, R1 h1 F1 a b f1 → Ev cc h1 F1 env e1 f2 → Fr h F fp h1 F1 (f1 ++ f2) → (q = true → Sm h h1) → OutS cc mk h1 F1 (f1 ++ f2) env (g a h1) (p b e1)) : OutS cc mk h F fp env (Q.R.st r env g) (s.st p) := by
  cases s with
  | bad => trivial
  | exc C x e' =>
    obtain ⟨n, h', F', f2, e1, a, b, c⟩ := o
    exact ⟨n, env, h', F', f2, by rw [e1]; rfl, a, b, c, Kp.refl env⟩
  | ok b e' =>
    obtain ⟨a, h1, F1, f1, f2, e1, r1, x1, fr, sm⟩ := o
    rw [e1]
    exact OutS.trans fr (Kp.refl env) (k a b h1 F1 e' f1 f2 r1 x1 fr sm)
theorem OutS.st0 {mk : List Bool} {R1 : Sto → (Nat → Prop) → α → β → List Nat → Prop} {r : R α} {s : PR β} {g : α → Sto → RS} {p : β → Env → PRS} (sr : SR h F fp) (o : Out cc q R1 h F fp env r s)
    (k : ∀ a b h1 F1 e1 f2, R1 h1 F1 a b [] → Ev cc h1 F1 env e1 f2 → SR h1 F1 f2 → Stab h F h1 F1 → (q = true → Sm h h1) → OutS cc mk h1 F1 f2 env (g a h1) (p b e1)) (n : ∀ a b h F f, R1 h F a b f → f = []) : OutS cc mk h F fp env (Q.R.st r env g) (s.st p) :=
  OutS.st o fun a b h1 F1 e1 f1 f2 r1 x1 fr sm => by
    have := n _ _ _ _ _ r1
    subst this
    exact k a b h1 F1 e1 f2 r1 x1 fr.sr (fr.stab sr) sm
variable {mk : List Bool}
theorem ss_nx : SimS cc mk Q.mNx sNx := fun h F env e fp x sr => ⟨env, h, F, fp, rfl, x, Fr.refl sr, Kp.refl env⟩
theorem ss_seq {m1 m2 : SM} {p1 p2 : PS} (a : SimS cc mk m1 p1) (b : SimS cc mk m2 p2) : SimS cc mk (Q.mSeq m1 m2) (sSeq p1 p2) := fun h F env e fp x sr => by
  have := a h F env e fp x sr
  unfold Q.mSeq sSeq
  cases q1 : p1 e with
  | nx e1 =>
    rw [q1] at this
    obtain ⟨env', h', F', f2, a1, a2, a3, a4⟩ := this
    rw [a1]
    exact OutS.trans a3 a4 (b h' F' env' e1 f2 a2 a3.sr)
  | rt t e1 => rw [q1] at this; obtain ⟨u, env2, h', F', f1, f2, a, r⟩ := this; rw [a]; exact ⟨u, env2, h', F', f1, f2, rfl, r⟩
  | bk e1 => rw [q1] at this; obtain ⟨env2, h', F', f2, a, r⟩ := this; rw [a]; exact ⟨env2, h', F', f2, rfl, r⟩
  | ct e1 => rw [q1] at this; obtain ⟨env2, h', F', f2, a, r⟩ := this; rw [a]; exact ⟨env2, h', F', f2, rfl, r⟩
  | ex C y e1 => rw [q1] at this; obtain ⟨n, env2, h', F', f2, a, r⟩ := this; rw [a]; exact ⟨n, env2, h', F', f2, rfl, r⟩
  | bad => trivial
theorem pick_set {α : Type} : ∀ {m : List Bool} {i : Nat} {l : List α} {x : α}, m.getD i false = false → pick m (l.set i x) = pick m l
  | [], i, l, x, _ => by simp [pick]
  | b :: m, i, [], x, _ => by simp
  | b :: m, 0, a :: l, x, q => by simp at q; subst q; simp [pick]
  | b :: m, i + 1, a :: l, x, q => by
    have := pick_set (m := m) (i := i) (l := l) (x := x) (by simpa using q)
    cases b <;> simp [pick, this]
theorem Kp.set {i : Nat} {o : Option U} (z : mk.getD i false = false) : Kp mk env (env.set i o) := pick_set z
theorem ss_asg {i : Nat} {m : EM} {p : PT} (a : Sim cc q (RT cc) m p) (z : mk.getD i false = false := by rfl) : SimS cc mk (Q.mAsg (.one i) m) (sAsg i p) := fun h F env e fp x sr =>
  OutS.st (a h F env e fp x sr) fun u t h1 F1 e1 f1 f2 r1 x1 fr sm => by
    obtain ⟨fp', ev, g, g1, g2, p1, p2, sub⟩ := x1.put i (some u) (show Os cc h1 F1 (some u) t f1 from r1)
    refine ⟨env.set i (some u), h1, F1, fp', rfl, ev, ?_, Kp.set z⟩
    have pp : (f1 ++ f2).Perm (g1 ++ (f1 ++ g2)) := (p1.append_left f1).trans perm_mid
    exact (((Fr.refl fr.sr).perm pp).sub ((sub.append_right g2).trans (List.sublist_append_right g1 _))).perm p2.symm
theorem ss_unp {c : CT} {m : EM} {p : PE} (a : Sim cc q (RD cc) m p) (z : (c.ix.all fun i => !mk.getD i false) = true := by rfl) : SimS cc mk (Q.mAsg (ctQ c) m) (sUnp c p) := fun h F env e fp x sr =>
  OutS.st0 sr (a h F env e fp x sr) (fun u d h1 F1 e1 f2 r1 x1 sr1 st sm => by
    cases q1 : c.asg d e1 with
    | none => trivial
    | some e2 =>
      obtain ⟨env1, a1, al, a2, fp1, x2, g1, p1⟩ := ct_asg x1 r1.2 q1
      refine ⟨env1, h1, F1, fp1, ?_, x2, ((Fr.refl sr1).perm p1).sub (List.sublist_append_right _ _), ?_⟩
      · show (match (ctQ c).asg u env h1 with | some e => RS.nx e h1 | none => .bad) = _
        rw [a1]
      · have : ∀ (m : List Bool) (l l' : Env') (off : Nat), l'.length = l.length → (∀ i, m.getD i false = true → l'[i]? = l[i]?) → pick m l' = pick m l := by
          intro m
          induction m with
          | nil => intro l l' _ _ _; simp [pick]
          | cons b m ih =>
            intro l l' off hl k
            cases l with
            | nil => have : l' = [] := List.length_eq_zero_iff.mp (by simpa using hl); subst this; rfl
            | cons x l =>
              cases l' with
              | nil => simp at hl
              | cons x' l' =>
                have := ih l l' off (by simpa using hl) fun i q => by simpa using k (i + 1) (by simpa using q)
                cases b with
                | false => simpa [pick] using this
                | true =>
                  have h0 : x' = x := by simpa using k 0 rfl
                  subst h0
                  simp [pick, this]
        refine this mk env env1 0 al fun i q => a2 i fun m => ?_
        have := List.all_eq_true.mp z i m
        rw [q] at this
        cases this) rd_nil
theorem ss_ret {m : EM} {p : PT} (a : Sim cc q (RT cc) m p) : SimS cc mk (Q.mRet m) (sRet p) := fun h F env e fp x sr =>
  OutS.st (a h F env e fp x sr) fun u t h1 F1 e1 f1 f2 r1 x1 fr sm => ⟨u, env, h1, F1, f1, f2, rfl, r1, x1, Fr.refl fr.sr, Kp.refl env⟩
theorem ss_retN : SimS cc mk Q.mRetN sRetN := fun h F env e fp x sr => ⟨.non, env, h, F, [], fp, rfl, .leaf .non, x, Fr.refl sr, Kp.refl env⟩
theorem ss_drop {m : EM} {p : PT} (a : Sim cc q (RT cc) m p) : SimS cc mk (Q.mDrop m) (sDrop p) := fun h F env e fp x sr =>
  OutS.st (a h F env e fp x sr) fun u t h1 F1 e1 f1 f2 r1 x1 fr sm => ⟨env, h1, F1, f2, rfl, x1, (Fr.refl fr.sr).sub (List.sublist_append_right _ _), Kp.refl env⟩
theorem ss_if {t : TM} {pt : PB} {m1 m2 : SM} {p1 p2 : PS} (c : Sim cc q RE t pt) (a : SimS cc mk m1 p1) (b : SimS cc mk m2 p2) : SimS cc mk (Q.mIfS t m1 m2) (sIf pt p1 p2) := fun h F env e fp x sr =>
  OutS.st0 sr (c h F env e fp x sr) (fun u d h1 F1 e1 f2 r1 x1 sr1 st sm => by
    obtain ⟨_, rfl⟩ := r1
    cases u with
    | true => exact a _ _ _ _ _ x1 sr1
    | false => exact b _ _ _ _ _ x1 sr1) re_nil
theorem ss_brk : SimS cc mk Q.mBrk sBrk := fun h F env e fp x sr => ⟨env, h, F, fp, rfl, x, Fr.refl sr, Kp.refl env⟩
theorem ss_cnt : SimS cc mk Q.mCnt sCnt := fun h F env e fp x sr => ⟨env, h, F, fp, rfl, x, Fr.refl sr, Kp.refl env⟩
end
end P

set_option Elab.async false
set_option linter.all false
set_option maxRecDepth 100000
set_option maxHeartbeats 1000000
/-! PS10: loops, stores, exceptions. -/
namespace P
open Q (U O Sto Env' R RS EM TM AM SM Sem')
section
variable {cc : Nat → Nat} {h h' h1 h2 : Sto} {F F' F1 F2 : Nat → Prop} {u v : U} {d : D} {us : List U} {ds : List D} {t : T} {ts : List T} {f f1 f2 fp fp' fp1 fp2 : List Nat} {env env' : Env'} {e e' : Env} {i : Nat} {q s s1 s2 : Bool}
  {α β γ δ : Type} {mk : List Bool}
theorem kp_off {m : List Bool} : ∀ {l l' : Env'}, l'.length = l.length → (∀ i, m.getD i false = true → l'[i]? = l[i]?) → pick m l' = pick m l := by
  induction m with
  | nil => intro l l' _ _; simp [pick]
  | cons b m ih =>
    intro l l' hl k
    cases l with
    | nil => have : l' = [] := List.length_eq_zero_iff.mp (by simpa using hl); subst this; rfl
    | cons x l =>
      cases l' with
      | nil => simp at hl
      | cons x' l' =>
        have := ih (l := l) (l' := l') (by simpa using hl) fun i q => by simpa using k (i + 1) (by simpa using q)
        cases b with
        | false => simpa [pick] using this
        | true =>
          have h0 : x' = x := by simpa using k 0 rfl
          subst h0
          simp [pick, this]
theorem kp_asg {c : CT} {env1 : Env'} (z : (c.ix.all fun i => !mk.getD i false) = true) (al : env1.length = env.length) (a2 : ∀ i, i ∉ c.ix → env1[i]? = env[i]?) : Kp mk env env1 :=
  kp_off al fun i q => a2 i fun m => by
    have := List.all_eq_true.mp z i m
    rw [q] at this
    cases this
theorem for_go {c : CT} {mb : SM} {pb : PS} {K : List Nat} {ck : Q.Chk} (hb : SimS cc mk mb pb) (z : (c.ix.all fun i => !mk.getD i false) = true) :
    ∀ {us : List U} {ds : List D} {h : Sto} {F : Nat → Prop} {env : Env'} {e : Env} {fp : List Nat}, Dns cc h F us ds → ChkF h F ck → Ev cc h F env e fp → SR h F fp → OutS cc mk h F fp env (Q.forL ck (ctQ c) mb us env h) (forL K c pb ds e)
  | _, _, h, F, env, e, fp, .nil, k, x, sr => by
    unfold Q.forL forL
    rw [if_pos k.ok]
    obtain ⟨fp1, x1, f1, p1⟩ := x.kill K
    exact ⟨env, h, F, fp1, rfl, x1, ((Fr.refl sr).perm p1).sub (List.sublist_append_right _ _), Kp.refl env⟩
  | _, _, h, F, env, e, fp, .cons (us := us) (ds := ds) (u := u) (d := d) y r, k, x, sr => by
    obtain ⟨fp1, x1, f1, p1⟩ := x.kill K
    have fr1 : Fr h F fp h F fp1 := ((Fr.refl sr).perm p1).sub (List.sublist_append_right _ _)
    unfold forL
    cases q1 : c.asg d (kill K e) with
    | none => trivial
    | some e1 =>
      obtain ⟨env1, a1, al, a2, fp2, x2, g1, p2⟩ := ct_asg x1 y q1
      have fr2 : Fr h F fp h F fp2 := (fr1.perm p2).sub (List.sublist_append_right _ _)
      have kp := kp_asg (mk := mk) z al a2
      unfold Q.forL
      rw [if_pos k.ok, a1]
      simp only
      have bb := hb h F env1 e1 fp2 x2 fr2.sr
      cases q2 : pb e1 with
      | bad => trivial
      | nx e2 =>
        rw [q2] at bb
        obtain ⟨env2, h2, F2, f2, b1, b2, b3, b4⟩ := bb
        rw [b1]
        exact OutS.trans (fr2.trans b3) (b4.trans kp) (for_go hb z (r.mono (b3.stab fr2.sr)) (k.mono (b3.stab fr2.sr)) b2 b3.sr)
      | ct e2 =>
        rw [q2] at bb
        obtain ⟨env2, h2, F2, f2, b1, b2, b3, b4⟩ := bb
        rw [b1]
        exact OutS.trans (fr2.trans b3) (b4.trans kp) (for_go hb z (r.mono (b3.stab fr2.sr)) (k.mono (b3.stab fr2.sr)) b2 b3.sr)
      | bk e2 =>
        rw [q2] at bb
        obtain ⟨env2, h2, F2, f2, b1, b2, b3, b4⟩ := bb
        rw [b1]
        obtain ⟨fp3, x3, f3, p3⟩ := b2.kill K
        exact ⟨env2, h2, F2, fp3, rfl, x3, ((fr2.trans b3).perm p3).sub (List.sublist_append_right _ _), b4.trans kp⟩
      | rt t e2 =>
        rw [q2] at bb
        obtain ⟨u, env2, h2, F2, f1, f2, b1, b2, b3, b4, b5⟩ := bb
        rw [b1]
        exact ⟨u, env2, h2, F2, f1, f2, rfl, b2, b3, fr2.trans b4, b5.trans kp⟩
      | ex C y e2 =>
        rw [q2] at bb
        obtain ⟨n, env2, h2, F2, f2, b1, b2, b3, b4, b5⟩ := bb
        rw [b1]
        exact ⟨n, env2, h2, F2, f2, rfl, b2, fr2.trans b3, b4, b5.trans kp⟩
theorem ss_for {K : List Nat} {c : CT} {mi : Q.IM'} {pi : PDs} {mb : SM} {pb : PS} (hi : Sim cc q (RI cc) mi pi) (hb : SimS cc mk mb pb) (z : (c.ix.all fun i => !mk.getD i false) = true := by rfl) : SimS cc mk (Q.mFor mi (ctQ c) mb) (sFor K pi c pb) := fun h F env e fp x sr =>
  OutS.st0 sr (hi h F env e fp x sr) (fun a ds h1 F1 e1 f2 r1 x1 sr1 st sm => for_go hb z r1.2.1 r1.2.2 x1 sr1) ri_nil
theorem wh_go {K : List Nat} {t : TM} {pt : PB} {mb : SM} {pb : PS} (ht : Sim cc q RE t pt) (hb : SimS cc mk mb pb) : ∀ (n : Nat) {h : Sto} {F : Nat → Prop} {env : Env'} {e : Env} {fp : List Nat}, Ev cc h F env e fp → SR h F fp → OutS cc mk h F fp env (Q.whL t mb n env h) (whL K pt pb n e)
  | 0, _, _, _, _, _, _, _ => trivial
  | n + 1, h, F, env, e, fp, x, sr => by
    obtain ⟨fp1, x1, f1, p1⟩ := x.kill K
    have fr1 : Fr h F fp h F fp1 := ((Fr.refl sr).perm p1).sub (List.sublist_append_right _ _)
    refine OutS.trans fr1 (Kp.refl env) ?_
    unfold Q.whL whL
    refine OutS.st0 fr1.sr (ht h F env _ fp1 x1 fr1.sr) (fun a b h1 F1 e1 f2 r1 x1 sr1 st sm => ?_) re_nil
    obtain ⟨_, rfl⟩ := r1
    cases a with
    | false => rw [if_neg (by decide), if_neg (by decide)]; exact ⟨env, h1, F1, f2, rfl, x1, Fr.refl sr1, Kp.refl env⟩
    | true =>
      rw [if_pos rfl, if_pos rfl]
      have bb := hb h1 F1 env e1 f2 x1 sr1
      cases q2 : pb e1 with
      | bad => trivial
      | nx e2 =>
        rw [q2] at bb
        obtain ⟨env2, h2, F2, f2, b1, b2, b3, b4⟩ := bb
        rw [b1]
        exact OutS.trans b3 b4 (wh_go ht hb n b2 b3.sr)
      | ct e2 =>
        rw [q2] at bb
        obtain ⟨env2, h2, F2, f2, b1, b2, b3, b4⟩ := bb
        rw [b1]
        exact OutS.trans b3 b4 (wh_go ht hb n b2 b3.sr)
      | bk e2 =>
        rw [q2] at bb
        obtain ⟨env2, h2, F2, f2, b1, b2, b3, b4⟩ := bb
        rw [b1]
        obtain ⟨fp3, x3, f3, p3⟩ := b2.kill K
        exact ⟨env2, h2, F2, fp3, rfl, x3, (b3.perm p3).sub (List.sublist_append_right _ _), b4⟩
      | rt t e2 =>
        rw [q2] at bb
        obtain ⟨u, env2, h2, F2, f1, f2, b1, r⟩ := bb
        rw [b1]
        exact ⟨u, env2, h2, F2, f1, f2, rfl, r⟩
      | ex C y e2 =>
        rw [q2] at bb
        obtain ⟨n, env2, h2, F2, f2, b1, r⟩ := bb
        rw [b1]
        exact ⟨n, env2, h2, F2, f2, rfl, r⟩
theorem ss_while {K : List Nat} {n : Nat} {t : TM} {pt : PB} {mb : SM} {pb : PS} (ht : Sim cc q RE t pt) (hb : SimS cc mk mb pb) : SimS cc mk (Q.mWhile n t mb) (sWhile K n pt pb) := fun h F env e fp x sr => wh_go ht hb n x sr
theorem ss_raise {C : Nat} : SimS cc mk (Q.mRaise (cc C)) (sRaise C) := fun h F env e fp x sr => ⟨none, env, h, F, fp, rfl, x, Fr.refl sr, trivial, Kp.refl env⟩
theorem OutS.no {r : RS} {s : PRS} (o : OutS cc mk h F fp env r s) : OutS cc mk h F fp env (Q.RS.no r) s.no := by
  cases s with
  | nx e' => obtain ⟨env2, h', F', f2, a, b⟩ := o; rw [a]; exact ⟨env2, h', F', f2, rfl, b⟩
  | bk e' => obtain ⟨env2, h', F', f2, a, b⟩ := o; rw [a]; exact ⟨env2, h', F', f2, rfl, b⟩
  | ct e' => obtain ⟨env2, h', F', f2, a, b⟩ := o; rw [a]; exact ⟨env2, h', F', f2, rfl, b⟩
  | rt t e' => obtain ⟨u, env2, h', F', f1, f2, a, b⟩ := o; rw [a]; exact ⟨u, env2, h', F', f1, f2, rfl, b⟩
  | ex C x e' => trivial
  | bad => trivial
theorem ss_try {ys : List Nat} {mb ms : SM} {pb ps : PS} (a : SimS cc mk mb pb) (b : SimS cc mk ms ps) : SimS cc mk (Q.mTry (ys.map cc) mb ms) (sTry ys pb ps) := fun h F env e fp x sr => by
  have bb := a h F env e fp x sr
  unfold Q.mTry sTry
  cases q1 : pb e with
  | ex C y e1 =>
    rw [q1] at bb
    obtain ⟨n, env2, h2, F2, f2, b1, b2, b3, b4, b5⟩ := bb
    simp only [b1]
    by_cases z : C ∈ ys
    · rw [if_pos z, if_pos (List.mem_map_of_mem (f := cc) z)]
      exact OutS.trans b3 b5 (OutS.no (b h2 F2 env2 e1 f2 b2 b3.sr))
    · rw [if_neg z]; trivial
  | nx e1 => rw [q1] at bb; obtain ⟨env2, h', F', f2, a, r⟩ := bb; rw [a]; exact ⟨env2, h', F', f2, rfl, r⟩
  | bk e1 => rw [q1] at bb; obtain ⟨env2, h', F', f2, a, r⟩ := bb; rw [a]; exact ⟨env2, h', F', f2, rfl, r⟩
  | ct e1 => rw [q1] at bb; obtain ⟨env2, h', F', f2, a, r⟩ := bb; rw [a]; exact ⟨env2, h', F', f2, rfl, r⟩
  | rt t e1 => rw [q1] at bb; obtain ⟨u, env2, h', F', f1, f2, a, r⟩ := bb; rw [a]; exact ⟨u, env2, h', F', f1, f2, rfl, r⟩
  | bad => trivial
/-! stores -/
theorem OutS.stP {m : EM} {p : Pth} {g : U → Sto → RS} {k : List Ac → Env → PRS} (a : SimP cc m p) (x : Ev cc h F env e fp) (sr : SR h F fp)
    (z : ∀ u r h1 F1 e1 f2, (∃ o, env[p.root]? = some (some o) ∧ atU h1 o r = some u) → (p.isVar = true → r = []) → Ev cc h1 F1 env e1 f2 → SR h1 F1 f2 → Stab h F h1 F1 → OutS cc mk h1 F1 f2 env (g u h1) (k r e1)) : OutS cc mk h F fp env (Q.R.st (m env h) env g) ((p.ev e).st k) :=
  OutS.st0 sr (a h F env e fp x sr) (fun u r h1 F1 e1 f2 r1 x1 sr1 st sm => z u r h1 F1 e1 f2 r1.2.1 r1.2.2 x1 sr1 st) rp_nil
/-- a place changes, in a statement -/
theorem outS_set {i : Nat} {r : List Ac} {t' : T} {n : Nat} {ob : O} {g1 g2 : List Nat} (sr : SR h F fp) (c4 : fp.Perm (g1 ++ g2)) (n1 : n ∈ g1)
    (c5 : ∀ h' F' s' f1', Stab h F h' F' → Keep g2 h h' → Ow cc h' F' u s' f1' → ∃ fp', Ev cc h' F' env (setP i r s' e) fp' ∧ fp'.Perm (f1' ++ g2)) {g3 : List Nat} (n2 : Ow cc (h.set n ob) F u t' g3) (g3s : g3.Sublist g1) : OutS cc mk h F fp env (.nx env (h.set n ob)) (.nx (setP i r t' e)) := by
  have sr' := sr.perm c4
  have n4 : n ∉ g2 := fun m => (List.nodup_append.mp sr'.nd).2.2 n n1 n m rfl
  obtain ⟨fp', d1, d2⟩ := c5 (h.set n ob) F t' g3 (Stab.set sr' (List.mem_append_left _ n1) ob) (Keep.set ob n4) n2
  exact ⟨env, _, F, fp', rfl, d1, (((Fr.set sr' (List.mem_append_left _ n1) ob).sub (g3s.append_right g2)).perm d2.symm).permL c4.symm, Kp.refl env⟩
theorem ss_setI {m mi me : EM} {p : Pth} {pi pa : PE} (ap : SimP cc m p) (b : Sim cc q (RD cc) mi pi) (a : Sim cc s (RD cc) me pa) (z : p.isVar = true ∨ q = true) : SimS cc mk (Q.mSetI Q.uSetL m mi me) (sSetI p pi pa) := fun h F env e fp x sr =>
  OutS.st0 sr (a h F env e fp x sr) (fun ud d h1 F1 e1 f1 r1 x1 sr1 st1 sm1 => OutS.stP ap x1 sr1 fun u r h2 F2 e2 f2 ⟨o, b1, b2⟩ b3 x2 sr2 st2 =>
    OutS.st0 sr2 (path_later b2 b3 z (b h2 F2 env e2 f2 x2 sr2)) (fun ui di h3 F3 e3 f3 r3 x3 sr3 st3 sm3 => by
      obtain ⟨⟨_, r3⟩, b2⟩ := r3
      cases r3 with
      | int k =>
        cases q1 : getP p.root r e3 with
        | none => trivial
        | some t =>
          cases t with
          | ls xs =>
            obtain ⟨o', v, g1, g2, c1, c2, c3, c4, c5⟩ := x3.pt q1 (fun z => by cases z)
            rw [b1] at c1; cases c1
            rw [b2] at c2; cases c2
            cases c3 with
            | @ls n ys _ en rr =>
              show OutS cc mk h3 F3 f3 env (match Q.uSetL (.ref n) (.int k) ud h3 with | some h4 => RS.nx env h4 | none => .bad) (match ixN xs.length k with | some j => .nx (setP p.root r (.ls (xs.set j d)) e3) | none => .bad)
              cases q2 : ixN xs.length k with
              | none => trivial
              | some j =>
                have q2' : L2.ixN ys.length k = some j := by rw [rr.len]; exact q2
                rw [Q.e_set, en]
                simp only [q2', Option.map]
                have sr4 := sr3.perm c4
                have stn := Stab.set sr4 (List.mem_append_left _ (List.mem_singleton.mpr rfl)) (O.lst (ys.set j ud))
                exact outS_set sr3 c4 (List.mem_singleton.mpr rfl) (c5 rfl) (.ls (by rw [List.getElem?_set_self (List.getElem?_eq_some_iff.mp en).1]) ((rr.set j (r1.2.mono (st2.trans st3))).mono stn)) (List.Sublist.refl _)
          | _ => trivial
      | _ => trivial) (fun _ _ _ _ _ x => x.1.1)) rd_nil
theorem ss_aug {f : U → U → Sto → R U} {g : D → D → Option D} (ok : OpB cc f g (RD cc)) {i : Nat} {me : EM} {pa : PE} (a : Sim cc q (RX cc s) me pa) (z : mk.getD i false = false := by rfl) : SimS cc mk (Q.mAug f i me) (sAug g i pa) := fun h F env e fp x sr => by
  unfold sAug
  split
  · rename_i d q1
    obtain ⟨o, f1, f2, a1, a2, a3, _⟩ := x.at q1
    cases o with
    | none => cases a2.1
    | some u =>
      cases a2 with
      | leaf dn =>
        rw [Q.e_aug, a1]
        refine OutS.st0 sr (a h F env e fp x sr) (fun u2 d2 h1 F1 e1 f2 r1 x1 sr1 st sm => ?_) rx_nil
        have oo := ok q h1 F1 f2 env e1 u d u2 d2 x1 sr1 (dn.mono st).tp r1.tp
        cases q2 : g d d2 with
        | none => trivial
        | some w =>
          rw [q2] at oo
          obtain ⟨uw, h', F', f3, f4, b1, ⟨rfl, b2⟩, b3, b4, b5⟩ := oo
          rw [b1]
          obtain ⟨fp1, x2, g1, p1⟩ := b3.putD i b2
          exact ⟨env.set i (some uw), h', F', fp1, rfl, x2, (b4.perm p1).sub (List.sublist_append_right _ _), Kp.set z⟩
  · trivial
theorem op_iadd : OpB cc Q.uIAdd gIAdd (RD cc) := by
  intro q h F fp env e u1 d1 u2 d2 x sr t1 t2
  unfold gIAdd
  split
  · cases t1; cases t2; exact Out.ret0 ⟨rfl, .int _⟩ x sr
  · rename_i s t
    cases t1; cases t2
    rw [Q.e_iadd_s]
    by_cases z : s.length + t.length ≤ 16000000
    · rw [if_pos z, if_pos z]; exact Out.ret0 ⟨rfl, .str _⟩ x sr
    · rw [if_neg z, if_neg z]; trivial
  · trivial
end
end P

set_option Elab.async false
set_option linter.all false
set_option maxRecDepth 100000
set_option maxHeartbeats 1000000
/-! PS11: stores by an operator, fields, calls, defs. -/
namespace P
open Q (U O Sto Env' R RS EM TM AM SM Sem')
section
variable {cc : Nat → Nat} {h h' h1 h2 : Sto} {F F' F1 F2 : Nat → Prop} {u v : U} {d : D} {us : List U} {ds : List D} {t : T} {ts : List T} {f f1 f2 fp fp' fp1 fp2 : List Nat} {env env' : Env'} {e e' : Env} {i : Nat} {q s s1 s2 : Bool}
  {α β γ δ : Type} {mk : List Bool}
theorem ss_augI {f : U → U → Sto → R U} {g : D → D → Option D} (ok : OpB cc f g (RD cc)) {m mi me : EM} {p : Pth} {pi pa : PE} (ap : SimP cc m p) (b : Sim cc q (RD cc) mi pi) (a : Sim cc q (RD cc) me pa) (z : p.isVar = true ∨ q = true) : SimS cc mk (Q.mAugI Q.uIxL f Q.uSetL m mi me) (sAugI g p pi pa) := fun h F env e fp x sr =>
  OutS.stP ap x sr fun u r h1 F1 e1 f1 ⟨o, b1, b2⟩ b3 x1 sr1 st1 =>
    OutS.st0 sr1 (path_later b2 b3 z (b h1 F1 env e1 f1 x1 sr1)) (fun ui di h2 F2 e2 f2 r2 x2 sr2 st2 sm2 => by
      obtain ⟨⟨_, r2⟩, b2⟩ := r2
      cases r2 with
      | int k =>
        cases q1 : getP p.root r e2 with
        | none => trivial
        | some t =>
          cases t with
          | ls xs =>
            obtain ⟨o', v, g1, g2, c1, c2, c3, c4, c5⟩ := x2.pt q1 (fun z => by cases z)
            rw [b1] at c1; cases c1
            rw [b2] at c2; cases c2
            cases c3 with
            | @ls n ys _ en rr =>
              show OutS cc mk h2 F2 f2 env (Q.R.st (Q.uIxL (.ref n) (.int k) h2) env _) (match atI xs k with | some z => _ | none => PRS.bad)
              cases q2 : atI xs k with
              | none => trivial
              | some zd =>
                obtain ⟨zu, d1, d2⟩ := rr.at q2
                rw [Q.e_ixL, en]
                simp only [d1]
                show OutS cc mk h2 F2 f2 env (Q.R.st (me env h2) env _) ((pa e2).st _)
                refine OutS.st0 sr2 (path_later b2 b3 z (a h2 F2 env e2 f2 x2 sr2)) (fun uy dy h3 F3 e3 f3 r3 x3 sr3 st3 sm3 => ?_) (fun _ _ _ _ _ x => x.1.1)
                obtain ⟨r3, b2⟩ := r3
                have oo := ok true h3 F3 f3 env e3 zu zd uy dy x3 sr3 (d2.mono st3).tp r3.2.tp
                cases q3 : g zd dy with
                | none => trivial
                | some w =>
                  rw [q3] at oo
                  obtain ⟨uw, h', F', f4, f5, e4, ⟨rfl, e5⟩, e6, e7, e8⟩ := oo
                  cases q4 : getP p.root r e3 with
                  | none => trivial
                  | some t =>
                    cases t with
                    | ls xs2 =>
                      have b2' := atU_mono (e8 rfl) b2
                      obtain ⟨o', v, g1, g2, c1, c2, c3, c4, c5⟩ := e6.pt q4 (fun z => by cases z)
                      rw [b1] at c1; cases c1
                      rw [b2'] at c2; cases c2
                      cases c3 with
                      | @ls _ ys2 _ en2 rr2 =>
                        rw [e4]
                        show OutS cc mk h3 F3 f3 env (match Q.uSetL (.ref n) (.int k) uw h' with | some h6 => RS.nx env h6 | none => .bad) (match ixN xs2.length k with | some j => .nx (setP p.root r (.ls (xs2.set j w)) e3) | none => .bad)
                        cases q5 : ixN xs2.length k with
                        | none => trivial
                        | some j =>
                          have q5' : L2.ixN ys2.length k = some j := by rw [rr2.len]; exact q5
                          rw [Q.e_set, en2]
                          simp only [q5', Option.map]
                          have sr4 := e7.sr.perm c4
                          have stn := Stab.set sr4 (List.mem_append_left _ (List.mem_singleton.mpr rfl)) (O.lst (ys2.set j uw))
                          exact OutS.trans e7 (Kp.refl env) (outS_set e7.sr c4 (List.mem_singleton.mpr rfl) (c5 rfl) (.ls (by rw [List.getElem?_set_self (List.getElem?_eq_some_iff.mp en2).1]) ((rr2.set j e5).mono stn)) (List.Sublist.refl _))
                    | _ => trivial
          | _ => trivial
      | _ => trivial) (fun _ _ _ _ _ x => x.1.1)
/-! fields -/
theorem insU_is {n C : Nat} {us : List (PySem.Str × U)} (e : h[n]? = some (.ins C us)) : Q.insU h (.ref n) = some (C, us) := by rw [Q.e_insU, e]
theorem keys_len {us : List (PySem.Str × U)} {ts : List (String × T)} (k : us.map Prod.fst = (ts.map fun p => fs' p.1)) : us.length = ts.length := by simpa using congrArg List.length k
theorem put_st {g : String} {w : U} {s : T} {f0 : List Nat} {n C : Nat} {us : List (PySem.Str × U)} {ts : List (String × T)} {fp1 g2 : List Nat} (sr : SR h F (f0 ++ ((n :: fp1) ++ g2))) (en : h[n]? = some (.ins (cc C) us)) (k : us.map Prod.fst = (ts.map fun p => fs' p.1)) (r : Ows cc h F (us.map Prod.snd) (ts.map Prod.snd) fp1) (y : Ow cc h F w s f0) :
    ∃ g3 fd, Ow cc (h.set n (.ins (cc C) (Q.putU (fs' g) w us))) F (.ref n) (.is C (putF g s ts)) g3 ∧ (f0 ++ (n :: fp1)).Perm (fd ++ g3) := by
  have nd := sr.nd
  have hn : n ∉ f0 ∧ n ∉ fp1 := by
    rw [List.nodup_append] at nd
    obtain ⟨_, nd2, nd3⟩ := nd
    refine ⟨fun m => nd3 n m n (by simp) rfl, ?_⟩
    simp only [List.cons_append, List.nodup_cons, List.mem_append, not_or] at nd2
    exact nd2.1.1
  have st := Stab.set sr (n := n) (List.mem_append_right _ (List.mem_append_left _ List.mem_cons_self)) (O.ins (cc C) (Q.putU (fs' g) w us))
  obtain ⟨i1, fp', i2, f1, f2, p1, p2⟩ := put_at y (f := g) k r
  have nfp : n ∉ fp' := fun m => by
    rcases List.mem_append.mp (p2.mem_iff.mp m) with m | m
    · exact hn.1 m
    · exact hn.2 (p1.mem_iff.mpr (List.mem_append_right _ m))
  refine ⟨n :: fp', f1, .is (by rw [List.getElem?_set_self (List.getElem?_eq_some_iff.mp en).1]) i1 (Ows.mono st (Keep.set _ nfp) i2), ?_⟩
  have a : (f0 ++ (n :: fp1)).Perm (n :: (f0 ++ fp1)) := List.perm_middle
  have b : (f0 ++ fp1).Perm (f1 ++ fp') := by
    have := p1.append_left f0
    refine this.trans (perm_mid.trans (p2.symm.append_left f1))
  exact a.trans ((b.cons n).trans List.perm_middle.symm)
theorem outS_fld {i : Nat} {r : List Ac} {g : String} {w : U} {s : T} {f0 : List Nat} {n C : Nat} {us : List (PySem.Str × U)} {ts : List (String × T)} {fpi g2 : List Nat} (sr : SR h F (f0 ++ fp)) (en : h[n]? = some (.ins (cc C) us)) (k : us.map Prod.fst = (ts.map fun p => fs' p.1)) (rr : Ows cc h F (us.map Prod.snd) (ts.map Prod.snd) fpi) (y : Ow cc h F w s f0) (c4 : fp.Perm ((n :: fpi) ++ g2))
    (c5 : ∀ h' F' s' f1', Stab h F h' F' → Keep g2 h h' → Ow cc h' F' (.ref n) s' f1' → ∃ fp', Ev cc h' F' env (setP i r s' e) fp' ∧ fp'.Perm (f1' ++ g2)) : OutS cc mk h F (f0 ++ fp) env (.nx env (h.set n (.ins (cc C) (Q.putU (fs' g) w us)))) (.nx (setP i r (.is C (putF g s ts)) e)) := by
  have srp : SR h F (f0 ++ ((n :: fpi) ++ g2)) := sr.perm (c4.append_left f0)
  obtain ⟨g3, fd, k1, k2⟩ := put_st (g := g) srp en k rr y
  have n4 : n ∉ g2 := fun m => by
    have nd := srp.right.nd
    exact (List.nodup_append.mp nd).2.2 n List.mem_cons_self n m rfl
  have nin : n ∈ (f0 ++ ((n :: fpi) ++ g2)) := List.mem_append_right _ (List.mem_append_left _ List.mem_cons_self)
  have st := Stab.set srp nin (O.ins (cc C) (Q.putU (fs' g) w us))
  obtain ⟨fp', m1, m2⟩ := c5 _ F _ g3 st (Keep.set _ n4) k1
  refine ⟨env, _, F, fp', rfl, m1, ?_, Kp.refl env⟩
  have frs := Fr.set srp nin (O.ins (cc C) (Q.putU (fs' g) w us))
  have pp : (f0 ++ ((n :: fpi) ++ g2)).Perm (fd ++ fp') := by
    have e1 : (f0 ++ ((n :: fpi) ++ g2)) = (f0 ++ (n :: fpi)) ++ g2 := by simp
    rw [e1]
    refine (k2.append_right g2).trans ?_
    rw [List.append_assoc]
    exact (m2.symm.append_left fd)
  exact ((frs.perm pp).sub (List.sublist_append_right _ _)).permL (c4.symm.append_left f0)
theorem ss_setF {Cs : List Nat} {g : String} {m me : EM} {p : Pth} {pa : PT} (ap : SimP cc m p) (a : Sim cc s (RT cc) me pa) : SimS cc mk (Q.mSetF (Cs.map cc) (fs' g) m me) (sSetF Cs g p pa) := fun h F env e fp x sr =>
  OutS.st (a h F env e fp x sr) fun w t h1 F1 e1 f1 f2 r1 x1 fr1 sm1 => by
    have aa := ap h1 F1 env e1 f2 x1 fr1.sr.right
    show OutS cc mk h1 F1 (f1 ++ f2) env (Q.R.st (m env h1) env _) ((p.ev e1).st _)
    cases q0 : p.ev e1 with
    | bad => trivial
    | exc C y e' =>
      rw [q0] at aa
      obtain ⟨n, h', F', f3, b1, b2, b3, b4⟩ := aa
      rw [b1]
      exact ⟨n, env, h', F', f3, rfl, b2, (b3.hold fr1.sr).sub (List.sublist_append_right _ _), b4, Kp.refl env⟩
    | ok r e2 =>
      rw [q0] at aa
      obtain ⟨u, h2, F2, f3, f4, b1, ⟨rfl, ⟨o, d1, d2⟩, _⟩, x2, fr2, sm2⟩ := aa
      rw [b1]
      have fr2' := fr2.hold fr1.sr
      have y2 : Ow cc h2 F2 w t f1 := Ow.mono (fr2.stab fr1.sr.right) (fr2.kept fr1.sr) r1
      refine OutS.trans fr2' (Kp.refl env) ?_
      simp only [Q.e_st_ok, PR.st, List.nil_append]
      cases q1 : getP p.root r e2 with
      | none => trivial
      | some tt =>
        cases tt with
        | is C fs =>
          obtain ⟨o', v, g1, g2, c1, c2, c3, c4, c5⟩ := x2.pt q1 (fun z => by cases z)
          rw [d1] at c1; cases c1
          rw [d2] at c2; cases c2
          simp only
          by_cases z : C ∈ Cs ∧ fs.length < 1000
          · rw [if_pos z]
            cases c3 with
            | @is n _ us' _ fpi en k rr =>
              simp only [insU_is en]
              rw [if_pos ⟨List.mem_map_of_mem (f := cc) z.1, by rw [keys_len k]; exact z.2⟩]
              exact outS_fld fr2'.sr en k rr y2 c4 (c5 rfl)
          · rw [if_neg z]; trivial
        | _ => trivial
theorem ss_augF {f : U → U → Sto → R U} {gg : D → D → Option D} (ok : OpB cc f gg (RD cc)) {Cs : List Nat} {g : String} {m me : EM} {p : Pth} {pa : PE} (ap : SimP cc m p) (a : Sim cc q (RD cc) me pa) (z : p.isVar = true ∨ q = true) : SimS cc mk (Q.mAugF (Cs.map cc) f (fs' g) m me) (sAugF Cs gg g p pa) := fun h F env e fp x sr =>
  OutS.stP ap x sr fun u r h1 F1 e1 f1 ⟨o, b1, b2⟩ b3 x1 sr1 st1 => by
    cases q1 : getP p.root r e1 with
    | none => trivial
    | some t =>
      cases t with
      | is C fs =>
        obtain ⟨o', v, g1, g2, c1, c2, c3, c4, c5⟩ := x1.pt q1 (fun z => by cases z)
        rw [b1] at c1; cases c1
        rw [b2] at c2; cases c2
        simp only
        by_cases zC : C ∈ Cs
        case neg => rw [if_neg zC]; trivial
        rw [if_pos zC]
        cases c3 with
        | @is n _ us' _ fpi en k rr =>
          simp only [insU_is en]
          rw [if_pos (List.mem_map_of_mem (f := cc) zC)]
          cases q2 : fs.lookup g with
          | none => trivial
          | some tl =>
            cases tl with
            | leaf zd =>
              obtain ⟨j, l1, l2, _⟩ := look_at k q2
              obtain ⟨zu, k1, k2, l3, l4, _, _⟩ := rr.at l1
              rw [l2 zu l3]
              cases l4 with
              | leaf zdn =>
              simp only
              refine OutS.st0 sr1 (path_later b2 b3 z (a h1 F1 env e1 f1 x1 sr1)) (fun uy dy h3 F3 e3 f3 r3 x3 sr3 st3 sm3 => ?_) (fun _ _ _ _ _ x => x.1.1)
              obtain ⟨r3, b2⟩ := r3
              have oo := ok true h3 F3 f3 env e3 zu zd uy dy x3 sr3 (zdn.mono st3).tp r3.2.tp
              cases q3 : gg zd dy with
              | none => trivial
              | some w =>
                rw [q3] at oo
                obtain ⟨uw, h', F', f4, f5, e4, ⟨rfl, e5⟩, e6, e7, e8⟩ := oo
                cases q4 : getP p.root r e3 with
                | none => trivial
                | some t =>
                  cases t with
                  | is C2 fs2 =>
                    have b2' := atU_mono (e8 rfl) b2
                    obtain ⟨o2, v2, k1', k2', a1, a2, a3, a4, a5⟩ := e6.pt q4 (fun z => by cases z)
                    rw [b1] at a1; cases a1
                    rw [b2'] at a2; cases a2
                    simp only
                    by_cases z2 : C2 = C ∧ fs2.length < 1000
                    case neg => rw [if_neg z2]; trivial
                    rw [if_pos z2]
                    obtain ⟨rfl, z2⟩ := z2
                    cases a3 with
                    | @is _ _ us2 _ fpi2 en2 kk2 rr2 =>
                      rw [e4]
                      simp only [Q.e_st_ok, insU_is en2]
                      rw [if_pos ⟨trivial, by rw [keys_len kk2]; exact z2⟩]
                      exact OutS.trans e7 (Kp.refl env) (outS_fld (f0 := []) e7.sr en2 kk2 rr2 (.leaf e5) a4 (a5 rfl))
                  | _ => trivial
            | _ => trivial
      | _ => trivial
end
end P

set_option Elab.async false
set_option linter.all false
set_option maxRecDepth 100000
set_option maxHeartbeats 1000000
/-! PS12: calls, defs, the end. -/
namespace P
open Q (U O Sto Env' R RS EM TM AM SM Sem')
section
variable {cc : Nat → Nat} {h h' h1 h2 : Sto} {F F' F1 F2 : Nat → Prop} {u v : U} {d : D} {us : List U} {ds : List D} {t : T} {ts : List T} {f f1 f2 fp fp' fp1 fp2 : List Nat} {env env' : Env'} {e e' : Env} {i : Nat} {q s s1 s2 : Bool}
  {α β γ δ : Type} {mk : List Bool}
def SimF (cc : Nat → Nat) (mask : List Bool) (sem : Sem') (ps : PSem) : Prop := ∀ h F us ts fp, Ows cc h F us ts fp → SR h F fp → match ps ts with
  | .ok t ws => ∃ u h' F' f1 f2, sem us h = .ok u h' ∧ Ow cc h' F' u t f1 ∧ Ows cc h' F' (pick mask us) ws f2 ∧ Fr h F fp h' F' (f1 ++ f2)
  | .exc C x => ∃ n h' F', sem us h = .exc (cc C) n h' ∧ Fr h F fp h' F' [] ∧ Xd cc h' F' n x
  | .bad => True
theorem Dns.ows : ∀ {us : List U} {ds : List D}, Dns cc h F us ds → Ows cc h F us (ds.map .leaf) []
  | _, _, .nil => .nil
  | _, _, .cons x r => .cons (f1 := []) (f2 := []) (.leaf x) (Dns.ows r)
/-- a call with data alone, some things held meanwhile -/
theorem call_out {mask : List Bool} {sem : Sem'} {ps : PSem} (ok : SimF cc mask sem ps) {us : List U} {ts : List T} {fa : List Nat} (x : Ev cc h F env e fp) (sr : SR h F (fa ++ fp)) (r : Ows cc h F us ts fa) : 
    match ps ts with
    | .ok t ws => ∃ u h' F' f1 f2, sem us h = .ok u h' ∧ Ow cc h' F' u t f1 ∧ Ows cc h' F' (pick mask us) ws f2 ∧ Ev cc h' F' env e fp ∧ Fr h F (fa ++ fp) h' F' (f1 ++ (f2 ++ fp)) ∧ Keep fp h h' ∧ Stab h F h' F' ∧ (fa = [] → Sm h h')
    | .exc C x => ∃ n h' F', sem us h = .exc (cc C) n h' ∧ Ev cc h' F' env e fp ∧ Fr h F (fa ++ fp) h' F' fp ∧ Xd cc h' F' n x ∧ Keep fp h h' ∧ Stab h F h' F'
    | .bad => True := by
  have o := ok h F us ts fa r sr.left
  have sr' : SR h F (fp ++ fa) := sr.perm List.perm_append_comm
  cases q1 : ps ts with
  | bad => trivial
  | exc C x =>
    rw [q1] at o
    obtain ⟨n, h', F', a1, a2, a3⟩ := o
    have k := a2.kept sr'
    have st := a2.stab sr.left
    refine ⟨n, h', F', a1, (by assumption : Ev cc h F env e fp).mono st k, ?_, a3, k, st⟩
    have := (a2.hold sr').permL List.perm_append_comm
    simpa using this
  | ok t ws =>
    rw [q1] at o
    obtain ⟨u, h', F', f1, f2, a1, a2, a3, a4⟩ := o
    have k := a4.kept sr'
    have st := a4.stab sr.left
    refine ⟨u, h', F', f1, f2, a1, a2, a3, x.mono st k, ?_, k, st, fun z => ?_⟩
    · have := (a4.hold sr').permL List.perm_append_comm
      refine this.perm ?_
      rw [← List.append_assoc f1]
      exact List.perm_append_comm
    · subst z
      exact fun n l => a4.eq n l (by simp)
theorem sim_call {mask : List Bool} {n : Nat} {sem : Sem'} {ps : PSem} (ok : SimF cc mask sem ps) {am : AM} {pa : PDs} (a : Sim cc q (RDs cc) am pa) : Sim cc q (RT cc) (Q.mCall n sem am) (pCall n ps pa) := fun h F env e fp x sr =>
  Out.bind0 sr (a h F env e fp x sr) (fun us ds h1 F1 e1 f2 r1 x1 sr1 st sm => by
    by_cases z : ds.length = n
    case neg => rw [if_neg z]; trivial
    rw [if_pos z, if_pos (by rw [r1.2.len]; exact z)]
    have o := call_out ok (fa := []) x1 sr1 r1.2.ows
    cases q1 : ps (ds.map .leaf) with
    | bad => trivial
    | exc C y =>
      rw [q1] at o
      obtain ⟨n, h', F', a1, a2, a3, a4, _⟩ := o
      exact ⟨n, h', F', f2, a1, a2, a3, a4⟩
    | ok t ws =>
      rw [q1] at o
      obtain ⟨u, h', F', f3, f4, a1, a2, a3, a4, a5, _, _, a6⟩ := o
      exact ⟨u, h', F', f3, f2, a1, a2, a4, a5.sub ((List.sublist_append_right f4 f2).append_left f3), fun _ => a6 rfl⟩) rds_nil
/-! an argument that is a slot -/
def RAV (cc : Nat → Nat) (v : U) (k : Nat) (h : Sto) (F : Nat → Prop) (us : List U) (ds : List D) (f : List Nat) : Prop := f = [] ∧ ∃ us1 us2 ds1 ds2, us = us1 ++ v :: us2 ∧ us1.length = k ∧ ds = ds1 ++ ds2 ∧ Dns cc h F us1 ds1 ∧ Dns cc h F us2 ds2
def SimAV (cc : Nat → Nat) (q : Bool) (i k : Nat) (am : AM) (pa : PDs) : Prop := ∀ h F env e fp v, Ev cc h F env e fp → SR h F fp → env[i]? = some (some v) → Out cc q (RAV cc v k) h F fp env (am env h) (pa e)
theorem rav_nil {v : U} {k : Nat} : ∀ (a : List U) (b : List D) (h : Sto) (F : Nat → Prop) (f : List Nat), RAV cc v k h F a b f → f = [] := fun _ _ _ _ _ x => x.1
theorem av_0 {i : Nat} {am : AM} {pa : PDs} (a : Sim cc q (RDs cc) am pa) : SimAV cc q i 0 (Q.aCons (Q.mVar i) am) pa := fun h F env e fp v x sr hv => by
  have : Q.aCons (Q.mVar i) am env h = (am env h).bind fun us h2 => .ok (v :: us) h2 := by
    show (Q.mVar i env h).bind _ = _
    rw [Q.e_var, hv]; rfl
  rw [this]
  have p : pa e = (pa e).bind fun ds e2 => .ok ds e2 := by cases pa e <;> rfl
  rw [p]
  exact Out.bind0 sr (a h F env e fp x sr) (fun us ds h1 F1 e1 f2 r1 x1 sr1 st sm => Out.ret0 ⟨rfl, [], us, [], ds, rfl, rfl, rfl, .nil, r1.2⟩ x1 sr1) rds_nil
theorem av_s {i k : Nat} {me : EM} {pe : PE} {am : AM} {pa : PDs} (b : Sim cc q (RD cc) me pe) (a : SimAV cc q i k am pa) : SimAV cc q i (k + 1) (Q.aCons me am) (dCons pe pa) := fun h F env e fp v x sr hv =>
  Out.bind0 sr (b h F env e fp x sr) (fun u d h1 F1 e1 f2 r1 x1 sr1 st sm => Out.bind0 sr1 (a h1 F1 env e1 f2 v x1 sr1 hv) (fun us ds h2 F2 e2 f3 r2 x2 sr2 st2 sm2 => by
    obtain ⟨_, us1, us2, ds1, ds2, rfl, rfl, rfl, y1, y2⟩ := r2
    exact Out.ret0 ⟨rfl, u :: us1, us2, d :: ds1, ds2, rfl, rfl, rfl, .cons (r1.2.mono st2) y1, y2⟩ x2 sr2) rav_nil) rd_nil
theorem pick_mid {α : Type} : ∀ {us1 us2 : List α} {v : α}, pick (List.replicate us1.length false ++ [true]) (us1 ++ v :: us2) = [v]
  | [], us2, v => by simp [pick]
  | x :: us1, us2, v => by
    show pick (false :: (List.replicate us1.length false ++ [true])) (x :: (us1 ++ v :: us2)) = [v]
    simp only [pick]
    exact pick_mid
theorem insT_eq {ds1 ds2 : List D} {s : T} : insT ds1.length s (ds1 ++ ds2) = ds1.map .leaf ++ s :: ds2.map .leaf := by
  unfold insT
  rw [List.take_left' rfl, List.drop_left' rfl]
theorem rav_ows {us1 us2 : List U} {ds1 ds2 : List D} {s : T} {fs : List Nat} (y1 : Dns cc h F us1 ds1) (y2 : Dns cc h F us2 ds2) (w : Ow cc h F v s fs) : Ows cc h F (us1 ++ v :: us2) (ds1.map .leaf ++ s :: ds2.map .leaf) fs := by
  have b := Ows.app (y1.ows) (Ows.cons w y2.ows)
  simpa using b
theorem slot_val {i : Nat} {t : T} (x : Ev cc h F env e fp) (q1 : e[i]? = some t) (nh : t ≠ .hole) : ∃ v, env[i]? = some (some v) := by
  obtain ⟨o, f1, f2, a1, a2, _⟩ := x.at q1
  cases o with
  | none => exact absurd a2.1 nh
  | some v => exact ⟨v, a1⟩
theorem sim_callV {n k i : Nat} {sem : Sem'} {ps : PSem} (ok : SimF cc (List.replicate k false ++ [true]) sem ps) {am : AM} {pa : PDs} (a : SimAV cc q i k am pa) : Sim cc false (RT cc) (Q.mCall n sem am) (pCallV n k i ps pa) := fun h F env e fp x sr => by
  unfold pCallV
  split
  · trivial
  · trivial
  rename_i s0 nh0 q0
  obtain ⟨v, hv⟩ := slot_val x q0 nh0
  have aa : Out cc false (RAV cc v k) h F fp env (am env h) (pa e) := by
    have := a h F env e fp v x sr hv
    cases e1 : pa e with
    | bad => trivial
    | exc C y e' => rw [e1] at this; exact this
    | ok b e' => rw [e1] at this; obtain ⟨a, h', F', f1, f2, a1, a2, a3, a4, a5⟩ := this; exact ⟨a, h', F', f1, f2, a1, a2, a3, a4, fun z => by cases z⟩
  refine Out.bind0 sr aa (fun us ds h1 F1 e1 f2 r1 x1 sr1 st sm => ?_) rav_nil
  obtain ⟨_, us1, us2, ds1, ds2, rfl, rfl, rfl, y1, y2⟩ := r1
  cases q1 : e1[i]? with
  | none => trivial
  | some s =>
    simp only
    by_cases z : (ds1 ++ ds2).length + 1 = n ∧ us1.length ≤ (ds1 ++ ds2).length
    case neg => rw [if_neg z]; trivial
    rw [if_pos z, if_pos (by have := y1.len; have := y2.len; simp at z ⊢; omega)]
    obtain ⟨o, g1, g2, c1, c2, c3, c4⟩ := x1.at q1
    rw [hv] at c1; cases c1
    have sr2 := sr1.perm c3
    have rr := rav_ows y1 y2 c2
    have ts : insT us1.length s (ds1 ++ ds2) = ds1.map .leaf ++ s :: ds2.map .leaf := by rw [y1.len]; exact insT_eq
    rw [ts]
    have o := ok h1 F1 _ _ g1 rr sr2.left
    have sr3 : SR h1 F1 (g2 ++ g1) := sr2.perm List.perm_append_comm
    cases q2 : ps (ds1.map .leaf ++ s :: ds2.map .leaf) with
    | bad => trivial
    | exc C y =>
      rw [q2] at o
      obtain ⟨m, h', F', b1, b2, b3⟩ := o
      obtain ⟨fp', d1, d2⟩ := c4 h' F' (some v) .hole [] (b2.stab sr2.left) (b2.kept sr3) (.hole v)
      rw [list_set_same hv] at d1
      refine ⟨m, h', F', fp', b1, d1, ?_, b3⟩
      exact ((b2.hold sr3).permL (List.perm_append_comm.trans c3.symm)).perm (by simpa using d2.symm)
    | ok t ws =>
      rw [q2] at o
      obtain ⟨u, h', F', f3, f4, b1, b2, b3, b4⟩ := o
      rw [pick_mid] at b3
      cases ws with
      | nil => trivial
      | cons w ws =>
        cases ws with
        | cons _ _ => trivial
        | nil =>
          cases b3 with
          | @cons _ _ _ _ fw _ b3 b5 =>
            cases b5
            obtain ⟨fp', d1, d2⟩ := c4 h' F' (some v) w fw (b4.stab sr2.left) (b4.kept sr3) b3
            rw [list_set_same hv] at d1
            refine ⟨u, h', F', f3, fp', b1, b2, d1, ?_, fun z => by cases z⟩
            refine ((b4.hold sr3).permL (List.perm_append_comm.trans c3.symm)).perm ?_
            have : (g2 ++ (f3 ++ (fw ++ []))).Perm (f3 ++ (fw ++ g2)) := by
              rw [List.append_nil]
              exact perm_mid.trans (List.perm_append_comm.append_left f3)
            exact this.trans (d2.symm.append_left f3)
/-! methods -/
theorem look_none {α β : Type} {g : String} : ∀ {us : List (PySem.Str × α)} {ts : List (String × β)}, us.map Prod.fst = (ts.map fun p => fs' p.1) → ts.lookup g = none → us.lookup (fs' g) = none
  | [], _, _, _ => rfl
  | _ :: _, [], k, _ => by simp at k
  | (a1, a2) :: us, (b1, b2) :: ts, k, zC => by
    simp only [List.map_cons, List.cons.injEq] at k
    rw [List.lookup_cons] at zC ⊢
    rw [k.1]
    by_cases z : g = b1
    · subst z; simp at zC
    · have z1 : (g == b1) = false := by simpa using z
      have z2 : (fs' g == fs' b1) = false := by rw [beq_eq_false_iff_ne]; exact fun w => z (fs_inj w)
      rw [z1] at zC
      rw [z2]
      exact look_none k.2 zC
theorem sim_methD {mask : List Bool} {C n : Nat} {g : String} {sem : Sem'} {ps : PSem} (ok : SimF cc mask sem ps) {mo : EM} {po : PE} {am : AM} {pa : PDs} (b : Sim cc q (RD cc) mo po) (a : Sim cc q (RDs cc) am pa) : Sim cc q (RT cc) (Q.mMeth (cc C) (fs' g) n sem mo am) (pMethD C g n ps po pa) := fun h F env e fp x sr =>
  Out.bind0 sr (b h F env e fp x sr) (fun uo o h1 F1 e1 f2 r1 x1 sr1 st sm => by
    obtain ⟨_, r1⟩ := r1
    cases o with
    | ins C1 fs =>
      simp only
      by_cases zC : C1 = C ∧ fs.lookup g = none
      case neg => rw [if_neg zC]; trivial
      rw [if_pos zC]
      obtain ⟨rfl, zC⟩ := zC
      cases r1 with
      | @ins m _ us0 _ fF en k rr =>
        have lk : us0.lookup (fs' g) = none := look_none k zC
        simp only [insU_is en]
        rw [if_pos ⟨trivial, lk⟩]
        refine Out.bind0 sr1 (a h1 F1 env e1 f2 x1 sr1) (fun us ds h2 F2 e2 f3 r2 x2 sr2 st2 sm2 => ?_) rds_nil
        by_cases z : ds.length + 1 = n
        case neg => rw [if_neg z]; trivial
        rw [if_pos z, if_pos (by rw [r2.2.len]; exact z)]
        have dn : Dn cc h2 F2 (.ref m) (.ins C1 fs) := (Dn.ins fF en k rr).mono st2
        have o := call_out ok (fa := []) x2 sr2 (.cons (f1 := []) (f2 := []) (.leaf dn) r2.2.ows)
        cases q1 : ps (.leaf (.ins C1 fs) :: ds.map .leaf) with
        | bad => trivial
        | exc C y =>
          rw [q1] at o
          obtain ⟨n, h', F', a1, a2, a3, a4, _⟩ := o
          exact ⟨n, h', F', f3, a1, a2, a3, a4⟩
        | ok t ws =>
          rw [q1] at o
          obtain ⟨u, h', F', f4, f5, a1, a2, a3, a4, a5, _, _, a6⟩ := o
          exact ⟨u, h', F', f4, f3, a1, a2, a4, a5.sub ((List.sublist_append_right f5 f3).append_left f4), fun _ => a6 rfl⟩
    | _ => trivial) rd_nil
theorem sim_meth {C n : Nat} {g : String} {sem : Sem'} {ps : PSem} (ok : SimF cc [true] sem ps) {m : EM} {p : Pth} {am : AM} {pa : PDs} (ap : SimP cc m p) (a : Sim cc q (RDs cc) am pa) (z : p.isVar = true ∨ q = true) : Sim cc false (RT cc) (Q.mMeth (cc C) (fs' g) n sem m am) (pMeth C g n ps p pa) := fun h F env e fp x sr =>
  Out.bind0 sr (Out.anyQ (ap h F env e fp x sr)) (fun u r h1 F1 e1 f2 r1 x1 sr1 st sm => by
    obtain ⟨_, ⟨o, b1, b2⟩, b3⟩ := r1
    cases q1 : getP p.root r e1 with
    | none => trivial
    | some t =>
      cases t with
      | is C1 fs =>
        simp only
        by_cases zC : C1 = C ∧ fs.lookup g = none
        case neg => rw [if_neg zC]; trivial
        rw [if_pos zC]
        obtain ⟨rfl, zC⟩ := zC
        obtain ⟨o', v, g1, g2, c1, c2, c3, c4, c5⟩ := x1.pt q1 (fun z => by cases z)
        rw [b1] at c1; cases c1
        rw [b2] at c2; cases c2
        cases c3 with
        | @is m0 _ us0 _ fpi en k rr =>
          simp only [insU_is en]
          rw [if_pos ⟨trivial, look_none k zC⟩]
          refine Out.bind0 sr1 (path_later b2 b3 z (a h1 F1 env e1 f2 x1 sr1)) (fun us ds h2 F2 e2 f3 r2 x2 sr2 st2 sm2 => ?_) (fun _ _ _ _ _ x => x.1.1)
          obtain ⟨r2, b2⟩ := r2
          cases q2 : getP p.root r e2 with
          | none => trivial
          | some t =>
            cases t with
            | is C2 fs2 =>
              simp only
              by_cases z : ds.length + 1 = n
              case neg => rw [if_neg z]; trivial
              rw [if_pos z, if_pos (by rw [r2.2.len]; exact z)]
              obtain ⟨o2, v2, k1, k2, a1, a2, a3, a4, a5⟩ := x2.pt q2 (fun z => by cases z)
              rw [b1] at a1; cases a1
              rw [b2] at a2; cases a2
              have srp := sr2.perm a4
              have sr3 : SR h2 F2 (k2 ++ k1) := srp.perm List.perm_append_comm
              have rr : Ows cc h2 F2 (.ref m0 :: us) (.is C2 fs2 :: ds.map .leaf) k1 := by
                have := Ows.cons a3 r2.2.ows
                simpa using this
              have oo := ok h2 F2 _ _ k1 rr srp.left
              cases q3 : ps (.is C2 fs2 :: ds.map .leaf) with
              | bad => trivial
              | exc C y =>
                rw [q3] at oo
                obtain ⟨m, h', F', b1, b2, b3⟩ := oo
                obtain ⟨fp', d1, d2⟩ := a5 rfl h' F' .hole [] (b2.stab srp.left) (b2.kept sr3) (.hole _)
                refine ⟨m, h', F', fp', b1, d1, ?_, b3⟩
                exact ((b2.hold sr3).permL (List.perm_append_comm.trans a4.symm)).perm (by simpa using d2.symm)
              | ok t ws =>
                rw [q3] at oo
                obtain ⟨u, h', F', f4, f5, b1, b2, b3, b4⟩ := oo
                cases ws with
                | nil => trivial
                | cons w ws =>
                  cases ws with
                  | cons _ _ => trivial
                  | nil =>
                    have b3' : Ows cc h' F' [.ref m0] [w] f5 := by
                      have : pick [true] (U.ref m0 :: us) = [U.ref m0] := by cases us <;> rfl
                      rw [this] at b3; exact b3
                    cases b3' with
                    | @cons _ _ _ _ fw _ b6 b5 =>
                      cases b5
                      obtain ⟨fp', d1, d2⟩ := a5 rfl h' F' w fw (b4.stab srp.left) (b4.kept sr3) b6
                      refine ⟨u, h', F', f4, fp', b1, b2, d1, ?_, fun z => by cases z⟩
                      refine ((b4.hold sr3).permL (List.perm_append_comm.trans a4.symm)).perm ?_
                      have : (k2 ++ (f4 ++ (fw ++ []))).Perm (f4 ++ (fw ++ k2)) := by
                        rw [List.append_nil]
                        exact perm_mid.trans (List.perm_append_comm.append_left f4)
                      exact this.trans (d2.symm.append_left f4)
            | _ => trivial
      | _ => trivial) rp_nil
theorem sim_make {C n : Nat} {sem : Sem'} {ps : PSem} (ok : SimF cc [true] sem ps) {am : AM} {pa : PDs} (a : Sim cc q (RDs cc) am pa) : Sim cc q (RT cc) (Q.mMake (cc C) n sem am) (pMake C n ps pa) := fun h F env e fp x sr =>
  Out.bind0 sr (a h F env e fp x sr) (fun us ds h1 F1 e1 f2 r1 x1 sr1 st sm => by
    by_cases z : ds.length + 1 = n
    case neg => rw [if_neg z]; trivial
    rw [if_pos z, if_pos (by rw [r1.2.len]; exact z)]
    have sta := Stab.app sr1 [O.ins (cc C) []]
    have fra := Fr.app sr1 (O.ins (cc C) [])
    have x2 := x1.mono sta (Keep.app sr1 _)
    have nw : Ow cc (h1 ++ [O.ins (cc C) []]) F1 (.ref h1.length) (.is C []) [h1.length] := .is (us := []) (by rw [List.getElem?_append_right (Nat.le_refl _), Nat.sub_self]; rfl) rfl .nil
    have rr : Ows cc (h1 ++ [O.ins (cc C) []]) F1 (.ref h1.length :: us) (.is C [] :: ds.map .leaf) [h1.length] := by
      have := Ows.cons nw (r1.2.mono sta).ows
      simpa using this
    have srs : SR (h1 ++ [O.ins (cc C) []]) F1 ([h1.length] ++ f2) := fra.sr
    have o := call_out ok (fa := [h1.length]) x2 srs rr
    cases q1 : ps (.is C [] :: ds.map .leaf) with
    | bad => trivial
    | exc C y => trivial
    | ok t ws =>
      rw [q1] at o
      obtain ⟨u, h', F', f4, f5, a1, a2, a3, a4, a5, kf, _, a6⟩ := o
      cases t with
      | leaf dd =>
        cases dd with
        | non =>
          cases a2 with
          | leaf a2 =>
          cases a2
          cases ws with
          | nil => trivial
          | cons w ws =>
            cases ws with
            | cons _ _ => trivial
            | nil =>
              have a3 : Ows cc h' F' [.ref h1.length] [w] f5 := by
                have : pick [true] (U.ref h1.length :: us) = [U.ref h1.length] := by cases us <;> rfl
                rw [this] at a3; exact a3
              cases a3 with
              | @cons _ _ _ _ fw _ b3 b5 =>
                cases b5
                rw [List.append_nil] at a5
                rw [a1]
                refine ⟨_, h', F', fw, f2, rfl, b3, a4, fra.trans a5, fun _ k l => ?_⟩
                have : k < (h1 ++ [O.ins (cc C) []]).length := by simp; omega
                by_cases m : k ∈ f2
                · rw [kf k m, List.getElem?_append_left l]
                · have a7 := (fra.trans a5)
                  exact a7.eq k l m
        | _ => trivial
      | _ => trivial) rds_nil
/-! ### defs -/
theorem evs_of : ∀ {us : List U} {ts : List T} {fp : List Nat} (k : Nat), Ows cc h F us ts fp → Ev cc h F (us.map some ++ List.replicate k none) (ts ++ List.replicate k .hole) fp
  | _, _, _, 0, .nil => .nil
  | _, _, _, k + 1, .nil => by
    have r : Ev cc h F (([] : List U).map some ++ List.replicate k none) (([] : List T) ++ List.replicate k .hole) [] := evs_of k .nil
    exact Ev.cons (o := none) (t := .hole) (f1 := []) (f2 := []) ⟨rfl, rfl⟩ r
  | _, _, _, k, .cons (f1 := f1) (f2 := f2) x r => .cons (o := some _) x (evs_of k r)
/-- what the mask keeps -/
theorem ev_pick : ∀ {m : List Bool} {env : Env'} {e : Env} {fp : List Nat} {us : List U}, Ev cc h F env e fp → pick m env = (pick m us).map some → ∃ f, Ows cc h F (pick m us) (pick m e) f ∧ f.Sublist fp
  | [], env, e, fp, us, x, k => by
    have e1 : pick ([] : List Bool) us = [] := by simp [pick]
    have e2 : pick ([] : List Bool) e = [] := by simp [pick]
    rw [e1, e2]
    exact ⟨[], .nil, List.nil_sublist _⟩
  | b :: m, _, _, _, us, .nil, k => by
    have e2 : pick (b :: m) ([] : Env) = [] := by cases b <;> simp [pick]
    have e3 : pick (b :: m) ([] : Env') = [] := by cases b <;> simp [pick]
    rw [e3] at k
    have e1 : pick (b :: m) us = [] := List.map_eq_nil_iff.mp k.symm
    rw [e1, e2]
    exact ⟨[], .nil, List.nil_sublist _⟩
  | false :: m, _, _, _, us, .cons (env := env0) (f1 := f1) (f2 := f2) x r, k => by
    cases us with
    | nil =>
      have e1 : pick (false :: m) ([] : List U) = [] := by simp [pick]
      rw [e1] at k ⊢
      simp only [pick] at k ⊢
      have k2 : pick m env0 = (pick m ([] : List U)).map some := by
        have : pick m ([] : List U) = [] := by cases m with
          | nil => simp [pick]
          | cons b m => cases b <;> simp [pick]
        rw [this]; exact k
      obtain ⟨f, a, b⟩ := ev_pick r k2
      have : pick m ([] : List U) = [] := by cases m with
        | nil => simp [pick]
        | cons b m => cases b <;> simp [pick]
      rw [this] at a
      exact ⟨f, a, b.trans (List.sublist_append_right _ _)⟩
    | cons u us =>
      simp only [pick] at k ⊢
      obtain ⟨f, a, b⟩ := ev_pick r k
      exact ⟨f, a, b.trans (List.sublist_append_right _ _)⟩
  | true :: m, _, _, _, us, .cons (o := o) (t := t) (f1 := f1) (f2 := f2) x r, k => by
    cases us with
    | nil => simp [pick] at k
    | cons u us =>
      simp only [pick, List.map_cons, List.cons.injEq] at k ⊢
      obtain ⟨rfl, k⟩ := k
      obtain ⟨f, a, b⟩ := ev_pick r k
      exact ⟨f1 ++ f, .cons x a, b.append_left f1⟩
theorem pick_map : ∀ {m : List Bool} {us : List U} {k : Nat}, m.length ≤ us.length → pick m (us.map some ++ List.replicate k none) = (pick m us).map some
  | [], us, k, _ => by simp [pick]
  | b :: m, [], k, l => by simp at l
  | true :: m, u :: us, k, l => by
    have := pick_map (m := m) (us := us) (k := k) (by simpa using l)
    simp [pick, this]
  | false :: m, u :: us, k, l => by
    have := pick_map (m := m) (us := us) (k := k) (by simpa using l)
    simp [pick, this]
theorem simF_fn {n : Nat} {mask : List Bool} {mb : SM} {pb : PS} (a : SimS cc mask mb pb) : SimF cc mask (Q.fnM n mb) (pFn n mask pb) := fun h F us ts fp r sr => by
  by_cases hl : mask.length ≤ us.length
  · have x := evs_of (n - us.length) r
    rw [r.len] at x
    have o := a h F _ _ fp x sr
    rw [← r.len] at o
    have kp : ∀ {env' : Env'}, Kp mask (us.map some ++ List.replicate (n - us.length) none) env' → pick mask env' = (pick mask us).map some := fun k => k.trans (pick_map hl)
    unfold pFn Q.fnM
    rw [if_pos (by rw [← r.len]; exact hl)]
    rw [r.len] at o ⊢
    cases q1 : pb (ts ++ List.replicate (n - ts.length) .hole) with
    | bad => trivial
    | bk e1 => trivial
    | ct e1 => trivial
    | nx e1 =>
      rw [q1] at o
      obtain ⟨env', h', F', f2, a1, a2, a3, a4⟩ := o
      rw [← r.len] at a4
      obtain ⟨f, b1, b2⟩ := ev_pick a2 (kp a4)
      exact ⟨.non, h', F', [], f, by rw [a1], .leaf .non, b1, a3.sub b2⟩
    | rt t e1 =>
      rw [q1] at o
      obtain ⟨u, env', h', F', f1, f2, a1, a2, a3, a4, a5⟩ := o
      rw [← r.len] at a5
      obtain ⟨f, b1, b2⟩ := ev_pick a3 (kp a5)
      exact ⟨u, h', F', f1, f, by rw [a1], a2, b1, a4.sub (b2.append_left f1)⟩
    | ex C y e1 =>
      rw [q1] at o
      obtain ⟨m, env', h', F', f2, a1, a2, a3, a4, a5⟩ := o
      exact ⟨m, h', F', by rw [a1], a3.sub (List.nil_sublist _), a4⟩
  · unfold pFn
    rw [if_neg (by rw [← r.len]; exact hl)]
    trivial
theorem simF_bad {mask : List Bool} {sem : Sem'} : SimF cc mask sem (fun _ => .bad) := fun _ _ _ _ _ _ _ => trivial
/-! ### the end -/
theorem sem_true {sem : Sem'} {ps : PSem} (ok : SimF cc [] sem ps) (ht : ∀ ns : List Int, ns.length ≤ 63 → ∃ ws, ps [.leaf (.kl (ns.map .int))] = .ok (.leaf (.bl true)) ws) : Q.semTrue sem := fun ns hl => by
  obtain ⟨ws, e⟩ := ht ns hl
  have dn : Dns cc [] (fun _ => False) (ns.map U.int) (ns.map D.int) := by
    have : ∀ l : List Int, Dns cc [] (fun _ => False) (l.map U.int) (l.map D.int) := fun l => by
      induction l with
      | nil => exact .nil
      | cons x r ih => exact .cons (.int _) ih
    exact this ns
  have o := ok [] (fun _ => False) [.kl (ns.map U.int)] [.leaf (.kl (ns.map .int))] [] (.cons (f1 := []) (f2 := []) (.leaf (.kl dn)) .nil) ⟨List.nodup_nil, (fun _ m => nomatch m), (fun _ m => nomatch m), (fun _ m => m.elim)⟩
  rw [e] at o
  obtain ⟨u, h', F', f1, f2, a1, a2, _⟩ := o
  cases a2 with
  | leaf a2 =>
    cases a2
    exact ⟨h', a1⟩
end
end P

set_option Elab.async false
set_option linter.all false
set_option maxRecDepth 100000
set_option maxHeartbeats 1000000
/-! PS13: things that are only looked at during a call. -/
namespace P
open Q (U O Sto Env' R RS EM TM AM SM Sem')
section
variable {cc : Nat → Nat} {h h' h1 h2 : Sto} {F F' F1 F2 : Nat → Prop} {u v : U} {d : D} {us : List U} {ds : List D} {t : T} {ts : List T} {f f1 f2 fp fp' fp1 fp2 : List Nat} {env env' : Env'} {e e' : Env} {i : Nat} {q s s1 s2 : Bool}
  {α β γ δ : Type} {mk : List Bool}
theorem sim_yes : Sim cc q RE Q.bYes tYes := fun h F env e fp x sr => Out.ret0 ⟨rfl, rfl⟩ x sr
/-- a call with data, where what is in fb is lent -/
theorem lent_out {mask : List Bool} {sem : Sem'} {ps : PSem} (ok : SimF cc mask sem ps) {us : List U} {ts : List T} {fb : List Nat} (x : Ev cc h F env e fp) (sr : SR h F fp) (sub : ∀ n ∈ fb, n ∈ fp) (r : Ows cc h (fun n => F n ∨ n ∈ fb) us ts []) :
    match ps ts with
    | .ok t _ => t.flat = true → ∃ u h' f1, sem us h = .ok u h' ∧ Ow cc h' F u t f1 ∧ Ev cc h' F env e fp ∧ Fr h F fp h' F (f1 ++ fp) ∧ Sm h h'
    | .exc C none => ∃ n h', sem us h = .exc (cc C) n h' ∧ Ev cc h' F env e fp ∧ Fr h F fp h' F fp ∧ Xd cc h' F n none
    | _ => True := by
  have srF : SR h (fun n => F n ∨ n ∈ fb) [] := ⟨List.nodup_nil, (fun _ m => nomatch m), (fun _ m => nomatch m), fun n y => y.elim (sr.Fl n) fun m => sr.lt n (sub n m)⟩
  have o := ok h _ us ts [] r srF
  have keepAll : ∀ {h' : Sto} {F' : Nat → Prop} {f : List Nat}, Fr h (fun n => F n ∨ n ∈ fb) [] h' F' f → Sm h h' := fun fr n l => fr.eq n l (by simp)
  cases q1 : ps ts with
  | bad => trivial
  | exc C y =>
    rw [q1] at o
    obtain ⟨n, h', F', a1, a2, a3⟩ := o
    cases y with
    | some y => trivial
    | none =>
      have sm := keepAll a2
      have st : Stab h F h' F := ⟨fun _ y => y, fun n y => sm n (sr.Fl n y)⟩
      have n0 : n = none := by cases n with
        | none => rfl
        | some n => exact a3.elim
      subst n0
      exact ⟨none, h', a1, x.mono st (fun n m => sm n (sr.lt n m)), ⟨a2.len, fun n l _ => sm n l, fun _ y => y, fun _ y => .inl y, fun _ y => .inl y, ⟨sr.nd, fun n m => Nat.lt_of_lt_of_le (sr.lt n m) a2.len, sr.fF, fun n y => Nat.lt_of_lt_of_le (sr.Fl n y) a2.len⟩⟩, trivial⟩
  | ok t ws =>
    rw [q1] at o
    obtain ⟨u, h', F', f1, f2, a1, a2, a3, a4⟩ := o
    intro fl
    have sm := keepAll a4
    have st : Stab h F h' F := ⟨fun _ y => y, fun n y => sm n (sr.Fl n y)⟩
    have nw : ∀ n ∈ f1, h.length ≤ n := fun n m => by
      rcases a4.own n (List.mem_append_left _ m) with y | y
      · cases y
      · exact y
    refine ⟨u, h', f1, a1, a2.flt fl F, x.mono st (fun n m => sm n (sr.lt n m)), ?_, sm⟩
    refine ⟨a4.len, fun n l _ => sm n l, fun _ y => y, fun _ y => .inl y, fun n m => ?_, ?_⟩
    · rcases List.mem_append.mp m with m | m
      · exact .inr (nw n m)
      · exact .inl m
    · refine ⟨List.nodup_append.mpr ⟨a4.sr.left.nd, sr.nd, fun a ha b hb z => ?_⟩, fun n m => ?_, fun n m y => ?_, fun n y => Nat.lt_of_lt_of_le (sr.Fl n y) a4.len⟩
      · subst z
        exact absurd (sr.lt a hb) (by have := nw a ha; omega)
      · rcases List.mem_append.mp m with m | m
        · exact a4.sr.lt n (List.mem_append_left _ m)
        · exact Nat.lt_of_lt_of_le (sr.lt n m) a4.len
      · rcases List.mem_append.mp m with m | m
        · exact absurd (sr.Fl n y) (by have := nw n m; omega)
        · exact sr.fF n m y
theorem sim_callB {n k i : Nat} {mask : List Bool} {sem : Sem'} {ps : PSem} (ok : SimF cc mask sem ps) {am : AM} {pa : PDs} (a : SimAV cc q i k am pa) : Sim cc q (RT cc) (Q.mCall n sem am) (pCallB n k i ps pa) := fun h F env e fp x sr => by
  unfold pCallB
  split
  · trivial
  · trivial
  rename_i s0 nh0 q0
  obtain ⟨v, hv⟩ := slot_val x q0 nh0
  refine Out.bind0 sr (a h F env e fp v x sr hv) (fun us ds h1 F1 e1 f2 r1 x1 sr1 st sm => ?_) rav_nil
  obtain ⟨_, us1, us2, ds1, ds2, rfl, rfl, rfl, y1, y2⟩ := r1
  cases q1 : e1[i]? with
  | none => trivial
  | some s =>
    simp only
    cases qf : s.fz with
    | none => trivial
    | some sd =>
      simp only
      by_cases z : (ds1 ++ ds2).length + 1 = n ∧ us1.length ≤ (ds1 ++ ds2).length
      case neg => rw [if_neg z]; trivial
      rw [if_pos z, if_pos (by have := y1.len; have := y2.len; simp at z ⊢; omega)]
      obtain ⟨o, g1, g2, c1, c2, c3, c4⟩ := x1.at q1
      rw [hv] at c1; cases c1
      have ts : insT us1.length (.leaf sd) (ds1 ++ ds2) = ds1.map .leaf ++ .leaf sd :: ds2.map .leaf := by rw [y1.len]; exact insT_eq
      rw [ts]
      have stg : Stab h1 F1 h1 (fun n => F1 n ∨ n ∈ g1) := Stab.freeze g1
      have dn := Ow.frz c2 qf (fun n => F1 n ∨ n ∈ g1) (fun _ y => .inl y) (fun _ y => .inr y)
      have rr := rav_ows (y1.mono stg) (y2.mono stg) (.leaf dn)
      have o := lent_out ok x1 sr1 (fun n m => c3.mem_iff.mpr (List.mem_append_left _ m)) rr
      cases q2 : ps (ds1.map .leaf ++ .leaf sd :: ds2.map .leaf) with
      | bad => trivial
      | exc C y =>
        cases y with
        | some y => trivial
        | none =>
          rw [q2] at o
          obtain ⟨m, h', b1, b2, b3, b4⟩ := o
          exact ⟨m, h', F1, f2, b1, b2, b3, b4⟩
      | ok t ws =>
        rw [q2] at o
        show Out cc q (RT cc) h1 F1 f2 env _ (if t.flat = true then .ok t e1 else .bad)
        by_cases fl : t.flat = true
        case neg => rw [if_neg fl]; trivial
        rw [if_pos fl]
        obtain ⟨u, h', f3, b1, b2, b3, b4, b5⟩ := o fl
        exact ⟨u, h', F1, f3, f2, b1, b2, b3, b4, fun _ => b5⟩
theorem sim_methB {C n : Nat} {g : String} {mask : List Bool} {sem : Sem'} {ps : PSem} (ok : SimF cc mask sem ps) {m : EM} {p : Pth} {am : AM} {pa : PDs} (ap : SimP cc m p) (a : Sim cc q (RDs cc) am pa) (z : p.isVar = true ∨ q = true) : Sim cc false (RT cc) (Q.mMeth (cc C) (fs' g) n sem m am) (pMethB C g n ps p pa) := fun h F env e fp x sr =>
  Out.bind0 sr (Out.anyQ (ap h F env e fp x sr)) (fun u r h1 F1 e1 f2 r1 x1 sr1 st sm => by
    obtain ⟨_, ⟨o, b1, b2⟩, b3⟩ := r1
    cases q1 : getP p.root r e1 with
    | none => trivial
    | some t =>
      cases t with
      | is C1 fs =>
        simp only
        by_cases zC : C1 = C ∧ fs.lookup g = none
        case neg => rw [if_neg zC]; trivial
        rw [if_pos zC]
        obtain ⟨rfl, zC⟩ := zC
        obtain ⟨o', v, g1, g2, c1, c2, c3, c4, c5⟩ := x1.pt q1 (fun z => by cases z)
        rw [b1] at c1; cases c1
        rw [b2] at c2; cases c2
        cases c3 with
        | @is m0 _ us0 _ fpi en k rr =>
          simp only [insU_is en]
          rw [if_pos ⟨trivial, look_none k zC⟩]
          refine Out.bind0 sr1 (path_later b2 b3 z (a h1 F1 env e1 f2 x1 sr1)) (fun us ds h2 F2 e2 f3 r2 x2 sr2 st2 sm2 => ?_) (fun _ _ _ _ _ x => x.1.1)
          obtain ⟨r2, b2⟩ := r2
          cases q2 : getP p.root r e2 with
          | none => trivial
          | some t =>
            cases t with
            | is C2 fs2 =>
              simp only
              cases qf : (T.is C2 fs2).fz with
              | none => trivial
              | some sd =>
                simp only
                by_cases z : ds.length + 1 = n
                case neg => rw [if_neg z]; trivial
                rw [if_pos z, if_pos (by rw [r2.2.len]; exact z)]
                obtain ⟨o2, v2, k1, k2, a1, a2, a3, a4, a5⟩ := x2.pt q2 (fun z => by cases z)
                rw [b1] at a1; cases a1
                rw [b2] at a2; cases a2
                have stg : Stab h2 F2 h2 (fun n => F2 n ∨ n ∈ k1) := Stab.freeze k1
                have dn := Ow.frz a3 qf (fun n => F2 n ∨ n ∈ k1) (fun _ y => .inl y) (fun _ y => .inr y)
                have o := lent_out ok x2 sr2 (fun n m => a4.mem_iff.mpr (List.mem_append_left _ m)) (.cons (f1 := []) (f2 := []) (.leaf dn) (r2.2.mono stg).ows)
                cases q3 : ps (.leaf sd :: ds.map .leaf) with
                | bad => trivial
                | exc C y =>
                  cases y with
                  | some y => trivial
                  | none =>
                    rw [q3] at o
                    obtain ⟨m, h', b1, b2, b3, b4⟩ := o
                    exact ⟨m, h', F2, f3, b1, b2, b3, b4⟩
                | ok t ws =>
                  rw [q3] at o
                  show Out cc false (RT cc) h2 F2 f3 env _ (if t.flat = true then .ok t e2 else .bad)
                  by_cases fl : t.flat = true
                  case neg => rw [if_neg fl]; trivial
                  rw [if_pos fl]
                  obtain ⟨u, h', f4, b1, b2, b3, b4, b5⟩ := o fl
                  exact ⟨u, h', F2, f4, f3, b1, b2, b3, b4, fun _ => b5⟩
            | _ => trivial
      | _ => trivial) rp_nil
end
end P


set_option Elab.async false
set_option linter.all false
set_option maxRecDepth 100000
set_option maxHeartbeats 1000000
/-! PSD: dicts. -/
namespace P
open Q (U O Sto Env' R RS EM TM AM SM Sem')
section
variable {cc : Nat → Nat} {h h' h1 h2 : Sto} {F F' F1 F2 : Nat → Prop} {u : U} {d : D} {t : T} {ts : List T} {f f1 f2 fp fp' fp1 fp2 : List Nat} {env env' : Env'} {e e' : Env} {q s s1 s2 : Bool} {mk : List Bool}
theorem keyU_of {k : DK} (x : Dn cc h F u d) (e : keyOf d = some k) : Q.keyU u = some k := by
  cases x <;> simp only [keyOf] at e <;> cases e <;> rfl
theorem keyU_tp {k : DK} (x : Tp cc h F u d) (e : keyOf d = some k) : Q.keyU u = some k := by
  cases d <;> simp only [keyOf] at e <;> first | exact keyU_of (show Dn cc h F u _ from x) (by simpa only [keyOf] using e) | cases e
theorem val_rel (k : DK) : ∀ {us : List (Q.DK × U)} {ds : List (DK × D)}, us.map Prod.fst = ds.map Prod.fst → Dns cc h F (us.map Prod.snd) (ds.map Prod.snd) →
    (∃ u d, Q.valD us k = some u ∧ valK ds k = some d ∧ Dn cc h F u d) ∨ (Q.valD us k = none ∧ valK ds k = none)
  | [], [], _, _ => .inr ⟨rfl, rfl⟩
  | [], _ :: _, a, _ => by simp at a
  | _ :: _, [], a, _ => by simp at a
  | (i, u) :: us, (j, d) :: ds, a, r => by
    rw [List.map_cons, List.map_cons] at a r
    cases r with
    | cons x r =>
      injection a with a1 a2
      cases a1
      unfold Q.valD valK
      by_cases z : i = k
      · rw [if_pos z, if_pos z]; exact .inl ⟨u, d, rfl, rfl, x⟩
      · rw [if_neg z, if_neg z]; exact val_rel k a2 r
theorem val_some {k : DK} {us : List (Q.DK × U)} {ds : List (DK × D)} (a : us.map Prod.fst = ds.map Prod.fst) (r : Dns cc h F (us.map Prod.snd) (ds.map Prod.snd)) : (Q.valD us k).isSome = (valK ds k).isSome := by
  rcases val_rel k a r with ⟨u, d, e1, e2, _⟩ | ⟨e1, e2⟩ <;> rw [e1, e2] <;> rfl
theorem rep_rel (k : DK) (x : Dn cc h F u d) : ∀ {us : List (Q.DK × U)} {ds : List (DK × D)}, us.map Prod.fst = ds.map Prod.fst → Dns cc h F (us.map Prod.snd) (ds.map Prod.snd) →
    (Q.repD us k u).map Prod.fst = (repK ds k d).map Prod.fst ∧ Dns cc h F ((Q.repD us k u).map Prod.snd) ((repK ds k d).map Prod.snd)
  | [], [], _, _ => ⟨rfl, .nil⟩
  | [], _ :: _, a, _ => by simp at a
  | _ :: _, [], a, _ => by simp at a
  | (i, u2) :: us, (j, d2) :: ds, a, r => by
    rw [List.map_cons, List.map_cons] at a r
    cases r with
    | cons x2 r =>
      injection a with a1 a2
      cases a1
      obtain ⟨b1, b2⟩ := rep_rel k x a2 r
      unfold Q.repD repK
      by_cases z : i = k
      · rw [if_pos z, if_pos z, List.map_cons, List.map_cons, List.map_cons, List.map_cons, b1]; exact ⟨rfl, .cons x b2⟩
      · rw [if_neg z, if_neg z, List.map_cons, List.map_cons, List.map_cons, List.map_cons, b1]; exact ⟨rfl, .cons x2 b2⟩
theorem dns_app' : ∀ {us ws : List U} {ds es : List D}, Dns cc h F us ds → Dns cc h F ws es → Dns cc h F (us ++ ws) (ds ++ es)
  | _, _, _, _, .nil, s => s
  | _, _, _, _, .cons x r, s => .cons x (dns_app' r s)
theorem put_rel (k : DK) (x : Dn cc h F u d) {us : List (Q.DK × U)} {ds : List (DK × D)} (a : us.map Prod.fst = ds.map Prod.fst) (r : Dns cc h F (us.map Prod.snd) (ds.map Prod.snd)) :
    (Q.putD us k u).map Prod.fst = (putK ds k d).map Prod.fst ∧ Dns cc h F ((Q.putD us k u).map Prod.snd) ((putK ds k d).map Prod.snd) := by
  unfold Q.putD putK
  rw [val_some a r]
  split
  · exact rep_rel k x a r
  · rw [List.map_append, List.map_append, List.map_append, List.map_append, a]; exact ⟨rfl, dns_app' r (.cons x .nil)⟩
theorem aDK_ref {n : Nat} {us : List (Q.DK × U)} (e : h[n]? = some (.dK us)) : Q.aDK h (.ref n) = some us := by simp only [Q.aDK, e]
theorem aDK_refl {n : Nat} {us : List (Q.DK × U)} (e : h[n]? = some (.dKl us)) : Q.aDK h (.ref n) = some us := by simp only [Q.aDK, e]
/-- a dict, locked or not -/
theorem tp_dk {kvs : List (DK × D)} (x : Tp cc h F u (.dK kvs) ∨ Tp cc h F u (.dKl kvs)) : ∃ us, Q.aDK h u = some us ∧ us.map Prod.fst = kvs.map Prod.fst ∧ Dns cc h F (us.map Prod.snd) (kvs.map Prod.snd) := by
  rcases x with x | x
  · obtain ⟨n, us, rfl, b, c, r⟩ := x; exact ⟨us, aDK_ref b, c, r⟩
  · have x : Dn cc h F u (.dKl kvs) := x
    cases x with | dKl f e k r => exact ⟨_, aDK_refl e, k, r⟩
theorem op_dget : OpB cc Q.uDGet gDGet (RD cc) := by
  intro q h F fp env e u1 d1 u2 d2 x sr t1 t2
  have go : ∀ {kvs : List (DK × D)}, (Tp cc h F u1 (.dK kvs) ∨ Tp cc h F u1 (.dKl kvs)) → Out cc q (RD cc) h F fp env (Q.uDGet u1 u2 h) (oE ((keyOf d2).bind fun k => valK kvs k) e) := fun {kvs} t => by
    obtain ⟨us, b, c, r⟩ := tp_dk t
    cases e1 : keyOf d2 with
    | none => trivial
    | some k =>
      unfold Q.uDGet
      rw [b, keyU_tp t2 e1]
      rcases val_rel k c r with ⟨u, d, e2, e3, z⟩ | ⟨e2, e3⟩
      · simp only [e2, Option.bind, e3]
        exact Out.ret0 ⟨rfl, z⟩ x sr
      · simp only [Option.bind, e3]
        trivial
  unfold gDGet
  split
  · exact go (.inl t1)
  · exact go (.inr t1)
  · trivial
theorem cmp_din : CmpD cc Q.cDIn cDIn := fun h F u1 d1 u2 d2 b t1 t2 e => by
  have go : ∀ {kvs : List (DK × D)}, (Tp cc h F u2 (.dK kvs) ∨ Tp cc h F u2 (.dKl kvs)) → ((keyOf d1).map fun k => (valK kvs k).isSome) = some b → Q.cDIn h u1 u2 = some b := fun {kvs} t e => by
    obtain ⟨us, c1, c2, r⟩ := tp_dk t
    cases e1 : keyOf d1 with
    | none => rw [e1] at e; cases e
    | some k =>
      rw [e1] at e
      cases e
      unfold Q.cDIn
      rw [c1, keyU_tp t1 e1]
      simp only [val_some c2 r]
  unfold cDIn at e
  split at e
  · exact go (.inl t2) e
  · exact go (.inr t2) e
  · cases e
theorem cmp_dnin : CmpD cc Q.cDNin cDNin := fun h F u1 d1 u2 d2 b t1 t2 e => by
  unfold cDNin at e
  cases e1 : cDIn d1 d2 with
  | none => rw [e1] at e; cases e
  | some k =>
    rw [e1] at e
    cases e
    have := cmp_din h F u1 d1 u2 d2 k t1 t2 e1
    unfold Q.cDIn at this
    unfold Q.cDNin
    split at this
    · cases this; rfl
    · cases this
theorem op_dlen : OpL cc s Q.uDLen gDLen (RD cc) := by
  intro q h F fp env e us ds x sr r
  have go : ∀ {kvs : List (DK × D)} {u : U}, (Tp cc h F u (.dK kvs) ∨ Tp cc h F u (.dKl kvs)) → Out cc q (RD cc) h F fp env (Q.uDLen [u] h) (.ok (.int kvs.length) e) := fun {kvs u} t => by
    obtain ⟨us, b, c, r⟩ := tp_dk t
    unfold Q.uDLen
    simp only [b]
    rw [show us.length = kvs.length by simpa using congrArg List.length c]
    exact Out.ret0 ⟨rfl, .int _⟩ x sr
  unfold gDLen
  split
  · obtain ⟨u, rfl, t⟩ := ra_one r; exact go (.inl t)
  · obtain ⟨u, rfl, t⟩ := ra_one r; exact go (.inr t)
  · trivial
theorem out_newK {us : List (Q.DK × U)} {ds : List (DK × D)} (x : Ev cc h F env e fp) (sr : SR h F fp) (k : us.map Prod.fst = ds.map Prod.fst) (r : Dns cc h F (us.map Prod.snd) (ds.map Prod.snd)) : Out cc q (RT cc) h F fp env (.ok (.ref h.length) (h ++ [.dK us])) (.ok (.dK ds) e) := by
  have st := Stab.app sr [O.dK us]
  exact ⟨_, _, F, [h.length], fp, rfl, .dK (by rw [List.getElem?_append_right (Nat.le_refl _), Nat.sub_self]; rfl) k (r.mono st), x.mono st (Keep.app sr _), Fr.app sr _, fun _ => Sm.app h _⟩
theorem sim_dnew : Sim cc q (RT cc) Q.mDNew pDNew := fun h F env e fp x sr => out_newK (us := []) (ds := []) x sr rfl .nil
theorem op_dcopy : OpL cc s Q.uDCopy gDCopy (RT cc) := by
  intro q h F fp env e us ds x sr r
  have go : ∀ {kvs : List (DK × D)} {u : U}, (Tp cc h F u (.dK kvs) ∨ Tp cc h F u (.dKl kvs)) → Out cc q (RT cc) h F fp env (Q.uDCopy [u] h) (.ok (.dK kvs) e) := fun {kvs u} t => by
    obtain ⟨us, b, c, r⟩ := tp_dk t
    unfold Q.uDCopy
    simp only [b]
    exact out_newK x sr c r
  unfold gDCopy
  split
  · obtain ⟨u, rfl, t⟩ := ra_one r; exact go (.inl t)
  · obtain ⟨u, rfl, t⟩ := ra_one r; exact go (.inr t)
  · trivial
theorem ss_setK {m mi me : EM} {p : Pth} {pi pa : PE} (ap : SimP cc m p) (b : Sim cc q (RD cc) mi pi) (a : Sim cc s (RD cc) me pa) (z : p.isVar = true ∨ q = true) : SimS cc mk (Q.mSetI Q.uDSet m mi me) (sSetK p pi pa) := fun h F env e fp x sr =>
  OutS.st0 sr (a h F env e fp x sr) (fun ud d h1 F1 e1 f1 r1 x1 sr1 st1 sm1 => OutS.stP ap x1 sr1 fun u r h2 F2 e2 f2 ⟨o, b1, b2⟩ b3 x2 sr2 st2 =>
    OutS.st0 sr2 (path_later b2 b3 z (b h2 F2 env e2 f2 x2 sr2)) (fun ui di h3 F3 e3 f3 r3 x3 sr3 st3 sm3 => by
      obtain ⟨⟨_, r3⟩, b2⟩ := r3
      cases q0 : keyOf di with
      | none => trivial
      | some k =>
        cases q1 : getP p.root r e3 with
        | none => trivial
        | some t =>
          cases t with
          | dK xs =>
            obtain ⟨o', v, g1, g2, c1, c2, c3, c4, c5⟩ := x3.pt q1 (fun z => by cases z)
            rw [b1] at c1; cases c1
            rw [b2] at c2; cases c2
            cases c3 with
            | @dK n ys _ en kk rr =>
              have ql : ys.length = xs.length := by simpa using congrArg List.length kk
              show OutS cc mk h3 F3 f3 env (match Q.uDSet (.ref n) ui ud h3 with | some h4 => RS.nx env h4 | none => .bad) (if xs.length < 16000000 then .nx (setP p.root r (.dK (putK xs k d)) e3) else .bad)
              by_cases q2 : xs.length < 16000000
              · unfold Q.uDSet
                rw [if_pos q2]
                simp only [en, keyU_of r3 q0]
                rw [if_pos (by rw [ql]; exact q2)]
                have sr4 := sr3.perm c4
                have stn := Stab.set sr4 (List.mem_append_left _ (List.mem_singleton.mpr rfl)) (O.dK (Q.putD ys k ud))
                obtain ⟨k1, k2⟩ := put_rel k (r1.2.mono (st2.trans st3)) kk rr
                exact outS_set sr3 c4 (List.mem_singleton.mpr rfl) (c5 rfl) (.dK (by rw [List.getElem?_set_self (List.getElem?_eq_some_iff.mp en).1]) k1 (k2.mono stn)) (List.Sublist.refl _)
              · rw [if_neg q2]; trivial
          | _ => trivial) (fun _ _ _ _ _ x => x.1.1)) rd_nil
theorem pairs_rel : ∀ {us : List U} {ds : List D} {kvs : List (DK × D)}, Dns cc h F us ds → pairsK ds = some kvs → ∃ ws, Q.pairsD us = some ws ∧ ws.map Prod.fst = kvs.map Prod.fst ∧ Dns cc h F (ws.map Prod.snd) (kvs.map Prod.snd)
  | _, [], _, .nil, e => by cases e; exact ⟨[], rfl, rfl, .nil⟩
  | _, [_], _, _, e => by cases e
  | _, k :: v :: r, _, .cons rk (.cons rv rr), e => by
    simp only [pairsK] at e
    split at e
    · rename_i k2 kvs e1 e2
      cases e
      obtain ⟨ws, a, b, c⟩ := pairs_rel rr e2
      refine ⟨(k2, _) :: ws, ?_, by rw [List.map_cons, List.map_cons, b], .cons rv c⟩
      simp only [Q.pairsD, keyU_of rk e1, a]
    · cases e
theorem merge_rel : ∀ {ws : List (Q.DK × U)} {kvs : List (DK × D)} {us : List (Q.DK × U)} {ds : List (DK × D)}, ws.map Prod.fst = kvs.map Prod.fst → Dns cc h F (ws.map Prod.snd) (kvs.map Prod.snd) → us.map Prod.fst = ds.map Prod.fst → Dns cc h F (us.map Prod.snd) (ds.map Prod.snd) →
    (Q.mergeD us ws).map Prod.fst = (mergeP ds kvs).map Prod.fst ∧ Dns cc h F ((Q.mergeD us ws).map Prod.snd) ((mergeP ds kvs).map Prod.snd)
  | [], [], _, _, _, _, a, b => ⟨a, b⟩
  | [], _ :: _, _, _, k, _, _, _ => by simp at k
  | _ :: _, [], _, _, k, _, _, _ => by simp at k
  | (i, u) :: ws, (j, d) :: kvs, us, ds, k, r, a, b => by
    rw [List.map_cons, List.map_cons] at k r
    injection k with k1 k2
    cases k1
    cases r with
    | cons x r =>
      obtain ⟨c1, c2⟩ := put_rel i x a b
      exact merge_rel (ws := ws) (kvs := kvs) (us := Q.putD us i u) (ds := putK ds i d) k2 r c1 c2
theorem sim_disp {am : AM} {pa : PDs} (a : Sim cc q (RDs cc) am pa) : Sim cc q (RT cc) (Q.mDisp am) (pDisp pa) := fun h F env e fp x sr => by
  have sr0 : SR (h ++ [O.dK []]) F ([h.length] ++ fp) := SR.app sr _
  have o := (a (h ++ [O.dK []]) F env e fp (x.mono (Stab.app sr _) (Keep.app sr _)) sr0.right).hold sr0 (R3 := fun h' F' us ds f => ∃ f', f = [h.length] ++ f' ∧ f' = [] ∧ Dns cc h' F' us ds ∧ h'[h.length]? = some (.dK []))
    (fun us ds h' F' f' r st k => ⟨f', rfl, r.1, r.2, by rw [k _ (List.mem_singleton.mpr rfl), List.getElem?_append_right (Nat.le_refl _), Nat.sub_self]; rfl⟩)
  unfold Q.mDisp pDisp
  cases ep : pa e with
  | bad => trivial
  | exc C x e' =>
    rw [ep] at o
    obtain ⟨n, h', F', f2, a1, a2, a3, a4⟩ := o
    rw [a1]
    exact ⟨n, h', F', f2, rfl, a2, (Fr.app sr _).trans a3, a4⟩
  | ok ds e1 =>
    rw [ep] at o
    obtain ⟨us, h1, F1, f1, f2, a1, ⟨f', r0, r1, r2, r3⟩, x1, fr, sm⟩ := o
    subst r0 r1
    rw [List.append_nil] at *
    rw [a1]
    show Out cc q (RT cc) h F fp env (match Q.pairsD us, h1[h.length]? with | some kvs, some (.dK []) => if kvs.length ≤ 15 then .ok (.ref h.length) (h1.set h.length (.dK (Q.mergeD [] kvs))) else .bad | _, _ => .bad) (match pairsK ds with | some kvs => if kvs.length ≤ 15 then .ok (.dK (mergeP [] kvs)) e1 else .bad | none => .bad)
    cases q1 : pairsK ds with
    | none => trivial
    | some kvs =>
      obtain ⟨ws, b1, b2, b3⟩ := pairs_rel r2 q1
      have bl : ws.length = kvs.length := by simpa using congrArg List.length b2
      simp only [b1, r3]
      by_cases z : kvs.length ≤ 15
      · rw [if_pos z, if_pos (by rw [bl]; exact z)]
        have sr1 := fr.sr
        have st := Stab.set sr1 (List.mem_append_left _ (List.mem_singleton.mpr rfl)) (O.dK (Q.mergeD [] ws))
        obtain ⟨c1, c2⟩ := merge_rel (us := []) (ds := []) b2 b3 rfl .nil
        have nn : h.length ∉ f2 := fun m => (List.nodup_append.mp sr1.nd).2.2 _ (List.mem_singleton.mpr rfl) _ m rfl
        refine ⟨_, _, F1, [h.length], f2, rfl, .dK (by rw [List.getElem?_set_self (List.getElem?_eq_some_iff.mp r3).1]) c1 (c2.mono st), x1.mono st (Keep.set _ nn), ((Fr.app sr _).trans fr).trans (Fr.set sr1 (List.mem_append_left _ (List.mem_singleton.mpr rfl)) _), fun z k l => ?_⟩
        rw [List.getElem?_set_ne (by omega), sm z k (by simp; omega), List.getElem?_append_left l]
      · rw [if_neg z, if_neg (by rw [bl]; exact z)]; trivial
theorem keys_dns : ∀ {us : List (Q.DK × U)} {ds : List (DK × D)}, us.map Prod.fst = ds.map Prod.fst → Dns cc h F (us.map fun p => Q.dkU p.1) (ds.map fun p => dkD p.1)
  | [], [], _ => .nil
  | [], _ :: _, a => by simp at a
  | _ :: _, [], a => by simp at a
  | (i, u) :: us, (j, d) :: ds, a => by
    rw [List.map_cons, List.map_cons] at a
    injection a with a1 a2
    cases a1
    refine .cons ?_ (keys_dns a2)
    cases i with
    | inl i => exact .int i
    | inr s => exact .str s
theorem sim_ikv {i : Nat} : Sim cc false (RI cc) (Q.itKeys (Q.mVar i)) (iKv i) := fun h F env e fp x sr => by
  unfold iKv
  split
  · rename_i kvs q1
    obtain ⟨o, f1, f2, a1, a2, a3, a4⟩ := x.at q1
    cases o with
    | none => cases a2.1
    | some u =>
      cases a2 with
      | @dK n us _ en k r =>
        have sr' := sr.perm a3
        have mm : n ∈ [n] ++ f2 := List.mem_append_left _ (List.mem_singleton.mpr rfl)
        have nn : n ∉ f2 := fun m => (List.nodup_append.mp sr'.nd).2.2 _ (List.mem_singleton.mpr rfl) _ m rfl
        have st := Stab.set sr' mm (O.dKl us)
        have st2 := st.trans (Stab.freeze (h := h.set n (O.dKl us)) (F := F) [n])
        have en' : (h.set n (O.dKl us))[n]? = some (O.dKl us) := by rw [List.getElem?_set_self (List.getElem?_eq_some_iff.mp en).1]
        have dn : Dn cc (h.set n (O.dKl us)) (fun m => F m ∨ m ∈ [n]) (.ref n) (.dKl kvs) := .dKl (.inr (List.mem_singleton.mpr rfl)) en' k (r.mono st2)
        obtain ⟨fp', b1, b2⟩ := a4 _ _ (some (.ref n)) (.leaf (.dKl kvs)) [] st2 (Keep.set _ nn) (.leaf dn)
        rw [list_set_same a1] at b1
        have ev : Q.itKeys (Q.mVar i) env h = .ok ([], us.map fun p => Q.dkU p.1) (h.set n (O.dKl us)) := by
          unfold Q.itKeys Q.mLock
          rw [Q.e_var, a1]
          show R.bind (R.bind (R.ok (.ref n) h) Q.lockU) _ = _
          rw [Q.e_bind_ok]
          unfold Q.lockU
          simp only [en]
          rw [Q.e_bind_ok]
          simp only [aDK_refl en']
        rw [ev]
        exact ⟨_, _, _, [], fp', rfl, ⟨rfl, keys_dns k, fun _ m => nomatch m⟩, b1, (((Fr.set sr' mm _).trans (Fr.freeze (sr'.set _))).perm b2.symm).permL a3.symm, fun z => by cases z⟩
  · rename_i kvs q1
    obtain ⟨o, f1, f2, a1, a2, a3, a4⟩ := x.at q1
    cases o with
    | none => cases a2.1
    | some u =>
      cases a2 with
      | leaf dn =>
        cases dn with
        | @dKl n us _ f en k r =>
          have ev : Q.itKeys (Q.mVar i) env h = .ok ([], us.map fun p => Q.dkU p.1) h := by
            unfold Q.itKeys Q.mLock
            rw [Q.e_var, a1]
            show R.bind (R.bind (R.ok (.ref n) h) Q.lockU) _ = _
            rw [Q.e_bind_ok]
            unfold Q.lockU
            simp only [en]
            rw [Q.e_bind_ok]
            simp only [aDK_refl en]
          rw [ev]
          exact Out.ret0 (a := ([], _)) ⟨rfl, keys_dns k, fun _ m => nomatch m⟩ x sr
  · trivial
end
end P

set_option Elab.async false
set_option linter.all false
set_option maxRecDepth 100000
set_option maxHeartbeats 1000000
/-! PSE: more built-ins on lists. -/
namespace P
open Q (U O Sto Env' R RS EM TM AM SM Sem')
section
variable {cc : Nat → Nat} {h h' h1 h2 : Sto} {F F' F1 F2 : Nat → Prop} {u : U} {d : D} {us : List U} {ds : List D} {t : T} {ts : List T} {f f1 f2 fp fp' fp1 fp2 : List Nat} {env env' : Env'} {e e' : Env} {i : Nat} {q s s1 s2 : Bool}
/-- what leaves all as it was may stand anywhere -/
theorem Sim.qu {α β : Type} {Rel : Sto → (Nat → Prop) → α → β → List Nat → Prop} {m : Env' → Sto → R α} {p : Env → PR β} (a : Sim cc true Rel m p) : Sim cc q Rel m p := fun h F env e fp x sr => by
  have := a h F env e fp x sr
  unfold Out at this ⊢
  cases q1 : p e with
  | ok b e' => rw [q1] at this; obtain ⟨a, h', F', f1, f2, r1, r2, r3, r4, r5⟩ := this; exact ⟨a, h', F', f1, f2, r1, r2, r3, r4, fun _ => r5 rfl⟩
  | exc C z e' => rw [q1] at this; exact this
  | bad => trivial
theorem ints_of : ∀ {us : List U} {ds : List D} {ns : List Int}, Dns cc h F us ds → intsD ds = some ns → Q.intsU us = some ns
  | _, _, _, .nil, q => by cases q; rfl
  | _, _, ns, .cons (d := d) (ds := ds) x r, q => by
    cases x with
    | int i =>
      unfold intsD at q
      cases q1 : intsD ds with
      | none => rw [q1] at q; cases q
      | some ms =>
        rw [q1] at q; cases q
        unfold Q.intsU
        rw [ints_of r q1]; rfl
    | _ => cases q
theorem bls_of : ∀ {us : List U} {ds : List D} {ns : List Bool}, Dns cc h F us ds → blsD ds = some ns → Q.blsU us = some ns
  | _, _, _, .nil, q => by cases q; rfl
  | _, _, ns, .cons (d := d) (ds := ds) x r, q => by
    cases x with
    | bl i =>
      unfold blsD at q
      cases q1 : blsD ds with
      | none => rw [q1] at q; cases q
      | some ms =>
        rw [q1] at q; cases q
        unfold Q.blsU
        rw [bls_of r q1]; rfl
    | _ => cases q
theorem op_LI {f : List Int → Option Int} : OpL cc s (Q.uLI fun ns => (f ns).map U.int) (gLI f) (RD cc) := by
  intro q h F fp env e us ds x sr r
  have go : ∀ {u : U} {us : List U} {ds : List D}, Q.aL h u = some us → Dns cc h F us ds → Out cc q (RD cc) h F fp env (Q.uLI (fun ns => (f ns).map U.int) [u] h) (oE ((intsD ds).bind fun ns => (f ns).map D.int) e) := by
    intro u us ds a r
    cases q1 : intsD ds with
    | none => trivial
    | some ns =>
      cases q2 : f ns with
      | none => simp [q2]; trivial
      | some i =>
        unfold Q.uLI
        simp only [a, ints_of r q1, q2, Option.map, Option.bind]
        exact Out.ret0 ⟨rfl, .int _⟩ x sr
  unfold gLI
  split
  · obtain ⟨u, rfl, t⟩ := ra_one r; obtain ⟨us, a, r⟩ := t; exact go (aL_of_mL a) r
  · obtain ⟨u, rfl, t⟩ := ra_one r; cases t with | kl r => exact go rfl r
  · trivial
theorem op_LB {f : List Bool → Bool} : OpL cc s (Q.uLB fun bs => .bl (f bs)) (gLB f) (RD cc) := by
  intro q h F fp env e us ds x sr r
  unfold gLB
  split
  · rename_i ds
    obtain ⟨u, rfl, t⟩ := ra_one r; obtain ⟨us, a, r⟩ := t
    cases q1 : blsD ds with
    | none => trivial
    | some ns =>
      unfold Q.uLB
      simp only [aL_of_mL a, bls_of r q1, Option.map]
      exact Out.ret0 ⟨rfl, .bl _⟩ x sr
  · trivial
theorem maxL_eq : @P.maxL = @Q.maxL := by funext l; cases l <;> rfl
theorem minL_eq : @P.minL = @Q.minL := by funext l; cases l <;> rfl
theorem insI_eq : ∀ (i : Int) (l : List Int), P.insI i l = Q.insI i l
  | i, [] => rfl
  | i, j :: r => by unfold P.insI Q.insI; rw [insI_eq i r]
theorem sortI_eq : @P.sortI = @Q.sortI := by
  funext l
  have : P.insI = Q.insI := by funext i l; exact insI_eq i l
  unfold P.sortI Q.sortI; rw [this]
theorem op_sum : OpL cc s Q.uSum gSum (RD cc) := op_LI (f := fun ns => some ns.sum)
theorem op_max1 : OpL cc s Q.uMax1 gMax1 (RD cc) := by rw [show gMax1 = gLI Q.maxL from by unfold gMax1; rw [maxL_eq]]; exact op_LI
theorem op_min1 : OpL cc s Q.uMin1 gMin1 (RD cc) := by rw [show gMin1 = gLI Q.minL from by unfold gMin1; rw [minL_eq]]; exact op_LI
theorem op_any : OpL cc s Q.uAny gAny (RD cc) := op_LB
theorem op_all : OpL cc s Q.uAll gAll (RD cc) := op_LB
theorem dns_ints : ∀ ns : List Int, Dns cc h F (ns.map U.int) (ns.map D.int)
  | [] => .nil
  | n :: r => .cons (.int n) (dns_ints r)
theorem op_sortI : OpL cc s Q.uSortI gSortI (RT cc) := by
  intro q h F fp env e us ds x sr r
  have go : ∀ {u : U} {us : List U} {ds : List D}, Q.aL h u = some us → Dns cc h F us ds → Out cc q (RT cc) h F fp env (Q.uSortI [u] h) (oE ((intsD ds).map fun ns => T.ls ((P.sortI ns).map .int)) e) := by
    intro u us ds a r
    cases q1 : intsD ds with
    | none => trivial
    | some ns =>
      unfold Q.uSortI
      simp only [a, ints_of r q1, Option.map]
      rw [sortI_eq]
      exact out_new x sr (dns_ints _)
  unfold gSortI
  split
  · obtain ⟨u, rfl, t⟩ := ra_one r; obtain ⟨us, a, r⟩ := t; exact go (aL_of_mL a) r
  · obtain ⟨u, rfl, t⟩ := ra_one r; cases t with | kl r => exact go rfl r
  · trivial
end
end P

set_option Elab.async false
set_option linter.all false
set_option maxRecDepth 100000
set_option maxHeartbeats 1000000
/-! PST: texts, places, chains, except X as e. -/
namespace P
open Q (U O Sto Env' R RS EM TM AM SM Sem')
section
variable {cc : Nat → Nat} {h h' h1 h2 : Sto} {F F' F1 F2 : Nat → Prop} {u : U} {d : D} {us : List U} {ds : List D} {t : T} {ts : List T} {f f1 f2 fp fp' fp1 fp2 : List Nat} {env env' : Env'} {e e' : Env} {i : Nat} {q s s1 s2 : Bool} {mk : List Bool}
theorem op_ord : OpL cc s Q.uOrd gOrd (RD cc) := by
  intro q h F fp env e us ds x sr r
  unfold gOrd
  split
  · obtain ⟨u, rfl, t⟩ := ra_one r; cases t; exact Out.ret0 ⟨rfl, .int _⟩ x sr
  · trivial
theorem sim_chain {f f' : Sto → U → U → Option Bool} {g g' : D → D → Option Bool} (ok : CmpD cc f g) (ok' : CmpD cc f' g') {ma mb mc : EM} {pa pb pc : PE} (a : Sim cc q (RD cc) ma pa) (b : Sim cc q (RD cc) mb pb) (c : Sim cc q (RD cc) mc pc) :
    Sim cc q (RD cc) (Q.mChain f f' ma mb mc) (pChain g g' pa pb pc) := fun h F env e fp x sr =>
  Out.bind0 sr (a h F env e fp x sr) (fun u d h1 F1 e1 f1 r1 x1 sr1 st1 sm1 => Out.bind0 sr1 (b h1 F1 env e1 f1 x1 sr1) (fun u2 d2 h2 F2 e2 f2 r2 x2 sr2 st2 sm2 => by
    have t1 := r1.2.mono st2
    have t2 := r2.2
    cases q1 : g d d2 with
    | none => trivial
    | some k =>
      rw [ok h2 F2 u d u2 d2 k t1.tp t2.tp q1]
      cases k with
      | false => exact Out.ret0 (a := U.bl false) (b := D.bl false) ⟨rfl, .bl _⟩ x2 sr2
      | true =>
        show Out cc q (RD cc) h2 F2 f2 env ((mc env h2).bind fun z h4 => (Q.oB (f' h4 u2 z) h4).bind fun k h5 => R.ok (U.bl k) h5) ((pc e2).bind fun z e4 => (oE (g' d2 z) e4).bind fun k e5 => PR.ok (D.bl k) e5)
        exact Out.bind0 sr2 (c h2 F2 env e2 f2 x2 sr2) (fun u3 d3 h3 F3 e3 f3 r3 x3 sr3 st3 sm3 => by
          cases q2 : g' d2 d3 with
          | none => trivial
          | some k2 =>
            rw [ok' h3 F3 u2 d2 u3 d3 k2 (t2.mono st3).tp r3.2.tp q2]
            exact Out.ret0 (a := U.bl k2) (b := D.bl k2) ⟨rfl, .bl _⟩ x3 sr3) rd_nil) rd_nil) rd_nil
theorem op_mulS : OpB cc Q.uMulS gMulS (RD cc) := by
  intro q h F fp env e u1 d1 u2 d2 x sr t1 t2
  unfold gMulS
  split
  · rename_i s k
    cases t1; cases t2
    show Out cc q (RD cc) h F fp env (if s.length * k.toNat ≤ 16000000 ∧ k.natAbs ≤ 1000000000 then R.ok (.str (List.replicate k.toNat s).flatten) h else .bad) _
    by_cases z : s.length * k.toNat ≤ 16000000 ∧ k.natAbs ≤ 1000000000
    · rw [if_pos z, if_pos z]; exact Out.ret0 ⟨rfl, .str _⟩ x sr
    · rw [if_neg z, if_neg z]; trivial
  · trivial
theorem cmp_inS : CmpD cc Q.cInS P.cInS := fun h F u1 d1 u2 d2 b t1 t2 e => by
  unfold P.cInS at e
  split at e
  · cases t1; cases t2; exact e
  · cases e
theorem cmp_ninS : CmpD cc Q.cNinS P.cNinS := fun h F u1 d1 u2 d2 b t1 t2 e => by
  unfold P.cNinS P.cInS at e
  split at e
  · cases t1; cases t2; exact e
  · cases e
theorem sim_indexS {ma mb : EM} {pa pb : PE} (a : Sim cc q (RD cc) ma pa) (b : Sim cc q (RD cc) mb pb) : Sim cc q (RD cc) (Q.mSM1 Q.uIndexS ma mb) (pSM1 gIndexS pa pb) := fun h F env e fp x sr =>
  Out.bind0 sr (a h F env e fp x sr) (fun u d h1 F1 e1 f2 r1 x1 sr1 st sm => by
    obtain ⟨_, r1⟩ := r1
    cases r1 with
    | str s => exact Out.bind0 sr1 (b h1 F1 env e1 f2 x1 sr1) (fun u2 d2 h2 F2 e2 f3 r2 x2 sr2 st2 sm2 => by
        unfold gIndexS
        split
        · rename_i c
          obtain ⟨_, r2⟩ := r2
          cases r2
          show Out cc q (RD cc) h2 F2 f3 env (match s.findIdx? (· == c) with | some i => R.ok (U.int i) h2 | none => .bad) _
          cases s.findIdx? (· == c) with
          | none => trivial
          | some i => exact Out.ret0 ⟨rfl, .int _⟩ x2 sr2
        · trivial) rd_nil
    | _ => trivial) rd_nil
theorem idx_D {u : U} {d : D} (x : Tp cc h F u d) (a : atom d = true) : ∀ {us : List U} {ds : List D}, Dns cc h F us ds → ds.all atom = true → us.findIdx? (fun z => Q.eqF z u) = ds.findIdx? fun z => D.eq z d
  | _, _, .nil, _ => rfl
  | _, _, .cons y r, b => by
    rw [List.all_cons, Bool.and_eq_true] at b
    rw [List.findIdx?_cons, List.findIdx?_cons, eqF_D y.tp x b.1 a, idx_D x a r b.2]
theorem all_flat : ∀ {us : List U} {ds : List D}, Dns cc h F us ds → ds.all atom = true → us.all Q.flatU = true
  | _, _, .nil, _ => rfl
  | _, _, .cons y r, b => by
    rw [List.all_cons, Bool.and_eq_true] at b
    rw [List.all_cons, atom_flat y.tp b.1, all_flat r b.2]; rfl
theorem sim_indexL {ma mb : EM} {pa pb : PE} (a : Sim cc q (RX cc s1) ma pa) (b : Sim cc q (RD cc) mb pb) (z : s1 = true ∨ q = true) : Sim cc q (RD cc) (Q.mLM Q.uIndexL ma (Q.aCons mb Q.aNil)) (pIndexL pa pb) := fun h F env e fp x sr =>
  Out.bind0 sr (a h F env e fp x sr) (fun u d h1 F1 e1 f2 r1 x1 sr1 st sm => by
    cases d with
    | lst ds =>
      obtain ⟨us, a1, a2⟩ := r1.tp
      rw [if_pos (by rw [aL_of_mL a1]; rfl)]
      have bb := b h1 F1 env e1 f2 x1 sr1
      show Out cc q (RD cc) h1 F1 f2 env (Q.R.bind (Q.R.bind (mb env h1) fun x h2 => (Q.R.ok [] h2).bind fun xs h3 => Q.R.ok (x :: xs) h3) fun us h2 => Q.uIndexL u us h2) _
      have e0 : (Q.R.bind (Q.R.bind (mb env h1) fun x h2 => (Q.R.ok [] h2).bind fun xs h3 => Q.R.ok (x :: xs) h3) fun us h2 => Q.uIndexL u us h2) = (mb env h1).bind fun y h2 => Q.uIndexL u [y] h2 := by
        cases mb env h1 <;> rfl
      rw [e0]
      exact Out.bind0 sr1 bb (fun u2 d2 h2 F2 e2 f3 r2 x2 sr2 st2 sm2 => by
        obtain ⟨us, a1, a2⟩ := r1.later sr1 st2 sm2 z
        show Out cc q (RD cc) h2 F2 f3 env _ (oE (if ds.all atom = true ∧ atom d2 = true then (ds.findIdx? fun z => D.eq z d2).map fun (i : Nat) => D.int i else none) e2)
        split
        · rename_i c
          have t2 := r2.2.tp
          have e3 := idx_D t2 c.2 a2 c.1
          unfold Q.uIndexL
          simp only [aL_of_mL a1]
          rw [if_pos ⟨all_flat a2 c.1, atom_flat t2 c.2⟩, e3]
          cases ds.findIdx? fun z => D.eq z d2 with
          | none => trivial
          | some i => exact Out.ret0 ⟨rfl, .int _⟩ x2 sr2
        · trivial) rd_nil
    | _ => trivial) rx_nil
theorem op_indexT {ss : List (List Nat)} : OpL cc s (Q.uIndexT (ss.map U.str)) (gIndexT ss) (RD cc) := by
  intro q h F fp env e us ds x sr r
  unfold gIndexT
  split
  · rename_i z
    obtain ⟨u, rfl, t⟩ := ra_one r; cases t
    unfold Q.uIndexT
    rw [Q.strsOf_map]
    simp only
    cases ss.findIdx? (· == z) with
    | none => trivial
    | some i => exact Out.ret0 ⟨rfl, .int _⟩ x sr
  · trivial
theorem dns_strs : ∀ ss : List (List Nat), Dns cc h F (ss.map U.str) (ss.map D.str)
  | [] => .nil
  | s :: r => .cons (.str s) (dns_strs r)
/-! except X as e -/
theorem Ev.clr (x : Ev cc h F env e fp) (i : Nat) : ∃ fp', Ev cc h F (env.set i none) (e.set i .hole) fp' ∧ ∃ g, fp.Perm (g ++ fp') := by
  obtain ⟨fp', b, g, f1, f2, q1, q2, q3⟩ := x.put i none (t := .hole) (f := []) ⟨rfl, rfl⟩
  have : g = [] := List.sublist_nil.mp q3
  subst this
  exact ⟨fp', b, f1, q1.trans (List.Perm.append_left f1 q2.symm)⟩
theorem Kp.clr {env2 : Env'} {i : Nat} (z : (!mk.getD i false) = true) (k : Kp mk env env2) : Kp mk env (env2.set i none) := by
  refine Eq.trans (kp_off (by simp) fun j hj => ?_) k
  have : i ≠ j := fun e => by subst e; rw [hj] at z; cases z
  rw [List.getElem?_set_ne this]
theorem OutS.cl {r : RS} {s : PRS} (z : (!mk.getD i false) = true) (o : OutS cc mk h F fp env r s) : OutS cc mk h F fp env (r.cl i) (s.cl i) := by
  cases s with
  | nx e' =>
    obtain ⟨env2, h', F', f2, a, b, c, d⟩ := o
    rw [a]
    obtain ⟨fp', b', g, p⟩ := b.clr i
    exact ⟨_, h', F', fp', rfl, b', (c.perm p).sub (List.sublist_append_right g fp'), d.clr z⟩
  | bk e' =>
    obtain ⟨env2, h', F', f2, a, b, c, d⟩ := o
    rw [a]
    obtain ⟨fp', b', g, p⟩ := b.clr i
    exact ⟨_, h', F', fp', rfl, b', (c.perm p).sub (List.sublist_append_right g fp'), d.clr z⟩
  | ct e' =>
    obtain ⟨env2, h', F', f2, a, b, c, d⟩ := o
    rw [a]
    obtain ⟨fp', b', g, p⟩ := b.clr i
    exact ⟨_, h', F', fp', rfl, b', (c.perm p).sub (List.sublist_append_right g fp'), d.clr z⟩
  | rt t e' =>
    obtain ⟨u, env2, h', F', f1, f2, a, b0, b, c, d⟩ := o
    rw [a]
    obtain ⟨fp', b', g, p⟩ := b.clr i
    have pp : (f1 ++ f2).Perm (g ++ (f1 ++ fp')) := (List.Perm.append_left f1 p).trans (List.perm_append_comm_assoc f1 g fp')
    exact ⟨u, _, h', F', f1, fp', rfl, b0, b', (c.perm pp).sub (List.sublist_append_right g (f1 ++ fp')), d.clr z⟩
  | ex C x e' => trivial
  | bad => trivial
theorem ss_tryAs {ys : List Nat} {mb ms : SM} {pb ps : PS} (a : SimS cc mk mb pb) (b : SimS cc mk ms ps) (z : (!mk.getD i false) = true := by rfl) : SimS cc mk (Q.mTryAs i (ys.map cc) mb ms) (sTryAs i ys pb ps) := fun h F env e fp x sr => by
  have bb := a h F env e fp x sr
  unfold Q.mTryAs sTryAs
  cases q1 : pb e with
  | ex C y e1 =>
    rw [q1] at bb
    obtain ⟨n, env2, h2, F2, f2, b1, b2, b3, b4, b5⟩ := bb
    simp only [b1]
    by_cases w : C ∈ ys ∧ y = none ∧ i < e1.length
    · obtain ⟨w1, w2, w3⟩ := w
      subst w2
      have hn : n = none := by cases n with | none => rfl | some k => exact b4.elim
      subst hn
      rw [if_pos ⟨List.mem_map_of_mem (f := cc) w1, rfl, by rw [b2.len]; exact w3⟩, if_pos ⟨w1, rfl, w3⟩]
      obtain ⟨fp', b', g, p⟩ := b2.clr i
      have fr : Fr h F fp h2 F2 fp' := (b3.perm p).sub (List.sublist_append_right g fp')
      exact OutS.trans fr (b5.clr z) (OutS.cl z (b h2 F2 _ _ fp' b' fr.sr))
    · rw [if_neg w]; trivial
  | nx e1 => rw [q1] at bb; obtain ⟨env2, h', F', f2, a, r⟩ := bb; rw [a]; exact ⟨env2, h', F', f2, rfl, r⟩
  | bk e1 => rw [q1] at bb; obtain ⟨env2, h', F', f2, a, r⟩ := bb; rw [a]; exact ⟨env2, h', F', f2, rfl, r⟩
  | ct e1 => rw [q1] at bb; obtain ⟨env2, h', F', f2, a, r⟩ := bb; rw [a]; exact ⟨env2, h', F', f2, rfl, r⟩
  | rt t e1 => rw [q1] at bb; obtain ⟨u, env2, h', F', f1, f2, a, r⟩ := bb; rw [a]; exact ⟨u, env2, h', F', f1, f2, rfl, r⟩
  | bad => trivial
end
end P

set_option Elab.async false
set_option linter.all false
set_option maxRecDepth 100000
set_option maxHeartbeats 1000000
/-! PSR: str(number), pop, insert, [::-1], range downwards. -/
namespace P
open Q (U O Sto Env' R RS EM TM AM SM Sem')
section
variable {cc : Nat → Nat} {h h' h1 h2 : Sto} {F F' F1 F2 : Nat → Prop} {u : U} {d : D} {us : List U} {ds : List D} {t : T} {ts : List T} {f f1 f2 fp fp' fp1 fp2 : List Nat} {env env' : Env'} {e e' : Env} {i : Nat} {q s s1 s2 : Bool} {mk : List Bool}
theorem op_str : OpL cc s Q.uStr gStr (RD cc) := by
  intro q h F fp env e us ds x sr r
  unfold gStr
  split
  · rename_i k
    obtain ⟨u, rfl, t⟩ := ra_one r; cases t
    show Out cc q (RD cc) h F fp env (if k.natAbs.log2 < 1920 then R.ok (.str (Q.sInt k)) h else .bad) _
    by_cases z : k.natAbs.log2 < 1920
    · rw [if_pos z, if_pos z]; exact Out.ret0 ⟨rfl, .str _⟩ x sr
    · rw [if_neg z, if_neg z]; trivial
  · trivial
theorem mLM0_eq {g : U → List U → Sto → R U} {m : EM} : Q.mLM0 g m = Q.mLM g m Q.aNil := rfl
theorem Dns.dropLast {us : List U} {ds : List D} (r : Dns cc h F us ds) : Dns cc h F us.dropLast ds.dropLast := by
  rw [List.dropLast_eq_take, List.dropLast_eq_take, r.len]
  exact r.take _
theorem Dns.rev : ∀ {us : List U} {ds : List D}, Dns cc h F us ds → Dns cc h F us.reverse ds.reverse
  | _, _, .nil => .nil
  | _, _, .cons x r => by rw [List.reverse_cons, List.reverse_cons]; exact r.rev.app (.cons x .nil)
theorem upd_pop : UpdOk cc s Q.uPop P.uPop := by
  intro h F v t us ds d t' f1 w r q
  cases t with
  | ls xs =>
    cases ds with
    | cons _ _ => cases q
    | nil =>
      have q : (xs[xs.length - 1]?).map (fun y => (y, T.ls xs.dropLast)) = some (d, t') := q
      cases q2 : xs[xs.length - 1]? with
      | none => rw [q2] at q; cases q
      | some y =>
        rw [q2] at q
        cases q
        obtain ⟨_, r⟩ := r
        have hus : us = [] := by
          cases s with
          | true => simp only [if_true] at r; cases r; rfl
          | false => simp at r
        subst hus
        cases w with
        | @ls n ys _ e rr =>
          obtain ⟨u, hu, ru⟩ := rr.get q2
          refine ⟨rfl, n, .lst ys.dropLast, u, List.mem_singleton.mpr rfl, ?_, fun fp sr => ?_⟩
          · show (match h[n]? with | some (.lst xs) => _ | _ => _) = _
            rw [e]
            simp only
            rw [rr.len, hu]
          · have st := Stab.set sr (List.mem_append_left _ (List.mem_singleton.mpr rfl)) (O.lst ys.dropLast)
            exact ⟨ru.mono st, .ls (by rw [List.getElem?_set_self (List.getElem?_eq_some_iff.mp e).1]) (rr.dropLast.mono st)⟩
  | _ => cases q
theorem sim_pop {m : EM} {p : Pth} (a : SimP cc m p) : Sim cc false (RD cc) (Q.mLM0 Q.uPop m) (pUpd p dNil P.uPop) := sim_upd (s := true) (q := true) upd_pop a (sim_ra sim_dnil) (.inr rfl)
theorem upd_ins : UpdOk cc true Q.uIns P.uIns := by
  intro h F v t us ds d t' f1 w r q
  unfold P.uIns at q
  split at q
  · rename_i xs i d1
    split at q
    case isFalse => cases q
    rename_i hz
    cases q
    obtain ⟨_, r⟩ := r
    simp only [if_true] at r
    cases r with
    | @cons u1 _ _ _ y1 r =>
      cases r with
      | @cons u _ _ _ y r =>
        cases r
        cases y1
        cases w with
        | @ls n ys _ e rr =>
          refine ⟨rfl, n, .lst (ys.take i.toNat ++ [u] ++ ys.drop i.toNat), .non, List.mem_singleton.mpr rfl, ?_, fun fp sr => ?_⟩
          · show (match h[n]? with | some (.lst xs) => _ | _ => _) = _
            rw [e]
            simp only
            rw [if_pos (by rw [rr.len]; exact hz)]
          · have st := Stab.set sr (List.mem_append_left _ (List.mem_singleton.mpr rfl)) (O.lst (ys.take i.toNat ++ [u] ++ ys.drop i.toNat))
            exact ⟨.non, .ls (by rw [List.getElem?_set_self (List.getElem?_eq_some_iff.mp e).1]) ((((rr.take _).app (.cons y .nil)).app (rr.drop _)).mono st)⟩
  · cases q
theorem sim_rev {m : EM} {p : PE} (a : Sim cc q (RX cc s) m p) : Sim cc q (RT cc) (Q.mRev m) (pRev p) := fun h F env e fp x sr =>
  Out.bind0 sr (a h F env e fp x sr) (fun u d h1 F1 e1 f2 r1 x1 sr1 st sm => by
    have t1 := r1.tp
    cases d with
    | lst us =>
      obtain ⟨us', a1, r⟩ := t1
      have g : Q.uRev u h1 = .ok (.ref h1.length) (h1 ++ [.lst us'.reverse]) := by
        unfold Q.uRev
        rw [aL_of_mL a1]
      show Out cc q (RT cc) h1 F1 f2 env (Q.uRev u h1) _
      rw [g]
      exact out_new x1 sr1 r.rev
    | kl us =>
      cases t1 with
      | @kl us' _ r =>
        exact out_new x1 sr1 r.rev
    | _ => trivial) rx_nil
theorem rngD_dns (lo : Int) (n : Nat) : Dns cc h F (Q.rngD lo n) (P.rngD lo n) := by
  unfold Q.rngD P.rngD
  have : ∀ l : List Nat, Dns cc h F (l.map fun i => U.int (lo - (i : Nat))) (l.map fun i => D.int (lo - (i : Nat))) := fun l => by
    induction l with
    | nil => exact .nil
    | cons x r ih => exact .cons (.int _) ih
  exact this _
theorem sim_r3 {am : AM} {pa : PDs} (a : Sim cc q (RDs cc) am pa) : Sim cc q (RI cc) (Q.itR3 am) (iR3 pa) := fun h F env e fp x sr =>
  Out.bind0 sr (a h F env e fp x sr) (fun us ds h1 F1 e1 f2 r1 x1 sr1 st sm => by
    obtain ⟨_, r⟩ := r1
    cases q1 : gR3 ds with
    | none => trivial
    | some l =>
      unfold gR3 at q1
      split at q1
      case h_2 => cases q1
      rename_i i j c
      split at q1
      case isFalse => cases q1
      rename_i z
      cases q1
      cases r with
      | cons y1 r =>
        cases r with
        | cons y2 r =>
          cases r with
          | cons y3 r =>
            cases r; cases y1; cases y2; cases y3
            simp only; rw [if_pos (by omega)]
            exact Out.ret0 ⟨rfl, rngD_dns _ _, fun _ m => nomatch m⟩ x1 sr1) rds_nil
end
end P

set_option Elab.async false
set_option linter.all false
set_option maxRecDepth 100000
set_option maxHeartbeats 1000000
/-! PSX: comprehensions whose items may raise. -/
namespace P
open Q (U O Sto Env' R RS EM TM AM SM Sem')
section
variable {cc : Nat → Nat} {h h' h1 h2 : Sto} {F F' F1 F2 : Nat → Prop} {u : U} {d : D} {us : List U} {ds : List D} {t : T} {ts : List T} {f f1 f2 fp fp' fp1 fp2 : List Nat} {env env' : Env'} {e e' : Env} {i : Nat} {q s s1 s2 : Bool} {mk : List Bool}
theorem lcX_go {c : CT} {t : TM} {me : EM} {pt : PB} {pe : PE} {vs : List Nat} {n : Nat} {env0 : Env'} (ht : Sim cc q RE t pt) (he : Sim cc q (RD cc) me pe) (hc : ∀ i ∈ c.ix, i ∈ vs) :
    ∀ {us : List U} {ds : List D} {accU : List U} {accD : List D} {ck : Q.Chk} {h : Sto} {F : Nat → Prop} {e : Env} {fp : List Nat}, Dns cc h F us ds → ChkF h F ck → h[n]? = some (.lst accU) → Dns cc h F accU accD → Ev cc h F env0 (kill vs e) fp → SR h F (n :: fp) →
      match lcLX c pt pe vs ds accD e with
      | .ok r e' => ∃ h' F' f2 accU', Q.lcLX ck (ctQ c) t me n env0 us h = .ok (.ref n) h' ∧ h'[n]? = some (.lst accU') ∧ Dns cc h' F' accU' r ∧ Ev cc h' F' env0 (kill vs e') f2 ∧ Fr h F (n :: fp) h' F' (n :: f2) ∧ (q = true → ∀ k, k < h.length → k ≠ n → h'[k]? = h[k]?)
      | .exc C z e' => ∃ n' h' F' f2, Q.lcLX ck (ctQ c) t me n env0 us h = .exc (cc C) n' h' ∧ Ev cc h' F' env0 (kill vs e') f2 ∧ Fr h F (n :: fp) h' F' f2 ∧ Xd cc h' F' n' z
      | .bad => True
  | _, _, accU, accD, ck, h, F, e, fp, .nil, k, hn, ra, x, sr => by
    unfold lcLX Q.lcLX
    rw [if_pos k.ok]
    exact ⟨h, F, fp, accU, rfl, hn, ra, x, Fr.refl sr, fun _ _ _ _ => rfl⟩
  | _, _, accU, accD, ck, h, F, e, fp, .cons (us := us) (ds := ds) (u := u) (d := d) y r, k, hn, ra, x, sr => by
    unfold lcLX
    cases q1 : c.asg d (kill vs e) with
    | none => trivial
    | some e1 =>
      obtain ⟨env1, a1, al, a2, fp1, x1, g1, p1⟩ := ct_asg x y q1
      have sr1 : SR h F (n :: fp1) := (sr.perm (p1.cons n)).sub ((List.sublist_append_right g1 fp1).cons₂ n)
      have srs : SR h F ([n] ++ fp1) := sr1
      have tt := ht h F env1 e1 fp1 x1 srs.right
      unfold Q.lcLX
      rw [if_pos k.ok, a1]
      simp only
      cases q2 : pt e1 with
      | bad => trivial
      | exc C z e' => trivial
      | ok b e2 =>
        rw [q2] at tt
        obtain ⟨b', h2, F2, f3, f4, b1, ⟨rfl, rfl⟩, x2, fr2, sm2⟩ := tt
        rw [b1]
        have fr2' : Fr h F ([n] ++ fp1) h2 F2 ([n] ++ f4) := fr2.hold srs
        have keep2 : h2[n]? = h[n]? := fr2.kept srs n (List.mem_singleton.mpr rfl)
        have st2 := fr2'.stab srs
        show match (if b' = true then (pe e2).bind fun y e3 => if accD.length < 16000000 then lcLX c pt pe vs ds (accD ++ [y]) e3 else .bad else lcLX c pt pe vs ds accD e2) with
          | .ok r e' => ∃ h' F' f2 accU', (if b' = true then (me env1 h2).bind fun y h2 => (match h2[n]? with
              | some (.lst acc) => if acc.length < 16000000 then Q.lcLX ck (ctQ c) t me n env0 us (h2.set n (.lst (acc ++ [y]))) else .bad
              | _ => .bad) else Q.lcLX ck (ctQ c) t me n env0 us h2) = .ok (.ref n) h' ∧ h'[n]? = some (.lst accU') ∧ Dns cc h' F' accU' r ∧ Ev cc h' F' env0 (kill vs e') f2 ∧ Fr h F (n :: fp) h' F' (n :: f2) ∧ (q = true → ∀ k, k < h.length → k ≠ n → h'[k]? = h[k]?)
          | .exc C z e' => ∃ n' h' F' f2, (if b' = true then (me env1 h2).bind fun y h2 => (match h2[n]? with
              | some (.lst acc) => if acc.length < 16000000 then Q.lcLX ck (ctQ c) t me n env0 us (h2.set n (.lst (acc ++ [y]))) else .bad
              | _ => .bad) else Q.lcLX ck (ctQ c) t me n env0 us h2) = .exc (cc C) n' h' ∧ Ev cc h' F' env0 (kill vs e') f2 ∧ Fr h F (n :: fp) h' F' f2 ∧ Xd cc h' F' n' z
          | .bad => True
        have fr0 : Fr h F (n :: fp) h2 F2 (n :: f4) := by
          have z : Fr h F (n :: fp) h F (n :: fp1) := (Fr.refl sr).perm (p1.cons n) |>.sub ((List.sublist_append_right g1 fp1).cons₂ n)
          exact z.trans fr2'
        have x2' : ∀ {h3 F3 e3 f5}, Ev cc h3 F3 env1 e3 f5 → ∃ f6, Ev cc h3 F3 env0 (kill vs e3) f6 ∧ ∃ f7, f5.Perm (f7 ++ f6) := fun {h3 F3 e3 f5} x => by
          obtain ⟨f6, y6, f7, p7⟩ := x.kill vs
          exact ⟨f6, y6.swapK al.symm (fun i n => (a2 i (fun z => n (hc i z))).symm), f7, p7⟩
        cases b' with
        | false =>
          rw [if_neg (by decide)]
          obtain ⟨f6, y6, f7, p7⟩ := x2' x2
          have srn : SR h2 F2 (n :: f6) := (fr2'.sr.perm (p7.cons n)).sub ((List.sublist_append_right f7 f6).cons₂ n)
          have ih := lcX_go (accU := accU) (accD := accD) (ck := ck) (e := e2) ht he hc (r.mono st2) (k.mono st2) (keep2.trans hn) (ra.mono st2) y6 srn
          cases q3 : lcLX c pt pe vs ds accD e2 with
          | bad => trivial
          | exc C z e' =>
            rw [q3] at ih
            obtain ⟨n', h', F', g2, c1, c2, c3, c4⟩ := ih
            rw [if_neg (by decide)]
            exact ⟨n', h', F', g2, c1, c2, (fr0.perm (p7.cons n) |>.sub ((List.sublist_append_right f7 f6).cons₂ n)).trans c3, c4⟩
          | ok rr e' =>
            rw [q3] at ih
            obtain ⟨h', F', g2, accU', c1, c2, c3, c4, c5, c6⟩ := ih
            rw [if_neg (by decide)]
            refine ⟨h', F', g2, accU', c1, c2, c3, c4, (fr0.perm (p7.cons n) |>.sub ((List.sublist_append_right f7 f6).cons₂ n)).trans c5, fun z k1 l1 n1 => ?_⟩
            rw [c6 z k1 (Nat.lt_of_lt_of_le l1 fr2.len) n1, sm2 z k1 l1]
        | true =>
          rw [if_pos rfl]
          have ee := he h2 F2 env1 e2 f4 x2 fr2'.sr.right
          cases q3 : pe e2 with
          | bad => trivial
          | exc C z e' =>
            rw [q3] at ee
            obtain ⟨n', h', F', f8, d1, x3, fr3, xd⟩ := ee
            have fr3' : Fr h2 F2 ([n] ++ f4) h' F' ([n] ++ f8) := fr3.hold fr2'.sr
            obtain ⟨f6, y6, f7, p7⟩ := x2' x3
            refine ⟨n', h', F', f6, ?_, y6, (((fr0.trans fr3').sub (List.sublist_append_right [n] f8)).perm p7).sub (List.sublist_append_right f7 f6), xd⟩
            rw [if_pos rfl, d1]; rfl
          | ok yv e3 =>
            rw [q3] at ee
            obtain ⟨uv, h3, F3, f5, f8, d1, ⟨rfl, d2⟩, x3, fr3, sm3⟩ := ee
            have fr3' : Fr h2 F2 ([n] ++ f4) h3 F3 ([n] ++ f8) := fr3.hold fr2'.sr
            have keep3 : h3[n]? = h2[n]? := fr3.kept fr2'.sr n (List.mem_singleton.mpr rfl)
            have st3 := fr3'.stab fr2'.sr
            have hn3 : h3[n]? = some (.lst accU) := (keep3.trans keep2).trans hn
            show match (if accD.length < 16000000 then lcLX c pt pe vs ds (accD ++ [yv]) e3 else .bad) with
              | .ok r e' => _
              | .exc C z e' => _
              | .bad => True
            by_cases hz : accD.length < 16000000
            case neg => rw [if_neg hz]; trivial
            rw [if_pos hz]
            have hl : n < h3.length := (List.getElem?_eq_some_iff.mp hn3).1
            have sr3 : SR h3 F3 ([n] ++ f8) := fr3'.sr
            have frs : Fr h3 F3 ([n] ++ f8) (h3.set n (.lst (accU ++ [uv]))) F3 ([n] ++ f8) := Fr.set sr3 (List.mem_append_left _ (List.mem_singleton.mpr rfl)) _
            have sts := frs.stab sr3
            obtain ⟨f6, y6, f7, p7⟩ := x2' (x3.mono sts (Keep.set _ (fun m => (List.nodup_append.mp sr3.nd).2.2 n (List.mem_singleton.mpr rfl) n m rfl)))
            have srn : SR (h3.set n (.lst (accU ++ [uv]))) F3 (n :: f6) := (frs.sr.perm (p7.cons n)).sub ((List.sublist_append_right f7 f6).cons₂ n)
            have sta := (st2.trans st3).trans sts
            have ih := lcX_go (accU := accU ++ [uv]) (accD := accD ++ [yv]) (ck := ck) (e := e3) ht he hc (r.mono sta) (k.mono sta) (List.getElem?_set_self hl) ((ra.mono sta).app (.cons (d2.mono sts) .nil)) y6 srn
            cases q4 : lcLX c pt pe vs ds (accD ++ [yv]) e3 with
            | bad => trivial
            | exc C z e' =>
              rw [q4] at ih
              obtain ⟨n', h', F', g2, c1, c2, c3, c4⟩ := ih
              refine ⟨n', h', F', g2, ?_, c2, (((fr0.trans fr3').trans frs).perm (p7.cons n) |>.sub ((List.sublist_append_right f7 f6).cons₂ n)).trans c3, c4⟩
              rw [if_pos rfl, d1]
              show (match h3[n]? with
                | some (.lst acc) => if acc.length < 16000000 then Q.lcLX ck (ctQ c) t me n env0 us (h3.set n (.lst (acc ++ [uv]))) else .bad
                | _ => .bad) = _
              rw [hn3]
              simp only
              rw [if_pos (by rw [ra.len]; exact hz)]
              exact c1
            | ok rr e' =>
              rw [q4] at ih
              obtain ⟨h', F', g2, accU', c1, c2, c3, c4, c5, c6⟩ := ih
              refine ⟨h', F', g2, accU', ?_, c2, c3, c4, (((fr0.trans fr3').trans frs).perm (p7.cons n) |>.sub ((List.sublist_append_right f7 f6).cons₂ n)).trans c5, fun z k1 l1 n1 => ?_⟩
              · rw [if_pos rfl, d1]
                show (match h3[n]? with
                  | some (.lst acc) => if acc.length < 16000000 then Q.lcLX ck (ctQ c) t me n env0 us (h3.set n (.lst (acc ++ [uv]))) else .bad
                  | _ => .bad) = _
                rw [hn3]
                simp only
                rw [if_pos (by rw [ra.len]; exact hz)]
                exact c1
              · have l2 : k1 < h2.length := Nat.lt_of_lt_of_le l1 fr2.len
                have l3 : k1 < h3.length := Nat.lt_of_lt_of_le l2 fr3.len
                rw [c6 z k1 (by simpa using l3) n1, List.getElem?_set_ne (Ne.symm n1), sm3 z k1 l2, sm2 z k1 l1]
theorem sim_lcX {mi : Q.IM'} {pi : PDs} {c : CT} {t : TM} {me : EM} {pt : PB} {pe : PE} {vs : List Nat} (hi : Sim cc q (RI cc) mi pi) (ht : Sim cc q RE t pt) (he : Sim cc q (RD cc) me pe) (hc : ∀ i ∈ c.ix, i ∈ vs) : Sim cc q (RT cc) (Q.mLcX mi (ctQ c) t me vs) (pLcX pi c pt pe vs) := fun h F env e fp x sr =>
  Out.bind0 sr (hi h F env e fp x sr) (fun z ds h1 F1 e1 f2 r1 x1 sr1 st sm => by
    obtain ⟨ck, us⟩ := z
    obtain ⟨_, r, kf⟩ := r1
    show Out cc q (RT cc) h1 F1 f2 env (Q.lcLX ck (ctQ c) t me h1.length (Q.wipeE env vs) us (h1 ++ [.lst []])) ((lcLX c pt pe vs ds [] e1).kl vs .ls)
    have sta := Stab.app sr1 [O.lst []]
    obtain ⟨f6, y6, f7, p7⟩ := (x1.mono sta (Keep.app sr1 _)).kill vs
    have y7 := y6.swapK (wipe_len vs env) (fun i n => wipe_get vs env i n)
    have fra := Fr.app sr1 (O.lst [])
    have frs : Fr h1 F1 f2 (h1 ++ [.lst []]) F1 (h1.length :: f6) := (fra.perm (p7.cons _)).sub ((List.sublist_append_right f7 f6).cons₂ _)
    have go := lcX_go (c := c) (vs := vs) (n := h1.length) (env0 := Q.wipeE env vs) (accU := []) (accD := []) (e := e1) (q := q) ht he hc (r.mono sta) (ChkF.mono kf sta) (by rw [List.getElem?_append_right (Nat.le_refl _), Nat.sub_self]; rfl) .nil y7 frs.sr
    cases q1 : lcLX c pt pe vs ds [] e1 with
    | bad => trivial
    | exc C z e' =>
      rw [q1] at go
      obtain ⟨n', h', F', g2, c1, c2, c3, c4⟩ := go
      exact ⟨n', h', F', g2, c1, c2.swapK (wipe_len vs env).symm (fun i n => (wipe_get vs env i n).symm), frs.trans c3, c4⟩
    | ok rr e' =>
      rw [q1] at go
      obtain ⟨h', F', g2, accU', c1, c2, c3, c4, c5, c6⟩ := go
      refine ⟨_, h', F', [h1.length], g2, c1, .ls c2 c3, c4.swapK (wipe_len vs env).symm (fun i n => (wipe_get vs env i n).symm), frs.trans c5, fun z k l => ?_⟩
      rw [c6 z k (by simp; omega) (by omega), List.getElem?_append_left l]) ri_nil
end
theorem kA_is (n : Nat) (i : Int) : kA n i = i := by
  induction n using Nat.strongRecOn with
  | _ n ih =>
    unfold kA
    split
    · rfl
    · exact ih _ (by omega)
theorem sim_ck {cc : Nat → Nat} {q : Bool} {i : Int} : Sim cc q (RD cc) (Q.mC (.int i)) (pC (.int (kI i))) := by
  rw [show kI i = i from kA_is 1 i]
  exact sim_c fun _ _ => .int _
end P

set_option Elab.async false
set_option linter.all false
/-! PDefB: sorted texts, keys, locked dicts, things that are lent by a path, that are handed over. -/
namespace P
def ltL : List Nat → List Nat → Bool
  | [], [] => false
  | [], _ :: _ => true
  | _ :: _, [] => false
  | a :: r, b :: t => a < b || (a == b && ltL r t)
def insS (x : List Nat) : List (List Nat) → List (List Nat)
  | [] => [x]
  | y :: r => if ltL y x = true then y :: insS x r else x :: y :: r
def sortS (ss : List (List Nat)) : List (List Nat) := ss.foldr insS []
def strsD : List D → Option (List (List Nat))
  | [] => some []
  | .str s :: r => (strsD r).map (s :: ·)
  | _ :: _ => none
def keysS : List (DK × D) → Option (List (List Nat))
  | [] => some []
  | (.inr s, _) :: r => (keysS r).map (s :: ·)
  | _ :: _ => none
def srtS (o : Option (List (List Nat))) : Option T := match o with
  | some ss => if ss.length < 64 then some (.ls ((sortS ss).map .str)) else none
  | none => none
def gSortS : List D → Option T
  | [.lst ds] => srtS (strsD ds)
  | [.kl ds] => srtS (strsD ds)
  | _ => none
def gSortD : List D → Option T
  | [.dK kvs] => srtS (keysS kvs)
  | [.dKl kvs] => srtS (keysS kvs)
  | _ => none
def gListD : List D → Option T
  | [.dK kvs] => some (.ls (kvs.map fun p => dkD p.1))
  | [.dKl kvs] => some (.ls (kvs.map fun p => dkD p.1))
  | _ => none
/-- a dict becomes data that nobody changes any more, so that it may be walked -/
def pLk (a : PT) : PE := fun e => (a e).bind fun t e1 => match t with
  | .dK kvs => .ok (.dKl kvs) e1
  | .leaf (.dKl kvs) => .ok (.dKl kvs) e1
  | _ => .bad
/-- a call whose first argument stands at a path and is only looked at -/
def pCallBP (n : Nat) (sem : PSem) (p : Pth) (am : PDs) : PT := fun e => (p.ev e).bind fun r e1 => (am e1).bind fun ds e2 => match getP p.root r e2 with
  | some t => (match t.fz with
    | some d => (if ds.length + 1 = n then (match sem (.leaf d :: ds.map .leaf) with
      | .ok t _ => if t.flat = true then .ok t e2 else .bad
      | .exc C none => .exc C none e2
      | _ => .bad) else .bad)
    | none => .bad)
  | none => .bad
/-- a call to which things are handed over -/
def pCallO (n : Nat) (sem : PSem) (am : PTs) : PT := fun e => (am e).bind fun ts e1 => if ts.length = n then callR (sem ts) e1 else .bad
/-- one of the things in a list that is nobody's -/
def pIxT (a : PT) (b : PE) : PT := fun e => (a e).bind fun t e1 => (b e1).bind fun x e2 => match t, x with
  | .lT ts, .int i => oE (atI ts i) e2
  | _, _ => .bad
/-- what stands at a path is taken away -/
def pMvP (p : Pth) : PT := fun e => (p.ev e).bind fun r e1 => match getP p.root r e1 with
  | some .hole => .bad
  | some (.leaf d) => .ok (.leaf d) e1
  | some t => .ok t (setP p.root r .hole e1)
  | none => .bad
end P

set_option Elab.async false
set_option linter.all false
set_option maxRecDepth 100000
set_option maxHeartbeats 1000000
/-! PSY: sorted texts, keys, locked dicts, things that are lent by a path, that are handed over. -/
namespace P
open Q (U O Sto Env' R RS EM TM AM SM Sem')
section
variable {cc : Nat → Nat} {h h' h1 h2 : Sto} {F F' F1 F2 : Nat → Prop} {u v : U} {d : D} {us : List U} {ds : List D} {t : T} {ts : List T} {f f1 f2 fp fp' fp1 fp2 : List Nat} {env env' : Env'} {e e' : Env} {i : Nat} {q s s1 s2 : Bool} {mk : List Bool}
theorem ltL_is : ∀ a b, P.ltL a b = Q.ltL a b
  | [], [] => rfl
  | [], _ :: _ => rfl
  | _ :: _, [] => rfl
  | a :: r, b :: t => by unfold P.ltL Q.ltL; rw [ltL_is r t]
theorem insS_is (x : List Nat) : ∀ r, P.insS x r = Q.insS x r
  | [] => rfl
  | y :: r => by unfold P.insS Q.insS; rw [insS_is x r, ltL_is]
theorem sortS_is (ss : List (List Nat)) : P.sortS ss = Q.sortS ss := by
  unfold P.sortS Q.sortS
  rw [show P.insS = Q.insS from funext fun x => funext fun r => insS_is x r]
theorem strsU_of : ∀ {us : List U} {ds : List D} {ss : List (List Nat)}, Dns cc h F us ds → strsD ds = some ss → Q.strsU us = some ss
  | _, _, _, .nil, q => by cases q; rfl
  | _, .str s :: ds, ss, .cons x r, q => by
    simp only [strsD] at q
    obtain ⟨ms, q1, rfl⟩ := Option.map_eq_some_iff.mp q
    cases x
    simp only [Q.strsU, strsU_of r q1, Option.map]
  | _, .non :: _, _, .cons _ _, q => by cases q
  | _, .bl _ :: _, _, .cons _ _, q => by cases q
  | _, .int _ :: _, _, .cons _ _, q => by cases q
  | _, .tup _ :: _, _, .cons _ _, q => by cases q
  | _, .lst _ :: _, _, .cons _ _, q => by cases q
  | _, .kl _ :: _, _, .cons _ _, q => by cases q
  | _, .dK _ :: _, _, .cons _ _, q => by cases q
  | _, .dT _ :: _, _, .cons _ _, q => by cases q
  | _, .ins _ _ :: _, _, .cons _ _, q => by cases q
  | _, .dKl _ :: _, _, .cons _ _, q => by cases q
theorem keysS_of : ∀ {us : List (Q.DK × U)} {ds : List (DK × D)} {ss : List (List Nat)}, us.map Prod.fst = ds.map Prod.fst → keysS ds = some ss → Q.keysS us = some ss
  | [], [], _, _, q => by cases q; rfl
  | [], _ :: _, _, a, _ => by simp at a
  | _ :: _, [], _, a, _ => by simp at a
  | (i, u) :: us, (j, d) :: ds, ss, a, q => by
    rw [List.map_cons, List.map_cons] at a
    injection a with a1 a2
    cases a1
    cases i with
    | inl i => cases q
    | inr s =>
      simp only [keysS] at q
      obtain ⟨ms, q1, rfl⟩ := Option.map_eq_some_iff.mp q
      simp only [Q.keysS, keysS_of a2 q1, Option.map]
theorem dns_strs' : ∀ ss : List (List Nat), Dns cc h F (ss.map U.str) (ss.map D.str)
  | [] => .nil
  | n :: r => .cons (.str n) (dns_strs' r)
theorem op_sortS : OpL cc s Q.uSortS gSortS (RT cc) := by
  intro q h F fp env e us ds x sr r
  have go : ∀ {u : U} {us : List U} {ds : List D}, Q.aL h u = some us → Dns cc h F us ds → Out cc q (RT cc) h F fp env (Q.uSortS [u] h) (oE (srtS (strsD ds)) e) := by
    intro u us ds a r
    cases q1 : strsD ds with
    | none => trivial
    | some ss =>
      unfold Q.uSortS srtS
      simp only [a, strsU_of r q1]
      by_cases z : ss.length < 64
      · rw [if_pos z, if_pos z, sortS_is]
        exact out_new x sr (dns_strs' _)
      · rw [if_neg z, if_neg z]; trivial
  unfold gSortS
  split
  · obtain ⟨u, rfl, t⟩ := ra_one r; obtain ⟨us, a, r⟩ := t; exact go (aL_of_mL a) r
  · obtain ⟨u, rfl, t⟩ := ra_one r; cases t with | kl r => exact go rfl r
  · trivial
theorem op_sortD : OpL cc s Q.uSortD gSortD (RT cc) := by
  intro q h F fp env e us ds x sr r
  have go : ∀ {kvs : List (DK × D)} {u : U}, (Tp cc h F u (.dK kvs) ∨ Tp cc h F u (.dKl kvs)) → Out cc q (RT cc) h F fp env (Q.uSortD [u] h) (oE (srtS (keysS kvs)) e) := fun {kvs u} t => by
    obtain ⟨us, b, c, r⟩ := tp_dk t
    cases q1 : keysS kvs with
    | none => trivial
    | some ss =>
      unfold Q.uSortD srtS
      simp only [b, keysS_of c q1]
      by_cases z : ss.length < 64
      · rw [if_pos z, if_pos z, sortS_is]
        exact out_new x sr (dns_strs' _)
      · rw [if_neg z, if_neg z]; trivial
  unfold gSortD
  split
  · obtain ⟨u, rfl, t⟩ := ra_one r; exact go (.inl t)
  · obtain ⟨u, rfl, t⟩ := ra_one r; exact go (.inr t)
  · trivial
theorem op_listD : OpL cc s Q.uListD gListD (RT cc) := by
  intro q h F fp env e us ds x sr r
  have go : ∀ {kvs : List (DK × D)} {u : U}, (Tp cc h F u (.dK kvs) ∨ Tp cc h F u (.dKl kvs)) → Out cc q (RT cc) h F fp env (Q.uListD [u] h) (.ok (.ls (kvs.map fun p => dkD p.1)) e) := fun {kvs u} t => by
    obtain ⟨us, b, c, r⟩ := tp_dk t
    unfold Q.uListD
    simp only [b]
    exact out_new x sr (keys_dns c)
  unfold gListD
  split
  · obtain ⟨u, rfl, t⟩ := ra_one r; exact go (.inl t)
  · obtain ⟨u, rfl, t⟩ := ra_one r; exact go (.inr t)
  · trivial
theorem sim_lk {m : EM} {p : PT} (a : Sim cc q (RT cc) m p) : Sim cc false (RD cc) (Q.mLock m) (pLk p) := fun h F env e fp x sr => by
  have o := a h F env e fp x sr
  unfold pLk Q.mLock
  cases q1 : p e with
  | bad => trivial
  | exc C y e' =>
    rw [q1] at o
    obtain ⟨n, h', F', f2, a1, b⟩ := o
    exact ⟨n, h', F', f2, by rw [a1]; rfl, b⟩
  | ok t e' =>
    rw [q1] at o
    obtain ⟨u, h', F', f1, f2, a1, a2, a3, a4, _⟩ := o
    rw [a1]
    rw [Q.e_bind_ok]
    cases t with
    | dK kvs =>
      cases a2 with
      | @dK n us _ en k r =>
        have sr' := a4.sr
        have mm : n ∈ [n] ++ f2 := List.mem_append_left _ (List.mem_singleton.mpr rfl)
        have nn : n ∉ f2 := fun m => (List.nodup_append.mp sr'.nd).2.2 _ (List.mem_singleton.mpr rfl) _ m rfl
        have st := Stab.set sr' mm (O.dKl us)
        have st2 := st.trans (Stab.freeze (h := h'.set n (O.dKl us)) (F := F') [n])
        have en' : (h'.set n (O.dKl us))[n]? = some (O.dKl us) := by rw [List.getElem?_set_self (List.getElem?_eq_some_iff.mp en).1]
        have dn : Dn cc (h'.set n (O.dKl us)) (fun m => F' m ∨ m ∈ [n]) (.ref n) (.dKl kvs) := .dKl (.inr (List.mem_singleton.mpr rfl)) en' k (r.mono st2)
        have ev : Q.lockU (.ref n) h' = .ok (.ref n) (h'.set n (.dKl us)) := by unfold Q.lockU; simp only [en]
        rw [ev]
        exact ⟨_, _, _, [], f2, rfl, ⟨rfl, dn⟩, a3.mono st2 (Keep.set _ nn), a4.trans ((Fr.set sr' mm _).trans (Fr.freeze (sr'.set _))), fun z => by cases z⟩
    | leaf d =>
      cases a2 with
      | leaf dn =>
        cases dn with
        | @dKl n us _ f en k r =>
          have ev : Q.lockU (.ref n) h' = .ok (.ref n) h' := by unfold Q.lockU; simp only [en]
          rw [ev]
          exact ⟨_, _, _, [], f2, rfl, ⟨rfl, .dKl f en k r⟩, a3, a4, fun z => by cases z⟩
        | _ => trivial
    | _ => trivial
theorem sim_callBP {n : Nat} {mask : List Bool} {sem : Sem'} {ps : PSem} (ok : SimF cc mask sem ps) {m : EM} {p : Pth} {am : AM} {pa : PDs} (ap : SimP cc m p) (a : Sim cc true (RDs cc) am pa) : Sim cc false (RT cc) (Q.mCall n sem (Q.aCons m am)) (pCallBP n ps p pa) := fun h F env e fp x sr => by
  have ec : Q.mCall n sem (Q.aCons m am) env h = (m env h).bind fun u h1 => (am env h1).bind fun us h2 => if us.length + 1 = n then sem (u :: us) h2 else .bad := by
    show R.bind (R.bind (m env h) _) _ = _
    cases m env h with
    | ok u h1 =>
      show R.bind (R.bind (am env h1) _) _ = R.bind (am env h1) _
      cases am env h1 with
      | ok us h2 => rfl
      | _ => rfl
    | _ => rfl
  rw [ec]
  exact Out.bind0 sr (Out.anyQ (ap h F env e fp x sr)) (fun u r h1 F1 e1 f2 r1 x1 sr1 st sm => by
    obtain ⟨_, ⟨o, b1, b2⟩, b3⟩ := r1
    refine Out.bind0 sr1 (path_later b2 b3 (.inr rfl) (a h1 F1 env e1 f2 x1 sr1)) (fun us ds h2 F2 e2 f3 r2 x2 sr2 st2 sm2 => ?_) (fun _ _ _ _ _ x => x.1.1)
    obtain ⟨r2, b2⟩ := r2
    cases q2 : getP p.root r e2 with
    | none => trivial
    | some t =>
      simp only
      cases qf : t.fz with
      | none => trivial
      | some sd =>
        simp only
        by_cases z : ds.length + 1 = n
        case neg => rw [if_neg z]; trivial
        rw [if_pos z, if_pos (by rw [r2.2.len]; exact z)]
        obtain ⟨o2, v2, k1, k2, a1, a2, a3, a4, a5⟩ := x2.pt q2 (fun z => by subst z; cases qf)
        rw [b1] at a1; cases a1
        rw [b2] at a2; cases a2
        have stg : Stab h2 F2 h2 (fun n => F2 n ∨ n ∈ k1) := Stab.freeze k1
        have dn := Ow.frz a3 qf (fun n => F2 n ∨ n ∈ k1) (fun _ y => .inl y) (fun _ y => .inr y)
        have o := lent_out ok x2 sr2 (fun n m => a4.mem_iff.mpr (List.mem_append_left _ m)) (.cons (f1 := []) (f2 := []) (.leaf dn) (r2.2.mono stg).ows)
        cases q3 : ps (.leaf sd :: ds.map .leaf) with
        | bad => trivial
        | exc C y =>
          cases y with
          | some y => trivial
          | none =>
            rw [q3] at o
            obtain ⟨m, h', b1, b2, b3, b4⟩ := o
            exact ⟨m, h', F2, f3, b1, b2, b3, b4⟩
        | ok t ws =>
          rw [q3] at o
          show Out cc false (RT cc) h2 F2 f3 env _ (if t.flat = true then .ok t e2 else .bad)
          by_cases fl : t.flat = true
          case neg => rw [if_neg fl]; trivial
          rw [if_pos fl]
          obtain ⟨u, h', f4, b1, b2, b3, b4, b5⟩ := o fl
          exact ⟨u, h', F2, f4, f3, b1, b2, b3, b4, fun _ => b5⟩) rp_nil
theorem sim_callO {mask : List Bool} {n : Nat} {sem : Sem'} {ps : PSem} (ok : SimF cc mask sem ps) {am : AM} {pa : PTs} (a : Sim cc q (RTs cc) am pa) : Sim cc false (RT cc) (Q.mCall n sem am) (pCallO n ps pa) := fun h F env e fp x sr => by
  have a' : Out cc false (RTs cc) h F fp env (am env h) (pa e) := by
    have := a h F env e fp x sr
    cases e1 : pa e with
    | bad => trivial
    | exc C y e' => rw [e1] at this; exact this
    | ok b e' => rw [e1] at this; obtain ⟨a, h', F', f1, f2, a1, a2, a3, a4, a5⟩ := this; exact ⟨a, h', F', f1, f2, a1, a2, a3, a4, fun z => by cases z⟩
  exact a'.bind fun us ts h1 F1 e1 f1 f2 r1 x1 fr sm => by
    by_cases z : ts.length = n
    case neg => rw [if_neg z]; trivial
    rw [if_pos z, if_pos (by rw [Ows.len r1]; exact z)]
    have o := call_out ok (fa := f1) x1 fr.sr r1
    cases q1 : ps ts with
    | bad => trivial
    | exc C y =>
      rw [q1] at o
      obtain ⟨n, h', F', a1, a2, a3, a4, _⟩ := o
      exact ⟨n, h', F', f2, a1, a2, a3, a4⟩
    | ok t ws =>
      rw [q1] at o
      obtain ⟨u, h', F', f3, f4, a1, a2, a3, a4, a5, _, _, a6⟩ := o
      exact ⟨u, h', F', f3, f2, a1, a2, a4, a5.sub ((List.sublist_append_right f4 f2).append_left f3), fun z => by cases z⟩
theorem sim_ixT {m mi : EM} {p : PT} {pi : PE} (a : Sim cc q (RT cc) m p) (b : Sim cc q (RD cc) mi pi) : Sim cc q (RT cc) (Q.mBin Q.uIx m mi) (pIxT p pi) := fun h F env e fp x sr =>
  (a h F env e fp x sr).bind fun u t h1 F1 e1 f1 f2 r1 x1 fr sm => by
    refine Out.bind (Out.hold (R3 := fun h' F' w d f => f = f1 ∧ Ow cc h' F' u t f1 ∧ Dn cc h' F' w d) (b h1 F1 env e1 f2 x1 fr.sr.right) fr.sr fun w d h' F' f' r st k => ⟨by rw [r.1, List.append_nil], Ow.mono st k r1, r.2⟩) ?_
    rintro w d h2 F2 e2 f3 f4 ⟨rfl, y1, y2⟩ x2 fr2 sm2
    cases t with
    | lT ts =>
      cases d with
      | int j =>
        cases y2
        show Out cc q (RT cc) h2 F2 (f3 ++ f4) env (Q.uIx u (.int j) h2) (oE (atI ts j) e2)
        cases q1 : atI ts j with
        | none => trivial
        | some t1 =>
          cases y1 with
          | @lT n us _ fpi en rr =>
            have q1' := q1
            have q1 : L2.atI ts j = some t1 := q1
            unfold L2.atI at q1
            cases q2 : L2.ixN ts.length j with
            | none => rw [q2] at q1; cases q1
            | some k =>
              rw [q2] at q1
              obtain ⟨o, g1, g2, c1, c2, c3, _⟩ := Ows.at rr q1
              have ev : Q.uIx (.ref n) (.int j) h2 = .ok o h2 := by
                show (match Q.sL h2 (.ref n) with
                  | some us => Q.oR (L2.atI us j) h2
                  | none => .bad) = _
                rw [Q.e_sL_ref, en]
                simp only
                unfold L2.atI
                rw [Ows.len rr, q2]
                show Q.oR us[k]? h2 = _
                rw [c1]; rfl
              rw [ev]
              refine ⟨o, h2, F2, g1, f4, rfl, c2, x2, ?_, fun _ => Sm.refl _⟩
              refine (Fr.refl fr2.sr).perm (?_ : ((n :: fpi) ++ f4).Perm ((n :: g2) ++ (g1 ++ f4))) |>.sub (List.sublist_append_right _ _)
              have : (n :: fpi).Perm ((n :: g2) ++ g1) := ((c3.trans List.perm_append_comm).cons n)
              rw [← List.append_assoc]
              exact this.append_right f4
      | _ => trivial
    | _ => cases d <;> trivial
theorem sim_mvP {m : EM} {p : Pth} (a : SimP cc m p) : Sim cc q (RT cc) m (pMvP p) := fun h F env e fp x sr =>
  Out.bindP a x sr fun u r h1 F1 e1 f2 ⟨o, b1, b2⟩ x1 sr1 st => by
    split
    · trivial
    · rename_i d q1
      obtain ⟨o', v, g1, g2, c1, c2, c3, c4, _⟩ := x1.pt q1 (fun z => by cases z)
      rw [b1] at c1; cases c1
      rw [b2] at c2; cases c2
      cases c3 with
      | leaf dn => exact Out.ret0 (.leaf dn) x1 sr1
    · rename_i t nh nl q1
      have nh : t ≠ .hole := fun z => nh z
      obtain ⟨o', v, g1, g2, c1, c2, c3, c4, c5⟩ := x1.pt q1 nh
      rw [b1] at c1; cases c1
      rw [b2] at c2; cases c2
      have lf : t.isLeaf = false := by
        cases t with
        | leaf d => exact (nl d rfl).elim
        | _ => rfl
      obtain ⟨fp', d1, d2⟩ := c5 lf h1 F1 .hole [] .refl (fun _ _ => rfl) (.hole u)
      exact ⟨u, h1, F1, g1, fp', rfl, c3, d1, ((Fr.refl sr1).perm (c4.trans (List.Perm.append_left g1 (by simpa using d2.symm)))), fun _ => Sm.refl _⟩
    · trivial
end
end P

set_option Elab.async false
set_option linter.all false
/-! PDefC: setdefault, *e in a display. -/
namespace P
/-- a change of the dict at a path -/
def pUpdD (p : Pth) (a : PDs) (g : T → List D → Option (D × T)) : PE := fun e => (p.ev e).bind fun r e1 => match getP p.root r e1 with
  | some (.dK _) => (a e1).bind fun ds e2 => (match getP p.root r e2 with
    | some t => (match g t ds with
      | some (d, s) => .ok d (setP p.root r s e2)
      | none => .bad)
    | none => .bad)
  | _ => .bad
def uSd : T → List D → Option (D × T)
  | .dK kvs, [x, d] => (match keyOf x with
    | some k => (match valK kvs k with
      | some y => some (y, .dK kvs)
      | none => if kvs.length < 16000000 then some (d, .dK (putK kvs k d)) else none)
    | none => none)
  | _, _ => none
def sqS : D → Option (List D)
  | .kl us => some us
  | .lst us => some us
  | .tup us => some us
  | _ => none
def dStar (a : PE) (b : PDs) : PDs := fun e => (a e).bind fun x e1 => match sqS x with
  | some us => (b e1).bind fun ys e2 => .ok (us ++ ys) e2
  | none => .bad
end P

set_option Elab.async false
set_option linter.all false
set_option maxRecDepth 100000
set_option maxHeartbeats 1000000
/-! PSU: setdefault, *e in a display. -/
namespace P
open Q (U O Sto Env' R RS EM TM AM SM Sem')
section
variable {cc : Nat → Nat} {h h' h1 h2 : Sto} {F F' F1 F2 : Nat → Prop} {u : U} {d : D} {us : List U} {ds : List D} {t : T} {ts : List T} {f f1 f2 fp fp' fp1 fp2 : List Nat} {env env' : Env'} {e e' : Env} {i : Nat} {q s s1 s2 : Bool} {mk : List Bool}
theorem sim_updD {f : U → List U → Sto → R U} {g : T → List D → Option (D × T)} (ok : UpdOk cc s f g) {m : EM} {p : Pth} {am : AM} {pa : PDs} (a : SimP cc m p) (b : Sim cc q (RA cc s) am pa) (z : p.isVar = true ∨ q = true) : Sim cc false (RD cc) (Q.mDM f m am) (pUpdD p pa g) := fun h F env e fp x sr =>
  Out.bind0 sr (Out.anyQ (a h F env e fp x sr)) (fun u r h1 F1 e1 f2 r1 x1 sr1 st sm => by
    obtain ⟨_, ⟨o, b1, b2⟩, b3⟩ := r1
    cases q1 : getP p.root r e1 with
    | none => trivial
    | some t =>
      cases t with
      | dK xs =>
        have al : Q.isDK h1 u = true := by
          obtain ⟨o', v, g1, g2, c1, c2, c3, _⟩ := x1.pt q1 (fun z => by cases z)
          rw [b1] at c1; cases c1
          rw [b2] at c2; cases c2
          cases c3 with
          | dK e k r => simp only [Q.isDK, e]
        rw [if_pos al]
        refine Out.bind0 sr1 (path_later b2 b3 z (b h1 F1 env e1 f2 x1 sr1)) (fun us ds h2 F2 e2 f3 r2 x2 sr2 st2 sm2 => ?_) (fun _ _ _ _ _ x => x.1.1)
        obtain ⟨ra, b2⟩ := r2
        cases q2 : getP p.root r e2 with
        | none => trivial
        | some t =>
          simp only
          cases q3 : g t ds with
          | none => trivial
          | some dt =>
            obtain ⟨d, t'⟩ := dt
            simp only
            have nh : t ≠ .hole := fun z => by
              subst z
              obtain ⟨_, n, o, u', m, _⟩ := ok h2 F2 (.ref 0) .hole us ds d t' [] (.hole _) ra q3
              cases m
            obtain ⟨o', v, g1, g2, c1, c2, c3, c4, c5⟩ := x2.pt q2 nh
            rw [b1] at c1; cases c1
            rw [b2] at c2; cases c2
            obtain ⟨lf, n, ob, u', m1, m2, m3⟩ := ok h2 F2 u t us ds d t' g1 c3 ra q3
            obtain ⟨m4, m5⟩ := m3 g2 (sr2.perm c4)
            rw [m2]
            exact out_set sr2 c4 m1 (c5 lf) m5 (List.Sublist.refl _) ⟨rfl, m4⟩
      | _ => trivial) rp_nil
theorem upd_sd : UpdOk cc true Q.uSd P.uSd := by
  intro h F v t us ds d t' f1 w r q
  unfold P.uSd at q
  split at q
  · rename_i xs x d1
    split at q
    · rename_i k e0
      obtain ⟨u1, u2, rfl, y1, y2⟩ := ra_two r
      cases w with
      | @dK n ys _ en kk rr =>
        have ql : ys.length = xs.length := by simpa using congrArg List.length kk
        rcases val_rel k kk rr with ⟨u, d0, e2, e3, z⟩ | ⟨e2, e3⟩
        · rw [e3] at q
          cases q
          refine ⟨rfl, n, .dK ys, u, List.mem_singleton.mpr rfl, ?_, fun fp sr => ?_⟩
          · unfold Q.uSd
            simp only [en, keyU_of y1 e0, e2]
          · have st := Stab.set sr (List.mem_append_left _ (List.mem_singleton.mpr rfl)) (O.dK ys)
            exact ⟨z.mono st, .dK (by rw [List.getElem?_set_self (List.getElem?_eq_some_iff.mp en).1]) kk (rr.mono st)⟩
        · rw [e3] at q
          simp only at q
          split at q
          · rename_i q2
            cases q
            refine ⟨rfl, n, .dK (Q.putD ys k u2), u2, List.mem_singleton.mpr rfl, ?_, fun fp sr => ?_⟩
            · unfold Q.uSd
              simp only [en, keyU_of y1 e0, e2]
              rw [if_pos (by rw [ql]; exact q2)]
            · have st := Stab.set sr (List.mem_append_left _ (List.mem_singleton.mpr rfl)) (O.dK (Q.putD ys k u2))
              obtain ⟨k1, k2⟩ := put_rel k y2 kk rr
              exact ⟨y2.mono st, .dK (by rw [List.getElem?_set_self (List.getElem?_eq_some_iff.mp en).1]) k1 (k2.mono st)⟩
          · cases q
    · cases q
  · cases q
theorem sim_setdef {m : EM} {p : Pth} {am : AM} {pa : PDs} (a : SimP cc m p) (b : Sim cc q (RDs cc) am pa) (z : p.isVar = true ∨ q = true) : Sim cc false (RD cc) (Q.mDM Q.uSd m am) (pUpdD p pa P.uSd) := sim_updD upd_sd a (sim_ra b) z
theorem sim_dstar {m : EM} {p : PE} {am : AM} {pa : PDs} (a : Sim cc q (RX cc s) m p) (b : Sim cc q (RDs cc) am pa) : Sim cc q (RDs cc) (Q.aStar m am) (dStar p pa) := fun h F env e fp x sr =>
  Out.bind0 sr (a h F env e fp x sr) (fun u d h1 F1 e1 f2 r1 x1 sr1 st sm => by
    cases qd : sqS d with
    | none => trivial
    | some ds0 =>
      have : ∃ us0, Q.sL h1 u = some us0 ∧ Dns cc h1 F1 us0 ds0 := by
        have t1 := r1.tp
        cases d with
        | lst us => cases qd; obtain ⟨us', a1, r⟩ := t1; exact ⟨_, sL_of_mL a1, r⟩
        | kl us => cases qd; cases t1 with | kl r => exact ⟨_, rfl, r⟩
        | tup us => cases qd; cases t1 with | tup r => exact ⟨_, rfl, r⟩
        | _ => cases qd
      obtain ⟨us0, hs, rr⟩ := this
      show Out cc q (RDs cc) h1 F1 f2 env (match Q.sL h1 u with | some us => (am env h1).bind fun ys h2 => R.ok (us ++ ys) h2 | none => R.bad) _
      rw [hs]
      exact Out.bind0 sr1 (b h1 F1 env e1 f2 x1 sr1) (fun us ds h2 F2 e2 f3 r2 x2 sr2 st2 sm2 => Out.ret0 ⟨rfl, (rr.mono st2).app r2.2⟩ x2 sr2) rds_nil) rx_nil
end
end P

set_option Elab.async false
set_option linter.all false
set_option maxRecDepth 100000
set_option maxHeartbeats 1000000
/-! PLem: how pure meanings are reckoned. -/
namespace P
section
variable {α β : Type} {a : α} {e e1 e2 : Env} {d x y : D} {ds us : List D} {i j : Int} {k n : Nat} {t : T} {ts : List T} {C : Nat}
@[simp] theorem r_ok {f : α → Env → PR β} : (PR.ok a e).bind f = f a e := rfl
@[simp] theorem r_exc {z : Option (List (String × D))} {f : α → Env → PR β} : (PR.exc C z e : PR α).bind f = .exc C z e := rfl
@[simp] theorem r_bad {f : α → Env → PR β} : (PR.bad : PR α).bind f = .bad := rfl
@[simp] theorem r_st {f : α → Env → PRS} : (PR.ok a e).st f = f a e := rfl
@[simp] theorem r_stx {z : Option (List (String × D))} {f : α → Env → PRS} : (PR.exc C z e : PR α).st f = .ex C z e := rfl
@[simp] theorem r_stb {f : α → Env → PRS} : (PR.bad : PR α).st f = .bad := rfl
@[simp] theorem r_no : (PR.ok a e).no = .ok a e := rfl
@[simp] theorem r_snx : (PRS.nx e).no = .nx e := rfl
@[simp] theorem r_srt : (PRS.rt t e).no = .rt t e := rfl
@[simp] theorem r_some : oE (some a) e = .ok a e := rfl
@[simp] theorem r_none : oE (none : Option α) e = .bad := rfl
/-! trees -/
@[simp] theorem fz_leaf : (T.leaf d).fz = some d := rfl
@[simp] theorem fz_ls : (T.ls ds).fz = some (.lst ds) := rfl
@[simp] theorem fz_dK {kvs : List (DK × D)} : (T.dK kvs).fz = some (.dK kvs) := rfl
@[simp] theorem fz_dT {kvs : List (List DK × D)} : (T.dT kvs).fz = some (.dT kvs) := rfl
@[simp] theorem fz_lT : (T.lT ts).fz = match T.fzs ts with | some ds => some (.lst ds) | none => none := by
  conv => lhs; unfold T.fz
  all_goals (cases T.fzs ts <;> rfl)
@[simp] theorem fz_is {fs : List (String × T)} : (T.is C fs).fz = match T.fzf fs with | some ds => some (.ins C ds) | none => none := by
  conv => lhs; unfold T.fz
  all_goals (cases T.fzf fs <;> rfl)
@[simp] theorem fzs_nil : T.fzs [] = some [] := rfl
@[simp] theorem fzs_cons : T.fzs (t :: ts) = match t.fz, T.fzs ts with | some d, some ds => some (d :: ds) | _, _ => none := by
  conv => lhs; unfold T.fzs
  all_goals (cases t.fz <;> cases T.fzs ts <;> rfl)
@[simp] theorem fzf_nil : T.fzf [] = some [] := rfl
@[simp] theorem fzf_cons {f : String} {r : List (String × T)} : T.fzf ((f, t) :: r) = match t.fz, T.fzf r with | some d, some ds => some ((f, d) :: ds) | _, _ => none := by
  conv => lhs; unfold T.fzf
  all_goals (cases t.fz <;> cases T.fzf r <;> rfl)
@[simp] theorem vw_leaf : (T.leaf d).vw = some d := rfl
@[simp] theorem vw_ls : (T.ls ds).vw = some (.lst ds) := rfl
@[simp] theorem vw_dK {kvs : List (DK × D)} : (T.dK kvs).vw = some (.dK kvs) := rfl
@[simp] theorem vw_dT {kvs : List (List DK × D)} : (T.dT kvs).vw = some (.dT kvs) := rfl
theorem fzs_leaf : ∀ ds : List D, T.fzs (ds.map .leaf) = some ds
  | [] => rfl
  | d :: ds => by simp [fzs_leaf ds]
theorem fzs_ls : ∀ ds : List (List D), T.fzs (ds.map .ls) = some (ds.map .lst)
  | [] => rfl
  | d :: ds => by simp [fzs_ls ds]
@[simp] theorem get_nil' : t.get [] = some t := by unfold T.get; rfl
@[simp] theorem get_cons' {c : Ac} {r : List Ac} : t.get (c :: r) = match t.get1 c with | some s => s.get r | none => none := by
  conv => lhs; unfold T.get
  all_goals (cases t.get1 c <;> rfl)
@[simp] theorem set_nil' {s : T} : t.set [] s = s := by unfold T.set; rfl
@[simp] theorem set_cons' {c : Ac} {r : List Ac} {s : T} : t.set (c :: r) s = match t.get1 c with | some u => t.set1 c (u.set r s) | none => t := by
  conv => lhs; unfold T.set
  all_goals (cases t.get1 c <;> rfl)
@[simp] theorem g1_lT : (T.lT ts).get1 (.ix i) = atI ts i := rfl
@[simp] theorem g1_ls : (T.ls ds).get1 (.ix i) = (atI ds i).map .leaf := rfl
@[simp] theorem g1_is {fs : List (String × T)} {Cs : List Nat} {f : String} : (T.is C fs).get1 (.fld Cs f) = if C ∈ Cs then fs.lookup f else none := rfl
@[simp] theorem g1_ins {fs : List (String × D)} {Cs : List Nat} {f : String} : (T.leaf (.ins C fs)).get1 (.fld Cs f) = if C ∈ Cs then (fs.lookup f).map .leaf else none := rfl
@[simp] theorem g1_ll : (T.leaf (.lst ds)).get1 (.ix i) = (atI ds i).map .leaf := rfl
@[simp] theorem g1_lt : (T.leaf (.tup ds)).get1 (.ix i) = (atI ds i).map .leaf := rfl
@[simp] theorem s1_lT {s : T} : (T.lT ts).set1 (.ix i) s = match ixN ts.length i with | some k => .lT (ts.set k s) | none => .lT ts := rfl
@[simp] theorem s1_is {fs : List (String × T)} {Cs : List Nat} {f : String} {s : T} : (T.is C fs).set1 (.fld Cs f) s = .is C (putF f s fs) := rfl
@[simp] theorem getP_def {r : List Ac} : getP k r e = match e[k]? with | some t => t.get r | none => none := rfl
@[simp] theorem setP_def {r : List Ac} {s : T} : setP k r s e = match e[k]? with | some t => e.set k (t.set r s) | none => e := rfl
@[simp] theorem atP_def {r : List Ac} : atP k r e = match getP k r e with | some .hole => .bad | some _ => .ok r e | none => .bad := rfl
@[simp] theorem ev_pvar : (Pth.var k).ev e = atP k [] e := rfl
@[simp] theorem ev_pfld {p : Pth} {Cs : List Nat} {f : String} : (Pth.fld p Cs f).ev e = (p.ev e).bind fun r e1 => atP p.root (r ++ [.fld Cs f]) e1 := rfl
@[simp] theorem ev_pix {p : Pth} {b : PE} : (Pth.ix p b).ev e = (p.ev e).bind fun r e1 => (b e1).bind fun x e2 => match x with | .int i => atP p.root (r ++ [.ix i]) e2 | _ => .bad := rfl
@[simp] theorem root_var : (Pth.var k).root = k := rfl
@[simp] theorem root_fld {p : Pth} {Cs : List Nat} {f : String} : (Pth.fld p Cs f).root = p.root := rfl
@[simp] theorem root_ix {p : Pth} {b : PE} : (Pth.ix p b).root = p.root := rfl
/-! expressions -/
variable {pa pb pc : PE} {ta tb : PT} {b1 b2 : PB} {am : PDs} {g : D → D → Option D} {g1 : D → Option D}
@[simp] theorem v_var : pVar k e = match e[k]? with | some (.leaf d) => .ok d e | _ => .bad := rfl
@[simp] theorem v_fv : pFv k e = match e[k]? with | some t => (match t.fz with | some d => .ok d (e.set k (.leaf d)) | none => .bad) | none => .bad := rfl
@[simp] theorem v_vw : pVw k e = match e[k]? with | some t => oE t.vw e | none => .bad := rfl
@[simp] theorem v_mv : pMv k e = match e[k]? with | some .hole => .bad | some t => .ok t (e.set k .hole) | none => .bad := rfl
@[simp] theorem v_c : pC d e = .ok d e := rfl
@[simp] theorem v_lf : pLf pa e = (pa e).bind fun d e1 => .ok (.leaf d) e1 := rfl
@[simp] theorem v_fz : pFz ta e = (ta e).bind fun t e1 => oE t.fz e1 := rfl
@[simp] theorem v_bin : pBin g pa pb e = (pa e).bind fun x e1 => (pb e1).bind fun y e2 => oE (g x y) e2 := rfl
@[simp] theorem v_un : pUn g1 pa e = (pa e).bind fun x e1 => oE (g1 x) e1 := rfl
@[simp] theorem v_add : pAdd pa pb e = (pa e).bind fun x e1 => (pb e1).bind fun y e2 => oE (tAdd x y) e2 := rfl
@[simp] theorem v_and : pAnd pa pb e = (pa e).bind fun x e1 => match x with | .bl true => pb e1 | .bl false => .ok (.bl false) e1 | _ => .bad := rfl
@[simp] theorem v_or : pOr pa pb e = (pa e).bind fun x e1 => match x with | .bl false => pb e1 | .bl true => .ok (.bl true) e1 | _ => .bad := rfl
@[simp] theorem v_if : pIf b1 pa pb e = (b1 e).bind fun c e1 => if c = true then pa e1 else pb e1 := rfl
@[simp] theorem v_ifT : pIfT b1 ta tb e = (b1 e).bind fun c e1 => if c = true then ta e1 else tb e1 := rfl
@[simp] theorem v_dnil : dNil e = .ok [] e := rfl
@[simp] theorem v_dcons : dCons pa am e = (pa e).bind fun d e1 => (am e1).bind fun ds e2 => .ok (d :: ds) e2 := rfl
@[simp] theorem v_tnil : tNil e = .ok [] e := rfl
@[simp] theorem v_tcons {at' : PTs} : tCons ta at' e = (ta e).bind fun d e1 => (at' e1).bind fun ds e2 => .ok (d :: ds) e2 := rfl
@[simp] theorem v_tup : pTup am e = (am e).bind fun ds e1 => if ds.length ≤ 16000000 then .ok (.tup ds) e1 else .bad := rfl
@[simp] theorem v_lst : pLst am e = (am e).bind fun ds e1 => if ds.length ≤ 16000000 then .ok (.ls ds) e1 else .bad := rfl
@[simp] theorem v_lsT {at' : PTs} : pLsT at' e = (at' e).bind fun ds e1 => if ds.length ≤ 16000000 then .ok (.lT ds) e1 else .bad := rfl
@[simp] theorem v_ono : oNo e = .ok none e := rfl
@[simp] theorem v_oso : oSo pa e = (pa e).bind fun x e1 => match x with | .int i => .ok (some i) e1 | _ => .bad := rfl
@[simp] theorem v_sl {lo hi : PO} : pSl pa lo hi e = (pa e).bind fun x e1 => (lo e1).bind fun l e2 => (hi e2).bind fun u e3 => oE (tSl x l u) e3 := rfl
@[simp] theorem v_cb {f : List D → Option D} : pCB f am e = (am e).bind fun ds e1 => oE (f ds) e1 := rfl
@[simp] theorem v_ct {f : List D → Option T} : pCT f am e = (am e).bind fun ds e1 => oE (f ds) e1 := rfl
@[simp] theorem v_sm1 {f : List Nat → D → Option D} : pSM1 f pa pb e = (pa e).bind fun x e1 => match x with | .str s => (pb e1).bind fun y e2 => oE (f s y) e2 | _ => .bad := rfl
@[simp] theorem v_b : pB b1 e = (b1 e).bind fun b e1 => .ok (.bl b) e1 := rfl
@[simp] theorem v_cmp {f : D → D → Option Bool} : tCmp f pa pb e = (pa e).bind fun x e1 => (pb e1).bind fun y e2 => oE (f x y) e2 := rfl
@[simp] theorem v_tand : tAnd b1 b2 e = (b1 e).bind fun c e1 => if c = true then b2 e1 else .ok false e1 := rfl
@[simp] theorem v_tor : tOr b1 b2 e = (b1 e).bind fun c e1 => if c = true then .ok true e1 else b2 e1 := rfl
@[simp] theorem v_tnot : tNot b1 e = (b1 e).bind fun c e1 => .ok (!c) e1 := rfl
@[simp] theorem v_tru : tTru pa e = (pa e).bind fun x e1 => oE (truD x) e1 := rfl
@[simp] theorem v_yes : tYes e = .ok true e := rfl
@[simp] theorem v_is {A : Ty} : tIs A pa e = (pa e).bind fun x e1 => oE (isD A x) e1 := rfl
@[simp] theorem v_is2 {A B : Ty} : tIs2 A B pa e = (pa e).bind fun x e1 => oE ((isD A x).bind fun b => (isD B x).map fun c => b || c) e1 := rfl
@[simp] theorem v_rd {p : Pth} : pRd p e = (p.ev e).bind fun r e1 => match getP p.root r e1 with | some (.leaf d) => .ok d e1 | some t => (match t.fz with | some d => .ok d (setP p.root r (.leaf d) e1) | none => .bad) | none => .bad := rfl
@[simp] theorem v_vp {p : Pth} : pVp p e = (p.ev e).bind fun r e1 => match getP p.root r e1 with | some t => oE t.vw e1 | none => .bad := rfl
@[simp] theorem v_upd {p : Pth} {f : T → List D → Option (D × T)} : pUpd p am f e = (p.ev e).bind fun r e1 => match getP p.root r e1 with
  | some (.ls _) => (am e1).bind fun ds e2 => (match getP p.root r e2 with
    | some t => (match f t ds with
      | some (d, s) => .ok d (setP p.root r s e2)
      | none => .bad)
    | none => .bad)
  | _ => .bad := rfl
@[simp] theorem v_app : uApp (.ls us) [d] = if us.length < 16000000 then some (.non, .ls (us ++ [d])) else none := rfl
@[simp] theorem v_ext : uExt (.ls us) [.lst ds] = if us.length + ds.length ≤ 16000000 then some (.non, .ls (us ++ ds)) else none := rfl
/-! operators -/
@[simp] theorem o_sub : gSub (.int i) (.int j) = some (.int (i - j)) := rfl
@[simp] theorem o_mul : gMul (.int i) (.int j) = if cMul i j then some (.int (i * j)) else none := rfl
@[simp] theorem o_div : gDiv (.int i) (.int j) = if 0 < j ∧ j.natAbs < 1073741824 then some (.int (i / j)) else none := rfl
@[simp] theorem o_mod : gMod (.int i) (.int j) = if 0 < j then some (.int (i % j)) else none := rfl
@[simp] theorem o_pow : gPow (.int i) (.int j) = if 0 ≤ j ∧ j.natAbs ≤ 1000 ∧ 0 ≤ i ∧ i.natAbs < 1000 then some (.int (i ^ j.toNat)) else none := rfl
@[simp] theorem o_neg : gNeg (.int i) = some (.int (-i)) := rfl
@[simp] theorem o_not {b : Bool} : gNot (.bl b) = some (.bl (!b)) := rfl
@[simp] theorem o_add : tAdd (.int i) (.int j) = some (.leaf (.int (i + j))) := rfl
@[simp] theorem o_adds {s t : List Nat} : tAdd (.str s) (.str t) = if s.length + t.length ≤ 16000000 then some (.leaf (.str (s ++ t))) else none := rfl
@[simp] theorem o_addl : tAdd (.lst us) (.lst ds) = if us.length + ds.length ≤ 16000000 then some (.ls (us ++ ds)) else none := rfl
@[simp] theorem o_addt : tAdd (.tup us) (.tup ds) = if us.length + ds.length ≤ 16000000 then some (.leaf (.tup (us ++ ds))) else none := rfl
@[simp] theorem o_iadd : gIAdd (.int i) (.int j) = some (.int (i + j)) := rfl
@[simp] theorem o_iadds {s t : List Nat} : gIAdd (.str s) (.str t) = if s.length + t.length ≤ 16000000 then some (.str (s ++ t)) else none := rfl
@[simp] theorem o_ixs {s : List Nat} : gIx (.str s) (.int i) = if s.length ≤ 16000000 then (atI s i).map fun c => .str [c] else none := rfl
@[simp] theorem o_ixl : gIx (.lst ds) (.int i) = atI ds i := rfl
@[simp] theorem o_ixt : gIx (.tup ds) (.int i) = atI ds i := rfl
@[simp] theorem o_ixk : gIx (.kl ds) (.int i) = atI ds i := rfl
@[simp] theorem o_sls {s : List Nat} {lo hi : Option Int} : tSl (.str s) lo hi = if s.length ≤ 16000000 then some (.leaf (.str (cut s lo hi))) else none := rfl
@[simp] theorem o_slt {lo hi : Option Int} : tSl (.tup us) lo hi = some (.leaf (.tup (cut us lo hi))) := rfl
@[simp] theorem o_sll {lo hi : Option Int} : tSl (.lst us) lo hi = some (.ls (cut us lo hi)) := rfl
@[simp] theorem o_fld {Cs : List Nat} {f : String} {fs : List (String × D)} : gFld Cs f (.ins C fs) = if C ∈ Cs then fs.lookup f else none := rfl
@[simp] theorem o_lens {s : List Nat} : gLen [.str s] = if s.length ≤ 16000000 then some (.int s.length) else none := rfl
@[simp] theorem o_lenl : gLen [.lst ds] = some (.int ds.length) := rfl
@[simp] theorem o_lent : gLen [.tup ds] = some (.int ds.length) := rfl
@[simp] theorem o_lenk : gLen [.kl ds] = some (.int ds.length) := rfl
@[simp] theorem o_int : gInt [.int i] = some (.int i) := rfl
@[simp] theorem o_intb {b : Bool} : gInt [.bl b] = some (.int (if b then 1 else 0)) := rfl
@[simp] theorem o_listl : gList [.lst ds] = some (.ls ds) := rfl
@[simp] theorem o_listt : gList [.tup ds] = some (.ls ds) := rfl
@[simp] theorem o_listk : gList [.kl ds] = some (.ls ds) := rfl
@[simp] theorem o_tupl : gTuple [.lst ds] = some (.tup ds) := rfl
@[simp] theorem o_tupt : gTuple [.tup ds] = some (.tup ds) := rfl
@[simp] theorem o_min : gMin [.int i, .int j] = some (.int (if j < i then j else i)) := rfl
@[simp] theorem o_max : gMax [.int i, .int j] = some (.int (if j > i then j else i)) := rfl
@[simp] theorem o_abs : gAbs [.int i] = some (.int (if i < 0 then -i else i)) := rfl
@[simp] theorem o_joinl {s : List Nat} : gJoin s (.lst ds) = (strL ds).bind fun ss => if (ss.map List.length).sum + ss.length * s.length ≤ 16000000 then some (.str (joinL s ss)) else none := rfl
@[simp] theorem c_cI {p : Int → Int → Bool} : cI p (.int i) (.int j) = some (p i j) := rfl
@[simp] theorem c_ne : cNe x y = (cEq x y).map not := rfl
@[simp] theorem c_isn : cIs .non .non = some true := rfl
@[simp] theorem c_isx : cIsN x y = (cIs x y).map not := rfl
@[simp] theorem c_nin : cNin x y = (cIn x y).map not := rfl
@[simp] theorem c_eqi : cEq (.int i) (.int j) = some (decide (i = j)) := by
  show (if _ then some (D.eq (.int i) (.int j)) else none) = _
  rw [if_pos (by rfl)]
  simp only [D.eq]; congr 1
@[simp] theorem c_eqs {s t : List Nat} : cEq (.str s) (.str t) = some (decide (s = t)) := by
  show (if _ then some (D.eq (.str s) (.str t)) else none) = _
  rw [if_pos (by rfl)]
  simp only [D.eq]
  by_cases h : s = t <;> simp [h]
@[simp] theorem c_eqb {b c : Bool} : cEq (.bl b) (.bl c) = some (decide (b = c)) := by cases b <;> cases c <;> rfl
@[simp] theorem c_eqis {s : List Nat} : cEq (.int i) (.str s) = some false := rfl
@[simp] theorem c_eqsi {s : List Nat} : cEq (.str s) (.int i) = some false := rfl
@[simp] theorem c_inl : cIn x (.lst ds) = cIn0 x ds := by cases x <;> rfl
theorem cMul_r' (h1 : -1000000000000000000 < j) (h2 : j < 1000000000000000000) : cMul i j := .inr (by omega)
theorem cMul_l' (h1 : -1000000000000000000 < i) (h2 : i < 1000000000000000000) : cMul i j := .inl (by omega)
@[simp] theorem cMul_r (h : j.natAbs ≤ 9000000000000000000) : cMul i j := .inr h
@[simp] theorem cMul_l (h : i.natAbs ≤ 9000000000000000000) : cMul i j := .inl h
@[simp] theorem t_non : truD .non = some false := rfl
@[simp] theorem t_bl {b : Bool} : truD (.bl b) = some b := rfl
@[simp] theorem t_int : truD (.int i) = some (i != 0) := rfl
@[simp] theorem t_str {s : List Nat} : truD (.str s) = if s.length ≤ 16000000 then some (!s.isEmpty) else none := rfl
@[simp] theorem t_lst : truD (.lst ds) = some (!ds.isEmpty) := rfl
@[simp] theorem t_tup : truD (.tup ds) = some (!ds.isEmpty) := rfl
/-! places -/
theorem ixN_nat {j : Nat} (h : j < n) : ixN n (j : Int) = some j := by
  unfold ixN
  rw [if_pos (by omega), if_pos (by omega)]; rfl
theorem atI_nat {l : List α} {j : Nat} : atI l (j : Int) = l[j]? := by
  unfold atI
  by_cases h : j < l.length
  · rw [ixN_nat h]; rfl
  · unfold ixN
    rw [if_pos (by omega), if_neg (by omega), List.getElem?_eq_none (by omega)]; rfl
@[simp] theorem atI_cast {l : List α} {j : Nat} : atI l (j : Int) = l[j]? := atI_nat
@[simp] theorem atI_0 {l : List α} : atI l 0 = l[0]? := atI_nat (j := 0)
@[simp] theorem atI_2 {l : List α} : atI l 2 = l[2]? := atI_nat (j := 2)
@[simp] theorem atI_3 {l : List α} : atI l 3 = l[3]? := atI_nat (j := 3)
@[simp] theorem atI_4 {l : List α} : atI l 4 = l[4]? := atI_nat (j := 4)
@[simp] theorem atI_5 {l : List α} : atI l 5 = l[5]? := atI_nat (j := 5)
@[simp] theorem atI_6 {l : List α} : atI l 6 = l[6]? := atI_nat (j := 6)
@[simp] theorem atI_7 {l : List α} : atI l 7 = l[7]? := atI_nat (j := 7)
@[simp] theorem atI_8 {l : List α} : atI l 8 = l[8]? := atI_nat (j := 8)
@[simp] theorem atI_9 {l : List α} : atI l 9 = l[9]? := atI_nat (j := 9)
@[simp] theorem atI_10 {l : List α} : atI l 10 = l[10]? := atI_nat (j := 10)
@[simp] theorem atI_11 {l : List α} : atI l 11 = l[11]? := atI_nat (j := 11)
@[simp] theorem atI_12 {l : List α} : atI l 12 = l[12]? := atI_nat (j := 12)
@[simp] theorem atI_13 {l : List α} : atI l 13 = l[13]? := atI_nat (j := 13)
@[simp] theorem atI_1 {l : List α} : atI l 1 = l[1]? := atI_nat (j := 1)
theorem atI_pos {l : List α} (h : 0 ≤ i) : atI l i = l[i.toNat]? := by
  have := atI_nat (l := l) (j := i.toNat)
  rwa [Int.toNat_of_nonneg h] at this
theorem ixN_pos (h : 0 ≤ i) (h2 : i < n) : ixN n i = some i.toNat := by
  have := ixN_nat (n := n) (j := i.toNat) (by omega)
  rwa [Int.toNat_of_nonneg h] at this
@[simp] theorem put_nil {f : String} {v : α} : putF f v [] = [(f, v)] := rfl
@[simp] theorem put_cons {f g : String} {v w : α} {r : List (String × α)} : putF f v ((g, w) :: r) = if g = f then (g, v) :: r else (g, w) :: putF f v r := rfl
/-! slices -/
theorem cut_to {l : List α} (h : 0 ≤ i) : cut l none (some i) = l.take i.toNat := by
  unfold cut sIx
  simp only [List.drop_zero, Nat.sub_zero]
  rw [if_neg (by omega)]
  by_cases h : i.toNat ≤ l.length
  · rw [Nat.min_eq_left h]
  · rw [Nat.min_eq_right (by omega), List.take_of_length_le (Nat.le_refl _), List.take_of_length_le (by omega)]
theorem cut_from {l : List α} (h : 0 ≤ i) : cut l (some i) none = l.drop i.toNat := by
  unfold cut sIx
  simp only []
  rw [if_neg (by omega)]
  by_cases h : i.toNat ≤ l.length
  · rw [Nat.min_eq_left h, List.take_of_length_le (by simp)]
  · rw [Nat.min_eq_right (by omega), List.drop_of_length_le (Nat.le_refl _), List.drop_of_length_le (by omega)]; simp
@[simp] theorem cut_toN {l : List α} : cut l none (some (k : Int)) = l.take k := by rw [cut_to (by omega)]; rfl
@[simp] theorem cut_fromN {l : List α} : cut l (some (k : Int)) none = l.drop k := by rw [cut_from (by omega)]; rfl
theorem cut_mid {l : List α} {a b : Nat} (h : a ≤ b) : cut l (some (a : Int)) (some (b : Int)) = (l.drop a).take (b - a) := by
  unfold cut sIx
  simp only []
  rw [if_neg (by omega), if_neg (by omega)]
  simp only [Int.toNat_natCast]
  by_cases ha : a ≤ l.length
  · rw [Nat.min_eq_left ha]
    by_cases hb : b ≤ l.length
    · rw [Nat.min_eq_left hb]
    · rw [Nat.min_eq_right (by omega), List.take_of_length_le (by simp), List.take_of_length_le (by simp; omega)]
  · have e : min a l.length = l.length := Nat.min_eq_right (by omega)
    rw [e, List.drop_of_length_le (Nat.le_refl _), List.drop_of_length_le (by omega)]; simp
theorem cut_last {l : List α} {a : Nat} (h0 : 0 < a) (h : a ≤ l.length) : cut l (some (-(a : Int))) none = l.drop (l.length - a) := by
  unfold cut sIx
  simp only []
  rw [if_pos (by omega)]
  have e : (-(a : Int) + (l.length : Int)).toNat = l.length - a := by omega
  rw [e, List.take_of_length_le (by simp)]
/-! statements -/
variable {m1 m2 : PS} {K : List Nat} {c : CT} {b : PS}
@[simp] theorem s_nx : sNx e = .nx e := rfl
@[simp] theorem s_seq : sSeq m1 m2 e = match m1 e with | .nx e1 => m2 e1 | r => r := rfl
@[simp] theorem s_asg : sAsg k ta e = (ta e).st fun t e1 => .nx (e1.set k t) := rfl
@[simp] theorem s_unp : sUnp c pa e = (pa e).st fun d e1 => match c.asg d e1 with | some e2 => .nx e2 | none => .bad := rfl
@[simp] theorem s_one : (CT.one k).asg d e = some (e.set k (.leaf d)) := by cases d <;> rfl
@[simp] theorem s_tup {is : List Nat} : (CT.tup is).asg (.tup us) e = if us.length = is.length then some (setA e is us) else none := rfl
@[simp] theorem s_lst {is : List Nat} : (CT.lst is).asg (.lst us) e = if us.length = is.length then some (setA e is us) else none := rfl
@[simp] theorem s_setA_c {i : Nat} {is : List Nat} : setA e (i :: is) (d :: us) = setA (e.set i (.leaf d)) is us := rfl
@[simp] theorem s_setA_n : setA e [] us = e := by unfold setA; rfl
@[simp] theorem s_ret : sRet ta e = (ta e).st fun t e1 => .rt t e1 := rfl
@[simp] theorem s_retN : sRetN e = .rt (.leaf .non) e := rfl
@[simp] theorem s_drop : sDrop ta e = (ta e).st fun _ e1 => .nx e1 := rfl
@[simp] theorem s_if : sIf b1 m1 m2 e = (b1 e).st fun c e1 => if c = true then m1 e1 else m2 e1 := rfl
@[simp] theorem s_brk : sBrk e = .bk e := rfl
@[simp] theorem s_cnt : sCnt e = .ct e := rfl
@[simp] theorem kill_nil : kill [] e = e := rfl
@[simp] theorem kill_cons : kill (k :: K) e = kill K (e.set k .hole) := rfl
@[simp] theorem s_for {it : PDs} : sFor K it c b e = (it e).st fun ds e1 => forL K c b ds e1 := rfl
@[simp] theorem s_while {t : PB} : sWhile K n t b e = whL K t b n e := rfl
@[simp] theorem i_op {f : List D → Option (List D)} : iOp f am e = (am e).bind fun ds e1 => oE (f ds) e1 := rfl
@[simp] theorem i_r1 : gR1 [.int j] = if j.natAbs ≤ 1000000000 then some (rng 0 j.toNat) else none := rfl
@[simp] theorem i_r2 : gR2 [.int i, .int j] = if i.natAbs ≤ 1000000000 ∧ j.natAbs ≤ 1000000000 then some (rng i (j - i).toNat) else none := rfl
@[simp] theorem i_e : iE pa e = (pa e).bind fun x e1 => oE (seqD x) e1 := rfl
@[simp] theorem i_str {s : List Nat} : seqD (.str s) = some (s.map fun c => .str [c]) := rfl
@[simp] theorem i_lst : seqD (.lst ds) = some ds := rfl
@[simp] theorem i_tup : seqD (.tup ds) = some ds := rfl
@[simp] theorem i_kl : seqD (.kl ds) = some ds := rfl
@[simp] theorem i_z {x y : D} : gZ [x, y] = match sqD x, sqD y with | some us, some ts => some (pairs us ts) | _, _ => none := rfl
@[simp] theorem sq_l : sqD (.lst ds) = some ds := rfl
@[simp] theorem sq_t : sqD (.tup ds) = some ds := rfl
@[simp] theorem sq_k : sqD (.kl ds) = some ds := rfl
@[simp] theorem i_n : gN [.lst us] = some (pairs (rng 0 us.length) us) := rfl
@[simp] theorem s_setI {p : Pth} : sSetI p pb pa e = (pa e).st fun d e1 => (p.ev e1).st fun r e2 => (pb e2).st fun x e3 => match x, getP p.root r e3 with
  | .int k, some (.ls ds) => (match ixN ds.length k with
    | some j => .nx (setP p.root r (.ls (ds.set j d)) e3)
    | none => .bad)
  | _, _ => .bad := rfl
@[simp] theorem s_aug : sAug g k pa e = match e[k]? with
  | some (.leaf x) => (pa e).st fun y e1 => (match g x y with
    | some z => .nx (e1.set k (.leaf z))
    | none => .bad)
  | _ => .bad := rfl
@[simp] theorem s_augI {p : Pth} : sAugI g p pb pa e = (p.ev e).st fun r e1 => (pb e1).st fun x e2 => match x, getP p.root r e2 with
  | .int k, some (.ls ds) => (match atI ds k with
    | some z => (pa e2).st fun y e3 => (match g z y, getP p.root r e3 with
      | some w, some (.ls ds2) => (match ixN ds2.length k with
        | some j => .nx (setP p.root r (.ls (ds2.set j w)) e3)
        | none => .bad)
      | _, _ => .bad)
    | none => .bad)
  | _, _ => .bad := rfl
@[simp] theorem s_setF {p : Pth} {Cs : List Nat} {f : String} : sSetF Cs f p ta e = (ta e).st fun t e1 => (p.ev e1).st fun r e2 => match getP p.root r e2 with
  | some (.is C fs) => if C ∈ Cs ∧ fs.length < 1000 then .nx (setP p.root r (.is C (putF f t fs)) e2) else .bad
  | _ => .bad := rfl
@[simp] theorem s_augF {p : Pth} {Cs : List Nat} {f : String} : sAugF Cs g f p pa e = (p.ev e).st fun r e1 => match getP p.root r e1 with
  | some (.is C fs) => if C ∈ Cs then (match fs.lookup f with
    | some (.leaf z) => (pa e1).st fun y e3 => (match g z y, getP p.root r e3 with
      | some w, some (.is C2 fs2) => if C2 = C ∧ fs2.length < 1000 then .nx (setP p.root r (.is C2 (putF f (.leaf w) fs2)) e3) else .bad
      | _, _ => .bad)
    | _ => .bad) else .bad
  | _ => .bad := rfl
@[simp] theorem s_raise : sRaise C e = .ex C none e := rfl
@[simp] theorem s_try {ys : List Nat} : sTry ys m1 m2 e = match m1 e with | .ex C _ e1 => if C ∈ ys then (m2 e1).no else .bad | r => r := rfl
/-! calls -/
variable {sem : PSem}
@[simp] theorem l_ok {ws : List T} : callR (.ok t ws) e = .ok t e := rfl
@[simp] theorem l_exc {z : Option (List (String × D))} : callR (.exc C z) e = .exc C z e := rfl
@[simp] theorem l_call : pCall n sem am e = (am e).bind fun ds e1 => if ds.length = n then callR (sem (ds.map .leaf)) e1 else .bad := rfl
@[simp] theorem l_insT {s : T} : insT k s ds = (ds.take k).map .leaf ++ s :: (ds.drop k).map .leaf := rfl
@[simp] theorem l_callV {k i : Nat} : pCallV n k i sem am e = match e[i]? with
  | some .hole => .bad
  | none => .bad
  | some _ => (am e).bind fun ds e1 => match e1[i]? with
    | some s => (if ds.length + 1 = n ∧ k ≤ ds.length then (match sem (insT k s ds) with
      | .ok t [w] => .ok t (e1.set i w)
      | .exc C x => .exc C x (e1.set i .hole)
      | _ => .bad) else .bad)
    | none => .bad := rfl
@[simp] theorem l_callB {k i : Nat} : pCallB n k i sem am e = match e[i]? with
  | some .hole => .bad
  | none => .bad
  | some _ => (am e).bind fun ds e1 => match e1[i]? with
    | some s => (match s.fz with
      | some d => (if ds.length + 1 = n ∧ k ≤ ds.length then (match sem (insT k (.leaf d) ds) with
        | .ok t _ => if t.flat = true then .ok t e1 else .bad
        | .exc C none => .exc C none e1
        | _ => .bad) else .bad)
      | none => .bad)
    | none => .bad := rfl
@[simp] theorem l_meth {m : String} {p : Pth} : pMeth C m n sem p am e = (p.ev e).bind fun r e1 => match getP p.root r e1 with
  | some (.is C1 fs) => (if C1 = C ∧ fs.lookup m = none then (am e1).bind fun ds e2 => (match getP p.root r e2 with
    | some (.is C2 fs2) => (if ds.length + 1 = n then (match sem (.is C2 fs2 :: ds.map .leaf) with
      | .ok t [w] => .ok t (setP p.root r w e2)
      | .exc C x => .exc C x (setP p.root r .hole e2)
      | _ => .bad) else .bad)
    | _ => .bad) else .bad)
  | _ => .bad := rfl
@[simp] theorem l_methB {m : String} {p : Pth} : pMethB C m n sem p am e = (p.ev e).bind fun r e1 => match getP p.root r e1 with
  | some (.is C1 fs) => (if C1 = C ∧ fs.lookup m = none then (am e1).bind fun ds e2 => (match getP p.root r e2 with
    | some (.is C2 fs2) => (match (T.is C2 fs2).fz with
      | some d => (if ds.length + 1 = n then (match sem (.leaf d :: ds.map .leaf) with
        | .ok t _ => if t.flat = true then .ok t e2 else .bad
        | .exc C none => .exc C none e2
        | _ => .bad) else .bad)
      | none => .bad)
    | _ => .bad) else .bad)
  | _ => .bad := rfl
@[simp] theorem l_methD {m : String} : pMethD C m n sem pa am e = (pa e).bind fun x e1 => match x with
  | .ins C1 fs => (if C1 = C ∧ fs.lookup m = none then (am e1).bind fun ds e2 => (if ds.length + 1 = n then callR (sem (.leaf (.ins C1 fs) :: ds.map .leaf)) e2 else .bad) else .bad)
  | _ => .bad := rfl
@[simp] theorem l_make : pMake C n sem am e = (am e).bind fun ds e1 => if ds.length + 1 = n then (match sem (.is C [] :: ds.map .leaf) with
  | .ok (.leaf .non) [w] => .ok w e1
  | _ => .bad) else .bad := rfl
@[simp] theorem pick_t {α : Type} {m : List Bool} {a : α} {l : List α} : pick (true :: m) (a :: l) = a :: pick m l := rfl
@[simp] theorem pick_f {α : Type} {m : List Bool} {a : α} {l : List α} : pick (false :: m) (a :: l) = pick m l := rfl
@[simp] theorem pick_n {α : Type} {l : List α} : pick [] l = [] := by cases l <;> rfl
@[simp] theorem f_fn {mask : List Bool} : pFn n mask m1 ts = if mask.length ≤ ts.length then (match m1 (ts ++ List.replicate (n - ts.length) .hole) with
  | .nx e => .ok (.leaf .non) (pick mask e)
  | .rt t e => .ok t (pick mask e)
  | .ex C x _ => .exc C x
  | _ => .bad) else .bad := rfl
end
/-! ### loops -/
section
variable {K : List Nat} {c : CT} {b : PS} {σ : Type}
theorem kill_len' : ∀ (K : List Nat) (e : Env), (kill K e).length = e.length
  | [], e => rfl
  | k :: K, e => by rw [kill_cons, kill_len' K]; simp
theorem kill_set : ∀ (K : List Nat) (e : Env) (k : Nat), kill K (e.set k .hole) = (kill K e).set k .hole
  | [], e, k => rfl
  | j :: K, e, k => by
    rw [kill_cons, kill_cons]
    by_cases h : k = j
    · subst h; rw [List.set_set, kill_set K e k, List.set_set]
    · rw [List.set_comm _ _ h, kill_set K]
theorem kill_idem : ∀ (K : List Nat) (e : Env), kill K (kill K e) = kill K e
  | [], e => rfl
  | k :: K, e => by rw [kill_cons, kill_cons, kill_set, kill_idem K, kill_set, List.set_set]
/-- how a turn ends -/
def fin (K : List Nat) : PRS → PRS
  | .nx e => .nx (kill K e)
  | .ct e => .nx (kill K e)
  | .bk e => .bk (kill K e)
  | r => r
def turn (K : List Nat) (c : CT) (b : PS) (d : D) (e : Env) : PRS := match c.asg d e with
  | some e1 => fin K (b e1)
  | none => .bad
@[simp] theorem fin_nx {e : Env} : fin K (.nx e) = .nx (kill K e) := rfl
@[simp] theorem fin_ct {e : Env} : fin K (.ct e) = .nx (kill K e) := rfl
@[simp] theorem fin_bk {e : Env} : fin K (.bk e) = .bk (kill K e) := rfl
@[simp] theorem fin_rt {t : T} {e : Env} : fin K (.rt t e) = .rt t e := rfl
@[simp] theorem fin_ex {C : Nat} {x : Option (List (String × D))} {e : Env} : fin K (.ex C x e) = .ex C x e := rfl
@[simp] theorem turn_def {d : D} {e : Env} : turn K c b d e = match c.asg d e with | some e1 => fin K (b e1) | none => .bad := rfl
theorem for_nil {e : Env} : forL K c b [] e = .nx (kill K e) := rfl
theorem for_kill : ∀ (ds : List D) (e : Env), forL K c b ds (kill K e) = forL K c b ds e
  | [], e => by rw [for_nil, for_nil, kill_idem]
  | d :: ds, e => by unfold forL; rw [kill_idem]
theorem for_cons {d : D} {ds : List D} {e : Env} : forL K c b (d :: ds) e = match turn K c b d (kill K e) with
    | .nx e1 => forL K c b ds e1
    | .bk e1 => .nx e1
    | r => r := by
  conv => lhs; unfold forL
  unfold turn
  cases c.asg d (kill K e) with
  | none => rfl
  | some e1 =>
    simp only
    cases b e1 with
    | nx e2 => exact (for_kill ds e2).symm
    | ct e2 => exact (for_kill ds e2).symm
    | _ => rfl
theorem turn_kill {d : D} {e e1 : Env} (h1 : turn K c b d e = .nx e1) : kill K e1 = e1 := by
  unfold turn at h1
  cases q : c.asg d e with
  | none => rw [q] at h1; cases h1
  | some e2 =>
    rw [q] at h1
    simp only at h1
    cases q2 : b e2 with
    | nx e2 => rw [q2] at h1; cases h1; exact kill_idem _ _
    | ct e2 => rw [q2] at h1; cases h1; exact kill_idem _ _
    | _ => rw [q2] at h1; cases h1
/-- a state is carried -/
theorem for_fold (E : σ → Env) (f : σ → D → σ) : ∀ (ds : List D) (s : σ) {e : Env}, kill K e = E s → (∀ s d, d ∈ ds → turn K c b d (E s) = .nx (E (f s d))) → forL K c b ds e = .nx (E (ds.foldl f s))
  | [], s, e, h, _ => by rw [for_nil, h]; rfl
  | d :: ds, s, e, h, st => by
    have h1 := st s d List.mem_cons_self
    have hk : kill K (E (f s d)) = E (f s d) := turn_kill h1
    rw [for_cons, h, h1]
    exact for_fold E f ds (f s d) hk fun s d m => st s d (List.mem_cons_of_mem _ m)
/-- something holds between two turns -/
theorem for_inv (I : Nat → Env → Prop) : ∀ (ds : List D) {j : Nat} {e : Env}, I j (kill K e) → (∀ i d e, ds[i]? = some d → I (j + i) e → ∃ e1, turn K c b d e = .nx e1 ∧ I (j + i + 1) e1) → ∃ e1, forL K c b ds e = .nx e1 ∧ I (j + ds.length) e1
  | [], j, e, h, _ => ⟨_, for_nil, h⟩
  | d :: ds, j, e, h, st => by
    obtain ⟨e1, h1, p1⟩ := st 0 d _ rfl h
    rw [for_cons, h1]
    have := for_inv I ds (j := j + 1) (e := e1) (by rw [turn_kill h1]; exact p1) fun i d e hd p => by
      have := st (i + 1) d e (by simpa using hd) (by rw [show j + (i + 1) = j + 1 + i by omega]; exact p)
      rwa [show j + (i + 1) = j + 1 + i by omega] at this
    rwa [show j + (d :: ds).length = j + 1 + ds.length by simp; omega]
/-- .. or the loop returns -/
theorem for_inv_rt (I : Nat → Env → Prop) (R : T → Env → Prop) : ∀ (ds : List D) {j : Nat} {e : Env}, I j (kill K e) → (∀ i d e, ds[i]? = some d → I (j + i) e → (∃ e1, turn K c b d e = .nx e1 ∧ I (j + i + 1) e1) ∨ ∃ t e1, turn K c b d e = .rt t e1 ∧ R t e1) →
    (∃ e1, forL K c b ds e = .nx e1 ∧ I (j + ds.length) e1) ∨ ∃ t e1, forL K c b ds e = .rt t e1 ∧ R t e1
  | [], j, e, h, _ => .inl ⟨_, for_nil, h⟩
  | d :: ds, j, e, h, st => by
    rcases st 0 d _ rfl h with ⟨e1, h1, p1⟩ | ⟨t, e1, h1, p1⟩
    · rw [for_cons, h1]
      have := for_inv_rt I R ds (j := j + 1) (e := e1) (by rw [turn_kill h1]; exact p1) fun i d e hd p => by
        have := st (i + 1) d e (by simpa using hd) (by rw [show j + (i + 1) = j + 1 + i by omega]; exact p)
        rwa [show j + (i + 1) = j + 1 + i by omega] at this
      rwa [show j + (d :: ds).length = j + 1 + ds.length by simp; omega]
    · rw [for_cons, h1]
      exact .inr ⟨t, e1, rfl, p1⟩
/-- a search -/
theorem for_find (E : Env) (p : D → Bool) (r : D → T) (g : D → Env) : ∀ (ds : List D) {e : Env}, kill K e = E → (∀ d, d ∈ ds → turn K c b d E = if p d = true then .rt (r d) (g d) else .nx E) → forL K c b ds e = match ds.find? p with
    | some d => .rt (r d) (g d)
    | none => .nx E
  | [], e, h, _ => by rw [for_nil, h]; rfl
  | d :: ds, e, h, st => by
    rw [for_cons, h, st d List.mem_cons_self]
    by_cases hp : p d = true
    · rw [if_pos hp, List.find?_cons_of_pos hp]
    · rw [if_neg hp, List.find?_cons_of_neg hp]
      exact for_find E p r g ds (by rw [← h, kill_idem]) fun d m => st d (List.mem_cons_of_mem _ m)
/-! while -/
theorem wh_kill {t : PB} : ∀ (n : Nat) (e : Env), whL K t b n (kill K e) = whL K t b n e
  | 0, _ => rfl
  | n + 1, e => by unfold whL; rw [kill_idem]
theorem wh_step {t : PB} {n : Nat} {e : Env} : whL K t b (n + 1) e = (t (kill K e)).st fun c e1 => if c = true then (match fin K (b e1) with
    | .nx e2 => whL K t b n e2
    | .bk e2 => .nx e2
    | r => r) else .nx e1 := by
  conv => lhs; unfold whL
  congr 1
  funext c e1
  by_cases h : c = true
  · rw [if_pos h, if_pos h]
    cases b e1 with
    | nx e2 => exact (wh_kill n e2).symm
    | ct e2 => exact (wh_kill n e2).symm
    | _ => rfl
  · rw [if_neg h, if_neg h]
/-- a while loop by what holds before each turn -/
theorem wh_inv {t : PB} (I : Nat → Env → Prop) (Z : Env → Prop)
    (st : ∀ k e, I k e → (∃ e1, t e = .ok false e1 ∧ Z e1) ∨ ∃ e1, t e = .ok true e1 ∧ ((∃ k' e2, k' < k ∧ fin K (b e1) = .nx e2 ∧ I k' e2) ∨ ∃ e2, fin K (b e1) = .bk e2 ∧ Z e2)) :
    ∀ (n k : Nat) (e : Env), k < n → I k (kill K e) → ∃ e1, whL K t b n e = .nx e1 ∧ Z e1
  | 0, _, _, z, _ => (Nat.not_lt_zero _ z).elim
  | n + 1, k, e, hk, p => by
    rw [wh_step]
    rcases st k _ p with ⟨e1, h1, z⟩ | ⟨e1, h1, ⟨k', e2, lk, h2, p2⟩ | ⟨e2, h2, z⟩⟩
    · rw [h1]; exact ⟨e1, rfl, z⟩
    · rw [h1, r_st, if_pos rfl, h2]
      have hk2 : kill K e2 = e2 := by
        cases q : b e1 with
        | nx e3 => rw [q] at h2; cases h2; exact kill_idem _ _
        | ct e3 => rw [q] at h2; cases h2; exact kill_idem _ _
        | _ => rw [q] at h2; cases h2
      exact wh_inv I Z st n k' e2 (by omega) (by rw [hk2]; exact p2)
    · rw [h1, r_st, if_pos rfl, h2]
      exact ⟨e2, rfl, z⟩
/-! comprehensions -/
def lcT1 (c : CT) (t : PB) (a : PE) (vs : List Nat) (d : D) (e : Env) : PR (Option D) := match c.asg d e with
  | some e1 => (t e1).no.bind fun b e2 => if b = true then (a e2).no.bind fun y e3 => .ok (some y) (kill vs e3) else .ok none (kill vs e2)
  | none => .bad
@[simp] theorem lcT1_def {t : PB} {a : PE} {vs : List Nat} {d : D} {e : Env} : lcT1 c t a vs d e = match c.asg d e with
  | some e1 => (t e1).no.bind fun b e2 => if b = true then (a e2).no.bind fun y e3 => .ok (some y) (kill vs e3) else .ok none (kill vs e2)
  | none => .bad := rfl
theorem lc_kill {t : PB} {a : PE} {vs : List Nat} : ∀ (ds acc : List D) (e : Env), (lcL c t a vs ds acc (kill vs e)).bind (fun r e => .ok r (kill vs e)) = (lcL c t a vs ds acc e).bind (fun r e => .ok r (kill vs e))
  | [], acc, e => by unfold lcL; simp [kill_idem]
  | d :: ds, acc, e => by unfold lcL; rw [kill_idem]
/-- a state is carried, something is asked of the items -/
theorem lc_inv {t : PB} {a : PE} {vs : List Nat} (I : Nat → List D → Env → Prop) : ∀ (ds acc : List D) {j : Nat} {e : Env}, acc.length + ds.length < 16000000 → I j acc (kill vs e) →
    (∀ i d acc e, ds[i]? = some d → I (j + i) acc e → ∃ o e1, lcT1 c t a vs d e = .ok o e1 ∧ I (j + i + 1) (acc ++ o.toList) e1) → ∃ r e1, (lcL c t a vs ds acc e).bind (fun r e => .ok r (kill vs e)) = .ok r e1 ∧ I (j + ds.length) r e1
  | [], acc, j, e, _, h, _ => ⟨acc, kill vs e, by unfold lcL; rfl, h⟩
  | d :: ds, acc, j, e, hz, h, st => by
    obtain ⟨o, e1, h1, p1⟩ := st 0 d acc _ rfl h
    have next := fun (acc' : List D) (hl : acc'.length ≤ acc.length + 1) (e2 : Env) (p : I (j + 1) acc' (kill vs e2)) => lc_inv I ds acc' (j := j + 1) (e := e2) (by simp at hz; omega) p fun i d acc e hd p => by
      have := st (i + 1) d acc e (by simpa using hd) (by rw [show j + (i + 1) = j + 1 + i by omega]; exact p)
      rwa [show j + (i + 1) = j + 1 + i by omega] at this
    rw [show j + (d :: ds).length = j + 1 + ds.length by simp; omega]
    unfold lcL
    unfold lcT1 at h1
    cases q : c.asg d (kill vs e) with
    | none => rw [q] at h1; cases h1
    | some e0 =>
      rw [q] at h1
      simp only at h1 ⊢
      cases q2 : t e0 with
      | bad => rw [q2] at h1; cases h1
      | exc C x e' => rw [q2] at h1; cases h1
      | ok bv e2 =>
        rw [q2] at h1
        cases bv with
        | false =>
          have h1 : PR.ok (none : Option D) (kill vs e2) = .ok o e1 := h1
          cases h1
          have p1 : I (j + 1) acc (kill vs e2) := by simpa using p1
          exact next acc (by omega) e2 p1
        | true =>
          have h1 : ((a e2).no.bind fun y e3 => PR.ok (some y) (kill vs e3)) = .ok o e1 := h1
          show ∃ r e1, PR.bind ((a e2).no.bind fun y e3 => if acc.length < 16000000 then lcL c t a vs ds (acc ++ [y]) e3 else .bad) _ = _ ∧ _
          cases q3 : a e2 with
          | bad => rw [q3] at h1; cases h1
          | exc C x e' => rw [q3] at h1; cases h1
          | ok y e3 =>
            rw [q3] at h1
            have h1 : PR.ok (some y) (kill vs e3) = .ok o e1 := h1
            cases h1
            rw [r_no, r_ok, if_pos (by simp at hz; omega)]
            exact next (acc ++ [y]) (by simp) e3 p1
def lcR (c : CT) (t : PB) (a : PE) (vs : List Nat) (ds : List D) (e : Env) : PR (List D) := (lcL c t a vs ds [] e).bind fun r e => .ok r (kill vs e)
@[simp] theorem v_lc {it : PDs} {t : PB} {a : PE} {vs : List Nat} {e : Env} : pLc it c t a vs e = (it e).bind fun ds e1 => (lcR c t a vs ds e1).bind fun r e2 => .ok (.ls r) e2 := by
  unfold pLc lcR
  cases it e with
  | bad => rfl
  | exc C x e1 => rfl
  | ok ds e1 => simp only [r_ok]; cases lcL c t a vs ds [] e1 <;> rfl
/-- nothing is carried -/
theorem lc_pure {t : PB} {a : PE} {vs : List Nat} (E : Env) (f : D → Option D) (ds : List D) {e : Env} (h : kill vs e = E) (hz : ds.length < 16000000) (st : ∀ d, d ∈ ds → lcT1 c t a vs d E = .ok (f d) E) : (lcL c t a vs ds [] e).bind (fun r e => .ok r (kill vs e)) = .ok (ds.filterMap f) E := by
  obtain ⟨r, e1, q, rfl, rfl⟩ := lc_inv (c := c) (t := t) (a := a) (vs := vs) (fun i acc e => acc = (ds.take i).filterMap f ∧ e = E) ds [] (j := 0) (e := e) (by simpa using hz) ⟨by simp, h⟩ (by
    rintro i d acc e hd ⟨rfl, rfl⟩
    refine ⟨f d, e, st d (List.mem_of_getElem? hd), ?_, rfl⟩
    rw [Nat.zero_add, List.take_add_one, hd, List.filterMap_append]
    cases h : f d <;> simp [List.filterMap_cons, h])
  rw [q]
  simp
theorem lc_map {t : PB} {a : PE} {vs : List Nat} (E : Env) (f : D → D) (ds : List D) {e : Env} (h : kill vs e = E) (hz : ds.length < 16000000) (st : ∀ d, d ∈ ds → lcT1 c t a vs d E = .ok (some (f d)) E) : (lcL c t a vs ds [] e).bind (fun r e => .ok r (kill vs e)) = .ok (ds.map f) E := by
  rw [lc_pure E (fun d => some (f d)) ds h hz st]
  simp
theorem rng_len {lo : Int} {n : Nat} : (rng lo n).length = n := by simp [rng]
theorem rng_get {lo : Int} {n i : Nat} {d : D} (h : (rng lo n)[i]? = some d) : i < n ∧ d = .int (lo + i) := by
  unfold rng at h
  rw [List.getElem?_map] at h
  cases q : (List.range n)[i]? with
  | none => rw [q] at h; cases h
  | some k =>
    rw [q] at h
    obtain ⟨a, b⟩ := List.getElem?_eq_some_iff.mp q
    simp at a b
    subst b
    cases h
    exact ⟨a, rfl⟩
theorem rng_mem {lo : Int} {n : Nat} {d : D} (h : d ∈ rng lo n) : ∃ i : Nat, i < n ∧ d = .int (lo + i) := by
  obtain ⟨i, a, rfl⟩ := List.mem_map.mp h
  exact ⟨i, by simpa using a, rfl⟩
/-! loops that stand in a goal: generalize hF : forL _ _ _ _ _ = F, then one of these -/
theorem for_st {F : PRS} {ds : List D} {e : Env} (hF : forL K c b ds e = F) (E : σ → Env) (R : Nat → σ → Prop) (s0 : σ) (h0 : kill K e = E s0) (r0 : R 0 s0)
    (st : ∀ i d s, ds[i]? = some d → R i s → ∃ s', turn K c b d (E s) = .nx (E s') ∧ R (i + 1) s') : ∃ s, F = .nx (E s) ∧ R ds.length s := by
  obtain ⟨e1, q, s, rfl, r⟩ := for_inv (K := K) (c := c) (b := b) (fun i e => ∃ s, e = E s ∧ R i s) ds (j := 0) (e := e) ⟨s0, h0, r0⟩ (by
    rintro i d e hd ⟨s, rfl, r⟩
    rw [Nat.zero_add] at r
    obtain ⟨s', a, b⟩ := st i d s hd r
    exact ⟨_, a, s', rfl, by rw [Nat.zero_add]; exact b⟩)
  rw [Nat.zero_add] at r
  exact ⟨s, hF.symm.trans q, r⟩
theorem for_st_rt {F : PRS} {ds : List D} {e : Env} (hF : forL K c b ds e = F) (E : σ → Env) (R : Nat → σ → Prop) (Z : T → Env → Prop) (s0 : σ) (h0 : kill K e = E s0) (r0 : R 0 s0)
    (st : ∀ i d s, ds[i]? = some d → R i s → (∃ s', turn K c b d (E s) = .nx (E s') ∧ R (i + 1) s') ∨ ∃ t e1, turn K c b d (E s) = .rt t e1 ∧ Z t e1) : (∃ s, F = .nx (E s) ∧ R ds.length s) ∨ ∃ t e1, F = .rt t e1 ∧ Z t e1 := by
  rcases for_inv_rt (K := K) (c := c) (b := b) (fun i e => ∃ s, e = E s ∧ R i s) Z ds (j := 0) (e := e) ⟨s0, h0, r0⟩ (by
    rintro i d e hd ⟨s, rfl, r⟩
    rw [Nat.zero_add] at r
    rcases st i d s hd r with ⟨s', a, b⟩ | h
    · exact .inl ⟨_, a, s', rfl, by rw [Nat.zero_add]; exact b⟩
    · exact .inr h) with ⟨e1, q, s, rfl, r⟩ | ⟨t, e1, q, z⟩
  · rw [Nat.zero_add] at r
    exact .inl ⟨s, hF.symm.trans q, r⟩
  · exact .inr ⟨t, e1, hF.symm.trans q, z⟩
theorem for_fo {F : PRS} {ds : List D} {e : Env} (hF : forL K c b ds e = F) (E : σ → Env) (f : σ → D → σ) (s0 : σ) (h0 : kill K e = E s0) (st : ∀ s d, d ∈ ds → turn K c b d (E s) = .nx (E (f s d))) : F = .nx (E (ds.foldl f s0)) :=
  hF.symm.trans (for_fold E f ds s0 h0 st)
theorem for_fi {F : PRS} {ds : List D} {e : Env} (hF : forL K c b ds e = F) (E : Env) (p : D → Bool) (r : D → T) (g : D → Env) (h0 : kill K e = E) (st : ∀ d, d ∈ ds → turn K c b d E = if p d = true then .rt (r d) (g d) else .nx E) : F = match ds.find? p with
    | some d => .rt (r d) (g d)
    | none => .nx E := hF.symm.trans (for_find E p r g ds h0 st)
/-- nothing is carried, no turn ends the loop -/
theorem for_all {F : PRS} {ds : List D} {e : Env} (hF : forL K c b ds e = F) (E : Env) (h0 : kill K e = E) (st : ∀ d, d ∈ ds → turn K c b d E = .nx E) : F = .nx E := by
  have := for_fi hF E (fun _ => false) (fun _ => .hole) (fun _ => []) h0 (by intro d m; rw [st d m]; rfl)
  rw [this]
  cases q : ds.find? fun _ => false with
  | none => rfl
  | some d => have := List.find?_some q; cases this
theorem wh_st {t : PB} {n : Nat} {F : PRS} {e : Env} (hF : whL K t b n e = F) (E : σ → Env) (R : Nat → σ → Prop) (Z : Env → Prop) (k0 : Nat) (s0 : σ) (hk : k0 < n) (h0 : kill K e = E s0) (r0 : R k0 s0)
    (st : ∀ k s, R k s → (∃ e1, t (E s) = .ok false e1 ∧ Z e1) ∨ ∃ e1, t (E s) = .ok true e1 ∧ ((∃ k' s', k' < k ∧ fin K (b e1) = .nx (E s') ∧ R k' s') ∨ ∃ e2, fin K (b e1) = .bk e2 ∧ Z e2)) : ∃ e1, F = .nx e1 ∧ Z e1 := by
  obtain ⟨e1, q, z⟩ := wh_inv (K := K) (t := t) (b := b) (fun k e => ∃ s, e = E s ∧ R k s) Z (by
    rintro k e ⟨s, rfl, r⟩
    rcases st k s r with h | ⟨e1, a, ⟨k', s', l, a2, r2⟩ | h⟩
    · exact .inl h
    · exact .inr ⟨e1, a, .inl ⟨k', _, l, a2, s', rfl, r2⟩⟩
    · exact .inr ⟨e1, a, .inr h⟩) n k0 e hk ⟨s0, h0, r0⟩
  exact ⟨e1, hF.symm.trans q, z⟩
theorem lc_st {t : PB} {a : PE} {vs : List Nat} {F : PR (List D)} {ds : List D} {e : Env} (hF : lcR c t a vs ds e = F) (E : σ → Env) (R : Nat → List D → σ → Prop) (s0 : σ) (hz : ds.length < 16000000) (h0 : kill vs e = E s0) (r0 : R 0 [] s0)
    (st : ∀ i d acc s, ds[i]? = some d → R i acc s → ∃ o s', lcT1 c t a vs d (E s) = .ok o (E s') ∧ R (i + 1) (acc ++ o.toList) s') : ∃ r s, F = .ok r (E s) ∧ R ds.length r s := by
  obtain ⟨r, e1, q, s, rfl, p⟩ := lc_inv (c := c) (t := t) (a := a) (vs := vs) (fun i acc e => ∃ s, e = E s ∧ R i acc s) ds [] (j := 0) (e := e) (by simpa using hz) ⟨s0, h0, r0⟩ (by
    rintro i d acc e hd ⟨s, rfl, r⟩
    rw [Nat.zero_add] at r
    obtain ⟨o, s', a, b⟩ := st i d acc s hd r
    exact ⟨o, _, a, s', rfl, by rw [Nat.zero_add]; exact b⟩)
  rw [Nat.zero_add] at p
  exact ⟨r, s, hF.symm.trans q, p⟩
theorem lc_fi {t : PB} {a : PE} {vs : List Nat} {F : PR (List D)} {ds : List D} {e : Env} (hF : lcR c t a vs ds e = F) (E : Env) (f : D → Option D) (h : kill vs e = E) (hz : ds.length < 16000000) (st : ∀ d, d ∈ ds → lcT1 c t a vs d E = .ok (f d) E) : F = .ok (ds.filterMap f) E := hF.symm.trans (lc_pure E f ds h hz st)
theorem lc_ma {t : PB} {a : PE} {vs : List Nat} {F : PR (List D)} {ds : List D} {e : Env} (hF : lcR c t a vs ds e = F) (E : Env) (f : D → D) (h : kill vs e = E) (hz : ds.length < 16000000) (st : ∀ d, d ∈ ds → lcT1 c t a vs d E = .ok (some (f d)) E) : F = .ok (ds.map f) E := hF.symm.trans (lc_map E f ds h hz st)
end
/-! dicts -/
section
variable {e : Env} {pa pb : PE} {kvs : List (DK × D)} {y : D} {i : Nat} {am : PDs}
@[simp] theorem d_get : gDGet (.dK kvs) y = (keyOf y).bind fun k => valK kvs k := rfl
@[simp] theorem d_getl : gDGet (.dKl kvs) y = (keyOf y).bind fun k => valK kvs k := rfl
@[simp] theorem d_in : cDIn y (.dK kvs) = (keyOf y).map fun k => (valK kvs k).isSome := by unfold cDIn; cases y <;> rfl
@[simp] theorem d_inl : cDIn y (.dKl kvs) = (keyOf y).map fun k => (valK kvs k).isSome := by unfold cDIn; cases y <;> rfl
@[simp] theorem d_nin {x : D} : cDNin y x = (cDIn y x).map not := rfl
@[simp] theorem d_new : pDNew e = .ok (.dK []) e := rfl
@[simp] theorem d_disp : pDisp am e = (am e).bind fun ds e1 => match pairsK ds with
  | some kvs => if kvs.length ≤ 15 then .ok (.dK (mergeP [] kvs)) e1 else .bad
  | none => .bad := rfl
@[simp] theorem d_set {p : Pth} : sSetK p pb pa e = (pa e).st fun d e1 => (p.ev e1).st fun r e2 => (pb e2).st fun x e3 => match keyOf x, getP p.root r e3 with
  | some k, some (.dK ds) => if ds.length < 16000000 then .nx (setP p.root r (.dK (putK ds k d)) e3) else .bad
  | _, _ => .bad := rfl
@[simp] theorem d_kv : iKv i e = match e[i]? with
  | some (.dK kvs) => .ok (kvs.map fun p => dkD p.1) (e.set i (.leaf (.dKl kvs)))
  | some (.leaf (.dKl kvs)) => .ok (kvs.map fun p => dkD p.1) e
  | _ => .bad := rfl
@[simp] theorem d_key : ∀ {k : DK}, keyOf (dkD k) = some k
  | .inl _ => rfl
  | .inr _ => rfl
@[simp] theorem d_keyi {j : Int} : keyOf (.int j) = some (.inl j) := rfl
@[simp] theorem d_keys {s : List Nat} : keyOf (.str s) = some (.inr s) := rfl
end
/-! more built-ins -/
section
variable {ds : List D} {f : List Int → Option Int} {fb : List Bool → Bool}
@[simp] theorem b_li : gLI f [.lst ds] = (intsD ds).bind fun ns => (f ns).map .int := rfl
@[simp] theorem b_lb : gLB fb [.lst ds] = (blsD ds).map fun bs => .bl (fb bs) := rfl
@[simp] theorem b_sortI : gSortI [.lst ds] = (intsD ds).map fun ns => .ls ((sortI ns).map .int) := rfl
@[simp] theorem b_intsD : ∀ ns : List Int, intsD (ns.map .int) = some ns
  | [] => rfl
  | n :: r => by simp [intsD, b_intsD r]
@[simp] theorem b_blsD : ∀ ns : List Bool, blsD (ns.map .bl) = some ns
  | [] => rfl
  | n :: r => by simp [blsD, b_blsD r]
end
/-! conditions that omega sees: simp (disch := omega) [if_le, if_lt] -/
theorem if_le {α : Type} {a b : Nat} {x y : α} (h : a ≤ b) : (if a ≤ b then x else y) = x := if_pos h
theorem if_lt {α : Type} {a b : Nat} {x y : α} (h : a < b) : (if a < b then x else y) = x := if_pos h
/-! membership -/
section
variable {f a : List Nat} {ds : List D} {i : Int}
@[simp] theorem D_eq_ss : D.eq (.str a) (.str f) = decide (f = a) := by
  simp only [D.eq]
  by_cases h : f = a
  · subst h; simp
  · simp [h]; intro z; exact absurd z.symm h
@[simp] theorem D_eq_ii {j : Int} : D.eq (.int j) (.int i) = decide (i = j) := by
  simp only [D.eq]
  by_cases h : i = j
  · subst h; simp
  · simp [h]; intro z; exact absurd z.symm h
@[simp] theorem D_eq_is : D.eq (.int i) (.str f) = false := by simp [D.eq]
@[simp] theorem D_eq_si : D.eq (.str f) (.int i) = false := by simp [D.eq]
@[simp] theorem atom_str : atom (.str f) = true := rfl
@[simp] theorem atom_int : atom (.int i) = true := rfl
@[simp] theorem atom_bl {b : Bool} : atom (.bl b) = true := rfl
@[simp] theorem atom_non : atom .non = true := rfl
@[simp] theorem atom_tup : atom (.tup ds) = false := rfl
@[simp] theorem atom_lst : atom (.lst ds) = false := rfl
@[simp] theorem c_in_st : cIn (.str f) (.tup ds) = if ds.all atom = true then some (ds.any fun y => D.eq y (.str f)) else none := by
  show (if (atom (.str f) && ds.all atom) = true then _ else _) = _
  simp
@[simp] theorem c_in_it : cIn (.int i) (.tup ds) = if ds.all atom = true then some (ds.any fun y => D.eq y (.int i)) else none := by
  show (if (atom (.int i) && ds.all atom) = true then _ else _) = _
  simp
theorem c_in0 {x : D} (h : atom x = true) (h2 : ds.all atom = true) : cIn0 x ds = some (ds.any fun y => D.eq y x) := by
  unfold cIn0; rw [h, h2]; rfl
end
/-! the greatest and the least -/
theorem foldl_mem {f : Int → Int → Int} (hf : ∀ a b, f a b = a ∨ f a b = b) : ∀ (r : List Int) (i : Int), r.foldl f i = i ∨ r.foldl f i ∈ r
  | [], i => .inl rfl
  | b :: r, i => by
    rw [List.foldl_cons]
    rcases foldl_mem hf r (f i b) with h | h
    · rw [h]
      rcases hf i b with h | h
      · exact .inl h
      · rw [h]; exact .inr List.mem_cons_self
    · exact .inr (List.mem_cons_of_mem _ h)
theorem maxL_mem {l : List Int} (h : l ≠ []) : ∃ v, v ∈ l ∧ maxL l = some v := by
  cases l with
  | nil => exact absurd rfl h
  | cons i r =>
    refine ⟨_, ?_, rfl⟩
    rcases foldl_mem (f := fun a b => if b > a then b else a) (fun a b => by split; exact .inr rfl; exact .inl rfl) r i with h | h
    · rw [h]; exact List.mem_cons_self
    · exact List.mem_cons_of_mem _ h
theorem minL_mem {l : List Int} (h : l ≠ []) : ∃ v, v ∈ l ∧ minL l = some v := by
  cases l with
  | nil => exact absurd rfl h
  | cons i r =>
    refine ⟨_, ?_, rfl⟩
    rcases foldl_mem (f := fun a b => if b < a then b else a) (fun a b => by split; exact .inr rfl; exact .inl rfl) r i with h | h
    · rw [h]; exact List.mem_cons_self
    · exact List.mem_cons_of_mem _ h
/-! texts, places, chains -/
section
variable {e : Env} {pa pb pc : PE} {s z : List Nat} {c k : Nat} {i : Int} {f f' : D → D → Option Bool} {ds : List D} {y : D} {ss : List (List Nat)}
@[simp] theorem x_ord : gOrd [.str [c]] = some (.int c) := rfl
@[simp] theorem x_chain : pChain f f' pa pb pc e = (pa e).bind fun x e1 => (pb e1).bind fun y e2 => (oE (f x y) e2).bind fun k e3 => if k = true then (pc e3).bind fun z e4 => (oE (f' y z) e4).bind fun k e5 => .ok (.bl k) e5 else .ok (.bl false) e3 := rfl
@[simp] theorem x_mulS : gMulS (.str s) (.int i) = if s.length * i.toNat ≤ 16000000 ∧ i.natAbs ≤ 1000000000 then some (.str (List.replicate i.toNat s).flatten) else none := rfl
@[simp] theorem x_inS : cInS (.str [c]) (.str z) = some (decide (c ∈ z)) := rfl
@[simp] theorem x_ninS : cNinS (.str [c]) (.str z) = some (!decide (c ∈ z)) := rfl
@[simp] theorem x_indexS : gIndexS s (.str [c]) = (s.findIdx? (· == c)).map fun (i : Nat) => D.int i := rfl
@[simp] theorem x_indexL : gIndexL (.lst ds) y = if ds.all atom = true ∧ atom y = true then (ds.findIdx? fun z => D.eq z y).map fun (i : Nat) => D.int i else none := rfl
@[simp] theorem x_pindexL : pIndexL pa pb e = (pa e).bind fun x e1 => match x with | .lst ds => (pb e1).bind fun y e2 => oE (gIndexL (.lst ds) y) e2 | _ => .bad := rfl
@[simp] theorem x_indexT : gIndexT ss [.str z] = (ss.findIdx? (· == z)).map fun (i : Nat) => D.int i := rfl
@[simp] theorem x_tryAs {ys : List Nat} {b w : PS} : sTryAs k ys b w e = match b e with
  | .ex C x e1 => if C ∈ ys ∧ x = none ∧ k < e1.length then (w (e1.set k .hole)).cl k else .bad
  | r => r := rfl
@[simp] theorem x_clnx : (PRS.nx e).cl k = .nx (e.set k .hole) := rfl
@[simp] theorem x_clrt {t : T} : (PRS.rt t e).cl k = .rt t (e.set k .hole) := rfl
end
/-! ### comprehensions whose items may raise -/
section
variable {α β : Type} {e : Env} {it : PDs} {c : CT} {t : PB} {a : PE} {vs : List Nat}
@[simp] theorem y_lcX : pLcX it c t a vs e = (it e).bind fun ds e1 => (lcLX c t a vs ds [] e1).kl vs .ls := rfl
@[simp] theorem y_klok {f : α → β} {x : α} : (PR.ok x e).kl vs f = .ok (f x) (kill vs e) := rfl
@[simp] theorem y_klex {f : α → β} {C : Nat} {x : Option (List (String × D))} : (PR.exc C x e : PR α).kl vs f = .exc C x (kill vs e) := rfl
/-- something holds between the items, or one of them raises -/
theorem lcX_inv (I : Nat → List D → Env → Prop) (Z : Nat → Option (List (String × D)) → Env → Prop) : ∀ (ds acc : List D) {j : Nat} {e : Env}, acc.length + ds.length < 16000000 → I j acc (kill vs e) →
    (∀ i d acc e, ds[i]? = some d → I (j + i) acc e → ∃ e1, c.asg d e = some e1 ∧ ((∃ y e2, a e1 = .ok y e2 ∧ I (j + i + 1) (acc ++ [y]) (kill vs e2)) ∨ ∃ C x e2, a e1 = .exc C x e2 ∧ Z C x (kill vs e2))) →
    (∃ r e0, lcLX c tYes a vs ds acc e = .ok r e0 ∧ I (j + ds.length) r (kill vs e0)) ∨ ∃ C x e0, lcLX c tYes a vs ds acc e = .exc C x e0 ∧ Z C x (kill vs e0)
  | [], acc, j, e, _, h, _ => .inl ⟨acc, e, by unfold lcLX; rfl, h⟩
  | d :: ds, acc, j, e, hz, h, st => by
    obtain ⟨e1, q, r⟩ := st 0 d acc _ rfl h
    unfold lcLX
    rw [q]
    simp only [v_yes, r_no, r_ok, if_true]
    rcases r with ⟨y, e2, q2, h2⟩ | ⟨C, x, e2, q2, z⟩
    · rw [q2]
      simp only [r_ok]
      simp at hz
      rw [if_pos (by omega)]
      have := lcX_inv I Z ds (acc ++ [y]) (j := j + 1) (e := e2) (by simp; omega) h2 fun i d acc e hd p => by
        have := st (i + 1) d acc e (by simpa using hd) (by rw [show j + (i + 1) = j + 1 + i by omega]; exact p)
        rwa [show j + (i + 1) = j + 1 + i by omega] at this
      rwa [show j + (d :: ds).length = j + 1 + ds.length by simp; omega]
    · rw [q2]
      exact .inr ⟨C, x, e2, rfl, z⟩
end
theorem kA_eq (n : Nat) (i : Int) : kA n i = i := by
  induction n using Nat.strongRecOn with
  | _ n ih =>
    unfold kA
    split
    · rfl
    · exact ih _ (by omega)
@[simp] theorem kI_eq (i : Int) : kI i = i := kA_eq 1 i
end P

set_option Elab.async false
set_option linter.all false
set_option maxRecDepth 100000
set_option maxHeartbeats 1000000
/-! PLemB: how the rest of the pure meanings is reckoned. -/
namespace P
section
variable {α β : Type} {e e1 e2 E : Env} {d x : D} {ds us : List D} {n : Nat} {t : T} {ts : List T} {pa : PT} {pb : PE} {sem : PSem} {am : PDs} {at' : PTs} {p : Pth} {kvs : List (DK × D)} {it : PDs} {c : CT} {a : PT} {vs : List Nat}
@[simp] theorem w_lk : pLk pa e = (pa e).bind fun t e1 => match t with
  | .dK kvs => .ok (.dKl kvs) e1
  | .leaf (.dKl kvs) => .ok (.dKl kvs) e1
  | _ => .bad := rfl
@[simp] theorem w_callBP : pCallBP n sem p am e = (p.ev e).bind fun r e1 => (am e1).bind fun ds e2 => match getP p.root r e2 with
  | some t => (match t.fz with
    | some d => (if ds.length + 1 = n then (match sem (.leaf d :: ds.map .leaf) with
      | .ok t _ => if t.flat = true then .ok t e2 else .bad
      | .exc C none => .exc C none e2
      | _ => .bad) else .bad)
    | none => .bad)
  | none => .bad := rfl
@[simp] theorem w_callO : pCallO n sem at' e = (at' e).bind fun ts e1 => if ts.length = n then callR (sem ts) e1 else .bad := rfl
@[simp] theorem w_ixT : pIxT pa pb e = (pa e).bind fun t e1 => (pb e1).bind fun x e2 => match t, x with
  | .lT ts, .int i => oE (atI ts i) e2
  | _, _ => .bad := rfl
@[simp] theorem w_mvP : pMvP p e = (p.ev e).bind fun r e1 => match getP p.root r e1 with
  | some .hole => .bad
  | some (.leaf d) => .ok (.leaf d) e1
  | some t => .ok t (setP p.root r .hole e1)
  | none => .bad := rfl
@[simp] theorem w_sortS : gSortS [.lst ds] = srtS (strsD ds) := rfl
@[simp] theorem w_sortD : gSortD [.dK kvs] = srtS (keysS kvs) := rfl
@[simp] theorem w_sortDl : gSortD [.dKl kvs] = srtS (keysS kvs) := rfl
@[simp] theorem w_listD : gListD [.dK kvs] = some (.ls (kvs.map fun p => dkD p.1)) := rfl
@[simp] theorem w_listDl : gListD [.dKl kvs] = some (.ls (kvs.map fun p => dkD p.1)) := rfl
@[simp] theorem w_strs : ∀ ss : List (List Nat), strsD (ss.map .str) = some ss
  | [] => rfl
  | s :: r => by simp [strsD, w_strs r]
theorem w_srt {ss : List (List Nat)} (h : ss.length < 64) : srtS (some ss) = some (.ls ((sortS ss).map .str)) := by
  unfold srtS; simp [h]
theorem insS_mem {x y : List Nat} : ∀ {r : List (List Nat)}, y ∈ insS x r ↔ y = x ∨ y ∈ r
  | [] => by simp [insS]
  | z :: r => by
    unfold insS
    split
    · rw [List.mem_cons, insS_mem (r := r), List.mem_cons]
      constructor
      · rintro (h | h | h)
        · exact .inr (.inl h)
        · exact .inl h
        · exact .inr (.inr h)
      · rintro (h | h | h)
        · exact .inr (.inl h)
        · exact .inl h
        · exact .inr (.inr h)
    · simp
theorem sortS_mem {y : List Nat} : ∀ {ss : List (List Nat)}, y ∈ sortS ss ↔ y ∈ ss
  | [] => by simp [sortS]
  | x :: r => by
    have : sortS (x :: r) = insS x (sortS r) := rfl
    rw [this, insS_mem, sortS_mem (ss := r), List.mem_cons]
theorem insS_len {x : List Nat} : ∀ {r : List (List Nat)}, (insS x r).length = r.length + 1
  | [] => rfl
  | z :: r => by
    unfold insS
    split
    · rw [List.length_cons, insS_len (r := r), List.length_cons]
    · rfl
theorem sortS_len : ∀ {ss : List (List Nat)}, (sortS ss).length = ss.length
  | [] => rfl
  | x :: r => by
    have : sortS (x :: r) = insS x (sortS r) := rfl
    rw [this, insS_len, sortS_len (ss := r), List.length_cons]
theorem lcT_ma (E : Env) (f : D → T) : ∀ (ds : List D) (acc : List T) (e : Env), kill vs e = E → acc.length + ds.length < 16000000 → (∀ d ∈ ds, ∃ e1 e3, c.asg d E = some e1 ∧ a e1 = .ok (f d) e3 ∧ kill vs e3 = E) →
    ∃ e', lcT c a vs ds acc e = .ok (acc ++ ds.map f) e' ∧ kill vs e' = E
  | [], acc, e, hk, _, _ => ⟨e, by unfold lcT; simp, hk⟩
  | d :: ds, acc, e, hk, hz, st => by
    obtain ⟨e1, e3, h1, h2, h3⟩ := st d List.mem_cons_self
    simp only [List.length_cons] at hz
    obtain ⟨e', h4, h5⟩ := lcT_ma E f ds (acc ++ [f d]) e3 h3 (by simp; omega) fun d m => st d (List.mem_cons_of_mem _ m)
    refine ⟨e', ?_, h5⟩
    unfold lcT
    rw [hk, h1]
    simp only [h2, r_no, r_ok]
    rw [if_pos (by omega), h4]
    simp
theorem lcT_run (E : Env) (f : D → T) (hi : it e = .ok ds e1) (hk : kill vs e1 = E) (hz : ds.length < 16000000) (st : ∀ d ∈ ds, ∃ e1 e3, c.asg d E = some e1 ∧ a e1 = .ok (f d) e3 ∧ kill vs e3 = E) : pLcT it c a vs e = .ok (.lT (ds.map f)) E := by
  obtain ⟨e', h1, h2⟩ := lcT_ma E f ds [] e1 hk (by simpa using hz) st
  unfold pLcT
  rw [hi, r_ok, h1, r_ok, h2]
  rfl
theorem flats_all : ∀ ds : List D, D.flats ds = ds.all D.flat
  | [] => by unfold D.flats; rfl
  | d :: ds => by unfold D.flats; rw [flats_all ds]; rfl
@[simp] theorem fl_tup : D.flat (.tup ds) = ds.all D.flat := by
  conv => lhs; unfold D.flat
  exact flats_all ds
@[simp] theorem fl_int {i : Int} : D.flat (.int i) = true := by unfold D.flat; rfl
@[simp] theorem fl_str {s : List Nat} : D.flat (.str s) = true := by unfold D.flat; rfl
@[simp] theorem fl_bl {b : Bool} : D.flat (.bl b) = true := by unfold D.flat; rfl
@[simp] theorem fl_non : D.flat .non = true := by unfold D.flat; rfl
@[simp] theorem tfl_leaf : T.flat (.leaf d) = d.flat := by unfold T.flat; rfl
@[simp] theorem tfl_ls : T.flat (.ls ds) = ds.all D.flat := by
  conv => lhs; unfold T.flat
  exact flats_all ds
theorem tflats_all : ∀ ts : List T, T.flats ts = ts.all T.flat
  | [] => by unfold T.flats; rfl
  | d :: ds => by unfold T.flats; rw [tflats_all ds]; rfl
@[simp] theorem tfl_lT : T.flat (.lT ts) = ts.all T.flat := by
  conv => lhs; unfold T.flat
  exact tflats_all ts
@[simp] theorem tfl_dK : T.flat (.dK kvs) = (kvs.map (·.2)).all D.flat := by
  conv => lhs; unfold T.flat
  exact flats_all _
@[simp] theorem tfl_nil : T.flatf [] = true := by unfold T.flatf; rfl
@[simp] theorem tfl_cons {g : String} {r : List (String × T)} : T.flatf ((g, t) :: r) = (t.flat && T.flatf r) := by
  conv => lhs; unfold T.flatf
@[simp] theorem tfl_is {C : Nat} {fs : List (String × T)} : T.flat (.is C fs) = T.flatf fs := by
  conv => lhs; unfold T.flat
end
end P

set_option Elab.async false
set_option linter.all false
set_option maxRecDepth 100000
set_option maxHeartbeats 1000000
/-! PLemC: how setdefault and *e are reckoned. -/
namespace P
section
variable {e : Env} {d x : D} {ds us : List D} {pb : PE} {am : PDs} {p : Pth} {kvs : List (DK × D)} {i : Int} {s : List Nat}
@[simp] theorem x_updD {f : T → List D → Option (D × T)} : pUpdD p am f e = (p.ev e).bind fun r e1 => match getP p.root r e1 with
  | some (.dK _) => (am e1).bind fun ds e2 => (match getP p.root r e2 with
    | some t => (match f t ds with
      | some (d, s) => .ok d (setP p.root r s e2)
      | none => .bad)
    | none => .bad)
  | _ => .bad := rfl
@[simp] theorem x_sdi : uSd (.dK kvs) [.int i, d] = (match valK kvs (.inl i) with
  | some y => some (y, .dK kvs)
  | none => if kvs.length < 16000000 then some (d, .dK (putK kvs (.inl i) d)) else none) := rfl
@[simp] theorem x_sds : uSd (.dK kvs) [.str s, d] = (match valK kvs (.inr s) with
  | some y => some (y, .dK kvs)
  | none => if kvs.length < 16000000 then some (d, .dK (putK kvs (.inr s) d)) else none) := rfl
@[simp] theorem x_sql : sqS (.lst us) = some us := rfl
@[simp] theorem x_sqk : sqS (.kl us) = some us := rfl
@[simp] theorem x_sqt : sqS (.tup us) = some us := rfl
@[simp] theorem x_star : dStar pb am e = (pb e).bind fun x e1 => match sqS x with
  | some us => (am e1).bind fun ys e2 => .ok (us ++ ys) e2
  | none => .bad := rfl
end
end P

set_option Elab.async false
set_option linter.all false
set_option maxRecDepth 100000
set_option maxHeartbeats 2000000
/-! PLaw: what many laws share. -/
namespace P
def lawMix : PSem := pFn 3 [] (sSeq (sAsg 2 (pLf (pBin gMod (pCB gInt (dCons (pFz (pAdd (pFz (pAdd (pBin gMul (pCB gInt (dCons (pVar 0) dNil)) (pC (.int 48271))) (pBin gMul (pVar 1) (pC (.int 69621))))) (pC (.int 12345)))) dNil)) (pC (.int 2147483647)))))
    (sSeq (sAsg 2 (pLf (pBin gMod (pCB gInt (dCons (pFz (pAdd (pFz (pAdd (pBin gMul (pVar 2) (pVar 2)) (pBin gMul (pVar 1) (pC (.int 40692))))) (pC (.int 1)))) dNil)) (pC (.int 2147483399)))))
    (sRet (pLf (pBin gMod (pBin gDiv (pVar 2) (pC (.int 5))) (pC (.int 9973)))))))
def lawDraws : PSem := pFn 5 [] (sSeq (sAsg 1 (pLst dNil))
    (sSeq (sFor [2, 3, 4] (iR1 (dCons (pCB gMin (dCons (pC (.int 63)) (dCons (pCB gLen (dCons (pVar 0) dNil)) dNil))) dNil)) (.one 2) (sSeq (sAsg 3 (pLf (pCB gInt (dCons (pBin gIx (pVar 0) (pVar 2)) dNil))))
    (sIf (tCmp cLt (pVar 3) (pBin gPow (pC (.int 10)) (pC (.int 18)))) (sDrop (pLf (pUpd (.var 1) (dCons (pFz (pCall 2 lawMix (dCons (pVar 3) (dCons (pVar 2) dNil)))) dNil) uApp))) (sFor [4] (iR1 (dCons (pC (.int 60)) dNil)) (.one 4) (sIf (tCmp cGt (pVar 3) (pC (.int 0))) (sSeq (sDrop (pLf (pUpd (.var 1) (dCons (pBin gMod (pCB gInt (dCons (pVar 3) dNil)) (pC (.int 9973))) dNil) uApp)))
    (sAsg 3 (pLf (pBin gDiv (pVar 3) (pC (.int 9973)))))) sNx)))))
    (sRet (pMv 1))))
def lawAt : PSem := pFn 2 [] (sSeq (sIf (tCmp cLt (pVar 1) (pCB gLen (dCons (pVar 0) dNil))) (sRet (pLf (pBin gIx (pVar 0) (pVar 1)))) sNx)
    (sSeq (sIf (tCmp cEq (pCB gLen (dCons (pVar 0) dNil)) (pC (.int 0))) (sRet (pCall 2 lawMix (dCons (pVar 1) (dCons (pC (.int 77)) dNil)))) sNx)
    (sRet (pCall 2 lawMix (dCons (pFz (pAdd (pBin gIx (pVar 0) (pBin gMod (pCB gInt (dCons (pVar 1) dNil)) (pCB gLen (dCons (pVar 0) dNil)))) (pBin gMul (pVar 1) (pC (.int 131))))) (dCons (pVar 1) dNil))))))
def lawNext : PSem := pFn 2 [true] (sSeq (sAugI gIAdd (.var 0) (pC (.int 1)) (pC (.int 1)))
    (sRet (pLf (pBin gMod (pFz (pCall 2 lawAt (dCons (pBin gIx (pVw 0) (pC (.int 0))) (dCons (pBin gIx (pVw 0) (pC (.int 1))) dNil)))) (pVar 1)))))
def lawIsInt : PSem := pFn 1 [] (sRet (pLf (pAnd (pB (tIs .int (pVar 0))) (pUn gNot (pB (tIs .bool (pVar 0)))))))
def lawSame : Nat → PSem
  | 0 => fun _ => .bad
  | n + 1 => pFn 3 [] (sSeq (sIf (tIs2 .list .tuple (pVar 1)) (sSeq (sIf (tOr (tCmp cNe (pB (tIs .list (pVar 1))) (pB (tIs .list (pVar 0)))) (tCmp cNe (pB (tIs .tuple (pVar 1))) (pB (tIs .tuple (pVar 0))))) (sRet (pLf (pC (.bl false)))) sNx)
    (sSeq (sIf (tCmp cNe (pCB gLen (dCons (pVar 0) dNil)) (pCB gLen (dCons (pVar 1) dNil))) (sRet (pLf (pC (.bl false)))) sNx)
    (sSeq (sFor [2] (iR1 (dCons (pCB gLen (dCons (pVar 1) dNil)) dNil)) (.one 2) (sIf (tNot (tTru (pFz (pCall 2 (lawSame n) (dCons (pBin gIx (pVar 0) (pVar 2)) (dCons (pBin gIx (pVar 1) (pVar 2)) dNil)))))) (sRet (pLf (pC (.bl false)))) sNx))
    (sRet (pLf (pC (.bl true))))))) sNx)
    (sSeq (sIf (tCmp cIs (pVar 1) (pC .non)) (sRet (pLf (pB (tCmp cIs (pVar 0) (pC .non))))) sNx)
    (sSeq (sIf (tIs .bool (pVar 1)) (sRet (pLf (pAnd (pB (tIs .bool (pVar 0))) (pB (tCmp cEq (pVar 0) (pVar 1)))))) sNx)
    (sSeq (sIf (tIs .int (pVar 1)) (sRet (pLf (pAnd (pFz (pCall 1 lawIsInt (dCons (pVar 0) dNil))) (pB (tCmp cEq (pVar 0) (pVar 1)))))) sNx)
    (sRet (pLf (pAnd (pB (tIs .str (pVar 0))) (pB (tCmp cEq (pVar 0) (pVar 1))))))))))
/-- lists of natural numbers -/
abbrev In (l : List Nat) : List D := l.map fun (n : Nat) => D.int (n : Int)
def mixF (c k : Int) : Int :=
  ((c * 48271 + k * 69621 + 12345) % 2147483647 * ((c * 48271 + k * 69621 + 12345) % 2147483647) + k * 40692 + 1) % 2147483399 / 5 % 9973
theorem mixF_bd (c k : Int) : 0 ≤ mixF c k ∧ mixF c k < 9973 := ⟨Int.emod_nonneg _ (by decide), Int.emod_lt_of_pos _ (by decide)⟩
def mixN (c k : Int) : Nat := (mixF c k).toNat
theorem mixN_lt (c k : Int) : mixN c k < 9973 := by have := mixF_bd c k; unfold mixN; omega
theorem mixN_eq (c k : Int) : mixF c k = (mixN c k : Int) := by have := mixF_bd c k; unfold mixN; omega
theorem lawMix_ok (c k : Int) : lawMix [.leaf (.int c), .leaf (.int k)] = .ok (.leaf (.int (mixN c k))) [] := by
  rw [← mixN_eq]
  have h1 : 0 ≤ (c * 48271 + k * 69621 + 12345) % 2147483647 := Int.emod_nonneg _ (by decide)
  have h2 : (c * 48271 + k * 69621 + 12345) % 2147483647 < 2147483647 := Int.emod_lt_of_pos _ (by decide)
  unfold lawMix mixF
  simp
  generalize (c * 48271 + k * 69621 + 12345) % 2147483647 = z at h1 h2 ⊢
  have h3 : cMul z z := cMul_l' (by omega) (by omega)
  simp [h3]
/-- all draws are small -/
def Dr (vs : List Nat) : Prop := ∀ v ∈ vs, v < 9973
theorem lawDraws_ok {ns : List Int} (hn : ns.length ≤ 63) : ∃ vs, lawDraws [.leaf (.kl (ns.map .int))] = .ok (.ls (In vs)) [] ∧ Dr vs := by
  unfold lawDraws
  have hm : (if (ns.length : Int) < 63 then (ns.length : Int) else 63) = ns.length := by split <;> omega
  have hz : ns.length ≤ 1000000000 := by omega
  simp [hm, hz]
  generalize hF : forL _ _ _ _ _ = F
  obtain ⟨vs, rfl, d, -⟩ := for_st hF (fun vs => [T.leaf (.kl (ns.map .int)), T.ls (In vs), .hole, .hole, .hole]) (fun i vs => Dr vs ∧ vs.length ≤ 60 * i) [] (by simp) ⟨by simp [Dr], by simp⟩ (by
    rintro i d vs hd ⟨dr, l⟩
    obtain ⟨hi, rfl⟩ := rng_get hd
    have hg : ns[i]? = some ns[i] := List.getElem?_eq_getElem hi
    have hl : vs.length < 16000000 := by omega
    by_cases c : ns[i] < 1000000000000000000
    · refine ⟨vs ++ [mixN ns[i] i], by simp [hg, c, lawMix_ok, hl], ?_, by simp; omega⟩
      intro v m
      rcases List.mem_append.mp m with m | m
      · exact dr v m
      · rw [List.mem_singleton.mp m]; exact mixN_lt _ _
    · simp [hg, c]
      generalize hF2 : forL _ _ _ _ _ = F2
      obtain ⟨⟨ws, y⟩, rfl, d2, l2⟩ := for_st hF2 (fun (s : List Nat × Int) => [T.leaf (.kl (ns.map .int)), T.ls (In s.1), .leaf (.int i), .leaf (.int s.2), .hole]) (fun j s => Dr s.1 ∧ s.1.length ≤ 60 * i + j) (vs, ns[i]) (by simp) ⟨dr, by omega⟩ (by
        rintro j d ⟨ws, y⟩ hd ⟨dr, l⟩
        obtain ⟨hj, rfl⟩ := rng_get hd
        simp only at dr l
        have hl : ws.length < 16000000 := by omega
        by_cases c : 0 < y
        · have e1 : ((y % 9973).toNat : Int) = y % 9973 := by omega
          refine ⟨(ws ++ [(y % 9973).toNat], y / 9973), by simp [c, hl, e1, -Int.ofNat_toNat], ?_, by simp; omega⟩
          intro v m
          rcases List.mem_append.mp m with m | m
          · exact dr v m
          · rw [List.mem_singleton.mp m]; omega
        · exact ⟨(ws, y), by simp [c], dr, by simp; omega⟩)
      refine ⟨ws, by simp, d2, ?_⟩
      rw [rng_len] at l2
      simp at l2; omega)
  exact ⟨vs, by simp, d⟩
/-- what _law_at gives -/
def atN (vs : List Nat) (i : Nat) : Nat :=
  if i < vs.length then vs.getD i 0 else if vs = [] then mixN i 77 else mixN (vs.getD (i % vs.length) 0 + i * 131) i
theorem atN_lt {vs : List Nat} (d : Dr vs) (i : Nat) : atN vs i < 9973 := by
  have g : ∀ j, j < vs.length → vs.getD j 0 < 9973 := fun j h => by
    rw [List.getD_eq_getElem?_getD, List.getElem?_eq_getElem h]; exact d _ (List.getElem_mem h)
  unfold atN
  split
  · exact g _ (by assumption)
  · split
    · exact mixN_lt _ _
    · exact mixN_lt _ _
theorem lawAt_int {vs : List Nat} {j : Int} (h : 0 ≤ j) : lawAt [.leaf (.lst (In vs)), .leaf (.int j)] = .ok (.leaf (.int (atN vs j.toNat))) [] := by
  unfold lawAt atN
  have ej : ((j.toNat : Nat) : Int) = j := Int.toNat_of_nonneg h
  simp only [ej]
  by_cases c : j < vs.length
  · have c' : j.toNat < vs.length := by omega
    have hg : atI (In vs) j = some (.int (vs.getD j.toNat 0 : Nat)) := by
      rw [atI_pos h, List.getElem?_map, List.getD_eq_getElem?_getD, List.getElem?_eq_getElem c']; rfl
    simp [c, c', hg]
  · have c' : ¬ j.toNat < vs.length := by omega
    by_cases z : vs = []
    · have h0 : ¬ j < 0 := by omega
      subst z; simp [lawMix_ok, h0]
    · have hp : 0 < vs.length := List.length_pos_iff.mpr z
      have hm : j.toNat % vs.length < vs.length := Nat.mod_lt _ hp
      have e1 : atI (In vs) (j % (vs.length : Int)) = some (.int (vs.getD (j.toNat % vs.length) 0 : Nat)) := by
        have : j % (vs.length : Int) = ((j.toNat % vs.length : Nat) : Int) := by rw [Int.natCast_emod, ej]
        rw [this, atI_nat, List.getElem?_map, List.getD_eq_getElem?_getD, List.getElem?_eq_getElem hm]; rfl
      have hl : ¬ (vs.length : Int) = 0 := by omega
      generalize vs.getD (j.toNat % vs.length) 0 = w at e1 ⊢
      simp [c, c', z, hp, e1, lawMix_ok]
theorem lawAt_ok (vs : List Nat) (i : Nat) : lawAt [.leaf (.lst (In vs)), .leaf (.int i)] = .ok (.leaf (.int (atN vs i))) [] := lawAt_int (by omega)
/-- the state of a drawing -/
abbrev stT (vs : List Nat) (i : Nat) : T := .ls [.lst (In vs), .int (i : Int)]
theorem lawNext_ok {vs : List Nat} (i : Nat) {L : Int} (h : 0 < L) : lawNext [stT vs i, .leaf (.int L)] = .ok (.leaf (.int ((atN vs (i + 1) : Int) % L))) [stT vs (i + 1)] := by
  have e1 : lawAt [.leaf (.lst (In vs)), .leaf (.int ((i : Int) + 1))] = .ok (.leaf (.int (atN vs (i + 1)))) [] := lawAt_ok vs (i + 1)
  have e2 : T.ls [.lst (In vs), .int ((i + 1 : Nat) : Int)] = T.ls [.lst (In vs), .int ((i : Int) + 1)] := rfl
  unfold lawNext stT
  rw [e2]
  simp [ixN, e1, h]
theorem lawNext_nat {vs : List Nat} (i : Nat) {L : Nat} (h : 0 < L) : lawNext [stT vs i, .leaf (.int (L : Int))] = .ok (.leaf (.int (atN vs (i + 1) % L : Nat))) [stT vs (i + 1)] := by
  rw [lawNext_ok i (by omega)]; rfl
theorem nx (vs : List Nat) (i : Nat) {L : Int} (h : 0 < L) : ∃ v : Nat, (v : Int) < L ∧ lawNext [stT vs i, .leaf (.int L)] = .ok (.leaf (.int v)) [stT vs (i + 1)] := by
  have h1 := Int.emod_nonneg (atN vs (i + 1) : Int) (show L ≠ 0 by omega)
  refine ⟨((atN vs (i + 1) : Int) % L).toNat, ?_, ?_⟩
  · rw [Int.toNat_of_nonneg h1]; exact Int.emod_lt_of_pos _ h
  · rw [lawNext_ok i h, Int.toNat_of_nonneg h1]
/-- nested at most so deep, no list too long, no dict -/
def D.sm : Nat → D → Bool
  | 0, _ => false
  | _, .non => true
  | _, .bl _ => true
  | _, .int _ => true
  | _, .str _ => true
  | n + 1, .tup ds => decide (ds.length ≤ 1000000) && ds.all (D.sm n)
  | n + 1, .lst ds => decide (ds.length ≤ 1000000) && ds.all (D.sm n)
  | _, _ => false
theorem lawSame_ok : ∀ (n : Nat) (d : D), D.sm n d = true → lawSame n [.leaf d, .leaf d] = .ok (.leaf (.bl true)) []
  | 0, d, h => by simp [D.sm] at h
  | n + 1, .non, h => by unfold lawSame; simp [isD, cIs]
  | n + 1, .bl b, h => by unfold lawSame; simp [isD, cIs]
  | n + 1, .int b, h => by
    have : lawIsInt [.leaf (.int b)] = .ok (.leaf (.bl true)) [] := by unfold lawIsInt; simp [isD]
    unfold lawSame; simp [isD, cIs, this]
  | n + 1, .str b, h => by unfold lawSame; simp [isD, cIs]
  | n + 1, .tup ds, h => by
    simp only [D.sm, Bool.and_eq_true, decide_eq_true_eq, List.all_eq_true] at h
    have hz : ds.length ≤ 1000000000 := by omega
    unfold lawSame; simp [isD, hz]
    generalize hF : forL _ _ _ _ _ = F
    have := for_all hF [.leaf (.tup ds), .leaf (.tup ds), .hole] (by simp) (by
      intro d m
      obtain ⟨i, hi, rfl⟩ := rng_mem m
      have hg : ds[i]? = some ds[i] := List.getElem?_eq_getElem hi
      have ih := lawSame_ok n ds[i] (h.2 _ (List.getElem_mem hi))
      simp [hg, ih])
    subst this
    simp
  | n + 1, .lst ds, h => by
    simp only [D.sm, Bool.and_eq_true, decide_eq_true_eq, List.all_eq_true] at h
    have hz : ds.length ≤ 1000000000 := by omega
    unfold lawSame; simp [isD, hz]
    generalize hF : forL _ _ _ _ _ = F
    have := for_all hF [.leaf (.lst ds), .leaf (.lst ds), .hole] (by simp) (by
      intro d m
      obtain ⟨i, hi, rfl⟩ := rng_mem m
      have hg : ds[i]? = some ds[i] := List.getElem?_eq_getElem hi
      have ih := lawSame_ok n ds[i] (h.2 _ (List.getElem_mem hi))
      simp [hg, ih])
    subst this
    simp
  | n + 1, .kl ds, h => by simp [D.sm] at h
  | n + 1, .dK ds, h => by simp [D.sm] at h
  | n + 1, .dT ds, h => by simp [D.sm] at h
  | n + 1, .dKl ds, h => by simp [D.sm] at h
  | n + 1, .ins _ ds, h => by simp [D.sm] at h
theorem sm_In {n : Nat} {l : List Nat} (h : l.length ≤ 1000000) : D.sm (n + 2) (.lst (In l)) = true := by
  simp [D.sm, h]
@[simp] theorem sm_int {n : Nat} {i : Int} : D.sm (n + 1) (.int i) = true := rfl
@[simp] theorem sm_str {n : Nat} {i : List Nat} : D.sm (n + 1) (.str i) = true := rfl
@[simp] theorem sm_bl {n : Nat} {i : Bool} : D.sm (n + 1) (.bl i) = true := rfl
@[simp] theorem sm_non {n : Nat} : D.sm (n + 1) .non = true := rfl
@[simp] theorem sm_tup {n : Nat} {ds : List D} : D.sm (n + 1) (.tup ds) = (decide (ds.length ≤ 1000000) && ds.all (D.sm n)) := rfl
@[simp] theorem sm_lst {n : Nat} {ds : List D} : D.sm (n + 1) (.lst ds) = (decide (ds.length ≤ 1000000) && ds.all (D.sm n)) := rfl
/-! equality of data -/
mutual
theorem D.eq_refl : ∀ {d : D} {n : Nat}, D.ok n d = true → D.eq d d = true
  | .non, _, _ => by simp [D.eq]
  | .bl b, _, _ => by simp [D.eq]
  | .int b, _, _ => by simp [D.eq]
  | .str b, _, _ => by simp [D.eq]
  | .tup ds, 0, h => by simp [D.ok] at h
  | .tup ds, n + 1, h => by simp only [D.ok] at h; simp only [D.eq]; exact D.eqs_refl h
  | .lst ds, 0, h => by simp [D.ok] at h
  | .lst ds, n + 1, h => by simp only [D.ok] at h; simp only [D.eq]; exact D.eqs_refl h
  | .kl _, n, h => by cases n <;> simp [D.ok] at h
  | .dK _, n, h => by cases n <;> simp [D.ok] at h
  | .dT _, n, h => by cases n <;> simp [D.ok] at h
  | .dKl _, n, h => by cases n <;> simp [D.ok] at h
  | .ins _ _, n, h => by cases n <;> simp [D.ok] at h
theorem D.eqs_refl : ∀ {ds : List D} {n : Nat}, D.oks n ds = true → D.eqs ds ds = true
  | [], _, _ => by simp [D.eqs]
  | d :: ds, n, h => by
    unfold D.oks at h
    rw [Bool.and_eq_true] at h
    unfold D.eqs
    rw [D.eq_refl h.1, D.eqs_refl h.2]; rfl
end
theorem cEq_self {d : D} (h : D.ok 50 d = true) : cEq d d = some true := by
  unfold cEq
  rw [h, D.eq_refl h]; simp
@[simp] theorem oks_nil {n : Nat} : D.oks n [] = true := by unfold D.oks; rfl
@[simp] theorem oks_cons {n : Nat} {d : D} {ds : List D} : D.oks n (d :: ds) = (D.ok n d && D.oks n ds) := by conv => lhs; unfold D.oks
theorem oks_all {n : Nat} : ∀ {ds : List D}, D.oks n ds = ds.all (D.ok n)
  | [] => by simp
  | d :: ds => by simp [oks_all (ds := ds)]
@[simp] theorem ok_int {n : Nat} {i : Int} : D.ok n (.int i) = true := by cases n <;> simp [D.ok]
@[simp] theorem ok_bl {n : Nat} {i : Bool} : D.ok n (.bl i) = true := by cases n <;> simp [D.ok]
@[simp] theorem ok_non {n : Nat} : D.ok n .non = true := by cases n <;> simp [D.ok]
@[simp] theorem ok_str {n : Nat} {s : List Nat} : D.ok n (.str s) = s.all (· < 1114112) := by cases n <;> simp [D.ok]
@[simp] theorem ok_tup {n : Nat} {ds : List D} : D.ok (n + 1) (.tup ds) = D.oks n ds := by simp [D.ok]
@[simp] theorem ok_lst {n : Nat} {ds : List D} : D.ok (n + 1) (.lst ds) = D.oks n ds := by simp [D.ok]
theorem oks_In {n : Nat} {l : List Nat} : D.oks n (In l) = true := by rw [oks_all]; simp
theorem eqs_In : ∀ {l m : List Nat}, D.eqs (In l) (In m) = decide (l = m)
  | [], [] => by simp [D.eqs]
  | [], _ :: _ => by simp [D.eqs]
  | _ :: _, [] => by simp [D.eqs]
  | x :: l, y :: m => by
    simp only [List.map_cons, D.eqs, D.eq]
    rw [eqs_In (l := l) (m := m)]
    by_cases h : x = y
    · subst h; simp
    · have : ¬ (x : Int) = (y : Int) := by omega
      simp [h, this]
@[simp] theorem cEq_In {l m : List Nat} : cEq (.lst (In l)) (.lst (In m)) = some (decide (l = m)) := by
  unfold cEq
  have : (D.ok 50 (.lst (In l)) && D.ok 50 (.lst (In m))) = true := by
    rw [ok_lst, ok_lst, oks_In, oks_In]; rfl
  rw [this]
  simp [D.eq, eqs_In]
theorem take_succ' {α : Type} {l : List α} {i : Nat} (h : i < l.length) : l.take (i + 1) = l.take i ++ [l[i]] := by
  rw [List.take_add_one, List.getElem?_eq_getElem h]; rfl
theorem In_get {l : List Nat} {i : Nat} {d : D} (h : (In l)[i]? = some d) : ∃ hi : i < l.length, d = .int (l[i] : Nat) := by
  rw [List.getElem?_map] at h
  cases q : l[i]? with
  | none => rw [q] at h; cases h
  | some x =>
    rw [q] at h; cases h
    obtain ⟨a, b⟩ := List.getElem?_eq_some_iff.mp q
    exact ⟨a, by rw [b]⟩
end P

set_option Elab.async false
set_option linter.all false
set_option maxRecDepth 100000
set_option maxHeartbeats 2000000
/-! PLawB: what the laws k20 to k33 share. -/
namespace P
def lawNextB : PSem := pFn 4 [true] (sSeq (sIf (tAnd (tCmp cEq (pBin gIx (pVw 0) (pC (.int 2))) (pC (.int 0))) (tCmp cLt (pBin gIx (pVw 0) (pC (.int 1))) (pCB gLen (dCons (pBin gIx (pVw 0) (pC (.int 0))) dNil)))) (sSeq (sAsg 2 (pLf (pBin gIx (pBin gIx (pVw 0) (pC (.int 0))) (pBin gIx (pVw 0) (pC (.int 1))))))
    (sSeq (sAugI gIAdd (.var 0) (pC (.int 1)) (pC (.int 1)))
    (sIf (tCmp cGe (pVar 2) (pBin gPow (pC (.int 10)) (pC (.int 18)))) (sSetI (.var 0) (pC (.int 2)) (pVar 2)) (sSetI (.var 0) (pC (.int 3)) (pBin gMod (pCB gInt (dCons (pFz (pAdd (pFz (pAdd (pBin gMul (pBin gIx (pVw 0) (pC (.int 3))) (pC (.int 48271))) (pBin gMod (pCB gInt (dCons (pVar 2) dNil)) (pC (.int 2147483647))))) (pC (.int 7)))) dNil)) (pC (.int 2147483647))))))) sNx)
    (sSeq (sIf (tCmp cGt (pBin gIx (pVw 0) (pC (.int 2))) (pC (.int 0))) (sSeq (sAsg 3 (pLf (pBin gMod (pCB gInt (dCons (pBin gIx (pVw 0) (pC (.int 2))) dNil)) (pVar 1))))
    (sSeq (sSetI (.var 0) (pC (.int 2)) (pBin gDiv (pBin gIx (pVw 0) (pC (.int 2))) (pVar 1)))
    (sRet (pLf (pVar 3))))) sNx)
    (sSeq (sSetI (.var 0) (pC (.int 3)) (pBin gMod (pCB gInt (dCons (pFz (pAdd (pBin gMul (pBin gIx (pVw 0) (pC (.int 3))) (pC (.int 69621))) (pC (.int 12345)))) dNil)) (pC (.int 2147483647))))
    (sRet (pLf (pBin gMod (pCB gInt (dCons (pBin gDiv (pBin gIx (pVw 0) (pC (.int 3))) (pC (.int 7))) dNil)) (pVar 1)))))))
def lawSameB : Nat → PSem
  | 0 => fun _ => .bad
  | n + 1 => pFn 3 [] (sSeq (sIf (tCmp cIs (pVar 1) (pC .non)) (sRet (pLf (pB (tCmp cIs (pVar 0) (pC .non))))) sNx)
    (sSeq (sIf (tIs .bool (pVar 1)) (sRet (pLf (pAnd (pB (tIs .bool (pVar 0))) (pB (tCmp cEq (pVar 0) (pVar 1)))))) sNx)
    (sSeq (sIf (tIs .int (pVar 1)) (sRet (pLf (pAnd (pB (tIs .int (pVar 0))) (pAnd (pUn gNot (pB (tIs .bool (pVar 0)))) (pB (tCmp cEq (pVar 0) (pVar 1))))))) sNx)
    (sSeq (sIf (tIs .str (pVar 1)) (sRet (pLf (pAnd (pB (tIs .str (pVar 0))) (pB (tCmp cEq (pVar 0) (pVar 1)))))) sNx)
    (sSeq (sIf (tAnd (tIs .tuple (pVar 1)) (tNot (tIs .tuple (pVar 0)))) (sRet (pLf (pC (.bl false)))) sNx)
    (sSeq (sIf (tAnd (tIs .list (pVar 1)) (tNot (tIs .list (pVar 0)))) (sRet (pLf (pC (.bl false)))) sNx)
    (sSeq (sIf (tCmp cNe (pCB gLen (dCons (pVar 0) dNil)) (pCB gLen (dCons (pVar 1) dNil))) (sRet (pLf (pC (.bl false)))) sNx)
    (sSeq (sFor [2] (iR1 (dCons (pCB gLen (dCons (pVar 1) dNil)) dNil)) (.one 2) (sIf (tNot (tTru (pFz (pCall 2 (lawSameB n) (dCons (pBin gIx (pVar 0) (pVar 2)) (dCons (pBin gIx (pVar 1) (pVar 2)) dNil)))))) (sRet (pLf (pC (.bl false)))) sNx))
    (sRet (pLf (pC (.bl true))))))))))))
/-- the state of a drawing -/
structure NS where
  ns : List Int
  i : Nat
  a : Int
  b : Int
def NS.one (s : NS) : NS := if s.a = 0 ∧ s.i < s.ns.length then (if 1000000000000000000 ≤ s.ns.getD s.i 0 then { s with i := s.i + 1, a := s.ns.getD s.i 0 } else { s with i := s.i + 1, b := (s.b * 48271 + s.ns.getD s.i 0 % 2147483647 + 7) % 2147483647 }) else s
def nxS (s : NS) (L : Int) : NS := if 0 < s.one.a then { s.one with a := s.one.a / L } else { s.one with b := (s.one.b * 69621 + 12345) % 2147483647 }
def nxV (s : NS) (L : Int) : Int := if 0 < s.one.a then s.one.a % L else ((s.one.b * 69621 + 12345) % 2147483647) / 7 % L
theorem nxV_pos (s : NS) {L : Int} (h : 0 < L) : 0 ≤ nxV s L := by
  unfold nxV; split <;> exact Int.emod_nonneg _ (by omega)
theorem nxV_lt (s : NS) {L : Int} (h : 0 < L) : nxV s L < L := by
  unfold nxV; split <;> exact Int.emod_lt_of_pos _ h
abbrev stB (s : NS) (r : List D) : T := .ls (.lst (s.ns.map .int) :: .int s.i :: .int s.a :: .int s.b :: r)
theorem lawNextB_ok (s : NS) (r : List D) {L : Int} (h : 0 < L) (h2 : L.natAbs < 1073741824) : lawNextB [stB s r, .leaf (.int L)] = .ok (.leaf (.int (nxV s L))) [stB (nxS s L) r] := by
  obtain ⟨ns, i, a, b⟩ := s
  have hix : ∀ n : Nat, 4 ≤ n → ixN n 0 = some 0 ∧ ixN n 1 = some 1 ∧ ixN n 2 = some 2 ∧ ixN n 3 = some 3 := fun n hn => by
    unfold ixN; refine ⟨?_, ?_, ?_, ?_⟩ <;> rw [if_pos (by decide), if_pos (by omega)] <;> rfl
  have q := hix (r.length + 1 + 1 + 1 + 1) (by omega)
  unfold lawNextB nxV nxS NS.one stB
  by_cases c : a = 0 ∧ i < ns.length
  · obtain ⟨rfl, ci⟩ := c
    have hg : ns[i]? = some ns[i] := List.getElem?_eq_getElem ci
    by_cases c2 : 1000000000000000000 ≤ ns[i]
    · have c3 : (0 : Int) < ns[i] := by omega
      simp [q, ci, hg, c2, c3, h, h2]
    · simp [q, ci, hg, c2, h, h2]
  · have c' : ¬ (a = 0 ∧ (i : Int) < ns.length) := fun z => c ⟨z.1, by omega⟩
    by_cases c3 : 0 < a
    · have c4 : ¬ a = 0 := by omega
      simp [q, c3, c4, h, h2]
    · by_cases c4 : a = 0
      · subst c4
        have ci : ¬ i < ns.length := fun z => c ⟨rfl, z⟩
        simp [q, ci, h, h2]
      · simp [q, c3, c4, h, h2]
theorem lawSameB_ok : ∀ (n : Nat) (d : D), D.sm n d = true → lawSameB n [.leaf d, .leaf d] = .ok (.leaf (.bl true)) []
  | 0, d, h => by simp [D.sm] at h
  | n + 1, .non, h => by unfold lawSameB; simp [isD, cIs]
  | n + 1, .bl b, h => by unfold lawSameB; simp [isD, cIs]
  | n + 1, .int b, h => by unfold lawSameB; simp [isD, cIs]
  | n + 1, .str b, h => by unfold lawSameB; simp [isD, cIs]
  | n + 1, .tup ds, h => by
    simp only [D.sm, Bool.and_eq_true, decide_eq_true_eq, List.all_eq_true] at h
    have hz : ds.length ≤ 1000000000 := by omega
    unfold lawSameB; simp [isD, hz, cIs]
    generalize hF : forL _ _ _ _ _ = F
    have := for_all hF [.leaf (.tup ds), .leaf (.tup ds), .hole] (by simp) (by
      intro d m
      obtain ⟨i, hi, rfl⟩ := rng_mem m
      have hg : ds[i]? = some ds[i] := List.getElem?_eq_getElem hi
      have ih := lawSameB_ok n ds[i] (h.2 _ (List.getElem_mem hi))
      simp [hg, ih])
    subst this
    simp
  | n + 1, .lst ds, h => by
    simp only [D.sm, Bool.and_eq_true, decide_eq_true_eq, List.all_eq_true] at h
    have hz : ds.length ≤ 1000000000 := by omega
    unfold lawSameB; simp [isD, hz, cIs]
    generalize hF : forL _ _ _ _ _ = F
    have := for_all hF [.leaf (.lst ds), .leaf (.lst ds), .hole] (by simp) (by
      intro d m
      obtain ⟨i, hi, rfl⟩ := rng_mem m
      have hg : ds[i]? = some ds[i] := List.getElem?_eq_getElem hi
      have ih := lawSameB_ok n ds[i] (h.2 _ (List.getElem_mem hi))
      simp [hg, ih])
    subst this
    simp
  | n + 1, .kl ds, h => by simp [D.sm] at h
  | n + 1, .dK ds, h => by simp [D.sm] at h
  | n + 1, .dT ds, h => by simp [D.sm] at h
  | n + 1, .dKl ds, h => by simp [D.sm] at h
  | n + 1, .ins _ ds, h => by simp [D.sm] at h
end P

set_option Elab.async false
set_option linter.all false
set_option maxRecDepth 100000
set_option maxHeartbeats 4000000
namespace LAW
open PySem PySem.Spec PyProof.Rows L2 TL Q
noncomputable def m_law_mix : Sem' := fnM 3 (mSeq (mAsg (.one 2) (mBin uMod (mCB uInt (aCons (mBin uAdd (mBin uAdd (mBin uMul (mCB uInt (aCons (mVar 0) aNil)) (mC (.int 48271))) (mBin uMul (mVar 1) (mC (.int 69621)))) (mC (.int 12345))) aNil)) (mC (.int 2147483647))))
    (mSeq (mAsg (.one 2) (mBin uMod (mCB uInt (aCons (mBin uAdd (mBin uAdd (mBin uMul (mVar 2) (mVar 2)) (mBin uMul (mVar 1) (mC (.int 40692)))) (mC (.int 1))) aNil)) (mC (.int 2147483399))))
    (mRet (mBin uMod (mBin uDiv (mVar 2) (mC (.int 5))) (mC (.int 9973))))))
noncomputable def m_law_draws : Sem' := fnM 5 (mSeq (mAsg (.one 1) (mLst aNil))
    (mSeq (mFor (itR1 (aCons (mCB uMin (aCons (mC (.int 63)) (aCons (mCB uLen (aCons (mVar 0) aNil)) aNil))) aNil)) (.one 2) (mSeq (mAsg (.one 3) (mCB uInt (aCons (mBin uIx (mVar 0) (mVar 2)) aNil)))
    (mIfS (bCmp cLt (mVar 3) (mBin uPow (mC (.int 10)) (mC (.int 18)))) (mDrop (mLM uApp (mVar 1) (aCons (mCall 2 m_law_mix (aCons (mVar 3) (aCons (mVar 2) aNil))) aNil))) (mFor (itR1 (aCons (mC (.int 60)) aNil)) (.one 4) (mIfS (bCmp cGt (mVar 3) (mC (.int 0))) (mSeq (mDrop (mLM uApp (mVar 1) (aCons (mBin uMod (mCB uInt (aCons (mVar 3) aNil)) (mC (.int 9973))) aNil)))
    (mAsg (.one 3) (mBin uDiv (mVar 3) (mC (.int 9973))))) mNx)))))
    (mRet (mVar 1))))
noncomputable def m_law_at : Sem' := fnM 2 (mSeq (mIfS (bCmp cLt (mVar 1) (mCB uLen (aCons (mVar 0) aNil))) (mRet (mBin uIx (mVar 0) (mVar 1))) mNx)
    (mSeq (mIfS (bCmp cEq (mCB uLen (aCons (mVar 0) aNil)) (mC (.int 0))) (mRet (mCall 2 m_law_mix (aCons (mVar 1) (aCons (mC (.int 77)) aNil)))) mNx)
    (mRet (mCall 2 m_law_mix (aCons (mBin uAdd (mBin uIx (mVar 0) (mBin uMod (mCB uInt (aCons (mVar 1) aNil)) (mCB uLen (aCons (mVar 0) aNil)))) (mBin uMul (mVar 1) (mC (.int 131)))) (aCons (mVar 1) aNil))))))
noncomputable def m_law_kind : Sem' := fnM 4 (mSeq (mAsg (.one 3) (mBin uIx (mLst (aCons (mBin uIx (mVar 2) (mC (.int 0))) (aCons (mBin uIx (mVar 2) (mC (.int 1))) (aCons (mBin uIx (mVar 2) (mC (.int 2))) (aCons (mBin uIx (mVar 2) (mC (.int 3))) (aCons (mC (.str [110, 117, 109])) (aCons (mC (.str [116, 101, 120, 116])) (aCons (mC (.str [100])) (aCons (mC (.str [101, 50])) (aCons (mBin uIx (mVar 2) (mC (.int 0))) aNil)))))))))) (mBin uMod (mCall 2 m_law_at (aCons (mVar 0) (aCons (mBin uAdd (mVar 1) (mC (.int 1))) aNil))) (mC (.int 9)))))
    (mRet (mTup (aCons (mBin uMod (mCall 2 m_law_at (aCons (mVar 0) (aCons (mVar 1) aNil))) (mC (.int 4))) (aCons (mVar 3) aNil)))))
noncomputable def m_law_pair : Sem' := fnM 6 (mSeq (mAsg (.one 3) (mBin uMod (mCall 2 m_law_at (aCons (mVar 0) (aCons (mVar 1) aNil))) (mC (.int 5))))
    (mSeq (mAsg (.one 4) (mLc (itR1 (aCons (mBin uAdd (mVar 3) (mC (.int 1))) aNil)) (.one 5) bYes (mCall 3 m_law_kind (aCons (mVar 0) (aCons (mBin uAdd (mBin uAdd (mVar 1) (mC (.int 1))) (mBin uMul (mC (.int 2)) (mVar 5))) (aCons (mVar 2) aNil)))) [5]))
    (mRet (mLst (aCons (mCB uTuple (aCons (mSl (mVar 4) oNone (oSome (mVar 3))) aNil)) (aCons (mBin uIx (mVar 4) (mVar 3)) aNil))))))
noncomputable def m_law_scheme : Sem' := fnM 6 (mSeq (mAsg (.one 2) (mLst aNil))
    (mSeq (mAsg (.one 3) (mLst aNil))
    (mSeq (mFor (itE (mBin uAdd (mCB uList (aCons (mVar 0) aNil)) (mLst (aCons (mVar 1) aNil)))) (.tup [4, 5]) (mSeq (mIfS (bAnd (bIs .int (mVar 5)) (bCmp cNin (mVar 5) (mVar 2))) (mDrop (mLM uApp (mVar 2) (aCons (mVar 5) aNil))) mNx)
    (mSeq (mIfS (bIs .int (mVar 5)) (mAsg (.one 5) (mLM uIndexL (mVar 2) (aCons (mVar 5) aNil))) mNx)
    (mDrop (mLM uApp (mVar 3) (aCons (mTup (aCons (mVar 4) (aCons (mVar 5) aNil))) aNil))))))
    (mRet (mTup (aCons (mCB uTuple (aCons (mSl (mVar 3) oNone (oSome (mBin uSub (mCB uLen (aCons (mVar 3) aNil)) (mC (.int 1))))) aNil)) (aCons (mBin uIx (mVar 3) (mBin uSub (mCB uLen (aCons (mVar 3) aNil)) (mC (.int 1)))) aNil)))))))
noncomputable def m_law_instance : Sem' := fnM 8 (mSeq (mAsg (.one 3) (mLst aNil))
    (mSeq (mFor (itE (mBin uAdd (mCB uList (aCons (mBin uIx (mVar 2) (mC (.int 0))) aNil)) (mLst (aCons (mBin uIx (mVar 2) (mC (.int 1))) aNil)))) (.tup [4, 5]) (mIfS (bIs .int (mVar 5)) (mSeq (mAsg (.one 6) (mCall 2 m_law_at (aCons (mVar 0) (aCons (mBin uAdd (mVar 1) (mVar 5)) aNil))))
    (mDrop (mLM uApp (mVar 3) (aCons (mTup (aCons (mBin uAdd (mVar 4) (mBin uMod (mVar 6) (mC (.int 3)))) (aCons (mBin uIx (mLst (aCons (mC (.str [110, 117, 109])) (aCons (mC (.str [100])) (aCons (mC (.int 0)) (aCons (mC (.int 7)) (aCons (mC (.str [116, 101, 120, 116])) aNil)))))) (mBin uMod (mBin uDiv (mVar 6) (mC (.int 3))) (mC (.int 5)))) aNil))) aNil)))) (mDrop (mLM uApp (mVar 3) (aCons (mTup (aCons (mVar 4) (aCons (mVar 5) aNil))) aNil)))))
    (mSeq (mIfS (bCmp cEq (mBin uMod (mCall 2 m_law_at (aCons (mVar 0) (aCons (mBin uAdd (mVar 1) (mC (.int 9))) aNil))) (mC (.int 3))) (mC (.int 0))) (mSeq (mAsg (.one 7) (mBin uMod (mCall 2 m_law_at (aCons (mVar 0) (aCons (mBin uAdd (mVar 1) (mC (.int 10))) aNil))) (mCB uLen (aCons (mVar 3) aNil))))
    (mSetI uSetL (mVar 3) (mVar 7) (mBin uIx (mLst (aCons (mTup (aCons (mBin uAdd (mBin uIx (mBin uIx (mVar 3) (mVar 7)) (mC (.int 0))) (mC (.int 1))) (aCons (mBin uIx (mBin uIx (mVar 3) (mVar 7)) (mC (.int 1))) aNil))) (aCons (mTup (aCons (mCB uMax (aCons (mC (.int 0)) (aCons (mBin uSub (mBin uIx (mBin uIx (mVar 3) (mVar 7)) (mC (.int 0))) (mC (.int 1))) aNil))) (aCons (mBin uIx (mBin uIx (mVar 3) (mVar 7)) (mC (.int 1))) aNil))) (aCons (mTup (aCons (mBin uIx (mBin uIx (mVar 3) (mVar 7)) (mC (.int 0))) (aCons (mC (.str [98, 111, 111, 108])) aNil))) (aCons (mTup (aCons (mBin uIx (mBin uIx (mVar 3) (mVar 7)) (mC (.int 0))) (aCons (mC (.int 3)) aNil))) aNil))))) (mBin uMod (mCall 2 m_law_at (aCons (mVar 0) (aCons (mBin uAdd (mVar 1) (mC (.int 11))) aNil))) (mC (.int 4)))))) mNx)
    (mSeq (mIfS (bCmp cEq (mBin uMod (mCall 2 m_law_at (aCons (mVar 0) (aCons (mBin uAdd (mVar 1) (mC (.int 12))) aNil))) (mC (.int 11))) (mC (.int 10))) (mDrop (mLM uIns (mVar 3) (aCons (mC (.int 0)) (aCons (mTup (aCons (mC (.int 0)) (aCons (mC (.str [110, 117, 109])) aNil))) aNil)))) mNx)
    (mRet (mTup (aCons (mCB uTuple (aCons (mSl (mVar 3) oNone (oSome (mBin uSub (mCB uLen (aCons (mVar 3) aNil)) (mC (.int 1))))) aNil)) (aCons (mBin uIx (mVar 3) (mBin uSub (mCB uLen (aCons (mVar 3) aNil)) (mC (.int 1)))) aNil))))))))
noncomputable def m_law_is_integer : Sem' := fnM 1 (mRet (mAnd (mB (bIs .int (mVar 0))) (mNot (mB (bIs .bool (mVar 0))))))
noncomputable def m_law_same : Nat → Sem'
  | 0 => fun _ _ => .bad
  | n + 1 => fnM 3 (mSeq (mIfS (bIs2 .list .tuple (mVar 1)) (mSeq (mIfS (bOr (bCmp cNe (mB (bIs .list (mVar 1))) (mB (bIs .list (mVar 0)))) (bCmp cNe (mB (bIs .tuple (mVar 1))) (mB (bIs .tuple (mVar 0))))) (mRet (mC (.bl false))) mNx)
    (mSeq (mIfS (bCmp cNe (mCB uLen (aCons (mVar 0) aNil)) (mCB uLen (aCons (mVar 1) aNil))) (mRet (mC (.bl false))) mNx)
    (mSeq (mFor (itR1 (aCons (mCB uLen (aCons (mVar 1) aNil)) aNil)) (.one 2) (mIfS (bNot (bTru (mCall 2 (m_law_same n) (aCons (mBin uIx (mVar 0) (mVar 2)) (aCons (mBin uIx (mVar 1) (mVar 2)) aNil))))) (mRet (mC (.bl false))) mNx))
    (mRet (mC (.bl true)))))) mNx)
    (mSeq (mIfS (bCmp cIs (mVar 1) (mC .non)) (mRet (mB (bCmp cIs (mVar 0) (mC .non)))) mNx)
    (mSeq (mIfS (bIs .bool (mVar 1)) (mRet (mAnd (mB (bIs .bool (mVar 0))) (mB (bCmp cEq (mVar 0) (mVar 1))))) mNx)
    (mSeq (mIfS (bIs .int (mVar 1)) (mRet (mAnd (mCall 1 m_law_is_integer (aCons (mVar 0) aNil)) (mB (bCmp cEq (mVar 0) (mVar 1))))) mNx)
    (mRet (mAnd (mB (bIs .str (mVar 0))) (mB (bCmp cEq (mVar 0) (mVar 1)))))))))
noncomputable def m_is_variable : Sem' := fnM 1 (mRet (mB (bIs .int (mVar 0))))
noncomputable def m_scheme : Sem' := fnM 6 (mSeq (mAsg (.one 2) mDNew)
    (mSeq (mAsg (.one 3) (mLst aNil))
    (mSeq (mFor (itE (mLst (aStar (mVar 0) (aCons (mVar 1) aNil)))) (.tup [4, 5]) (mSeq (mIfS (bTru (mCall 1 m_is_variable (aCons (mVar 5) aNil))) (mSeq (mDrop (mDM uSd (mVar 2) (aCons (mVar 5) (aCons (mCB uDLen (aCons (mVar 2) aNil)) aNil))))
    (mAsg (.one 5) (mBin uDGet (mVar 2) (mVar 5)))) mNx)
    (mDrop (mLM uApp (mVar 3) (aCons (mTup (aCons (mVar 4) (aCons (mVar 5) aNil))) aNil)))))
    (mRet (mTup (aCons (mCB uTuple (aCons (mSl (mVar 3) oNone (oSome (mNeg (mC (.int 1))))) aNil)) (aCons (mBin uIx (mVar 3) (mNeg (mC (.int 1)))) aNil)))))))
noncomputable def m_is_instance : Sem' := fnM 8 (mSeq (mAsg (.one 2) (mLst (aStar (mBin uIx (mVar 0) (mC (.int 0))) (aCons (mBin uIx (mVar 0) (mC (.int 1))) aNil))))
    (mSeq (mAsg (.one 3) (mLst (aStar (mBin uIx (mVar 1) (mC (.int 0))) (aCons (mBin uIx (mVar 1) (mC (.int 1))) aNil))))
    (mSeq (mIfS (bCmp cNe (mCB uLen (aCons (mVar 2) aNil)) (mCB uLen (aCons (mVar 3) aNil))) (mRet (mC (.bl false))) mNx)
    (mSeq (mAsg (.one 4) mDNew)
    (mSeq (mFor (itZ (aCons (mVar 2) (aCons (mVar 3) aNil))) (.tup [5, 6]) (mIfS (bTru (mCall 1 m_is_variable (aCons (mBin uIx (mVar 6) (mC (.int 1))) aNil))) (mSeq (mAsg (.one 7) (mTup (aCons (mBin uSub (mBin uIx (mVar 5) (mC (.int 0))) (mBin uIx (mVar 6) (mC (.int 0)))) (aCons (mBin uIx (mVar 5) (mC (.int 1))) aNil))))
    (mIfS (bOr (bCmp cLt (mBin uIx (mVar 7) (mC (.int 0))) (mC (.int 0))) (bCmp cNe (mDM uSd (mVar 4) (aCons (mBin uIx (mVar 6) (mC (.int 1))) (aCons (mVar 7) aNil))) (mVar 7))) (mRet (mC (.bl false))) mNx)) (mIfS (bCmp cNe (mVar 5) (mVar 6)) (mRet (mC (.bl false))) mNx)))
    (mRet (mC (.bl true))))))))
noncomputable def m_law_is_instance : Sem' := fnM 6 (mSeq (mAsg (.one 2) (mBin uAdd (mCB uList (aCons (mBin uIx (mVar 0) (mC (.int 0))) aNil)) (mLst (aCons (mBin uIx (mVar 0) (mC (.int 1))) aNil))))
    (mSeq (mAsg (.one 3) (mBin uAdd (mCB uList (aCons (mBin uIx (mVar 1) (mC (.int 0))) aNil)) (mLst (aCons (mBin uIx (mVar 1) (mC (.int 1))) aNil))))
    (mSeq (mIfS (bCmp cNe (mCB uLen (aCons (mVar 2) aNil)) (mCB uLen (aCons (mVar 3) aNil))) (mRet (mC (.bl false))) mNx)
    (mSeq (mFor (itR1 (aCons (mCB uLen (aCons (mVar 2) aNil)) aNil)) (.one 4) (mIfS (bNot (bIs .int (mBin uIx (mBin uIx (mVar 3) (mVar 4)) (mC (.int 1))))) (mIfS (bCmp cNe (mBin uIx (mVar 2) (mVar 4)) (mBin uIx (mVar 3) (mVar 4))) (mRet (mC (.bl false))) mNx) (mIfS (bCmp cLt (mBin uIx (mBin uIx (mVar 2) (mVar 4)) (mC (.int 0))) (mBin uIx (mBin uIx (mVar 3) (mVar 4)) (mC (.int 0)))) (mRet (mC (.bl false))) (mFor (itR1 (aCons (mVar 4) aNil)) (.one 5) (mIfS (bCmp cEq (mBin uIx (mBin uIx (mVar 3) (mVar 5)) (mC (.int 1))) (mBin uIx (mBin uIx (mVar 3) (mVar 4)) (mC (.int 1)))) (mIfS (bOr (bCmp cNe (mBin uSub (mBin uIx (mBin uIx (mVar 2) (mVar 5)) (mC (.int 0))) (mBin uIx (mBin uIx (mVar 3) (mVar 5)) (mC (.int 0)))) (mBin uSub (mBin uIx (mBin uIx (mVar 2) (mVar 4)) (mC (.int 0))) (mBin uIx (mBin uIx (mVar 3) (mVar 4)) (mC (.int 0))))) (bCmp cNe (mBin uIx (mBin uIx (mVar 2) (mVar 5)) (mC (.int 1))) (mBin uIx (mBin uIx (mVar 2) (mVar 4)) (mC (.int 1))))) (mRet (mC (.bl false))) mNx) mNx)))))
    (mRet (mC (.bl true)))))))
noncomputable def m_law : Sem' := fnM 10 (mSeq (mAsg (.one 1) (mCall 1 m_law_draws (aCons (mVar 0) aNil)))
    (mSeq (mFor (itR1 (aCons (mC (.int 6)) aNil)) (.one 2) (mSeq (mAsg (.one 3) (mLc (itR1 (aCons (mC (.int 4)) aNil)) (.one 9) bYes (mBin uMod (mBin uAdd (mCall 2 m_law_at (aCons (mVar 1) (aCons (mBin uAdd (mC (.int 10)) (mBin uMul (mC (.int 60)) (mVar 2))) aNil))) (mBin uMul (mC (.int 29)) (mVar 9))) (mC (.int 200))) [9]))
    (mSeq (mAsg (.lst [7, 8]) (mCall 3 m_law_pair (aCons (mVar 1) (aCons (mBin uAdd (mC (.int 14)) (mBin uMul (mC (.int 60)) (mVar 2))) (aCons (mVar 3) aNil)))))
    (mSeq (mAsg (.one 4) (mCall 2 m_law_scheme (aCons (mVar 7) (aCons (mVar 8) aNil))))
    (mSeq (mIfS (bOr (bNot (bTru (mCall 2 (m_law_same 4) (aCons (mCall 2 m_scheme (aCons (mCB uTuple (aCons (mVar 7) aNil)) (aCons (mVar 8) aNil))) (aCons (mVar 4) aNil))))) (bNot (bTru (mCall 2 (m_law_same 4) (aCons (mCall 2 m_scheme (aCons (mBin uIx (mVar 4) (mC (.int 0))) (aCons (mBin uIx (mVar 4) (mC (.int 1))) aNil))) (aCons (mVar 4) aNil)))))) (mRet (mC (.bl false))) mNx)
    (mSeq (mAsg (.one 5) (mCall 3 m_law_pair (aCons (mVar 1) (aCons (mBin uAdd (mC (.int 28)) (mBin uMul (mC (.int 60)) (mVar 2))) (aCons (mLst (aCons (mC (.int 0)) (aCons (mC (.int 1)) (aCons (mC (.int 2)) (aCons (mC (.int 3)) aNil))))) aNil)))))
    (mFor (itE (mLst (aCons (mCall 3 m_law_instance (aCons (mVar 1) (aCons (mBin uAdd (mC (.int 42)) (mBin uMul (mC (.int 60)) (mVar 2))) (aCons (mVar 4) aNil)))) (aCons (mTup (aCons (mCB uTuple (aCons (mBin uIx (mVar 5) (mC (.int 0))) aNil)) (aCons (mBin uIx (mVar 5) (mC (.int 1))) aNil))) (aCons (mVar 4) aNil))))) (.one 6) (mIfS (bNot (bTru (mCall 2 (m_law_same 4) (aCons (mCall 2 m_is_instance (aCons (mVar 6) (aCons (mVar 4) aNil))) (aCons (mCall 2 m_law_is_instance (aCons (mVar 6) (aCons (mVar 4) aNil))) aNil))))) (mRet (mC (.bl false))) mNx))))))))
    (mRet (mC (.bl true)))))
end LAW

set_option Elab.async false
set_option linter.all false
set_option maxRecDepth 100000
namespace LAW
open P
def p_law_mix : PSem := pFn 3 [] (sSeq (sAsg 2 (pLf (pBin gMod (pCB gInt (dCons (pFz (pAdd (pFz (pAdd (pBin gMul (pCB gInt (dCons (pVar 0) dNil)) (pC (.int 48271))) (pBin gMul (pVar 1) (pC (.int 69621))))) (pC (.int 12345)))) dNil)) (pC (.int 2147483647)))))
    (sSeq (sAsg 2 (pLf (pBin gMod (pCB gInt (dCons (pFz (pAdd (pFz (pAdd (pBin gMul (pVar 2) (pVar 2)) (pBin gMul (pVar 1) (pC (.int 40692))))) (pC (.int 1)))) dNil)) (pC (.int 2147483399)))))
    (sRet (pLf (pBin gMod (pBin gDiv (pVar 2) (pC (.int 5))) (pC (.int 9973)))))))
def p_law_draws : PSem := pFn 5 [] (sSeq (sAsg 1 (pLst dNil))
    (sSeq (sFor [2, 3, 4] (iR1 (dCons (pCB gMin (dCons (pC (.int 63)) (dCons (pCB gLen (dCons (pVar 0) dNil)) dNil))) dNil)) (.one 2) (sSeq (sAsg 3 (pLf (pCB gInt (dCons (pBin gIx (pVar 0) (pVar 2)) dNil))))
    (sIf (tCmp cLt (pVar 3) (pBin gPow (pC (.int 10)) (pC (.int 18)))) (sDrop (pLf (pUpd (.var 1) (dCons (pFz (pCall 2 p_law_mix (dCons (pVar 3) (dCons (pVar 2) dNil)))) dNil) uApp))) (sFor [4] (iR1 (dCons (pC (.int 60)) dNil)) (.one 4) (sIf (tCmp cGt (pVar 3) (pC (.int 0))) (sSeq (sDrop (pLf (pUpd (.var 1) (dCons (pBin gMod (pCB gInt (dCons (pVar 3) dNil)) (pC (.int 9973))) dNil) uApp)))
    (sAsg 3 (pLf (pBin gDiv (pVar 3) (pC (.int 9973)))))) sNx)))))
    (sRet (pMv 1))))
def p_law_at : PSem := pFn 2 [] (sSeq (sIf (tCmp cLt (pVar 1) (pCB gLen (dCons (pVar 0) dNil))) (sRet (pLf (pBin gIx (pVar 0) (pVar 1)))) sNx)
    (sSeq (sIf (tCmp cEq (pCB gLen (dCons (pVar 0) dNil)) (pC (.int 0))) (sRet (pCall 2 p_law_mix (dCons (pVar 1) (dCons (pC (.int 77)) dNil)))) sNx)
    (sRet (pCall 2 p_law_mix (dCons (pFz (pAdd (pBin gIx (pVar 0) (pBin gMod (pCB gInt (dCons (pVar 1) dNil)) (pCB gLen (dCons (pVar 0) dNil)))) (pBin gMul (pVar 1) (pC (.int 131))))) (dCons (pVar 1) dNil))))))
def p_law_kind : PSem := pFn 4 [] (sSeq (sAsg 3 (pLf (pBin gIx (pFz (pLst (dCons (pBin gIx (pVar 2) (pC (.int 0))) (dCons (pBin gIx (pVar 2) (pC (.int 1))) (dCons (pBin gIx (pVar 2) (pC (.int 2))) (dCons (pBin gIx (pVar 2) (pC (.int 3))) (dCons (pC (.str [110, 117, 109])) (dCons (pC (.str [116, 101, 120, 116])) (dCons (pC (.str [100])) (dCons (pC (.str [101, 50])) (dCons (pBin gIx (pVar 2) (pC (.int 0))) dNil))))))))))) (pBin gMod (pFz (pCall 2 p_law_at (dCons (pVar 0) (dCons (pFz (pAdd (pVar 1) (pC (.int 1)))) dNil)))) (pC (.int 9))))))
    (sRet (pLf (pTup (dCons (pBin gMod (pFz (pCall 2 p_law_at (dCons (pVar 0) (dCons (pVar 1) dNil)))) (pC (.int 4))) (dCons (pVar 3) dNil))))))
def p_law_pair : PSem := pFn 6 [] (sSeq (sAsg 3 (pLf (pBin gMod (pFz (pCall 2 p_law_at (dCons (pVar 0) (dCons (pVar 1) dNil)))) (pC (.int 5)))))
    (sSeq (sAsg 4 (pLf (pFz (pLc (iR1 (dCons (pFz (pAdd (pVar 3) (pC (.int 1)))) dNil)) (.one 5) tYes (pFz (pCall 3 p_law_kind (dCons (pVar 0) (dCons (pFz (pAdd (pFz (pAdd (pVar 1) (pC (.int 1)))) (pBin gMul (pC (.int 2)) (pVar 5)))) (dCons (pVar 2) dNil))))) [5]))))
    (sRet (pLst (dCons (pCB gTuple (dCons (pFz (pSl (pVar 4) oNo (oSo (pVar 3)))) dNil)) (dCons (pBin gIx (pVar 4) (pVar 3)) dNil))))))
def p_law_scheme : PSem := pFn 6 [] (sSeq (sAsg 2 (pLst dNil))
    (sSeq (sAsg 3 (pLst dNil))
    (sSeq (sFor [4, 5] (iE (pFz (pAdd (pFz (pCT gList (dCons (pVar 0) dNil))) (pFz (pLst (dCons (pVar 1) dNil)))))) (.tup [4, 5]) (sSeq (sIf (tAnd (tIs .int (pVar 5)) (tCmp cNin (pVar 5) (pVw 2))) (sDrop (pLf (pUpd (.var 2) (dCons (pVar 5) dNil) uApp))) sNx)
    (sSeq (sIf (tIs .int (pVar 5)) (sAsg 5 (pLf (pIndexL (pVw 2) (pVar 5)))) sNx)
    (sDrop (pLf (pUpd (.var 3) (dCons (pTup (dCons (pVar 4) (dCons (pVar 5) dNil))) dNil) uApp))))))
    (sRet (pLf (pTup (dCons (pCB gTuple (dCons (pFz (pSl (pVw 3) oNo (oSo (pBin gSub (pCB gLen (dCons (pVw 3) dNil)) (pC (.int 1)))))) dNil)) (dCons (pBin gIx (pVw 3) (pBin gSub (pCB gLen (dCons (pVw 3) dNil)) (pC (.int 1)))) dNil))))))))
def p_law_instance : PSem := pFn 8 [] (sSeq (sAsg 3 (pLst dNil))
    (sSeq (sFor [4, 5, 6] (iE (pFz (pAdd (pFz (pCT gList (dCons (pBin gIx (pVar 2) (pC (.int 0))) dNil))) (pFz (pLst (dCons (pBin gIx (pVar 2) (pC (.int 1))) dNil)))))) (.tup [4, 5]) (sIf (tIs .int (pVar 5)) (sSeq (sAsg 6 (pLf (pFz (pCall 2 p_law_at (dCons (pVar 0) (dCons (pFz (pAdd (pVar 1) (pVar 5))) dNil))))))
    (sDrop (pLf (pUpd (.var 3) (dCons (pTup (dCons (pFz (pAdd (pVar 4) (pBin gMod (pVar 6) (pC (.int 3))))) (dCons (pBin gIx (pFz (pLst (dCons (pC (.str [110, 117, 109])) (dCons (pC (.str [100])) (dCons (pC (.int 0)) (dCons (pC (.int 7)) (dCons (pC (.str [116, 101, 120, 116])) dNil))))))) (pBin gMod (pBin gDiv (pVar 6) (pC (.int 3))) (pC (.int 5)))) dNil))) dNil) uApp)))) (sDrop (pLf (pUpd (.var 3) (dCons (pTup (dCons (pVar 4) (dCons (pVar 5) dNil))) dNil) uApp)))))
    (sSeq (sIf (tCmp cEq (pBin gMod (pFz (pCall 2 p_law_at (dCons (pVar 0) (dCons (pFz (pAdd (pVar 1) (pC (.int 9)))) dNil)))) (pC (.int 3))) (pC (.int 0))) (sSeq (sAsg 7 (pLf (pBin gMod (pFz (pCall 2 p_law_at (dCons (pVar 0) (dCons (pFz (pAdd (pVar 1) (pC (.int 10)))) dNil)))) (pCB gLen (dCons (pVw 3) dNil)))))
    (sSetI (.var 3) (pVar 7) (pBin gIx (pFz (pLst (dCons (pTup (dCons (pFz (pAdd (pBin gIx (pBin gIx (pVw 3) (pVar 7)) (pC (.int 0))) (pC (.int 1)))) (dCons (pBin gIx (pBin gIx (pVw 3) (pVar 7)) (pC (.int 1))) dNil))) (dCons (pTup (dCons (pCB gMax (dCons (pC (.int 0)) (dCons (pBin gSub (pBin gIx (pBin gIx (pVw 3) (pVar 7)) (pC (.int 0))) (pC (.int 1))) dNil))) (dCons (pBin gIx (pBin gIx (pVw 3) (pVar 7)) (pC (.int 1))) dNil))) (dCons (pTup (dCons (pBin gIx (pBin gIx (pVw 3) (pVar 7)) (pC (.int 0))) (dCons (pC (.str [98, 111, 111, 108])) dNil))) (dCons (pTup (dCons (pBin gIx (pBin gIx (pVw 3) (pVar 7)) (pC (.int 0))) (dCons (pC (.int 3)) dNil))) dNil)))))) (pBin gMod (pFz (pCall 2 p_law_at (dCons (pVar 0) (dCons (pFz (pAdd (pVar 1) (pC (.int 11)))) dNil)))) (pC (.int 4)))))) sNx)
    (sSeq (sIf (tCmp cEq (pBin gMod (pFz (pCall 2 p_law_at (dCons (pVar 0) (dCons (pFz (pAdd (pVar 1) (pC (.int 12)))) dNil)))) (pC (.int 11))) (pC (.int 10))) (sDrop (pLf (pUpd (.var 3) (dCons (pC (.int 0)) (dCons (pTup (dCons (pC (.int 0)) (dCons (pC (.str [110, 117, 109])) dNil))) dNil)) uIns))) sNx)
    (sRet (pLf (pTup (dCons (pCB gTuple (dCons (pFz (pSl (pVw 3) oNo (oSo (pBin gSub (pCB gLen (dCons (pVw 3) dNil)) (pC (.int 1)))))) dNil)) (dCons (pBin gIx (pVw 3) (pBin gSub (pCB gLen (dCons (pVw 3) dNil)) (pC (.int 1)))) dNil)))))))))
def p_law_is_integer : PSem := pFn 1 [] (sRet (pLf (pAnd (pB (tIs .int (pVar 0))) (pUn gNot (pB (tIs .bool (pVar 0)))))))
def p_law_same : Nat → PSem
  | 0 => fun _ => .bad
  | n + 1 => pFn 3 [] (sSeq (sIf (tIs2 .list .tuple (pVar 1)) (sSeq (sIf (tOr (tCmp cNe (pB (tIs .list (pVar 1))) (pB (tIs .list (pVar 0)))) (tCmp cNe (pB (tIs .tuple (pVar 1))) (pB (tIs .tuple (pVar 0))))) (sRet (pLf (pC (.bl false)))) sNx)
    (sSeq (sIf (tCmp cNe (pCB gLen (dCons (pVar 0) dNil)) (pCB gLen (dCons (pVar 1) dNil))) (sRet (pLf (pC (.bl false)))) sNx)
    (sSeq (sFor [2] (iR1 (dCons (pCB gLen (dCons (pVar 1) dNil)) dNil)) (.one 2) (sIf (tNot (tTru (pFz (pCall 2 (p_law_same n) (dCons (pBin gIx (pVar 0) (pVar 2)) (dCons (pBin gIx (pVar 1) (pVar 2)) dNil)))))) (sRet (pLf (pC (.bl false)))) sNx))
    (sRet (pLf (pC (.bl true))))))) sNx)
    (sSeq (sIf (tCmp cIs (pVar 1) (pC .non)) (sRet (pLf (pB (tCmp cIs (pVar 0) (pC .non))))) sNx)
    (sSeq (sIf (tIs .bool (pVar 1)) (sRet (pLf (pAnd (pB (tIs .bool (pVar 0))) (pB (tCmp cEq (pVar 0) (pVar 1)))))) sNx)
    (sSeq (sIf (tIs .int (pVar 1)) (sRet (pLf (pAnd (pFz (pCall 1 p_law_is_integer (dCons (pVar 0) dNil))) (pB (tCmp cEq (pVar 0) (pVar 1)))))) sNx)
    (sRet (pLf (pAnd (pB (tIs .str (pVar 0))) (pB (tCmp cEq (pVar 0) (pVar 1))))))))))
def p_is_variable : PSem := pFn 1 [] (sRet (pLf (pB (tIs .int (pVar 0)))))
def p_scheme : PSem := pFn 6 [] (sSeq (sAsg 2 pDNew)
    (sSeq (sAsg 3 (pLst dNil))
    (sSeq (sFor [4, 5] (iE (pFz (pLst (dStar (pVar 0) (dCons (pVar 1) dNil))))) (.tup [4, 5]) (sSeq (sIf (tTru (pFz (pCall 1 p_is_variable (dCons (pVar 5) dNil)))) (sSeq (sDrop (pLf (pUpdD (.var 2) (dCons (pVar 5) (dCons (pCB gDLen (dCons (pVw 2) dNil)) dNil)) uSd)))
    (sAsg 5 (pLf (pBin gDGet (pVw 2) (pVar 5))))) sNx)
    (sDrop (pLf (pUpd (.var 3) (dCons (pTup (dCons (pVar 4) (dCons (pVar 5) dNil))) dNil) uApp)))))
    (sRet (pLf (pTup (dCons (pCB gTuple (dCons (pFz (pSl (pVw 3) oNo (oSo (pUn gNeg (pC (.int 1)))))) dNil)) (dCons (pBin gIx (pVw 3) (pUn gNeg (pC (.int 1)))) dNil))))))))
def p_is_instance : PSem := pFn 8 [] (sSeq (sAsg 2 (pLf (pFz (pLst (dStar (pBin gIx (pVar 0) (pC (.int 0))) (dCons (pBin gIx (pVar 0) (pC (.int 1))) dNil))))))
    (sSeq (sAsg 3 (pLf (pFz (pLst (dStar (pBin gIx (pVar 1) (pC (.int 0))) (dCons (pBin gIx (pVar 1) (pC (.int 1))) dNil))))))
    (sSeq (sIf (tCmp cNe (pCB gLen (dCons (pVar 2) dNil)) (pCB gLen (dCons (pVar 3) dNil))) (sRet (pLf (pC (.bl false)))) sNx)
    (sSeq (sAsg 4 pDNew)
    (sSeq (sFor [5, 6, 7] (iZ (dCons (pVar 2) (dCons (pVar 3) dNil))) (.tup [5, 6]) (sIf (tTru (pFz (pCall 1 p_is_variable (dCons (pBin gIx (pVar 6) (pC (.int 1))) dNil)))) (sSeq (sAsg 7 (pLf (pTup (dCons (pBin gSub (pBin gIx (pVar 5) (pC (.int 0))) (pBin gIx (pVar 6) (pC (.int 0)))) (dCons (pBin gIx (pVar 5) (pC (.int 1))) dNil)))))
    (sIf (tOr (tCmp cLt (pBin gIx (pVar 7) (pC (.int 0))) (pC (.int 0))) (tCmp cNe (pUpdD (.var 4) (dCons (pBin gIx (pVar 6) (pC (.int 1))) (dCons (pVar 7) dNil)) uSd) (pVar 7))) (sRet (pLf (pC (.bl false)))) sNx)) (sIf (tCmp cNe (pVar 5) (pVar 6)) (sRet (pLf (pC (.bl false)))) sNx)))
    (sRet (pLf (pC (.bl true)))))))))
def p_law_is_instance : PSem := pFn 6 [] (sSeq (sAsg 2 (pLf (pFz (pAdd (pFz (pCT gList (dCons (pBin gIx (pVar 0) (pC (.int 0))) dNil))) (pFz (pLst (dCons (pBin gIx (pVar 0) (pC (.int 1))) dNil)))))))
    (sSeq (sAsg 3 (pLf (pFz (pAdd (pFz (pCT gList (dCons (pBin gIx (pVar 1) (pC (.int 0))) dNil))) (pFz (pLst (dCons (pBin gIx (pVar 1) (pC (.int 1))) dNil)))))))
    (sSeq (sIf (tCmp cNe (pCB gLen (dCons (pVar 2) dNil)) (pCB gLen (dCons (pVar 3) dNil))) (sRet (pLf (pC (.bl false)))) sNx)
    (sSeq (sFor [4, 5] (iR1 (dCons (pCB gLen (dCons (pVar 2) dNil)) dNil)) (.one 4) (sIf (tNot (tIs .int (pBin gIx (pBin gIx (pVar 3) (pVar 4)) (pC (.int 1))))) (sIf (tCmp cNe (pBin gIx (pVar 2) (pVar 4)) (pBin gIx (pVar 3) (pVar 4))) (sRet (pLf (pC (.bl false)))) sNx) (sIf (tCmp cLt (pBin gIx (pBin gIx (pVar 2) (pVar 4)) (pC (.int 0))) (pBin gIx (pBin gIx (pVar 3) (pVar 4)) (pC (.int 0)))) (sRet (pLf (pC (.bl false)))) (sFor [5] (iR1 (dCons (pVar 4) dNil)) (.one 5) (sIf (tCmp cEq (pBin gIx (pBin gIx (pVar 3) (pVar 5)) (pC (.int 1))) (pBin gIx (pBin gIx (pVar 3) (pVar 4)) (pC (.int 1)))) (sIf (tOr (tCmp cNe (pBin gSub (pBin gIx (pBin gIx (pVar 2) (pVar 5)) (pC (.int 0))) (pBin gIx (pBin gIx (pVar 3) (pVar 5)) (pC (.int 0)))) (pBin gSub (pBin gIx (pBin gIx (pVar 2) (pVar 4)) (pC (.int 0))) (pBin gIx (pBin gIx (pVar 3) (pVar 4)) (pC (.int 0))))) (tCmp cNe (pBin gIx (pBin gIx (pVar 2) (pVar 5)) (pC (.int 1))) (pBin gIx (pBin gIx (pVar 2) (pVar 4)) (pC (.int 1))))) (sRet (pLf (pC (.bl false)))) sNx) sNx)))))
    (sRet (pLf (pC (.bl true))))))))
def p_law : PSem := pFn 10 [] (sSeq (sAsg 1 (pLf (pFz (pCall 1 p_law_draws (dCons (pVar 0) dNil)))))
    (sSeq (sFor [2, 3, 4, 5, 6, 7, 8, 9] (iR1 (dCons (pC (.int 6)) dNil)) (.one 2) (sSeq (sAsg 3 (pLf (pFz (pLc (iR1 (dCons (pC (.int 4)) dNil)) (.one 9) tYes (pBin gMod (pFz (pAdd (pFz (pCall 2 p_law_at (dCons (pVar 1) (dCons (pFz (pAdd (pC (.int 10)) (pBin gMul (pC (.int 60)) (pVar 2)))) dNil)))) (pBin gMul (pC (.int 29)) (pVar 9)))) (pC (.int 200))) [9]))))
    (sSeq (sUnp (.lst [7, 8]) (pFz (pCall 3 p_law_pair (dCons (pVar 1) (dCons (pFz (pAdd (pC (.int 14)) (pBin gMul (pC (.int 60)) (pVar 2)))) (dCons (pVar 3) dNil))))))
    (sSeq (sAsg 4 (pLf (pFz (pCall 2 p_law_scheme (dCons (pVar 7) (dCons (pVar 8) dNil))))))
    (sSeq (sIf (tOr (tNot (tTru (pFz (pCall 2 (p_law_same 4) (dCons (pFz (pCall 2 p_scheme (dCons (pCB gTuple (dCons (pVar 7) dNil)) (dCons (pVar 8) dNil)))) (dCons (pVar 4) dNil)))))) (tNot (tTru (pFz (pCall 2 (p_law_same 4) (dCons (pFz (pCall 2 p_scheme (dCons (pBin gIx (pVar 4) (pC (.int 0))) (dCons (pBin gIx (pVar 4) (pC (.int 1))) dNil)))) (dCons (pVar 4) dNil))))))) (sRet (pLf (pC (.bl false)))) sNx)
    (sSeq (sAsg 5 (pLf (pFz (pCall 3 p_law_pair (dCons (pVar 1) (dCons (pFz (pAdd (pC (.int 28)) (pBin gMul (pC (.int 60)) (pVar 2)))) (dCons (pFz (pLst (dCons (pC (.int 0)) (dCons (pC (.int 1)) (dCons (pC (.int 2)) (dCons (pC (.int 3)) dNil)))))) dNil)))))))
    (sFor [6] (iE (pFz (pLst (dCons (pFz (pCall 3 p_law_instance (dCons (pVar 1) (dCons (pFz (pAdd (pC (.int 42)) (pBin gMul (pC (.int 60)) (pVar 2)))) (dCons (pVar 4) dNil))))) (dCons (pTup (dCons (pCB gTuple (dCons (pBin gIx (pVar 5) (pC (.int 0))) dNil)) (dCons (pBin gIx (pVar 5) (pC (.int 1))) dNil))) (dCons (pVar 4) dNil)))))) (.one 6) (sIf (tNot (tTru (pFz (pCall 2 (p_law_same 4) (dCons (pFz (pCall 2 p_is_instance (dCons (pVar 6) (dCons (pVar 4) dNil)))) (dCons (pFz (pCall 2 p_law_is_instance (dCons (pVar 6) (dCons (pVar 4) dNil)))) dNil)))))) (sRet (pLf (pC (.bl false)))) sNx))))))))
    (sRet (pLf (pC (.bl true))))))
end LAW

set_option Elab.async false
set_option linter.all false
set_option maxRecDepth 100000
set_option maxHeartbeats 4000000
/-! k10: types, the numbering of variables -/
namespace LAW
open P
theorem mix_eq : p_law_mix = lawMix := rfl
theorem draws_eq : p_law_draws = lawDraws := rfl
theorem at_eq : p_law_at = lawAt := rfl
theorem same_eq : ∀ n, p_law_same n = lawSame n
  | 0 => rfl
  | n + 1 => by unfold p_law_same lawSame; rw [same_eq n]; rfl
/-- a type: lists and base -/
abbrev Kd := Int × DK
def kd (k : Kd) : D := .tup [.int k.1, dkD k.2]
def isV : DK → Bool
  | .inl _ => true
  | .inr _ => false
@[simp] theorem is_int (b : DK) : isD .int (dkD b) = some (isV b) := by cases b <;> rfl
@[simp] theorem cEq_dk (a b : DK) : cEq (dkD a) (dkD b) = some (decide (a = b)) := by
  cases a <;> cases b <;> simp [cEq, dkD, atom, mixed, D.eq]
  all_goals (rename_i p q; by_cases h : p = q; (subst h; simp); (have h' : ¬ q = p := fun z => h z.symm); simp [h, h'])
def okB : DK → Bool
  | .inl _ => true
  | .inr s => s.all (· < 1114112)
theorem ok_dk {b : DK} (h : okB b = true) (n : Nat) : D.ok n (dkD b) = true := by
  cases b with
  | inl i => cases n <;> rfl
  | inr s => cases n <;> exact h
theorem eq_dk (a b : DK) : D.eq (dkD a) (dkD b) = decide (a = b) := by
  cases a <;> cases b <;> simp [dkD, D.eq]
  · rename_i p q; by_cases h : p = q; (subst h; simp); (have h' : ¬ q = p := fun z => h z.symm); simp [h, h']
  · rename_i p q; by_cases h : p = q; (subst h; simp); (have h' : ¬ q = p := fun z => h z.symm); simp [h, h']
theorem cEq_kd {x y : Kd} (hx : okB x.2 = true) (hy : okB y.2 = true) : cEq (kd x) (kd y) = some (decide (x = y)) := by
  obtain ⟨x1, x2⟩ := x
  obtain ⟨y1, y2⟩ := y
  have o1 : D.ok 50 (kd (x1, x2)) = true := by simp only [kd, D.ok, D.oks, ok_dk hx]; rfl
  have o2 : D.ok 50 (kd (y1, y2)) = true := by simp only [kd, D.ok, D.oks, ok_dk hy]; rfl
  unfold cEq
  rw [o1, o2]
  simp only [kd, D.eq, D.eqs, eq_dk]
  by_cases h1 : x1 = y1 <;> by_cases h2 : x2 = y2 <;> simp [h1, h2]
theorem isvar_ok (b : DK) : p_is_variable [.leaf (dkD b)] = .ok (.leaf (.bl (isV b))) [] := by
  unfold p_is_variable
  simp
/-! ### the numbering -/
/-- the variables met, and the types told -/
abbrev NS := List Int × List Kd
def addO (O : List Int) (b : DK) : List Int := match b with
  | .inl v => if v ∈ O then O else O ++ [v]
  | .inr _ => O
def renB (O : List Int) (b : DK) : DK := match b with
  | .inl v => .inl ((O.findIdx (· == v) : Nat) : Int)
  | .inr s => .inr s
def stp (S : NS) (k : Kd) : NS := (addO S.1 k.2, S.2 ++ [(k.1, renB (addO S.1 k.2) k.2)])
def sch (ks : List Kd) : NS := ks.foldl stp ([], [])
theorem sch_snoc (ks : List Kd) (k : Kd) : sch (ks ++ [k]) = stp (sch ks) k := by simp [sch]
theorem sch_take {ks : List Kd} {j : Nat} {k : Kd} (h : ks[j]? = some k) : sch (ks.take (j + 1)) = stp (sch (ks.take j)) k := by
  rw [List.take_add_one, h]; exact sch_snoc _ _
theorem sch_len : ∀ (ks : List Kd) (S : NS), (ks.foldl stp S).2.length = S.2.length + ks.length
  | [], S => rfl
  | k :: ks, S => by
    have := sch_len ks (stp S k)
    simp only [List.foldl_cons, this, List.length_cons]
    simp [stp]; omega
theorem addO_len (O : List Int) (b : DK) : (addO O b).length ≤ O.length + 1 := by
  unfold addO
  split
  · split <;> simp
  · omega
theorem ord_len : ∀ (ks : List Kd) (S : NS), (ks.foldl stp S).1.length ≤ S.1.length + ks.length
  | [], S => by simp
  | k :: ks, S => by
    have h1 := ord_len ks (stp S k)
    have h2 := addO_len S.1 k.2
    simp only [List.foldl_cons, List.length_cons]
    have : (stp S k).1 = addO S.1 k.2 := rfl
    rw [this] at h1
    omega
/-- the dict of numbers -/
def nd (O : List Int) : List (DK × D) := O.zipIdx.map fun p => (.inl p.1, .int (p.2 : Nat))
theorem nd_len (O : List Int) : (nd O).length = O.length := by simp [nd]
theorem nd_snoc (O : List Int) (v : Int) : nd (O ++ [v]) = nd O ++ [(.inl v, .int (O.length : Nat))] := by simp [nd, List.zipIdx_append]
theorem val_app (k : DK) (v : D) : ∀ kvs : List (DK × D), valK (kvs ++ [(k, v)]) k = (match valK kvs k with | some y => some y | none => some v)
  | [] => by simp [valK]
  | (j, x) :: r => by
    have ih := val_app k v r
    show valK ((j, x) :: (r ++ [(k, v)])) k = _
    unfold valK
    by_cases e : j = k
    · rw [if_pos e, if_pos e]
    · rw [if_neg e, if_neg e]; exact ih
theorem val_app_ne {j k : DK} (h : j ≠ k) (v : D) : ∀ kvs : List (DK × D), valK (kvs ++ [(j, v)]) k = valK kvs k
  | [] => by simp [valK, h]
  | (i, x) :: r => by
    have ih := val_app_ne h v r
    show valK ((i, x) :: (r ++ [(j, v)])) k = _
    unfold valK
    by_cases e : i = k
    · rw [if_pos e, if_pos e]
    · rw [if_neg e, if_neg e]; exact ih
theorem snoc_ind {P : List Int → Prop} (h0 : P []) (hs : ∀ O w, P O → P (O ++ [w])) : ∀ (n : Nat) (O : List Int), O.length = n → P O
  | 0, O, e => by rw [List.length_eq_zero_iff.mp e]; exact h0
  | n + 1, O, e => by
    rcases List.eq_nil_or_concat O with rfl | ⟨L, w, rfl⟩
    · exact h0
    · rw [List.concat_eq_append] at e ⊢
      exact hs _ _ (snoc_ind h0 hs n L (by simp at e; omega))
theorem nd_val (O : List Int) (v : Int) : valK (nd O) (.inl v) = if v ∈ O then some (.int (O.findIdx (· == v) : Nat)) else none := by
  refine snoc_ind (P := fun O => valK (nd O) (.inl v) = if v ∈ O then some (.int (O.findIdx (· == v) : Nat)) else none) rfl (fun O w ih => ?_) _ O rfl
  · show valK (nd (O ++ [w])) (.inl v) = _
    rw [nd_snoc]
    by_cases e : w = v
    · subst e
      rw [val_app, ih]
      by_cases h : w ∈ O
      · have : (O ++ [w]).findIdx (· == w) = O.findIdx (· == w) := by
          rw [List.findIdx_append, if_pos (List.findIdx_lt_length_of_exists ⟨w, h, by simp⟩)]
        simp [h, this]
      · have : (O ++ [w]).findIdx (· == w) = O.length := by
          have h2 : O.findIdx (· == w) = O.length := List.findIdx_eq_length.mpr fun x m => by
            have : x ≠ w := fun z => h (z ▸ m)
            simp [this]
          rw [List.findIdx_append, h2]; simp
        simp [h, this]
    · rw [val_app_ne (by simpa using e), ih]
      by_cases h : v ∈ O
      · have : (O ++ [w]).findIdx (· == v) = O.findIdx (· == v) := by
          rw [List.findIdx_append, if_pos (List.findIdx_lt_length_of_exists ⟨v, h, by simp⟩)]
        simp [h, this]
      · have : v ≠ w := fun z => e z.symm
        simp [h, this]
end LAW

set_option Elab.async false
set_option linter.all false
set_option maxRecDepth 100000
set_option maxHeartbeats 4000000
/-! k10: schemes -/
namespace LAW
open P
theorem o_atom (O : List Int) : (O.map D.int).all atom = true := by simp [atom]
theorem o_any (O : List Int) (v : Int) : ((O.map D.int).any fun y => D.eq y (.int v)) = decide (v ∈ O) := by
  induction O with
  | nil => rfl
  | cons a r ih =>
    rw [List.map_cons, List.any_cons, ih]
    by_cases h : a = v
    · subst h; simp [D.eq]
    · have h' : ¬ v = a := fun z => h z.symm
      simp [D.eq, h, h']
theorem o_in (O : List Int) (v : Int) : cIn0 (.int v) (O.map D.int) = some (decide (v ∈ O)) := by
  rw [c_in0 rfl (o_atom O), o_any]
theorem o_ix {O : List Int} {v : Int} (h : v ∈ O) : ((O.map D.int).findIdx? fun z => D.eq z (.int v)) = some (O.findIdx (· == v)) := by
  induction O with
  | nil => cases h
  | cons a r ih =>
    rw [List.map_cons, List.findIdx?_cons, List.findIdx_cons]
    by_cases e : a = v
    · subst e; simp [D.eq]
    · have h2 : v ∈ r := by
        rcases List.mem_cons.mp h with h | h
        · exact absurd h.symm e
        · exact h
      have := ih h2
      simp [D.eq, e] at this ⊢
      rw [this]
      refine ⟨_, rfl, ?_⟩
      have : (a == v) = false := by simpa using e
      rw [this]; rfl
theorem addO_mem (O : List Int) (v : Int) : v ∈ addO O (.inl v) := by
  unfold addO
  simp only
  split
  · assumption
  · simp
def schD (L : List Kd) : D := .tup [.tup (L.dropLast.map kd), kd (L.getLast?.getD (0, .inl 0))]
theorem schD_snoc (L : List Kd) (k : Kd) : schD (L ++ [k]) = .tup [.tup (L.map kd), kd k] := by simp [schD]
theorem schD_of {L : List Kd} (h : 0 < L.length) : ∃ L0 k, L = L0 ++ [k] := by
  rcases List.eq_nil_or_concat L with rfl | ⟨L0, k, rfl⟩
  · simp at h
  · exact ⟨L0, k, List.concat_eq_append⟩
theorem sch2 (ks : List Kd) : (sch ks).2.length = ks.length := by
  have := sch_len ks ([], []); simpa [sch] using this
theorem sch1 (ks : List Kd) : (sch ks).1.length ≤ ks.length := by
  have := ord_len ks ([], []); simpa [sch] using this
theorem cut_m1 {l : List D} {x : D} : cut (l ++ [x]) none (some (-1)) = l := by
  unfold cut sIx
  simp
  rw [show (-1 + ((l.length : Int) + 1)).toNat = l.length by omega, List.take_left' rfl]
theorem lscheme_ok {as : List Kd} {r : Kd} (hz : as.length ≤ 100) : p_law_scheme [.leaf (.tup (as.map kd)), .leaf (kd r)] = .ok (.leaf (schD (sch (as ++ [r])).2)) [] := by
  have el : as.map kd ++ [kd r] = (as ++ [r]).map kd := by simp
  have z0 : as.length + 1 ≤ 16000000 := by omega
  have l2 := sch2 (as ++ [r])
  have hk : (as ++ [r]).length ≤ 101 := by simp; omega
  unfold p_law_scheme
  simp [z0]
  generalize hks : as ++ [r] = ks at *
  have lk : 0 < ks.length := by rw [← hks]; simp
  rw [show List.map kd as ++ [kd r] = ks.map kd from el]
  clear el
  generalize kd r = R0
  generalize as.map kd = A0
  generalize hF : forL _ _ _ _ _ = F
  obtain ⟨S, rfl, rfl⟩ := for_st hF (fun S : NS => [.leaf (.tup A0), .leaf R0, .ls (S.1.map .int), .ls (S.2.map kd), .hole, .hole]) (fun j S => S = sch (ks.take j)) ([], []) (by simp) rfl (by
    rintro j d S hd rfl
    rw [List.getElem?_map] at hd
    cases e : ks[j]? with
    | none => rw [e] at hd; cases hd
    | some k =>
      rw [e] at hd; cases hd
      have hj : j < ks.length := (List.getElem?_eq_some_iff.mp e).1
      refine ⟨sch (ks.take (j + 1)), ?_, rfl⟩
      rw [sch_take e]
      have z1 : (sch (ks.take j)).1.length ≤ 101 := by have := sch1 (ks.take j); simp at this; omega
      have z2 : (sch (ks.take j)).2.length ≤ 101 := by have := sch2 (ks.take j); simp at this; omega
      generalize sch (ks.take j) = S at *
      obtain ⟨O, L⟩ := S
      obtain ⟨l, b⟩ := k
      simp only at z1 z2 ⊢
      have z1' : O.length < 16000000 := by omega
      have z2' : L.length < 16000000 := by omega
      cases b with
      | inr s => simp [isD, stp, kd, dkD, addO, renB, z2']
      | inl v =>
        have hm := addO_mem O v
        by_cases h : v ∈ O
        · have e1 := o_in O v
          have e2 := o_ix h
          simp [-List.findIdx?_map, -List.all_map, isD, stp, kd, dkD, addO, renB, h, o_in, e2, z2', o_atom]
        · have e1 := o_in O v
          have h2 : v ∈ O ++ [v] := by simp
          have e2 := o_ix h2
          have e3 := o_atom (O ++ [v])
          rw [List.map_append, List.map_singleton] at e2 e3
          simp [-List.findIdx?_map, -List.all_map, -List.findIdx?_append, -List.all_append, -List.all_eq_true, isD, stp, kd, dkD, addO, renB, h, o_in, z1', z2', e2, e3])
  rw [List.length_map, List.take_length]
  obtain ⟨L0, k, eL⟩ := schD_of (L := (sch ks).2) (by omega)
  rw [eL, schD_snoc]
  have ln : L0.length + 1 = ks.length := by rw [← l2, eL]; simp
  have c1 : cut (L0.map kd ++ [kd k]) none (some (L0.length : Int)) = L0.map kd := by
    rw [cut_toN, List.take_left' (by simp)]
  have c2 : (L0.map kd ++ [kd k])[L0.length]? = some (kd k) := by rw [List.getElem?_append_right (by simp)]; simp
  simp [-cut_toN, c1, c2]
  done
end LAW

set_option Elab.async false
set_option linter.all false
set_option maxRecDepth 100000
set_option maxHeartbeats 4000000
/-! k10: the program's schemes -/
namespace LAW
open P
theorem nd_put {O : List Int} {v : Int} (h : v ∉ O) : putK (nd O) (.inl v) (.int (O.length : Nat)) = nd (addO O (.inl v)) := by
  have hv := nd_val O v
  rw [if_neg h] at hv
  unfold putK
  rw [hv]
  simp [addO, h, nd_snoc]
theorem nd_get (O : List Int) (v : Int) : valK (nd (addO O (.inl v))) (.inl v) = some (.int ((addO O (.inl v)).findIdx (· == v) : Nat)) := by
  rw [nd_val, if_pos (addO_mem O v)]
theorem scheme_ok {as : List Kd} {r : Kd} (hz : as.length ≤ 100) : p_scheme [.leaf (.tup (as.map kd)), .leaf (kd r)] = .ok (.leaf (schD (sch (as ++ [r])).2)) [] := by
  have el : as.map kd ++ [kd r] = (as ++ [r]).map kd := by simp
  have z0 : as.length + 1 ≤ 16000000 := by omega
  have l2 := sch2 (as ++ [r])
  have hk : (as ++ [r]).length ≤ 101 := by simp; omega
  unfold p_scheme
  simp [z0]
  generalize hks : as ++ [r] = ks at *
  have lk : 0 < ks.length := by rw [← hks]; simp
  rw [show List.map kd as ++ [kd r] = ks.map kd from el]
  clear el
  generalize kd r = R0
  generalize as.map kd = A0
  generalize hF : forL _ _ _ _ _ = F
  obtain ⟨S, rfl, rfl⟩ := for_st hF (fun S : NS => [.leaf (.tup A0), .leaf R0, .dK (nd S.1), .ls (S.2.map kd), .hole, .hole]) (fun j S => S = sch (ks.take j)) ([], []) (by simp [nd]) rfl (by
    rintro j d S hd rfl
    rw [List.getElem?_map] at hd
    cases e : ks[j]? with
    | none => rw [e] at hd; cases hd
    | some k =>
      rw [e] at hd; cases hd
      have hj : j < ks.length := (List.getElem?_eq_some_iff.mp e).1
      refine ⟨sch (ks.take (j + 1)), ?_, rfl⟩
      rw [sch_take e]
      have z1 : (sch (ks.take j)).1.length ≤ 101 := by have := sch1 (ks.take j); simp at this; omega
      have z2 : (sch (ks.take j)).2.length ≤ 101 := by have := sch2 (ks.take j); simp at this; omega
      generalize sch (ks.take j) = S at *
      obtain ⟨O, L⟩ := S
      obtain ⟨l, b⟩ := k
      simp only at z1 z2 ⊢
      have z1' : O.length < 16000000 := by omega
      have z2' : L.length < 16000000 := by omega
      have iv := isvar_ok b
      cases b with
      | inr s =>
        simp [dkD, isV] at iv
        simp [iv, stp, kd, dkD, addO, renB, z2']
      | inl v =>
        have hv := nd_val O v
        have hp := @nd_put O v
        have ho : v ∈ O → addO O (.inl v) = O := fun h => by simp [addO, h]
        have hg := nd_get O v
        have ln := nd_len O
        have es : stp (O, L) (l, Sum.inl v) = (addO O (.inl v), L ++ [(l, .inl (((addO O (.inl v)).findIdx (· == v) : Nat) : Int))]) := rfl
        rw [es]
        generalize addO O (.inl v) = O' at *
        simp [dkD, isV] at iv
        by_cases h : v ∈ O
        · rw [if_pos h] at hv
          have ho := ho h
          subst ho
          simp [gDLen, iv, kd, dkD, ln, hv, hg, keyOf, z2']
        · rw [if_neg h] at hv
          have hp := hp h
          simp [gDLen, iv, kd, dkD, ln, hv, hp, hg, keyOf, z1', z2'])
  rw [List.length_map, List.take_length]
  obtain ⟨L0, k, eL⟩ := schD_of (L := (sch ks).2) (by omega)
  rw [eL, schD_snoc]
  have ln : L0.length + 1 = ks.length := by rw [← l2, eL]; simp
  have c1 := cut_m1 (l := L0.map kd) (x := kd k)
  have c2 : atI (L0.map kd ++ [kd k]) (-1) = some (kd k) := by
    have : ixN (L0.length + 1) (-1) = some L0.length := by
      unfold ixN
      rw [if_neg (by omega), if_pos (by omega)]
      congr 1
      omega
    unfold atI
    simp [this]
  simp [c1, c2]
/-! ### a scheme of a scheme -/
def rngI (m : Nat) : List Int := (List.range m).map fun (i : Nat) => (i : Int)
theorem rngI_succ (m : Nat) : rngI (m + 1) = rngI m ++ [(m : Int)] := by simp [rngI, List.range_succ]
theorem rngI_mem {m i : Nat} : (i : Int) ∈ rngI m ↔ i < m := by
  simp [rngI]
  constructor
  · rintro ⟨a, h, e⟩
    have : a = i := by omega
    subst this; exact h
  · exact fun h => ⟨i, h, rfl⟩
theorem rngI_ix {i : Nat} : ∀ {m : Nat}, i < m → (rngI m).findIdx (· == (i : Int)) = i
  | m + 1, h => by
    rw [rngI_succ, List.findIdx_append]
    by_cases e : i < m
    · have := rngI_ix e
      have l : (rngI m).length = m := by simp [rngI]
      rw [this, l, if_pos e]
    · have : i = m := by omega
      subst this
      have : (rngI i).findIdx (· == (i : Int)) = (rngI i).length := List.findIdx_eq_length.mpr fun x hx => by
        have hx2 : x ≠ (i : Int) := fun z => by
          subst z
          exact absurd (rngI_mem.mp hx) (Nat.lt_irrefl _)
        simpa using hx2
      rw [this]
      simp [rngI]
theorem sch_sch : ∀ (n : Nat) (ks : List Kd), ks.length = n → sch (sch ks).2 = (rngI (sch ks).1.length, (sch ks).2)
  | 0, ks, e => by
    rw [List.length_eq_zero_iff.mp e]; rfl
  | n + 1, ks, e => by
    obtain ⟨L0, k, rfl⟩ := schD_of (L := ks) (by omega)
    have ih := sch_sch n L0 (by simp at e; omega)
    obtain ⟨l, b⟩ := k
    rw [sch_snoc]
    generalize sch L0 = S at ih ⊢
    obtain ⟨O, L⟩ := S
    simp only at ih
    have e1 : (stp (O, L) (l, b)) = (addO O b, L ++ [(l, renB (addO O b) b)]) := rfl
    rw [e1]
    show sch (L ++ [(l, renB (addO O b) b)]) = _
    rw [sch_snoc, ih]
    cases b with
    | inr s => rfl
    | inl v =>
      show (addO (rngI O.length) (.inl _), L ++ [(l, renB (addO (rngI O.length) (.inl _)) (.inl _))]) = _
      by_cases h : v ∈ O
      · have hO : addO O (.inl v) = O := by simp [addO, h]
        rw [hO]
        have hlt : O.findIdx (· == v) < O.length := List.findIdx_lt_length_of_exists ⟨v, h, by simp⟩
        generalize hi : O.findIdx (· == v) = i at hlt ⊢
        have h2 : addO (rngI O.length) (.inl (i : Int)) = rngI O.length := by simp [addO, rngI_mem, hlt]
        rw [h2]
        have h3 : renB (rngI O.length) (.inl (i : Int)) = .inl (i : Int) := by simp [renB, rngI_ix hlt]
        rw [h3]
        simp [renB, hi]
      · have hO : addO O (.inl v) = O ++ [v] := by simp [addO, h]
        rw [hO]
        have hix : (O ++ [v]).findIdx (· == v) = O.length := by
          have h2 : O.findIdx (· == v) = O.length := List.findIdx_eq_length.mpr fun x m => by
            have : x ≠ v := fun z => h (z ▸ m)
            simp [this]
          rw [List.findIdx_append, h2]; simp
        rw [hix]
        have h2 : addO (rngI O.length) (.inl (O.length : Int)) = rngI (O.length + 1) := by
          rw [rngI_succ]; simp [addO, rngI_mem]
        rw [h2]
        have h3 : renB (rngI (O.length + 1)) (.inl (O.length : Int)) = .inl (O.length : Int) := by simp [renB, rngI_ix (Nat.lt_succ_self _)]
        rw [h3]
        simp [renB, hix]
end LAW

set_option Elab.async false
set_option linter.all false
set_option maxRecDepth 100000
set_option maxHeartbeats 4000000
/-! k10: instances -/
namespace LAW
open P
def at' (X : List Kd) (j : Nat) : Kd := (X[j]?).getD (0, .inl 0)
theorem at_of {X : List Kd} {j : Nat} (h : j < X.length) : X[j]? = some (at' X j) := by unfold at'; rw [List.getElem?_eq_getElem h]; rfl
theorem at_D {X : List Kd} {j : Nat} (h : j < X.length) : (X.map kd)[j]? = some (kd (at' X j)) := by rw [List.getElem?_map, at_of h]; rfl
/-- what the variable stands for -/
def wn (X Y : List Kd) (j : Nat) : Kd := ((at' X j).1 - (at' Y j).1, (at' X j).2)
def inB (X Y : List Kd) (k j : Nat) : Bool := !(decide ((at' Y j).2 = (at' Y k).2)) || decide (wn X Y j = wn X Y k)
def goodB (X Y : List Kd) (k : Nat) : Bool := match (at' Y k).2 with
  | .inr _ => decide (at' X k = at' Y k)
  | .inl _ => decide ((at' Y k).1 ≤ (at' X k).1) && (List.range k).all (inB X Y k)
def instB (X Y : List Kd) : Bool := decide (X.length = Y.length) && (List.range X.length).all (goodB X Y)
theorem good_inr {X Y : List Kd} {k : Nat} {s : List Nat} (h : (at' Y k).2 = .inr s) : goodB X Y k = decide (at' X k = at' Y k) := by unfold goodB; rw [h]
theorem good_inl {X Y : List Kd} {k : Nat} {v : Int} (h : (at' Y k).2 = .inl v) : goodB X Y k = (decide ((at' Y k).1 ≤ (at' X k).1) && (List.range k).all (inB X Y k)) := by
  unfold goodB
  split
  · rename_i s e; rw [h] at e; cases e
  · rfl
def OKs (X : List Kd) : Prop := ∀ k ∈ X, okB k.2 = true
theorem OKs.at {X : List Kd} (h : OKs X) {j : Nat} (hj : j < X.length) : okB (at' X j).2 = true := h _ (List.mem_of_getElem? (at_of hj))
theorem pair_D (A : List Kd) (a : Kd) : A.map kd ++ [kd a] = (A ++ [a]).map kd := by simp
theorem fin_find {n : Nat} {g : Nat → Bool} : ((rng 0 n).find? fun d => match d with | .int i => !(g i.toNat) | _ => false).isSome = !((List.range n).all g) := by
  have : rng 0 n = (List.range n).map fun i => D.int (i : Nat) := by simp [rng]
  rw [this]
  induction List.range n with
  | nil => rfl
  | cons a r ih =>
    rw [List.map_cons, List.find?_cons, List.all_cons]
    cases h : g a with
    | true => simp [h]; simpa using ih
    | false => simp [h]
theorem linst_ok {A B : List Kd} {a b : Kd} (ha : OKs (A ++ [a])) (hb : OKs (B ++ [b])) (hA : A.length ≤ 100) (hB : B.length ≤ 100) :
    p_law_is_instance [.leaf (.tup [.tup (A.map kd), kd a]), .leaf (.tup [.tup (B.map kd), kd b])] = .ok (.leaf (.bl (instB (A ++ [a]) (B ++ [b])))) [] := by
  have zA : A.length + 1 ≤ 16000000 := by omega
  have zB : B.length + 1 ≤ 16000000 := by omega
  have eA := pair_D A a
  have eB := pair_D B b
  have lA : (A ++ [a]).length = A.length + 1 := by simp
  have lB : (B ++ [b]).length = B.length + 1 := by simp
  have lDA : (A.map kd).length = A.length := by simp
  have lDB : (B.map kd).length = B.length := by simp
  unfold p_law_is_instance
  simp only [f_fn, s_seq]
  generalize kd a = ka at *
  generalize kd b = kb at *
  generalize A.map kd = DA at *
  generalize B.map kd = DB at *
  have zA' : DA.length + 1 ≤ 16000000 := by omega
  have zB' : DB.length + 1 ≤ 16000000 := by omega
  simp [zA', zB']
  generalize A ++ [a] = X at *
  generalize B ++ [b] = Y at *
  by_cases hl : X.length = Y.length
  · have h1 : DA.length = DB.length := by omega
    have lX : DB.length + 1 = X.length := by omega
    have nz : X.length ≤ 1000000000 := by omega
    rw [eA, eB]
    simp [h1, nz]
    generalize hF : forL _ _ _ _ _ = F
    have := for_st_rt hF (fun _ : Unit => [.leaf (.tup [.tup DA, ka]), .leaf (.tup [.tup DB, kb]), .leaf (.lst (X.map kd)), .leaf (.lst (Y.map kd)), .hole, .hole]) (fun j _ => ∀ i < j, goodB X Y i = true) (fun t _ => t = .leaf (.bl false) ∧ ∃ i < X.length, goodB X Y i = false) () (by simp) (by simp) (by
      rintro k d - hd hg
      obtain ⟨hk, rfl⟩ := rng_get hd
      have gx := at_D (X := X) (j := k) hk
      have gy := at_D (X := Y) (j := k) (by omega)
      have cx := cEq_kd (ha.at hk) (hb.at (j := k) (by omega))
      have nx : goodB X Y k = true → ∀ i < k + 1, goodB X Y i = true := fun h i hi => by
        rcases Nat.lt_or_eq_of_le (Nat.le_of_lt_succ hi) with h1 | h1
        · exact hg i h1
        · rw [h1]; exact h
      cases hv : (at' Y k).2 with
      | inr s =>
        have gk := good_inr (X := X) hv
        generalize hx : at' X k = x at *
        generalize hy : at' Y k = y at *
        obtain ⟨l2, b2⟩ := y
        simp only at hv
        subst hv
        obtain ⟨l1, b1⟩ := x
        simp only [kd, dkD] at gx gy cx
        by_cases c : (l1, b1) = (l2, Sum.inr s)
        · refine .inl ⟨(), ?_, nx (by rw [gk, decide_eq_true c])⟩
          simp [-Prod.mk.injEq, gx, gy, isD, dkD, cx, c]
        · refine .inr ⟨.leaf (.bl false), [.leaf (.tup [.tup DA, ka]), .leaf (.tup [.tup DB, kb]), .leaf (.lst (X.map kd)), .leaf (.lst (Y.map kd)), .leaf (.int (0 + (k : Int))), .hole], ?_, rfl, k, hk, by rw [gk, decide_eq_false c]⟩
          simp [-Prod.mk.injEq, gx, gy, isD, dkD, cx, c]
      | inl v =>
        have gk := good_inl (X := X) hv
        have z9 : k ≤ 1000000000 := by omega
        by_cases c : (at' Y k).1 ≤ (at' X k).1
        · rw [decide_eq_true c, Bool.true_and] at gk
          have c' : ¬ (at' X k).1 < (at' Y k).1 := by omega
          have hI : ∀ {G : PRS}, forL [5] (.one 5) (sIf (tCmp cEq (pBin gIx (pBin gIx (pVar 3) (pVar 5)) (pC (.int 1))) (pBin gIx (pBin gIx (pVar 3) (pVar 4)) (pC (.int 1)))) (sIf (tOr (tCmp cNe (pBin gSub (pBin gIx (pBin gIx (pVar 2) (pVar 5)) (pC (.int 0))) (pBin gIx (pBin gIx (pVar 3) (pVar 5)) (pC (.int 0)))) (pBin gSub (pBin gIx (pBin gIx (pVar 2) (pVar 4)) (pC (.int 0))) (pBin gIx (pBin gIx (pVar 3) (pVar 4)) (pC (.int 0))))) (tCmp cNe (pBin gIx (pBin gIx (pVar 2) (pVar 5)) (pC (.int 1))) (pBin gIx (pBin gIx (pVar 2) (pVar 4)) (pC (.int 1))))) (sRet (pLf (pC (.bl false)))) sNx) sNx)
              (rng 0 k) [.leaf (.tup [.tup DA, ka]), .leaf (.tup [.tup DB, kb]), .leaf (.lst (X.map kd)), .leaf (.lst (Y.map kd)), .leaf (.int (k : Int)), .hole] = G →
              (G = .nx [.leaf (.tup [.tup DA, ka]), .leaf (.tup [.tup DB, kb]), .leaf (.lst (X.map kd)), .leaf (.lst (Y.map kd)), .leaf (.int (k : Int)), .hole] ∧ goodB X Y k = true) ∨ (∃ e, G = .rt (.leaf (.bl false)) e ∧ goodB X Y k = false) := fun {G} hG => by
            have := for_st_rt hG (fun _ : Unit => [.leaf (.tup [.tup DA, ka]), .leaf (.tup [.tup DB, kb]), .leaf (.lst (X.map kd)), .leaf (.lst (Y.map kd)), .leaf (.int (k : Int)), .hole]) (fun j _ => ∀ i < j, inB X Y k i = true) (fun t _ => t = .leaf (.bl false) ∧ ∃ i < k, inB X Y k i = false) () (by simp) (by simp) (by
              rintro j d - hd hh
              obtain ⟨hj, rfl⟩ := rng_get hd
              have jx := at_D (X := X) (j := j) (by omega)
              have jy := at_D (X := Y) (j := j) (by omega)
              have nj : inB X Y k j = true → ∀ i < j + 1, inB X Y k i = true := fun h i hi => by
                rcases Nat.lt_or_eq_of_le (Nat.le_of_lt_succ hi) with h1 | h1
                · exact hh i h1
                · rw [h1]; exact h
              have ib : inB X Y k j = (!(decide ((at' Y j).2 = (at' Y k).2)) || (decide ((at' X j).1 - (at' Y j).1 = (at' X k).1 - (at' Y k).1) && decide ((at' X j).2 = (at' X k).2))) := by
                unfold inB wn
                simp
              simp only [kd] at gx gy jx jy
              generalize (at' Y j).2 = b3 at *
              generalize (at' Y k).2 = b2 at *
              generalize (at' X j).2 = b1 at *
              generalize (at' X k).2 = b0 at *
              generalize (at' Y j).1 = l3 at *
              generalize (at' Y k).1 = l2 at *
              generalize (at' X j).1 = l1 at *
              generalize (at' X k).1 = l0 at *
              by_cases c1 : b3 = b2
              · by_cases c2 : l1 - l3 = l0 - l2
                · by_cases c3 : b1 = b0
                  · refine .inl ⟨(), ?_, nj (by rw [ib]; simp [c1, c2, c3])⟩
                    simp [gx, gy, jx, jy, c1, c2, c3]
                  · refine .inr ⟨.leaf (.bl false), [.leaf (.tup [.tup DA, ka]), .leaf (.tup [.tup DB, kb]), .leaf (.lst (X.map kd)), .leaf (.lst (Y.map kd)), .leaf (.int (k : Int)), .leaf (.int (0 + (j : Int)))], ?_, rfl, j, hj, by rw [ib]; simp [c1, c2, c3]⟩
                    simp [gx, gy, jx, jy, c1, c2, c3]
                · refine .inr ⟨.leaf (.bl false), [.leaf (.tup [.tup DA, ka]), .leaf (.tup [.tup DB, kb]), .leaf (.lst (X.map kd)), .leaf (.lst (Y.map kd)), .leaf (.int (k : Int)), .leaf (.int (0 + (j : Int)))], ?_, rfl, j, hj, by rw [ib]; simp [c1, c2]⟩
                  simp [gx, gy, jx, jy, c1, c2]
              · refine .inl ⟨(), ?_, nj (by rw [ib]; simp [c1])⟩
                simp [gx, gy, jx, jy, c1])
            rcases this with ⟨_, e, r⟩ | ⟨t, e, e1, e2, i, hi, e3⟩
            · refine .inl ⟨e, ?_⟩
              rw [gk, List.all_eq_true]
              rw [rng_len] at r
              exact fun i m => r i (List.mem_range.mp m)
            · refine .inr ⟨e, by rw [e1, e2], ?_⟩
              rw [gk]
              cases h : (List.range k).all (inB X Y k) with
              | false => rfl
              | true => rw [List.all_eq_true.mp h i (List.mem_range.mpr hi)] at e3; cases e3
          have ed : dkD (at' Y k).2 = .int v := by rw [hv]; rfl
          simp only [kd, ed] at gx gy
          rcases hI rfl with ⟨e, g⟩ | ⟨e', e, g⟩
          · refine .inl ⟨(), ?_, nx g⟩
            simp [gx, gy, isD, c', z9, e]
          · refine .inr ⟨.leaf (.bl false), e', ?_, rfl, k, hk, g⟩
            simp [gx, gy, isD, c', z9, e]
        · rw [decide_eq_false c, Bool.false_and] at gk
          have c' : (at' X k).1 < (at' Y k).1 := by omega
          refine .inr ⟨.leaf (.bl false), [.leaf (.tup [.tup DA, ka]), .leaf (.tup [.tup DB, kb]), .leaf (.lst (X.map kd)), .leaf (.lst (Y.map kd)), .leaf (.int (0 + (k : Int))), .hole], ?_, rfl, k, hk, gk⟩
          have ed : dkD (at' Y k).2 = .int v := by rw [hv]; rfl
          simp only [kd, ed] at gx gy
          simp [gx, gy, isD, c'])
    rcases this with ⟨_, rfl, r⟩ | ⟨t, e, rfl, rfl, i, hi, e3⟩
    · have : instB X Y = true := by
        unfold instB
        rw [decide_eq_true hl, Bool.true_and, List.all_eq_true]
        rw [rng_len] at r
        exact fun i m => r i (List.mem_range.mp m)
      simp [this]
    · have : instB X Y = false := by
        unfold instB
        rw [decide_eq_true hl, Bool.true_and]
        cases h : (List.range X.length).all (goodB X Y) with
        | false => rfl
        | true => rw [List.all_eq_true.mp h i (List.mem_range.mpr hi)] at e3; cases e3
      simp [this]
  · have h1 : ¬ DA.length = DB.length := by omega
    have h2 : instB X Y = false := by simp [instB, hl]
    have h3 : ¬ (DA.length : Int) = (DB.length : Int) := by omega
    simp [h1, h2, h3]
end LAW

set_option Elab.async false
set_option linter.all false
set_option maxRecDepth 100000
set_option maxHeartbeats 4000000
/-! k10: the program's instances -/
namespace LAW
open P
/-- what was found up to k -/
structure RF (X Y : List Kd) (k : Nat) (F : List (DK × D)) : Prop where
  l : F.length ≤ k
  g : ∀ i < k, goodB X Y i = true
  n : ∀ v, valK F (.inl v) = none → ∀ j < k, (at' Y j).2 ≠ .inl v
  s : ∀ v d, valK F (.inl v) = some d → ∃ j < k, (at' Y j).2 = .inl v ∧ d = kd (wn X Y j)
theorem good_same {X Y : List Kd} {i j : Nat} {v : Int} (h : j < i) (hg : goodB X Y i = true) (hi : (at' Y i).2 = .inl v) (hj : (at' Y j).2 = .inl v) : wn X Y j = wn X Y i := by
  rw [good_inl hi] at hg
  have := List.all_eq_true.mp (Bool.and_eq_true_iff.mp hg).2 j (List.mem_range.mpr h)
  unfold inB at this
  rw [hi, hj] at this
  simpa using this
theorem RF.same {X Y : List Kd} {k : Nat} {F : List (DK × D)} (r : RF X Y k F) {i j : Nat} {v : Int} (hi : i < k) (hj : j < k) (ei : (at' Y i).2 = .inl v) (ej : (at' Y j).2 = .inl v) : wn X Y i = wn X Y j := by
  rcases Nat.lt_trichotomy i j with h | h | h
  · exact good_same h (r.g j hj) ej ei
  · rw [h]
  · exact (good_same h (r.g i hi) ei ej).symm
theorem pair_at {X Y : List Kd} {k : Nat} (hX : k < X.length) (hY : k < Y.length) : (pairs (X.map kd) (Y.map kd))[k]? = some (.tup [kd (at' X k), kd (at' Y k)]) := by
  unfold pairs
  have e : ((X.map kd).zip (Y.map kd))[k]? = some (kd (at' X k), kd (at' Y k)) := List.getElem?_zip_eq_some.mpr ⟨at_D hX, at_D hY⟩
  rw [List.getElem?_map, e]; rfl
theorem inst_ok {A B : List Kd} {a b : Kd} (ha : OKs (A ++ [a])) (hb : OKs (B ++ [b])) (hA : A.length ≤ 100) (hB : B.length ≤ 100) :
    p_is_instance [.leaf (.tup [.tup (A.map kd), kd a]), .leaf (.tup [.tup (B.map kd), kd b])] = .ok (.leaf (.bl (instB (A ++ [a]) (B ++ [b])))) [] := by
  have zA : A.length + 1 ≤ 16000000 := by omega
  have zB : B.length + 1 ≤ 16000000 := by omega
  have eA := pair_D A a
  have eB := pair_D B b
  have lA : (A ++ [a]).length = A.length + 1 := by simp
  have lB : (B ++ [b]).length = B.length + 1 := by simp
  have lDA : (A.map kd).length = A.length := by simp
  have lDB : (B.map kd).length = B.length := by simp
  unfold p_is_instance
  simp only [f_fn, s_seq]
  generalize kd a = ka at *
  generalize kd b = kb at *
  generalize A.map kd = DA at *
  generalize B.map kd = DB at *
  have zA' : DA.length + 1 ≤ 16000000 := by omega
  have zB' : DB.length + 1 ≤ 16000000 := by omega
  simp [zA', zB']
  generalize A ++ [a] = X at *
  generalize B ++ [b] = Y at *
  by_cases hl : X.length = Y.length
  · have h1 : DA.length = DB.length := by omega
    have lX : DB.length + 1 = X.length := by omega
    rw [eA, eB]
    simp [h1, sqD]
    generalize hF : forL _ _ _ _ _ = F
    have lP : (pairs (X.map kd) (Y.map kd)).length = X.length := by unfold pairs; simp; omega
    have := for_st_rt hF (fun F : List (DK × D) => [.leaf (.tup [.tup DA, ka]), .leaf (.tup [.tup DB, kb]), .leaf (.lst (X.map kd)), .leaf (.lst (Y.map kd)), .dK F, .hole, .hole, .hole]) (fun j F => RF X Y j F) (fun t _ => t = .leaf (.bl false) ∧ ∃ i < X.length, goodB X Y i = false) [] (by simp) ⟨by simp, by simp, by simp, by simp [valK]⟩ (by
      rintro k d F hd hr
      have hk : k < X.length := by rw [← lP]; exact (List.getElem?_eq_some_iff.mp hd).1
      rw [pair_at hk (by omega)] at hd
      cases hd
      have cx := cEq_kd (ha.at hk) (hb.at (j := k) (by omega))
      have ng : goodB X Y k = true → ∀ i < k + 1, goodB X Y i = true := fun h i hi => by
        rcases Nat.lt_or_eq_of_le (Nat.le_of_lt_succ hi) with h1 | h1
        · exact hr.g i h1
        · rw [h1]; exact h
      have iv := isvar_ok (at' Y k).2
      cases hv : (at' Y k).2 with
      | inr s =>
        have gk := good_inr (X := X) hv
        have nx : goodB X Y k = true → RF X Y (k + 1) F := fun h => by
          refine ⟨by have := hr.l; omega, ng h, fun v hn j hj => ?_, fun v d hs => ?_⟩
          · rcases Nat.lt_or_eq_of_le (Nat.le_of_lt_succ hj) with h1 | h1
            · exact hr.n v hn j h1
            · rw [h1, hv]
              intro z; cases z
          · obtain ⟨j, h1, h2⟩ := hr.s v d hs
            exact ⟨j, by omega, h2⟩
        rw [hv] at iv
        generalize hx : at' X k = x at *
        generalize hy : at' Y k = y at *
        obtain ⟨l2, b2⟩ := y
        simp only at hv
        subst hv
        obtain ⟨l1, b1⟩ := x
        simp only [kd, dkD, isV] at cx iv
        by_cases c : (l1, b1) = (l2, Sum.inr s)
        · refine .inl ⟨F, ?_, nx (by rw [gk, decide_eq_true c])⟩
          simp [-Prod.mk.injEq, kd, dkD, iv, cx, c]
        · refine .inr ⟨.leaf (.bl false), _, by simp [-Prod.mk.injEq, kd, dkD, iv, cx, c]; rfl, rfl, k, hk, by rw [gk, decide_eq_false c]⟩
      | inl v =>
        have gk := good_inl (X := X) hv
        have zF : F.length < 16000000 := by have := hr.l; omega
        have ed : dkD (at' Y k).2 = .int v := by rw [hv]; rfl
        rw [hv] at iv
        simp only [dkD, isV] at iv
        by_cases c : (at' Y k).1 ≤ (at' X k).1
        · rw [decide_eq_true c, Bool.true_and] at gk
          have c' : ¬ (at' X k).1 - (at' Y k).1 < 0 := by omega
          cases hf : valK F (.inl v) with
          | none =>
            have gt : goodB X Y k = true := by
              rw [gk, List.all_eq_true]
              intro j m
              have := hr.n v hf j (List.mem_range.mp m)
              unfold inB
              rw [hv]
              simp [this]
            have hp : putK F (.inl v) (kd (wn X Y k)) = F ++ [(.inl v, kd (wn X Y k))] := by unfold putK; rw [hf]; rfl
            refine .inl ⟨F ++ [(.inl v, kd (wn X Y k))], ?_, ⟨by have := hr.l; simp; omega, ng gt, fun w hn j hj => ?_, fun w d hs => ?_⟩⟩
            · have ce := cEq_kd (x := wn X Y k) (y := wn X Y k) (ha.at hk) (ha.at hk)
              simp only [wn, kd] at ce hp ⊢
              simp [iv, ed, c', hf, zF, hp, ce]
            · by_cases e : v = w
              · subst e
                rw [val_app, hf] at hn
                cases hn
              · rw [val_app_ne (by simpa using e)] at hn
                rcases Nat.lt_or_eq_of_le (Nat.le_of_lt_succ hj) with h1 | h1
                · exact hr.n w hn j h1
                · rw [h1, hv]; simpa using e
            · by_cases e : v = w
              · subst e
                rw [val_app, hf] at hs
                cases hs
                exact ⟨k, by omega, hv, rfl⟩
              · rw [val_app_ne (by simpa using e)] at hs
                obtain ⟨j, h1, h2⟩ := hr.s w d hs
                exact ⟨j, by omega, h2⟩
          | some d =>
            obtain ⟨j, h1, h2, rfl⟩ := hr.s v d hf
            have ce := cEq_kd (x := wn X Y j) (y := wn X Y k) (ha.at (j := j) (by omega)) (ha.at hk)
            by_cases e : wn X Y j = wn X Y k
            · have gt : goodB X Y k = true := by
                rw [gk, List.all_eq_true]
                intro i m
                have hi := List.mem_range.mp m
                unfold inB
                rw [hv]
                by_cases e2 : (at' Y i).2 = .inl v
                · have := hr.same hi h1 e2 h2
                  rw [this, e]; simp
                · simp [e2]
              refine .inl ⟨F, ?_, ⟨by have := hr.l; omega, ng gt, fun w hn i hi => ?_, fun w d hs => ?_⟩⟩
              · rw [decide_eq_true e] at ce
                simp only [wn, kd] at ce hf ⊢
                simp [iv, ed, c', hf, ce]
              · rcases Nat.lt_or_eq_of_le (Nat.le_of_lt_succ hi) with h3 | h3
                · exact hr.n w hn i h3
                · rw [h3, hv]
                  intro z
                  cases z
                  rw [hf] at hn; cases hn
              · obtain ⟨i, h3, h4⟩ := hr.s w d hs
                exact ⟨i, by omega, h4⟩
            · have gf : goodB X Y k = false := by
                rw [gk]
                cases h : (List.range k).all (inB X Y k) with
                | false => rfl
                | true =>
                  have := List.all_eq_true.mp h j (List.mem_range.mpr h1)
                  unfold inB at this
                  rw [hv, h2] at this
                  simp [e] at this
              rw [decide_eq_false e] at ce
              simp only [wn, kd] at ce hf
              refine .inr ⟨.leaf (.bl false), _, by simp [kd, iv, ed, c', hf, ce]; rfl, rfl, k, hk, gf⟩
        · rw [decide_eq_false c, Bool.false_and] at gk
          have c' : (at' X k).1 - (at' Y k).1 < 0 := by omega
          refine .inr ⟨.leaf (.bl false), _, by simp [kd, iv, ed, c']; rfl, rfl, k, hk, gk⟩)
    rcases this with ⟨F, rfl, r⟩ | ⟨t, e, rfl, rfl, i, hi, e3⟩
    · have : instB X Y = true := by
        unfold instB
        rw [decide_eq_true hl, Bool.true_and, List.all_eq_true]
        rw [lP] at r
        exact fun i m => r.g i (List.mem_range.mp m)
      simp [this]
    · have : instB X Y = false := by
        unfold instB
        rw [decide_eq_true hl, Bool.true_and]
        cases h : (List.range X.length).all (goodB X Y) with
        | false => rfl
        | true => rw [List.all_eq_true.mp h i (List.mem_range.mpr hi)] at e3; cases e3
      simp [this]
  · have h1 : ¬ DA.length = DB.length := by omega
    have h2 : instB X Y = false := by simp [instB, hl]
    have h3 : ¬ (DA.length : Int) = (DB.length : Int) := by omega
    simp [h1, h2, h3]
end LAW

set_option Elab.async false
set_option linter.all false
set_option maxRecDepth 100000
set_option maxHeartbeats 4000000
/-! k10: what is drawn -/
namespace LAW
open P
theorem p_at {vs : List Nat} {j : Int} (h : 0 ≤ j) : p_law_at [.leaf (.lst (In vs)), .leaf (.int j)] = .ok (.leaf (.int (atN vs j.toNat))) [] := by rw [at_eq]; exact lawAt_int h
theorem p_at' {vs : List Nat} {j : Int} (h : 0 ≤ j) : ∃ n : Nat, p_law_at [.leaf (.lst (In vs)), .leaf (.int j)] = .ok (.leaf (.int (n : Nat))) [] := ⟨_, p_at h⟩
theorem mod_ix {n : Nat} {m : Int} (hm : 0 < m) : ∃ w : Nat, (n : Int) % m = (w : Int) ∧ (w : Int) < m := by
  have h1 := Int.emod_nonneg (n : Int) (by omega : m ≠ 0)
  have h2 := Int.emod_lt_of_pos (n : Int) hm
  exact ⟨((n : Int) % m).toNat, by omega, by omega⟩
section
variable {vs : List Nat}
theorem kind_ok {n0 n1 n2 n3 i : Int} (h : 0 ≤ i) : ∃ k : Kd, p_law_kind [.leaf (.lst (In vs)), .leaf (.int i), .leaf (.lst [.int n0, .int n1, .int n2, .int n3])] = .ok (.leaf (kd k)) [] ∧ okB k.2 = true := by
  obtain ⟨a, q1⟩ := p_at' (vs := vs) (j := i + 1) (by omega)
  obtain ⟨b, q2⟩ := p_at' (vs := vs) (j := i) h
  obtain ⟨w, e1, e2⟩ := mod_ix (n := a) (m := 9) (by omega)
  have : ∃ b : DK, ([.int n0, .int n1, .int n2, .int n3, .str [110, 117, 109], .str [116, 101, 120, 116], .str [100], .str [101, 50], .int n0] : List D)[w]? = some (dkD b) ∧ okB b = true := by
    have : w = 0 ∨ w = 1 ∨ w = 2 ∨ w = 3 ∨ w = 4 ∨ w = 5 ∨ w = 6 ∨ w = 7 ∨ w = 8 := by omega
    rcases this with rfl | rfl | rfl | rfl | rfl | rfl | rfl | rfl | rfl
    · exact ⟨.inl n0, rfl, rfl⟩
    · exact ⟨.inl n1, rfl, rfl⟩
    · exact ⟨.inl n2, rfl, rfl⟩
    · exact ⟨.inl n3, rfl, rfl⟩
    · exact ⟨.inr _, rfl, by decide⟩
    · exact ⟨.inr _, rfl, by decide⟩
    · exact ⟨.inr _, rfl, by decide⟩
    · exact ⟨.inr _, rfl, by decide⟩
    · exact ⟨.inl n0, rfl, rfl⟩
  obtain ⟨x, hx, ho⟩ := this
  refine ⟨((b : Int) % 4, x), ?_, ho⟩
  unfold p_law_kind
  simp [q1, q2, e1, hx, kd]
theorem pair_ok {n0 n1 n2 n3 i : Int} (h : 0 ≤ i) : ∃ A a, p_law_pair [.leaf (.lst (In vs)), .leaf (.int i), .leaf (.lst [.int n0, .int n1, .int n2, .int n3])] = .ok (.ls [.tup (A.map kd), kd a]) [] ∧ A.length ≤ 4 ∧ OKs (A ++ [a]) := by
  obtain ⟨c, q1⟩ := p_at' (vs := vs) (j := i) h
  obtain ⟨w, e1, e2⟩ := mod_ix (n := c) (m := 5) (by omega)
  unfold p_law_pair
  simp only [f_fn, s_seq]
  have hz : ((w : Int) + 1).natAbs ≤ 1000000000 := by omega
  simp [q1, e1, hz]
  generalize hF : lcR _ _ _ _ _ _ = F
  obtain ⟨acc, -, rfl, KL, rfl, k1, k2⟩ := lc_st hF (fun _ : Unit => [.leaf (.lst (In vs)), .leaf (.int i), .leaf (.lst [.int n0, .int n1, .int n2, .int n3]), .leaf (.int w), .hole, .hole]) (fun j acc _ => ∃ KL : List Kd, acc = KL.map kd ∧ KL.length = j ∧ OKs KL) () (by rw [rng_len]; omega) (by simp) ⟨[], rfl, rfl, fun k m => by cases m⟩ (by
    rintro j d acc - hd ⟨KL, rfl, k1, k2⟩
    obtain ⟨hj, rfl⟩ := rng_get hd
    obtain ⟨k, q, ho⟩ := kind_ok (vs := vs) (n0 := n0) (n1 := n1) (n2 := n2) (n3 := n3) (i := i + 1 + 2 * (0 + (j : Int))) (by omega)
    refine ⟨some (kd k), (), ?_, KL ++ [k], by simp, by simp [k1], fun x m => ?_⟩
    · have m1 : cMul 2 (j : Int) := .inl (by omega)
      simp at q
      simp [q, m1]
    · rcases List.mem_append.mp m with m | m
      · exact k2 x m
      · rw [List.mem_singleton.mp m]; exact ho)
  rw [rng_len] at k1
  obtain ⟨A, ⟨a1, a2⟩, rfl⟩ := schD_of (L := KL) (by omega)
  have lA : A.length = w := by simp at k1; omega
  have lA5 : A.length ≤ 4 := by omega
  refine ⟨A, a1, a2, ?_, lA5, k2⟩
  generalize (a1, a2) = a at *
  have c1 : cut (A.map kd ++ [kd a]) none (some (w : Int)) = A.map kd := by rw [cut_toN, List.take_left' (by simpa using lA)]
  have c2 : (A.map kd ++ [kd a])[w]? = some (kd a) := by rw [List.getElem?_append_right (by simp [lA])]; simp [lA]
  simp [-cut_toN, c1, c2]
end
end LAW

set_option Elab.async false
set_option linter.all false
set_option maxRecDepth 100000
set_option maxHeartbeats 4000000
/-! k10: an instance drawn -/
namespace LAW
open P
def Nn (L : List Kd) : Prop := ∀ k ∈ L, ∀ v, k.2 = .inl v → 0 ≤ v
theorem OKs.app {A B : List Kd} (a : OKs A) (b : OKs B) : OKs (A ++ B) := fun x m => by
  rcases List.mem_append.mp m with m | m
  · exact a x m
  · exact b x m
theorem OKs.one {k : Kd} (h : okB k.2 = true) : OKs [k] := fun x m => by rw [List.mem_singleton.mp m]; exact h
section
variable {vs : List Nat}
theorem instance_ok {L0 : List Kd} {l : Kd} {i : Int} (h : 0 ≤ i) (hL : OKs (L0 ++ [l])) (hn : Nn (L0 ++ [l])) (hz : L0.length ≤ 20) :
    ∃ A a1 a2, p_law_instance [.leaf (.lst (In vs)), .leaf (.int i), .leaf (.tup [.tup (L0.map kd), kd l])] = .ok (.leaf (.tup [.tup (A.map kd), kd (a1, a2)])) [] ∧ A.length ≤ 21 ∧ OKs (A ++ [(a1, a2)]) := by
  have eL := pair_D L0 l
  have lL : (L0.map kd).length = L0.length := by simp
  have z0 : (L0.map kd).length + 1 ≤ 16000000 := by omega
  have lX : (L0 ++ [l]).length = L0.length + 1 := by simp
  obtain ⟨n9, q9⟩ := p_at' (vs := vs) (j := i + 9) (by omega)
  obtain ⟨n10, q10⟩ := p_at' (vs := vs) (j := i + 10) (by omega)
  obtain ⟨n11, q11⟩ := p_at' (vs := vs) (j := i + 11) (by omega)
  obtain ⟨n12, q12⟩ := p_at' (vs := vs) (j := i + 12) (by omega)
  unfold p_law_instance
  simp only [f_fn, s_seq]
  generalize hl : kd l = kl at *
  generalize hD : L0.map kd = DL at *
  simp [z0]
  rw [eL]
  generalize L0 ++ [l] = X at *
  generalize hF : forL _ _ _ _ _ = F
  obtain ⟨S, rfl, r1, r2⟩ := for_st hF (fun S : List Kd => [.leaf (.lst (In vs)), .leaf (.int i), .leaf (.tup [.tup DL, kl]), .ls (S.map kd), .hole, .hole, .hole, .hole]) (fun j S => S.length = j ∧ OKs S) [] (by simp) ⟨rfl, fun k m => by cases m⟩ (by
    rintro j d S hd ⟨r1, r2⟩
    rw [List.getElem?_map] at hd
    cases e : X[j]? with
    | none => rw [e] at hd; cases hd
    | some k =>
      rw [e] at hd; cases hd
      have hm := List.mem_of_getElem? e
      have hj : j < X.length := (List.getElem?_eq_some_iff.mp e).1
      have zS : S.length < 16000000 := by omega
      have ho := hL k hm
      have hv := hn k hm
      obtain ⟨l1, b⟩ := k
      cases b with
      | inr s =>
        refine ⟨S ++ [(l1, .inr s)], ?_, by simp [r1], r2.app (.one ho)⟩
        simp [kd, dkD, isD, zS]
      | inl v =>
        have v0 : 0 ≤ v := hv v rfl
        obtain ⟨c, q⟩ := p_at' (vs := vs) (j := i + v) (by omega)
        obtain ⟨w, e1, e2⟩ := mod_ix (n := c / 3) (m := 5) (by omega)
        have e1 : (c : Int) / 3 % 5 = (w : Int) := by omega
        have : ∃ b : DK, ([.str [110, 117, 109], .str [100], .int 0, .int 7, .str [116, 101, 120, 116]] : List D)[w]? = some (dkD b) ∧ okB b = true := by
          have : w = 0 ∨ w = 1 ∨ w = 2 ∨ w = 3 ∨ w = 4 := by omega
          rcases this with rfl | rfl | rfl | rfl | rfl
          · exact ⟨.inr _, rfl, by decide⟩
          · exact ⟨.inr _, rfl, by decide⟩
          · exact ⟨.inl 0, rfl, rfl⟩
          · exact ⟨.inl 7, rfl, rfl⟩
          · exact ⟨.inr _, rfl, by decide⟩
        obtain ⟨x, hx, hox⟩ := this
        refine ⟨S ++ [(l1 + (c : Int) % 3, x)], ?_, by simp [r1], r2.app (.one hox)⟩
        have ed : dkD (.inl v) = .int v := rfl
        simp [kd, ed, isD, zS, q, e1, hx])
  rw [List.length_map] at r1
  have ls : 0 < S.length := by omega
  obtain ⟨w7, e7, f7⟩ := mod_ix (n := n10) (m := (S.length : Int)) (by omega)
  obtain ⟨w11, e11, f11⟩ := mod_ix (n := n11) (m := 4) (by omega)
  have h7 : w7 < S.length := by omega
  have g7 : S[w7]? = some S[w7] := List.getElem?_eq_getElem h7
  have o7 : okB S[w7].2 = true := r2 _ (List.getElem_mem h7)
  have nz : ¬ (S.length : Int) = 0 := by omega
  have nz' : ¬ S = [] := fun z => by rw [z] at ls; simp at ls
  have ix : ixN S.length (w7 : Int) = some w7 := by
    unfold ixN
    rw [if_pos (by omega), if_pos (by omega)]
    simp
  have setS : ∀ k : Kd, okB k.2 = true → OKs (S.set w7 k) := fun k ho x m => by
    rcases List.mem_or_eq_of_mem_set m with m | rfl
    · exact r2 x m
    · exact ho
  simp [q9]
  generalize hI : (if (n9 : Int) % 3 = 0 then (_ : PRS) else _) = F
  have hI : ∃ S' x7, F = .nx [.leaf (.lst (In vs)), .leaf (.int i), .leaf (.tup [.tup DL, kl]), .ls (S'.map kd), .hole, .hole, .hole, x7] ∧ S'.length = S.length ∧ OKs S' := by
    rw [← hI]
    clear hI
    by_cases c : (n9 : Int) % 3 = 0
    · rw [if_pos c]
      generalize S[w7] = k at g7 o7
      obtain ⟨l1, b⟩ := k
      have sm : ∀ k : Kd, (S.map kd).set w7 (kd k) = (S.set w7 k).map kd := fun k => by rw [List.map_set]
      have eb : D.str [98, 111, 111, 108] = dkD (.inr [98, 111, 111, 108]) := rfl
      have e3 : D.int 3 = dkD (.inl 3) := rfl
      have : w11 = 0 ∨ w11 = 1 ∨ w11 = 2 ∨ w11 = 3 := by omega
      rcases this with rfl | rfl | rfl | rfl
      · refine ⟨S.set w7 (l1 + 1, b), .leaf (.int w7), ?_, by simp, setS _ o7⟩
        rw [← sm]
        simp [kd, q10, q11, e7, e11, g7, ls, nz, nz', ix]
      · refine ⟨S.set w7 (if 1 < l1 then l1 - 1 else 0, b), .leaf (.int w7), ?_, by simp, setS _ o7⟩
        rw [← sm]
        simp [kd, q10, q11, e7, e11, g7, ls, nz, nz', ix]
      · refine ⟨S.set w7 (l1, .inr [98, 111, 111, 108]), .leaf (.int w7), ?_, by simp, setS _ (show okB (.inr [98, 111, 111, 108]) = true by decide)⟩
        rw [← sm]
        simp [kd, eb, q10, q11, e7, e11, g7, ls, nz, nz', ix]
      · refine ⟨S.set w7 (l1, .inl 3), .leaf (.int w7), ?_, by simp, setS _ rfl⟩
        rw [← sm]
        simp [kd, dkD, q10, q11, e7, e11, g7, ls, nz, nz', ix]
        try rfl
    · rw [if_neg c]
      exact ⟨S, _, rfl, rfl, r2⟩
  obtain ⟨S1, x7, rfl, s1, s2⟩ := hI
  simp [q12]
  generalize hI : (if (n12 : Int) % 11 = 10 then (_ : PRS) else _) = F
  have hI : ∃ S', F = .nx [.leaf (.lst (In vs)), .leaf (.int i), .leaf (.tup [.tup DL, kl]), .ls (S'.map kd), .hole, .hole, .hole, x7] ∧ S1.length ≤ S'.length ∧ S'.length ≤ S1.length + 1 ∧ OKs S' := by
    rw [← hI]
    clear hI
    by_cases c : (n12 : Int) % 11 = 10
    · rw [if_pos c]
      have z1 : S1.length < 16000000 := by omega
      refine ⟨(0, .inr [110, 117, 109]) :: S1, ?_, by simp, by simp, (OKs.one (by decide)).app s2⟩
      simp [kd, dkD, z1, uIns]
    · rw [if_neg c]
      exact ⟨S1, rfl, by omega, by omega, s2⟩
  obtain ⟨S2, rfl, t1, t2, t3⟩ := hI
  obtain ⟨A, ⟨a1, a2⟩, rfl⟩ := schD_of (L := S2) (by omega)
  have lA5 : A.length ≤ 21 := by simp at t2; omega
  refine ⟨A, a1, a2, ?_, lA5, t3⟩
  generalize (a1, a2) = a at *
  have c1 : cut (A.map kd ++ [kd a]) none (some (A.length : Int)) = A.map kd := by rw [cut_toN, List.take_left' (by simp)]
  have c2 : (A.map kd ++ [kd a])[A.length]? = some (kd a) := by rw [List.getElem?_append_right (by simp)]; simp
  simp [-cut_toN, c1, c2]
end
end LAW

set_option Elab.async false
set_option linter.all false
set_option maxRecDepth 100000
set_option maxHeartbeats 8000000
/-! k10: the law -/
namespace LAW
open P
theorem sch_oks : ∀ (ks : List Kd) (S : NS), OKs ks → OKs S.2 → OKs (ks.foldl stp S).2
  | [], S, _, h => h
  | k :: ks, S, h, g => sch_oks ks (stp S k) (fun x m => h x (List.mem_cons_of_mem _ m)) (g.app (.one (by
    have := h k List.mem_cons_self
    obtain ⟨l, b⟩ := k
    cases b with
    | inl v => rfl
    | inr s => exact this)))
theorem sch_nn : ∀ (ks : List Kd) (S : NS), Nn S.2 → Nn (ks.foldl stp S).2
  | [], S, h => h
  | k :: ks, S, g => sch_nn ks (stp S k) fun x m v e => by
    rcases List.mem_append.mp m with m | m
    · exact g x m v e
    · rw [List.mem_singleton.mp m] at e
      obtain ⟨l, b⟩ := k
      cases b with
      | inl w =>
        have e : (Sum.inl ((_ : Nat) : Int) : DK) = .inl v := e
        cases e
        omega
      | inr s => cases e
theorem kd_sm (k : Kd) : D.sm 2 (kd k) = true := by
  obtain ⟨l, b⟩ := k
  cases b <;> simp [kd, dkD, D.sm]
theorem due_sm {L0 : List Kd} {l : Kd} (h : L0.length ≤ 100) : D.sm 4 (.tup [.tup (L0.map kd), kd l]) = true := by
  have h1 := kd_sm l
  have h2 : D.sm 3 (kd l) = true := by
    obtain ⟨l, b⟩ := l
    cases b <;> simp [kd, dkD, D.sm]
  have h3 : ∀ x ∈ L0, D.sm 2 (kd x) = true := fun x _ => kd_sm x
  simp [D.sm, h2]
  exact ⟨by omega, fun a b m => h3 _ m⟩
abbrev yesB : PF := .ok (.leaf (.bl true)) []
theorem same_of {d : D} (h : D.sm 4 d = true) : p_law_same 4 [.leaf d, .leaf d] = yesB := by rw [same_eq]; exact lawSame_ok 4 _ h
theorem p_true (ns : List Int) (hn : ns.length ≤ 63) : ∃ ws, p_law [.leaf (.kl (ns.map .int))] = .ok (.leaf (.bl true)) ws := by
  obtain ⟨vs, q0, -⟩ := lawDraws_ok hn
  rw [← draws_eq] at q0
  generalize D.kl (ns.map .int) = sd at q0 ⊢
  clear hn
  clear ns
  unfold p_law
  simp only [f_fn, s_seq]
  simp [q0]
  generalize hF : forL _ _ _ _ _ = F
  have := for_all hF [.leaf sd, .leaf (.lst (In vs)), .hole, .hole, .hole, .hole, .hole, .hole, .hole, .hole] (by simp) (by
    intro d m
    obtain ⟨k, hk, rfl⟩ := rng_mem m
    have hk6 : k < 6 := hk
    obtain ⟨a0, q1⟩ := p_at' (vs := vs) (j := 10 + 60 * (k : Int)) (by omega)
    have sb := fun b : Bool => same_of (d := .bl b) (by simp [D.sm])
    have m60 : cMul 60 (k : Int) := .inl (by omega)
    simp [m60]
    generalize hG : lcR _ _ _ _ _ _ = G
    have := lc_ma hG [.leaf sd, .leaf (.lst (In vs)), .leaf (.int (k : Int)), .hole, .hole, .hole, .hole, .hole, .hole, .hole] (fun d => match d with | .int j => .int (((a0 : Int) + 29 * j) % 200) | _ => .non) (by simp) (by rw [rng_len]; omega) (by
      intro d m
      obtain ⟨j, hj, rfl⟩ := rng_mem m
      have m29 : cMul 29 (j : Int) := .inl (by omega)
      simp [q1, m60, m29])
    rw [this]
    clear this hG
    have er : List.map (fun d => match d with | D.int j => D.int (((a0 : Int) + 29 * j) % 200) | _ => D.non) (rng 0 4) = [.int (((a0 : Int) + 29 * (0 + (0 : Nat))) % 200), .int (((a0 : Int) + 29 * (0 + (1 : Nat))) % 200), .int (((a0 : Int) + 29 * (0 + (2 : Nat))) % 200), .int (((a0 : Int) + 29 * (0 + (3 : Nat))) % 200)] := rfl
    rw [er]
    generalize ((a0 : Int) + 29 * (0 + (0 : Nat))) % 200 = n0
    generalize ((a0 : Int) + 29 * (0 + (1 : Nat))) % 200 = n1
    generalize ((a0 : Int) + 29 * (0 + (2 : Nat))) % 200 = n2
    generalize ((a0 : Int) + 29 * (0 + (3 : Nat))) % 200 = n3
    clear er q1
    obtain ⟨A, a, p1, lA, oA⟩ := pair_ok (vs := vs) (n0 := n0) (n1 := n1) (n2 := n2) (n3 := n3) (i := 14 + 60 * (k : Int)) (by omega)
    obtain ⟨B, b, p2, lB, oB⟩ := pair_ok (vs := vs) (n0 := 0) (n1 := 1) (n2 := 2) (n3 := 3) (i := 28 + 60 * (k : Int)) (by omega)
    have c1 := lscheme_ok (as := A) (r := a) (by omega)
    have c2 := scheme_ok (as := A) (r := a) (by omega)
    have hS := sch_sch _ (A ++ [a]) rfl
    have l2 := sch2 (A ++ [a])
    have oL : OKs (sch (A ++ [a])).2 := sch_oks _ _ oA fun k m => by cases m
    have nL : Nn (sch (A ++ [a])).2 := sch_nn _ _ fun k m => by cases m
    have lAa : (A ++ [a]).length = A.length + 1 := by simp
    obtain ⟨L0, l, eL⟩ := schD_of (L := (sch (A ++ [a])).2) (by omega)
    rw [eL] at hS l2 oL nL c1 c2
    rw [schD_snoc] at c1 c2
    have c3 := scheme_ok (as := L0) (r := l) (by simp at l2; omega)
    rw [hS] at c3
    simp only at c3
    rw [schD_snoc] at c3
    have lL0 : L0.length ≤ 20 := by simp at l2; omega
    have s1 := same_of (due_sm (L0 := L0) (l := l) (by omega))
    obtain ⟨I, i1, i2, c4, lI, oI⟩ := instance_ok (vs := vs) (i := 42 + 60 * (k : Int)) (by omega) oL nL lL0
    -- the three pairs
    have t1 := inst_ok oI oL (by omega) (by omega)
    have t2 := linst_ok oI oL (by omega) (by omega)
    have t3 := inst_ok oB oL (by omega) (by omega)
    have t4 := linst_ok oB oL (by omega) (by omega)
    have t5 := inst_ok oL oL (by omega) (by omega)
    have t6 := linst_ok oL oL (by omega) (by omega)
    clear hS l2 oL nL eL lAa oI oB oA lI
    generalize kd (i1, i2) = ki at *
    generalize kd a = ka at *
    generalize kd b = kb at *
    generalize kd l = kl at *
    generalize A.map kd = DA at *
    generalize B.map kd = DB at *
    generalize L0.map kd = DL at *
    generalize I.map kd = DI at *
    generalize instB _ _ = z1 at t1 t2
    generalize instB _ _ = z2 at t3 t4
    generalize instB _ _ = z3 at t5 t6
    simp [m60, p1, p2, c1, c2, c3, s1, c4]
    generalize hG : forL _ _ _ _ _ = G
    have sb1 := sb z1
    have sb2 := sb z2
    have sb3 := sb z3
    have := for_all hG [.leaf sd, .leaf (.lst (In vs)), .leaf (.int (k : Int)), .leaf (.lst [.int n0, .int n1, .int n2, .int n3]), .leaf (.tup [.tup DL, kl]), .leaf (.lst [.tup DB, kb]), .hole, .leaf (.tup DA), .leaf ka, .hole] (by simp) (by
      intro d m
      simp only [List.mem_cons, List.not_mem_nil, or_false] at m
      rcases m with rfl | rfl | rfl
      · simp [t1, t2, sb1]
      · simp [t3, t4, sb2]
      · simp [t5, t6, sb3])
    rw [this]
    simp)
  rw [this]
  simp
end LAW

set_option Elab.async false
set_option linter.all false
set_option maxRecDepth 100000
set_option maxHeartbeats 4000000
namespace LAW
open P
theorem sim_law_mix (cc : Nat → Nat) : SimF cc [] m_law_mix p_law_mix := by
  unfold m_law_mix p_law_mix
  exact simF_fn (ss_seq (ss_asg (q := true) (i := 2) (sim_lf (sim_bin op_mod (Sim.rx (sim_cb op_int1 (sim_one (Sim.rx (sim_fz (Sim.qu (sim_add' op_add (Sim.rx (sim_fz (Sim.qu (sim_add' op_add (Sim.rx (sim_bin op_mul (Sim.rx (sim_cb op_int1 (sim_one (Sim.rx (sim_var (i := 0)))))) (Sim.rx (sim_c fun _ _ => .int _)) (Or.inl rfl))) (Sim.rx (sim_bin op_mul (Sim.rx (sim_var (i := 1))) (Sim.rx (sim_c fun _ _ => .int _)) (Or.inl rfl))) (Or.inr rfl))))) (Sim.rx (sim_c fun _ _ => .int _)) (Or.inr rfl)))))))) (Sim.rx (sim_c fun _ _ => .int _)) (Or.inl rfl))))
    (ss_seq (ss_asg (q := true) (i := 2) (sim_lf (sim_bin op_mod (Sim.rx (sim_cb op_int1 (sim_one (Sim.rx (sim_fz (Sim.qu (sim_add' op_add (Sim.rx (sim_fz (Sim.qu (sim_add' op_add (Sim.rx (sim_bin op_mul (Sim.rx (sim_var (i := 2))) (Sim.rx (sim_var (i := 2))) (Or.inl rfl))) (Sim.rx (sim_bin op_mul (Sim.rx (sim_var (i := 1))) (Sim.rx (sim_c fun _ _ => .int _)) (Or.inl rfl))) (Or.inr rfl))))) (Sim.rx (sim_c fun _ _ => .int _)) (Or.inr rfl)))))))) (Sim.rx (sim_c fun _ _ => .int _)) (Or.inl rfl))))
    (ss_ret (q := true) (sim_lf (sim_bin op_mod (Sim.rx (sim_bin op_div (Sim.rx (sim_var (i := 2))) (Sim.rx (sim_c fun _ _ => .int _)) (Or.inl rfl))) (Sim.rx (sim_c fun _ _ => .int _)) (Or.inl rfl))))))
theorem sim_law_draws (cc : Nat → Nat) : SimF cc [] m_law_draws p_law_draws := by
  unfold m_law_draws p_law_draws
  exact simF_fn (ss_seq (ss_asg (q := true) (i := 1) (sim_lst sim_dnil))
    (ss_seq (ss_for (q := true) (c := (.one 2)) (sim_r1 (sim_dcons (sim_cb op_min (sim_ra (sim_dcons (sim_c fun _ _ => .int _) (sim_dcons (sim_cb op_len (sim_one (Sim.rx (sim_var (i := 0))))) sim_dnil)))) sim_dnil)) (ss_seq (ss_asg (q := true) (i := 3) (sim_lf (sim_cb op_int1 (sim_one (Sim.rx (Sim.qu (sim_bin op_ix (Sim.rx (sim_var (i := 0))) (Sim.rx (sim_var (i := 2))) (Or.inr rfl))))))))
    (ss_if (q := true) (Sim.qu (sim_cmp cmp_lt (Sim.rx (sim_var (i := 3))) (Sim.rx (sim_bin op_pow (Sim.rx (sim_c fun _ _ => .int _)) (Sim.rx (sim_c fun _ _ => .int _)) (Or.inl rfl))) (Or.inr rfl))) (ss_drop (q := false) (sim_lf (sim_upd (q := true) upd_app (simP_var (i := 1)) (sim_ra (sim_dcons (sim_fz (sim_call (sim_law_mix cc) (sim_dcons (sim_var (i := 3)) (sim_dcons (sim_var (i := 2)) sim_dnil)))) sim_dnil)) (by first | exact Or.inl rfl | exact Or.inr rfl)))) (ss_for (q := true) (c := (.one 4)) (sim_r1 (sim_dcons (sim_c fun _ _ => .int _) sim_dnil)) (ss_if (q := true) (Sim.qu (sim_cmp cmp_gt (Sim.rx (sim_var (i := 3))) (Sim.rx (sim_c fun _ _ => .int _)) (Or.inr rfl))) (ss_seq (ss_drop (q := false) (sim_lf (sim_upd (q := true) upd_app (simP_var (i := 1)) (sim_ra (sim_dcons (sim_bin op_mod (Sim.rx (sim_cb op_int1 (sim_one (Sim.rx (sim_var (i := 3)))))) (Sim.rx (sim_c fun _ _ => .int _)) (Or.inl rfl)) sim_dnil)) (by first | exact Or.inl rfl | exact Or.inr rfl))))
    (ss_asg (q := true) (i := 3) (sim_lf (sim_bin op_div (Sim.rx (sim_var (i := 3))) (Sim.rx (sim_c fun _ _ => .int _)) (Or.inl rfl))))) ss_nx)))))
    (ss_ret (q := true) (sim_mv (i := 1)))))
theorem sim_law_at (cc : Nat → Nat) : SimF cc [] m_law_at p_law_at := by
  unfold m_law_at p_law_at
  exact simF_fn (ss_seq (ss_if (q := true) (Sim.qu (sim_cmp cmp_lt (Sim.rx (sim_var (i := 1))) (Sim.rx (sim_cb op_len (sim_one (Sim.rx (sim_var (i := 0)))))) (Or.inr rfl))) (ss_ret (q := true) (sim_lf (Sim.qu (sim_bin op_ix (Sim.rx (sim_var (i := 0))) (Sim.rx (sim_var (i := 1))) (Or.inr rfl))))) ss_nx)
    (ss_seq (ss_if (q := true) (Sim.qu (sim_cmp cmp_eq (Sim.rx (sim_cb op_len (sim_one (Sim.rx (sim_var (i := 0)))))) (Sim.rx (sim_c fun _ _ => .int _)) (Or.inr rfl))) (ss_ret (q := true) (sim_call (sim_law_mix cc) (sim_dcons (sim_var (i := 1)) (sim_dcons (sim_c fun _ _ => .int _) sim_dnil)))) ss_nx)
    (ss_ret (q := true) (sim_call (sim_law_mix cc) (sim_dcons (sim_fz (Sim.qu (sim_add' op_add (Sim.rx (Sim.qu (sim_bin op_ix (Sim.rx (sim_var (i := 0))) (Sim.rx (sim_bin op_mod (Sim.rx (sim_cb op_int1 (sim_one (Sim.rx (sim_var (i := 1)))))) (Sim.rx (sim_cb op_len (sim_one (Sim.rx (sim_var (i := 0)))))) (Or.inl rfl))) (Or.inr rfl)))) (Sim.rx (sim_bin op_mul (Sim.rx (sim_var (i := 1))) (Sim.rx (sim_c fun _ _ => .int _)) (Or.inl rfl))) (Or.inr rfl)))) (sim_dcons (sim_var (i := 1)) sim_dnil))))))
theorem sim_law_kind (cc : Nat → Nat) : SimF cc [] m_law_kind p_law_kind := by
  unfold m_law_kind p_law_kind
  exact simF_fn (ss_seq (ss_asg (q := true) (i := 3) (sim_lf (Sim.qu (sim_bin op_ix (Sim.rx (sim_fz (sim_lst (sim_dcons (Sim.qu (sim_bin op_ix (Sim.rx (sim_var (i := 2))) (Sim.rx (sim_c fun _ _ => .int _)) (Or.inr rfl))) (sim_dcons (Sim.qu (sim_bin op_ix (Sim.rx (sim_var (i := 2))) (Sim.rx (sim_c fun _ _ => .int _)) (Or.inr rfl))) (sim_dcons (Sim.qu (sim_bin op_ix (Sim.rx (sim_var (i := 2))) (Sim.rx (sim_c fun _ _ => .int _)) (Or.inr rfl))) (sim_dcons (Sim.qu (sim_bin op_ix (Sim.rx (sim_var (i := 2))) (Sim.rx (sim_c fun _ _ => .int _)) (Or.inr rfl))) (sim_dcons (sim_c fun _ _ => .str _) (sim_dcons (sim_c fun _ _ => .str _) (sim_dcons (sim_c fun _ _ => .str _) (sim_dcons (sim_c fun _ _ => .str _) (sim_dcons (Sim.qu (sim_bin op_ix (Sim.rx (sim_var (i := 2))) (Sim.rx (sim_c fun _ _ => .int _)) (Or.inr rfl))) sim_dnil)))))))))))) (Sim.rx (sim_bin op_mod (Sim.rx (sim_fz (sim_call (sim_law_at cc) (sim_dcons (sim_var (i := 0)) (sim_dcons (sim_fz (Sim.qu (sim_add' op_add (Sim.rx (sim_var (i := 1))) (Sim.rx (sim_c fun _ _ => .int _)) (Or.inr rfl)))) sim_dnil))))) (Sim.rx (sim_c fun _ _ => .int _)) (Or.inl rfl))) (Or.inr rfl)))))
    (ss_ret (q := true) (sim_lf (sim_tup (sim_dcons (sim_bin op_mod (Sim.rx (sim_fz (sim_call (sim_law_at cc) (sim_dcons (sim_var (i := 0)) (sim_dcons (sim_var (i := 1)) sim_dnil))))) (Sim.rx (sim_c fun _ _ => .int _)) (Or.inl rfl)) (sim_dcons (sim_var (i := 3)) sim_dnil))))))
theorem sim_law_pair (cc : Nat → Nat) : SimF cc [] m_law_pair p_law_pair := by
  unfold m_law_pair p_law_pair
  exact simF_fn (ss_seq (ss_asg (q := true) (i := 3) (sim_lf (sim_bin op_mod (Sim.rx (sim_fz (sim_call (sim_law_at cc) (sim_dcons (sim_var (i := 0)) (sim_dcons (sim_var (i := 1)) sim_dnil))))) (Sim.rx (sim_c fun _ _ => .int _)) (Or.inl rfl))))
    (ss_seq (ss_asg (q := true) (i := 4) (sim_lf (sim_fz (sim_lc (c := (.one 5)) (sim_r1 (sim_dcons (sim_fz (Sim.qu (sim_add' op_add (Sim.rx (sim_var (i := 3))) (Sim.rx (sim_c fun _ _ => .int _)) (Or.inr rfl)))) sim_dnil)) sim_yes (sim_fz (sim_call (sim_law_kind cc) (sim_dcons (sim_var (i := 0)) (sim_dcons (sim_fz (Sim.qu (sim_add' op_add (Sim.rx (sim_fz (Sim.qu (sim_add' op_add (Sim.rx (sim_var (i := 1))) (Sim.rx (sim_c fun _ _ => .int _)) (Or.inr rfl))))) (Sim.rx (sim_bin op_mul (Sim.rx (sim_c fun _ _ => .int _)) (Sim.rx (sim_var (i := 5))) (Or.inl rfl))) (Or.inr rfl)))) (sim_dcons (sim_var (i := 2)) sim_dnil))))) (by decide)))))
    (ss_ret (q := true) (sim_lst (sim_dcons (sim_cb op_tuple (sim_one (Sim.rx (sim_fz (Sim.qu (sim_sl (Sim.rx (sim_var (i := 4))) sim_ono (sim_oso (sim_var (i := 3))) (Or.inr rfl))))))) (sim_dcons (Sim.qu (sim_bin op_ix (Sim.rx (sim_var (i := 4))) (Sim.rx (sim_var (i := 3))) (Or.inr rfl))) sim_dnil))))))
theorem sim_law_scheme (cc : Nat → Nat) : SimF cc [] m_law_scheme p_law_scheme := by
  unfold m_law_scheme p_law_scheme
  exact simF_fn (ss_seq (ss_asg (q := true) (i := 2) (sim_lst sim_dnil))
    (ss_seq (ss_asg (q := true) (i := 3) (sim_lst sim_dnil))
    (ss_seq (ss_for (q := true) (c := (.tup [4, 5])) (sim_ie (sim_fz (Sim.qu (sim_add' op_add (Sim.rx (sim_fz (sim_ct op_list (sim_one (Sim.rx (sim_var (i := 0))))))) (Sim.rx (sim_fz (sim_lst (sim_dcons (sim_var (i := 1)) sim_dnil)))) (Or.inr rfl))))) (ss_seq (ss_if (q := true) (sim_tand (sim_is (T := .int) (Sim.rx (sim_var (i := 5)))) (Sim.qu (sim_cmp cmp_nin (Sim.rx (sim_var (i := 5))) (sim_vw (i := 2)) (Or.inr rfl)))) (ss_drop (q := false) (sim_lf (sim_upd (q := true) upd_app (simP_var (i := 2)) (sim_ra (sim_dcons (sim_var (i := 5)) sim_dnil)) (by first | exact Or.inl rfl | exact Or.inr rfl)))) ss_nx)
    (ss_seq (ss_if (q := true) (sim_is (T := .int) (Sim.rx (sim_var (i := 5)))) (ss_asg (q := true) (i := 5) (sim_lf (Sim.qu (sim_indexL (sim_vw (i := 2)) (sim_var (i := 5)) (Or.inr rfl))))) ss_nx)
    (ss_drop (q := false) (sim_lf (sim_upd (q := true) upd_app (simP_var (i := 3)) (sim_ra (sim_dcons (sim_tup (sim_dcons (sim_var (i := 4)) (sim_dcons (sim_var (i := 5)) sim_dnil))) sim_dnil)) (by first | exact Or.inl rfl | exact Or.inr rfl)))))))
    (ss_ret (q := true) (sim_lf (sim_tup (sim_dcons (sim_cb op_tuple (sim_one (Sim.rx (sim_fz (Sim.qu (sim_sl (sim_vw (i := 3)) sim_ono (sim_oso (sim_bin op_sub (Sim.rx (sim_cb op_len (sim_one (sim_vw (i := 3))))) (Sim.rx (sim_c fun _ _ => .int _)) (Or.inl rfl))) (Or.inr rfl))))))) (sim_dcons (Sim.qu (sim_bin op_ix (sim_vw (i := 3)) (Sim.rx (sim_bin op_sub (Sim.rx (sim_cb op_len (sim_one (sim_vw (i := 3))))) (Sim.rx (sim_c fun _ _ => .int _)) (Or.inl rfl))) (Or.inr rfl))) sim_dnil))))))))
theorem sim_law_instance (cc : Nat → Nat) : SimF cc [] m_law_instance p_law_instance := by
  unfold m_law_instance p_law_instance
  exact simF_fn (ss_seq (ss_asg (q := true) (i := 3) (sim_lst sim_dnil))
    (ss_seq (ss_for (q := true) (c := (.tup [4, 5])) (sim_ie (sim_fz (Sim.qu (sim_add' op_add (Sim.rx (sim_fz (sim_ct op_list (sim_one (Sim.rx (Sim.qu (sim_bin op_ix (Sim.rx (sim_var (i := 2))) (Sim.rx (sim_c fun _ _ => .int _)) (Or.inr rfl)))))))) (Sim.rx (sim_fz (sim_lst (sim_dcons (Sim.qu (sim_bin op_ix (Sim.rx (sim_var (i := 2))) (Sim.rx (sim_c fun _ _ => .int _)) (Or.inr rfl))) sim_dnil)))) (Or.inr rfl))))) (ss_if (q := true) (sim_is (T := .int) (Sim.rx (sim_var (i := 5)))) (ss_seq (ss_asg (q := true) (i := 6) (sim_lf (sim_fz (sim_call (sim_law_at cc) (sim_dcons (sim_var (i := 0)) (sim_dcons (sim_fz (Sim.qu (sim_add' op_add (Sim.rx (sim_var (i := 1))) (Sim.rx (sim_var (i := 5))) (Or.inr rfl)))) sim_dnil))))))
    (ss_drop (q := false) (sim_lf (sim_upd (q := true) upd_app (simP_var (i := 3)) (sim_ra (sim_dcons (sim_tup (sim_dcons (sim_fz (Sim.qu (sim_add' op_add (Sim.rx (sim_var (i := 4))) (Sim.rx (sim_bin op_mod (Sim.rx (sim_var (i := 6))) (Sim.rx (sim_c fun _ _ => .int _)) (Or.inl rfl))) (Or.inr rfl)))) (sim_dcons (Sim.qu (sim_bin op_ix (Sim.rx (sim_fz (sim_lst (sim_dcons (sim_c fun _ _ => .str _) (sim_dcons (sim_c fun _ _ => .str _) (sim_dcons (sim_c fun _ _ => .int _) (sim_dcons (sim_c fun _ _ => .int _) (sim_dcons (sim_c fun _ _ => .str _) sim_dnil)))))))) (Sim.rx (sim_bin op_mod (Sim.rx (sim_bin op_div (Sim.rx (sim_var (i := 6))) (Sim.rx (sim_c fun _ _ => .int _)) (Or.inl rfl))) (Sim.rx (sim_c fun _ _ => .int _)) (Or.inl rfl))) (Or.inr rfl))) sim_dnil))) sim_dnil)) (by first | exact Or.inl rfl | exact Or.inr rfl))))) (ss_drop (q := false) (sim_lf (sim_upd (q := true) upd_app (simP_var (i := 3)) (sim_ra (sim_dcons (sim_tup (sim_dcons (sim_var (i := 4)) (sim_dcons (sim_var (i := 5)) sim_dnil))) sim_dnil)) (by first | exact Or.inl rfl | exact Or.inr rfl))))))
    (ss_seq (ss_if (q := true) (Sim.qu (sim_cmp cmp_eq (Sim.rx (sim_bin op_mod (Sim.rx (sim_fz (sim_call (sim_law_at cc) (sim_dcons (sim_var (i := 0)) (sim_dcons (sim_fz (Sim.qu (sim_add' op_add (Sim.rx (sim_var (i := 1))) (Sim.rx (sim_c fun _ _ => .int _)) (Or.inr rfl)))) sim_dnil))))) (Sim.rx (sim_c fun _ _ => .int _)) (Or.inl rfl))) (Sim.rx (sim_c fun _ _ => .int _)) (Or.inr rfl))) (ss_seq (ss_asg (q := true) (i := 7) (sim_lf (sim_bin op_mod (Sim.rx (sim_fz (sim_call (sim_law_at cc) (sim_dcons (sim_var (i := 0)) (sim_dcons (sim_fz (Sim.qu (sim_add' op_add (Sim.rx (sim_var (i := 1))) (Sim.rx (sim_c fun _ _ => .int _)) (Or.inr rfl)))) sim_dnil))))) (Sim.rx (sim_cb op_len (sim_one (sim_vw (i := 3))))) (Or.inl rfl))))
    (ss_setI (s := true) (q := true) (simP_var (i := 3)) (sim_var (i := 7)) (Sim.qu (sim_bin op_ix (Sim.rx (sim_fz (sim_lst (sim_dcons (sim_tup (sim_dcons (sim_fz (Sim.qu (sim_add' op_add (Sim.rx (Sim.qu (sim_bin op_ix (Sim.rx (Sim.qu (sim_bin op_ix (sim_vw (i := 3)) (Sim.rx (sim_var (i := 7))) (Or.inr rfl)))) (Sim.rx (sim_c fun _ _ => .int _)) (Or.inr rfl)))) (Sim.rx (sim_c fun _ _ => .int _)) (Or.inr rfl)))) (sim_dcons (Sim.qu (sim_bin op_ix (Sim.rx (Sim.qu (sim_bin op_ix (sim_vw (i := 3)) (Sim.rx (sim_var (i := 7))) (Or.inr rfl)))) (Sim.rx (sim_c fun _ _ => .int _)) (Or.inr rfl))) sim_dnil))) (sim_dcons (sim_tup (sim_dcons (sim_cb op_max (sim_ra (sim_dcons (sim_c fun _ _ => .int _) (sim_dcons (sim_bin op_sub (Sim.rx (Sim.qu (sim_bin op_ix (Sim.rx (Sim.qu (sim_bin op_ix (sim_vw (i := 3)) (Sim.rx (sim_var (i := 7))) (Or.inr rfl)))) (Sim.rx (sim_c fun _ _ => .int _)) (Or.inr rfl)))) (Sim.rx (sim_c fun _ _ => .int _)) (Or.inl rfl)) sim_dnil)))) (sim_dcons (Sim.qu (sim_bin op_ix (Sim.rx (Sim.qu (sim_bin op_ix (sim_vw (i := 3)) (Sim.rx (sim_var (i := 7))) (Or.inr rfl)))) (Sim.rx (sim_c fun _ _ => .int _)) (Or.inr rfl))) sim_dnil))) (sim_dcons (sim_tup (sim_dcons (Sim.qu (sim_bin op_ix (Sim.rx (Sim.qu (sim_bin op_ix (sim_vw (i := 3)) (Sim.rx (sim_var (i := 7))) (Or.inr rfl)))) (Sim.rx (sim_c fun _ _ => .int _)) (Or.inr rfl))) (sim_dcons (sim_c fun _ _ => .str _) sim_dnil))) (sim_dcons (sim_tup (sim_dcons (Sim.qu (sim_bin op_ix (Sim.rx (Sim.qu (sim_bin op_ix (sim_vw (i := 3)) (Sim.rx (sim_var (i := 7))) (Or.inr rfl)))) (Sim.rx (sim_c fun _ _ => .int _)) (Or.inr rfl))) (sim_dcons (sim_c fun _ _ => .int _) sim_dnil))) sim_dnil))))))) (Sim.rx (sim_bin op_mod (Sim.rx (sim_fz (sim_call (sim_law_at cc) (sim_dcons (sim_var (i := 0)) (sim_dcons (sim_fz (Sim.qu (sim_add' op_add (Sim.rx (sim_var (i := 1))) (Sim.rx (sim_c fun _ _ => .int _)) (Or.inr rfl)))) sim_dnil))))) (Sim.rx (sim_c fun _ _ => .int _)) (Or.inl rfl))) (Or.inr rfl))) (by first | exact Or.inl rfl | exact Or.inr rfl))) ss_nx)
    (ss_seq (ss_if (q := true) (Sim.qu (sim_cmp cmp_eq (Sim.rx (sim_bin op_mod (Sim.rx (sim_fz (sim_call (sim_law_at cc) (sim_dcons (sim_var (i := 0)) (sim_dcons (sim_fz (Sim.qu (sim_add' op_add (Sim.rx (sim_var (i := 1))) (Sim.rx (sim_c fun _ _ => .int _)) (Or.inr rfl)))) sim_dnil))))) (Sim.rx (sim_c fun _ _ => .int _)) (Or.inl rfl))) (Sim.rx (sim_c fun _ _ => .int _)) (Or.inr rfl))) (ss_drop (q := false) (sim_lf (sim_upd (q := true) upd_ins (simP_var (i := 3)) (sim_ra (sim_dcons (sim_c fun _ _ => .int _) (sim_dcons (sim_tup (sim_dcons (sim_c fun _ _ => .int _) (sim_dcons (sim_c fun _ _ => .str _) sim_dnil))) sim_dnil))) (by first | exact Or.inl rfl | exact Or.inr rfl)))) ss_nx)
    (ss_ret (q := true) (sim_lf (sim_tup (sim_dcons (sim_cb op_tuple (sim_one (Sim.rx (sim_fz (Sim.qu (sim_sl (sim_vw (i := 3)) sim_ono (sim_oso (sim_bin op_sub (Sim.rx (sim_cb op_len (sim_one (sim_vw (i := 3))))) (Sim.rx (sim_c fun _ _ => .int _)) (Or.inl rfl))) (Or.inr rfl))))))) (sim_dcons (Sim.qu (sim_bin op_ix (sim_vw (i := 3)) (Sim.rx (sim_bin op_sub (Sim.rx (sim_cb op_len (sim_one (sim_vw (i := 3))))) (Sim.rx (sim_c fun _ _ => .int _)) (Or.inl rfl))) (Or.inr rfl))) sim_dnil)))))))))
theorem sim_law_is_integer (cc : Nat → Nat) : SimF cc [] m_law_is_integer p_law_is_integer := by
  unfold m_law_is_integer p_law_is_integer
  exact simF_fn (ss_ret (q := true) (sim_lf (sim_and (sim_b (sim_is (T := .int) (Sim.rx (sim_var (i := 0))))) (sim_not (sim_b (sim_is (T := .bool) (Sim.rx (sim_var (i := 0)))))))))
theorem simg_law_same (cc : Nat → Nat) : ∀ n : Nat, SimF cc [] (m_law_same n) (p_law_same n)
  | 0 => (by unfold m_law_same p_law_same; exact simF_bad)
  | n + 1 => by
    obtain ih_law_same := simg_law_same cc n
    exact (by
      unfold m_law_same p_law_same
      exact simF_fn (ss_seq (ss_if (q := true) (sim_is2 (T := .list) (S := .tuple) (Sim.rx (sim_var (i := 1)))) (ss_seq (ss_if (q := true) (sim_tor (Sim.qu (sim_cmp cmp_ne (Sim.rx (sim_b (sim_is (T := .list) (Sim.rx (sim_var (i := 1)))))) (Sim.rx (sim_b (sim_is (T := .list) (Sim.rx (sim_var (i := 0)))))) (Or.inr rfl))) (Sim.qu (sim_cmp cmp_ne (Sim.rx (sim_b (sim_is (T := .tuple) (Sim.rx (sim_var (i := 1)))))) (Sim.rx (sim_b (sim_is (T := .tuple) (Sim.rx (sim_var (i := 0)))))) (Or.inr rfl)))) (ss_ret (q := true) (sim_lf (sim_c fun _ _ => .bl _))) ss_nx)
    (ss_seq (ss_if (q := true) (Sim.qu (sim_cmp cmp_ne (Sim.rx (sim_cb op_len (sim_one (Sim.rx (sim_var (i := 0)))))) (Sim.rx (sim_cb op_len (sim_one (Sim.rx (sim_var (i := 1)))))) (Or.inr rfl))) (ss_ret (q := true) (sim_lf (sim_c fun _ _ => .bl _))) ss_nx)
    (ss_seq (ss_for (q := true) (c := (.one 2)) (sim_r1 (sim_dcons (sim_cb op_len (sim_one (Sim.rx (sim_var (i := 1))))) sim_dnil)) (ss_if (q := true) (sim_tnot (sim_tru (Sim.rx (sim_fz (sim_call ih_law_same (sim_dcons (Sim.qu (sim_bin op_ix (Sim.rx (sim_var (i := 0))) (Sim.rx (sim_var (i := 2))) (Or.inr rfl))) (sim_dcons (Sim.qu (sim_bin op_ix (Sim.rx (sim_var (i := 1))) (Sim.rx (sim_var (i := 2))) (Or.inr rfl))) sim_dnil))))))) (ss_ret (q := true) (sim_lf (sim_c fun _ _ => .bl _))) ss_nx))
    (ss_ret (q := true) (sim_lf (sim_c fun _ _ => .bl _)))))) ss_nx)
    (ss_seq (ss_if (q := true) (Sim.qu (sim_cmp cmp_is (Sim.rx (sim_var (i := 1))) (Sim.rx (sim_c fun _ _ => .non)) (Or.inr rfl))) (ss_ret (q := true) (sim_lf (sim_b (Sim.qu (sim_cmp cmp_is (Sim.rx (sim_var (i := 0))) (Sim.rx (sim_c fun _ _ => .non)) (Or.inr rfl)))))) ss_nx)
    (ss_seq (ss_if (q := true) (sim_is (T := .bool) (Sim.rx (sim_var (i := 1)))) (ss_ret (q := true) (sim_lf (sim_and (sim_b (sim_is (T := .bool) (Sim.rx (sim_var (i := 0))))) (sim_b (Sim.qu (sim_cmp cmp_eq (Sim.rx (sim_var (i := 0))) (Sim.rx (sim_var (i := 1))) (Or.inr rfl))))))) ss_nx)
    (ss_seq (ss_if (q := true) (sim_is (T := .int) (Sim.rx (sim_var (i := 1)))) (ss_ret (q := true) (sim_lf (sim_and (sim_fz (sim_call (sim_law_is_integer cc) (sim_dcons (sim_var (i := 0)) sim_dnil))) (sim_b (Sim.qu (sim_cmp cmp_eq (Sim.rx (sim_var (i := 0))) (Sim.rx (sim_var (i := 1))) (Or.inr rfl))))))) ss_nx)
    (ss_ret (q := true) (sim_lf (sim_and (sim_b (sim_is (T := .str) (Sim.rx (sim_var (i := 0))))) (sim_b (Sim.qu (sim_cmp cmp_eq (Sim.rx (sim_var (i := 0))) (Sim.rx (sim_var (i := 1))) (Or.inr rfl))))))))))))
theorem sim_law_same (cc : Nat → Nat) (n : Nat) : SimF cc [] (m_law_same n) (p_law_same n) := (simg_law_same cc n)
theorem sim_is_variable (cc : Nat → Nat) : SimF cc [] m_is_variable p_is_variable := by
  unfold m_is_variable p_is_variable
  exact simF_fn (ss_ret (q := true) (sim_lf (sim_b (sim_is (T := .int) (Sim.rx (sim_var (i := 0)))))))
theorem sim_scheme (cc : Nat → Nat) : SimF cc [] m_scheme p_scheme := by
  unfold m_scheme p_scheme
  exact simF_fn (ss_seq (ss_asg (q := true) (i := 2) sim_dnew)
    (ss_seq (ss_asg (q := true) (i := 3) (sim_lst sim_dnil))
    (ss_seq (ss_for (q := true) (c := (.tup [4, 5])) (sim_ie (sim_fz (sim_lst (sim_dstar (Sim.rx (sim_var (i := 0))) (sim_dcons (sim_var (i := 1)) sim_dnil))))) (ss_seq (ss_if (q := true) (sim_tru (Sim.rx (sim_fz (sim_call (sim_is_variable cc) (sim_dcons (sim_var (i := 5)) sim_dnil))))) (ss_seq (ss_drop (q := false) (sim_lf (sim_setdef (q := true) (simP_var (i := 2)) (sim_dcons (sim_var (i := 5)) (sim_dcons (sim_cb op_dlen (sim_one (sim_vw (i := 2)))) sim_dnil)) (by first | exact Or.inl rfl | exact Or.inr rfl))))
    (ss_asg (q := true) (i := 5) (sim_lf (Sim.qu (sim_bin op_dget (sim_vw (i := 2)) (Sim.rx (sim_var (i := 5))) (Or.inr rfl)))))) ss_nx)
    (ss_drop (q := false) (sim_lf (sim_upd (q := true) upd_app (simP_var (i := 3)) (sim_ra (sim_dcons (sim_tup (sim_dcons (sim_var (i := 4)) (sim_dcons (sim_var (i := 5)) sim_dnil))) sim_dnil)) (by first | exact Or.inl rfl | exact Or.inr rfl))))))
    (ss_ret (q := true) (sim_lf (sim_tup (sim_dcons (sim_cb op_tuple (sim_one (Sim.rx (sim_fz (Sim.qu (sim_sl (sim_vw (i := 3)) sim_ono (sim_oso (sim_neg (sim_c fun _ _ => .int _))) (Or.inr rfl))))))) (sim_dcons (Sim.qu (sim_bin op_ix (sim_vw (i := 3)) (Sim.rx (sim_neg (sim_c fun _ _ => .int _))) (Or.inr rfl))) sim_dnil))))))))
theorem sim_is_instance (cc : Nat → Nat) : SimF cc [] m_is_instance p_is_instance := by
  unfold m_is_instance p_is_instance
  exact simF_fn (ss_seq (ss_asg (q := true) (i := 2) (sim_lf (sim_fz (sim_lst (sim_dstar (Sim.rx (Sim.qu (sim_bin op_ix (Sim.rx (sim_var (i := 0))) (Sim.rx (sim_c fun _ _ => .int _)) (Or.inr rfl)))) (sim_dcons (Sim.qu (sim_bin op_ix (Sim.rx (sim_var (i := 0))) (Sim.rx (sim_c fun _ _ => .int _)) (Or.inr rfl))) sim_dnil))))))
    (ss_seq (ss_asg (q := true) (i := 3) (sim_lf (sim_fz (sim_lst (sim_dstar (Sim.rx (Sim.qu (sim_bin op_ix (Sim.rx (sim_var (i := 1))) (Sim.rx (sim_c fun _ _ => .int _)) (Or.inr rfl)))) (sim_dcons (Sim.qu (sim_bin op_ix (Sim.rx (sim_var (i := 1))) (Sim.rx (sim_c fun _ _ => .int _)) (Or.inr rfl))) sim_dnil))))))
    (ss_seq (ss_if (q := true) (Sim.qu (sim_cmp cmp_ne (Sim.rx (sim_cb op_len (sim_one (Sim.rx (sim_var (i := 2)))))) (Sim.rx (sim_cb op_len (sim_one (Sim.rx (sim_var (i := 3)))))) (Or.inr rfl))) (ss_ret (q := true) (sim_lf (sim_c fun _ _ => .bl _))) ss_nx)
    (ss_seq (ss_asg (q := true) (i := 4) sim_dnew)
    (ss_seq (ss_for (q := true) (c := (.tup [5, 6])) (sim_iz (sim_dcons (sim_var (i := 2)) (sim_dcons (sim_var (i := 3)) sim_dnil))) (ss_if (q := true) (sim_tru (Sim.rx (sim_fz (sim_call (sim_is_variable cc) (sim_dcons (Sim.qu (sim_bin op_ix (Sim.rx (sim_var (i := 6))) (Sim.rx (sim_c fun _ _ => .int _)) (Or.inr rfl))) sim_dnil))))) (ss_seq (ss_asg (q := true) (i := 7) (sim_lf (sim_tup (sim_dcons (sim_bin op_sub (Sim.rx (Sim.qu (sim_bin op_ix (Sim.rx (sim_var (i := 5))) (Sim.rx (sim_c fun _ _ => .int _)) (Or.inr rfl)))) (Sim.rx (Sim.qu (sim_bin op_ix (Sim.rx (sim_var (i := 6))) (Sim.rx (sim_c fun _ _ => .int _)) (Or.inr rfl)))) (Or.inl rfl)) (sim_dcons (Sim.qu (sim_bin op_ix (Sim.rx (sim_var (i := 5))) (Sim.rx (sim_c fun _ _ => .int _)) (Or.inr rfl))) sim_dnil)))))
    (ss_if (q := false) (sim_tor (Sim.qu (sim_cmp cmp_lt (Sim.rx (Sim.qu (sim_bin op_ix (Sim.rx (sim_var (i := 7))) (Sim.rx (sim_c fun _ _ => .int _)) (Or.inr rfl)))) (Sim.rx (sim_c fun _ _ => .int _)) (Or.inr rfl))) (sim_cmp cmp_ne (Sim.rx (sim_setdef (q := true) (simP_var (i := 4)) (sim_dcons (Sim.qu (sim_bin op_ix (Sim.rx (sim_var (i := 6))) (Sim.rx (sim_c fun _ _ => .int _)) (Or.inr rfl))) (sim_dcons (sim_var (i := 7)) sim_dnil)) (by first | exact Or.inl rfl | exact Or.inr rfl))) (Sim.rx (sim_var (i := 7))) (Or.inl rfl))) (ss_ret (q := true) (sim_lf (sim_c fun _ _ => .bl _))) ss_nx)) (ss_if (q := true) (Sim.qu (sim_cmp cmp_ne (Sim.rx (sim_var (i := 5))) (Sim.rx (sim_var (i := 6))) (Or.inr rfl))) (ss_ret (q := true) (sim_lf (sim_c fun _ _ => .bl _))) ss_nx)))
    (ss_ret (q := true) (sim_lf (sim_c fun _ _ => .bl _))))))))
theorem sim_law_is_instance (cc : Nat → Nat) : SimF cc [] m_law_is_instance p_law_is_instance := by
  unfold m_law_is_instance p_law_is_instance
  exact simF_fn (ss_seq (ss_asg (q := true) (i := 2) (sim_lf (sim_fz (Sim.qu (sim_add' op_add (Sim.rx (sim_fz (sim_ct op_list (sim_one (Sim.rx (Sim.qu (sim_bin op_ix (Sim.rx (sim_var (i := 0))) (Sim.rx (sim_c fun _ _ => .int _)) (Or.inr rfl)))))))) (Sim.rx (sim_fz (sim_lst (sim_dcons (Sim.qu (sim_bin op_ix (Sim.rx (sim_var (i := 0))) (Sim.rx (sim_c fun _ _ => .int _)) (Or.inr rfl))) sim_dnil)))) (Or.inr rfl))))))
    (ss_seq (ss_asg (q := true) (i := 3) (sim_lf (sim_fz (Sim.qu (sim_add' op_add (Sim.rx (sim_fz (sim_ct op_list (sim_one (Sim.rx (Sim.qu (sim_bin op_ix (Sim.rx (sim_var (i := 1))) (Sim.rx (sim_c fun _ _ => .int _)) (Or.inr rfl)))))))) (Sim.rx (sim_fz (sim_lst (sim_dcons (Sim.qu (sim_bin op_ix (Sim.rx (sim_var (i := 1))) (Sim.rx (sim_c fun _ _ => .int _)) (Or.inr rfl))) sim_dnil)))) (Or.inr rfl))))))
    (ss_seq (ss_if (q := true) (Sim.qu (sim_cmp cmp_ne (Sim.rx (sim_cb op_len (sim_one (Sim.rx (sim_var (i := 2)))))) (Sim.rx (sim_cb op_len (sim_one (Sim.rx (sim_var (i := 3)))))) (Or.inr rfl))) (ss_ret (q := true) (sim_lf (sim_c fun _ _ => .bl _))) ss_nx)
    (ss_seq (ss_for (q := true) (c := (.one 4)) (sim_r1 (sim_dcons (sim_cb op_len (sim_one (Sim.rx (sim_var (i := 2))))) sim_dnil)) (ss_if (q := true) (sim_tnot (sim_is (T := .int) (Sim.rx (Sim.qu (sim_bin op_ix (Sim.rx (Sim.qu (sim_bin op_ix (Sim.rx (sim_var (i := 3))) (Sim.rx (sim_var (i := 4))) (Or.inr rfl)))) (Sim.rx (sim_c fun _ _ => .int _)) (Or.inr rfl)))))) (ss_if (q := true) (Sim.qu (sim_cmp cmp_ne (Sim.rx (Sim.qu (sim_bin op_ix (Sim.rx (sim_var (i := 2))) (Sim.rx (sim_var (i := 4))) (Or.inr rfl)))) (Sim.rx (Sim.qu (sim_bin op_ix (Sim.rx (sim_var (i := 3))) (Sim.rx (sim_var (i := 4))) (Or.inr rfl)))) (Or.inr rfl))) (ss_ret (q := true) (sim_lf (sim_c fun _ _ => .bl _))) ss_nx) (ss_if (q := true) (Sim.qu (sim_cmp cmp_lt (Sim.rx (Sim.qu (sim_bin op_ix (Sim.rx (Sim.qu (sim_bin op_ix (Sim.rx (sim_var (i := 2))) (Sim.rx (sim_var (i := 4))) (Or.inr rfl)))) (Sim.rx (sim_c fun _ _ => .int _)) (Or.inr rfl)))) (Sim.rx (Sim.qu (sim_bin op_ix (Sim.rx (Sim.qu (sim_bin op_ix (Sim.rx (sim_var (i := 3))) (Sim.rx (sim_var (i := 4))) (Or.inr rfl)))) (Sim.rx (sim_c fun _ _ => .int _)) (Or.inr rfl)))) (Or.inr rfl))) (ss_ret (q := true) (sim_lf (sim_c fun _ _ => .bl _))) (ss_for (q := true) (c := (.one 5)) (sim_r1 (sim_dcons (sim_var (i := 4)) sim_dnil)) (ss_if (q := true) (Sim.qu (sim_cmp cmp_eq (Sim.rx (Sim.qu (sim_bin op_ix (Sim.rx (Sim.qu (sim_bin op_ix (Sim.rx (sim_var (i := 3))) (Sim.rx (sim_var (i := 5))) (Or.inr rfl)))) (Sim.rx (sim_c fun _ _ => .int _)) (Or.inr rfl)))) (Sim.rx (Sim.qu (sim_bin op_ix (Sim.rx (Sim.qu (sim_bin op_ix (Sim.rx (sim_var (i := 3))) (Sim.rx (sim_var (i := 4))) (Or.inr rfl)))) (Sim.rx (sim_c fun _ _ => .int _)) (Or.inr rfl)))) (Or.inr rfl))) (ss_if (q := true) (sim_tor (Sim.qu (sim_cmp cmp_ne (Sim.rx (sim_bin op_sub (Sim.rx (Sim.qu (sim_bin op_ix (Sim.rx (Sim.qu (sim_bin op_ix (Sim.rx (sim_var (i := 2))) (Sim.rx (sim_var (i := 5))) (Or.inr rfl)))) (Sim.rx (sim_c fun _ _ => .int _)) (Or.inr rfl)))) (Sim.rx (Sim.qu (sim_bin op_ix (Sim.rx (Sim.qu (sim_bin op_ix (Sim.rx (sim_var (i := 3))) (Sim.rx (sim_var (i := 5))) (Or.inr rfl)))) (Sim.rx (sim_c fun _ _ => .int _)) (Or.inr rfl)))) (Or.inl rfl))) (Sim.rx (sim_bin op_sub (Sim.rx (Sim.qu (sim_bin op_ix (Sim.rx (Sim.qu (sim_bin op_ix (Sim.rx (sim_var (i := 2))) (Sim.rx (sim_var (i := 4))) (Or.inr rfl)))) (Sim.rx (sim_c fun _ _ => .int _)) (Or.inr rfl)))) (Sim.rx (Sim.qu (sim_bin op_ix (Sim.rx (Sim.qu (sim_bin op_ix (Sim.rx (sim_var (i := 3))) (Sim.rx (sim_var (i := 4))) (Or.inr rfl)))) (Sim.rx (sim_c fun _ _ => .int _)) (Or.inr rfl)))) (Or.inl rfl))) (Or.inr rfl))) (Sim.qu (sim_cmp cmp_ne (Sim.rx (Sim.qu (sim_bin op_ix (Sim.rx (Sim.qu (sim_bin op_ix (Sim.rx (sim_var (i := 2))) (Sim.rx (sim_var (i := 5))) (Or.inr rfl)))) (Sim.rx (sim_c fun _ _ => .int _)) (Or.inr rfl)))) (Sim.rx (Sim.qu (sim_bin op_ix (Sim.rx (Sim.qu (sim_bin op_ix (Sim.rx (sim_var (i := 2))) (Sim.rx (sim_var (i := 4))) (Or.inr rfl)))) (Sim.rx (sim_c fun _ _ => .int _)) (Or.inr rfl)))) (Or.inr rfl)))) (ss_ret (q := true) (sim_lf (sim_c fun _ _ => .bl _))) ss_nx) ss_nx)))))
    (ss_ret (q := true) (sim_lf (sim_c fun _ _ => .bl _)))))))
theorem sim_law (cc : Nat → Nat) : SimF cc [] m_law p_law := by
  unfold m_law p_law
  exact simF_fn (ss_seq (ss_asg (q := true) (i := 1) (sim_lf (sim_fz (sim_call (sim_law_draws cc) (sim_dcons (sim_var (i := 0)) sim_dnil)))))
    (ss_seq (ss_for (q := true) (c := (.one 2)) (sim_r1 (sim_dcons (sim_c fun _ _ => .int _) sim_dnil)) (ss_seq (ss_asg (q := true) (i := 3) (sim_lf (sim_fz (sim_lc (c := (.one 9)) (sim_r1 (sim_dcons (sim_c fun _ _ => .int _) sim_dnil)) sim_yes (sim_bin op_mod (Sim.rx (sim_fz (Sim.qu (sim_add' op_add (Sim.rx (sim_fz (sim_call (sim_law_at cc) (sim_dcons (sim_var (i := 1)) (sim_dcons (sim_fz (Sim.qu (sim_add' op_add (Sim.rx (sim_c fun _ _ => .int _)) (Sim.rx (sim_bin op_mul (Sim.rx (sim_c fun _ _ => .int _)) (Sim.rx (sim_var (i := 2))) (Or.inl rfl))) (Or.inr rfl)))) sim_dnil))))) (Sim.rx (sim_bin op_mul (Sim.rx (sim_c fun _ _ => .int _)) (Sim.rx (sim_var (i := 9))) (Or.inl rfl))) (Or.inr rfl))))) (Sim.rx (sim_c fun _ _ => .int _)) (Or.inl rfl)) (by decide)))))
    (ss_seq (ss_unp (q := true) (c := (.lst [7, 8])) (sim_fz (sim_call (sim_law_pair cc) (sim_dcons (sim_var (i := 1)) (sim_dcons (sim_fz (Sim.qu (sim_add' op_add (Sim.rx (sim_c fun _ _ => .int _)) (Sim.rx (sim_bin op_mul (Sim.rx (sim_c fun _ _ => .int _)) (Sim.rx (sim_var (i := 2))) (Or.inl rfl))) (Or.inr rfl)))) (sim_dcons (sim_var (i := 3)) sim_dnil))))))
    (ss_seq (ss_asg (q := true) (i := 4) (sim_lf (sim_fz (sim_call (sim_law_scheme cc) (sim_dcons (sim_var (i := 7)) (sim_dcons (sim_var (i := 8)) sim_dnil))))))
    (ss_seq (ss_if (q := true) (sim_tor (sim_tnot (sim_tru (Sim.rx (sim_fz (sim_call (sim_law_same cc 4) (sim_dcons (sim_fz (sim_call (sim_scheme cc) (sim_dcons (sim_cb op_tuple (sim_one (Sim.rx (sim_var (i := 7))))) (sim_dcons (sim_var (i := 8)) sim_dnil)))) (sim_dcons (sim_var (i := 4)) sim_dnil))))))) (sim_tnot (sim_tru (Sim.rx (sim_fz (sim_call (sim_law_same cc 4) (sim_dcons (sim_fz (sim_call (sim_scheme cc) (sim_dcons (Sim.qu (sim_bin op_ix (Sim.rx (sim_var (i := 4))) (Sim.rx (sim_c fun _ _ => .int _)) (Or.inr rfl))) (sim_dcons (Sim.qu (sim_bin op_ix (Sim.rx (sim_var (i := 4))) (Sim.rx (sim_c fun _ _ => .int _)) (Or.inr rfl))) sim_dnil)))) (sim_dcons (sim_var (i := 4)) sim_dnil)))))))) (ss_ret (q := true) (sim_lf (sim_c fun _ _ => .bl _))) ss_nx)
    (ss_seq (ss_asg (q := true) (i := 5) (sim_lf (sim_fz (sim_call (sim_law_pair cc) (sim_dcons (sim_var (i := 1)) (sim_dcons (sim_fz (Sim.qu (sim_add' op_add (Sim.rx (sim_c fun _ _ => .int _)) (Sim.rx (sim_bin op_mul (Sim.rx (sim_c fun _ _ => .int _)) (Sim.rx (sim_var (i := 2))) (Or.inl rfl))) (Or.inr rfl)))) (sim_dcons (sim_fz (sim_lst (sim_dcons (sim_c fun _ _ => .int _) (sim_dcons (sim_c fun _ _ => .int _) (sim_dcons (sim_c fun _ _ => .int _) (sim_dcons (sim_c fun _ _ => .int _) sim_dnil)))))) sim_dnil)))))))
    (ss_for (q := true) (c := (.one 6)) (sim_ie (sim_fz (sim_lst (sim_dcons (sim_fz (sim_call (sim_law_instance cc) (sim_dcons (sim_var (i := 1)) (sim_dcons (sim_fz (Sim.qu (sim_add' op_add (Sim.rx (sim_c fun _ _ => .int _)) (Sim.rx (sim_bin op_mul (Sim.rx (sim_c fun _ _ => .int _)) (Sim.rx (sim_var (i := 2))) (Or.inl rfl))) (Or.inr rfl)))) (sim_dcons (sim_var (i := 4)) sim_dnil))))) (sim_dcons (sim_tup (sim_dcons (sim_cb op_tuple (sim_one (Sim.rx (Sim.qu (sim_bin op_ix (Sim.rx (sim_var (i := 5))) (Sim.rx (sim_c fun _ _ => .int _)) (Or.inr rfl)))))) (sim_dcons (Sim.qu (sim_bin op_ix (Sim.rx (sim_var (i := 5))) (Sim.rx (sim_c fun _ _ => .int _)) (Or.inr rfl))) sim_dnil))) (sim_dcons (sim_var (i := 4)) sim_dnil)))))) (ss_if (q := true) (sim_tnot (sim_tru (Sim.rx (sim_fz (sim_call (sim_law_same cc 4) (sim_dcons (sim_fz (sim_call (sim_is_instance cc) (sim_dcons (sim_var (i := 6)) (sim_dcons (sim_var (i := 4)) sim_dnil)))) (sim_dcons (sim_fz (sim_call (sim_law_is_instance cc) (sim_dcons (sim_var (i := 6)) (sim_dcons (sim_var (i := 4)) sim_dnil)))) sim_dnil))))))) (ss_ret (q := true) (sim_lf (sim_c fun _ _ => .bl _))) ss_nx))))))))
    (ss_ret (q := true) (sim_lf (sim_c fun _ _ => .bl _)))))
theorem law_true : Q.semTrue m_law := by
  have h := sim_law (fun _ => 0)
  have t := p_true
  generalize m_law = m at h ⊢
  generalize p_law = p at h t
  exact P.sem_true h t
end LAW

set_option Elab.async false
set_option linter.all false
set_option maxRecDepth 100000
set_option maxHeartbeats 4000000
namespace LAW
open PySem PySem.Spec PyProof.Rows L2 TL Q
def topS (i : Nat) : Stmt := PySem.Challenge.pw_quillrun_k10_schemes_and_instances.main.body.getD i (.Pass ⟨0, 0, 0, 0⟩)
abbrev s_law_mix : Stmt := topS 5
abbrev n_law_mix : List Str := ["_law_cell", "_law_k", "_law_value"]
theorem sc_law_mix : FnScope n_law_mix ["_law_cell", "_law_k"] (defScope s_law_mix) := ⟨rfl, rfl, rfl, by decide +kernel, rfl, by decide +kernel, by decide +kernel⟩
abbrev s_law_draws : Stmt := topS 6
abbrev n_law_draws : List Str := ["_law_script", "_law_draws_here", "_law_k", "_law_cell", "_law_place"]
theorem sc_law_draws : FnScope n_law_draws ["_law_script"] (defScope s_law_draws) := ⟨rfl, rfl, rfl, by decide +kernel, rfl, by decide +kernel, by decide +kernel⟩
abbrev s_law_at : Stmt := topS 7
abbrev n_law_at : List Str := ["_law_draws_here", "_law_index"]
theorem sc_law_at : FnScope n_law_at ["_law_draws_here", "_law_index"] (defScope s_law_at) := ⟨rfl, rfl, rfl, by decide +kernel, rfl, by decide +kernel, by decide +kernel⟩
abbrev s_law_kind : Stmt := topS 10
abbrev n_law_kind : List Str := ["_law_draws_here", "_law_index", "_law_numbers", "_law_base"]
theorem sc_law_kind : FnScope n_law_kind ["_law_draws_here", "_law_index", "_law_numbers"] (defScope s_law_kind) := ⟨rfl, rfl, rfl, by decide +kernel, rfl, by decide +kernel, by decide +kernel⟩
abbrev s_law_pair : Stmt := topS 11
abbrev n_law_pair : List Str := ["_law_draws_here", "_law_index", "_law_numbers", "_law_count", "_law_kinds", "_law_k"]
theorem sc_law_pair : FnScope n_law_pair ["_law_draws_here", "_law_index", "_law_numbers"] (defScope s_law_pair) := ⟨rfl, rfl, rfl, by decide +kernel, rfl, by decide +kernel, by decide +kernel⟩
abbrev s_law_scheme : Stmt := topS 12
abbrev n_law_scheme : List Str := ["_law_arguments", "_law_result", "_law_order", "_law_kinds", "_law_levels", "_law_base"]
theorem sc_law_scheme : FnScope n_law_scheme ["_law_arguments", "_law_result"] (defScope s_law_scheme) := ⟨rfl, rfl, rfl, by decide +kernel, rfl, by decide +kernel, by decide +kernel⟩
abbrev s_law_instance : Stmt := topS 14
abbrev n_law_instance : List Str := ["_law_draws_here", "_law_index", "_law_told", "_law_kinds", "_law_levels", "_law_base", "_law_pick", "_law_at_here"]
theorem sc_law_instance : FnScope n_law_instance ["_law_draws_here", "_law_index", "_law_told"] (defScope s_law_instance) := ⟨rfl, rfl, rfl, by decide +kernel, rfl, by decide +kernel, by decide +kernel⟩
abbrev s_law_is_integer : Stmt := topS 8
abbrev n_law_is_integer : List Str := ["_law_actual"]
theorem sc_law_is_integer : FnScope n_law_is_integer ["_law_actual"] (defScope s_law_is_integer) := ⟨rfl, rfl, rfl, by decide +kernel, rfl, by decide +kernel, by decide +kernel⟩
abbrev s_law_same : Stmt := topS 9
abbrev n_law_same : List Str := ["_law_actual", "_law_expected", "_law_k"]
theorem sc_law_same : FnScope n_law_same ["_law_actual", "_law_expected"] (defScope s_law_same) := ⟨rfl, rfl, rfl, by decide +kernel, rfl, by decide +kernel, by decide +kernel⟩
abbrev s_is_variable : Stmt := topS 1
abbrev n_is_variable : List Str := ["base"]
theorem sc_is_variable : FnScope n_is_variable ["base"] (defScope s_is_variable) := ⟨rfl, rfl, rfl, by decide +kernel, rfl, by decide +kernel, by decide +kernel⟩
abbrev s_scheme : Stmt := topS 2
abbrev n_scheme : List Str := ["arguments", "result", "numbers", "kinds", "levels", "base"]
theorem sc_scheme : FnScope n_scheme ["arguments", "result"] (defScope s_scheme) := ⟨rfl, rfl, rfl, by decide +kernel, rfl, by decide +kernel, by decide +kernel⟩
abbrev s_is_instance : Stmt := topS 3
abbrev n_is_instance : List Str := ["first", "second", "kinds", "others", "found", "kind", "other", "wanted"]
theorem sc_is_instance : FnScope n_is_instance ["first", "second"] (defScope s_is_instance) := ⟨rfl, rfl, rfl, by decide +kernel, rfl, by decide +kernel, by decide +kernel⟩
abbrev s_law_is_instance : Stmt := topS 13
abbrev n_law_is_instance : List Str := ["_law_first", "_law_second", "_law_kinds", "_law_others", "_law_k", "_law_j"]
theorem sc_law_is_instance : FnScope n_law_is_instance ["_law_first", "_law_second"] (defScope s_law_is_instance) := ⟨rfl, rfl, rfl, by decide +kernel, rfl, by decide +kernel, by decide +kernel⟩
abbrev s_law : Stmt := topS 15
abbrev n_law : List Str := ["_law_script", "_law_draws_here", "_law_k", "_law_numbers", "_law_due", "_law_others", "_law_pair_here", "_law_arguments", "_law_result", "_law_j"]
theorem sc_law : FnScope n_law ["_law_script"] (defScope s_law) := ⟨rfl, rfl, rfl, by decide +kernel, rfl, by decide +kernel, by decide +kernel⟩
structure Txt (K : Fr) (mg : Str → Option Value) where
  a_law_mix : Addr
  fd_law_mix : FuncData
  F_law_mix : Fun K "_law_mix" "_law_mix" s_law_mix a_law_mix fd_law_mix
  b_law_mix : Binds K fd_law_mix ["_law_cell", "_law_k"] []
  g_law_mix : mg "_law_mix" = some (.ref a_law_mix)
  a_law_draws : Addr
  fd_law_draws : FuncData
  F_law_draws : Fun K "_law_draws" "_law_draws" s_law_draws a_law_draws fd_law_draws
  b_law_draws : Binds K fd_law_draws ["_law_script"] []
  g_law_draws : mg "_law_draws" = some (.ref a_law_draws)
  a_law_at : Addr
  fd_law_at : FuncData
  F_law_at : Fun K "_law_at" "_law_at" s_law_at a_law_at fd_law_at
  b_law_at : Binds K fd_law_at ["_law_draws_here", "_law_index"] []
  g_law_at : mg "_law_at" = some (.ref a_law_at)
  a_law_kind : Addr
  fd_law_kind : FuncData
  F_law_kind : Fun K "_law_kind" "_law_kind" s_law_kind a_law_kind fd_law_kind
  b_law_kind : Binds K fd_law_kind ["_law_draws_here", "_law_index", "_law_numbers"] []
  g_law_kind : mg "_law_kind" = some (.ref a_law_kind)
  a_law_pair : Addr
  fd_law_pair : FuncData
  F_law_pair : Fun K "_law_pair" "_law_pair" s_law_pair a_law_pair fd_law_pair
  b_law_pair : Binds K fd_law_pair ["_law_draws_here", "_law_index", "_law_numbers"] []
  g_law_pair : mg "_law_pair" = some (.ref a_law_pair)
  a_law_scheme : Addr
  fd_law_scheme : FuncData
  F_law_scheme : Fun K "_law_scheme" "_law_scheme" s_law_scheme a_law_scheme fd_law_scheme
  b_law_scheme : Binds K fd_law_scheme ["_law_arguments", "_law_result"] []
  g_law_scheme : mg "_law_scheme" = some (.ref a_law_scheme)
  a_law_instance : Addr
  fd_law_instance : FuncData
  F_law_instance : Fun K "_law_instance" "_law_instance" s_law_instance a_law_instance fd_law_instance
  b_law_instance : Binds K fd_law_instance ["_law_draws_here", "_law_index", "_law_told"] []
  g_law_instance : mg "_law_instance" = some (.ref a_law_instance)
  a_law_is_integer : Addr
  fd_law_is_integer : FuncData
  F_law_is_integer : Fun K "_law_is_integer" "_law_is_integer" s_law_is_integer a_law_is_integer fd_law_is_integer
  b_law_is_integer : Binds K fd_law_is_integer ["_law_actual"] []
  g_law_is_integer : mg "_law_is_integer" = some (.ref a_law_is_integer)
  a_law_same : Addr
  fd_law_same : FuncData
  F_law_same : Fun K "_law_same" "_law_same" s_law_same a_law_same fd_law_same
  b_law_same : Binds K fd_law_same ["_law_actual", "_law_expected"] []
  g_law_same : mg "_law_same" = some (.ref a_law_same)
  a_is_variable : Addr
  fd_is_variable : FuncData
  F_is_variable : Fun K "is_variable" "is_variable" s_is_variable a_is_variable fd_is_variable
  b_is_variable : Binds K fd_is_variable ["base"] []
  g_is_variable : mg "is_variable" = some (.ref a_is_variable)
  a_scheme : Addr
  fd_scheme : FuncData
  F_scheme : Fun K "scheme" "scheme" s_scheme a_scheme fd_scheme
  b_scheme : Binds K fd_scheme ["arguments", "result"] []
  g_scheme : mg "scheme" = some (.ref a_scheme)
  a_is_instance : Addr
  fd_is_instance : FuncData
  F_is_instance : Fun K "is_instance" "is_instance" s_is_instance a_is_instance fd_is_instance
  b_is_instance : Binds K fd_is_instance ["first", "second"] []
  g_is_instance : mg "is_instance" = some (.ref a_is_instance)
  a_law_is_instance : Addr
  fd_law_is_instance : FuncData
  F_law_is_instance : Fun K "_law_is_instance" "_law_is_instance" s_law_is_instance a_law_is_instance fd_law_is_instance
  b_law_is_instance : Binds K fd_law_is_instance ["_law_first", "_law_second"] []
  g_law_is_instance : mg "_law_is_instance" = some (.ref a_law_is_instance)
  a_law : Addr
  fd_law : FuncData
  F_law : Fun K "law" "law" s_law a_law fd_law
  b_law : Binds K fd_law ["_law_script"] []
  g_law : mg "law" = some (.ref a_law)
  z_bool : mg "bool" = none
  z_int : mg "int" = none
  z_isinstance : mg "isinstance" = none
  z_len : mg "len" = none
  z_list : mg "list" = none
  z_max : mg "max" = none
  z_min : mg "min" = none
  z_range : mg "range" = none
  z_str : mg "str" = none
  z_tuple : mg "tuple" = none
  z_zip : mg "zip" = none
section
variable {P : Program} {W : World} {K : Fr} {mg : Str → Option Value} {base : Heap}
theorem ok_law_mix (T : Txt K mg) : FnOk P W K mg base (L2.CX P W) 1 T.a_law_mix T.fd_law_mix ["_law_cell", "_law_k"] (spM K 2 (m_law_mix)) :=
  fn_ok (k := 0) T.F_law_mix sc_law_mix fun cdv A outer s H E hr tk hp => (ss_cons (ss_set (i := 2) sc_law_mix.nd rfl (by first | exact Or.inl rfl | exact Or.inr rfl) (se_mod (se_int' (by rfl) T.z_int (sa_cons (se_add (se_add (se_mul (se_int' (by rfl) T.z_int (sa_cons (se_var (i := 0)) sa_nil)) se_int) (se_mul (se_var (i := 1)) se_int)) se_int) sa_nil)) se_int))
    (ss_cons (ss_set (i := 2) sc_law_mix.nd rfl (by first | exact Or.inl rfl | exact Or.inr rfl) (se_mod (se_int' (by rfl) T.z_int (sa_cons (se_add (se_add (se_mul (se_var (i := 2)) (se_var (i := 2))) (se_mul (se_var (i := 1)) se_int)) se_int) sa_nil)) se_int))
    (ss_one (ss_ret (se_mod (se_div (se_var (i := 2)) se_int) se_int)))))
theorem ok_law_draws (T : Txt K mg) : FnOk P W K mg base (L2.CX P W) 2 T.a_law_draws T.fd_law_draws ["_law_script"] (spM K 1 (m_law_draws)) :=
  fn_ok (k := 1) T.F_law_draws sc_law_draws fun cdv A outer s H E hr tk hp => (ss_cons (ss_set (i := 1) sc_law_draws.nd rfl (by first | exact Or.inl rfl | exact Or.inr rfl) (se_lst sa_nil))
    (ss_cons (ss_for hp rfl (si_r1 (by rfl) T.z_range (sa_cons (se_min (by rfl) T.z_min (sa_cons se_int (sa_cons (se_len (by rfl) T.z_len (sa_cons (se_var (i := 0)) sa_nil)) sa_nil)) (hc := rfl)) sa_nil)) (pg_one (i := 2) sc_law_draws.nd rfl (by first | exact Or.inl rfl | exact Or.inr rfl)) (ss_cons (ss_set (i := 3) sc_law_draws.nd rfl (by first | exact Or.inl rfl | exact Or.inr rfl) (se_int' (by rfl) T.z_int (sa_cons (se_ix (se_var (i := 0)) (se_var (i := 2))) sa_nil)))
    (ss_one (ss_if (bt_lt (se_var (i := 3)) (se_pow se_int se_int)) (ss_one (ss_expr (se_app (se_var (i := 1)) (sa_cons (se_call tk (ok_law_mix T) (hr.mono (by omega)) (by rfl) T.g_law_mix T.F_law_mix.kp T.b_law_mix (sa_cons (se_var (i := 3)) (sa_cons (se_var (i := 2)) sa_nil))) sa_nil)))) (ss_one (ss_for hp rfl (si_r1 (by rfl) T.z_range (sa_cons se_int sa_nil)) (pg_one (i := 4) sc_law_draws.nd rfl (by first | exact Or.inl rfl | exact Or.inr rfl)) (ss_one (ss_if (bt_gt (se_var (i := 3)) se_int) (ss_cons (ss_expr (se_app (se_var (i := 1)) (sa_cons (se_mod (se_int' (by rfl) T.z_int (sa_cons (se_var (i := 3)) sa_nil)) se_int) sa_nil)))
    (ss_one (ss_set (i := 3) sc_law_draws.nd rfl (by first | exact Or.inl rfl | exact Or.inr rfl) (se_div (se_var (i := 3)) se_int)))) ss_nil))))))))
    (ss_one (ss_ret (se_var (i := 1))))))
theorem ok_law_at (T : Txt K mg) : FnOk P W K mg base (L2.CX P W) 2 T.a_law_at T.fd_law_at ["_law_draws_here", "_law_index"] (spM K 2 (m_law_at)) :=
  fn_ok (k := 1) T.F_law_at sc_law_at fun cdv A outer s H E hr tk hp => (ss_cons (ss_if (bt_lt (se_var (i := 1)) (se_len (by rfl) T.z_len (sa_cons (se_var (i := 0)) sa_nil))) (ss_one (ss_ret (se_ix (se_var (i := 0)) (se_var (i := 1))))) ss_nil)
    (ss_cons (ss_if (bt_eq hr (se_len (by rfl) T.z_len (sa_cons (se_var (i := 0)) sa_nil)) se_int) (ss_one (ss_ret (se_call tk (ok_law_mix T) (hr.mono (by omega)) (by rfl) T.g_law_mix T.F_law_mix.kp T.b_law_mix (sa_cons (se_var (i := 1)) (sa_cons se_int sa_nil))))) ss_nil)
    (ss_one (ss_ret (se_call tk (ok_law_mix T) (hr.mono (by omega)) (by rfl) T.g_law_mix T.F_law_mix.kp T.b_law_mix (sa_cons (se_add (se_ix (se_var (i := 0)) (se_mod (se_int' (by rfl) T.z_int (sa_cons (se_var (i := 1)) sa_nil)) (se_len (by rfl) T.z_len (sa_cons (se_var (i := 0)) sa_nil)))) (se_mul (se_var (i := 1)) se_int)) (sa_cons (se_var (i := 1)) sa_nil)))))))
theorem ok_law_kind (T : Txt K mg) : FnOk P W K mg base (L2.CX P W) 3 T.a_law_kind T.fd_law_kind ["_law_draws_here", "_law_index", "_law_numbers"] (spM K 3 (m_law_kind)) :=
  fn_ok (k := 2) T.F_law_kind sc_law_kind fun cdv A outer s H E hr tk hp => (ss_cons (ss_set (i := 3) sc_law_kind.nd rfl (by first | exact Or.inl rfl | exact Or.inr rfl) (se_ix (se_lst (sa_cons (se_ix (se_var (i := 2)) se_int) (sa_cons (se_ix (se_var (i := 2)) se_int) (sa_cons (se_ix (se_var (i := 2)) se_int) (sa_cons (se_ix (se_var (i := 2)) se_int) (sa_cons (se_str (by decide +kernel)) (sa_cons (se_str (by decide +kernel)) (sa_cons (se_str (by decide +kernel)) (sa_cons (se_str (by decide +kernel)) (sa_cons (se_ix (se_var (i := 2)) se_int) sa_nil)))))))))) (se_mod (se_call tk (ok_law_at T) (hr.mono (by omega)) (by rfl) T.g_law_at T.F_law_at.kp T.b_law_at (sa_cons (se_var (i := 0)) (sa_cons (se_add (se_var (i := 1)) se_int) sa_nil))) se_int)))
    (ss_one (ss_ret (se_tup (sa_cons (se_mod (se_call tk (ok_law_at T) (hr.mono (by omega)) (by rfl) T.g_law_at T.F_law_at.kp T.b_law_at (sa_cons (se_var (i := 0)) (sa_cons (se_var (i := 1)) sa_nil))) se_int) (sa_cons (se_var (i := 3)) sa_nil))))))
theorem ok_law_pair (T : Txt K mg) : FnOk P W K mg base (L2.CX P W) 4 T.a_law_pair T.fd_law_pair ["_law_draws_here", "_law_index", "_law_numbers"] (spM K 3 (m_law_pair)) :=
  fn_ok (k := 3) T.F_law_pair sc_law_pair fun cdv A outer s H E hr tk hp => (ss_cons (ss_set (i := 3) sc_law_pair.nd rfl (by first | exact Or.inl rfl | exact Or.inr rfl) (se_mod (se_call tk (ok_law_at T) (hr.mono (by omega)) (by rfl) T.g_law_at T.F_law_at.kp T.b_law_at (sa_cons (se_var (i := 0)) (sa_cons (se_var (i := 1)) sa_nil))) se_int))
    (ss_cons (ss_setLc (i := 4) rfl sc_law_pair.nd rfl rfl (sw_true rfl rfl rfl (by decide +kernel)) (si_r1 (by rfl) T.z_range (sa_cons (se_add (se_var (i := 3)) se_int) sa_nil)) (blkOk_by (own := [("_law_k", 5)]) (N := n_law_pair) (sc := defScope s_law_pair) (by decide +kernel)) rfl (by decide) (fun _ _ _ _ _ => (pg_one (i := 5) sc_law_pair.nd rfl (by first | exact Or.inl rfl | exact Or.inr rfl))) (fun _ _ _ _ _ => pts_y) (fun _ _ _ _ _ => (se_call takes0 (ok_law_kind T) (hr.mono (by omega)) (by rfl) T.g_law_kind T.F_law_kind.kp T.b_law_kind (sa_cons (se_var (i := 0)) (sa_cons (se_add (se_add (se_var (i := 1)) se_int) (se_mul se_int (se_var (i := 5)))) (sa_cons (se_var (i := 2)) sa_nil))))))
    (ss_one (ss_ret (se_lst (sa_cons (se_tuple (by rfl) T.z_tuple (sa_cons (se_sl (se_var (i := 4)) so_none (so_some (se_var (i := 3)))) sa_nil)) (sa_cons (se_ix (se_var (i := 4)) (se_var (i := 3))) sa_nil)))))))
theorem ok_law_scheme (T : Txt K mg) : FnOk P W K mg base (L2.CX P W) 1 T.a_law_scheme T.fd_law_scheme ["_law_arguments", "_law_result"] (spM K 2 (m_law_scheme)) :=
  fn_ok (k := 0) T.F_law_scheme sc_law_scheme fun cdv A outer s H E hr tk hp => (ss_cons (ss_set (i := 2) sc_law_scheme.nd rfl (by first | exact Or.inl rfl | exact Or.inr rfl) (se_lst sa_nil))
    (ss_cons (ss_set (i := 3) sc_law_scheme.nd rfl (by first | exact Or.inl rfl | exact Or.inr rfl) (se_lst sa_nil))
    (ss_cons (ss_for hp rfl (si_e (se_add (se_list (by rfl) T.z_list (sa_cons (se_var (i := 0)) sa_nil)) (se_lst (sa_cons (se_var (i := 1)) sa_nil)))) (pg_tupA (is := [4, 5]) rfl (pgs_c (i := 4) sc_law_scheme.nd rfl (by first | exact Or.inl rfl | exact Or.inr rfl) (pgs_c (i := 5) sc_law_scheme.nd rfl (by first | exact Or.inl rfl | exact Or.inr rfl) pgs_n))) (ss_cons (ss_if (PW.pt (bw_and (bt_isi (T := .int) (by rfl) T.z_isinstance (se_var (i := 5)) (by rfl) T.z_int) (bw_and1 (bt_nin (se_var (i := 5)) (se_var (i := 2)) hr)))) (ss_one (ss_expr (se_app (se_var (i := 2)) (sa_cons (se_var (i := 5)) sa_nil)))) ss_nil)
    (ss_cons (ss_if (bt_isi (T := .int) (by rfl) T.z_isinstance (se_var (i := 5)) (by rfl) T.z_int) (ss_one (ss_set (i := 5) sc_law_scheme.nd rfl (by first | exact Or.inl rfl | exact Or.inr rfl) (se_indexL (sa_cons (se_var (i := 5)) sa_nil) (ho := (se_var (i := 2)))))) ss_nil)
    (ss_one (ss_expr (se_app (se_var (i := 3)) (sa_cons (se_tup (sa_cons (se_var (i := 4)) (sa_cons (se_var (i := 5)) sa_nil))) sa_nil)))))))
    (ss_one (ss_ret (se_tup (sa_cons (se_tuple (by rfl) T.z_tuple (sa_cons (se_sl (se_var (i := 3)) so_none (so_some (se_sub (se_len (by rfl) T.z_len (sa_cons (se_var (i := 3)) sa_nil)) se_int))) sa_nil)) (sa_cons (se_ix (se_var (i := 3)) (se_sub (se_len (by rfl) T.z_len (sa_cons (se_var (i := 3)) sa_nil)) se_int)) sa_nil))))))))
theorem ok_law_instance (T : Txt K mg) : FnOk P W K mg base (L2.CX P W) 3 T.a_law_instance T.fd_law_instance ["_law_draws_here", "_law_index", "_law_told"] (spM K 3 (m_law_instance)) :=
  fn_ok (k := 2) T.F_law_instance sc_law_instance fun cdv A outer s H E hr tk hp => (ss_cons (ss_set (i := 3) sc_law_instance.nd rfl (by first | exact Or.inl rfl | exact Or.inr rfl) (se_lst sa_nil))
    (ss_cons (ss_for hp rfl (si_e (se_add (se_list (by rfl) T.z_list (sa_cons (se_ix (se_var (i := 2)) se_int) sa_nil)) (se_lst (sa_cons (se_ix (se_var (i := 2)) se_int) sa_nil)))) (pg_tupA (is := [4, 5]) rfl (pgs_c (i := 4) sc_law_instance.nd rfl (by first | exact Or.inl rfl | exact Or.inr rfl) (pgs_c (i := 5) sc_law_instance.nd rfl (by first | exact Or.inl rfl | exact Or.inr rfl) pgs_n))) (ss_one (ss_if (bt_isi (T := .int) (by rfl) T.z_isinstance (se_var (i := 5)) (by rfl) T.z_int) (ss_cons (ss_set (i := 6) sc_law_instance.nd rfl (by first | exact Or.inl rfl | exact Or.inr rfl) (se_call tk (ok_law_at T) (hr.mono (by omega)) (by rfl) T.g_law_at T.F_law_at.kp T.b_law_at (sa_cons (se_var (i := 0)) (sa_cons (se_add (se_var (i := 1)) (se_var (i := 5))) sa_nil))))
    (ss_one (ss_expr (se_app (se_var (i := 3)) (sa_cons (se_tup (sa_cons (se_add (se_var (i := 4)) (se_mod (se_var (i := 6)) se_int)) (sa_cons (se_ix (se_lst (sa_cons (se_str (by decide +kernel)) (sa_cons (se_str (by decide +kernel)) (sa_cons se_int (sa_cons se_int (sa_cons (se_str (by decide +kernel)) sa_nil)))))) (se_mod (se_div (se_var (i := 6)) se_int) se_int)) sa_nil))) sa_nil))))) (ss_one (ss_expr (se_app (se_var (i := 3)) (sa_cons (se_tup (sa_cons (se_var (i := 4)) (sa_cons (se_var (i := 5)) sa_nil))) sa_nil)))))))
    (ss_cons (ss_if (bt_eq hr (se_mod (se_call tk (ok_law_at T) (hr.mono (by omega)) (by rfl) T.g_law_at T.F_law_at.kp T.b_law_at (sa_cons (se_var (i := 0)) (sa_cons (se_add (se_var (i := 1)) se_int) sa_nil))) se_int) se_int) (ss_cons (ss_set (i := 7) sc_law_instance.nd rfl (by first | exact Or.inl rfl | exact Or.inr rfl) (se_mod (se_call tk (ok_law_at T) (hr.mono (by omega)) (by rfl) T.g_law_at T.F_law_at.kp T.b_law_at (sa_cons (se_var (i := 0)) (sa_cons (se_add (se_var (i := 1)) se_int) sa_nil))) (se_len (by rfl) T.z_len (sa_cons (se_var (i := 3)) sa_nil))))
    (ss_one (ss_setIL (se_ix (se_lst (sa_cons (se_tup (sa_cons (se_add (se_ix (se_ix (se_var (i := 3)) (se_var (i := 7))) se_int) se_int) (sa_cons (se_ix (se_ix (se_var (i := 3)) (se_var (i := 7))) se_int) sa_nil))) (sa_cons (se_tup (sa_cons (se_max (by rfl) T.z_max (sa_cons se_int (sa_cons (se_sub (se_ix (se_ix (se_var (i := 3)) (se_var (i := 7))) se_int) se_int) sa_nil)) (hc := rfl)) (sa_cons (se_ix (se_ix (se_var (i := 3)) (se_var (i := 7))) se_int) sa_nil))) (sa_cons (se_tup (sa_cons (se_ix (se_ix (se_var (i := 3)) (se_var (i := 7))) se_int) (sa_cons (se_str (by decide +kernel)) sa_nil))) (sa_cons (se_tup (sa_cons (se_ix (se_ix (se_var (i := 3)) (se_var (i := 7))) se_int) (sa_cons se_int sa_nil))) sa_nil))))) (se_mod (se_call tk (ok_law_at T) (hr.mono (by omega)) (by rfl) T.g_law_at T.F_law_at.kp T.b_law_at (sa_cons (se_var (i := 0)) (sa_cons (se_add (se_var (i := 1)) se_int) sa_nil))) se_int)) (se_var (i := 3)) (se_var (i := 7))))) ss_nil)
    (ss_cons (ss_if (bt_eq hr (se_mod (se_call tk (ok_law_at T) (hr.mono (by omega)) (by rfl) T.g_law_at T.F_law_at.kp T.b_law_at (sa_cons (se_var (i := 0)) (sa_cons (se_add (se_var (i := 1)) se_int) sa_nil))) se_int) se_int) (ss_one (ss_expr (se_ins (se_var (i := 3)) (sa_cons se_int (sa_cons (se_tup (sa_cons se_int (sa_cons (se_str (by decide +kernel)) sa_nil))) sa_nil))))) ss_nil)
    (ss_one (ss_ret (se_tup (sa_cons (se_tuple (by rfl) T.z_tuple (sa_cons (se_sl (se_var (i := 3)) so_none (so_some (se_sub (se_len (by rfl) T.z_len (sa_cons (se_var (i := 3)) sa_nil)) se_int))) sa_nil)) (sa_cons (se_ix (se_var (i := 3)) (se_sub (se_len (by rfl) T.z_len (sa_cons (se_var (i := 3)) sa_nil)) se_int)) sa_nil)))))))))
theorem ok_law_is_integer (T : Txt K mg) : FnOk P W K mg base (L2.CX P W) 1 T.a_law_is_integer T.fd_law_is_integer ["_law_actual"] (spM K 1 (m_law_is_integer)) :=
  fn_ok (k := 0) T.F_law_is_integer sc_law_is_integer fun cdv A outer s H E hr tk hp => (ss_one (ss_ret (se_and (se_isi (T := .int) (by rfl) T.z_isinstance (se_var (i := 0)) (by rfl) T.z_int) (se_one (se_not (se_isi (T := .bool) (by rfl) T.z_isinstance (se_var (i := 0)) (by rfl) T.z_bool))))))
theorem okg_law_same (T : Txt K mg) : ∀ n : Nat, FnOk P W K mg base (L2.CX P W) (1 + n) T.a_law_same T.fd_law_same ["_law_actual", "_law_expected"] (spM K 2 (m_law_same n))
  | 0 => (by unfold m_law_same; exact fn_bad rfl)
  | n + 1 => by
    obtain ih_law_same := okg_law_same T n
    exact (by
      unfold m_law_same
      exact fn_ok (k := 1 + n) T.F_law_same sc_law_same fun cdv A outer s H E hr tk hp => (ss_cons (ss_if (bt_isi2 (T := .list) (S := .tuple) (by rfl) T.z_isinstance (se_var (i := 1)) (by rfl) T.z_list (by rfl) T.z_tuple) (ss_cons (ss_if (PW.pt (bw_or (bt_ne hr (se_isi (T := .list) (by rfl) T.z_isinstance (se_var (i := 1)) (by rfl) T.z_list) (se_isi (T := .list) (by rfl) T.z_isinstance (se_var (i := 0)) (by rfl) T.z_list)) (bw_or1 (bt_ne hr (se_isi (T := .tuple) (by rfl) T.z_isinstance (se_var (i := 1)) (by rfl) T.z_tuple) (se_isi (T := .tuple) (by rfl) T.z_isinstance (se_var (i := 0)) (by rfl) T.z_tuple))))) (ss_one (ss_ret se_bl)) ss_nil)
    (ss_cons (ss_if (bt_ne hr (se_len (by rfl) T.z_len (sa_cons (se_var (i := 0)) sa_nil)) (se_len (by rfl) T.z_len (sa_cons (se_var (i := 1)) sa_nil))) (ss_one (ss_ret se_bl)) ss_nil)
    (ss_cons (ss_for hp rfl (si_r1 (by rfl) T.z_range (sa_cons (se_len (by rfl) T.z_len (sa_cons (se_var (i := 1)) sa_nil)) sa_nil)) (pg_one (i := 2) sc_law_same.nd rfl (by first | exact Or.inl rfl | exact Or.inr rfl)) (ss_one (ss_if (bt_not (bt_tru (se_call tk ih_law_same hr (by rfl) T.g_law_same T.F_law_same.kp T.b_law_same (sa_cons (se_ix (se_var (i := 0)) (se_var (i := 2))) (sa_cons (se_ix (se_var (i := 1)) (se_var (i := 2))) sa_nil))))) (ss_one (ss_ret se_bl)) ss_nil)))
    (ss_one (ss_ret se_bl))))) ss_nil)
    (ss_cons (ss_if (bt_is (se_var (i := 1)) se_non) (ss_one (ss_ret (se_is (se_var (i := 0)) se_non))) ss_nil)
    (ss_cons (ss_if (bt_isi (T := .bool) (by rfl) T.z_isinstance (se_var (i := 1)) (by rfl) T.z_bool) (ss_one (ss_ret (se_and (se_isi (T := .bool) (by rfl) T.z_isinstance (se_var (i := 0)) (by rfl) T.z_bool) (se_one (se_eq hr (se_var (i := 0)) (se_var (i := 1))))))) ss_nil)
    (ss_cons (ss_if (bt_isi (T := .int) (by rfl) T.z_isinstance (se_var (i := 1)) (by rfl) T.z_int) (ss_one (ss_ret (se_and (se_call tk (ok_law_is_integer T) (hr.mono (by omega)) (by rfl) T.g_law_is_integer T.F_law_is_integer.kp T.b_law_is_integer (sa_cons (se_var (i := 0)) sa_nil)) (se_one (se_eq hr (se_var (i := 0)) (se_var (i := 1))))))) ss_nil)
    (ss_one (ss_ret (se_and (se_isi (T := .str) (by rfl) T.z_isinstance (se_var (i := 0)) (by rfl) T.z_str) (se_one (se_eq hr (se_var (i := 0)) (se_var (i := 1))))))))))))
theorem ok_law_same (T : Txt K mg) (n : Nat) : FnOk P W K mg base (L2.CX P W) (1 + n) T.a_law_same T.fd_law_same ["_law_actual", "_law_expected"] (spM K 2 (m_law_same n)) := (okg_law_same T n)
theorem ok_is_variable (T : Txt K mg) : FnOk P W K mg base (L2.CX P W) 1 T.a_is_variable T.fd_is_variable ["base"] (spM K 1 (m_is_variable)) :=
  fn_ok (k := 0) T.F_is_variable sc_is_variable fun cdv A outer s H E hr tk hp => (ss_one (ss_ret (se_isi (T := .int) (by rfl) T.z_isinstance (se_var (i := 0)) (by rfl) T.z_int)))
theorem ok_scheme (T : Txt K mg) : FnOk P W K mg base (L2.CX P W) 2 T.a_scheme T.fd_scheme ["arguments", "result"] (spM K 2 (m_scheme)) :=
  fn_ok (k := 1) T.F_scheme sc_scheme fun cdv A outer s H E hr tk hp => (ss_cons (ss_set (i := 2) sc_scheme.nd rfl (by first | exact Or.inl rfl | exact Or.inr rfl) se_dnew)
    (ss_cons (ss_set (i := 3) sc_scheme.nd rfl (by first | exact Or.inl rfl | exact Or.inr rfl) (se_lst sa_nil))
    (ss_cons (ss_for hp rfl (si_e (se_lst (sa_star (se_var (i := 0)) (sa_cons (se_var (i := 1)) sa_nil)))) (pg_tupA (is := [4, 5]) rfl (pgs_c (i := 4) sc_scheme.nd rfl (by first | exact Or.inl rfl | exact Or.inr rfl) (pgs_c (i := 5) sc_scheme.nd rfl (by first | exact Or.inl rfl | exact Or.inr rfl) pgs_n))) (ss_cons (ss_if (bt_tru (se_call tk (ok_is_variable T) (hr.mono (by omega)) (by rfl) T.g_is_variable T.F_is_variable.kp T.b_is_variable (sa_cons (se_var (i := 5)) sa_nil))) (ss_cons (ss_expr (se_setdef (se_var (i := 2)) (sa_cons (se_var (i := 5)) (sa_cons (se_dlen (by rfl) T.z_len (sa_cons (se_var (i := 2)) sa_nil)) sa_nil))))
    (ss_one (ss_set (i := 5) sc_scheme.nd rfl (by first | exact Or.inl rfl | exact Or.inr rfl) (se_dget (hu1 hr) (se_var (i := 2)) (se_var (i := 5)))))) ss_nil)
    (ss_one (ss_expr (se_app (se_var (i := 3)) (sa_cons (se_tup (sa_cons (se_var (i := 4)) (sa_cons (se_var (i := 5)) sa_nil))) sa_nil))))))
    (ss_one (ss_ret (se_tup (sa_cons (se_tuple (by rfl) T.z_tuple (sa_cons (se_sl (se_var (i := 3)) so_none (so_some (se_neg se_int))) sa_nil)) (sa_cons (se_ix (se_var (i := 3)) (se_neg se_int)) sa_nil))))))))
theorem ok_is_instance (T : Txt K mg) : FnOk P W K mg base (L2.CX P W) 2 T.a_is_instance T.fd_is_instance ["first", "second"] (spM K 2 (m_is_instance)) :=
  fn_ok (k := 1) T.F_is_instance sc_is_instance fun cdv A outer s H E hr tk hp => (ss_cons (ss_set (i := 2) sc_is_instance.nd rfl (by first | exact Or.inl rfl | exact Or.inr rfl) (se_lst (sa_star (se_ix (se_var (i := 0)) se_int) (sa_cons (se_ix (se_var (i := 0)) se_int) sa_nil))))
    (ss_cons (ss_set (i := 3) sc_is_instance.nd rfl (by first | exact Or.inl rfl | exact Or.inr rfl) (se_lst (sa_star (se_ix (se_var (i := 1)) se_int) (sa_cons (se_ix (se_var (i := 1)) se_int) sa_nil))))
    (ss_cons (ss_if (bt_ne hr (se_len (by rfl) T.z_len (sa_cons (se_var (i := 2)) sa_nil)) (se_len (by rfl) T.z_len (sa_cons (se_var (i := 3)) sa_nil))) (ss_one (ss_ret se_bl)) ss_nil)
    (ss_cons (ss_set (i := 4) sc_is_instance.nd rfl (by first | exact Or.inl rfl | exact Or.inr rfl) se_dnew)
    (ss_cons (ss_for hp rfl (si_zip (by rfl) T.z_zip (sa_cons (se_var (i := 2)) (sa_cons (se_var (i := 3)) sa_nil))) (pg_tupA (is := [5, 6]) rfl (pgs_c (i := 5) sc_is_instance.nd rfl (by first | exact Or.inl rfl | exact Or.inr rfl) (pgs_c (i := 6) sc_is_instance.nd rfl (by first | exact Or.inl rfl | exact Or.inr rfl) pgs_n))) (ss_one (ss_if (bt_tru (se_call tk (ok_is_variable T) (hr.mono (by omega)) (by rfl) T.g_is_variable T.F_is_variable.kp T.b_is_variable (sa_cons (se_ix (se_var (i := 6)) se_int) sa_nil))) (ss_cons (ss_set (i := 7) sc_is_instance.nd rfl (by first | exact Or.inl rfl | exact Or.inr rfl) (se_tup (sa_cons (se_sub (se_ix (se_var (i := 5)) se_int) (se_ix (se_var (i := 6)) se_int)) (sa_cons (se_ix (se_var (i := 5)) se_int) sa_nil))))
    (ss_one (ss_if (PW.pt (bw_or (bt_lt (se_ix (se_var (i := 7)) se_int) se_int) (bw_or1 (bt_ne hr (se_setdef (se_var (i := 4)) (sa_cons (se_ix (se_var (i := 6)) se_int) (sa_cons (se_var (i := 7)) sa_nil))) (se_var (i := 7)))))) (ss_one (ss_ret se_bl)) ss_nil))) (ss_one (ss_if (bt_ne hr (se_var (i := 5)) (se_var (i := 6))) (ss_one (ss_ret se_bl)) ss_nil)))))
    (ss_one (ss_ret se_bl)))))))
theorem ok_law_is_instance (T : Txt K mg) : FnOk P W K mg base (L2.CX P W) 1 T.a_law_is_instance T.fd_law_is_instance ["_law_first", "_law_second"] (spM K 2 (m_law_is_instance)) :=
  fn_ok (k := 0) T.F_law_is_instance sc_law_is_instance fun cdv A outer s H E hr tk hp => (ss_cons (ss_set (i := 2) sc_law_is_instance.nd rfl (by first | exact Or.inl rfl | exact Or.inr rfl) (se_add (se_list (by rfl) T.z_list (sa_cons (se_ix (se_var (i := 0)) se_int) sa_nil)) (se_lst (sa_cons (se_ix (se_var (i := 0)) se_int) sa_nil))))
    (ss_cons (ss_set (i := 3) sc_law_is_instance.nd rfl (by first | exact Or.inl rfl | exact Or.inr rfl) (se_add (se_list (by rfl) T.z_list (sa_cons (se_ix (se_var (i := 1)) se_int) sa_nil)) (se_lst (sa_cons (se_ix (se_var (i := 1)) se_int) sa_nil))))
    (ss_cons (ss_if (bt_ne hr (se_len (by rfl) T.z_len (sa_cons (se_var (i := 2)) sa_nil)) (se_len (by rfl) T.z_len (sa_cons (se_var (i := 3)) sa_nil))) (ss_one (ss_ret se_bl)) ss_nil)
    (ss_cons (ss_for hp rfl (si_r1 (by rfl) T.z_range (sa_cons (se_len (by rfl) T.z_len (sa_cons (se_var (i := 2)) sa_nil)) sa_nil)) (pg_one (i := 4) sc_law_is_instance.nd rfl (by first | exact Or.inl rfl | exact Or.inr rfl)) (ss_one (ss_if (bt_not (bt_isi (T := .int) (by rfl) T.z_isinstance (se_ix (se_ix (se_var (i := 3)) (se_var (i := 4))) se_int) (by rfl) T.z_int)) (ss_one (ss_if (bt_ne hr (se_ix (se_var (i := 2)) (se_var (i := 4))) (se_ix (se_var (i := 3)) (se_var (i := 4)))) (ss_one (ss_ret se_bl)) ss_nil)) (ss_one (ss_if (bt_lt (se_ix (se_ix (se_var (i := 2)) (se_var (i := 4))) se_int) (se_ix (se_ix (se_var (i := 3)) (se_var (i := 4))) se_int)) (ss_one (ss_ret se_bl)) (ss_one (ss_for hp rfl (si_r1 (by rfl) T.z_range (sa_cons (se_var (i := 4)) sa_nil)) (pg_one (i := 5) sc_law_is_instance.nd rfl (by first | exact Or.inl rfl | exact Or.inr rfl)) (ss_one (ss_if (bt_eq hr (se_ix (se_ix (se_var (i := 3)) (se_var (i := 5))) se_int) (se_ix (se_ix (se_var (i := 3)) (se_var (i := 4))) se_int)) (ss_one (ss_if (PW.pt (bw_or (bt_ne hr (se_sub (se_ix (se_ix (se_var (i := 2)) (se_var (i := 5))) se_int) (se_ix (se_ix (se_var (i := 3)) (se_var (i := 5))) se_int)) (se_sub (se_ix (se_ix (se_var (i := 2)) (se_var (i := 4))) se_int) (se_ix (se_ix (se_var (i := 3)) (se_var (i := 4))) se_int))) (bw_or1 (bt_ne hr (se_ix (se_ix (se_var (i := 2)) (se_var (i := 5))) se_int) (se_ix (se_ix (se_var (i := 2)) (se_var (i := 4))) se_int))))) (ss_one (ss_ret se_bl)) ss_nil)) ss_nil)))))))))
    (ss_one (ss_ret se_bl))))))
theorem ok_law (T : Txt K mg) : FnOk P W K mg base (L2.CX P W) 6 T.a_law T.fd_law ["_law_script"] (spM K 1 (m_law)) :=
  fn_ok (k := 5) T.F_law sc_law fun cdv A outer s H E hr tk hp => (ss_cons (ss_set (i := 1) sc_law.nd rfl (by first | exact Or.inl rfl | exact Or.inr rfl) (se_call tk (ok_law_draws T) (hr.mono (by omega)) (by rfl) T.g_law_draws T.F_law_draws.kp T.b_law_draws (sa_cons (se_var (i := 0)) sa_nil)))
    (ss_cons (ss_for hp rfl (si_r1 (by rfl) T.z_range (sa_cons se_int sa_nil)) (pg_one (i := 2) sc_law.nd rfl (by first | exact Or.inl rfl | exact Or.inr rfl)) (ss_cons (ss_setLc (i := 3) rfl sc_law.nd rfl rfl (sw_true rfl rfl rfl (by decide +kernel)) (si_r1 (by rfl) T.z_range (sa_cons se_int sa_nil)) (blkOk_by (own := [("_law_j", 9)]) (N := n_law) (sc := defScope s_law) (by decide +kernel)) rfl (by decide) (fun _ _ _ _ _ => (pg_one (i := 9) sc_law.nd rfl (by first | exact Or.inl rfl | exact Or.inr rfl))) (fun _ _ _ _ _ => pts_y) (fun _ _ _ _ _ => (se_mod (se_add (se_call takes0 (ok_law_at T) (hr.mono (by omega)) (by rfl) T.g_law_at T.F_law_at.kp T.b_law_at (sa_cons (se_var (i := 1)) (sa_cons (se_add se_int (se_mul se_int (se_var (i := 2)))) sa_nil))) (se_mul se_int (se_var (i := 9)))) se_int)))
    (ss_cons (ss_setL (is := [7, 8]) rfl (se_call tk (ok_law_pair T) (hr.mono (by omega)) (by rfl) T.g_law_pair T.F_law_pair.kp T.b_law_pair (sa_cons (se_var (i := 1)) (sa_cons (se_add se_int (se_mul se_int (se_var (i := 2)))) (sa_cons (se_var (i := 3)) sa_nil)))) (pgs_c (i := 7) sc_law.nd rfl (by first | exact Or.inl rfl | exact Or.inr rfl) (pgs_c (i := 8) sc_law.nd rfl (by first | exact Or.inl rfl | exact Or.inr rfl) pgs_n)))
    (ss_cons (ss_set (i := 4) sc_law.nd rfl (by first | exact Or.inl rfl | exact Or.inr rfl) (se_call tk (ok_law_scheme T) (hr.mono (by omega)) (by rfl) T.g_law_scheme T.F_law_scheme.kp T.b_law_scheme (sa_cons (se_var (i := 7)) (sa_cons (se_var (i := 8)) sa_nil))))
    (ss_cons (ss_if (PW.pt (bw_or (bt_not (bt_tru (se_call tk (ok_law_same T 4) (hr.mono (by omega)) (by rfl) T.g_law_same T.F_law_same.kp T.b_law_same (sa_cons (se_call tk (ok_scheme T) (hr.mono (by omega)) (by rfl) T.g_scheme T.F_scheme.kp T.b_scheme (sa_cons (se_tuple (by rfl) T.z_tuple (sa_cons (se_var (i := 7)) sa_nil)) (sa_cons (se_var (i := 8)) sa_nil))) (sa_cons (se_var (i := 4)) sa_nil))))) (bw_or1 (bt_not (bt_tru (se_call tk (ok_law_same T 4) (hr.mono (by omega)) (by rfl) T.g_law_same T.F_law_same.kp T.b_law_same (sa_cons (se_call tk (ok_scheme T) (hr.mono (by omega)) (by rfl) T.g_scheme T.F_scheme.kp T.b_scheme (sa_cons (se_ix (se_var (i := 4)) se_int) (sa_cons (se_ix (se_var (i := 4)) se_int) sa_nil))) (sa_cons (se_var (i := 4)) sa_nil)))))))) (ss_one (ss_ret se_bl)) ss_nil)
    (ss_cons (ss_set (i := 5) sc_law.nd rfl (by first | exact Or.inl rfl | exact Or.inr rfl) (se_call tk (ok_law_pair T) (hr.mono (by omega)) (by rfl) T.g_law_pair T.F_law_pair.kp T.b_law_pair (sa_cons (se_var (i := 1)) (sa_cons (se_add se_int (se_mul se_int (se_var (i := 2)))) (sa_cons (se_lst (sa_cons se_int (sa_cons se_int (sa_cons se_int (sa_cons se_int sa_nil))))) sa_nil)))))
    (ss_one (ss_for hp rfl (si_e (se_lst (sa_cons (se_call tk (ok_law_instance T) (hr.mono (by omega)) (by rfl) T.g_law_instance T.F_law_instance.kp T.b_law_instance (sa_cons (se_var (i := 1)) (sa_cons (se_add se_int (se_mul se_int (se_var (i := 2)))) (sa_cons (se_var (i := 4)) sa_nil)))) (sa_cons (se_tup (sa_cons (se_tuple (by rfl) T.z_tuple (sa_cons (se_ix (se_var (i := 5)) se_int) sa_nil)) (sa_cons (se_ix (se_var (i := 5)) se_int) sa_nil))) (sa_cons (se_var (i := 4)) sa_nil))))) (pg_one (i := 6) sc_law.nd rfl (by first | exact Or.inl rfl | exact Or.inr rfl)) (ss_one (ss_if (bt_not (bt_tru (se_call tk (ok_law_same T 4) (hr.mono (by omega)) (by rfl) T.g_law_same T.F_law_same.kp T.b_law_same (sa_cons (se_call tk (ok_is_instance T) (hr.mono (by omega)) (by rfl) T.g_is_instance T.F_is_instance.kp T.b_is_instance (sa_cons (se_var (i := 6)) (sa_cons (se_var (i := 4)) sa_nil))) (sa_cons (se_call tk (ok_law_is_instance T) (hr.mono (by omega)) (by rfl) T.g_law_is_instance T.F_law_is_instance.kp T.b_law_is_instance (sa_cons (se_var (i := 6)) (sa_cons (se_var (i := 4)) sa_nil))) sa_nil))))) (ss_one (ss_ret se_bl)) ss_nil))))))))))
    (ss_one (ss_ret se_bl))))
end
theorem all_mk (ht : semTrue m_law) {l : PySem.W.OpenLaw} {w : World} {K : Fr} {h : Heap} {mg : Str → Option Value} {fa f0 f1 f2 f3 f4 f5 f6 f7 f8 f9 f10 f11 f12 f13 : Addr} (X : K.In h) (G : h.Ns mainGlobals mg) (hfa : mg "law" = some (.ref fa))
    {od0 an0 : Option Addr} {sl0 : Array (Option Value)} {oc0 kV0 dc0 pm0 cd0 ct0 : Value}
    (a0 : PySem.W.nsIn K mainGlobals "_law_mix" = some (some (.ref f0))) (l0 : K.lookup f0 = some ⟨oc0, od0, .func (PySem.W.fnOf "_law_mix" "_law_mix" (defArgs s_law_mix) (defBody s_law_mix) (defScope s_law_mix) .none kV0 dc0 pm0 an0 cd0 ct0), sl0⟩) (c0 : PySem.W.codeIn K cd0 "_law_mix" = true) (k0 : PySem.W.keepIn K (.ref f0) = true)
    {od1 an1 : Option Addr} {sl1 : Array (Option Value)} {oc1 kV1 dc1 pm1 cd1 ct1 : Value}
    (a1 : PySem.W.nsIn K mainGlobals "_law_draws" = some (some (.ref f1))) (l1 : K.lookup f1 = some ⟨oc1, od1, .func (PySem.W.fnOf "_law_draws" "_law_draws" (defArgs s_law_draws) (defBody s_law_draws) (defScope s_law_draws) .none kV1 dc1 pm1 an1 cd1 ct1), sl1⟩) (c1 : PySem.W.codeIn K cd1 "_law_draws" = true) (k1 : PySem.W.keepIn K (.ref f1) = true)
    {od2 an2 : Option Addr} {sl2 : Array (Option Value)} {oc2 kV2 dc2 pm2 cd2 ct2 : Value}
    (a2 : PySem.W.nsIn K mainGlobals "_law_at" = some (some (.ref f2))) (l2 : K.lookup f2 = some ⟨oc2, od2, .func (PySem.W.fnOf "_law_at" "_law_at" (defArgs s_law_at) (defBody s_law_at) (defScope s_law_at) .none kV2 dc2 pm2 an2 cd2 ct2), sl2⟩) (c2 : PySem.W.codeIn K cd2 "_law_at" = true) (k2 : PySem.W.keepIn K (.ref f2) = true)
    {od3 an3 : Option Addr} {sl3 : Array (Option Value)} {oc3 kV3 dc3 pm3 cd3 ct3 : Value}
    (a3 : PySem.W.nsIn K mainGlobals "_law_kind" = some (some (.ref f3))) (l3 : K.lookup f3 = some ⟨oc3, od3, .func (PySem.W.fnOf "_law_kind" "_law_kind" (defArgs s_law_kind) (defBody s_law_kind) (defScope s_law_kind) .none kV3 dc3 pm3 an3 cd3 ct3), sl3⟩) (c3 : PySem.W.codeIn K cd3 "_law_kind" = true) (k3 : PySem.W.keepIn K (.ref f3) = true)
    {od4 an4 : Option Addr} {sl4 : Array (Option Value)} {oc4 kV4 dc4 pm4 cd4 ct4 : Value}
    (a4 : PySem.W.nsIn K mainGlobals "_law_pair" = some (some (.ref f4))) (l4 : K.lookup f4 = some ⟨oc4, od4, .func (PySem.W.fnOf "_law_pair" "_law_pair" (defArgs s_law_pair) (defBody s_law_pair) (defScope s_law_pair) .none kV4 dc4 pm4 an4 cd4 ct4), sl4⟩) (c4 : PySem.W.codeIn K cd4 "_law_pair" = true) (k4 : PySem.W.keepIn K (.ref f4) = true)
    {od5 an5 : Option Addr} {sl5 : Array (Option Value)} {oc5 kV5 dc5 pm5 cd5 ct5 : Value}
    (a5 : PySem.W.nsIn K mainGlobals "_law_scheme" = some (some (.ref f5))) (l5 : K.lookup f5 = some ⟨oc5, od5, .func (PySem.W.fnOf "_law_scheme" "_law_scheme" (defArgs s_law_scheme) (defBody s_law_scheme) (defScope s_law_scheme) .none kV5 dc5 pm5 an5 cd5 ct5), sl5⟩) (c5 : PySem.W.codeIn K cd5 "_law_scheme" = true) (k5 : PySem.W.keepIn K (.ref f5) = true)
    {od6 an6 : Option Addr} {sl6 : Array (Option Value)} {oc6 kV6 dc6 pm6 cd6 ct6 : Value}
    (a6 : PySem.W.nsIn K mainGlobals "_law_instance" = some (some (.ref f6))) (l6 : K.lookup f6 = some ⟨oc6, od6, .func (PySem.W.fnOf "_law_instance" "_law_instance" (defArgs s_law_instance) (defBody s_law_instance) (defScope s_law_instance) .none kV6 dc6 pm6 an6 cd6 ct6), sl6⟩) (c6 : PySem.W.codeIn K cd6 "_law_instance" = true) (k6 : PySem.W.keepIn K (.ref f6) = true)
    {od7 an7 : Option Addr} {sl7 : Array (Option Value)} {oc7 kV7 dc7 pm7 cd7 ct7 : Value}
    (a7 : PySem.W.nsIn K mainGlobals "_law_is_integer" = some (some (.ref f7))) (l7 : K.lookup f7 = some ⟨oc7, od7, .func (PySem.W.fnOf "_law_is_integer" "_law_is_integer" (defArgs s_law_is_integer) (defBody s_law_is_integer) (defScope s_law_is_integer) .none kV7 dc7 pm7 an7 cd7 ct7), sl7⟩) (c7 : PySem.W.codeIn K cd7 "_law_is_integer" = true) (k7 : PySem.W.keepIn K (.ref f7) = true)
    {od8 an8 : Option Addr} {sl8 : Array (Option Value)} {oc8 kV8 dc8 pm8 cd8 ct8 : Value}
    (a8 : PySem.W.nsIn K mainGlobals "_law_same" = some (some (.ref f8))) (l8 : K.lookup f8 = some ⟨oc8, od8, .func (PySem.W.fnOf "_law_same" "_law_same" (defArgs s_law_same) (defBody s_law_same) (defScope s_law_same) .none kV8 dc8 pm8 an8 cd8 ct8), sl8⟩) (c8 : PySem.W.codeIn K cd8 "_law_same" = true) (k8 : PySem.W.keepIn K (.ref f8) = true)
    {od9 an9 : Option Addr} {sl9 : Array (Option Value)} {oc9 kV9 dc9 pm9 cd9 ct9 : Value}
    (a9 : PySem.W.nsIn K mainGlobals "is_variable" = some (some (.ref f9))) (l9 : K.lookup f9 = some ⟨oc9, od9, .func (PySem.W.fnOf "is_variable" "is_variable" (defArgs s_is_variable) (defBody s_is_variable) (defScope s_is_variable) .none kV9 dc9 pm9 an9 cd9 ct9), sl9⟩) (c9 : PySem.W.codeIn K cd9 "is_variable" = true) (k9 : PySem.W.keepIn K (.ref f9) = true)
    {od10 an10 : Option Addr} {sl10 : Array (Option Value)} {oc10 kV10 dc10 pm10 cd10 ct10 : Value}
    (a10 : PySem.W.nsIn K mainGlobals "scheme" = some (some (.ref f10))) (l10 : K.lookup f10 = some ⟨oc10, od10, .func (PySem.W.fnOf "scheme" "scheme" (defArgs s_scheme) (defBody s_scheme) (defScope s_scheme) .none kV10 dc10 pm10 an10 cd10 ct10), sl10⟩) (c10 : PySem.W.codeIn K cd10 "scheme" = true) (k10 : PySem.W.keepIn K (.ref f10) = true)
    {od11 an11 : Option Addr} {sl11 : Array (Option Value)} {oc11 kV11 dc11 pm11 cd11 ct11 : Value}
    (a11 : PySem.W.nsIn K mainGlobals "is_instance" = some (some (.ref f11))) (l11 : K.lookup f11 = some ⟨oc11, od11, .func (PySem.W.fnOf "is_instance" "is_instance" (defArgs s_is_instance) (defBody s_is_instance) (defScope s_is_instance) .none kV11 dc11 pm11 an11 cd11 ct11), sl11⟩) (c11 : PySem.W.codeIn K cd11 "is_instance" = true) (k11 : PySem.W.keepIn K (.ref f11) = true)
    {od12 an12 : Option Addr} {sl12 : Array (Option Value)} {oc12 kV12 dc12 pm12 cd12 ct12 : Value}
    (a12 : PySem.W.nsIn K mainGlobals "_law_is_instance" = some (some (.ref f12))) (l12 : K.lookup f12 = some ⟨oc12, od12, .func (PySem.W.fnOf "_law_is_instance" "_law_is_instance" (defArgs s_law_is_instance) (defBody s_law_is_instance) (defScope s_law_is_instance) .none kV12 dc12 pm12 an12 cd12 ct12), sl12⟩) (c12 : PySem.W.codeIn K cd12 "_law_is_instance" = true) (k12 : PySem.W.keepIn K (.ref f12) = true)
    {od13 an13 : Option Addr} {sl13 : Array (Option Value)} {oc13 kV13 dc13 pm13 cd13 ct13 : Value}
    (a13 : PySem.W.nsIn K mainGlobals "law" = some (some (.ref f13))) (l13 : K.lookup f13 = some ⟨oc13, od13, .func (PySem.W.fnOf "law" "law" (defArgs s_law) (defBody s_law) (defScope s_law) .none kV13 dc13 pm13 an13 cd13 ct13), sl13⟩) (c13 : PySem.W.codeIn K cd13 "law" = true) (k13 : PySem.W.keepIn K (.ref f13) = true)
    (z_bool : PySem.W.nsIn K mainGlobals "bool" = some none)
    (z_int : PySem.W.nsIn K mainGlobals "int" = some none)
    (z_isinstance : PySem.W.nsIn K mainGlobals "isinstance" = some none)
    (z_len : PySem.W.nsIn K mainGlobals "len" = some none)
    (z_list : PySem.W.nsIn K mainGlobals "list" = some none)
    (z_max : PySem.W.nsIn K mainGlobals "max" = some none)
    (z_min : PySem.W.nsIn K mainGlobals "min" = some none)
    (z_range : PySem.W.nsIn K mainGlobals "range" = some none)
    (z_str : PySem.W.nsIn K mainGlobals "str" = some none)
    (z_tuple : PySem.W.nsIn K mainGlobals "tuple" = some none)
    (z_zip : PySem.W.nsIn K mainGlobals "zip" = some none) :
    ∃ fd : FuncData, (∀ (s : Shared) (v : Value), BindsTo s fd ⟨[v], []⟩ [("_law_script", v)]) ∧ ∀ base : Heap, K.In base → base.Ns mainGlobals mg → FnOk l.prog w K mg base (L2.CX l.prog w) 6 fa fd ["_law_script"] (spEnd K) := by
  have e := hfa.symm.trans (PySem.W.mg_of X G a13)
  cases e
  have F0 := fun_mk (st := s_law_mix) l0 c0 k0
  have F1 := fun_mk (st := s_law_draws) l1 c1 k1
  have F2 := fun_mk (st := s_law_at) l2 c2 k2
  have F3 := fun_mk (st := s_law_kind) l3 c3 k3
  have F4 := fun_mk (st := s_law_pair) l4 c4 k4
  have F5 := fun_mk (st := s_law_scheme) l5 c5 k5
  have F6 := fun_mk (st := s_law_instance) l6 c6 k6
  have F7 := fun_mk (st := s_law_is_integer) l7 c7 k7
  have F8 := fun_mk (st := s_law_same) l8 c8 k8
  have F9 := fun_mk (st := s_is_variable) l9 c9 k9
  have F10 := fun_mk (st := s_scheme) l10 c10 k10
  have F11 := fun_mk (st := s_is_instance) l11 c11 k11
  have F12 := fun_mk (st := s_law_is_instance) l12 c12 k12
  have F13 := fun_mk (st := s_law) l13 c13 k13
  have T : ∃ T : Txt K mg, T.a_law = fa ∧ T.fd_law = PySem.W.fnOf "law" "law" (defArgs s_law) (defBody s_law) (defScope s_law) .none kV13 dc13 pm13 an13 cd13 ct13 := ⟨⟨f0, _, F0, F0.binds (ps := ["_law_cell", "_law_k"]) (fun _ _ _ _ _ _ us hl => match us, hl with | [_, _], _ => rfl),
    PySem.W.mg_of X G a0,
    f1, _, F1, F1.binds (ps := ["_law_script"]) (fun _ _ _ _ _ _ us hl => match us, hl with | [_], _ => rfl),
    PySem.W.mg_of X G a1,
    f2, _, F2, F2.binds (ps := ["_law_draws_here", "_law_index"]) (fun _ _ _ _ _ _ us hl => match us, hl with | [_, _], _ => rfl),
    PySem.W.mg_of X G a2,
    f3, _, F3, F3.binds (ps := ["_law_draws_here", "_law_index", "_law_numbers"]) (fun _ _ _ _ _ _ us hl => match us, hl with | [_, _, _], _ => rfl),
    PySem.W.mg_of X G a3,
    f4, _, F4, F4.binds (ps := ["_law_draws_here", "_law_index", "_law_numbers"]) (fun _ _ _ _ _ _ us hl => match us, hl with | [_, _, _], _ => rfl),
    PySem.W.mg_of X G a4,
    f5, _, F5, F5.binds (ps := ["_law_arguments", "_law_result"]) (fun _ _ _ _ _ _ us hl => match us, hl with | [_, _], _ => rfl),
    PySem.W.mg_of X G a5,
    f6, _, F6, F6.binds (ps := ["_law_draws_here", "_law_index", "_law_told"]) (fun _ _ _ _ _ _ us hl => match us, hl with | [_, _, _], _ => rfl),
    PySem.W.mg_of X G a6,
    f7, _, F7, F7.binds (ps := ["_law_actual"]) (fun _ _ _ _ _ _ us hl => match us, hl with | [_], _ => rfl),
    PySem.W.mg_of X G a7,
    f8, _, F8, F8.binds (ps := ["_law_actual", "_law_expected"]) (fun _ _ _ _ _ _ us hl => match us, hl with | [_, _], _ => rfl),
    PySem.W.mg_of X G a8,
    f9, _, F9, F9.binds (ps := ["base"]) (fun _ _ _ _ _ _ us hl => match us, hl with | [_], _ => rfl),
    PySem.W.mg_of X G a9,
    f10, _, F10, F10.binds (ps := ["arguments", "result"]) (fun _ _ _ _ _ _ us hl => match us, hl with | [_, _], _ => rfl),
    PySem.W.mg_of X G a10,
    f11, _, F11, F11.binds (ps := ["first", "second"]) (fun _ _ _ _ _ _ us hl => match us, hl with | [_, _], _ => rfl),
    PySem.W.mg_of X G a11,
    f12, _, F12, F12.binds (ps := ["_law_first", "_law_second"]) (fun _ _ _ _ _ _ us hl => match us, hl with | [_, _], _ => rfl),
    PySem.W.mg_of X G a12,
    fa, _, F13, F13.binds (ps := ["_law_script"]) (fun _ _ _ _ _ _ us hl => match us, hl with | [_], _ => rfl),
    PySem.W.mg_of X G a13,
    PySem.W.mg_none_of X G z_bool,
    PySem.W.mg_none_of X G z_int,
    PySem.W.mg_none_of X G z_isinstance,
    PySem.W.mg_none_of X G z_len,
    PySem.W.mg_none_of X G z_list,
    PySem.W.mg_none_of X G z_max,
    PySem.W.mg_none_of X G z_min,
    PySem.W.mg_none_of X G z_range,
    PySem.W.mg_none_of X G z_str,
    PySem.W.mg_none_of X G z_tuple,
    PySem.W.mg_none_of X G z_zip⟩, rfl, rfl⟩
  obtain ⟨T, e1, e2⟩ := T
  refine ⟨PySem.W.fnOf "law" "law" (defArgs s_law) (defBody s_law) (defScope s_law) .none kV13 dc13 pm13 an13 cd13 ct13, fun s v => .of_eq rfl, fun base _ _ => ?_⟩
  have q := fn_end ht (ok_law (P := l.prog) (W := w) (base := base) T)
  rw [e1, e2] at q
  exact q
end LAW

set_option Elab.async false
set_option linter.all false
set_option maxRecDepth 100000
set_option maxHeartbeats 4000000
open PySem PySem.W PyProof.Rows in
set_option maxRecDepth 100000 in
set_option maxHeartbeats 0 in
theorem PySem.Challenge.cw_quillrun_k10_schemes_and_instances_holds : PySem.Challenge.rw_quillrun_k10_schemes_and_instances.Holds := by
  w_on; o_law; k_head; (case hw => w_witness2)
  k_fill
  refine Q.walkQ (l := PySem.Challenge.rw_quillrun_k10_schemes_and_instances) (k := 6) (x := "_law_script") rfl rfl ⟨rfl, by decide, by decide⟩ (fun w h Y => by first | exact PySem.W.kIn_of Y | exact PySem.W.km_in_of Y) ?F
  case F =>
    intro w mg fa h KX G hmg
    refine' LAW.all_mk LAW.law_true KX G hmg ?a0 ?l0 ?c0 ?k0 ?a1 ?l1 ?c1 ?k1 ?a2 ?l2 ?c2 ?k2 ?a3 ?l3 ?c3 ?k3 ?a4 ?l4 ?c4 ?k4 ?a5 ?l5 ?c5 ?k5 ?a6 ?l6 ?c6 ?k6 ?a7 ?l7 ?c7 ?k7 ?a8 ?l8 ?c8 ?k8 ?a9 ?l9 ?c9 ?k9 ?a10 ?l10 ?c10 ?k10 ?a11 ?l11 ?c11 ?k11 ?a12 ?l12 ?c12 ?k12 ?a13 ?l13 ?c13 ?k13 ?z_bool ?z_int ?z_isinstance ?z_len ?z_list ?z_max ?z_min ?z_range ?z_str ?z_tuple ?z_zip
    (case a0 => k_is)
    (case l0 => k_is)
    (case c0 => k_is)
    (case k0 => k_is)
    (case a1 => k_is)
    (case l1 => k_is)
    (case c1 => k_is)
    (case k1 => k_is)
    (case a2 => k_is)
    (case l2 => k_is)
    (case c2 => k_is)
    (case k2 => k_is)
    (case a3 => k_is)
    (case l3 => k_is)
    (case c3 => k_is)
    (case k3 => k_is)
    (case a4 => k_is)
    (case l4 => k_is)
    (case c4 => k_is)
    (case k4 => k_is)
    (case a5 => k_is)
    (case l5 => k_is)
    (case c5 => k_is)
    (case k5 => k_is)
    (case a6 => k_is)
    (case l6 => k_is)
    (case c6 => k_is)
    (case k6 => k_is)
    (case a7 => k_is)
    (case l7 => k_is)
    (case c7 => k_is)
    (case k7 => k_is)
    (case a8 => k_is)
    (case l8 => k_is)
    (case c8 => k_is)
    (case k8 => k_is)
    (case a9 => k_is)
    (case l9 => k_is)
    (case c9 => k_is)
    (case k9 => k_is)
    (case a10 => k_is)
    (case l10 => k_is)
    (case c10 => k_is)
    (case k10 => k_is)
    (case a11 => k_is)
    (case l11 => k_is)
    (case c11 => k_is)
    (case k11 => k_is)
    (case a12 => k_is)
    (case l12 => k_is)
    (case c12 => k_is)
    (case k12 => k_is)
    (case a13 => k_is)
    (case l13 => k_is)
    (case c13 => k_is)
    (case k13 => k_is)
    (case z_bool => k_is)
    (case z_int => k_is)
    (case z_isinstance => k_is)
    (case z_len => k_is)
    (case z_list => k_is)
    (case z_max => k_is)
    (case z_min => k_is)
    (case z_range => k_is)
    (case z_str => k_is)
    (case z_tuple => k_is)
    (case z_zip => k_is)

