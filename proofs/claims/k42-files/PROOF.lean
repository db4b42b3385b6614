import PyProof.Rows.All
import Wide.All
import OpenK.AllK
import Wide.FinOn
import HandS.ForMost
import HandS.IsInst
import HandS.Flow
import HandS.Walk
import HandS.WordsExc
import HandS.NoneIn
import PySem.Challenge.RW_quillrun_k42_files_keep_a_beginning
set_option Elab.async false
set_option linter.all false
set_option maxRecDepth 100000
/-! The layer Q: meanings (plain Lean functions over plain values and a store) of the text's defs, and why the machine does as they say. -/
namespace Q
open PySem PySem.Spec PyProof.Rows L2 TL

abbrev Fr := PySem.W.Frag
/-- plain values: fl a list that nobody changes any more, kl one of the written part, ref an object of the store -/
inductive U where
  | non | bl (b : Bool) | int (i : Int) | str (s : List Nat) | tup (us : List U) | fl (us : List U) | kl (us : List U) | ref (n : Nat)
/-- keys of dicts -/
abbrev DK := Sum Int (List Nat)
inductive O where
  | lst (us : List U)
  | dK (kvs : List (DK × U))
  | dT (kvs : List (List DK × U))
  | ins (C : Nat) (fs : List (Str × U))
abbrev Sto := List O
abbrev Env' := List (Option U)
inductive R (α : Type) where
  | ok (a : α) (h : Sto)
  | bad
inductive RS where
  | nx (e : Env') (h : Sto)
  | rt (u : U) (h : Sto)
  | bk (e : Env') (h : Sto)
  | ct (e : Env') (h : Sto)
  | bad
abbrev EM := Env' → Sto → R U
abbrev TM := Env' → Sto → R Bool
abbrev AM := Env' → Sto → R (List U)
abbrev SM := Env' → Sto → RS
abbrev GM := U → Env' → Sto → RS
abbrev IM := Env' → Sto → R (Option (Nat × List U) × List U)
def R.bind {α β : Type} (r : R α) (f : α → Sto → R β) : R β := match r with
  | .ok a h => f a h
  | .bad => .bad
theorem R.bind_ok {α β : Type} {a : α} {h : Sto} {f : α → Sto → R β} : (R.ok a h).bind f = f a h := rfl
theorem R.bind_bad {α β : Type} {f : α → Sto → R β} : (R.bad : R α).bind f = .bad := rfl

structure G where
  al : List Addr
  F : Hp
structure Le (g g' : G) : Prop where
  al : ∃ b, g'.al = g.al ++ b
  F : ∀ a o, g.F a = some o → g'.F a = some o
theorem Le.refl (g : G) : Le g g := ⟨⟨[], by simp⟩, fun _ _ h => h⟩
theorem Le.trans {a b c : G} (x : Le a b) (y : Le b c) : Le a c := by
  obtain ⟨u, e1⟩ := x.al
  obtain ⟨v, e2⟩ := y.al
  exact ⟨⟨u ++ v, by rw [e2, e1, List.append_assoc]⟩, fun q o h => y.F q o (x.F q o h)⟩
theorem Le.get {g g' : G} (l : Le g g') {n : Nat} {a : Addr} (h : g.al[n]? = some a) : g'.al[n]? = some a := by
  obtain ⟨b, e⟩ := l.al
  rw [e, List.getElem?_append_left (List.getElem?_eq_some_iff.mp h).1]
  exact h

mutual
inductive Rep (K : Fr) (g : G) : V → U → Prop
  | non : Rep K g .non .non
  | bl (b : Bool) : Rep K g (.bl b) (.bl b)
  | int (i : Int) : Rep K g (.int i) (.int i)
  | str (s : List Nat) : Rep K g (.str ⟨s.toArray⟩) (.str s)
  | tup {a : Addr} {vs : List V} {us : List U} (h : SqT K g.F a vs) (r : Reps K g vs us) : Rep K g (.ref a) (.tup us)
  | fl {a : Addr} {vs : List V} {us : List U} (h : g.F a = some (.lst vs)) (r : Reps K g vs us) : Rep K g (.ref a) (.fl us)
  | kl {a : Addr} {vs : List V} {us : List U} (h : SqL K g.F a vs) (r : Reps K g vs us) : Rep K g (.ref a) (.kl us)
  | ref {a : Addr} {n : Nat} (h : g.al[n]? = some a) : Rep K g (.ref a) (.ref n)
inductive Reps (K : Fr) (g : G) : List V → List U → Prop
  | nil : Reps K g [] []
  | cons {v : V} {u : U} {vs : List V} {us : List U} (h : Rep K g v u) (r : Reps K g vs us) : Reps K g (v :: vs) (u :: us)
end

theorem rd_mono {F F' : Hp} {a : Addr} {u : HO} (e : ∀ a o, F a = some o → F' a = some o) (h : Rd F a u) : Rd F' a u := by
  rcases h with h | ⟨o, h⟩
  · exact .inl (e a _ h)
  · exact .inr ⟨o, e a _ h⟩
theorem sql_mono {K : Fr} {F F' : Hp} {a : Addr} {xs : List V} (e : ∀ a o, F a = some o → F' a = some o) (h : SqL K F a xs) : SqL K F' a xs := by
  rcases h with h | h
  · exact .inl (rd_mono e h)
  · exact .inr h
theorem sqt_mono {K : Fr} {F F' : Hp} {a : Addr} {xs : List V} (e : ∀ a o, F a = some o → F' a = some o) (h : SqT K F a xs) : SqT K F' a xs := by
  rcases h with h | h
  · exact .inl (rd_mono e h)
  · exact .inr h

mutual
theorem Rep.mono {K : Fr} {g g' : G} (l : Le g g') : ∀ {v : V} {u : U}, Rep K g v u → Rep K g' v u
  | _, _, .non => .non
  | _, _, .bl b => .bl b
  | _, _, .int i => .int i
  | _, _, .str s => .str s
  | _, _, .tup h r => .tup (sqt_mono l.F h) (Reps.mono l r)
  | _, _, .fl h r => .fl (l.F _ _ h) (Reps.mono l r)
  | _, _, .kl h r => .kl (sql_mono l.F h) (Reps.mono l r)
  | _, _, .ref h => .ref (l.get h)
theorem Reps.mono {K : Fr} {g g' : G} (l : Le g g') : ∀ {vs : List V} {us : List U}, Reps K g vs us → Reps K g' vs us
  | _, _, .nil => .nil
  | _, _, .cons h r => .cons (Rep.mono l h) (Reps.mono l r)
end
section
variable {K : Fr} {g g' : G} {vs ws : List V} {us ts : List U} {v : V} {u : U}
theorem Reps.len : ∀ {vs : List V} {us : List U}, Reps K g vs us → vs.length = us.length
  | _, _, .nil => rfl
  | _, _, .cons _ r => by simp [Reps.len r]
theorem Reps.app : ∀ {vs ws : List V} {us ts : List U}, Reps K g vs us → Reps K g ws ts → Reps K g (vs ++ ws) (us ++ ts)
  | _, _, _, _, .nil, s => s
  | _, _, _, _, .cons h r, s => .cons h (Reps.app r s)
theorem Reps.one (h : Rep K g v u) : Reps K g [v] [u] := .cons h .nil
theorem Reps.get : ∀ {vs : List V} {us : List U} {i : Nat} {u : U}, Reps K g vs us → us[i]? = some u → ∃ v, vs[i]? = some v ∧ Rep K g v u
  | _, _, _, _, .nil, h => by simp at h
  | _, _, 0, _, .cons h r, e => by simp at e; subst e; exact ⟨_, rfl, h⟩
  | _, _, i + 1, _, .cons h r, e => by simpa using Reps.get (i := i) r (by simpa using e)
theorem Reps.getV : ∀ {vs : List V} {us : List U} {i : Nat} {v : V}, Reps K g vs us → vs[i]? = some v → ∃ u, us[i]? = some u ∧ Rep K g v u
  | _, _, _, _, .nil, h => by simp at h
  | _, _, 0, _, .cons h r, e => by simp at e; subst e; exact ⟨_, rfl, h⟩
  | _, _, i + 1, _, .cons h r, e => by simpa using Reps.getV (i := i) r (by simpa using e)
theorem Reps.drop : ∀ {vs : List V} {us : List U} (i : Nat), Reps K g vs us → Reps K g (vs.drop i) (us.drop i)
  | _, _, 0, r => r
  | _, _, _ + 1, .nil => .nil
  | _, _, i + 1, .cons _ r => Reps.drop i r
theorem Reps.take : ∀ {vs : List V} {us : List U} (i : Nat), Reps K g vs us → Reps K g (vs.take i) (us.take i)
  | _, _, 0, _ => .nil
  | _, _, _ + 1, .nil => .nil
  | _, _, i + 1, .cons h r => .cons h (Reps.take i r)
theorem Reps.set : ∀ {vs : List V} {us : List U} (i : Nat) {v : V} {u : U}, Rep K g v u → Reps K g vs us → Reps K g (vs.set i v) (us.set i u)
  | _, _, _, _, _, _, .nil => .nil
  | _, _, 0, _, _, h, .cons _ r => .cons h r
  | _, _, i + 1, _, _, h, .cons h' r => .cons h' (Reps.set i h r)
theorem Reps.erase : ∀ {vs : List V} {us : List U} (i : Nat), Reps K g vs us → Reps K g (vs.eraseIdx i) (us.eraseIdx i)
  | _, _, _, .nil => .nil
  | _, _, 0, .cons _ r => r
  | _, _, i + 1, .cons h r => .cons h (Reps.erase i r)
theorem Reps.dropLast : ∀ {vs : List V} {us : List U}, Reps K g vs us → Reps K g vs.dropLast us.dropLast := fun {vs us} r => by
  rw [List.dropLast_eq_take, List.dropLast_eq_take, r.len]
  exact r.take _
theorem Reps.rev : ∀ {vs : List V} {us : List U}, Reps K g vs us → Reps K g vs.reverse us.reverse
  | _, _, .nil => .nil
  | _, _, .cons h r => by rw [List.reverse_cons, List.reverse_cons]; exact (Reps.rev r).app (.one h)
/-- ints, texts -/
theorem Reps.ints : ∀ {vs : List V} {ns : List Int}, Reps K g vs (ns.map U.int) → vs = ns.map V.int
  | _, [], .nil => rfl
  | _, _ :: _, .cons h r => by cases h; rw [Reps.ints r]; rfl
theorem Reps.ofInts : ∀ (ns : List Int), Reps K g (ns.map V.int) (ns.map U.int)
  | [] => .nil
  | n :: r => .cons (.int n) (Reps.ofInts r)
theorem Reps.strs : ∀ {vs : List V} {ns : List (List Nat)}, Reps K g vs (ns.map U.str) → vs = (ns.map fun s => (⟨s.toArray⟩ : Str)).map V.str
  | _, [], .nil => rfl
  | _, _ :: _, .cons h r => by cases h; rw [Reps.strs r]; rfl
theorem Reps.bls : ∀ {vs : List V} {ns : List Bool}, Reps K g vs (ns.map U.bl) → vs = ns.map V.bl
  | _, [], .nil => rfl
  | _, _ :: _, .cons h r => by cases h; rw [Reps.bls r]; rfl
end

/-- a key -/
def kk : DK → Key
  | .inl i => .inl i
  | .inr s => .inr ⟨s.toArray⟩
inductive RepK (K : Fr) (g : G) : List (Key × V) → List (DK × U) → Prop
  | nil : RepK K g [] []
  | cons {k : DK} {v : V} {u : U} {vs us} (h : Rep K g v u) (r : RepK K g vs us) : RepK K g ((kk k, v) :: vs) ((k, u) :: us)
inductive RepT (K : Fr) (g : G) : List (List Key × V) → List (List DK × U) → Prop
  | nil : RepT K g [] []
  | cons {k : List DK} {v : V} {u : U} {vs us} (h : Rep K g v u) (r : RepT K g vs us) : RepT K g ((k.map kk, v) :: vs) ((k, u) :: us)
inductive RepF (K : Fr) (g : G) : List (Str × V) → List (Str × U) → Prop
  | nil : RepF K g [] []
  | cons {k : Str} {v : V} {u : U} {vs us} (h : Rep K g v u) (r : RepF K g vs us) : RepF K g ((k, v) :: vs) ((k, u) :: us)
theorem RepK.mono {K : Fr} {g g' : G} (l : Le g g') : ∀ {vs us}, RepK K g vs us → RepK K g' vs us
  | _, _, .nil => .nil
  | _, _, .cons h r => .cons (h.mono l) (RepK.mono l r)
theorem RepT.mono {K : Fr} {g g' : G} (l : Le g g') : ∀ {vs us}, RepT K g vs us → RepT K g' vs us
  | _, _, .nil => .nil
  | _, _, .cons h r => .cons (h.mono l) (RepT.mono l r)
theorem RepF.mono {K : Fr} {g g' : G} (l : Le g g') : ∀ {vs us}, RepF K g vs us → RepF K g' vs us
  | _, _, .nil => .nil
  | _, _, .cons h r => .cons (h.mono l) (RepF.mono l r)

def ObR (K : Fr) (g : G) (H : Hp) (a : Addr) : O → Prop
  | .lst us => ∃ vs, H a = some (.lst vs) ∧ Reps K g vs us
  | .dK us => ∃ vs, H a = some (.dK vs) ∧ RepK K g vs us
  | .dT us => ∃ vs, H a = some (.dT vs) ∧ RepT K g vs us
  | .ins C us => ∃ dx vs, H a = some (.ins C dx vs) ∧ RepF K g vs us
theorem ObR.mono {K : Fr} {g g' : G} {H H' : Hp} {a : Addr} (l : Le g g') (e : H' a = H a) : ∀ {o : O}, ObR K g H a o → ObR K g' H' a o
  | .lst _, ⟨vs, h, r⟩ => ⟨vs, e.trans h, r.mono l⟩
  | .dK _, ⟨vs, h, r⟩ => ⟨vs, e.trans h, r.mono l⟩
  | .dT _, ⟨vs, h, r⟩ => ⟨vs, e.trans h, r.mono l⟩
  | .ins _ _, ⟨dx, vs, h, r⟩ => ⟨dx, vs, e.trans h, r.mono l⟩
theorem ObR.is {K : Fr} {g : G} {H : Hp} {a : Addr} : ∀ {o : O}, ObR K g H a o → ∃ u, H a = some u
  | .lst _, ⟨vs, h, r⟩ => ⟨_, h⟩
  | .dK _, ⟨vs, h, r⟩ => ⟨_, h⟩
  | .dT _, ⟨vs, h, r⟩ => ⟨_, h⟩
  | .ins _ _, ⟨dx, vs, h, r⟩ => ⟨_, h⟩
structure HR (K : Fr) (g : G) (H : Hp) (h : Sto) : Prop where
  ex : ∀ a o, g.F a = some o → H a = some o
  len : g.al.length = h.length
  nd : g.al.Nodup
  fr : ∀ a, a ∈ g.al → g.F a = none
  ob : ∀ (n : Nat) a o, g.al[n]? = some a → h[n]? = some o → ObR K g H a o
section
variable {K : Fr} {g g' : G} {H H' : Hp} {h h' : Sto} {a p : Addr} {vs : List V} {us : List U} {v : V} {u : U} {n : Nat}
theorem HR.sqT (x : HR K g H h) (q : SqT K g.F a vs) : SqT K H a vs := sqt_mono x.ex q
theorem HR.sqL (x : HR K g H h) (q : SqL K g.F a vs) : SqL K H a vs := sql_mono x.ex q
theorem HR.get (x : HR K g H h) {o : O} (e : h[n]? = some o) : ∃ a, g.al[n]? = some a ∧ ObR K g H a o := by
  have h1 : n < g.al.length := by rw [x.len]; exact (List.getElem?_eq_some_iff.mp e).1
  exact ⟨g.al[n], List.getElem?_eq_getElem h1, x.ob n _ o (List.getElem?_eq_getElem h1) e⟩
theorem HR.is (x : HR K g H h) (m : a ∈ g.al) : ∃ u, H a = some u := by
  obtain ⟨n, hn, e⟩ := List.mem_iff_getElem.mp m
  have h1 : n < h.length := by rw [← x.len]; exact hn
  exact ObR.is (x.ob n a h[n] (by rw [List.getElem?_eq_getElem hn, e]) (List.getElem?_eq_getElem h1))
theorem HR.notF (x : HR K g H h) (q : H p = none) : g.F p = none := by
  cases e : g.F p with
  | none => rfl
  | some o => rw [x.ex p o e] at q; cases q
theorem HR.notA (x : HR K g H h) (q : H p = none) : p ∉ g.al := fun m => by
  obtain ⟨u, e⟩ := x.is m
  rw [e] at q; cases q
theorem HR.neA (x : HR K g H h) (q : H p = none) {n : Nat} (e : g.al[n]? = Option.some a) : a ≠ p := fun z => by
  subst z
  exact x.notA q (List.mem_of_getElem? e)
theorem HR.neM (x : HR K g H h) (q : H p = none) (e : a ∈ g.al) : a ≠ p := fun z => by
  subst z
  exact x.notA q e
/-- something that nobody here knows comes -/
theorem HR.skip (x : HR K g H h) (q : H p = none) (o : HO) : HR K g (upd H p o) h where
  ex := fun a u e => by rw [upd_ne (ne_of_none (x.ex a u e) q)]; exact x.ex a u e
  len := x.len
  nd := x.nd
  fr := x.fr
  ob := fun n a u e1 e2 => (x.ob n a u e1 e2).mono (Le.refl g) (upd_ne (x.neA q e1))
/-- a new thing that lasts -/
def G.put (g : G) (p : Addr) (o : HO) : G := ⟨g.al, upd g.F p o⟩
theorem Le.put (q : g.F p = none) (o : HO) : Le g (g.put p o) := ⟨⟨[], by simp [G.put]⟩, fun a u e => by
  show upd g.F p o a = some u
  rw [upd_ne (ne_of_none e q)]; exact e⟩
theorem HR.put (x : HR K g H h) (q : H p = none) (o : HO) : HR K (g.put p o) (upd H p o) h where
  ex := fun a u e => by
    by_cases z : a = p
    · subst z
      have e : upd g.F a o a = Option.some u := e
      rw [upd_same] at e; rw [upd_same]; exact e
    · have e : upd g.F p o a = Option.some u := e
      rw [upd_ne z] at e; rw [upd_ne z]; exact x.ex a u e
  len := x.len
  nd := x.nd
  fr := fun a m => by
    show upd g.F p o a = none
    rw [upd_ne (x.neM q m)]; exact x.fr a m
  ob := fun n a u e1 e2 => (x.ob n a u e1 e2).mono (Le.put (x.notF q) o) (upd_ne (x.neA q e1))
theorem HR.newTup (x : HR K g H h) (q : H p = none) (r : Reps K g vs us) : Le g (g.put p (.tup vs)) ∧ HR K (g.put p (.tup vs)) (upd H p (.tup vs)) h ∧ Rep K (g.put p (.tup vs)) (.ref p) (.tup us) := by
  have l := Le.put (g := g) (x.notF q) (.tup vs)
  exact ⟨l, x.put q _, .tup (.inl (.inl (show upd g.F p (.tup vs) p = _ from upd_same))) (r.mono l)⟩
theorem HR.newFl (x : HR K g H h) (q : H p = none) (r : Reps K g vs us) : Le g (g.put p (.lst vs)) ∧ HR K (g.put p (.lst vs)) (upd H p (.lst vs)) h ∧ Rep K (g.put p (.lst vs)) (.ref p) (.fl us) := by
  have l := Le.put (g := g) (x.notF q) (.lst vs)
  exact ⟨l, x.put q _, .fl (show upd g.F p (.lst vs) p = _ from upd_same) (r.mono l)⟩
/-- a new object of the store -/
def G.new (g : G) (p : Addr) : G := ⟨g.al ++ [p], g.F⟩
theorem Le.new : Le g (g.new p) := ⟨⟨[p], rfl⟩, fun _ _ e => e⟩
theorem HR.new (x : HR K g H h) (q : H p = none) {o : HO} {b : O} (r : ObR K (g.new p) (upd H p o) p b) : HR K (g.new p) (upd H p o) (h ++ [b]) where
  ex := fun a u e => by rw [upd_ne (ne_of_none (x.ex a u e) q)]; exact x.ex a u e
  len := by simp [G.new, x.len]
  nd := by
    show (g.al ++ [p]).Nodup
    rw [List.nodup_append]
    exact ⟨x.nd, by simp, fun a m b mb => by
      rw [List.mem_singleton] at mb
      subst mb
      exact fun z => x.notA q (z ▸ m)⟩
  fr := fun a m => by
    rcases List.mem_append.mp m with m | m
    · exact x.fr a m
    · rw [List.mem_singleton] at m
      subst m
      exact x.notF q
  ob := fun n a u e1 e2 => by
    have e1 : (g.al ++ [p])[n]? = Option.some a := e1
    by_cases hn : n < h.length
    · rw [List.getElem?_append_left (by rw [x.len]; exact hn)] at e1
      rw [List.getElem?_append_left hn] at e2
      exact (x.ob n a u e1 e2).mono Le.new (upd_ne (x.neA q e1))
    · have h2 : n < (h ++ [b]).length := (List.getElem?_eq_some_iff.mp e2).1
      have e3 : n = h.length := by simp at h2; omega
      subst e3
      rw [List.getElem?_append_right (Nat.le_refl _), Nat.sub_self] at e2
      rw [List.getElem?_append_right (by rw [x.len]; exact Nat.le_refl _), x.len, Nat.sub_self] at e1
      simp at e1 e2
      subst e1; subst e2
      exact r
theorem HR.newRef (x : HR K g H h) : Rep K (g.new p) (.ref p) (.ref h.length) := .ref (by
  show (g.al ++ [p])[h.length]? = _
  rw [← x.len]; simp)
theorem HR.newLst (x : HR K g H h) (q : H p = none) (r : Reps K g vs us) : HR K (g.new p) (upd H p (.lst vs)) (h ++ [.lst us]) :=
  x.new q ⟨vs, upd_same, r.mono Le.new⟩
/-- an object of the store changes -/
theorem HR.set (x : HR K g H h) (e : g.al[n]? = some a) {o : HO} {b : O} (r : ObR K g (upd H a o) a b) : HR K g (upd H a o) (h.set n b) where
  ex := fun c u q => by
    have : c ≠ a := fun z => by
      have := x.fr a (List.mem_of_getElem? e)
      rw [← z, q] at this; cases this
    rw [upd_ne this]; exact x.ex c u q
  len := by simp [x.len]
  nd := x.nd
  fr := x.fr
  ob := fun m c u e1 e2 => by
    by_cases hm : m = n
    · subst hm
      rw [e] at e1; cases e1
      have hl : m < h.length := by rw [← x.len]; exact (List.getElem?_eq_some_iff.mp e).1
      rw [List.getElem?_set_self hl] at e2
      cases e2
      exact r
    · rw [List.getElem?_set_ne (Ne.symm hm)] at e2
      have ne : c ≠ a := fun z => by
        subst z
        exact hm (nd_ix x.nd e1 e)
      exact (x.ob m c u e1 e2).mono (Le.refl g) (upd_ne ne)
theorem HR.setLst (x : HR K g H h) (e : g.al[n]? = some a) (r : Reps K g vs us) : HR K g (upd H a (.lst vs)) (h.set n (.lst us)) := x.set e ⟨vs, upd_same, r⟩
theorem HR.lst (x : HR K g H h) (e : h[n]? = some (.lst us)) (q : g.al[n]? = some a) : ∃ vs, H a = some (.lst vs) ∧ Reps K g vs us := x.ob n a _ q e
end

/-! ### the judgements -/
def ER (K : Fr) (g : G) (σ : L2.St) (env : Env') : Prop := σ.length = env.length ∧ ∀ (i : Nat) u, env[i]? = some (some u) → ∃ v, σ[i]? = some (some v) ∧ Rep K g v u
theorem ER.mono {K : Fr} {g g' : G} {σ : L2.St} {env : Env'} (l : Le g g') (e : ER K g σ env) : ER K g' σ env := ⟨e.1, fun i u q => by
  obtain ⟨v, a, b⟩ := e.2 i u q
  exact ⟨v, a, b.mono l⟩⟩
theorem ER.set {K : Fr} {g : G} {σ : L2.St} {env : Env'} {v : V} {u : U} (e : ER K g σ env) (i : Nat) (r : Rep K g v u) : ER K g (σ.set i (some v)) (env.set i (some u)) := by
  refine ⟨by simp [e.1], fun j w q => ?_⟩
  by_cases hj : i = j
  · subst hj
    by_cases hl : i < env.length
    · rw [List.getElem?_set_self hl] at q
      cases q
      exact ⟨v, by rw [List.getElem?_set_self (by rw [e.1]; exact hl)], r⟩
    · rw [List.getElem?_eq_none (by simpa using hl)] at q
      cases q
  · rw [List.getElem?_set_ne hj] at q
    obtain ⟨v', a, b⟩ := e.2 j w q
    exact ⟨v', by rw [List.getElem?_set_ne hj]; exact a, b⟩

def WE (K : Fr) (g : G) (r : R U) (Q : VK) : Prop := match r with
  | .ok u h => ∀ v H g', Le g g' → HR K g' H h → Rep K g' v u → Q v H
  | .bad => False
def WT (K : Fr) (g : G) (r : R Bool) (Q : Bool → Hp → Prop) : Prop := match r with
  | .ok b h => ∀ H g', Le g g' → HR K g' H h → Q b H
  | .bad => False
def WA (K : Fr) (g : G) (r : R (List U)) (Q : List V → Hp → Prop) : Prop := match r with
  | .ok us h => ∀ vs H g', Le g g' → HR K g' H h → Reps K g' vs us → Q vs H
  | .bad => False
def WS (K : Fr) (g : G) (r : RS) (D : Ends) : Prop := match r with
  | .nx e h => ∀ σ H g', Le g g' → HR K g' H h → ER K g' σ e → D.nx σ H
  | .rt u h => ∀ v H g', Le g g' → HR K g' H h → Rep K g' v u → D.rt v H
  | .bk e h => ∀ σ H g', Le g g' → HR K g' H h → ER K g' σ e → D.bk σ H
  | .ct e h => ∀ σ H g', Le g g' → HR K g' H h → ER K g' σ e → D.ct σ H
  | .bad => False
section
variable {K : Fr} {g g' : G} {X : Cx}
theorem WE.mono {r : R U} {Q : VK} (l : Le g g') (w : WE K g r Q) : WE K g' r Q := by
  cases r with
  | ok u h => exact fun v H g2 l2 => w v H g2 (l.trans l2)
  | bad => exact w
theorem WT.mono {r : R Bool} {Q : Bool → Hp → Prop} (l : Le g g') (w : WT K g r Q) : WT K g' r Q := by
  cases r with
  | ok u h => exact fun H g2 l2 => w H g2 (l.trans l2)
  | bad => exact w
theorem WA.mono {r : R (List U)} {Q : List V → Hp → Prop} (l : Le g g') (w : WA K g r Q) : WA K g' r Q := by
  cases r with
  | ok u h => exact fun v H g2 l2 => w v H g2 (l.trans l2)
  | bad => exact w
theorem WS.mono {r : RS} {D : Ends} (l : Le g g') (w : WS K g r D) : WS K g' r D := by
  cases r with
  | nx e h => exact fun σ H g2 l2 => w σ H g2 (l.trans l2)
  | rt u h => exact fun v H g2 l2 => w v H g2 (l.trans l2)
  | bk e h => exact fun σ H g2 l2 => w σ H g2 (l.trans l2)
  | ct e h => exact fun σ H g2 l2 => w σ H g2 (l.trans l2)
  | bad => exact w
def tM (K : Fr) (m : EM) : TE := fun σ H Q => ∃ g env h, HR K g H h ∧ ER K g σ env ∧ WE K g (m env h) Q
def bM (K : Fr) (m : TM) : TT := fun σ H Q => ∃ g env h, HR K g H h ∧ ER K g σ env ∧ WT K g (m env h) Q
def aM (K : Fr) (m : AM) : TA := fun σ H Q => ∃ g env h, HR K g H h ∧ ER K g σ env ∧ WA K g (m env h) Q
def sM (K : Fr) (m : SM) : TS := fun D σ H => ∃ g env h, HR K g H h ∧ ER K g σ env ∧ WS K g (m env h) D
def WG (K : Fr) (g : G) (r : RS) (Q : L2.St → Hp → Prop) : Prop := match r with
  | .nx e h => ∀ σ H g', Le g g' → HR K g' H h → ER K g' σ e → Q σ H
  | _ => False
theorem WG.mono {r : RS} {Q : L2.St → Hp → Prop} (l : Le g g') (w : WG K g r Q) : WG K g' r Q := by
  cases r with
  | nx e h => exact fun σ H g2 l2 => w σ H g2 (l.trans l2)
  | rt u h => exact w
  | bk e h => exact w
  | ct e h => exact w
  | bad => exact w
def gM (K : Fr) (m : GM) : TG := fun v σ H Q => ∃ g env h u, HR K g H h ∧ ER K g σ env ∧ Rep K g v u ∧ WG K g (m u env h) Q
theorem PE.weak {e : Expr} {t t' : TE} (p : PE X e t) (h : ∀ σ H Q, t' σ H Q → t σ H Q) : PE X e t' := ⟨fun pins s σ H Q I q => p.run pins s σ H Q I (h σ H Q q)⟩
theorem PT.weak {e : Expr} {t t' : TT} (p : PT X e t) (h : ∀ σ H Q, t' σ H Q → t σ H Q) : PT X e t' := ⟨fun pins s σ H Q I q => p.run pins s σ H Q I (h σ H Q q)⟩
theorem PW.weak {e : Expr} {t t' : TT} (p : PW X e t) (h : ∀ σ H Q, t' σ H Q → t σ H Q) : PW X e t' := ⟨fun wh pins s σ H Q I q => p.run wh pins s σ H Q I (h σ H Q q)⟩
theorem PA.weak {e : List Expr} {t t' : TA} (p : PA X e t) (h : ∀ σ H Q, t' σ H Q → t σ H Q) : PA X e t' := ⟨fun pos pins s σ H Q I q => p.run pos pins s σ H Q I (h σ H Q q)⟩
theorem PS.weak {e : Stmt} {t t' : TS} (p : PS X e t) (h : ∀ D σ H, t' D σ H → t D σ H) : PS X e t' := ⟨fun pins s σ H D I q => p.run pins s σ H D I (h D σ H q)⟩
theorem PSs.weak {e : List Stmt} {t t' : TS} (p : PSs X e t) (h : ∀ D σ H, t' D σ H → t D σ H) : PSs X e t' := ⟨fun pins s σ H D I q => p.run pins s σ H D I (h D σ H q)⟩
theorem PG.weak {e : Expr} {t t' : TG} (p : PG X e t) (h : ∀ v σ H Q, t' v σ H Q → t v σ H Q) : PG X e t' := ⟨fun pins s σ H v u Q I r q => p.run pins s σ H v u Q I r (h v σ H Q q)⟩
/-- a part is evaluated, then what is behind -/
theorem tM_to {m : EM} {σ : L2.St} {H : Hp} {env : Env'} {h : Sto} {Q : VK} (x : HR K g H h) (e : ER K g σ env) (w : WE K g (m env h) Q) : tM K m σ H Q := ⟨g, env, h, x, e, w⟩
theorem WE.bind {α : Type} {r : R U} {f : U → Sto → R α} {Q : VK} (k : ∀ u h, r = .ok u h → ∀ v H g', Le g g' → HR K g' H h → Rep K g' v u → Q v H) (nb : r.bind f ≠ .bad) : WE K g r Q := by
  cases r with
  | ok u h => exact k u h rfl
  | bad => exact absurd rfl nb
end
end Q

set_option Elab.async false
set_option linter.all false
set_option maxRecDepth 100000
set_option maxHeartbeats 1000000
namespace Q
open PySem PySem.Spec PyProof.Rows L2 TL
section
variable {K : Fr} {g g' : G} {X : Cx} {H : Hp} {h : Sto} {v w : V} {x y : U}
/-! ### what a value is -/
/-- the items of a list that stands by itself -/
def mL (h : Sto) : U → Option (List U)
  | .fl us => some us
  | .ref n => match h[n]? with
    | some (.lst us) => some us
    | _ => none
  | _ => none
/-- of any list -/
def aL (h : Sto) : U → Option (List U)
  | .kl us => some us
  | x => mL h x
/-- of a list or a tuple -/
def sL (h : Sto) : U → Option (List U)
  | .tup us => some us
  | x => aL h x
theorem mL_of {us : List U} (hr : HR K g H h) (r : Rep K g v x) (e : mL h x = some us) : ∃ a vs, v = .ref a ∧ H a = some (.lst vs) ∧ Reps K g vs us := by
  cases r with
  | fl q s => cases e; exact ⟨_, _, rfl, hr.ex _ _ q, s⟩
  | ref q =>
    rename_i a n
    cases e2 : h[n]? with
    | none => simp [mL, e2] at e
    | some o =>
      cases o with
      | lst ts =>
        simp [mL, e2] at e
        subst e
        obtain ⟨vs, h1, h2⟩ := hr.ob n a _ q e2
        exact ⟨_, _, rfl, h1, h2⟩
      | _ => simp [mL, e2] at e
  | _ => simp [mL] at e
theorem aL_of {us : List U} (hr : HR K g H h) (r : Rep K g v x) (e : aL h x = some us) : ∃ a vs, v = .ref a ∧ SqL K H a vs ∧ Reps K g vs us := by
  cases r with
  | kl q s => cases e; exact ⟨_, _, rfl, hr.sqL q, s⟩
  | fl q s => cases e; exact ⟨_, _, rfl, .inl (.inl (hr.ex _ _ q)), s⟩
  | ref q =>
    obtain ⟨a, vs, h1, h2, h3⟩ := mL_of hr (.ref q) (show mL h (.ref _) = _ from e)
    exact ⟨a, vs, h1, .inl (.inl h2), h3⟩
  | _ => simp [aL, mL] at e
theorem sL_of {us : List U} (hr : HR K g H h) (r : Rep K g v x) (e : sL h x = some us) : ∃ a vs, v = .ref a ∧ (SqL K H a vs ∨ SqT K H a vs) ∧ Reps K g vs us := by
  cases r with
  | tup q s => cases e; exact ⟨_, _, rfl, .inr (hr.sqT q), s⟩
  | kl q s => cases e; exact ⟨_, _, rfl, .inl (hr.sqL q), s⟩
  | fl q s => cases e; exact ⟨_, _, rfl, .inl (.inl (.inl (hr.ex _ _ q))), s⟩
  | ref q =>
    obtain ⟨a, vs, h1, h2, h3⟩ := mL_of hr (.ref q) (show mL h (.ref _) = _ from e)
    exact ⟨a, vs, h1, .inl (.inl (.inl h2)), h3⟩
  | _ => simp [sL, aL, mL] at e
theorem tup_of {us : List U} (hr : HR K g H h) (r : Rep K g v (.tup us)) : ∃ a vs, v = .ref a ∧ SqT K H a vs ∧ Reps K g vs us := by
  cases r with
  | tup q s => exact ⟨_, _, rfl, hr.sqT q, s⟩

/-! ### operators by values -/
def BinOK (K : Fr) (r : R2) (f : U → U → Sto → R U) : Prop := ∀ g H h v w x y Q, HR K g H h → Rep K g v x → Rep K g w y → WE K g (f x y h) Q → r v w H Q
def mVar (i : Nat) : EM := fun env h => match env[i]? with
  | some (some u) => .ok u h
  | _ => .bad
def mC (u : U) : EM := fun _ h => .ok u h
def mBin (f : U → U → Sto → R U) (a b : EM) : EM := fun env h => (a env h).bind fun x h1 => (b env h1).bind fun y h2 => f x y h2
theorem se_var {i : Nat} {x : Str} {pos : Pos} (hN : X.N[i]? = some x := by rfl) (hv : Vis X.env.scope x := by first | exact Or.inl rfl | exact Or.inr (Or.inl rfl) | exact Or.inr (Or.inr rfl))
    (hd : (x == ("__debug__" : Str)) = false := by decide) (hcd : (x == ("__classdict__" : Str)) = false := by decide) : PE X (.Name x pos) (tM K (mVar i)) := by
  refine PE.weak (pe_var hN hv hd hcd) fun σ H Q q => ?_
  obtain ⟨g, env, h, hr, er, w⟩ := q
  unfold mVar at w
  split at w
  · rename_i u e
    obtain ⟨v, a, b⟩ := er.2 i u e
    exact ⟨v, a, w v H g (Le.refl g) hr b⟩
  · exact w.elim
theorem se_int {i j pos} : PE X (.Constant (.int i) j pos) (tM K (mC (.int i))) := PE.weak pe_int fun σ H Q ⟨g, env, h, hr, er, w⟩ => w _ H g (Le.refl g) hr (.int i)
theorem se_bl {i j pos} : PE X (.Constant (.bool i) j pos) (tM K (mC (.bl i))) := PE.weak pe_bl fun σ H Q ⟨g, env, h, hr, er, w⟩ => w _ H g (Le.refl g) hr (.bl i)
theorem se_non {j pos} : PE X (.Constant .none j pos) (tM K (mC .non)) := PE.weak pe_non fun σ H Q ⟨g, env, h, hr, er, w⟩ => w _ H g (Le.refl g) hr .non
theorem se_str {x : Str} {s : List Nat} {j pos} (e : x.cps.toList = s := by rfl) : PE X (.Constant (.str x) j pos) (tM K (mC (.str s))) := by
  subst e
  exact PE.weak pe_str fun σ H Q ⟨g, env, h, hr, er, w⟩ => w _ H g (Le.refl g) hr (.str _)
theorem bin_to {a b : EM} {f : U → U → Sto → R U} {r : R2} (ok : BinOK K r f) {σ : L2.St} {Q : VK} (t : tM K (mBin f a b) σ H Q) : tOp r (tM K a) (tM K b) σ H Q := by
  obtain ⟨g, env, h, hr, er, w⟩ := t
  refine ⟨g, env, h, hr, er, ?_⟩
  unfold mBin at w
  cases ea : a env h with
  | bad => rw [ea] at w; exact w.elim
  | ok x h1 =>
    rw [ea] at w
    have w : WE K g ((b env h1).bind fun y h2 => f x y h2) Q := w
    intro v H1 g1 l1 hr1 rv
    refine ⟨g1, env, h1, hr1, er.mono l1, ?_⟩
    cases eb : b env h1 with
    | bad => rw [eb] at w; exact w.elim
    | ok y h2 =>
      rw [eb] at w
      intro u H2 g2 l2 hr2 ru
      exact ok g2 H2 h2 v u x y Q hr2 (rv.mono l2) ru (WE.mono (l1.trans l2) w)
theorem se_bin {op : Operator} {r : R2} {f : U → U → Sto → R U} {a b : Expr} {ma mb : EM} {pos : Pos} (ho : OpR X (binaryOp op) r) (ok : BinOK K r f) (ha : PE X a (tM K ma)) (hb : PE X b (tM K mb)) :
    PE X (.BinOp a op b pos) (tM K (mBin f ma mb)) := PE.weak (pe_op ho ha hb) fun σ H Q t => bin_to ok t

theorem str_app (s t : List Nat) : ((⟨s.toArray⟩ : Str) ++ (⟨t.toArray⟩ : Str)) = ⟨(s ++ t).toArray⟩ := by
  apply ext_tl
  rw [tl_append, tl_mk, tl_mk, tl_mk]
theorem str_len (s : List Nat) : (⟨s.toArray⟩ : Str).length = s.length := by rw [len_tl, tl_mk]
def uAdd (x y : U) (h : Sto) : R U := match x, y with
  | .int i, .int j => .ok (.int (i + j)) h
  | .str s, .str t => if s.length + t.length ≤ 16000000 then .ok (.str (s ++ t)) h else .bad
  | x, y => match mL h x, mL h y with
    | some us, some ts => if us.length + ts.length ≤ 16000000 then .ok (.ref h.length) (h ++ [.lst (us ++ ts)]) else .bad
    | _, _ => .bad
abbrev rAddA : R2 := fun x y H Q => (∃ i j, x = V.int i ∧ y = V.int j ∧ Q (.int (i + j)) H) ∨ (∃ i j, x = V.str i ∧ y = V.str j ∧ i.length + j.length ≤ sizeLine ∧ Q (.str (i ++ j)) H) ∨ rCat x y H Q
theorem opr_add : OpR X (binaryOp .Add) rAddA := op_add.or (op_add_str.or op_cat)
theorem sz16 {n : Nat} (h : n ≤ 16000000) : n ≤ sizeLine := Nat.le_trans h (by decide)
theorem ok_add : BinOK K rAddA uAdd := by
  intro g H h v w x y Q hr rx ry t
  unfold uAdd at t
  split at t
  · cases rx; cases ry
    exact .inl ⟨_, _, rfl, rfl, t _ _ g (Le.refl g) hr (.int _)⟩
  · cases rx; cases ry
    split at t
    · rename_i z
      refine .inr (.inl ⟨_, _, rfl, rfl, by rw [str_len, str_len]; exact sz16 z, ?_⟩)
      rw [str_app]
      exact t _ _ g (Le.refl g) hr (.str _)
    · exact t.elim
  · split at t
    · rename_i us ts e1 e2
      split at t
      · rename_i z
        obtain ⟨a, vs, rfl, h1, r1⟩ := mL_of hr rx e1
        obtain ⟨b, ws, rfl, h2, r2⟩ := mL_of hr ry e2
        refine .inr (.inr ⟨a, b, vs, ws, rfl, rfl, h1, h2, by rw [r1.len, r2.len]; exact sz16 z, fun p hp => ?_⟩)
        exact t _ _ (g.new p) Le.new (hr.newLst hp (r1.app r2)) hr.newRef
      · exact t.elim
    · exact t.elim
theorem se_add {a b : Expr} {ma mb : EM} {pos : Pos} (ha : PE X a (tM K ma)) (hb : PE X b (tM K mb)) : PE X (.BinOp a .Add b pos) (tM K (mBin uAdd ma mb)) := se_bin opr_add ok_add ha hb
/-- ints under a condition -/
def uI (c : Int → Int → Prop) [∀ i j, Decidable (c i j)] (f : Int → Int → Int) (x y : U) (h : Sto) : R U := match x, y with
  | .int i, .int j => if c i j then .ok (.int (f i j)) h else .bad
  | _, _ => .bad
theorem ok_I {C : Int → Int → Prop} {c : Int → Int → Prop} [∀ i j, Decidable (c i j)] {f : Int → Int → Int} (hc : ∀ i j, c i j → C i j) : BinOK K (rI C fun i j => .int (f i j)) (uI c f) := by
  intro g H h v w x y Q hr rx ry t
  unfold uI at t
  split at t
  · cases rx; cases ry
    split at t
    · rename_i z
      exact ⟨_, _, rfl, rfl, hc _ _ z, t _ _ g (Le.refl g) hr (.int _)⟩
    · exact t.elim
  · exact t.elim
def cT (_ _ : Int) : Prop := True
instance : ∀ i j, Decidable (cT i j) := fun _ _ => isTrue trivial
def cMul (i j : Int) : Prop := (-18446744073709551616 < i ∧ i < 18446744073709551616) ∨ (-18446744073709551616 < j ∧ j < 18446744073709551616)
instance : ∀ i j, Decidable (cMul i j) := fun i j => by unfold cMul; exact inferInstance
def cDiv (_ j : Int) : Prop := 0 < j ∧ j < 1073741824
instance : ∀ i j, Decidable (cDiv i j) := fun i j => by unfold cDiv; exact inferInstance
def cMod (_ j : Int) : Prop := 0 < j
instance : ∀ i j, Decidable (cMod i j) := fun i j => by unfold cMod; exact inferInstance
def cPow (i j : Int) : Prop := 0 ≤ j ∧ j ≤ 1000 ∧ 0 ≤ i ∧ i < 1000
instance : ∀ i j, Decidable (cPow i j) := fun i j => by unfold cPow; exact inferInstance
abbrev uSub := uI cT (fun i j => i - j)
abbrev uMul := uI cMul (fun i j => i * j)
abbrev uDiv := uI cDiv (fun i j => i / j)
abbrev uMod := uI cMod (fun i j => i % j)
abbrev uPow := uI cPow (fun i j => i ^ j.toNat)
theorem se_sub {a b : Expr} {ma mb : EM} {pos : Pos} (ha : PE X a (tM K ma)) (hb : PE X b (tM K mb)) : PE X (.BinOp a .Sub b pos) (tM K (mBin uSub ma mb)) :=
  PE.weak (pe_op op_sub ha hb) fun σ H Q t => bin_to (r := rI0 fun i j => .int (i - j)) (fun g H h v w x y Q hr rx ry t => by
    obtain ⟨i, j, e1, e2, _, q⟩ := ok_I (C := fun _ _ => True) (c := cT) (fun _ _ _ => trivial) g H h v w x y Q hr rx ry t
    exact ⟨i, j, e1, e2, q⟩) t
theorem se_mul {a b : Expr} {ma mb : EM} {pos : Pos} (ha : PE X a (tM K ma)) (hb : PE X b (tM K mb)) : PE X (.BinOp a .Mult b pos) (tM K (mBin uMul ma mb)) :=
  se_bin op_mul (ok_I fun i j c => by unfold cMul at c; unfold CMul; omega) ha hb
theorem se_div {a b : Expr} {ma mb : EM} {pos : Pos} (ha : PE X a (tM K ma)) (hb : PE X b (tM K mb)) : PE X (.BinOp a .FloorDiv b pos) (tM K (mBin uDiv ma mb)) := se_bin op_fdiv (ok_I fun _ _ c => c) ha hb
theorem se_mod {a b : Expr} {ma mb : EM} {pos : Pos} (ha : PE X a (tM K ma)) (hb : PE X b (tM K mb)) : PE X (.BinOp a .Mod b pos) (tM K (mBin uMod ma mb)) := se_bin op_mod (ok_I fun _ _ c => c) ha hb
theorem se_pow {a b : Expr} {ma mb : EM} {pos : Pos} (ha : PE X a (tM K ma)) (hb : PE X b (tM K mb)) : PE X (.BinOp a .Pow b pos) (tM K (mBin uPow ma mb)) :=
  se_bin op_pow (ok_I fun i j c => by unfold cPow at c; unfold CPow; omega) ha hb
/-- -a -/
def mNeg (a : EM) : EM := fun env h => (a env h).bind fun x h1 => match x with
  | .int i => .ok (.int (-i)) h1
  | _ => .bad
theorem se_neg {a : Expr} {ma : EM} {pos : Pos} (ha : PE X a (tM K ma)) : PE X (.UnaryOp .USub a pos) (tM K (mNeg ma)) := by
  refine PE.weak (pe_un un_neg ha) fun σ H Q ⟨g, env, h, hr, er, w⟩ => ⟨g, env, h, hr, er, ?_⟩
  unfold mNeg at w
  cases ea : ma env h with
  | bad => rw [ea] at w; exact w.elim
  | ok x h1 =>
    rw [ea] at w
    intro v H1 g1 l1 hr1 rv
    cases rv with
    | int i => exact ⟨i, rfl, w _ H1 g1 l1 hr1 (.int _)⟩
    | _ => exact w.elim
/-! ### comparisons -/
def CmpOK (K : Fr) (r : R2) (f : Sto → U → U → Option Bool) : Prop := ∀ g H h v w x y (b : Bool) Q, HR K g H h → Rep K g v x → Rep K g w y → f h x y = some b → Q (.bl b) H → r v w H Q
def oB (o : Option Bool) (h : Sto) : R Bool := match o with
  | some b => .ok b h
  | none => .bad
def bCmp (f : Sto → U → U → Option Bool) (a b : EM) : TM := fun env h => (a env h).bind fun x h1 => (b env h1).bind fun y h2 => oB (f h2 x y) h2
/-- a test as a value -/
def mB (t : TM) : EM := fun env h => (t env h).bind fun b h1 => .ok (.bl b) h1
theorem cmp_to {a b : EM} {f : Sto → U → U → Option Bool} {r : R2} (ok : CmpOK K r f) {σ : L2.St} {Q : VK} {P : Bool → Hp → Prop} (t : bM K (bCmp f a b) σ H P) (hq : ∀ b H, P b H → Q (.bl b) H) : tOp r (tM K a) (tM K b) σ H Q := by
  obtain ⟨g, env, h, hr, er, w⟩ := t
  refine ⟨g, env, h, hr, er, ?_⟩
  unfold bCmp at w
  cases ea : a env h with
  | bad => rw [ea] at w; exact w.elim
  | ok x h1 =>
    rw [ea] at w
    have w : WT K g ((b env h1).bind fun y h2 => oB (f h2 x y) h2) P := w
    intro v H1 g1 l1 hr1 rv
    refine ⟨g1, env, h1, hr1, er.mono l1, ?_⟩
    cases eb : b env h1 with
    | bad => rw [eb] at w; exact w.elim
    | ok y h2 =>
      rw [eb] at w
      intro u H2 g2 l2 hr2 ru
      have w : WT K g (oB (f h2 x y) h2) P := w
      cases ef : f h2 x y with
      | none => rw [ef] at w; exact w.elim
      | some c =>
        rw [ef] at w
        exact ok g2 H2 h2 v u x y c Q hr2 (rv.mono l2) ru ef (hq _ _ (w H2 g2 (l1.trans l2) hr2))
theorem bt_cmp {op : CmpOp} {r : R2} {f : Sto → U → U → Option Bool} {a b : Expr} {ma mb : EM} {pos : Pos} (ho : OpR X (compareOp op) r) (ok : CmpOK K r f) (ha : PE X a (tM K ma)) (hb : PE X b (tM K mb)) (hm : behindInMarks op b = false) :
    PT X (.Compare a [op] [b] pos) (bM K (bCmp f ma mb)) := PT.weak (pt_cmpR ho ha hb hm) fun σ H Q t => cmp_to ok t fun b H q => ⟨b, rfl, q⟩
/-- a test as a value, by a rule of values -/
theorem mB_to {t : TM} {σ : L2.St} {Q : VK} (q : tM K (mB t) σ H Q) : bM K t σ H fun b H => Q (.bl b) H := by
  obtain ⟨g, env, h, hr, er, w⟩ := q
  refine ⟨g, env, h, hr, er, ?_⟩
  unfold mB at w
  cases et : t env h with
  | bad => rw [et] at w; exact w.elim
  | ok b h1 => rw [et] at w; exact fun H g' l hr' => w _ H g' l hr' (.bl b)
theorem se_cmp {op : CmpOp} {r : R2} {f : Sto → U → U → Option Bool} {a b : Expr} {ma mb : EM} {pos : Pos} (ho : OpR X (compareOp op) r) (ok : CmpOK K r f) (ha : PE X a (tM K ma)) (hb : PE X b (tM K mb)) (hm : behindInMarks op b = false) :
    PE X (.Compare a [op] [b] pos) (tM K (mB (bCmp f ma mb))) := PE.weak (pe_cmpR ho ha hb hm) fun σ H Q t => cmp_to ok (mB_to t) fun b H q => q
def cEq (_ : Sto) (x y : U) : Option Bool := match x, y with
  | .int i, .int j => some (decide (i = j))
  | .str i, .str j => some (decide (i = j))
  | .bl i, .bl j => some (decide (i = j))
  | .non, .non => some true
  | .int _, .str _ => some false
  | .str _, .int _ => some false
  | .non, .int _ => some false
  | .int _, .non => some false
  | .non, .str _ => some false
  | .str _, .non => some false
  | .non, .bl _ => some false
  | .bl _, .non => some false
  | .bl _, .str _ => some false
  | .str _, .bl _ => some false
  | _, _ => none
theorem str_eq (s t : List Nat) : ((⟨s.toArray⟩ : Str) = ⟨t.toArray⟩) ↔ s = t := ⟨fun e => by
  have := congrArg tl e
  rwa [tl_mk, tl_mk] at this, fun e => by rw [e]⟩
theorem eq_core {v w : V} {x y : U} {b : Bool} (rx : Rep K g v x) (ry : Rep K g w y) (e : cEq h x y = some b) : scal v w = true ∧ decide (v = w) = b := by
  unfold cEq at e
  split at e <;> cases rx <;> cases ry <;> cases e <;> refine ⟨rfl, ?_⟩ <;> simp [str_eq]
theorem ok_eq : CmpOK K rEq cEq := fun g H h v w x y b Q hr rx ry e q => by
  obtain ⟨h1, h2⟩ := eq_core rx ry e
  exact ⟨h1, by rw [h2]; exact q⟩
def cNe (h : Sto) (x y : U) : Option Bool := (cEq h x y).map not
theorem ok_ne : CmpOK K rNe cNe := fun g H h v w x y b Q hr rx ry e q => by
  unfold cNe at e
  cases e2 : cEq h x y with
  | none => rw [e2] at e; cases e
  | some c =>
    rw [e2] at e
    cases e
    obtain ⟨h1, h2⟩ := eq_core rx ry e2
    exact ⟨h1, by rw [h2]; exact q⟩
def cI (p : Int → Int → Bool) (_ : Sto) (x y : U) : Option Bool := match x, y with
  | .int i, .int j => some (p i j)
  | _, _ => none
theorem ok_cI {p : Int → Int → Bool} : CmpOK K (rI0 fun i j => .bl (p i j)) (cI p) := fun g H h v w x y b Q hr rx ry e q => by
  unfold cI at e
  split at e
  · cases rx; cases ry; cases e
    exact ⟨_, _, rfl, rfl, q⟩
  · cases e
abbrev cLt := cI fun i j => decide (i < j)
abbrev cLe := cI fun i j => decide (i ≤ j)
abbrev cGt := cI fun i j => decide (j < i)
abbrev cGe := cI fun i j => decide (j ≤ i)
section
variable {a b : Expr} {ma mb : EM} {pos : Pos} (ha : PE X a (tM K ma)) (hb : PE X b (tM K mb))
include ha hb
theorem bt_eq : PT X (.Compare a [.Eq] [b] pos) (bM K (bCmp cEq ma mb)) := bt_cmp op_eq ok_eq ha hb (nomark _)
theorem bt_ne : PT X (.Compare a [.NotEq] [b] pos) (bM K (bCmp cNe ma mb)) := bt_cmp op_ne ok_ne ha hb (nomark _)
theorem bt_lt : PT X (.Compare a [.Lt] [b] pos) (bM K (bCmp cLt ma mb)) := bt_cmp op_lt ok_cI ha hb (nomark _)
theorem bt_le : PT X (.Compare a [.LtE] [b] pos) (bM K (bCmp cLe ma mb)) := bt_cmp op_le ok_cI ha hb (nomark _)
theorem bt_gt : PT X (.Compare a [.Gt] [b] pos) (bM K (bCmp cGt ma mb)) := bt_cmp op_gt ok_cI ha hb (nomark _)
theorem bt_ge : PT X (.Compare a [.GtE] [b] pos) (bM K (bCmp cGe ma mb)) := bt_cmp op_ge ok_cI ha hb (nomark _)
theorem se_eq : PE X (.Compare a [.Eq] [b] pos) (tM K (mB (bCmp cEq ma mb))) := se_cmp op_eq ok_eq ha hb (nomark _)
theorem se_ne : PE X (.Compare a [.NotEq] [b] pos) (tM K (mB (bCmp cNe ma mb))) := se_cmp op_ne ok_ne ha hb (nomark _)
theorem se_lt : PE X (.Compare a [.Lt] [b] pos) (tM K (mB (bCmp cLt ma mb))) := se_cmp op_lt ok_cI ha hb (nomark _)
theorem se_le : PE X (.Compare a [.LtE] [b] pos) (tM K (mB (bCmp cLe ma mb))) := se_cmp op_le ok_cI ha hb (nomark _)
theorem se_gt : PE X (.Compare a [.Gt] [b] pos) (tM K (mB (bCmp cGt ma mb))) := se_cmp op_gt ok_cI ha hb (nomark _)
theorem se_ge : PE X (.Compare a [.GtE] [b] pos) (tM K (mB (bCmp cGe ma mb))) := se_cmp op_ge ok_cI ha hb (nomark _)
end
/-- is None -/
def cIs (_ : Sto) (x y : U) : Option Bool := match y with
  | .non => some (match x with
    | .non => true
    | _ => false)
  | _ => none
def cIsN (h : Sto) (x y : U) : Option Bool := (cIs h x y).map not
theorem is_core {v w : V} {x y : U} {b : Bool} (rx : Rep K g v x) (ry : Rep K g w y) (e : cIs h x y = some b) : w = .non ∧ decide (v = .non) = b := by
  unfold cIs at e
  split at e
  · cases ry
    refine ⟨rfl, ?_⟩
    cases rx <;> cases e <;> simp
  · cases e
theorem ok_is : CmpOK K (fun x y H Q => y = .non ∧ Q (.bl (decide (x = .non))) H) cIs := fun g H h v w x y b Q hr rx ry e q => by
  obtain ⟨h1, h2⟩ := is_core rx ry e
  exact ⟨h1, by rw [h2]; exact q⟩
theorem ok_isN : CmpOK K (fun x y H Q => y = .non ∧ Q (.bl (!decide (x = .non))) H) cIsN := fun g H h v w x y b Q hr rx ry e q => by
  unfold cIsN at e
  cases e2 : cIs h x y with
  | none => rw [e2] at e; cases e
  | some c =>
    rw [e2] at e
    cases e
    obtain ⟨h1, h2⟩ := is_core rx ry e2
    exact ⟨h1, by rw [h2]; exact q⟩
/-- in a list or tuple of flat things -/
def flatU : U → Bool
  | .non => true
  | .bl _ => true
  | .int _ => true
  | .str _ => true
  | _ => false
def eqF : U → U → Bool
  | .non, .non => true
  | .bl a, .bl b => a == b
  | .bl a, .int b => (if a then 1 else 0) == b
  | .int a, .bl b => a == (if b then 1 else 0)
  | .int a, .int b => a == b
  | .str a, .str b => a == b
  | _, _ => false
def inF (x : U) (us : List U) : Bool := us.any fun y => eqF y x
theorem flat_of {v : V} {x : U} (r : Rep K g v x) (f : flatU x = true) : flatV v = true := by cases r <;> first | rfl | cases f
theorem flats_of : ∀ {vs : List V} {us : List U}, Reps K g vs us → us.all flatU = true → vs.all flatV = true
  | _, _, .nil, _ => rfl
  | _, _, .cons h r, f => by
    rw [List.all_cons, Bool.and_eq_true] at f
    rw [List.all_cons, flat_of h f.1, flats_of r f.2]; rfl
theorem eqF_of {v w : V} {x y : U} (rx : Rep K g v x) (ry : Rep K g w y) (fx : flatU x = true) (fy : flatU y = true) : eqV v w = eqF x y := by
  cases rx <;> cases ry <;> first | cases fx; done | cases fy; done | rfl | skip
  rename_i s t
  show ((⟨s.toArray⟩ : Str) == ⟨t.toArray⟩) = (s == t)
  by_cases e : s = t
  · subst e; simp
  · rw [beq_eq_false_iff_ne.mpr e, beq_eq_false_iff_ne.mpr fun z => e ((str_eq s t).mp z)]
theorem inF_of {v : V} {x : U} (rx : Rep K g v x) (fx : flatU x = true) : ∀ {vs : List V} {us : List U}, Reps K g vs us → us.all flatU = true → inV v vs = inF x us
  | _, _, .nil, _ => rfl
  | _, _, .cons h r, f => by
    rw [List.all_cons, Bool.and_eq_true] at f
    show (eqV _ v || inV v _) = (eqF _ x || inF x _)
    rw [eqF_of h rx f.1 fx, inF_of rx fx r f.2]
def cIn (h : Sto) (x y : U) : Option Bool := match sL h y with
  | some us => if flatU x = true ∧ us.all flatU = true then some (inF x us) else none
  | none => none
def cNin (h : Sto) (x y : U) : Option Bool := (cIn h x y).map not
theorem ok_in : CmpOK K (rIn K false) cIn := fun g H h v w x y b Q hr rx ry e q => by
  unfold cIn at e
  split at e
  · rename_i us e1
    split at e
    · rename_i c
      cases e
      obtain ⟨a, vs, rfl, h1, r1⟩ := sL_of hr ry e1
      refine ⟨a, vs, rfl, h1, flat_of rx c.1, flats_of r1 c.2, ?_⟩
      rw [inF_of rx c.1 r1 c.2]
      exact q
    · cases e
  · cases e
theorem ok_nin : CmpOK K (rIn K true) cNin := fun g H h v w x y b Q hr rx ry e q => by
  unfold cNin cIn at e
  split at e
  · rename_i us e1
    split at e
    · rename_i c
      cases e
      obtain ⟨a, vs, rfl, h1, r1⟩ := sL_of hr ry e1
      refine ⟨a, vs, rfl, h1, flat_of rx c.1, flats_of r1 c.2, ?_⟩
      rw [inF_of rx c.1 r1 c.2]
      exact q
    · cases e
  · cases e
section
variable {a b : Expr} {ma mb : EM} {pos : Pos} (ha : PE X a (tM X.K ma)) (hb : PE X b (tM X.K mb))
include ha hb
theorem bt_is : PT X (.Compare a [.Is] [b] pos) (bM X.K (bCmp cIs ma mb)) := bt_cmp op_isN ok_is ha hb (nomark _)
theorem bt_isnot : PT X (.Compare a [.IsNot] [b] pos) (bM X.K (bCmp cIsN ma mb)) := bt_cmp op_notN ok_isN ha hb (nomark _)
theorem se_is : PE X (.Compare a [.Is] [b] pos) (tM X.K (mB (bCmp cIs ma mb))) := se_cmp op_isN ok_is ha hb (nomark _)
theorem se_isnot : PE X (.Compare a [.IsNot] [b] pos) (tM X.K (mB (bCmp cIsN ma mb))) := se_cmp op_notN ok_isN ha hb (nomark _)
theorem bt_in (hm : behindInMarks .In b = false := by rfl) : PT X (.Compare a [.In] [b] pos) (bM X.K (bCmp cIn ma mb)) := bt_cmp op_in_seq ok_in ha hb hm
theorem bt_nin (hm : behindInMarks .NotIn b = false := by rfl) : PT X (.Compare a [.NotIn] [b] pos) (bM X.K (bCmp cNin ma mb)) := bt_cmp op_notIn_seq ok_nin ha hb hm
theorem se_in (hm : behindInMarks .In b = false := by rfl) : PE X (.Compare a [.In] [b] pos) (tM X.K (mB (bCmp cIn ma mb))) := se_cmp op_in_seq ok_in ha hb hm
theorem se_nin (hm : behindInMarks .NotIn b = false := by rfl) : PE X (.Compare a [.NotIn] [b] pos) (tM X.K (mB (bCmp cNin ma mb))) := se_cmp op_notIn_seq ok_nin ha hb hm
end
end
end Q

set_option Elab.async false
set_option linter.all false
set_option maxRecDepth 100000
set_option maxHeartbeats 1000000
namespace Q
open PySem PySem.Spec PyProof.Rows L2 TL
section
variable {K : Fr} {g g' : G} {X : Cx} {H : Hp} {h : Sto} {v w : V} {x y : U} {a b c e o : Expr} {es rest : List Expr} {ma mb mc me : EM} {ta tb : TM} {pos : Pos}
/-! ### parts -/
/-- from the end of a part to what is behind it -/
theorem wE {r : R U} {f : U → Sto → R U} {Q P : VK} (t : WE K g (r.bind f) Q) (k : ∀ u h v H g', Le g g' → HR K g' H h → Rep K g' v u → WE K g' (f u h) Q → P v H) : WE K g r P := by
  cases r with
  | bad => exact t
  | ok u h => exact fun v H g' l hr rv => k u h v H g' l hr rv (WE.mono l t)
theorem wT {r : R Bool} {f : Bool → Sto → R U} {Q : VK} {P : Bool → Hp → Prop} (t : WE K g (r.bind f) Q) (k : ∀ u h H g', Le g g' → HR K g' H h → WE K g' (f u h) Q → P u H) : WT K g r P := by
  cases r with
  | bad => exact t
  | ok u h => exact fun H g' l hr => k u h H g' l hr (WE.mono l t)
theorem wA {r : R (List U)} {f : List U → Sto → R U} {Q : VK} {P : List V → Hp → Prop} (t : WE K g (r.bind f) Q) (k : ∀ u h v H g', Le g g' → HR K g' H h → Reps K g' v u → WE K g' (f u h) Q → P v H) : WA K g r P := by
  cases r with
  | bad => exact t
  | ok u h => exact fun v H g' l hr rv => k u h v H g' l hr rv (WE.mono l t)
theorem wET {r : R U} {f : U → Sto → R Bool} {Q : Bool → Hp → Prop} {P : VK} (t : WT K g (r.bind f) Q) (k : ∀ u h v H g', Le g g' → HR K g' H h → Rep K g' v u → WT K g' (f u h) Q → P v H) : WE K g r P := by
  cases r with
  | bad => exact t
  | ok u h => exact fun v H g' l hr rv => k u h v H g' l hr rv (WT.mono l t)
theorem wTT {r : R Bool} {f : Bool → Sto → R Bool} {Q P : Bool → Hp → Prop} (t : WT K g (r.bind f) Q) (k : ∀ u h H g', Le g g' → HR K g' H h → WT K g' (f u h) Q → P u H) : WT K g r P := by
  cases r with
  | bad => exact t
  | ok u h => exact fun H g' l hr => k u h H g' l hr (WT.mono l t)
theorem wEA {r : R U} {f : U → Sto → R (List U)} {Q : List V → Hp → Prop} {P : VK} (t : WA K g (r.bind f) Q) (k : ∀ u h v H g', Le g g' → HR K g' H h → Rep K g' v u → WA K g' (f u h) Q → P v H) : WE K g r P := by
  cases r with
  | bad => exact t
  | ok u h => exact fun v H g' l hr rv => k u h v H g' l hr rv (WA.mono l t)
theorem wAA {r : R (List U)} {f : List U → Sto → R (List U)} {Q P : List V → Hp → Prop} (t : WA K g (r.bind f) Q) (k : ∀ u h v H g', Le g g' → HR K g' H h → Reps K g' v u → WA K g' (f u h) Q → P v H) : WA K g r P := by
  cases r with
  | bad => exact t
  | ok u h => exact fun v H g' l hr rv => k u h v H g' l hr rv (WA.mono l t)

/-! ### tests -/
def bAnd (a b : TM) : TM := fun env h => (a env h).bind fun c h1 => if c = true then b env h1 else .ok false h1
def bOr (a b : TM) : TM := fun env h => (a env h).bind fun c h1 => if c = true then .ok true h1 else b env h1
def bNot (a : TM) : TM := fun env h => (a env h).bind fun c h1 => .ok (!c) h1
theorem bw_and1 (ha : PT X a (bM K ta)) : PW X (.BoolOp .And [a] pos) (bM K ta) := pw_and1 ha
theorem bw_or1 (ha : PT X a (bM K ta)) : PW X (.BoolOp .Or [a] pos) (bM K ta) := pw_or1 ha
theorem bw_and (ha : PT X a (bM K ta)) (hb : PW X (.BoolOp .And (b :: rest) pos) (bM K tb)) : PW X (.BoolOp .And (a :: b :: rest) pos) (bM K (bAnd ta tb)) :=
  PW.weak (pw_and ha hb) fun σ H Q ⟨g, env, h, hr, er, w⟩ => ⟨g, env, h, hr, er, wTT w fun c h1 H1 g1 l1 hr1 w1 => by
    cases c with
    | true => exact ⟨g1, env, h1, hr1, er.mono l1, w1⟩
    | false => exact w1 H1 g1 (Le.refl _) hr1⟩
theorem bw_or (ha : PT X a (bM K ta)) (hb : PW X (.BoolOp .Or (b :: rest) pos) (bM K tb)) : PW X (.BoolOp .Or (a :: b :: rest) pos) (bM K (bOr ta tb)) :=
  PW.weak (pw_or ha hb) fun σ H Q ⟨g, env, h, hr, er, w⟩ => ⟨g, env, h, hr, er, wTT w fun c h1 H1 g1 l1 hr1 w1 => by
    cases c with
    | false => exact ⟨g1, env, h1, hr1, er.mono l1, w1⟩
    | true => exact w1 H1 g1 (Le.refl _) hr1⟩
theorem bt_not (ha : PT X a (bM K ta)) : PT X (.UnaryOp .Not a pos) (bM K (bNot ta)) :=
  PT.weak (pt_not ha) fun σ H Q ⟨g, env, h, hr, er, w⟩ => ⟨g, env, h, hr, er, wTT w fun c h1 H1 g1 l1 hr1 w1 => w1 H1 g1 (Le.refl _) hr1⟩
/-- the truth of a value -/
def truU (h : Sto) : U → Option Bool
  | .non => some false
  | .bl b => some b
  | .int i => some (i != 0)
  | .str s => if s.length ≤ 16000000 then some (!s.isEmpty) else none
  | .ref n => match h[n]? with
    | some (.lst us) => some (!us.isEmpty)
    | some (.dK kvs) => some (!kvs.isEmpty)
    | _ => none
  | .tup us => some (!us.isEmpty)
  | .fl us => some (!us.isEmpty)
  | .kl us => some (!us.isEmpty)
theorem Reps.emp : ∀ {vs : List V} {us : List U}, Reps K g vs us → (!us.isEmpty) = !vs.isEmpty
  | _, _, .nil => rfl
  | _, _, .cons _ _ => rfl
theorem RepK.emp : ∀ {vs us}, RepK K g vs us → (!us.isEmpty) = !vs.isEmpty
  | _, _, .nil => rfl
  | _, _, .cons _ _ => rfl
theorem tru_of {k : Bool} (hr : HR K g H h) (r : Rep K g v x) (q : truU h x = some k) : TruV K v H k := by
  cases r with
  | non => cases q; rfl
  | bl b => cases q; rfl
  | int i => cases q; rfl
  | str s =>
    simp only [truU] at q
    split at q
    · rename_i z
      cases q
      refine ⟨by rw [str_len]; exact sz16 z, ?_⟩
      rw [str_len]
      cases s with
      | nil => rfl
      | cons c r => simp; omega
    · cases q
  | tup t r => cases q; exact .inr (.inl ⟨_, hr.sqT t, r.emp⟩)
  | fl t r => cases q; exact .inl ⟨_, .inl (.inl (hr.ex _ _ t)), r.emp⟩
  | kl t r => cases q; exact .inl ⟨_, hr.sqL t, r.emp⟩
  | ref t =>
    rename_i a n
    simp only [truU] at q
    split at q
    · rename_i us e
      cases q
      obtain ⟨vs, h1, h2⟩ := hr.ob n a _ t e
      exact .inl ⟨_, .inl (.inl h1), h2.emp⟩
    · rename_i us e
      cases q
      obtain ⟨vs, h1, h2⟩ := hr.ob n a _ t e
      exact .inr (.inr ⟨_, h1, h2.emp⟩)
    · cases q
def bTru (a : EM) : TM := fun env h => (a env h).bind fun x h1 => oB (truU h1 x) h1
theorem bt_tru (ha : PE X a (tM X.K ma)) (he : ∀ whole, isTrue a X.env whole = (do let v ← whole; standAt a.pos; holding [v] (truthy v)) := by intro _; rfl) : PT X a (bM X.K (bTru ma)) :=
  PT.weak (pt_truth ha he) fun σ H Q ⟨g, env, h, hr, er, w⟩ => ⟨g, env, h, hr, er, wET w fun u h1 v H1 g1 l1 hr1 rv w1 => by
    cases et : truU h1 u with
    | none => rw [et] at w1; exact w1.elim
    | some k =>
      rw [et] at w1
      exact ⟨k, tru_of hr1 rv et, w1 H1 g1 (Le.refl _) hr1⟩⟩
/-- and, or, not as values of bools -/
def mAnd (a b : EM) : EM := fun env h => (a env h).bind fun x h1 => match x with
  | .bl true => b env h1
  | .bl false => .ok (.bl false) h1
  | _ => .bad
def mOr (a b : EM) : EM := fun env h => (a env h).bind fun x h1 => match x with
  | .bl false => b env h1
  | .bl true => .ok (.bl true) h1
  | _ => .bad
def mNot (a : EM) : EM := fun env h => (a env h).bind fun x h1 => match x with
  | .bl c => .ok (.bl (!c)) h1
  | _ => .bad
theorem se_one {op} (h : PE X a (tM K ma)) : PE X (.BoolOp op [a] pos) (tM K ma) := pe_one h
theorem se_and (ha : PE X a (tM K ma)) (hb : PE X (.BoolOp .And (b :: rest) pos) (tM K mb)) : PE X (.BoolOp .And (a :: b :: rest) pos) (tM K (mAnd ma mb)) :=
  PE.weak (pe_and ha hb) fun σ H Q ⟨g, env, h, hr, er, w⟩ => ⟨g, env, h, hr, er, wE w fun u h1 v H1 g1 l1 hr1 rv w1 => by
    cases rv with
    | bl c =>
      cases c with
      | true => exact ⟨true, rfl, g1, env, h1, hr1, er.mono l1, w1⟩
      | false => exact ⟨false, rfl, w1 _ H1 g1 (Le.refl _) hr1 (.bl _)⟩
    | _ => exact w1.elim⟩
theorem se_or (ha : PE X a (tM K ma)) (hb : PE X (.BoolOp .Or (b :: rest) pos) (tM K mb)) : PE X (.BoolOp .Or (a :: b :: rest) pos) (tM K (mOr ma mb)) :=
  PE.weak (pe_or ha hb) fun σ H Q ⟨g, env, h, hr, er, w⟩ => ⟨g, env, h, hr, er, wE w fun u h1 v H1 g1 l1 hr1 rv w1 => by
    cases rv with
    | bl c =>
      cases c with
      | false => exact ⟨false, rfl, g1, env, h1, hr1, er.mono l1, w1⟩
      | true => exact ⟨true, rfl, w1 _ H1 g1 (Le.refl _) hr1 (.bl _)⟩
    | _ => exact w1.elim⟩
theorem se_not (ha : PE X a (tM K ma)) : PE X (.UnaryOp .Not a pos) (tM K (mNot ma)) :=
  PE.weak (pe_not ha) fun σ H Q ⟨g, env, h, hr, er, w⟩ => ⟨g, env, h, hr, er, wE w fun u h1 v H1 g1 l1 hr1 rv w1 => by
    cases rv with
    | bl c => exact ⟨c, rfl, w1 _ H1 g1 (Le.refl _) hr1 (.bl _)⟩
    | _ => exact w1.elim⟩
/-- a if t else b -/
def mIf (t : TM) (a b : EM) : EM := fun env h => (t env h).bind fun c h1 => if c = true then a env h1 else b env h1
theorem se_if (hc : PT X c (bM K ta)) (ha : PE X a (tM K ma)) (hb : PE X b (tM K mb)) : PE X (.IfExp c a b pos) (tM K (mIf ta ma mb)) :=
  PE.weak (pe_ifExp hc ha hb) fun σ H Q ⟨g, env, h, hr, er, w⟩ => ⟨g, env, h, hr, er, wT w fun c h1 H1 g1 l1 hr1 w1 => by
    cases c with
    | true => exact ⟨g1, env, h1, hr1, er.mono l1, w1⟩
    | false => exact ⟨g1, env, h1, hr1, er.mono l1, w1⟩⟩

/-! ### arguments, displays -/
def aNil : AM := fun _ h => .ok [] h
def aCons (a : EM) (r : AM) : AM := fun env h => (a env h).bind fun x h1 => (r env h1).bind fun xs h2 => .ok (x :: xs) h2
variable {am : AM}
theorem sa_nil : PA X [] (aM K aNil) := PA.weak pa_nil fun σ H Q ⟨g, env, h, hr, er, w⟩ => w [] H g (Le.refl _) hr .nil
theorem sa_cons (ha : PE X e (tM K me)) (hr : PA X es (aM K am)) (hs : starEach (e :: es) X.env = (false, eval e X.env) :: starEach es X.env := by rfl) : PA X (e :: es) (aM K (aCons me am)) :=
  PA.weak (pa_cons ha hr hs) fun σ H Q ⟨g, env, h, hr, er, w⟩ => ⟨g, env, h, hr, er, wEA w fun u h1 v H1 g1 l1 hr1 rv w1 =>
    ⟨g1, env, h1, hr1, er.mono l1, wAA w1 fun us h2 vs H2 g2 l2 hr2 rvs w2 => w2 _ H2 g2 (Le.refl _) hr2 (.cons (rv.mono l2) rvs)⟩⟩
def mTup (am : AM) : EM := fun env h => (am env h).bind fun us h1 => if us.length ≤ 16000000 then .ok (.tup us) h1 else .bad
def mLst (am : AM) : EM := fun env h => (am env h).bind fun us h1 => if us.length ≤ 16000000 then .ok (.ref h1.length) (h1 ++ [.lst us]) else .bad
theorem se_tup {x1} (ha : PA X es (aM K am)) : PE X (.Tuple es x1 pos) (tM K (mTup am)) :=
  PE.weak (pe_tup ha) fun σ H Q ⟨g, env, h, hr, er, w⟩ => ⟨g, env, h, hr, er, wA w fun us h1 vs H1 g1 l1 hr1 rv w1 => by
    split at w1
    · rename_i z
      refine ⟨by rw [rv.len]; exact sz16 z, fun p hp => ?_⟩
      obtain ⟨l, q, r⟩ := hr1.newTup hp rv
      exact w1 _ _ _ l q r
    · exact w1.elim⟩
theorem se_lst (ha : PA X es (aM K am)) : PE X (.List es pos) (tM K (mLst am)) :=
  PE.weak (pe_lst ha) fun σ H Q ⟨g, env, h, hr, er, w⟩ => ⟨g, env, h, hr, er, wA w fun us h1 vs H1 g1 l1 hr1 rv w1 => by
    split at w1
    · rename_i z
      exact ⟨by rw [rv.len]; exact sz16 z, fun p hp => w1 _ _ _ Le.new (hr1.newLst hp rv) hr1.newRef⟩
    · exact w1.elim⟩

/-! ### subscripts, slices -/
theorem at_len {α β : Type} {xs : List α} {ys : List β} {i : Int} {v : α} (hl : xs.length = ys.length) (hv : atI xs i = some v) : ∃ j, ixN ys.length i = some j ∧ xs[j]? = some v := by
  unfold atI at hv
  cases e : ixN xs.length i with
  | none => rw [e] at hv; cases hv
  | some j =>
    rw [e] at hv
    exact ⟨j, by rw [← hl]; exact e, hv⟩
theorem Reps.at {vs : List V} {us : List U} {i : Int} {u : U} (r : Reps K g vs us) (q : atI us i = some u) : ∃ v, atI vs i = some v ∧ Rep K g v u := by
  obtain ⟨j, h1, h2⟩ := at_len (ys := vs) r.len.symm q
  obtain ⟨v, h3, h4⟩ := r.get h2
  exact ⟨v, by unfold atI; rw [h1]; exact h3, h4⟩
def oR (o : Option U) (h : Sto) : R U := match o with
  | some u => .ok u h
  | none => .bad
def uIx (x y : U) (h : Sto) : R U := match y with
  | .int i => (match x with
    | .str s => if s.length ≤ 16000000 then oR ((atI s i).map fun c => .str [c]) h else .bad
    | x => match sL h x with
      | some us => oR (atI us i) h
      | none => .bad)
  | _ => .bad
theorem ok_ix : BinOK K (rIx K) uIx := by
  intro g H h v w x y Q hr rx ry t
  unfold uIx at t
  split at t
  · rename_i i
    cases ry with
    | int _ =>
      split at t
      · rename_i s
        cases rx with
        | str _ =>
          split at t
          · rename_i z
            cases e1 : atI s i with
            | none => rw [e1] at t; exact t.elim
            | some c =>
              rw [e1] at t
              exact .inr (.inr ⟨_, i, c, rfl, rfl, by rw [str_len]; exact sz16 z, by simpa using e1, t _ _ g (Le.refl _) hr (.str [c])⟩)
          · exact t.elim
      · split at t
        · rename_i us e1
          cases e2 : atI us i with
          | none => rw [e2] at t; exact t.elim
          | some u =>
            rw [e2] at t
            obtain ⟨p, vs, rfl, h1, r1⟩ := sL_of hr rx e1
            obtain ⟨z, h2, h3⟩ := r1.at e2
            have fin := t _ _ g (Le.refl _) hr h3
            rcases h1 with h1 | h1
            · exact .inl ⟨p, vs, i, z, rfl, rfl, h1, h2, fin⟩
            · exact .inr (.inl ⟨p, vs, i, z, rfl, rfl, h1, h2, fin⟩)
        · exact t.elim
  · exact t.elim
theorem se_ix (ha : PE X a (tM X.K ma)) (hb : PE X b (tM X.K mb)) (hs : PlainIx b := by exact fun _ _ => rfl) : PE X (.Subscript a b pos) (tM X.K (mBin uIx ma mb)) :=
  PE.weak (pe_ix ix_seq ha hb hs) fun σ H Q t => bin_to ok_ix t
def cut {α : Type} (xs : List α) (lo hi : Option Int) : List α := (xs.drop (HT.sIx xs.length 0 lo)).take (HT.sIx xs.length xs.length hi - HT.sIx xs.length 0 lo)
theorem Reps.cut {vs : List V} {us : List U} (r : Reps K g vs us) (lo hi : Option Int) : Reps K g (cutV vs lo hi) (_root_.Q.cut us lo hi) := by
  unfold cutV _root_.Q.cut
  rw [r.len]
  exact (r.drop _).take _
def uSl (x : U) (lo hi : Option Int) (h : Sto) : R U := match x with
  | .str s => if s.length ≤ 16000000 then .ok (.str (cut s lo hi)) h else .bad
  | .tup us => if HT.sIx us.length 0 lo = 0 ∧ HT.sIx us.length us.length hi = us.length then .bad else .ok (.tup (cut us lo hi)) h
  | x => match aL h x with
    | some us => .ok (.ref h.length) (h ++ [.lst (cut us lo hi)])
    | none => .bad
def rSlA (K : Fr) : V → Option Int → Option Int → Hp → VK → Prop := fun x lo hi H Q => rSlS x lo hi H Q ∨ rSlT K x lo hi H Q ∨ rSlL K x lo hi H Q
theorem sl_all : SlR X (rSlA X.K) := sl_str.or (sl_tup.or sl_list)
/-- an optional part of a slice -/
abbrev OM := Env' → Sto → R (Option Int)
def WO (K : Fr) (g : G) (r : R (Option Int)) (Q : Option Int → Hp → Prop) : Prop := match r with
  | .ok b h => ∀ H g', Le g g' → HR K g' H h → Q b H
  | .bad => False
def oM (K : Fr) (m : OM) : TO := fun σ H Q => ∃ g env h, HR K g H h ∧ ER K g σ env ∧ WO K g (m env h) Q
def oNone : OM := fun _ h => .ok none h
def oSome (a : EM) : OM := fun env h => (a env h).bind fun x h1 => match x with
  | .int i => .ok (some i) h1
  | _ => .bad
theorem PO.weak {X : Cx} {e : Option Expr} {t t' : TO} (p : PO X e t) (h : ∀ σ H Q, t' σ H Q → t σ H Q) : PO X e t' := ⟨fun pins s σ H Q I q => p.run pins s σ H Q I (h σ H Q q)⟩
theorem so_none : PO X none (oM K oNone) := PO.weak po_none fun σ H Q ⟨g, env, h, hr, er, w⟩ => w H g (Le.refl _) hr
theorem so_some (ha : PE X a (tM K ma)) : PO X (some a) (oM K (oSome ma)) := PO.weak (po_some ha) fun σ H Q ⟨g, env, h, hr, er, w⟩ => ⟨g, env, h, hr, er, by
  unfold oSome at w
  cases ea : ma env h with
  | bad => rw [ea] at w; exact w.elim
  | ok u h1 =>
    rw [ea] at w
    intro v H1 g1 l1 hr1 rv
    cases rv with
    | int i => exact ⟨i, rfl, w H1 g1 l1 hr1⟩
    | _ => exact w.elim⟩
def mSl (a : EM) (lo hi : OM) : EM := fun env h => (a env h).bind fun x h1 => (lo env h1).bind fun l h2 => (hi env h2).bind fun u h3 => uSl x l u h3
theorem wOE {r : R (Option Int)} {f : Option Int → Sto → R U} {Q : VK} {P : Option Int → Hp → Prop} (t : WE K g (r.bind f) Q) (k : ∀ u h H g', Le g g' → HR K g' H h → WE K g' (f u h) Q → P u H) : WO K g r P := by
  cases r with
  | bad => exact t
  | ok u h => exact fun H g' l hr => k u h H g' l hr (WE.mono l t)
theorem sl_to {lo hi : Option Int} {Q : VK} (hr : HR K g H h) (rx : Rep K g v x) (t : WE K g (uSl x lo hi h) Q) : rSlA K v lo hi H Q := by
  unfold uSl at t
  split at t
  · cases rx
    split at t
    · rename_i s z
      refine .inl ⟨_, rfl, by rw [str_len]; exact sz16 z, ?_⟩
      have e : cutS ⟨s.toArray⟩ lo hi = ⟨(cut s lo hi).toArray⟩ := by
        unfold cutS _root_.Q.cut
        rw [str_len]
      rw [e]
      exact t _ _ g (Le.refl _) hr (.str _)
    · exact t.elim
  · split at t
    · exact t.elim
    · rename_i us z
      obtain ⟨p, vs, rfl, h1, r1⟩ := tup_of hr rx
      refine .inr (.inl ⟨p, vs, rfl, h1, by rw [r1.len]; exact z, fun q hq => ?_⟩)
      obtain ⟨l, a1, a2⟩ := hr.newTup hq (r1.cut lo hi)
      exact t _ _ _ l a1 a2
  · split at t
    · rename_i us e1
      obtain ⟨p, vs, rfl, h1, r1⟩ := aL_of hr rx e1
      exact .inr (.inr ⟨p, vs, rfl, h1, fun q hq => t _ _ _ Le.new (hr.newLst hq (r1.cut lo hi)) hr.newRef⟩)
    · exact t.elim
variable {lo hi : Option Expr} {ml mh : OM} {p2 : Pos}
theorem se_sl (he : PE X e (tM X.K me)) (hl : PO X lo (oM X.K ml)) (hu : PO X hi (oM X.K mh)) : PE X (.Subscript e (.Slice lo hi none p2) pos) (tM X.K (mSl me ml mh)) :=
  PE.weak (pe_slice sl_all he hl hu) fun σ H Q ⟨g, env, h, hr, er, w⟩ => ⟨g, env, h, hr, er, wE w fun u h1 v H1 g1 l1 hr1 rv w1 =>
    ⟨g1, env, h1, hr1, er.mono l1, wOE w1 fun lo h2 H2 g2 l2 hr2 w2 => ⟨g2, env, h2, hr2, er.mono (l1.trans l2), wOE w2 fun hi h3 H3 g3 l3 hr3 w3 =>
      sl_to hr3 (rv.mono (l2.trans l3)) w3⟩⟩⟩

/-! ### calls of the built-ins -/
def CallOK (K : Fr) (r : List V → Hp → VK → Prop) (f : List U → Sto → R U) : Prop := ∀ g H h vs us Q, HR K g H h → Reps K g vs us → WE K g (f us h) Q → r vs H Q
def mCB (f : List U → Sto → R U) (am : AM) : EM := fun env h => (am env h).bind f
variable {r : List V → Hp → VK → Prop} {f : List U → Sto → R U} {id T : String} {n : Str} {p : Pos}
theorem cb_to {σ : L2.St} {Q : VK} (ok : CallOK K r f) (q : tM K (mCB f am) σ H Q) : tCB r (aM K am) σ H Q := by
  obtain ⟨g, env, h, hr, er, w⟩ := q
  exact ⟨g, env, h, hr, er, wA w fun us h1 vs H1 g1 l1 hr1 rv w1 => ok g1 H1 h1 vs us Q hr1 rv w1⟩
theorem se_cb (hc : CallR X (.builtin id) r) (ok : CallOK K r f) (hg : Gl X n) (hm : X.mg n = none) (hv : bootBuiltins n = some (.builtin id)) (ha : PA X (e :: es) (aM K am)) (hn : n ≠ "__name__" := by decide) (hdb : (n == ("__debug__" : Str)) = false := by decide)
    (he : starEach (e :: es) X.env = (false, eval e X.env) :: starEach es X.env := by rfl) (hpl : (backTo pos (starEach es X.env)).any (·.1) = false := by rfl) : PE X (.Call (.Name n p) (e :: es) [] pos) (tM K (mCB f am)) :=
  PE.weak (pe_callB hc hg hm hv ha hn hdb he hpl) fun σ H Q q => cb_to ok q
theorem se_ct (hc : CallR X (.type T) r) (ok : CallOK K r f) (hg : Gl X n) (hm : X.mg n = none) (hv : bootBuiltins n = some (.type T)) (ha : PA X (e :: es) (aM K am)) (hn : n ≠ "__name__" := by decide) (hdb : (n == ("__debug__" : Str)) = false := by decide)
    (he : starEach (e :: es) X.env = (false, eval e X.env) :: starEach es X.env := by rfl) (hpl : (backTo pos (starEach es X.env)).any (·.1) = false := by rfl) : PE X (.Call (.Name n p) (e :: es) [] pos) (tM K (mCB f am)) :=
  PE.weak (pe_callTy hc hg hm hv ha hn hdb he hpl) fun σ H Q q => cb_to ok q
def uLen (us : List U) (h : Sto) : R U := match us with
  | [.str s] => if s.length ≤ 16000000 then .ok (.int s.length) h else .bad
  | [x] => match sL h x with
    | some us => .ok (.int us.length) h
    | none => .bad
  | _ => .bad
theorem ok_len : CallOK K (fun xs H Q => ∃ x n, xs = [x] ∧ LenV K x H n ∧ Q (.int n) H) uLen := by
  intro g H h vs us Q hr rv t
  unfold uLen at t
  split at t
  · cases rv with
    | cons r1 r2 =>
      cases r2
      cases r1
      split at t
      · rename_i s z
        exact ⟨_, s.length, rfl, ⟨by rw [str_len]; exact sz16 z, (str_len _).symm⟩, t _ _ g (Le.refl _) hr (.int _)⟩
      · exact t.elim
  · cases rv with
    | cons r1 r2 =>
      cases r2
      split at t
      · rename_i us e1
        obtain ⟨p, vs, rfl, h1, r1⟩ := sL_of hr r1 e1
        refine ⟨_, us.length, rfl, ?_, t _ _ g (Le.refl _) hr (.int _)⟩
        rcases h1 with h1 | h1
        · exact .inl ⟨vs, h1, r1.len.symm⟩
        · exact .inr ⟨vs, h1, r1.len.symm⟩
      · exact t.elim
  · exact t.elim
def uInt (us : List U) (h : Sto) : R U := match us with
  | [.int i] => .ok (.int i) h
  | [.bl b] => .ok (.int (if b then 1 else 0)) h
  | _ => .bad
theorem ok_int : CallOK K (fun xs H Q => (∃ i, xs = [.int i] ∧ Q (.int i) H) ∨ ∃ k, xs = [.bl k] ∧ Q (.int (if k then 1 else 0)) H) uInt := by
  intro g H h vs us Q hr rv t
  unfold uInt at t
  split at t
  · cases rv with
    | cons r1 r2 => cases r2; cases r1; exact .inl ⟨_, rfl, t _ _ g (Le.refl _) hr (.int _)⟩
  · cases rv with
    | cons r1 r2 => cases r2; cases r1; exact .inr ⟨_, rfl, t _ _ g (Le.refl _) hr (.int _)⟩
  · exact t.elim
def uList (us : List U) (h : Sto) : R U := match us with
  | [x] => match sL h x with
    | some us => .ok (.ref h.length) (h ++ [.lst us])
    | none => .bad
  | _ => .bad
theorem ok_list : CallOK K (fun xs H Q => ∃ p ys, xs = [.ref p] ∧ (SqL K H p ys ∨ SqT K H p ys) ∧ ∀ l, H l = none → Q (.ref l) (upd H l (.lst ys))) uList := by
  intro g H h vs us Q hr rv t
  unfold uList at t
  split at t
  · cases rv with
    | cons r1 r2 =>
      cases r2
      split at t
      · rename_i us e1
        obtain ⟨p, vs, rfl, h1, r1⟩ := sL_of hr r1 e1
        exact ⟨p, vs, rfl, h1, fun l hl => t _ _ _ Le.new (hr.newLst hl r1) hr.newRef⟩
      · exact t.elim
  · exact t.elim
def uTuple (us : List U) (h : Sto) : R U := match us with
  | [x] => match sL h x with
    | some us => .ok (.tup us) h
    | none => .bad
  | _ => .bad
theorem ok_tuple : CallOK K (fun xs H Q => ∃ p ys, xs = [.ref p] ∧ ((SqL K H p ys ∧ ∀ l, H l = none → Q (.ref l) (upd H l (.tup ys))) ∨ (SqT K H p ys ∧ Q (.ref p) H))) uTuple := by
  intro g H h vs us Q hr rv t
  unfold uTuple at t
  split at t
  · rename_i x
    cases rv with
    | @cons v0 _ _ _ r1 r2 =>
      cases r2
      have aux : ∀ us, aL h x = some us → WE K g (.ok (.tup us) h) Q → ∃ p ys, [v0] = [V.ref p] ∧ ((SqL K H p ys ∧ ∀ l, H l = none → Q (.ref l) (upd H l (.tup ys))) ∨ (SqT K H p ys ∧ Q (.ref p) H)) := fun us e1 t => by
        obtain ⟨p, vs, rfl, h1, r2⟩ := aL_of hr r1 e1
        refine ⟨p, vs, rfl, .inl ⟨h1, fun l hl => ?_⟩⟩
        obtain ⟨l1, a1, a2⟩ := hr.newTup hl r2
        exact t _ _ _ l1 a1 a2
      split at t
      · rename_i us e1
        cases r1 with
        | tup q s =>
          cases e1
          exact ⟨_, _, rfl, .inr ⟨hr.sqT q, t _ _ g (Le.refl _) hr (.tup q s)⟩⟩
        | kl q s => exact aux us e1 t
        | fl q s => exact aux us e1 t
        | ref q => exact aux us e1 t
        | _ => simp [sL, aL, mL] at e1
      · exact t.elim
  · exact t.elim
def uMin (us : List U) (h : Sto) : R U := match us with
  | [.int i, .int j] => .ok (.int (if j < i then j else i)) h
  | _ => .bad
def uMax (us : List U) (h : Sto) : R U := match us with
  | [.int i, .int j] => .ok (.int (if j > i then j else i)) h
  | _ => .bad
def uAbs (us : List U) (h : Sto) : R U := match us with
  | [.int i] => .ok (.int (if i < 0 then -i else i)) h
  | _ => .bad
theorem ok_min : CallOK K (fun xs H Q => ∃ i j, xs = [.int i, .int j] ∧ Q (.int (if j < i then j else i)) H) uMin := by
  intro g H h vs us Q hr rv t
  unfold uMin at t
  split at t
  · cases rv with
    | cons r1 r2 => cases r2 with
      | cons r2 r3 => cases r3; cases r1; cases r2; exact ⟨_, _, rfl, t _ _ g (Le.refl _) hr (.int _)⟩
  · exact t.elim
theorem ok_max : CallOK K (fun xs H Q => ∃ i j, xs = [.int i, .int j] ∧ Q (.int (if j > i then j else i)) H) uMax := by
  intro g H h vs us Q hr rv t
  unfold uMax at t
  split at t
  · cases rv with
    | cons r1 r2 => cases r2 with
      | cons r2 r3 => cases r3; cases r1; cases r2; exact ⟨_, _, rfl, t _ _ g (Le.refl _) hr (.int _)⟩
  · exact t.elim
theorem ok_abs : CallOK K (fun xs H Q => ∃ i, xs = [.int i] ∧ Q (.int (if i < 0 then -i else i)) H) uAbs := by
  intro g H h vs us Q hr rv t
  unfold uAbs at t
  split at t
  · cases rv with
    | cons r1 r2 => cases r2; cases r1; exact ⟨_, rfl, t _ _ g (Le.refl _) hr (.int _)⟩
  · exact t.elim
section
variable (hg : Gl X n) (hm : X.mg n = none) (ha : PA X (e :: es) (aM X.K am)) (hn : n ≠ "__name__" := by decide) (hdb : (n == ("__debug__" : Str)) = false := by decide)
    (he : starEach (e :: es) X.env = (false, eval e X.env) :: starEach es X.env := by rfl) (hpl : (backTo pos (starEach es X.env)).any (·.1) = false := by rfl)
include hg hm ha hn hdb he hpl
theorem se_len (hv : bootBuiltins n = some (.builtin "len") := by decide +kernel) : PE X (.Call (.Name n p) (e :: es) [] pos) (tM X.K (mCB uLen am)) := se_cb call_len ok_len hg hm hv ha hn hdb he hpl
theorem se_int' (hv : bootBuiltins n = some (.type "int") := by decide +kernel) : PE X (.Call (.Name n p) (e :: es) [] pos) (tM X.K (mCB uInt am)) := se_ct call_int1 ok_int hg hm hv ha hn hdb he hpl
theorem se_list (hv : bootBuiltins n = some (.type "list") := by decide +kernel) : PE X (.Call (.Name n p) (e :: es) [] pos) (tM X.K (mCB uList am)) := se_ct call_list_of ok_list hg hm hv ha hn hdb he hpl
theorem se_tuple (hv : bootBuiltins n = some (.type "tuple") := by decide +kernel) : PE X (.Call (.Name n p) (e :: es) [] pos) (tM X.K (mCB uTuple am)) := se_ct call_tuple_of ok_tuple hg hm hv ha hn hdb he hpl
theorem se_min (hc : X.calm = true) (hv : bootBuiltins n = some (.builtin "min") := by decide +kernel) : PE X (.Call (.Name n p) (e :: es) [] pos) (tM X.K (mCB uMin am)) := se_cb (call_min2 hc) ok_min hg hm hv ha hn hdb he hpl
theorem se_max (hc : X.calm = true) (hv : bootBuiltins n = some (.builtin "max") := by decide +kernel) : PE X (.Call (.Name n p) (e :: es) [] pos) (tM X.K (mCB uMax am)) := se_cb (call_max2 hc) ok_max hg hm hv ha hn hdb he hpl
theorem se_abs (hv : bootBuiltins n = some (.builtin "abs") := by decide +kernel) : PE X (.Call (.Name n p) (e :: es) [] pos) (tM X.K (mCB uAbs am)) := se_cb call_abs ok_abs hg hm hv ha hn hdb he hpl
end
/-! ### methods of built-in types -/
def MtOK (K : Fr) (r : V → List V → Hp → VK → Prop) (f : U → List U → Sto → R U) : Prop := ∀ g H h v x vs us Q, HR K g H h → Rep K g v x → Reps K g vs us → WE K g (f x us h) Q → r v vs H Q
/-- a list's method: the receiver is a list -/
def mLM (f : U → List U → Sto → R U) (o : EM) (am : AM) : EM := fun env h => (o env h).bind fun x h1 => if (aL h1 x).isSome = true then (am env h1).bind fun us h2 => f x us h2 else .bad
theorem lm_to {r : V → List V → Hp → VK → Prop} {f : U → List U → Sto → R U} {mo : EM} {σ : L2.St} {Q : VK} (ok : MtOK K r f) (q : tM K (mLM f mo am) σ H Q) : tBM K "list" r (tM K mo) (aM K am) σ H Q := by
  obtain ⟨g, env, h, hr, er, w⟩ := q
  refine ⟨g, env, h, hr, er, wE w fun u h1 v H1 g1 l1 hr1 rv w1 => ?_⟩
  cases ea : aL h1 u with
  | none => rw [ea] at w1; exact w1.elim
  | some us =>
    rw [ea] at w1
    obtain ⟨a, vs, rfl, h2, r2⟩ := aL_of hr1 rv ea
    exact ⟨.inl ⟨rfl, vs, h2⟩, g1, env, h1, hr1, er.mono l1, wA w1 fun us h2 vs H2 g2 l2 hr2 rvs w2 => ok g2 H2 h2 _ u vs us Q hr2 (rv.mono l2) rvs w2⟩
def uApp (x : U) (us : List U) (h : Sto) : R U := match x, us with
  | .ref n, [y] => (match h[n]? with
    | some (.lst xs) => if xs.length < 16000000 then .ok .non (h.set n (.lst (xs ++ [y]))) else .bad
    | _ => .bad)
  | _, _ => .bad
theorem sz16l {n : Nat} (h : n < 16000000) : n < sizeLine := Nat.lt_of_lt_of_le h (by decide)
theorem ok_app : MtOK K rAppend uApp := by
  intro g H h v x vs us Q hr rx rvs t
  unfold uApp at t
  split at t
  · rename_i n y
    split at t
    · rename_i xs e1
      split at t
      · rename_i z
        cases rx with
        | ref q =>
          rename_i a
          cases rvs with
          | cons r1 r2 =>
            cases r2
            obtain ⟨ws, h1, h2⟩ := hr.ob n a _ q e1
            exact ⟨a, ws, _, rfl, rfl, h1, by rw [h2.len]; exact sz16l z, t _ _ g (Le.refl _) (hr.setLst q (h2.app (.one r1))) .non⟩
      · exact t.elim
    · exact t.elim
  · exact t.elim
def uExt (x : U) (us : List U) (h : Sto) : R U := match x, us with
  | .ref n, [y] => (match h[n]?, mL h y with
    | some (.lst xs), some ys => if xs.length + ys.length ≤ 16000000 then .ok .non (h.set n (.lst (xs ++ ys))) else .bad
    | _, _ => .bad)
  | _, _ => .bad
theorem ok_ext : MtOK K rExtend uExt := by
  intro g H h v x vs us Q hr rx rvs t
  unfold uExt at t
  split at t
  · rename_i n y
    split at t
    · rename_i xs ys e1 e2
      split at t
      · rename_i z
        cases rx with
        | ref q =>
          rename_i a
          cases rvs with
          | cons r1 r2 =>
            cases r2
            obtain ⟨ws, h1, h2⟩ := hr.ob n a _ q e1
            obtain ⟨b, zs, rfl, h3, h4⟩ := mL_of hr r1 e2
            exact ⟨a, b, ws, zs, rfl, rfl, h1, h3, by rw [h2.len, h4.len]; exact sz16 z, t _ _ g (Le.refl _) (hr.setLst q (h2.app h4)) .non⟩
      · exact t.elim
    · exact t.elim
  · exact t.elim
section
variable {mo : EM} {apos cpos : Pos} (ho : PE X o (tM X.K mo)) (ha : PA X (e :: es) (aM X.K am))
    (hfew : ((backTo cpos (starEach (e :: es) X.env)).all (fun x => !x.1) && (backToKw cpos (keywordEach [] X.env)).all (fun x => x.1.isSome)
      && decide ((e :: es).length + ([] : List Keyword).length + (if ([] : List Keyword).isEmpty then 0 else 1) < 30)) = true := by rfl)
    (hline : (apos.endLine == cpos.line) = true := by rfl) (hs : starEach (e :: es) X.env = (false, eval e X.env) :: starEach es X.env := by rfl) (hplain : (backTo cpos (starEach es X.env)).any (·.1) = false := by rfl)
include ho ha hfew hline hs hplain
theorem se_app (hbase : attributeBase o "append" X.env (eval o X.env) = eval o X.env := by rfl) : PE X (.Call (.Attribute o "append" apos) (e :: es) [] cpos) (tM X.K (mLM uApp mo am)) :=
  PE.weak (pe_bm PySem.F.plainAttrs_list PySem.F.slot_list_append PySem.F.type_list_append mt_append ho ha hbase hfew hline hs hplain) fun σ H Q q => lm_to ok_app q
theorem se_ext (hbase : attributeBase o "extend" X.env (eval o X.env) = eval o X.env := by rfl) : PE X (.Call (.Attribute o "extend" apos) (e :: es) [] cpos) (tM X.K (mLM uExt mo am)) :=
  PE.weak (pe_bm PySem.F.plainAttrs_list PySem.F.slot_list_extend PySem.F.type_list_extend mt_extend ho ha hbase hfew hline hs hplain) fun σ H Q q => lm_to ok_ext q
end
end
end Q

set_option Elab.async false
set_option linter.all false
set_option maxRecDepth 100000
set_option maxHeartbeats 1000000
namespace Q
open PySem PySem.Spec PyProof.Rows L2 TL
/-! ### targets -/
inductive CT where
  | one (i : Nat)
  | tup (is : List Nat)
  | lst (is : List Nat)
def CT.ix : CT → List Nat
  | .one i => [i]
  | .tup is => is
  | .lst is => is
def setA {α : Type} : List (Option α) → List Nat → List α → List (Option α)
  | e, i :: is, u :: us => setA (e.set i (some u)) is us
  | e, _, _ => e
def CT.asg (c : CT) (u : U) (env : Env') (h : Sto) : Option Env' := match c with
  | .one i => some (env.set i (some u))
  | .tup is => match u with
    | .tup us => if us.length = is.length then some (setA env is us) else none
    | _ => none
  | .lst is => match mL h u with
    | some us => if us.length = is.length then some (setA env is us) else none
    | none => none
def gAll : List Nat → TGs
  | [] => gNil
  | i :: is => gCons (gName i) (gAll is)
theorem gAll_to : ∀ (is : List Nat) (vs : List V) (σ : L2.St) (H : Hp) (Q : L2.St → Hp → Prop), vs.length = is.length → Q (setA σ is vs) H → gAll is vs σ H Q
  | [], [], σ, H, Q, _, q => ⟨rfl, q⟩
  | i :: is, v :: vs, σ, H, Q, hl, q => ⟨v, vs, rfl, gAll_to is vs (σ.set i (some v)) H Q (by simpa using hl) q⟩
  | [], _ :: _, _, _, _, hl, _ => by simp at hl
  | _ :: _, [], _, _, _, hl, _ => by simp at hl
theorem ER.setA {K : Fr} {g : G} : ∀ {is : List Nat} {vs : List V} {us : List U} {σ : L2.St} {env : Env'}, ER K g σ env → Reps K g vs us → ER K g (Q.setA σ is vs) (Q.setA env is us)
  | [], _, _, _, _, e, _ => by unfold Q.setA; exact e
  | _ :: _, _, _, _, _, e, .nil => by unfold Q.setA; exact e
  | i :: is, _, _, _, _, e, .cons h r => by unfold Q.setA; exact ER.setA (e.set i h) r
theorem wipe_get (σ : L2.St) : ∀ (vs : List Nat) (j : Nat), (wipe σ vs)[j]? = if j ∈ vs ∧ j < σ.length then some none else σ[j]?
  | [], j => by simp [wipe]
  | v :: vs, j => by
    unfold wipe
    by_cases hv : v = j
    · subst hv
      by_cases hl : v < σ.length
      · rw [List.getElem?_set_self (by rw [wipe_length]; exact hl), if_pos ⟨List.mem_cons_self, hl⟩]
      · rw [List.getElem?_eq_none (by rw [List.length_set, wipe_length]; omega), if_neg (fun z => hl z.2), List.getElem?_eq_none (by omega)]
    · rw [List.getElem?_set_ne hv, wipe_get σ vs j]
      by_cases hj : j ∈ vs ∧ j < σ.length
      · rw [if_pos hj, if_pos ⟨List.mem_cons_of_mem _ hj.1, hj.2⟩]
      · rw [if_neg hj, if_neg fun z => hj ⟨(List.mem_cons.mp z.1).resolve_left (Ne.symm hv), z.2⟩]
theorem wipe_set (σ : L2.St) (vs : List Nat) {i : Nat} (hi : i ∈ vs) (x : Option V) : wipe (σ.set i x) vs = wipe σ vs := by
  apply List.ext_getElem?
  intro j
  rw [wipe_get, wipe_get, List.length_set]
  by_cases hj : j ∈ vs ∧ j < σ.length
  · rw [if_pos hj, if_pos hj]
  · rw [if_neg hj, if_neg hj]
    by_cases e : i = j
    · subst e
      have : ¬ i < σ.length := fun z => hj ⟨hi, z⟩
      rw [List.getElem?_eq_none (by rw [List.length_set]; omega), List.getElem?_eq_none (by omega)]
    · rw [List.getElem?_set_ne e]
theorem wipe_wipe (σ : L2.St) (vs : List Nat) : wipe (wipe σ vs) vs = wipe σ vs := by
  apply List.ext_getElem?
  intro j
  rw [wipe_get, wipe_length, wipe_get]
  by_cases hj : j ∈ vs ∧ j < σ.length
  · rw [if_pos hj, if_pos hj]
  · rw [if_neg hj]
theorem wipe_setA (vs : List Nat) : ∀ (is : List Nat) (xs : List V) (σ : L2.St), (∀ i ∈ is, i ∈ vs) → wipe (setA σ is xs) vs = wipe σ vs
  | [], _, σ, _ => by unfold setA; rfl
  | _ :: _, [], σ, _ => by unfold setA; rfl
  | i :: is, x :: xs, σ, h => by
    unfold setA
    rw [wipe_setA vs is xs _ fun j hj => h j (List.mem_cons_of_mem _ hj), wipe_set σ vs (h i List.mem_cons_self)]
def wipeE (e : Env') : List Nat → Env'
  | [] => e
  | v :: vs => (wipeE e vs).set v none
section
variable {K : Fr} {g g' : G} {X : Cx} {H : Hp} {h : Sto} {v w : V} {x y : U} {σ : L2.St} {env : Env'}
theorem ER.none (e : ER K g σ env) (i : Nat) : ER K g (σ.set i none) (env.set i none) := by
  refine ⟨by simp [e.1], fun j w q => ?_⟩
  by_cases hj : i = j
  · subst hj
    by_cases hl : i < env.length
    · rw [List.getElem?_set_self hl] at q; cases q
    · rw [List.getElem?_eq_none (by simpa using hl)] at q; cases q
  · rw [List.getElem?_set_ne hj] at q
    obtain ⟨v', a, b⟩ := e.2 j w q
    exact ⟨v', by rw [List.getElem?_set_ne hj]; exact a, b⟩
theorem ER.wipe (e : ER K g σ env) : ∀ vs : List Nat, ER K g (L2.wipe σ vs) (wipeE env vs)
  | [] => e
  | v :: vs => (ER.wipe e vs).none v
/-- the targets' reading -/
def CT.rd (K : Fr) : CT → TG
  | .one i => gName i
  | .tup is => gTup K is.length (gAll is)
  | .lst is => gUnl K is.length (gAll is)
theorem ct_to {c : CT} {u : U} {env' : Env'} {Q : L2.St → Hp → Prop} (hr : HR K g H h) (er : ER K g σ env) (rv : Rep K g v u) (e : c.asg u env h = some env')
    (k : ∀ σ', ER K g σ' env' → (∀ vs : List Nat, (∀ i ∈ c.ix, i ∈ vs) → wipe σ' vs = wipe σ vs) → Q σ' H) : c.rd K v σ H Q := by
  cases c with
  | one i =>
    cases e
    exact k _ (er.set i rv) fun vs hv => wipe_set σ vs (hv i (List.mem_singleton.mpr rfl)) _
  | tup is =>
    unfold CT.asg at e
    cases u with
    | tup us =>
      simp only at e
      split at e
      · rename_i hl
        cases e
        obtain ⟨a, vs, rfl, h1, r1⟩ := tup_of hr rv
        exact ⟨a, vs, rfl, h1, by rw [r1.len]; exact hl, gAll_to is vs σ H Q (by rw [r1.len]; exact hl) (k _ (er.setA r1) fun ws hw => wipe_setA ws is vs σ hw)⟩
      · cases e
    | _ => cases e
  | lst is =>
    unfold CT.asg at e
    cases em : mL h u with
    | none => simp [em] at e
    | some us =>
      simp only [em] at e
      split at e
      · rename_i hl
        cases e
        obtain ⟨a, vs, rfl, h1, r1⟩ := mL_of hr rv em
        exact ⟨a, vs, rfl, .inl (.inl h1), by rw [r1.len]; exact hl, gAll_to is vs σ H Q (by rw [r1.len]; exact hl) (k _ (er.setA r1) fun ws hw => wipe_setA ws is vs σ hw)⟩
      · cases e
end

/-! ### what is walked -/
abbrev Chk := List (Nat × List U)
def chkOk (c : Chk) (h : Sto) : Prop := ∀ p ∈ c, h[p.1]? = some (.lst p.2)
theorem chkOk_nil (h : Sto) : chkOk [] h := fun _ z => nomatch z
abbrev IM' := Env' → Sto → R (Chk × List U)
structure ItOk (K : Fr) (g : G) (J : It) (c : Chk) (us : List U) : Prop where
  go : ∀ g' H h i, Le g g' → HR K g' H h → chkOk c h → i < us.length → J.go i H
  stop : ∀ g' H h, Le g g' → HR K g' H h → chkOk c h → J.stop us.length H
  yl : ∀ g' H h i x H', Le g g' → HR K g' H h → chkOk c h → i < us.length → J.yld i H x H' → ∃ g2 u, Le g' g2 ∧ HR K g2 H' h ∧ us[i]? = some u ∧ Rep K g2 x u
def iM (K : Fr) (m : IM') : TI := fun σ H P => ∃ g env h, HR K g H h ∧ ER K g σ env ∧ (match m env h with
  | .ok (c, us) h' => ∀ J H' g', Le g g' → HR K g' H' h' → ItOk K g' J c us → P J H'
  | .bad => False)
section
variable {K : Fr} {g g' : G} {X : Cx} {H : Hp} {h : Sto} {v w : V} {x y : U} {σ : L2.St} {env : Env'} {a b c e o tg : Expr} {es rest : List Expr} {ma mb mc me : EM} {ta tb : TM} {pos : Pos} {am : AM} {n : Str} {p : Pos}
theorem PI.weak {tg iter : Expr} {t t' : TI} (p : PI X tg iter t) (h : ∀ σ H Q, t' σ H Q → t σ H Q) : PI X tg iter t' := ⟨fun pins s σ H Q I q => p.run pins s σ H Q I (h σ H Q q)⟩
theorem wAI {r : R (List U)} {f : List U → Sto → R (Chk × List U)} {P : List V → Hp → Prop} {Q : It → Hp → Prop}
    (t : match r.bind f with
      | .ok (c, us) h' => ∀ J H' g', Le g g' → HR K g' H' h' → ItOk K g' J c us → Q J H'
      | .bad => False)
    (k : ∀ us h v H g', Le g g' → HR K g' H h → Reps K g' v us → (match f us h with
      | .ok (c, us) h' => ∀ J H' g2, Le g' g2 → HR K g2 H' h' → ItOk K g2 J c us → Q J H'
      | .bad => False) → P v H) : WA K g r P := by
  cases r with
  | bad => exact t
  | ok us h1 =>
    intro v H1 g1 l1 hr1 rv
    refine k us h1 v H1 g1 l1 hr1 rv ?_
    have t : (match f us h1 with
      | .ok (c, us) h' => ∀ J H' g', Le g g' → HR K g' H' h' → ItOk K g' J c us → Q J H'
      | .bad => False) := t
    cases ef : f us h1 with
    | bad => rw [ef] at t; exact t
    | ok z h2 =>
      rw [ef] at t
      exact fun J H' g2 l2 => t J H' g2 (l1.trans l2)
theorem wEI {r : R U} {f : U → Sto → R (Chk × List U)} {P : VK} {Q : It → Hp → Prop}
    (t : match r.bind f with
      | .ok (c, us) h' => ∀ J H' g', Le g g' → HR K g' H' h' → ItOk K g' J c us → Q J H'
      | .bad => False)
    (k : ∀ us h v H g', Le g g' → HR K g' H h → Rep K g' v us → (match f us h with
      | .ok (c, us) h' => ∀ J H' g2, Le g' g2 → HR K g2 H' h' → ItOk K g2 J c us → Q J H'
      | .bad => False) → P v H) : WE K g r P := by
  cases r with
  | bad => exact t
  | ok us h1 =>
    intro v H1 g1 l1 hr1 rv
    refine k us h1 v H1 g1 l1 hr1 rv ?_
    have t : (match f us h1 with
      | .ok (c, us) h' => ∀ J H' g', Le g g' → HR K g' H' h' → ItOk K g' J c us → Q J H'
      | .bad => False) := t
    cases ef : f us h1 with
    | bad => rw [ef] at t; exact t
    | ok z h2 =>
      rw [ef] at t
      exact fun J H' g2 l2 => t J H' g2 (l1.trans l2)
/-- lo, lo + 1, .. -/
def rng (lo : Int) (n : Nat) : List U := (List.range n).map fun i => .int (lo + (i : Nat))
theorem rng_len (lo : Int) (n : Nat) : (rng lo n).length = n := by simp [rng]
theorem rng_get {lo : Int} {n i : Nat} (h : i < n) : (rng lo n)[i]? = some (.int (lo + (i : Nat))) := by simp [rng, h]
theorem it_range {lo : Int} {n : Nat} : ItOk K g (Itr lo n) [] (rng lo n) where
  go := fun _ _ _ i _ _ _ hi => by rw [rng_len] at hi; exact hi
  stop := fun _ _ _ _ _ _ => by rw [rng_len]; exact Nat.le_refl _
  yl := fun g' H h i x H' _ hr _ hi y => by
    rw [rng_len] at hi
    obtain ⟨rfl, rfl⟩ := y
    exact ⟨g', _, Le.refl _, hr, rng_get hi, .int _⟩
def itR1 (am : AM) : IM' := fun env h => (am env h).bind fun us h1 => match us with
  | [.int j] => if -1000000000 ≤ j ∧ j ≤ 1000000000 then .ok ([], rng 0 j.toNat) h1 else .bad
  | _ => .bad
def itR2 (am : AM) : IM' := fun env h => (am env h).bind fun us h1 => match us with
  | [.int i, .int j] => if (-1000000000 ≤ i ∧ i ≤ 1000000000) ∧ (-1000000000 ≤ j ∧ j ≤ 1000000000) then .ok ([], rng i (j - i).toNat) h1 else .bad
  | _ => .bad
theorem si_r1 (hg : Gl X "range") (hm : X.mg "range" = none) (ha : PA X [a] (aM K am)) (hs : starEach [a] X.env = [(false, eval a X.env)] := by rfl) : PI X tg (.Call (.Name "range" p) [a] [] pos) (iM K (itR1 am)) :=
  PI.weak (pi_range1 hg hm ha hs) fun σ H Q ⟨g, env, h, hr, er, w⟩ => ⟨g, env, h, hr, er, wAI w fun us h1 v H1 g1 l1 hr1 rv w1 => by
    split at w1
    · rename_i e
      split at e
      · split at e
        · rename_i z
          cases e
          cases rv with
          | cons r1 r2 =>
            cases r2
            cases r1
            exact ⟨_, rfl, by omega, by omega, w1 _ H1 g1 (Le.refl _) hr1 it_range⟩
        · cases e
      · cases e
    · exact w1.elim⟩
theorem si_r2 (hg : Gl X "range") (hm : X.mg "range" = none) (ha : PA X [a, b] (aM K am)) (hs : starEach [a, b] X.env = [(false, eval a X.env), (false, eval b X.env)] := by rfl) (hs2 : starEach [b] X.env = [(false, eval b X.env)] := by rfl) : PI X tg (.Call (.Name "range" p) [a, b] [] pos) (iM K (itR2 am)) :=
  PI.weak (pi_range2 hg hm ha hs hs2) fun σ H Q ⟨g, env, h, hr, er, w⟩ => ⟨g, env, h, hr, er, wAI w fun us h1 v H1 g1 l1 hr1 rv w1 => by
    split at w1
    · rename_i e
      split at e
      · split at e
        · rename_i z
          cases e
          cases rv with
          | cons r1 r2 =>
            cases r2 with
            | cons r2 r3 =>
              cases r3
              cases r1
              cases r2
              exact ⟨_, _, rfl, by omega, w1 _ H1 g1 (Le.refl _) hr1 it_range⟩
        · cases e
      · cases e
    · exact w1.elim⟩
/-- a list, a tuple, a text -/
def chkOf (x : U) (us : List U) : Chk := match x with
  | .ref n => [(n, us)]
  | _ => []
def itE (a : EM) : IM' := fun env h => (a env h).bind fun x h1 => match x with
  | .str s => .ok ([], s.map fun c => .str [c]) h1
  | x => match sL h1 x with
    | some us => .ok (chkOf x us, us) h1
    | none => .bad
/-- an iterable by its value: a list, a tuple or a text -/
def iAny (K : Fr) (tl : TE) : TI := fun σ H P => tl σ H fun x H1 => (∃ a, x = .ref a ∧ (∃ xs, SqL K H1 a xs) ∧ P (Itl K a) H1) ∨ (∃ a, x = .ref a ∧ (∃ xs, SqT K H1 a xs) ∧ P (Itt K a) H1) ∨ ∃ z, x = .str z ∧ P (Its z) H1
theorem pi_any {l : Expr} {tl : TE} (hl : PE X l tl) : PI X tg l (iAny X.K tl) := by
  refine ⟨fun pins s σ H R I h => ?_⟩
  refine thn (hl.run pins s σ H _ I h) fun v s1 ⟨x, H1, I1, r1, q1⟩ => ?_
  rcases q1 with q1 | q1 | q1
  · obtain ⟨a, e, ⟨xs, hq⟩, q⟩ := q1
    subst e
    cases r1
    obtain ⟨its, rv, p, hz⟩ := I1.list hq
    refine wpAny_pyIter_list p.isList ?_
    refine ⟨s1.heap.objs.size, [s1.heap.objs.size], _, _, H1, rfl, I1.kept (t' := s1.toks) fun b o e => Heap.get?_push_of_some _ e, turn_list a _, ⟨_, Heap.get?_push_size _ rfl, rfl, rfl⟩, fun b hb => ?_, q⟩
    have e : b = s1.heap.objs.size := by simpa using hb
    subst e
    exact I1.fpOk (Nat.le_refl _) (I1.hok.fresh (Nat.le_refl _))
  · obtain ⟨a, e, ⟨xs, hq⟩, q⟩ := q1
    subst e
    cases r1
    obtain ⟨its, rv, p, hz⟩ := I1.tuple hq
    refine wpAny_pyIter_tuple (show s1.heap.IsTuple a its.toArray from p) ?_
    refine ⟨s1.heap.objs.size, [s1.heap.objs.size], _, _, H1, rfl, I1.kept (t' := s1.toks) fun b o e => Heap.get?_push_of_some _ e, turn_tuple a _, ⟨_, Heap.get?_push_size _ rfl, rfl, rfl⟩, fun b hb => ?_, q⟩
    have e : b = s1.heap.objs.size := by simpa using hb
    subst e
    exact I1.fpOk (Nat.le_refl _) (I1.hok.fresh (Nat.le_refl _))
  · obtain ⟨z, ex, q⟩ := q1
    subst ex
    obtain ⟨t, rfl⟩ := r1
    cases ha : z.cps.all (· < 128)
    · exact wpAny_pyIter_wide ha (pi_one (tk := s1.toks) I1 _ (turn_str _ z t "str_iterator" (.inr rfl)) ⟨_, Heap.get?_push_size _ rfl, rfl, rfl⟩ q)
    · exact wpAny_pyIter_ascii ha (pi_one (tk := s1.toks) I1 _ (turn_str _ z t "str_ascii_iterator" (.inl rfl)) ⟨_, Heap.get?_push_size _ rfl, rfl, rfl⟩ q)
/-- a list that lies in F, or is of the written part -/
theorem it_kl {a : Addr} {vs : List V} {us : List U} (q : SqL K g.F a vs) (r : Reps K g vs us) (one : ∀ g' H h, Le g g' → HR K g' H h → ∀ ys, SqL K H a ys → ys = vs) : ItOk K g (Itl K a) [] us where
  go := fun g' H h i l hr _ hi => by
    have hv : i < vs.length := by rw [r.len]; exact hi
    exact ⟨vs, vs[i], hr.sqL (sql_mono l.F q), by simp [hv]⟩
  stop := fun g' H h l hr _ => ⟨vs, hr.sqL (sql_mono l.F q), by rw [r.len]; exact Nat.le_refl _⟩
  yl := fun g' H h i x H' l hr _ hi y => by
    obtain ⟨rfl, y⟩ := y
    have hx := y vs (hr.sqL (sql_mono l.F q))
    obtain ⟨u, hu, ru⟩ := r.getV hx
    exact ⟨g', u, Le.refl _, hr, hu, ru.mono l⟩
theorem it_L {a : Addr} {vs : List V} {us : List U} (q : SqL K g.F a vs) (r : Reps K g vs us) : ItOk K g (Itl K a) [] us where
  go := fun g' H h i l hr _ hi => by
    have hv : i < vs.length := by rw [r.len]; exact hi
    exact ⟨vs, vs[i], hr.sqL (sql_mono l.F q), by simp [hv]⟩
  stop := fun g' H h l hr _ => ⟨vs, hr.sqL (sql_mono l.F q), by rw [r.len]; exact Nat.le_refl _⟩
  yl := fun g' H h i x H' l hr _ hi y => by
    obtain ⟨rfl, y⟩ := y
    have hx := y vs (hr.sqL (sql_mono l.F q))
    obtain ⟨u, hu, ru⟩ := r.getV hx
    exact ⟨g', u, Le.refl _, hr, hu, ru.mono l⟩
theorem it_T {a : Addr} {vs : List V} {us : List U} (q : SqT K g.F a vs) (r : Reps K g vs us) : ItOk K g (Itt K a) [] us where
  go := fun g' H h i l hr _ hi => by
    have hv : i < vs.length := by rw [r.len]; exact hi
    exact ⟨vs, vs[i], hr.sqT (sqt_mono l.F q), by simp [hv]⟩
  stop := fun g' H h l hr _ => ⟨vs, hr.sqT (sqt_mono l.F q), by rw [r.len]; exact Nat.le_refl _⟩
  yl := fun g' H h i x H' l hr _ hi y => by
    obtain ⟨rfl, y⟩ := y
    have hx := y vs (hr.sqT (sqt_mono l.F q))
    obtain ⟨u, hu, ru⟩ := r.getV hx
    exact ⟨g', u, Le.refl _, hr, hu, ru.mono l⟩
theorem it_ref {a : Addr} {n : Nat} {us : List U} (q : g.al[n]? = some a) : ItOk K g (Itl K a) [(n, us)] us where
  go := fun g' H h i l hr ck hi => by
    obtain ⟨vs, h1, h2⟩ := hr.ob n a _ (l.get q) (ck (n, us) (List.mem_singleton.mpr rfl))
    have hv : i < vs.length := by rw [h2.len]; exact hi
    exact ⟨vs, vs[i], .inl (.inl h1), by simp [hv]⟩
  stop := fun g' H h l hr ck => by
    obtain ⟨vs, h1, h2⟩ := hr.ob n a _ (l.get q) (ck (n, us) (List.mem_singleton.mpr rfl))
    exact ⟨vs, .inl (.inl h1), by rw [h2.len]; exact Nat.le_refl _⟩
  yl := fun g' H h i x H' l hr ck hi y => by
    obtain ⟨vs, h1, h2⟩ := hr.ob n a _ (l.get q) (ck (n, us) (List.mem_singleton.mpr rfl))
    obtain ⟨rfl, y⟩ := y
    obtain ⟨u, hu, ru⟩ := h2.getV (y vs (.inl (.inl h1)))
    exact ⟨g', u, Le.refl _, hr, hu, ru⟩
theorem it_str {s : List Nat} : ItOk K g (Its ⟨s.toArray⟩) [] (s.map fun c => .str [c]) where
  go := fun g' H h i l hr _ hi => by simpa [Its] using hi
  stop := fun g' H h l hr _ => by simp [Its]
  yl := fun g' H h i x H' l hr _ hi y => by
    obtain ⟨rfl, c, hc, rfl⟩ := y
    refine ⟨g', .str [c], Le.refl _, hr, ?_, .str [c]⟩
    have hc : s[i]? = some c := by simpa using hc
    simp [hc]
theorem si_e (he : PE X e (tM X.K me)) : PI X tg e (iM X.K (itE me)) :=
  PI.weak (pi_any he) fun σ H Q ⟨g, env, h, hr, er, w⟩ => ⟨g, env, h, hr, er, wEI w fun u h1 v H1 g1 l1 hr1 rv w1 => by
    cases rv with
    | str s => exact .inr (.inr ⟨_, rfl, w1 _ H1 g1 (Le.refl _) hr1 it_str⟩)
    | tup q r => exact .inr (.inl ⟨_, rfl, ⟨_, hr1.sqT q⟩, w1 _ H1 g1 (Le.refl _) hr1 (it_T q r)⟩)
    | fl q r => exact .inl ⟨_, rfl, ⟨_, .inl (.inl (hr1.ex _ _ q))⟩, w1 _ H1 g1 (Le.refl _) hr1 (it_L (.inl (.inl q)) r)⟩
    | kl q r => exact .inl ⟨_, rfl, ⟨_, hr1.sqL q⟩, w1 _ H1 g1 (Le.refl _) hr1 (it_L q r)⟩
    | @ref a n q =>
      have w1 : (match (match sL h1 (.ref n) with
        | some us => (R.ok (chkOf (.ref n) us, us) h1 : R (Chk × List U))
        | none => .bad) with
        | .ok (c, us) h' => ∀ J H' g', Le g1 g' → HR X.K g' H' h' → ItOk X.K g' J c us → Q J H'
        | .bad => False) := w1
      cases es : sL h1 (.ref n) with
      | none => rw [es] at w1; exact w1.elim
      | some us =>
        rw [es] at w1
        obtain ⟨b, vs, hb, h2, r2⟩ := mL_of hr1 (.ref q) (show mL h1 (.ref n) = _ from es)
        cases hb
        exact .inl ⟨_, rfl, ⟨vs, .inl (.inl h2)⟩, w1 _ H1 g1 (Le.refl _) hr1 (it_ref q)⟩
    | _ => exact w1.elim⟩
/-- pairs of the turn and the item; of two lists -/
def pairs (xs ys : List U) : List U := (xs.zip ys).map fun p => .tup [p.1, p.2]
theorem pairs_get {xs ys : List U} {i : Nat} {x y : U} (h1 : xs[i]? = some x) (h2 : ys[i]? = some y) : (pairs xs ys)[i]? = some (.tup [x, y]) := by
  unfold pairs
  rw [List.getElem?_map, show (xs.zip ys)[i]? = some (x, y) from List.getElem?_zip_eq_some.mpr ⟨h1, h2⟩]
  rfl
theorem pairs_len (xs ys : List U) : (pairs xs ys).length = min xs.length ys.length := by simp [pairs]
/-- where a list lies: what it holds as long as it is not touched -/
structure LsOk (K : Fr) (g : G) (a : Addr) (c : Chk) (us : List U) : Prop where
  is : ∀ g' H h, Le g g' → HR K g' H h → chkOk c h → ∃ vs, SqL K H a vs ∧ Reps K g' vs us
theorem ls_of {us : List U} (hr : HR K g H h) (r : Rep K g v x) (e : aL h x = some us) : ∃ a, v = .ref a ∧ LsOk K g a (chkOf x us) us ∧ ∃ vs, SqL K H a vs := by
  cases r with
  | kl q s => cases e; exact ⟨_, rfl, ⟨fun g' H h l hr _ => ⟨_, hr.sqL (sql_mono l.F q), s.mono l⟩⟩, _, hr.sqL q⟩
  | fl q s => cases e; exact ⟨_, rfl, ⟨fun g' H h l hr _ => ⟨_, .inl (.inl (hr.ex _ _ (l.F _ _ q))), s.mono l⟩⟩, _, .inl (.inl (hr.ex _ _ q))⟩
  | @ref a n q =>
    obtain ⟨b, vs, hb, h2, r2⟩ := mL_of hr (.ref q) (show mL h (.ref n) = _ from e)
    cases hb
    refine ⟨_, rfl, ⟨fun g' H h l hr ck => ?_⟩, vs, .inl (.inl h2)⟩
    obtain ⟨ws, h1, h3⟩ := hr.ob n _ _ (l.get q) (ck (n, us) (List.mem_singleton.mpr rfl))
    exact ⟨ws, .inl (.inl h1), h3⟩
  | _ => simp [aL, mL] at e
theorem chk_app {c d : Chk} {h : Sto} (k : chkOk (c ++ d) h) : chkOk c h ∧ chkOk d h := ⟨fun p hp => k p (List.mem_append_left _ hp), fun p hp => k p (List.mem_append_right _ hp)⟩
theorem it_zip {a b : Addr} {c d : Chk} {us ts : List U} (la : LsOk K g a c us) (lb : LsOk K g b d ts) : ItOk K g (Itz K a b) (c ++ d) (pairs us ts) where
  go := fun g' H h i l hr ck hi => by
    rw [pairs_len] at hi
    obtain ⟨vs, h1, r1⟩ := la.is g' H h l hr (chk_app ck).1
    obtain ⟨ws, h2, r2⟩ := lb.is g' H h l hr (chk_app ck).2
    have e1 : i < vs.length := by rw [r1.len]; omega
    have e2 : i < ws.length := by rw [r2.len]; omega
    exact ⟨vs, ws, vs[i], ws[i], h1, h2, by simp [e1], by simp [e2]⟩
  stop := fun g' H h l hr ck => by
    rw [pairs_len]
    obtain ⟨vs, h1, r1⟩ := la.is g' H h l hr (chk_app ck).1
    obtain ⟨ws, h2, r2⟩ := lb.is g' H h l hr (chk_app ck).2
    exact ⟨vs, ws, h1, h2, by rw [r1.len, r2.len]; omega⟩
  yl := fun g' H h i x H' l hr ck hi y => by
    obtain ⟨vs, h1, r1⟩ := la.is g' H h l hr (chk_app ck).1
    obtain ⟨ws, h2, r2⟩ := lb.is g' H h l hr (chk_app ck).2
    obtain ⟨T, x1, x2, rfl, hT, rfl, y1, y2⟩ := y
    obtain ⟨u1, q1, z1⟩ := r1.getV (y1 vs h1)
    obtain ⟨u2, q2, z2⟩ := r2.getV (y2 ws h2)
    obtain ⟨l2, a1, a2⟩ := hr.newTup hT (.cons z1 (.cons z2 .nil))
    exact ⟨_, _, l2, a1, pairs_get q1 q2, a2⟩
theorem it_enum {a : Addr} {c : Chk} {us : List U} (la : LsOk K g a c us) : ItOk K g (Ite K a) c (pairs (rng 0 us.length) us) where
  go := fun g' H h i l hr ck hi => by
    rw [pairs_len, rng_len] at hi
    obtain ⟨vs, h1, r1⟩ := la.is g' H h l hr ck
    have e1 : i < vs.length := by rw [r1.len]; omega
    exact ⟨vs, vs[i], h1, by simp [e1]⟩
  stop := fun g' H h l hr ck => by
    rw [pairs_len, rng_len]
    obtain ⟨vs, h1, r1⟩ := la.is g' H h l hr ck
    exact ⟨vs, h1, by rw [r1.len]; omega⟩
  yl := fun g' H h i x H' l hr ck hi y => by
    rw [pairs_len, rng_len] at hi
    obtain ⟨vs, h1, r1⟩ := la.is g' H h l hr ck
    obtain ⟨T, x2, rfl, hT, rfl, y2⟩ := y
    obtain ⟨u2, q2, z2⟩ := r1.getV (y2 vs h1)
    obtain ⟨l2, a1, a2⟩ := hr.newTup hT (.cons (.int (i : Nat)) (.cons z2 .nil))
    refine ⟨_, _, l2, a1, pairs_get (x := .int (i : Nat)) ?_ q2, a2⟩
    rw [rng_get (by omega)]
    simp
def itZ (am : AM) : IM' := fun env h => (am env h).bind fun us h1 => match us with
  | [x, y] => (match aL h1 x, aL h1 y with
    | some us, some ts => .ok (chkOf x us ++ chkOf y ts, pairs us ts) h1
    | _, _ => .bad)
  | _ => .bad
def itN (am : AM) : IM' := fun env h => (am env h).bind fun us h1 => match us with
  | [x] => (match aL h1 x with
    | some us => .ok (chkOf x us, pairs (rng 0 us.length) us) h1
    | _ => .bad)
  | _ => .bad
variable {tpos : Pos} {elts : List Expr} {kk : Nat}
theorem si_zip (hg : Gl X "zip") (hm : X.mg "zip" = none) (ha : PA X [a, b] (aM X.K am)) (hs : starEach [a, b] X.env = (false, eval a X.env) :: starEach [b] X.env := by rfl) (hpl : (backTo pos (starEach [b] X.env)).any (·.1) = false := by rfl) : PI X (.Tuple elts kk tpos) (.Call (.Name "zip" p) [a, b] [] pos) (iM X.K (itZ am)) :=
  PI.weak (pi_zip hg hm ha hs hpl) fun σ H Q ⟨g, env, h, hr, er, w⟩ => ⟨g, env, h, hr, er, wAI w fun us h1 v H1 g1 l1 hr1 rv w1 => by
    split at w1
    · rename_i e
      split at e
      · split at e
        · rename_i e1 e2
          cases e
          cases rv with
          | cons r1 r2 =>
            cases r2 with
            | cons r2 r3 =>
              cases r3
              obtain ⟨a, rfl, la, vs, ha⟩ := ls_of hr1 r1 e1
              obtain ⟨b, rfl, lb, ws, hb⟩ := ls_of hr1 r2 e2
              exact ⟨a, b, vs, ws, rfl, ha, hb, w1 _ H1 g1 (Le.refl _) hr1 (it_zip la lb)⟩
        · cases e
      · cases e
    · exact w1.elim⟩
theorem si_enum (hg : Gl X "enumerate") (hm : X.mg "enumerate" = none) (ha : PA X [a] (aM X.K am)) (hs : starEach [a] X.env = [(false, eval a X.env)] := by rfl) : PI X (.Tuple elts kk tpos) (.Call (.Name "enumerate" p) [a] [] pos) (iM X.K (itN am)) :=
  PI.weak (pi_enum hg hm ha hs) fun σ H Q ⟨g, env, h, hr, er, w⟩ => ⟨g, env, h, hr, er, wAI w fun us h1 v H1 g1 l1 hr1 rv w1 => by
    split at w1
    · rename_i e
      split at e
      · split at e
        · rename_i e1
          cases e
          cases rv with
          | cons r1 r2 =>
            cases r2
            obtain ⟨a, rfl, la, vs, ha⟩ := ls_of hr1 r1 e1
            exact ⟨a, vs, rfl, ha, w1 _ H1 g1 (Le.refl _) hr1 (it_enum la)⟩
        · cases e
      · cases e
    · exact w1.elim⟩
end
end Q

set_option Elab.async false
set_option linter.all false
set_option maxRecDepth 100000
set_option maxHeartbeats 1000000
namespace Q
open PySem PySem.Spec PyProof.Rows L2 TL
/-! ### statements -/
def mNx : SM := fun env h => .nx env h
def mSeq (a b : SM) : SM := fun env h => match a env h with
  | .nx e h1 => b e h1
  | r => r
def gCT (c : CT) (u : U) (env : Env') (h : Sto) : RS := match c.asg u env h with
  | some e => .nx e h
  | none => .bad
def mAsg (c : CT) (a : EM) : SM := fun env h => match a env h with
  | .ok u h1 => gCT c u env h1
  | .bad => .bad
def mRet (a : EM) : SM := fun env h => match a env h with
  | .ok u h1 => .rt u h1
  | .bad => .bad
def mRetN : SM := fun _ h => .rt .non h
def mDrop (a : EM) : SM := fun env h => match a env h with
  | .ok _ h1 => .nx env h1
  | .bad => .bad
def mIfS (t : TM) (a b : SM) : SM := fun env h => match t env h with
  | .ok true h1 => a env h1
  | .ok false h1 => b env h1
  | .bad => .bad
def mBrk : SM := fun env h => .bk env h
def mCnt : SM := fun env h => .ct env h
section
variable {K : Fr} {g g' : G} {X : Cx} {H : Hp} {h : Sto} {v w : V} {x y : U} {σ : L2.St} {env : Env'} {a b c e o tg : Expr} {es rest : List Expr} {ma mb mc me mo : EM} {ta tb : TM} {pos : Pos} {am : AM} {n : Str} {p : Pos}
  {st : Stmt} {sts : List Stmt} {m m1 m2 : SM}
theorem ss_nil : PSs X [] (sM K mNx) := PSs.weak pss_nil fun D σ H ⟨g, env, h, hr, er, w⟩ => w σ H g (Le.refl _) hr er
theorem ss_cons (h1 : PS X st (sM K m1)) (h2 : PSs X sts (sM K m2)) : PSs X (st :: sts) (sM K (mSeq m1 m2)) :=
  PSs.weak (pss_cons h1 h2) fun D σ H ⟨g, env, h, hr, er, w⟩ => ⟨g, env, h, hr, er, by
    unfold mSeq at w
    cases e1 : m1 env h with
    | nx e h1 =>
      rw [e1] at w
      exact fun σ1 H1 g1 l1 hr1 er1 => ⟨g1, e, h1, hr1, er1, WS.mono l1 w⟩
    | rt u h1 => rw [e1] at w; exact w
    | bk e h1 => rw [e1] at w; exact w
    | ct e h1 => rw [e1] at w; exact w
    | bad => rw [e1] at w; exact w⟩
theorem ss_one (h1 : PS X st (sM K m)) : PSs X [st] (sM K m) := pss_one h1
theorem wAsg {r : R U} {f : U → Sto → RS} {D : Ends} {P : VK} (t : WS K g (match r with | .ok u h1 => f u h1 | .bad => .bad) D) (k : ∀ u h v H g', Le g g' → HR K g' H h → Rep K g' v u → WS K g' (f u h) D → P v H) : WE K g r P := by
  cases r with
  | bad => exact t
  | ok u h => exact fun v H g' l hr rv => k u h v H g' l hr rv (WS.mono l t)
theorem gct_to {ct : CT} {D : Ends} {u : U} (hr : HR K g H h) (er : ER K g σ env) (rv : Rep K g v u) (w : WS K g (gCT ct u env h) D) : ct.rd K v σ H D.nx := by
  unfold gCT at w
  cases e : ct.asg u env h with
  | none => rw [e] at w; exact w.elim
  | some env' =>
    rw [e] at w
    exact ct_to hr er rv e fun σ' er' _ => w σ' H g (Le.refl _) hr er'
theorem asg_to {ct : CT} {D : Ends} (q : sM K (mAsg ct ma) D σ H) : tAsg (tM K ma) (ct.rd K) D σ H := by
  obtain ⟨g, env, h, hr, er, w⟩ := q
  exact ⟨g, env, h, hr, er, wAsg w fun u h1 v H1 g1 l1 hr1 rv w1 => gct_to hr1 (er.mono l1) rv w1⟩
theorem ss_set {i : Nat} {x : Str} {pos' : Pos} (hN : X.N.Nodup) (hi : X.N[i]? = some x) (hx : L2.Loc X.env.scope x) (he : PE X e (tM K me)) (hs : swapsWith e (some (.Name x pos')) pos.line X.env = pure false := by rfl)
    (hf : X.fn x = true ∨ X.env.scope.names.lookup x = some .local := by first | exact .inl rfl | exact .inr rfl | assumption) : PS X (.Assign [.Name x pos'] e pos) (sM K (mAsg (.one i) me)) :=
  PS.weak (ps_set hN hi hx he hs hf) fun D σ H q => asg_to q
theorem ss_setT {is : List Nat} {elts : List Expr} {kk : Nat} {tp : Pos} (hc : X.calm = true) (he : PE X e (tM X.K me)) (hg : PGs X elts (gAll is)) (hn : (assignEach elts X.env).length = is.length := by rfl) (hst : (assignEach elts X.env).findIdx? (·.1) = none := by rfl)
    (hs : swapsWithSole [.Tuple elts kk tp] e pos.line X.env = pure false := by rfl) (hw : swappedStores [.Tuple elts kk tp] e X.env = pure none := by rfl) (h1 : (assignEach [.Tuple elts kk tp] X.env).map (·.2) = [assign (.Tuple elts kk tp) X.env] := by rfl) :
    PS X (.Assign [.Tuple elts kk tp] e pos) (sM X.K (mAsg (.tup is) me)) :=
  PS.weak (ps_asg he (pg_tup hc hg hn hst) hs hw h1) fun D σ H q => asg_to q
theorem ss_setL {is : List Nat} {elts : List Expr} {kk : Nat} {tp : Pos} (hc : X.calm = true) (he : PE X e (tM X.K me)) (hg : PGs X elts (gAll is)) (hn : (assignEach elts X.env).length = is.length := by rfl) (hst : (assignEach elts X.env).findIdx? (·.1) = none := by rfl)
    (hs : swapsWithSole [.Tuple elts kk tp] e pos.line X.env = pure false := by rfl) (hw : swappedStores [.Tuple elts kk tp] e X.env = pure none := by rfl) (h1 : (assignEach [.Tuple elts kk tp] X.env).map (·.2) = [assign (.Tuple elts kk tp) X.env] := by rfl) :
    PS X (.Assign [.Tuple elts kk tp] e pos) (sM X.K (mAsg (.lst is) me)) :=
  PS.weak (ps_asg he (pg_unl hc hg hn hst) hs hw h1) fun D σ H q => asg_to q
theorem ss_ret (he : PE X e (tM K me)) : PS X (.Return (some e) pos) (sM K (mRet me)) :=
  PS.weak (ps_ret he) fun D σ H ⟨g, env, h, hr, er, w⟩ => ⟨g, env, h, hr, er, wAsg w fun u h1 v H1 g1 l1 hr1 rv w1 => w1 v H1 g1 (Le.refl _) hr1 rv⟩
theorem ss_retN : PS X (.Return none pos) (sM K mRetN) := PS.weak ps_retN fun D σ H ⟨g, env, h, hr, er, w⟩ => w .non H g (Le.refl _) hr .non
theorem ss_expr (he : PE X e (tM K me)) (hs : swapsWith e none pos.line X.env = pure false := by rfl) : PS X (.Expr e pos) (sM K (mDrop me)) :=
  PS.weak (ps_expr he hs) fun D σ H ⟨g, env, h, hr, er, w⟩ => ⟨g, env, h, hr, er, wAsg w fun u h1 v H1 g1 l1 hr1 rv w1 => w1 σ H1 g1 (Le.refl _) hr1 (er.mono l1)⟩
theorem ss_if {sa sb : List Stmt} (hc : PT X c (bM K ta)) (ha : PSs X sa (sM K m1)) (hb : PSs X sb (sM K m2)) : PS X (.If c sa sb pos) (sM K (mIfS ta m1 m2)) :=
  PS.weak (ps_if hc ha hb) fun D σ H ⟨g, env, h, hr, er, w⟩ => ⟨g, env, h, hr, er, by
    unfold mIfS at w
    cases e : ta env h with
    | bad => rw [e] at w; exact w
    | ok k h1 =>
      rw [e] at w
      intro H1 g1 l1 hr1
      cases k with
      | true => exact ⟨g1, env, h1, hr1, er.mono l1, WS.mono l1 w⟩
      | false => exact ⟨g1, env, h1, hr1, er.mono l1, WS.mono l1 w⟩⟩
theorem ss_pass : PS X (.Pass pos) (sM K mNx) := PS.weak ps_pass fun D σ H ⟨g, env, h, hr, er, w⟩ => w σ H g (Le.refl _) hr er
theorem ss_brk : PS X (.Break pos) (sM K mBrk) := PS.weak ps_break fun D σ H ⟨g, env, h, hr, er, w⟩ => w σ H g (Le.refl _) hr er
theorem ss_cnt : PS X (.Continue pos) (sM K mCnt) := PS.weak ps_continue fun D σ H ⟨g, env, h, hr, er, w⟩ => w σ H g (Le.refl _) hr er

/-! ### for -/
open Classical in
noncomputable def forL (c : Chk) (ct : CT) (mb : SM) : List U → Env' → Sto → RS
  | [], env, h => if chkOk c h then .nx env h else .bad
  | u :: us, env, h => if chkOk c h then (match ct.asg u env h with
      | some env1 => (match mb env1 h with
        | .nx e h1 => forL c ct mb us e h1
        | .ct e h1 => forL c ct mb us e h1
        | .bk e h1 => .nx e h1
        | r => r)
      | none => .bad) else .bad
noncomputable def mFor (mi : IM') (ct : CT) (mb : SM) : SM := fun env h => match mi env h with
  | .ok (c, us) h1 => forL c ct mb us env h1
  | .bad => .bad
theorem for_to {J : It} {c : Chk} {us : List U} {ct : CT} {mb : SM} {tb' : TS} {D : Ends} (hb : ∀ D σ H, sM K mb D σ H → tb' D σ H) (hr : HR K g H h) (er : ER K g σ env) (ok : ItOk K g J c us) (w : WS K g (forL c ct mb us env h) D) :
    ∃ W : Nat → Nat → L2.St → Hp → Prop, (∃ m, W 0 m σ H) ∧ ∀ i m σ H, W i m σ H →
      (J.stop i H ∧ D.nx σ H) ∨ (J.go i H ∧ ∃ N : L2.St → Hp → Prop, (∀ σ' H', N σ' H' → ∃ m', m' < m ∧ W (i + 1) m' σ' H') ∧ ∀ x H', J.yld i H x H' → ct.rd K x σ H' fun σ2 H2 => tb' { D with nx := N, ct := N, bk := D.nx } σ2 H2) := by
  refine ⟨fun i m σ H => m = us.length - i ∧ i ≤ us.length ∧ ∃ g' env h, Le g g' ∧ HR K g' H h ∧ ER K g' σ env ∧ WS K g' (forL c ct mb (us.drop i) env h) D, ⟨us.length, by simp, Nat.zero_le _, g, env, h, Le.refl _, hr, er, w⟩, ?_⟩
  rintro i m σ H ⟨rfl, hi, g', env, h, l, hr, er, w⟩
  by_cases hlt : i < us.length
  · rw [List.drop_eq_getElem_cons hlt] at w
    unfold forL at w
    split at w
    · rename_i ck
      refine .inr ⟨ok.go g' H h i l hr ck hlt, fun σ' H' => i + 1 ≤ us.length ∧ ∃ g2 env h, Le g g2 ∧ HR K g2 H' h ∧ ER K g2 σ' env ∧ WS K g2 (forL c ct mb (us.drop (i + 1)) env h) D, fun σ' H' q => ⟨us.length - (i + 1), by omega, rfl, q⟩, fun x H' y => ?_⟩
      obtain ⟨g2, u, l2, hr2, hu, ru⟩ := ok.yl g' H h i x H' l hr ck hlt y
      have eu : us[i] = u := by
        rw [List.getElem?_eq_getElem hlt] at hu
        exact Option.some.inj hu
      rw [eu] at w
      cases ea : ct.asg u env h with
      | none => rw [ea] at w; exact w.elim
      | some env1 =>
        rw [ea] at w
        refine ct_to hr2 (er.mono l2) ru ea fun σ2 er2 _ => hb _ _ _ ⟨g2, env1, h, hr2, er2, ?_⟩
        have w := WS.mono l2 w
        simp only at w
        cases eb : mb env1 h with
        | bad => rw [eb] at w; exact w
        | rt u h1 => rw [eb] at w; exact w
        | bk e h1 => rw [eb] at w; exact w
        | nx e h1 => rw [eb] at w; exact fun σ3 H3 g3 l3 hr3 er3 => ⟨hlt, g3, e, h1, (l.trans l2).trans l3, hr3, er3, WS.mono l3 w⟩
        | ct e h1 => rw [eb] at w; exact fun σ3 H3 g3 l3 hr3 er3 => ⟨hlt, g3, e, h1, (l.trans l2).trans l3, hr3, er3, WS.mono l3 w⟩
    · exact w.elim
  · have e : i = us.length := by omega
    subst e
    rw [List.drop_length] at w
    unfold forL at w
    split at w
    · rename_i ck
      exact .inl ⟨ok.stop g' H h l hr ck, w σ H g' (Le.refl _) hr er⟩
    · exact w.elim
variable {mi : IM'} {ct : CT} {iter : Expr} {body : List Stmt} {mbs : SM}
theorem ss_for (hp : PassesOwn (model X.prog X.w) X.A X.env X.xe) (hc : X.calm = true) (hi : PI X tg iter (iM X.K mi)) (hg : PG X tg (ct.rd X.K)) (hb : PSs X body (sM X.K mbs)) (hs : ∀ x, foldedSetIterable iter X.env x = pure x := by intro _; rfl) :
    PS X (.For tg iter body [] pos) (sM X.K (mFor mi ct mbs)) :=
  PS.weak (ps_for hp hc hi hg hb hs) fun D σ H ⟨g, env, h, hr, er, w⟩ => ⟨g, env, h, hr, er, by
    unfold mFor at w
    cases e : mi env h with
    | bad => rw [e] at w; exact w
    | ok z h1 =>
      obtain ⟨c, us⟩ := z
      rw [e] at w
      exact fun J H1 g1 l1 hr1 ok => for_to (fun _ _ _ q => q) hr1 (er.mono l1) ok (WS.mono l1 w)⟩
theorem pg_one {i : Nat} {x : Str} (hN : X.N.Nodup) (hi : X.N[i]? = some x) (hx : L2.Loc X.env.scope x) (hf : X.fn x = true ∨ X.env.scope.names.lookup x = some .local := by first | exact .inl rfl | exact .inr rfl | assumption) : PG X (.Name x pos) ((CT.one i).rd K) := pg_name hN hi hx hf
theorem pg_tupA {is : List Nat} {elts : List Expr} {kk : Nat} (hc : X.calm = true) (hg : PGs X elts (gAll is)) (hn : (assignEach elts X.env).length = is.length := by rfl) (hst : (assignEach elts X.env).findIdx? (·.1) = none := by rfl) : PG X (.Tuple elts kk pos) ((CT.tup is).rd X.K) := pg_tup hc hg hn hst
theorem pgs_n : PGs X [] (gAll []) := pgs_nil
theorem pgs_c {i : Nat} {x : Str} {is : List Nat} {es : List Expr} (hN : X.N.Nodup) (hi : X.N[i]? = some x) (hx : L2.Loc X.env.scope x) (h2 : PGs X es (gAll is)) (hf : X.fn x = true ∨ X.env.scope.names.lookup x = some .local := by first | exact .inl rfl | exact .inr rfl | assumption)
    (hs : (assignEach (.Name x pos :: es) X.env).map (·.2) = assign (.Name x pos) X.env :: (assignEach es X.env).map (·.2) := by rfl) : PGs X (.Name x pos :: es) (gAll (i :: is)) := pgs_cons (pg_name hN hi hx hf) h2 hs
/-! ### while -/
def whL (t : TM) (mb : SM) : Nat → Env' → Sto → RS
  | 0, _, _ => .bad
  | n + 1, env, h => match t env h with
    | .ok true h1 => (match mb env h1 with
      | .nx e h2 => whL t mb n e h2
      | .ct e h2 => whL t mb n e h2
      | .bk e h2 => .nx e h2
      | r => r)
    | .ok false h1 => .nx env h1
    | .bad => .bad
def mWhile (n : Nat) (t : TM) (mb : SM) : SM := fun env h => whL t mb n env h
theorem ss_while {n : Nat} (hp : PassesOwn (model X.prog X.w) X.A X.env X.xe) (hc : PT X c (bM K ta)) (hb : PSs X body (sM K mbs)) : PS X (.While c body [] pos) (sM K (mWhile n ta mbs)) :=
  PS.weak (ps_while hp hc hb) fun D σ H ⟨g, env, h, hr, er, w⟩ => by
    refine ⟨fun m σ H => ∃ g env h, HR K g H h ∧ ER K g σ env ∧ WS K g (whL ta mbs m env h) D, ⟨n, g, env, h, hr, er, w⟩, ?_⟩
    rintro m σ H ⟨g, env, h, hr, er, w⟩
    cases m with
    | zero => exact w.elim
    | succ m =>
      unfold whL at w
      refine ⟨g, env, h, hr, er, ?_⟩
      cases e : ta env h with
      | bad => rw [e] at w; exact w
      | ok k h1 =>
        rw [e] at w
        intro H1 g1 l1 hr1
        cases k with
        | false => exact w σ H1 g1 l1 hr1 (er.mono l1)
        | true =>
          refine ⟨fun σ' H' => ∃ g env h, HR K g H' h ∧ ER K g σ' env ∧ WS K g (whL ta mbs m env h) D, fun σ' H' q => ⟨m, Nat.lt_succ_self m, q⟩, g1, env, h1, hr1, er.mono l1, ?_⟩
          have w := WS.mono l1 w
          simp only at w
          cases eb : mbs env h1 with
          | bad => rw [eb] at w; exact w
          | rt u h1 => rw [eb] at w; exact w
          | bk e h1 => rw [eb] at w; exact w
          | nx e h1 => rw [eb] at w; exact fun σ3 H3 g3 l3 hr3 er3 => ⟨g3, e, h1, hr3, er3, WS.mono l3 w⟩
          | ct e h1 => rw [eb] at w; exact fun σ3 H3 g3 l3 hr3 er3 => ⟨g3, e, h1, hr3, er3, WS.mono l3 w⟩
/-! ### comprehensions -/
open Classical in
noncomputable def lcL (c : Chk) (ct : CT) (t : TM) (me : EM) (n : Nat) (env : Env') : List U → Sto → R U
  | [], h => if chkOk c h then .ok (.ref n) h else .bad
  | u :: us, h => if chkOk c h then (match ct.asg u env h with
      | some env1 => (t env1 h).bind fun b h1 => if b = true then (me env1 h1).bind fun y h2 => (match h2[n]? with
          | some (.lst acc) => if acc.length < 16000000 then lcL c ct t me n env us (h2.set n (.lst (acc ++ [y]))) else .bad
          | _ => .bad) else lcL c ct t me n env us h1
      | none => .bad) else .bad
noncomputable def mLc (mi : IM') (ct : CT) (t : TM) (me : EM) (vs : List Nat) : EM := fun env h => (mi env h).bind fun z h1 => lcL z.1 ct t me h1.length (wipeE env vs) z.2 (h1 ++ [.lst []])
def bYes : TM := fun _ h => .ok true h
theorem lc_to {J : It} {c : Chk} {us : List U} {Q : VK} {vs : List Nat} {tt : TT} {te : TE} {H1 : Hp} {h1 : Sto} {env : Env'} {D : Addr} (hct : ∀ i ∈ ct.ix, i ∈ vs) (ht : ∀ σ H Q, bM K ta σ H Q → tt σ H Q) (he : ∀ σ H Q, tM K me σ H Q → te σ H Q)
    (hr : HR K g H1 h1) (er : ER K g σ env) (ok : ItOk K g J c us) (hD : H1 D = none) (w : WE K g (lcL c ct ta me h1.length (wipeE env vs) us (h1 ++ [.lst []])) Q) :
    ∃ W : Nat → Nat → Hp → Prop, (∃ m, W 0 m (upd H1 D (.lst []))) ∧ ∀ i m H, W i m H →
      (J.stop i H ∧ Q (.ref D) H) ∨ (J.go i H ∧ ∃ Nx : Hp → Prop, (∀ H', Nx H' → ∃ m', m' < m ∧ W (i + 1) m' H') ∧ ∀ x H', J.yld i H x H' → ct.rd K x (wipe σ vs) H' fun σ2 H2 => wipe σ2 vs = wipe σ vs ∧ tt σ2 H2 fun b H3 =>
        if b = true then te σ2 H3 fun y H4 => ∃ acc, H4 D = some (.lst acc) ∧ acc.length < sizeLine ∧ Nx (upd H4 D (.lst (acc ++ [y]))) else Nx H3) := by
  have hDn : (g.new D).al[h1.length]? = some D := by
    show (g.al ++ [D])[h1.length]? = _
    rw [← hr.len]; simp
  have hr0 : HR K (g.new D) (upd H1 D (.lst [])) (h1 ++ [.lst []]) := hr.newLst hD .nil
  refine ⟨fun i m H => m = us.length - i ∧ i ≤ us.length ∧ ∃ g' h, Le (g.new D) g' ∧ HR K g' H h ∧ WE K g' (lcL c ct ta me h1.length (wipeE env vs) (us.drop i) h) Q, ⟨us.length, by simp, Nat.zero_le _, g.new D, _, Le.refl _, hr0, WE.mono Le.new w⟩, ?_⟩
  rintro i m H ⟨rfl, hi, g', h, l, hr, w⟩
  have l0 : Le g g' := Le.new.trans l
  have hn' : g'.al[h1.length]? = some D := l.get hDn
  by_cases hlt : i < us.length
  · rw [List.drop_eq_getElem_cons hlt] at w
    unfold lcL at w
    split at w
    · rename_i ck
      refine .inr ⟨ok.go g' H h i l0 hr ck hlt, fun H' => i + 1 ≤ us.length ∧ ∃ g2 h, Le (g.new D) g2 ∧ HR K g2 H' h ∧ WE K g2 (lcL c ct ta me h1.length (wipeE env vs) (us.drop (i + 1)) h) Q, fun H' q => ⟨us.length - (i + 1), by omega, rfl, q⟩, fun x H' y => ?_⟩
      obtain ⟨g2, u, l2, hr2, hu, ru⟩ := ok.yl g' H h i x H' l0 hr ck hlt y
      have eu : us[i] = u := by
        rw [List.getElem?_eq_getElem hlt] at hu
        exact Option.some.inj hu
      rw [eu] at w
      cases ea : ct.asg u (wipeE env vs) h with
      | none => rw [ea] at w; exact w.elim
      | some env1 =>
        rw [ea] at w
        have w : WE K g' ((ta env1 h).bind _) Q := w
        refine ct_to hr2 ((er.wipe vs).mono (l0.trans l2)) ru ea fun σ2 er2 hw => ⟨by rw [hw vs hct, wipe_wipe], ht _ _ _ ⟨g2, env1, h, hr2, er2, ?_⟩⟩
        refine wT (WE.mono l2 w) fun b h2 H2 g3 l3 hr3 w3 => ?_
        have er3 := er2.mono l3
        cases b with
        | false => exact ⟨hlt, g3, h2, (l.trans l2).trans l3, hr3, w3⟩
        | true =>
          have w3 : WE K g3 ((me env1 h2).bind _) Q := w3
          refine he _ _ _ ⟨g3, env1, h2, hr3, er3, wE w3 fun y h3 vy H3 g4 l4 hr4 ry w4 => ?_⟩
          have hn4 : g4.al[h1.length]? = some D := ((l2.trans l3).trans l4).get hn'
          split at w4
          · rename_i acc e4
            split at w4
            · rename_i z
              obtain ⟨vacc, h5, r5⟩ := hr4.ob _ _ _ hn4 e4
              exact ⟨vacc, h5, by rw [r5.len]; exact sz16l z, hlt, g4, _, ((l.trans l2).trans l3).trans l4, hr4.setLst hn4 (r5.app (.one ry)), w4⟩
            · exact w4.elim
          · exact w4.elim
    · exact w.elim
  · have e : i = us.length := by omega
    subst e
    rw [List.drop_length] at w
    unfold lcL at w
    split at w
    · rename_i ck
      exact .inl ⟨ok.stop g' H h l0 hr ck, w (.ref D) H g' (Le.refl _) hr (.ref hn')⟩
    · exact w.elim
theorem lcM_to {vs : List Nat} {tt : TT} {te : TE} {Q : VK} (hct : ∀ i ∈ ct.ix, i ∈ vs) (ht : ∀ σ H Q, bM K ta σ H Q → tt σ H Q) (he : ∀ σ H Q, tM K me σ H Q → te σ H Q) (q : tM K (mLc mi ct ta me vs) σ H Q) : tLc (iM K mi) (ct.rd K) tt te vs σ H Q := by
  obtain ⟨g, env, h, hr, er, w⟩ := q
  refine ⟨g, env, h, hr, er, ?_⟩
  unfold mLc at w
  cases e : mi env h with
  | bad => rw [e] at w; exact w
  | ok z h1 =>
    obtain ⟨c, us⟩ := z
    rw [e] at w
    have w : WE K g (lcL c ct ta me h1.length (wipeE env vs) us (h1 ++ [.lst []])) Q := w
    exact fun J H1 g1 l1 hr1 ok D hD => lc_to hct ht he hr1 (er.mono l1) ok hD (WE.mono l1 w)
abbrev Blk (X : Cx) (scope : Scope) (P : Cx → Prop) : Prop := ∀ (s : Shared) (H : Hp) (C : Addr) (cl : List (Str × Addr)) (fp : List Addr), P (X.blk s H scope (compEnvC scope cl C X.env) fp)
theorem pts_y {X : Cx} : PTs X [] (bM K bYes) := ⟨fun pins s σ H Q I ⟨g, env, h, hr, er, w⟩ => pts_nil.run pins s σ H Q I (w H g (Le.refl _) hr)⟩
theorem pts_1 {X : Cx} (h : PT X c (bM K ta)) : PTs X [c] (bM K ta) := pts_one h
variable {elt : Expr} {ifs : List Expr} {scope : Scope} {own : List (Str × Nat)}
theorem se_lc {vs : List Nat} (hc : X.calm = true) (hN : X.N.Nodup) (hi : PI X tg iter (iM X.K mi)) (ok : BlkOk X.N X.env.scope scope own) (hv : own.map (·.2) = vs) (hct : ∀ i ∈ ct.ix, i ∈ vs)
    (hg : Blk X scope fun Y => PG Y tg (ct.rd X.K)) (ht : Blk X scope fun Y => PTs Y ifs (bM X.K ta)) (he : Blk X scope fun Y => PE Y elt (tM X.K me)) (hs : ∀ x, foldedSetIterable iter X.env x = pure x := by intro _; rfl) :
    PE X (.ListComp elt [⟨tg, iter, ifs, 0⟩] scope pos) (tM X.K (mLc mi ct ta me vs)) := by
  subst hv
  exact PE.weak (pe_lc hc hN hi ok hg ht he hs) fun σ H Q q => lcM_to hct (fun _ _ _ z => z) (fun _ _ _ z => z) q
theorem ss_setLc {i : Nat} {y : Str} {py spos : Pos} {vs : List Nat} (hc : X.calm = true) (hN : X.N.Nodup) (hy : X.N[i]? = some y) (hyl : X.env.scope.names.lookup y = some .local) (hsw : swapsWith (.ListComp elt [⟨tg, iter, ifs, 0⟩] scope pos) (some (.Name y py)) spos.line X.env = pure true)
    (hi : PI X tg iter (iM X.K mi)) (ok : BlkOk X.N X.env.scope scope own) (hv : own.map (·.2) = vs) (hct : ∀ i ∈ ct.ix, i ∈ vs)
    (hg : Blk X scope fun Y => PG Y tg (ct.rd X.K)) (ht : Blk X scope fun Y => PTs Y ifs (bM X.K ta)) (he : Blk X scope fun Y => PE Y elt (tM X.K me)) (hs : ∀ x, foldedSetIterable iter X.env x = pure x := by intro _; rfl) :
    PS X (.Assign [.Name y py] (.ListComp elt [⟨tg, iter, ifs, 0⟩] scope pos) spos) (sM X.K (mAsg (.one i) (mLc mi ct ta me vs))) := by
  subst hv
  exact PS.weak (L2.ps_setLc hc hN hy hyl hsw hi ok hg ht he hs) fun D σ H ⟨g, env, h, hr, er, w⟩ => by
    have q : tM X.K (mLc mi ct ta me (own.map (·.2))) σ H fun x H1 => gName i x σ H1 D.nx := ⟨g, env, h, hr, er, wAsg w fun u h1 v H1 g1 l1 hr1 rv w1 => gct_to (ct := .one i) (K := X.K) hr1 (er.mono l1) rv w1⟩
    exact lcM_to hct (fun _ _ _ z => z) (fun _ _ _ z => z) q
/-! ### stores into lists, += -/
def uSetL (x y z : U) (h : Sto) : Option Sto := match x, y with
  | .ref n, .int k => (match h[n]? with
    | some (.lst us) => (ixN us.length k).map fun j => h.set n (.lst (us.set j z))
    | _ => none)
  | _, _ => none
theorem setL_to {z : U} {vx vy vz : V} {h' : Sto} {Q : Hp → Prop} (hr : HR K g H h) (rx : Rep K g vx x) (ry : Rep K g vy y) (rz : Rep K g vz z) (e : uSetL x y z h = some h') (k : ∀ H', HR K g H' h' → Q H') : rSetL vx vy vz H Q := by
  unfold uSetL at e
  split at e
  · rename_i n i
    split at e
    · rename_i us e1
      cases ei : ixN us.length i with
      | none => rw [ei] at e; cases e
      | some j =>
        rw [ei] at e
        cases e
        cases ry
        cases rx with
        | ref q =>
          rename_i a
          obtain ⟨vs, h1, r1⟩ := hr.ob n a _ q e1
          exact ⟨a, vs, i, j, rfl, rfl, h1, by rw [r1.len]; exact ei, k _ (hr.setLst q (r1.set j rz))⟩
    · cases e
  · cases e
/-- o[i] = e of a list -/
def mSetI (f : U → U → U → Sto → Option Sto) (o i e : EM) : SM := fun env h => match e env h with
  | .ok z h1 => (match o env h1 with
    | .ok x h2 => (match i env h2 with
      | .ok y h3 => (match f x y z h3 with
        | some h4 => .nx env h4
        | none => .bad)
      | .bad => .bad)
    | .bad => .bad)
  | .bad => .bad
def SetOK (K : Fr) (r : TSet) (f : U → U → U → Sto → Option Sto) : Prop := ∀ g H h vx vy vz x y z h' Q, HR K g H h → Rep K g vx x → Rep K g vy y → Rep K g vz z → f x y z h = some h' → (∀ H', HR K g H' h' → Q H') → r vx vy vz H Q
theorem ok_setL : SetOK K rSetL uSetL := fun g H h vx vy vz x y z h' Q hr rx ry rz e k => setL_to hr rx ry rz e k
theorem seti_to {r : TSet} {f : U → U → U → Sto → Option Sto} {D : Ends} (ok : SetOK K r f) (q : sM K (mSetI f mo ma me) D σ H) : tAsg (tM K me) (gSub (tM K mo) (tM K ma) r) D σ H := by
  obtain ⟨g, env, h, hr, er, w⟩ := q
  refine ⟨g, env, h, hr, er, wAsg w fun z h1 vz H1 g1 l1 hr1 rz w1 => ⟨g1, env, h1, hr1, er.mono l1, wAsg w1 fun x h2 vx H2 g2 l2 hr2 rx w2 => ⟨g2, env, h2, hr2, er.mono (l1.trans l2), wAsg w2 fun y h3 vy H3 g3 l3 hr3 ry w3 => ?_⟩⟩⟩
  cases e : f x y z h3 with
  | none => rw [e] at w3; exact w3.elim
  | some h4 =>
    rw [e] at w3
    exact ok g3 H3 h3 vx vy vz x y z h4 _ hr3 (rx.mono l3) ry (rz.mono (l2.trans l3)) e fun H4 hr4 => w3 σ H4 g3 (Le.refl _) hr4 (er.mono ((l1.trans l2).trans l3))
variable {i : Expr} {ix : EM} {tpos : Pos}
theorem ss_setI {r : TSet} {f : U → U → U → Sto → Option Sto} (hp : PSet X r) (ok : SetOK K r f) (he : PE X e (tM K me)) (ho : PE X o (tM K mo)) (hi : PE X i (tM K ix))
    (ha : ∀ v, assign (.Subscript o i tpos) X.env v = (do
      let ov ← holding [v] (eval o X.env)
      let iv ← holding [v, ov] (eval i X.env)
      standAt tpos
      holding [v, ov, iv] (setItem ov iv v)
      release [v, ov, iv] []) := by intro _; rfl)
    (hs : swapsWithSole [.Subscript o i tpos] e pos.line X.env = pure false := by rfl) (hw : swappedStores [.Subscript o i tpos] e X.env = pure none := by rfl) (h1 : (assignEach [.Subscript o i tpos] X.env).map (·.2) = [assign (.Subscript o i tpos) X.env] := by rfl) :
    PS X (.Assign [.Subscript o i tpos] e pos) (sM K (mSetI f mo ix me)) :=
  PS.weak (ps_asg he (pg_sub ho hi hp ha) hs hw h1) fun D σ H q => seti_to ok q
theorem ss_setIL (he : PE X e (tM K me)) (ho : PE X o (tM K mo)) (hi : PE X i (tM K ix))
    (ha : ∀ v, assign (.Subscript o i tpos) X.env v = (do
      let ov ← holding [v] (eval o X.env)
      let iv ← holding [v, ov] (eval i X.env)
      standAt tpos
      holding [v, ov, iv] (setItem ov iv v)
      release [v, ov, iv] []) := by intro _; rfl)
    (hs : swapsWithSole [.Subscript o i tpos] e pos.line X.env = pure false := by rfl) (hw : swappedStores [.Subscript o i tpos] e X.env = pure none := by rfl) (h1 : (assignEach [.Subscript o i tpos] X.env).map (·.2) = [assign (.Subscript o i tpos) X.env] := by rfl) :
    PS X (.Assign [.Subscript o i tpos] e pos) (sM K (mSetI uSetL mo ix me)) := ss_setI set_list ok_setL he ho hi ha hs hw h1
/-- x += e at a name -/
def uIAdd (x y : U) (h : Sto) : R U := match x, y with
  | .int i, .int j => .ok (.int (i + j)) h
  | .str s, .str t => if s.length + t.length ≤ 16000000 then .ok (.str (s ++ t)) h else .bad
  | _, _ => .bad
abbrev rIAdd : R2 := fun x y H Q => (∃ i j, x = V.int i ∧ y = V.int j ∧ Q (.int (i + j)) H) ∨ (∃ i j, x = V.str i ∧ y = V.str j ∧ i.length + j.length ≤ sizeLine ∧ Q (.str (i ++ j)) H)
theorem opr_iadd : OpR X (inplaceOp .Add) rIAdd := iop_add.or iop_add_str
theorem ok_iadd : BinOK K rIAdd uIAdd := by
  intro g H h v w x y Q hr rx ry t
  unfold uIAdd at t
  split at t
  · cases rx; cases ry
    exact .inl ⟨_, _, rfl, rfl, t _ _ g (Le.refl g) hr (.int _)⟩
  · cases rx; cases ry
    split at t
    · rename_i z
      refine .inr ⟨_, _, rfl, rfl, by rw [str_len, str_len]; exact sz16 z, ?_⟩
      rw [str_app]
      exact t _ _ g (Le.refl g) hr (.str _)
    · exact t.elim
  · exact t.elim
abbrev uISub := uI cT (fun i j => i - j)
theorem ok_isub : BinOK K (rI0 fun i j => .int (i - j)) uISub := fun g H h v w x y Q hr rx ry t => by
  obtain ⟨i, j, e1, e2, _, q⟩ := ok_I (C := fun _ _ => True) (c := cT) (fun _ _ _ => trivial) g H h v w x y Q hr rx ry t
  exact ⟨i, j, e1, e2, q⟩
def mAug (f : U → U → Sto → R U) (i : Nat) (e : EM) : SM := fun env h => match env[i]? with
  | some (some x) => (match e env h with
    | .ok y h1 => (match f x y h1 with
      | .ok z h2 => .nx (env.set i (some z)) h2
      | .bad => .bad)
    | .bad => .bad)
  | _ => .bad
theorem ss_aug {op : Operator} {r : R2} {f : U → U → Sto → R U} {i : Nat} {x : Str} {pos' : Pos} (ho : OpR X (inplaceOp op) r) (ok : BinOK K r f) (hN : X.N.Nodup) (hi : X.N[i]? = some x) (hx : L2.Loc X.env.scope x) (he : PE X e (tM K me))
    (hf : X.fn x = true ∨ X.env.scope.names.lookup x = some .local := by first | exact .inl rfl | exact .inr rfl | assumption) : PS X (.AugAssign (.Name x pos') op e pos) (sM K (mAug f i me)) :=
  PS.weak (ps_aug (ti := r) hN hi hx he ho hf) fun D σ H ⟨g, env, h, hr, er, w⟩ => by
    unfold mAug at w
    split at w
    · rename_i x ex
      obtain ⟨v, ev, rv⟩ := er.2 i x ex
      refine ⟨v, ev, g, env, h, hr, er, wAsg w fun y h1 vy H1 g1 l1 hr1 ry w1 => ?_⟩
      exact ok g1 H1 h1 v vy x y _ hr1 (rv.mono l1) ry (wAsg w1 fun z h2 vz H2 g2 l2 hr2 rz w2 => w2 _ H2 g2 (Le.refl _) hr2 ((er.mono (l1.trans l2)).set i rz))
    · exact w.elim
/-- o[i] += e of a list -/
theorem pget_list : PGet X (rIxL X.K) := by
  intro pins s σ H o i ov iv Q I ro ri h
  obtain ⟨p, xs, i, z, rfl, rfl, hq, he, q⟩ := h
  cases ro
  obtain ⟨t, rfl⟩ := ri
  obtain ⟨its, r, pl, hz⟩ := I.list hq
  obtain ⟨j, h1, h2, h3, h4, h5⟩ := atI_get he
  obtain ⟨w, ew, rw'⟩ := r.get h2
  have hl := r.length
  have hn := line63
  have fin : EP X pins σ Q w s := ⟨z, H, I, rw', q⟩
  by_cases h0 : 0 ≤ i
  · have hj : i.toNat = j := by
      rw [seqIndex_of h0 h5] at h1
      exact Option.some.inj h1
    exact wpAny_getItem_list pl.isList h0 (by omega) (by rw [hj]; simpa using ew) fin
  · have hj : (i + (its.toArray.size : Int)).toNat = j := by
      rw [seqIndex_neg (by omega) h4] at h1
      rw [List.size_toArray, ← hl]
      exact Option.some.inj h1
    exact wpAny_getItem_list_neg pl.isList (by omega) (by rw [List.size_toArray] <;> omega) (by omega) (by rw [hj]; simpa using ew) fin
def uIxL (x y : U) (h : Sto) : R U := match x, y with
  | .ref n, .int i => (match h[n]? with
    | some (.lst us) => oR (atI us i) h
    | _ => .bad)
  | _, _ => .bad
theorem ok_ixL : BinOK K (rIxL K) uIxL := by
  intro g H h v w x y Q hr rx ry t
  unfold uIxL at t
  split at t
  · rename_i n i
    split at t
    · rename_i us e1
      cases ry
      cases rx with
      | ref q =>
        rename_i a
        obtain ⟨vs, h1, r1⟩ := hr.ob n a _ q e1
        cases e2 : atI us i with
        | none => rw [e2] at t; exact t.elim
        | some u =>
          rw [e2] at t
          obtain ⟨z, h2, h3⟩ := r1.at e2
          exact ⟨a, vs, i, z, rfl, rfl, .inl (.inl h1), h2, t _ _ g (Le.refl _) hr h3⟩
    · exact t.elim
  · exact t.elim
def mAugI (gt : U → U → Sto → R U) (f : U → U → Sto → R U) (st : U → U → U → Sto → Option Sto) (o i e : EM) : SM := fun env h => match o env h with
  | .ok x h1 => (match i env h1 with
    | .ok y h2 => (match gt x y h2 with
      | .ok z h3 => (match e env h3 with
        | .ok u h4 => (match f z u h4 with
          | .ok q h5 => (match st x y q h5 with
            | some h6 => .nx env h6
            | none => .bad)
          | .bad => .bad)
        | .bad => .bad)
      | .bad => .bad)
    | .bad => .bad)
  | .bad => .bad
theorem augi_to {rg : R2} {r : R2} {rs : TSet} {gt f : U → U → Sto → R U} {sf : U → U → U → Sto → Option Sto} {D : Ends} (og : BinOK K rg gt) (ok : BinOK K r f) (os : SetOK K rs sf) (q : sM K (mAugI gt f sf mo ix me) D σ H) : tAugS (tM K mo) (tM K ix) (tM K me) rg r rs D σ H := by
  obtain ⟨g, env, h, hr, er, w⟩ := q
  refine ⟨g, env, h, hr, er, wAsg w fun x h1 vx H1 g1 l1 hr1 rx w1 => ⟨g1, env, h1, hr1, er.mono l1, wAsg w1 fun y h2 vy H2 g2 l2 hr2 ry w2 => ?_⟩⟩
  refine og g2 H2 h2 vx vy x y _ hr2 (rx.mono l2) ry (wAsg w2 fun z h3 vz H3 g3 l3 hr3 rz w3 => ⟨g3, env, h3, hr3, er.mono ((l1.trans l2).trans l3), wAsg w3 fun u h4 vu H4 g4 l4 hr4 ru w4 => ?_⟩)
  refine ok g4 H4 h4 vz vu z u _ hr4 (rz.mono l4) ru (wAsg w4 fun q h5 vq H5 g5 l5 hr5 rq w5 => ?_)
  cases e : sf x y q h5 with
  | none => rw [e] at w5; exact w5.elim
  | some h6 =>
    rw [e] at w5
    have l25 := (l3.trans l4).trans l5
    exact os g5 H5 h5 vx vy vq x y q h6 _ hr5 (rx.mono (l2.trans l25)) (ry.mono l25) rq e fun H6 hr6 => w5 σ H6 g5 (Le.refl _) hr6 (er.mono ((l1.trans l2).trans l25))
theorem ss_augIL {op : Operator} {r : R2} {f : U → U → Sto → R U} (hop : OpR X (inplaceOp op) r) (ok : BinOK X.K r f) (ho : PE X o (tM X.K mo)) (hi : PE X i (tM X.K ix)) (he : PE X e (tM X.K me))
    (ha : ∀ ov iv new, augStore i ov iv new = (do holding [new, ov, iv] (setItem ov iv new); release [new, ov, iv] []; pure .next) := by intros; rfl) : PS X (.AugAssign (.Subscript o i tpos) op e pos) (sM X.K (mAugI uIxL f uSetL mo ix me)) :=
  PS.weak (ps_augS ho hi pget_list he hop set_list ha) fun D σ H q => augi_to ok_ixL ok ok_setL q
end
end Q

set_option Elab.async false
set_option linter.all false
set_option maxRecDepth 100000
set_option maxHeartbeats 1000000
namespace Q
open PySem PySem.Spec PyProof.Rows L2 TL
/-! ### calls of the text's defs -/
abbrev Sem' := List U → Sto → R U
def spM (K : Fr) (n : Nat) (sem : Sem') : Sp := fun vs H Q _ => vs.length = n ∧ ∃ g us h, HR K g H h ∧ Reps K g vs us ∧ WE K g (sem us h) Q
def fnM (n : Nat) (body : SM) : Sem' := fun us h => match body (us.map some ++ List.replicate (n - us.length) none) h with
  | .nx _ h' => .ok .non h'
  | .rt u h' => .ok u h'
  | _ => .bad
theorem er_start {K : Fr} {g : G} {N : List Str} : ∀ {vs : List V} {us : List U}, Reps K g vs us → ER K g (L2.start N vs) (us.map some ++ List.replicate (N.length - us.length) none) := by
  intro vs us r
  refine ⟨by simp [L2.start, r.len], fun i u e => ?_⟩
  by_cases hi : i < us.length
  · rw [List.getElem?_append_left (by simpa using hi)] at e
    rw [List.getElem?_map] at e
    cases eu : us[i]? with
    | none => rw [eu] at e; cases e
    | some w =>
      rw [eu] at e
      cases e
      obtain ⟨v, hv, rv⟩ := r.get eu
      refine ⟨v, ?_, rv⟩
      unfold L2.start
      rw [List.getElem?_append_left (by rw [List.length_map, r.len]; exact hi), List.getElem?_map, hv]
      rfl
  · rw [List.getElem?_append_right (by simpa using Nat.le_of_not_lt hi)] at e
    have := List.getElem?_replicate (a := (none : Option U)) (n := N.length - us.length) (i := i - (us.map some).length)
    rw [this] at e
    split at e <;> cases e
section
variable {P : Program} {W : World} {K : Fr} {mg : Str → Option Value} {base : Heap}
theorem fn_ok {x qual : Str} {st : Stmt} {f : Addr} {fd : FuncData} {N ps : List Str} {k : Nat} {body : SM} (F : Fun K x qual st f fd) (S : FnScope N ps (defScope st))
    (hb : ∀ (cdv : Value) (A : Around) (outer : List Env) (s : Shared) (H : Hp) (E : XK), Room k (A.deeper (envOfC qual (defScope st) s.heap.objs.size f cdv)) →
      PSs (cxOf CX0 P W K mg base N qual (defScope st) f cdv A outer s H E).nox (defBody st) (sM K body)) : FnOk P W K mg base CX0 (k + 1) f fd ps (spM K ps.length (fnM N.length body)) := by
  refine F.ok S (fun vs H Q E h => h.1) (fun cdv A outer s H vs Q E hr h => ⟨_, hb cdv A outer s H E hr, ?_⟩)
  obtain ⟨hl, g, us, h0, hr0, rv, w⟩ := h
  refine ⟨g, us.map some ++ List.replicate (N.length - us.length) none, h0, hr0, er_start rv, ?_⟩
  unfold fnM at w
  cases e : body (us.map some ++ List.replicate (N.length - us.length) none) h0 with
  | nx e1 h1 => rw [e] at w; exact fun σ H1 g1 l1 hr1 _ => w .non H1 g1 l1 hr1 .non
  | rt u h1 => rw [e] at w; exact w
  | bk e1 h1 => rw [e] at w; exact w.elim
  | ct e1 h1 => rw [e] at w; exact w.elim
  | bad => rw [e] at w; exact w.elim
/-- nothing is said -/
theorem fn_bad {f : Addr} {fd : FuncData} {ps : List Str} {k n : Nat} (h : ps.length = n) : FnOk P W K mg base CX0 k f fd ps (spM K n fun _ _ => .bad) :=
  ⟨fun vs H Q E q => q.1.trans h.symm, fun A outer s H args us vs Q E hr e0 hb rv q => by
    obtain ⟨_, g, us, h, _, _, w⟩ := q
    exact w.elim⟩
/-- another meaning that says no more -/
theorem fn_eq {f : Addr} {fd : FuncData} {ps : List Str} {k n : Nat} {sem sem' : Sem'} (F : FnOk P W K mg base CX0 k f fd ps (spM K n sem)) (h : ∀ us h, sem' us h ≠ .bad → sem us h = sem' us h) : FnOk P W K mg base CX0 k f fd ps (spM K n sem') :=
  F.imp fun vs H Q E ⟨hl, g, us, h0, hr0, rv, w⟩ => ⟨hl, g, us, h0, hr0, rv, by
    by_cases e : sem' us h0 = .bad
    · rw [e] at w; exact w.elim
    · rw [h us h0 e]; exact w⟩
end
section
variable {K : Fr} {g g' : G} {X : Cx} {H : Hp} {h : Sto} {v w : V} {x y : U} {σ : L2.St} {env : Env'} {a b c e o tg : Expr} {es rest : List Expr} {ma mb mc me mo : EM} {ta tb : TM} {pos : Pos} {am : AM} {n : Str} {p : Pos}
def mCall (n : Nat) (sem : Sem') (am : AM) : EM := fun env h => (am env h).bind fun us h1 => if us.length = n then sem us h1 else .bad
variable {sem : Sem'} {f : Addr} {fd : FuncData} {ps : List Str} {k m : Nat}
theorem call_to {Q : VK} {E : XK} (q : tM K (mCall m sem am) σ H Q) : tCall (spM K m sem) [] E (aM K am) σ H Q := by
  obtain ⟨g, env, h, hr, er, w⟩ := q
  refine ⟨g, env, h, hr, er, wA w fun us h1 vs H1 g1 l1 hr1 rv w1 => ?_⟩
  split at w1
  · rename_i z
    rw [List.append_nil]
    exact ⟨by rw [rv.len]; exact z, g1, us, h1, hr1, rv, w1⟩
  · exact w1.elim
theorem se_call (F : FnOk X.prog X.w X.K X.mg X.base CX0 k f fd ps (spM X.K m sem)) (hr : Room k X.A) (hg : Gl X n) (hm : X.mg n = some (.ref f)) (hk : PySem.W.keepIn X.K (.ref f) = true) (hb : Binds X.K fd ps [])
    (ha : PA X (e :: es) (aM X.K am)) (hdb : (n == ("__debug__" : Str)) = false := by decide) (h2 : starEach (e :: es) X.env = (false, eval e X.env) :: starEach es X.env := by rfl) (h3 : (backTo pos (starEach es X.env)).any (·.1) = false := by rfl) :
    PE X (.Call (.Name n p) (e :: es) [] pos) (tM X.K (mCall m sem am)) :=
  PE.weak (pe_call F hr hg hm hk hb .nil pass0 ha hdb h2 h3) fun σ H Q q => call_to q
theorem se_call0 (F : FnOk X.prog X.w X.K X.mg X.base CX0 k f fd ps (spM X.K m sem)) (hr : Room k X.A) (hg : Gl X n) (hm : X.mg n = some (.ref f)) (hk : PySem.W.keepIn X.K (.ref f) = true) (hb : Binds X.K fd ps [])
    (hdb : (n == ("__debug__" : Str)) = false := by decide) : PE X (.Call (.Name n p) [] [] pos) (tM X.K (mCall m sem aNil)) :=
  PE.weak (pe_call0 F hr hg hm hk hb .nil pass0 hdb) fun σ H Q q => by
    have q := call_to (E := E0) q
    obtain ⟨g, env, h, hr, er, w⟩ := q
    exact w [] H g (Le.refl _) hr .nil

/-! ### isinstance -/
inductive Ty where
  | bool | int | str | tuple | list | dict
def Ty.nm : Ty → String
  | .bool => "bool" | .int => "int" | .str => "str" | .tuple => "tuple" | .list => "list" | .dict => "dict"
def isU (T : Ty) (h : Sto) : U → Option Bool
  | .non => some false
  | .bl _ => some (match T with | .bool => true | .int => true | _ => false)
  | .int _ => some (match T with | .int => true | _ => false)
  | .str _ => some (match T with | .str => true | _ => false)
  | .tup _ => some (match T with | .tuple => true | _ => false)
  | .fl _ => some (match T with | .list => true | _ => false)
  | .kl _ => some (match T with | .list => true | _ => false)
  | .ref n => match h[n]? with
    | some (.lst _) => some (match T with | .list => true | _ => false)
    | some (.dK _) => some (match T with | .dict => true | _ => false)
    | some (.dT _) => some (match T with | .dict => true | _ => false)
    | _ => none
theorem tyL {a : Addr} {vs : List V} (q : SqL K H a vs) : TyX K H (.ref a) (.type "list") := by
  rcases q with (q | ⟨o, q⟩) | ⟨o, its, n, q, c, _⟩
  · exact .base (.lst q)
  · exact .base (.frz q)
  · exact .kList q c
theorem tyT {a : Addr} {vs : List V} (q : SqT K H a vs) : TyX K H (.ref a) (.type "tuple") := by
  rcases q with (q | ⟨o, q⟩) | ⟨o, its, n, q, c, _⟩
  · exact .base (.tup q)
  · exact .fTuple q
  · exact .kTuple q c
theorem ty_of {T0 : Ty} {b0 : Bool} (hr : HR K g H h) (r : Rep K g v x) (e0 : isU T0 h x = some b0) : ∃ t, TyX K H v t ∧ ∀ (T : Ty) (b : Bool), isU T h x = some b → PySem.W.kitOne K t (.type T.nm) = some b := by
  cases r with
  | non => exact ⟨_, .base .non, fun T b e => by cases e; exact kit_ty (by cases T <;> decide +kernel)⟩
  | bl c => exact ⟨_, .base (.bl c), fun T b e => by cases e; exact kit_ty (by cases T <;> decide +kernel)⟩
  | int i => exact ⟨_, .base (.int i), fun T b e => by cases e; exact kit_ty (by cases T <;> decide +kernel)⟩
  | str s => exact ⟨_, .base (.str _), fun T b e => by cases e; exact kit_ty (by cases T <;> decide +kernel)⟩
  | tup q s => exact ⟨_, tyT (hr.sqT q), fun T b e => by cases e; exact kit_ty (by cases T <;> decide +kernel)⟩
  | fl q s => exact ⟨_, .base (.lst (hr.ex _ _ q)), fun T b e => by cases e; exact kit_ty (by cases T <;> decide +kernel)⟩
  | kl q s => exact ⟨_, tyL (hr.sqL q), fun T b e => by cases e; exact kit_ty (by cases T <;> decide +kernel)⟩
  | @ref a n q =>
    cases eo : h[n]? with
    | none => simp only [isU, eo] at e0; cases e0
    | some o =>
      cases o with
      | lst us =>
        obtain ⟨vs, h1, _⟩ := hr.ob _ _ _ q eo
        exact ⟨_, .base (.lst h1), fun T b e => by simp only [isU, eo] at e; cases e; exact kit_ty (by cases T <;> decide +kernel)⟩
      | dK us =>
        obtain ⟨vs, h1, _⟩ := hr.ob _ _ _ q eo
        exact ⟨_, .base (.dK h1), fun T b e => by simp only [isU, eo] at e; cases e; exact kit_ty (by cases T <;> decide +kernel)⟩
      | dT us =>
        obtain ⟨vs, h1, _⟩ := hr.ob _ _ _ q eo
        exact ⟨_, .base (.dT h1), fun T b e => by simp only [isU, eo] at e; cases e; exact kit_ty (by cases T <;> decide +kernel)⟩
      | ins C fs => simp only [isU, eo] at e0; cases e0
def bIs (T : Ty) (a : EM) : TM := fun env h => (a env h).bind fun x h1 => oB (isU T h1 x) h1
def bIs2 (T S : Ty) (a : EM) : TM := fun env h => (a env h).bind fun x h1 => oB ((isU T h1 x).bind fun b => (isU S h1 x).map fun c => b || c) h1
theorem boot_ty (T : Ty) : bootBuiltins (Str.ofString T.nm) = some (.type T.nm) := by cases T <;> decide +kernel
theorem ty_ne (T : Ty) : (Str.ofString T.nm) ≠ "__name__" := by cases T <;> decide
theorem ty_db (T : Ty) : ((Str.ofString T.nm) == ("__debug__" : Str)) = false := by cases T <;> decide
section
variable {T S : Ty} {p2 p3 p4 : Pos} {t2 : Str} (hg : Gl X n) (hm : X.mg n = none) (hv : bootBuiltins n = some (.builtin "isinstance")) (ha : PE X a (tM X.K ma)) (hn : n ≠ "__name__") (hdb : (n == ("__debug__" : Str)) = false)
include hg hm hv ha hn hdb
theorem isi_core (hgT : Gl X (Str.ofString T.nm)) (hmT : X.mg (Str.ofString T.nm) = none)
    (he : starEach [a, .Name (Str.ofString T.nm) p2] X.env = (false, eval a X.env) :: starEach [.Name (Str.ofString T.nm) p2] X.env) (he2 : starEach [.Name (Str.ofString T.nm) p2] X.env = (false, eval (.Name (Str.ofString T.nm) p2) X.env) :: starEach [] X.env) (hpl : (backTo pos (starEach [.Name (Str.ofString T.nm) p2] X.env)).any (·.1) = false) :
    PE X (.Call (.Name n p) [a, .Name (Str.ofString T.nm) p2] [] pos) (fun σ H Q => bM X.K (bIs T ma) σ H fun b H => Q (.bl b) H) :=
  PE.weak (pe_callB call_isi hg hm hv (pa_cons ha (pa_cons (pe_bltn (v := .ty T.nm) hgT hmT (boot_ty T) rfl (ty_ne T) (ty_db T)) pa_nil he2) he) hn hdb he hpl) fun σ H Q ⟨g, env, h, hr, er, w⟩ => ⟨g, env, h, hr, er, wET w fun u h1 v H1 g1 l1 hr1 rv w1 => by
    cases e : isU T h1 u with
    | none => rw [e] at w1; exact w1.elim
    | some b =>
      rw [e] at w1
      obtain ⟨t, h2, h3⟩ := ty_of hr1 rv e
      exact ⟨v, .ty T.nm, t, .type T.nm, b, rfl, .ty _, h2, h3 T b e, w1 H1 g1 (Le.refl _) hr1⟩⟩
theorem isi2_core (hgT : Gl X (Str.ofString T.nm)) (hmT : X.mg (Str.ofString T.nm) = none) (hgS : Gl X (Str.ofString S.nm)) (hmS : X.mg (Str.ofString S.nm) = none) {kt : Nat}
    (he : starEach [a, .Tuple [.Name (Str.ofString T.nm) p2, .Name (Str.ofString S.nm) p3] kt p4] X.env = (false, eval a X.env) :: starEach [.Tuple [.Name (Str.ofString T.nm) p2, .Name (Str.ofString S.nm) p3] kt p4] X.env)
    (he2 : starEach [.Tuple [.Name (Str.ofString T.nm) p2, .Name (Str.ofString S.nm) p3] kt p4] X.env = (false, eval (.Tuple [.Name (Str.ofString T.nm) p2, .Name (Str.ofString S.nm) p3] kt p4) X.env) :: starEach [] X.env)
    (he3 : starEach [.Name (Str.ofString T.nm) p2, .Name (Str.ofString S.nm) p3] X.env = (false, eval (.Name (Str.ofString T.nm) p2) X.env) :: starEach [.Name (Str.ofString S.nm) p3] X.env)
    (he4 : starEach [.Name (Str.ofString S.nm) p3] X.env = (false, eval (.Name (Str.ofString S.nm) p3) X.env) :: starEach [] X.env)
    (hpl : (backTo pos (starEach [.Tuple [.Name (Str.ofString T.nm) p2, .Name (Str.ofString S.nm) p3] kt p4] X.env)).any (·.1) = false) :
    PE X (.Call (.Name n p) [a, .Tuple [.Name (Str.ofString T.nm) p2, .Name (Str.ofString S.nm) p3] kt p4] [] pos) (fun σ H Q => bM X.K (bIs2 T S ma) σ H fun b H => Q (.bl b) H) :=
  PE.weak (pe_callB call_isiT hg hm hv (pa_cons ha (pa_cons (pe_tup (pa_cons (pe_bltn (v := .ty T.nm) hgT hmT (boot_ty T) rfl (ty_ne T) (ty_db T)) (pa_cons (pe_bltn (v := .ty S.nm) hgS hmS (boot_ty S) rfl (ty_ne S) (ty_db S)) pa_nil he4) he3)) pa_nil he2) he) hn hdb he hpl) fun σ H Q ⟨g, env, h, hr, er, w⟩ => ⟨g, env, h, hr, er, wET w fun u h1 v H1 g1 l1 hr1 rv w1 => by
    cases e : isU T h1 u with
    | none => rw [e] at w1; exact w1.elim
    | some b =>
      cases e2 : isU S h1 u with
      | none => rw [e, e2] at w1; exact w1.elim
      | some c =>
        rw [e, e2] at w1
        refine ⟨show 2 ≤ sizeLine by decide, fun q hq => ?_⟩
        have hr2 := hr1.skip hq (.tup [.ty T.nm, .ty S.nm])
        obtain ⟨t', h2, h3⟩ := ty_of hr2 rv e
        refine ⟨v, q, [.ty T.nm, .ty S.nm], t', [.type T.nm, .type S.nm], b || c, rfl, upd_same, .cons (.ty _) (.cons (.ty _) .nil), h2, ?_, w1 _ g1 (Le.refl _) hr2⟩
        refine kitAny_cons (h3 T b e) (fun hb => ?_) (fun hb => by rw [hb]; rfl)
        refine kitAny_cons (h3 S c e2) (fun hc => ?_) (fun hc => by rw [hc]; cases b <;> rfl)
        rw [hb, hc]
        exact kitAny_nil⟩
end
end
end Q

set_option Elab.async false
set_option linter.all false
set_option maxRecDepth 100000
set_option maxHeartbeats 1000000
namespace Q
open PySem PySem.Spec PyProof.Rows L2 TL
section
variable {K : Fr} {g g' : G} {X : Cx} {H : Hp} {h : Sto} {v w : V} {x y : U} {σ : L2.St} {env : Env'} {a b c e o tg : Expr} {es rest : List Expr} {ma mb mc me mo : EM} {ta tb : TM} {pos : Pos} {am : AM} {n : Str} {p : Pos}
/-- from a reading of a bool -/
theorem bt_of {t : TM} (he : PE X e (fun σ H Q => bM K t σ H fun b H => Q (.bl b) H)) (hw : ∀ whole, isTrue e X.env whole = (do let v ← whole; standAt e.pos; holding [v] (truthy v))) : PT X e (bM K t) :=
  PT.weak (pt_val he hw) fun σ H Q ⟨g, env, h, hr, er, w⟩ => ⟨g, env, h, hr, er, by
    cases e : t env h with
    | bad => rw [e] at w; exact w
    | ok b h1 => rw [e] at w; exact fun H1 g1 l1 hr1 => ⟨b, rfl, w H1 g1 l1 hr1⟩⟩
theorem se_of {t : TM} (he : PE X e (fun σ H Q => bM K t σ H fun b H => Q (.bl b) H)) : PE X e (tM K (mB t)) := PE.weak he fun σ H Q q => mB_to q
section
variable {T S : Ty} {p2 p3 p4 : Pos} {kt : Nat}
theorem bt_isi (hg : Gl X "isinstance") (hm : X.mg "isinstance" = none) (ha : PE X a (tM X.K ma)) (hgT : Gl X (Str.ofString T.nm)) (hmT : X.mg (Str.ofString T.nm) = none)
    (he : starEach [a, .Name (Str.ofString T.nm) p2] X.env = (false, eval a X.env) :: starEach [.Name (Str.ofString T.nm) p2] X.env := by rfl) (he2 : starEach [.Name (Str.ofString T.nm) p2] X.env = (false, eval (.Name (Str.ofString T.nm) p2) X.env) :: starEach [] X.env := by rfl) (hpl : (backTo pos (starEach [.Name (Str.ofString T.nm) p2] X.env)).any (·.1) = false := by rfl)
    (hw : ∀ whole, isTrue (.Call (.Name "isinstance" p) [a, .Name (Str.ofString T.nm) p2] [] pos) X.env whole = (do let v ← whole; standAt pos; holding [v] (truthy v)) := by intro _; rfl) :
    PT X (.Call (.Name "isinstance" p) [a, .Name (Str.ofString T.nm) p2] [] pos) (bM X.K (bIs T ma)) := bt_of (isi_core hg hm (by decide +kernel) ha (by decide) (by decide) hgT hmT he he2 hpl) hw
theorem se_isi (hg : Gl X "isinstance") (hm : X.mg "isinstance" = none) (ha : PE X a (tM X.K ma)) (hgT : Gl X (Str.ofString T.nm)) (hmT : X.mg (Str.ofString T.nm) = none)
    (he : starEach [a, .Name (Str.ofString T.nm) p2] X.env = (false, eval a X.env) :: starEach [.Name (Str.ofString T.nm) p2] X.env := by rfl) (he2 : starEach [.Name (Str.ofString T.nm) p2] X.env = (false, eval (.Name (Str.ofString T.nm) p2) X.env) :: starEach [] X.env := by rfl) (hpl : (backTo pos (starEach [.Name (Str.ofString T.nm) p2] X.env)).any (·.1) = false := by rfl) :
    PE X (.Call (.Name "isinstance" p) [a, .Name (Str.ofString T.nm) p2] [] pos) (tM X.K (mB (bIs T ma))) := se_of (isi_core hg hm (by decide +kernel) ha (by decide) (by decide) hgT hmT he he2 hpl)
theorem bt_isi2 (hg : Gl X "isinstance") (hm : X.mg "isinstance" = none) (ha : PE X a (tM X.K ma)) (hgT : Gl X (Str.ofString T.nm)) (hmT : X.mg (Str.ofString T.nm) = none) (hgS : Gl X (Str.ofString S.nm)) (hmS : X.mg (Str.ofString S.nm) = none)
    (he : starEach [a, .Tuple [.Name (Str.ofString T.nm) p2, .Name (Str.ofString S.nm) p3] kt p4] X.env = (false, eval a X.env) :: starEach [.Tuple [.Name (Str.ofString T.nm) p2, .Name (Str.ofString S.nm) p3] kt p4] X.env := by rfl)
    (he2 : starEach [.Tuple [.Name (Str.ofString T.nm) p2, .Name (Str.ofString S.nm) p3] kt p4] X.env = (false, eval (.Tuple [.Name (Str.ofString T.nm) p2, .Name (Str.ofString S.nm) p3] kt p4) X.env) :: starEach [] X.env := by rfl)
    (he3 : starEach [.Name (Str.ofString T.nm) p2, .Name (Str.ofString S.nm) p3] X.env = (false, eval (.Name (Str.ofString T.nm) p2) X.env) :: starEach [.Name (Str.ofString S.nm) p3] X.env := by rfl)
    (he4 : starEach [.Name (Str.ofString S.nm) p3] X.env = (false, eval (.Name (Str.ofString S.nm) p3) X.env) :: starEach [] X.env := by rfl)
    (hpl : (backTo pos (starEach [.Tuple [.Name (Str.ofString T.nm) p2, .Name (Str.ofString S.nm) p3] kt p4] X.env)).any (·.1) = false := by rfl)
    (hw : ∀ whole, isTrue (.Call (.Name "isinstance" p) [a, .Tuple [.Name (Str.ofString T.nm) p2, .Name (Str.ofString S.nm) p3] kt p4] [] pos) X.env whole = (do let v ← whole; standAt pos; holding [v] (truthy v)) := by intro _; rfl) :
    PT X (.Call (.Name "isinstance" p) [a, .Tuple [.Name (Str.ofString T.nm) p2, .Name (Str.ofString S.nm) p3] kt p4] [] pos) (bM X.K (bIs2 T S ma)) := bt_of (isi2_core hg hm (by decide +kernel) ha (by decide) (by decide) hgT hmT hgS hmS he he2 he3 he4 hpl) hw
end
/-! ### texts -/
def strsOf : List U → Option (List (List Nat))
  | [] => some []
  | .str s :: r => (strsOf r).map (s :: ·)
  | _ :: _ => none
theorem strs_eq : ∀ {us : List U} {ss : List (List Nat)}, strsOf us = some ss → us = ss.map U.str
  | [], _, e => by cases e; rfl
  | .str s :: r, ss, e => by
    unfold strsOf at e
    cases e2 : strsOf r with
    | none => rw [e2] at e; cases e
    | some t =>
      rw [e2] at e
      cases e
      rw [strs_eq e2]; rfl
  | .non :: _, _, e => by cases e
  | .bl _ :: _, _, e => by cases e
  | .int _ :: _, _, e => by cases e
  | .tup _ :: _, _, e => by cases e
  | .fl _ :: _, _, e => by cases e
  | .kl _ :: _, _, e => by cases e
  | .ref _ :: _, _, e => by cases e
theorem strsOf_map (ss : List (List Nat)) : strsOf (ss.map U.str) = some ss := by
  induction ss with
  | nil => rfl
  | cons s r ih => rw [List.map_cons, strsOf, ih]; rfl
/-- a text's method of one argument -/
def mSM1 (f : U → U → Sto → R U) (o a : EM) : EM := fun env h => (o env h).bind fun x h1 => match x with
  | .str s => (a env h1).bind fun y h2 => f (.str s) y h2
  | _ => .bad
def mSM0 (f : U → Sto → R U) (o : EM) : EM := fun env h => (o env h).bind fun x h1 => match x with
  | .str s => f (.str s) h1
  | _ => .bad
def M1OK (K : Fr) (r : V → List V → Hp → VK → Prop) (f : U → U → Sto → R U) : Prop := ∀ g H h v w s y Q, HR K g H h → Rep K g v (.str s) → Rep K g w y → WE K g (f (.str s) y h) Q → r v [w] H Q
def M0OK (K : Fr) (r : V → List V → Hp → VK → Prop) (f : U → Sto → R U) : Prop := ∀ g H h v s Q, HR K g H h → Rep K g v (.str s) → WE K g (f (.str s) h) Q → r v [] H Q
theorem m1_to {r : V → List V → Hp → VK → Prop} {f : U → U → Sto → R U} {Q : VK} (ok : M1OK K r f) (q : tM K (mSM1 f mo ma) σ H Q) : tM1 r (tM K mo) (tM K ma) σ H Q := by
  obtain ⟨g, env, h, hr, er, w⟩ := q
  refine ⟨g, env, h, hr, er, wE w fun x h1 v H1 g1 l1 hr1 rx w1 => ?_⟩
  cases rx with
  | str s => exact ⟨⟨_, rfl⟩, g1, env, h1, hr1, er.mono l1, wE w1 fun y h2 u H2 g2 l2 hr2 ry w2 => ok g2 H2 h2 _ u s y Q hr2 (.str s) ry w2⟩
  | _ => exact w1.elim
theorem m0_to {r : V → List V → Hp → VK → Prop} {f : U → Sto → R U} {Q : VK} (ok : M0OK K r f) (q : tM K (mSM0 f mo) σ H Q) : tM0 r (tM K mo) σ H Q := by
  obtain ⟨g, env, h, hr, er, w⟩ := q
  refine ⟨g, env, h, hr, er, wE w fun x h1 v H1 g1 l1 hr1 rx w1 => ?_⟩
  cases rx with
  | str s => exact ⟨⟨_, rfl⟩, ok g1 H1 h1 _ s Q hr1 (.str s) w1⟩
  | _ => exact w1.elim
def uJoin (x y : U) (h : Sto) : R U := match x with
  | .str s => (match (sL h y).bind strsOf with
    | some ss => if (ss.map List.length).sum + ss.length * s.length ≤ 16000000 then .ok (.str (joinL s ss)) h else .bad
    | none => .bad)
  | _ => .bad
theorem ok_join : M1OK K (fun x xs H Q => ∃ a p, ∃ ys : List Str, x = .str a ∧ xs = [.ref p] ∧ (SqL K H p (ys.map V.str) ∨ SqT K H p (ys.map V.str)) ∧ (ys.map (·.length)).sum + ys.length * a.length ≤ 16777216 ∧ Q (.str (Txt.join a ys)) H) uJoin := by
  intro g H h v w s y Q hr rx ry t
  simp only [uJoin] at t
  cases e : sL h y with
  | none => rw [e] at t; exact t.elim
  | some us =>
    cases e2 : strsOf us with
    | none => rw [e] at t; simp only [Option.bind, e2] at t; exact t.elim
    | some ss =>
      rw [e] at t
      simp only [Option.bind, e2] at t
      split at t
      · rename_i z
        have es := strs_eq e2
        subst es
        obtain ⟨p, vs, rfl, h1, r1⟩ := sL_of hr ry e
        have ev := r1.strs
        subst ev
        cases rx
        refine ⟨⟨s.toArray⟩, p, ss.map fun s => ⟨s.toArray⟩, rfl, rfl, h1, ?_, ?_⟩
        · have e3 : ((ss.map fun s => (⟨s.toArray⟩ : Str)).map (·.length)) = ss.map List.length := by
            rw [List.map_map]
            exact List.map_congr_left fun s _ => str_len s
          rw [e3, List.length_map, str_len]
          omega
        · have e3 : Txt.join ⟨s.toArray⟩ (ss.map fun s => (⟨s.toArray⟩ : Str)) = ⟨(joinL s ss).toArray⟩ := by
            apply ext_tl
            rw [join_eq, tl_join, tl_mk, tl_mk, List.map_map]
            congr 1
            have : (tl ∘ fun s : List Nat => (⟨s.toArray⟩ : Str)) = id := by
              funext s
              exact tl_mk s
            rw [this, List.map_id]
          rw [e3]
          exact t _ _ g (Le.refl _) hr (.str _)
      · exact t.elim
theorem se_join {apos : Pos} (ho : PE X o (tM X.K mo)) (he : PE X e (tM X.K me)) (hs : starEach [e] X.env = [(false, eval e X.env)] := by rfl) (hbase : attributeBase o "join" X.env (eval o X.env) = eval o X.env := by rfl) (hline : (apos.endLine == pos.line) = true := by rfl) :
    PE X (.Call (.Attribute o "join" apos) [e] [] pos) (tM X.K (mSM1 uJoin mo me)) := PE.weak (pe_join ho he hs hbase hline) fun σ H Q q => m1_to ok_join q
end
/-! ### the end -/
def semTrue (sem : Sem') : Prop := ∀ ns : List Int, ns.length ≤ 63 → ∃ h', sem [.kl (ns.map U.int)] [] = .ok (.bl true) h'
theorem sp_end {K : Fr} {sem : Sem'} (ht : semTrue sem) {H : Hp} {a : Addr} {ns : List Int} (hl : ns.length ≤ 63) (hS : SqL K H a (ns.map V.int)) : spM K 1 sem [.ref a] H (fun v _ => v = .bl true) fun _ _ _ => False := by
  obtain ⟨h', e⟩ := ht ns hl
  refine ⟨rfl, ⟨[], H⟩, [.kl (ns.map U.int)], [], ⟨fun a o e => e, rfl, List.nodup_nil, fun a m => (nomatch m), fun n a o e => by simp at e⟩, .cons (.kl hS (Reps.ofInts ns)) .nil, ?_⟩
  rw [e]
  intro v H1 g1 l1 hr1 rv
  cases rv
  rfl
/-- the law's promise, whatever its meaning is -/
def spEnd (K : Fr) : Sp := fun vs H Q _ => ∃ (a : Addr) (ns : List Int), vs = [.ref a] ∧ ns.length ≤ 63 ∧ SqL K H a (ns.map V.int) ∧ ∀ H', Q (.bl true) H'
theorem fn_end {P : Program} {W : World} {K : Fr} {mg : Str → Option Value} {base : Heap} {f : Addr} {fd : FuncData} {ps : List Str} {k : Nat} {sem : Sem'} (ht : semTrue sem) (F : FnOk P W K mg base CX0 k f fd ps (spM K 1 sem)) : FnOk P W K mg base CX0 k f fd ps (spEnd K) :=
  F.imp fun vs H Q E ⟨a, ns, e, hl, hS, q⟩ => by
    subst e
    obtain ⟨hz, g, us, h, hr, rv, w⟩ := sp_end ht hl hS
    refine ⟨hz, g, us, h, hr, rv, ?_⟩
    cases es : sem us h with
    | bad => rw [es] at w; exact w
    | ok u h1 =>
      rw [es] at w
      intro v H1 g1 l1 hr1 r1
      have := w v H1 g1 l1 hr1 r1
      subst this
      exact q H1
theorem walkQ {l : PySem.W.OpenLaw} {k : Nat} {q : Program} {loose : List Str} {XP : (Str → Option Value) → Heap → Prop} {YP : World → Heap → Prop} {d : DefRec} {K : Params → PySem.W.Frag} {x : Str}
    (hn : l.most = some 63) (hdf : d.params.defaults = []) (hr : Room k callerA) (hY : ∀ (w : World) (h : Heap), YP w h → (K w.params).In h)
    (F : ∀ (w : World) (mg : Str → Option Value) (fa : Addr) (h : Heap), (K w.params).In h → h.Ns mainGlobals mg → mg d.name = some (.ref fa) →
      ∃ fd : FuncData, (∀ (s : Shared) (u : Value), BindsTo s fd ⟨[u], []⟩ [(x, u)]) ∧ ∀ base : Heap, (K w.params).In base → base.Ns mainGlobals mg → FnOk l.prog w (K w.params) mg base CX0 k fa fd [x] (spEnd (K w.params))) :
    PySem.W.WalkO q loose XP YP l.row.toRowW d [] (fun f vs => PySem.call f vs) :=
  walk_of (n := 63) (CX := fun _ => CX0) (sp := fun w => spEnd (K w.params)) hn (by decide) hdf hr hY F (fun w H a ns hl _ hS => ⟨a, ns, rfl, hl, hS, fun _ => rfl⟩) fun _ _ _ _ _ z => z
end Q

set_option Elab.async false
set_option linter.all false
set_option maxRecDepth 100000
set_option maxHeartbeats 1000000
/-! Q8: how meanings are reckoned. -/
namespace Q
open L2
section
variable {env : Env'} {h h1 : Sto} {u x y z : U} {us xs ys : List U} {a b c d : EM} {t s : TM} {m m1 m2 : SM} {am : AM} {α β : Type}
@[simp] theorem e_bind_ok {a : α} {f : α → Sto → R β} : (R.ok a h).bind f = f a h := rfl
@[simp] theorem e_bind_bad {f : α → Sto → R β} : (R.bad : R α).bind f = .bad := rfl
@[simp] theorem e_var {i : Nat} : mVar i env h = match env[i]? with | some (some u) => .ok u h | _ => .bad := rfl
@[simp] theorem e_c : mC u env h = .ok u h := rfl
@[simp] theorem e_bin {f : U → U → Sto → R U} : mBin f a b env h = (a env h).bind fun x h1 => (b env h1).bind fun y h2 => f x y h2 := rfl
@[simp] theorem e_neg : mNeg a env h = (a env h).bind fun x h1 => match x with | .int i => .ok (.int (-i)) h1 | _ => .bad := rfl
@[simp] theorem e_add_i {i j : Int} : uAdd (.int i) (.int j) h = .ok (.int (i + j)) h := rfl
@[simp] theorem e_add_s {i j : List Nat} : uAdd (.str i) (.str j) h = if i.length + j.length ≤ 16000000 then .ok (.str (i ++ j)) h else .bad := rfl
@[simp] theorem e_add_ref {n : Nat} : uAdd (.ref n) y h = match mL h (.ref n), mL h y with
    | some us, some ts => if us.length + ts.length ≤ 16000000 then .ok (.ref h.length) (h ++ [.lst (us ++ ts)]) else .bad
    | _, _ => .bad := by cases y <;> rfl
@[simp] theorem e_add_fl : uAdd (.fl us) y h = match mL h y with
    | some ts => if us.length + ts.length ≤ 16000000 then .ok (.ref h.length) (h ++ [.lst (us ++ ts)]) else .bad
    | _ => .bad := by
  have e : uAdd (.fl us) y h = match mL h (.fl us), mL h y with
    | some us, some ts => if us.length + ts.length ≤ 16000000 then .ok (.ref h.length) (h ++ [.lst (us ++ ts)]) else .bad
    | _, _ => .bad := by cases y <;> rfl
  rw [e]
  cases mL h y <;> rfl
@[simp] theorem e_sub_i {i j : Int} : uSub (.int i) (.int j) h = .ok (.int (i - j)) h := rfl
@[simp] theorem e_mul_i {i j : Int} : uMul (.int i) (.int j) h = if cMul i j then .ok (.int (i * j)) h else .bad := rfl
@[simp] theorem e_div_i {i j : Int} : uDiv (.int i) (.int j) h = if cDiv i j then .ok (.int (i / j)) h else .bad := rfl
@[simp] theorem e_mod_i {i j : Int} : uMod (.int i) (.int j) h = if cMod i j then .ok (.int (i % j)) h else .bad := rfl
@[simp] theorem e_pow_i {i j : Int} : uPow (.int i) (.int j) h = if cPow i j then .ok (.int (i ^ j.toNat)) h else .bad := rfl
@[simp] theorem e_isub_i {i j : Int} : uISub (.int i) (.int j) h = .ok (.int (i - j)) h := rfl
@[simp] theorem e_iadd_i {i j : Int} : uIAdd (.int i) (.int j) h = .ok (.int (i + j)) h := rfl
@[simp] theorem e_iadd_s {i j : List Nat} : uIAdd (.str i) (.str j) h = if i.length + j.length ≤ 16000000 then .ok (.str (i ++ j)) h else .bad := rfl
@[simp] theorem e_cmp {f : Sto → U → U → Option Bool} : bCmp f a b env h = (a env h).bind fun x h1 => (b env h1).bind fun y h2 => oB (f h2 x y) h2 := rfl
@[simp] theorem e_oB_some {b : Bool} : oB (some b) h = .ok b h := rfl
@[simp] theorem e_oR_some : oR (some u) h = .ok u h := rfl
@[simp] theorem e_mB : mB t env h = (t env h).bind fun b h1 => .ok (.bl b) h1 := rfl
@[simp] theorem e_eq_i {i j : Int} : cEq h (.int i) (.int j) = some (decide (i = j)) := rfl
@[simp] theorem e_eq_s {i j : List Nat} : cEq h (.str i) (.str j) = some (decide (i = j)) := rfl
@[simp] theorem e_eq_b {i j : Bool} : cEq h (.bl i) (.bl j) = some (decide (i = j)) := rfl
@[simp] theorem e_eq_is {i : Int} {j : List Nat} : cEq h (.int i) (.str j) = some false := rfl
@[simp] theorem e_eq_si {i : Int} {j : List Nat} : cEq h (.str j) (.int i) = some false := rfl
@[simp] theorem e_eq_nn : cEq h .non .non = some true := rfl
@[simp] theorem e_ne : cNe h x y = (cEq h x y).map not := rfl
@[simp] theorem e_lt {i j : Int} {p : Int → Int → Bool} : cI p h (.int i) (.int j) = some (p i j) := rfl
@[simp] theorem e_is : cIs h x .non = some (match x with | .non => true | _ => false) := rfl
@[simp] theorem e_isn : cIsN h x y = (cIs h x y).map not := rfl
@[simp] theorem e_in : cIn h x y = match sL h y with | some us => if flatU x = true ∧ us.all flatU = true then some (inF x us) else none | none => none := rfl
@[simp] theorem e_nin : cNin h x y = (cIn h x y).map not := rfl
@[simp] theorem e_flat_i {i : Int} : flatU (.int i) = true := rfl
@[simp] theorem e_flat_s {i : List Nat} : flatU (.str i) = true := rfl
@[simp] theorem e_flat_b {i : Bool} : flatU (.bl i) = true := rfl
@[simp] theorem e_flat_n : flatU .non = true := rfl
@[simp] theorem e_mL_ref {n : Nat} : mL h (.ref n) = match h[n]? with | some (.lst us) => some us | _ => none := rfl
@[simp] theorem e_mL_fl : mL h (.fl us) = some us := rfl
@[simp] theorem e_aL_ref {n : Nat} : aL h (.ref n) = match h[n]? with | some (.lst us) => some us | _ => none := rfl
@[simp] theorem e_aL_fl : aL h (.fl us) = some us := rfl
@[simp] theorem e_aL_kl : aL h (.kl us) = some us := rfl
@[simp] theorem e_sL_ref {n : Nat} : sL h (.ref n) = match h[n]? with | some (.lst us) => some us | _ => none := rfl
@[simp] theorem e_sL_fl : sL h (.fl us) = some us := rfl
@[simp] theorem e_sL_kl : sL h (.kl us) = some us := rfl
@[simp] theorem e_sL_tup : sL h (.tup us) = some us := rfl
@[simp] theorem e_and : bAnd t s env h = (t env h).bind fun c h1 => if c = true then s env h1 else .ok false h1 := rfl
@[simp] theorem e_or : bOr t s env h = (t env h).bind fun c h1 => if c = true then .ok true h1 else s env h1 := rfl
@[simp] theorem e_not : bNot t env h = (t env h).bind fun c h1 => .ok (!c) h1 := rfl
@[simp] theorem e_tru : bTru a env h = (a env h).bind fun x h1 => oB (truU h1 x) h1 := rfl
@[simp] theorem e_tru_b {b : Bool} : truU h (.bl b) = some b := rfl
@[simp] theorem e_tru_i {i : Int} : truU h (.int i) = some (i != 0) := rfl
@[simp] theorem e_tru_n : truU h .non = some false := rfl
@[simp] theorem e_mAnd : mAnd a b env h = (a env h).bind fun x h1 => match x with | .bl true => b env h1 | .bl false => .ok (.bl false) h1 | _ => .bad := rfl
@[simp] theorem e_mOr : mOr a b env h = (a env h).bind fun x h1 => match x with | .bl false => b env h1 | .bl true => .ok (.bl true) h1 | _ => .bad := rfl
@[simp] theorem e_mNot : mNot a env h = (a env h).bind fun x h1 => match x with | .bl c => .ok (.bl (!c)) h1 | _ => .bad := rfl
@[simp] theorem e_mIf : mIf t a b env h = (t env h).bind fun c h1 => if c = true then a env h1 else b env h1 := rfl
@[simp] theorem e_aNil : aNil env h = .ok [] h := rfl
@[simp] theorem e_aCons : aCons a am env h = (a env h).bind fun x h1 => (am env h1).bind fun xs h2 => .ok (x :: xs) h2 := rfl
@[simp] theorem e_tup : mTup am env h = (am env h).bind fun us h1 => if us.length ≤ 16000000 then .ok (.tup us) h1 else .bad := rfl
@[simp] theorem e_lst : mLst am env h = (am env h).bind fun us h1 => if us.length ≤ 16000000 then .ok (.ref h1.length) (h1 ++ [.lst us]) else .bad := rfl
@[simp] theorem e_ix_s {s : List Nat} {i : Int} : uIx (.str s) (.int i) h = if s.length ≤ 16000000 then oR ((atI s i).map fun c => .str [c]) h else .bad := rfl
@[simp] theorem e_ix_ref {n : Nat} {i : Int} : uIx (.ref n) (.int i) h = match sL h (.ref n) with | some us => oR (atI us i) h | none => .bad := rfl
@[simp] theorem e_ix_tup {i : Int} : uIx (.tup us) (.int i) h = oR (atI us i) h := rfl
@[simp] theorem e_ix_fl {i : Int} : uIx (.fl us) (.int i) h = oR (atI us i) h := rfl
@[simp] theorem e_ix_kl {i : Int} : uIx (.kl us) (.int i) h = oR (atI us i) h := rfl
@[simp] theorem e_oNone : oNone env h = .ok none h := rfl
@[simp] theorem e_oSome : oSome a env h = (a env h).bind fun x h1 => match x with | .int i => .ok (some i) h1 | _ => .bad := rfl
@[simp] theorem e_sl {lo hi : OM} : mSl a lo hi env h = (a env h).bind fun x h1 => (lo env h1).bind fun l h2 => (hi env h2).bind fun u h3 => uSl x l u h3 := rfl
@[simp] theorem e_sl_s {s : List Nat} {lo hi : Option Int} : uSl (.str s) lo hi h = if s.length ≤ 16000000 then .ok (.str (cut s lo hi)) h else .bad := rfl
@[simp] theorem e_sl_ref {n : Nat} {lo hi : Option Int} : uSl (.ref n) lo hi h = match aL h (.ref n) with | some us => .ok (.ref h.length) (h ++ [.lst (cut us lo hi)]) | none => .bad := rfl
@[simp] theorem e_sl_fl {lo hi : Option Int} : uSl (.fl us) lo hi h = .ok (.ref h.length) (h ++ [.lst (cut us lo hi)]) := rfl
@[simp] theorem e_sl_kl {lo hi : Option Int} : uSl (.kl us) lo hi h = .ok (.ref h.length) (h ++ [.lst (cut us lo hi)]) := rfl
@[simp] theorem e_cb {f : List U → Sto → R U} : mCB f am env h = (am env h).bind f := rfl
@[simp] theorem e_len_s {s : List Nat} : uLen [.str s] h = if s.length ≤ 16000000 then .ok (.int s.length) h else .bad := rfl
@[simp] theorem e_len_ref {n : Nat} : uLen [.ref n] h = match sL h (.ref n) with | some us => .ok (.int us.length) h | none => .bad := rfl
@[simp] theorem e_len_tup : uLen [.tup us] h = .ok (.int us.length) h := rfl
@[simp] theorem e_len_fl : uLen [.fl us] h = .ok (.int us.length) h := rfl
@[simp] theorem e_len_kl : uLen [.kl us] h = .ok (.int us.length) h := rfl
@[simp] theorem e_int_i {i : Int} : uInt [.int i] h = .ok (.int i) h := rfl
@[simp] theorem e_int_b {i : Bool} : uInt [.bl i] h = .ok (.int (if i then 1 else 0)) h := rfl
@[simp] theorem e_list : uList [x] h = match sL h x with | some us => .ok (.ref h.length) (h ++ [.lst us]) | none => .bad := rfl
@[simp] theorem e_tuple : uTuple [x] h = match sL h x with | some us => .ok (.tup us) h | none => .bad := rfl
@[simp] theorem e_min {i j : Int} : uMin [.int i, .int j] h = .ok (.int (if j < i then j else i)) h := rfl
@[simp] theorem e_max {i j : Int} : uMax [.int i, .int j] h = .ok (.int (if j > i then j else i)) h := rfl
@[simp] theorem e_abs {i : Int} : uAbs [.int i] h = .ok (.int (if i < 0 then -i else i)) h := rfl
@[simp] theorem e_lm {f : U → List U → Sto → R U} : mLM f a am env h = (a env h).bind fun x h1 => if (aL h1 x).isSome = true then (am env h1).bind fun us h2 => f x us h2 else .bad := rfl
@[simp] theorem e_app {n : Nat} : uApp (.ref n) [y] h = match h[n]? with | some (.lst xs) => if xs.length < 16000000 then .ok .non (h.set n (.lst (xs ++ [y]))) else .bad | _ => .bad := rfl
@[simp] theorem e_ext {n : Nat} : uExt (.ref n) [y] h = match h[n]?, mL h y with | some (.lst xs), some ys => if xs.length + ys.length ≤ 16000000 then .ok .non (h.set n (.lst (xs ++ ys))) else .bad | _, _ => .bad := rfl
@[simp] theorem e_nx : mNx env h = .nx env h := rfl
theorem e_seq : mSeq m1 m2 env h = match m1 env h with | .nx e h1 => m2 e h1 | r => r := rfl
@[simp] theorem e_seq_nx {e : Env'} (q : m1 env h = .nx e h1) : mSeq m1 m2 env h = m2 e h1 := by unfold mSeq; rw [q]
@[simp] theorem e_seq_rt (q : m1 env h = .rt u h1) : mSeq m1 m2 env h = .rt u h1 := by unfold mSeq; rw [q]
@[simp] theorem e_seq_bk {e : Env'} (q : m1 env h = .bk e h1) : mSeq m1 m2 env h = .bk e h1 := by unfold mSeq; rw [q]
@[simp] theorem e_seq_ct {e : Env'} (q : m1 env h = .ct e h1) : mSeq m1 m2 env h = .ct e h1 := by unfold mSeq; rw [q]
@[simp] theorem e_asg {k : CT} : mAsg k a env h = match a env h with | .ok u h1 => gCT k u env h1 | .bad => .bad := rfl
@[simp] theorem e_gct_one {i : Nat} : gCT (.one i) u env h = .nx (env.set i (some u)) h := rfl
@[simp] theorem e_gct_tup {is : List Nat} : gCT (.tup is) (.tup us) env h = if us.length = is.length then .nx (setA env is us) h else .bad := by
  show (match (if us.length = is.length then some (setA env is us) else none) with | some e => RS.nx e h | none => .bad) = _
  by_cases z : us.length = is.length
  · rw [if_pos z, if_pos z]
  · rw [if_neg z, if_neg z]
@[simp] theorem e_ca_one {i : Nat} : (CT.one i).asg u env h = some (env.set i (some u)) := rfl
@[simp] theorem e_ca_tup {is : List Nat} : (CT.tup is).asg (.tup us) env h = if us.length = is.length then some (setA env is us) else none := rfl
@[simp] theorem e_setA_cons {e : Env'} {i : Nat} {is : List Nat} : setA e (i :: is) (u :: us) = setA (e.set i (some u)) is us := by conv => lhs; unfold setA
@[simp] theorem e_setA_nil {e : Env'} {us : List U} : setA e [] us = e := by unfold setA; rfl
@[simp] theorem e_ret : mRet a env h = match a env h with | .ok u h1 => .rt u h1 | .bad => .bad := rfl
@[simp] theorem e_retN : mRetN env h = .rt .non h := rfl
@[simp] theorem e_drop : mDrop a env h = match a env h with | .ok _ h1 => .nx env h1 | .bad => .bad := rfl
theorem e_ifs : mIfS t m1 m2 env h = match t env h with | .ok true h1 => m1 env h1 | .ok false h1 => m2 env h1 | .bad => .bad := rfl
@[simp] theorem e_ifs' {b : Bool} (q : t env h = .ok b h1) : mIfS t m1 m2 env h = if b = true then m1 env h1 else m2 env h1 := by unfold mIfS; rw [q]; cases b <;> rfl
@[simp] theorem e_brk : mBrk env h = .bk env h := rfl
@[simp] theorem e_cnt : mCnt env h = .ct env h := rfl
@[simp] theorem e_call {n : Nat} {sem : Sem'} : mCall n sem am env h = (am env h).bind fun us h1 => if us.length = n then sem us h1 else .bad := rfl
@[simp] theorem e_isT {T : Ty} : bIs T a env h = (a env h).bind fun x h1 => oB (isU T h1 x) h1 := rfl
@[simp] theorem e_isT2 {T S : Ty} : bIs2 T S a env h = (a env h).bind fun x h1 => oB ((isU T h1 x).bind fun b => (isU S h1 x).map fun c => b || c) h1 := rfl
@[simp] theorem e_set {n : Nat} {k : Int} : uSetL (.ref n) (.int k) z h = match h[n]? with | some (.lst us) => (ixN us.length k).map fun j => h.set n (.lst (us.set j z)) | _ => none := rfl
@[simp] theorem e_seti {f : U → U → U → Sto → Option Sto} : mSetI f a b c env h = match c env h with
  | .ok z h1 => (match a env h1 with
    | .ok x h2 => (match b env h2 with
      | .ok y h3 => (match f x y z h3 with
        | some h4 => .nx env h4
        | none => .bad)
      | .bad => .bad)
    | .bad => .bad)
  | .bad => .bad := rfl
@[simp] theorem e_aug {f : U → U → Sto → R U} {i : Nat} : mAug f i a env h = match env[i]? with
  | some (some x) => (match a env h with
    | .ok y h1 => (match f x y h1 with
      | .ok z h2 => .nx (env.set i (some z)) h2
      | .bad => .bad)
    | .bad => .bad)
  | _ => .bad := rfl
@[simp] theorem e_augi {gt f : U → U → Sto → R U} {st : U → U → U → Sto → Option Sto} : mAugI gt f st a b c env h = match a env h with
  | .ok x h1 => (match b env h1 with
    | .ok y h2 => (match gt x y h2 with
      | .ok z h3 => (match c env h3 with
        | .ok u h4 => (match f z u h4 with
          | .ok q h5 => (match st x y q h5 with
            | some h6 => .nx env h6
            | none => .bad)
          | .bad => .bad)
        | .bad => .bad)
      | .bad => .bad)
    | .bad => .bad)
  | .bad => .bad := rfl
@[simp] theorem e_ixL {n : Nat} {i : Int} : uIxL (.ref n) (.int i) h = match h[n]? with | some (.lst us) => oR (atI us i) h | _ => .bad := rfl
@[simp] theorem e_sm1 {f : U → U → Sto → R U} : mSM1 f a b env h = (a env h).bind fun x h1 => match x with | .str s => (b env h1).bind fun y h2 => f (.str s) y h2 | _ => .bad := rfl
@[simp] theorem e_join {s : List Nat} : uJoin (.str s) y h = match (sL h y).bind strsOf with | some ss => if (ss.map List.length).sum + ss.length * s.length ≤ 16000000 then .ok (.str (TL.joinL s ss)) h else .bad | none => .bad := rfl
def r1Of (us : List U) (h : Sto) : R (Chk × List U) := match us with
  | [.int j] => if -1000000000 ≤ j ∧ j ≤ 1000000000 then .ok ([], rng 0 j.toNat) h else .bad
  | _ => .bad
def r2Of (us : List U) (h : Sto) : R (Chk × List U) := match us with
  | [.int i, .int j] => if (-1000000000 ≤ i ∧ i ≤ 1000000000) ∧ (-1000000000 ≤ j ∧ j ≤ 1000000000) then .ok ([], rng i (j - i).toNat) h else .bad
  | _ => .bad
@[simp] theorem e_r1 : itR1 am env h = (am env h).bind r1Of := rfl
@[simp] theorem e_r2 : itR2 am env h = (am env h).bind r2Of := rfl
@[simp] theorem e_r1i {j : Int} : r1Of [.int j] h = if -1000000000 ≤ j ∧ j ≤ 1000000000 then .ok ([], rng 0 j.toNat) h else .bad := rfl
@[simp] theorem e_r2i {i j : Int} : r2Of [.int i, .int j] h = if (-1000000000 ≤ i ∧ i ≤ 1000000000) ∧ (-1000000000 ≤ j ∧ j ≤ 1000000000) then .ok ([], rng i (j - i).toNat) h else .bad := rfl
def seqOf (x : U) (h : Sto) : R (Chk × List U) := match x with
  | .str s => .ok ([], s.map fun c => .str [c]) h
  | x => match sL h x with
    | some us => .ok (chkOf x us, us) h
    | none => .bad
@[simp] theorem e_itE : itE a env h = (a env h).bind seqOf := rfl
@[simp] theorem e_seq_s {s : List Nat} : seqOf (.str s) h = .ok ([], s.map fun c => .str [c]) h := rfl
@[simp] theorem e_seq_tup : seqOf (.tup us) h = .ok ([], us) h := rfl
@[simp] theorem e_seq_fl : seqOf (.fl us) h = .ok ([], us) h := rfl
@[simp] theorem e_seq_kl : seqOf (.kl us) h = .ok ([], us) h := rfl
@[simp] theorem e_seq_ref {n : Nat} (q : h[n]? = some (.lst us)) : seqOf (.ref n) h = .ok ([(n, us)], us) h := by simp [seqOf, q, chkOf]
def zipOf (us : List U) (h : Sto) : R (Chk × List U) := match us with
  | [x, y] => (match aL h x, aL h y with
    | some us, some ts => .ok (chkOf x us ++ chkOf y ts, pairs us ts) h
    | _, _ => .bad)
  | _ => .bad
def enumOf (us : List U) (h : Sto) : R (Chk × List U) := match us with
  | [x] => (match aL h x with
    | some us => .ok (chkOf x us, pairs (rng 0 us.length) us) h
    | _ => .bad)
  | _ => .bad
@[simp] theorem e_itZ : itZ am env h = (am env h).bind zipOf := rfl
@[simp] theorem e_itN : itN am env h = (am env h).bind enumOf := rfl
@[simp] theorem e_zip : zipOf [x, y] h = match aL h x, aL h y with
    | some us, some ts => .ok (chkOf x us ++ chkOf y ts, pairs us ts) h
    | _, _ => .bad := rfl
@[simp] theorem e_enum : enumOf [x] h = match aL h x with
    | some us => .ok (chkOf x us, pairs (rng 0 us.length) us) h
    | _ => .bad := rfl
@[simp] theorem e_chk_ref {n : Nat} : chkOf (.ref n) us = [(n, us)] := rfl
@[simp] theorem e_chk_fl : chkOf (.fl xs) us = [] := rfl
@[simp] theorem e_chk_kl : chkOf (.kl xs) us = [] := rfl
@[simp] theorem e_chk_tup : chkOf (.tup xs) us = [] := rfl
@[simp] theorem e_yes : bYes env h = .ok true h := rfl
theorem e_for {mi : IM'} {k : CT} {c : Chk} (q : mi env h = .ok (c, us) h1) : mFor mi k m env h = forL c k m us env h1 := by unfold mFor; rw [q]
theorem e_forL_nil {k : CT} : forL [] k m [] env h = .nx env h := by unfold forL; rw [if_pos (chkOk_nil h)]
theorem e_forL_cons {k : CT} {env1 : Env'} (q : k.asg u env h = some env1) : forL [] k m (u :: us) env h = match m env1 h with
        | .nx e h1 => forL [] k m us e h1
        | .ct e h1 => forL [] k m us e h1
        | .bk e h1 => .nx e h1
        | r => r := by
  conv => lhs; unfold forL
  rw [if_pos (chkOk_nil h), q]
  all_goals rfl
/-- .. over a list of the store -/
theorem e_forC_nil {c : Chk} {k : CT} (ck : chkOk c h) : forL c k m [] env h = .nx env h := by unfold forL; rw [if_pos ck]
theorem e_forC_cons {c : Chk} {k : CT} {env1 : Env'} (ck : chkOk c h) (q : k.asg u env h = some env1) : forL c k m (u :: us) env h = match m env1 h with
        | .nx e h1 => forL c k m us e h1
        | .ct e h1 => forL c k m us e h1
        | .bk e h1 => .nx e h1
        | r => r := by
  conv => lhs; unfold forL
  rw [if_pos ck, q]
  all_goals rfl
theorem chk_one {n : Nat} : chkOk [(n, us)] h ↔ h[n]? = some (.lst us) := by simp [chkOk]
theorem e_fnM {n : Nat} {body : SM} : fnM n body us h = match body (us.map some ++ List.replicate (n - us.length) none) h with
  | .nx _ h' => .ok .non h'
  | .rt u h' => .ok u h'
  | _ => .bad := rfl
theorem e_fn_rt {n : Nat} {body : SM} (q : body (us.map some ++ List.replicate (n - us.length) none) h = .rt u h1) : fnM n body us h = .ok u h1 := by unfold fnM; rw [q]
theorem e_fn_nx {n : Nat} {body : SM} {e : Env'} (q : body (us.map some ++ List.replicate (n - us.length) none) h = .nx e h1) : fnM n body us h = .ok .non h1 := by unfold fnM; rw [q]
/-- a comprehension whose parts leave the store as it is and reckon f of each item -/
theorem e_lcL {c : Chk} {k : CT} {me : EM} {n : Nat} {e0 : Env'} {f : U → U} : ∀ (us : List U) (acc : List U) (h : Sto), (∀ o, chkOk c (h.set n o)) → h[n]? = some (.lst acc) → acc.length + us.length < 16000000 →
    (∀ u ∈ us, ∀ h', (∀ i, i ≠ n → h'[i]? = h[i]?) → ∃ env1, k.asg u e0 h' = some env1 ∧ me env1 h' = .ok (f u) h') → lcL c k bYes me n e0 us h = .ok (.ref n) (h.set n (.lst (acc ++ us.map f)))
  | [], acc, h, ck, hn, hz, hm => by
    have e : h.set n (.lst acc) = h := by
      apply List.ext_getElem?
      intro j
      by_cases hj : n = j
      · subst hj
        rw [List.getElem?_set_self (List.getElem?_eq_some_iff.mp hn).1, hn]
      · rw [List.getElem?_set_ne hj]
    have ck0 := ck (.lst acc)
    rw [e] at ck0
    unfold lcL
    rw [if_pos ck0, List.map_nil, List.append_nil, e]
  | u :: us, acc, h, ck, hn, hz, hm => by
    have e : h.set n (.lst acc) = h := by
      apply List.ext_getElem?
      intro j
      by_cases hj : n = j
      · subst hj
        rw [List.getElem?_set_self (List.getElem?_eq_some_iff.mp hn).1, hn]
      · rw [List.getElem?_set_ne hj]
    have ck0 := ck (.lst acc)
    rw [e] at ck0
    obtain ⟨env1, e1, e2⟩ := hm u List.mem_cons_self h fun _ _ => rfl
    have hl : n < h.length := (List.getElem?_eq_some_iff.mp hn).1
    have ih := e_lcL (c := c) (k := k) (me := me) (n := n) (e0 := e0) (f := f) us (acc ++ [f u]) (h.set n (.lst (acc ++ [f u]))) (fun o => by rw [List.set_set]; exact ck o) (by rw [List.getElem?_set_self hl])
      (by simp at hz ⊢; omega) (fun w hw h' hh => hm w (List.mem_cons_of_mem _ hw) h' fun i hi => by rw [hh i hi, List.getElem?_set_ne (Ne.symm hi)])
    unfold lcL
    rw [if_pos ck0, e1]
    simp only [e_yes, e_bind_ok, if_true, e2, hn]
    rw [if_pos (by simp at hz; omega), ih, List.set_set, List.append_assoc]
    rfl
/-! ### the store -/
theorem lt_of_some {n : Nat} (q : (h[n]?).isSome = true) : n < h.length := by
  cases e : h[n]? with
  | none => rw [e] at q; cases q
  | some o => exact (List.getElem?_eq_some_iff.mp e).1
@[simp] theorem st_app {l : Sto} {n : Nat} (q : (h[n]?).isSome = true) : (h ++ l)[n]? = h[n]? := List.getElem?_append_left (lt_of_some q)
@[simp] theorem st_gs {n : Nat} {o : O} (q : (h[n]?).isSome = true) : (h.set n o)[n]? = some o := List.getElem?_set_self (lt_of_some q)
@[simp] theorem st_gn {n k : Nat} {o : O} (q : n ≠ k) : (h.set n o)[k]? = h[k]? := List.getElem?_set_ne q
@[simp] theorem c_mod {i j : Int} : cMod i j ↔ 0 < j := Iff.rfl
@[simp] theorem c_div {i j : Int} : cDiv i j ↔ 0 < j ∧ j < 1073741824 := Iff.rfl
@[simp] theorem c_mul {i j : Int} : cMul i j ↔ (-18446744073709551616 < i ∧ i < 18446744073709551616) ∨ (-18446744073709551616 < j ∧ j < 18446744073709551616) := Iff.rfl
@[simp] theorem c_pow {i j : Int} : cPow i j ↔ 0 ≤ j ∧ j ≤ 1000 ∧ 0 ≤ i ∧ i < 1000 := Iff.rfl
@[simp] theorem st_len {l : Sto} : (h ++ l)[h.length]? = l[0]? := by
  rw [List.getElem?_append_right (Nat.le_refl _), Nat.sub_self]
@[simp] theorem st_lenk {l : Sto} {k : Nat} : (h ++ l)[h.length + k]? = l[k]? := by
  rw [List.getElem?_append_right (Nat.le_add_right _ _), Nat.add_sub_cancel_left]
@[simp] theorem st_set {l : Sto} {o : O} : (h ++ l).set h.length o = h ++ l.set 0 o := by
  rw [List.set_append_right _ _ (Nat.le_refl _), Nat.sub_self]
@[simp] theorem st_setk {l : Sto} {k : Nat} {o : O} : (h ++ l).set (h.length + k) o = h ++ l.set k o := by
  rw [List.set_append_right _ _ (Nat.le_add_right _ _), Nat.add_sub_cancel_left]
@[simp] theorem st_setl {l : Sto} {p : O} {n : Nat} (q : (h[n]?).isSome = true) : (h ++ l).set n p = h.set n p ++ l := List.set_append_left _ _ (lt_of_some q)
theorem rng_succ (lo : Int) (n : Nat) : rng lo (n + 1) = rng lo n ++ [.int (lo + n)] := by
  unfold rng
  rw [List.range_succ, List.map_append]
  rfl
end
/-- places in written lists -/
@[simp] theorem at0 {α : Type} {a : α} {l : List α} : atI (a :: l) 0 = some a := atI_nat (j := 0) rfl
@[simp] theorem at1 {α : Type} {a b : α} {l : List α} : atI (a :: b :: l) 1 = some b := atI_nat (j := 1) rfl
@[simp] theorem at2 {α : Type} {a b c : α} {l : List α} : atI (a :: b :: c :: l) 2 = some c := atI_nat (j := 2) rfl
@[simp] theorem at3 {α : Type} {a b c d : α} {l : List α} : atI (a :: b :: c :: d :: l) 3 = some d := atI_nat (j := 3) rfl
@[simp] theorem at4 {α : Type} {a b c d e : α} {l : List α} : atI (a :: b :: c :: d :: e :: l) 4 = some e := atI_nat (j := 4) rfl
@[simp] theorem at5 {α : Type} {a b c d e f : α} {l : List α} : atI (a :: b :: c :: d :: e :: f :: l) 5 = some f := atI_nat (j := 5) rfl
theorem at_ok {α : Type} {l : List α} {i : Int} {x : α} (h0 : 0 ≤ i) (h : l[i.toNat]? = some x) : atI l i = some x := by
  have := atI_nat h
  rwa [Int.toNat_of_nonneg h0] at this
end Q

set_option Elab.async false
set_option linter.all false
set_option maxRecDepth 100000
set_option maxHeartbeats 1000000
/-! QC: instances of the text's own classes. -/
namespace Q
open PySem PySem.Spec PyProof.Rows L2 TL
def putU (f : Str) (v : U) : List (Str × U) → List (Str × U)
  | [] => [(f, v)]
  | (g, x) :: r => if g = f then (g, v) :: r else (g, x) :: putU f v r
section
variable {K : Fr} {g g' : G} {X : Cx} {H : Hp} {h : Sto} {v w : V} {x y : U} {σ : L2.St} {env : Env'} {a b c e o tg : Expr} {es rest : List Expr} {ma mb mc me mo : EM} {ta tb : TM} {pos : Pos} {am : AM} {n : Str} {p : Pos}
theorem RepF.look {f : Str} : ∀ {vs us}, RepF K g vs us → (∀ u, us.lookup f = some u → ∃ v, vs.lookup f = some v ∧ Rep K g v u) ∧ (us.lookup f = none → vs.lookup f = none)
  | _, _, .nil => ⟨(fun u e => nomatch e), fun _ => rfl⟩
  | _, _, .cons (k := k) (v := v) (u := u0) (vs := vs) (us := us) hh r => by
    obtain ⟨i1, i2⟩ := RepF.look (f := f) r
    refine ⟨fun u e => ?_, fun e => ?_⟩
    · rw [List.lookup_cons] at e ⊢
      cases hb : f == k with
      | true => rw [hb] at e; simp only at e; cases e; exact ⟨v, rfl, hh⟩
      | false => rw [hb] at e; simp only at e; exact i1 u e
    · rw [List.lookup_cons] at e ⊢
      cases hb : f == k with
      | true => rw [hb] at e; simp only at e; cases e
      | false => rw [hb] at e; simp only at e; exact i2 e
theorem RepF.put {f : Str} {v : V} {u : U} (hh : Rep K g v u) : ∀ {vs us}, RepF K g vs us → RepF K g (putF f v vs) (putU f u us)
  | _, _, .nil => .cons hh .nil
  | _, _, .cons (k := k) (v := v') (u := u') (vs := vs) (us := us) h' r => by
    show RepF K g (if k = f then (k, v) :: vs else (k, v') :: putF f v vs) (if k = f then (k, u) :: us else (k, u') :: putU f u us)
    split
    · exact .cons hh r
    · exact .cons h' (RepF.put hh r)
theorem RepF.len : ∀ {vs us}, RepF K g vs us → vs.length = us.length
  | _, _, .nil => rfl
  | _, _, .cons _ r => by simp [RepF.len r]
/-- what the written part tells of a class that has the attribute f -/
structure FA (K : Fr) (cs : List Nat) (f : Str) : Prop where
  is : ∀ C, C ∈ cs → Cls K C ∧ NoAttr K C f
/-- the instance at x: its class, its attributes -/
def insU (h : Sto) : U → Option (Nat × List (Str × U))
  | .ref n => match h[n]? with
    | some (.ins C fs) => some (C, fs)
    | _ => none
  | _ => none
theorem ins_of {C : Nat} {us : List (Str × U)} (hr : HR K g H h) (r : Rep K g v x) (e : insU h x = some (C, us)) : ∃ n p dx vs, x = .ref n ∧ v = .ref p ∧ g.al[n]? = some p ∧ h[n]? = some (.ins C us) ∧ H p = some (.ins C dx vs) ∧ RepF K g vs us := by
  cases r with
  | @ref p n q =>
    simp only [insU] at e
    split at e
    · rename_i C' us' e1
      cases e
      obtain ⟨dx, vs, h1, h2⟩ := hr.ob n p _ q e1
      exact ⟨n, p, dx, vs, rfl, rfl, q, e1, h1, h2⟩
    · cases e
  | _ => cases e
/-- o.f -/
def mFld (cs : List Nat) (f : Str) (o : EM) : EM := fun env h => (o env h).bind fun x h1 => match insU h1 x with
  | some (C, fs) => if C ∈ cs then oR (fs.lookup f) h1 else .bad
  | none => .bad
theorem se_fld {cs : List Nat} {f : Str} (T : FA X.K cs f) (he : PE X e (tM X.K me)) (hb : attributeBase e f X.env (eval e X.env) = eval e X.env := by rfl) : PE X (.Attribute e f pos) (tM X.K (mFld cs f me)) :=
  PE.weak (pe_fld he hb) fun σ H Q ⟨g, env, h, hr, er, w⟩ => ⟨g, env, h, hr, er, wE w fun u h1 v H1 g1 l1 hr1 rv w1 => by
    split at w1
    · rename_i C fs e1
      split at w1
      · rename_i hc
        obtain ⟨n, q, dx, vs, rfl, rfl, e2, e3, e4, e5⟩ := ins_of hr1 rv e1
        cases el : fs.lookup f with
        | none => rw [el] at w1; exact w1.elim
        | some u =>
          rw [el] at w1
          obtain ⟨z, hz, rz⟩ := e5.look.1 u el
          exact ⟨q, C, dx, vs, z, rfl, e4, (T.is C hc).1, (T.is C hc).2, hz, w1 z H1 g1 (Le.refl _) hr1 rz⟩
      · exact w1.elim
    · exact w1.elim⟩
/-- o.f = e -/
def mSetF (cs : List Nat) (f : Str) (o e : EM) : SM := fun env h => match e env h with
  | .ok z h1 => (match o env h1 with
    | .ok x h2 => (match x, insU h2 x with
      | .ref n, some (C, fs) => if C ∈ cs ∧ fs.length < 1000 then .nx env (h2.set n (.ins C (putU f z fs))) else .bad
      | _, _ => .bad)
    | .bad => .bad)
  | .bad => .bad
theorem ss_fld {cs : List Nat} {f : Str} {tpos : Pos} (T : FA X.K cs f) (ho : PE X o (tM X.K mo)) (he : PE X e (tM X.K me)) (hs : swapsWith e (some (.Attribute o f tpos)) pos.line X.env = pure false := by rfl) : PS X (.Assign [.Attribute o f tpos] e pos) (sM X.K (mSetF cs f mo me)) :=
  PS.weak (ps_fld ho he hs) fun D σ H ⟨g, env, h, hr, er, w⟩ => ⟨g, env, h, hr, er, wAsg w fun z h1 vz H1 g1 l1 hr1 rz w1 => ⟨g1, env, h1, hr1, er.mono l1, wAsg w1 fun x h2 vx H2 g2 l2 hr2 rx w2 => by
    split at w2
    · rename_i n C fs e1
      split at w2
      · rename_i hc
        obtain ⟨n', q, dx, vs, hn, rfl, e2, e3, e4, e5⟩ := ins_of hr2 rx e1
        cases hn
        refine ⟨q, C, dx, vs, rfl, e4, (T.is C hc.1).1, (T.is C hc.1).2, by rw [e5.len]; exact hc.2, ?_⟩
        exact w2 σ _ g2 (Le.refl _) (hr2.set e2 ⟨dx, _, upd_same, e5.put (rz.mono l2)⟩) (er.mono (l1.trans l2))
      · exact w2.elim
    · exact w2.elim⟩⟩
/-- o.f op= e -/
def mAugF (cs : List Nat) (op : U → U → Sto → R U) (f : Str) (o e : EM) : SM := fun env h => match o env h with
  | .ok x h1 => (match x, insU h1 x with
    | .ref n, some (C, fs) => if C ∈ cs then (match fs.lookup f with
      | some u => (match e env h1 with
        | .ok y h2 => (match op u y h2 with
          | .ok z h3 => (match insU h3 (.ref n) with
            | some (C', fs') => if C' = C ∧ fs'.length < 1000 then .nx env (h3.set n (.ins C (putU f z fs'))) else .bad
            | none => .bad)
          | .bad => .bad)
        | .bad => .bad)
      | none => .bad) else .bad
    | _, _ => .bad)
  | .bad => .bad
theorem ss_augF {cs : List Nat} {f : Str} {tpos : Pos} {op : Operator} {r : R2} {fo : U → U → Sto → R U} (T : FA X.K cs f) (hop : OpR X (inplaceOp op) r) (ok : BinOK X.K r fo) (ho : PE X o (tM X.K mo)) (he : PE X e (tM X.K me)) :
    PS X (.AugAssign (.Attribute o f tpos) op e pos) (sM X.K (mAugF cs fo f mo me)) :=
  PS.weak (ps_fldaug (rd := r) ho he hop) fun D σ H ⟨g, env, h, hr, er, w⟩ => ⟨g, env, h, hr, er, wAsg w fun x h1 vx H1 g1 l1 hr1 rx w1 => by
    split at w1
    · rename_i n C fs e1
      split at w1
      · rename_i hc
        obtain ⟨n', q, dx, vs, hn, rfl, e2, e3, e4, e5⟩ := ins_of hr1 rx e1
        cases hn
        split at w1
        · rename_i u el
          obtain ⟨z, hz, rz⟩ := e5.look.1 u el
          refine ⟨q, C, dx, vs, z, rfl, e4, (T.is C hc).1, (T.is C hc).2, hz, g1, env, h1, hr1, er.mono l1, wAsg w1 fun y h2 vy H2 g2 l2 hr2 ry w2 => ?_⟩
          refine ok g2 H2 h2 z vy u y _ hr2 (rz.mono l2) ry (wAsg w2 fun z' h3 vz H3 g3 l3 hr3 rz' w3 => ?_)
          split at w3
          · rename_i C' fs' e6
            split at w3
            · rename_i hc'
              obtain ⟨n'', q', dx', vs', hn, hq, e7, e8, e9, e10⟩ := ins_of hr3 (.ref ((l2.trans l3).get e2)) e6
              cases hn
              cases hq
              have e11 := hc'.1
              subst e11
              refine ⟨dx', vs', e9, by rw [e10.len]; exact hc'.2, ?_⟩
              exact w3 σ _ g3 (Le.refl _) (hr3.set e7 ⟨dx', _, upd_same, e10.put rz'⟩) (er.mono ((l1.trans l2).trans l3))
            · exact w3.elim
          · exact w3.elim
        · exact w1.elim
      · exact w1.elim
    · exact w1.elim⟩
/-- o.m(..) -/
def mMeth (C : Nat) (m : Str) (k : Nat) (sem : Sem') (o : EM) (am : AM) : EM := fun env h => (o env h).bind fun x h1 => match insU h1 x with
  | some (C', fs) => if C' = C ∧ fs.lookup m = none then (am env h1).bind fun us h2 => if us.length + 1 = k then sem (x :: us) h2 else .bad else .bad
  | none => .bad
variable {f C : Addr} {fd : FuncData} {ps : List Str} {k j : Nat} {m : Str} {sem : Sem'}
theorem meth_to {Q : VK} {E : XK} (q : tM K (mMeth C m j sem mo am) σ H Q) : tMeth C m (spM K j sem) [] E (tM K mo) (aM K am) σ H Q := by
  obtain ⟨g, env, h, hr, er, w⟩ := q
  refine ⟨g, env, h, hr, er, wE w fun x h1 v H1 g1 l1 hr1 rv w1 => ?_⟩
  split at w1
  · rename_i C' fs e1
    split at w1
    · rename_i hc
      obtain ⟨n, q, dx, vs, rfl, rfl, e2, e3, e4, e5⟩ := ins_of hr1 rv e1
      have e11 := hc.1
      subst e11
      refine ⟨q, dx, vs, rfl, e4, e5.look.2 hc.2, g1, env, h1, hr1, er.mono l1, wA w1 fun us h2 vs H2 g2 l2 hr2 rvs w2 => ?_⟩
      split at w2
      · rename_i z
        rw [List.append_nil]
        exact ⟨by simp [rvs.len]; exact z, g2, _, h2, hr2, .cons (rv.mono l2) rvs, w2⟩
      · exact w2.elim
    · exact w1.elim
  · exact w1.elim
theorem se_meth {apos : Pos} {pl : Sem Bool} (c : Cls X.K C) (hm : Meth X.K C m f) (F : FnOk X.prog X.w X.K X.mg X.base CX0 k f fd ps (spM X.K j sem)) (hr : Room k X.A) (hb : Binds X.K fd ps []) (he : PE X o (tM X.K mo)) (ha : PA X (e :: es) (aM X.K am))
    (hst : starEach (e :: es) X.env = (false, eval e X.env) :: starEach es X.env := by rfl) (hpl : (backTo pos (starEach es X.env)).any (·.1) = false := by rfl)
    (ht : eval (.Call (.Attribute o m apos) (e :: es) [] pos) X.env = (do
      let ov ← eval o X.env
      standAt apos.atName
      let (f, first) ← holding [ov] (getMethod ov m pl)
      callWith pos f first (backTo pos (starEach (e :: es) X.env)) (backToKw pos (keywordEach [] X.env))) := by rfl) : PE X (.Call (.Attribute o m apos) (e :: es) [] pos) (tM X.K (mMeth C m j sem mo am)) :=
  PE.weak (pe_meth (pl := pl) he c hm F hr hb .nil pass0 ha hst hpl ht) fun σ H Q q => meth_to q
theorem se_meth0 {apos : Pos} {pl : Sem Bool} (c : Cls X.K C) (hm : Meth X.K C m f) (F : FnOk X.prog X.w X.K X.mg X.base CX0 k f fd ps (spM X.K j sem)) (hr : Room k X.A) (hb : Binds X.K fd ps []) (he : PE X o (tM X.K mo))
    (ht : eval (.Call (.Attribute o m apos) [] [] pos) X.env = (do
      let ov ← eval o X.env
      standAt apos.atName
      let (f, first) ← holding [ov] (getMethod ov m pl)
      callWith pos f first (backTo pos (starEach [] X.env)) (backToKw pos (keywordEach [] X.env))) := by rfl) : PE X (.Call (.Attribute o m apos) [] [] pos) (tM X.K (mMeth C m j sem mo aNil)) :=
  PE.weak (pe_meth0 (pl := pl) he c hm F hr hb .nil pass0 ht) fun σ H Q q => by
    have q := meth_to (E := E0) q
    obtain ⟨g, env, h, hr, er, w⟩ := q
    refine ⟨g, env, h, hr, er, ?_⟩
    cases e1 : mo env h with
    | bad => rw [e1] at w; exact w
    | ok x h1 =>
      rw [e1] at w
      intro v H1 g1 l1 hr1 rv
      obtain ⟨a, dx, fs, h1, h2, h3, g2, env2, h4, hr2, er2, w2⟩ := w v H1 g1 l1 hr1 rv
      exact ⟨a, dx, fs, h1, h2, h3, w2 [] H1 g2 (Le.refl _) hr2 .nil⟩
/-- C(..) -/
def mMake (C : Nat) (k : Nat) (sem : Sem') (am : AM) : EM := fun env h => (am env h).bind fun us h1 => if us.length + 1 = k then (match sem (.ref h1.length :: us) (h1 ++ [.ins C []]) with
  | .ok .non h2 => .ok (.ref h1.length) h2
  | _ => .bad) else .bad
theorem make_to {Q : VK} {E : XK} (q : tM K (mMake C j sem am) σ H Q) : tMake C (spM K j sem) [] E (aM K am) σ H Q := by
  obtain ⟨g, env, h, hr, er, w⟩ := q
  refine ⟨g, env, h, hr, er, wA w fun us h1 vs H1 g1 l1 hr1 rvs w1 => ?_⟩
  intro x dx hx hdx hne
  split at w1
  · rename_i z
    have hr2 := hr1.skip hdx (.own x)
    have hx2 : (upd H1 dx (.own x)) x = none := by rw [upd_ne (Ne.symm hne)]; exact hx
    have hr3 : HR K (g1.new x) (upd (upd H1 dx (.own x)) x (.ins C dx [])) (h1 ++ [.ins C []]) := hr2.new hx2 ⟨dx, [], upd_same, .nil⟩
    have rx : Rep K (g1.new x) (.ref x) (.ref h1.length) := hr1.newRef
    rw [List.append_nil]
    refine ⟨by simp [rvs.len]; exact z, g1.new x, _, _, hr3, .cons rx (rvs.mono Le.new), ?_⟩
    have w1 := WE.mono (Le.new (g := g1) (p := x)) w1
    cases es : sem (.ref h1.length :: us) (h1 ++ [.ins C []]) with
    | bad => rw [es] at w1; exact w1
    | ok u h2 =>
      rw [es] at w1
      intro v H2 g2 l2 hr4 rv
      cases rv with
      | non => exact ⟨rfl, w1 _ H2 g2 l2 hr4 (rx.mono l2)⟩
      | _ => exact w1.elim
  · exact w1.elim
theorem se_make {fI : Addr} (M : Mk X.K C fI) (F : FnOk X.prog X.w X.K X.mg X.base CX0 k fI fd ps (spM X.K j sem)) (hr : Room (k + 1) X.A) (hg : Gl X n) (hm : X.mg n = some (.ref C)) (hb : Binds X.K fd ps [])
    (ha : PA X (e :: es) (aM X.K am)) (hdb : (n == ("__debug__" : Str)) = false := by decide) (h2 : starEach (e :: es) X.env = (false, eval e X.env) :: starEach es X.env := by rfl) (h3 : (backTo pos (starEach es X.env)).any (·.1) = false := by rfl) :
    PE X (.Call (.Name n p) (e :: es) [] pos) (tM X.K (mMake C j sem am)) :=
  PE.weak (pe_make M F hr hg hm hb .nil pass0 ha hdb h2 h3) fun σ H Q q => make_to q
theorem se_make0 {fI : Addr} (M : Mk X.K C fI) (F : FnOk X.prog X.w X.K X.mg X.base CX0 k fI fd ps (spM X.K j sem)) (hr : Room (k + 1) X.A) (hg : Gl X n) (hm : X.mg n = some (.ref C)) (hb : Binds X.K fd ps []) (hdb : (n == ("__debug__" : Str)) = false := by decide) :
    PE X (.Call (.Name n p) [] [] pos) (tM X.K (mMake C j sem aNil)) :=
  PE.weak (pe_make0 M F hr hg hm hb .nil pass0 hdb) fun σ H Q q => by
    have q := make_to (E := E0) q
    obtain ⟨g, env, h, hr, er, w⟩ := q
    exact w [] H g (Le.refl _) hr .nil
/-- how it is reckoned -/
@[simp] theorem e_fld {cs : List Nat} {f : Str} : mFld cs f mo env h = (mo env h).bind fun x h1 => match insU h1 x with
  | some (C, fs) => if C ∈ cs then oR (fs.lookup f) h1 else .bad
  | none => .bad := rfl
@[simp] theorem e_insU {n : Nat} : insU h (.ref n) = match h[n]? with | some (.ins C fs) => some (C, fs) | _ => none := rfl
@[simp] theorem e_meth {C : Nat} {m : Str} {k : Nat} : mMeth C m k sem mo am env h = (mo env h).bind fun x h1 => match insU h1 x with
  | some (C', fs) => if C' = C ∧ fs.lookup m = none then (am env h1).bind fun us h2 => if us.length + 1 = k then sem (x :: us) h2 else .bad else .bad
  | none => .bad := rfl
@[simp] theorem e_make {C k : Nat} : mMake C k sem am env h = (am env h).bind fun us h1 => if us.length + 1 = k then (match sem (.ref h1.length :: us) (h1 ++ [.ins C []]) with
  | .ok .non h2 => .ok (.ref h1.length) h2
  | _ => .bad) else .bad := rfl
@[simp] theorem e_setf {cs : List Nat} {f : Str} : mSetF cs f mo me env h = match me env h with
  | .ok z h1 => (match mo env h1 with
    | .ok x h2 => (match x, insU h2 x with
      | .ref n, some (C, fs) => if C ∈ cs ∧ fs.length < 1000 then .nx env (h2.set n (.ins C (putU f z fs))) else .bad
      | _, _ => .bad)
    | .bad => .bad)
  | .bad => .bad := rfl
end
end Q

set_option Elab.async false
set_option linter.all false
set_option maxRecDepth 100000
set_option maxHeartbeats 1000000
/-! N1: the laws' own drawing of numbers out of the script: _law_next(state, limit). -/
namespace Q
open L2
noncomputable def nextS : Sem' := fnM 4 (mSeq (mIfS (bAnd (bCmp cEq (mBin uIx (mVar 0) (mC (.int 2))) (mC (.int 0))) (bCmp cLt (mBin uIx (mVar 0) (mC (.int 1))) (mCB uLen (aCons (mBin uIx (mVar 0) (mC (.int 0))) aNil)))) (mSeq (mAsg (.one 2) (mBin uIx (mBin uIx (mVar 0) (mC (.int 0))) (mBin uIx (mVar 0) (mC (.int 1)))))
    (mSeq (mAugI uIxL uIAdd uSetL (mVar 0) (mC (.int 1)) (mC (.int 1)))
    (mIfS (bCmp cGe (mVar 2) (mBin uPow (mC (.int 10)) (mC (.int 18)))) (mSetI uSetL (mVar 0) (mC (.int 2)) (mVar 2)) (mSetI uSetL (mVar 0) (mC (.int 3)) (mBin uMod (mCB uInt (aCons (mBin uAdd (mBin uAdd (mBin uMul (mBin uIx (mVar 0) (mC (.int 3))) (mC (.int 48271))) (mBin uMod (mCB uInt (aCons (mVar 2) aNil)) (mC (.int 2147483647)))) (mC (.int 7))) aNil)) (mC (.int 2147483647))))))) mNx)
    (mSeq (mIfS (bCmp cGt (mBin uIx (mVar 0) (mC (.int 2))) (mC (.int 0))) (mSeq (mAsg (.one 3) (mBin uMod (mCB uInt (aCons (mBin uIx (mVar 0) (mC (.int 2))) aNil)) (mVar 1)))
    (mSeq (mSetI uSetL (mVar 0) (mC (.int 2)) (mBin uDiv (mBin uIx (mVar 0) (mC (.int 2))) (mVar 1)))
    (mRet (mVar 3)))) mNx)
    (mSeq (mSetI uSetL (mVar 0) (mC (.int 3)) (mBin uMod (mCB uInt (aCons (mBin uAdd (mBin uMul (mBin uIx (mVar 0) (mC (.int 3))) (mC (.int 69621))) (mC (.int 12345))) aNil)) (mC (.int 2147483647))))
    (mRet (mBin uMod (mCB uInt (aCons (mBin uDiv (mBin uIx (mVar 0) (mC (.int 3))) (mC (.int 7))) aNil)) (mVar 1))))))
/-- the state of the drawing at n: the script's copy at m, and some numbers -/
structure NS (h : Sto) (n m : Nat) (ns : List Int) (rest : List U) : Prop where
  ne : m ≠ n
  sc : h[m]? = some (.lst (ns.map U.int))
  st : ∃ (i : Nat) (c r : Int), h[n]? = some (.lst (.ref m :: .int i :: .int c :: .int r :: rest)) ∧ 0 ≤ c ∧ 0 ≤ r ∧ r < 2147483647
theorem ix_n {n k : Nat} (h : k < n) : ixN n (k : Int) = some k := by
  unfold ixN
  rw [if_pos (by omega), if_pos (by omega)]
  rfl
@[simp] theorem ix0 {n : Nat} : ixN (n + 1) 0 = some 0 := ix_n (k := 0) (by omega)
@[simp] theorem ix1 {n : Nat} : ixN (n + 1 + 1) 1 = some 1 := ix_n (k := 1) (by omega)
@[simp] theorem ix2 {n : Nat} : ixN (n + 1 + 1 + 1) 2 = some 2 := ix_n (k := 2) (by omega)
@[simp] theorem ix3 {n : Nat} : ixN (n + 1 + 1 + 1 + 1) 3 = some 3 := ix_n (k := 3) (by omega)
@[simp] theorem ix4 {n : Nat} : ixN (n + 1 + 1 + 1 + 1 + 1) 4 = some 4 := ix_n (k := 4) (by omega)
theorem get_set {h : Sto} {n : Nat} {o p : O} (e : h[n]? = some o) : (h.set n p)[n]? = some p := List.getElem?_set_self (List.getElem?_eq_some_iff.mp e).1
theorem get_set_ne {h : Sto} {n m : Nat} {p : O} (e : n ≠ m) : (h.set n p)[m]? = h[m]? := List.getElem?_set_ne e
/-- the first part: a cell of the script is taken in -/
theorem next_ok {h : Sto} {n m : Nat} {ns : List Int} {rest : List U} {L : Int} (s : NS h n m ns rest) (h0 : 0 < L) (hL : L < 1073741824) :
    ∃ v o, nextS [.ref n, .int L] h = .ok (.int v) (h.set n o) ∧ 0 ≤ v ∧ v < L ∧ NS (h.set n o) n m ns rest := by
  obtain ⟨ne, sc, i, c, r, st, hc, hr, hr2⟩ := s
  -- what is behind the first if
  have tail : ∀ (i : Nat) (c r : Int) (e2 : Option U), 0 ≤ c → 0 ≤ r → r < 2147483647 → ∀ h1 : Sto, h1[n]? = some (.lst (.ref m :: .int i :: .int c :: .int r :: rest)) → ∃ v o, (mSeq (mIfS (bCmp cGt (mBin uIx (mVar 0) (mC (.int 2))) (mC (.int 0))) (mSeq (mAsg (.one 3) (mBin uMod (mCB uInt (aCons (mBin uIx (mVar 0) (mC (.int 2))) aNil)) (mVar 1)))
    (mSeq (mSetI uSetL (mVar 0) (mC (.int 2)) (mBin uDiv (mBin uIx (mVar 0) (mC (.int 2))) (mVar 1)))
    (mRet (mVar 3)))) mNx)
    (mSeq (mSetI uSetL (mVar 0) (mC (.int 3)) (mBin uMod (mCB uInt (aCons (mBin uAdd (mBin uMul (mBin uIx (mVar 0) (mC (.int 3))) (mC (.int 69621))) (mC (.int 12345))) aNil)) (mC (.int 2147483647))))
    (mRet (mBin uMod (mCB uInt (aCons (mBin uDiv (mBin uIx (mVar 0) (mC (.int 3))) (mC (.int 7))) aNil)) (mVar 1))))) [some (.ref n), some (.int L), e2, none] h1 = .rt (.int v) (h1.set n o) ∧ 0 ≤ v ∧ v < L ∧ ∃ (i : Nat) (c r : Int), o = (.lst (.ref m :: .int i :: .int c :: .int r :: rest)) ∧ 0 ≤ c ∧ 0 ≤ r ∧ r < 2147483647 := by
    intro i c r e2 hc hr hr2 h1 st
    have hn : n < h1.length := (List.getElem?_eq_some_iff.mp st).1
    by_cases c0 : 0 < c
    · refine ⟨c % L, .lst (.ref m :: .int i :: .int (c / L) :: .int r :: rest), ?_, Int.emod_nonneg _ (by omega), Int.emod_lt_of_pos _ h0, i, c / L, r, rfl, Int.ediv_nonneg hc (by omega), hr, hr2⟩
      simp [e_seq, e_ifs, st, c0, h0, hL]
    · refine ⟨(r * 69621 + 12345) % 2147483647 / 7 % L, .lst (.ref m :: .int i :: .int c :: .int ((r * 69621 + 12345) % 2147483647) :: rest), ?_, Int.emod_nonneg _ (by omega), Int.emod_lt_of_pos _ h0, i, c, (r * 69621 + 12345) % 2147483647, rfl, hc, Int.emod_nonneg _ (by omega), Int.emod_lt_of_pos _ (by omega)⟩
      simp [e_seq, e_ifs, st, c0, h0]
  have fin : ∀ (h1 : Sto) (i : Nat) (c r : Int) (o : O), h1 = h ∨ (∃ p, h1 = h.set n p) → h1[n]? = some o → (∃ (i : Nat) (c r : Int), o = (.lst (.ref m :: .int i :: .int c :: .int r :: rest)) ∧ 0 ≤ c ∧ 0 ≤ r ∧ r < 2147483647) → NS (h.set n o) n m ns rest := by
    rintro h1 i c r o _ _ ⟨i2, c2, r2, rfl, a, b, d⟩
    exact ⟨ne, by rw [get_set_ne (Ne.symm ne)]; exact sc, i2, c2, r2, get_set st, a, b, d⟩
  have done : ∀ (h1 : Sto) (i : Nat) (c r : Int) (e2 : Option U), (∀ p, h1.set n p = h.set n p) → 0 ≤ c → 0 ≤ r → r < 2147483647 → h1[n]? = some (.lst (.ref m :: .int i :: .int c :: .int r :: rest)) →
      (mIfS (bAnd (bCmp cEq (mBin uIx (mVar 0) (mC (.int 2))) (mC (.int 0))) (bCmp cLt (mBin uIx (mVar 0) (mC (.int 1))) (mCB uLen (aCons (mBin uIx (mVar 0) (mC (.int 0))) aNil)))) (mSeq (mAsg (.one 2) (mBin uIx (mBin uIx (mVar 0) (mC (.int 0))) (mBin uIx (mVar 0) (mC (.int 1)))))
    (mSeq (mAugI uIxL uIAdd uSetL (mVar 0) (mC (.int 1)) (mC (.int 1)))
    (mIfS (bCmp cGe (mVar 2) (mBin uPow (mC (.int 10)) (mC (.int 18)))) (mSetI uSetL (mVar 0) (mC (.int 2)) (mVar 2)) (mSetI uSetL (mVar 0) (mC (.int 3)) (mBin uMod (mCB uInt (aCons (mBin uAdd (mBin uAdd (mBin uMul (mBin uIx (mVar 0) (mC (.int 3))) (mC (.int 48271))) (mBin uMod (mCB uInt (aCons (mVar 2) aNil)) (mC (.int 2147483647)))) (mC (.int 7))) aNil)) (mC (.int 2147483647))))))) mNx) [some (.ref n), some (.int L), none, none] h = .nx [some (.ref n), some (.int L), e2, none] h1 →
      ∃ v o, nextS [.ref n, .int L] h = .ok (.int v) (h.set n o) ∧ 0 ≤ v ∧ v < L ∧ NS (h.set n o) n m ns rest := by
    intro h1 i c r e2 hs a b d st1 q
    obtain ⟨v, o, q1, v0, v1, i2, c2, r2, rfl, a2, b2, d2⟩ := tail i c r e2 a b d h1 st1
    refine ⟨v, _, ?_, v0, v1, ⟨ne, by rw [get_set_ne (Ne.symm ne)]; exact sc, i2, c2, r2, get_set st, a2, b2, d2⟩⟩
    rw [← hs]
    refine e_fn_rt ?_
    show mSeq _ _ [some (.ref n), some (.int L), none, none] h = _
    rw [e_seq_nx q]
    exact q1
  by_cases c0 : c = 0
  · by_cases il : i < ns.length
    · subst c0
      have hx : (ns.map U.int)[i]? = some (.int ns[i]) := by simp [il]
      have ha : atI (ns.map U.int) (i : Int) = some (.int ns[i]) := atI_nat hx
      have il2 : (i : Int) < (ns.length : Int) := by omega
      have hn : n < h.length := (List.getElem?_eq_some_iff.mp st).1
      by_cases big : ns[i] ≥ 10 ^ 18
      · refine done (h.set n (.lst (.ref m :: .int (i + 1 : Nat) :: .int ns[i] :: .int r :: rest))) (i + 1) ns[i] r (some (.int ns[i])) (fun p => by rw [List.set_set]) (by omega) hr hr2 (get_set st) ?_
        have big2 : (1000000000000000000 : Int) ≤ ns[i] := big
        simp [e_seq, e_ifs, st, sc, il2, ha, big2]
      · have big2 : ¬ (1000000000000000000 : Int) ≤ ns[i] := big
        refine done (h.set n (.lst (.ref m :: .int (i + 1 : Nat) :: .int 0 :: .int ((r * 48271 + ns[i] % 2147483647 + 7) % 2147483647) :: rest))) (i + 1) 0 _ (some (.int ns[i])) (fun p => by rw [List.set_set]) (by omega) (Int.emod_nonneg _ (by omega)) (Int.emod_lt_of_pos _ (by omega)) (get_set st) ?_
        simp [e_seq, e_ifs, st, sc, il2, ha, big2]
    · refine done h i c r none (fun _ => rfl) hc hr hr2 st ?_
      have il2 : ¬ (i : Int) < (ns.length : Int) := by omega
      simp [e_seq, e_ifs, st, sc, c0, il2]
  · refine done h i c r none (fun _ => rfl) hc hr hr2 st ?_
    simp [e_seq, e_ifs, st, c0]
end Q
namespace Q
open L2
/-- nothing but the object at n is another one -/
structure Ch (n : Nat) (h h' : Sto) : Prop where
  len : h'.length = h.length
  eq : ∀ k, k ≠ n → h'[k]? = h[k]?
theorem Ch.refl (n : Nat) (h : Sto) : Ch n h h := ⟨rfl, fun _ _ => rfl⟩
theorem Ch.trans {n : Nat} {a b c : Sto} (x : Ch n a b) (y : Ch n b c) : Ch n a c := ⟨y.len.trans x.len, fun k hk => (y.eq k hk).trans (x.eq k hk)⟩
theorem Ch.set (n : Nat) (h : Sto) (o : O) : Ch n h (h.set n o) := ⟨by simp, fun k hk => List.getElem?_set_ne (Ne.symm hk)⟩
theorem next_ch {h : Sto} {n m : Nat} {ns : List Int} {rest : List U} {L : Int} (s : NS h n m ns rest) (h0 : 0 < L) (hL : L < 1073741824) :
    ∃ v h', nextS [.ref n, .int L] h = .ok (.int v) h' ∧ 0 ≤ v ∧ v < L ∧ Ch n h h' ∧ NS h' n m ns rest := by
  obtain ⟨v, o, e, a, b, c⟩ := next_ok s h0 hL
  exact ⟨v, _, e, a, b, Ch.set _ _ _, c⟩
end Q

set_option Elab.async false
set_option linter.all false
set_option maxRecDepth 100000
set_option maxHeartbeats 1000000
/-! Q9: loops by what holds between two turns. -/
namespace Q
open L2
theorem for_items {c : Chk} {k : CT} {body : SM} (P : Nat → Env' → Sto → Prop) : ∀ (us : List U) {j : Nat} {env : Env'} {h : Sto}, P j env h →
    (∀ i u env h, us[i]? = some u → P (j + i) env h → chkOk c h ∧ ∃ env1, k.asg u env h = some env1 ∧ ∃ env' h', (body env1 h = .nx env' h' ∨ body env1 h = .ct env' h') ∧ P (j + i + 1) env' h') →
    (∀ env h, P (j + us.length) env h → chkOk c h) → ∃ env' h', forL c k body us env h = .nx env' h' ∧ P (j + us.length) env' h'
  | [], j, env, h, h0, st, ck => ⟨env, h, e_forC_nil (ck env h h0), h0⟩
  | u :: us, j, env, h, h0, st, ck => by
    obtain ⟨ck1, env1, e1, env', h', e2, p⟩ := st 0 u env h rfl h0
    have el : j + (u :: us).length = j + 1 + us.length := by simp; omega
    have ih := for_items P us (j := j + 1) (env := env') (h := h') p (fun i u env h hu p => by
      have := st (i + 1) u env h (by simpa using hu) (by rw [show j + (i + 1) = j + 1 + i by omega]; exact p)
      rw [show j + (i + 1) = j + 1 + i by omega] at this
      exact this) (fun env h p => ck env h (by rw [el]; exact p))
    rw [el, e_forC_cons ck1 e1]
    rcases e2 with e2 | e2
    · rw [e2]; exact ih
    · rw [e2]; exact ih
theorem for_rng {k : Nat} {body : SM} {lo : Int} {n : Nat} {env : Env'} {h : Sto} (P : Nat → Env' → Sto → Prop) (h0 : P 0 env h)
    (st : ∀ i env h, i < n → P i env h → ∃ env' h', (body (env.set k (some (.int (lo + (i : Nat))))) h = .nx env' h' ∨ body (env.set k (some (.int (lo + (i : Nat))))) h = .ct env' h') ∧ P (i + 1) env' h') :
    ∃ env' h', forL [] (.one k) body (rng lo n) env h = .nx env' h' ∧ P n env' h' := by
  obtain ⟨env', h', e, p⟩ := for_items (c := []) (k := .one k) (body := body) P (rng lo n) (j := 0) h0 (fun i u env h hu p => by
    have hi : i < n := by
      have := (List.getElem?_eq_some_iff.mp hu).1
      rwa [rng_len] at this
    rw [rng_get hi] at hu
    cases hu
    rw [Nat.zero_add] at p ⊢
    obtain ⟨env', h', e, p⟩ := st i env h hi p
    exact ⟨chkOk_nil _, _, rfl, env', h', e, p⟩) (fun _ _ _ => chkOk_nil _)
  rw [Nat.zero_add, rng_len] at p
  exact ⟨env', h', e, p⟩
/-- a loop that may return -/
theorem for_find {c : Chk} {k : CT} {body : SM} {r : U} (P : Nat → Env' → Sto → Prop) (R : Sto → Prop) : ∀ (us : List U) {j : Nat} {env : Env'} {h : Sto}, P j env h →
    (∀ i u env h, us[i]? = some u → P (j + i) env h → chkOk c h ∧ ∃ env1, k.asg u env h = some env1 ∧ ((∃ h', body env1 h = .rt r h' ∧ R h') ∨ ∃ env' h', (body env1 h = .nx env' h' ∨ body env1 h = .ct env' h') ∧ P (j + i + 1) env' h')) →
    (∀ env h, P (j + us.length) env h → chkOk c h) → (∃ h', forL c k body us env h = .rt r h' ∧ R h') ∨ ∃ env' h', forL c k body us env h = .nx env' h' ∧ P (j + us.length) env' h'
  | [], j, env, h, h0, st, ck => .inr ⟨env, h, e_forC_nil (ck env h h0), h0⟩
  | u :: us, j, env, h, h0, st, ck => by
    obtain ⟨ck1, env1, e1, q⟩ := st 0 u env h rfl h0
    have el : j + (u :: us).length = j + 1 + us.length := by simp; omega
    rcases q with ⟨h', e2, q⟩ | ⟨env', h', e2, p⟩
    · rw [e_forC_cons ck1 e1, e2]
      exact .inl ⟨h', rfl, q⟩
    · have ih := for_find P R us (j := j + 1) (env := env') (h := h') p (fun i u env h hu p => by
        have := st (i + 1) u env h (by simpa using hu) (by rw [show j + (i + 1) = j + 1 + i by omega]; exact p)
        rw [show j + (i + 1) = j + 1 + i by omega] at this
        exact this) (fun env h p => ck env h (by rw [el]; exact p))
      rw [el, e_forC_cons ck1 e1]
      rcases e2 with e2 | e2
      · rw [e2]; exact ih
      · rw [e2]; exact ih
end Q

set_option Elab.async false
set_option linter.all false
set_option maxRecDepth 100000
set_option maxHeartbeats 1000000
/-! N2: the laws' own comparison _law_same(actual, expected), None first. -/
namespace Q
open L2
noncomputable def sameS : Nat → Sem'
  | 0 => fun _ _ => .bad
  | n + 1 => fnM 3 (mSeq (mIfS (bCmp cIs (mVar 1) (mC .non)) (mRet (mB (bCmp cIs (mVar 0) (mC .non)))) mNx)
    (mSeq (mIfS (bIs .bool (mVar 1)) (mRet (mAnd (mB (bIs .bool (mVar 0))) (mB (bCmp cEq (mVar 0) (mVar 1))))) mNx)
    (mSeq (mIfS (bIs .int (mVar 1)) (mRet (mAnd (mB (bIs .int (mVar 0))) (mAnd (mNot (mB (bIs .bool (mVar 0)))) (mB (bCmp cEq (mVar 0) (mVar 1)))))) mNx)
    (mSeq (mIfS (bIs .str (mVar 1)) (mRet (mAnd (mB (bIs .str (mVar 0))) (mB (bCmp cEq (mVar 0) (mVar 1))))) mNx)
    (mSeq (mIfS (bAnd (bIs .tuple (mVar 1)) (bNot (bIs .tuple (mVar 0)))) (mRet (mC (.bl false))) mNx)
    (mSeq (mIfS (bAnd (bIs .list (mVar 1)) (bNot (bIs .list (mVar 0)))) (mRet (mC (.bl false))) mNx)
    (mSeq (mIfS (bCmp cNe (mCB uLen (aCons (mVar 0) aNil)) (mCB uLen (aCons (mVar 1) aNil))) (mRet (mC (.bl false))) mNx)
    (mSeq (mFor (itR1 (aCons (mCB uLen (aCons (mVar 1) aNil)) aNil)) (.one 2) (mIfS (bNot (bTru (mCall 2 (sameS n) (aCons (mBin uIx (mVar 0) (mVar 2)) (aCons (mBin uIx (mVar 1) (mVar 2)) aNil))))) (mRet (mC (.bl false))) mNx))
    (mRet (mC (.bl true)))))))))))
/-- alike in the store h, n levels deep at most -/
inductive Alike (h : Sto) : Nat → U → U → Prop
  | non {n : Nat} : Alike h (n + 1) .non .non
  | bl {n : Nat} (b : Bool) : Alike h (n + 1) (.bl b) (.bl b)
  | int {n : Nat} (i : Int) : Alike h (n + 1) (.int i) (.int i)
  | str {n : Nat} (s : List Nat) : Alike h (n + 1) (.str s) (.str s)
  | tup {n : Nat} {us ts : List U} (e : us.length = ts.length) (z : us.length ≤ 1000000) (q : ∀ (i : Nat) (u t : U), us[i]? = some u → ts[i]? = some t → Alike h n u t) : Alike h (n + 1) (.tup us) (.tup ts)
  | lst {n : Nat} {x y : U} {us ts : List U} (hx : aL h x = some us) (hy : aL h y = some ts) (e : us.length = ts.length) (z : us.length ≤ 1000000) (q : ∀ (i : Nat) (u t : U), us[i]? = some u → ts[i]? = some t → Alike h n u t) : Alike h (n + 1) x y
section
variable {h : Sto}
theorem same_loop {n : Nat} {x y : U} {us ts : List U} (hx : sL h x = some us) (hy : sL h y = some ts) (nx : ∀ s, x ≠ .str s) (ny : ∀ s, y ≠ .str s) (e : us.length = ts.length) (z : us.length ≤ 1000000) (ih : ∀ (i : Nat) (u t : U), us[i]? = some u → ts[i]? = some t → sameS n [u, t] h = .ok (.bl true) h) :
    mSeq (mIfS (bCmp cNe (mCB uLen (aCons (mVar 0) aNil)) (mCB uLen (aCons (mVar 1) aNil))) (mRet (mC (.bl false))) mNx)
    (mSeq (mFor (itR1 (aCons (mCB uLen (aCons (mVar 1) aNil)) aNil)) (.one 2) (mIfS (bNot (bTru (mCall 2 (sameS n) (aCons (mBin uIx (mVar 0) (mVar 2)) (aCons (mBin uIx (mVar 1) (mVar 2)) aNil))))) (mRet (mC (.bl false))) mNx))
    (mRet (mC (.bl true)))) [some x, some y, none] h = .rt (.bl true) h := by
  have lx : uLen [x] h = .ok (.int us.length) h := by
    cases x with
    | str s => exact absurd rfl (nx s)
    | _ => simp only [uLen]; rw [hx]
  have ly : uLen [y] h = .ok (.int ts.length) h := by
    cases y with
    | str s => exact absurd rfl (ny s)
    | _ => simp only [uLen]; rw [hy]
  have ix : ∀ {x : U} {us : List U} (i : Nat) (u : U), (∀ s, x ≠ .str s) → sL h x = some us → us[i]? = some u → uIx x (.int (i : Nat)) h = .ok u h := by
    intro x us i u nx hx hu
    cases x with
    | str s => exact absurd rfl (nx s)
    | _ => simp only [uIx]; rw [hx]; simp only; rw [atI_nat hu]; rfl
  refine (e_seq_nx (h1 := h) (e := [some x, some y, none]) (by simp [e_ifs, lx, ly, e])).trans ?_
  obtain ⟨env', h', e1, P⟩ := for_rng (k := 2) (lo := 0) (n := ts.length) (env := [some x, some y, none]) (h := h) (body := mIfS (bNot (bTru (mCall 2 (sameS n) (aCons (mBin uIx (mVar 0) (mVar 2)) (aCons (mBin uIx (mVar 1) (mVar 2)) aNil))))) (mRet (mC (.bl false))) mNx)
    (fun i env h' => ∃ e2, env = [some x, some y, e2] ∧ h' = h) ⟨none, rfl, rfl⟩ (by
      rintro i env h1 hi ⟨e2, rfl, rfl⟩
      have g1 : us[i]? = some us[i] := List.getElem?_eq_getElem (by omega)
      have g2 : ts[i]? = some ts[i] := List.getElem?_eq_getElem hi
      have a1 := ix i _ nx hx g1
      have a2 := ix i _ ny hy g2
      have a3 := ih i _ _ g1 g2
      refine ⟨_, h1, .inl ?_, some (.int (0 + (i : Nat))), rfl, rfl⟩
      simp [e_ifs, a1, a2, a3])
  obtain ⟨e2, rfl, rfl⟩ := P
  have hz : -1000000000 ≤ (ts.length : Int) ∧ (ts.length : Int) ≤ 1000000000 := by omega
  refine (e_seq_nx (h1 := h') (e := [some x, some y, e2]) ((e_for (c := []) (us := rng 0 ts.length) (h1 := h') (by simp [ly, hz])).trans e1)).trans ?_
  rfl
theorem same_ok : ∀ {n : Nat} {x y : U}, Alike h n x y → sameS n [x, y] h = .ok (.bl true) h
  | _, _, _, .non => by refine e_fn_rt ?_; simp [e_seq, e_ifs]
  | _, _, _, .bl b => by refine e_fn_rt ?_; simp [e_seq, e_ifs, isU]
  | _, _, _, .int b => by refine e_fn_rt ?_; simp [e_seq, e_ifs, isU]
  | _, _, _, .str b => by refine e_fn_rt ?_; simp [e_seq, e_ifs, isU]
  | n + 1, .tup us, .tup ts, .tup e z q => by
    refine e_fn_rt ?_
    refine Eq.trans ?_ (same_loop (n := n) (x := .tup us) (y := .tup ts) rfl rfl (fun _ z => by cases z) (fun _ z => by cases z) e z fun i u t h1 h2 => same_ok (q i u t h1 h2))
    simp [e_seq, e_ifs, isU]
  | n + 1, x, y, .lst (us := us) (ts := ts) hx hy e z q => by
    have hl : ∀ {x : U} {us : List U}, aL h x = some us → (∀ s, x ≠ .str s) ∧ sL h x = some us ∧ (∀ T, isU T h x = some (match T with | .list => true | _ => false)) ∧ x ≠ .non := by
      intro x us hx
      cases x with
      | fl s => exact ⟨(fun _ z => nomatch z), hx, fun T => rfl, (fun z => nomatch z)⟩
      | kl s => exact ⟨(fun _ z => nomatch z), hx, fun T => rfl, (fun z => nomatch z)⟩
      | ref n =>
        refine ⟨(fun _ z => nomatch z), hx, fun T => ?_, (fun z => nomatch z)⟩
        simp only [e_aL_ref] at hx
        split at hx
        · rename_i e; simp only [isU, e]; all_goals (cases T <;> rfl)
        · cases hx
      | _ => simp [aL, mL] at hx
    obtain ⟨x1, x2, x3, x4⟩ := hl hx
    obtain ⟨y1, y2, y3, y4⟩ := hl hy
    refine e_fn_rt ?_
    refine Eq.trans ?_ (same_loop (n := n) x2 y2 x1 y1 e z fun i u t h1 h2 => same_ok (q i u t h1 h2))
    have n1 : ∀ {x : U}, x ≠ .non → (match x with | .non => true | _ => false) = false := fun {x} hx => by cases x <;> first | rfl | exact absurd rfl hx
    simp [e_seq, e_ifs, x3, y3, n1 y4]
end
end Q

set_option Elab.async false
set_option linter.all false
set_option maxRecDepth 100000
set_option maxHeartbeats 1000000
/-! N3: the laws' draws: _law_mix, _law_draws, _law_at. -/
namespace Q
open L2
noncomputable def mixS : Sem' := fnM 3 (mSeq (mAsg (.one 2) (mBin uMod (mCB uInt (aCons (mBin uAdd (mBin uAdd (mBin uMul (mCB uInt (aCons (mVar 0) aNil)) (mC (.int 48271))) (mBin uMul (mVar 1) (mC (.int 69621)))) (mC (.int 12345))) aNil)) (mC (.int 2147483647))))
    (mSeq (mAsg (.one 2) (mBin uMod (mCB uInt (aCons (mBin uAdd (mBin uAdd (mBin uMul (mVar 2) (mVar 2)) (mBin uMul (mVar 1) (mC (.int 40692)))) (mC (.int 1))) aNil)) (mC (.int 2147483399))))
    (mRet (mBin uMod (mBin uDiv (mVar 2) (mC (.int 5))) (mC (.int 9973))))))
noncomputable def drawsS : Sem' := fnM 5 (mSeq (mAsg (.one 1) (mLst aNil))
    (mSeq (mFor (itR1 (aCons (mCB uMin (aCons (mC (.int 63)) (aCons (mCB uLen (aCons (mVar 0) aNil)) aNil))) aNil)) (.one 2) (mSeq (mAsg (.one 3) (mCB uInt (aCons (mBin uIx (mVar 0) (mVar 2)) aNil)))
    (mIfS (bCmp cLt (mVar 3) (mBin uPow (mC (.int 10)) (mC (.int 18)))) (mDrop (mLM uApp (mVar 1) (aCons (mCall 2 mixS (aCons (mVar 3) (aCons (mVar 2) aNil))) aNil))) (mFor (itR1 (aCons (mC (.int 60)) aNil)) (.one 4) (mIfS (bCmp cGt (mVar 3) (mC (.int 0))) (mSeq (mDrop (mLM uApp (mVar 1) (aCons (mBin uMod (mCB uInt (aCons (mVar 3) aNil)) (mC (.int 9973))) aNil)))
    (mAsg (.one 3) (mBin uDiv (mVar 3) (mC (.int 9973))))) mNx)))))
    (mRet (mVar 1))))
noncomputable def atS : Sem' := fnM 2 (mSeq (mIfS (bCmp cLt (mVar 1) (mCB uLen (aCons (mVar 0) aNil))) (mRet (mBin uIx (mVar 0) (mVar 1))) mNx)
    (mSeq (mIfS (bCmp cEq (mCB uLen (aCons (mVar 0) aNil)) (mC (.int 0))) (mRet (mCall 2 mixS (aCons (mVar 1) (aCons (mC (.int 77)) aNil)))) mNx)
    (mRet (mCall 2 mixS (aCons (mBin uAdd (mBin uIx (mVar 0) (mBin uMod (mCB uInt (aCons (mVar 1) aNil)) (mCB uLen (aCons (mVar 0) aNil)))) (mBin uMul (mVar 1) (mC (.int 131)))) (aCons (mVar 1) aNil))))))
def mixF (c k : Int) : Int :=
  ((c * 48271 + k * 69621 + 12345) % 2147483647 * ((c * 48271 + k * 69621 + 12345) % 2147483647) + k * 40692 + 1) % 2147483399 / 5 % 9973
theorem mixF_bd (c k : Int) : 0 ≤ mixF c k ∧ mixF c k < 9973 := ⟨Int.emod_nonneg _ (by decide), Int.emod_lt_of_pos _ (by decide)⟩
@[simp] theorem mix_ok (h : Sto) (c k : Int) : mixS [.int c, .int k] h = .ok (.int (mixF c k)) h := by
  have h1 : 0 ≤ (c * 48271 + k * 69621 + 12345) % 2147483647 := Int.emod_nonneg _ (by decide)
  have h2 : (c * 48271 + k * 69621 + 12345) % 2147483647 < 2147483647 := Int.emod_lt_of_pos _ (by decide)
  have h3 : -18446744073709551616 < (c * 48271 + k * 69621 + 12345) % 2147483647 ∧ (c * 48271 + k * 69621 + 12345) % 2147483647 < 18446744073709551616 := by omega
  refine e_fn_rt ?_
  refine (e_seq_nx (h1 := h) (e := [some (.int c), some (.int k), some (.int ((c * 48271 + k * 69621 + 12345) % 2147483647))]) (by simp)).trans ?_
  refine (e_seq_nx (h1 := h) (e := [some (.int c), some (.int k), some (.int (((c * 48271 + k * 69621 + 12345) % 2147483647 * ((c * 48271 + k * 69621 + 12345) % 2147483647) + k * 40692 + 1) % 2147483399))]) (by simp [h3])).trans ?_
  simp [mixF]
/-- all draws are small -/
def Dr (vs : List Int) : Prop := ∀ v ∈ vs, 0 ≤ v ∧ v < 9973
theorem Dr.snoc {vs : List Int} {v : Int} (d : Dr vs) (h : 0 ≤ v ∧ v < 9973) : Dr (vs ++ [v]) := fun w hw => by
  rcases List.mem_append.mp hw with hw | hw
  · exact d w hw
  · rw [List.mem_singleton.mp hw]; exact h
theorem draws_ok (h : Sto) {ns : List Int} (hn : ns.length ≤ 63) : ∃ vs, drawsS [.kl (ns.map U.int)] h = .ok (.ref h.length) (h ++ [.lst (vs.map U.int)]) ∧ Dr vs ∧ vs.length ≤ 3780 := by
  obtain ⟨env', h', e1, P⟩ := for_rng (k := 2) (lo := 0) (n := ns.length) (env := [some (.kl (ns.map U.int)), some (.ref h.length), none, none, none]) (h := h ++ [.lst []]) (body := mSeq (mAsg (.one 3) (mCB uInt (aCons (mBin uIx (mVar 0) (mVar 2)) aNil)))
    (mIfS (bCmp cLt (mVar 3) (mBin uPow (mC (.int 10)) (mC (.int 18)))) (mDrop (mLM uApp (mVar 1) (aCons (mCall 2 mixS (aCons (mVar 3) (aCons (mVar 2) aNil))) aNil))) (mFor (itR1 (aCons (mC (.int 60)) aNil)) (.one 4) (mIfS (bCmp cGt (mVar 3) (mC (.int 0))) (mSeq (mDrop (mLM uApp (mVar 1) (aCons (mBin uMod (mCB uInt (aCons (mVar 3) aNil)) (mC (.int 9973))) aNil)))
    (mAsg (.one 3) (mBin uDiv (mVar 3) (mC (.int 9973))))) mNx))))
    (fun i env h' => ∃ vs x2 x3 x4, env = [some (.kl (ns.map U.int)), some (.ref h.length), x2, x3, x4] ∧ h' = h ++ [.lst (vs.map U.int)] ∧ Dr vs ∧ vs.length ≤ 60 * i) ⟨[], none, none, none, rfl, rfl, (fun _ z => nomatch z), Nat.zero_le _⟩ (by
      rintro i env h1 hi ⟨vs, x2, x3, x4, rfl, rfl, d, l⟩
      have hx : (ns.map U.int)[i]? = some (.int ns[i]) := by simp [hi]
      have ha : atI (ns.map U.int) (i : Int) = some (.int ns[i]) := atI_nat hx
      have hl : vs.length < 16000000 := by omega
      by_cases c : ns[i] < 10 ^ 18
      · have c2 : ns[i] < 1000000000000000000 := c
        refine ⟨[some (.kl (ns.map U.int)), some (.ref h.length), some (.int (0 + (i : Nat))), some (.int ns[i]), x4], h ++ [.lst ((vs ++ [mixF ns[i] i]).map U.int)], .inl ?_, _, _, _, _, rfl, rfl, d.snoc (mixF_bd _ _), by simp; omega⟩
        refine (e_seq_nx (h1 := h ++ [.lst (vs.map U.int)]) (e := [some (.kl (ns.map U.int)), some (.ref h.length), some (.int (0 + (i : Nat))), some (.int ns[i]), x4]) (by simp [ha])).trans ?_
        simp [e_ifs, c2, hl]
      · have c2 : ¬ ns[i] < 1000000000000000000 := c
        obtain ⟨env', h', e2, ws, y3, y4, rfl, rfl, d2, l2⟩ := for_rng (k := 4) (lo := 0) (n := 60) (env := [some (.kl (ns.map U.int)), some (.ref h.length), some (.int (0 + (i : Nat))), some (.int ns[i]), x4]) (h := h ++ [.lst (vs.map U.int)]) (body := (mIfS (bCmp cGt (mVar 3) (mC (.int 0))) (mSeq (mDrop (mLM uApp (mVar 1) (aCons (mBin uMod (mCB uInt (aCons (mVar 3) aNil)) (mC (.int 9973))) aNil)))
          (mAsg (.one 3) (mBin uDiv (mVar 3) (mC (.int 9973))))) mNx))
          (fun j env h' => ∃ ws y3 y4, env = [some (.kl (ns.map U.int)), some (.ref h.length), some (.int (0 + (i : Nat))), some (.int y3), y4] ∧ h' = h ++ [.lst (ws.map U.int)] ∧ Dr ws ∧ ws.length ≤ 60 * i + j) ⟨vs, _, _, rfl, rfl, d, by omega⟩ (by
            rintro j env h2 hj ⟨ws, y3, y4, rfl, rfl, d2, l2⟩
            have hl : ws.length < 16000000 := by omega
            by_cases c3 : 0 < y3
            · refine ⟨[some (.kl (ns.map U.int)), some (.ref h.length), some (.int (0 + (i : Nat))), some (.int (y3 / 9973)), some (.int (0 + (j : Nat)))], h ++ [.lst ((ws ++ [y3 % 9973]).map U.int)], .inl ?_, _, _, _, rfl, rfl, d2.snoc ⟨Int.emod_nonneg _ (by decide), Int.emod_lt_of_pos _ (by decide)⟩, by simp; omega⟩
              simp [e_seq, e_ifs, c3, hl]
            · refine ⟨[some (.kl (ns.map U.int)), some (.ref h.length), some (.int (0 + (i : Nat))), some (.int y3), some (.int (0 + (j : Nat)))], h ++ [.lst (ws.map U.int)], .inl ?_, _, _, _, rfl, rfl, d2, by omega⟩
              simp [e_ifs, c3])
        refine ⟨[some (.kl (ns.map U.int)), some (.ref h.length), some (.int (0 + (i : Nat))), some (.int y3), y4], h ++ [.lst (ws.map U.int)], .inl ?_, _, _, _, _, rfl, rfl, d2, by omega⟩
        refine (e_seq_nx (h1 := h ++ [.lst (vs.map U.int)]) (e := [some (.kl (ns.map U.int)), some (.ref h.length), some (.int (0 + (i : Nat))), some (.int ns[i]), x4]) (by simp [ha])).trans ?_
        refine (e_ifs' (b := false) (h1 := h ++ [.lst (vs.map U.int)]) (by simp [c2])).trans ?_
        rw [if_neg (by decide)]
        exact (e_for (c := []) (us := rng 0 60) (h1 := h ++ [.lst (vs.map U.int)]) (by simp)).trans e2)
  obtain ⟨vs, x2, x3, x4, rfl, rfl, d, l⟩ := P
  refine ⟨vs, ?_, d, by omega⟩
  have hm : (if (ns.length : Int) < 63 then (ns.length : Int) else 63) = ns.length := by split <;> omega
  have hz : -1000000000 ≤ (ns.length : Int) ∧ (ns.length : Int) ≤ 1000000000 := by omega
  refine e_fn_rt ?_
  refine (e_seq_nx (h1 := h ++ [.lst []]) (e := [some (.kl (ns.map U.int)), some (.ref h.length), none, none, none]) (by rfl)).trans ?_
  refine (e_seq_nx (h1 := h ++ [.lst (vs.map U.int)]) (e := _) ((e_for (c := []) (us := rng 0 ns.length) (h1 := h ++ [.lst []]) (by simp [hm, hz])).trans e1)).trans ?_
  rfl
/-- what _law_at gives -/
noncomputable def atF (vs : List Int) (i : Int) : Int :=
  if i < vs.length then vs.getD i.toNat 0 else if vs = [] then mixF i 77 else mixF (vs.getD (i % vs.length).toNat 0 + i * 131) i
theorem dr_get {vs : List Int} (d : Dr vs) {i : Nat} (hi : i < vs.length) : 0 ≤ vs.getD i 0 ∧ vs.getD i 0 < 9973 := by
  rw [List.getD_eq_getElem?_getD, List.getElem?_eq_getElem hi]
  exact d _ (List.getElem_mem hi)
theorem atF_bd {vs : List Int} (d : Dr vs) {i : Int} (h0 : 0 ≤ i) : 0 ≤ atF vs i ∧ atF vs i < 9973 := by
  unfold atF
  split
  · exact dr_get d (by omega)
  · split
    · exact mixF_bd _ _
    · exact mixF_bd _ _
theorem at_ok' {h : Sto} {x : U} {vs : List Int} (hx : aL h x = some (vs.map U.int)) {i : Int} (h0 : 0 ≤ i) :
    atS [x, .int i] h = .ok (.int (atF vs i)) h := by
  have hl : (∀ i : Int, uIx x (.int i) h = oR (atI (vs.map U.int) i) h) ∧ uLen [x] h = .ok (.int vs.length) h := by
    cases x with
    | fl us => cases hx; exact ⟨fun i => rfl, by simp⟩
    | kl us => cases hx; exact ⟨fun i => rfl, by simp⟩
    | ref n =>
      simp only [e_aL_ref] at hx
      split at hx
      · rename_i e
        cases hx
        exact ⟨fun i => by simp [e], by simp [e]⟩
      · cases hx
    | _ => simp [aL, mL] at hx
  obtain ⟨ix, ln⟩ := hl
  refine e_fn_rt ?_
  by_cases c : i < vs.length
  · have hg : atI (vs.map U.int) i = some (.int (vs.getD i.toNat 0)) := at_ok h0 (by
      have hi : i.toNat < vs.length := by omega
      rw [List.getElem?_map, List.getD_eq_getElem?_getD, List.getElem?_eq_getElem hi]; rfl)
    refine (e_seq_rt (h1 := h) (u := .int (atF vs i)) ?_)
    simp [e_ifs, ix, ln, c, hg, atF]
  · refine (e_seq_nx (h1 := h) (e := [some x, some (.int i)]) (by simp [e_ifs, ln, c])).trans ?_
    by_cases z : vs = []
    · refine (e_seq_rt (h1 := h) (u := .int (atF vs i)) ?_)
      subst z
      simp at ln c
      simp [e_ifs, ln, atF]
      intro q; omega
    · have hp : 0 < vs.length := List.length_pos_iff.mpr z
      have hp2 : (0 : Int) < vs.length := by omega
      have hm : 0 ≤ i % vs.length ∧ i % vs.length < vs.length := ⟨Int.emod_nonneg _ (by omega), Int.emod_lt_of_pos _ hp2⟩
      have hg : atI (vs.map U.int) (i % vs.length) = some (.int (vs.getD (i % vs.length).toNat 0)) := at_ok hm.1 (by
        have hi : (i % vs.length).toNat < vs.length := by omega
        rw [List.getElem?_map, List.getD_eq_getElem?_getD, List.getElem?_eq_getElem hi]; rfl)
      refine (e_seq_nx (h1 := h) (e := [some x, some (.int i)]) (by simp [e_ifs, ln, z])).trans ?_
      simp [ln, ix, hg, hp2, hp, atF, c, z]
end Q

set_option Elab.async false
set_option linter.all false
set_option maxRecDepth 100000
set_option maxHeartbeats 1000000
/-! N4: the laws' own comparison _law_same(actual, expected), lists first. -/
namespace Q
open L2
noncomputable def isIntS : Sem' := fnM 1 (mRet (mAnd (mB (bIs .int (mVar 0))) (mNot (mB (bIs .bool (mVar 0))))))
noncomputable def sameT : Nat → Sem'
  | 0 => fun _ _ => .bad
  | n + 1 => fnM 3 (mSeq (mIfS (bIs2 .list .tuple (mVar 1)) (mSeq (mIfS (bOr (bCmp cNe (mB (bIs .list (mVar 1))) (mB (bIs .list (mVar 0)))) (bCmp cNe (mB (bIs .tuple (mVar 1))) (mB (bIs .tuple (mVar 0))))) (mRet (mC (.bl false))) mNx)
    (mSeq (mIfS (bCmp cNe (mCB uLen (aCons (mVar 0) aNil)) (mCB uLen (aCons (mVar 1) aNil))) (mRet (mC (.bl false))) mNx)
    (mSeq (mFor (itR1 (aCons (mCB uLen (aCons (mVar 1) aNil)) aNil)) (.one 2) (mIfS (bNot (bTru (mCall 2 (sameT n) (aCons (mBin uIx (mVar 0) (mVar 2)) (aCons (mBin uIx (mVar 1) (mVar 2)) aNil))))) (mRet (mC (.bl false))) mNx))
    (mRet (mC (.bl true)))))) mNx)
    (mSeq (mIfS (bCmp cIs (mVar 1) (mC .non)) (mRet (mB (bCmp cIs (mVar 0) (mC .non)))) mNx)
    (mSeq (mIfS (bIs .bool (mVar 1)) (mRet (mAnd (mB (bIs .bool (mVar 0))) (mB (bCmp cEq (mVar 0) (mVar 1))))) mNx)
    (mSeq (mIfS (bIs .int (mVar 1)) (mRet (mAnd (mCall 1 isIntS (aCons (mVar 0) aNil)) (mB (bCmp cEq (mVar 0) (mVar 1))))) mNx)
    (mRet (mAnd (mB (bIs .str (mVar 0))) (mB (bCmp cEq (mVar 0) (mVar 1)))))))))
section
variable {h : Sto}
theorem sameT_loop {n : Nat} {x y : U} {us ts : List U} {m : SM} {b1 b2 : Bool} (hx : sL h x = some us) (hy : sL h y = some ts) (nx : ∀ s, x ≠ .str s) (ny : ∀ s, y ≠ .str s) (e : us.length = ts.length) (z : us.length ≤ 1000000) (ih : ∀ (i : Nat) (u t : U), us[i]? = some u → ts[i]? = some t → sameT n [u, t] h = .ok (.bl true) h)
    (i1 : isU .list h y = some b1) (i2 : isU .tuple h y = some b2) (i3 : isU .list h x = some b1) (i4 : isU .tuple h x = some b2) (b12 : (b1 || b2) = true) :
    mSeq (mIfS (bIs2 .list .tuple (mVar 1)) (mSeq (mIfS (bOr (bCmp cNe (mB (bIs .list (mVar 1))) (mB (bIs .list (mVar 0)))) (bCmp cNe (mB (bIs .tuple (mVar 1))) (mB (bIs .tuple (mVar 0))))) (mRet (mC (.bl false))) mNx)
    (mSeq (mIfS (bCmp cNe (mCB uLen (aCons (mVar 0) aNil)) (mCB uLen (aCons (mVar 1) aNil))) (mRet (mC (.bl false))) mNx)
    (mSeq (mFor (itR1 (aCons (mCB uLen (aCons (mVar 1) aNil)) aNil)) (.one 2) (mIfS (bNot (bTru (mCall 2 (sameT n) (aCons (mBin uIx (mVar 0) (mVar 2)) (aCons (mBin uIx (mVar 1) (mVar 2)) aNil))))) (mRet (mC (.bl false))) mNx))
    (mRet (mC (.bl true)))))) mNx) m [some x, some y, none] h = .rt (.bl true) h := by
  have lx : uLen [x] h = .ok (.int us.length) h := by
    cases x with
    | str s => exact absurd rfl (nx s)
    | _ => simp only [uLen]; rw [hx]
  have ly : uLen [y] h = .ok (.int ts.length) h := by
    cases y with
    | str s => exact absurd rfl (ny s)
    | _ => simp only [uLen]; rw [hy]
  have ix : ∀ {x : U} {us : List U} (i : Nat) (u : U), (∀ s, x ≠ .str s) → sL h x = some us → us[i]? = some u → uIx x (.int (i : Nat)) h = .ok u h := by
    intro x us i u nx hx hu
    cases x with
    | str s => exact absurd rfl (nx s)
    | _ => simp only [uIx]; rw [hx]; simp only; rw [atI_nat hu]; rfl
  refine e_seq_rt ?_
  refine (e_ifs' (b := true) (h1 := h) (by simp [i1, i2, b12])).trans ?_
  rw [if_pos rfl]
  refine (e_seq_nx (h1 := h) (e := [some x, some y, none]) (by simp [e_ifs, i1, i2, i3, i4])).trans ?_
  refine (e_seq_nx (h1 := h) (e := [some x, some y, none]) (by simp [e_ifs, lx, ly, e])).trans ?_
  obtain ⟨env', h', e1, P⟩ := for_rng (k := 2) (lo := 0) (n := ts.length) (env := [some x, some y, none]) (h := h) (body := mIfS (bNot (bTru (mCall 2 (sameT n) (aCons (mBin uIx (mVar 0) (mVar 2)) (aCons (mBin uIx (mVar 1) (mVar 2)) aNil))))) (mRet (mC (.bl false))) mNx)
    (fun i env h' => ∃ e2, env = [some x, some y, e2] ∧ h' = h) ⟨none, rfl, rfl⟩ (by
      rintro i env h1 hi ⟨e2, rfl, rfl⟩
      have g1 : us[i]? = some us[i] := List.getElem?_eq_getElem (by omega)
      have g2 : ts[i]? = some ts[i] := List.getElem?_eq_getElem hi
      have a1 := ix i _ nx hx g1
      have a2 := ix i _ ny hy g2
      have a3 := ih i _ _ g1 g2
      refine ⟨_, h1, .inl ?_, some (.int (0 + (i : Nat))), rfl, rfl⟩
      simp [e_ifs, a1, a2, a3])
  obtain ⟨e2, rfl, rfl⟩ := P
  have hz : -1000000000 ≤ (ts.length : Int) ∧ (ts.length : Int) ≤ 1000000000 := by omega
  refine (e_seq_nx (h1 := h') (e := [some x, some y, e2]) ((e_for (c := []) (us := rng 0 ts.length) (h1 := h') (by simp [ly, hz])).trans e1)).trans ?_
  rfl
theorem sameT_ok : ∀ {n : Nat} {x y : U}, Alike h n x y → sameT n [x, y] h = .ok (.bl true) h
  | _, _, _, .non => by refine e_fn_rt ?_; simp [e_seq, e_ifs, isU]
  | _, _, _, .bl b => by refine e_fn_rt ?_; simp [e_seq, e_ifs, isU]
  | _, _, _, .int b => by
    have q : isIntS [.int b] h = .ok (.bl true) h := by refine e_fn_rt ?_; simp [isU]
    refine e_fn_rt ?_; simp [e_seq, e_ifs, isU, q]
  | _, _, _, .str b => by refine e_fn_rt ?_; simp [e_seq, e_ifs, isU]
  | n + 1, .tup us, .tup ts, .tup e z q => by
    refine e_fn_rt ?_
    exact sameT_loop (n := n) (x := .tup us) (y := .tup ts) rfl rfl (fun _ z => by cases z) (fun _ z => by cases z) e z (fun i u t h1 h2 => sameT_ok (q i u t h1 h2)) rfl rfl rfl rfl rfl
  | n + 1, x, y, .lst (us := us) (ts := ts) hx hy e z q => by
    have hl : ∀ {x : U} {us : List U}, aL h x = some us → (∀ s, x ≠ .str s) ∧ sL h x = some us ∧ (∀ T, isU T h x = some (match T with | .list => true | _ => false)) := by
      intro x us hx
      cases x with
      | fl s => exact ⟨(fun _ z => nomatch z), hx, fun T => rfl⟩
      | kl s => exact ⟨(fun _ z => nomatch z), hx, fun T => rfl⟩
      | ref n =>
        refine ⟨(fun _ z => nomatch z), hx, fun T => ?_⟩
        simp only [e_aL_ref] at hx
        split at hx
        · rename_i e; simp only [isU, e]; all_goals (cases T <;> rfl)
        · cases hx
      | _ => simp [aL, mL] at hx
    obtain ⟨x1, x2, x3⟩ := hl hx
    obtain ⟨y1, y2, y3⟩ := hl hy
    refine e_fn_rt ?_
    exact sameT_loop (n := n) x2 y2 x1 y1 e z (fun i u t h1 h2 => sameT_ok (q i u t h1 h2)) (y3 _) (y3 _) (x3 _) (x3 _) rfl
theorem sameT_int (h : Sto) (n : Nat) (i : Int) : sameT (n + 1) [.int i, .int i] h = .ok (.bl true) h := sameT_ok (.int i)
theorem sameT_bl (h : Sto) (n : Nat) (i : Bool) : sameT (n + 1) [.bl i, .bl i] h = .ok (.bl true) h := sameT_ok (.bl i)
theorem sameT_str (h : Sto) (n : Nat) (i : List Nat) : sameT (n + 1) [.str i, .str i] h = .ok (.bl true) h := sameT_ok (.str i)
end
end Q

set_option Elab.async false
set_option linter.all false
set_option maxRecDepth 100000
set_option maxHeartbeats 1000000
/-! N5: slices, comprehensions by an invariant, stores that grow. -/
namespace Q
open L2
theorem cut_to {α : Type} {us : List α} {i : Int} (h0 : 0 ≤ i) : cut us none (some i) = us.take i.toNat := by
  unfold cut HT.sIx
  simp only [List.drop_zero, Nat.sub_zero]
  rw [if_neg (by omega)]
  by_cases h : i.toNat ≤ us.length
  · rw [Nat.min_eq_left h]
  · rw [Nat.min_eq_right (by omega), List.take_of_length_le (Nat.le_refl _), List.take_of_length_le (by omega)]
theorem cut_from {α : Type} {us : List α} {i : Int} (h0 : 0 ≤ i) : cut us (some i) none = us.drop i.toNat := by
  unfold cut HT.sIx
  simp only []
  rw [if_neg (by omega)]
  by_cases h : i.toNat ≤ us.length
  · rw [Nat.min_eq_left h, List.take_of_length_le (by simp)]
  · rw [Nat.min_eq_right (by omega), List.drop_of_length_le (Nat.le_refl _), List.drop_of_length_le (by omega)]; simp
@[simp] theorem cut_toN {α : Type} {us : List α} {i : Nat} : cut us none (some (i : Int)) = us.take i := by
  rw [cut_to (by omega)]; rfl
@[simp] theorem cut_fromN {α : Type} {us : List α} {i : Nat} : cut us (some (i : Int)) none = us.drop i := by
  rw [cut_from (by omega)]; rfl
theorem e_lc {mi : IM'} {ct : CT} {t : TM} {me : EM} {vs : List Nat} {env : Env'} {h : Sto} : mLc mi ct t me vs env h = (mi env h).bind fun z h1 => lcL z.1 ct t me h1.length (wipeE env vs) z.2 (h1 ++ [.lst []]) := rfl
@[simp] theorem e_gct_lst {is : List Nat} {env : Env'} {h : Sto} {u : U} : gCT (.lst is) u env h = match mL h u with | some us => (if us.length = is.length then .nx (setA env is us) h else .bad) | none => .bad := by
  unfold gCT CT.asg
  cases mL h u with
  | none => rfl
  | some us =>
    simp only
    by_cases z : us.length = is.length
    · rw [if_pos z, if_pos z]
    · rw [if_neg z, if_neg z]
/-- a pure comprehension -/
theorem lc_pure {mi : IM'} {c : Chk} {us : List U} {h1 : Sto} {k : CT} {me : EM} {vs : List Nat} {env : Env'} {h : Sto} (f : U → U) (q : mi env h = .ok (c, us) h1) (ck : ∀ o, chkOk c (h1 ++ [o])) (z : us.length < 16000000)
    (hm : ∀ u ∈ us, ∀ h', (∀ i < h1.length, h'[i]? = h1[i]?) → ∃ env1, k.asg u (wipeE env vs) h' = some env1 ∧ me env1 h' = .ok (f u) h') : mLc mi k bYes me vs env h = .ok (.ref h1.length) (h1 ++ [.lst (us.map f)]) := by
  rw [e_lc, q, e_bind_ok]
  show lcL c k bYes me h1.length (wipeE env vs) us (h1 ++ [.lst []]) = _
  refine (e_lcL (c := c) (k := k) (me := me) (n := h1.length) (e0 := wipeE env vs) (f := f) us [] (h1 ++ [O.lst []]) (fun o => by rw [st_set]; exact ck o) (by simp) (by simpa using z) (fun u hu h' hh => hm u hu h' fun i hi => by rw [hh i (by omega), List.getElem?_append_left hi])).trans ?_
  rw [st_set]
  rfl
/-- a comprehension whose parts change the store -/
theorem lc_inv {c : Chk} {k : CT} {me : EM} {n : Nat} {e0 : Env'} (P : Nat → List U → Sto → Prop) : ∀ (us : List U) {j : Nat} {acc : List U} {h : Sto}, P j acc h → h[n]? = some (.lst acc) → acc.length + us.length < 16000000 →
    (∀ i u acc h, us[i]? = some u → P (j + i) acc h → h[n]? = some (.lst acc) → chkOk c h ∧ ∃ env1 v h1, k.asg u e0 h = some env1 ∧ me env1 h = .ok v h1 ∧ h1[n]? = some (.lst acc) ∧ P (j + i + 1) (acc ++ [v]) (h1.set n (.lst (acc ++ [v])))) →
    (∀ acc h, P (j + us.length) acc h → h[n]? = some (.lst acc) → chkOk c h) →
    ∃ acc' h', lcL c k bYes me n e0 us h = .ok (.ref n) h' ∧ h'[n]? = some (.lst acc') ∧ P (j + us.length) acc' h'
  | [], j, acc, h, h0, hn, hz, st, ck => by
    refine ⟨acc, h, ?_, hn, h0⟩
    unfold lcL
    rw [if_pos (ck acc h h0 hn)]
  | u :: us, j, acc, h, h0, hn, hz, st, ck => by
    obtain ⟨ck1, env1, v, h1, e1, e2, hn1, p⟩ := st 0 u acc h rfl h0 hn
    have el : j + (u :: us).length = j + 1 + us.length := by simp; omega
    have hl : n < h1.length := (List.getElem?_eq_some_iff.mp hn1).1
    have ih := lc_inv P us (j := j + 1) (acc := acc ++ [v]) (h := h1.set n (.lst (acc ++ [v]))) p (List.getElem?_set_self hl) (by simp at hz ⊢; omega) (fun i u acc h hu p hn => by
      have := st (i + 1) u acc h (by simpa using hu) (by rw [show j + (i + 1) = j + 1 + i by omega]; exact p) hn
      rw [show j + (i + 1) = j + 1 + i by omega] at this
      exact this) (fun acc h p hn => ck acc h (by rw [el]; exact p) hn)
    rw [el]
    unfold lcL
    rw [if_pos ck1, e1]
    simp only [e_yes, e_bind_ok, if_true, e2, hn1]
    rw [if_pos (by simp at hz; omega)]
    exact ih
/-- the store grew at its end -/
def Ext (h h' : Sto) : Prop := ∃ l, h' = h ++ l
theorem Ext.refl (h : Sto) : Ext h h := ⟨[], by simp⟩
theorem Ext.trans {a b c : Sto} : Ext a b → Ext b c → Ext a c
  | ⟨l, e⟩, ⟨m, f⟩ => ⟨l ++ m, by rw [f, e, List.append_assoc]⟩
theorem Ext.app (h l : Sto) : Ext h (h ++ l) := ⟨l, rfl⟩
theorem Ext.len {h h' : Sto} : Ext h h' → h.length ≤ h'.length
  | ⟨l, e⟩ => by rw [e]; simp
theorem Ext.get {h h' : Sto} {n : Nat} {o : O} (e : Ext h h') (q : h[n]? = some o) : h'[n]? = some o := by
  obtain ⟨l, rfl⟩ := e
  rw [List.getElem?_append_left (List.getElem?_eq_some_iff.mp q).1, q]
theorem Ext.set {h h' : Sto} {n : Nat} {o : O} (e : Ext h h') (q : h.length ≤ n) : Ext h (h'.set n o) := by
  obtain ⟨l, rfl⟩ := e
  exact ⟨l.set (n - h.length) o, List.set_append_right _ _ q⟩
theorem take_succ' {α : Type} {l : List α} {i : Nat} (h : i < l.length) : l.take (i + 1) = l.take i ++ [l[i]] := by
  rw [List.take_add_one, List.getElem?_eq_getElem h]; rfl
theorem for_rng0 {k : Nat} {body : SM} {n : Nat} {env : Env'} {h : Sto} (P : Nat → Env' → Sto → Prop) (h0 : P 0 env h)
    (st : ∀ i env h, i < n → P i env h → ∃ env' h', (body (env.set k (some (.int (i : Nat)))) h = .nx env' h' ∨ body (env.set k (some (.int (i : Nat)))) h = .ct env' h') ∧ P (i + 1) env' h') :
    ∃ env' h', forL [] (.one k) body (rng 0 n) env h = .nx env' h' ∧ P n env' h' :=
  for_rng P h0 fun i env h hi p => by rw [Int.zero_add]; exact st i env h hi p
end Q

set_option Elab.async false
set_option linter.all false
set_option maxRecDepth 100000
set_option maxHeartbeats 4000000
namespace LAW
open PySem PySem.Spec PyProof.Rows L2 TL Q
noncomputable def m_File__init__ (cc : Nat → Nat) : Sem' := fnM 1 (mSeq (mSetF [cc 0] "_lasting" (mVar 0) (mLst aNil))
    (mSetF [cc 0] "_steps" (mVar 0) (mLst aNil)))
noncomputable def m_applied (cc : Nat → Nat) : Sem' := fnM 5 (mSeq (mAsg (.one 2) (mCB uList (aCons (mVar 0) aNil)))
    (mSeq (mFor (itE (mVar 1)) (.tup [3, 4]) (mIfS (bCmp cEq (mVar 3) (mC (.str [97, 112, 112, 101, 110, 100]))) (mDrop (mLM uApp (mVar 2) (aCons (mVar 4) aNil))) (mAsg (.one 2) (mSl (mVar 2) oNone (oSome (mVar 4))))))
    (mRet (mVar 2))))
noncomputable def m_File_lose (cc : Nat → Nat) : Sem' := fnM 2 (mSeq (mSetF [cc 0] "_lasting" (mVar 0) (mCall 2 (m_applied cc) (aCons (mFld [cc 0] "_lasting" (mVar 0)) (aCons (mSl (mFld [cc 0] "_steps" (mVar 0)) oNone (oSome (mVar 1))) aNil))))
    (mSetF [cc 0] "_steps" (mVar 0) (mLst aNil)))
noncomputable def m_law_mix (cc : Nat → Nat) : Sem' := fnM 3 (mSeq (mAsg (.one 2) (mBin uMod (mCB uInt (aCons (mBin uAdd (mBin uAdd (mBin uMul (mCB uInt (aCons (mVar 0) aNil)) (mC (.int 48271))) (mBin uMul (mVar 1) (mC (.int 69621)))) (mC (.int 12345))) aNil)) (mC (.int 2147483647))))
    (mSeq (mAsg (.one 2) (mBin uMod (mCB uInt (aCons (mBin uAdd (mBin uAdd (mBin uMul (mVar 2) (mVar 2)) (mBin uMul (mVar 1) (mC (.int 40692)))) (mC (.int 1))) aNil)) (mC (.int 2147483399))))
    (mRet (mBin uMod (mBin uDiv (mVar 2) (mC (.int 5))) (mC (.int 9973))))))
noncomputable def m_law_draws (cc : Nat → Nat) : Sem' := fnM 5 (mSeq (mAsg (.one 1) (mLst aNil))
    (mSeq (mFor (itR1 (aCons (mCB uMin (aCons (mC (.int 63)) (aCons (mCB uLen (aCons (mVar 0) aNil)) aNil))) aNil)) (.one 2) (mSeq (mAsg (.one 3) (mCB uInt (aCons (mBin uIx (mVar 0) (mVar 2)) aNil)))
    (mIfS (bCmp cLt (mVar 3) (mBin uPow (mC (.int 10)) (mC (.int 18)))) (mDrop (mLM uApp (mVar 1) (aCons (mCall 2 (m_law_mix cc) (aCons (mVar 3) (aCons (mVar 2) aNil))) aNil))) (mFor (itR1 (aCons (mC (.int 60)) aNil)) (.one 4) (mIfS (bCmp cGt (mVar 3) (mC (.int 0))) (mSeq (mDrop (mLM uApp (mVar 1) (aCons (mBin uMod (mCB uInt (aCons (mVar 3) aNil)) (mC (.int 9973))) aNil)))
    (mAsg (.one 3) (mBin uDiv (mVar 3) (mC (.int 9973))))) mNx)))))
    (mRet (mVar 1))))
noncomputable def m_law_at (cc : Nat → Nat) : Sem' := fnM 2 (mSeq (mIfS (bCmp cLt (mVar 1) (mCB uLen (aCons (mVar 0) aNil))) (mRet (mBin uIx (mVar 0) (mVar 1))) mNx)
    (mSeq (mIfS (bCmp cEq (mCB uLen (aCons (mVar 0) aNil)) (mC (.int 0))) (mRet (mCall 2 (m_law_mix cc) (aCons (mVar 1) (aCons (mC (.int 77)) aNil)))) mNx)
    (mRet (mCall 2 (m_law_mix cc) (aCons (mBin uAdd (mBin uIx (mVar 0) (mBin uMod (mCB uInt (aCons (mVar 1) aNil)) (mCB uLen (aCons (mVar 0) aNil)))) (mBin uMul (mVar 1) (mC (.int 131)))) (aCons (mVar 1) aNil))))))
noncomputable def m_law_next (cc : Nat → Nat) : Sem' := fnM 2 (mSeq (mAugI uIxL uIAdd uSetL (mVar 0) (mC (.int 1)) (mC (.int 1)))
    (mRet (mBin uMod (mCall 2 (m_law_at cc) (aCons (mBin uIx (mVar 0) (mC (.int 0))) (aCons (mBin uIx (mVar 0) (mC (.int 1))) aNil))) (mVar 1))))
noncomputable def m_File_write (cc : Nat → Nat) : Sem' := fnM 5 (mSeq (mAsg (.one 3) (mIf (bCmp cIs (mVar 2) (mC .non)) (mCB uLen (aCons (mVar 1) aNil)) (mCB uMin (aCons (mVar 2) (aCons (mCB uLen (aCons (mVar 1) aNil)) aNil)))))
    (mSeq (mDrop (mLM uExt (mFld [cc 0] "_steps" (mVar 0)) (aCons (mLc (itE (mSl (mVar 1) oNone (oSome (mVar 3)))) (.one 4) bYes (mTup (aCons (mC (.str [97, 112, 112, 101, 110, 100])) (aCons (mVar 4) aNil))) [4]) aNil)))
    (mRet (mVar 3))))
noncomputable def m_File_shorten (cc : Nat → Nat) : Sem' := fnM 3 (mSeq (mIfS (bCmp cEq (mVar 2) (mC (.int 0))) (mRet (mC (.int 0))) mNx)
    (mSeq (mDrop (mLM uApp (mFld [cc 0] "_steps" (mVar 0)) (aCons (mTup (aCons (mC (.str [116, 114, 117, 110, 99, 97, 116, 101])) (aCons (mVar 1) aNil))) aNil)))
    (mRet (mC (.int 1)))))
noncomputable def m_File_flush (cc : Nat → Nat) : Sem' := fnM 2 (mSeq (mIfS (bCmp cEq (mVar 1) (mC (.int 0))) (mRet (mC (.int 0))) mNx)
    (mSeq (mDrop (mMeth (cc 0) "lose" 2 (m_File_lose cc) (mVar 0) (aCons (mCB uLen (aCons (mFld [cc 0] "_steps" (mVar 0)) aNil)) aNil)))
    (mRet (mC (.int 1)))))
noncomputable def m_law_after (cc : Nat → Nat) : Sem' := fnM 4 (mSeq (mAsg (.one 0) (mCB uList (aCons (mVar 0) aNil)))
    (mSeq (mFor (itE (mVar 1)) (.tup [2, 3]) (mIfS (bCmp cEq (mVar 2) (mC (.int 0))) (mDrop (mLM uApp (mVar 0) (aCons (mVar 3) aNil))) (mAsg (.one 0) (mSl (mVar 0) oNone (oSome (mVar 3))))))
    (mRet (mVar 0))))
noncomputable def m_law_is_integer (cc : Nat → Nat) : Sem' := fnM 1 (mRet (mAnd (mB (bIs .int (mVar 0))) (mNot (mB (bIs .bool (mVar 0))))))
noncomputable def m_law_same (cc : Nat → Nat) : Nat → Sem'
  | 0 => fun _ _ => .bad
  | n + 1 => fnM 3 (mSeq (mIfS (bIs2 .list .tuple (mVar 1)) (mSeq (mIfS (bOr (bCmp cNe (mB (bIs .list (mVar 1))) (mB (bIs .list (mVar 0)))) (bCmp cNe (mB (bIs .tuple (mVar 1))) (mB (bIs .tuple (mVar 0))))) (mRet (mC (.bl false))) mNx)
    (mSeq (mIfS (bCmp cNe (mCB uLen (aCons (mVar 0) aNil)) (mCB uLen (aCons (mVar 1) aNil))) (mRet (mC (.bl false))) mNx)
    (mSeq (mFor (itR1 (aCons (mCB uLen (aCons (mVar 1) aNil)) aNil)) (.one 2) (mIfS (bNot (bTru (mCall 2 (m_law_same cc n) (aCons (mBin uIx (mVar 0) (mVar 2)) (aCons (mBin uIx (mVar 1) (mVar 2)) aNil))))) (mRet (mC (.bl false))) mNx))
    (mRet (mC (.bl true)))))) mNx)
    (mSeq (mIfS (bCmp cIs (mVar 1) (mC .non)) (mRet (mB (bCmp cIs (mVar 0) (mC .non)))) mNx)
    (mSeq (mIfS (bIs .bool (mVar 1)) (mRet (mAnd (mB (bIs .bool (mVar 0))) (mB (bCmp cEq (mVar 0) (mVar 1))))) mNx)
    (mSeq (mIfS (bIs .int (mVar 1)) (mRet (mAnd (mCall 1 (m_law_is_integer cc) (aCons (mVar 0) aNil)) (mB (bCmp cEq (mVar 0) (mVar 1))))) mNx)
    (mRet (mAnd (mB (bIs .str (mVar 0))) (mB (bCmp cEq (mVar 0) (mVar 1)))))))))
noncomputable def m_law_deed (cc : Nat → Nat) : Sem' := fnM 13 (mSeq (mAsg (.one 4) (mCall 2 (m_law_next cc) (aCons (mVar 0) (aCons (mC (.int 8)) aNil))))
    (mSeq (mAsg (.one 5) (mC .non))
    (mSeq (mIfS (bCmp cEq (mCall 2 (m_law_next cc) (aCons (mVar 0) (aCons (mC (.int 3)) aNil))) (mC (.int 0))) (mAsg (.one 5) (mCall 2 (m_law_next cc) (aCons (mVar 0) (aCons (mC (.int 7)) aNil)))) mNx)
    (mSeq (mIfS (bCmp cLt (mVar 4) (mC (.int 3))) (mSeq (mAsg (.one 6) (mLc (itR1 (aCons (mCall 2 (m_law_next cc) (aCons (mVar 0) (aCons (mC (.int 10)) aNil))) aNil)) (.one 10) bYes (mCall 2 (m_law_next cc) (aCons (mVar 0) (aCons (mC (.int 256)) aNil))) [10]))
    (mSeq (mAsg (.one 7) (mCB uLen (aCons (mVar 6) aNil)))
    (mSeq (mIfS (bCmp cIsN (mVar 5) (mC .non)) (mAsg (.one 7) (mCB uMin (aCons (mVar 7) (aCons (mVar 5) aNil)))) mNx)
    (mSeq (mAsg (.one 8) (mCB uList (aCons (mVar 6) aNil)))
    (mSeq (mAsg (.one 9) (mMeth (cc 0) "write" 3 (m_File_write cc) (mVar 1) (aCons (mVar 8) (aCons (mVar 5) aNil))))
    (mSeq (mDrop (mLM uApp (mVar 8) (aCons (mC (.int 9)) aNil)))
    (mRet (mLst (aCons (mCall 2 (m_law_same cc 2) (aCons (mVar 9) (aCons (mVar 7) aNil))) (aCons (mVar 2) (aCons (mBin uAdd (mVar 3) (mLc (itE (mSl (mVar 6) oNone (oSome (mVar 7)))) (.one 11) bYes (mTup (aCons (mC (.int 0)) (aCons (mVar 11) aNil))) [11])) aNil))))))))))) mNx)
    (mSeq (mIfS (bCmp cLt (mVar 4) (mC (.int 5))) (mSeq (mAsg (.one 12) (mCall 2 (m_law_next cc) (aCons (mVar 0) (aCons (mBin uAdd (mCB uLen (aCons (mCall 2 (m_law_after cc) (aCons (mVar 2) (aCons (mVar 3) aNil))) aNil)) (mC (.int 3))) aNil))))
    (mSeq (mAsg (.one 9) (mMeth (cc 0) "shorten" 3 (m_File_shorten cc) (mVar 1) (aCons (mVar 12) (aCons (mVar 5) aNil))))
    (mSeq (mIfS (bCmp cEq (mVar 5) (mC (.int 0))) (mRet (mLst (aCons (mCall 2 (m_law_same cc 2) (aCons (mVar 9) (aCons (mC (.int 0)) aNil))) (aCons (mVar 2) (aCons (mVar 3) aNil))))) mNx)
    (mRet (mLst (aCons (mCall 2 (m_law_same cc 2) (aCons (mVar 9) (aCons (mC (.int 1)) aNil))) (aCons (mVar 2) (aCons (mBin uAdd (mVar 3) (mLst (aCons (mTup (aCons (mC (.int 1)) (aCons (mVar 12) aNil))) aNil))) aNil)))))))) mNx)
    (mSeq (mIfS (bCmp cLt (mVar 4) (mC (.int 7))) (mSeq (mAsg (.one 9) (mMeth (cc 0) "flush" 2 (m_File_flush cc) (mVar 1) (aCons (mVar 5) aNil)))
    (mSeq (mIfS (bCmp cEq (mVar 5) (mC (.int 0))) (mRet (mLst (aCons (mCall 2 (m_law_same cc 2) (aCons (mVar 9) (aCons (mC (.int 0)) aNil))) (aCons (mVar 2) (aCons (mVar 3) aNil))))) mNx)
    (mRet (mLst (aCons (mCall 2 (m_law_same cc 2) (aCons (mVar 9) (aCons (mC (.int 1)) aNil))) (aCons (mCall 2 (m_law_after cc) (aCons (mVar 2) (aCons (mVar 3) aNil))) (aCons (mLst aNil) aNil))))))) mNx)
    (mSeq (mAsg (.one 7) (mCall 2 (m_law_next cc) (aCons (mVar 0) (aCons (mBin uAdd (mCB uLen (aCons (mVar 3) aNil)) (mC (.int 3))) aNil))))
    (mSeq (mDrop (mMeth (cc 0) "lose" 2 (m_File_lose cc) (mVar 1) (aCons (mVar 7) aNil)))
    (mRet (mLst (aCons (mC (.bl true)) (aCons (mCall 2 (m_law_after cc) (aCons (mVar 2) (aCons (mSl (mVar 3) oNone (oSome (mVar 7))) aNil))) (aCons (mLst aNil) aNil)))))))))))))
noncomputable def m_File_content (cc : Nat → Nat) : Sem' := fnM 1 (mRet (mCall 2 (m_applied cc) (aCons (mFld [cc 0] "_lasting" (mVar 0)) (aCons (mFld [cc 0] "_steps" (mVar 0)) aNil))))
noncomputable def m_File_pending (cc : Nat → Nat) : Sem' := fnM 1 (mRet (mCB uLen (aCons (mFld [cc 0] "_steps" (mVar 0)) aNil)))
noncomputable def m_law (cc : Nat → Nat) : Sem' := fnM 7 (mSeq (mAsg (.one 1) (mLst (aCons (mCall 1 (m_law_draws cc) (aCons (mVar 0) aNil)) (aCons (mC (.int 20)) aNil))))
    (mSeq (mAsg (.one 2) (mMake (cc 0) 1 (m_File__init__ cc) aNil))
    (mSeq (mAsg (.one 3) (mLst aNil))
    (mSeq (mAsg (.one 4) (mLst aNil))
    (mSeq (mFor (itR1 (aCons (mCall 2 (m_law_next cc) (aCons (mVar 1) (aCons (mC (.int 31)) aNil))) aNil)) (.one 5) (mSeq (mAsg (.lst [6, 3, 4]) (mCall 4 (m_law_deed cc) (aCons (mVar 1) (aCons (mVar 2) (aCons (mVar 3) (aCons (mVar 4) aNil))))))
    (mSeq (mIfS (bOr (bNot (bTru (mVar 6))) (bNot (bTru (mCall 2 (m_law_same cc 2) (aCons (mMeth (cc 0) "content" 1 (m_File_content cc) (mVar 2) aNil) (aCons (mCall 2 (m_law_after cc) (aCons (mVar 3) (aCons (mVar 4) aNil))) aNil)))))) (mRet (mC (.bl false))) mNx)
    (mSeq (mIfS (bNot (bTru (mCall 2 (m_law_same cc 2) (aCons (mMeth (cc 0) "pending" 1 (m_File_pending cc) (mVar 2) aNil) (aCons (mCB uLen (aCons (mVar 4) aNil)) aNil))))) (mRet (mC (.bl false))) mNx)
    (mSeq (mDrop (mLM uApp (mMeth (cc 0) "content" 1 (m_File_content cc) (mVar 2) aNil) (aCons (mC (.int 7)) aNil)))
    (mIfS (bAnd (bCmp cEq (mCall 2 (m_law_next cc) (aCons (mVar 1) (aCons (mC (.int 4)) aNil))) (mC (.int 0))) (bNot (bTru (mCall 2 (m_law_same cc 2) (aCons (mMeth (cc 0) "content" 1 (m_File_content cc) (mVar 2) aNil) (aCons (mCall 2 (m_law_after cc) (aCons (mVar 3) (aCons (mVar 4) aNil))) aNil)))))) (mRet (mC (.bl false))) mNx))))))
    (mSeq (mDrop (mMeth (cc 0) "lose" 2 (m_File_lose cc) (mVar 2) (aCons (mC (.int 0)) aNil)))
    (mRet (mAnd (mCall 2 (m_law_same cc 2) (aCons (mMeth (cc 0) "content" 1 (m_File_content cc) (mVar 2) aNil) (aCons (mVar 3) aNil))) (mCall 2 (m_law_same cc 2) (aCons (mMeth (cc 0) "pending" 1 (m_File_pending cc) (mVar 2) aNil) (aCons (mC (.int 0)) aNil)))))))))))
end LAW

set_option Elab.async false
set_option linter.all false
set_option maxRecDepth 100000
set_option maxHeartbeats 4000000
namespace LAW
open L2 Q
section
variable {cc : Nat → Nat} {h : Sto}
theorem at_eq : m_law_at cc = atS := rfl
theorem draws_eq : m_law_draws cc = drawsS := rfl
theorem same_eq : ∀ n, m_law_same cc n = sameT n
  | 0 => rfl
  | n + 1 => by
    unfold m_law_same sameT
    rw [same_eq n]
    rfl
abbrev In (d : List Nat) : List U := d.map fun (x : Nat) => U.int x
def pt : Bool × Nat → U
  | (true, n) => .tup [.str [97, 112, 112, 101, 110, 100], .int n]
  | (false, n) => .tup [.str [116, 114, 117, 110, 99, 97, 116, 101], .int n]
def lt : Bool × Nat → U
  | (true, n) => .tup [.int 0, .int n]
  | (false, n) => .tup [.int 1, .int n]
def one (d : List Nat) : Bool × Nat → List Nat
  | (true, n) => d ++ [n]
  | (false, n) => d.take n
def aft (d : List Nat) (st : List (Bool × Nat)) : List Nat := st.foldl one d
theorem one_len (d : List Nat) (s : Bool × Nat) : (one d s).length ≤ d.length + 1 := by
  obtain ⟨b, n⟩ := s
  cases b <;> simp [one]
  omega
theorem aft_len : ∀ (st : List (Bool × Nat)) (d : List Nat), (aft d st).length ≤ d.length + st.length
  | [], d => by simp [aft]
  | s :: r, d => by
    have h1 := aft_len r (one d s)
    have h2 := one_len d s
    show (aft (one d s) r).length ≤ _
    simp; omega
theorem aft_snoc (d : List Nat) (st : List (Bool × Nat)) (s : Bool × Nat) : aft d (st ++ [s]) = one (aft d st) s := by simp [aft]
theorem after_ok {x : U} {y : Nat} {d : List Nat} {st : List (Bool × Nat)} (hx : sL h x = some (In d)) (hy : h[y]? = some (.lst (st.map lt))) (z : d.length + st.length ≤ 100000) :
    ∃ n h', m_law_after cc [x, .ref y] h = .ok (.ref n) h' ∧ Ext h h' ∧ h.length ≤ n ∧ h'[n]? = some (.lst (In (aft d st))) := by
  obtain ⟨env', h', e1, P⟩ := for_items (c := [(y, st.map lt)]) (k := .tup [2, 3]) (body := (mIfS (bCmp cEq (mVar 2) (mC (.int 0))) (mDrop (mLM uApp (mVar 0) (aCons (mVar 3) aNil))) (mAsg (.one 0) (mSl (mVar 0) oNone (oSome (mVar 3))))))
    (fun i env h' => ∃ n x2 x3, env = [some (.ref n), some (.ref y), x2, x3] ∧ Ext h h' ∧ h.length ≤ n ∧ h'[n]? = some (.lst (In (aft d (st.take i))))) (st.map lt) (j := 0) (env := [some (.ref h.length), some (.ref y), none, none]) (h := h ++ [.lst (In d)])
    ⟨_, _, _, rfl, Ext.app _ _, Nat.le_refl _, by simp [aft]⟩ (by
      rintro i u env h1 hu ⟨n, x2, x3, rfl, ex, hn, e⟩
      rw [Nat.zero_add] at e ⊢
      refine ⟨chk_one.mpr (ex.get hy), ?_⟩
      have hi : i < st.length := by
        have := (List.getElem?_eq_some_iff.mp hu).1
        simpa using this
      have tk := take_succ' hi
      have l1 := aft_len (st.take i) d
      have l2 : (st.take i).length ≤ st.length := by simp; omega
      have eu : u = lt st[i] := by
        rw [List.getElem?_map, List.getElem?_eq_getElem hi] at hu
        exact (Option.some.inj hu).symm
      rcases es : st[i] with ⟨b, k⟩
      rw [es] at eu
      have l3 : (aft d (st.take i)).length < 16000000 := by omega
      cases b with
      | true =>
        subst eu
        refine ⟨_, rfl, [some (.ref n), some (.ref y), some (.int 0), some (.int k)], h1.set n (.lst (In (aft d (st.take (i + 1))))), .inl ?_, n, _, _, rfl, ex.set hn, hn, by rw [st_gs (by rw [e]; rfl)]⟩
        rw [tk, aft_snoc, es]
        simp [e_ifs, e, l3, one]
      | false =>
        subst eu
        refine ⟨_, rfl, [some (.ref h1.length), some (.ref y), some (.int 1), some (.int k)], h1 ++ [.lst (In (aft d (st.take (i + 1))))], .inl ?_, h1.length, _, _, rfl, ex.trans (Ext.app _ _), ex.len, by simp⟩
        rw [tk, aft_snoc, es]
        simp [e_ifs, e, l3, one])
    (by rintro env h1 ⟨n, x2, x3, rfl, ex, hn, e⟩; exact chk_one.mpr (ex.get hy))
  obtain ⟨n, x2, x3, rfl, ex, hn, e⟩ := P
  rw [Nat.zero_add, List.length_map, List.take_length] at e
  refine ⟨n, h', ?_, ex, hn, e⟩
  refine e_fn_rt ?_
  refine (e_seq_nx (h1 := h ++ [.lst (In d)]) (e := [some (.ref h.length), some (.ref y), none, none]) (by simp [hx])).trans ?_
  refine (e_seq_nx (h1 := h') (e := _) ((e_for (c := [(y, st.map lt)]) (us := st.map lt) (h1 := h ++ [.lst (In d)]) (by simp [e_seq_ref, hy])).trans e1)).trans ?_
  rfl
theorem applied_ok {x : U} {y : Nat} {d : List Nat} {st : List (Bool × Nat)} (hx : sL h x = some (In d)) (hy : h[y]? = some (.lst (st.map pt))) (z : d.length + st.length ≤ 100000) :
    ∃ n h', m_applied cc [x, .ref y] h = .ok (.ref n) h' ∧ Ext h h' ∧ h.length ≤ n ∧ h'[n]? = some (.lst (In (aft d st))) := by
  obtain ⟨env', h', e1, P⟩ := for_items (c := [(y, st.map pt)]) (k := .tup [3, 4]) (body := (mIfS (bCmp cEq (mVar 3) (mC (.str [97, 112, 112, 101, 110, 100]))) (mDrop (mLM uApp (mVar 2) (aCons (mVar 4) aNil))) (mAsg (.one 2) (mSl (mVar 2) oNone (oSome (mVar 4))))))
    (fun i env h' => ∃ n x2 x3, env = [some x, some (.ref y), some (.ref n), x2, x3] ∧ Ext h h' ∧ h.length ≤ n ∧ h'[n]? = some (.lst (In (aft d (st.take i))))) (st.map pt) (j := 0) (env := [some x, some (.ref y), some (.ref h.length), none, none]) (h := h ++ [.lst (In d)])
    ⟨_, _, _, rfl, Ext.app _ _, Nat.le_refl _, by simp [aft]⟩ (by
      rintro i u env h1 hu ⟨n, x2, x3, rfl, ex, hn, e⟩
      rw [Nat.zero_add] at e ⊢
      refine ⟨chk_one.mpr (ex.get hy), ?_⟩
      have hi : i < st.length := by
        have := (List.getElem?_eq_some_iff.mp hu).1
        simpa using this
      have tk := take_succ' hi
      have l1 := aft_len (st.take i) d
      have l2 : (st.take i).length ≤ st.length := by simp; omega
      have eu : u = pt st[i] := by
        rw [List.getElem?_map, List.getElem?_eq_getElem hi] at hu
        exact (Option.some.inj hu).symm
      rcases es : st[i] with ⟨b, k⟩
      rw [es] at eu
      have l3 : (aft d (st.take i)).length < 16000000 := by omega
      cases b with
      | true =>
        subst eu
        refine ⟨_, rfl, [some x, some (.ref y), some (.ref n), some (.str [97, 112, 112, 101, 110, 100]), some (.int k)], h1.set n (.lst (In (aft d (st.take (i + 1))))), .inl ?_, n, _, _, rfl, ex.set hn, hn, by rw [st_gs (by rw [e]; rfl)]⟩
        rw [tk, aft_snoc, es]
        simp [e_ifs, e, l3, one]
      | false =>
        subst eu
        refine ⟨_, rfl, [some x, some (.ref y), some (.ref h1.length), some (.str [116, 114, 117, 110, 99, 97, 116, 101]), some (.int k)], h1 ++ [.lst (In (aft d (st.take (i + 1))))], .inl ?_, h1.length, _, _, rfl, ex.trans (Ext.app _ _), ex.len, by simp⟩
        rw [tk, aft_snoc, es]
        simp [e_ifs, e, l3, one])
    (by rintro env h1 ⟨n, x2, x3, rfl, ex, hn, e⟩; exact chk_one.mpr (ex.get hy))
  obtain ⟨n, x2, x3, rfl, ex, hn, e⟩ := P
  rw [Nat.zero_add, List.length_map, List.take_length] at e
  refine ⟨n, h', ?_, ex, hn, e⟩
  refine e_fn_rt ?_
  refine (e_seq_nx (h1 := h ++ [.lst (In d)]) (e := [some x, some (.ref y), some (.ref h.length), none, none]) (by simp [hx])).trans ?_
  refine (e_seq_nx (h1 := h') (e := _) ((e_for (c := [(y, st.map pt)]) (us := st.map pt) (h1 := h ++ [.lst (In d)]) (by simp [e_seq_ref, hy])).trans e1)).trans ?_
  rfl

def lims : Option Nat → U
  | none => .non
  | some n => .int n
structure W (cc : Nat → Nat) (h : Sto) (vs : List Int) (lp sp ll sl : Nat) (d : List Nat) (st : List (Bool × Nat)) (dl : List Nat) (stl : List (Bool × Nat)) : Prop where
  dr : h[0]? = some (.lst (vs.map U.int))
  ix : ∃ i : Int, 0 ≤ i ∧ h[1]? = some (.lst [.ref 0, .int i])
  fi : h[2]? = some (.ins (cc 0) [("_lasting", .ref lp), ("_steps", .ref sp)])
  l1 : h[lp]? = some (.lst (In d))
  s1 : h[sp]? = some (.lst (st.map pt))
  l2 : h[ll]? = some (.lst (In dl))
  s2 : h[sl]? = some (.lst (stl.map lt))
  n1 : 2 < lp
  n2 : 2 < sp
  n3 : 2 < ll
  n4 : 2 < sl
  n5 : sp ≠ lp
  n6 : sp ≠ ll
  n7 : sp ≠ sl
section
variable {vs : List Int} {lp sp ll sl : Nat} {d dl : List Nat} {st stl : List (Bool × Nat)} {h' : Sto}
theorem W.ext (w : W cc h vs lp sp ll sl d st dl stl) (e : Ext h h') : W cc h' vs lp sp ll sl d st dl stl :=
  ⟨e.get w.dr, by obtain ⟨i, a, b⟩ := w.ix; exact ⟨i, a, e.get b⟩, e.get w.fi, e.get w.l1, e.get w.s1, e.get w.l2, e.get w.s2, w.n1, w.n2, w.n3, w.n4, w.n5, w.n6, w.n7⟩
theorem lt_get {h : Sto} {n : Nat} {o : O} (q : h[n]? = some o) : n < h.length := (List.getElem?_eq_some_iff.mp q).1
theorem W.set1 (w : W cc h vs lp sp ll sl d st dl stl) {i : Int} (hi : 0 ≤ i) : W cc (h.set 1 (.lst [.ref 0, .int i])) vs lp sp ll sl d st dl stl := by
  have a := w.n1; have b := w.n2; have c := w.n3; have e := w.n4
  obtain ⟨j, _, q⟩ := w.ix
  refine ⟨?_, ⟨i, hi, List.getElem?_set_self (lt_get q)⟩, ?_, ?_, ?_, ?_, ?_, w.n1, w.n2, w.n3, w.n4, w.n5, w.n6, w.n7⟩
  · rw [List.getElem?_set_ne (by omega)]; exact w.dr
  · rw [List.getElem?_set_ne (by omega)]; exact w.fi
  · rw [List.getElem?_set_ne (by omega)]; exact w.l1
  · rw [List.getElem?_set_ne (by omega)]; exact w.s1
  · rw [List.getElem?_set_ne (by omega)]; exact w.l2
  · rw [List.getElem?_set_ne (by omega)]; exact w.s2
theorem W.steps (w : W cc h vs lp sp ll sl d st dl stl) (st' : List (Bool × Nat)) : W cc (h.set sp (.lst (st'.map pt))) vs lp sp ll sl d st' dl stl := by
  have a := w.n1; have b := w.n2; have c := w.n3; have e := w.n4
  refine ⟨?_, ?_, ?_, ?_, ?_, ?_, ?_, w.n1, w.n2, w.n3, w.n4, w.n5, w.n6, w.n7⟩
  · rw [List.getElem?_set_ne (by omega)]; exact w.dr
  · obtain ⟨i, a, b⟩ := w.ix; exact ⟨i, a, by rw [List.getElem?_set_ne (by omega)]; exact b⟩
  · rw [List.getElem?_set_ne (by omega)]; exact w.fi
  · rw [List.getElem?_set_ne w.n5]; exact w.l1
  · exact List.getElem?_set_self (lt_get w.s1)
  · rw [List.getElem?_set_ne w.n6]; exact w.l2
  · rw [List.getElem?_set_ne w.n7]; exact w.s2
theorem W.fields (w : W cc h vs lp sp ll sl d st dl stl) {lp' sp' : Nat} {d' : List Nat} {st' : List (Bool × Nat)} (h1 : h[lp']? = some (.lst (In d'))) (h2 : h[sp']? = some (.lst (st'.map pt)))
    (q1 : 2 < lp') (q2 : 2 < sp') (q3 : sp' ≠ lp') (q4 : sp' ≠ ll) (q5 : sp' ≠ sl) : W cc (h.set 2 (.ins (cc 0) [("_lasting", .ref lp'), ("_steps", .ref sp')])) vs lp' sp' ll sl d' st' dl stl := by
  have a := w.n1; have b := w.n2; have c := w.n3; have e := w.n4
  refine ⟨?_, ?_, ?_, ?_, ?_, ?_, ?_, q1, q2, w.n3, w.n4, q3, q4, q5⟩
  · rw [List.getElem?_set_ne (by omega)]; exact w.dr
  · obtain ⟨i, a, b⟩ := w.ix; exact ⟨i, a, by rw [List.getElem?_set_ne (by omega)]; exact b⟩
  · exact List.getElem?_set_self (lt_get w.fi)
  · rw [List.getElem?_set_ne (by omega)]; exact h1
  · rw [List.getElem?_set_ne (by omega)]; exact h2
  · rw [List.getElem?_set_ne (by omega)]; exact w.l2
  · rw [List.getElem?_set_ne (by omega)]; exact w.s2
theorem W.law (w : W cc h vs lp sp ll sl d st dl stl) {ll' sl' : Nat} {dl' : List Nat} {stl' : List (Bool × Nat)} (h1 : h[ll']? = some (.lst (In dl'))) (h2 : h[sl']? = some (.lst (stl'.map lt)))
    (q1 : 2 < ll') (q2 : 2 < sl') (q4 : sp ≠ ll') (q5 : sp ≠ sl') : W cc h vs lp sp ll' sl' d st dl' stl' :=
  ⟨w.dr, w.ix, w.fi, w.l1, w.s1, h1, h2, w.n1, w.n2, q1, q2, w.n5, q4, q5⟩
theorem next_w (w : W cc h vs lp sp ll sl d st dl stl) (D : Dr vs) {L : Int} (h0 : 0 < L) : ∃ v : Nat, ∃ h', m_law_next cc [.ref 1, .int L] h = .ok (.int v) h' ∧ (v : Int) < L ∧ W cc h' vs lp sp ll sl d st dl stl ∧ Ch 1 h h' := by
  obtain ⟨i, hi, e⟩ := w.ix
  have e2 := w.set1 (i := i + 1) (by omega)
  have b := atF_bd D (i := i + 1) (by omega)
  have m0 := Int.emod_nonneg (atF vs (i + 1)) (show L ≠ 0 by omega)
  refine ⟨(atF vs (i + 1) % L).toNat, _, ?_, by have := Int.emod_lt_of_pos (atF vs (i + 1)) h0; omega, e2, Ch.set _ _ _⟩
  rw [Int.toNat_of_nonneg m0]
  have g : aL (h.set 1 (.lst [.ref 0, .int (i + 1)])) (.ref 0) = some (vs.map U.int) := by rw [e_aL_ref, e2.dr]
  have q := at_ok' g (show 0 ≤ i + 1 by omega)
  refine e_fn_rt ?_
  refine (e_seq_nx (h1 := h.set 1 (.lst [.ref 0, .int (i + 1)])) (e := [some (.ref 1), some (.int L)]) (by simp [e])).trans ?_
  simp [e, at_eq, q, h0]
abbrev fL : PySem.Str := PySem.Str.ofString "_lasting"
abbrev fS : PySem.Str := PySem.Str.ofString "_steps"
@[simp] theorem lk1 {a b : U} : List.lookup fL [(fL, a), (fS, b)] = some a := by rfl
@[simp] theorem lk2 {a b : U} : List.lookup fS [(fL, a), (fS, b)] = some b := by rfl
@[simp] theorem pu1 {a b c : U} : putU fL c [(fL, a), (fS, b)] = [(fL, c), (fS, b)] := by rfl
@[simp] theorem pu2 {a b c : U} : putU fS c [(fL, a), (fS, b)] = [(fL, a), (fS, c)] := by rfl
@[simp] theorem pu3 {c : U} : putU fL c [] = [(fL, c)] := by rfl
@[simp] theorem pu4 {a c : U} : putU fS c [(fL, a)] = [(fL, a), (fS, c)] := by rfl
@[simp] theorem lk_lose {a b : U} : List.lookup (PySem.Str.ofString "lose") [(fL, a), (fS, b)] = none := by rfl
@[simp] theorem lk_write {a b : U} : List.lookup (PySem.Str.ofString "write") [(fL, a), (fS, b)] = none := by rfl
@[simp] theorem lk_shorten {a b : U} : List.lookup (PySem.Str.ofString "shorten") [(fL, a), (fS, b)] = none := by rfl
@[simp] theorem lk_flush {a b : U} : List.lookup (PySem.Str.ofString "flush") [(fL, a), (fS, b)] = none := by rfl
@[simp] theorem lk_content {a b : U} : List.lookup (PySem.Str.ofString "content") [(fL, a), (fS, b)] = none := by rfl
@[simp] theorem lk_pending {a b : U} : List.lookup (PySem.Str.ofString "pending") [(fL, a), (fS, b)] = none := by rfl
theorem lose_ok (w : W cc h vs lp sp ll sl d st dl stl) (z : d.length + st.length ≤ 100000) (c : Nat) : ∃ h' lp' sp', m_File_lose cc [.ref 2, .int c] h = .ok .non h' ∧ W cc h' vs lp' sp' ll sl (aft d (st.take c)) [] dl stl := by
  have w1 := w.ext (Ext.app h [.lst ((st.take c).map pt)])
  obtain ⟨n, h2, e2, ex, hn, g2⟩ := applied_ok (cc := cc) (h := h ++ [.lst ((st.take c).map pt)]) (x := .ref lp) (y := h.length) (d := d) (st := st.take c) (by rw [e_sL_ref, w1.l1]) (by simp) (by simp; omega)
  have w2 := w1.ext ex
  have hl := lt_get w.l1
  have hs := lt_get w.s1
  have hll := lt_get w.l2
  have hsl := lt_get w.s2
  have a := w.n1; have b := w.n2
  simp only [List.length_append, List.length_singleton] at hn
  have w3 := w2.fields (lp' := n) (sp' := sp) g2 w2.s1 (by omega) (by omega) (by omega) w.n6 w.n7
  have w4 := w3.ext (Ext.app _ [.lst []])
  have hx := ex.len
  simp only [List.length_append, List.length_singleton] at hx
  have w5 := w4.fields (lp' := n) (sp' := h2.length) (st' := []) w4.l1 (by simp) (by omega) (by omega) (by have := lt_get g2; omega) (by omega) (by omega)
  have f1 := w.fi
  have f2 := w2.fi
  have f3 := w4.fi
  have l1 := w.l1
  have s1 := w.s1
  refine ⟨_, n, h2.length, ?_, w5⟩
  refine e_fn_nx (e := [some (.ref 2), some (.int c)]) ?_
  refine (e_seq_nx (h1 := h2.set 2 (.ins (cc 0) [("_lasting", .ref n), ("_steps", .ref sp)])) (e := [some (.ref 2), some (.int c)]) ?_).trans ?_
  · rw [List.map_take] at e2
    simp [f1, f2, s1, e2]
  · have f4 := w3.fi
    simp [f4]
theorem write_ok (w : W cc h vs lp sp ll sl d st dl stl) {x : Nat} {da : List Nat} (hx : h[x]? = some (.lst (In da))) (z : st.length + da.length ≤ 100000) (lim : Option Nat) :
    ∃ c h' l, c = (match lim with | none => da.length | some s => min da.length s) ∧ m_File_write cc [.ref 2, .ref x, lims lim] h = .ok (.int (c : Nat)) h' ∧ h' = (h ++ l).set sp (.lst ((st ++ (da.take c).map fun n => (true, n)).map pt)) ∧ W cc h' vs lp sp ll sl d (st ++ (da.take c).map fun n => (true, n)) dl stl := by
  generalize ec : (match lim with | none => da.length | some s => min da.length s) = c
  have f1 := w.fi
  have s1 := w.s1
  have hl := lt_get hx
  refine ⟨c, _, [.lst (In (da.take c)), .lst (((da.take c).map fun n => (true, n)).map pt)], rfl, ?_, rfl, (w.ext (Ext.app h _)).steps _⟩
  refine e_fn_rt ?_
  refine (e_seq_nx (h1 := h) (e := [some (.ref 2), some (.ref x), some (lims lim), some (.int c), none]) ?_).trans ?_
  · cases lim with
    | none => simp [lims, hx, ← ec]
    | some s =>
      have : (if da.length < s then (da.length : Int) else (s : Int)) = c := by simp only at ec; split <;> omega
      simp [lims, hx, this]
  · have q := lc_pure (mi := itE (mSl (mVar 1) oNone (oSome (mVar 3)))) (k := .one 4) (me := mTup (aCons (mC (.str [97, 112, 112, 101, 110, 100])) (aCons (mVar 4) aNil))) (vs := [4]) (env := [some (.ref 2), some (.ref x), some (lims lim), some (.int c), none]) (h := h) (c := [(h.length, In (da.take c))]) (us := In (da.take c)) (h1 := h ++ [.lst (In (da.take c))])
      (fun u => .tup [.str [97, 112, 112, 101, 110, 100], u]) (by
        have e2 : (In da).take c = In (da.take c) := List.map_take.symm
        simp [hx, e2, e_seq_ref, -List.map_take]) (fun o => by rw [chk_one]; simp) (by simp; omega) (fun u hu h' _ => ⟨_, rfl, by simp [wipeE]⟩)
    have e : (In (da.take c)).map (fun u => U.tup [.str [97, 112, 112, 101, 110, 100], u]) = (((da.take c).map fun n => (true, n)).map pt) := by
      rw [List.map_map, List.map_map]; rfl
    rw [e, List.append_assoc] at q
    have hz : st.length + (da.take c).length ≤ 16000000 := by simp; omega
    have hz2 : st.length + min c da.length ≤ 16000000 := by omega
    refine (e_seq_nx (h1 := (h ++ [O.lst (In (da.take c)), O.lst (((da.take c).map fun n => (true, n)).map pt)]).set sp (.lst ((st ++ (da.take c).map fun n => (true, n)).map pt))) (e := [some (.ref 2), some (.ref x), some (lims lim), some (.int c), none]) ?_).trans ?_
    · simp [f1, s1, hx, q, hz2, -List.map_take]
    · rfl
theorem shorten_ok (w : W cc h vs lp sp ll sl d st dl stl) (z : st.length ≤ 100000) (n : Nat) (lim : Option Nat) :
    ∃ h' st', m_File_shorten cc [.ref 2, .int n, lims lim] h = .ok (.int (if lim = some 0 then 0 else 1)) h' ∧ st' = (if lim = some 0 then st else st ++ [(false, n)]) ∧ W cc h' vs lp sp ll sl d st' dl stl := by
  have f1 := w.fi
  have s1 := w.s1
  have hz : st.length < 16000000 := by omega
  by_cases c : lim = some 0
  · subst c
    refine ⟨h, st, ?_, by simp, w⟩
    refine e_fn_rt ?_
    refine e_seq_rt ?_
    simp [lims, e_ifs]
  · refine ⟨_, _, ?_, rfl, (w.steps (if lim = some 0 then st else st ++ [(false, n)]))⟩
    rw [if_neg c, if_neg c]
    refine e_fn_rt ?_
    refine (e_seq_nx (h1 := h) (e := [some (.ref 2), some (.int n), some (lims lim)]) ?_).trans ?_
    · cases lim with
      | none =>
        have q : cEq h .non (.int 0) = some false := rfl
        simp [lims, e_ifs, q]
      | some s =>
        have : s ≠ 0 := fun z => c (by rw [z])
        simp [lims, e_ifs, this]
    · refine (e_seq_nx (h1 := h.set sp (.lst ((st ++ [(false, n)]).map pt))) (e := [some (.ref 2), some (.int n), some (lims lim)]) ?_).trans ?_
      · simp [f1, s1, hz, pt]
      · rfl
theorem flush_ok (w : W cc h vs lp sp ll sl d st dl stl) (z : d.length + st.length ≤ 100000) (lim : Option Nat) :
    ∃ h' lp' sp' d' st', m_File_flush cc [.ref 2, lims lim] h = .ok (.int (if lim = some 0 then 0 else 1)) h' ∧ d' = (if lim = some 0 then d else aft d st) ∧ st' = (if lim = some 0 then st else []) ∧ W cc h' vs lp' sp' ll sl d' st' dl stl := by
  have f1 := w.fi
  have s1 := w.s1
  by_cases c : lim = some 0
  · subst c
    refine ⟨h, lp, sp, d, st, ?_, by simp, by simp, w⟩
    refine e_fn_rt ?_
    refine e_seq_rt ?_
    simp [lims, e_ifs]
  · obtain ⟨h', lp', sp', e, w'⟩ := lose_ok w z st.length
    rw [List.take_length] at w'
    refine ⟨h', lp', sp', aft d st, [], ?_, by rw [if_neg c], by rw [if_neg c], w'⟩
    rw [if_neg c]
    refine e_fn_rt ?_
    refine (e_seq_nx (h1 := h) (e := [some (.ref 2), some (lims lim)]) ?_).trans ?_
    · cases lim with
      | none =>
        have q : cEq h .non (.int 0) = some false := rfl
        simp [lims, e_ifs, q]
      | some s =>
        have : s ≠ 0 := fun z => c (by rw [z])
        simp [lims, e_ifs, this]
    · refine (e_seq_nx (h1 := h') (e := [some (.ref 2), some (lims lim)]) ?_).trans ?_
      · simp [f1, s1, e]
      · rfl
theorem content_ok (w : W cc h vs lp sp ll sl d st dl stl) (z : d.length + st.length ≤ 100000) : ∃ n h', m_File_content cc [.ref 2] h = .ok (.ref n) h' ∧ Ext h h' ∧ h.length ≤ n ∧ h'[n]? = some (.lst (In (aft d st))) := by
  obtain ⟨n, h', e, a, b, c⟩ := applied_ok (cc := cc) (h := h) (x := .ref lp) (y := sp) (d := d) (st := st) (by rw [e_sL_ref, w.l1]) w.s1 z
  have f1 := w.fi
  refine ⟨n, h', ?_, a, b, c⟩
  refine e_fn_rt ?_
  simp [f1, e]
theorem pending_ok (w : W cc h vs lp sp ll sl d st dl stl) : m_File_pending cc [.ref 2] h = .ok (.int st.length) h := by
  have f1 := w.fi
  have s1 := w.s1
  refine e_fn_rt ?_
  simp [f1, s1]
theorem af_ok (w : W cc h vs lp sp ll sl d st dl stl) (z : dl.length + stl.length ≤ 100000) : ∃ n h', m_law_after cc [.ref ll, .ref sl] h = .ok (.ref n) h' ∧ Ext h h' ∧ h.length ≤ n ∧ h'[n]? = some (.lst (In (aft dl stl))) :=
  after_ok (by rw [e_sL_ref, w.l2]) w.s2 z
/-- what a deed leaves -/
def Post (cc : Nat → Nat) (vs : List Int) (k : Nat) (r : R U) : Prop := ∃ n h' lp sp ll sl d st, r = .ok (.ref n) h' ∧ h'[n]? = some (.lst [.bl true, .ref ll, .ref sl]) ∧ W cc h' vs lp sp ll sl d st d st ∧ d.length + st.length ≤ k
theorem W.other {h0 : Sto} {d0 dl0 : List Nat} {st0 stl0 : List (Bool × Nat)} (w : W cc h vs lp sp ll sl d st dl stl) (w0 : W cc h0 vs lp sp ll sl d0 st0 dl0 stl0) {n : Nat} (hn : h0.length ≤ n) (o : O) : W cc (h.set n o) vs lp sp ll sl d st dl stl := by
  have a := w.n1; have b := w.n2; have c := w.n3; have e := w.n4
  have a0 := lt_get w0.l1; have b0 := lt_get w0.s1; have c0 := lt_get w0.l2; have e0 := lt_get w0.s2
  refine ⟨?_, ?_, ?_, ?_, ?_, ?_, ?_, w.n1, w.n2, w.n3, w.n4, w.n5, w.n6, w.n7⟩
  · rw [List.getElem?_set_ne (by omega)]; exact w.dr
  · obtain ⟨i, a, b⟩ := w.ix; exact ⟨i, a, by rw [List.getElem?_set_ne (by omega)]; exact b⟩
  · rw [List.getElem?_set_ne (by omega)]; exact w.fi
  · rw [List.getElem?_set_ne (by omega)]; exact w.l1
  · rw [List.getElem?_set_ne (by omega)]; exact w.s1
  · rw [List.getElem?_set_ne (by omega)]; exact w.l2
  · rw [List.getElem?_set_ne (by omega)]; exact w.s2
theorem data_ok (w : W cc h vs lp sp ll sl d st dl stl) (D : Dr vs) {env : Env'} (henv : env[0]? = some (some (.ref 1))) (h10 : 10 < env.length) :
    ∃ n h' da, mLc (itR1 (aCons (mCall 2 (m_law_next cc) (aCons (mVar 0) (aCons (mC (.int 10)) aNil))) aNil)) (.one 10) bYes (mCall 2 (m_law_next cc) (aCons (mVar 0) (aCons (mC (.int 256)) aNil))) [10] env h = .ok (.ref n) h' ∧ h.length ≤ n ∧ h'[n]? = some (.lst (In da)) ∧ W cc h' vs lp sp ll sl d st dl stl ∧ da.length ≤ 10 := by
  obtain ⟨v, h1, e1, lv, w1, c1⟩ := next_w w D (L := 10) (by decide)
  have hv : -1000000000 ≤ (v : Int) ∧ (v : Int) ≤ 1000000000 := by omega
  have e2 : itR1 (aCons (mCall 2 (m_law_next cc) (aCons (mVar 0) (aCons (mC (.int 10)) aNil))) aNil) env h = .ok ([], rng 0 v) h1 := by
    simp [henv, e1]
    omega
  obtain ⟨acc, h', e3, hn, w', da, rfl, ll', hl'⟩ := lc_inv (c := []) (k := .one 10) (me := mCall 2 (m_law_next cc) (aCons (mVar 0) (aCons (mC (.int 256)) aNil))) (n := h1.length) (e0 := wipeE env [10])
    (fun i acc h' => W cc h' vs lp sp ll sl d st dl stl ∧ ∃ da : List Nat, acc = In da ∧ da.length = i ∧ h1.length < h'.length) (rng 0 v) (j := 0) (acc := []) (h := h1 ++ [.lst []]) ⟨w1.ext (Ext.app _ _), [], rfl, rfl, by simp⟩ (by simp) (by rw [rng_len]; simp; omega) (by
      rintro i u acc h2 hu ⟨w2, da, rfl, l2, l3⟩ hn
      obtain ⟨x, h3, e3, lx, w3, c3⟩ := next_w w2 D (L := 256) (by decide)
      have hi1 : 1 < h1.length := by obtain ⟨_, _, q⟩ := w1.ix; exact lt_get q
      refine ⟨chkOk_nil _, env.set 10 (some u), .int x, h3, by simp [wipeE], ?_, by rw [c3.eq _ (by omega)]; exact hn, w3.other w1 (Nat.le_refl _) _, da ++ [x], by simp, by simp; omega, by rw [List.length_set, c3.len]; exact l3⟩
      have : (env.set 10 (some u))[0]? = some (some (.ref 1)) := by rw [List.getElem?_set_ne (by decide)]; exact henv
      simp [this, e3]) (fun _ _ _ _ => chkOk_nil _)
  refine ⟨h1.length, h', da, ?_, by rw [c1.len]; exact Nat.le_refl _, hn, w', ?_⟩
  · rw [e_lc, e2]; exact e3
  · rw [rng_len] at ll'
    omega
theorem deed_ok (w : W cc h vs lp sp ll sl d st d st) (D : Dr vs) (z : d.length + st.length ≤ 50000) : Post cc vs (d.length + st.length + 20) (m_law_deed cc [.ref 1, .ref 2, .ref ll, .ref sl] h) := by
  obtain ⟨v, h1, e1, lv, w1, _⟩ := next_w w D (L := 8) (by decide)
  obtain ⟨x, h2, e2, lx, w2, _⟩ := next_w w1 D (L := 3) (by decide)
  -- the limit
  have pro : ∃ lim h3, mIfS (bCmp cEq (mCall 2 (m_law_next cc) (aCons (mVar 0) (aCons (mC (.int 3)) aNil))) (mC (.int 0))) (mAsg (.one 5) (mCall 2 (m_law_next cc) (aCons (mVar 0) (aCons (mC (.int 7)) aNil)))) mNx [some (.ref 1), some (.ref 2), some (.ref ll), some (.ref sl), some (.int v), some .non, none, none, none, none, none, none, none] h1 = .nx [some (.ref 1), some (.ref 2), some (.ref ll), some (.ref sl), some (.int v), some (lims lim), none, none, none, none, none, none, none] h3 ∧ W cc h3 vs lp sp ll sl d st d st := by
    by_cases c : x = 0
    · obtain ⟨y, h3, e3, ly, w3, _⟩ := next_w w2 D (L := 7) (by decide)
      exact ⟨some y, h3, by subst c; simp [e_ifs, e2, e3, lims], w3⟩
    · exact ⟨none, h2, by simp [e_ifs, e2, c, lims], w2⟩
  obtain ⟨lim, h3, e3, w3⟩ := pro
  by_cases c3 : v < 3
  · -- write
    obtain ⟨n, h4, da, e4, n4, g4, w4, l4⟩ := data_ok w3 D (env := [some (.ref 1), some (.ref 2), some (.ref ll), some (.ref sl), some (.int v), some (lims lim), none, none, none, none, none, none, none]) rfl (by simp)
    have w5 := w4.ext (Ext.app h4 [.lst (In da)])
    obtain ⟨c, h6, l, ec, e6, eh6, w6⟩ := write_ok w5 (x := h4.length) (da := da) (by simp) (by omega) lim
    have hs4 := lt_get w4.s1
    have hl4 := lt_get w4.s2
    have hll4 := lt_get w4.l2
    have g3 := lt_get g4
    have nsp : sp < h3.length := lt_get w3.s1
    have lsl : sl < h3.length := lt_get w3.s2
    have gp : h6[h4.length]? = some (.lst (In da)) := by
      rw [eh6, List.getElem?_set_ne (by omega)]
      simp
    have gn : h6[n]? = some (.lst (In da)) := by
      rw [eh6, List.getElem?_set_ne (by omega), List.getElem?_append_left (by simp; omega), List.getElem?_append_left g3, g4]
    have w7 := w6.other w4 (Nat.le_refl _) (.lst (In da ++ [.int 9]))
    have gn7 : (h6.set h4.length (.lst (In da ++ [.int 9])))[n]? = some (.lst (In da)) := by rw [List.getElem?_set_ne (by omega)]; exact gn
    generalize eh7 : h6.set h4.length (.lst (In da ++ [.int 9])) = h7 at w7 gn7
    have w7n := w7.n2
    have w7l := lt_get w7.s1
    have hc : (In da).take c = In (da.take c) := List.map_take.symm
    have q := lc_pure (mi := itE (mSl (mVar 6) oNone (oSome (mVar 7)))) (k := .one 11) (me := mTup (aCons (mC (.int 0)) (aCons (mVar 11) aNil))) (vs := [11]) (env := [some (.ref 1), some (.ref 2), some (.ref ll), some (.ref sl), some (.int v), some (lims lim), some (.ref n), some (.int c), some (.ref h4.length), some (.int c), none, none, none]) (h := h7) (c := [(h7.length, In (da.take c))]) (us := In (da.take c)) (h1 := h7 ++ [.lst (In (da.take c))])
      (fun u => .tup [.int 0, u]) (by simp [gn7, hc, e_seq_ref, -List.map_take]) (fun o => by rw [chk_one]; simp) (by simp; omega) (fun u hu h' _ => ⟨_, rfl, by simp [wipeE]⟩)
    have e : (In (da.take c)).map (fun u => U.tup [.int 0, u]) = (((da.take c).map fun n => (true, n)).map lt) := by
      rw [List.map_map, List.map_map]; rfl
    rw [e, List.append_assoc] at q
    have s2 := w7.s2
    have hz : st.length + min c da.length ≤ 16000000 := by omega
    refine ⟨h7.length + 3, h7 ++ [.lst (In (da.take c)), .lst (((da.take c).map fun n => (true, n)).map lt), .lst ((st ++ (da.take c).map fun n => (true, n)).map lt), .lst [.bl true, .ref ll, .ref (h7.length + 2)]], lp, sp, ll, h7.length + 2, d, st ++ (da.take c).map fun n => (true, n), ?_, by simp, (w7.ext (Ext.app h7 _)).law ?_ (by simp) w3.n3 (by omega) w3.n6 ?_, by simp; omega⟩
    · refine e_fn_rt ?_
      refine (e_seq_nx (h1 := h1) (e := [some (.ref 1), some (.ref 2), some (.ref ll), some (.ref sl), some (.int v), none, none, none, none, none, none, none, none]) (by simp [e1])).trans ?_
      refine (e_seq_nx (h1 := h1) (e := [some (.ref 1), some (.ref 2), some (.ref ll), some (.ref sl), some (.int v), some .non, none, none, none, none, none, none, none]) (by simp)).trans ?_
      refine (e_seq_nx e3).trans ?_
      refine e_seq_rt ?_
      refine (e_ifs' (b := true) (h1 := h3) (by simp; omega)).trans ?_
      rw [if_pos rfl]
      refine (e_seq_nx (h1 := h4) (e := [some (.ref 1), some (.ref 2), some (.ref ll), some (.ref sl), some (.int v), some (lims lim), some (.ref n), none, none, none, none, none, none]) (by rw [e_asg, e4]; rfl)).trans ?_
      refine (e_seq_nx (h1 := h4) (e := [some (.ref 1), some (.ref 2), some (.ref ll), some (.ref sl), some (.int v), some (lims lim), some (.ref n), some (.int da.length), none, none, none, none, none]) (by simp [g4])).trans ?_
      refine (e_seq_nx (h1 := h4) (e := [some (.ref 1), some (.ref 2), some (.ref ll), some (.ref sl), some (.int v), some (lims lim), some (.ref n), some (.int c), none, none, none, none, none]) ?_).trans ?_
      · cases lim with
        | none => simp only at ec; simp [e_ifs, lims, ec]
        | some s =>
          simp only at ec
          have : (if s < da.length then (s : Int) else da.length) = c := by split <;> omega
          simp [e_ifs, lims, this]
      refine (e_seq_nx (h1 := h4 ++ [.lst (In da)]) (e := [some (.ref 1), some (.ref 2), some (.ref ll), some (.ref sl), some (.int v), some (lims lim), some (.ref n), some (.int c), some (.ref h4.length), none, none, none, none]) (by simp [g4])).trans ?_
      have f5 := w5.fi
      refine (e_seq_nx (h1 := h6) (e := [some (.ref 1), some (.ref 2), some (.ref ll), some (.ref sl), some (.int v), some (lims lim), some (.ref n), some (.int c), some (.ref h4.length), some (.int c), none, none, none]) (by simp [f5, e6])).trans ?_
      have hz2 : da.length < 16000000 := by omega
      refine (e_seq_nx (h1 := h7) (e := [some (.ref 1), some (.ref 2), some (.ref ll), some (.ref sl), some (.int v), some (lims lim), some (.ref n), some (.int c), some (.ref h4.length), some (.int c), none, none, none]) (by simp [gp, hz2, ← eh7])).trans ?_
      have s8 : (h7 ++ [.lst (In (da.take c)), .lst (((da.take c).map fun n => (true, n)).map lt)])[sl]? = some (.lst (st.map lt)) := Ext.get (Ext.app _ _) s2
      have sm := sameT_int h7 1 c
      simp [same_eq, sm, q, s2, hz, -List.map_take]
    · exact Ext.get (Ext.app _ _) w7.l2
    · have : h3.length ≤ n := n4
      have : h6.length = h7.length := by rw [← eh7]; simp
      have : h4.length + 1 ≤ h6.length := by have := lt_get gp; omega
      omega
  by_cases c5 : v < 5
  · -- shorten
    obtain ⟨n4, h4, e4, x4, l4, g4⟩ := af_ok w3 (by omega)
    have w4 := w3.ext x4
    have la := aft_len st d
    obtain ⟨z5, h5, e5, lz, w5, _⟩ := next_w w4 D (L := ((aft d st).length + 3 : Nat)) (by omega)
    obtain ⟨h6, st', e6, es, w6⟩ := shorten_ok w5 (by omega) z5 lim
    have nsp : sp < h6.length := lt_get w6.s1
    have s2 := w6.s2
    have s2r : ∀ l, (h6 ++ l)[sl]? = some (.lst (st.map lt)) := fun l => Ext.get (Ext.app _ _) s2
    have hz : st.length + 1 ≤ 16000000 := by omega
    by_cases cl : lim = some 0
    · rw [if_pos cl] at es e6
      rw [es] at w6
      refine ⟨h6.length, h6 ++ [.lst [.bl true, .ref ll, .ref sl]], lp, sp, ll, sl, d, st, ?_, by simp, w6.ext (Ext.app _ _), by omega⟩
      refine e_fn_rt ?_
      refine (e_seq_nx (h1 := h1) (e := [some (.ref 1), some (.ref 2), some (.ref ll), some (.ref sl), some (.int v), none, none, none, none, none, none, none, none]) (by simp [e1])).trans ?_
      refine (e_seq_nx (h1 := h1) (e := [some (.ref 1), some (.ref 2), some (.ref ll), some (.ref sl), some (.int v), some .non, none, none, none, none, none, none, none]) (by simp)).trans ?_
      refine (e_seq_nx e3).trans ?_
      refine (e_seq_nx (h1 := h3) (e := [some (.ref 1), some (.ref 2), some (.ref ll), some (.ref sl), some (.int v), some (lims lim), none, none, none, none, none, none, none]) ((e_ifs' (b := false) (h1 := h3) (by simp; omega)).trans rfl)).trans ?_
      refine e_seq_rt ?_
      refine (e_ifs' (b := true) (h1 := h3) (by simp; omega)).trans ?_
      rw [if_pos rfl]
      refine (e_seq_nx (h1 := h5) (e := [some (.ref 1), some (.ref 2), some (.ref ll), some (.ref sl), some (.int v), some (lims lim), none, none, none, none, none, none, some (.int z5)]) (by simp at e5; simp [e4, g4, e5])).trans ?_
      have f5 := w5.fi
      refine (e_seq_nx (h1 := h6) (e := [some (.ref 1), some (.ref 2), some (.ref ll), some (.ref sl), some (.int v), some (lims lim), none, none, none, some (.int 0), none, none, some (.int z5)]) (by simp [f5, e6])).trans ?_
      refine e_seq_rt ?_
      have sm := sameT_int h6 1 0
      simp [cl, lims, e_ifs, same_eq, sm]
    · rw [if_neg cl] at es e6
      rw [es] at w6
      refine ⟨h6.length + 2, h6 ++ [.lst [lt (false, z5)], .lst ((st ++ [(false, z5)]).map lt), .lst [.bl true, .ref ll, .ref (h6.length + 1)]], lp, sp, ll, h6.length + 1, d, st ++ [(false, z5)], ?_, by simp, (w6.ext (Ext.app h6 _)).law (Ext.get (Ext.app _ _) w6.l2) (by simp) w6.n3 (by have := w6.n2; omega) w6.n6 (by omega), by simp; omega⟩
      refine e_fn_rt ?_
      refine (e_seq_nx (h1 := h1) (e := [some (.ref 1), some (.ref 2), some (.ref ll), some (.ref sl), some (.int v), none, none, none, none, none, none, none, none]) (by simp [e1])).trans ?_
      refine (e_seq_nx (h1 := h1) (e := [some (.ref 1), some (.ref 2), some (.ref ll), some (.ref sl), some (.int v), some .non, none, none, none, none, none, none, none]) (by simp)).trans ?_
      refine (e_seq_nx e3).trans ?_
      refine (e_seq_nx (h1 := h3) (e := [some (.ref 1), some (.ref 2), some (.ref ll), some (.ref sl), some (.int v), some (lims lim), none, none, none, none, none, none, none]) ((e_ifs' (b := false) (h1 := h3) (by simp; omega)).trans rfl)).trans ?_
      refine e_seq_rt ?_
      refine (e_ifs' (b := true) (h1 := h3) (by simp; omega)).trans ?_
      rw [if_pos rfl]
      refine (e_seq_nx (h1 := h5) (e := [some (.ref 1), some (.ref 2), some (.ref ll), some (.ref sl), some (.int v), some (lims lim), none, none, none, none, none, none, some (.int z5)]) (by simp at e5; simp [e4, g4, e5])).trans ?_
      have f5 := w5.fi
      refine (e_seq_nx (h1 := h6) (e := [some (.ref 1), some (.ref 2), some (.ref ll), some (.ref sl), some (.int v), some (lims lim), none, none, none, some (.int 1), none, none, some (.int z5)]) (by simp [f5, e6])).trans ?_
      refine (e_seq_nx (h1 := h6) (e := [some (.ref 1), some (.ref 2), some (.ref ll), some (.ref sl), some (.int v), some (lims lim), none, none, none, some (.int 1), none, none, some (.int z5)]) ?_).trans ?_
      · cases lim with
        | none =>
          have q : cEq h6 .non (.int 0) = some false := rfl
          simp [lims, e_ifs, q]
        | some s =>
          have : s ≠ 0 := fun z => cl (by rw [z])
          simp [lims, e_ifs, this]
      have sm := sameT_int h6 1 1
      simp [same_eq, sm, s2, hz, lt]
  by_cases c7 : v < 7
  · -- flush
    obtain ⟨h6, lp', sp', d', st', e6, ed, es, w6⟩ := flush_ok w3 (by omega) lim
    have f3 := w3.fi
    by_cases cl : lim = some 0
    · rw [if_pos cl] at es ed e6
      rw [es, ed] at w6
      refine ⟨h6.length, h6 ++ [.lst [.bl true, .ref ll, .ref sl]], lp', sp', ll, sl, d, st, ?_, by simp, w6.ext (Ext.app _ _), by omega⟩
      refine e_fn_rt ?_
      refine (e_seq_nx (h1 := h1) (e := [some (.ref 1), some (.ref 2), some (.ref ll), some (.ref sl), some (.int v), none, none, none, none, none, none, none, none]) (by simp [e1])).trans ?_
      refine (e_seq_nx (h1 := h1) (e := [some (.ref 1), some (.ref 2), some (.ref ll), some (.ref sl), some (.int v), some .non, none, none, none, none, none, none, none]) (by simp)).trans ?_
      refine (e_seq_nx e3).trans ?_
      refine (e_seq_nx (h1 := h3) (e := [some (.ref 1), some (.ref 2), some (.ref ll), some (.ref sl), some (.int v), some (lims lim), none, none, none, none, none, none, none]) ((e_ifs' (b := false) (h1 := h3) (by simp; omega)).trans rfl)).trans ?_
      refine (e_seq_nx (h1 := h3) (e := [some (.ref 1), some (.ref 2), some (.ref ll), some (.ref sl), some (.int v), some (lims lim), none, none, none, none, none, none, none]) ((e_ifs' (b := false) (h1 := h3) (by simp; omega)).trans rfl)).trans ?_
      refine e_seq_rt ?_
      refine (e_ifs' (b := true) (h1 := h3) (by simp; omega)).trans ?_
      rw [if_pos rfl]
      refine (e_seq_nx (h1 := h6) (e := [some (.ref 1), some (.ref 2), some (.ref ll), some (.ref sl), some (.int v), some (lims lim), none, none, none, some (.int 0), none, none, none]) (by simp [f3, e6])).trans ?_
      refine e_seq_rt ?_
      have sm := sameT_int h6 1 0
      simp [cl, lims, e_ifs, same_eq, sm]
    · rw [if_neg cl] at es ed e6
      rw [es, ed] at w6
      obtain ⟨n7, h7, e7, x7, l7, g7⟩ := af_ok w6 (by omega)
      have w7 := w6.ext x7
      have la := aft_len st d
      have g7l := lt_get g7
      have n2 := w7.n2
      have nsp : sp' < h6.length := lt_get w6.s1
      refine ⟨h7.length + 1, h7 ++ [.lst [], .lst [.bl true, .ref n7, .ref h7.length]], lp', sp', n7, h7.length, aft d st, [], ?_, by simp, (w7.ext (Ext.app h7 _)).law (Ext.get (Ext.app _ _) g7) (by simp) (by omega) (by omega) (by omega) (by omega), by simp; omega⟩
      refine e_fn_rt ?_
      refine (e_seq_nx (h1 := h1) (e := [some (.ref 1), some (.ref 2), some (.ref ll), some (.ref sl), some (.int v), none, none, none, none, none, none, none, none]) (by simp [e1])).trans ?_
      refine (e_seq_nx (h1 := h1) (e := [some (.ref 1), some (.ref 2), some (.ref ll), some (.ref sl), some (.int v), some .non, none, none, none, none, none, none, none]) (by simp)).trans ?_
      refine (e_seq_nx e3).trans ?_
      refine (e_seq_nx (h1 := h3) (e := [some (.ref 1), some (.ref 2), some (.ref ll), some (.ref sl), some (.int v), some (lims lim), none, none, none, none, none, none, none]) ((e_ifs' (b := false) (h1 := h3) (by simp; omega)).trans rfl)).trans ?_
      refine (e_seq_nx (h1 := h3) (e := [some (.ref 1), some (.ref 2), some (.ref ll), some (.ref sl), some (.int v), some (lims lim), none, none, none, none, none, none, none]) ((e_ifs' (b := false) (h1 := h3) (by simp; omega)).trans rfl)).trans ?_
      refine e_seq_rt ?_
      refine (e_ifs' (b := true) (h1 := h3) (by simp; omega)).trans ?_
      rw [if_pos rfl]
      refine (e_seq_nx (h1 := h6) (e := [some (.ref 1), some (.ref 2), some (.ref ll), some (.ref sl), some (.int v), some (lims lim), none, none, none, some (.int 1), none, none, none]) (by simp [f3, e6])).trans ?_
      refine (e_seq_nx (h1 := h6) (e := [some (.ref 1), some (.ref 2), some (.ref ll), some (.ref sl), some (.int v), some (lims lim), none, none, none, some (.int 1), none, none, none]) ?_).trans ?_
      · cases lim with
        | none =>
          have q : cEq h6 .non (.int 0) = some false := rfl
          simp [lims, e_ifs, q]
        | some s =>
          have : s ≠ 0 := fun z => cl (by rw [z])
          simp [lims, e_ifs, this]
      have sm := sameT_int h6 1 1
      simp [same_eq, sm, e7]
  · -- lose
    obtain ⟨c, h4, e4, lc, w4, _⟩ := next_w w3 D (L := (st.length + 3 : Nat)) (by omega)
    obtain ⟨h5, lp', sp', e5, w5⟩ := lose_ok w4 (by omega) c
    have w6 := w5.ext (Ext.app h5 [.lst ((st.take c).map lt)])
    have s5 := w5.s2
    obtain ⟨n7, h7, e7, x7, l7, g7⟩ := after_ok (cc := cc) (h := h5 ++ [.lst ((st.take c).map lt)]) (x := .ref ll) (y := h5.length) (d := d) (st := st.take c) (by rw [e_sL_ref, w6.l2]) (by simp) (by simp; omega)
    have w7 := w6.ext x7
    have la := aft_len (st.take c) d
    have g7l := lt_get g7
    have n2 := w7.n2
    have nsp : sp' < h5.length := lt_get w5.s1
    simp only [List.length_append, List.length_singleton] at l7
    have lt2 : (st.take c).length ≤ st.length := by simp; omega
    have f4 := w4.fi
    have s3 := w3.s2
    refine ⟨h7.length + 1, h7 ++ [.lst [], .lst [.bl true, .ref n7, .ref h7.length]], lp', sp', n7, h7.length, aft d (st.take c), [], ?_, by simp, (w7.ext (Ext.app h7 _)).law (Ext.get (Ext.app _ _) g7) (by simp) (by omega) (by omega) (by omega) (by omega), by simp; omega⟩
    refine e_fn_rt ?_
    refine (e_seq_nx (h1 := h1) (e := [some (.ref 1), some (.ref 2), some (.ref ll), some (.ref sl), some (.int v), none, none, none, none, none, none, none, none]) (by simp [e1])).trans ?_
    refine (e_seq_nx (h1 := h1) (e := [some (.ref 1), some (.ref 2), some (.ref ll), some (.ref sl), some (.int v), some .non, none, none, none, none, none, none, none]) (by simp)).trans ?_
    refine (e_seq_nx e3).trans ?_
    refine (e_seq_nx (h1 := h3) (e := [some (.ref 1), some (.ref 2), some (.ref ll), some (.ref sl), some (.int v), some (lims lim), none, none, none, none, none, none, none]) ((e_ifs' (b := false) (h1 := h3) (by simp; omega)).trans rfl)).trans ?_
    refine (e_seq_nx (h1 := h3) (e := [some (.ref 1), some (.ref 2), some (.ref ll), some (.ref sl), some (.int v), some (lims lim), none, none, none, none, none, none, none]) ((e_ifs' (b := false) (h1 := h3) (by simp; omega)).trans rfl)).trans ?_
    refine (e_seq_nx (h1 := h3) (e := [some (.ref 1), some (.ref 2), some (.ref ll), some (.ref sl), some (.int v), some (lims lim), none, none, none, none, none, none, none]) ((e_ifs' (b := false) (h1 := h3) (by simp; omega)).trans rfl)).trans ?_
    refine (e_seq_nx (h1 := h4) (e := [some (.ref 1), some (.ref 2), some (.ref ll), some (.ref sl), some (.int v), some (lims lim), none, some (.int c), none, none, none, none, none]) (by simp at e4; simp [s3, e4])).trans ?_
    refine (e_seq_nx (h1 := h5) (e := [some (.ref 1), some (.ref 2), some (.ref ll), some (.ref sl), some (.int v), some (lims lim), none, some (.int c), none, none, none, none, none]) (by simp [f4, e5])).trans ?_
    rw [List.map_take] at e7
    simp [s5, e7]
theorem same_lists {a b : Nat} {da : List Nat} (ha : h[a]? = some (.lst (In da))) (hb : h[b]? = some (.lst (In da))) (z : da.length ≤ 1000000) : sameT 2 [.ref a, .ref b] h = .ok (.bl true) h :=
  sameT_ok (.lst (us := In da) (ts := In da) (by rw [e_aL_ref, ha]) (by rw [e_aL_ref, hb]) rfl (by simpa using z) fun i u t h1 h2 => by
    rw [h1] at h2
    cases h2
    rw [List.getElem?_map] at h1
    cases e : da[i]? with
    | none => rw [e] at h1; cases h1
    | some x => rw [e] at h1; cases h1; exact .int _)
theorem law_true : ∀ cc, semTrue (m_law cc) := by
  intro cc ns hn
  obtain ⟨vs, e0, D, lv⟩ := draws_ok [] hn
  have w0 : W cc [.lst (vs.map U.int), .lst [.ref 0, .int 20], .ins (cc 0) [(fL, .ref 3), (fS, .ref 4)], .lst [], .lst [], .lst [], .lst []] vs 3 4 5 6 [] [] [] [] :=
    ⟨rfl, ⟨20, by decide, rfl⟩, rfl, rfl, rfl, rfl, rfl, by decide, by decide, by decide, by decide, by decide, by decide, by decide⟩
  obtain ⟨v, h1, e1, lv1, w1, _⟩ := next_w w0 D (L := 31) (by decide)
  obtain ⟨env', h2, e2, P⟩ := for_rng0 (k := 5) (n := v) (env := [some (.kl (ns.map U.int)), some (.ref 1), some (.ref 2), some (.ref 5), some (.ref 6), none, none]) (h := h1) (body := (mSeq (mAsg (.lst [6, 3, 4]) (mCall 4 (m_law_deed cc) (aCons (mVar 1) (aCons (mVar 2) (aCons (mVar 3) (aCons (mVar 4) aNil))))))
    (mSeq (mIfS (bOr (bNot (bTru (mVar 6))) (bNot (bTru (mCall 2 (m_law_same cc 2) (aCons (mMeth (cc 0) "content" 1 (m_File_content cc) (mVar 2) aNil) (aCons (mCall 2 (m_law_after cc) (aCons (mVar 3) (aCons (mVar 4) aNil))) aNil)))))) (mRet (mC (.bl false))) mNx)
    (mSeq (mIfS (bNot (bTru (mCall 2 (m_law_same cc 2) (aCons (mMeth (cc 0) "pending" 1 (m_File_pending cc) (mVar 2) aNil) (aCons (mCB uLen (aCons (mVar 4) aNil)) aNil))))) (mRet (mC (.bl false))) mNx)
    (mSeq (mDrop (mLM uApp (mMeth (cc 0) "content" 1 (m_File_content cc) (mVar 2) aNil) (aCons (mC (.int 7)) aNil)))
    (mIfS (bAnd (bCmp cEq (mCall 2 (m_law_next cc) (aCons (mVar 1) (aCons (mC (.int 4)) aNil))) (mC (.int 0))) (bNot (bTru (mCall 2 (m_law_same cc 2) (aCons (mMeth (cc 0) "content" 1 (m_File_content cc) (mVar 2) aNil) (aCons (mCall 2 (m_law_after cc) (aCons (mVar 3) (aCons (mVar 4) aNil))) aNil)))))) (mRet (mC (.bl false))) mNx))))))
    (fun i env h => ∃ lp sp ll sl d st x5 x6, env = [some (.kl (ns.map U.int)), some (.ref 1), some (.ref 2), some (.ref ll), some (.ref sl), x5, x6] ∧ W cc h vs lp sp ll sl d st d st ∧ d.length + st.length ≤ 20 * i)
    ⟨3, 4, 5, 6, [], [], none, none, rfl, w1, by simp⟩ (by
      rintro i env h hi ⟨lp, sp, ll, sl, d, st, x5, x6, rfl, w, lz⟩
      obtain ⟨n, h3, lp', sp', ll', sl', d', st', e3, g3, w3, l3⟩ := deed_ok w D (by omega)
      have la := aft_len st' d'
      have cmp : ∀ h4, W cc h4 vs lp' sp' ll' sl' d' st' d' st' → ∃ h5, Ext h4 h5 ∧ mCall 2 (m_law_same cc 2) (aCons (mMeth (cc 0) "content" 1 (m_File_content cc) (mVar 2) aNil) (aCons (mCall 2 (m_law_after cc) (aCons (mVar 3) (aCons (mVar 4) aNil))) aNil)) [some (.kl (ns.map U.int)), some (.ref 1), some (.ref 2), some (.ref ll'), some (.ref sl'), some (.int (i : Nat)), some (.bl true)] h4 = .ok (.bl true) h5 := by
        intro h4 w4
        obtain ⟨a, h5, e5, x5, l5, g5⟩ := content_ok w4 (by omega)
        have w5 := w4.ext x5
        obtain ⟨b, h6, e6, x6, l6, g6⟩ := af_ok w5 (by omega)
        have sm := same_lists (x6.get g5) g6 (by omega)
        have f4 := w4.fi
        exact ⟨h6, x5.trans x6, by simp [f4, e5, e6, same_eq, sm]⟩
      obtain ⟨h4, x4, e4⟩ := cmp h3 w3
      have w4 := w3.ext x4
      have f4 := w4.fi
      have s4 := w4.s2
      have e5 := pending_ok w4
      have sm := sameT_int h4 1 st'.length
      obtain ⟨c, h5, e6, x5', l5, g5⟩ := content_ok w4 (by omega)
      have w6 := (w4.ext x5').other w4 l5 (.lst (In (aft d' st') ++ [.int 7]))
      obtain ⟨y, h7, e7, ly, w7, _⟩ := next_w w6 D (L := 4) (by decide)
      obtain ⟨h8, x8, e8⟩ := cmp h7 w7
      have w8 := w7.ext x8
      have hz : (aft d' st').length < 16000000 := by omega
      have head : ∀ m : SM, mSeq (mAsg (.lst [6, 3, 4]) (mCall 4 (m_law_deed cc) (aCons (mVar 1) (aCons (mVar 2) (aCons (mVar 3) (aCons (mVar 4) aNil)))))) m [some (.kl (ns.map U.int)), some (.ref 1), some (.ref 2), some (.ref ll), some (.ref sl), some (.int (i : Nat)), x6] h = m [some (.kl (ns.map U.int)), some (.ref 1), some (.ref 2), some (.ref ll'), some (.ref sl'), some (.int (i : Nat)), some (.bl true)] h3 := fun m =>
        e_seq_nx (by simp [e3, g3])
      by_cases c0 : y = 0
      · refine ⟨[some (.kl (ns.map U.int)), some (.ref 1), some (.ref 2), some (.ref ll'), some (.ref sl'), some (.int (i : Nat)), some (.bl true)], h8, .inl ?_, lp', sp', ll', sl', d', st', _, _, rfl, w8, by omega⟩
        refine (head _).trans ?_
        refine (e_seq_nx (h1 := h4) (e := _) ((e_ifs' (b := false) (h1 := h4) (by simp [-e_call, e4])).trans rfl)).trans ?_
        refine (e_seq_nx (h1 := h4) (e := [some (.kl (ns.map U.int)), some (.ref 1), some (.ref 2), some (.ref ll'), some (.ref sl'), some (.int (i : Nat)), some (.bl true)]) (by simp [e_ifs, f4, e5, s4, same_eq, sm])).trans ?_
        refine (e_seq_nx (h1 := h5.set c (.lst (In (aft d' st') ++ [.int 7]))) (e := [some (.kl (ns.map U.int)), some (.ref 1), some (.ref 2), some (.ref ll'), some (.ref sl'), some (.int (i : Nat)), some (.bl true)]) (by simp [f4, e6, g5, hz])).trans ?_
        refine (e_ifs' (b := false) (h1 := h8) ?_).trans rfl
        subst c0
        have e7c : mCall 2 (m_law_next cc) (aCons (mVar 1) (aCons (mC (.int 4)) aNil)) [some (.kl (ns.map U.int)), some (.ref 1), some (.ref 2), some (.ref ll'), some (.ref sl'), some (.int (i : Nat)), some (.bl true)] (h5.set c (.lst (In (aft d' st') ++ [.int 7]))) = .ok (.int (0 : Nat)) h7 := by simp at e7; simp [e7]
        simp [-e_call, e7c, e8]
      · refine ⟨[some (.kl (ns.map U.int)), some (.ref 1), some (.ref 2), some (.ref ll'), some (.ref sl'), some (.int (i : Nat)), some (.bl true)], h7, .inl ?_, lp', sp', ll', sl', d', st', _, _, rfl, w7, by omega⟩
        refine (head _).trans ?_
        refine (e_seq_nx (h1 := h4) (e := _) ((e_ifs' (b := false) (h1 := h4) (by simp [-e_call, e4])).trans rfl)).trans ?_
        refine (e_seq_nx (h1 := h4) (e := [some (.kl (ns.map U.int)), some (.ref 1), some (.ref 2), some (.ref ll'), some (.ref sl'), some (.int (i : Nat)), some (.bl true)]) (by simp [e_ifs, f4, e5, s4, same_eq, sm])).trans ?_
        refine (e_seq_nx (h1 := h5.set c (.lst (In (aft d' st') ++ [.int 7]))) (e := [some (.kl (ns.map U.int)), some (.ref 1), some (.ref 2), some (.ref ll'), some (.ref sl'), some (.int (i : Nat)), some (.bl true)]) (by simp [f4, e6, g5, hz])).trans ?_
        refine (e_ifs' (b := false) (h1 := h7) ?_).trans rfl
        simp [e7, c0])
  obtain ⟨lp, sp, ll, sl, d, st, x5, x6, rfl, w2, lz⟩ := P
  obtain ⟨h3, lp', sp', e3, w3⟩ := lose_ok w2 (by omega) 0
  obtain ⟨a, h4, e4, x4, l4, g4⟩ := content_ok w3 (by simp [aft]; omega)
  have w4 := w3.ext x4
  have e5 := pending_ok w4
  have sm := same_lists g4 w4.l2 (by simp [aft]; omega)
  have sm2 := sameT_int h4 1 0
  have f2 := w2.fi
  have f3 := w3.fi
  have f4 := w4.fi
  refine ⟨h4, ?_⟩
  refine e_fn_rt ?_
  refine (e_seq_nx (h1 := [.lst (vs.map U.int), .lst [.ref 0, .int 20]]) (e := [some (.kl (ns.map U.int)), some (.ref 1), none, none, none, none, none]) (by simp at e0; simp [draws_eq, e0])).trans ?_
  refine (e_seq_nx (h1 := [.lst (vs.map U.int), .lst [.ref 0, .int 20], .ins (cc 0) [(fL, .ref 3), (fS, .ref 4)], .lst [], .lst []]) (e := [some (.kl (ns.map U.int)), some (.ref 1), some (.ref 2), none, none, none, none]) ?_).trans ?_
  · have q : m_File__init__ cc [.ref 2] [.lst (vs.map U.int), .lst [.ref 0, .int 20], .ins (cc 0) []] = .ok .non [.lst (vs.map U.int), .lst [.ref 0, .int 20], .ins (cc 0) [(fL, .ref 3), (fS, .ref 4)], .lst [], .lst []] := by
      refine e_fn_nx (e := [some (.ref 2)]) ?_
      refine (e_seq_nx (h1 := [.lst (vs.map U.int), .lst [.ref 0, .int 20], .ins (cc 0) [(fL, .ref 3)], .lst []]) (e := [some (.ref 2)]) (by simp)).trans ?_
      simp
    simp [q]
  refine (e_seq_nx (h1 := [.lst (vs.map U.int), .lst [.ref 0, .int 20], .ins (cc 0) [(fL, .ref 3), (fS, .ref 4)], .lst [], .lst [], .lst []]) (e := [some (.kl (ns.map U.int)), some (.ref 1), some (.ref 2), some (.ref 5), none, none, none]) (by simp)).trans ?_
  refine (e_seq_nx (h1 := [.lst (vs.map U.int), .lst [.ref 0, .int 20], .ins (cc 0) [(fL, .ref 3), (fS, .ref 4)], .lst [], .lst [], .lst [], .lst []]) (e := [some (.kl (ns.map U.int)), some (.ref 1), some (.ref 2), some (.ref 5), some (.ref 6), none, none]) (by simp)).trans ?_
  have hv : -1000000000 ≤ (v : Int) ∧ (v : Int) ≤ 1000000000 := by omega
  refine (e_seq_nx (h1 := h2) (e := _) ((e_for (c := []) (us := rng 0 v) (h1 := h1) (by simp [e1]; omega)).trans e2)).trans ?_
  refine (e_seq_nx (h1 := h3) (e := [some (.kl (ns.map U.int)), some (.ref 1), some (.ref 2), some (.ref ll), some (.ref sl), x5, x6]) (by simp at e3; simp [f2, e3])).trans ?_
  simp [f3, f4, e4, e5, same_eq, sm, sm2, aft] 
end
end
end LAW

set_option Elab.async false
set_option linter.all false
set_option maxRecDepth 100000
set_option maxHeartbeats 4000000
namespace LAW
open PySem PySem.Spec PyProof.Rows L2 TL Q
def topS (i : Nat) : Stmt := PySem.Challenge.pw_quillrun_k42_files_keep_a_beginning.main.body.getD i (.Pass ⟨0, 0, 0, 0⟩)
abbrev s_File__init__ : Stmt := inClass (topS 2) 0
abbrev n_File__init__ : List Str := ["self"]
theorem sc_File__init__ : FnScope n_File__init__ ["self"] (defScope s_File__init__) := ⟨rfl, rfl, rfl, by decide +kernel, rfl, by decide +kernel, by decide +kernel⟩
abbrev s_applied : Stmt := topS 1
abbrev n_applied : List Str := ["data", "steps", "result", "name", "number"]
theorem sc_applied : FnScope n_applied ["data", "steps"] (defScope s_applied) := ⟨rfl, rfl, rfl, by decide +kernel, rfl, by decide +kernel, by decide +kernel⟩
abbrev s_File_lose : Stmt := inClass (topS 2) 6
abbrev n_File_lose : List Str := ["self", "steps"]
theorem sc_File_lose : FnScope n_File_lose ["self", "steps"] (defScope s_File_lose) := ⟨rfl, rfl, rfl, by decide +kernel, rfl, by decide +kernel, by decide +kernel⟩
abbrev s_law_mix : Stmt := topS 4
abbrev n_law_mix : List Str := ["_law_cell", "_law_k", "_law_value"]
theorem sc_law_mix : FnScope n_law_mix ["_law_cell", "_law_k"] (defScope s_law_mix) := ⟨rfl, rfl, rfl, by decide +kernel, rfl, by decide +kernel, by decide +kernel⟩
abbrev s_law_draws : Stmt := topS 5
abbrev n_law_draws : List Str := ["_law_script", "_law_draws_here", "_law_k", "_law_cell", "_law_place"]
theorem sc_law_draws : FnScope n_law_draws ["_law_script"] (defScope s_law_draws) := ⟨rfl, rfl, rfl, by decide +kernel, rfl, by decide +kernel, by decide +kernel⟩
abbrev s_law_at : Stmt := topS 6
abbrev n_law_at : List Str := ["_law_draws_here", "_law_index"]
theorem sc_law_at : FnScope n_law_at ["_law_draws_here", "_law_index"] (defScope s_law_at) := ⟨rfl, rfl, rfl, by decide +kernel, rfl, by decide +kernel, by decide +kernel⟩
abbrev s_law_next : Stmt := topS 9
abbrev n_law_next : List Str := ["_law_state", "_law_limit"]
theorem sc_law_next : FnScope n_law_next ["_law_state", "_law_limit"] (defScope s_law_next) := ⟨rfl, rfl, rfl, by decide +kernel, rfl, by decide +kernel, by decide +kernel⟩
abbrev s_File_write : Stmt := inClass (topS 2) 1
abbrev n_File_write : List Str := ["self", "data", "steps", "count", "byte"]
theorem sc_File_write : FnScope n_File_write ["self", "data", "steps"] (defScope s_File_write) := ⟨rfl, rfl, rfl, by decide +kernel, rfl, by decide +kernel, by decide +kernel⟩
abbrev s_File_shorten : Stmt := inClass (topS 2) 2
abbrev n_File_shorten : List Str := ["self", "size", "steps"]
theorem sc_File_shorten : FnScope n_File_shorten ["self", "size", "steps"] (defScope s_File_shorten) := ⟨rfl, rfl, rfl, by decide +kernel, rfl, by decide +kernel, by decide +kernel⟩
abbrev s_File_flush : Stmt := inClass (topS 2) 3
abbrev n_File_flush : List Str := ["self", "steps"]
theorem sc_File_flush : FnScope n_File_flush ["self", "steps"] (defScope s_File_flush) := ⟨rfl, rfl, rfl, by decide +kernel, rfl, by decide +kernel, by decide +kernel⟩
abbrev s_law_after : Stmt := topS 10
abbrev n_law_after : List Str := ["_law_data", "_law_steps", "_law_kind", "_law_number"]
theorem sc_law_after : FnScope n_law_after ["_law_data", "_law_steps"] (defScope s_law_after) := ⟨rfl, rfl, rfl, by decide +kernel, rfl, by decide +kernel, by decide +kernel⟩
abbrev s_law_is_integer : Stmt := topS 7
abbrev n_law_is_integer : List Str := ["_law_actual"]
theorem sc_law_is_integer : FnScope n_law_is_integer ["_law_actual"] (defScope s_law_is_integer) := ⟨rfl, rfl, rfl, by decide +kernel, rfl, by decide +kernel, by decide +kernel⟩
abbrev s_law_same : Stmt := topS 8
abbrev n_law_same : List Str := ["_law_actual", "_law_expected", "_law_k"]
theorem sc_law_same : FnScope n_law_same ["_law_actual", "_law_expected"] (defScope s_law_same) := ⟨rfl, rfl, rfl, by decide +kernel, rfl, by decide +kernel, by decide +kernel⟩
abbrev s_law_deed : Stmt := topS 11
abbrev n_law_deed : List Str := ["_law_state", "_law_file", "_law_lasting", "_law_steps", "_law_pick", "_law_limit", "_law_data", "_law_count", "_law_passed", "_law_done", "_law_k", "_law_byte", "_law_size"]
theorem sc_law_deed : FnScope n_law_deed ["_law_state", "_law_file", "_law_lasting", "_law_steps"] (defScope s_law_deed) := ⟨rfl, rfl, rfl, by decide +kernel, rfl, by decide +kernel, by decide +kernel⟩
abbrev s_File_content : Stmt := inClass (topS 2) 4
abbrev n_File_content : List Str := ["self"]
theorem sc_File_content : FnScope n_File_content ["self"] (defScope s_File_content) := ⟨rfl, rfl, rfl, by decide +kernel, rfl, by decide +kernel, by decide +kernel⟩
abbrev s_File_pending : Stmt := inClass (topS 2) 5
abbrev n_File_pending : List Str := ["self"]
theorem sc_File_pending : FnScope n_File_pending ["self"] (defScope s_File_pending) := ⟨rfl, rfl, rfl, by decide +kernel, rfl, by decide +kernel, by decide +kernel⟩
abbrev s_law : Stmt := topS 12
abbrev n_law : List Str := ["_law_script", "_law_state", "_law_file", "_law_lasting", "_law_steps", "_law_k", "_law_right"]
theorem sc_law : FnScope n_law ["_law_script"] (defScope s_law) := ⟨rfl, rfl, rfl, by decide +kernel, rfl, by decide +kernel, by decide +kernel⟩
structure Txt (K : Fr) (mg : Str → Option Value) where
  cc : Nat → Nat
  a_File__init__ : Addr
  fd_File__init__ : FuncData
  F_File__init__ : Fun K "__init__" "File.__init__" s_File__init__ a_File__init__ fd_File__init__
  b_File__init__ : Binds K fd_File__init__ ["self"] []
  me_File__init__ : Meth K (cc 0) "__init__" a_File__init__
  a_applied : Addr
  fd_applied : FuncData
  F_applied : Fun K "_applied" "_applied" s_applied a_applied fd_applied
  b_applied : Binds K fd_applied ["data", "steps"] []
  g_applied : mg "_applied" = some (.ref a_applied)
  a_File_lose : Addr
  fd_File_lose : FuncData
  F_File_lose : Fun K "lose" "File.lose" s_File_lose a_File_lose fd_File_lose
  b_File_lose : Binds K fd_File_lose ["self", "steps"] []
  me_File_lose : Meth K (cc 0) "lose" a_File_lose
  a_law_mix : Addr
  fd_law_mix : FuncData
  F_law_mix : Fun K "_law_mix" "_law_mix" s_law_mix a_law_mix fd_law_mix
  b_law_mix : Binds K fd_law_mix ["_law_cell", "_law_k"] []
  g_law_mix : mg "_law_mix" = some (.ref a_law_mix)
  a_law_draws : Addr
  fd_law_draws : FuncData
  F_law_draws : Fun K "_law_draws" "_law_draws" s_law_draws a_law_draws fd_law_draws
  b_law_draws : Binds K fd_law_draws ["_law_script"] []
  g_law_draws : mg "_law_draws" = some (.ref a_law_draws)
  a_law_at : Addr
  fd_law_at : FuncData
  F_law_at : Fun K "_law_at" "_law_at" s_law_at a_law_at fd_law_at
  b_law_at : Binds K fd_law_at ["_law_draws_here", "_law_index"] []
  g_law_at : mg "_law_at" = some (.ref a_law_at)
  a_law_next : Addr
  fd_law_next : FuncData
  F_law_next : Fun K "_law_next" "_law_next" s_law_next a_law_next fd_law_next
  b_law_next : Binds K fd_law_next ["_law_state", "_law_limit"] []
  g_law_next : mg "_law_next" = some (.ref a_law_next)
  a_File_write : Addr
  fd_File_write : FuncData
  F_File_write : Fun K "write" "File.write" s_File_write a_File_write fd_File_write
  b_File_write : Binds K fd_File_write ["self", "data", "steps"] []
  me_File_write : Meth K (cc 0) "write" a_File_write
  a_File_shorten : Addr
  fd_File_shorten : FuncData
  F_File_shorten : Fun K "shorten" "File.shorten" s_File_shorten a_File_shorten fd_File_shorten
  b_File_shorten : Binds K fd_File_shorten ["self", "size", "steps"] []
  me_File_shorten : Meth K (cc 0) "shorten" a_File_shorten
  a_File_flush : Addr
  fd_File_flush : FuncData
  F_File_flush : Fun K "flush" "File.flush" s_File_flush a_File_flush fd_File_flush
  b_File_flush : Binds K fd_File_flush ["self", "steps"] []
  me_File_flush : Meth K (cc 0) "flush" a_File_flush
  a_law_after : Addr
  fd_law_after : FuncData
  F_law_after : Fun K "_law_after" "_law_after" s_law_after a_law_after fd_law_after
  b_law_after : Binds K fd_law_after ["_law_data", "_law_steps"] []
  g_law_after : mg "_law_after" = some (.ref a_law_after)
  a_law_is_integer : Addr
  fd_law_is_integer : FuncData
  F_law_is_integer : Fun K "_law_is_integer" "_law_is_integer" s_law_is_integer a_law_is_integer fd_law_is_integer
  b_law_is_integer : Binds K fd_law_is_integer ["_law_actual"] []
  g_law_is_integer : mg "_law_is_integer" = some (.ref a_law_is_integer)
  a_law_same : Addr
  fd_law_same : FuncData
  F_law_same : Fun K "_law_same" "_law_same" s_law_same a_law_same fd_law_same
  b_law_same : Binds K fd_law_same ["_law_actual", "_law_expected"] []
  g_law_same : mg "_law_same" = some (.ref a_law_same)
  a_law_deed : Addr
  fd_law_deed : FuncData
  F_law_deed : Fun K "_law_deed" "_law_deed" s_law_deed a_law_deed fd_law_deed
  b_law_deed : Binds K fd_law_deed ["_law_state", "_law_file", "_law_lasting", "_law_steps"] []
  g_law_deed : mg "_law_deed" = some (.ref a_law_deed)
  a_File_content : Addr
  fd_File_content : FuncData
  F_File_content : Fun K "content" "File.content" s_File_content a_File_content fd_File_content
  b_File_content : Binds K fd_File_content ["self"] []
  me_File_content : Meth K (cc 0) "content" a_File_content
  a_File_pending : Addr
  fd_File_pending : FuncData
  F_File_pending : Fun K "pending" "File.pending" s_File_pending a_File_pending fd_File_pending
  b_File_pending : Binds K fd_File_pending ["self"] []
  me_File_pending : Meth K (cc 0) "pending" a_File_pending
  a_law : Addr
  fd_law : FuncData
  F_law : Fun K "law" "law" s_law a_law fd_law
  b_law : Binds K fd_law ["_law_script"] []
  g_law : mg "law" = some (.ref a_law)
  z_bool : mg "bool" = none
  z_int : mg "int" = none
  z_isinstance : mg "isinstance" = none
  z_len : mg "len" = none
  z_list : mg "list" = none
  z_min : mg "min" = none
  z_range : mg "range" = none
  z_str : mg "str" = none
  z_tuple : mg "tuple" = none
  cl_File : Cls K (cc 0)
  gc_File : mg "File" = some (.ref (cc 0))
  mk_File : Mk K (cc 0) a_File__init__
  fa_lasting : FA K [cc 0] "_lasting"
  fa_steps : FA K [cc 0] "_steps"
section
variable {P : Program} {W : World} {K : Fr} {mg : Str → Option Value} {base : Heap}
theorem ok_File__init__ (T : Txt K mg) : FnOk P W K mg base CX0 1 T.a_File__init__ T.fd_File__init__ ["self"] (spM K 1 (m_File__init__ T.cc)) :=
  fn_ok (k := 0) T.F_File__init__ sc_File__init__ fun cdv A outer s H E hr => (ss_cons (ss_fld T.fa_lasting (se_var (i := 0)) (se_lst sa_nil))
    (ss_one (ss_fld T.fa_steps (se_var (i := 0)) (se_lst sa_nil))))
theorem ok_applied (T : Txt K mg) : FnOk P W K mg base CX0 1 T.a_applied T.fd_applied ["data", "steps"] (spM K 2 (m_applied T.cc)) :=
  fn_ok (k := 0) T.F_applied sc_applied fun cdv A outer s H E hr => (ss_cons (ss_set (i := 2) sc_applied.nd rfl (by first | exact Or.inl rfl | exact Or.inr rfl) (se_list (by rfl) T.z_list (sa_cons (se_var (i := 0)) sa_nil)))
    (ss_cons (ss_for PassesOwn.never rfl (si_e (se_var (i := 1))) (pg_tupA (is := [3, 4]) rfl (pgs_c (i := 3) sc_applied.nd rfl (by first | exact Or.inl rfl | exact Or.inr rfl) (pgs_c (i := 4) sc_applied.nd rfl (by first | exact Or.inl rfl | exact Or.inr rfl) pgs_n))) (ss_one (ss_if (bt_eq (se_var (i := 3)) (se_str (by decide +kernel))) (ss_one (ss_expr (se_app (se_var (i := 2)) (sa_cons (se_var (i := 4)) sa_nil)))) (ss_one (ss_set (i := 2) sc_applied.nd rfl (by first | exact Or.inl rfl | exact Or.inr rfl) (se_sl (se_var (i := 2)) so_none (so_some (se_var (i := 4)))))))))
    (ss_one (ss_ret (se_var (i := 2))))))
theorem ok_File_lose (T : Txt K mg) : FnOk P W K mg base CX0 2 T.a_File_lose T.fd_File_lose ["self", "steps"] (spM K 2 (m_File_lose T.cc)) :=
  fn_ok (k := 1) T.F_File_lose sc_File_lose fun cdv A outer s H E hr => (ss_cons (ss_fld T.fa_lasting (se_var (i := 0)) (se_call (ok_applied T) (hr.mono (by omega)) (by rfl) T.g_applied T.F_applied.kp T.b_applied (sa_cons (se_fld T.fa_lasting (se_var (i := 0))) (sa_cons (se_sl (se_fld T.fa_steps (se_var (i := 0))) so_none (so_some (se_var (i := 1)))) sa_nil))))
    (ss_one (ss_fld T.fa_steps (se_var (i := 0)) (se_lst sa_nil))))
theorem ok_law_mix (T : Txt K mg) : FnOk P W K mg base CX0 1 T.a_law_mix T.fd_law_mix ["_law_cell", "_law_k"] (spM K 2 (m_law_mix T.cc)) :=
  fn_ok (k := 0) T.F_law_mix sc_law_mix fun cdv A outer s H E hr => (ss_cons (ss_set (i := 2) sc_law_mix.nd rfl (by first | exact Or.inl rfl | exact Or.inr rfl) (se_mod (se_int' (by rfl) T.z_int (sa_cons (se_add (se_add (se_mul (se_int' (by rfl) T.z_int (sa_cons (se_var (i := 0)) sa_nil)) se_int) (se_mul (se_var (i := 1)) se_int)) se_int) sa_nil)) se_int))
    (ss_cons (ss_set (i := 2) sc_law_mix.nd rfl (by first | exact Or.inl rfl | exact Or.inr rfl) (se_mod (se_int' (by rfl) T.z_int (sa_cons (se_add (se_add (se_mul (se_var (i := 2)) (se_var (i := 2))) (se_mul (se_var (i := 1)) se_int)) se_int) sa_nil)) se_int))
    (ss_one (ss_ret (se_mod (se_div (se_var (i := 2)) se_int) se_int)))))
theorem ok_law_draws (T : Txt K mg) : FnOk P W K mg base CX0 2 T.a_law_draws T.fd_law_draws ["_law_script"] (spM K 1 (m_law_draws T.cc)) :=
  fn_ok (k := 1) T.F_law_draws sc_law_draws fun cdv A outer s H E hr => (ss_cons (ss_set (i := 1) sc_law_draws.nd rfl (by first | exact Or.inl rfl | exact Or.inr rfl) (se_lst sa_nil))
    (ss_cons (ss_for PassesOwn.never rfl (si_r1 (by rfl) T.z_range (sa_cons (se_min (by rfl) T.z_min (sa_cons se_int (sa_cons (se_len (by rfl) T.z_len (sa_cons (se_var (i := 0)) sa_nil)) sa_nil)) (hc := rfl)) sa_nil)) (pg_one (i := 2) sc_law_draws.nd rfl (by first | exact Or.inl rfl | exact Or.inr rfl)) (ss_cons (ss_set (i := 3) sc_law_draws.nd rfl (by first | exact Or.inl rfl | exact Or.inr rfl) (se_int' (by rfl) T.z_int (sa_cons (se_ix (se_var (i := 0)) (se_var (i := 2))) sa_nil)))
    (ss_one (ss_if (bt_lt (se_var (i := 3)) (se_pow se_int se_int)) (ss_one (ss_expr (se_app (se_var (i := 1)) (sa_cons (se_call (ok_law_mix T) (hr.mono (by omega)) (by rfl) T.g_law_mix T.F_law_mix.kp T.b_law_mix (sa_cons (se_var (i := 3)) (sa_cons (se_var (i := 2)) sa_nil))) sa_nil)))) (ss_one (ss_for PassesOwn.never rfl (si_r1 (by rfl) T.z_range (sa_cons se_int sa_nil)) (pg_one (i := 4) sc_law_draws.nd rfl (by first | exact Or.inl rfl | exact Or.inr rfl)) (ss_one (ss_if (bt_gt (se_var (i := 3)) se_int) (ss_cons (ss_expr (se_app (se_var (i := 1)) (sa_cons (se_mod (se_int' (by rfl) T.z_int (sa_cons (se_var (i := 3)) sa_nil)) se_int) sa_nil)))
    (ss_one (ss_set (i := 3) sc_law_draws.nd rfl (by first | exact Or.inl rfl | exact Or.inr rfl) (se_div (se_var (i := 3)) se_int)))) ss_nil))))))))
    (ss_one (ss_ret (se_var (i := 1))))))
theorem ok_law_at (T : Txt K mg) : FnOk P W K mg base CX0 2 T.a_law_at T.fd_law_at ["_law_draws_here", "_law_index"] (spM K 2 (m_law_at T.cc)) :=
  fn_ok (k := 1) T.F_law_at sc_law_at fun cdv A outer s H E hr => (ss_cons (ss_if (bt_lt (se_var (i := 1)) (se_len (by rfl) T.z_len (sa_cons (se_var (i := 0)) sa_nil))) (ss_one (ss_ret (se_ix (se_var (i := 0)) (se_var (i := 1))))) ss_nil)
    (ss_cons (ss_if (bt_eq (se_len (by rfl) T.z_len (sa_cons (se_var (i := 0)) sa_nil)) se_int) (ss_one (ss_ret (se_call (ok_law_mix T) (hr.mono (by omega)) (by rfl) T.g_law_mix T.F_law_mix.kp T.b_law_mix (sa_cons (se_var (i := 1)) (sa_cons se_int sa_nil))))) ss_nil)
    (ss_one (ss_ret (se_call (ok_law_mix T) (hr.mono (by omega)) (by rfl) T.g_law_mix T.F_law_mix.kp T.b_law_mix (sa_cons (se_add (se_ix (se_var (i := 0)) (se_mod (se_int' (by rfl) T.z_int (sa_cons (se_var (i := 1)) sa_nil)) (se_len (by rfl) T.z_len (sa_cons (se_var (i := 0)) sa_nil)))) (se_mul (se_var (i := 1)) se_int)) (sa_cons (se_var (i := 1)) sa_nil)))))))
theorem ok_law_next (T : Txt K mg) : FnOk P W K mg base CX0 3 T.a_law_next T.fd_law_next ["_law_state", "_law_limit"] (spM K 2 (m_law_next T.cc)) :=
  fn_ok (k := 2) T.F_law_next sc_law_next fun cdv A outer s H E hr => (ss_cons (ss_augIL opr_iadd ok_iadd (se_var (i := 0)) se_int se_int)
    (ss_one (ss_ret (se_mod (se_call (ok_law_at T) (hr.mono (by omega)) (by rfl) T.g_law_at T.F_law_at.kp T.b_law_at (sa_cons (se_ix (se_var (i := 0)) se_int) (sa_cons (se_ix (se_var (i := 0)) se_int) sa_nil))) (se_var (i := 1))))))
theorem ok_File_write (T : Txt K mg) : FnOk P W K mg base CX0 1 T.a_File_write T.fd_File_write ["self", "data", "steps"] (spM K 3 (m_File_write T.cc)) :=
  fn_ok (k := 0) T.F_File_write sc_File_write fun cdv A outer s H E hr => (ss_cons (ss_set (i := 3) sc_File_write.nd rfl (by first | exact Or.inl rfl | exact Or.inr rfl) (se_if (bt_is (se_var (i := 2)) se_non) (se_len (by rfl) T.z_len (sa_cons (se_var (i := 1)) sa_nil)) (se_min (by rfl) T.z_min (sa_cons (se_var (i := 2)) (sa_cons (se_len (by rfl) T.z_len (sa_cons (se_var (i := 1)) sa_nil)) sa_nil)) (hc := rfl))))
    (ss_cons (ss_expr (se_ext (se_fld T.fa_steps (se_var (i := 0))) (sa_cons (se_lc rfl sc_File_write.nd (si_e (se_sl (se_var (i := 1)) so_none (so_some (se_var (i := 3))))) (blkOk_by (own := [("byte", 4)]) (N := n_File_write) (sc := defScope s_File_write) (by decide +kernel)) rfl (by decide) (fun _ _ _ _ _ => (pg_one (i := 4) sc_File_write.nd rfl (by first | exact Or.inl rfl | exact Or.inr rfl))) (fun _ _ _ _ _ => pts_y) (fun _ _ _ _ _ => (se_tup (sa_cons (se_str (by decide +kernel)) (sa_cons (se_var (i := 4)) sa_nil))))) sa_nil)))
    (ss_one (ss_ret (se_var (i := 3))))))
theorem ok_File_shorten (T : Txt K mg) : FnOk P W K mg base CX0 1 T.a_File_shorten T.fd_File_shorten ["self", "size", "steps"] (spM K 3 (m_File_shorten T.cc)) :=
  fn_ok (k := 0) T.F_File_shorten sc_File_shorten fun cdv A outer s H E hr => (ss_cons (ss_if (bt_eq (se_var (i := 2)) se_int) (ss_one (ss_ret se_int)) ss_nil)
    (ss_cons (ss_expr (se_app (se_fld T.fa_steps (se_var (i := 0))) (sa_cons (se_tup (sa_cons (se_str (by decide +kernel)) (sa_cons (se_var (i := 1)) sa_nil))) sa_nil)))
    (ss_one (ss_ret se_int))))
theorem ok_File_flush (T : Txt K mg) : FnOk P W K mg base CX0 3 T.a_File_flush T.fd_File_flush ["self", "steps"] (spM K 2 (m_File_flush T.cc)) :=
  fn_ok (k := 2) T.F_File_flush sc_File_flush fun cdv A outer s H E hr => (ss_cons (ss_if (bt_eq (se_var (i := 1)) se_int) (ss_one (ss_ret se_int)) ss_nil)
    (ss_cons (ss_expr (se_meth T.cl_File T.me_File_lose (ok_File_lose T) (hr.mono (by omega)) T.b_File_lose (se_var (i := 0)) (sa_cons (se_len (by rfl) T.z_len (sa_cons (se_fld T.fa_steps (se_var (i := 0))) sa_nil)) sa_nil)))
    (ss_one (ss_ret se_int))))
theorem ok_law_after (T : Txt K mg) : FnOk P W K mg base CX0 1 T.a_law_after T.fd_law_after ["_law_data", "_law_steps"] (spM K 2 (m_law_after T.cc)) :=
  fn_ok (k := 0) T.F_law_after sc_law_after fun cdv A outer s H E hr => (ss_cons (ss_set (i := 0) sc_law_after.nd rfl (by first | exact Or.inl rfl | exact Or.inr rfl) (se_list (by rfl) T.z_list (sa_cons (se_var (i := 0)) sa_nil)))
    (ss_cons (ss_for PassesOwn.never rfl (si_e (se_var (i := 1))) (pg_tupA (is := [2, 3]) rfl (pgs_c (i := 2) sc_law_after.nd rfl (by first | exact Or.inl rfl | exact Or.inr rfl) (pgs_c (i := 3) sc_law_after.nd rfl (by first | exact Or.inl rfl | exact Or.inr rfl) pgs_n))) (ss_one (ss_if (bt_eq (se_var (i := 2)) se_int) (ss_one (ss_expr (se_app (se_var (i := 0)) (sa_cons (se_var (i := 3)) sa_nil)))) (ss_one (ss_set (i := 0) sc_law_after.nd rfl (by first | exact Or.inl rfl | exact Or.inr rfl) (se_sl (se_var (i := 0)) so_none (so_some (se_var (i := 3)))))))))
    (ss_one (ss_ret (se_var (i := 0))))))
theorem ok_law_is_integer (T : Txt K mg) : FnOk P W K mg base CX0 1 T.a_law_is_integer T.fd_law_is_integer ["_law_actual"] (spM K 1 (m_law_is_integer T.cc)) :=
  fn_ok (k := 0) T.F_law_is_integer sc_law_is_integer fun cdv A outer s H E hr => (ss_one (ss_ret (se_and (se_isi (T := .int) (by rfl) T.z_isinstance (se_var (i := 0)) (by rfl) T.z_int) (se_one (se_not (se_isi (T := .bool) (by rfl) T.z_isinstance (se_var (i := 0)) (by rfl) T.z_bool))))))
theorem okg_law_same (T : Txt K mg) : ∀ n : Nat, FnOk P W K mg base CX0 (1 + n) T.a_law_same T.fd_law_same ["_law_actual", "_law_expected"] (spM K 2 (m_law_same T.cc n))
  | 0 => (by unfold m_law_same; exact fn_bad rfl)
  | n + 1 => by
    obtain ih_law_same := okg_law_same T n
    exact (by
      unfold m_law_same
      exact fn_ok (k := 1 + n) T.F_law_same sc_law_same fun cdv A outer s H E hr => (ss_cons (ss_if (bt_isi2 (T := .list) (S := .tuple) (by rfl) T.z_isinstance (se_var (i := 1)) (by rfl) T.z_list (by rfl) T.z_tuple) (ss_cons (ss_if (PW.pt (bw_or (bt_ne (se_isi (T := .list) (by rfl) T.z_isinstance (se_var (i := 1)) (by rfl) T.z_list) (se_isi (T := .list) (by rfl) T.z_isinstance (se_var (i := 0)) (by rfl) T.z_list)) (bw_or1 (bt_ne (se_isi (T := .tuple) (by rfl) T.z_isinstance (se_var (i := 1)) (by rfl) T.z_tuple) (se_isi (T := .tuple) (by rfl) T.z_isinstance (se_var (i := 0)) (by rfl) T.z_tuple))))) (ss_one (ss_ret se_bl)) ss_nil)
    (ss_cons (ss_if (bt_ne (se_len (by rfl) T.z_len (sa_cons (se_var (i := 0)) sa_nil)) (se_len (by rfl) T.z_len (sa_cons (se_var (i := 1)) sa_nil))) (ss_one (ss_ret se_bl)) ss_nil)
    (ss_cons (ss_for PassesOwn.never rfl (si_r1 (by rfl) T.z_range (sa_cons (se_len (by rfl) T.z_len (sa_cons (se_var (i := 1)) sa_nil)) sa_nil)) (pg_one (i := 2) sc_law_same.nd rfl (by first | exact Or.inl rfl | exact Or.inr rfl)) (ss_one (ss_if (bt_not (bt_tru (se_call ih_law_same hr (by rfl) T.g_law_same T.F_law_same.kp T.b_law_same (sa_cons (se_ix (se_var (i := 0)) (se_var (i := 2))) (sa_cons (se_ix (se_var (i := 1)) (se_var (i := 2))) sa_nil))))) (ss_one (ss_ret se_bl)) ss_nil)))
    (ss_one (ss_ret se_bl))))) ss_nil)
    (ss_cons (ss_if (bt_is (se_var (i := 1)) se_non) (ss_one (ss_ret (se_is (se_var (i := 0)) se_non))) ss_nil)
    (ss_cons (ss_if (bt_isi (T := .bool) (by rfl) T.z_isinstance (se_var (i := 1)) (by rfl) T.z_bool) (ss_one (ss_ret (se_and (se_isi (T := .bool) (by rfl) T.z_isinstance (se_var (i := 0)) (by rfl) T.z_bool) (se_one (se_eq (se_var (i := 0)) (se_var (i := 1))))))) ss_nil)
    (ss_cons (ss_if (bt_isi (T := .int) (by rfl) T.z_isinstance (se_var (i := 1)) (by rfl) T.z_int) (ss_one (ss_ret (se_and (se_call (ok_law_is_integer T) (hr.mono (by omega)) (by rfl) T.g_law_is_integer T.F_law_is_integer.kp T.b_law_is_integer (sa_cons (se_var (i := 0)) sa_nil)) (se_one (se_eq (se_var (i := 0)) (se_var (i := 1))))))) ss_nil)
    (ss_one (ss_ret (se_and (se_isi (T := .str) (by rfl) T.z_isinstance (se_var (i := 0)) (by rfl) T.z_str) (se_one (se_eq (se_var (i := 0)) (se_var (i := 1))))))))))))
theorem ok_law_same (T : Txt K mg) (n : Nat) : FnOk P W K mg base CX0 (1 + n) T.a_law_same T.fd_law_same ["_law_actual", "_law_expected"] (spM K 2 (m_law_same T.cc n)) := (okg_law_same T n)
theorem ok_law_deed (T : Txt K mg) : FnOk P W K mg base CX0 4 T.a_law_deed T.fd_law_deed ["_law_state", "_law_file", "_law_lasting", "_law_steps"] (spM K 4 (m_law_deed T.cc)) :=
  fn_ok (k := 3) T.F_law_deed sc_law_deed fun cdv A outer s H E hr => (ss_cons (ss_set (i := 4) sc_law_deed.nd rfl (by first | exact Or.inl rfl | exact Or.inr rfl) (se_call (ok_law_next T) (hr.mono (by omega)) (by rfl) T.g_law_next T.F_law_next.kp T.b_law_next (sa_cons (se_var (i := 0)) (sa_cons se_int sa_nil))))
    (ss_cons (ss_set (i := 5) sc_law_deed.nd rfl (by first | exact Or.inl rfl | exact Or.inr rfl) se_non)
    (ss_cons (ss_if (bt_eq (se_call (ok_law_next T) (hr.mono (by omega)) (by rfl) T.g_law_next T.F_law_next.kp T.b_law_next (sa_cons (se_var (i := 0)) (sa_cons se_int sa_nil))) se_int) (ss_one (ss_set (i := 5) sc_law_deed.nd rfl (by first | exact Or.inl rfl | exact Or.inr rfl) (se_call (ok_law_next T) (hr.mono (by omega)) (by rfl) T.g_law_next T.F_law_next.kp T.b_law_next (sa_cons (se_var (i := 0)) (sa_cons se_int sa_nil))))) ss_nil)
    (ss_cons (ss_if (bt_lt (se_var (i := 4)) se_int) (ss_cons (ss_setLc (i := 6) rfl sc_law_deed.nd rfl rfl (sw_true rfl rfl rfl (by decide +kernel)) (si_r1 (by rfl) T.z_range (sa_cons (se_call (ok_law_next T) (hr.mono (by omega)) (by rfl) T.g_law_next T.F_law_next.kp T.b_law_next (sa_cons (se_var (i := 0)) (sa_cons se_int sa_nil))) sa_nil)) (blkOk_by (own := [("_law_k", 10)]) (N := n_law_deed) (sc := defScope s_law_deed) (by decide +kernel)) rfl (by decide) (fun _ _ _ _ _ => (pg_one (i := 10) sc_law_deed.nd rfl (by first | exact Or.inl rfl | exact Or.inr rfl))) (fun _ _ _ _ _ => pts_y) (fun _ _ _ _ _ => (se_call (ok_law_next T) (hr.mono (by omega)) (by rfl) T.g_law_next T.F_law_next.kp T.b_law_next (sa_cons (se_var (i := 0)) (sa_cons se_int sa_nil)))))
    (ss_cons (ss_set (i := 7) sc_law_deed.nd rfl (by first | exact Or.inl rfl | exact Or.inr rfl) (se_len (by rfl) T.z_len (sa_cons (se_var (i := 6)) sa_nil)))
    (ss_cons (ss_if (bt_isnot (se_var (i := 5)) se_non) (ss_one (ss_set (i := 7) sc_law_deed.nd rfl (by first | exact Or.inl rfl | exact Or.inr rfl) (se_min (by rfl) T.z_min (sa_cons (se_var (i := 7)) (sa_cons (se_var (i := 5)) sa_nil)) (hc := rfl)))) ss_nil)
    (ss_cons (ss_set (i := 8) sc_law_deed.nd rfl (by first | exact Or.inl rfl | exact Or.inr rfl) (se_list (by rfl) T.z_list (sa_cons (se_var (i := 6)) sa_nil)))
    (ss_cons (ss_set (i := 9) sc_law_deed.nd rfl (by first | exact Or.inl rfl | exact Or.inr rfl) (se_meth T.cl_File T.me_File_write (ok_File_write T) (hr.mono (by omega)) T.b_File_write (se_var (i := 1)) (sa_cons (se_var (i := 8)) (sa_cons (se_var (i := 5)) sa_nil))))
    (ss_cons (ss_expr (se_app (se_var (i := 8)) (sa_cons se_int sa_nil)))
    (ss_one (ss_ret (se_lst (sa_cons (se_call (ok_law_same T 2) (hr.mono (by omega)) (by rfl) T.g_law_same T.F_law_same.kp T.b_law_same (sa_cons (se_var (i := 9)) (sa_cons (se_var (i := 7)) sa_nil))) (sa_cons (se_var (i := 2)) (sa_cons (se_add (se_var (i := 3)) (se_lc rfl sc_law_deed.nd (si_e (se_sl (se_var (i := 6)) so_none (so_some (se_var (i := 7))))) (blkOk_by (own := [("_law_byte", 11)]) (N := n_law_deed) (sc := defScope s_law_deed) (by decide +kernel)) rfl (by decide) (fun _ _ _ _ _ => (pg_one (i := 11) sc_law_deed.nd rfl (by first | exact Or.inl rfl | exact Or.inr rfl))) (fun _ _ _ _ _ => pts_y) (fun _ _ _ _ _ => (se_tup (sa_cons se_int (sa_cons (se_var (i := 11)) sa_nil)))))) sa_nil)))))))))))) ss_nil)
    (ss_cons (ss_if (bt_lt (se_var (i := 4)) se_int) (ss_cons (ss_set (i := 12) sc_law_deed.nd rfl (by first | exact Or.inl rfl | exact Or.inr rfl) (se_call (ok_law_next T) (hr.mono (by omega)) (by rfl) T.g_law_next T.F_law_next.kp T.b_law_next (sa_cons (se_var (i := 0)) (sa_cons (se_add (se_len (by rfl) T.z_len (sa_cons (se_call (ok_law_after T) (hr.mono (by omega)) (by rfl) T.g_law_after T.F_law_after.kp T.b_law_after (sa_cons (se_var (i := 2)) (sa_cons (se_var (i := 3)) sa_nil))) sa_nil)) se_int) sa_nil))))
    (ss_cons (ss_set (i := 9) sc_law_deed.nd rfl (by first | exact Or.inl rfl | exact Or.inr rfl) (se_meth T.cl_File T.me_File_shorten (ok_File_shorten T) (hr.mono (by omega)) T.b_File_shorten (se_var (i := 1)) (sa_cons (se_var (i := 12)) (sa_cons (se_var (i := 5)) sa_nil))))
    (ss_cons (ss_if (bt_eq (se_var (i := 5)) se_int) (ss_one (ss_ret (se_lst (sa_cons (se_call (ok_law_same T 2) (hr.mono (by omega)) (by rfl) T.g_law_same T.F_law_same.kp T.b_law_same (sa_cons (se_var (i := 9)) (sa_cons se_int sa_nil))) (sa_cons (se_var (i := 2)) (sa_cons (se_var (i := 3)) sa_nil)))))) ss_nil)
    (ss_one (ss_ret (se_lst (sa_cons (se_call (ok_law_same T 2) (hr.mono (by omega)) (by rfl) T.g_law_same T.F_law_same.kp T.b_law_same (sa_cons (se_var (i := 9)) (sa_cons se_int sa_nil))) (sa_cons (se_var (i := 2)) (sa_cons (se_add (se_var (i := 3)) (se_lst (sa_cons (se_tup (sa_cons se_int (sa_cons (se_var (i := 12)) sa_nil))) sa_nil))) sa_nil))))))))) ss_nil)
    (ss_cons (ss_if (bt_lt (se_var (i := 4)) se_int) (ss_cons (ss_set (i := 9) sc_law_deed.nd rfl (by first | exact Or.inl rfl | exact Or.inr rfl) (se_meth T.cl_File T.me_File_flush (ok_File_flush T) (hr.mono (by omega)) T.b_File_flush (se_var (i := 1)) (sa_cons (se_var (i := 5)) sa_nil)))
    (ss_cons (ss_if (bt_eq (se_var (i := 5)) se_int) (ss_one (ss_ret (se_lst (sa_cons (se_call (ok_law_same T 2) (hr.mono (by omega)) (by rfl) T.g_law_same T.F_law_same.kp T.b_law_same (sa_cons (se_var (i := 9)) (sa_cons se_int sa_nil))) (sa_cons (se_var (i := 2)) (sa_cons (se_var (i := 3)) sa_nil)))))) ss_nil)
    (ss_one (ss_ret (se_lst (sa_cons (se_call (ok_law_same T 2) (hr.mono (by omega)) (by rfl) T.g_law_same T.F_law_same.kp T.b_law_same (sa_cons (se_var (i := 9)) (sa_cons se_int sa_nil))) (sa_cons (se_call (ok_law_after T) (hr.mono (by omega)) (by rfl) T.g_law_after T.F_law_after.kp T.b_law_after (sa_cons (se_var (i := 2)) (sa_cons (se_var (i := 3)) sa_nil))) (sa_cons (se_lst sa_nil) sa_nil)))))))) ss_nil)
    (ss_cons (ss_set (i := 7) sc_law_deed.nd rfl (by first | exact Or.inl rfl | exact Or.inr rfl) (se_call (ok_law_next T) (hr.mono (by omega)) (by rfl) T.g_law_next T.F_law_next.kp T.b_law_next (sa_cons (se_var (i := 0)) (sa_cons (se_add (se_len (by rfl) T.z_len (sa_cons (se_var (i := 3)) sa_nil)) se_int) sa_nil))))
    (ss_cons (ss_expr (se_meth T.cl_File T.me_File_lose (ok_File_lose T) (hr.mono (by omega)) T.b_File_lose (se_var (i := 1)) (sa_cons (se_var (i := 7)) sa_nil)))
    (ss_one (ss_ret (se_lst (sa_cons se_bl (sa_cons (se_call (ok_law_after T) (hr.mono (by omega)) (by rfl) T.g_law_after T.F_law_after.kp T.b_law_after (sa_cons (se_var (i := 2)) (sa_cons (se_sl (se_var (i := 3)) so_none (so_some (se_var (i := 7)))) sa_nil))) (sa_cons (se_lst sa_nil) sa_nil))))))))))))))
theorem ok_File_content (T : Txt K mg) : FnOk P W K mg base CX0 2 T.a_File_content T.fd_File_content ["self"] (spM K 1 (m_File_content T.cc)) :=
  fn_ok (k := 1) T.F_File_content sc_File_content fun cdv A outer s H E hr => (ss_one (ss_ret (se_call (ok_applied T) (hr.mono (by omega)) (by rfl) T.g_applied T.F_applied.kp T.b_applied (sa_cons (se_fld T.fa_lasting (se_var (i := 0))) (sa_cons (se_fld T.fa_steps (se_var (i := 0))) sa_nil)))))
theorem ok_File_pending (T : Txt K mg) : FnOk P W K mg base CX0 1 T.a_File_pending T.fd_File_pending ["self"] (spM K 1 (m_File_pending T.cc)) :=
  fn_ok (k := 0) T.F_File_pending sc_File_pending fun cdv A outer s H E hr => (ss_one (ss_ret (se_len (by rfl) T.z_len (sa_cons (se_fld T.fa_steps (se_var (i := 0))) sa_nil))))
theorem ok_law (T : Txt K mg) : FnOk P W K mg base CX0 5 T.a_law T.fd_law ["_law_script"] (spM K 1 (m_law T.cc)) :=
  fn_ok (k := 4) T.F_law sc_law fun cdv A outer s H E hr => (ss_cons (ss_set (i := 1) sc_law.nd rfl (by first | exact Or.inl rfl | exact Or.inr rfl) (se_lst (sa_cons (se_call (ok_law_draws T) (hr.mono (by omega)) (by rfl) T.g_law_draws T.F_law_draws.kp T.b_law_draws (sa_cons (se_var (i := 0)) sa_nil)) (sa_cons se_int sa_nil))))
    (ss_cons (ss_set (i := 2) sc_law.nd rfl (by first | exact Or.inl rfl | exact Or.inr rfl) (se_make0 T.mk_File (ok_File__init__ T) (hr.mono (by omega)) (by rfl) T.gc_File T.b_File__init__))
    (ss_cons (ss_set (i := 3) sc_law.nd rfl (by first | exact Or.inl rfl | exact Or.inr rfl) (se_lst sa_nil))
    (ss_cons (ss_set (i := 4) sc_law.nd rfl (by first | exact Or.inl rfl | exact Or.inr rfl) (se_lst sa_nil))
    (ss_cons (ss_for PassesOwn.never rfl (si_r1 (by rfl) T.z_range (sa_cons (se_call (ok_law_next T) (hr.mono (by omega)) (by rfl) T.g_law_next T.F_law_next.kp T.b_law_next (sa_cons (se_var (i := 1)) (sa_cons se_int sa_nil))) sa_nil)) (pg_one (i := 5) sc_law.nd rfl (by first | exact Or.inl rfl | exact Or.inr rfl)) (ss_cons (ss_setL (is := [6, 3, 4]) rfl (se_call (ok_law_deed T) (hr.mono (by omega)) (by rfl) T.g_law_deed T.F_law_deed.kp T.b_law_deed (sa_cons (se_var (i := 1)) (sa_cons (se_var (i := 2)) (sa_cons (se_var (i := 3)) (sa_cons (se_var (i := 4)) sa_nil))))) (pgs_c (i := 6) sc_law.nd rfl (by first | exact Or.inl rfl | exact Or.inr rfl) (pgs_c (i := 3) sc_law.nd rfl (by first | exact Or.inl rfl | exact Or.inr rfl) (pgs_c (i := 4) sc_law.nd rfl (by first | exact Or.inl rfl | exact Or.inr rfl) pgs_n))))
    (ss_cons (ss_if (PW.pt (bw_or (bt_not (bt_tru (se_var (i := 6)))) (bw_or1 (bt_not (bt_tru (se_call (ok_law_same T 2) (hr.mono (by omega)) (by rfl) T.g_law_same T.F_law_same.kp T.b_law_same (sa_cons (se_meth0 T.cl_File T.me_File_content (ok_File_content T) (hr.mono (by omega)) T.b_File_content (se_var (i := 2))) (sa_cons (se_call (ok_law_after T) (hr.mono (by omega)) (by rfl) T.g_law_after T.F_law_after.kp T.b_law_after (sa_cons (se_var (i := 3)) (sa_cons (se_var (i := 4)) sa_nil))) sa_nil)))))))) (ss_one (ss_ret se_bl)) ss_nil)
    (ss_cons (ss_if (bt_not (bt_tru (se_call (ok_law_same T 2) (hr.mono (by omega)) (by rfl) T.g_law_same T.F_law_same.kp T.b_law_same (sa_cons (se_meth0 T.cl_File T.me_File_pending (ok_File_pending T) (hr.mono (by omega)) T.b_File_pending (se_var (i := 2))) (sa_cons (se_len (by rfl) T.z_len (sa_cons (se_var (i := 4)) sa_nil)) sa_nil))))) (ss_one (ss_ret se_bl)) ss_nil)
    (ss_cons (ss_expr (se_app (se_meth0 T.cl_File T.me_File_content (ok_File_content T) (hr.mono (by omega)) T.b_File_content (se_var (i := 2))) (sa_cons se_int sa_nil)))
    (ss_one (ss_if (PW.pt (bw_and (bt_eq (se_call (ok_law_next T) (hr.mono (by omega)) (by rfl) T.g_law_next T.F_law_next.kp T.b_law_next (sa_cons (se_var (i := 1)) (sa_cons se_int sa_nil))) se_int) (bw_and1 (bt_not (bt_tru (se_call (ok_law_same T 2) (hr.mono (by omega)) (by rfl) T.g_law_same T.F_law_same.kp T.b_law_same (sa_cons (se_meth0 T.cl_File T.me_File_content (ok_File_content T) (hr.mono (by omega)) T.b_File_content (se_var (i := 2))) (sa_cons (se_call (ok_law_after T) (hr.mono (by omega)) (by rfl) T.g_law_after T.F_law_after.kp T.b_law_after (sa_cons (se_var (i := 3)) (sa_cons (se_var (i := 4)) sa_nil))) sa_nil)))))))) (ss_one (ss_ret se_bl)) ss_nil)))))))
    (ss_cons (ss_expr (se_meth T.cl_File T.me_File_lose (ok_File_lose T) (hr.mono (by omega)) T.b_File_lose (se_var (i := 2)) (sa_cons se_int sa_nil)))
    (ss_one (ss_ret (se_and (se_call (ok_law_same T 2) (hr.mono (by omega)) (by rfl) T.g_law_same T.F_law_same.kp T.b_law_same (sa_cons (se_meth0 T.cl_File T.me_File_content (ok_File_content T) (hr.mono (by omega)) T.b_File_content (se_var (i := 2))) (sa_cons (se_var (i := 3)) sa_nil))) (se_one (se_call (ok_law_same T 2) (hr.mono (by omega)) (by rfl) T.g_law_same T.F_law_same.kp T.b_law_same (sa_cons (se_meth0 T.cl_File T.me_File_pending (ok_File_pending T) (hr.mono (by omega)) T.b_File_pending (se_var (i := 2))) (sa_cons se_int sa_nil)))))))))))))
end
theorem all_mk (ht : ∀ cc, semTrue (m_law cc)) {l : PySem.W.OpenLaw} {w : World} {K : Fr} {h : Heap} {mg : Str → Option Value} {fa f0 f1 f2 f3 f4 f5 f6 f7 f8 f9 f10 f11 f12 f13 f14 f15 f16 C0 : Addr} (X : K.In h) (G : h.Ns mainGlobals mg) (hfa : mg "law" = some (.ref fa))
    (g_C0 : PySem.W.nsIn K mainGlobals "File" = some (some (.ref C0))) (pg0 : PySem.W.plainGet K C0 Str.empty = true) (hd0 : PySem.W.hasDictIn K C0 = true) (po0 : PySem.W.plainOver K C0 = true) (sa0 : PySem.W.findIn K (.ref C0) "__setattr__" = some (some (.builtin "object.__setattr__")))
    (mk0 : PySem.W.makesIn K C0 = true) (kc0 : PySem.W.keepIn K (.ref C0) = true)
    (n_lasting_0 : PySem.W.findIn K (.ref C0) "_lasting" = some none)
    (n_steps_0 : PySem.W.findIn K (.ref C0) "_steps" = some none)
    {od0 an0 : Option Addr} {sl0 : Array (Option Value)} {oc0 kV0 dc0 pm0 cd0 ct0 : Value}
    (a0 : PySem.W.findIn K (.ref C0) "__init__" = some (some (.ref f0))) (i0 : PySem.W.isFn K (.ref f0) = true) (l0 : K.lookup f0 = some ⟨oc0, od0, .func (PySem.W.fnOf "__init__" "File.__init__" (defArgs s_File__init__) (defBody s_File__init__) (defScope s_File__init__) .none kV0 dc0 pm0 an0 cd0 ct0), sl0⟩) (c0 : PySem.W.codeIn K cd0 "File.__init__" = true) (k0 : PySem.W.keepIn K (.ref f0) = true)
    {od1 an1 : Option Addr} {sl1 : Array (Option Value)} {oc1 kV1 dc1 pm1 cd1 ct1 : Value}
    (a1 : PySem.W.nsIn K mainGlobals "_applied" = some (some (.ref f1))) (l1 : K.lookup f1 = some ⟨oc1, od1, .func (PySem.W.fnOf "_applied" "_applied" (defArgs s_applied) (defBody s_applied) (defScope s_applied) .none kV1 dc1 pm1 an1 cd1 ct1), sl1⟩) (c1 : PySem.W.codeIn K cd1 "_applied" = true) (k1 : PySem.W.keepIn K (.ref f1) = true)
    {od2 an2 : Option Addr} {sl2 : Array (Option Value)} {oc2 kV2 dc2 pm2 cd2 ct2 : Value}
    (a2 : PySem.W.findIn K (.ref C0) "lose" = some (some (.ref f2))) (i2 : PySem.W.isFn K (.ref f2) = true) (l2 : K.lookup f2 = some ⟨oc2, od2, .func (PySem.W.fnOf "lose" "File.lose" (defArgs s_File_lose) (defBody s_File_lose) (defScope s_File_lose) .none kV2 dc2 pm2 an2 cd2 ct2), sl2⟩) (c2 : PySem.W.codeIn K cd2 "File.lose" = true) (k2 : PySem.W.keepIn K (.ref f2) = true)
    {od3 an3 : Option Addr} {sl3 : Array (Option Value)} {oc3 kV3 dc3 pm3 cd3 ct3 : Value}
    (a3 : PySem.W.nsIn K mainGlobals "_law_mix" = some (some (.ref f3))) (l3 : K.lookup f3 = some ⟨oc3, od3, .func (PySem.W.fnOf "_law_mix" "_law_mix" (defArgs s_law_mix) (defBody s_law_mix) (defScope s_law_mix) .none kV3 dc3 pm3 an3 cd3 ct3), sl3⟩) (c3 : PySem.W.codeIn K cd3 "_law_mix" = true) (k3 : PySem.W.keepIn K (.ref f3) = true)
    {od4 an4 : Option Addr} {sl4 : Array (Option Value)} {oc4 kV4 dc4 pm4 cd4 ct4 : Value}
    (a4 : PySem.W.nsIn K mainGlobals "_law_draws" = some (some (.ref f4))) (l4 : K.lookup f4 = some ⟨oc4, od4, .func (PySem.W.fnOf "_law_draws" "_law_draws" (defArgs s_law_draws) (defBody s_law_draws) (defScope s_law_draws) .none kV4 dc4 pm4 an4 cd4 ct4), sl4⟩) (c4 : PySem.W.codeIn K cd4 "_law_draws" = true) (k4 : PySem.W.keepIn K (.ref f4) = true)
    {od5 an5 : Option Addr} {sl5 : Array (Option Value)} {oc5 kV5 dc5 pm5 cd5 ct5 : Value}
    (a5 : PySem.W.nsIn K mainGlobals "_law_at" = some (some (.ref f5))) (l5 : K.lookup f5 = some ⟨oc5, od5, .func (PySem.W.fnOf "_law_at" "_law_at" (defArgs s_law_at) (defBody s_law_at) (defScope s_law_at) .none kV5 dc5 pm5 an5 cd5 ct5), sl5⟩) (c5 : PySem.W.codeIn K cd5 "_law_at" = true) (k5 : PySem.W.keepIn K (.ref f5) = true)
    {od6 an6 : Option Addr} {sl6 : Array (Option Value)} {oc6 kV6 dc6 pm6 cd6 ct6 : Value}
    (a6 : PySem.W.nsIn K mainGlobals "_law_next" = some (some (.ref f6))) (l6 : K.lookup f6 = some ⟨oc6, od6, .func (PySem.W.fnOf "_law_next" "_law_next" (defArgs s_law_next) (defBody s_law_next) (defScope s_law_next) .none kV6 dc6 pm6 an6 cd6 ct6), sl6⟩) (c6 : PySem.W.codeIn K cd6 "_law_next" = true) (k6 : PySem.W.keepIn K (.ref f6) = true)
    {od7 an7 : Option Addr} {sl7 : Array (Option Value)} {oc7 kV7 dc7 pm7 cd7 ct7 : Value}
    (a7 : PySem.W.findIn K (.ref C0) "write" = some (some (.ref f7))) (i7 : PySem.W.isFn K (.ref f7) = true) (l7 : K.lookup f7 = some ⟨oc7, od7, .func (PySem.W.fnOf "write" "File.write" (defArgs s_File_write) (defBody s_File_write) (defScope s_File_write) .none kV7 dc7 pm7 an7 cd7 ct7), sl7⟩) (c7 : PySem.W.codeIn K cd7 "File.write" = true) (k7 : PySem.W.keepIn K (.ref f7) = true)
    {od8 an8 : Option Addr} {sl8 : Array (Option Value)} {oc8 kV8 dc8 pm8 cd8 ct8 : Value}
    (a8 : PySem.W.findIn K (.ref C0) "shorten" = some (some (.ref f8))) (i8 : PySem.W.isFn K (.ref f8) = true) (l8 : K.lookup f8 = some ⟨oc8, od8, .func (PySem.W.fnOf "shorten" "File.shorten" (defArgs s_File_shorten) (defBody s_File_shorten) (defScope s_File_shorten) .none kV8 dc8 pm8 an8 cd8 ct8), sl8⟩) (c8 : PySem.W.codeIn K cd8 "File.shorten" = true) (k8 : PySem.W.keepIn K (.ref f8) = true)
    {od9 an9 : Option Addr} {sl9 : Array (Option Value)} {oc9 kV9 dc9 pm9 cd9 ct9 : Value}
    (a9 : PySem.W.findIn K (.ref C0) "flush" = some (some (.ref f9))) (i9 : PySem.W.isFn K (.ref f9) = true) (l9 : K.lookup f9 = some ⟨oc9, od9, .func (PySem.W.fnOf "flush" "File.flush" (defArgs s_File_flush) (defBody s_File_flush) (defScope s_File_flush) .none kV9 dc9 pm9 an9 cd9 ct9), sl9⟩) (c9 : PySem.W.codeIn K cd9 "File.flush" = true) (k9 : PySem.W.keepIn K (.ref f9) = true)
    {od10 an10 : Option Addr} {sl10 : Array (Option Value)} {oc10 kV10 dc10 pm10 cd10 ct10 : Value}
    (a10 : PySem.W.nsIn K mainGlobals "_law_after" = some (some (.ref f10))) (l10 : K.lookup f10 = some ⟨oc10, od10, .func (PySem.W.fnOf "_law_after" "_law_after" (defArgs s_law_after) (defBody s_law_after) (defScope s_law_after) .none kV10 dc10 pm10 an10 cd10 ct10), sl10⟩) (c10 : PySem.W.codeIn K cd10 "_law_after" = true) (k10 : PySem.W.keepIn K (.ref f10) = true)
    {od11 an11 : Option Addr} {sl11 : Array (Option Value)} {oc11 kV11 dc11 pm11 cd11 ct11 : Value}
    (a11 : PySem.W.nsIn K mainGlobals "_law_is_integer" = some (some (.ref f11))) (l11 : K.lookup f11 = some ⟨oc11, od11, .func (PySem.W.fnOf "_law_is_integer" "_law_is_integer" (defArgs s_law_is_integer) (defBody s_law_is_integer) (defScope s_law_is_integer) .none kV11 dc11 pm11 an11 cd11 ct11), sl11⟩) (c11 : PySem.W.codeIn K cd11 "_law_is_integer" = true) (k11 : PySem.W.keepIn K (.ref f11) = true)
    {od12 an12 : Option Addr} {sl12 : Array (Option Value)} {oc12 kV12 dc12 pm12 cd12 ct12 : Value}
    (a12 : PySem.W.nsIn K mainGlobals "_law_same" = some (some (.ref f12))) (l12 : K.lookup f12 = some ⟨oc12, od12, .func (PySem.W.fnOf "_law_same" "_law_same" (defArgs s_law_same) (defBody s_law_same) (defScope s_law_same) .none kV12 dc12 pm12 an12 cd12 ct12), sl12⟩) (c12 : PySem.W.codeIn K cd12 "_law_same" = true) (k12 : PySem.W.keepIn K (.ref f12) = true)
    {od13 an13 : Option Addr} {sl13 : Array (Option Value)} {oc13 kV13 dc13 pm13 cd13 ct13 : Value}
    (a13 : PySem.W.nsIn K mainGlobals "_law_deed" = some (some (.ref f13))) (l13 : K.lookup f13 = some ⟨oc13, od13, .func (PySem.W.fnOf "_law_deed" "_law_deed" (defArgs s_law_deed) (defBody s_law_deed) (defScope s_law_deed) .none kV13 dc13 pm13 an13 cd13 ct13), sl13⟩) (c13 : PySem.W.codeIn K cd13 "_law_deed" = true) (k13 : PySem.W.keepIn K (.ref f13) = true)
    {od14 an14 : Option Addr} {sl14 : Array (Option Value)} {oc14 kV14 dc14 pm14 cd14 ct14 : Value}
    (a14 : PySem.W.findIn K (.ref C0) "content" = some (some (.ref f14))) (i14 : PySem.W.isFn K (.ref f14) = true) (l14 : K.lookup f14 = some ⟨oc14, od14, .func (PySem.W.fnOf "content" "File.content" (defArgs s_File_content) (defBody s_File_content) (defScope s_File_content) .none kV14 dc14 pm14 an14 cd14 ct14), sl14⟩) (c14 : PySem.W.codeIn K cd14 "File.content" = true) (k14 : PySem.W.keepIn K (.ref f14) = true)
    {od15 an15 : Option Addr} {sl15 : Array (Option Value)} {oc15 kV15 dc15 pm15 cd15 ct15 : Value}
    (a15 : PySem.W.findIn K (.ref C0) "pending" = some (some (.ref f15))) (i15 : PySem.W.isFn K (.ref f15) = true) (l15 : K.lookup f15 = some ⟨oc15, od15, .func (PySem.W.fnOf "pending" "File.pending" (defArgs s_File_pending) (defBody s_File_pending) (defScope s_File_pending) .none kV15 dc15 pm15 an15 cd15 ct15), sl15⟩) (c15 : PySem.W.codeIn K cd15 "File.pending" = true) (k15 : PySem.W.keepIn K (.ref f15) = true)
    {od16 an16 : Option Addr} {sl16 : Array (Option Value)} {oc16 kV16 dc16 pm16 cd16 ct16 : Value}
    (a16 : PySem.W.nsIn K mainGlobals "law" = some (some (.ref f16))) (l16 : K.lookup f16 = some ⟨oc16, od16, .func (PySem.W.fnOf "law" "law" (defArgs s_law) (defBody s_law) (defScope s_law) .none kV16 dc16 pm16 an16 cd16 ct16), sl16⟩) (c16 : PySem.W.codeIn K cd16 "law" = true) (k16 : PySem.W.keepIn K (.ref f16) = true)
    (z_bool : PySem.W.nsIn K mainGlobals "bool" = some none)
    (z_int : PySem.W.nsIn K mainGlobals "int" = some none)
    (z_isinstance : PySem.W.nsIn K mainGlobals "isinstance" = some none)
    (z_len : PySem.W.nsIn K mainGlobals "len" = some none)
    (z_list : PySem.W.nsIn K mainGlobals "list" = some none)
    (z_min : PySem.W.nsIn K mainGlobals "min" = some none)
    (z_range : PySem.W.nsIn K mainGlobals "range" = some none)
    (z_str : PySem.W.nsIn K mainGlobals "str" = some none)
    (z_tuple : PySem.W.nsIn K mainGlobals "tuple" = some none) :
    ∃ fd : FuncData, (∀ (s : Shared) (v : Value), BindsTo s fd ⟨[v], []⟩ [("_law_script", v)]) ∧ ∀ base : Heap, K.In base → base.Ns mainGlobals mg → FnOk l.prog w K mg base CX0 5 fa fd ["_law_script"] (spEnd K) := by
  have e := hfa.symm.trans (PySem.W.mg_of X G a16)
  cases e
  have F0 := fun_mk (st := s_File__init__) l0 c0 k0
  have F1 := fun_mk (st := s_applied) l1 c1 k1
  have F2 := fun_mk (st := s_File_lose) l2 c2 k2
  have F3 := fun_mk (st := s_law_mix) l3 c3 k3
  have F4 := fun_mk (st := s_law_draws) l4 c4 k4
  have F5 := fun_mk (st := s_law_at) l5 c5 k5
  have F6 := fun_mk (st := s_law_next) l6 c6 k6
  have F7 := fun_mk (st := s_File_write) l7 c7 k7
  have F8 := fun_mk (st := s_File_shorten) l8 c8 k8
  have F9 := fun_mk (st := s_File_flush) l9 c9 k9
  have F10 := fun_mk (st := s_law_after) l10 c10 k10
  have F11 := fun_mk (st := s_law_is_integer) l11 c11 k11
  have F12 := fun_mk (st := s_law_same) l12 c12 k12
  have F13 := fun_mk (st := s_law_deed) l13 c13 k13
  have F14 := fun_mk (st := s_File_content) l14 c14 k14
  have F15 := fun_mk (st := s_File_pending) l15 c15 k15
  have F16 := fun_mk (st := s_law) l16 c16 k16
  have T : ∃ T : Txt K mg, T.a_law = fa ∧ T.fd_law = PySem.W.fnOf "law" "law" (defArgs s_law) (defBody s_law) (defScope s_law) .none kV16 dc16 pm16 an16 cd16 ct16 := ⟨⟨fun i => match i with | 0 => C0 | _ => 0,
    f0, _, F0, F0.binds (ps := ["self"]) (fun _ _ _ _ _ _ us hl => match us, hl with | [_], _ => rfl),
    ⟨a0, i0, k0⟩,
    f1, _, F1, F1.binds (ps := ["data", "steps"]) (fun _ _ _ _ _ _ us hl => match us, hl with | [_, _], _ => rfl),
    PySem.W.mg_of X G a1,
    f2, _, F2, F2.binds (ps := ["self", "steps"]) (fun _ _ _ _ _ _ us hl => match us, hl with | [_, _], _ => rfl),
    ⟨a2, i2, k2⟩,
    f3, _, F3, F3.binds (ps := ["_law_cell", "_law_k"]) (fun _ _ _ _ _ _ us hl => match us, hl with | [_, _], _ => rfl),
    PySem.W.mg_of X G a3,
    f4, _, F4, F4.binds (ps := ["_law_script"]) (fun _ _ _ _ _ _ us hl => match us, hl with | [_], _ => rfl),
    PySem.W.mg_of X G a4,
    f5, _, F5, F5.binds (ps := ["_law_draws_here", "_law_index"]) (fun _ _ _ _ _ _ us hl => match us, hl with | [_, _], _ => rfl),
    PySem.W.mg_of X G a5,
    f6, _, F6, F6.binds (ps := ["_law_state", "_law_limit"]) (fun _ _ _ _ _ _ us hl => match us, hl with | [_, _], _ => rfl),
    PySem.W.mg_of X G a6,
    f7, _, F7, F7.binds (ps := ["self", "data", "steps"]) (fun _ _ _ _ _ _ us hl => match us, hl with | [_, _, _], _ => rfl),
    ⟨a7, i7, k7⟩,
    f8, _, F8, F8.binds (ps := ["self", "size", "steps"]) (fun _ _ _ _ _ _ us hl => match us, hl with | [_, _, _], _ => rfl),
    ⟨a8, i8, k8⟩,
    f9, _, F9, F9.binds (ps := ["self", "steps"]) (fun _ _ _ _ _ _ us hl => match us, hl with | [_, _], _ => rfl),
    ⟨a9, i9, k9⟩,
    f10, _, F10, F10.binds (ps := ["_law_data", "_law_steps"]) (fun _ _ _ _ _ _ us hl => match us, hl with | [_, _], _ => rfl),
    PySem.W.mg_of X G a10,
    f11, _, F11, F11.binds (ps := ["_law_actual"]) (fun _ _ _ _ _ _ us hl => match us, hl with | [_], _ => rfl),
    PySem.W.mg_of X G a11,
    f12, _, F12, F12.binds (ps := ["_law_actual", "_law_expected"]) (fun _ _ _ _ _ _ us hl => match us, hl with | [_, _], _ => rfl),
    PySem.W.mg_of X G a12,
    f13, _, F13, F13.binds (ps := ["_law_state", "_law_file", "_law_lasting", "_law_steps"]) (fun _ _ _ _ _ _ us hl => match us, hl with | [_, _, _, _], _ => rfl),
    PySem.W.mg_of X G a13,
    f14, _, F14, F14.binds (ps := ["self"]) (fun _ _ _ _ _ _ us hl => match us, hl with | [_], _ => rfl),
    ⟨a14, i14, k14⟩,
    f15, _, F15, F15.binds (ps := ["self"]) (fun _ _ _ _ _ _ us hl => match us, hl with | [_], _ => rfl),
    ⟨a15, i15, k15⟩,
    fa, _, F16, F16.binds (ps := ["_law_script"]) (fun _ _ _ _ _ _ us hl => match us, hl with | [_], _ => rfl),
    PySem.W.mg_of X G a16,
    PySem.W.mg_none_of X G z_bool,
    PySem.W.mg_none_of X G z_int,
    PySem.W.mg_none_of X G z_isinstance,
    PySem.W.mg_none_of X G z_len,
    PySem.W.mg_none_of X G z_list,
    PySem.W.mg_none_of X G z_min,
    PySem.W.mg_none_of X G z_range,
    PySem.W.mg_none_of X G z_str,
    PySem.W.mg_none_of X G z_tuple,
    ⟨pg0, hd0, po0, sa0⟩,
    PySem.W.mg_of X G g_C0,
    ⟨mk0, a0, i0, kc0⟩,
    ⟨(fun C z => (List.mem_cons.mp z).elim (fun e => e ▸ ⟨⟨pg0, hd0, po0, sa0⟩, n_lasting_0⟩) ((fun _ z => nomatch z) C))⟩,
    ⟨(fun C z => (List.mem_cons.mp z).elim (fun e => e ▸ ⟨⟨pg0, hd0, po0, sa0⟩, n_steps_0⟩) ((fun _ z => nomatch z) C))⟩⟩, rfl, rfl⟩
  obtain ⟨T, e1, e2⟩ := T
  refine ⟨PySem.W.fnOf "law" "law" (defArgs s_law) (defBody s_law) (defScope s_law) .none kV16 dc16 pm16 an16 cd16 ct16, fun s v => .of_eq rfl, fun base _ _ => ?_⟩
  have q := fn_end (ht T.cc) (ok_law (P := l.prog) (W := w) (base := base) T)
  rw [e1, e2] at q
  exact q
end LAW

set_option Elab.async false
set_option linter.all false
set_option maxRecDepth 100000
set_option maxHeartbeats 4000000
open PySem PySem.W PyProof.Rows in
set_option maxRecDepth 100000 in
set_option maxHeartbeats 0 in
theorem PySem.Challenge.cw_quillrun_k42_files_keep_a_beginning_holds : PySem.Challenge.rw_quillrun_k42_files_keep_a_beginning.Holds := by
  w_on; o_law; k_head; (case hw => w_witness2)
  k_fill
  refine Q.walkQ (l := PySem.Challenge.rw_quillrun_k42_files_keep_a_beginning) (k := 5) (x := "_law_script") rfl rfl ⟨rfl, by decide, by decide⟩ (fun w h Y => PySem.W.kIn_of Y) ?F
  case F =>
    intro w mg fa h KX G hmg
    refine' LAW.all_mk LAW.law_true KX G hmg ?g_C0 ?pg0 ?hd0 ?po0 ?sa0 ?mk0 ?kc0 ?n_lasting_0 ?n_steps_0 ?a0 ?i0 ?l0 ?c0 ?k0 ?a1 ?l1 ?c1 ?k1 ?a2 ?i2 ?l2 ?c2 ?k2 ?a3 ?l3 ?c3 ?k3 ?a4 ?l4 ?c4 ?k4 ?a5 ?l5 ?c5 ?k5 ?a6 ?l6 ?c6 ?k6 ?a7 ?i7 ?l7 ?c7 ?k7 ?a8 ?i8 ?l8 ?c8 ?k8 ?a9 ?i9 ?l9 ?c9 ?k9 ?a10 ?l10 ?c10 ?k10 ?a11 ?l11 ?c11 ?k11 ?a12 ?l12 ?c12 ?k12 ?a13 ?l13 ?c13 ?k13 ?a14 ?i14 ?l14 ?c14 ?k14 ?a15 ?i15 ?l15 ?c15 ?k15 ?a16 ?l16 ?c16 ?k16 ?z_bool ?z_int ?z_isinstance ?z_len ?z_list ?z_min ?z_range ?z_str ?z_tuple
    (case g_C0 => k_is)
    (case pg0 => k_is)
    (case hd0 => k_is)
    (case po0 => k_is)
    (case sa0 => k_is)
    (case mk0 => k_is)
    (case kc0 => k_is)
    (case n_lasting_0 => k_is)
    (case n_steps_0 => k_is)
    (case a0 => k_is)
    (case i0 => k_is)
    (case l0 => k_is)
    (case c0 => k_is)
    (case k0 => k_is)
    (case a1 => k_is)
    (case l1 => k_is)
    (case c1 => k_is)
    (case k1 => k_is)
    (case a2 => k_is)
    (case i2 => k_is)
    (case l2 => k_is)
    (case c2 => k_is)
    (case k2 => k_is)
    (case a3 => k_is)
    (case l3 => k_is)
    (case c3 => k_is)
    (case k3 => k_is)
    (case a4 => k_is)
    (case l4 => k_is)
    (case c4 => k_is)
    (case k4 => k_is)
    (case a5 => k_is)
    (case l5 => k_is)
    (case c5 => k_is)
    (case k5 => k_is)
    (case a6 => k_is)
    (case l6 => k_is)
    (case c6 => k_is)
    (case k6 => k_is)
    (case a7 => k_is)
    (case i7 => k_is)
    (case l7 => k_is)
    (case c7 => k_is)
    (case k7 => k_is)
    (case a8 => k_is)
    (case i8 => k_is)
    (case l8 => k_is)
    (case c8 => k_is)
    (case k8 => k_is)
    (case a9 => k_is)
    (case i9 => k_is)
    (case l9 => k_is)
    (case c9 => k_is)
    (case k9 => k_is)
    (case a10 => k_is)
    (case l10 => k_is)
    (case c10 => k_is)
    (case k10 => k_is)
    (case a11 => k_is)
    (case l11 => k_is)
    (case c11 => k_is)
    (case k11 => k_is)
    (case a12 => k_is)
    (case l12 => k_is)
    (case c12 => k_is)
    (case k12 => k_is)
    (case a13 => k_is)
    (case l13 => k_is)
    (case c13 => k_is)
    (case k13 => k_is)
    (case a14 => k_is)
    (case i14 => k_is)
    (case l14 => k_is)
    (case c14 => k_is)
    (case k14 => k_is)
    (case a15 => k_is)
    (case i15 => k_is)
    (case l15 => k_is)
    (case c15 => k_is)
    (case k15 => k_is)
    (case a16 => k_is)
    (case l16 => k_is)
    (case c16 => k_is)
    (case k16 => k_is)
    (case z_bool => k_is)
    (case z_int => k_is)
    (case z_isinstance => k_is)
    (case z_len => k_is)
    (case z_list => k_is)
    (case z_min => k_is)
    (case z_range => k_is)
    (case z_str => k_is)
    (case z_tuple => k_is)

