import PyProof.Rows.All
import Wide.All
import OpenK.AllK
import Wide.FinOn
import HandS.ForMost
import HandS.Wide
import HandS.Flow
import HandS.IsInst
import HandS.Exc
import HandS.TryOnly
import HandS.ExcOwn
import HandS.WordsExc
import HandS.Gcd
import HandS.Rev
import HandS.Zip
import HandS.Small
import HandS.TupAny
import HandS.Style
import HandS.ExcIs
import PySem.Challenge.RW_pageseen_k56_whole_shares_have_their_roo
set_option Elab.async false
set_option linter.all false
set_option maxRecDepth 100000
set_option maxHeartbeats 4000000
set_option exponentiation.threshold 4000
/-! The data layer: HandS's readings without the heap. A value is a datum (D), a slot holds a shared datum or a list of the def's own. -/
namespace DL
open PySem PySem.Spec PyProof.Rows L2

/-- a datum -/
inductive D where
  | non | bl (b : Bool) | int (i : Int) | str (x : Str) | lst (ds : List D) | tup (ds : List D) | dct | pool | scr (ds : List D) | adr (a : Addr)

mutual
inductive Rep (K : PySem.W.Frag) (pa : Option Addr) (G : Hp) : V → D → Prop where
  | non : Rep K pa G .non .non
  | bl (b : Bool) : Rep K pa G (.bl b) (.bl b)
  | int (i : Int) : Rep K pa G (.int i) (.int i)
  | str (x : Str) : Rep K pa G (.str x) (.str x)
  | lst {a : Addr} {xs : List V} {ds : List D} : G a = some (.lst xs) → RepAll K pa G xs ds → Rep K pa G (.ref a) (.lst ds)
  | tup {a : Addr} {xs : List V} {ds : List D} : SqT K G a xs → RepAll K pa G xs ds → Rep K pa G (.ref a) (.tup ds)
  | dct {a : Addr} : G a = some (.dK []) → Rep K pa G (.ref a) .dct
  | pool {a : Addr} : pa = some a → Rep K pa G (.ref a) .pool
  | scr {a : Addr} {xs : List V} {ds : List D} : SqL K G a xs → RepAll K pa G xs ds → Rep K pa G (.ref a) (.scr ds)
  | adr {a : Addr} {xs : List V} : G a = some (.lst xs) → Rep K pa G (.ref a) (.adr a)
inductive RepAll (K : PySem.W.Frag) (pa : Option Addr) (G : Hp) : List V → List D → Prop where
  | nil : RepAll K pa G [] []
  | cons {v : V} {vs : List V} {d : D} {ds : List D} : Rep K pa G v d → RepAll K pa G vs ds → RepAll K pa G (v :: vs) (d :: ds)
end

theorem sameT {K : PySem.W.Frag} {G G' : Hp} {a : Addr} {xs : List V} (s : Same G G') (h : SqT K G a xs) : SqT K G' a xs := by
  rcases h with (h | ⟨o, h⟩) | h
  · exact .inl (.inl (s _ _ h))
  · exact .inl (.inr ⟨o, s _ _ h⟩)
  · exact .inr h
theorem sameL {K : PySem.W.Frag} {G G' : Hp} {a : Addr} {xs : List V} (s : Same G G') (h : SqL K G a xs) : SqL K G' a xs := by
  rcases h with (h | ⟨o, h⟩) | h
  · exact .inl (.inl (s _ _ h))
  · exact .inl (.inr ⟨o, s _ _ h⟩)
  · exact .inr h
section
variable {K : PySem.W.Frag} {pa : Option Addr} {G G' : Hp}
mutual
theorem Rep.mono (s : Same G G') : ∀ {v : V} {d : D}, Rep K pa G v d → Rep K pa G' v d
  | _, _, .non => .non
  | _, _, .bl b => .bl b
  | _, _, .int i => .int i
  | _, _, .str x => .str x
  | _, _, .lst h r => .lst (s _ _ h) (RepAll.mono s r)
  | _, _, .tup h r => .tup (sameT s h) (RepAll.mono s r)
  | _, _, .dct h => .dct (s _ _ h)
  | _, _, .pool h => .pool h
  | _, _, .scr h r => .scr (sameL s h) (RepAll.mono s r)
  | _, _, .adr h => .adr (s _ _ h)
theorem RepAll.mono (s : Same G G') : ∀ {vs : List V} {ds : List D}, RepAll K pa G vs ds → RepAll K pa G' vs ds
  | _, _, .nil => .nil
  | _, _, .cons r t => .cons (Rep.mono s r) (RepAll.mono s t)
end
theorem RepAll.length : ∀ {vs : List V} {ds : List D}, RepAll K pa G vs ds → vs.length = ds.length
  | _, _, .nil => rfl
  | _, _, .cons _ t => by rw [List.length_cons, List.length_cons, RepAll.length t]
theorem RepAll.append : ∀ {vs ws : List V} {ds es : List D}, RepAll K pa G vs ds → RepAll K pa G ws es → RepAll K pa G (vs ++ ws) (ds ++ es)
  | _, _, _, _, .nil, h => h
  | _, _, _, _, .cons r t, h => .cons r (RepAll.append t h)
theorem RepAll.get : ∀ {vs : List V} {ds : List D} {i : Nat} {v : V}, RepAll K pa G vs ds → vs[i]? = some v → ∃ d, ds[i]? = some d ∧ Rep K pa G v d
  | _, _, _, _, .nil, e => by simp at e
  | _, _, 0, _, .cons r _, e => by simp at e; subst e; exact ⟨_, rfl, r⟩
  | _, _, i + 1, v, .cons _ t, e => by
    obtain ⟨d, h1, h2⟩ := RepAll.get (i := i) (v := v) t (by simpa using e)
    exact ⟨d, by simpa using h1, h2⟩
theorem RepAll.getD : ∀ {vs : List V} {ds : List D} {i : Nat} {d : D}, RepAll K pa G vs ds → ds[i]? = some d → ∃ v, vs[i]? = some v ∧ Rep K pa G v d
  | _, _, _, _, .nil, e => by simp at e
  | _, _, 0, _, .cons r _, e => by simp at e; subst e; exact ⟨_, rfl, r⟩
  | _, _, i + 1, d, .cons _ t, e => by
    obtain ⟨v, h1, h2⟩ := RepAll.getD (i := i) (d := d) t (by simpa using e)
    exact ⟨v, by simpa using h1, h2⟩
theorem RepAll.set {v : V} {d : D} (r : Rep K pa G v d) : ∀ {vs : List V} {ds : List D} (i : Nat), RepAll K pa G vs ds → RepAll K pa G (vs.set i v) (ds.set i d)
  | _, _, _, .nil => .nil
  | _, _, 0, .cons _ t => .cons r t
  | _, _, i + 1, .cons q t => .cons q (RepAll.set r i t)
theorem RepAll.take : ∀ {vs : List V} {ds : List D} (n : Nat), RepAll K pa G vs ds → RepAll K pa G (vs.take n) (ds.take n)
  | _, _, 0, _ => by simp only [List.take_zero]; exact .nil
  | _, _, _ + 1, .nil => .nil
  | _, _, n + 1, .cons r t => .cons r (RepAll.take n t)
theorem RepAll.drop : ∀ {vs : List V} {ds : List D} (n : Nat), RepAll K pa G vs ds → RepAll K pa G (vs.drop n) (ds.drop n)
  | _, _, 0, r => r
  | _, _, _ + 1, .nil => .nil
  | _, _, n + 1, .cons _ t => RepAll.drop n t
theorem RepAll.dropLast {vs : List V} {ds : List D} (h : RepAll K pa G vs ds) : RepAll K pa G vs.dropLast ds.dropLast := by
  rw [List.dropLast_eq_take, List.dropLast_eq_take, h.length]; exact h.take _
theorem RepAll.ints : ∀ (ns : List Int), RepAll K pa G (ns.map V.int) (ns.map D.int)
  | [] => .nil
  | n :: ns => .cons (.int n) (RepAll.ints ns)
theorem RepAll.of_ints : ∀ {vs : List V} {ns : List Int}, RepAll K pa G vs (ns.map D.int) → vs = ns.map V.int
  | _, [], .nil => rfl
  | _, n :: ns, .cons (.int _) t => by rw [List.map_cons, RepAll.of_ints t]
theorem RepAll.of_bls : ∀ {vs : List V} {ns : List Bool}, RepAll K pa G vs (ns.map D.bl) → vs = ns.map V.bl
  | _, [], .nil => rfl
  | _, n :: ns, .cons (.bl _) t => by rw [List.map_cons, RepAll.of_bls t]
theorem RepAll.of_strs : ∀ {vs : List V} {ns : List Str}, RepAll K pa G vs (ns.map D.str) → vs = ns.map V.str
  | _, [], .nil => rfl
  | _, n :: ns, .cons (.str _) t => by rw [List.map_cons, RepAll.of_strs t]
theorem RepAll.rev : ∀ {vs : List V} {ds : List D}, RepAll K pa G vs ds → RepAll K pa G vs.reverse ds.reverse
  | _, _, .nil => .nil
  | _, _, .cons r t => by rw [List.reverse_cons, List.reverse_cons]; exact (RepAll.rev t).append (.cons r .nil)
theorem RepAll.rep {vs : List V} {ds : List D} (h : RepAll K pa G vs ds) : ∀ k : Nat, RepAll K pa G (List.replicate k vs).flatten (List.replicate k ds).flatten
  | 0 => .nil
  | k + 1 => by rw [List.replicate_succ, List.replicate_succ, List.flatten_cons, List.flatten_cons]; exact h.append (RepAll.rep h k)
end

/-- a slot: a shared datum; a list that no one else holds -/
inductive Sl where
  | sh (d : D) | ow (ds : List D)
abbrev Tau := List (Option Sl)

/-- the pool of a law: its place, and numbers behind it -/
def Good (pl : List Int) : Prop := ∃ p r, pl = p :: r ∧ 1 ≤ p ∧ p < (pl.length : Int) ∧ pl.length ≤ 1000000 ∧ ∀ x ∈ r, 0 ≤ x ∧ x < 60
def PoolOk (pa : Option Addr) (G H : Hp) : Prop := ∀ a, pa = some a → G a = none ∧ ∃ pl : List Int, H a = some (.lst (pl.map V.int)) ∧ Good pl
def Keep (pa : Option Addr) (H H' : Hp) : Prop := ∀ b o, some b ≠ pa → H b = some o → H' b = some o

/-- what stands fixed through a def's body: the written part, the pool, the entry, the wish about exceptions -/
structure Bs where
  K : PySem.W.Frag
  pa : Option Addr
  G0 : Hp
  H0 : Hp
  ew : XK
structure SB (B : Bs) (G H : Hp) : Prop where
  keep : Keep B.pa B.H0 H
  grow : Same B.G0 G
  fresh : ∀ a o, G a = some o → B.G0 a = some o ∨ B.H0 a = none
  same : Same G H
  pool : PoolOk B.pa G H
def RS (B : Bs) (G H : Hp) : V → Sl → Prop
  | v, .sh d => Rep B.K B.pa G v d
  | v, .ow ds => ∃ a vs, v = .ref a ∧ G a = none ∧ some a ≠ B.pa ∧ B.H0 a = none ∧ H a = some (.lst vs) ∧ RepAll B.K B.pa G vs ds
abbrev Cell := Option (V × Sl)
def Inj (L : List Cell) : Prop := ∀ (i j : Nat) (v : V) (s s' : List D), L[i]? = some (some (v, Sl.ow s)) → L[j]? = some (some (v, Sl.ow s')) → i = j
abbrev Tmp := List Cell
/-- the slots hold what the cells say -/
def Fits (C : List Cell) (σ : L2.St) : Prop := C.length = σ.length ∧ ∀ (i : Nat) (v : V) (s : Sl), C[i]? = some (some (v, s)) → σ[i]? = some (some v)
abbrev sls (C : List Cell) : Tau := C.map (Option.map Prod.snd)
structure SR (B : Bs) (G H : Hp) (C : List Cell) (Θ : Tmp) : Prop where
  sb : SB B G H
  rs : ∀ p, some p ∈ C ++ Θ → RS B G H p.1 p.2
  inj : Inj (C ++ Θ)

/-- what a step may do to the heap: G grows by new things, H too -/
structure Step (pa : Option Addr) (G H G' H' : Hp) : Prop where
  grow : Same G G'
  fresh : ∀ a o, G' a = some o → G a = some o ∨ H a = none
  same : Same G' H'
  keep : Keep pa H H'
  pool : PoolOk pa G' H'

section
variable {B : Bs} {G H G' H' : Hp} {C : List Cell} {Θ : Tmp}
theorem SB.step (s : SB B G H) (t : Step B.pa G H G' H') : SB B G' H' where
  keep := fun b o h e => t.keep b o h (s.keep b o h e)
  grow := s.grow.trans t.grow
  fresh := fun a o e => by
    rcases t.fresh a o e with h | h
    · exact s.fresh a o h
    · refine .inr ?_
      by_cases hp : some a = B.pa
      · have := (t.pool a hp.symm).1
        rw [e] at this; cases this
      · cases q : B.H0 a with
        | none => rfl
        | some u => rw [s.keep a u hp q] at h; cases h
  same := t.same
  pool := t.pool
theorem RS.step (s : SB B G H) (t : Step B.pa G H G' H') : ∀ {v : V} {x : Sl}, RS B G H v x → RS B G' H' v x
  | v, .sh d, h => Rep.mono t.grow h
  | v, .ow ds, ⟨a, vs, e, h1, h2, h3, h4, h5⟩ => by
    refine ⟨a, vs, e, ?_, h2, h3, t.keep _ _ h2 h4, RepAll.mono t.grow h5⟩
    cases q : G' a with
    | none => rfl
    | some o =>
      rcases t.fresh a o q with z | z
      · rw [h1] at z; cases z
      · rw [h4] at z; cases z
theorem SR.step (s : SR B G H C Θ) (t : Step B.pa G H G' H') : SR B G' H' C Θ :=
  ⟨s.sb.step t, fun p hp => RS.step s.sb t (s.rs p hp), s.inj⟩
theorem Step.refl (s : SB B G H) : Step B.pa G H G H := ⟨Same.refl G, fun _ _ h => .inl h, s.same, fun _ _ _ h => h, s.pool⟩
/-- a new object, tracked by G too -/
theorem Step.new {o : HO} {p : Addr} (s : SB B G H) (hp : H p = none) : Step B.pa G H (upd G p o) (upd H p o) := by
  have hg : G p = none := s.same.free hp
  refine ⟨fun b u e => ?_, fun b u e => ?_, fun b u e => ?_, fun b u _ e => ?_, fun a ha => ?_⟩
  · rw [upd_ne (ne_of_none e hg)]; exact e
  · by_cases hb : b = p
    · subst hb; exact .inr hp
    · rw [upd_ne hb] at e; exact .inl e
  · by_cases hb : b = p
    · subst hb; rw [upd_same] at e ⊢; exact e
    · rw [upd_ne hb] at e ⊢; exact s.same _ _ e
  · rw [upd_ne (ne_of_none e hp)]; exact e
  · obtain ⟨h1, pl, h2, h3⟩ := s.pool a ha
    have hap : a ≠ p := ne_of_none h2 hp
    exact ⟨by rw [upd_ne hap]; exact h1, pl, by rw [upd_ne hap]; exact h2, h3⟩
/-- a new object that G does not track -/
theorem Step.own {o : HO} {p : Addr} (s : SB B G H) (hp : H p = none) : Step B.pa G H G (upd H p o) := by
  refine ⟨Same.refl G, fun b u e => .inl e, fun b u e => ?_, fun b u _ e => ?_, fun a ha => ?_⟩
  · have := s.same _ _ e
    rw [upd_ne (ne_of_none this hp)]; exact this
  · rw [upd_ne (ne_of_none e hp)]; exact e
  · obtain ⟨h1, pl, h2, h3⟩ := s.pool a ha
    exact ⟨h1, pl, by rw [upd_ne (ne_of_none h2 hp)]; exact h2, h3⟩

/-! ### temporaries -/
theorem Inj.sub {L M : List Cell} (h : Inj (L ++ M)) : Inj L := fun i j v s s' h1 h2 =>
  h i j v s s' (by rw [List.getElem?_append_left (List.getElem?_eq_some_iff.mp h1).1]; exact h1) (by rw [List.getElem?_append_left (List.getElem?_eq_some_iff.mp h2).1]; exact h2)
theorem get_snoc {α : Type} {L : List α} {x y : α} {i : Nat} (h : (L ++ [x])[i]? = some y) : L[i]? = some y ∨ (i = L.length ∧ x = y) := by
  by_cases hi : i < L.length
  · rw [List.getElem?_append_left hi] at h; exact .inl h
  · have hlt := (List.getElem?_eq_some_iff.mp h).1
    rw [List.length_append, List.length_singleton] at hlt
    have e : i = L.length := by omega
    subst e
    rw [List.getElem?_append_right (Nat.le_refl _), Nat.sub_self] at h
    exact .inr ⟨rfl, by simpa using h⟩
theorem Inj.push_sh {L : List Cell} {v : V} {d : D} (h : Inj L) : Inj (L ++ [some (v, .sh d)]) := fun i j w s s' h1 h2 => by
  rcases get_snoc h1 with h1 | ⟨_, e⟩
  · rcases get_snoc h2 with h2 | ⟨_, e⟩
    · exact h i j w s s' h1 h2
    · injection e with e; injection e with _ e; cases e
  · injection e with e; injection e with _ e; cases e
theorem Inj.push_ow {L : List Cell} {v : V} {ds : List D} (h : Inj L) (n : ∀ s, some (v, .ow s) ∉ L) : Inj (L ++ [some (v, .ow ds)]) := fun i j w s s' h1 h2 => by
  rcases get_snoc h1 with h1 | ⟨e1, e⟩
  · rcases get_snoc h2 with h2 | ⟨_, e⟩
    · exact h i j w s s' h1 h2
    · injection e with e; injection e with e _; subst e
      exact (n s (List.mem_of_getElem? h1)).elim
  · injection e with e; injection e with e _; subst e
    rcases get_snoc h2 with h2 | ⟨e2, _⟩
    · exact (n s' (List.mem_of_getElem? h2)).elim
    · rw [e1, e2]
theorem map_snoc (Θ : Tmp) (p : Cell) (C : List Cell) : C ++ (Θ ++ [p]) = (C ++ Θ) ++ [p] := by
  rw [List.append_assoc]
theorem SR.pop {Ξ : Tmp} (s : SR B G H C (Θ ++ Ξ)) : SR B G H C Θ := by
  have e : C ++ (Θ ++ Ξ) = (C ++ Θ) ++ Ξ := by rw [List.append_assoc]
  have h1 := s.rs
  have h2 := s.inj
  rw [e] at h1 h2
  exact ⟨s.sb, fun p hp => h1 p (List.mem_append_left _ hp), h2.sub⟩
theorem SR.push {v : V} {d : D} (s : SR B G H C Θ) (r : Rep B.K B.pa G v d) : SR B G H C (Θ ++ [some (v, .sh d)]) := by
  refine ⟨s.sb, fun p hp => ?_, by rw [map_snoc]; exact s.inj.push_sh⟩
  rw [map_snoc] at hp
  rcases List.mem_append.mp hp with h | h
  · exact s.rs p h
  · rw [List.mem_singleton] at h; injection h with h; subst h; exact r
theorem SR.last {v : V} {x : Sl} (s : SR B G H C (Θ ++ [some (v, x)])) : RS B G H v x :=
  s.rs (v, x) (by rw [map_snoc]; exact List.mem_append_right _ (List.mem_singleton.mpr rfl))
theorem SR.tmp {p : V × Sl} (s : SR B G H C Θ) (h : some p ∈ Θ) : RS B G H p.1 p.2 :=
  s.rs p (List.mem_append_right _ h)
theorem SR.fresh {p : Addr} {ds : List D} {vs : List V} (s : SR B G H C Θ) (hp : H p = none) (r : RepAll B.K B.pa G vs ds) : SR B G (upd H p (.lst vs)) C (Θ ++ [some (.ref p, .ow ds)]) := by
  have s1 := s.step (Step.own (o := .lst vs) s.sb hp)
  have hpa : some p ≠ B.pa := fun e => by
    obtain ⟨_, pl, h2, _⟩ := s.sb.pool p e.symm
    rw [hp] at h2; cases h2
  have h0 : B.H0 p = none := by
    cases q : B.H0 p with
    | none => rfl
    | some u => rw [s.sb.keep p u hpa q] at hp; cases hp
  refine ⟨s1.sb, fun q hq => ?_, ?_⟩
  · rw [map_snoc] at hq
    rcases List.mem_append.mp hq with h | h
    · exact s1.rs q h
    · rw [List.mem_singleton] at h; injection h with h; subst h
      exact ⟨p, vs, rfl, s.sb.same.free hp, hpa, h0, upd_same, r⟩
  · rw [map_snoc]
    refine s.inj.push_ow fun x hx => ?_
    obtain ⟨a, ws, e, _, _, _, h4, _⟩ := s.rs _ hx
    injection e with e
    subst e
    rw [hp] at h4; cases h4
/-- a list of one's own becomes a shared one -/
theorem Step.freeze {a : Addr} {vs : List V} (s : SB B G H) (h2 : some a ≠ B.pa) (h4 : H a = some (.lst vs)) : Same G (upd G a (.lst vs)) ∨ True := .inr trivial
theorem SB.freeze {a : Addr} {vs : List V} (s : SB B G H) (h1 : G a = none) (h2 : some a ≠ B.pa) (h3 : B.H0 a = none) (h4 : H a = some (.lst vs)) : SB B (upd G a (.lst vs)) H where
  keep := s.keep
  grow := fun b o e => by
    have := s.grow b o e
    rw [upd_ne (ne_of_none this h1)]; exact this
  fresh := fun b o e => by
    by_cases hb : b = a
    · subst hb; exact .inr h3
    · rw [upd_ne hb] at e; exact s.fresh b o e
  same := fun b o e => by
    by_cases hb : b = a
    · subst hb; rw [upd_same] at e; rw [← e]; exact h4
    · rw [upd_ne hb] at e; exact s.same b o e
  pool := fun b hb => by
    obtain ⟨q1, q2⟩ := s.pool b hb
    refine ⟨?_, q2⟩
    rw [upd_ne (fun z => h2 (by rw [← z]; exact hb.symm))]; exact q1
theorem same_upd {a : Addr} {o : HO} (h1 : G a = none) : Same G (upd G a o) := fun b u e => by rw [upd_ne (ne_of_none e h1)]; exact e
/-- all cells but the k-th, which is frozen -/
theorem freeze_core {L : List Cell} {k : Nat} {v : V} {ds : List D} (sb : SB B G H) (rs : ∀ p, some p ∈ L → RS B G H p.1 p.2) (inj : Inj L) (hk : L[k]? = some (some (v, .ow ds))) :
    ∃ G', SB B G' H ∧ (∀ p, some p ∈ L.set k (some (v, .sh (.lst ds))) → RS B G' H p.1 p.2) ∧ Inj (L.set k (some (v, .sh (.lst ds)))) ∧ Same G G' ∧ Rep B.K B.pa G' v (.lst ds) := by
  obtain ⟨a, vs, e, h1, h2, h3, h4, h5⟩ := rs _ (List.mem_of_getElem? hk)
  have e : v = .ref a := e
  subst e
  have sg := same_upd (o := .lst vs) h1
  have hr : Rep B.K B.pa (upd G a (.lst vs)) (.ref a) (.lst ds) := .lst upd_same (RepAll.mono sg h5)
  refine ⟨upd G a (.lst vs), sb.freeze h1 h2 h3 h4, fun p hp => ?_, fun i j w s s' q1 q2 => ?_, sg, hr⟩
  · obtain ⟨i, hi⟩ := List.getElem?_of_mem hp
    by_cases hik : i = k
    · subst hik
      rw [List.getElem?_set_self (List.getElem?_eq_some_iff.mp hk).1] at hi
      injection hi with hi; injection hi with hi; subst hi
      exact hr
    · rw [List.getElem?_set_ne (Ne.symm hik)] at hi
      have hm := rs p (List.mem_of_getElem? hi)
      obtain ⟨w, x⟩ := p
      cases x with
      | sh d => exact Rep.mono sg hm
      | ow es =>
        obtain ⟨b, ws, e, g1, g2, g3, g4, g5⟩ := hm
        refine ⟨b, ws, e, ?_, g2, g3, g4, RepAll.mono sg g5⟩
        have e : w = .ref b := e
        subst e
        have hne : b ≠ a := fun z => by
          subst z
          exact hik (inj i k _ _ _ hi hk)
        rw [upd_ne hne]; exact g1
  · by_cases hik : i = k
    · subst hik
      rw [List.getElem?_set_self (List.getElem?_eq_some_iff.mp hk).1] at q1
      injection q1 with q1; injection q1 with q1; injection q1 with _ q1; cases q1
    · by_cases hjk : j = k
      · subst hjk
        rw [List.getElem?_set_self (List.getElem?_eq_some_iff.mp hk).1] at q2
        injection q2 with q2; injection q2 with q2; injection q2 with _ q2; cases q2
      · rw [List.getElem?_set_ne (Ne.symm hik)] at q1
        rw [List.getElem?_set_ne (Ne.symm hjk)] at q2
        exact inj i j w s s' q1 q2
theorem SR.freezeT {v : V} {ds : List D} (s : SR B G H C (Θ ++ [some (v, .ow ds)])) : ∃ G', SR B G' H C (Θ ++ [some (v, .sh (.lst ds))]) := by
  have e := map_snoc Θ (some (v, .ow ds)) C
  have hk : (C ++ (Θ ++ [some (v, Sl.ow ds)]))[(C ++ Θ).length]? = some (some (v, .ow ds)) := by
    rw [e, List.getElem?_append_right (Nat.le_refl _), Nat.sub_self]; rfl
  obtain ⟨G', h1, h2, h3, _, _⟩ := freeze_core s.sb s.rs s.inj hk
  refine ⟨G', h1, ?_, ?_⟩
  · have e2 : (C ++ (Θ ++ [some (v, Sl.ow ds)])).set (C ++ Θ).length (some (v, .sh (.lst ds))) = C ++ (Θ ++ [some (v, Sl.sh (.lst ds))]) := by
      rw [e, map_snoc, List.set_append_right _ _ (Nat.le_refl _), Nat.sub_self]; rfl
    rw [e2] at h2; exact h2
  · have e2 : (C ++ (Θ ++ [some (v, Sl.ow ds)])).set (C ++ Θ).length (some (v, .sh (.lst ds))) = C ++ (Θ ++ [some (v, Sl.sh (.lst ds))]) := by
      rw [e, map_snoc, List.set_append_right _ _ (Nat.le_refl _), Nat.sub_self]; rfl
    rw [e2] at h3; exact h3
theorem SR.freezeS {i : Nat} {v : V} {ds : List D} (s : SR B G H C Θ) (hi : C[i]? = some (some (v, .ow ds))) : ∃ G', SR B G' H (C.set i (some (v, .sh (.lst ds)))) Θ ∧ Rep B.K B.pa G' v (.lst ds) := by
  have hlt := (List.getElem?_eq_some_iff.mp hi).1
  have hk : (C ++ Θ)[i]? = some (some (v, .ow ds)) := by rw [List.getElem?_append_left hlt]; exact hi
  obtain ⟨G', h1, h2, h3, _, hr⟩ := freeze_core s.sb s.rs s.inj hk
  rw [List.set_append_left _ _ hlt] at h2 h3
  exact ⟨G', ⟨h1, h2, h3⟩, hr⟩
/-- the last temporary goes into a slot -/
theorem SR.store {i : Nat} {v : V} {x : Sl} (s : SR B G H C (Θ ++ [some (v, x)])) (hi : i < C.length) : SR B G H (C.set i (some (v, x))) Θ := by
  have e := map_snoc Θ (some (v, x)) C
  have h1 := s.rs
  have h2 := s.inj
  rw [e] at h1 h2
  have hC : ∀ {j : Nat} {y : Cell}, j ≠ i → (C.set i (some (v, x)) ++ Θ)[j]? = some y → (C ++ Θ)[j]? = some y := fun {j y} hj q => by
    by_cases hjl : j < C.length
    · rw [List.getElem?_append_left (by simpa using hjl), List.getElem?_set_ne (Ne.symm hj)] at q
      rw [List.getElem?_append_left hjl]; exact q
    · rw [List.getElem?_append_right (by simpa using hjl), List.length_set] at q
      rw [List.getElem?_append_right (by omega)]; exact q
  have hC' : ∀ {j : Nat} {y : Cell}, (C ++ Θ)[j]? = some y → ((C ++ Θ) ++ [some (v, x)])[j]? = some y := fun {j y} q => by
    rw [List.getElem?_append_left (List.getElem?_eq_some_iff.mp q).1]; exact q
  have hl : ((C ++ Θ) ++ [some (v, x)])[(C ++ Θ).length]? = some (some (v, x)) := by
    rw [List.getElem?_append_right (Nat.le_refl _), Nat.sub_self]; rfl
  have hself : (C.set i (some (v, x)) ++ Θ)[i]? = some (some (v, x)) := by
    rw [List.getElem?_append_left (by simpa using hi), List.getElem?_set_self hi]
  refine ⟨s.sb, fun p hp => ?_, fun j k w y z q1 q2 => ?_⟩
  · obtain ⟨j, hj⟩ := List.getElem?_of_mem hp
    by_cases hji : j = i
    · subst hji
      rw [hself] at hj; injection hj with hj; injection hj with hj; subst hj
      exact h1 _ (List.mem_append_right _ (List.mem_singleton.mpr rfl))
    · exact h1 p (List.mem_append_left _ (List.mem_of_getElem? (hC hji hj)))
  · by_cases hji : j = i
    · by_cases hki : k = i
      · rw [hji, hki]
      · subst hji
        rw [hself] at q1
        have q2' := hC hki q2
        injection q1 with q1; injection q1 with q1; injection q1 with q1 q1'; subst q1 q1'
        have := h2 _ _ _ _ _ hl (hC' q2')
        have hlt := (List.getElem?_eq_some_iff.mp q2').1
        omega
    · by_cases hki : k = i
      · subst hki
        rw [hself] at q2
        have q1' := hC hji q1
        injection q2 with q2; injection q2 with q2; injection q2 with q2 q2'; subst q2 q2'
        have := h2 _ _ _ _ _ hl (hC' q1')
        have hlt := (List.getElem?_eq_some_iff.mp q1').1
        omega
      · exact h2 j k w y z (hC' (hC hji q1)) (hC' (hC hki q2))
/-- a slot forgotten -/
theorem SR.forget {i : Nat} (s : SR B G H C Θ) : SR B G H (C.set i none) Θ := by
  by_cases hi : i < C.length
  · refine ⟨s.sb, fun p hp => ?_, fun j k w y z q1 q2 => ?_⟩
    · rcases List.mem_append.mp hp with h | h
      · rcases List.mem_or_eq_of_mem_set h with h | h
        · exact s.rs p (List.mem_append_left _ h)
        · cases h
      · exact s.rs p (List.mem_append_right _ h)
    · have hC : ∀ {j : Nat} {y : V × Sl}, (C.set i none ++ Θ)[j]? = some (some y) → (C ++ Θ)[j]? = some (some y) := fun {j y} q => by
        by_cases hjl : j < C.length
        · rw [List.getElem?_append_left (by simpa using hjl)] at q
          rw [List.getElem?_append_left hjl]
          by_cases hj : j = i
          · subst hj; rw [List.getElem?_set_self hi] at q; cases q
          · rw [List.getElem?_set_ne (Ne.symm hj)] at q; exact q
        · rw [List.getElem?_append_right (by simpa using hjl), List.length_set] at q
          rw [List.getElem?_append_right (by omega)]; exact q
      exact s.inj j k w y z (hC q1) (hC q2)
  · rw [List.set_eq_of_length_le (by omega)]; exact s
/-- a list of one's own in a slot is written -/
theorem SR.write {i : Nat} {a : Addr} {ds es : List D} {vs ws : List V} (s : SR B G H C Θ) (hi : C[i]? = some (some (.ref a, .ow ds))) (hH : H a = some (.lst vs)) (r : RepAll B.K B.pa G ws es) :
    SR B G (upd H a (.lst ws)) (C.set i (some (.ref a, .ow es))) Θ := by
  have hlt := (List.getElem?_eq_some_iff.mp hi).1
  have hk : (C ++ Θ)[i]? = some (some (.ref a, .ow ds)) := by rw [List.getElem?_append_left hlt]; exact hi
  obtain ⟨a', vs', e, h1, h2, h3, h4, h5⟩ := s.rs _ (List.mem_of_getElem? hk)
  injection e with e; subst e
  have e : C.set i (some (V.ref a, Sl.ow es)) ++ Θ = (C ++ Θ).set i (some (.ref a, .ow es)) := by rw [List.set_append_left _ _ hlt]
  have hlt2 : i < (C ++ Θ).length := by rw [List.length_append]; omega
  refine ⟨⟨fun b o hb q => ?_, s.sb.grow, s.sb.fresh, fun b o q => ?_, fun b hb => ?_⟩, fun p hp => ?_, ?_⟩
  · rw [upd_ne (fun z => by subst z; rw [h3] at q; cases q)]; exact s.sb.keep b o hb q
  · rw [upd_ne (fun z => by subst z; rw [h1] at q; cases q)]; exact s.sb.same b o q
  · obtain ⟨q1, pl, q2, q3⟩ := s.sb.pool b hb
    exact ⟨q1, pl, by rw [upd_ne (fun z => h2 (by rw [← z]; exact hb.symm))]; exact q2, q3⟩
  · rw [e] at hp
    obtain ⟨j, hj⟩ := List.getElem?_of_mem hp
    by_cases hji : j = i
    · subst hji
      rw [List.getElem?_set_self hlt2] at hj; injection hj with hj; injection hj with hj; subst hj
      exact ⟨a, ws, rfl, h1, h2, h3, upd_same, r⟩
    · rw [List.getElem?_set_ne (Ne.symm hji)] at hj
      have hm := s.rs p (List.mem_of_getElem? hj)
      obtain ⟨w, x⟩ := p
      cases x with
      | sh d => exact hm
      | ow fs =>
        obtain ⟨b, us, e, g1, g2, g3, g4, g5⟩ := hm
        have e : w = .ref b := e
        subst e
        have hne : b ≠ a := fun z => by
          subst z
          exact hji (s.inj j i _ _ _ hj hk)
        exact ⟨b, us, rfl, g1, g2, g3, by rw [upd_ne hne]; exact g4, g5⟩
  · rw [e]
    intro j k w y z q1 q2
    by_cases hji : j = i
    · by_cases hki : k = i
      · rw [hji, hki]
      · subst hji
        rw [List.getElem?_set_self hlt2] at q1; rw [List.getElem?_set_ne (Ne.symm hki)] at q2
        injection q1 with q1; injection q1 with q1; injection q1 with q1 _; subst q1
        exact s.inj j k _ _ _ hk q2
    · by_cases hki : k = i
      · subst hki
        rw [List.getElem?_set_self hlt2] at q2; rw [List.getElem?_set_ne (Ne.symm hji)] at q1
        injection q2 with q2; injection q2 with q2; injection q2 with q2 _; subst q2
        exact s.inj j k _ _ _ q1 hk
      · rw [List.getElem?_set_ne (Ne.symm hji)] at q1; rw [List.getElem?_set_ne (Ne.symm hki)] at q2
        exact s.inj j k w y z q1 q2
end
end DL
/-! The data layer's judgements: expressions. -/
namespace DL
open PySem PySem.Spec PyProof.Rows L2

abbrev EX := Addr → Prop
/-- readings over data: an expression's, a test's, an argument list's, a new list's, a mixed list's -/
structure FE where
  run : EX → Tau → (D → Tau → Prop) → Prop
  mono : ∀ {ex ex' : EX} {τ : Tau} {Q Q' : D → Tau → Prop}, (∀ c, ex c → ex' c) → (∀ d t, Q d t → Q' d t) → run ex τ Q → run ex' τ Q'
structure FT where
  run : EX → Tau → (Bool → Tau → Prop) → Prop
  mono : ∀ {ex ex' : EX} {τ : Tau} {Q Q' : Bool → Tau → Prop}, (∀ c, ex c → ex' c) → (∀ d t, Q d t → Q' d t) → run ex τ Q → run ex' τ Q'
structure FA where
  run : EX → Tau → (List D → Tau → Prop) → Prop
  mono : ∀ {ex ex' : EX} {τ : Tau} {Q Q' : List D → Tau → Prop}, (∀ c, ex c → ex' c) → (∀ d t, Q d t → Q' d t) → run ex τ Q → run ex' τ Q'
structure FM where
  run : EX → Tau → (List Sl → Tau → Prop) → Prop
  mono : ∀ {ex ex' : EX} {τ : Tau} {Q Q' : List Sl → Tau → Prop}, (∀ c, ex c → ex' c) → (∀ d t, Q d t → Q' d t) → run ex τ Q → run ex' τ Q'
/-- by values: one, two data -/
structure F1 where
  run : D → (D → Prop) → Prop
  mono : ∀ {d : D} {Q Q' : D → Prop}, (∀ d, Q d → Q' d) → run d Q → run d Q'
structure F2 where
  run : D → D → (D → Prop) → Prop
  mono : ∀ {d e : D} {Q Q' : D → Prop}, (∀ d, Q d → Q' d) → run d e Q → run d e Q'
/-- two data to a new list -/
structure F2L where
  run : D → D → (List D → Prop) → Prop
  mono : ∀ {d e : D} {Q Q' : List D → Prop}, (∀ d, Q d → Q' d) → run d e Q → run d e Q'

def exOf (B : Bs) : EX := fun c => ∀ G' H', SB B G' H' → B.ew (.ref c) none H'

section
variable (B : Bs)
def liftE (f : FE) : TE := fun σ H Q => ∃ G C Θ, Fits C σ ∧ SR B G H C Θ ∧ f.run (exOf B) (sls C) fun d τ' => ∀ v G' H' C', Fits C' σ → sls C' = τ' → SR B G' H' C' Θ → Rep B.K B.pa G' v d → Q v H'
def liftT (f : FT) : TT := fun σ H Q => ∃ G C Θ, Fits C σ ∧ SR B G H C Θ ∧ f.run (exOf B) (sls C) fun b τ' => ∀ G' H' C', Fits C' σ → sls C' = τ' → SR B G' H' C' Θ → Q b H'
def liftA (f : FA) : TA := fun σ H Q => ∃ G C Θ, Fits C σ ∧ SR B G H C Θ ∧ f.run (exOf B) (sls C) fun ds τ' => ∀ vs G' H' C', Fits C' σ → sls C' = τ' → SR B G' H' C' Θ → RepAll B.K B.pa G' vs ds → Q vs H'
def liftO (f : FA) : TE := fun σ H Q => ∃ G C Θ, Fits C σ ∧ SR B G H C Θ ∧ f.run (exOf B) (sls C) fun ds τ' => ∀ a G' H' C', Fits C' σ → sls C' = τ' → SR B G' H' C' (Θ ++ [some (.ref a, .ow ds)]) → Q (.ref a) H'
def liftM (f : FM) : TA := fun σ H Q => ∃ G C Θ, Fits C σ ∧ SR B G H C Θ ∧ f.run (exOf B) (sls C) fun xs τ' => ∀ vs G' H' C', Fits C' σ → sls C' = τ' → vs.length = xs.length → SR B G' H' C' (Θ ++ (vs.zip xs).map some) → Q vs H'
end
structure DE (X : Cx) (B : Bs) (e : Expr) (f : FE) : Prop where
  pe : PE X e (liftE B f)
structure DT (X : Cx) (B : Bs) (e : Expr) (f : FT) : Prop where
  pt : PT X e (liftT B f)
structure DW (X : Cx) (B : Bs) (e : Expr) (f : FT) : Prop where
  pw : PW X e (liftT B f)
structure DA (X : Cx) (B : Bs) (es : List Expr) (f : FA) : Prop where
  pa : PA X es (liftA B f)
structure DO (X : Cx) (B : Bs) (e : Expr) (f : FA) : Prop where
  pe : PE X e (liftO B f)
structure DM (X : Cx) (B : Bs) (es : List Expr) (f : FM) : Prop where
  pa : PA X es (liftM B f)

section
variable {X : Cx} {e : Expr} {es : List Expr}
theorem peImp {t t' : TE} (h : PE X e t) (i : ∀ σ H Q, t' σ H Q → t σ H Q) : PE X e t' := ⟨fun pins s σ H Q I q => h.run pins s σ H Q I (i σ H Q q)⟩
theorem ptImp {t t' : TT} (h : PT X e t) (i : ∀ σ H Q, t' σ H Q → t σ H Q) : PT X e t' := ⟨fun pins s σ H Q I q => h.run pins s σ H Q I (i σ H Q q)⟩
theorem pwImp {t t' : TT} (h : PW X e t) (i : ∀ σ H Q, t' σ H Q → t σ H Q) : PW X e t' := ⟨fun wh pins s σ H Q I q => h.run wh pins s σ H Q I (i σ H Q q)⟩
theorem paImp {t t' : TA} (h : PA X es t) (i : ∀ σ H Q, t' σ H Q → t σ H Q) : PA X es t' := ⟨fun pos pins s σ H Q I q => h.run pos pins s σ H Q I (i σ H Q q)⟩
end

section
variable {B : Bs} {G H G' H' : Hp} {C C' : List Cell} {Θ Ξ : Tmp} {σ : L2.St}
/-- after an expression another one: the first one's value is kept as a temporary -/
theorem after {f : FE} {Q : VK} {v : V} {d : D} (hf : Fits C σ) (s : SR B G H C Θ) (r : Rep B.K B.pa G v d) (q : f.run (exOf B) (sls C) fun e τ' => ∀ w G' H' C', Fits C' σ → sls C' = τ' → SR B G' H' C' Θ → Rep B.K B.pa G' v d → Rep B.K B.pa G' w e → Q w H') :
    liftE B f σ H Q := ⟨G, C, Θ ++ [some (v, .sh d)], hf, s.push r, f.mono (fun _ h => h) (fun e τ' h w G' H' C' h1 h2 s' r' => h w G' H' C' h1 h2 s'.pop (s'.last (x := .sh d)) r') q⟩
end

/-! ### names and constants -/
def fVar (i : Nat) : FE where
  run := fun _ τ Q => match τ[i]? with
    | some (some (.sh d)) => Q d τ
    | some (some (.ow ds)) => Q (.lst ds) (τ.set i (some (.sh (.lst ds))))
    | _ => False
  mono := fun {ex ex' τ Q Q'} _ h q => by
    match e : τ[i]? with
    | some (some (.sh d)) => simp only [e] at q ⊢; exact h _ _ q
    | some (some (.ow ds)) => simp only [e] at q ⊢; exact h _ _ q
    | some none => simp only [e] at q
    | none => simp only [e] at q
def fC (d : D) : FE := ⟨fun _ τ Q => Q d τ, fun _ h q => h _ _ q⟩
theorem sls_get {C : List Cell} {i : Nat} {s : Sl} (h : (sls C)[i]? = some (some s)) : ∃ v, C[i]? = some (some (v, s)) := by
  rw [List.getElem?_map] at h
  cases e : C[i]? with
  | none => rw [e] at h; cases h
  | some c =>
    rw [e] at h
    cases c with
    | none => cases h
    | some p => obtain ⟨v, x⟩ := p; injection h with h; injection h with h; cases h; exact ⟨v, rfl⟩
theorem Fits.set {C : List Cell} {σ : L2.St} {i : Nat} {v : V} {s s' : Sl} (f : Fits C σ) (h : C[i]? = some (some (v, s))) : Fits (C.set i (some (v, s'))) σ := by
  refine ⟨by rw [List.length_set]; exact f.1, fun j w x q => ?_⟩
  by_cases hj : i = j
  · subst hj
    rw [List.getElem?_set_self (List.getElem?_eq_some_iff.mp h).1] at q
    injection q with q; injection q with q; injection q with q _; subst q
    exact f.2 _ _ _ h
  · rw [List.getElem?_set_ne hj] at q
    exact f.2 _ _ _ q
theorem Fits.put {C : List Cell} {σ : L2.St} {i : Nat} {v : V} {s : Sl} (f : Fits C σ) : Fits (C.set i (some (v, s))) (σ.set i (some v)) := by
  refine ⟨by rw [List.length_set, List.length_set]; exact f.1, fun j w x q => ?_⟩
  by_cases hj : i = j
  · subst hj
    have hl := (List.getElem?_eq_some_iff.mp q).1
    rw [List.length_set] at hl
    rw [List.getElem?_set_self hl] at q
    injection q with q; injection q with q; injection q with q _; subst q
    rw [List.getElem?_set_self (by rw [← f.1]; exact hl)]
  · rw [List.getElem?_set_ne hj] at q ⊢
    exact f.2 _ _ _ q
theorem Fits.none {C : List Cell} {σ : L2.St} {i : Nat} (f : Fits C σ) : Fits (C.set i Option.none) (σ.set i Option.none) := by
  refine ⟨by rw [List.length_set, List.length_set]; exact f.1, fun j w x q => ?_⟩
  by_cases hj : i = j
  · subst hj
    have hl := (List.getElem?_eq_some_iff.mp q).1
    rw [List.length_set] at hl
    rw [List.getElem?_set_self hl] at q
    cases q
  · rw [List.getElem?_set_ne hj] at q ⊢
    exact f.2 _ _ _ q
theorem Fits.none0 {C : List Cell} {σ : L2.St} {i : Nat} (f : Fits C σ) : Fits (C.set i Option.none) σ := by
  refine ⟨by rw [List.length_set]; exact f.1, fun j w x q => ?_⟩
  by_cases hj : i = j
  · subst hj
    have hl := (List.getElem?_eq_some_iff.mp q).1
    rw [List.length_set] at hl
    rw [List.getElem?_set_self hl] at q
    cases q
  · rw [List.getElem?_set_ne hj] at q
    exact f.2 _ _ _ q
theorem sls_set {C : List Cell} {i : Nat} {v : V} {s : Sl} : sls (C.set i (some (v, s))) = (sls C).set i (some s) := by unfold sls; rw [List.map_set]; rfl
section
variable {X : Cx} {B : Bs} {pos : Pos}
theorem de_var {i : Nat} {x : Str} (hN : X.N[i]? = some x) (hv : Vis X.env.scope x) (hd : (x == ("__debug__" : Str)) = false := by decide) (hcd : (x == ("__classdict__" : Str)) = false := by decide) : DE X B (.Name x pos) (fVar i) := by
  refine ⟨peImp (pe_var hN hv hd hcd) fun σ H Q => ?_⟩
  rintro ⟨G, C, Θ, hf, s, q⟩
  have q : (match (sls C)[i]? with
    | some (some (.sh d)) => ∀ v G' H' C', Fits C' σ → sls C' = sls C → SR B G' H' C' Θ → Rep B.K B.pa G' v d → Q v H'
    | some (some (.ow ds)) => ∀ v G' H' C', Fits C' σ → sls C' = (sls C).set i (some (.sh (.lst ds))) → SR B G' H' C' Θ → Rep B.K B.pa G' v (.lst ds) → Q v H'
    | _ => False) := q
  match e : (sls C)[i]? with
  | some (some (.sh d)) =>
    simp only [e] at q
    obtain ⟨v, h⟩ := sls_get e
    exact ⟨v, hf.2 _ _ _ h, q v G H C hf rfl s (s.rs (v, .sh d) (List.mem_append_left _ (List.mem_of_getElem? h)))⟩
  | some (some (.ow ds)) =>
    simp only [e] at q
    obtain ⟨v, h⟩ := sls_get e
    obtain ⟨G', s', r⟩ := s.freezeS h
    exact ⟨v, hf.2 _ _ _ h, q v G' H _ (hf.set h) sls_set s' r⟩
  | some none => simp only [e] at q
  | none => simp only [e] at q
theorem dv (i : Nat) {x : Str} {pos : Pos} (hN : X.N[i]? = some x := by rfl) (hv : Vis X.env.scope x := by first | exact Or.inl rfl | exact Or.inr (Or.inl rfl) | exact Or.inr (Or.inr rfl)) (hd : (x == ("__debug__" : Str)) = false := by decide)
    (hcd : (x == ("__classdict__" : Str)) = false := by decide) : DE X B (.Name x pos) (fVar i) := de_var hN hv hd hcd
theorem de_const {e : Expr} {d : D} {v : V} (h : PE X e (tC v)) (r : ∀ G, Rep B.K B.pa G v d) : DE X B e (fC d) := by
  refine ⟨peImp h fun σ H Q => ?_⟩
  rintro ⟨G, C, Θ, hf, s, q⟩
  exact q v G H C hf rfl s (r G)
theorem de_int {i : Int} {j : Nat} : DE X B (.Constant (.int i) j pos) (fC (.int i)) := de_const pe_int fun _ => .int i
theorem de_bl {b : Bool} {j : Nat} : DE X B (.Constant (.bool b) j pos) (fC (.bl b)) := de_const pe_bl fun _ => .bl b
theorem de_non {j : Nat} : DE X B (.Constant .none j pos) (fC .non) := de_const pe_non fun _ => .non
theorem de_str {x : Str} {j : Nat} : DE X B (.Constant (.str x) j pos) (fC (.str x)) := de_const pe_str fun _ => .str x
/-- a constant of the module -/
theorem de_glob {x : Str} {v : V} {u : Value} {d : D} (hg : Gl X x) (hm : X.mg x = some u) (r : RelV v u) (rd : ∀ G, Rep B.K B.pa G v d) (hd : (x == ("__debug__" : Str)) = false := by decide) : DE X B (.Name x pos) (fC d) :=
  de_const (pe_glob hg hm r hd) rd
end

/-! ### by values -/
/-- what a rule over values asks, from what is wanted of data -/
def Snd1 (B : Bs) (r : V → Hp → VK → Prop) (g : F1) : Prop := ∀ x d G H Q, SB B G H → Rep B.K B.pa G x d →
  g.run d (fun e => ∀ v G' H', Step B.pa G H G' H' → Rep B.K B.pa G' v e → Q v H') → r x H Q
def Snd2 (B : Bs) (r : V → V → Hp → VK → Prop) (g : F2) : Prop := ∀ x y d e G H Q, SB B G H → Rep B.K B.pa G x d → Rep B.K B.pa G y e →
  g.run d e (fun z => ∀ v G' H', Step B.pa G H G' H' → Rep B.K B.pa G' v z → Q v H') → r x y H Q
def Snd2L (B : Bs) (r : V → V → Hp → VK → Prop) (g : F2L) : Prop := ∀ x y d e G H Q, SB B G H → Rep B.K B.pa G x d → Rep B.K B.pa G y e →
  g.run d e (fun zs => ∀ p vs, H p = none → RepAll B.K B.pa G vs zs → Q (.ref p) (upd H p (.lst vs))) → r x y H Q
def fUn (g : F1) (a : FE) : FE := ⟨fun ex τ Q => a.run ex τ fun d τ1 => g.run d fun z => Q z τ1, fun he h q => a.mono he (fun _ _ k => g.mono (fun _ => h _ _) k) q⟩
def fBin (g : F2) (a b : FE) : FE := ⟨fun ex τ Q => a.run ex τ fun d τ1 => b.run ex τ1 fun e τ2 => g.run d e fun z => Q z τ2, fun he h q => a.mono he (fun _ _ k => b.mono he (fun _ _ k => g.mono (fun _ => h _ _) k) k) q⟩
def fBinL (g : F2L) (a b : FE) : FA := ⟨fun ex τ Q => a.run ex τ fun d τ1 => b.run ex τ1 fun e τ2 => g.run d e fun z => Q z τ2, fun he h q => a.mono he (fun _ _ k => b.mono he (fun _ _ k => g.mono (fun _ => h _ _) k) k) q⟩
section
variable {X : Cx} {B : Bs} {pos : Pos} {a b : Expr} {fa fb : FE}
theorem lift_un {r : V → Hp → VK → Prop} {g : F1} (hs : Snd1 B r g) {σ : L2.St} {H : Hp} {Q : VK} (h : liftE B (fUn g fa) σ H Q) : tUn r (liftE B fa) σ H Q := by
  obtain ⟨G, C, Θ, hf, s, q⟩ := h
  refine ⟨G, C, Θ, hf, s, fa.mono (fun _ h => h) (fun d τ' q v G' H' C' h1 h2 s' r' => ?_) q⟩
  exact hs v d G' H' Q s'.sb r' (g.mono (fun e k w G2 H2 t r2 => k w G2 H2 C' h1 h2 (s'.step t) r2) q)
theorem lift_bin {r : V → V → Hp → VK → Prop} {g : F2} (hs : Snd2 B r g) {σ : L2.St} {H : Hp} {Q : VK} (h : liftE B (fBin g fa fb) σ H Q) : tOp r (liftE B fa) (liftE B fb) σ H Q := by
  obtain ⟨G, C, Θ, hf, s, q⟩ := h
  refine ⟨G, C, Θ, hf, s, fa.mono (fun _ h => h) (fun d τ' q v G' H' C' h1 h2 s' r' => ?_) q⟩
  refine after h1 s' r' (fb.mono (fun _ h => h) (fun e τ2 q w G2 H2 C2 k1 k2 s2 r1 r2 => ?_) (h2 ▸ q))
  exact hs v w d e G2 H2 Q s2.sb r1 r2 (g.mono (fun z k u G3 H3 t r3 => k u G3 H3 C2 k1 k2 (s2.step t) r3) q)
theorem lift_binL {r : V → V → Hp → VK → Prop} {g : F2L} (hs : Snd2L B r g) {σ : L2.St} {H : Hp} {Q : VK} (h : liftO B (fBinL g fa fb) σ H Q) : tOp r (liftE B fa) (liftE B fb) σ H Q := by
  obtain ⟨G, C, Θ, hf, s, q⟩ := h
  refine ⟨G, C, Θ, hf, s, fa.mono (fun _ h => h) (fun d τ' q v G' H' C' h1 h2 s' r' => ?_) q⟩
  refine after h1 s' r' (fb.mono (fun _ h => h) (fun e τ2 q w G2 H2 C2 k1 k2 s2 r1 r2 => ?_) (h2 ▸ q))
  exact hs v w d e G2 H2 Q s2.sb r1 r2 (g.mono (fun zs k p vs hp rr => k p G2 _ C2 k1 k2 (s2.fresh hp rr)) q)
theorem de_un {op : UnaryOp} {r : V → Hp → VK → Prop} {g : F1} (ho : UnR X (unaryOp op) r) (hs : Snd1 B r g) (ha : DE X B a fa) : DE X B (.UnaryOp op a pos) (fUn g fa) := ⟨peImp (pe_un ho ha.pe) fun _ _ _ => lift_un hs⟩
theorem de_bin {op : Operator} {r : V → V → Hp → VK → Prop} {g : F2} (ho : OpR X (binaryOp op) r) (hs : Snd2 B r g) (ha : DE X B a fa) (hb : DE X B b fb) : DE X B (.BinOp a op b pos) (fBin g fa fb) := ⟨peImp (pe_op ho ha.pe hb.pe) fun _ _ _ => lift_bin hs⟩
theorem do_bin {op : Operator} {r : V → V → Hp → VK → Prop} {g : F2L} (ho : OpR X (binaryOp op) r) (hs : Snd2L B r g) (ha : DE X B a fa) (hb : DE X B b fb) : DO X B (.BinOp a op b pos) (fBinL g fa fb) := ⟨peImp (pe_op ho ha.pe hb.pe) fun _ _ _ => lift_binL hs⟩
theorem de_cmp {op : CmpOp} {r : V → V → Hp → VK → Prop} {g : F2} (ho : OpR X (compareOp op) r) (hs : Snd2 B r g) (ha : DE X B a fa) (hb : DE X B b fb) (hm : behindInMarks op b = false) : DE X B (.Compare a [op] [b] pos) (fBin g fa fb) := ⟨peImp (pe_cmpR ho ha.pe hb.pe hm) fun _ _ _ => lift_bin hs⟩
/-- a new list, as a shared datum -/
def fFrz (f : FA) : FE := ⟨fun ex τ Q => f.run ex τ fun ds τ1 => Q (.lst ds) τ1, fun he h q => f.mono he (fun _ _ k => h _ _ k) q⟩
theorem de_of {f : FA} (h : DO X B a f) : DE X B a (fFrz f) := by
  refine ⟨peImp h.pe fun σ H Q => ?_⟩
  rintro ⟨G, C, Θ, hf, s, q⟩
  refine ⟨G, C, Θ, hf, s, f.mono (fun _ h => h) (fun ds τ' q p G' H' C' h1 h2 s' => ?_) q⟩
  obtain ⟨G2, s2⟩ := s'.freezeT
  exact q _ G2 H' C' h1 h2 s2.pop (s2.last (x := .sh (.lst ds)))
end

/-! ### argument lists -/
def fNil : FA := ⟨fun _ τ Q => Q [] τ, fun _ h q => h _ _ q⟩
def fCons (a : FE) (r : FA) : FA := ⟨fun ex τ Q => a.run ex τ fun d τ1 => r.run ex τ1 fun ds τ2 => Q (d :: ds) τ2, fun he h q => a.mono he (fun _ _ k => r.mono he (fun _ _ k => h _ _ k) k) q⟩
section
variable {X : Cx} {B : Bs} {pos : Pos} {e : Expr} {es : List Expr} {fe : FE} {fs : FA}
theorem da_nil : DA X B [] fNil := by
  refine ⟨paImp pa_nil fun σ H Q => ?_⟩
  rintro ⟨G, C, Θ, hf, s, q⟩
  exact q [] G H C hf rfl s .nil
theorem lift_cons {σ : L2.St} {H : Hp} {Q : List V → Hp → Prop} (h : liftA B (fCons fe fs) σ H Q) : tCons (liftE B fe) (liftA B fs) σ H Q := by
  obtain ⟨G, C, Θ, hf, s, q⟩ := h
  refine ⟨G, C, Θ, hf, s, fe.mono (fun _ h => h) (fun d τ' q v G' H' C' h1 h2 s' r' => ?_) q⟩
  refine ⟨G', C', Θ ++ [some (v, .sh d)], h1, s'.push r', fs.mono (fun _ h => h) (fun ds τ2 q vs G2 H2 C2 k1 k2 s2 r2 => ?_) (h2 ▸ q)⟩
  exact q (v :: vs) G2 H2 C2 k1 k2 s2.pop (.cons (s2.tmp (p := (v, .sh d)) (List.mem_append_right _ (List.mem_singleton.mpr rfl))) r2)
theorem da_cons (ha : DE X B e fe) (hr : DA X B es fs) (hs : starEach (e :: es) X.env = (false, eval e X.env) :: starEach es X.env := by rfl) : DA X B (e :: es) (fCons fe fs) := ⟨paImp (pa_cons ha.pe hr.pa hs) fun _ _ _ => lift_cons⟩
/-! displays -/
def fTup (f : FA) : FE := ⟨fun ex τ Q => f.run ex τ fun ds τ1 => ds.length ≤ sizeLine ∧ Q (.tup ds) τ1, fun he h q => f.mono he (fun _ _ k => ⟨k.1, h _ _ k.2⟩) q⟩
def fLst (f : FA) : FA := ⟨fun ex τ Q => f.run ex τ fun ds τ1 => ds.length ≤ sizeLine ∧ Q ds τ1, fun he h q => f.mono he (fun _ _ k => ⟨k.1, h _ _ k.2⟩) q⟩
theorem de_tup {j} (h : DA X B es fs) : DE X B (.Tuple es j pos) (fTup fs) := by
  refine ⟨peImp (pe_tup h.pa) fun σ H Q => ?_⟩
  rintro ⟨G, C, Θ, hf, s, q⟩
  refine ⟨G, C, Θ, hf, s, fs.mono (fun _ h => h) (fun ds τ' q vs G' H' C' h1 h2 s' r => ⟨by rw [r.length]; exact q.1, fun p hp => ?_⟩) q⟩
  have st := Step.new (o := .tup vs) s'.sb hp
  exact q.2 (.ref p) _ _ C' h1 h2 (s'.step st) (.tup (.inl (.inl upd_same)) (RepAll.mono st.grow r))
theorem do_lst (h : DA X B es fs) : DO X B (.List es pos) (fLst fs) := by
  refine ⟨peImp (pe_lst h.pa) fun σ H Q => ?_⟩
  rintro ⟨G, C, Θ, hf, s, q⟩
  refine ⟨G, C, Θ, hf, s, fs.mono (fun _ h => h) (fun ds τ' q vs G' H' C' h1 h2 s' r => ⟨by rw [r.length]; exact q.1, fun p hp => ?_⟩) q⟩
  exact q.2 p _ _ C' h1 h2 (s'.fresh hp r)
end

/-! ### tests -/
/-- truth of a datum -/
def truD : D → Option Bool
  | .non => some false
  | .bl b => some b
  | .int i => some (i != 0)
  | .lst ds => some (!ds.isEmpty)
  | .tup ds => some (!ds.isEmpty)
  | .dct => some false
  | _ => none
def fTru (a : FE) : FT := ⟨fun ex τ Q => a.run ex τ fun d τ1 => match d with
    | .bl b => Q b τ1
    | .int i => Q (i != 0) τ1
    | .lst ds => Q (!ds.isEmpty) τ1
    | .tup ds => Q (!ds.isEmpty) τ1
    | .non => Q false τ1
    | .str x => x.length ≤ sizeLine ∧ Q ((x.length : Int) != 0) τ1
    | _ => False, fun he h q => a.mono he (fun d _ k => by cases d <;> first | exact h _ _ k | exact ⟨k.1, h _ _ k.2⟩ | exact k) q⟩
/-- a value that is a bool -/
def fTB (a : FE) : FT := ⟨fun ex τ Q => a.run ex τ fun d τ1 => match d with
    | .bl b => Q b τ1
    | _ => False, fun he h q => a.mono he (fun d _ k => by cases d <;> first | exact h _ _ k | exact k) q⟩
def fTAnd (t u : FT) : FT := ⟨fun ex τ Q => t.run ex τ fun c τ1 => if c = true then u.run ex τ1 Q else Q false τ1, fun he h q => t.mono he (fun c _ k => by
  cases c with
  | true => rw [if_pos rfl] at k ⊢; exact u.mono he h k
  | false => rw [if_neg Bool.false_ne_true] at k ⊢; exact h _ _ k) q⟩
def fTOr (t u : FT) : FT := ⟨fun ex τ Q => t.run ex τ fun c τ1 => if c = true then Q true τ1 else u.run ex τ1 Q, fun he h q => t.mono he (fun c _ k => by
  cases c with
  | false => rw [if_neg Bool.false_ne_true] at k ⊢; exact u.mono he h k
  | true => rw [if_pos rfl] at k ⊢; exact h _ _ k) q⟩
def fTNot (t : FT) : FT := ⟨fun ex τ Q => t.run ex τ fun c τ1 => Q (!c) τ1, fun he h q => t.mono he (fun c _ k => h _ _ k) q⟩
def fIf (c : FT) (a b : FE) : FE := ⟨fun ex τ Q => c.run ex τ fun k τ1 => if k = true then a.run ex τ1 Q else b.run ex τ1 Q, fun he h q => c.mono he (fun c _ k => by
  cases c with
  | true => rw [if_pos rfl] at k ⊢; exact a.mono he h k
  | false => rw [if_neg Bool.false_ne_true] at k ⊢; exact b.mono he h k) q⟩
/-- and, or, not of values that are bools -/
def fAnd (a b : FE) : FE := ⟨fun ex τ Q => a.run ex τ fun d τ1 => match d with
    | .bl c => if c = true then b.run ex τ1 Q else Q (.bl false) τ1
    | _ => False, fun he h q => a.mono he (fun d _ k => by
      cases d with
      | bl c => cases c with
        | true => dsimp only at k ⊢; rw [if_pos rfl] at k ⊢; exact b.mono he h k
        | false => dsimp only at k ⊢; rw [if_neg Bool.false_ne_true] at k ⊢; exact h _ _ k
      | _ => exact k) q⟩
def fOr (a b : FE) : FE := ⟨fun ex τ Q => a.run ex τ fun d τ1 => match d with
    | .bl c => if c = true then Q (.bl true) τ1 else b.run ex τ1 Q
    | _ => False, fun he h q => a.mono he (fun d _ k => by
      cases d with
      | bl c => cases c with
        | false => dsimp only at k ⊢; rw [if_neg Bool.false_ne_true] at k ⊢; exact b.mono he h k
        | true => dsimp only at k ⊢; rw [if_pos rfl] at k ⊢; exact h _ _ k
      | _ => exact k) q⟩
def fNot (a : FE) : FE := ⟨fun ex τ Q => a.run ex τ fun d τ1 => match d with
    | .bl c => Q (.bl (!c)) τ1
    | _ => False, fun he h q => a.mono he (fun d _ k => by cases d <;> first | exact h _ _ k | exact k) q⟩
section
variable {X : Cx} {B : Bs} {pos : Pos} {a b c : Expr} {fa fb : FE} {ta tb tc : FT} {rest : List Expr}
theorem dt_tru (hK : B.K = X.K) (ha : DE X B a fa) (he : ∀ whole, isTrue a X.env whole = (do let v ← whole; standAt a.pos; holding [v] (truthy v)) := by intro _; rfl) : DT X B a (fTru fa) := by
  refine ⟨ptImp (pt_truth ha.pe he) fun σ H Q => ?_⟩
  rintro ⟨G, C, Θ, hf, s, q⟩
  refine ⟨G, C, Θ, hf, s, fa.mono (fun _ h => h) (fun d τ' q v G' H' C' h1 h2 s' r => ?_) q⟩
  cases r with
  | non => exact ⟨false, rfl, q G' H' C' h1 h2 s'⟩
  | bl b => exact ⟨b, rfl, q G' H' C' h1 h2 s'⟩
  | int i => exact ⟨_, rfl, q G' H' C' h1 h2 s'⟩
  | str x => exact ⟨_, ⟨q.1, rfl⟩, q.2 G' H' C' h1 h2 s'⟩
  | @lst a xs ds h r => exact ⟨_, .inl ⟨xs, SqL.of (s'.sb.same _ _ h), rfl⟩, by
      have e : (!xs.isEmpty) = !ds.isEmpty := by cases r <;> rfl
      rw [e]; exact q G' H' C' h1 h2 s'⟩
  | @tup a xs ds h r => exact ⟨_, .inr (.inl ⟨xs, hK ▸ sameT s'.sb.same h, rfl⟩), by
      have e : (!xs.isEmpty) = !ds.isEmpty := by cases r <;> rfl
      rw [e]; exact q G' H' C' h1 h2 s'⟩
  | dct h => exact q.elim
  | pool h => exact q.elim
  | scr h r => exact q.elim
  | adr h => exact q.elim
theorem lift_tb {σ : L2.St} {H : Hp} {Q : Bool → Hp → Prop} (h : liftT B (fTB fa) σ H Q) : tB (liftE B fa) σ H Q := by
  obtain ⟨G, C, Θ, hf, s, q⟩ := h
  refine ⟨G, C, Θ, hf, s, fa.mono (fun _ h => h) (fun d τ' q v G' H' C' h1 h2 s' r => ?_) q⟩
  cases r with
  | bl b => exact ⟨b, rfl, q G' H' C' h1 h2 s'⟩
  | _ => exact False.elim q
/-- an expression that gives a bool (a call, a name), as a test -/
theorem dt_val (ha : DE X B a fa) (he : ∀ whole, isTrue a X.env whole = (do let v ← whole; standAt a.pos; holding [v] (truthy v)) := by intro _; rfl) : DT X B a (fTB fa) := ⟨ptImp (pt_val ha.pe he) fun _ _ _ => lift_tb⟩
/-- a comparison as a test -/
theorem dt_cmp {op : CmpOp} {r : V → V → Hp → VK → Prop} {g : F2} (ho : OpR X (compareOp op) r) (hs : Snd2 B r g) (ha : DE X B a fa) (hb : DE X B b fb) (hm : behindInMarks op b = false) : DT X B (.Compare a [op] [b] pos) (fTB (fBin g fa fb)) := by
  refine ⟨ptImp (pt_cmpR ho ha.pe hb.pe hm) fun σ H Q h => ?_⟩
  have h := lift_tb h
  exact lift_bin hs h
theorem dt_not (ha : DT X B a ta) : DT X B (.UnaryOp .Not a pos) (fTNot ta) := by
  refine ⟨ptImp (pt_not ha.pt) fun σ H Q => ?_⟩
  rintro ⟨G, C, Θ, hf, s, q⟩
  exact ⟨G, C, Θ, hf, s, ta.mono (fun _ h => h) (fun c τ' q G' H' C' h1 h2 s' => q G' H' C' h1 h2 s') q⟩
theorem lift_and {σ : L2.St} {H : Hp} {Q : Bool → Hp → Prop} (h : liftT B (fTAnd ta tb) σ H Q) : tAnd (liftT B ta) (liftT B tb) σ H Q := by
  obtain ⟨G, C, Θ, hf, s, q⟩ := h
  refine ⟨G, C, Θ, hf, s, ta.mono (fun _ h => h) (fun c τ' q G' H' C' h1 h2 s' => ?_) q⟩
  cases c with
  | true =>
    rw [if_pos rfl] at q ⊢
    exact ⟨G', C', Θ, h1, s', tb.mono (fun _ h => h) (fun c2 τ2 q G2 H2 C2 k1 k2 s2 => q G2 H2 C2 k1 k2 s2) (h2 ▸ q)⟩
  | false => rw [if_neg Bool.false_ne_true] at q ⊢; exact q G' H' C' h1 h2 s'
theorem lift_or {σ : L2.St} {H : Hp} {Q : Bool → Hp → Prop} (h : liftT B (fTOr ta tb) σ H Q) : tOr (liftT B ta) (liftT B tb) σ H Q := by
  obtain ⟨G, C, Θ, hf, s, q⟩ := h
  refine ⟨G, C, Θ, hf, s, ta.mono (fun _ h => h) (fun c τ' q G' H' C' h1 h2 s' => ?_) q⟩
  cases c with
  | false =>
    rw [if_neg Bool.false_ne_true] at q ⊢
    exact ⟨G', C', Θ, h1, s', tb.mono (fun _ h => h) (fun c2 τ2 q G2 H2 C2 k1 k2 s2 => q G2 H2 C2 k1 k2 s2) (h2 ▸ q)⟩
  | true => rw [if_pos rfl] at q ⊢; exact q G' H' C' h1 h2 s'
theorem dw_and1 (ha : DT X B a ta) : DW X B (.BoolOp .And [a] pos) ta := ⟨pw_and1 ha.pt⟩
theorem dw_or1 (ha : DT X B a ta) : DW X B (.BoolOp .Or [a] pos) ta := ⟨pw_or1 ha.pt⟩
theorem dw_and (ha : DT X B a ta) (hb : DW X B (.BoolOp .And (b :: rest) pos) tb) : DW X B (.BoolOp .And (a :: b :: rest) pos) (fTAnd ta tb) := ⟨pwImp (pw_and ha.pt hb.pw) fun _ _ _ => lift_and⟩
theorem dw_or (ha : DT X B a ta) (hb : DW X B (.BoolOp .Or (b :: rest) pos) tb) : DW X B (.BoolOp .Or (a :: b :: rest) pos) (fTOr ta tb) := ⟨pwImp (pw_or ha.pt hb.pw) fun _ _ _ => lift_or⟩
theorem DW.dt (h : DW X B a ta) : DT X B a ta := ⟨h.pw.pt⟩
theorem de_if (hc : DT X B c tc) (ha : DE X B a fa) (hb : DE X B b fb) : DE X B (.IfExp c a b pos) (fIf tc fa fb) := by
  refine ⟨peImp (pe_ifExp hc.pt ha.pe hb.pe) fun σ H Q => ?_⟩
  rintro ⟨G, C, Θ, hf, s, q⟩
  refine ⟨G, C, Θ, hf, s, tc.mono (fun _ h => h) (fun c τ' q G' H' C' h1 h2 s' => ?_) q⟩
  cases c with
  | true =>
    rw [if_pos rfl] at q ⊢
    exact ⟨G', C', Θ, h1, s', fa.mono (fun _ h => h) (fun d τ2 q v G2 H2 C2 k1 k2 s2 r2 => q v G2 H2 C2 k1 k2 s2 r2) (h2 ▸ q)⟩
  | false =>
    rw [if_neg Bool.false_ne_true] at q ⊢
    exact ⟨G', C', Θ, h1, s', fb.mono (fun _ h => h) (fun d τ2 q v G2 H2 C2 k1 k2 s2 r2 => q v G2 H2 C2 k1 k2 s2 r2) (h2 ▸ q)⟩
theorem de_not (ha : DE X B a fa) : DE X B (.UnaryOp .Not a pos) (fNot fa) := by
  refine ⟨peImp (pe_not ha.pe) fun σ H Q => ?_⟩
  rintro ⟨G, C, Θ, hf, s, q⟩
  refine ⟨G, C, Θ, hf, s, fa.mono (fun _ h => h) (fun d τ' q v G' H' C' h1 h2 s' r => ?_) q⟩
  cases r with
  | bl b => exact ⟨b, rfl, q (.bl (!b)) G' H' C' h1 h2 s' (.bl _)⟩
  | _ => exact False.elim q
theorem de_one {op} (ha : DE X B a fa) : DE X B (.BoolOp op [a] pos) fa := ⟨pe_one ha.pe⟩
theorem de_and (ha : DE X B a fa) (hb : DE X B (.BoolOp .And (b :: rest) pos) fb) : DE X B (.BoolOp .And (a :: b :: rest) pos) (fAnd fa fb) := by
  refine ⟨peImp (pe_and ha.pe hb.pe) fun σ H Q => ?_⟩
  rintro ⟨G, C, Θ, hf, s, q⟩
  refine ⟨G, C, Θ, hf, s, fa.mono (fun _ h => h) (fun d τ' q v G' H' C' h1 h2 s' r => ?_) q⟩
  cases r with
  | bl c =>
    refine ⟨c, rfl, ?_⟩
    cases c with
    | true =>
      dsimp only at q ⊢
      rw [if_pos rfl] at q ⊢
      exact ⟨G', C', Θ, h1, s', fb.mono (fun _ h => h) (fun d τ2 q v G2 H2 C2 k1 k2 s2 r2 => q v G2 H2 C2 k1 k2 s2 r2) (h2 ▸ q)⟩
    | false =>
      dsimp only at q ⊢
      rw [if_neg Bool.false_ne_true] at q ⊢
      exact q _ G' H' C' h1 h2 s' (.bl _)
  | _ => exact False.elim q
theorem de_or (ha : DE X B a fa) (hb : DE X B (.BoolOp .Or (b :: rest) pos) fb) : DE X B (.BoolOp .Or (a :: b :: rest) pos) (fOr fa fb) := by
  refine ⟨peImp (pe_or ha.pe hb.pe) fun σ H Q => ?_⟩
  rintro ⟨G, C, Θ, hf, s, q⟩
  refine ⟨G, C, Θ, hf, s, fa.mono (fun _ h => h) (fun d τ' q v G' H' C' h1 h2 s' r => ?_) q⟩
  cases r with
  | bl c =>
    refine ⟨c, rfl, ?_⟩
    cases c with
    | false =>
      dsimp only at q ⊢
      rw [if_neg Bool.false_ne_true] at q ⊢
      exact ⟨G', C', Θ, h1, s', fb.mono (fun _ h => h) (fun d τ2 q v G2 H2 C2 k1 k2 s2 r2 => q v G2 H2 C2 k1 k2 s2 r2) (h2 ▸ q)⟩
    | true =>
      dsimp only at q ⊢
      rw [if_pos rfl] at q ⊢
      exact q _ G' H' C' h1 h2 s' (.bl _)
  | _ => exact False.elim q
end
end DL
/-! The data layer: operators, comparisons, built-ins, subscripts, by values. -/
namespace DL
open PySem PySem.Spec PyProof.Rows L2

/-! ### operators -/
def gAdd : F2 where
  run := fun d e Q => match d, e with
    | .int a, .int b => Q (.int (a + b))
    | .str a, .str b => a.length + b.length ≤ sizeLine ∧ Q (.str (a ++ b))
    | .tup a, .tup b => a.length + b.length ≤ sizeLine ∧ Q (.tup (a ++ b))
    | _, _ => False
  mono := fun {d e Q Q'} h q => by cases d <;> cases e <;> first | exact h _ q | exact ⟨q.1, h _ q.2⟩ | exact q
def gI2 (g : Int → Int → D) : F2 where
  run := fun d e Q => match d, e with
    | .int a, .int b => Q (g a b)
    | _, _ => False
  mono := fun {d e Q Q'} h q => by cases d <;> cases e <;> first | exact h _ q | exact q
def gI2c (C : Int → Int → Prop) (g : Int → Int → D) : F2 where
  run := fun d e Q => match d, e with
    | .int a, .int b => C a b ∧ Q (g a b)
    | _, _ => False
  mono := fun {d e Q Q'} h q => by cases d <;> cases e <;> first | exact ⟨q.1, h _ q.2⟩ | exact q
abbrev gSub : F2 := gI2 fun a b => .int (a - b)
abbrev gMul : F2 := gI2c CMulW fun a b => .int (a * b)
abbrev gDiv : F2 := gI2c CDivW fun a b => .int (a / b)
abbrev gMod : F2 := gI2c (fun _ b => 0 < b) fun a b => .int (a % b)
abbrev gPow : F2 := gI2c CPow fun a b => .int (a ^ b.toNat)
abbrev gLt : F2 := gI2 fun a b => .bl (decide (a < b))
abbrev gLe : F2 := gI2 fun a b => .bl (decide (a ≤ b))
abbrev gGt : F2 := gI2 fun a b => .bl (decide (b < a))
abbrev gGe : F2 := gI2 fun a b => .bl (decide (b ≤ a))
def gNeg : F1 where
  run := fun d Q => match d with
    | .int a => Q (.int (-a))
    | _ => False
  mono := fun {d Q Q'} h q => by cases d <;> first | exact h _ q | exact q
section
variable {B : Bs} {K : PySem.W.Frag}
theorem stay {G H : Hp} (s : SB B G H) : Step B.pa G H G H := Step.refl s
theorem snd_I2 {g : Int → Int → V} {g' : Int → Int → D} (hg : ∀ a b G, Rep B.K B.pa G (g a b) (g' a b)) : Snd2 B (rI0 g) (gI2 g') := fun x y d e G H Q s rx ry q => by
  cases rx with
  | int a =>
    cases ry with
    | int b => exact ⟨a, b, rfl, rfl, q _ G H (stay s) (hg a b G)⟩
    | _ => exact False.elim q
  | _ => exact False.elim q
theorem snd_I2c {C : Int → Int → Prop} {g : Int → Int → V} {g' : Int → Int → D} (hg : ∀ a b G, Rep B.K B.pa G (g a b) (g' a b)) : Snd2 B (rI C g) (gI2c C g') := fun x y d e G H Q s rx ry q => by
  cases rx with
  | int a =>
    cases ry with
    | int b => exact ⟨a, b, rfl, rfl, q.1, q.2 _ G H (stay s) (hg a b G)⟩
    | _ => exact False.elim q
  | _ => exact False.elim q
def rAdd3 (K : PySem.W.Frag) : V → V → Hp → VK → Prop := fun x y H Q => rI0 (fun i j => .int (i + j)) x y H Q ∨ ((∃ i j, x = .str i ∧ y = .str j ∧ i.length + j.length ≤ sizeLine ∧ Q (.str (i ++ j)) H) ∨ rCatA K x y H Q)
theorem snd_add (hK : B.K = K) : Snd2 B (rAdd3 K) gAdd := fun x y d e G H Q s rx ry q => by
  subst hK
  cases rx with
  | int a =>
    cases ry with
    | int b => exact .inl ⟨a, b, rfl, rfl, q _ G H (stay s) (.int _)⟩
    | _ => exact False.elim q
  | str a =>
    cases ry with
    | str b => exact .inr (.inl ⟨a, b, rfl, rfl, q.1, q.2 _ G H (stay s) (.str _)⟩)
    | _ => exact False.elim q
  | @tup a xs ds h r =>
    cases ry with
    | @tup b ys es h' r' =>
      refine .inr (.inr ⟨a, b, xs, ys, rfl, rfl, sameT s.same h, sameT s.same h', by rw [r.length, r'.length]; exact q.1, fun e => ?_, fun _ e => ?_, fun _ _ p hp => ?_⟩)
      · subst e; cases r
        exact q.2 _ G H (stay s) (.tup h' r')
      · subst e; cases r'
        have e2 : ds ++ [] = ds := List.append_nil _
        exact q.2 _ G H (stay s) (by rw [e2]; exact .tup h r)
      · have st := Step.new (o := .tup (xs ++ ys)) s hp
        exact q.2 _ _ _ st (.tup (.inl (.inl upd_same)) (RepAll.mono st.grow (r.append r')))
    | _ => exact False.elim q
  | _ => exact False.elim q
theorem snd_neg : Snd1 B (rU fun i => .int (-i)) gNeg := fun x d G H Q s rx q => by
  cases rx with
  | int a => exact ⟨a, rfl, q _ G H (stay s) (.int _)⟩
  | _ => exact False.elim q
end
section
variable {X : Cx} {B : Bs} {pos : Pos} {a b : Expr} {fa fb : FE}
theorem op_add3 : OpR X (binaryOp .Add) (rAdd3 X.K) := op_add.or (op_add_str.or op_catA)
theorem de_add (ha : DE X B a fa) (hb : DE X B b fb) (hK : B.K = X.K := by rfl) : DE X B (.BinOp a .Add b pos) (fBin gAdd fa fb) := de_bin op_add3 (snd_add hK) ha hb
theorem de_sub (ha : DE X B a fa) (hb : DE X B b fb) : DE X B (.BinOp a .Sub b pos) (fBin gSub fa fb) := de_bin op_sub (snd_I2 fun _ _ _ => .int _) ha hb
theorem de_mul (ha : DE X B a fa) (hb : DE X B b fb) : DE X B (.BinOp a .Mult b pos) (fBin gMul fa fb) := de_bin op_mulW (snd_I2c fun _ _ _ => .int _) ha hb
theorem de_div (ha : DE X B a fa) (hb : DE X B b fb) : DE X B (.BinOp a .FloorDiv b pos) (fBin gDiv fa fb) := de_bin op_fdivW (snd_I2c fun _ _ _ => .int _) ha hb
theorem de_mod (ha : DE X B a fa) (hb : DE X B b fb) : DE X B (.BinOp a .Mod b pos) (fBin gMod fa fb) := de_bin op_mod (snd_I2c fun _ _ _ => .int _) ha hb
theorem de_pow (ha : DE X B a fa) (hb : DE X B b fb) : DE X B (.BinOp a .Pow b pos) (fBin gPow fa fb) := de_bin op_pow (snd_I2c fun _ _ _ => .int _) ha hb
theorem de_neg (ha : DE X B a fa) : DE X B (.UnaryOp .USub a pos) (fUn gNeg fa) := de_un un_neg snd_neg ha
theorem de_lt (ha : DE X B a fa) (hb : DE X B b fb) : DE X B (.Compare a [.Lt] [b] pos) (fBin gLt fa fb) := de_cmp op_lt (snd_I2 fun _ _ _ => .bl _) ha hb (nomark _)
theorem de_le (ha : DE X B a fa) (hb : DE X B b fb) : DE X B (.Compare a [.LtE] [b] pos) (fBin gLe fa fb) := de_cmp op_le (snd_I2 fun _ _ _ => .bl _) ha hb (nomark _)
theorem de_gt (ha : DE X B a fa) (hb : DE X B b fb) : DE X B (.Compare a [.Gt] [b] pos) (fBin gGt fa fb) := de_cmp op_gt (snd_I2 fun _ _ _ => .bl _) ha hb (nomark _)
theorem de_ge (ha : DE X B a fa) (hb : DE X B b fb) : DE X B (.Compare a [.GtE] [b] pos) (fBin gGe fa fb) := de_cmp op_ge (snd_I2 fun _ _ _ => .bl _) ha hb (nomark _)
theorem dt_lt (ha : DE X B a fa) (hb : DE X B b fb) : DT X B (.Compare a [.Lt] [b] pos) (fTB (fBin gLt fa fb)) := dt_cmp op_lt (snd_I2 fun _ _ _ => .bl _) ha hb (nomark _)
theorem dt_le (ha : DE X B a fa) (hb : DE X B b fb) : DT X B (.Compare a [.LtE] [b] pos) (fTB (fBin gLe fa fb)) := dt_cmp op_le (snd_I2 fun _ _ _ => .bl _) ha hb (nomark _)
theorem dt_gt (ha : DE X B a fa) (hb : DE X B b fb) : DT X B (.Compare a [.Gt] [b] pos) (fTB (fBin gGt fa fb)) := dt_cmp op_gt (snd_I2 fun _ _ _ => .bl _) ha hb (nomark _)
theorem dt_ge (ha : DE X B a fa) (hb : DE X B b fb) : DT X B (.Compare a [.GtE] [b] pos) (fTB (fBin gGe fa fb)) := dt_cmp op_ge (snd_I2 fun _ _ _ => .bl _) ha hb (nomark _)
end

/-! ### is None -/
def isNon : D → Bool | .non => true | _ => false
def gIsN : F1 := ⟨fun d Q => Q (.bl (isNon d)), fun h q => h _ q⟩
def gNotN : F1 := ⟨fun d Q => Q (.bl (!isNon d)), fun h q => h _ q⟩
theorem Rep.isNon {K : PySem.W.Frag} {pa : Option Addr} {G : Hp} {v : V} {d : D} (r : Rep K pa G v d) : decide (v = .non) = isNon d := by cases r <;> rfl
section
variable {X : Cx} {B : Bs} {pos : Pos} {a : Expr} {fa : FE}
theorem lift_isN {σ : L2.St} {H : Hp} {Q : VK} (h : liftE B (fUn gIsN fa) σ H Q) : tIsN (liftE B fa) σ H Q := by
  refine lift_un (r := fun x H Q => Q (.bl (decide (x = .non))) H) (fun x d G H Q s r q => ?_) h
  have := q _ G H (stay s) (.bl _)
  rw [← r.isNon] at this; exact this
theorem lift_notN {σ : L2.St} {H : Hp} {Q : VK} (h : liftE B (fUn gNotN fa) σ H Q) : tNotN (liftE B fa) σ H Q := by
  refine lift_un (r := fun x H Q => Q (.bl (!decide (x = .non))) H) (fun x d G H Q s r q => ?_) h
  have := q _ G H (stay s) (.bl _)
  rw [← r.isNon] at this; exact this
theorem de_isN {j p} (ha : DE X B a fa) : DE X B (.Compare a [.Is] [.Constant .none j p] pos) (fUn gIsN fa) := ⟨peImp (pe_cmp (pc_isN ha.pe) rfl) fun _ _ _ => lift_isN⟩
theorem de_notN {j p} (ha : DE X B a fa) : DE X B (.Compare a [.IsNot] [.Constant .none j p] pos) (fUn gNotN fa) := ⟨peImp (pe_cmp (pc_notN ha.pe) rfl) fun _ _ _ => lift_notN⟩
theorem lift_tb2 {fe : FE} {σ : L2.St} {H : Hp} {Q : Bool → Hp → Prop} (h : liftT B (fTB fe) σ H Q) : tB (liftE B fe) σ H Q := lift_tb h
theorem dt_isN {j p} (ha : DE X B a fa) : DT X B (.Compare a [.Is] [.Constant .none j p] pos) (fTB (fUn gIsN fa)) := ⟨ptImp (pt_cmp (pc_isN ha.pe) rfl) fun _ _ _ h => lift_isN (lift_tb h)⟩
theorem dt_notN {j p} (ha : DE X B a fa) : DT X B (.Compare a [.IsNot] [.Constant .none j p] pos) (fTB (fUn gNotN fa)) := ⟨ptImp (pt_cmp (pc_notN ha.pe) rfl) fun _ _ _ h => lift_notN (lift_tb h)⟩
end

/-! ### == -/
mutual
def toPy : D → PyData
  | .non => .none
  | .bl b => .bool b
  | .int i => .int i
  | .str x => .str x
  | .lst ds => .list (toPys ds)
  | .tup ds => .tuple (toPys ds)
  | .dct => .none
  | .pool => .none
  | .scr _ => .none
  | .adr _ => .none
def toPys : List D → List PyData
  | [] => []
  | d :: ds => toPy d :: toPys ds
end
mutual
def plainD : D → Bool
  | .lst ds => plainDs ds
  | .tup ds => plainDs ds
  | .dct => false
  | .pool => false
  | .scr _ => false
  | .adr _ => false
  | _ => true
def plainDs : List D → Bool
  | [] => true
  | d :: ds => plainD d && plainDs ds
end
def shD (d : D) : Bool := plainD d && SeqAt.shaped (toPy d)
section
variable {K : PySem.W.Frag} {pa : Option Addr} {G H : Hp}
mutual
theorem Rep.dp (s : Same G H) : ∀ {v : V} {d : D}, Rep K pa G v d → plainD d = true → Dp K H v (toPy d)
  | _, _, .non, _ => .non
  | _, _, .bl b, _ => .bl b
  | _, _, .int i, _ => .int i
  | _, _, .str x, _ => .str x
  | _, _, .lst h r, p => .lst (SqL.of (s _ _ h)) (RepAll.dp s r (by unfold plainD at p; exact p))
  | _, _, .tup h r, p => .tup (sameT s h) (RepAll.dp s r (by unfold plainD at p; exact p))
  | _, _, .dct h, p => by unfold plainD at p; cases p
  | _, _, .pool h, p => by unfold plainD at p; cases p
  | _, _, .scr h r, p => by unfold plainD at p; cases p
  | _, _, .adr h, p => by unfold plainD at p; cases p
theorem RepAll.dp (s : Same G H) : ∀ {vs : List V} {ds : List D}, RepAll K pa G vs ds → plainDs ds = true → DpAll K H vs (toPys ds)
  | _, _, .nil, _ => .nil
  | _, _, .cons r t, p => by
    unfold plainDs at p
    rw [Bool.and_eq_true] at p
    exact .cons (Rep.dp s r p.1) (RepAll.dp s t p.2)
end
end
/-- scalars of one kind, or of kinds that are never equal -/
def eqS : D → D → Option Bool
  | .int a, .int b => some (decide (a = b))
  | .str a, .str b => some (decide (a = b))
  | .bl a, .bl b => some (decide (a = b))
  | .non, .non => some true
  | .non, .int _ => some false | .int _, .non => some false | .non, .bl _ => some false | .bl _, .non => some false | .non, .str _ => some false | .str _, .non => some false
  | .int _, .str _ => some false | .str _, .int _ => some false | .bl _, .str _ => some false | .str _, .bl _ => some false
  | _, _ => none
def gEq : F2 where
  run := fun d e Q => match eqS d e with
    | some b => Q (.bl b)
    | none => (shD d = true ∧ shD e = true) ∧ Q (.bl (PyData.eqv (toPy d) (toPy e)))
  mono := fun {d e Q Q'} h q => by
    cases k : eqS d e with
    | some b => simp only [k] at q ⊢; exact h _ q
    | none => simp only [k] at q ⊢; exact ⟨q.1, h _ q.2⟩
def gNe : F2 where
  run := fun d e Q => match eqS d e with
    | some b => Q (.bl (!b))
    | none => (shD d = true ∧ shD e = true) ∧ Q (.bl (!PyData.eqv (toPy d) (toPy e)))
  mono := fun {d e Q Q'} h q => by
    cases k : eqS d e with
    | some b => simp only [k] at q ⊢; exact h _ q
    | none => simp only [k] at q ⊢; exact ⟨q.1, h _ q.2⟩
theorem eqS_scal {K : PySem.W.Frag} {pa : Option Addr} {G : Hp} {x y : V} {d e : D} (rx : Rep K pa G x d) (ry : Rep K pa G y e) {b : Bool} (h : eqS d e = some b) : scal x y = true ∧ decide (x = y) = b := by
  cases rx <;> cases ry <;> first
    | (injection h with h; subst h; exact ⟨rfl, by simp⟩)
    | cases h
section
variable {B : Bs} {K : PySem.W.Frag}
theorem snd_eq (hK : B.K = K) : Snd2 B (fun x y H Q => rEq x y H Q ∨ rEqD K x y H Q) gEq := fun x y d e G H Q s rx ry q => by
  subst hK
  unfold gEq at q
  dsimp only at q
  cases k : eqS d e with
  | some b =>
    simp only [k] at q
    obtain ⟨h1, h2⟩ := eqS_scal rx ry k
    exact .inl ⟨h1, by rw [h2]; exact q _ G H (stay s) (.bl _)⟩
  | none =>
    simp only [k] at q
    obtain ⟨⟨q1, q2⟩, q3⟩ := q
    unfold shD at q1 q2
    rw [Bool.and_eq_true] at q1 q2
    exact .inr ⟨toPy d, toPy e, rx.dp s.same q1.1, ry.dp s.same q2.1, q1.2, q2.2, q3 _ G H (stay s) (.bl _)⟩
theorem snd_ne (hK : B.K = K) : Snd2 B (fun x y H Q => rNe x y H Q ∨ rNeD K x y H Q) gNe := fun x y d e G H Q s rx ry q => by
  subst hK
  unfold gNe at q
  dsimp only at q
  cases k : eqS d e with
  | some b =>
    simp only [k] at q
    obtain ⟨h1, h2⟩ := eqS_scal rx ry k
    exact .inl ⟨h1, by rw [h2]; exact q _ G H (stay s) (.bl _)⟩
  | none =>
    simp only [k] at q
    obtain ⟨⟨q1, q2⟩, q3⟩ := q
    unfold shD at q1 q2
    rw [Bool.and_eq_true] at q1 q2
    exact .inr ⟨toPy d, toPy e, rx.dp s.same q1.1, ry.dp s.same q2.1, q1.2, q2.2, q3 _ G H (stay s) (.bl _)⟩
end
section
variable {X : Cx} {B : Bs} {pos : Pos} {a b : Expr} {fa fb : FE}
theorem de_eq (hu : X.A.units + 64 < cLine) (ha : DE X B a fa) (hb : DE X B b fb) (hK : B.K = X.K := by rfl) : DE X B (.Compare a [.Eq] [b] pos) (fBin gEq fa fb) := de_cmp (op_eq.or (op_eqD hu)) (snd_eq hK) ha hb (nomark _)
theorem dt_eq (hu : X.A.units + 64 < cLine) (ha : DE X B a fa) (hb : DE X B b fb) (hK : B.K = X.K := by rfl) : DT X B (.Compare a [.Eq] [b] pos) (fTB (fBin gEq fa fb)) := dt_cmp (op_eq.or (op_eqD hu)) (snd_eq hK) ha hb (nomark _)
theorem de_ne (hu : X.A.units + 64 < cLine) (ha : DE X B a fa) (hb : DE X B b fb) (hK : B.K = X.K := by rfl) : DE X B (.Compare a [.NotEq] [b] pos) (fBin gNe fa fb) := de_cmp (op_ne.or (op_neD hu)) (snd_ne hK) ha hb (nomark _)
theorem dt_ne (hu : X.A.units + 64 < cLine) (ha : DE X B a fa) (hb : DE X B b fb) (hK : B.K = X.K := by rfl) : DT X B (.Compare a [.NotEq] [b] pos) (fTB (fBin gNe fa fb)) := dt_cmp (op_ne.or (op_neD hu)) (snd_ne hK) ha hb (nomark _)
end

/-! ### in -/
def flatD : D → Bool
  | .non => true | .bl _ => true | .int _ => true | .str _ => true | _ => false
def eqF : D → D → Bool
  | .non, .non => true
  | .bl a, .bl b => a == b
  | .bl a, .int b => (if a then 1 else 0) == b
  | .int a, .bl b => a == (if b then 1 else 0)
  | .int a, .int b => a == b
  | .str a, .str b => a == b
  | _, _ => false
def inD (d : D) (ds : List D) : Bool := ds.any fun e => eqF e d
def gInB (neg : Bool) : F2 where
  run := fun d e Q => match e with
    | .lst es => (flatD d = true ∧ es.all flatD = true) ∧ Q (.bl (if neg then !inD d es else inD d es))
    | .tup es => (flatD d = true ∧ es.all flatD = true) ∧ Q (.bl (if neg then !inD d es else inD d es))
    | _ => False
  mono := fun {d e Q Q'} h q => by cases e <;> first | exact ⟨q.1, h _ q.2⟩ | exact q
section
variable {K : PySem.W.Frag} {pa : Option Addr} {G : Hp}
theorem Rep.flat {v : V} {d : D} (r : Rep K pa G v d) (h : flatD d = true) : flatV v = true := by cases r <;> first | rfl | cases h
theorem Rep.eqF {v w : V} {d e : D} (r : Rep K pa G v d) (r' : Rep K pa G w e) (h : flatD d = true) (h' : flatD e = true) : eqV v w = DL.eqF d e := by
  cases r <;> first | (cases h; done) | (cases r' <;> first | (cases h'; done) | rfl)
theorem RepAll.flat : ∀ {vs : List V} {ds : List D}, RepAll K pa G vs ds → ds.all flatD = true → vs.all flatV = true
  | _, _, .nil, _ => rfl
  | _, _, .cons r t, h => by
    rw [List.all_cons, Bool.and_eq_true] at h ⊢
    exact ⟨r.flat h.1, RepAll.flat t h.2⟩
theorem RepAll.inV {x : V} {d : D} (rx : Rep K pa G x d) (hx : flatD d = true) : ∀ {vs : List V} {ds : List D}, RepAll K pa G vs ds → ds.all flatD = true → L2.inV x vs = inD d ds
  | _, _, .nil, _ => rfl
  | _, _, .cons r t, h => by
    rw [List.all_cons, Bool.and_eq_true] at h
    have ih := RepAll.inV rx hx t h.2
    unfold L2.inV inD at ih ⊢
    rw [List.any_cons, List.any_cons, ih, r.eqF rx h.1 hx]
end
section
variable {B : Bs} {K : PySem.W.Frag}
theorem snd_in (neg : Bool) (hK : B.K = K) : Snd2 B (rIn K neg) (gInB neg) := fun x y d e G H Q s rx ry q => by
  subst hK
  cases ry with
  | @lst a xs ds h r =>
    obtain ⟨⟨q1, q2⟩, q3⟩ := q
    exact ⟨a, xs, rfl, .inl (SqL.of (s.same _ _ h)), rx.flat q1, r.flat q2, by rw [RepAll.inV rx q1 r q2]; exact q3 _ G H (stay s) (.bl _)⟩
  | @tup a xs ds h r =>
    obtain ⟨⟨q1, q2⟩, q3⟩ := q
    exact ⟨a, xs, rfl, .inr (sameT s.same h), rx.flat q1, r.flat q2, by rw [RepAll.inV rx q1 r q2]; exact q3 _ G H (stay s) (.bl _)⟩
  | _ => exact False.elim q
end
section
variable {X : Cx} {B : Bs} {pos : Pos} {a b : Expr} {fa fb : FE}
theorem de_in (ha : DE X B a fa) (hb : DE X B b fb) (hm : behindInMarks .In b = false := by rfl) (hK : B.K = X.K := by rfl) : DE X B (.Compare a [.In] [b] pos) (fBin (gInB false) fa fb) := de_cmp op_in_seq (snd_in false hK) ha hb hm
theorem dt_in (ha : DE X B a fa) (hb : DE X B b fb) (hm : behindInMarks .In b = false := by rfl) (hK : B.K = X.K := by rfl) : DT X B (.Compare a [.In] [b] pos) (fTB (fBin (gInB false) fa fb)) := dt_cmp op_in_seq (snd_in false hK) ha hb hm
theorem de_nin (ha : DE X B a fa) (hb : DE X B b fb) (hm : behindInMarks .NotIn b = false := by rfl) (hK : B.K = X.K := by rfl) : DE X B (.Compare a [.NotIn] [b] pos) (fBin (gInB true) fa fb) := de_cmp op_notIn_seq (snd_in true hK) ha hb hm
theorem dt_nin (ha : DE X B a fa) (hb : DE X B b fb) (hm : behindInMarks .NotIn b = false := by rfl) (hK : B.K = X.K := by rfl) : DT X B (.Compare a [.NotIn] [b] pos) (fTB (fBin (gInB true) fa fb)) := dt_cmp op_notIn_seq (snd_in true hK) ha hb hm
end

/-! ### subscripts -/
def gIx : F2 where
  run := fun d e Q => match d, e with
    | .lst ds, .int i => ∃ z, atI ds i = some z ∧ Q z
    | .tup ds, .int i => ∃ z, atI ds i = some z ∧ Q z
    | .str x, .int i => ∃ c, x.length ≤ sizeLine ∧ atI x.cps.toList i = some c ∧ Q (.str ⟨#[c]⟩)
    | _, _ => False
  mono := fun {d e Q Q'} h q => by
    cases d <;> cases e <;> first | (obtain ⟨z, h1, h2⟩ := q; exact ⟨z, h1, h _ h2⟩) | (obtain ⟨z, h1, h2, h3⟩ := q; exact ⟨z, h1, h2, h _ h3⟩) | exact q
theorem RepAll.atI {K : PySem.W.Frag} {pa : Option Addr} {G : Hp} {vs : List V} {ds : List D} {i : Int} {z : D} (r : RepAll K pa G vs ds) (h : atI ds i = some z) : ∃ v, L2.atI vs i = some v ∧ Rep K pa G v z := by
  unfold L2.atI at h ⊢
  rw [r.length]
  cases e : ixN ds.length i with
  | none => rw [e] at h; cases h
  | some j =>
    rw [e] at h
    obtain ⟨v, h1, h2⟩ := r.getD (show ds[j]? = some z from h)
    exact ⟨v, h1, h2⟩
section
variable {B : Bs} {K : PySem.W.Frag}
theorem snd_ix (hK : B.K = K) : Snd2 B (rIx K) gIx := fun x y d e G H Q s rx ry q => by
  subst hK
  cases rx with
  | @lst a xs ds h r =>
    cases ry with
    | int i =>
      obtain ⟨z, h1, h2⟩ := q
      obtain ⟨v, h3, h4⟩ := r.atI h1
      exact .inl ⟨a, xs, i, v, rfl, rfl, SqL.of (s.same _ _ h), h3, h2 v G H (stay s) h4⟩
    | _ => exact False.elim q
  | @tup a xs ds h r =>
    cases ry with
    | int i =>
      obtain ⟨z, h1, h2⟩ := q
      obtain ⟨v, h3, h4⟩ := r.atI h1
      exact .inr (.inl ⟨a, xs, i, v, rfl, rfl, sameT s.same h, h3, h2 v G H (stay s) h4⟩)
    | _ => exact False.elim q
  | str x =>
    cases ry with
    | int i =>
      obtain ⟨c, h0, h1, h2⟩ := q
      exact .inr (.inr ⟨x, i, c, rfl, rfl, h0, h1, h2 _ G H (stay s) (.str _)⟩)
    | _ => exact False.elim q
  | _ => exact False.elim q
end
section
variable {X : Cx} {B : Bs} {pos : Pos} {a b : Expr} {fa fb : FE}
theorem de_ix (ha : DE X B a fa) (hb : DE X B b fb) (hs : PlainIx b := by intro _ _; rfl) (hK : B.K = X.K := by rfl) : DE X B (.Subscript a b pos) (fBin gIx fa fb) :=
  ⟨peImp (pe_ix ix_seq ha.pe hb.pe hs) fun _ _ _ => lift_bin (snd_ix hK)⟩
/-- an item of a list of one's own -/
def fIxO (i : Nat) (fb : FE) : FE := ⟨fun ex τ Q => (∃ ds, τ[i]? = some (some (.ow ds))) ∧ fb.run ex τ fun e τ1 => ∃ ds j z, τ1[i]? = some (some (.ow ds)) ∧ e = .int j ∧ atI ds j = some z ∧ Q z τ1,
  fun he h q => ⟨q.1, fb.mono he (fun _ _ ⟨ds, j, z, h1, h2, h3, h4⟩ => ⟨ds, j, z, h1, h2, h3, h _ _ h4⟩) q.2⟩⟩
theorem own_at {B : Bs} {G H : Hp} {C : List Cell} {Θ : Tmp} {σ : L2.St} {i : Nat} {ds : List D} (s : SR B G H C Θ) (hf : Fits C σ) (h : (sls C)[i]? = some (some (.ow ds))) :
    ∃ a vs, C[i]? = some (some (.ref a, .ow ds)) ∧ σ[i]? = some (some (.ref a)) ∧ H a = some (.lst vs) ∧ RepAll B.K B.pa G vs ds := by
  obtain ⟨v, hc⟩ := sls_get h
  obtain ⟨a, vs, e, _, _, _, h4, h5⟩ := s.rs _ (List.mem_append_left _ (List.mem_of_getElem? hc))
  have e : v = .ref a := e
  subst e
  exact ⟨a, vs, hc, hf.2 _ _ _ hc, h4, h5⟩
theorem de_ixO {x : Str} {px : Pos} (i : Nat) (hb : DE X B b fb) (hN : X.N[i]? = some x := by rfl) (hv : Vis X.env.scope x := by first | exact Or.inl rfl | exact Or.inr (Or.inl rfl) | exact Or.inr (Or.inr rfl)) (hd : (x == ("__debug__" : Str)) = false := by decide)
    (hcd : (x == ("__classdict__" : Str)) = false := by decide) (hs : PlainIx b := by intro _ _; rfl) (hK : B.K = X.K := by rfl) : DE X B (.Subscript (.Name x px) b pos) (fIxO i fb) := by
  refine ⟨peImp (pe_ix ix_list (pe_var hN hv hd hcd) hb.pe hs) fun σ H Q => ?_⟩
  rintro ⟨G, C, Θ, hf, s, ⟨ds0, q0⟩, q⟩
  obtain ⟨a, vs, hc, hσ, _, _⟩ := own_at s hf q0
  refine ⟨.ref a, hσ, G, C, Θ, hf, s, fb.mono (fun _ h => h) (fun e τ1 => ?_) q⟩
  rintro ⟨ds, j, z, h1, rfl, h3, h4⟩ w G' H' C' k1 k2 s' r
  subst k2
  cases r
  obtain ⟨a', vs', hc', hσ', hH', r'⟩ := own_at s' k1 h1
  rw [hσ] at hσ'; injection hσ' with hσ'; injection hσ' with hσ'; injection hσ' with hσ'; subst hσ'
  obtain ⟨v, h5, h6⟩ := r'.atI h3
  exact ⟨a, vs', j, v, rfl, rfl, SqL.of hH', h5, h4 v G' H' C' k1 rfl s' h6⟩
end

/-! ### slices -/
structure FP where
  run : EX → Tau → (Option Int → Tau → Prop) → Prop
  mono : ∀ {ex ex' : EX} {τ : Tau} {Q Q' : Option Int → Tau → Prop}, (∀ c, ex c → ex' c) → (∀ d t, Q d t → Q' d t) → run ex τ Q → run ex' τ Q'
def liftP (B : Bs) (f : FP) : TO := fun σ H Q => ∃ G C Θ, Fits C σ ∧ SR B G H C Θ ∧ f.run (exOf B) (sls C) fun b τ' => ∀ G' H' C', Fits C' σ → sls C' = τ' → SR B G' H' C' Θ → Q b H'
structure DP (X : Cx) (B : Bs) (e : Option Expr) (f : FP) : Prop where
  po : PO X e (liftP B f)
def cutD (ds : List D) (lo hi : Option Int) : List D := (ds.drop (HT.sIx ds.length 0 lo)).take (HT.sIx ds.length ds.length hi - HT.sIx ds.length 0 lo)
theorem RepAll.cut {K : PySem.W.Frag} {pa : Option Addr} {G : Hp} {vs : List V} {ds : List D} (r : RepAll K pa G vs ds) (lo hi : Option Int) : RepAll K pa G (cutV vs lo hi) (cutD ds lo hi) := by
  unfold cutV cutD; rw [r.length]; exact (r.drop _).take _
def fPn : FP := ⟨fun _ τ Q => Q none τ, fun _ h q => h _ _ q⟩
def fPs (a : FE) : FP := ⟨fun ex τ Q => a.run ex τ fun d τ1 => match d with
    | .int i => Q (some i) τ1
    | _ => False, fun he h q => a.mono he (fun d _ k => by cases d <;> first | exact h _ _ k | exact k) q⟩
/-- a slice of a list: a new one -/
def fSlL (a : FE) (p q : FP) : FA := ⟨fun ex τ Q => a.run ex τ fun d τ1 => p.run ex τ1 fun lo τ2 => q.run ex τ2 fun hi τ3 => match d with
    | .lst ds => Q (cutD ds lo hi) τ3
    | _ => False, fun he h k => a.mono he (fun d _ k => p.mono he (fun _ _ k => q.mono he (fun _ _ k => by cases d <;> first | exact h _ _ k | exact k) k) k) k⟩
/-- a slice of a tuple -/
def fSlT (a : FE) (p q : FP) : FE := ⟨fun ex τ Q => a.run ex τ fun d τ1 => p.run ex τ1 fun lo τ2 => q.run ex τ2 fun hi τ3 => match d with
    | .tup ds => Q (.tup (cutD ds lo hi)) τ3
    | _ => False, fun he h k => a.mono he (fun d _ k => p.mono he (fun _ _ k => q.mono he (fun _ _ k => by cases d <;> first | exact h _ _ k | exact k) k) k) k⟩
theorem cut_whole {α : Type} (xs : List α) (lo hi : Option Int) (h : HT.sIx xs.length 0 lo = 0 ∧ HT.sIx xs.length xs.length hi = xs.length) : (xs.drop (HT.sIx xs.length 0 lo)).take (HT.sIx xs.length xs.length hi - HT.sIx xs.length 0 lo) = xs := by
  rw [h.1, h.2, List.drop_zero, Nat.sub_zero, List.take_length]
section
variable {X : Cx} {B : Bs} {pos p2 : Pos} {a : Expr} {lo hi : Option Expr} {fa : FE} {fl fh : FP}
theorem dp_none : DP X B none fPn := by
  refine ⟨⟨fun pins s σ H Q I h => po_none.run pins s σ H Q I ?_⟩⟩
  obtain ⟨G, C, Θ, hf, s', q⟩ := h
  exact q G H C hf rfl s'
theorem dp_some {e : Expr} {fe : FE} (he : DE X B e fe) : DP X B (some e) (fPs fe) := by
  refine ⟨⟨fun pins s σ H Q I h => (po_some he.pe).run pins s σ H Q I ?_⟩⟩
  obtain ⟨G, C, Θ, hf, s', q⟩ := h
  refine ⟨G, C, Θ, hf, s', fe.mono (fun _ h => h) (fun d τ1 q v G' H' C' h1 h2 s2 r => ?_) q⟩
  cases r with
  | int i => exact ⟨i, rfl, q G' H' C' h1 h2 s2⟩
  | _ => exact False.elim q
theorem do_sl (ha : DE X B a fa) (hl : DP X B lo fl) (hh : DP X B hi fh) (hK : B.K = X.K := by rfl) : DO X B (.Subscript a (.Slice lo hi none p2) pos) (fSlL fa fl fh) := by
  refine ⟨peImp (pe_slice sl_list ha.pe hl.po hh.po) fun σ H Q => ?_⟩
  rintro ⟨G, C, Θ, hf, s, q⟩
  refine ⟨G, C, Θ, hf, s, fa.mono (fun _ h => h) (fun d τ1 q v G1 H1 C1 h1 h2 s1 r1 => ?_) q⟩
  refine ⟨G1, C1, Θ ++ [some (v, .sh d)], h1, s1.push r1, fl.mono (fun _ h => h) (fun l τ2 q G2 H2 C2 k1 k2 s2 => ?_) (h2 ▸ q)⟩
  refine ⟨G2, C2, Θ ++ [some (v, .sh d)], k1, s2, fh.mono (fun _ h => h) (fun u τ3 q G3 H3 C3 m1 m2 s3 => ?_) (k2 ▸ q)⟩
  have r3 : Rep B.K B.pa G3 v d := s3.last (x := .sh d)
  cases r3 with
  | @lst p xs ds h r =>
    exact ⟨p, xs, rfl, SqL.of (s3.sb.same _ _ h), fun z hz => q z G3 _ C3 m1 m2 (s3.pop.fresh hz (r.cut l u))⟩
  | _ => exact False.elim q
theorem de_slT (ha : DE X B a fa) (hl : DP X B lo fl) (hh : DP X B hi fh) (hK : B.K = X.K := by rfl) : DE X B (.Subscript a (.Slice lo hi none p2) pos) (fSlT fa fl fh) := by
  refine ⟨peImp (pe_slice sl_tupA ha.pe hl.po hh.po) fun σ H Q => ?_⟩
  rintro ⟨G, C, Θ, hf, s, q⟩
  refine ⟨G, C, Θ, hf, s, fa.mono (fun _ h => h) (fun d τ1 q v G1 H1 C1 h1 h2 s1 r1 => ?_) q⟩
  refine ⟨G1, C1, Θ ++ [some (v, .sh d)], h1, s1.push r1, fl.mono (fun _ h => h) (fun l τ2 q G2 H2 C2 k1 k2 s2 => ?_) (h2 ▸ q)⟩
  refine ⟨G2, C2, Θ ++ [some (v, .sh d)], k1, s2, fh.mono (fun _ h => h) (fun u τ3 q G3 H3 C3 m1 m2 s3 => ?_) (k2 ▸ q)⟩
  have r3 : Rep B.K B.pa G3 v d := s3.last (x := .sh d)
  cases r3 with
  | @tup p xs ds h r =>
    refine ⟨p, xs, rfl, hK ▸ sameT s3.sb.same h, fun hw => ?_, fun _ z hz => ?_⟩
    · have e : cutD ds l u = ds := cut_whole ds l u (by rw [← r.length]; exact hw)
      dsimp only at q
      rw [e] at q
      exact q _ G3 H3 C3 m1 m2 s3.pop (.tup h r)
    · have st := Step.new (o := .tup (cutV xs l u)) s3.sb hz
      exact q _ _ _ C3 m1 m2 (s3.pop.step st) (.tup (.inl (.inl upd_same)) (RepAll.mono st.grow (r.cut l u)))
  | _ => exact False.elim q
end

/-! ### lists by operators: xs + ys, xs * k -/
def gCat : F2L where
  run := fun d e Q => match d, e with
    | .lst a, .lst b => a.length + b.length ≤ sizeLine ∧ Q (a ++ b)
    | _, _ => False
  mono := fun {d e Q Q'} h q => by cases d <;> cases e <;> first | exact ⟨q.1, h _ q.2⟩ | exact q
def gRep : F2L where
  run := fun d e Q => match d, e with
    | .lst a, .int k => (-(2 ^ 63) ≤ k ∧ k < 2 ^ 63 ∧ a.length * k.toNat ≤ sizeLine) ∧ Q (List.replicate k.toNat a).flatten
    | _, _ => False
  mono := fun {d e Q Q'} h q => by cases d <;> cases e <;> first | exact ⟨q.1, h _ q.2⟩ | exact q
section
variable {X : Cx} {B : Bs} {pos : Pos} {a b : Expr} {fa fb : FE}
theorem snd_cat : Snd2L B rCat gCat := fun x y d e G H Q s rx ry q => by
  cases rx with
  | @lst p xs ds h r =>
    cases ry with
    | @lst p' ys es h' r' => exact ⟨p, p', xs, ys, rfl, rfl, s.same _ _ h, s.same _ _ h', by rw [r.length, r'.length]; exact q.1, fun z hz => q.2 z _ hz (r.append r')⟩
    | _ => exact False.elim q
  | _ => exact False.elim q
theorem snd_rep : Snd2L B rRep gRep := fun x y d e G H Q s rx ry q => by
  cases rx with
  | @lst p xs ds h r =>
    cases ry with
    | int k => exact ⟨p, k, xs, rfl, rfl, s.same _ _ h, q.1.1, q.1.2.1, by rw [r.length]; exact q.1.2.2, fun z hz => q.2 z _ hz (r.rep _)⟩
    | _ => exact False.elim q
  | _ => exact False.elim q
theorem do_cat (ha : DE X B a fa) (hb : DE X B b fb) : DO X B (.BinOp a .Add b pos) (fBinL gCat fa fb) := do_bin op_cat snd_cat ha hb
theorem do_rep (ha : DE X B a fa) (hb : DE X B b fb) : DO X B (.BinOp a .Mult b pos) (fBinL gRep fa fb) := do_bin op_rep snd_rep ha hb
end
end DL
/-! The data layer: calls of built-ins and defs, what is walked, comprehensions. -/
namespace DL
open PySem PySem.Spec PyProof.Rows L2

structure FL where
  run : List D → (D → Prop) → Prop
  mono : ∀ {ds : List D} {Q Q' : D → Prop}, (∀ d, Q d → Q' d) → run ds Q → run ds Q'
structure FLL where
  run : List D → (List D → Prop) → Prop
  mono : ∀ {ds : List D} {Q Q' : List D → Prop}, (∀ d, Q d → Q' d) → run ds Q → run ds Q'
def SndL (B : Bs) (r : List V → Hp → VK → Prop) (g : FL) : Prop := ∀ xs ds G H Q, SB B G H → RepAll B.K B.pa G xs ds →
  g.run ds (fun e => ∀ v G' H', Step B.pa G H G' H' → Rep B.K B.pa G' v e → Q v H') → r xs H Q
def SndLL (B : Bs) (r : List V → Hp → VK → Prop) (g : FLL) : Prop := ∀ xs ds G H Q, SB B G H → RepAll B.K B.pa G xs ds →
  g.run ds (fun zs => ∀ p vs, H p = none → RepAll B.K B.pa G vs zs → Q (.ref p) (upd H p (.lst vs))) → r xs H Q
def fCB (g : FL) (fs : FA) : FE := ⟨fun ex τ Q => fs.run ex τ fun ds τ1 => g.run ds fun z => Q z τ1, fun he h q => fs.mono he (fun _ _ k => g.mono (fun _ => h _ _) k) q⟩
def fCBL (g : FLL) (fs : FA) : FA := ⟨fun ex τ Q => fs.run ex τ fun ds τ1 => g.run ds fun z => Q z τ1, fun he h q => fs.mono he (fun _ _ k => g.mono (fun _ => h _ _) k) q⟩
section
variable {X : Cx} {B : Bs} {p pos : Pos} {e : Expr} {es : List Expr} {fs : FA} {x : Str} {id T : String} {r : List V → Hp → VK → Prop} {g : FL} {gl : FLL}
theorem lift_cb (hs : SndL B r g) {σ : L2.St} {H : Hp} {Q : VK} (h : liftE B (fCB g fs) σ H Q) : tCB r (liftA B fs) σ H Q := by
  obtain ⟨G, C, Θ, hf, s, q⟩ := h
  refine ⟨G, C, Θ, hf, s, fs.mono (fun _ h => h) (fun ds τ1 q vs G' H' C' h1 h2 s' r' => ?_) q⟩
  exact hs vs ds G' H' Q s'.sb r' (g.mono (fun z k w G2 H2 t r2 => k w G2 H2 C' h1 h2 (s'.step t) r2) q)
theorem lift_cbl (hs : SndLL B r gl) {σ : L2.St} {H : Hp} {Q : VK} (h : liftO B (fCBL gl fs) σ H Q) : tCB r (liftA B fs) σ H Q := by
  obtain ⟨G, C, Θ, hf, s, q⟩ := h
  refine ⟨G, C, Θ, hf, s, fs.mono (fun _ h => h) (fun ds τ1 q vs G' H' C' h1 h2 s' r' => ?_) q⟩
  exact hs vs ds G' H' Q s'.sb r' (gl.mono (fun zs k p ws hp rr => k p G' _ C' h1 h2 (s'.fresh hp rr)) q)
theorem de_callB (hc : CallR X (.builtin id) r) (hs : SndL B r g) (hg : Gl X x) (hm : X.mg x = none) (hv : bootBuiltins x = some (.builtin id)) (ha : DA X B (e :: es) fs) (hn : x ≠ "__name__" := by decide) (hdb : (x == ("__debug__" : Str)) = false := by decide)
    (he : starEach (e :: es) X.env = (false, eval e X.env) :: starEach es X.env := by rfl) (hpl : (backTo pos (starEach es X.env)).any (·.1) = false := by rfl) : DE X B (.Call (.Name x p) (e :: es) [] pos) (fCB g fs) :=
  ⟨peImp (pe_callB hc hg hm hv ha.pa hn hdb he hpl) fun _ _ _ => lift_cb hs⟩
theorem de_callTy (hc : CallR X (.type T) r) (hs : SndL B r g) (hg : Gl X x) (hm : X.mg x = none) (hv : bootBuiltins x = some (.type T)) (ha : DA X B (e :: es) fs) (hn : x ≠ "__name__" := by decide) (hdb : (x == ("__debug__" : Str)) = false := by decide)
    (he : starEach (e :: es) X.env = (false, eval e X.env) :: starEach es X.env := by rfl) (hpl : (backTo pos (starEach es X.env)).any (·.1) = false := by rfl) : DE X B (.Call (.Name x p) (e :: es) [] pos) (fCB g fs) :=
  ⟨peImp (pe_callTy hc hg hm hv ha.pa hn hdb he hpl) fun _ _ _ => lift_cb hs⟩
theorem do_callTy (hc : CallR X (.type T) r) (hs : SndLL B r gl) (hg : Gl X x) (hm : X.mg x = none) (hv : bootBuiltins x = some (.type T)) (ha : DA X B (e :: es) fs) (hn : x ≠ "__name__" := by decide) (hdb : (x == ("__debug__" : Str)) = false := by decide)
    (he : starEach (e :: es) X.env = (false, eval e X.env) :: starEach es X.env := by rfl) (hpl : (backTo pos (starEach es X.env)).any (·.1) = false := by rfl) : DO X B (.Call (.Name x p) (e :: es) [] pos) (fCBL gl fs) :=
  ⟨peImp (pe_callTy hc hg hm hv ha.pa hn hdb he hpl) fun _ _ _ => lift_cbl hs⟩
theorem do_callB (hc : CallR X (.builtin id) r) (hs : SndLL B r gl) (hg : Gl X x) (hm : X.mg x = none) (hv : bootBuiltins x = some (.builtin id)) (ha : DA X B (e :: es) fs) (hn : x ≠ "__name__" := by decide) (hdb : (x == ("__debug__" : Str)) = false := by decide)
    (he : starEach (e :: es) X.env = (false, eval e X.env) :: starEach es X.env := by rfl) (hpl : (backTo pos (starEach es X.env)).any (·.1) = false := by rfl) : DO X B (.Call (.Name x p) (e :: es) [] pos) (fCBL gl fs) :=
  ⟨peImp (pe_callB hc hg hm hv ha.pa hn hdb he hpl) fun _ _ _ => lift_cbl hs⟩
end

/-! ### the built-ins -/
def gLen : FL where
  run := fun ds Q => match ds with
    | [.str x] => x.length ≤ sizeLine ∧ Q (.int x.length)
    | [.lst xs] => Q (.int xs.length)
    | [.tup xs] => Q (.int xs.length)
    | _ => False
  mono := fun {ds Q Q'} h q => by
    match ds, q with
    | [.str x], q => exact ⟨q.1, h _ q.2⟩
    | [.lst xs], q => exact h _ q
    | [.tup xs], q => exact h _ q
def gInt : FL where
  run := fun ds Q => match ds with
    | [.int i] => Q (.int i)
    | [.bl b] => Q (.int (if b then 1 else 0))
    | _ => False
  mono := fun {ds Q Q'} h q => by
    match ds, q with
    | [.int i], q => exact h _ q
    | [.bl b], q => exact h _ q
def gMax : FL where
  run := fun ds Q => match ds with
    | [.int i, .int j] => Q (.int (if j > i then j else i))
    | _ => False
  mono := fun {ds Q Q'} h q => by
    match ds, q with
    | [.int i, .int j], q => exact h _ q
def gMin : FL where
  run := fun ds Q => match ds with
    | [.int i, .int j] => Q (.int (if j < i then j else i))
    | _ => False
  mono := fun {ds Q Q'} h q => by
    match ds, q with
    | [.int i, .int j], q => exact h _ q
def gAbs : FL where
  run := fun ds Q => match ds with
    | [.int i] => Q (.int (if i < 0 then -i else i))
    | _ => False
  mono := fun {ds Q Q'} h q => by
    match ds, q with
    | [.int i], q => exact h _ q
def gSum : FL where
  run := fun ds Q => match ds with
    | [.lst xs] => ∃ ns : List Int, xs = ns.map D.int ∧ Q (.int ns.sum)
    | _ => False
  mono := fun {ds Q Q'} h q => by
    match ds, q with
    | [.lst xs], ⟨ns, h1, h2⟩ => exact ⟨ns, h1, h _ h2⟩
def gAll : FL where
  run := fun ds Q => match ds with
    | [.lst xs] => ∃ ns : List Bool, xs = ns.map D.bl ∧ Q (.bl (ns.all id))
    | _ => False
  mono := fun {ds Q Q'} h q => by
    match ds, q with
    | [.lst xs], ⟨ns, h1, h2⟩ => exact ⟨ns, h1, h _ h2⟩
def gAny : FL where
  run := fun ds Q => match ds with
    | [.lst xs] => ∃ ns : List Bool, xs = ns.map D.bl ∧ Q (.bl (ns.any id))
    | _ => False
  mono := fun {ds Q Q'} h q => by
    match ds, q with
    | [.lst xs], ⟨ns, h1, h2⟩ => exact ⟨ns, h1, h _ h2⟩
def gTupOf : FL where
  run := fun ds Q => match ds with
    | [.lst xs] => Q (.tup xs)
    | [.tup xs] => Q (.tup xs)
    | _ => False
  mono := fun {ds Q Q'} h q => by
    match ds, q with
    | [.lst xs], q => exact h _ q
    | [.tup xs], q => exact h _ q
def gLstOf : FLL where
  run := fun ds Q => match ds with
    | [.lst xs] => Q xs
    | [.tup xs] => Q xs
    | _ => False
  mono := fun {ds Q Q'} h q => by
    match ds, q with
    | [.lst xs], q => exact h _ q
    | [.tup xs], q => exact h _ q
def gStr : FL where
  run := fun ds Q => match ds with
    | [.int i] => i.natAbs.log2 < 1920 ∧ Q (.str (toString i : String))
    | _ => False
  mono := fun {ds Q Q'} h q => by
    match ds, q with
    | [.int i], q => exact ⟨q.1, h _ q.2⟩
def gGcd : FL where
  run := fun ds Q => match ds with
    | [.int a, .int b] => Q (.int ((Nat.gcd a.natAbs b.natAbs : Nat) : Int))
    | _ => False
  mono := fun {ds Q Q'} h q => by
    match ds, q with
    | [.int a, .int b], q => exact h _ q
def gOrd : FL where
  run := fun ds Q => match ds with
    | [.str x] => x.length = 1 ∧ Q (.int (x.cps.getD 0 0 : Nat))
    | _ => False
  mono := fun {ds Q Q'} h q => by
    match ds, q with
    | [.str x], q => exact ⟨q.1, h _ q.2⟩

section
variable {B : Bs} {K : PySem.W.Frag}
theorem rep1 {G : Hp} {xs : List V} {d : D} (r : RepAll B.K B.pa G xs [d]) : ∃ v, xs = [v] ∧ Rep B.K B.pa G v d := by
  cases r with
  | cons h t => cases t; exact ⟨_, rfl, h⟩
theorem rep2 {G : Hp} {xs : List V} {d e : D} (r : RepAll B.K B.pa G xs [d, e]) : ∃ v w, xs = [v, w] ∧ Rep B.K B.pa G v d ∧ Rep B.K B.pa G w e := by
  cases r with
  | cons h t =>
    cases t with
    | cons h' t => cases t; exact ⟨_, _, rfl, h, h'⟩
theorem snd_len (hK : B.K = K) : SndL B (fun xs H Q => ∃ x n, xs = [x] ∧ LenV K x H n ∧ Q (.int n) H) gLen := fun xs ds G H Q s r q => by
  subst hK
  match ds, r, q with
  | [.str x], r, q =>
    obtain ⟨v, rfl, h⟩ := rep1 r
    cases h
    exact ⟨_, _, rfl, ⟨q.1, rfl⟩, q.2 _ G H (stay s) (.int _)⟩
  | [.lst zs], r, q =>
    obtain ⟨v, rfl, h⟩ := rep1 r
    cases h with
    | lst h r => exact ⟨_, _, rfl, .inl ⟨_, SqL.of (s.same _ _ h), r.length.symm⟩, q _ G H (stay s) (.int _)⟩
  | [.tup zs], r, q =>
    obtain ⟨v, rfl, h⟩ := rep1 r
    cases h with
    | tup h r => exact ⟨_, _, rfl, .inr ⟨_, sameT s.same h, r.length.symm⟩, q _ G H (stay s) (.int _)⟩
theorem snd_int : SndL B (fun xs H Q => (∃ i, xs = [.int i] ∧ Q (.int i) H) ∨ ∃ k, xs = [.bl k] ∧ Q (.int (if k then 1 else 0)) H) gInt := fun xs ds G H Q s r q => by
  match ds, r, q with
  | [.int i], r, q =>
    obtain ⟨v, rfl, h⟩ := rep1 r
    cases h
    exact .inl ⟨_, rfl, q _ G H (stay s) (.int _)⟩
  | [.bl i], r, q =>
    obtain ⟨v, rfl, h⟩ := rep1 r
    cases h
    exact .inr ⟨_, rfl, q _ G H (stay s) (.int _)⟩
theorem snd_max : SndL B (fun xs H Q => ∃ i j, xs = [.int i, .int j] ∧ Q (.int (if j > i then j else i)) H) gMax := fun xs ds G H Q s r q => by
  match ds, r, q with
  | [.int i, .int j], r, q =>
    obtain ⟨v, w, rfl, h, h'⟩ := rep2 r
    cases h; cases h'
    exact ⟨_, _, rfl, q _ G H (stay s) (.int _)⟩
theorem snd_min : SndL B (fun xs H Q => ∃ i j, xs = [.int i, .int j] ∧ Q (.int (if j < i then j else i)) H) gMin := fun xs ds G H Q s r q => by
  match ds, r, q with
  | [.int i, .int j], r, q =>
    obtain ⟨v, w, rfl, h, h'⟩ := rep2 r
    cases h; cases h'
    exact ⟨_, _, rfl, q _ G H (stay s) (.int _)⟩
theorem snd_gcd : SndL B rGcd gGcd := fun xs ds G H Q s r q => by
  match ds, r, q with
  | [.int i, .int j], r, q =>
    obtain ⟨v, w, rfl, h, h'⟩ := rep2 r
    cases h; cases h'
    exact ⟨_, _, rfl, q _ G H (stay s) (.int _)⟩
theorem snd_abs : SndL B (fun xs H Q => ∃ i, xs = [.int i] ∧ Q (.int (if i < 0 then -i else i)) H) gAbs := fun xs ds G H Q s r q => by
  match ds, r, q with
  | [.int i], r, q =>
    obtain ⟨v, rfl, h⟩ := rep1 r
    cases h
    exact ⟨_, rfl, q _ G H (stay s) (.int _)⟩
theorem snd_ord : SndL B (fun xs H Q => ∃ x, xs = [.str x] ∧ x.length = 1 ∧ Q (.int (x.cps.getD 0 0 : Nat)) H) gOrd := fun xs ds G H Q s r q => by
  match ds, r, q with
  | [.str i], r, q =>
    obtain ⟨v, rfl, h⟩ := rep1 r
    cases h
    exact ⟨_, rfl, q.1, q.2 _ G H (stay s) (.int _)⟩
theorem snd_str : SndL B (fun xs H Q => ∃ i, xs = [.int i] ∧ i.natAbs.log2 < 1920 ∧ Q (.str (toString i : String)) H) gStr := fun xs ds G H Q s r q => by
  match ds, r, q with
  | [.int i], r, q =>
    obtain ⟨v, rfl, h⟩ := rep1 r
    cases h
    exact ⟨_, rfl, q.1, q.2 _ G H (stay s) (.str _)⟩
theorem snd_sum (hK : B.K = K) : SndL B (rSum K) gSum := fun xs ds G H Q s r q => by
  subst hK
  match ds, r, q with
  | [.lst zs], r, ⟨ns, e, q⟩ =>
    obtain ⟨v, rfl, h⟩ := rep1 r
    subst e
    cases h with
    | lst h r => exact ⟨_, ns, rfl, by rw [← r.of_ints]; exact SqL.of (s.same _ _ h), q _ G H (stay s) (.int _)⟩
end
section
variable {B : Bs} {K : PySem.W.Frag}
theorem snd_all (hK : B.K = K) : SndL B (rAll K) gAll := fun xs ds G H Q s r q => by
  subst hK
  match ds, r, q with
  | [.lst zs], r, ⟨ns, e, q⟩ =>
    obtain ⟨v, rfl, h⟩ := rep1 r
    subst e
    cases h with
    | lst h r => exact ⟨_, ns, rfl, by rw [← r.of_bls]; exact SqL.of (s.same _ _ h), q _ G H (stay s) (.bl _)⟩
theorem snd_any (hK : B.K = K) : SndL B (rAny K) gAny := fun xs ds G H Q s r q => by
  subst hK
  match ds, r, q with
  | [.lst zs], r, ⟨ns, e, q⟩ =>
    obtain ⟨v, rfl, h⟩ := rep1 r
    subst e
    cases h with
    | lst h r => exact ⟨_, ns, rfl, by rw [← r.of_bls]; exact SqL.of (s.same _ _ h), q _ G H (stay s) (.bl _)⟩
theorem snd_tupOf (hK : B.K = K) : SndL B (fun xs H Q => ∃ p ys, xs = [.ref p] ∧ ((SqL K H p ys ∧ ∀ l, H l = none → Q (.ref l) (upd H l (.tup ys))) ∨ (SqT K H p ys ∧ Q (.ref p) H))) gTupOf := fun xs ds G H Q s r q => by
  subst hK
  match ds, r, q with
  | [.lst zs], r, q =>
    obtain ⟨v, rfl, h⟩ := rep1 r
    cases h with
    | @lst a ys ds h r =>
      refine ⟨_, _, rfl, .inl ⟨SqL.of (s.same _ _ h), fun l hl => ?_⟩⟩
      have st := Step.new (o := .tup ys) s hl
      exact q _ _ _ st (.tup (.inl (.inl upd_same)) (RepAll.mono st.grow r))
  | [.tup zs], r, q =>
    obtain ⟨v, rfl, h⟩ := rep1 r
    cases h with
    | tup h r => exact ⟨_, _, rfl, .inr ⟨sameT s.same h, q _ G H (stay s) (.tup h r)⟩⟩
theorem snd_lstOf (hK : B.K = K) : SndLL B (fun xs H Q => ∃ p ys, xs = [.ref p] ∧ (SqL K H p ys ∨ SqT K H p ys) ∧ ∀ l, H l = none → Q (.ref l) (upd H l (.lst ys))) gLstOf := fun xs ds G H Q s r q => by
  subst hK
  match ds, r, q with
  | [.lst zs], r, q =>
    obtain ⟨v, rfl, h⟩ := rep1 r
    cases h with
    | lst h r => exact ⟨_, _, rfl, .inl (SqL.of (s.same _ _ h)), fun l hl => q l _ hl r⟩
  | [.tup zs], r, q =>
    obtain ⟨v, rfl, h⟩ := rep1 r
    cases h with
    | tup h r => exact ⟨_, _, rfl, .inr (sameT s.same h), fun l hl => q l _ hl r⟩
end
section
variable {X : Cx} {B : Bs} {p pos : Pos} {e : Expr} {es : List Expr} {fs : FA}
theorem de_len (hm : X.mg "len" = none) (ha : DA X B [e] fs) (hg : Gl X "len" := by rfl) (he : starEach [e] X.env = (false, eval e X.env) :: starEach [] X.env := by rfl) (hpl : (backTo pos (starEach [] X.env)).any (·.1) = false := by rfl) (hK : B.K = X.K := by rfl) :
    DE X B (.Call (.Name "len" p) [e] [] pos) (fCB gLen fs) := de_callB call_len (snd_len hK) hg hm PySem.boot_len ha (by decide) (by decide) he hpl
theorem de_intc (hm : X.mg "int" = none) (ha : DA X B [e] fs) (hg : Gl X "int" := by rfl) (he : starEach [e] X.env = (false, eval e X.env) :: starEach [] X.env := by rfl) (hpl : (backTo pos (starEach [] X.env)).any (·.1) = false := by rfl) :
    DE X B (.Call (.Name "int" p) [e] [] pos) (fCB gInt fs) := de_callTy call_int1 snd_int hg hm (by decide +kernel) ha (by decide) (by decide) he hpl
theorem de_strc (hm : X.mg "str" = none) (ha : DA X B [e] fs) (hg : Gl X "str" := by rfl) (he : starEach [e] X.env = (false, eval e X.env) :: starEach [] X.env := by rfl) (hpl : (backTo pos (starEach [] X.env)).any (·.1) = false := by rfl) :
    DE X B (.Call (.Name "str" p) [e] [] pos) (fCB gStr fs) := de_callTy call_str_int snd_str hg hm (by decide +kernel) ha (by decide) (by decide) he hpl
theorem de_max {e2 : Expr} (hm : X.mg "max" = none) (ha : DA X B [e, e2] fs) (hc : X.calm = true := by rfl) (hg : Gl X "max" := by rfl) (he : starEach [e, e2] X.env = (false, eval e X.env) :: starEach [e2] X.env := by rfl) (hpl : (backTo pos (starEach [e2] X.env)).any (·.1) = false := by rfl) :
    DE X B (.Call (.Name "max" p) [e, e2] [] pos) (fCB gMax fs) := de_callB (call_max2 hc) snd_max hg hm (by decide +kernel) ha (by decide) (by decide) he hpl
theorem de_min {e2 : Expr} (hm : X.mg "min" = none) (ha : DA X B [e, e2] fs) (hc : X.calm = true := by rfl) (hg : Gl X "min" := by rfl) (he : starEach [e, e2] X.env = (false, eval e X.env) :: starEach [e2] X.env := by rfl) (hpl : (backTo pos (starEach [e2] X.env)).any (·.1) = false := by rfl) :
    DE X B (.Call (.Name "min" p) [e, e2] [] pos) (fCB gMin fs) := de_callB (call_min2 hc) snd_min hg hm (by decide +kernel) ha (by decide) (by decide) he hpl
theorem de_abs (hm : X.mg "abs" = none) (ha : DA X B [e] fs) (hg : Gl X "abs" := by rfl) (he : starEach [e] X.env = (false, eval e X.env) :: starEach [] X.env := by rfl) (hpl : (backTo pos (starEach [] X.env)).any (·.1) = false := by rfl) :
    DE X B (.Call (.Name "abs" p) [e] [] pos) (fCB gAbs fs) := de_callB call_abs snd_abs hg hm (by decide +kernel) ha (by decide) (by decide) he hpl
theorem de_ord (hm : X.mg "ord" = none) (ha : DA X B [e] fs) (hg : Gl X "ord" := by rfl) (he : starEach [e] X.env = (false, eval e X.env) :: starEach [] X.env := by rfl) (hpl : (backTo pos (starEach [] X.env)).any (·.1) = false := by rfl) :
    DE X B (.Call (.Name "ord" p) [e] [] pos) (fCB gOrd fs) := de_callB call_ord snd_ord hg hm (by decide +kernel) ha (by decide) (by decide) he hpl
theorem de_sum (hm : X.mg "sum" = none) (ha : DA X B [e] fs) (hc : X.calm = true := by rfl) (hg : Gl X "sum" := by rfl) (he : starEach [e] X.env = (false, eval e X.env) :: starEach [] X.env := by rfl) (hpl : (backTo pos (starEach [] X.env)).any (·.1) = false := by rfl) (hK : B.K = X.K := by rfl) :
    DE X B (.Call (.Name "sum" p) [e] [] pos) (fCB gSum fs) := de_callB (cr_sum hc) (snd_sum hK) hg hm (by decide +kernel) ha (by decide) (by decide) he hpl
theorem de_all (hm : X.mg "all" = none) (ha : DA X B [e] fs) (hc : X.calm = true := by rfl) (hg : Gl X "all" := by rfl) (he : starEach [e] X.env = (false, eval e X.env) :: starEach [] X.env := by rfl) (hpl : (backTo pos (starEach [] X.env)).any (·.1) = false := by rfl) (hK : B.K = X.K := by rfl) :
    DE X B (.Call (.Name "all" p) [e] [] pos) (fCB gAll fs) := de_callB (cr_all hc) (snd_all hK) hg hm (by decide +kernel) ha (by decide) (by decide) he hpl
theorem de_any (hm : X.mg "any" = none) (ha : DA X B [e] fs) (hc : X.calm = true := by rfl) (hg : Gl X "any" := by rfl) (he : starEach [e] X.env = (false, eval e X.env) :: starEach [] X.env := by rfl) (hpl : (backTo pos (starEach [] X.env)).any (·.1) = false := by rfl) (hK : B.K = X.K := by rfl) :
    DE X B (.Call (.Name "any" p) [e] [] pos) (fCB gAny fs) := de_callB (cr_any hc) (snd_any hK) hg hm (by decide +kernel) ha (by decide) (by decide) he hpl
theorem de_tupOf (hm : X.mg "tuple" = none) (ha : DA X B [e] fs) (hg : Gl X "tuple" := by rfl) (he : starEach [e] X.env = (false, eval e X.env) :: starEach [] X.env := by rfl) (hpl : (backTo pos (starEach [] X.env)).any (·.1) = false := by rfl) (hK : B.K = X.K := by rfl) :
    DE X B (.Call (.Name "tuple" p) [e] [] pos) (fCB gTupOf fs) := de_callTy call_tuple_of (snd_tupOf hK) hg hm (by decide +kernel) ha (by decide) (by decide) he hpl
theorem do_lstOf (hm : X.mg "list" = none) (ha : DA X B [e] fs) (hg : Gl X "list" := by rfl) (he : starEach [e] X.env = (false, eval e X.env) :: starEach [] X.env := by rfl) (hpl : (backTo pos (starEach [] X.env)).any (·.1) = false := by rfl) (hK : B.K = X.K := by rfl) :
    DO X B (.Call (.Name "list" p) [e] [] pos) (fCBL gLstOf fs) := do_callTy call_list_of (snd_lstOf hK) hg hm (by decide +kernel) ha (by decide) (by decide) he hpl
theorem de_gcd {e2 : Expr} (hm : X.mg "gcd" = some (.builtin "math.gcd")) (ha : DA X B [e, e2] fs) (hg : Gl X "gcd" := by rfl) (he : starEach [e, e2] X.env = (false, eval e X.env) :: starEach [e2] X.env := by rfl) (hpl : (backTo pos (starEach [e2] X.env)).any (·.1) = false := by rfl) : DE X B (.Call (.Name "gcd" p) [e, e2] [] pos) (fCB gGcd fs) :=
  ⟨peImp (pe_callBfun cr_gcd hg hm ha.pa (by decide) he hpl) fun _ _ _ => lift_cb snd_gcd⟩
end

/-! ### isinstance -/
inductive Ty where
  | int | bool | str | list | tuple | dict
def Ty.name : Ty → String
  | .int => "int" | .bool => "bool" | .str => "str" | .list => "list" | .tuple => "tuple" | .dict => "dict"
def isB : Ty → D → Bool
  | .int, .int _ => true | .int, .bl _ => true
  | .bool, .bl _ => true
  | .str, .str _ => true
  | .list, .lst _ => true | .list, .pool => true | .list, .scr _ => true | .list, .adr _ => true
  | .tuple, .tup _ => true
  | .dict, .dct => true
  | _, _ => false
def tyN : D → String
  | .non => "NoneType" | .bl _ => "bool" | .int _ => "int" | .str _ => "str" | .lst _ => "list" | .tup _ => "tuple" | .dct => "dict" | .pool => "list" | .scr _ => "list" | .adr _ => "list"
inductive Kd where
  | non | bl | int | str | lst | tup | dct | pool
def Kd.name : Kd → String
  | .non => "NoneType" | .bl => "bool" | .int => "int" | .str => "str" | .lst => "list" | .tup => "tuple" | .dct => "dict" | .pool => "list"
def isK : Ty → Kd → Bool
  | .int, .int => true | .int, .bl => true
  | .bool, .bl => true
  | .str, .str => true
  | .list, .lst => true | .list, .pool => true
  | .tuple, .tup => true
  | .dict, .dct => true
  | _, _ => false
theorem kit_isK (T : Ty) (k : Kd) : kitB k.name T.name = some (isK T k) := by
  cases T <;> cases k <;> decide +kernel
theorem kit_isB (T : Ty) (d : D) : kitB (tyN d) T.name = some (isB T d) := by
  cases d with
  | non => cases T <;> exact kit_isK _ .non
  | bl b => cases T <;> exact kit_isK _ .bl
  | int b => cases T <;> exact kit_isK _ .int
  | str b => cases T <;> exact kit_isK _ .str
  | lst b => cases T <;> exact kit_isK _ .lst
  | tup b => cases T <;> exact kit_isK _ .tup
  | dct => cases T <;> exact kit_isK _ .dct
  | pool => cases T <;> exact kit_isK _ .pool
  | scr b => cases T <;> exact kit_isK _ .lst
  | adr b => cases T <;> exact kit_isK _ .lst
theorem Rep.tyx {K : PySem.W.Frag} {pa : Option Addr} {G H : Hp} {v : V} {d : D} (s : Same G H) (pl : PoolOk pa G H) (r : Rep K pa G v d) : TyX K H v (.type (tyN d)) := by
  cases r with
  | non => exact .base .non
  | bl b => exact .base (.bl b)
  | int i => exact .base (.int i)
  | str x => exact .base (.str x)
  | lst h r => exact .base (.lst (s _ _ h))
  | tup h r =>
    rcases h with (h | ⟨o, h⟩) | ⟨o, its, n, hk, hc, _⟩
    · exact .base (.tup (s _ _ h))
    · exact .fTuple (s _ _ h)
    · exact .kTuple hk hc
  | dct h => exact .base (.dK (s _ _ h))
  | pool h =>
    obtain ⟨_, pl, h2, _⟩ := pl _ h
    exact .base (.lst h2)
  | adr h => exact .base (.lst (s _ _ h))
  | scr h r =>
    rcases h with (h | ⟨o, h⟩) | ⟨o, its, n, hk, hc, _⟩
    · exact .base (.lst (s _ _ h))
    · exact .base (.frz (s _ _ h))
    · exact .kList hk hc
def gIsi (T : Ty) : F1 := ⟨fun d Q => Q (.bl (isB T d)), fun h q => h _ q⟩
section
variable {X : Cx} {B : Bs} {p p2 p3 pos : Pos} {e : Expr} {fe : FE}
theorem de_isi (T : Ty) {t : Str} (hm : X.mg "isinstance" = none) (hmT : X.mg t = none) (he : DE X B e fe) (hvT : bootBuiltins t = some (.type T.name) := by decide +kernel) (hg : Gl X "isinstance" := by rfl) (hgT : Gl X t := by rfl) (hnT : t ≠ "__name__" := by decide) (hdT : (t == ("__debug__" : Str)) = false := by decide)
    (hs : starEach [e, .Name t p2] X.env = (false, eval e X.env) :: starEach [.Name t p2] X.env := by rfl) (hs2 : starEach [.Name t p2] X.env = (false, eval (.Name t p2) X.env) :: starEach [] X.env := by rfl) (hpl : (backTo pos (starEach [.Name t p2] X.env)).any (·.1) = false := by rfl) (hK : B.K = X.K := by rfl) :
    DE X B (.Call (.Name "isinstance" p) [e, .Name t p2] [] pos) (fUn (gIsi T) fe) := by
  have ht : PE X (.Name t p2) (tC (.ty T.name)) := pe_bltn (v := .ty T.name) hgT hmT hvT rfl hnT hdT
  refine ⟨peImp (pe_callB call_isi hg hm (by decide +kernel) (pa_cons he.pe (pa_cons ht pa_nil hs2) hs) (by decide) (by decide) hs hpl) fun σ H Q h => ?_⟩
  refine lift_un (r := fun x H Q => rIsi X.K [x, .ty T.name] H Q) (fun x d G H Q s r q => ?_) h
  exact ⟨x, .ty T.name, .type (tyN d), .type T.name, isB T d, rfl, .ty _, hK ▸ r.tyx s.same s.pool, kit_ty (kit_isB T d), q _ G H (stay s) (.bl _)⟩
end

/-! ### what a def promises over data -/
structure DSp where
  run : EX → List D → (D → Prop) → Prop
  mono : ∀ {ex ex' : EX} {ds : List D} {Q Q' : D → Prop}, (∀ c, ex c → ex' c) → (∀ d, Q d → Q' d) → run ex ds Q → run ex' ds Q'
def spD (K : PySem.W.Frag) (φ : DSp) : Sp := fun vs H Q E => ∃ G pa ds, PoolOk pa G H ∧ Same G H ∧ RepAll K pa G vs ds ∧
  φ.run (fun c => ∀ G' H', Step pa G H G' H' → E (.ref c) none H') ds fun d => ∀ v G' H', Step pa G H G' H' → Rep K pa G' v d → Q v H'
/-- the arguments told, what comes back, what is raised -/
def gSp {A : Type} (dom : A → List D) (res : A → D → Prop) (exc : A → Addr → Prop := fun _ _ => False) : DSp where
  run := fun ex ds Q => ∃ a, ds = dom a ∧ (∀ d, res a d → Q d) ∧ ∀ c, exc a c → ex c
  mono := fun he h ⟨a, h1, h2, h3⟩ => ⟨a, h1, fun d r => h d (h2 d r), fun c r => he c (h3 c r)⟩
structure DFn (P : Program) (w : World) (K : PySem.W.Frag) (mg : Str → Option Value) (base : Heap) (k : Nat) (x : Str) (ps : List Str) (φ : DSp) : Prop where
  ex : ∃ f fd, FnOk P w K mg base (L2.CX P w) k f fd ps (spD K φ) ∧ mg x = some (.ref f) ∧ PySem.W.keepIn K (.ref f) = true ∧ Binds K fd ps []
def fCall (φ : DSp) (fs : FA) : FE := ⟨fun ex τ Q => fs.run ex τ fun ds τ1 => φ.run (fun _ => False) ds fun d => Q d τ1, fun he h q => fs.mono he (fun _ _ k => φ.mono (fun _ z => z) (fun _ => h _ _) k) q⟩
def fCallX (φ : DSp) (fs : FA) : FE := ⟨fun ex τ Q => fs.run ex τ fun ds τ1 => φ.run ex ds fun d => Q d τ1, fun he h q => fs.mono he (fun _ _ k => φ.mono he (fun _ => h _ _) k) q⟩
theorem SB.trans {B : Bs} {G H G' H' : Hp} (s : SB B G H) (t : Step B.pa G H G' H') : SB B G' H' := s.step t
section
variable {X : Cx} {B : Bs} {p pos : Pos} {e : Expr} {es : List Expr} {fs : FA} {x : Str} {k : Nat} {ps : List Str} {φ : DSp}
theorem de_call (F : DFn X.prog X.w X.K X.mg X.base k x ps φ) (hr : Room k X.A) (ha : DA X B (e :: es) fs) (hg : Gl X x := by rfl) (hdb : (x == ("__debug__" : Str)) = false := by decide) (he : starEach (e :: es) X.env = (false, eval e X.env) :: starEach es X.env := by rfl)
    (hpl : (backTo pos (starEach es X.env)).any (·.1) = false := by rfl) (hK : B.K = X.K := by rfl) : DE X B (.Call (.Name x p) (e :: es) [] pos) (fCall φ fs) := by
  obtain ⟨f, fd, F, hm, hk, hb⟩ := F.ex
  refine ⟨peImp (pe_call F hr hg hm hk hb .nil passL ha.pa hdb he hpl) fun σ H Q => ?_⟩
  rintro ⟨G, C, Θ, hf, s, q⟩
  refine ⟨G, C, Θ, hf, s, fs.mono (fun _ h => h) (fun ds τ1 q vs G1 H1 C1 h1 h2 s1 r1 => ?_) q⟩
  show spD X.K φ (vs ++ []) H1 Q E0
  rw [List.append_nil]
  exact ⟨G1, B.pa, ds, s1.sb.pool, s1.sb.same, hK ▸ r1, φ.mono (fun _ z => z.elim) (fun d k v G' H' t r => k v G' H' C1 h1 h2 (s1.step t) (hK ▸ r)) q⟩
/-- a call that may raise -/
theorem de_callX (F : DFn X.prog X.w X.K X.mg X.base k x ps φ) (hr : Room k X.A) (tk : Takes X (fun cls d _ H => B.ew cls d H)) (ha : DA X B (e :: es) fs) (hg : Gl X x := by rfl) (hdb : (x == ("__debug__" : Str)) = false := by decide) (he : starEach (e :: es) X.env = (false, eval e X.env) :: starEach es X.env := by rfl)
    (hpl : (backTo pos (starEach es X.env)).any (·.1) = false := by rfl) (hK : B.K = X.K := by rfl) : DE X B (.Call (.Name x p) (e :: es) [] pos) (fCallX φ fs) := by
  obtain ⟨f, fd, F, hm, hk, hb⟩ := F.ex
  refine ⟨peImp (pe_callS F hr hg hm hk hb (fun σ => passAt tk σ) ha.pa hdb he hpl) fun σ H Q => ?_⟩
  rintro ⟨G, C, Θ, hf, s, q⟩
  refine ⟨G, C, Θ, hf, s, fs.mono (fun _ h => h) (fun ds τ1 q vs G1 H1 C1 h1 h2 s1 r1 => ?_) q⟩
  exact ⟨G1, B.pa, ds, s1.sb.pool, s1.sb.same, hK ▸ r1, φ.mono (fun c z G' H' t => z G' H' (s1.sb.step t)) (fun d k v G' H' t r => k v G' H' C1 h1 h2 (s1.step t) (hK ▸ r)) q⟩
end
end DL
/-! The data layer: targets, what is walked, comprehensions. -/
namespace DL
open PySem PySem.Spec PyProof.Rows L2

/-! ### targets -/
structure FG where
  slots : List Nat
  run : D → Tau → (Tau → Prop) → Prop
  mono : ∀ {d : D} {τ : Tau} {Q Q' : Tau → Prop}, (∀ t, Q t → Q' t) → run d τ Q → run d τ Q'
structure FGs where
  slots : List Nat
  run : List D → Tau → (Tau → Prop) → Prop
  mono : ∀ {ds : List D} {τ : Tau} {Q Q' : Tau → Prop}, (∀ t, Q t → Q' t) → run ds τ Q → run ds τ Q'
def liftG (B : Bs) (g : FG) : TG := fun v σ H Q => ∃ G C Θ d, Fits C σ ∧ SR B G H C Θ ∧ Rep B.K B.pa G v d ∧ g.run d (sls C) fun τ' => ∀ G' H' C' σ', Fits C' σ' → sls C' = τ' → SR B G' H' C' Θ → (∀ vs : List Nat, (∀ i ∈ g.slots, i ∈ vs) → wipe σ' vs = wipe σ vs) → Q σ' H'
def liftGs (B : Bs) (g : FGs) : TGs := fun ws σ H Q => ∃ G C Θ ds, Fits C σ ∧ SR B G H C Θ ∧ RepAll B.K B.pa G ws ds ∧ g.run ds (sls C) fun τ' => ∀ G' H' C' σ', Fits C' σ' → sls C' = τ' → SR B G' H' C' Θ → (∀ vs : List Nat, (∀ i ∈ g.slots, i ∈ vs) → wipe σ' vs = wipe σ vs) → Q σ' H'
structure DG (X : Cx) (B : Bs) (e : Expr) (g : FG) : Prop where
  pg : PG X e (liftG B g)
structure DGs (X : Cx) (B : Bs) (es : List Expr) (g : FGs) : Prop where
  pg : PGs X es (liftGs B g)
def fgName (i : Nat) : FG := ⟨[i], fun d τ Q => Q (τ.set i (some (.sh d))), fun h q => h _ q⟩
def fgNil : FGs := ⟨[], fun ds τ Q => ds = [] ∧ Q τ, fun h q => ⟨q.1, h _ q.2⟩⟩
def fgCons (g : FG) (r : FGs) : FGs := ⟨g.slots ++ r.slots, fun ds τ Q => match ds with
    | d :: ds => g.run d τ fun τ1 => r.run ds τ1 Q
    | [] => False, fun {ds τ Q Q'} h q => by cases ds with
      | nil => exact q
      | cons d ds => exact g.mono (fun _ k => r.mono h k) q⟩
def fgTup (n : Nat) (g : FGs) : FG := ⟨g.slots, fun d τ Q => match d with
    | .tup ds => ds.length = n ∧ g.run ds τ Q
    | _ => False, fun {d τ Q Q'} h q => by cases d <;> first | exact ⟨q.1, g.mono h q.2⟩ | exact q⟩
theorem wipe_set {σ : L2.St} {i : Nat} {x : Option V} : ∀ {vs : List Nat}, i ∈ vs → wipe (σ.set i x) vs = wipe σ vs
  | [], h => absurd h (by simp)
  | v :: vs, h => by
    unfold wipe
    by_cases hi : i ∈ vs
    · rw [wipe_set hi]
    · have e : i = v := by rcases List.mem_cons.mp h with h | h; exact h; exact (hi h).elim
      subst e
      have k : ∀ ws : List Nat, i ∉ ws → wipe (σ.set i x) ws = (wipe σ ws).set i x := fun ws => by
        induction ws with
        | nil => intro _; rfl
        | cons w ws ih =>
          intro hw
          simp only [List.mem_cons, not_or] at hw
          unfold wipe
          rw [ih hw.2, List.set_comm _ _ hw.1]
      rw [k vs hi, List.set_set]
section
variable {X : Cx} {B : Bs} {pos : Pos} {e : Expr} {es : List Expr} {g : FG} {gs : FGs}
theorem dg_name {i : Nat} {x : Str} (hN : X.N.Nodup) (hi : X.N[i]? = some x) (hx : Loc X.env.scope x) (hf : X.fn x = true ∨ X.env.scope.names.lookup x = some .local := by first | exact .inl rfl | exact .inr rfl | assumption) : DG X B (.Name x pos) (fgName i) := by
  refine ⟨⟨fun pins s σ H v u Q I r h => (pg_name hN hi hx hf).run pins s σ H v u Q I r ?_⟩⟩
  obtain ⟨G, C, Θ, d, hft, s', rp, q⟩ := h
  have hlt : i < C.length := by rw [hft.1, I.len]; exact (List.getElem?_eq_some_iff.mp hi).1
  exact q G H (C.set i (some (v, .sh d))) _ hft.put sls_set ((s'.push rp).store hlt) fun vs hv => wipe_set (hv i (by simp [fgName]))
theorem dgs_nil : DGs X B [] fgNil := by
  refine ⟨⟨fun pins s σ H vs us Q I r h => pgs_nil.run pins s σ H vs us Q I r ?_⟩⟩
  obtain ⟨G, C, Θ, ds, hft, s', rp, e, q⟩ := h
  subst e
  cases rp
  exact ⟨rfl, q G H C σ hft rfl s' fun _ _ => rfl⟩
theorem dgs_cons (h1 : DG X B e g) (h2 : DGs X B es gs) (hs : (assignEach (e :: es) X.env).map (·.2) = assign e X.env :: (assignEach es X.env).map (·.2) := by rfl) : DGs X B (e :: es) (fgCons g gs) := by
  refine ⟨⟨fun pins s σ H vs us Q I r h => (pgs_cons h1.pg h2.pg hs).run pins s σ H vs us Q I r ?_⟩⟩
  obtain ⟨G, C, Θ, ds, hft, s', rp, q⟩ := h
  cases rp with
  | nil => exact False.elim q
  | @cons v vs d ds r1 r2 =>
    refine ⟨v, vs, rfl, G, C, Θ ++ (vs.zip ds).map (fun p => some (p.1, Sl.sh p.2)), d, hft, ?_, r1, g.mono (fun τ1 q G1 H1 C1 σ1 k1 k2 s1 w1 => ?_) q⟩
    · have k : ∀ {ws : List V} {es : List D} {Ξ : Tmp}, RepAll B.K B.pa G ws es → SR B G H C Ξ → SR B G H C (Ξ ++ (ws.zip es).map (fun p => some (p.1, Sl.sh p.2))) := fun {ws es} => by
        intro Ξ r
        induction r using RepAll.rec (motive_1 := fun _ _ _ => True) generalizing Ξ with
        | nil => intro s; rw [List.zip_nil_left, List.map_nil, List.append_nil]; exact s
        | cons r t _ ih =>
          intro s
          rw [List.zip_cons_cons, List.map_cons, List.append_cons]
          exact ih (s.push r)
        | _ => trivial
      exact k r2 s'
    · have k : ∀ {ws : List V} {es : List D}, RepAll B.K B.pa G ws es → (∀ p ∈ ws.zip es, Rep B.K B.pa G1 p.1 p.2) → RepAll B.K B.pa G1 ws es := fun {ws es} r => by
        induction r using RepAll.rec (motive_1 := fun _ _ _ => True) with
        | nil => intro _; exact .nil
        | cons r t _ ih => intro h; exact .cons (h _ (by rw [List.zip_cons_cons]; exact List.mem_cons_self)) (ih fun p hp => h p (by rw [List.zip_cons_cons]; exact List.mem_cons_of_mem _ hp))
        | _ => trivial
      have r3 : RepAll B.K B.pa G1 vs ds := k r2 fun p hp => s1.tmp (p := (p.1, .sh p.2)) (List.mem_append_right _ (List.mem_map.mpr ⟨p, hp, rfl⟩))
      refine ⟨G1, C1, Θ, ds, k1, s1.pop, r3, gs.mono (fun τ2 q G2 H2 C2 σ2 m1 m2 s2 w2 => ?_) (k2 ▸ q)⟩
      exact q G2 H2 C2 σ2 m1 m2 s2 fun ws hw => (w2 ws fun i hi => hw i (List.mem_append_right _ hi)).trans (w1 ws fun i hi => hw i (List.mem_append_left _ hi))
theorem dg_tup {k : Nat} {n : Nat} (hc : X.calm = true) (h : DGs X B es gs) (hn : (assignEach es X.env).length = n := by rfl) (hst : (assignEach es X.env).findIdx? (·.1) = none := by rfl) (hK : B.K = X.K := by rfl) : DG X B (.Tuple es k pos) (fgTup n gs) := by
  refine ⟨⟨fun pins s σ H v u Q I r h' => (pg_tup hc h.pg hn hst).run pins s σ H v u Q I r ?_⟩⟩
  obtain ⟨G, C, Θ, d, hft, s', rp, q⟩ := h'
  cases rp with
  | @tup a xs ds h r' => exact ⟨a, xs, rfl, hK ▸ sameT s'.sb.same h, by rw [r'.length]; exact q.1, G, C, Θ, ds, hft, s', r', q.2⟩
  | _ => exact False.elim q
end

/-! ### what is walked -/
def WalksAt (B : Bs) (J : It) (ds : List D) (Ξ : Tmp) : Prop := ∀ i G H, SB B G H → (∀ p, some p ∈ Ξ → RS B G H p.1 p.2) →
  (i < ds.length → J.go i H) ∧ (ds.length ≤ i → J.stop i H) ∧ ∀ x H', i < ds.length → J.yld i H x H' → ∃ G' d, Step B.pa G H G' H' ∧ ds[i]? = some d ∧ Rep B.K B.pa G' x d
def liftI (B : Bs) (f : FA) : TI := fun σ H R => ∃ G C Θ, Fits C σ ∧ SR B G H C Θ ∧ f.run (exOf B) (sls C) fun ds τ' => ∀ J Ξ G' H' C', Fits C' σ → sls C' = τ' → SR B G' H' C' (Θ ++ Ξ) → WalksAt B J ds Ξ → R J H'
structure DI (X : Cx) (B : Bs) (tg e : Expr) (f : FA) : Prop where
  pi : PI X tg e (liftI B f)
theorem piImp {X : Cx} {tg e : Expr} {t t' : TI} (h : PI X tg e t) (i : ∀ σ H R, t' σ H R → t σ H R) : PI X tg e t' := ⟨fun pins s σ H R I q => h.run pins s σ H R I (i σ H R q)⟩
def iAny (K : PySem.W.Frag) (tl : TE) : TI := fun σ H R => tl σ H fun x H1 => ∃ a, x = .ref a ∧ (((∃ xs, SqL K H1 a xs) ∧ R (Itl K a) H1) ∨ ((∃ xs, SqT K H1 a xs) ∧ R (Itt K a) H1))
def fSeqI (fe : FE) : FA := ⟨fun ex τ Q => fe.run ex τ fun d τ1 => match d with
    | .lst ds => Q ds τ1
    | .tup ds => Q ds τ1
    | .scr ds => Q ds τ1
    | _ => False, fun he h q => fe.mono he (fun d _ k => by cases d <;> first | exact h _ _ k | exact k) q⟩
def rngD (lo : Int) (n : Nat) : List D := (List.range n).map fun (k : Nat) => .int (lo + (k : Int))
theorem rngD_get {lo : Int} {n i : Nat} (h : i < n) : (rngD lo n)[i]? = some (.int (lo + i)) := by
  unfold rngD; rw [List.getElem?_map, List.getElem?_range h]; rfl
theorem rngD_len {lo : Int} {n : Nat} : (rngD lo n).length = n := by unfold rngD; rw [List.length_map, List.length_range]
def fRng1 (fs : FA) : FA := ⟨fun ex τ Q => fs.run ex τ fun ds τ1 => match ds with
    | [.int j] => (-(2 ^ 62) ≤ j ∧ j < 2 ^ 62) ∧ Q (rngD 0 j.toNat) τ1
    | _ => False, fun he h q => fs.mono he (fun ds _ k => by
      match ds, k with
      | [.int j], k => exact ⟨k.1, h _ _ k.2⟩) q⟩
def fRng2 (fs : FA) : FA := ⟨fun ex τ Q => fs.run ex τ fun ds τ1 => match ds with
    | [.int i, .int j] => (-(2 ^ 62) ≤ i ∧ i < 2 ^ 62 ∧ -(2 ^ 62) ≤ j ∧ j < 2 ^ 62) ∧ Q (rngD i (j - i).toNat) τ1
    | _ => False, fun he h q => fs.mono he (fun ds _ k => by
      match ds, k with
      | [.int i, .int j], k => exact ⟨k.1, h _ _ k.2⟩) q⟩
def enumD (ds : List D) : List D := ds.mapIdx fun i d => .tup [.int i, d]
theorem enumD_get {ds : List D} {i : Nat} {d : D} (h : ds[i]? = some d) : (enumD ds)[i]? = some (.tup [.int i, d]) := by
  unfold enumD; rw [List.getElem?_mapIdx, h]; rfl
theorem enumD_len {ds : List D} : (enumD ds).length = ds.length := by unfold enumD; rw [List.length_mapIdx]
def fEnum (fs : FA) : FA := ⟨fun ex τ Q => fs.run ex τ fun ds τ1 => match ds with
    | [.lst xs] => Q (enumD xs) τ1
    | _ => False, fun he h q => fs.mono he (fun ds _ k => by
      match ds, k with
      | [.lst xs], k => exact h _ _ k) q⟩
def zipD (ds es : List D) : List D := List.zipWith (fun d e => .tup [d, e]) ds es
def fZip (fs : FA) : FA := ⟨fun ex τ Q => fs.run ex τ fun ds τ1 => match ds with
    | [.lst xs, .lst ys] => Q (zipD xs ys) τ1
    | _ => False, fun he h q => fs.mono he (fun ds _ k => by
      match ds, k with
      | [.lst xs, .lst ys], k => exact h _ _ k) q⟩
section
variable {B : Bs}
theorem seq_inj {K : PySem.W.Frag} {H : Hp} {a : Addr} {xs ys : List V} (h : H a = some (.lst xs)) (h' : H a = some (.lst ys)) : xs = ys := by
  rw [h] at h'; injection h' with h'; injection h'
end
section
variable {X : Cx} {B : Bs} {tg e e2 : Expr} {p pos : Pos} {fe : FE} {fs : FA}
theorem pi_any {tl : TE} (hl : PE X e tl) : PI X tg e (iAny X.K tl) := by
  refine ⟨fun pins s σ H R I h => ?_⟩
  refine thn (hl.run pins s σ H _ I h) fun v s1 ⟨x, H1, I1, r1, q1⟩ => ?_
  obtain ⟨a, e, ⟨⟨xs, hq⟩, q⟩ | ⟨⟨xs, hq⟩, q⟩⟩ := q1
  · subst e
    cases r1
    obtain ⟨its, rv, p, hz⟩ := I1.list hq
    refine wpAny_pyIter_list p.isList ?_
    refine ⟨s1.heap.objs.size, [s1.heap.objs.size], _, _, H1, rfl, I1.kept (t' := s1.toks) fun b o e => Heap.get?_push_of_some _ e, turn_list a _, ⟨_, Heap.get?_push_size _ rfl, rfl, rfl⟩, fun b hb => ?_, q⟩
    have e : b = s1.heap.objs.size := by simpa using hb
    subst e
    exact I1.fpOk (Nat.le_refl _) (I1.hok.fresh (Nat.le_refl _))
  · subst e
    cases r1
    obtain ⟨its, rv, p, hz⟩ := I1.tuple hq
    refine wpAny_pyIter_tuple (show s1.heap.IsTuple a its.toArray from p) ?_
    refine ⟨s1.heap.objs.size, [s1.heap.objs.size], _, _, H1, rfl, I1.kept (t' := s1.toks) fun b o e => Heap.get?_push_of_some _ e, turn_tuple a _, ⟨_, Heap.get?_push_size _ rfl, rfl, rfl⟩, fun b hb => ?_, q⟩
    have e : b = s1.heap.objs.size := by simpa using hb
    subst e
    exact I1.fpOk (Nat.le_refl _) (I1.hok.fresh (Nat.le_refl _))
end

section
variable {X : Cx} {B : Bs} {tg e e2 : Expr} {p pos : Pos} {fe : FE} {fs : FA}
theorem walks_list {K : PySem.W.Frag} (hK : B.K = K) {a : Addr} {ds : List D} : WalksAt B (Itl K a) ds [some (.ref a, .sh (.lst ds))] := fun i G H s r => by
  subst hK
  have h := r (.ref a, .sh (.lst ds)) (List.mem_singleton.mpr rfl)
  have h : Rep B.K B.pa G (.ref a) (.lst ds) := h
  cases h with
  | @lst _ xs _ h ra =>
    have hS : SqL B.K H a xs := SqL.of (s.same _ _ h)
    refine ⟨fun hi => ?_, fun hi => ⟨xs, hS, by rw [ra.length]; exact hi⟩, fun x H' hi y => ?_⟩
    · have hi' : i < xs.length := by rw [ra.length]; exact hi
      exact ⟨xs, xs[i], hS, by simp [hi']⟩
    · obtain ⟨e, y⟩ := y
      subst e
      obtain ⟨d, h1, h2⟩ := ra.get (y xs hS)
      exact ⟨G, d, stay s, h1, h2⟩
theorem walks_tup {K : PySem.W.Frag} (hK : B.K = K) {a : Addr} {ds : List D} : WalksAt B (Itt K a) ds [some (.ref a, .sh (.tup ds))] := fun i G H s r => by
  subst hK
  have h := r (.ref a, .sh (.tup ds)) (List.mem_singleton.mpr rfl)
  have h : Rep B.K B.pa G (.ref a) (.tup ds) := h
  cases h with
  | @tup _ xs _ h ra =>
    have hS : SqT B.K H a xs := sameT s.same h
    refine ⟨fun hi => ?_, fun hi => ⟨xs, hS, by rw [ra.length]; exact hi⟩, fun x H' hi y => ?_⟩
    · have hi' : i < xs.length := by rw [ra.length]; exact hi
      exact ⟨xs, xs[i], hS, by simp [hi']⟩
    · obtain ⟨e, y⟩ := y
      subst e
      obtain ⟨d, h1, h2⟩ := ra.get (y xs hS)
      exact ⟨G, d, stay s, h1, h2⟩
theorem walks_scr {K : PySem.W.Frag} (hK : B.K = K) {a : Addr} {ds : List D} : WalksAt B (Itl K a) ds [some (.ref a, .sh (.scr ds))] := fun i G H s r => by
  subst hK
  have h := r (.ref a, .sh (.scr ds)) (List.mem_singleton.mpr rfl)
  have h : Rep B.K B.pa G (.ref a) (.scr ds) := h
  cases h with
  | @scr _ xs _ h ra =>
    have hS : SqL B.K H a xs := sameL s.same h
    refine ⟨fun hi => ?_, fun hi => ⟨xs, hS, by rw [ra.length]; exact hi⟩, fun x H' hi y => ?_⟩
    · have hi' : i < xs.length := by rw [ra.length]; exact hi
      exact ⟨xs, xs[i], hS, by simp [hi']⟩
    · obtain ⟨e, y⟩ := y
      subst e
      obtain ⟨d, h1, h2⟩ := ra.get (y xs hS)
      exact ⟨G, d, stay s, h1, h2⟩
theorem di_seq (he : DE X B e fe) (hK : B.K = X.K := by rfl) : DI X B tg e (fSeqI fe) := by
  refine ⟨piImp (pi_any he.pe) fun σ H R => ?_⟩
  rintro ⟨G, C, Θ, hf, s, q⟩
  refine ⟨G, C, Θ, hf, s, fe.mono (fun _ h => h) (fun d τ1 q v G' H' C' h1 h2 s' r => ?_) q⟩
  have r0 := r
  cases r with
  | @lst a xs ds h r => exact ⟨a, rfl, .inl ⟨⟨xs, SqL.of (s'.sb.same _ _ h)⟩, q (Itl X.K a) [some (.ref a, .sh (.lst ds))] G' H' C' h1 h2 (s'.push r0) (walks_list hK)⟩⟩
  | @scr a xs ds h r => exact ⟨a, rfl, .inl ⟨⟨xs, hK ▸ sameL s'.sb.same h⟩, q (Itl X.K a) [some (.ref a, .sh (.scr ds))] G' H' C' h1 h2 (s'.push r0) (walks_scr hK)⟩⟩
  | @tup a xs ds h r => exact ⟨a, rfl, .inr ⟨⟨xs, hK ▸ sameT s'.sb.same h⟩, q (Itt X.K a) [some (.ref a, .sh (.tup ds))] G' H' C' h1 h2 (s'.push r0) (walks_tup hK)⟩⟩
  | _ => exact False.elim q
theorem walks_rng {lo : Int} {n : Nat} : WalksAt B (Itr lo n) (rngD lo n) [] := fun i G H s r => by
  rw [rngD_len]
  refine ⟨fun h => h, fun h => h, fun x H' hi y => ?_⟩
  obtain ⟨e, y⟩ := y
  subst e
  have y : x = .int (lo + i) := y
  subst y
  exact ⟨G, _, stay s, rngD_get hi, .int _⟩
theorem di_rng1 (hm : X.mg "range" = none) (ha : DA X B [e] fs) (hg : Gl X "range" := by rfl) (hs : starEach [e] X.env = [(false, eval e X.env)] := by rfl) : DI X B tg (.Call (.Name "range" p) [e] [] pos) (fRng1 fs) := by
  refine ⟨piImp (pi_range1 hg hm ha.pa hs) fun σ H R => ?_⟩
  rintro ⟨G, C, Θ, hf, s, q⟩
  refine ⟨G, C, Θ, hf, s, fs.mono (fun _ h => h) (fun ds τ1 q vs G' H' C' h1 h2 s' r => ?_) q⟩
  match ds, q, r with
  | [.int j], q, r =>
    obtain ⟨v, rfl, r1⟩ := rep1 r
    cases r1
    exact ⟨j, rfl, q.1.1, q.1.2, q.2 _ [] G' H' C' h1 h2 (by rw [List.append_nil]; exact s') walks_rng⟩
theorem di_rng2 (hm : X.mg "range" = none) (ha : DA X B [e, e2] fs) (hg : Gl X "range" := by rfl) (hs : starEach [e, e2] X.env = [(false, eval e X.env), (false, eval e2 X.env)] := by rfl) (hs2 : starEach [e2] X.env = [(false, eval e2 X.env)] := by rfl) : DI X B tg (.Call (.Name "range" p) [e, e2] [] pos) (fRng2 fs) := by
  refine ⟨piImp (pi_range2 hg hm ha.pa hs hs2) fun σ H R => ?_⟩
  rintro ⟨G, C, Θ, hf, s, q⟩
  refine ⟨G, C, Θ, hf, s, fs.mono (fun _ h => h) (fun ds τ1 q vs G' H' C' h1 h2 s' r => ?_) q⟩
  match ds, q, r with
  | [.int i, .int j], q, r =>
    obtain ⟨v, w, rfl, r, r'⟩ := rep2 r
    cases r; cases r'
    exact ⟨i, j, rfl, q.1, q.2 _ [] G' H' C' h1 h2 (by rw [List.append_nil]; exact s') walks_rng⟩
theorem walks_enum {K : PySem.W.Frag} (hK : B.K = K) {a : Addr} {ds : List D} : WalksAt B (Ite K a) (enumD ds) [some (.ref a, .sh (.lst ds))] := fun i G H s r => by
  subst hK
  have h := r (.ref a, .sh (.lst ds)) (List.mem_singleton.mpr rfl)
  have h : Rep B.K B.pa G (.ref a) (.lst ds) := h
  rw [enumD_len]
  cases h with
  | @lst _ xs _ h r =>
    have hS : SqL B.K H a xs := SqL.of (s.same _ _ h)
    refine ⟨fun hi => ?_, fun hi => ⟨xs, hS, by rw [r.length]; exact hi⟩, fun x H' hi y => ?_⟩
    · have hi' : i < xs.length := by rw [r.length]; exact hi
      exact ⟨xs, xs[i], hS, by simp [hi']⟩
    · obtain ⟨T, z, e, hT, e2, y⟩ := y
      subst e e2
      obtain ⟨d, h1, h2⟩ := r.get (y xs hS)
      have st := Step.new (o := .tup [.int (i : Nat), z]) s hT
      exact ⟨_, _, st, enumD_get h1, .tup (.inl (.inl upd_same)) (.cons (.int _) (.cons (h2.mono st.grow) .nil))⟩
theorem di_enum {elts : List Expr} {kk : Nat} {tpos : Pos} (hm : X.mg "enumerate" = none) (ha : DA X B [e] fs) (hg : Gl X "enumerate" := by rfl) (hs : starEach [e] X.env = [(false, eval e X.env)] := by rfl) (hK : B.K = X.K := by rfl) :
    DI X B (.Tuple elts kk tpos) (.Call (.Name "enumerate" p) [e] [] pos) (fEnum fs) := by
  refine ⟨piImp (pi_enum hg hm ha.pa hs) fun σ H R => ?_⟩
  rintro ⟨G, C, Θ, hf, s, q⟩
  refine ⟨G, C, Θ, hf, s, fs.mono (fun _ h => h) (fun ds τ1 q vs G' H' C' h1 h2 s' r => ?_) q⟩
  match ds, q, r with
  | [.lst xs], q, r =>
    obtain ⟨v, rfl, r0⟩ := rep1 r
    have r1 := r0
    cases r1 with
    | @lst a ys _ h r => exact ⟨a, ys, rfl, SqL.of (s'.sb.same _ _ h), q (Ite X.K a) [some (.ref a, .sh (.lst xs))] G' H' C' h1 h2 (s'.push r0) (walks_enum hK)⟩
theorem zipD_get {ds es : List D} {i : Nat} {d e : D} (h : ds[i]? = some d) (h' : es[i]? = some e) : (zipD ds es)[i]? = some (.tup [d, e]) := by
  unfold zipD; rw [List.getElem?_zipWith, h, h']
theorem zipD_len {ds es : List D} : (zipD ds es).length = min ds.length es.length := by unfold zipD; rw [List.length_zipWith]
theorem walks_zip {K : PySem.W.Frag} (hK : B.K = K) {a b : Addr} {ds es : List D} : WalksAt B (Itz K a b) (zipD ds es) [some (.ref a, .sh (.lst ds)), some (.ref b, .sh (.lst es))] := fun i G H s r => by
  subst hK
  have h : Rep B.K B.pa G (.ref a) (.lst ds) := r (.ref a, .sh (.lst ds)) List.mem_cons_self
  have h' : Rep B.K B.pa G (.ref b) (.lst es) := r (.ref b, .sh (.lst es)) (List.mem_cons_of_mem _ List.mem_cons_self)
  rw [zipD_len]
  cases h with
  | @lst _ xs _ h r =>
    cases h' with
    | @lst _ ys _ h' r' =>
      have hS : SqL B.K H a xs := SqL.of (s.same _ _ h)
      have hS' : SqL B.K H b ys := SqL.of (s.same _ _ h')
      have l1 := r.length
      have l2 := r'.length
      refine ⟨fun hi => ?_, fun hi => ⟨xs, ys, hS, hS', by omega⟩, fun x H' hi y => ?_⟩
      · have hi' : i < xs.length := by omega
        have hi2 : i < ys.length := by omega
        exact ⟨xs, ys, xs[i], ys[i], hS, hS', by simp [hi'], by simp [hi2]⟩
      · obtain ⟨T, z, w, e, hT, e2, y, y'⟩ := y
        subst e e2
        obtain ⟨d, k1, k2⟩ := r.get (y xs hS)
        obtain ⟨d', k1', k2'⟩ := r'.get (y' ys hS')
        have st := Step.new (o := .tup [z, w]) s hT
        exact ⟨_, _, st, zipD_get k1 k1', .tup (.inl (.inl upd_same)) (.cons (k2.mono st.grow) (.cons (k2'.mono st.grow) .nil))⟩
theorem di_zip {elts : List Expr} {kk : Nat} {tpos : Pos} (hm : X.mg "zip" = none) (ha : DA X B [e, e2] fs) (hg : Gl X "zip" := by rfl) (hs : starEach [e, e2] X.env = (false, eval e X.env) :: starEach [e2] X.env := by rfl) (hpl : (backTo pos (starEach [e2] X.env)).any (·.1) = false := by rfl) (hK : B.K = X.K := by rfl) :
    DI X B (.Tuple elts kk tpos) (.Call (.Name "zip" p) [e, e2] [] pos) (fZip fs) := by
  refine ⟨piImp (pi_zip hg hm ha.pa hs hpl) fun σ H R => ?_⟩
  rintro ⟨G, C, Θ, hf, s, q⟩
  refine ⟨G, C, Θ, hf, s, fs.mono (fun _ h => h) (fun ds τ1 q vs G' H' C' h1 h2 s' r => ?_) q⟩
  match ds, q, r with
  | [.lst xs, .lst ys], q, r =>
    obtain ⟨v, w, rfl, r, r'⟩ := rep2 r
    have r0 := r
    have r0' := r'
    cases r with
    | @lst a vs _ h r =>
      cases r' with
      | @lst b ws _ h' r' =>
        exact ⟨a, b, vs, ws, rfl, SqL.of (s'.sb.same _ _ h), SqL.of (s'.sb.same _ _ h'), q (Itz X.K a b) [some (.ref a, .sh (.lst xs)), some (.ref b, .sh (.lst ys))] G' H' C' h1 h2 (by
          have := (s'.push r0).push r0'
          rw [List.append_assoc] at this; exact this) (walks_zip hK)⟩
/-- a text, sign by sign -/
def signD (x : Str) : List D := x.cps.toList.map fun c => .str ⟨#[c]⟩
def fStrI (fe : FE) : FA := ⟨fun ex τ Q => fe.run ex τ fun d τ1 => match d with
    | .str x => Q (signD x) τ1
    | _ => False, fun he h q => fe.mono he (fun d _ k => by cases d <;> first | exact h _ _ k | exact k) q⟩
theorem walks_str {x : Str} : WalksAt B (Its x) (signD x) [] := fun i G H s r => by
  have hl : (signD x).length = x.cps.size := by unfold signD; simp
  rw [hl]
  refine ⟨fun h => h, fun h => h, fun v H' hi y => ?_⟩
  obtain ⟨e, c, y, rfl⟩ := y
  subst e
  refine ⟨G, _, stay s, ?_, .str _⟩
  unfold signD
  rw [List.getElem?_map]
  have : x.cps.toList[i]? = some c := by rw [Array.getElem?_toList]; exact y
  rw [this]; rfl
theorem di_str (he : DE X B e fe) : DI X B tg e (fStrI fe) := by
  refine ⟨piImp (pi_str he.pe) fun σ H R => ?_⟩
  rintro ⟨G, C, Θ, hf, s, q⟩
  refine ⟨G, C, Θ, hf, s, fe.mono (fun _ h => h) (fun d τ1 q v G' H' C' h1 h2 s' r => ?_) q⟩
  cases r with
  | str x => exact ⟨x, rfl, q _ [] G' H' C' h1 h2 (by rw [List.append_nil]; exact s') walks_str⟩
  | _ => exact False.elim q
end

/-! ### comprehensions -/
def wipeT {α : Type} (t : List (Option α)) : List Nat → List (Option α)
  | [] => t
  | v :: vs => (wipeT t vs).set v none
def hideS : Option Sl → Option Sl
  | some (.sh d) => some (.sh d)
  | _ => none
def hideC : Cell → Cell
  | some (v, .sh d) => some (v, .sh d)
  | _ => none
def hide (τ : Tau) (own : List Nat) : Tau := wipeT (τ.map hideS) own
theorem wipeT_len {α : Type} {t : List (Option α)} : ∀ {vs : List Nat}, (wipeT t vs).length = t.length
  | [] => rfl
  | v :: vs => by unfold wipeT; rw [List.length_set, wipeT_len]
theorem wipeT_some {α : Type} {t : List (Option α)} {i : Nat} {x : α} : ∀ {vs : List Nat}, (wipeT t vs)[i]? = some (some x) → t[i]? = some (some x) ∧ i ∉ vs
  | [], h => ⟨h, by simp⟩
  | v :: vs, h => by
    unfold wipeT at h
    by_cases hi : v = i
    · subst hi
      by_cases hv : v < (wipeT t vs).length
      · rw [List.getElem?_set_self hv] at h; cases h
      · rw [List.getElem?_eq_none (by simpa using hv)] at h; cases h
    · rw [List.getElem?_set_ne hi] at h
      obtain ⟨h1, h2⟩ := wipeT_some h
      exact ⟨h1, by simp only [List.mem_cons, not_or]; exact ⟨fun e => hi e.symm, h2⟩⟩
theorem wipeT_map {α β : Type} (f : α → β) {t : List (Option α)} : ∀ {vs : List Nat}, (wipeT t vs).map (Option.map f) = wipeT (t.map (Option.map f)) vs
  | [] => rfl
  | v :: vs => by unfold wipeT; rw [List.map_set, wipeT_map]; rfl
theorem wipe_keeps {σ : L2.St} {i : Nat} {x : V} : ∀ {vs : List Nat}, σ[i]? = some (some x) → i ∉ vs → (wipe σ vs)[i]? = some (some x)
  | [], h, _ => h
  | v :: vs, h, n => by
    simp only [List.mem_cons, not_or] at n
    unfold wipe
    rw [List.getElem?_set_ne (Ne.symm n.1)]
    exact wipe_keeps h n.2
def hid (C : List Cell) (own : List Nat) : List Cell := wipeT (C.map hideC) own
theorem hid_get {C : List Cell} {own : List Nat} {i : Nat} {v : V} {s : Sl} (h : (hid C own)[i]? = some (some (v, s))) : (∃ d, s = .sh d) ∧ C[i]? = some (some (v, s)) ∧ i ∉ own := by
  obtain ⟨h1, h2⟩ := wipeT_some h
  rw [List.getElem?_map] at h1
  cases e : C[i]? with
  | none => rw [e] at h1; cases h1
  | some c =>
    rw [e] at h1
    match c, h1 with
    | some (w, .sh d), h1 =>
      injection h1 with h1; injection h1 with h1; injection h1 with h1 h1'
      subst h1 h1'
      exact ⟨⟨d, rfl⟩, rfl, h2⟩
theorem hid_fits {C : List Cell} {σ : L2.St} {own : List Nat} (f : Fits C σ) : Fits (hid C own) (wipe σ own) := by
  refine ⟨?_, fun i v s h => ?_⟩
  · unfold hid; rw [wipeT_len, List.length_map, wipe_length]; exact f.1
  · obtain ⟨_, h1, h2⟩ := hid_get h
    exact wipe_keeps (f.2 _ _ _ h1) h2
theorem hid_sls {C : List Cell} {own : List Nat} : sls (hid C own) = hide (sls C) own := by
  unfold sls hid hide
  rw [wipeT_map, List.map_map, List.map_map]
  congr 2
  funext c
  match c with
  | none => rfl
  | some (v, .sh d) => rfl
  | some (v, .ow d) => rfl
/-- the owners of L are found in L' -/
theorem Inj.via {L L' : List Cell} (h : Inj L') (f : Nat → Nat) (P : Nat → Prop) (hf : ∀ i v s, L[i]? = some (some (v, Sl.ow s)) → P i ∧ L'[f i]? = some (some (v, .ow s))) (inj : ∀ i j, P i → P j → i < L.length → j < L.length → f i = f j → i = j) : Inj L := fun i j v s s' h1 h2 =>
  inj i j (hf i v s h1).1 (hf j v s' h2).1 (List.getElem?_eq_some_iff.mp h1).1 (List.getElem?_eq_some_iff.mp h2).1 (h _ _ v s s' (hf i v s h1).2 (hf j v s' h2).2)
section
variable {B : Bs} {G H : Hp} {C Cb T : List Cell} {own : List Nat}
theorem SR.enter (s : SR B G H C T) : SR B G H (hid C own) (T ++ C) := by
  refine ⟨s.sb, fun p hp => ?_, ?_⟩
  · rcases List.mem_append.mp hp with h | h
    · obtain ⟨i, hi⟩ := List.getElem?_of_mem h
      obtain ⟨v, x⟩ := p
      obtain ⟨_, h1, _⟩ := hid_get hi
      exact s.rs _ (List.mem_append_left _ (List.mem_of_getElem? h1))
    · rcases List.mem_append.mp h with h | h
      · exact s.rs p (List.mem_append_right _ h)
      · exact s.rs p (List.mem_append_left _ h)
  · have hl : (hid C own).length = C.length := by unfold hid; rw [wipeT_len, List.length_map]
    refine s.inj.via (fun i => if i < C.length + T.length then i else i - (C.length + T.length)) (fun i => C.length ≤ i) (fun i v x h => ?_) (fun i j h1 h2 hi hj e => ?_)
    · by_cases h1 : i < C.length
      · rw [List.getElem?_append_left (by rw [hl]; exact h1)] at h
        obtain ⟨⟨d, e⟩, _⟩ := hid_get h
        cases e
      · refine ⟨by omega, ?_⟩
        rw [List.getElem?_append_right (by rw [hl]; omega), hl] at h
        by_cases h2 : i < C.length + T.length
        · rw [List.getElem?_append_left (by omega)] at h
          rw [if_pos h2, List.getElem?_append_right (by omega)]; exact h
        · rw [List.getElem?_append_right (by omega)] at h
          have e : i - C.length - T.length = i - (C.length + T.length) := by omega
          rw [e] at h
          rw [if_neg h2, List.getElem?_append_left (List.getElem?_eq_some_iff.mp h).1]; exact h
    · rw [List.length_append, List.length_append, hl] at hi hj
      split at e <;> split at e <;> omega
theorem SR.leave (s : SR B G H Cb (T ++ C)) : SR B G H C T := by
  refine ⟨s.sb, fun p hp => s.rs p (List.mem_append_right _ (List.mem_append.mpr (Or.comm.mp (List.mem_append.mp hp)))), ?_⟩
  refine s.inj.via (fun i => if i < C.length then Cb.length + T.length + i else Cb.length + (i - C.length)) (fun _ => True) (fun i v x h => ⟨trivial, ?_⟩) (fun i j _ _ hi hj e => ?_)
  · by_cases h1 : i < C.length
    · rw [List.getElem?_append_left h1] at h
      rw [if_pos h1, List.getElem?_append_right (by omega), List.getElem?_append_right (by omega)]
      have e : Cb.length + T.length + i - Cb.length - T.length = i := by omega
      rw [e]; exact h
    · rw [List.getElem?_append_right (by omega)] at h
      have hT := (List.getElem?_eq_some_iff.mp h).1
      rw [if_neg h1, List.getElem?_append_right (by omega)]
      have e : Cb.length + (i - C.length) - Cb.length = i - C.length := by omega
      rw [e, List.getElem?_append_left hT]; exact h
  · rw [List.length_append] at hi hj
    split at e <;> split at e <;> omega
theorem SR.flat (s : SR B G H C T) : SR B G H (C ++ T) [] := ⟨s.sb, fun p hp => s.rs p (by rw [List.append_nil] at hp; exact hp), by rw [List.append_nil]; exact s.inj⟩
theorem SR.unflat (s : SR B G H (C ++ T) []) : SR B G H C T := ⟨s.sb, fun p hp => s.rs p (by rw [List.append_nil]; exact hp), by have := s.inj; rw [List.append_nil] at this; exact this⟩
/-- the last temporary, a list, grows -/
theorem SR.grow {a : Addr} {ds : List D} {d : D} {v : V} {vs : List V} (s : SR B G H C (T ++ [some (.ref a, .ow ds)])) (hH : H a = some (.lst vs)) (r : Rep B.K B.pa G v d) :
    SR B G (upd H a (.lst (vs ++ [v]))) C (T ++ [some (.ref a, .ow (ds ++ [d]))]) := by
  obtain ⟨a', vs', e, _, _, _, h4, h5⟩ := s.last
  injection e with e; subst e
  rw [hH] at h4; injection h4 with h4; injection h4 with h4; subst h4
  have hk : (C ++ (T ++ [some (V.ref a, Sl.ow ds)]))[(C ++ T).length]? = some (some (.ref a, .ow ds)) := by
    rw [map_snoc, List.getElem?_append_right (Nat.le_refl _), Nat.sub_self]; rfl
  have s2 := (s.flat.write (i := (C ++ T).length) hk hH (h5.append (.cons r .nil)))
  have e2 : (C ++ (T ++ [some (V.ref a, Sl.ow ds)])).set (C ++ T).length (some (.ref a, .ow (ds ++ [d]))) = C ++ (T ++ [some (.ref a, .ow (ds ++ [d]))]) := by
    rw [map_snoc, map_snoc, List.set_append_right _ _ (Nat.le_refl _), Nat.sub_self]; rfl
  rw [e2] at s2
  exact s2.unflat
end
theorem wipe_idem {σ : L2.St} {vs : List Nat} : wipe (wipe σ vs) vs = wipe σ vs := by
  have k : ∀ us : List Nat, (∀ u ∈ us, u ∈ vs) → wipe (wipe σ us) vs = wipe σ vs := fun us => by
    induction us with
    | nil => intro _; rfl
    | cons u us ih =>
      intro h
      show wipe ((wipe σ us).set u none) vs = _
      rw [wipe_set (h u List.mem_cons_self)]
      exact ih fun w hw => h w (List.mem_cons_of_mem _ hw)
  exact k vs fun _ h => h
theorem SR.mid {B : Bs} {G H : Hp} {C Θ Ξ : List Cell} {x : Cell} (s : SR B G H C ((Θ ++ Ξ) ++ [x])) : SR B G H C (Θ ++ [x]) := by
  have e1 : C ++ ((Θ ++ Ξ) ++ [x]) = (C ++ Θ) ++ (Ξ ++ [x]) := by simp only [List.append_assoc]
  have e2 : C ++ (Θ ++ [x]) = (C ++ Θ) ++ [x] := by simp only [List.append_assoc]
  have h1 := s.rs
  have h2 := s.inj
  rw [e1] at h1 h2
  refine ⟨s.sb, fun p hp => ?_, ?_⟩
  · rw [e2] at hp
    rcases List.mem_append.mp hp with h | h
    · exact h1 p (List.mem_append_left _ h)
    · exact h1 p (List.mem_append_right _ (List.mem_append_right _ h))
  · rw [e2]
    refine h2.via (fun i => if i < (C ++ Θ).length then i else (C ++ Θ).length + Ξ.length) (fun _ => True) (fun i v y h => ⟨trivial, ?_⟩) (fun i j _ _ hi hj e => ?_)
    · by_cases hi : i < (C ++ Θ).length
      · rw [List.getElem?_append_left hi] at h
        rw [if_pos hi, List.getElem?_append_left hi]; exact h
      · rcases get_snoc h with h | ⟨e, h⟩
        · exact absurd (List.getElem?_eq_some_iff.mp h).1 hi
        · rw [if_neg hi, List.getElem?_append_right (by omega)]
          have e : (C ++ Θ).length + Ξ.length - (C ++ Θ).length = Ξ.length := by omega
          rw [e, List.getElem?_append_right (Nat.le_refl _), Nat.sub_self, h]; rfl
    · rw [List.length_append, List.length_singleton] at hi hj
      split at e <;> split at e <;> omega
def noEx : EX := fun _ => False
def fLc (own : List Nat) (fi : FA) (g : FG) (tt : FT) (te : FE) : FA := ⟨fun ex τ Q => fi.run ex τ fun ds τ1 => ∃ I : Nat → List D → Prop, I 0 [] ∧
    (∀ i d acc, ds[i]? = some d → I i acc → g.run d (hide τ1 own) fun τ2 => tt.run noEx τ2 fun b τ3 => if b = true then te.run noEx τ3 fun e _ => acc.length < sizeLine ∧ I (i + 1) (acc ++ [e]) else I (i + 1) acc) ∧
    ∀ acc, I ds.length acc → Q acc τ1,
  fun he h q => fi.mono he (fun _ _ ⟨I, h0, h1, h2⟩ => ⟨I, h0, h1, fun acc k => h _ _ (h2 acc k)⟩) q⟩
def fYes : FT := ⟨fun _ τ Q => Q true τ, fun _ h q => h _ _ q⟩
structure DTs (X : Cx) (B : Bs) (es : List Expr) (f : FT) : Prop where
  pt : PTs X es (liftT B f)
section
variable {X : Cx} {B : Bs} {c elt tg iter : Expr} {ifs : List Expr} {scope : Scope} {own : List (Str × Nat)} {pos : Pos} {fi : FA} {g : FG} {tt : FT} {te : FE}
theorem dts_nil : DTs X B [] fYes := by
  refine ⟨⟨fun pins s σ H Q I h => pts_nil.run pins s σ H Q I ?_⟩⟩
  obtain ⟨G, C, Θ, hf, s', q⟩ := h
  exact q G H C hf rfl s'
theorem dts_one (h : DT X B c tt) : DTs X B [c] tt := ⟨pts_one h.pt⟩
theorem lift_lc (hg : ∀ i ∈ g.slots, i ∈ own.map (·.2)) {σ : L2.St} {H : Hp} {Q : VK} (h : liftO B (fLc (own.map (·.2)) fi g tt te) σ H Q) : tLc (liftI B fi) (liftG B g) (liftT B tt) (liftE B te) (own.map (·.2)) σ H Q := by
  obtain ⟨G, C, Θ, hf, s, q⟩ := h
  refine ⟨G, C, Θ, hf, s, fi.mono (fun _ h => h) (fun ds τ1 q J Ξ G1 H1 C1 k1 k2 s1 hw => ?_) q⟩
  obtain ⟨I, i0, turn, fin⟩ := q
  intro L hL
  subst k2
  refine ⟨fun i m H => m = ds.length - i ∧ i ≤ ds.length ∧ ∃ G acc, SR B G H C1 ((Θ ++ Ξ) ++ [some (.ref L, .ow acc)]) ∧ I i acc, ⟨_, rfl, Nat.zero_le _, G1, [], s1.fresh hL .nil, i0⟩, ?_⟩
  rintro i m H2 ⟨rfl, hi, G2, acc, s2, k⟩
  have hx : ∀ p, some p ∈ Ξ → RS B G2 H2 p.1 p.2 := fun p hp => s2.tmp (List.mem_append_left _ (List.mem_append_right _ hp))
  obtain ⟨w1, w2, w3⟩ := hw i G2 H2 s2.sb hx
  by_cases hlt : i < ds.length
  · refine .inr ⟨w1 hlt, fun H3 => ∃ G acc, SR B G H3 C1 ((Θ ++ Ξ) ++ [some (.ref L, .ow acc)]) ∧ I (i + 1) acc, fun H3 ⟨G3, acc3, s3, k3⟩ => ⟨ds.length - (i + 1), by omega, rfl, hlt, G3, acc3, s3, k3⟩, fun x H3 y => ?_⟩
    obtain ⟨G3, d, st, hd, rd⟩ := w3 x H3 hlt y
    have s3 := (s2.step st).enter (own := own.map (·.2))
    have hh := turn i d acc hd k
    rw [← hid_sls] at hh
    refine ⟨G3, _, _, d, hid_fits k1, s3, rd, g.mono (fun τ2 q G4 H4 C4 σ4 m1 m2 s4 hwp => ⟨(hwp _ hg).trans wipe_idem, ?_⟩) hh⟩
    subst m2
    refine ⟨G4, C4, _, m1, s4, tt.mono (fun c z => False.elim z) (fun b τ3 q G5 H5 C5 m1 m2 s5 => ?_) q⟩
    cases b with
    | true =>
      rw [if_pos rfl] at q ⊢
      subst m2
      refine ⟨G5, C5, _, m1, s5, te.mono (fun c z => False.elim z) (fun e τ4 q v G6 H6 C6 m1 m2 s6 r6 => ?_) q⟩
      have s7 := s6.leave
      obtain ⟨a, vs, e, _, _, _, h4, h5⟩ := s7.last
      injection e with e; subst e
      exact ⟨vs, h4, by rw [h5.length]; exact q.1, G6, _, s7.grow h4 r6, q.2⟩
    | false =>
      rw [if_neg Bool.false_ne_true] at q ⊢
      exact ⟨G5, acc, s5.leave, q⟩
  · have e : i = ds.length := by omega
    subst e
    refine .inl ⟨w2 (Nat.le_refl _), ?_⟩
    refine fin acc k L G2 H2 C1 k1 rfl ?_
    exact s2.mid
theorem do_lc (hc : X.calm = true) (hN : X.N.Nodup) (hi : DI X B tg iter fi) (ok : BlkOk X.N X.env.scope scope own) (hsl : ∀ i ∈ g.slots, i ∈ own.map (·.2))
    (hg : ∀ (s : Shared) (H : Hp) (C : Addr) (cl : List (Str × Addr)) (fp : List Addr), DG (X.blk s H scope (compEnvC scope cl C X.env) fp) B tg g) (ht : ∀ (s : Shared) (H : Hp) (C : Addr) (cl : List (Str × Addr)) (fp : List Addr), DTs (X.blk s H scope (compEnvC scope cl C X.env) fp) B ifs tt)
    (he : ∀ (s : Shared) (H : Hp) (C : Addr) (cl : List (Str × Addr)) (fp : List Addr), DE (X.blk s H scope (compEnvC scope cl C X.env) fp) B elt te) (hs : ∀ x, foldedSetIterable iter X.env x = pure x := by intro _; rfl) :
    DO X B (.ListComp elt [⟨tg, iter, ifs, 0⟩] scope pos) (fLc (own.map (·.2)) fi g tt te) :=
  ⟨peImp (pe_lc hc hN hi.pi ok (fun s H C cl fp => (hg s H C cl fp).pg) (fun s H C cl fp => (ht s H C cl fp).pt) (fun s H C cl fp => (he s H C cl fp).pe) hs) fun _ _ _ => lift_lc hsl⟩
/-- some slots' own lists are given up ahead -/
def frz1 (τ : Tau) (i : Nat) : Tau := match τ[i]? with
  | some (some (.ow ds)) => τ.set i (some (.sh (.lst ds)))
  | _ => τ
def fPre (is : List Nat) (f : FA) : FA := ⟨fun ex τ Q => f.run ex (is.foldl frz1 τ) Q, f.mono⟩
theorem frz_go {Θ : Tmp} {σ : L2.St} {H : Hp} : ∀ (is : List Nat) (G : Hp) (C : List Cell), Fits C σ → SR B G H C Θ → ∃ G' C', Fits C' σ ∧ SR B G' H C' Θ ∧ sls C' = is.foldl frz1 (sls C) := fun is => by
  induction is with
  | nil => intro G C hf s; exact ⟨G, C, hf, s, rfl⟩
  | cons i is ih =>
    intro G C hf s
    rw [List.foldl_cons]
    match e : (sls C)[i]? with
    | some (some (.ow ds)) =>
      obtain ⟨v, hc⟩ := sls_get e
      obtain ⟨G', s', _⟩ := s.freezeS hc
      obtain ⟨G2, C2, h1, h2, h3⟩ := ih G' _ (hf.set hc) s'
      rw [sls_set] at h3
      have e2 : frz1 (sls C) i = (sls C).set i (some (.sh (.lst ds))) := by unfold frz1; rw [e]
      exact ⟨G2, C2, h1, h2, by rw [h3, e2]⟩
    | some (some (.sh d)) =>
      have e2 : frz1 (sls C) i = sls C := by unfold frz1; rw [e]
      rw [e2]; exact ih G C hf s
    | some none =>
      have e2 : frz1 (sls C) i = sls C := by unfold frz1; rw [e]
      rw [e2]; exact ih G C hf s
    | none =>
      have e2 : frz1 (sls C) i = sls C := by unfold frz1; rw [e]
      rw [e2]; exact ih G C hf s
theorem do_pre {e : Expr} {f : FA} (is : List Nat) (h : DO X B e f) : DO X B e (fPre is f) := by
  refine ⟨peImp h.pe fun σ H Q => ?_⟩
  rintro ⟨G, C, Θ, hf, s, q⟩
  obtain ⟨G', C', h1, h2, h3⟩ := frz_go is G C hf s
  exact ⟨G', C', Θ, h1, h2, by rw [h3]; exact q⟩
end
end DL
/-! The data layer: statements, defs. -/
namespace DL
open PySem PySem.Spec PyProof.Rows L2

structure DEnds where
  nx : Tau → Prop
  rt : D → Prop
  bk : Tau → Prop := fun _ => False
  ct : Tau → Prop := fun _ => False
structure DEnds.Le (E E' : DEnds) : Prop where
  nx : ∀ t, E.nx t → E'.nx t
  rt : ∀ d, E.rt d → E'.rt d
  bk : ∀ t, E.bk t → E'.bk t
  ct : ∀ t, E.ct t → E'.ct t
structure FS where
  run : EX → DEnds → Tau → Prop
  mono : ∀ {ex ex' : EX} {E E' : DEnds} {τ : Tau}, (∀ c, ex c → ex' c) → E.Le E' → run ex E τ → run ex' E' τ
def endsOf (B : Bs) (Θ : Tmp) (D' : Ends) : DEnds where
  nx := fun τ' => ∀ G' H' C' σ', Fits C' σ' → sls C' = τ' → SR B G' H' C' Θ → D'.nx σ' H'
  rt := fun d => ∀ v G' H', SB B G' H' → Rep B.K B.pa G' v d → D'.rt v H'
  bk := fun τ' => ∀ G' H' C' σ', Fits C' σ' → sls C' = τ' → SR B G' H' C' Θ → D'.bk σ' H'
  ct := fun τ' => ∀ G' H' C' σ', Fits C' σ' → sls C' = τ' → SR B G' H' C' Θ → D'.ct σ' H'
def liftS (B : Bs) (F : FS) : TS := fun D' σ H => ∃ G C Θ, Fits C σ ∧ SR B G H C Θ ∧ F.run (exOf B) (endsOf B Θ D') (sls C)
structure DS (X : Cx) (B : Bs) (st : Stmt) (F : FS) : Prop where
  ps : PS X st (liftS B F)
structure DSs (X : Cx) (B : Bs) (st : List Stmt) (F : FS) : Prop where
  ps : PSs X st (liftS B F)
section
variable {X : Cx} {st : Stmt} {sts : List Stmt}
theorem psImp {t t' : TS} (h : PS X st t) (i : ∀ D σ H, t' D σ H → t D σ H) : PS X st t' := ⟨fun pins s σ H D I q => h.run pins s σ H D I (i D σ H q)⟩
theorem pssImp {t t' : TS} (h : PSs X sts t) (i : ∀ D σ H, t' D σ H → t D σ H) : PSs X sts t' := ⟨fun pins s σ H D I q => h.run pins s σ H D I (i D σ H q)⟩
end
theorem DEnds.Le.refl (E : DEnds) : E.Le E := ⟨fun _ h => h, fun _ h => h, fun _ h => h, fun _ h => h⟩
theorem DEnds.Le.withNx {E E' : DEnds} (h : E.Le E') {N N' : Tau → Prop} (n : ∀ t, N t → N' t) : DEnds.Le { E with nx := N } { E' with nx := N' } := ⟨n, h.rt, h.bk, h.ct⟩

theorem FS.go {F : FS} {ex ex' : EX} {E E' : DEnds} {τ : Tau} (q : F.run ex E τ) (he : ∀ c, ex c → ex' c) (h : E.Le E') : F.run ex' E' τ := F.mono he h q

/-! ### blocks -/
def fNext : FS := ⟨fun _ E τ => E.nx τ, fun _ h q => h.nx _ q⟩
def fSeq (a b : FS) : FS := ⟨fun ex E τ => a.run ex { E with nx := b.run ex E } τ, fun he h q => a.mono he (h.withNx fun _ k => b.mono he h k) q⟩
/-- .. with what holds between the two told -/
def fSeqC (a b : FS) : FS := ⟨fun ex E τ => ∃ M : Tau → Prop, a.run ex { E with nx := M } τ ∧ ∀ τ', M τ' → b.run ex E τ', fun he h ⟨M, q1, q2⟩ => ⟨M, a.mono he (h.withNx fun _ k => k) q1, fun t k => b.mono he h (q2 t k)⟩⟩
def fDrop (fe : FE) : FS := ⟨fun ex E τ => fe.run ex τ fun _ τ1 => E.nx τ1, fun he h q => fe.mono he (fun _ _ k => h.nx _ k) q⟩
def fRet (fe : FE) : FS := ⟨fun ex E τ => fe.run ex τ fun d _ => E.rt d, fun he h q => fe.mono he (fun _ _ k => h.rt _ k) q⟩
def fRetN : FS := ⟨fun _ E _ => E.rt .non, fun _ h q => h.rt _ q⟩
def fIfS (t : FT) (a b : FS) : FS := ⟨fun ex E τ => t.run ex τ fun c τ1 => if c = true then a.run ex E τ1 else b.run ex E τ1, fun he h q => t.mono he (fun c _ k => by
  cases c with
  | true => rw [if_pos rfl] at k ⊢; exact a.mono he h k
  | false => rw [if_neg Bool.false_ne_true] at k ⊢; exact b.mono he h k) q⟩
def fBrk : FS := ⟨fun _ E τ => E.bk τ, fun _ h q => h.bk _ q⟩
def fCnt : FS := ⟨fun _ E τ => E.ct τ, fun _ h q => h.ct _ q⟩
def fSet (i : Nat) (fe : FE) : FS := ⟨fun ex E τ => fe.run ex τ fun d τ1 => E.nx (τ1.set i (some (.sh d))), fun he h q => fe.mono he (fun _ _ k => h.nx _ k) q⟩
def fSetO (i : Nat) (fo : FA) : FS := ⟨fun ex E τ => fo.run ex τ fun ds τ1 => E.nx (τ1.set i (some (.ow ds))), fun he h q => fo.mono he (fun _ _ k => h.nx _ k) q⟩
def fAsg (fe : FE) (g : FG) : FS := ⟨fun ex E τ => fe.run ex τ fun d τ1 => g.run d τ1 E.nx, fun he h q => fe.mono he (fun _ _ k => g.mono h.nx k) q⟩
def fRaise (c : Addr) : FS := ⟨fun ex _ _ => ex c, fun he _ q => he _ q⟩
def fNever : FS := ⟨fun _ _ _ => False, fun _ _ q => q⟩
def fFor (fi : FA) (g : FG) (body : FS) : FS := ⟨fun ex E τ => fi.run ex τ fun ds τ1 => ∃ I : Nat → Tau → Prop, I 0 τ1 ∧
    (∀ i d τ, ds[i]? = some d → I i τ → g.run d τ fun τ2 => body.run ex ⟨I (i + 1), E.rt, E.nx, I (i + 1)⟩ τ2) ∧ ∀ τ, I ds.length τ → E.nx τ,
  fun he h q => fi.mono he (fun _ _ ⟨I, h0, h1, h2⟩ => ⟨I, h0, fun i d τ e k => by
    have q := h1 i d τ e k
    refine g.mono ?_ q
    intro t k
    exact FS.go (F := body) k he ⟨fun _ z => z, h.rt, h.nx, fun _ z => z⟩, fun τ k => h.nx _ (h2 τ k)⟩) q⟩
def fWhile (t : FT) (body : FS) : FS := ⟨fun ex E τ => ∃ W : Nat → Tau → Prop, (∃ m, W m τ) ∧ ∀ m τ, W m τ → t.run ex τ fun c τ1 => if c = true then body.run ex ⟨fun τ' => ∃ m', m' < m ∧ W m' τ', E.rt, E.nx, fun τ' => ∃ m', m' < m ∧ W m' τ'⟩ τ1 else E.nx τ1,
  fun he h ⟨W, h0, h1⟩ => ⟨W, h0, fun m τ k => t.mono he (fun c _ k => by
    cases c with
    | true => rw [if_pos rfl] at k ⊢; exact FS.go (F := body) k he ⟨fun _ z => z, h.rt, h.nx, fun _ z => z⟩
    | false => rw [if_neg Bool.false_ne_true] at k ⊢; exact h.nx _ k) (h1 m τ k)⟩⟩
section
variable {X : Cx} {B : Bs} {pos : Pos} {st : Stmt} {rest : List Stmt} {F F' : FS} {e : Expr} {fe : FE} {fo : FA}
theorem dss_nil : DSs X B [] fNext := by
  refine ⟨pssImp pss_nil fun D' σ H => ?_⟩
  rintro ⟨G, C, Θ, hf, s, q⟩
  exact q G H C σ hf rfl s
theorem dss_cons (h1 : DS X B st F) (h2 : DSs X B rest F') : DSs X B (st :: rest) (fSeq F F') := by
  refine ⟨pssImp (pss_cons h1.ps h2.ps) fun D' σ H => ?_⟩
  rintro ⟨G, C, Θ, hf, s, q⟩
  exact ⟨G, C, Θ, hf, s, FS.go q (fun _ h => h) ⟨fun τ1 k G' H' C' σ' m1 m2 s' => ⟨G', C', Θ, m1, s', m2 ▸ k⟩, fun _ k => k, fun _ k => k, fun _ k => k⟩⟩
theorem dss_cut (h1 : DS X B st F) (h2 : DSs X B rest F') : DSs X B (st :: rest) (fSeqC F F') := by
  refine ⟨pssImp (dss_cons h1 h2).ps fun D' σ H => ?_⟩
  rintro ⟨G, C, Θ, hf, s, M, q1, q2⟩
  exact ⟨G, C, Θ, hf, s, FS.go (F := F) (E' := { endsOf B Θ D' with nx := F'.run (exOf B) (endsOf B Θ D') }) q1 (fun _ h => h) ⟨fun τ1 k => q2 _ k, fun _ k => k, fun _ k => k, fun _ k => k⟩⟩
theorem dss_one (h1 : DS X B st F) : DSs X B [st] F := by
  refine ⟨pssImp (pss_one h1.ps) fun D' σ H h => h⟩
theorem dss_never {sts : List Stmt} : DSs X B sts fNever := ⟨pssImp pss_never fun D' σ H ⟨_, _, _, _, _, q⟩ => q⟩
theorem ds_pass : DS X B (.Pass pos) fNext := by
  refine ⟨psImp ps_pass fun D' σ H => ?_⟩
  rintro ⟨G, C, Θ, hf, s, q⟩
  exact q G H C σ hf rfl s
theorem ds_break : DS X B (.Break pos) fBrk := by
  refine ⟨psImp ps_break fun D' σ H => ?_⟩
  rintro ⟨G, C, Θ, hf, s, q⟩
  exact q G H C σ hf rfl s
theorem ds_continue : DS X B (.Continue pos) fCnt := by
  refine ⟨psImp ps_continue fun D' σ H => ?_⟩
  rintro ⟨G, C, Θ, hf, s, q⟩
  exact q G H C σ hf rfl s
theorem ds_expr (he : DE X B e fe) (hs : swapsWith e none pos.line X.env = pure false := by rfl) : DS X B (.Expr e pos) (fDrop fe) := by
  refine ⟨psImp (ps_expr he.pe hs) fun D' σ H => ?_⟩
  rintro ⟨G, C, Θ, hf, s, q⟩
  exact ⟨G, C, Θ, hf, s, fe.mono (fun _ h => h) (fun d τ1 k v G' H' C' m1 m2 s' r => k G' H' C' σ m1 m2 s') q⟩
theorem ds_ret (he : DE X B e fe) : DS X B (.Return (some e) pos) (fRet fe) := by
  refine ⟨psImp (ps_ret he.pe) fun D' σ H => ?_⟩
  rintro ⟨G, C, Θ, hf, s, q⟩
  exact ⟨G, C, Θ, hf, s, fe.mono (fun _ h => h) (fun d τ1 k v G' H' C' m1 m2 s' r => k v G' H' s'.sb r) q⟩
theorem ds_retN : DS X B (.Return none pos) fRetN := by
  refine ⟨psImp ps_retN fun D' σ H => ?_⟩
  rintro ⟨G, C, Θ, hf, s, q⟩
  exact q .non G H s.sb .non
theorem ds_if {c : Expr} {a b : List Stmt} {t : FT} (hc : DT X B c t) (ha : DSs X B a F) (hb : DSs X B b F') : DS X B (.If c a b pos) (fIfS t F F') := by
  refine ⟨psImp (ps_if hc.pt ha.ps hb.ps) fun D' σ H => ?_⟩
  rintro ⟨G, C, Θ, hf, s, q⟩
  refine ⟨G, C, Θ, hf, s, t.mono (fun _ h => h) (fun c τ1 k G' H' C' m1 m2 s' => ?_) q⟩
  cases c with
  | true => rw [if_pos rfl] at k ⊢; exact ⟨G', C', Θ, m1, s', m2 ▸ k⟩
  | false => rw [if_neg Bool.false_ne_true] at k ⊢; exact ⟨G', C', Θ, m1, s', m2 ▸ k⟩
theorem ds_set {i : Nat} {x : Str} {p : Pos} (hN : X.N.Nodup) (hi : X.N[i]? = some x) (hx : Loc X.env.scope x) (he : DE X B e fe) (hlen : X.N.length = X.N.length := by rfl) (hs : swapsWith e (some (.Name x p)) pos.line X.env = pure false := by rfl) (hf : X.fn x = true ∨ X.env.scope.names.lookup x = some .local := by first | exact .inl rfl | exact .inr rfl | assumption) :
    DS X B (.Assign [.Name x p] e pos) (fSet i fe) := by
  refine ⟨⟨fun pins s0 σ H D' I h => (ps_set hN hi hx he.pe hs hf).run pins s0 σ H D' I ?_⟩⟩
  obtain ⟨G, C, Θ, hft, s, q⟩ := h
  refine ⟨G, C, Θ, hft, s, fe.mono (fun _ h => h) (fun d τ1 k v G' H' C' m1 m2 s' r => ?_) q⟩
  have hlt : i < C'.length := by rw [m1.1, I.len]; exact (List.getElem?_eq_some_iff.mp hi).1
  exact k G' H' (C'.set i (some (v, .sh d))) _ m1.put (by rw [sls_set, m2]) ((s'.push r).store hlt)
theorem ds_setO {i : Nat} {x : Str} {p : Pos} (hN : X.N.Nodup) (hi : X.N[i]? = some x) (hx : Loc X.env.scope x) (he : DO X B e fo) (hs : swapsWith e (some (.Name x p)) pos.line X.env = pure false := by rfl) (hf : X.fn x = true ∨ X.env.scope.names.lookup x = some .local := by first | exact .inl rfl | exact .inr rfl | assumption) :
    DS X B (.Assign [.Name x p] e pos) (fSetO i fo) := by
  refine ⟨⟨fun pins s0 σ H D' I h => (ps_set hN hi hx he.pe hs hf).run pins s0 σ H D' I ?_⟩⟩
  obtain ⟨G, C, Θ, hft, s, q⟩ := h
  refine ⟨G, C, Θ, hft, s, fo.mono (fun _ h => h) (fun ds τ1 k a G' H' C' m1 m2 s' => ?_) q⟩
  have hlt : i < C'.length := by rw [m1.1, I.len]; exact (List.getElem?_eq_some_iff.mp hi).1
  exact k G' H' (C'.set i (some (.ref a, .ow ds))) _ m1.put (by rw [sls_set, m2]) (s'.store hlt)
theorem ds_asg {tg : Expr} {g : FG} (he : DE X B e fe) (hg : DG X B tg g) (hs : swapsWithSole [tg] e pos.line X.env = pure false := by rfl) (hw : swappedStores [tg] e X.env = pure none := by rfl)
    (h1 : (assignEach [tg] X.env).map (·.2) = [assign tg X.env] := by rfl) : DS X B (.Assign [tg] e pos) (fAsg fe g) := by
  refine ⟨psImp (ps_asg he.pe hg.pg hs hw h1) fun D' σ H => ?_⟩
  rintro ⟨G, C, Θ, hf, s, q⟩
  refine ⟨G, C, Θ, hf, s, fe.mono (fun _ h => h) (fun d τ1 k v G' H' C' m1 m2 s' r => ?_) q⟩
  exact ⟨G', C', Θ, d, m1, s', r, g.mono (fun τ2 k G2 H2 C2 σ2 n1 n2 s2 _ => k G2 H2 C2 σ2 n1 n2 s2) (m2 ▸ k)⟩
/-- y = [.. for ..] on one line, y a plain local -/
theorem ds_setLc {i : Nat} {y : Str} {py spos : Pos} {elt tg iter : Expr} {ifs : List Expr} {scope : Scope} {own : List (Str × Nat)} {fi : FA} {g : FG} {tt : FT} {te : FE} (hc : X.calm = true) (hN : X.N.Nodup) (hy : X.N[i]? = some y) (hyl : X.env.scope.names.lookup y = some .local)
    (hsw : swapsWith (.ListComp elt [⟨tg, iter, ifs, 0⟩] scope pos) (some (.Name y py)) spos.line X.env = pure true) (is : List Nat) (hi : DI X B tg iter fi) (ok : BlkOk X.N X.env.scope scope own) (hsl : ∀ i ∈ g.slots, i ∈ own.map (·.2))
    (hg : ∀ (s : Shared) (H : Hp) (C : Addr) (cl : List (Str × Addr)) (fp : List Addr), DG (X.blk s H scope (compEnvC scope cl C X.env) fp) B tg g) (ht : ∀ (s : Shared) (H : Hp) (C : Addr) (cl : List (Str × Addr)) (fp : List Addr), DTs (X.blk s H scope (compEnvC scope cl C X.env) fp) B ifs tt)
    (he : ∀ (s : Shared) (H : Hp) (C : Addr) (cl : List (Str × Addr)) (fp : List Addr), DE (X.blk s H scope (compEnvC scope cl C X.env) fp) B elt te) (hs : ∀ x, foldedSetIterable iter X.env x = pure x := by intro _; rfl) :
    DS X B (.Assign [.Name y py] (.ListComp elt [⟨tg, iter, ifs, 0⟩] scope pos) spos) (fSetO i (fPre is (fLc (own.map (·.2)) fi g tt te))) := by
  refine ⟨⟨fun pins s0 σ H D' I h => (ps_setLc hc hN hy hyl hsw hi.pi ok (fun s H C cl fp => (hg s H C cl fp).pg) (fun s H C cl fp => (ht s H C cl fp).pt) (fun s H C cl fp => (he s H C cl fp).pe) hs).run pins s0 σ H D' I ?_⟩⟩
  obtain ⟨G, C, Θ, hft, s, q⟩ := h
  obtain ⟨G1, C1, h1, h2, h3⟩ := frz_go is G C hft s
  have q : ((fLc (own.map (·.2)) fi g tt te).run (exOf B) (is.foldl frz1 (sls C)) fun ds τ1 => (endsOf B Θ D').nx (τ1.set i (some (.ow ds)))) := q
  rw [← h3] at q
  refine lift_lc hsl ⟨G1, C1, Θ, h1, h2, (fLc (own.map (·.2)) fi g tt te).mono (fun _ h => h) (fun ds τ1 k a G' H' C' m1 m2 s' => ?_) q⟩
  have hlt : i < C'.length := by rw [m1.1, I.len]; exact (List.getElem?_eq_some_iff.mp hy).1
  exact k G' H' (C'.set i (some (.ref a, .ow ds))) _ m1.put (by rw [sls_set, m2]) (s'.store hlt)
theorem ds_for {tg iter : Expr} {body : List Stmt} {fi : FA} {g : FG} (hp : PassesOwn (model X.prog X.w) X.A X.env X.xe) (hc : X.calm = true) (hi : DI X B tg iter fi) (hg : DG X B tg g) (hb : DSs X B body F) (hs : ∀ x, foldedSetIterable iter X.env x = pure x := by intro _; rfl) :
    DS X B (.For tg iter body [] pos) (fFor fi g F) := by
  refine ⟨psImp (ps_for hp hc hi.pi hg.pg hb.ps hs) fun D' σ H => ?_⟩
  rintro ⟨G, C, Θ, hf, s, q⟩
  refine ⟨G, C, Θ, hf, s, fi.mono (fun _ h => h) (fun ds τ1 k J Ξ G1 H1 C1 m1 m2 s1 hw => ?_) q⟩
  obtain ⟨I, i0, turn, fin⟩ := k
  subst m2
  refine ⟨fun i m σ H => m = ds.length - i ∧ i ≤ ds.length ∧ ∃ G C, Fits C σ ∧ SR B G H C (Θ ++ Ξ) ∧ I i (sls C), ⟨_, rfl, Nat.zero_le _, G1, C1, m1, s1, i0⟩, ?_⟩
  rintro i m σ2 H2 ⟨rfl, hi, G2, C2, m2, s2, k⟩
  have hx : ∀ p, some p ∈ Ξ → RS B G2 H2 p.1 p.2 := fun p hp => s2.tmp (List.mem_append_right _ hp)
  obtain ⟨w1, w2, w3⟩ := hw i G2 H2 s2.sb hx
  by_cases hlt : i < ds.length
  · refine .inr ⟨w1 hlt, fun σ3 H3 => ∃ G C, Fits C σ3 ∧ SR B G H3 C (Θ ++ Ξ) ∧ I (i + 1) (sls C), fun σ3 H3 ⟨G3, C3, n1, s3, k3⟩ => ⟨ds.length - (i + 1), by omega, rfl, hlt, G3, C3, n1, s3, k3⟩, fun x H3 y => ?_⟩
    obtain ⟨G3, d, st, hd, rd⟩ := w3 x H3 hlt y
    refine ⟨G3, C2, Θ ++ Ξ, d, m2, s2.step st, rd, g.mono (fun τ4 k4 G4 H4 C4 σ4 n1 n2 s4 _ => ?_) (turn i d _ hd k)⟩
    subst n2
    refine ⟨G4, C4, Θ ++ Ξ, n1, s4, FS.go k4 (fun _ h => h) ⟨fun τ5 k5 G5 H5 C5 σ5 n1 n2 s5 => ?_, fun _ k5 => k5, fun τ5 k5 G5 H5 C5 σ5 n1 n2 s5 => ?_, fun τ5 k5 G5 H5 C5 σ5 n1 n2 s5 => ?_⟩⟩
    · subst n2; exact ⟨G5, C5, n1, s5, k5⟩
    · exact k5 G5 H5 C5 σ5 n1 n2 s5.pop
    · subst n2; exact ⟨G5, C5, n1, s5, k5⟩
  · have e : i = ds.length := by omega
    subst e
    exact .inl ⟨w2 (Nat.le_refl _), fin _ k G2 H2 C2 σ2 m2 rfl s2.pop⟩
theorem ds_while {c : Expr} {body : List Stmt} {t : FT} (hp : PassesOwn (model X.prog X.w) X.A X.env X.xe) (hc : DT X B c t) (hb : DSs X B body F) : DS X B (.While c body [] pos) (fWhile t F) := by
  refine ⟨psImp (ps_while hp hc.pt hb.ps) fun D' σ H => ?_⟩
  rintro ⟨G, C, Θ, hf, s, W, ⟨m0, w0⟩, turn⟩
  refine ⟨fun m σ H => ∃ G C, Fits C σ ∧ SR B G H C Θ ∧ W m (sls C), ⟨m0, G, C, hf, s, w0⟩, ?_⟩
  rintro m σ2 H2 ⟨G2, C2, m2, s2, w⟩
  refine ⟨G2, C2, Θ, m2, s2, t.mono (fun _ h => h) (fun c τ1 k G3 H3 C3 n1 n2 s3 => ?_) (turn m _ w)⟩
  subst n2
  cases c with
  | true =>
    rw [if_pos rfl] at k ⊢
    refine ⟨fun σ' H' => ∃ m', m' < m ∧ ∃ G C, Fits C σ' ∧ SR B G H' C Θ ∧ W m' (sls C), fun σ' H' h => h, G3, C3, Θ, n1, s3, FS.go k (fun _ h => h) ⟨fun τ5 k5 G5 H5 C5 σ5 n1 n2 s5 => ?_, fun _ k5 => k5, fun τ5 k5 G5 H5 C5 σ5 n1 n2 s5 => ?_, fun τ5 k5 G5 H5 C5 σ5 n1 n2 s5 => ?_⟩⟩
    · subst n2; obtain ⟨m', h1, h2⟩ := k5; exact ⟨m', h1, G5, C5, n1, s5, h2⟩
    · exact k5 G5 H5 C5 σ5 n1 n2 s5
    · subst n2; obtain ⟨m', h1, h2⟩ := k5; exact ⟨m', h1, G5, C5, n1, s5, h2⟩
  | false => rw [if_neg Bool.false_ne_true] at k ⊢; exact k G3 H3 C3 σ2 n1 rfl s3
end

/-! ### lists of one's own -/
def fApp (i : Nat) (fe : FE) : FS := ⟨fun ex E τ => (∃ ds, τ[i]? = some (some (.ow ds))) ∧ fe.run ex τ fun d τ1 => ∃ ds, τ1[i]? = some (some (.ow ds)) ∧ ds.length < sizeLine ∧ E.nx (τ1.set i (some (.ow (ds ++ [d])))),
  fun he h q => ⟨q.1, fe.mono he (fun _ _ ⟨ds, h1, h2, h3⟩ => ⟨ds, h1, h2, h.nx _ h3⟩) q.2⟩⟩
def fPop (i : Nat) : FE := ⟨fun _ τ Q => ∃ ds d, τ[i]? = some (some (.ow (ds ++ [d]))) ∧ Q d (τ.set i (some (.ow ds))), fun _ h ⟨ds, d, h1, h2⟩ => ⟨ds, d, h1, h _ _ h2⟩⟩
def fLenO (i : Nat) : FE := ⟨fun _ τ Q => ∃ ds, τ[i]? = some (some (.ow ds)) ∧ Q (.int ds.length) τ, fun _ h ⟨ds, h1, h2⟩ => ⟨ds, h1, h _ _ h2⟩⟩
def fTruO (i : Nat) : FT := ⟨fun _ τ Q => ∃ ds, τ[i]? = some (some (.ow ds)) ∧ Q (!ds.isEmpty) τ, fun _ h ⟨ds, h1, h2⟩ => ⟨ds, h1, h _ _ h2⟩⟩
/-- x[k] = e -/
def fPut (i : Nat) (fe fk : FE) : FS := ⟨fun ex E τ => fe.run ex τ fun d τ1 => (∃ ds, τ1[i]? = some (some (.ow ds))) ∧ fk.run ex τ1 fun k τ2 => ∃ ds z j, τ2[i]? = some (some (.ow ds)) ∧ k = .int z ∧ ixN ds.length z = some j ∧ E.nx (τ2.set i (some (.ow (ds.set j d)))),
  fun he h q => fe.mono he (fun _ _ k => ⟨k.1, fk.mono he (fun _ _ ⟨ds, z, j, h1, h2, h3, h4⟩ => ⟨ds, z, j, h1, h2, h3, h.nx _ h4⟩) k.2⟩) q⟩
section
variable {X : Cx} {B : Bs} {pos p1 p2 px : Pos} {e : Expr} {fe fk : FE} {x : Str} {i : Nat}
theorem set_own {C : List Cell} {i : Nat} {v : V} {ds : List D} {τ : Tau} (h : sls C = τ) : sls (C.set i (some (v, .ow ds))) = τ.set i (some (.ow ds)) := by rw [sls_set, h]
theorem ds_append (i : Nat) (he : DE X B e fe) (hN : X.N[i]? = some x := by rfl) (hv : Vis X.env.scope x := by first | exact Or.inl rfl | exact Or.inr (Or.inl rfl) | exact Or.inr (Or.inr rfl)) (hd : (x == ("__debug__" : Str)) = false := by decide) (hcd : (x == ("__classdict__" : Str)) = false := by decide)
    (hst : starEach [e] X.env = (false, eval e X.env) :: starEach [] X.env := by rfl) (hbase : attributeBase (.Name x px) "append" X.env (eval (.Name x px) X.env) = eval (.Name x px) X.env := by rfl) (hline : (p1.endLine == p2.line) = true := by rfl)
    (hfew : (((backTo p2 (starEach [e] X.env)).all (!·.1)) && ((backToKw p2 (keywordEach [] X.env)).all (·.1.isSome)) && decide (([e].length + ([] : List Keyword).length + if ([] : List Keyword).isEmpty then 0 else 1) < 30)) = true := by rfl)
    (hs : swapsWith (.Call (.Attribute (.Name x px) "append" p1) [e] [] p2) none pos.line X.env = pure false := by rfl) :
    DS X B (.Expr (.Call (.Attribute (.Name x px) "append" p1) [e] [] p2) pos) (fApp i fe) := by
  refine ⟨psImp (ps_expr (pe_bm PySem.F.plainAttrs_list PySem.F.slot_list_append PySem.F.type_list_append mt_append (pe_var hN hv hd hcd) (pa_cons he.pe pa_nil hst) hbase hfew hline hst) hs) fun D' σ H => ?_⟩
  rintro ⟨G, C, Θ, hf, s, ⟨ds0, q0⟩, q⟩
  obtain ⟨a, vs, hc, hσ, hH, r⟩ := own_at s hf q0
  refine ⟨.ref a, hσ, .inl ⟨rfl, _, SqL.of hH⟩, G, C, Θ, hf, s, fe.mono (fun _ h => h) (fun d τ1 k v G1 H1 C1 m1 m2 s1 r1 => ?_) q⟩
  obtain ⟨ds, h1, h2, h3⟩ := k
  subst m2
  obtain ⟨a', vs', hc', hσ', hH', r'⟩ := own_at s1 m1 h1
  rw [hσ] at hσ'; injection hσ' with hσ'; injection hσ' with hσ'; injection hσ' with hσ'; subst hσ'
  exact ⟨a, vs', v, rfl, rfl, hH', by rw [r'.length]; exact h2, h3 G1 _ _ σ (m1.set hc') (set_own rfl) (s1.write hc' hH' (r'.append (.cons r1 .nil)))⟩
theorem de_pop (i : Nat) (hN : X.N[i]? = some x := by rfl) (hv : Vis X.env.scope x := by first | exact Or.inl rfl | exact Or.inr (Or.inl rfl) | exact Or.inr (Or.inr rfl)) (hd : (x == ("__debug__" : Str)) = false := by decide) (hcd : (x == ("__classdict__" : Str)) = false := by decide)
    (hbase : attributeBase (.Name x px) "pop" X.env (eval (.Name x px) X.env) = eval (.Name x px) X.env := by rfl) (hline : (p1.endLine == p2.line) = true := by rfl) :
    DE X B (.Call (.Attribute (.Name x px) "pop" p1) [] [] p2) (fPop i) := by
  refine ⟨peImp (pe_bm0 PySem.F.plainAttrs_list PySem.F.slot_list_pop PySem.F.type_list_pop mt_pop (pe_var hN hv hd hcd) hbase hline) fun σ H Q => ?_⟩
  rintro ⟨G, C, Θ, hf, s, ds, d, h1, q⟩
  obtain ⟨a, vs, hc, hσ, hH, r⟩ := own_at s hf h1
  have hl := r.length
  rw [List.length_append, List.length_singleton] at hl
  obtain ⟨v, hv, rv⟩ := r.getD (i := vs.length - 1) (d := d) (by rw [hl, Nat.add_sub_cancel, List.getElem?_append_right (Nat.le_refl _), Nat.sub_self]; rfl)
  refine ⟨.ref a, hσ, .inl ⟨rfl, _, SqL.of hH⟩, a, vs, v, rfl, rfl, hH, hv, ?_⟩
  have rd := r.dropLast
  rw [List.dropLast_concat] at rd
  exact q v G _ _ (hf.set hc) (set_own rfl) (s.write hc hH rd) rv
theorem de_lenO (i : Nat) (hm : X.mg "len" = none) (hN : X.N[i]? = some x := by rfl) (hv : Vis X.env.scope x := by first | exact Or.inl rfl | exact Or.inr (Or.inl rfl) | exact Or.inr (Or.inr rfl)) (hd : (x == ("__debug__" : Str)) = false := by decide) (hcd : (x == ("__classdict__" : Str)) = false := by decide)
    (hg : Gl X "len" := by rfl) (he : starEach [.Name x px] X.env = (false, eval (.Name x px) X.env) :: starEach [] X.env := by rfl) (hpl : (backTo pos (starEach [] X.env)).any (·.1) = false := by rfl) (hK : B.K = X.K := by rfl) :
    DE X B (.Call (.Name "len" p1) [.Name x px] [] pos) (fLenO i) := by
  refine ⟨peImp (pe_callB call_len hg hm PySem.boot_len (pa_cons (pe_var hN hv hd hcd) pa_nil he) (by decide) (by decide) he hpl) fun σ H Q => ?_⟩
  rintro ⟨G, C, Θ, hf, s, ds, h1, q⟩
  obtain ⟨a, vs, hc, hσ, hH, r⟩ := own_at s hf h1
  exact ⟨.ref a, hσ, .ref a, ds.length, rfl, .inl ⟨vs, SqL.of hH, r.length.symm⟩, q _ G H C hf rfl s (.int _)⟩
theorem dt_truO (i : Nat) (hN : X.N[i]? = some x := by rfl) (hv : Vis X.env.scope x := by first | exact Or.inl rfl | exact Or.inr (Or.inl rfl) | exact Or.inr (Or.inr rfl)) (hd : (x == ("__debug__" : Str)) = false := by decide) (hcd : (x == ("__classdict__" : Str)) = false := by decide) :
    DT X B (.Name x px) (fTruO i) := by
  refine ⟨ptImp (pt_truth (pe_var hN hv hd hcd) (by intro _; rfl)) fun σ H Q => ?_⟩
  rintro ⟨G, C, Θ, hf, s, ds, h1, q⟩
  obtain ⟨a, vs, hc, hσ, hH, r⟩ := own_at s hf h1
  refine ⟨.ref a, hσ, _, .inl ⟨vs, SqL.of hH, rfl⟩, ?_⟩
  have e : (!vs.isEmpty) = !ds.isEmpty := by cases r <;> rfl
  rw [e]
  exact q G H C hf rfl s
theorem ds_put {k : Expr} (i : Nat) (he : DE X B e fe) (hk : DE X B k fk) (hN : X.N[i]? = some x := by rfl) (hv : Vis X.env.scope x := by first | exact Or.inl rfl | exact Or.inr (Or.inl rfl) | exact Or.inr (Or.inr rfl)) (hd : (x == ("__debug__" : Str)) = false := by decide) (hcd : (x == ("__classdict__" : Str)) = false := by decide)
    (ha : ∀ v, assign (.Subscript (.Name x px) k p1) X.env v = (do
      let ov ← holding [v] (eval (.Name x px) X.env)
      let iv ← holding [v, ov] (eval k X.env)
      standAt p1
      holding [v, ov, iv] (setItem ov iv v)
      release [v, ov, iv] []) := by intro _; rfl)
    (hs : swapsWithSole [.Subscript (.Name x px) k p1] e pos.line X.env = pure false := by rfl) (hw : swappedStores [.Subscript (.Name x px) k p1] e X.env = pure none := by rfl)
    (h1 : (assignEach [.Subscript (.Name x px) k p1] X.env).map (·.2) = [assign (.Subscript (.Name x px) k p1) X.env] := by rfl) :
    DS X B (.Assign [.Subscript (.Name x px) k p1] e pos) (fPut i fe fk) := by
  refine ⟨psImp (ps_asg he.pe (pg_sub (pe_var hN hv hd hcd) hk.pe set_list ha) hs hw h1) fun D' σ H => ?_⟩
  rintro ⟨G, C, Θ, hf, s, q⟩
  refine ⟨G, C, Θ, hf, s, fe.mono (fun _ h => h) (fun d τ1 k v G1 H1 C1 m1 m2 s1 r1 => ?_) q⟩
  obtain ⟨⟨ds0, q0⟩, k⟩ := k
  subst m2
  obtain ⟨a, vs, hc, hσ, hH, r⟩ := own_at s1 m1 q0
  refine ⟨.ref a, hσ, G1, C1, Θ ++ [some (v, .sh d)], m1, s1.push r1, fk.mono (fun _ h => h) (fun e τ2 k w G2 H2 C2 n1 n2 s2 r2 => ?_) k⟩
  obtain ⟨ds, z, j, h1, rfl, h3, h4⟩ := k
  subst n2
  cases r2
  obtain ⟨a', vs', hc', hσ', hH', r'⟩ := own_at s2 n1 h1
  rw [hσ] at hσ'; injection hσ' with hσ'; injection hσ' with hσ'; injection hσ' with hσ'; subst hσ'
  have rv : Rep B.K B.pa G2 v d := s2.last (x := .sh d)
  exact ⟨a, vs', z, j, rfl, rfl, hH', by rw [r'.length]; exact h3, h4 G2 _ _ σ (n1.set hc') (set_own rfl) ((s2.write hc' hH' (r'.set rv j)).pop)⟩
end

/-! ### defs -/
/-- the slots at a def's entry -/
def startD (n : Nat) (ds : List D) : Tau := ds.map (fun d => some (.sh d)) ++ List.replicate (n - ds.length) none
theorem sb_of {B : Bs} {G H : Hp} : SB B G H ↔ Step B.pa B.G0 B.H0 G H := ⟨fun s => ⟨s.grow, s.fresh, s.same, s.keep, s.pool⟩, fun s => ⟨s.keep, s.grow, s.fresh, s.same, s.pool⟩⟩
section
variable {P : Program} {w : World} {K : PySem.W.Frag} {mg : Str → Option Value} {base : Heap}
theorem RepAll.start {B : Bs} {H : Hp} (sb : SB B B.G0 H) : ∀ {vs : List V} {ds : List D}, RepAll B.K B.pa B.G0 vs ds → SR B B.G0 H ((vs.zip ds).map fun p => some (p.1, .sh p.2)) [] := fun {vs ds} r => by
  refine ⟨sb, fun p hp => ?_, fun i j v s s' h => ?_⟩
  · rw [List.append_nil] at hp
    obtain ⟨q, hq, e⟩ := List.mem_map.mp hp
    injection e with e; subst e
    show Rep _ _ _ _ _
    have k : ∀ {ws : List V} {es : List D}, RepAll B.K B.pa B.G0 ws es → ∀ q ∈ ws.zip es, Rep B.K B.pa B.G0 q.1 q.2 := fun {ws es} r => by
      induction r using RepAll.rec (motive_1 := fun _ _ _ => True) with
      | nil => intro q hq; rw [List.zip_nil_left] at hq; cases hq
      | cons r t _ ih =>
        intro q hq
        rw [List.zip_cons_cons] at hq
        rcases List.mem_cons.mp hq with h | h
        · subst h; exact r
        · exact ih q h
      | _ => trivial
    exact k r q hq
  · rw [List.append_nil, List.getElem?_map] at h
    cases e : (vs.zip ds)[i]? with
    | none => rw [e] at h; cases h
    | some q => rw [e] at h; injection h with h; injection h with h; injection h with _ h; cases h
end
end DL
/-! The data layer: defs, raise, parallel assignments. -/
namespace DL
open PySem PySem.Spec PyProof.Rows L2

/-! ### mixed lists -/
def fmNil : FM := ⟨fun _ τ Q => Q [] τ, fun _ h q => h _ _ q⟩
def fmE (a : FE) (r : FM) : FM := ⟨fun ex τ Q => a.run ex τ fun d τ1 => r.run ex τ1 fun xs τ2 => Q (.sh d :: xs) τ2, fun he h q => a.mono he (fun _ _ k => r.mono he (fun _ _ k => h _ _ k) k) q⟩
def fmO (a : FA) (r : FM) : FM := ⟨fun ex τ Q => a.run ex τ fun ds τ1 => r.run ex τ1 fun xs τ2 => Q (.ow ds :: xs) τ2, fun he h q => a.mono he (fun _ _ k => r.mono he (fun _ _ k => h _ _ k) k) q⟩
def setAll (τ : Tau) : List Nat → List Sl → Tau
  | i :: is, x :: xs => setAll (τ.set i (some x)) is xs
  | _, _ => τ
def fAsgM (is : List Nat) (fm : FM) : FS := ⟨fun ex E τ => fm.run ex τ fun xs τ1 => xs.length = is.length ∧ E.nx (setAll τ1 is xs), fun he h q => fm.mono he (fun _ _ k => ⟨k.1, h.nx _ k.2⟩) q⟩
section
variable {B : Bs} {G H : Hp} {C Θ T : List Cell} {v : V} {x : Sl} {i : Nat}
theorem SR.move (s : SR B G H C (Θ ++ some (v, x) :: T)) (hi : i < C.length) : SR B G H (C.set i (some (v, x))) (Θ ++ T) := by
  have hl : (C.set i (some (v, x))).length = C.length := List.length_set ..
  have get1 : ∀ {j : Nat} {y : Cell}, j ≠ i → (C.set i (some (v, x)) ++ (Θ ++ T))[j]? = some y → (C ++ (Θ ++ some (v, x) :: T))[if j < C.length + Θ.length then j else j + 1]? = some y := fun {j y} hj h => by
    by_cases h1 : j < C.length
    · rw [List.getElem?_append_left (by rw [hl]; exact h1), List.getElem?_set_ne (Ne.symm hj)] at h
      rw [if_pos (by omega), List.getElem?_append_left h1]; exact h
    · rw [List.getElem?_append_right (by rw [hl]; omega), hl] at h
      by_cases h2 : j < C.length + Θ.length
      · rw [List.getElem?_append_left (by omega)] at h
        rw [if_pos h2, List.getElem?_append_right (by omega), List.getElem?_append_left (by omega)]; exact h
      · rw [List.getElem?_append_right (by omega)] at h
        rw [if_neg h2, List.getElem?_append_right (by omega), List.getElem?_append_right (by omega)]
        have e : j + 1 - C.length - Θ.length = (j - C.length - Θ.length) + 1 := by omega
        rw [e, List.getElem?_cons_succ]; exact h
  have gi : (C.set i (some (v, x)) ++ (Θ ++ T))[i]? = some (some (v, x)) := by
    rw [List.getElem?_append_left (by rw [hl]; exact hi), List.getElem?_set_self hi]
  have gt : (C ++ (Θ ++ some (v, x) :: T))[C.length + Θ.length]? = some (some (v, x)) := by
    rw [List.getElem?_append_right (by omega), List.getElem?_append_right (by omega)]
    have e : C.length + Θ.length - C.length - Θ.length = 0 := by omega
    rw [e]; rfl
  refine ⟨s.sb, fun p hp => ?_, ?_⟩
  · obtain ⟨j, hj⟩ := List.getElem?_of_mem hp
    by_cases h : j = i
    · subst h
      rw [gi] at hj; injection hj with hj; injection hj with hj; subst hj
      exact s.rs _ (List.mem_of_getElem? gt)
    · exact s.rs p (List.mem_of_getElem? (get1 h hj))
  · refine s.inj.via (fun j => if j = i then C.length + Θ.length else if j < C.length + Θ.length then j else j + 1) (fun _ => True) (fun j w y h => ⟨trivial, ?_⟩) (fun j k _ _ hj hk e => ?_)
    · by_cases hji : j = i
      · subst hji
        rw [gi] at h; injection h with h
        rw [if_pos rfl, gt, h]
      · rw [if_neg hji]; exact get1 hji h
    · repeat' split at e
      all_goals omega
/-- temporaries into slots, from the left -/
theorem move_all {is : List Nat} : ∀ {vs : List V} {xs : List Sl} {C : List Cell} {σ : L2.St}, Fits C σ → SR B G H C (Θ ++ (vs.zip xs).map some) → vs.length = xs.length → xs.length = is.length → (∀ i ∈ is, i < C.length) →
    ∃ C' σ', Fits C' σ' ∧ SR B G H C' Θ ∧ sls C' = setAll (sls C) is xs ∧ σ' = (is.zip vs).foldl (fun s p => s.set p.1 (some p.2)) σ := by
  induction is with
  | nil =>
    intro vs xs C σ hf s h1 h2 h3
    cases xs with
    | cons x xs => cases h2
    | nil =>
      cases vs with
      | cons v vs => cases h1
      | nil => exact ⟨C, σ, hf, by rw [List.zip_nil_left, List.map_nil, List.append_nil] at s; exact s, rfl, rfl⟩
  | cons i is ih =>
    intro vs xs C σ hf s h1 h2 h3
    cases xs with
    | nil => cases h2
    | cons x xs =>
      cases vs with
      | nil => cases h1
      | cons v vs =>
        rw [List.zip_cons_cons, List.map_cons] at s
        obtain ⟨C', σ', k1, k2, k3, k4⟩ := ih (hf.put (i := i) (v := v) (s := x)) (s.move (h3 i List.mem_cons_self)) (by simpa using h1) (by simpa using h2) (fun j hj => by rw [List.length_set]; exact h3 j (List.mem_cons_of_mem _ hj))
        exact ⟨C', σ', k1, k2, by rw [k3, sls_set]; rfl, k4⟩
theorem len_two {α : Type} {l : List α} (h : l.length = 2) : ∃ a b, l = [a, b] := by
  match l, h with
  | [a, b], _ => exact ⟨a, b, rfl⟩
theorem len_three {α : Type} {l : List α} (h : l.length = 3) : ∃ a b c, l = [a, b, c] := by
  match l, h with
  | [a, b, c], _ => exact ⟨a, b, c, rfl⟩
end
section
variable {X : Cx} {B : Bs} {pos : Pos} {e : Expr} {es : List Expr} {fe : FE} {fo : FA} {fm : FM}
theorem dm_nil : DM X B [] fmNil := by
  refine ⟨paImp pa_nil fun σ H Q => ?_⟩
  rintro ⟨G, C, Θ, hf, s, q⟩
  exact q [] G H C hf rfl rfl (by rw [List.zip_nil_left, List.map_nil, List.append_nil]; exact s)
theorem dm_e (ha : DE X B e fe) (hr : DM X B es fm) (hs : starEach (e :: es) X.env = (false, eval e X.env) :: starEach es X.env := by rfl) : DM X B (e :: es) (fmE fe fm) := by
  refine ⟨paImp (pa_cons ha.pe hr.pa hs) fun σ H Q => ?_⟩
  rintro ⟨G, C, Θ, hf, s, q⟩
  refine ⟨G, C, Θ, hf, s, fe.mono (fun _ h => h) (fun d τ' q v G' H' C' h1 h2 s' r' => ?_) q⟩
  refine ⟨G', C', Θ ++ [some (v, .sh d)], h1, s'.push r', fm.mono (fun _ h => h) (fun xs τ2 q vs G2 H2 C2 k1 k2 hl s2 => ?_) (h2 ▸ q)⟩
  exact q (v :: vs) G2 H2 C2 k1 k2 (by rw [List.length_cons, List.length_cons, hl]) (by rw [List.zip_cons_cons, List.map_cons, List.append_cons]; exact s2)
theorem dm_o (ha : DO X B e fo) (hr : DM X B es fm) (hs : starEach (e :: es) X.env = (false, eval e X.env) :: starEach es X.env := by rfl) : DM X B (e :: es) (fmO fo fm) := by
  refine ⟨paImp (pa_cons ha.pe hr.pa hs) fun σ H Q => ?_⟩
  rintro ⟨G, C, Θ, hf, s, q⟩
  refine ⟨G, C, Θ, hf, s, fo.mono (fun _ h => h) (fun ds τ' q a G' H' C' h1 h2 s' => ?_) q⟩
  refine ⟨G', C', Θ ++ [some (.ref a, .ow ds)], h1, s', fm.mono (fun _ h => h) (fun xs τ2 q vs G2 H2 C2 k1 k2 hl s2 => ?_) (h2 ▸ q)⟩
  exact q (.ref a :: vs) G2 H2 C2 k1 k2 (by rw [List.length_cons, List.length_cons, hl]) (by rw [List.zip_cons_cons, List.map_cons, List.append_cons]; exact s2)
/-- a, b = x, y with plain local names -/
theorem ds_par2 {i j : Nat} {x y : Str} {a b : Expr} {px py pt : Pos} {kt k2 pt2} (hc : X.calm = true) (hN : X.N.Nodup) (hi : X.N[i]? = some x) (hj : X.N[j]? = some y) (hij : i ≠ j)
    (hx : X.env.scope.names.lookup x = some .local) (hy : X.env.scope.names.lookup y = some .local) (ha : DM X B [a, b] fm)
    (hw : swappedStores [.Tuple [.Name x px, .Name y py] kt pt] (.Tuple [a, b] k2 pt2) X.env = pure (some [x, y]))
    (hs : swapsWithSole [.Tuple [.Name x px, .Name y py] kt pt] (.Tuple [a, b] k2 pt2) pos.line X.env = pure false := by rfl) :
    DS X B (.Assign [.Tuple [.Name x px, .Name y py] kt pt] (.Tuple [a, b] k2 pt2) pos) (fAsgM [i, j] fm) := by
  refine ⟨⟨fun pins s0 σ H D' I h => (ps_par hc hN hi hj hij hx hy ha.pa hw hs).run pins s0 σ H D' I ?_⟩⟩
  obtain ⟨G, C, Θ, hft, s, q⟩ := h
  refine ⟨G, C, Θ, hft, s, fm.mono (fun _ h => h) (fun xs τ1 k vs G' H' C' m1 m2 hl s' => ?_) q⟩
  have hlt : ∀ z ∈ [i, j], z < C'.length := fun z hz => by
    rw [m1.1, I.len]
    rcases List.mem_cons.mp hz with h | h
    · subst h; exact (List.getElem?_eq_some_iff.mp hi).1
    · rw [List.mem_singleton] at h; subst h; exact (List.getElem?_eq_some_iff.mp hj).1
  obtain ⟨k1, k2⟩ := k
  obtain ⟨C2, σ2, n1, n2, n3, n4⟩ := move_all m1 s' hl k1 hlt
  obtain ⟨v, w, rfl⟩ := len_two (hl.trans k1)
  refine ⟨v, w, rfl, ?_⟩
  subst m2
  have := k2 G' H' C2 σ2 n1 n3 n2
  rw [n4] at this
  exact this
theorem ds_par3 {i j l : Nat} {x y z : Str} {a b c : Expr} {px py pz pt : Pos} {kt k2 pt2} (hc : X.calm = true) (hN : X.N.Nodup) (hi : X.N[i]? = some x) (hj : X.N[j]? = some y) (hl : X.N[l]? = some z) (hij : i ≠ j) (hil : i ≠ l) (hjl : j ≠ l)
    (hx : X.env.scope.names.lookup x = some .local) (hy : X.env.scope.names.lookup y = some .local) (hz : X.env.scope.names.lookup z = some .local) (ha : DM X B [a, b, c] fm)
    (hw : swappedStores [.Tuple [.Name x px, .Name y py, .Name z pz] kt pt] (.Tuple [a, b, c] k2 pt2) X.env = pure (some [x, y, z]))
    (hs : swapsWithSole [.Tuple [.Name x px, .Name y py, .Name z pz] kt pt] (.Tuple [a, b, c] k2 pt2) pos.line X.env = pure false := by rfl) :
    DS X B (.Assign [.Tuple [.Name x px, .Name y py, .Name z pz] kt pt] (.Tuple [a, b, c] k2 pt2) pos) (fAsgM [i, j, l] fm) := by
  refine ⟨⟨fun pins s0 σ H D' I h => (ps_par3 hc hN hi hj hl hij hil hjl hx hy hz ha.pa hw hs).run pins s0 σ H D' I ?_⟩⟩
  obtain ⟨G, C, Θ, hft, s, q⟩ := h
  refine ⟨G, C, Θ, hft, s, fm.mono (fun _ h => h) (fun xs τ1 k vs G' H' C' m1 m2 hl' s' => ?_) q⟩
  have hlt : ∀ u ∈ [i, j, l], u < C'.length := fun u hu => by
    rw [m1.1, I.len]
    rcases List.mem_cons.mp hu with h | h
    · subst h; exact (List.getElem?_eq_some_iff.mp hi).1
    · rcases List.mem_cons.mp h with h | h
      · subst h; exact (List.getElem?_eq_some_iff.mp hj).1
      · rw [List.mem_singleton] at h; subst h; exact (List.getElem?_eq_some_iff.mp hl).1
  obtain ⟨k1, k2⟩ := k
  obtain ⟨C2, σ2, n1, n2, n3, n4⟩ := move_all m1 s' hl' k1 hlt
  obtain ⟨v, w, u, rfl⟩ := len_three (hl'.trans k1)
  refine ⟨v, w, u, rfl, ?_⟩
  subst m2
  have := k2 G' H' C2 σ2 n1 n3 n2
  rw [n4] at this
  exact this
/-- names, one after another, as the targets of a tuple -/
def gNames : List Nat → TGs
  | [] => gNil
  | i :: is => gCons (gName i) (gNames is)
theorem gNames_run {Q : L2.St → Hp → Prop} {H : Hp} : ∀ {is : List Nat} {vs : List V} {σ : L2.St}, vs.length = is.length → Q ((is.zip vs).foldl (fun s p => s.set p.1 (some p.2)) σ) H → gNames is vs σ H Q
  | [], [], _, _, q => ⟨rfl, q⟩
  | i :: is, v :: vs, σ, h, q => ⟨v, vs, rfl, gNames_run (is := is) (by simpa using h) q⟩
structure DNs (X : Cx) (es : List Expr) (is : List Nat) : Prop where
  pg : PGs X es (gNames is)
  ok : ∀ i ∈ is, ∃ x, X.N[i]? = some x
theorem dns_nil : DNs X [] [] := ⟨pgs_nil, fun _ h => nomatch h⟩
theorem dns_cons {x : Str} {px : Pos} {i : Nat} {is : List Nat} (hN : X.N.Nodup) (hi : X.N[i]? = some x) (hx : Loc X.env.scope x) (r : DNs X es is) (hf : X.fn x = true ∨ X.env.scope.names.lookup x = some .local := by first | exact .inl rfl | exact .inr rfl | assumption)
    (hs : (assignEach (.Name x px :: es) X.env).map (·.2) = assign (.Name x px) X.env :: (assignEach es X.env).map (·.2) := by rfl) : DNs X (.Name x px :: es) (i :: is) := by
  refine ⟨pgs_cons (pg_name hN hi hx hf) r.pg hs, fun j hj => ?_⟩
  rcases List.mem_cons.mp hj with h | h
  · subst h; exact ⟨x, hi⟩
  · exact r.ok j h
theorem ds_asgM {ts : List Expr} {is : List Nat} {k1 k2 : Nat} {pt pt2 : Pos} (hc : X.calm = true) (ha : DM X B es fm) (hg : DNs X ts is) (hn : (assignEach ts X.env).length = is.length := by rfl) (hst : (assignEach ts X.env).findIdx? (·.1) = none := by rfl) (hsz : is.length ≤ 1000 := by decide)
    (hs : swapsWithSole [.Tuple ts k1 pt] (.Tuple es k2 pt2) pos.line X.env = pure false := by rfl) (hw : swappedStores [.Tuple ts k1 pt] (.Tuple es k2 pt2) X.env = pure none := by rfl)
    (h1 : (assignEach [.Tuple ts k1 pt] X.env).map (·.2) = [assign (.Tuple ts k1 pt) X.env] := by rfl) :
    DS X B (.Assign [.Tuple ts k1 pt] (.Tuple es k2 pt2) pos) (fAsgM is fm) := by
  refine ⟨⟨fun pins s0 σ H D' I h => (ps_asg (pe_tup ha.pa) (pg_tup hc hg.pg hn hst) hs hw h1).run pins s0 σ H D' I ?_⟩⟩
  obtain ⟨G, C, Θ, hft, s, q⟩ := h
  refine ⟨G, C, Θ, hft, s, fm.mono (fun _ h => h) (fun xs τ1 k vs G' H' C' m1 m2 hl' s' => ?_) q⟩
  obtain ⟨k1, k2⟩ := k
  have hz : vs.length ≤ sizeLine := by
    rw [hl', k1, sizeLine_eq]; omega
  refine ⟨hz, fun p hp => ?_⟩
  have s2 := s'.step (Step.own (o := .tup vs) s'.sb hp)
  have hlt : ∀ u ∈ is, u < C'.length := fun u hu => by
    obtain ⟨x, hx⟩ := hg.ok u hu
    rw [m1.1, I.len]
    exact (List.getElem?_eq_some_iff.mp hx).1
  obtain ⟨C2, σ2, n1, n2, n3, n4⟩ := move_all m1 s2 hl' k1 hlt
  refine ⟨p, vs, rfl, SqT.of upd_same, by rw [hl', k1], gNames_run (by rw [hl', k1]) ?_⟩
  subst m2
  have := k2 G' _ C2 σ2 n1 n3 n2
  rw [n4] at this
  exact this
end

/-! ### raise -/
section
variable {X : Cx} {C : Addr} {bmB : List Value} {BN newId initId : String}
/-- X(), an own exception class without own __init__ -/
theorem pmk_own0 {x : Str} {p pos : Pos} (F : ExcBaseFacts BN newId initId bmB) (q : PySem.W.excIn X.K C bmB newId = true) (gC : X.mg x = some (.ref C)) (kC : PySem.W.keepIn X.K (.ref C) = true) (r : Raises X (.ref C)) (hg : Gl X x)
    (hdb : (x == ("__debug__" : Str)) = false := by decide) : PMk X (.Call (.Name x p) [] [] pos) (fun _ H Q => Q (.ref C) none H) := by
  intro pins s σ H Q I h
  refine wpAny_Call_Name_kw (ld_glob I hg gC ?_ hdb)
  refine PySem.W.callWith_K0 I.kIn kC ?_
  show wpAny _ _ (call (.ref C) []) _ _ _
  obtain ⟨bm, N, nm, qn, bs, hdct, sn, sub, ab, col, dd, k0, k1, k2, k3, k5, mN, hC, hN, hni, T⟩ := exc_obj I.kIn q
  refine wpAny_call_exc_subT F T hC hN hni (fun h' e hm => ?_) (by show 0 ≤ sizeLine; exact Nat.zero_le _)
  exact mk_of I hm r h (I.hok.gone hm.new)
/-- what is known of an own exception class -/
structure ExcT (K : PySem.W.Frag) (mg : Str → Option Value) (x : Str) (C : Addr) : Prop where
  mg : mg x = some (.ref C)
  ex : PySem.W.excIn K C [.type "Exception", .type "BaseException", .type "object"] "Exception.__new__" = true
  kp : PySem.W.keepIn K (.ref C) = true
  sub : PySem.W.subIn K (.ref C) (.type "BaseException") = some true
  ty : PySem.W.typeIn K (.ref C) = some (.type "type")
theorem ds_raise {B : Bs} {x : Str} {p pos pos2 : Pos} (T : ExcT X.K X.mg x C) (tk : Takes X (fun cls d _ H => B.ew cls d H)) (hc : X.calm = true := by rfl) (hg : Gl X x := by rfl) (hdb : (x == ("__debug__" : Str)) = false := by decide) :
    DS X B (.Raise (some (.Call (.Name x p) [] [] pos)) none pos2) (fRaise C) := by
  refine ⟨psImp (ps_raise hc tk (pmk_own0 PySem.F.excBase_Exception T.ex T.mg T.kp (raises_own T.sub T.ty) hg hdb)) fun D' σ H => ?_⟩
  rintro ⟨G, Cs, Θ, hf, s, q⟩
  exact q G H s.sb
end

/-! ### defs -/
section
variable {P : Program} {w : World} {K : PySem.W.Frag} {mg : Str → Option Value} {base : Heap}
def endD (Q : D → Prop) : DEnds := ⟨fun _ => Q .non, Q, fun _ => False, fun _ => False⟩
/-- THE RULE for a def over data -/
theorem okD {x qual : Str} {st : Stmt} {f : Addr} {fd : FuncData} {N ps : List Str} {k : Nat} {φ : DSp} (F : Fun K x qual st f fd) (S : FnScope N ps (defScope st)) (hm : mg x = some (.ref f)) (hb : Binds K fd ps [])
    (len : ∀ ex ds Q, φ.run ex ds Q → ds.length = ps.length)
    (body : ∀ (cdv : Value) (A : Around) (outer : List Env) (s : Shared) (H : Hp) (E : XK) (pa : Option Addr) (G : Hp), Room k (A.deeper (envOfC qual (defScope st) s.heap.objs.size f cdv)) →
      ∃ Fs, DSs (cxOf (L2.CX P w) P w K mg base N qual (defScope st) f cdv A outer s H E) ⟨K, pa, G, H, E⟩ (defBody st) Fs ∧ ∀ ex ds Q, φ.run ex ds Q → Fs.run ex (endD Q) (startD N.length ds)) :
    DFn P w K mg base (k + 1) x ps φ := by
  refine ⟨f, fd, F.okX S (fun vs H Q E h => ?_) (fun cdv A outer s H vs Q E hr h => ?_), hm, F.kp, hb⟩
  · obtain ⟨G, pa, ds, _, _, r, q⟩ := h
    rw [r.length]; exact len _ _ _ q
  · obtain ⟨G, pa, ds, pl, sm, r, q⟩ := h
    obtain ⟨Fs, hF, run⟩ := body cdv A outer s H E pa G hr
    refine ⟨_, hF.ps, ?_⟩
    have sb : SB ⟨K, pa, G, H, E⟩ G H := ⟨fun _ _ _ h => h, Same.refl G, fun _ _ h => .inl h, sm, pl⟩
    have hl := len _ _ _ q
    have hlv : vs.length = ps.length := by rw [r.length]; exact hl
    have s0 := RepAll.start (B := ⟨K, pa, G, H, E⟩) sb r
    let C : List Cell := (vs.zip ds).map (fun p => some (p.1, Sl.sh p.2)) ++ List.replicate (N.length - vs.length) none
    have hzl : ((vs.zip ds).map (fun p => (some (p.1, Sl.sh p.2) : Cell))).length = vs.length := by rw [List.length_map, List.length_zip, r.length, Nat.min_self]
    have hC : SR ⟨K, pa, G, H, E⟩ G H C [] := by
      refine ⟨sb, fun p hp => ?_, fun i j v y y' h => ?_⟩
      · rw [List.append_nil] at hp
        rcases List.mem_append.mp hp with h | h
        · exact s0.rs p (List.mem_append_left _ h)
        · have := (List.mem_replicate.mp h).2; cases this
      · rw [List.append_nil] at h
        intro _
        exfalso
        by_cases hi : i < vs.length
        · rw [List.getElem?_append_left (by rw [hzl]; exact hi), List.getElem?_map] at h
          cases e : (vs.zip ds)[i]? with
          | none => rw [e] at h; cases h
          | some q => rw [e] at h; injection h with h; injection h with h; injection h with _ h; cases h
        · rw [List.getElem?_append_right (by rw [hzl]; omega)] at h
          have := List.mem_of_getElem? h
          have := (List.mem_replicate.mp this).2; cases this
    have hfit : Fits C (start N vs) := by
      refine ⟨?_, fun i v y h => ?_⟩
      · show (_ ++ _ : List Cell).length = (_ ++ _ : L2.St).length
        rw [List.length_append, hzl, List.length_replicate, List.length_append, List.length_map, List.length_replicate]
      · show (vs.map some ++ List.replicate (N.length - vs.length) none)[i]? = some (some v)
        by_cases hi : i < vs.length
        · have h : ((vs.zip ds).map (fun p => (some (p.1, Sl.sh p.2) : Cell)) ++ List.replicate (N.length - vs.length) none)[i]? = some (some (v, y)) := h
          rw [List.getElem?_append_left (by rw [hzl]; exact hi), List.getElem?_map] at h
          rw [List.getElem?_append_left (by rw [List.length_map]; exact hi), List.getElem?_map]
          cases e : (vs.zip ds)[i]? with
          | none => rw [e] at h; cases h
          | some q =>
            rw [e] at h; injection h with h; injection h with h; injection h with h _; subst h
            have := List.getElem?_zip_eq_some.mp e
            rw [this.1]; rfl
        · have h : ((vs.zip ds).map (fun p => (some (p.1, Sl.sh p.2) : Cell)) ++ List.replicate (N.length - vs.length) none)[i]? = some (some (v, y)) := h
          rw [List.getElem?_append_right (by rw [hzl]; omega)] at h
          have := List.mem_of_getElem? h
          have := (List.mem_replicate.mp this).2; cases this
    have hsls : sls C = startD N.length ds := by
      show (_ ++ _ : List Cell).map _ = _
      rw [List.map_append, List.map_map, List.map_replicate]
      unfold startD
      congr 1
      · have k : ∀ {ws : List V} {es : List D}, ws.length = es.length → (ws.zip es).map (Option.map Prod.snd ∘ fun p => (some (p.1, Sl.sh p.2) : Cell)) = es.map fun d => some (Sl.sh d) := fun {ws es} => by
          induction ws generalizing es with
          | nil => intro h; cases es with
            | nil => rfl
            | cons e es => cases h
          | cons w ws ih => intro h; cases es with
            | nil => cases h
            | cons e es =>
              rw [List.zip_cons_cons, List.map_cons, List.map_cons, ih (by simpa using h)]; rfl
        exact k r.length
      · rw [r.length]; rfl
    refine ⟨G, C, [], hfit, hC, ?_⟩
    have q2 := run _ ds _ q
    rw [hsls]
    refine FS.go q2 (fun c k G' H' s' => k G' H' (sb_of.mp s')) ⟨fun τ k G' H' C' σ' _ _ s' => k .non G' H' (sb_of.mp s'.sb) .non, fun d k v G' H' s' r' => k v G' H' (sb_of.mp s') r', fun _ k => k.elim, fun _ k => k.elim⟩
theorem gSp_go {A : Type} {dom : A → List D} {res : A → D → Prop} {exc : A → Addr → Prop} {Fs : FS} {n : Nat} (h : ∀ a, Fs.run (exc a) (endD (res a)) (startD n (dom a))) : ∀ ex ds Q, (gSp dom res exc).run ex ds Q → Fs.run ex (endD Q) (startD n ds) := fun ex ds Q ⟨a, e, h1, h2⟩ => by
  subst e
  exact FS.go (h a) h2 ⟨fun _ k => h1 _ k, h1, fun _ k => k, fun _ k => k⟩
theorem gSp_len {A : Type} {dom : A → List D} {res : A → D → Prop} {exc : A → Addr → Prop} {n : Nat} (h : ∀ a, (dom a).length = n) : ∀ ex ds Q, (gSp dom res exc).run ex ds Q → ds.length = n := fun ex ds Q ⟨a, e, _, _⟩ => by rw [e]; exact h a
end
end DL
/-! The data layer: reads of a slot that leave it as it is; chains; extend. -/
namespace DL
open PySem PySem.Spec PyProof.Rows L2

/-- what a slot holds, as a datum -/
def slD : Option (Option Sl) → Option D
  | some (some (.sh d)) => some d
  | some (some (.ow ds)) => some (.lst ds)
  | _ => none
def fLenV (i : Nat) : FE := ⟨fun _ τ Q => match slD τ[i]? with
    | some d => gLen.run [d] fun z => Q z τ
    | none => False, fun {_ _ τ _ _} _ h q => by
      cases e : slD τ[i]? with
      | some d => simp only [e] at q ⊢; exact gLen.mono (fun _ => h _ _) q
      | none => simp only [e] at q⟩
def fTruV (i : Nat) : FT := ⟨fun _ τ Q => match slD τ[i]? with
    | some d => (match d with
      | .bl b => Q b τ
      | .int i => Q (i != 0) τ
      | .lst ds => Q (!ds.isEmpty) τ
      | .tup ds => Q (!ds.isEmpty) τ
      | .non => Q false τ
      | .str x => x.length ≤ sizeLine ∧ Q ((x.length : Int) != 0) τ
      | _ => False)
    | none => False, fun {_ _ τ _ _} _ h q => by
      cases e : slD τ[i]? with
      | some d => simp only [e] at q ⊢; cases d <;> first | exact h _ _ q | exact ⟨q.1, h _ _ q.2⟩ | exact q
      | none => simp only [e] at q⟩
def fIxV (i : Nat) (fb : FE) : FE := ⟨fun ex τ Q => (slD τ[i]?).isSome = true ∧ fb.run ex τ fun e τ1 => match slD τ1[i]? with
    | some d => gIx.run d e fun z => Q z τ1
    | none => False, fun he h q => ⟨q.1, fb.mono he (fun e τ1 k => by
      cases e : slD τ1[i]? with
      | some d => simp only [e] at k ⊢; exact gIx.mono (fun _ => h _ _) k
      | none => simp only [e] at k) q.2⟩⟩
/-- a slot's datum in the heap itself -/
inductive RepH (K : PySem.W.Frag) (pa : Option Addr) (G H : Hp) : V → D → Prop where
  | sh {v : V} {d : D} : Rep K pa G v d → RepH K pa G H v d
  | ow {a : Addr} {vs : List V} {ds : List D} : H a = some (.lst vs) → RepAll K pa G vs ds → RepH K pa G H (.ref a) (.lst ds)
theorem slot_at {B : Bs} {G H : Hp} {C : List Cell} {Θ : Tmp} {σ : L2.St} {i : Nat} {d : D} (s : SR B G H C Θ) (hf : Fits C σ) (h : slD (sls C)[i]? = some d) : ∃ v, σ[i]? = some (some v) ∧ RepH B.K B.pa G H v d := by
  match e : (sls C)[i]? with
  | some (some (.sh d')) =>
    rw [e] at h; injection h with h; subst h
    obtain ⟨v, hc⟩ := sls_get e
    exact ⟨v, hf.2 _ _ _ hc, .sh (s.rs _ (List.mem_append_left _ (List.mem_of_getElem? hc)))⟩
  | some (some (.ow ds)) =>
    rw [e] at h; injection h with h; subst h
    obtain ⟨a, vs, hc, hσ, hH, r⟩ := own_at s hf e
    exact ⟨.ref a, hσ, .ow hH r⟩
  | some none => rw [e] at h; cases h
  | none => rw [e] at h; cases h
section
variable {X : Cx} {B : Bs} {pos p1 p2 px : Pos} {b e : Expr} {fb fe : FE} {x : Str}
theorem de_lenV (i : Nat) (hm : X.mg "len" = none) (hN : X.N[i]? = some x := by rfl) (hv : Vis X.env.scope x := by first | exact Or.inl rfl | exact Or.inr (Or.inl rfl) | exact Or.inr (Or.inr rfl)) (hd : (x == ("__debug__" : Str)) = false := by decide) (hcd : (x == ("__classdict__" : Str)) = false := by decide)
    (hg : Gl X "len" := by rfl) (he : starEach [.Name x px] X.env = (false, eval (.Name x px) X.env) :: starEach [] X.env := by rfl) (hpl : (backTo pos (starEach [] X.env)).any (·.1) = false := by rfl) (hK : B.K = X.K := by rfl) :
    DE X B (.Call (.Name "len" p1) [.Name x px] [] pos) (fLenV i) := by
  refine ⟨peImp (pe_callB call_len hg hm PySem.boot_len (pa_cons (pe_var hN hv hd hcd) pa_nil he) (by decide) (by decide) he hpl) fun σ H Q => ?_⟩
  rintro ⟨G, C, Θ, hf, s, q⟩
  have q : (match slD (sls C)[i]? with
    | some d => gLen.run [d] fun z => ∀ v G' H' C', Fits C' σ → sls C' = sls C → SR B G' H' C' Θ → Rep B.K B.pa G' v z → Q v H'
    | none => False) := q
  cases e : slD (sls C)[i]? with
  | none => simp only [e] at q
  | some d =>
    simp only [e] at q
    obtain ⟨v, hσ, r⟩ := slot_at s hf e
    refine ⟨v, hσ, ?_⟩
    cases r with
    | sh r => exact snd_len hK [v] [d] G H Q s.sb (.cons r .nil) (gLen.mono (fun z k w G2 H2 t r2 => k w G2 H2 C hf rfl (s.step t) r2) q)
    | @ow a vs ds hH r => exact ⟨.ref a, ds.length, rfl, .inl ⟨vs, SqL.of hH, r.length.symm⟩, q _ G H C hf rfl s (.int _)⟩
theorem dt_truV (i : Nat) (hN : X.N[i]? = some x := by rfl) (hv : Vis X.env.scope x := by first | exact Or.inl rfl | exact Or.inr (Or.inl rfl) | exact Or.inr (Or.inr rfl)) (hd : (x == ("__debug__" : Str)) = false := by decide) (hcd : (x == ("__classdict__" : Str)) = false := by decide) (hK : B.K = X.K := by rfl) :
    DT X B (.Name x px) (fTruV i) := by
  refine ⟨ptImp (pt_truth (pe_var hN hv hd hcd) (by intro _; rfl)) fun σ H Q => ?_⟩
  rintro ⟨G, C, Θ, hf, s, q⟩
  have q : (match slD (sls C)[i]? with
    | some d => (match d with
      | .bl b => ∀ G' H' C', Fits C' σ → sls C' = sls C → SR B G' H' C' Θ → Q b H'
      | .int i => ∀ G' H' C', Fits C' σ → sls C' = sls C → SR B G' H' C' Θ → Q (i != 0) H'
      | .lst ds => ∀ G' H' C', Fits C' σ → sls C' = sls C → SR B G' H' C' Θ → Q (!ds.isEmpty) H'
      | .tup ds => ∀ G' H' C', Fits C' σ → sls C' = sls C → SR B G' H' C' Θ → Q (!ds.isEmpty) H'
      | .non => ∀ G' H' C', Fits C' σ → sls C' = sls C → SR B G' H' C' Θ → Q false H'
      | .str x => x.length ≤ sizeLine ∧ ∀ G' H' C', Fits C' σ → sls C' = sls C → SR B G' H' C' Θ → Q ((x.length : Int) != 0) H'
      | _ => False)
    | none => False) := q
  cases e : slD (sls C)[i]? with
  | none => simp only [e] at q
  | some d =>
    simp only [e] at q
    obtain ⟨v, hσ, r⟩ := slot_at s hf e
    refine ⟨v, hσ, ?_⟩
    cases r with
    | @ow a vs ds hH r =>
      refine ⟨_, .inl ⟨vs, SqL.of hH, rfl⟩, ?_⟩
      have e : (!vs.isEmpty) = !ds.isEmpty := by cases r <;> rfl
      rw [e]
      exact q G H C hf rfl s
    | sh r =>
      cases r with
      | non => exact ⟨false, rfl, q G H C hf rfl s⟩
      | bl b => exact ⟨b, rfl, q G H C hf rfl s⟩
      | int i => exact ⟨_, rfl, q G H C hf rfl s⟩
      | str x => exact ⟨_, ⟨q.1, rfl⟩, q.2 G H C hf rfl s⟩
      | @lst a xs ds h r => exact ⟨_, .inl ⟨xs, SqL.of (s.sb.same _ _ h), rfl⟩, by
          have e : (!xs.isEmpty) = !ds.isEmpty := by cases r <;> rfl
          rw [e]; exact q G H C hf rfl s⟩
      | @tup a xs ds h r => exact ⟨_, .inr (.inl ⟨xs, hK ▸ sameT s.sb.same h, rfl⟩), by
          have e : (!xs.isEmpty) = !ds.isEmpty := by cases r <;> rfl
          rw [e]; exact q G H C hf rfl s⟩
      | dct h => exact q.elim
      | pool h => exact q.elim
      | scr h r => exact q.elim
      | adr h => exact q.elim
theorem de_ixV (i : Nat) (hb : DE X B b fb) (hN : X.N[i]? = some x := by rfl) (hv : Vis X.env.scope x := by first | exact Or.inl rfl | exact Or.inr (Or.inl rfl) | exact Or.inr (Or.inr rfl)) (hd : (x == ("__debug__" : Str)) = false := by decide)
    (hcd : (x == ("__classdict__" : Str)) = false := by decide) (hs : PlainIx b := by intro _ _; rfl) (hK : B.K = X.K := by rfl) : DE X B (.Subscript (.Name x px) b pos) (fIxV i fb) := by
  refine ⟨peImp (pe_ix ix_seq (pe_var hN hv hd hcd) hb.pe hs) fun σ H Q => ?_⟩
  rintro ⟨G, C, Θ, hf, s, q0, q⟩
  obtain ⟨d0, e0⟩ := Option.isSome_iff_exists.mp q0
  obtain ⟨v, hσ, _⟩ := slot_at s hf e0
  refine ⟨v, hσ, G, C, Θ, hf, s, fb.mono (fun _ h => h) (fun e τ1 k w G' H' C' k1 k2 s' r => ?_) q⟩
  subst k2
  cases e1 : slD (sls C')[i]? with
  | none => simp only [e1] at k
  | some d =>
    simp only [e1] at k
    obtain ⟨v', hσ', r'⟩ := slot_at s' k1 e1
    rw [hσ] at hσ'; injection hσ' with hσ'; injection hσ' with hσ'; subst hσ'
    cases r' with
    | sh r' => exact snd_ix hK v w d e G' H' Q s'.sb r' r (gIx.mono (fun z k u G2 H2 t r2 => k u G2 H2 C' k1 rfl (s'.step t) r2) k)
    | @ow a vs ds hH r' =>
      cases r with
      | int j =>
        obtain ⟨z, h1, h2⟩ := k
        obtain ⟨u, h3, h4⟩ := r'.atI h1
        exact .inl ⟨a, vs, j, u, rfl, rfl, SqL.of hH, h3, h2 u G' H' C' k1 rfl s' h4⟩
      | _ => exact False.elim k
end

/-! ### chains of two comparisons -/
def fChain (g g' : F2) (a b c : FE) : FE := ⟨fun ex τ Q => a.run ex τ fun d τ1 => b.run ex τ1 fun e τ2 => g.run d e fun z => match z with
    | .bl k => if k = true then c.run ex τ2 fun f τ3 => g'.run e f fun z => Q z τ3 else Q (.bl false) τ2
    | _ => False, fun he h q => a.mono he (fun _ _ k => b.mono he (fun _ _ k => g.mono (fun z k => by
      cases z with
      | bl b => cases b with
        | true => dsimp only at k ⊢; rw [if_pos rfl] at k ⊢; exact c.mono he (fun _ _ k => g'.mono (fun _ => h _ _) k) k
        | false => dsimp only at k ⊢; rw [if_neg Bool.false_ne_true] at k ⊢; exact h _ _ k
      | _ => exact k) k) k) q⟩
section
variable {X : Cx} {B : Bs} {pos : Pos} {a b c : Expr} {fa fb fc : FE}
theorem lift_chain {r r' : V → V → Hp → VK → Prop} {g g' : F2} (h1 : Snd2 B r g) (h2 : Snd2 B r' g') {σ : L2.St} {H : Hp} {Q : VK} (h : liftE B (fChain g g' fa fb fc) σ H Q) : tChain r r' (liftE B fa) (liftE B fb) (liftE B fc) σ H Q := by
  obtain ⟨G, C, Θ, hf, s, q⟩ := h
  refine ⟨G, C, Θ, hf, s, fa.mono (fun _ h => h) (fun d τ' q v G1 H1 C1 k1 k2 s1 r1 => ?_) q⟩
  refine ⟨G1, C1, Θ ++ [some (v, .sh d)], k1, s1.push r1, fb.mono (fun _ h => h) (fun e τ2 q w G2 H2 C2 m1 m2 s2 r2 => ?_) (k2 ▸ q)⟩
  have r1' : Rep B.K B.pa G2 v d := s2.last (x := .sh d)
  refine h1 v w d e G2 H2 _ s2.sb r1' r2 (g.mono (fun z k u G3 H3 t r3 => ?_) q)
  cases r3 with
  | bl b =>
    refine ⟨b, rfl, ?_⟩
    have s3 := (s2.pop.step t)
    have r2' := r2.mono t.grow
    cases b with
    | true =>
      dsimp only at k
      rw [if_pos rfl] at k ⊢
      refine ⟨G3, C2, Θ ++ [some (w, .sh e)], m1, s3.push r2', fc.mono (fun _ h => h) (fun f τ3 q x G4 H4 C4 n1 n2 s4 r4 => ?_) (m2 ▸ k)⟩
      have r2'' : Rep B.K B.pa G4 w e := s4.last (x := .sh e)
      exact h2 w x e f G4 H4 _ s4.sb r2'' r4 (g'.mono (fun z k y G5 H5 t r5 => k y G5 H5 C4 n1 n2 (s4.pop.step t) r5) q)
    | false =>
      dsimp only at k
      rw [if_neg Bool.false_ne_true] at k ⊢
      exact k _ G3 H3 C2 m1 m2 s3 (.bl _)
  | _ => exact False.elim k
theorem de_chain {op op' : CmpOp} {r r' : V → V → Hp → VK → Prop} {g g' : F2} (ho : OpR X (compareOp op) r) (ho' : OpR X (compareOp op') r') (h1 : Snd2 B r g) (h2 : Snd2 B r' g') (ha : DE X B a fa) (hb : DE X B b fb) (hc : DE X B c fc)
    (hm : lastMarks [op, op'] [b, c] = false := by with_unfolding_all rfl) : DE X B (.Compare a [op, op'] [b, c] pos) (fChain g g' fa fb fc) :=
  ⟨peImp (pe_chain ho ho' ha.pe hb.pe hc.pe hm) fun _ _ _ => lift_chain h1 h2⟩
theorem dt_chain {op op' : CmpOp} {r r' : V → V → Hp → VK → Prop} {g g' : F2} (ho : OpR X (compareOp op) r) (ho' : OpR X (compareOp op') r') (h1 : Snd2 B r g) (h2 : Snd2 B r' g') (ha : DE X B a fa) (hb : DE X B b fb) (hc : DE X B c fc)
    (hm : lastMarks [op, op'] [b, c] = false := by with_unfolding_all rfl) : DT X B (.Compare a [op, op'] [b, c] pos) (fTB (fChain g g' fa fb fc)) :=
  ⟨ptImp (pt_chain ho ho' ha.pe hb.pe hc.pe hm) fun _ _ _ h => lift_chain h1 h2 (lift_tb h)⟩
theorem snd_lt : Snd2 B (rI0 fun i j => .bl (decide (i < j))) gLt := snd_I2 fun _ _ _ => .bl _
theorem snd_le : Snd2 B (rI0 fun i j => .bl (decide (i ≤ j))) gLe := snd_I2 fun _ _ _ => .bl _
end

/-! ### extend -/
def fExt (i : Nat) (fe : FE) : FS := ⟨fun ex E τ => (∃ ds, τ[i]? = some (some (.ow ds))) ∧ fe.run ex τ fun d τ1 => ∃ ds es, τ1[i]? = some (some (.ow ds)) ∧ d = .lst es ∧ ds.length + es.length ≤ sizeLine ∧ E.nx (τ1.set i (some (.ow (ds ++ es)))),
  fun he h q => ⟨q.1, fe.mono he (fun _ _ ⟨ds, es, h1, h2, h3, h4⟩ => ⟨ds, es, h1, h2, h3, h.nx _ h4⟩) q.2⟩⟩
section
variable {X : Cx} {B : Bs} {pos p1 p2 px : Pos} {e : Expr} {fe : FE} {x : Str}
theorem ds_extend (i : Nat) (he : DE X B e fe) (hN : X.N[i]? = some x := by rfl) (hv : Vis X.env.scope x := by first | exact Or.inl rfl | exact Or.inr (Or.inl rfl) | exact Or.inr (Or.inr rfl)) (hd : (x == ("__debug__" : Str)) = false := by decide) (hcd : (x == ("__classdict__" : Str)) = false := by decide)
    (hst : starEach [e] X.env = (false, eval e X.env) :: starEach [] X.env := by rfl) (hbase : attributeBase (.Name x px) "extend" X.env (eval (.Name x px) X.env) = eval (.Name x px) X.env := by rfl) (hline : (p1.endLine == p2.line) = true := by rfl)
    (hfew : (((backTo p2 (starEach [e] X.env)).all (!·.1)) && ((backToKw p2 (keywordEach [] X.env)).all (·.1.isSome)) && decide (([e].length + ([] : List Keyword).length + if ([] : List Keyword).isEmpty then 0 else 1) < 30)) = true := by rfl)
    (hs : swapsWith (.Call (.Attribute (.Name x px) "extend" p1) [e] [] p2) none pos.line X.env = pure false := by rfl) :
    DS X B (.Expr (.Call (.Attribute (.Name x px) "extend" p1) [e] [] p2) pos) (fExt i fe) := by
  refine ⟨psImp (ps_expr (pe_bm PySem.F.plainAttrs_list PySem.F.slot_list_extend PySem.F.type_list_extend mt_extend (pe_var hN hv hd hcd) (pa_cons he.pe pa_nil hst) hbase hfew hline hst) hs) fun D' σ H => ?_⟩
  rintro ⟨G, C, Θ, hf, s, ⟨ds0, q0⟩, q⟩
  obtain ⟨a, vs, hc, hσ, hH, r⟩ := own_at s hf q0
  refine ⟨.ref a, hσ, .inl ⟨rfl, _, SqL.of hH⟩, G, C, Θ, hf, s, fe.mono (fun _ h => h) (fun d τ1 k v G1 H1 C1 m1 m2 s1 r1 => ?_) q⟩
  obtain ⟨ds, es, h1, rfl, h2, h3⟩ := k
  subst m2
  obtain ⟨a', vs', hc', hσ', hH', r'⟩ := own_at s1 m1 h1
  rw [hσ] at hσ'; injection hσ' with hσ'; injection hσ' with hσ'; injection hσ' with hσ'; subst hσ'
  cases r1 with
  | @lst b ws _ hb rb => exact ⟨a, b, vs', ws, rfl, rfl, hH', s1.sb.same _ _ hb, by rw [r'.length, rb.length]; exact h2, h3 G1 _ _ σ (m1.set hc') (set_own rfl) (s1.write hc' hH' (r'.append rb))⟩
end
end DL
/-! The data layer: loops and comprehensions over typed lists; numbers' sizes. -/
namespace DL
open PySem PySem.Spec PyProof.Rows L2

theorem take_more {α : Type} : ∀ {l : List α} {i : Nat} {x : α}, l[i]? = some x → l.take (i + 1) = l.take i ++ [x]
  | [], i, x, h => by simp at h
  | a :: l, 0, x, h => by
    have e : a = x := Option.some.inj h
    subst e
    rfl
  | a :: l, i + 1, x, h => by
    have ih := take_more (l := l) (i := i) (x := x) h
    show a :: l.take (i + 1) = a :: l.take i ++ [x]
    rw [ih]
    rfl
theorem split_at {α : Type} {l : List α} {i : Nat} {x : α} (h : l[i]? = some x) : l = l.take i ++ x :: l.drop (i + 1) := by
  obtain ⟨h1, h2⟩ := List.getElem?_eq_some_iff.mp h
  rw [← h2, ← List.drop_eq_getElem_cons h1, List.take_append_drop]
/-- a loop over a typed list, by the part that is gone through -/
theorem for_pre {α : Type} {enc : α → D} {xs : List α} {ds : List D} {ex : EX} {E : DEnds} {g : FG} {body : FS} {τ : Tau} (I : List α → Tau → Prop) (hd : ds = xs.map enc) (h0 : I [] τ)
    (hs : ∀ pre x post τ, xs = pre ++ x :: post → I pre τ → g.run (enc x) τ fun τ2 => body.run ex ⟨I (pre ++ [x]), E.rt, E.nx, I (pre ++ [x])⟩ τ2) (he : ∀ τ, I xs τ → E.nx τ) :
    ∃ J : Nat → Tau → Prop, J 0 τ ∧ (∀ i d τ, ds[i]? = some d → J i τ → g.run d τ fun τ2 => body.run ex ⟨J (i + 1), E.rt, E.nx, J (i + 1)⟩ τ2) ∧ ∀ τ, J ds.length τ → E.nx τ := by
  subst hd
  refine ⟨fun i τ => I (xs.take i) τ, by show I (xs.take 0) τ; rw [List.take_zero]; exact h0, fun i d τ e k => ?_, fun τ k => he τ (by rw [List.length_map, List.take_length] at k; exact k)⟩
  rw [List.getElem?_map] at e
  cases e1 : xs[i]? with
  | none => rw [e1] at e; cases e
  | some x =>
    rw [e1] at e
    injection e with e; subst e
    have := hs (xs.take i) x (xs.drop (i + 1)) τ (split_at e1) k
    rw [← take_more e1] at this
    exact this
/-- a loop over a range -/
theorem for_rng {lo : Int} {n : Nat} {ex : EX} {E : DEnds} {g : FG} {body : FS} {τ : Tau} (I : Nat → Tau → Prop) (h0 : I 0 τ)
    (hs : ∀ i τ, i < n → I i τ → g.run (.int (lo + i)) τ fun τ2 => body.run ex ⟨I (i + 1), E.rt, E.nx, I (i + 1)⟩ τ2) (he : ∀ τ, I n τ → E.nx τ) :
    ∃ J : Nat → Tau → Prop, J 0 τ ∧ (∀ i d τ, (rngD lo n)[i]? = some d → J i τ → g.run d τ fun τ2 => body.run ex ⟨J (i + 1), E.rt, E.nx, J (i + 1)⟩ τ2) ∧ ∀ τ, J (rngD lo n).length τ → E.nx τ := by
  refine ⟨I, h0, fun i d τ e k => ?_, fun τ k => he τ (by rw [rngD_len] at k; exact k)⟩
  have hi := (List.getElem?_eq_some_iff.mp e).1
  rw [rngD_len] at hi
  rw [rngD_get hi] at e
  injection e with e; subst e
  exact hs i τ hi k
/-- [elt for x in xs if test]: by what a turn makes -/
theorem lc_gen {α : Type} {enc : α → D} {xs : List α} {ds : List D} {own : List Nat} {g : FG} {tt : FT} {te : FE} {τ : Tau} {Q : List D → Prop} (I : List α → List D → Prop) (hd : ds = xs.map enc) (hz : xs.length ≤ sizeLine) (h0 : I [] []) (hl : ∀ pre acc, I pre acc → acc.length ≤ pre.length)
    (hs : ∀ pre x post acc, xs = pre ++ x :: post → I pre acc → g.run (enc x) (hide τ own) fun τ2 => tt.run noEx τ2 fun b τ3 => if b = true then te.run noEx τ3 fun e _ => I (pre ++ [x]) (acc ++ [e]) else I (pre ++ [x]) acc) (he : ∀ acc, I xs acc → Q acc) :
    ∃ J : Nat → List D → Prop, J 0 [] ∧ (∀ i d acc, ds[i]? = some d → J i acc → g.run d (hide τ own) fun τ2 => tt.run noEx τ2 fun b τ3 => if b = true then te.run noEx τ3 fun e _ => acc.length < sizeLine ∧ J (i + 1) (acc ++ [e]) else J (i + 1) acc) ∧ ∀ acc, J ds.length acc → Q acc := by
  subst hd
  refine ⟨fun i acc => I (xs.take i) acc, by show I (xs.take 0) []; rw [List.take_zero]; exact h0, fun i d acc e k => ?_, fun acc k => he acc (by rw [List.length_map, List.take_length] at k; exact k)⟩
  rw [List.getElem?_map] at e
  cases e1 : xs[i]? with
  | none => rw [e1] at e; cases e
  | some x =>
    rw [e1] at e
    injection e with e; subst e
    have hlt := (List.getElem?_eq_some_iff.mp e1).1
    have hacc := hl _ _ k
    rw [List.length_take] at hacc
    have := hs (xs.take i) x (xs.drop (i + 1)) acc (split_at e1) k
    rw [← take_more e1] at this
    refine g.mono (fun τ2 k2 => tt.mono (fun _ z => z) (fun b τ3 k3 => ?_) k2) this
    cases b with
    | true =>
      rw [if_pos rfl] at k3 ⊢
      exact te.mono (fun _ z => z) (fun e τ4 k4 => ⟨by omega, k4⟩) k3
    | false => rw [if_neg Bool.false_ne_true] at k3 ⊢; exact k3
theorem lc_map {α : Type} {enc : α → D} {xs : List α} {ds : List D} {own : List Nat} {g : FG} {te : FE} {τ : Tau} {Q : List D → Prop} (f : α → D) (hd : ds = xs.map enc) (hz : xs.length ≤ sizeLine)
    (hs : ∀ x, x ∈ xs → g.run (enc x) (hide τ own) fun τ2 => te.run noEx τ2 fun e _ => e = f x) (he : Q (xs.map f)) :
    ∃ J : Nat → List D → Prop, J 0 [] ∧ (∀ i d acc, ds[i]? = some d → J i acc → g.run d (hide τ own) fun τ2 => fYes.run noEx τ2 fun b τ3 => if b = true then te.run noEx τ3 fun e _ => acc.length < sizeLine ∧ J (i + 1) (acc ++ [e]) else J (i + 1) acc) ∧ ∀ acc, J ds.length acc → Q acc := by
  refine lc_gen (enc := enc) (xs := xs) (fun pre acc => acc = pre.map f) hd hz rfl (fun pre acc e => by rw [e, List.length_map]; exact Nat.le_refl _) (fun pre x post acc e k => ?_) (fun acc e => by rw [e]; exact he)
  refine g.mono (fun τ2 k2 => ?_) (hs x (by rw [e]; exact List.mem_append_right _ List.mem_cons_self))
  unfold fYes
  dsimp only
  rw [if_pos rfl]
  refine te.mono (fun _ z => z) (fun d τ3 k3 => ?_) k2
  rw [k, List.map_append, k3]; rfl
/-- a comprehension whose items are only known to be such -/
theorem lc_all {α : Type} {enc : α → D} {xs : List α} {ds : List D} {own : List Nat} {g : FG} {te : FE} {τ : Tau} {Q : List D → Prop} (P : D → Prop) (hd : ds = xs.map enc) (hz : xs.length ≤ sizeLine)
    (hs : ∀ x, x ∈ xs → g.run (enc x) (hide τ own) fun τ2 => te.run noEx τ2 fun e _ => P e) (he : ∀ es, es.length = xs.length → (∀ e ∈ es, P e) → Q es) :
    ∃ J : Nat → List D → Prop, J 0 [] ∧ (∀ i d acc, ds[i]? = some d → J i acc → g.run d (hide τ own) fun τ2 => fYes.run noEx τ2 fun b τ3 => if b = true then te.run noEx τ3 fun e _ => acc.length < sizeLine ∧ J (i + 1) (acc ++ [e]) else J (i + 1) acc) ∧ ∀ acc, J ds.length acc → Q acc := by
  refine lc_gen (enc := enc) (xs := xs) (fun pre acc => acc.length = pre.length ∧ ∀ e ∈ acc, P e) hd hz ⟨rfl, fun _ h => nomatch h⟩ (fun pre acc e => Nat.le_of_eq e.1) (fun pre x post acc e k => ?_) (fun acc e => he acc e.1 e.2)
  refine g.mono (fun τ2 k2 => ?_) (hs x (by rw [e]; exact List.mem_append_right _ List.mem_cons_self))
  unfold fYes
  dsimp only
  rw [if_pos rfl]
  refine te.mono (fun _ z => z) (fun d τ3 k3 => ⟨by rw [List.length_append, List.length_append, k.1]; rfl, fun e he => ?_⟩) k2
  rcases List.mem_append.mp he with h | h
  · exact k.2 e h
  · rw [List.mem_singleton] at h; subst h; exact k3
/-! ### tests -/
theorem dIf {p A B : Prop} [Decidable p] (h1 : p → A) (h2 : ¬ p → B) : if decide p = true then A else B := by
  by_cases h : p
  · rw [if_pos (decide_eq_true h)]; exact h1 h
  · rw [if_neg (by rw [decide_eq_false h]; exact Bool.false_ne_true)]; exact h2 h
theorem bIf {b : Bool} {A B : Prop} (h1 : b = true → A) (h2 : b = false → B) : if b = true then A else B := by
  cases b with
  | true => rw [if_pos rfl]; exact h1 rfl
  | false => rw [if_neg Bool.false_ne_true]; exact h2 rfl
theorem bT {b : Bool} {A B : Prop} (h : b = true) (h1 : A) : if b = true then A else B := by rw [if_pos h]; exact h1
theorem bF {b : Bool} {A B : Prop} (h : b = false) (h1 : B) : if b = true then A else B := by rw [h, if_neg Bool.false_ne_true]; exact h1
/-! ### sizes -/
def Bd (n : Nat) (x : Int) : Prop := x.natAbs < 2 ^ n
theorem Bd.mul {a b : Nat} {x y : Int} (h : Bd a x) (k : Bd b y) : Bd (a + b) (x * y) := wide_lt h k
theorem Bd.mono {a b : Nat} {x : Int} (h : Bd a x) (k : a ≤ b) : Bd b x := Nat.lt_of_lt_of_le h (Nat.pow_le_pow_right (by decide) k)
theorem Bd.add {a : Nat} {x y : Int} (h : Bd a x) (k : Bd a y) : Bd (a + 1) (x + y) := by
  unfold Bd at *
  rw [Nat.pow_succ]; omega
theorem Bd.sub {a : Nat} {x y : Int} (h : Bd a x) (k : Bd a y) : Bd (a + 1) (x - y) := by
  unfold Bd at *
  rw [Nat.pow_succ]; omega
theorem Bd.neg {a : Nat} {x : Int} (h : Bd a x) : Bd a (-x) := by
  unfold Bd at *; omega
theorem Bd.cm {a b : Nat} {x y : Int} (h : Bd a x) (k : Bd b y) (h0 : 0 < a) (h1 : 0 < b) (h2 : a + b ≤ 1000000) : CMulW x y := wide_mul h k h0 h1 h2
/-! ### constants of the module -/
section
variable {X : Cx} {B : Bs} {pos : Pos}
theorem de_globI {x : Str} {i : Int} (hm : ∃ t, X.mg x = some (.int i t)) (hg : Gl X x := by rfl) (hd : (x == ("__debug__" : Str)) = false := by decide) : DE X B (.Name x pos) (fC (.int i)) := by
  obtain ⟨t, hm⟩ := hm
  exact de_glob (v := .int i) hg hm ⟨t, rfl⟩ (fun _ => .int i) hd
theorem de_globD {x : Str} {d : D} (hm : ∃ a, X.mg x = some (.ref a) ∧ ∀ pa G, Rep X.K pa G (.ref a) d) (hg : Gl X x := by rfl) (hd : (x == ("__debug__" : Str)) = false := by decide) (hK : B.K = X.K := by rfl) : DE X B (.Name x pos) (fC d) := by
  obtain ⟨a, hm, r⟩ := hm
  exact de_glob (v := .ref a) hg hm rfl (fun G => hK ▸ r B.pa G) hd
end
/-! ### slots in short -/
abbrev sD (d : D) : Option Sl := some (.sh d)
abbrev oD (ds : List D) : Option Sl := some (.ow ds)
/-! ### calls -/
theorem ceq {x : D} {Q : D → Prop} (k : Q x) : ∀ d, d = x → Q d := fun d e => by rw [e]; exact k
theorem cno {Q : Addr → Prop} : ∀ c, False → Q c := fun _ z => z.elim
end DL
/-! The data layer: the pool by hand, the way from the hand layer into the data layer. -/
namespace DL
open PySem PySem.Spec PyProof.Rows L2

section
variable {X : Cx} {st : Stmt} {sts : List Stmt} {ι : Type}
theorem pss_ex {T : ι → TS} (h : ∀ i, PSs X sts (T i)) : PSs X sts (fun D' σ H => ∃ i, T i D' σ H) := ⟨fun pins s σ H D' I ⟨i, q⟩ => (h i).run pins s σ H D' I q⟩
theorem ps_ex {T : ι → TS} (h : ∀ i, PS X st (T i)) : PS X st (fun D' σ H => ∃ i, T i D' σ H) := ⟨fun pins s σ H D' I ⟨i, q⟩ => (h i).run pins s σ H D' I q⟩
end

/-- the heap without the pool -/
def less (H : Hp) (p : Addr) : Hp := fun b => if b = p then none else H b
theorem less_ne {H : Hp} {p b : Addr} (h : b ≠ p) : less H p b = H b := if_neg h
theorem less_at {H : Hp} {p : Addr} : less H p p = none := if_pos rfl
def PoolAt (H : Hp) (p : Addr) (pl : List Int) : Prop := H p = some (.lst (pl.map V.int)) ∧ Good pl
def But (H : Hp) (p : Addr) (H' : Hp) : Prop := ∀ b, b ≠ p → H' b = H b
theorem But.refl (H : Hp) (p : Addr) : But H p H := fun _ _ => rfl
theorem But.trans {H H' H'' : Hp} {p : Addr} (h : But H p H') (k : But H' p H'') : But H p H'' := fun b e => (k b e).trans (h b e)
theorem But.upd {H H' : Hp} {p : Addr} {o : HO} (h : But H p H') : But H p (L2.upd H' p o) := fun b e => by rw [upd_ne e]; exact h b e
theorem sb_less {K : PySem.W.Frag} {p : Addr} {H : Hp} {E : XK} {pl : List Int} (h : PoolAt H p pl) : SB ⟨K, some p, less H p, H, E⟩ (less H p) H where
  keep := fun _ _ _ h => h
  grow := Same.refl _
  fresh := fun _ _ h => .inl h
  same := fun b o e => by
    by_cases c : b = p
    · subst c; rw [less_at] at e; cases e
    · rw [less_ne c] at e; exact e
  pool := fun a e => by injection e with e; subst e; exact ⟨less_at, pl, h.1, h.2⟩

/-- numbers of a pool, at most n -/
def PG (n : Nat) (ns : List Int) : Prop := (∀ x ∈ ns, 0 ≤ x ∧ x < 60) ∧ ns.length ≤ n
theorem PG.app {n m : Nat} {l k : List Int} (h : PG n l) (g : PG m k) : PG (n + m) (l ++ k) := ⟨fun x hx => by
  rcases List.mem_append.mp hx with h1 | h1
  · exact h.1 x h1
  · exact g.1 x h1, by rw [List.length_append]; have := h.2; have := g.2; omega⟩
theorem PG.mod (x : Int) : PG 1 [x % 60] := ⟨fun y hy => by rw [List.mem_singleton.mp hy]; omega, Nat.le_refl _⟩
theorem PG.up {n m : Nat} {l : List Int} (h : PG n l) (k : n ≤ m) : PG m l := ⟨h.1, Nat.le_trans h.2 k⟩
/-! ### the exact promises -/
def spPick : Sp := fun vs H Q _ => ∃ (a : Addr) (pl : List Int) (m : Int), vs = [.ref a, .int m] ∧ PoolAt H a pl ∧ 0 < m ∧ ∀ (pl' : List Int) (r : Int) (H' : Hp), But H a H' → PoolAt H' a pl' → pl'.length = pl.length → 0 ≤ r → r < m → Q (.int r) H'
def spLonger : Sp := fun vs H Q _ => ∃ (a : Addr) (pl : List Int) (m : Int), vs = [.ref a, .int m] ∧ PoolAt H a pl ∧ 0 ≤ m ∧ (pl.length : Int) + m ≤ 1000000 ∧ ∀ (pl' : List Int) (H' : Hp), But H a H' → PoolAt H' a pl' → (pl'.length : Int) = pl.length + m → Q (.ref a) H'
def spStream (K : PySem.W.Frag) : Sp := fun vs H Q _ => ∃ (a : Addr) (ns : List Int), vs = [.ref a] ∧ SqL K H a (ns.map V.int) ∧ ns.length ≤ 63 ∧ ∀ (p : Addr) (pl : List Int) (H' : Hp), Same H H' → H p = none → PoolAt H' p pl → pl.length ≤ 5000 → Q (.ref p) H'
/-- a number below the second -/
def phi_pick : DSp := gSp (A := {m : Int // 0 < m}) (fun a => [.pool, .int a.1]) (fun a r => ∃ i, r = .int i ∧ 0 ≤ i ∧ i < a.1)
def phi_law_pool : DSp := gSp (A := {ns : List Int // ns.length ≤ 63}) (fun a => [.scr (a.1.map D.int)]) (fun _ r => ∃ ns : List Int, r = .lst (ns.map D.int) ∧ (∀ x ∈ ns, 0 ≤ x ∧ x < 60) ∧ 300 ≤ ns.length ∧ ns.length ≤ 4080)
theorem good_stream {ns : List Int} (h : ∀ x ∈ ns, 0 ≤ x ∧ x < 60) (h1 : 300 ≤ ns.length) (h2 : ns.length ≤ 4080) : Good (1 :: ns) :=
  ⟨1, ns, rfl, by decide, by rw [List.length_cons]; omega, by rw [List.length_cons]; omega, h⟩
section
variable {P : Program} {w : World} {K : PySem.W.Frag} {mg : Str → Option Value} {base : Heap}
theorem pool_step {K : PySem.W.Frag} {G H H' : Hp} {p : Addr} {pl' : List Int} (hp : PoolOk (some p) G H) (s : Same G H) (h : But H p H') (h2 : PoolAt H' p pl') : Step (some p) G H G H' := by
  obtain ⟨g0, _⟩ := hp p rfl
  refine ⟨Same.refl G, fun _ _ e => .inl e, fun b o e => ?_, fun b o ne e => ?_, fun a e => ?_⟩
  · rw [h b (ne_of_none e g0)]; exact s _ _ e
  · rw [h b (fun z => ne (by rw [z]))]; exact e
  · injection e with e; subst e; exact ⟨g0, pl', h2⟩
/-- the exact promise of the pick gives the data promise -/
theorem pickD {f : Addr} {fd : FuncData} {k : Nat} (F : FnOk P w K mg base (L2.CX P w) k f fd ["pool", "many"] spPick) (hm : mg "_law_pick" = some (.ref f)) (hk : PySem.W.keepIn K (.ref f) = true) (hb : Binds K fd ["pool", "many"] []) :
    DFn P w K mg base k "_law_pick" ["pool", "many"] phi_pick := by
  refine ⟨f, fd, F.imp fun vs H Q E h => ?_, hm, hk, hb⟩
  obtain ⟨G, pa, ds, hp, sm, r, ⟨m, hm0⟩, rfl, h2, _⟩ := h
  obtain ⟨v1, v2, rfl, r1, r2⟩ : ∃ v1 v2, vs = [v1, v2] ∧ Rep K pa G v1 .pool ∧ Rep K pa G v2 (.int m) := by
    cases r with
    | cons a r => cases r with
      | cons b r => cases r; exact ⟨_, _, rfl, a, b⟩
  cases r2
  cases r1 with
  | @pool p hpa =>
  subst hpa
  obtain ⟨g0, pl, e1, e2⟩ := hp p rfl
  exact ⟨p, pl, m, rfl, ⟨e1, e2⟩, hm0, fun pl' r H' b1 b2 _ b4 b5 => h2 (.int r) ⟨r, rfl, b4, b5⟩ _ G H' (pool_step (K := K) (fun a e => by injection e with e; subst e; exact ⟨g0, pl, e1, e2⟩) sm b1 b2) (.int r)⟩
end
end DL
namespace DL
open PySem PySem.Spec PyProof.Rows L2
theorem good_app {pl : List Int} {x : Int} (h : Good pl) (h0 : 0 ≤ x) (h1 : x < 60) (hl : pl.length < 1000000) : Good (pl ++ [x]) := by
  obtain ⟨p, r, rfl, p1, p2, p3, p4⟩ := h
  refine ⟨p, r ++ [x], rfl, p1, ?_, ?_, fun y hy => ?_⟩
  · rw [List.length_append]; omega
  · rw [List.length_append, List.length_singleton]; omega
  · rcases List.mem_append.mp hy with h | h
    · exact p4 y h
    · rw [List.mem_singleton.mp h]; exact ⟨h0, h1⟩
theorem ixN0 {n : Nat} (h : 0 < n) : ixN n 0 = some 0 := by
  unfold ixN
  rw [if_pos (by decide), if_pos (by omega)]; rfl
theorem fits1 {v : V} {d : D} : Fits (([v].zip [d]).map fun p => some (p.1, Sl.sh p.2)) [some v] := ⟨rfl, fun i w s h => by
  match i, h with
  | 0, h => injection h with h; injection h with h; injection h with h _; exact congrArg (fun z => some (some z)) h
  | i + 1, h => cases h⟩
end DL
/-! The data layer: what the law's comparison walks over. -/
namespace DL
open PySem PySem.Spec PyProof.Rows L2

/-- data without dicts and pools, of a depth, whose texts are of code points -/
def layB : Nat → D → Bool
  | _, .non => true
  | _, .bl _ => true
  | _, .int _ => true
  | _, .str x => PyData.strOk x
  | n + 1, .lst ds => ds.all (layB n)
  | n + 1, .tup ds => ds.all (layB n)
  | _, _ => false
theorem layB_one {n : Nat} {d : D} (h : layB n d = true) : plainD d = true ∧ (toPy d).canLay0 = true ∧ (toPy d).depth ≤ n := by
  induction n generalizing d with
  | zero =>
    cases d with
    | str x => exact ⟨rfl, h, Nat.le_refl _⟩
    | non => exact ⟨rfl, rfl, Nat.le_refl _⟩
    | bl b => exact ⟨rfl, rfl, Nat.le_refl _⟩
    | int i => exact ⟨rfl, rfl, Nat.le_refl _⟩
    | _ => cases h
  | succ n ih =>
    have all : ∀ ds : List D, ds.all (layB n) = true → plainDs ds = true ∧ PyData.canLayAll0 (toPys ds) = true ∧ PyData.depthAll (toPys ds) ≤ n := fun ds => by
      induction ds with
      | nil => intro _; exact ⟨rfl, rfl, Nat.zero_le _⟩
      | cons d ds ih2 =>
        intro h
        rw [List.all_cons, Bool.and_eq_true] at h
        obtain ⟨a1, a2, a3⟩ := ih h.1
        obtain ⟨b1, b2, b3⟩ := ih2 h.2
        refine ⟨?_, ?_, ?_⟩
        · unfold plainDs; rw [a1, b1]; rfl
        · unfold toPys PyData.canLayAll0; rw [a2, b2]; rfl
        · unfold toPys PyData.depthAll; exact Nat.max_le.mpr ⟨a3, b3⟩
    cases d with
    | str x => exact ⟨rfl, h, Nat.zero_le _⟩
    | non => exact ⟨rfl, rfl, Nat.zero_le _⟩
    | bl b => exact ⟨rfl, rfl, Nat.zero_le _⟩
    | int i => exact ⟨rfl, rfl, Nat.zero_le _⟩
    | lst ds =>
      obtain ⟨b1, b2, b3⟩ := all ds h
      refine ⟨by unfold plainD; exact b1, by unfold toPy PyData.canLay0; exact b2, by unfold toPy PyData.depth; omega⟩
    | tup ds =>
      obtain ⟨b1, b2, b3⟩ := all ds h
      refine ⟨by unfold plainD; exact b1, by unfold toPy PyData.canLay0; exact b2, by unfold toPy PyData.depth; omega⟩
    | _ => cases h
theorem layB_sh {n : Nat} {d : D} (h : layB n d = true) (hn : n ≤ 64) : shD d = true := by
  obtain ⟨h1, h2, h3⟩ := layB_one h
  unfold shD
  rw [h1]
  unfold SeqAt.shaped
  rw [h2, decide_eq_true (by omega)]; rfl
theorem layB_up {n m : Nat} {d : D} (h : layB n d = true) (k : n ≤ m) : layB m d = true := by
  induction n generalizing d m with
  | zero => cases d <;> first | (cases m <;> exact h) | cases h
  | succ n ih =>
    obtain ⟨m, rfl⟩ : ∃ m', m = m' + 1 := ⟨m - 1, by omega⟩
    cases d with
    | lst ds => exact List.all_eq_true.mpr fun x hx => ih (List.all_eq_true.mp h x hx) (by omega)
    | tup ds => exact List.all_eq_true.mpr fun x hx => ih (List.all_eq_true.mp h x hx) (by omega)
    | _ => exact h
mutual
/-- how many data stand in a datum -/
def nd : D → Nat
  | .lst ds => 1 + nds ds
  | .tup ds => 1 + nds ds
  | _ => 1
def nds : List D → Nat
  | [] => 0
  | d :: ds => nd d + nds ds
end
theorem nd_pos (d : D) : 1 ≤ nd d := by cases d <;> unfold nd <;> omega
theorem nds_app : ∀ (a b : List D), nds (a ++ b) = nds a + nds b
  | [], b => (Nat.zero_add _).symm
  | d :: a, b => by
    have h1 : nds (d :: (a ++ b)) = nd d + nds (a ++ b) := rfl
    have h2 : nds (d :: a) = nd d + nds a := rfl
    rw [List.cons_append, h1, h2, nds_app a b]; omega
theorem len_nds : ∀ (ds : List D), ds.length ≤ nds ds
  | [] => Nat.zero_le _
  | d :: ds => by rw [List.length_cons]; unfold nds; have := nd_pos d; have := len_nds ds; omega
structure SameA where
  d : D
  lay : layB 50 d = true
  few : nd d ≤ 9000000
def phi_same : DSp := gSp (A := SameA) (fun a => [a.d, a.d]) (fun _ r => r = .bl true)
def twin (d : D) : D := .tup [d, d]
theorem range_twin (ds : List D) : (List.range ds.length).map (fun k => twin (ds.getD k .non)) = ds.map twin := by
  apply List.ext_getElem
  · simp
  · intro i h1 h2
    rw [List.length_map, List.length_range] at h1
    rw [List.getElem_map, List.getElem_map, List.getElem_range, List.getD_eq_getElem?_getD, List.getElem?_eq_getElem h1]; rfl
theorem atI_range {ds : List D} {k : Nat} (h : k ∈ List.range ds.length) : L2.atI ds (0 + (k : Int)) = some (ds.getD k .non) := by
  have hk := List.mem_range.mp h
  rw [Int.zero_add]
  refine atI_nat ?_
  rw [List.getD_eq_getElem?_getD, List.getElem?_eq_getElem hk]; rfl
theorem pairs_sh {ps : List D} (h : ps.all (layB 50) = true) : shD (.lst (ps.map twin)) = true := by
  refine layB_sh (n := 52) ?_ (by decide)
  refine List.all_eq_true.mpr fun x hx => ?_
  obtain ⟨d, hd, rfl⟩ := List.mem_map.mp hx
  have := List.all_eq_true.mp h d hd
  show (layB 50 d && (layB 50 d && true)) = true
  rw [this]; rfl
theorem layB_in {n : Nat} {ds : List D} (h : layB (n + 1) (.lst ds) = true) : ds.all (layB (n + 1)) = true := List.all_eq_true.mpr fun x hx => layB_up (List.all_eq_true.mp h x hx) (Nat.le_succ n)
theorem layB_inT {n : Nat} {ds : List D} (h : layB (n + 1) (.tup ds) = true) : ds.all (layB (n + 1)) = true := List.all_eq_true.mpr fun x hx => layB_up (List.all_eq_true.mp h x hx) (Nat.le_succ n)
def fEqNil (i : Nat) : FT := ⟨fun _ τ Q => ∃ ds, τ[i]? = some (some (.ow ds)) ∧ shD (.lst ds) = true ∧ Q ds.isEmpty τ, fun _ h ⟨ds, h1, h2, h3⟩ => ⟨ds, h1, h2, h _ _ h3⟩⟩
section
variable {X : Cx} {B : Bs} {x : Str} {px pl pos : Pos}
theorem dt_eqNil (i : Nat) (hu : X.A.units + 64 < cLine) (hN : X.N[i]? = some x := by rfl) (hv : Vis X.env.scope x := by first | exact Or.inl rfl | exact Or.inr (Or.inl rfl) | exact Or.inr (Or.inr rfl)) (hd : (x == ("__debug__" : Str)) = false := by decide) (hcd : (x == ("__classdict__" : Str)) = false := by decide) (hK : B.K = X.K := by rfl) :
    DT X B (.Compare (.Name x px) [.Eq] [.List [] pl] pos) (fEqNil i) := by
  refine ⟨ptImp (pt_cmpR (op_eqD hu) (pe_var hN hv hd hcd) (pe_lst pa_nil) (nomark _)) fun σ H Q => ?_⟩
  rintro ⟨G, C, Θ, hf, s, ds, h1, h2, q⟩
  obtain ⟨a, vs, hc, hσ, hH, r⟩ := own_at s hf h1
  refine ⟨.ref a, hσ, Nat.zero_le _, fun p hp => ?_⟩
  have t := Step.own (o := .lst []) s.sb hp
  have s2 := s.step t
  have np : a ≠ p := ne_of_none hH hp
  have p1 : plainD (.lst ds) = true := by unfold shD at h2; rw [Bool.and_eq_true] at h2; exact h2.1
  have p2 : SeqAt.shaped (toPy (.lst ds)) = true := by unfold shD at h2; rw [Bool.and_eq_true] at h2; exact h2.2
  refine ⟨toPy (.lst ds), .list [], ?_, .lst (SqL.of upd_same) .nil, p2, rfl, _, rfl, ?_⟩
  · unfold toPy
    unfold plainD at p1
    exact .lst (SqL.of (by rw [upd_ne np]; exact hH)) (hK ▸ r.dp s2.sb.same p1)
  · have e : PyData.eqv (toPy (.lst ds)) (.list []) = ds.isEmpty := by cases ds <;> rfl
    rw [e]
    exact q G _ C hf rfl s2
end
end DL
namespace DL
open PySem PySem.Spec PyProof.Rows L2
/-- one pick, whatever it is -/
theorem pk {n : Int} (h : 0 < n) {ex : EX} {Q : D → Prop} (k : ∀ i, 0 ≤ i → i < n → Q (.int i)) : phi_pick.run ex [.pool, .int n] Q := ⟨⟨n, h⟩, rfl, fun r ⟨i, e, a, b⟩ => by rw [e]; exact k i a b, fun _ z => z.elim⟩
theorem sz {n : Nat} (h : Nat.ble n 1000 = true := by rfl) : n ≤ sizeLine := Nat.le_of_lt (small1000 (Nat.le_of_ble_eq_true h))
theorem at_in {ns : List Int} {i : Int} (h0 : 0 ≤ i) (h1 : i < ns.length) : ∃ z, L2.atI (ns.map D.int) i = some (.int z) ∧ z ∈ ns := by
  obtain ⟨j, rfl⟩ : ∃ j : Nat, i = j := ⟨i.toNat, by omega⟩
  have hj : j < ns.length := by omega
  refine ⟨ns[j], atI_nat ?_, List.getElem_mem hj⟩
  rw [List.getElem?_map, List.getElem?_eq_getElem hj]; rfl
theorem at_inD {ds : List D} {i : Int} (h0 : 0 ≤ i) (h1 : i < ds.length) : ∃ z, L2.atI ds i = some z ∧ z ∈ ds := by
  obtain ⟨j, rfl⟩ : ∃ j : Nat, i = j := ⟨i.toNat, by omega⟩
  have hj : j < ds.length := by omega
  exact ⟨ds[j], atI_nat (List.getElem?_eq_getElem hj), List.getElem_mem hj⟩
end DL

namespace DL
open PySem PySem.Spec PyProof.Rows L2
theorem de_dct {X : Cx} {B : Bs} {pos : Pos} : DE X B (.Dict [] [] pos) (fC .dct) := by
  refine ⟨peImp pe_dnewK fun σ H Q => ?_⟩
  rintro ⟨G, C, Θ, hf, s, q⟩
  intro p hp
  have st := Step.new (o := .dK []) s.sb hp
  exact q (.ref p) _ _ C hf rfl (s.step st) (.dct upd_same)
end DL

namespace DL
open PySem PySem.Spec PyProof.Rows L2
/-- cells that know one slot: the pool's -/
def poolCells (n k : Nat) (a : Addr) : List Cell := (List.replicate n (none : Cell)).set k (some (.ref a, .sh .pool))
theorem poolCells_get {n k : Nat} {a : Addr} {i : Nat} {v : V} {s : Sl} (h : (poolCells n k a)[i]? = some (some (v, s))) : i = k ∧ v = .ref a ∧ s = .sh .pool := by
  unfold poolCells at h
  by_cases c : i = k
  · subst c
    by_cases hi : i < (List.replicate n (none : Cell)).length
    · rw [List.getElem?_set_self hi] at h
      injection h with h; injection h with h; injection h with h1 h2
      exact ⟨rfl, h1.symm, h2.symm⟩
    · rw [List.getElem?_eq_none (by rw [List.length_set]; omega)] at h; cases h
  · rw [List.getElem?_set_ne (fun z => c z.symm)] at h
    have := List.mem_of_getElem? h
    have := (List.mem_replicate.mp this).2
    cases this
theorem pool_fits {σ : L2.St} {k : Nat} {a : Addr} (h : σ[k]? = some (some (.ref a))) : Fits (poolCells σ.length k a) σ := ⟨by unfold poolCells; rw [List.length_set, List.length_replicate], fun i v s e => by
  obtain ⟨rfl, rfl, rfl⟩ := poolCells_get e
  exact h⟩
theorem pool_sr {K : PySem.W.Frag} {H : Hp} {E : XK} {a : Addr} {pl : List Int} {n k : Nat} (h : PoolAt H a pl) : SR ⟨K, some a, less H a, H, E⟩ (less H a) H (poolCells n k a) [] := by
  refine ⟨sb_less h, fun p hp => ?_, fun i j v s s' e => ?_⟩
  · rw [List.append_nil] at hp
    obtain ⟨i, hi⟩ := List.getElem?_of_mem hp
    obtain ⟨w, t⟩ := p
    obtain ⟨rfl, rfl, rfl⟩ := poolCells_get hi
    exact .pool rfl
  · rw [List.append_nil] at e
    obtain ⟨_, _, z⟩ := poolCells_get e
    cases z
/-- the ends of a part of a def that ends with a return of True -/
theorem ends_true {B : Bs} {Θ : Tmp} {D' : Ends} (h : ∀ G' H', SB B G' H' → D'.rt (.bl true) H') (ns : ∀ τ, False → (endsOf B Θ D').nx τ := fun _ z => z.elim) :
    DEnds.Le ⟨fun _ => False, fun r => r = .bl true, fun _ => False, fun _ => False⟩ (endsOf B Θ D') := ⟨ns, fun d e v G' H' s r => by
  subst e
  cases r
  exact h G' H' s, fun _ z => z.elim, fun _ z => z.elim⟩
def spGreat : Sp := fun vs H Q _ => ∃ (a : Addr) (pl : List Int), vs = [.ref a] ∧ PoolAt H a pl ∧ pl.length ≤ 900000 ∧ ∀ (pl' : List Int) (H' : Hp), Keep (some a) H H' → PoolAt H' a pl' → Q (.bl true) H'
theorem SB.poolAt {B : Bs} {G H : Hp} {a : Addr} (s : SB B G H) (h : B.pa = some a) : ∃ pl, PoolAt H a pl := by
  obtain ⟨_, pl, h1, h2⟩ := s.pool a h
  exact ⟨pl, h1, h2⟩
theorem But.keep {H H' : Hp} {a : Addr} (h : But H a H') : Keep (some a) H H' := fun b o ne e => by rw [h b (fun z => ne (by rw [z]))]; exact e
theorem Keep.trans {pa : Option Addr} {H H' H'' : Hp} (h : Keep pa H H') (k : Keep pa H' H'') : Keep pa H H'' := fun b o ne e => k b o ne (h b o ne e)
end DL
/-! The data layer: lists that are written later; the small view of the heap, by which a fresh list is known as fresh. -/
namespace DL
open PySem PySem.Spec PyProof.Rows L2

/-- the heap without the pool and without the lists of S -/
def lessS (H : Hp) (p : Addr) (S : List Addr) : Hp := fun b => if b = p ∨ b ∈ S then none else H b
theorem lessS_some {H : Hp} {p b : Addr} {S : List Addr} {o : HO} (h : lessS H p S b = some o) : b ≠ p ∧ b ∉ S ∧ H b = some o := by
  unfold lessS at h
  by_cases c : b = p ∨ b ∈ S
  · rw [if_pos c] at h; cases h
  · rw [if_neg c] at h
    exact ⟨fun z => c (.inl z), fun z => c (.inr z), h⟩
theorem lessS_of {H : Hp} {p b : Addr} {S : List Addr} (h1 : b ≠ p) (h2 : b ∉ S) : lessS H p S b = H b := if_neg fun z => z.elim h1 h2
theorem lessS_p {H : Hp} {p : Addr} {S : List Addr} : lessS H p S p = none := if_pos (.inl rfl)
theorem lessS_in {H : Hp} {p b : Addr} {S : List Addr} (h : b ∈ S) : lessS H p S b = none := if_pos (.inr h)
theorem lessS_same {H : Hp} {p : Addr} {S : List Addr} : Same (lessS H p S) H := fun _ _ h => (lessS_some h).2.2
theorem sb_lessS {K : PySem.W.Frag} {p : Addr} {S : List Addr} {H : Hp} {E : XK} {pl : List Int} (h : PoolAt H p pl) : SB ⟨K, some p, lessS H p S, H, E⟩ (lessS H p S) H where
  keep := fun _ _ _ h => h
  grow := Same.refl _
  fresh := fun _ _ h => .inl h
  same := lessS_same
  pool := fun a e => by injection e with e; subst e; exact ⟨lessS_p, pl, h.1, h.2⟩
theorem lessS_grow {H H' : Hp} {p : Addr} {S S' : List Addr} (hk : ∀ b o, b ≠ p → b ∉ S → H b = some o → H' b = some o) (hS : ∀ s ∈ S', s ∈ S ∨ H s = none) : Same (lessS H p S) (lessS H' p S') := fun b o h => by
  obtain ⟨h1, h2, h3⟩ := lessS_some h
  rw [lessS_of h1 fun z => (hS b z).elim h2 fun n => by rw [n] at h3; cases h3]
  exact hk b o h1 h2 h3
/-- what a piece of data layer has added stands in the heap without pool and S -/
theorem toS {p : Addr} {S : List Addr} {H G' H' : Hp} (fr : ∀ a o, G' a = some o → lessS H p S a = some o ∨ H a = none) (sm : Same G' H') (pl : PoolOk (some p) G' H') (hS : ∀ s ∈ S, H s ≠ none) : Same G' (lessS H' p S) := fun b o h => by
  have h1 : b ≠ p := fun z => by
    obtain ⟨g, _⟩ := pl p rfl
    rw [z, g] at h; cases h
  have h2 : b ∉ S := fun z => by
    rcases fr b o h with k | k
    · rw [lessS_in z] at k; cases k
    · exact hS b z k
  rw [lessS_of h1 h2]
  exact sm b o h
/-- the cells at the entry: one slot's -/
theorem poolS_sr {K : PySem.W.Frag} {H : Hp} {E : XK} {a : Addr} {S : List Addr} {pl : List Int} {n k : Nat} (h : PoolAt H a pl) : SR ⟨K, some a, lessS H a S, H, E⟩ (lessS H a S) H (poolCells n k a) [] := by
  refine ⟨sb_lessS h, fun p hp => ?_, fun i j v s s' e => ?_⟩
  · rw [List.append_nil] at hp
    obtain ⟨i, hi⟩ := List.getElem?_of_mem hp
    obtain ⟨w, t⟩ := p
    obtain ⟨rfl, rfl, rfl⟩ := poolCells_get hi
    exact .pool rfl
  · rw [List.append_nil] at e
    obtain ⟨_, _, z⟩ := poolCells_get e
    cases z

/-! ### tuples alone -/
def isTup : HO → Bool
  | .tup _ => true
  | .frz _ (.tup _) => true
  | _ => false
def TSame (G G2 : Hp) : Prop := ∀ b u, isTup u = true → G b = some u → G2 b = some u
theorem TSame.sq {K : PySem.W.Frag} {G G2 : Hp} {a : Addr} {xs : List V} (s : TSame G G2) (h : SqT K G a xs) : SqT K G2 a xs := by
  rcases h with (h | ⟨o, h⟩) | h
  · exact .inl (.inl (s _ _ rfl h))
  · exact .inl (.inr ⟨o, s _ _ rfl h⟩)
  · exact .inr h
mutual
/-- numbers, texts and tuples of such -/
def noL : D → Bool
  | .tup ds => noLs ds
  | .lst _ => false
  | .dct => false
  | .pool => false
  | .scr _ => false
  | .adr _ => false
  | _ => true
def noLs : List D → Bool
  | [] => true
  | d :: ds => noL d && noLs ds
end
section
variable {K : PySem.W.Frag} {pa : Option Addr} {G G2 : Hp}
mutual
theorem Rep.ts (s : TSame G G2) : ∀ {v : V} {d : D}, Rep K pa G v d → noL d = true → Rep K pa G2 v d
  | _, _, .non, _ => .non
  | _, _, .bl b, _ => .bl b
  | _, _, .int i, _ => .int i
  | _, _, .str x, _ => .str x
  | _, _, .lst h r, p => by unfold noL at p; cases p
  | _, _, .tup h r, p => .tup (s.sq h) (RepAll.ts s r (by unfold noL at p; exact p))
  | _, _, .dct h, p => by unfold noL at p; cases p
  | _, _, .pool h, p => by unfold noL at p; cases p
  | _, _, .scr h r, p => by unfold noL at p; cases p
  | _, _, .adr h, p => by unfold noL at p; cases p
theorem RepAll.ts (s : TSame G G2) : ∀ {vs : List V} {ds : List D}, RepAll K pa G vs ds → noLs ds = true → RepAll K pa G2 vs ds
  | _, _, .nil, _ => .nil
  | _, _, .cons r t, p => by
    unfold noLs at p
    rw [Bool.and_eq_true] at p
    exact .cons (Rep.ts s r p.1) (RepAll.ts s t p.2)
end
end
theorem noLs_map {α : Type} {f : α → D} (h : ∀ a, noL (f a) = true) : ∀ l : List α, noLs (l.map f) = true
  | [] => rfl
  | a :: l => by rw [List.map_cons]; unfold noLs; rw [h a, noLs_map h l]; rfl
/-- the tuples of a heap, and one list -/
def small (H : Hp) (h : Addr) : Hp := fun b => if b = h then H b else match H b with
  | some u => if isTup u = true then some u else none
  | none => none
theorem small_at {H : Hp} {h : Addr} : small H h h = H h := if_pos rfl
theorem small_some {H : Hp} {h b : Addr} {u : HO} (e : small H h b = some u) : H b = some u ∧ (b = h ∨ isTup u = true) := by
  unfold small at e
  by_cases c : b = h
  · rw [if_pos c] at e; exact ⟨e, .inl c⟩
  · rw [if_neg c] at e
    cases k : H b with
    | none => rw [k] at e; cases e
    | some w =>
      rw [k] at e
      dsimp only at e
      by_cases d : isTup w = true
      · rw [if_pos d] at e; injection e with e; subst e; exact ⟨rfl, .inr d⟩
      · rw [if_neg d] at e; cases e
theorem small_ts {G H : Hp} {h : Addr} (s : Same G H) : TSame G (small H h) := fun b u t e => by
  have k := s b u e
  unfold small
  by_cases c : b = h
  · rw [if_pos c]; exact k
  · rw [if_neg c, k]
    dsimp only
    rw [if_pos t]
theorem small_same {H : Hp} {h : Addr} : Same (small H h) H := fun b u e => (small_some e).1
theorem sqT_tup {K : PySem.W.Frag} {G : Hp} {a : Addr} {xs : List V} (h : SqT K G a xs) : (∃ u, isTup u = true ∧ G a = some u) ∨ ∀ G2 : Hp, SqT K G2 a xs := by
  rcases h with (h | ⟨o, h⟩) | h
  · exact .inl ⟨_, rfl, h⟩
  · exact .inl ⟨_, rfl, h⟩
  · exact .inr fun _ => .inr h
end DL
namespace DL
open PySem PySem.Spec PyProof.Rows L2
section
variable {X : Cx} {st : Stmt} {rest : List Stmt} {t u : TS}
/-- a statement and the rest, with what holds between them told -/
theorem pss_cut (h1 : PS X st t) (h2 : PSs X rest u) : PSs X (st :: rest) (fun D' σ H => ∃ M : L2.St → Hp → Prop, t { D' with nx := M } σ H ∧ ∀ σ' H', M σ' H' → u D' σ' H') := by
  refine ⟨fun pins s σ H D' I h => ?_⟩
  obtain ⟨M, q1, q2⟩ := h
  refine wpAny_execs_cons (thn (h1.run pins s σ H { D' with nx := M } I q1) fun f s1 q => ?_)
  cases f with
  | next =>
    obtain ⟨σ', H', I', q⟩ := q
    exact h2.run pins s1 σ' H' D' I' (q2 σ' H' q)
  | ret v => exact q
  | brk => exact q
  | cont => exact q
end
theorem fits_nil : Fits [] [] := ⟨rfl, fun i v s h => (nomatch h)⟩
theorem fits_none {C : List Cell} {σ : L2.St} {x : Option V} (f : Fits C σ) : Fits (none :: C) (x :: σ) := ⟨by rw [List.length_cons, List.length_cons, f.1], fun i v s h => by
  match i, h with
  | 0, h => injection h with h; cases h
  | i + 1, h => exact f.2 i v s h⟩
theorem fits_some {C : List Cell} {σ : L2.St} {v : V} {s : Sl} (f : Fits C σ) : Fits (some (v, s) :: C) (some v :: σ) := ⟨by rw [List.length_cons, List.length_cons, f.1], fun i w t h => by
  match i, h with
  | 0, h => injection h with h; injection h with h; injection h with h _; exact congrArg (fun z => some (some z)) h
  | i + 1, h => exact f.2 i w t h⟩
section
variable {B : Bs} {G H : Hp} {C : List Cell}
theorem sr_nil (sb : SB B G H) : SR B G H [] [] := ⟨sb, fun p h => (nomatch h), fun i j v s s' h => (nomatch h)⟩
theorem inj_cons {c : Cell} {L : List Cell} (h : Inj L) (n : ∀ v s, c ≠ some (v, Sl.ow s)) : Inj (c :: L) := fun i j v s s' h1 h2 => by
  match i, j, h1, h2 with
  | 0, _, h1, _ => injection h1 with h1; exact absurd h1 (n v s)
  | _ + 1, 0, _, h2 => injection h2 with h2; exact absurd h2 (n v s')
  | i + 1, j + 1, h1, h2 => rw [h i j v s s' h1 h2]
theorem sr_none (s : SR B G H C []) : SR B G H (none :: C) [] := by
  refine ⟨s.sb, fun p h => ?_, ?_⟩
  · rw [List.append_nil] at h
    rcases List.mem_cons.mp h with h | h
    · cases h
    · exact s.rs p (by rw [List.append_nil]; exact h)
  · rw [List.append_nil]
    exact inj_cons (by have := s.inj; rw [List.append_nil] at this; exact this) fun v s h => nomatch h
theorem sr_sh {v : V} {d : D} (s : SR B G H C []) (r : Rep B.K B.pa G v d) : SR B G H (some (v, .sh d) :: C) [] := by
  refine ⟨s.sb, fun p h => ?_, ?_⟩
  · rw [List.append_nil] at h
    rcases List.mem_cons.mp h with h | h
    · injection h with h; subst h; exact r
    · exact s.rs p (by rw [List.append_nil]; exact h)
  · rw [List.append_nil]
    refine inj_cons (by have := s.inj; rw [List.append_nil] at this; exact this) fun v s h => ?_
    injection h with h
    injection h with _ h
    cases h
theorem at_slot {Θ : Tmp} {σ : L2.St} {τ : Tau} {i : Nat} {x : Sl} (s : SR B G H C Θ) (f : Fits C σ) (e : sls C = τ) (h : τ[i]? = some (some x)) : ∃ v, σ[i]? = some (some v) ∧ RS B G H v x := by
  rw [← e] at h
  obtain ⟨v, hc⟩ := sls_get h
  exact ⟨v, f.2 i v x hc, s.rs (v, x) (List.mem_append_left _ (List.mem_of_getElem? hc))⟩
end
theorem len11 {α : Type} {l : List α} (h : l.length = 11) : ∃ a b c d e f g i j k m, l = [a, b, c, d, e, f, g, i, j, k, m] := by
  match l, h with
  | [a, b, c, d, e, f, g, i, j, k, m], _ => exact ⟨a, b, c, d, e, f, g, i, j, k, m, rfl⟩
end DL
namespace KM
/-- a part: base, weight, bounds -/
structure Pt where
  b : Int
  w : Int
  l : Option Int
  h : Option Int
def cutF (n : Int) (lo hi : Option Int) : Int :=
  let m := match hi with
    | some h => if n > h then h else n
    | none => n
  match lo with
    | some l => if m < l then l else m
    | none => m
def timesF : Option Int → Int → Option Int
  | none, _ => none
  | some x, k => some (x * k)
def topF (top low : Int) (p : Pt) : Int := cutF (p.b * low + p.w * top) (timesF p.l low) (timesF p.h low)
def topsF (ps : List Pt) (top low : Int) : List Int := ps.map (topF top low)
structure Pt.Ok (p : Pt) : Prop where
  w0 : 0 ≤ p.w
  lh : ∀ x y, p.l = some x → p.h = some y → x ≤ y
/-! ### over the rationals -/
def cutR (x : Rat) (lo hi : Option Int) : Rat :=
  let m : Rat := match hi with
    | some h => if x > h then (h : Rat) else x
    | none => x
  match lo with
    | some l => if m < l then (l : Rat) else m
    | none => m
def szR (p : Pt) (t : Rat) : Rat := cutR (p.b + p.w * t) p.l p.h
def sumR (ps : List Pt) (t : Rat) : Rat := (ps.map fun p => szR p t).sum
theorem cut_R {n low : Int} {x : Rat} {lo hi : Option Int} (h0 : 0 < low) (hn : (n : Rat) = low * x) : (cutF n (timesF lo low) (timesF hi low) : Rat) = low * cutR x lo hi := by
  have hl : (0 : Rat) < low := by exact_mod_cast h0
  have key : ∀ k : Int, (n > k * low ↔ x > (k : Rat)) ∧ (n < k * low ↔ x < (k : Rat)) := fun k => by
    have e1 : (n > k * low) ↔ ((n : Rat) > k * low) := by
      constructor
      · intro h; exact_mod_cast h
      · intro h; exact_mod_cast h
    have e2 : (n < k * low) ↔ ((n : Rat) < k * low) := by
      constructor
      · intro h; exact_mod_cast h
      · intro h; exact_mod_cast h
    rw [e1, e2, hn]
    refine ⟨⟨fun h => ?_, fun h => ?_⟩, ⟨fun h => ?_, fun h => ?_⟩⟩
    · refine Rat.not_le.mp fun q => ?_
      have := Rat.mul_le_mul_of_nonneg_left q (Rat.le_of_lt hl)
      grind
    · have := Rat.mul_lt_mul_of_pos_left h hl
      grind
    · refine Rat.not_le.mp fun q => ?_
      have := Rat.mul_le_mul_of_nonneg_left q (Rat.le_of_lt hl)
      grind
    · have := Rat.mul_lt_mul_of_pos_left h hl
      grind
  have cst : ∀ k : Int, ((k * low : Int) : Rat) = low * k := fun k => by
    have : ((k * low : Int) : Rat) = (k : Rat) * low := by exact_mod_cast rfl
    rw [this, Rat.mul_comm]
  cases hi with
  | none =>
    cases lo with
    | none => exact hn
    | some l =>
      show ((if n < l * low then l * low else n : Int) : Rat) = low * (if x < l then (l : Rat) else x)
      by_cases c : n < l * low
      · rw [if_pos c, if_pos ((key l).2.mp c), cst]
      · rw [if_neg c, if_neg (fun z => c ((key l).2.mpr z)), hn]
  | some h =>
    have m1 : ((if n > h * low then h * low else n : Int) : Rat) = low * (if x > h then (h : Rat) else x) := by
      by_cases c : n > h * low
      · rw [if_pos c, if_pos ((key h).1.mp c), cst]
      · rw [if_neg c, if_neg (fun z => c ((key h).1.mpr z)), hn]
    cases lo with
    | none => exact m1
    | some l =>
      show ((if (if n > h * low then h * low else n) < l * low then l * low else (if n > h * low then h * low else n) : Int) : Rat) = low * (if (if x > h then (h : Rat) else x) < l then (l : Rat) else (if x > h then (h : Rat) else x))
      generalize (if n > h * low then h * low else n) = m at m1 ⊢
      generalize (if x > h then (h : Rat) else x) = y at m1 ⊢
      have e2 : (m < l * low) ↔ (y < l) := by
        have e : (m < l * low) ↔ ((m : Rat) < l * low) := by
          constructor
          · intro h; exact_mod_cast h
          · intro h; exact_mod_cast h
        rw [e, m1]
        constructor
        · intro h
          refine Rat.not_le.mp fun q => ?_
          have := Rat.mul_le_mul_of_nonneg_left q (Rat.le_of_lt hl)
          grind
        · intro h
          have := Rat.mul_lt_mul_of_pos_left h hl
          grind
      by_cases c : m < l * low
      · rw [if_pos c, if_pos (e2.mp c), cst]
      · rw [if_neg c, if_neg (fun z => c (e2.mpr z)), m1]
theorem top_R {top low : Int} (h0 : 0 < low) (p : Pt) : (topF top low p : Rat) = low * szR p ((top : Rat) / low) := by
  refine cut_R h0 ?_
  have hl : (0 : Rat) < low := by exact_mod_cast h0
  have e : ((p.b * low + p.w * top : Int) : Rat) = (p.b : Rat) * low + p.w * top := by exact_mod_cast rfl
  rw [e]
  have h2 : (low : Rat) * ((top : Rat) / low) = top := by
    rw [Rat.mul_comm, Rat.div_mul_cancel (Rat.ne_of_gt hl)]
  grind
theorem tops_R {top low : Int} (h0 : 0 < low) (ps : List Pt) : (((topsF ps top low).sum : Int) : Rat) = low * sumR ps ((top : Rat) / low) := by
  unfold topsF sumR
  induction ps with
  | nil => simp
  | cons p ps ih =>
    rw [List.map_cons, List.sum_cons, List.map_cons, List.sum_cons]
    have e : ((topF top low p + (ps.map (topF top low)).sum : Int) : Rat) = (topF top low p : Rat) + ((ps.map (topF top low)).sum : Int) := by exact_mod_cast rfl
    rw [e, ih, top_R h0]
    grind

/-! ### where a part grows -/
def Grows (p : Pt) (t : Rat) : Prop := (∀ x, p.l = some x → (x : Rat) ≤ p.b + p.w * t) ∧ ∀ x, p.h = some x → p.b + p.w * t < (x : Rat)
open Classical in
noncomputable def gR (p : Pt) (t : Rat) : Rat := if Grows p t then (p.w : Rat) else 0
theorem sz_lin {p : Pt} (ok : p.Ok) {t0 t : Rat} (h : t0 ≤ t) (nk : ∀ x, p.l = some x ∨ p.h = some x → 0 < p.w → p.b + p.w * t0 < (x : Rat) → p.b + p.w * t ≤ (x : Rat)) : szR p t = szR p t0 + gR p t0 * (t - t0) := by
  have hw : (0 : Rat) ≤ p.w := by exact_mod_cast ok.w0
  have hm : (p.w : Rat) * t0 ≤ p.w * t := Rat.mul_le_mul_of_nonneg_left h hw
  have hz : p.w = 0 → (p.w : Rat) * t = p.w * t0 := fun e => by rw [e]; simp
  have hp : 0 < p.w ∨ p.w = 0 := by have := ok.w0; omega
  have e1 : (p.w : Rat) * (t - t0) = p.w * t - p.w * t0 := by grind
  obtain ⟨b, w, l, u⟩ := p
  dsimp only at *
  unfold gR Grows szR cutR
  dsimp only
  generalize (w : Rat) * t = wt at *
  generalize (w : Rat) * t0 = wt0 at *
  have nk' : ∀ x, l = some x ∨ u = some x → (b : Rat) + wt0 < (x : Rat) → (b : Rat) + wt ≤ (x : Rat) := fun x hx hlt => by
    rcases hp with hp | hp
    · exact nk x hx hp hlt
    · have := hz hp; grind
  cases l with
  | none =>
    cases u with
    | none =>
      have g : (∀ x, (none : Option Int) = some x → (x : Rat) ≤ b + wt0) ∧ ∀ x, (none : Option Int) = some x → b + wt0 < (x : Rat) := ⟨fun _ h => (nomatch h), fun _ h => (nomatch h)⟩
      rw [if_pos g, e1]; grind
    | some y =>
      have n2 := nk' y (.inr rfl)
      by_cases c : (b : Rat) + wt0 < y
      · have g : (∀ x, (none : Option Int) = some x → (x : Rat) ≤ b + wt0) ∧ ∀ x, (some y : Option Int) = some x → b + wt0 < (x : Rat) := ⟨fun _ h => (nomatch h), fun _ h => by injection h with h; subst h; exact c⟩
        rw [if_pos g, e1]; grind
      · have g : ¬ ((∀ x, (none : Option Int) = some x → (x : Rat) ≤ b + wt0) ∧ ∀ x, (some y : Option Int) = some x → b + wt0 < (x : Rat)) := fun z => c (z.2 y rfl)
        rw [if_neg g]; grind
  | some x =>
    have n1 := nk' x (.inl rfl)
    cases u with
    | none =>
      by_cases c : (x : Rat) ≤ b + wt0
      · have g : (∀ z, (some x : Option Int) = some z → (z : Rat) ≤ b + wt0) ∧ ∀ x, (none : Option Int) = some x → b + wt0 < (x : Rat) := ⟨fun _ h => by injection h with h; subst h; exact c, fun _ h => (nomatch h)⟩
        rw [if_pos g, e1]; grind
      · have g : ¬ ((∀ z, (some x : Option Int) = some z → (z : Rat) ≤ b + wt0) ∧ ∀ x, (none : Option Int) = some x → b + wt0 < (x : Rat)) := fun z => c (z.1 x rfl)
        rw [if_neg g]; grind
    | some y =>
      have n2 := nk' y (.inr rfl)
      have xy : (x : Rat) ≤ y := by exact_mod_cast ok.lh x y rfl rfl
      by_cases c : (x : Rat) ≤ b + wt0
      · by_cases c2 : (b : Rat) + wt0 < y
        · have g : (∀ z, (some x : Option Int) = some z → (z : Rat) ≤ b + wt0) ∧ ∀ x, (some y : Option Int) = some x → b + wt0 < (x : Rat) := ⟨fun _ h => by injection h with h; subst h; exact c, fun _ h => by injection h with h; subst h; exact c2⟩
          rw [if_pos g, e1]; grind
        · have g : ¬ ((∀ z, (some x : Option Int) = some z → (z : Rat) ≤ b + wt0) ∧ ∀ x, (some y : Option Int) = some x → b + wt0 < (x : Rat)) := fun z => c2 (z.2 y rfl)
          rw [if_neg g]; grind
      · have g : ¬ ((∀ z, (some x : Option Int) = some z → (z : Rat) ≤ b + wt0) ∧ ∀ x, (some y : Option Int) = some x → b + wt0 < (x : Rat)) := fun z => c (z.1 x rfl)
        rw [if_neg g]; grind
noncomputable def gainR (ps : List Pt) (t : Rat) : Rat := (ps.map fun p => gR p t).sum
theorem sum_lin {ps : List Pt} (ok : ∀ p ∈ ps, p.Ok) {t0 t : Rat} (h : t0 ≤ t) (nk : ∀ p ∈ ps, ∀ x, p.l = some x ∨ p.h = some x → 0 < p.w → p.b + p.w * t0 < (x : Rat) → p.b + p.w * t ≤ (x : Rat)) : sumR ps t = sumR ps t0 + gainR ps t0 * (t - t0) := by
  unfold sumR gainR
  induction ps with
  | nil => show (0 : Rat) = 0 + 0 * (t - t0); grind
  | cons p ps ih =>
    simp only [List.map_cons, List.sum_cons]
    rw [ih (fun q hq => ok q (List.mem_cons_of_mem _ hq)) (fun q hq => nk q (List.mem_cons_of_mem _ hq)), sz_lin (ok p List.mem_cons_self) h (nk p List.mem_cons_self)]
    grind
/-! ### the knots -/
def knot (p : Pt) : Option Int → Option (Int × Int)
  | some x => if 0 < p.w ∧ p.b < x then some (x - p.b, p.w) else none
  | none => none
def knots1 (p : Pt) : List (Int × Int) := [p.l, p.h].filterMap (knot p)
def knotsF (ps : List Pt) : List (Int × Int) := ps.flatMap knots1
def val (k : Int × Int) : Rat := (k.1 : Rat) / k.2
theorem knots_pos {ps : List Pt} {k : Int × Int} (h : k ∈ knotsF ps) : 0 < k.1 ∧ 0 < k.2 := by
  obtain ⟨p, _, h⟩ := List.mem_flatMap.mp h
  obtain ⟨o, _, h⟩ := List.mem_filterMap.mp h
  cases o with
  | none => cases h
  | some x =>
    unfold knot at h
    dsimp only at h
    split at h
    · rename_i c; injection h with h; subst h; exact ⟨by omega, c.1⟩
    · cases h
theorem knot_of {ps : List Pt} {p : Pt} (hp : p ∈ ps) {x : Int} (hx : p.l = some x ∨ p.h = some x) (hw : 0 < p.w) (hb : p.b < x) : (x - p.b, p.w) ∈ knotsF ps := by
  refine List.mem_flatMap.mpr ⟨p, hp, List.mem_filterMap.mpr ⟨some x, ?_, by unfold knot; dsimp only; rw [if_pos ⟨hw, hb⟩]⟩⟩
  rcases hx with h | h
  · rw [h]; exact List.mem_cons_self
  · rw [h]; exact List.mem_cons_of_mem _ List.mem_cons_self
theorem val_le {p : Pt} {x : Int} (hw : 0 < p.w) (t : Rat) : (t < val (x - p.b, p.w) ↔ p.b + p.w * t < (x : Rat)) ∧ (t ≤ val (x - p.b, p.w) ↔ p.b + p.w * t ≤ (x : Rat)) := by
  have hw' : (0 : Rat) < p.w := by exact_mod_cast hw
  have e : ((x - p.b : Int) : Rat) = x - p.b := by exact_mod_cast rfl
  unfold val
  dsimp only
  rw [e]
  constructor
  · rw [Rat.lt_div_iff hw']; constructor <;> intro h <;> grind
  · have e2 := Rat.div_lt_iff (a := (x : Rat) - p.b) (c := t) hw'
    constructor
    · intro h
      refine Rat.not_lt.mp fun z => ?_
      exact absurd h (Rat.not_le.mpr (e2.mpr (by grind)))
    · intro h
      refine Rat.not_lt.mp fun z => ?_
      have := e2.mp z
      grind
theorem least_of {α : Type} (f : α → Rat) (P : α → Prop) : ∀ {l : List α}, (∃ k ∈ l, P k) → ∃ k ∈ l, P k ∧ ∀ j ∈ l, P j → f k ≤ f j
  | [], h => by obtain ⟨k, h, _⟩ := h; cases h
  | a :: l, h => by
    by_cases hl : ∃ k ∈ l, P k
    · obtain ⟨k, hk, pk, mk⟩ := least_of f P hl
      by_cases ha : P a ∧ f a ≤ f k
      · refine ⟨a, List.mem_cons_self, ha.1, fun j hj pj => ?_⟩
        rcases List.mem_cons.mp hj with h | h
        · subst h; exact Rat.le_refl
        · exact Rat.le_trans ha.2 (mk j h pj)
      · refine ⟨k, List.mem_cons_of_mem _ hk, pk, fun j hj pj => ?_⟩
        rcases List.mem_cons.mp hj with h | h
        · subst h
          exact Rat.le_of_lt (Rat.not_le.mp fun z => ha ⟨pj, z⟩)
        · exact mk j h pj
    · obtain ⟨k, hk, pk⟩ := h
      rcases List.mem_cons.mp hk with e | e
      · subst e
        refine ⟨k, List.mem_cons_self, pk, fun j hj pj => ?_⟩
        rcases List.mem_cons.mp hj with h | h
        · subst h; exact Rat.le_refl
        · exact absurd ⟨j, h, pj⟩ hl
      · exact absurd ⟨k, e, pk⟩ hl
/-- no knot between: the bounds ask nothing -/
theorem no_knot {ps : List Pt} {t0 t : Rat} (h0 : 0 ≤ t0) (nk : ∀ k ∈ knotsF ps, t0 < val k → t ≤ val k) : ∀ p ∈ ps, ∀ x, p.l = some x ∨ p.h = some x → 0 < p.w → p.b + p.w * t0 < (x : Rat) → p.b + p.w * t ≤ (x : Rat) := fun p hp x hx hw hlt => by
  have hb : p.b < x := by
    have hw' : (0 : Rat) ≤ p.w := by exact_mod_cast Int.le_of_lt hw
    have := Rat.mul_nonneg hw' h0
    have : (p.b : Rat) < x := by grind
    exact_mod_cast this
  have hk := knot_of hp hx hw hb
  exact (val_le hw t).2.mp (nk _ hk ((val_le hw t0).1.mpr hlt))

/-! ### the program's own steps -/
def startStep (ps : List Pt) (room : Int) (s k : Int × Int) : Int × Int :=
  if k.1 * s.2 > s.1 * k.2 ∧ (topsF ps k.1 k.2).sum < room * k.2 then k else s
def startF (ps : List Pt) (room : Int) (K : List (Int × Int)) : Int × Int := K.foldl (startStep ps room) (0, 1)
def growsI (p : Pt) (top low : Int) : Bool :=
  (match p.l with | none => true | some x => decide (p.b * low + p.w * top ≥ x * low)) && (match p.h with | none => true | some x => decide (p.b * low + p.w * top < x * low))
def gainF (ps : List Pt) (top low : Int) : Int := (ps.map fun p => if growsI p top low then p.w else 0).sum
def lowestF (top low : Int) : Int × Int := (top / ((Nat.gcd top.natAbs low.natAbs : Nat) : Int), low / ((Nat.gcd top.natAbs low.natAbs : Nat) : Int))
def leastF (ps : List Pt) (room : Int) : Option (Int × Int) :=
  let s := startF ps room (knotsF ps)
  let g := gainF ps s.1 s.2
  if g = 0 then none else some (lowestF (s.1 * g + room * s.2 - (topsF ps s.1 s.2).sum) (s.2 * g))
theorem cmp_val {a b c d : Int} (hb : 0 < b) (hd : 0 < d) : a * d > c * b ↔ (c : Rat) / d < (a : Rat) / b := by
  have hb' : (0 : Rat) < b := by exact_mod_cast hb
  have hd' : (0 : Rat) < d := by exact_mod_cast hd
  have e : (c : Rat) / d * b = c * b / d := by
    rw [Rat.div_def, Rat.div_def]; grind
  rw [Rat.lt_div_iff hb', e, Rat.div_lt_iff hd']
  constructor
  · intro h; exact_mod_cast h
  · intro h; exact_mod_cast h
theorem sum_lt {ps : List Pt} {top low room : Int} (hl : 0 < low) : (topsF ps top low).sum < room * low ↔ sumR ps ((top : Rat) / low) < room := by
  have hl' : (0 : Rat) < low := by exact_mod_cast hl
  have e : (topsF ps top low).sum < room * low ↔ (((topsF ps top low).sum : Int) : Rat) < room * low := by
    constructor
    · intro h; exact_mod_cast h
    · intro h; exact_mod_cast h
  rw [e, tops_R hl]
  constructor
  · intro h
    refine Rat.not_le.mp fun z => ?_
    have := Rat.mul_le_mul_of_nonneg_left z (Rat.le_of_lt hl')
    grind
  · intro h
    have := Rat.mul_lt_mul_of_pos_left h hl'
    grind
theorem start_inv {ps : List Pt} {room : Int} (h0 : sumR ps 0 < room) : ∀ (K : List (Int × Int)), (∀ k ∈ K, 0 < k.1 ∧ 0 < k.2) → ∀ (done : List (Int × Int)) (s : Int × Int),
    (0 ≤ s.1 ∧ 0 < s.2 ∧ sumR ps (val s) < room ∧ ∀ k ∈ done, val s < val k → (room : Rat) ≤ sumR ps (val k)) →
    let r := K.foldl (startStep ps room) s
    0 ≤ r.1 ∧ 0 < r.2 ∧ sumR ps (val r) < room ∧ ∀ k ∈ done ++ K, val r < val k → (room : Rat) ≤ sumR ps (val k)
  | [], _, done, s, h => by
    dsimp only
    rw [List.foldl_nil, List.append_nil]; exact h
  | k :: K, hK, done, s, ⟨h1, h2, h3, h4⟩ => by
    have hk := hK k List.mem_cons_self
    have e1 : k.1 * s.2 > s.1 * k.2 ↔ val s < val k := cmp_val hk.2 h2
    have e2 : (topsF ps k.1 k.2).sum < room * k.2 ↔ sumR ps (val k) < room := sum_lt hk.2
    have ih := start_inv h0 K (fun j hj => hK j (List.mem_cons_of_mem _ hj)) (done ++ [k]) (startStep ps room s k) (by
      unfold startStep
      by_cases c : val s < val k ∧ sumR ps (val k) < room
      · rw [if_pos ⟨e1.mpr c.1, e2.mpr c.2⟩]
        refine ⟨Int.le_of_lt hk.1, hk.2, c.2, fun j hj hlt => ?_⟩
        rcases List.mem_append.mp hj with h | h
        · exact h4 j h (by have := c.1; grind)
        · rw [List.mem_singleton] at h; subst h; exact absurd hlt Rat.lt_irrefl
      · rw [if_neg fun z => c ⟨e1.mp z.1, e2.mp z.2⟩]
        refine ⟨h1, h2, h3, fun j hj hlt => ?_⟩
        rcases List.mem_append.mp hj with h | h
        · exact h4 j h hlt
        · rw [List.mem_singleton] at h; subst h
          exact Rat.not_lt.mp fun z => c ⟨hlt, z⟩)
    dsimp only at ih ⊢
    rw [List.foldl_cons]
    rw [List.append_assoc] at ih
    exact ih
theorem growsI_iff {p : Pt} {top low : Int} (hl : 0 < low) : growsI p top low = true ↔ Grows p ((top : Rat) / low) := by
  have hl' : (0 : Rat) < low := by exact_mod_cast hl
  have h2 : (low : Rat) * ((top : Rat) / low) = top := by
    rw [Rat.mul_comm, Rat.div_mul_cancel (Rat.ne_of_gt hl')]
  generalize (top : Rat) / low = T at h2 ⊢
  have key : ∀ x : Int, (p.b * low + p.w * top ≥ x * low ↔ (x : Rat) ≤ p.b + p.w * T) := fun x => by
    have e : (p.b * low + p.w * top ≥ x * low) ↔ ((x : Rat) * low ≤ p.b * low + p.w * top) := by
      constructor
      · intro h; exact_mod_cast h
      · intro h; exact_mod_cast h
    rw [e]
    constructor
    · intro h
      refine Rat.not_lt.mp fun z => ?_
      have := Rat.mul_lt_mul_of_pos_left z hl'
      grind
    · intro h
      have := Rat.mul_le_mul_of_nonneg_left h (Rat.le_of_lt hl')
      grind
  have key2 : ∀ x : Int, (p.b * low + p.w * top < x * low ↔ p.b + p.w * T < (x : Rat)) := fun x => by
    rw [← Int.not_le, ← Rat.not_le]
    exact not_congr (key x)
  unfold growsI Grows
  rw [Bool.and_eq_true]
  refine and_congr ?_ ?_
  · cases p.l with
    | none => exact ⟨fun _ _ h => (nomatch h), fun _ => rfl⟩
    | some x =>
      dsimp only
      rw [decide_eq_true_iff, key x]
      exact ⟨fun h y e => by injection e with e; subst e; exact h, fun h => h x rfl⟩
  · cases p.h with
    | none => exact ⟨fun _ _ h => (nomatch h), fun _ => rfl⟩
    | some x =>
      dsimp only
      rw [decide_eq_true_iff, key2 x]
      exact ⟨fun h y e => by injection e with e; subst e; exact h, fun h => h x rfl⟩
theorem gain_R {ps : List Pt} {top low : Int} (hl : 0 < low) : ((gainF ps top low : Int) : Rat) = gainR ps ((top : Rat) / low) := by
  unfold gainF gainR
  induction ps with
  | nil => exact_mod_cast rfl
  | cons p ps ih =>
    simp only [List.map_cons, List.sum_cons]
    rw [← ih]
    have e : gR p ((top : Rat) / low) = ((if growsI p top low then p.w else 0 : Int) : Rat) := by
      unfold gR
      by_cases c : growsI p top low = true
      · rw [if_pos c, if_pos ((growsI_iff hl).mp c)]
      · rw [if_neg c, if_neg fun z => c ((growsI_iff hl).mpr z)]; exact_mod_cast rfl
    rw [e]
    exact_mod_cast rfl
theorem gR_nn {p : Pt} (ok : p.Ok) (t : Rat) : 0 ≤ gR p t := by
  unfold gR
  have hw : (0 : Rat) ≤ p.w := by exact_mod_cast ok.w0
  split
  · exact hw
  · exact Rat.le_refl
theorem gain_nn : ∀ {ps : List Pt}, (∀ p ∈ ps, p.Ok) → ∀ t, 0 ≤ gainR ps t
  | [], _, _ => Rat.le_refl
  | p :: ps, ok, t => by
    have h1 := gR_nn (ok p List.mem_cons_self) t
    have h2 := gain_nn (ps := ps) (fun q hq => ok q (List.mem_cons_of_mem _ hq)) t
    show 0 ≤ gR p t + gainR ps t
    grind
theorem gain_zero : ∀ {ps : List Pt}, (∀ p ∈ ps, p.Ok) → ∀ {t}, gainR ps t = 0 → ∀ p ∈ ps, gR p t = 0
  | [], _, _, _, p, h => by cases h
  | q :: ps, ok, t, e, p, h => by
    have h1 := gR_nn (ok q List.mem_cons_self) t
    have h2 := gain_nn (ps := ps) (fun q hq => ok q (List.mem_cons_of_mem _ hq)) t
    have e' : gR q t + gainR ps t = 0 := e
    rcases List.mem_cons.mp h with h | h
    · subst h; grind
    · exact gain_zero (fun q hq => ok q (List.mem_cons_of_mem _ hq)) (by grind) p h
theorem gain_pos : ∀ {ps : List Pt} {t}, 0 < gainR ps t → ∃ p ∈ ps, 0 < gR p t
  | [], t, h => absurd h Rat.lt_irrefl
  | q :: ps, t, h => by
    have h : 0 < gR q t + gainR ps t := h
    by_cases c : 0 < gR q t
    · exact ⟨q, List.mem_cons_self, c⟩
    · obtain ⟨p, hp, g⟩ := gain_pos (ps := ps) (t := t) (by grind)
      exact ⟨p, List.mem_cons_of_mem _ hp, g⟩
/-- the greatest a part can be -/
def mostOf (p : Pt) : Option Int := if p.w > 0 then p.h else some (cutF p.b p.l p.h)
def movesL (p : Pt) (top low : Int) : Prop := p.w ≠ 0 ∧ (∀ x, p.l = some x → p.b * low + p.w * top > x * low) ∧ ∀ x, p.h = some x → p.b * low + p.w * top ≤ x * low
/-- behind the greatest knot below the room nothing bars the way -/
structure Found (ps : List Pt) (room : Int) (a c : Int) : Prop where
  c1 : 0 < c
  a1 : 0 < a
  sum : (topsF ps a c).sum = room * c
  mv : ∃ p ∈ ps, movesL p a c
theorem least_some {ps : List Pt} {room : Int} (ok : ∀ p ∈ ps, p.Ok) {s : Int × Int} (h1 : 0 ≤ s.1) (h2 : 0 < s.2) (h3 : sumR ps (val s) < room) (h4 : ∀ k ∈ knotsF ps, val s < val k → (room : Rat) ≤ sumR ps (val k)) (hg : gainF ps s.1 s.2 ≠ 0) :
    Found ps room (s.1 * gainF ps s.1 s.2 + room * s.2 - (topsF ps s.1 s.2).sum) (s.2 * gainF ps s.1 s.2) := by
  have h2' : (0 : Rat) < s.2 := by exact_mod_cast h2
  have t00 : 0 ≤ val s := by
    have : (0 : Rat) ≤ s.1 := by exact_mod_cast h1
    unfold val
    refine Rat.not_lt.mp fun z => ?_
    have := (Rat.div_lt_iff h2').mp z
    grind
  have gR' := gain_R (ps := ps) (top := s.1) h2
  have gv : ((gainF ps s.1 s.2 : Int) : Rat) = gainR ps (val s) := gR'
  have gnn := gain_nn ok (val s)
  have gi : 0 < gainF ps s.1 s.2 := by
    have : (0 : Rat) ≤ (gainF ps s.1 s.2 : Int) := by rw [gv]; exact gnn
    have : 0 ≤ gainF ps s.1 s.2 := by exact_mod_cast this
    omega
  have gp : 0 < gainR ps (val s) := by rw [← gv]; exact_mod_cast gi
  have c1 : 0 < s.2 * gainF ps s.1 s.2 := Int.mul_pos h2 gi
  have S := tops_R (top := s.1) h2 ps
  have sv : (s.1 : Rat) = s.2 * val s := by unfold val; rw [Rat.mul_comm, Rat.div_mul_cancel (Rat.ne_of_gt h2')]
  have S' : (((topsF ps s.1 s.2).sum : Int) : Rat) = s.2 * sumR ps (val s) := S
  generalize hA : s.1 * gainF ps s.1 s.2 + room * s.2 - (topsF ps s.1 s.2).sum = A
  generalize hC : s.2 * gainF ps s.1 s.2 = C at c1
  have c1' : (0 : Rat) < C := by exact_mod_cast c1
  have eA : (A : Rat) = s.1 * gainR ps (val s) + room * s.2 - s.2 * sumR ps (val s) := by
    rw [← hA, ← S', ← gv]; exact_mod_cast rfl
  have eC : (C : Rat) = s.2 * gainR ps (val s) := by rw [← hC, ← gv]; exact_mod_cast rfl
  -- the ratio
  have et : ((A : Rat) / C - val s) * gainR ps (val s) = room - sumR ps (val s) := by
    have e1 : (A : Rat) / C * C = A := Rat.div_mul_cancel (Rat.ne_of_gt c1')
    have e2 : s.2 * (((A : Rat) / C - val s) * gainR ps (val s)) = s.2 * (room - sumR ps (val s)) := by
      rw [eC] at e1
      grind
    have e3 : (s.2 : Rat) * ((((A : Rat) / C - val s) * gainR ps (val s)) - (room - sumR ps (val s))) = 0 := by grind
    rcases Rat.mul_eq_zero.mp e3 with h | h
    · exact absurd h (Rat.ne_of_gt h2')
    · grind
  generalize hT : (A : Rat) / C = T at et
  have lt : val s < T := by
    refine Rat.not_le.mp fun z => ?_
    have : 0 ≤ (val s - T) * gainR ps (val s) := Rat.mul_nonneg (by grind) gnn
    grind
  have nk : ∀ k ∈ knotsF ps, val s < val k → T ≤ val k := fun k hk hlt => by
    refine Rat.not_lt.mp fun z => ?_
    obtain ⟨m, hm, ⟨pm1, pm2⟩, mm⟩ := least_of val (fun k => val s < val k ∧ val k < T) ⟨k, hk, hlt, z⟩
    have nk1 : ∀ j ∈ knotsF ps, val s < val j → val m ≤ val j := fun j hj hlt => by
      by_cases c : val j < T
      · exact mm j hj ⟨hlt, c⟩
      · exact Rat.le_trans (Rat.le_of_lt pm2) (Rat.not_lt.mp c)
    have := sum_lin ok (Rat.le_of_lt pm1) (no_knot t00 nk1)
    have q := h4 m hm pm1
    have : (val m - val s) * gainR ps (val s) < (T - val s) * gainR ps (val s) := Rat.mul_lt_mul_of_pos_right (by grind) gp
    grind
  have sl := sum_lin ok (Rat.le_of_lt lt) (no_knot t00 nk)
  have sT : sumR ps T = room := by grind
  refine ⟨c1, ?_, ?_, ?_⟩
  · have : (0 : Rat) < A := by
      have e1 : (A : Rat) / C * C = A := Rat.div_mul_cancel (Rat.ne_of_gt c1')
      rw [← e1, hT]
      exact Rat.mul_pos (by grind) c1'
    exact_mod_cast this
  · have := tops_R (top := A) c1 ps
    rw [hT, sT] at this
    have e : (((topsF ps A C).sum : Int) : Rat) = ((room * C : Int) : Rat) := by
      rw [this]
      have : ((room * C : Int) : Rat) = room * C := by exact_mod_cast rfl
      rw [this, Rat.mul_comm]
    exact_mod_cast e
  · obtain ⟨p, hp, g⟩ := gain_pos gp
    have gg : Grows p (val s) ∧ 0 < p.w := by
      unfold gR at g
      split at g
      · rename_i c; exact ⟨c, by exact_mod_cast g⟩
      · exact absurd g Rat.lt_irrefl
    have hw : (0 : Rat) < p.w := by exact_mod_cast gg.2
    have wl := Rat.mul_lt_mul_of_pos_left lt hw
    have cT : (C : Rat) * T = A := by rw [← hT, Rat.mul_comm, Rat.div_mul_cancel (Rat.ne_of_gt c1')]
    refine ⟨p, hp, by have := gg.2; omega, fun x e => ?_, fun x e => ?_⟩
    · have h := gg.1.1 x e
      have h5 : (x : Rat) < p.b + p.w * T := by grind
      have := Rat.mul_lt_mul_of_pos_left h5 c1'
      have h6 : (x : Rat) * C < p.b * C + p.w * A := by rw [← cT]; grind
      have : x * C < p.b * C + p.w * A := by exact_mod_cast h6
      exact this
    · have h := gg.1.2 x e
      have h5 := no_knot t00 nk p hp x (.inr e) gg.2 h
      have := Rat.mul_le_mul_of_nonneg_left h5 (Rat.le_of_lt c1')
      have h6 : p.b * C + p.w * A ≤ (x : Rat) * C := by rw [← cT]; grind
      exact_mod_cast h6

/-- a part's greatest, the other way -/
theorem sz_le_most {p : Pt} (ok : p.Ok) {m : Int} (hm : mostOf p = some m) (t : Rat) (hw : p.w = 0 → True) : szR p t ≤ m := by
  unfold mostOf at hm
  obtain ⟨b, w, l, u⟩ := p
  dsimp only at hm
  by_cases c : w > 0
  · rw [if_pos c] at hm
    subst hm
    unfold szR cutR
    dsimp only
    cases l with
    | none => dsimp only; split <;> grind
    | some x =>
      have xy : (x : Rat) ≤ m := by exact_mod_cast ok.lh x m rfl rfl
      dsimp only; split <;> split <;> grind
  · rw [if_neg c] at hm
    injection hm with hm
    subst hm
    have w0 : w = 0 := by have := ok.w0; dsimp only at this; omega
    subst w0
    have := cut_R (n := b) (low := 1) (x := (b : Rat) + ((0 : Int) : Rat) * t) (lo := l) (hi := u) (by decide) (by
      have : ((0 : Int) : Rat) = 0 := by exact_mod_cast rfl
      have h1 : ((1 : Int) : Rat) = 1 := by exact_mod_cast rfl
      rw [this, h1]; grind)
    have e1 : ∀ o : Option Int, timesF o 1 = o := fun o => by cases o <;> simp [timesF]
    rw [e1, e1] at this
    have h1 : ((1 : Int) : Rat) = 1 := by exact_mod_cast rfl
    unfold szR
    dsimp only
    rw [this, h1]
    grind
/-- where no bound is ahead and nothing grows, the parts are at their most -/
theorem sz_most {p : Pt} (ok : p.Ok) {t : Rat} (nk : ∀ x, p.l = some x ∨ p.h = some x → 0 < p.w → ¬ (p.b + p.w * t < (x : Rat))) (g : gR p t = 0) : ∃ m, mostOf p = some m ∧ szR p t = m := by
  obtain ⟨b, w, l, u⟩ := p
  unfold mostOf
  dsimp only at *
  by_cases c : w > 0
  · rw [if_pos c]
    have hw : (0 : Rat) < w := by exact_mod_cast c
    cases u with
    | none =>
      exfalso
      have gg : Grows ⟨b, w, l, none⟩ t := ⟨fun x e => Rat.not_lt.mp (nk x (.inl e) c), fun _ h => (nomatch h)⟩
      unfold gR at g
      rw [if_pos gg] at g
      dsimp only at g
      grind
    | some y =>
      refine ⟨y, rfl, ?_⟩
      have n2 := nk y (.inr rfl) c
      unfold szR cutR
      dsimp only
      cases l with
      | none => dsimp only; split <;> grind
      | some x =>
        have xy : (x : Rat) ≤ y := by exact_mod_cast ok.lh x y rfl rfl
        dsimp only; split <;> split <;> grind
  · rw [if_neg c]
    refine ⟨_, rfl, ?_⟩
    have w0 : w = 0 := by have := ok.w0; dsimp only at this; omega
    subst w0
    have := cut_R (n := b) (low := 1) (x := (b : Rat) + ((0 : Int) : Rat) * t) (lo := l) (hi := u) (by decide) (by
      have : ((0 : Int) : Rat) = 0 := by exact_mod_cast rfl
      have h1 : ((1 : Int) : Rat) = 1 := by exact_mod_cast rfl
      rw [this, h1]; grind)
    have e1 : ∀ o : Option Int, timesF o 1 = o := fun o => by cases o <;> simp [timesF]
    rw [e1, e1] at this
    have h1 : ((1 : Int) : Rat) = 1 := by exact_mod_cast rfl
    unfold szR
    dsimp only
    rw [this, h1]
    grind
theorem least_none {ps : List Pt} {room : Int} (ok : ∀ p ∈ ps, p.Ok) {s : Int × Int} (h1 : 0 ≤ s.1) (h2 : 0 < s.2) (h3 : sumR ps (val s) < room) (h4 : ∀ k ∈ knotsF ps, val s < val k → (room : Rat) ≤ sumR ps (val k)) (hg : gainF ps s.1 s.2 = 0) :
    ∃ ms : List Int, ps.map mostOf = ms.map some ∧ ms.sum < room := by
  have h2' : (0 : Rat) < s.2 := by exact_mod_cast h2
  have t00 : 0 ≤ val s := by
    have : (0 : Rat) ≤ s.1 := by exact_mod_cast h1
    unfold val
    refine Rat.not_lt.mp fun z => ?_
    have := (Rat.div_lt_iff h2').mp z
    grind
  have gv : ((gainF ps s.1 s.2 : Int) : Rat) = gainR ps (val s) := gain_R (ps := ps) (top := s.1) h2
  have g0 : gainR ps (val s) = 0 := by rw [← gv, hg]; exact_mod_cast rfl
  have nk : ∀ k ∈ knotsF ps, ¬ val s < val k := fun k hk hlt => by
    obtain ⟨m, hm, pm1, mm⟩ := least_of val (fun k => val s < val k) ⟨k, hk, hlt⟩
    have := sum_lin ok (Rat.le_of_lt pm1) (no_knot t00 fun j hj hlt => mm j hj hlt)
    have q := h4 m hm pm1
    rw [g0] at this
    grind
  have each : ∀ p ∈ ps, ∃ m, mostOf p = some m ∧ szR p (val s) = m := fun p hp => by
    refine sz_most (ok p hp) (fun x hx hw hlt => ?_) (gain_zero ok g0 p hp)
    have hb : p.b < x := by
      have hw' : (0 : Rat) ≤ p.w := by exact_mod_cast Int.le_of_lt hw
      have := Rat.mul_nonneg hw' t00
      have : (p.b : Rat) < x := by grind
      exact_mod_cast this
    exact nk _ (knot_of hp hx hw hb) ((val_le hw (val s)).1.mpr hlt)
  have all : ∀ (qs : List Pt), (∀ p ∈ qs, ∃ m : Int, mostOf p = some m ∧ szR p (val s) = m) → ∃ ms : List Int, qs.map mostOf = ms.map some ∧ sumR qs (val s) = (ms.sum : Int) := fun qs => by
    induction qs with
    | nil => intro _; exact ⟨[], rfl, by unfold sumR; exact_mod_cast rfl⟩
    | cons q qs ih =>
      intro h
      obtain ⟨m, e1, e2⟩ := h q List.mem_cons_self
      obtain ⟨ms, e3, e4⟩ := ih fun p hp => h p (List.mem_cons_of_mem _ hp)
      refine ⟨m :: ms, by rw [List.map_cons, List.map_cons, e1, e3], ?_⟩
      unfold sumR at e4 ⊢
      rw [List.map_cons, List.sum_cons, e2, e4, List.sum_cons]
      exact_mod_cast rfl
  obtain ⟨ms, e1, e2⟩ := all ps each
  refine ⟨ms, e1, ?_⟩
  rw [e2] at h3
  exact_mod_cast h3
/-! ### lowest terms -/
theorem lowest_spec {a c : Int} (hc : 0 < c) : ∃ g : Int, 0 < g ∧ a = (lowestF a c).1 * g ∧ c = (lowestF a c).2 * g ∧ 0 < (lowestF a c).2 ∧ Nat.gcd (lowestF a c).1.natAbs (lowestF a c).2.natAbs = 1 := by
  unfold lowestF
  dsimp only
  have hg : 0 < Nat.gcd a.natAbs c.natAbs := Nat.gcd_pos_of_pos_right _ (by omega)
  have d1 : ((Nat.gcd a.natAbs c.natAbs : Nat) : Int) ∣ a := Int.ofNat_dvd_left.mpr (Nat.gcd_dvd_left _ _)
  have d2 : ((Nat.gcd a.natAbs c.natAbs : Nat) : Int) ∣ c := Int.ofNat_dvd_left.mpr (Nat.gcd_dvd_right _ _)
  refine ⟨(Nat.gcd a.natAbs c.natAbs : Nat), by omega, (Int.ediv_mul_cancel d1).symm, (Int.ediv_mul_cancel d2).symm, ?_, ?_⟩
  · have e := Int.ediv_mul_cancel d2
    refine Int.not_le.mp fun z => ?_
    have : c / ((Nat.gcd a.natAbs c.natAbs : Nat) : Int) * ((Nat.gcd a.natAbs c.natAbs : Nat) : Int) ≤ 0 := Int.mul_nonpos_of_nonpos_of_nonneg z (by omega)
    omega
  · rw [Int.natAbs_ediv_of_dvd d1, Int.natAbs_ediv_of_dvd d2, Int.natAbs_natCast]
    rw [Nat.gcd_div (Nat.gcd_dvd_left _ _) (Nat.gcd_dvd_right _ _), Nat.div_self hg]

theorem found_low {ps : List Pt} {room a c : Int} (f : Found ps room a c) : Found ps room (lowestF a c).1 (lowestF a c).2 ∧ Nat.gcd (lowestF a c).1.natAbs (lowestF a c).2.natAbs = 1 := by
  obtain ⟨g, hg, ea, ec, hc, hcop⟩ := lowest_spec (a := a) f.c1
  generalize (lowestF a c).1 = a' at *
  generalize (lowestF a c).2 = c' at *
  have ha' : 0 < a' := by
    have := f.a1
    refine Int.not_le.mp fun z => ?_
    have : a' * g ≤ 0 := Int.mul_nonpos_of_nonpos_of_nonneg z (by omega)
    omega
  refine ⟨⟨hc, ha', ?_, ?_⟩, hcop⟩
  · have h1 := tops_R (top := a) f.c1 ps
    have h2 := tops_R (top := a') hc ps
    have hg' : (0 : Rat) < g := by exact_mod_cast hg
    have hc' : (0 : Rat) < c' := by exact_mod_cast hc
    have e1 : (a : Rat) = a' * g := by rw [ea]; exact_mod_cast rfl
    have e2 : (c : Rat) = c' * g := by rw [ec]; exact_mod_cast rfl
    have e3 : (a : Rat) / c = (a' : Rat) / c' := by
      have n1 : (c' : Rat) * g ≠ 0 := Rat.ne_of_gt (Rat.mul_pos hc' hg')
      have n2 : (c' : Rat) ≠ 0 := Rat.ne_of_gt hc'
      have n3 : (g : Rat) ≠ 0 := Rat.ne_of_gt hg'
      rw [e1, e2]
      have h5 : (a' : Rat) * g / (c' * g) * (c' * g) = a' * g := Rat.div_mul_cancel n1
      have h6 : (a' : Rat) / c' * c' = a' := Rat.div_mul_cancel n2
      generalize (a' : Rat) * g / (c' * g) = X at *
      generalize (a' : Rat) / c' = Y at *
      have : (X - Y) * (c' * g) = 0 := by rw [← h6] at h5; grind
      rcases Rat.mul_eq_zero.mp this with h | h
      · grind
      · exact absurd h n1
    rw [f.sum, e3] at h1
    have h7 : ((room * c : Int) : Rat) = room * c := by exact_mod_cast rfl
    have hcc : (0 : Rat) < c := by exact_mod_cast f.c1
    have h8 : sumR ps ((a' : Rat) / c') = room := by
      have : (c : Rat) * (sumR ps ((a' : Rat) / c') - room) = 0 := by rw [h7] at h1; grind
      rcases Rat.mul_eq_zero.mp this with h | h
      · exact absurd h (Rat.ne_of_gt hcc)
      · grind
    rw [h8] at h2
    have h9 : (((topsF ps a' c').sum : Int) : Rat) = ((room * c' : Int) : Rat) := by
      rw [h2]
      have : ((room * c' : Int) : Rat) = room * c' := by exact_mod_cast rfl
      rw [this, Rat.mul_comm]
    exact_mod_cast h9
  · obtain ⟨p, hp, w, m1, m2⟩ := f.mv
    refine ⟨p, hp, w, fun x e => ?_, fun x e => ?_⟩
    · have := m1 x e
      rw [ea, ec] at this
      refine Int.not_le.mp fun z => ?_
      have := Int.mul_le_mul_of_nonneg_right z (Int.le_of_lt hg)
      grind
    · have := m2 x e
      rw [ea, ec] at this
      refine Int.not_lt.mp fun z => ?_
      have := Int.mul_lt_mul_of_pos_right z hg
      grind
/-- THE least ratio above 0 -/
theorem least_ok {ps : List Pt} {room : Int} (ok : ∀ p ∈ ps, p.Ok) (h0 : (topsF ps 0 1).sum < room) :
    (leastF ps room = none ∧ ∃ ms : List Int, ps.map mostOf = ms.map some ∧ ms.sum < room) ∨
    ∃ r, leastF ps room = some r ∧ Found ps room r.1 r.2 ∧ Nat.gcd r.1.natAbs r.2.natAbs = 1 := by
  have e0 : sumR ps 0 < room := by
    have := (sum_lt (ps := ps) (top := 0) (low := 1) (room := room) (by decide)).mp (by omega)
    have e : ((0 : Int) : Rat) / ((1 : Int) : Rat) = 0 := by
      have h1 : ((0 : Int) : Rat) = 0 := by exact_mod_cast rfl
      have h2 : ((1 : Int) : Rat) = 1 := by exact_mod_cast rfl
      rw [h1, h2]; grind
    rw [e] at this; exact this
  have v0 : val (0, 1) = 0 := by
    unfold val
    have h1 : ((0 : Int) : Rat) = 0 := by exact_mod_cast rfl
    have h2 : ((1 : Int) : Rat) = 1 := by exact_mod_cast rfl
    dsimp only
    rw [h1, h2]; grind
  obtain ⟨h1, h2, h3, h4⟩ := start_inv e0 (knotsF ps) (fun k hk => knots_pos hk) [] (0, 1) ⟨by decide, by decide, by rw [v0]; exact e0, fun k hk => (nomatch hk)⟩
  rw [List.nil_append] at h4
  unfold leastF startF
  dsimp only
  generalize (knotsF ps).foldl (startStep ps room) (0, 1) = s at *
  by_cases c : gainF ps s.1 s.2 = 0
  · rw [if_pos c]
    exact .inl ⟨rfl, least_none ok h1 h2 h3 h4 c⟩
  · rw [if_neg c]
    have := found_low (least_some ok h1 h2 h3 h4 c)
    exact .inr ⟨_, rfl, this.1, this.2⟩
/-! ### mirrored -/
def mirF (p : Pt) : Pt := ⟨-p.b, p.w, p.h.map fun x => -x, p.l.map fun x => -x⟩
theorem mir_ok {p : Pt} (ok : p.Ok) : (mirF p).Ok := by
  refine ⟨ok.w0, fun x y h1 h2 => ?_⟩
  unfold mirF at h1 h2
  dsimp only at h1 h2
  cases e1 : p.h with
  | none => rw [e1] at h1; cases h1
  | some u =>
    cases e2 : p.l with
    | none => rw [e2] at h2; cases h2
    | some v =>
      rw [e1] at h1; rw [e2] at h2
      injection h1 with h1; injection h2 with h2
      have h1 : -u = x := h1
      have h2 : -v = y := h2
      have := ok.lh v u e2 e1
      omega
theorem mc1 (n y : Int) : (if -n < -y then -y else -n) = -(if n > y then y else n) := by
  by_cases c : n > y
  · rw [if_pos c, if_pos (by omega)]
  · rw [if_neg c, if_neg (by omega)]
theorem mc2 (n x : Int) : (if -n > -x then -x else -n) = -(if n < x then x else n) := by
  by_cases c : n < x
  · rw [if_pos c, if_pos (by omega)]
  · rw [if_neg c, if_neg (by omega)]
theorem mc3 (n x y : Int) (h : x ≤ y) : (if (if -n > -x then -x else -n) < -y then -y else (if -n > -x then -x else -n)) = -(if (if n > y then y else n) < x then x else (if n > y then y else n)) := by
  rw [mc2]
  by_cases c : n < x
  · have c2 : ¬ n > y := by omega
    rw [if_pos c, if_neg (by omega : ¬ -x < -y), if_neg c2, if_pos c]
  · rw [if_neg c]
    by_cases c2 : n > y
    · rw [if_pos c2, if_pos (by omega), if_neg (by omega)]
    · rw [if_neg c2, if_neg (by omega), if_neg c]
theorem mir_top {p : Pt} (ok : p.Ok) {top low : Int} (hl : 0 < low) : topF top low (mirF p) = - topF (-top) low p := by
  obtain ⟨b, w, l, h⟩ := p
  unfold topF mirF cutF
  dsimp only
  have e : -b * low + w * top = -(b * low + w * -top) := by grind
  rw [e]
  generalize b * low + w * -top = n
  have nm : ∀ x : Int, -x * low = -(x * low) := fun x => by grind
  cases l with
  | none =>
    cases h with
    | none => rfl
    | some y =>
      show (if -n < -y * low then -y * low else -n) = -(if n > y * low then y * low else n)
      have := mc1 n (y * low)
      simp only [nm]
      exact this
  | some x =>
    cases h with
    | none =>
      show (if -n > -x * low then -x * low else -n) = -(if n < x * low then x * low else n)
      have := mc2 n (x * low)
      simp only [nm]
      exact this
    | some y =>
      have xy := ok.lh x y rfl rfl
      have h1 : x * low ≤ y * low := Int.mul_le_mul_of_nonneg_right xy (Int.le_of_lt hl)
      show (if (if -n > -x * low then -x * low else -n) < -y * low then -y * low else (if -n > -x * low then -x * low else -n)) = -(if (if n > y * low then y * low else n) < x * low then x * low else (if n > y * low then y * low else n))
      have := mc3 n (x * low) (y * low) h1
      simp only [nm]
      exact this
theorem mir_tops {ps : List Pt} (ok : ∀ p ∈ ps, p.Ok) {top low : Int} (hl : 0 < low) : (topsF (ps.map mirF) top low).sum = - (topsF ps (-top) low).sum := by
  unfold topsF
  induction ps with
  | nil => rfl
  | cons p ps ih =>
    simp only [List.map_cons, List.sum_cons]
    rw [ih fun q hq => ok q (List.mem_cons_of_mem _ hq), mir_top (ok p List.mem_cons_self) hl]
    omega

/-! ### the ratio nearest to 0 -/
def ratioF (ps : List Pt) (room : Int) : Option (Int × Int) :=
  if (topsF ps 0 1).sum = room then some (0, 1)
  else if (topsF ps 0 1).sum < room then leastF ps room
  else (leastF (ps.map mirF) (-room)).map fun r => (-r.1, r.2)
def movesR (p : Pt) (top low : Int) : Prop := p.w ≠ 0 ∧ (∀ x, p.l = some x → p.b * low + p.w * top ≥ x * low) ∧ ∀ x, p.h = some x → p.b * low + p.w * top < x * low
def leastOf (p : Pt) : Option Int := if p.w > 0 then p.l else some (cutF p.b p.l p.h)
theorem cut_neg {b : Int} {l h : Option Int} (ok : ∀ x y, l = some x → h = some y → x ≤ y) : cutF (-b) (h.map fun x => -x) (l.map fun x => -x) = - cutF b l h := by
  cases l with
  | none =>
    cases h with
    | none => rfl
    | some y => exact mc1 b y
  | some x =>
    cases h with
    | none => exact mc2 b x
    | some y => exact mc3 b x y (ok x y rfl rfl)
theorem mir_most {p : Pt} (ok : p.Ok) : mostOf (mirF p) = (leastOf p).map fun x => -x := by
  unfold mostOf leastOf
  show (if p.w > 0 then (mirF p).h else _) = _
  by_cases c : p.w > 0
  · rw [if_pos c, if_pos c]; rfl
  · rw [if_neg c, if_neg c]
    show some (cutF (-p.b) (p.h.map fun x => -x) (p.l.map fun x => -x)) = some (- cutF p.b p.l p.h)
    rw [cut_neg ok.lh]
theorem all_some {α : Type} {f : α → Option Int} : ∀ {l : List α} {ms : List Int}, l.map f = ms.map some → ∀ a ∈ l, ∃ m, f a = some m
  | [], _, _, a, h => nomatch h
  | b :: l, [], e, a, h => by simp at e
  | b :: l, m :: ms, e, a, h => by
    rw [List.map_cons, List.map_cons] at e
    injection e with e1 e2
    rcases List.mem_cons.mp h with h | h
    · subst h; exact ⟨m, e1⟩
    · exact all_some e2 a h
theorem neg_sum : ∀ (ms : List Int), (ms.map fun x => -x).sum = - ms.sum
  | [] => rfl
  | m :: ms => by rw [List.map_cons, List.sum_cons, List.sum_cons, neg_sum ms]; omega
/-- what the law asks of a ratio -/
structure Near (ps : List Pt) (room : Int) (r : Int × Int) : Prop where
  low : 0 < r.2
  cop : Nat.gcd r.1.natAbs r.2.natAbs = 1
  sum : (topsF ps r.1 r.2).sum = room * r.2
  mv : r.1 = 0 ∨ (0 < r.1 ∧ ∃ p ∈ ps, movesL p r.1 r.2) ∨ (r.1 < 0 ∧ ∃ p ∈ ps, movesR p r.1 r.2)
theorem ratio_right {ps : List Pt} {room : Int} (ok : ∀ p ∈ ps, p.Ok) :
    (ratioF ps room = none ∧ (topsF ps 0 1).sum < room ∧ ∃ ms : List Int, ps.map mostOf = ms.map some ∧ ms.sum < room) ∨
    (ratioF ps room = none ∧ room < (topsF ps 0 1).sum ∧ ∃ ms : List Int, ps.map leastOf = ms.map some ∧ room < ms.sum) ∨
    ∃ r, ratioF ps room = some r ∧ Near ps room r := by
  unfold ratioF
  by_cases c : (topsF ps 0 1).sum = room
  · rw [if_pos c]
    exact .inr (.inr ⟨_, rfl, by decide, by decide, by show (topsF ps 0 1).sum = room * 1; omega, .inl rfl⟩)
  · rw [if_neg c]
    by_cases c2 : (topsF ps 0 1).sum < room
    · rw [if_pos c2]
      rcases least_ok ok c2 with ⟨h1, h2⟩ | ⟨r, h1, h2, h3⟩
      · exact .inl ⟨h1, c2, h2⟩
      · exact .inr (.inr ⟨r, h1, h2.c1, h3, h2.sum, .inr (.inl ⟨h2.a1, h2.mv⟩)⟩)
    · rw [if_neg c2]
      have ok' : ∀ p ∈ ps.map mirF, p.Ok := fun p hp => by
        obtain ⟨q, hq, e⟩ := List.mem_map.mp hp
        subst e; exact mir_ok (ok q hq)
      have h0 : (topsF (ps.map mirF) 0 1).sum < -room := by
        rw [mir_tops ok (by decide)]
        have : (-0 : Int) = 0 := rfl
        rw [this]; omega
      rcases least_ok ok' h0 with ⟨h1, ms, h2, h3⟩ | ⟨r, h1, h2, h3⟩
      · refine .inr (.inl ⟨by rw [h1]; rfl, by omega, ms.map fun x => -x, ?_, by rw [neg_sum]; omega⟩)
        rw [List.map_map] at h2
        have e1 : ps.map (mostOf ∘ mirF) = ps.map fun p => (leastOf p).map fun x => -x := List.map_congr_left fun p hp => mir_most (ok p hp)
        rw [e1] at h2
        have e2 : ∀ (qs : List Pt) (ms : List Int), (qs.map fun p => (leastOf p).map fun x => -x) = ms.map some → qs.map leastOf = (ms.map fun x => -x).map some := fun qs => by
          induction qs with
          | nil => intro ms h; cases ms with
            | nil => rfl
            | cons m ms => cases h
          | cons q qs ih => intro ms h; cases ms with
            | nil => cases h
            | cons m ms =>
              rw [List.map_cons, List.map_cons] at h
              injection h with h1 h2
              rw [List.map_cons, List.map_cons, List.map_cons, ih ms h2]
              cases e : leastOf q with
              | none => rw [e] at h1; cases h1
              | some y =>
                rw [e] at h1
                injection h1 with h1
                have h1 : -y = m := h1
                subst h1
                rw [Int.neg_neg]
        exact e2 ps ms h2
      · refine .inr (.inr ⟨(-r.1, r.2), by rw [h1]; rfl, h2.c1, by show Nat.gcd (-r.1).natAbs r.2.natAbs = 1; rw [Int.natAbs_neg]; exact h3, ?_, .inr (.inr ⟨by have := h2.a1; show -r.1 < 0; omega, ?_⟩)⟩)
        · have e := h2.sum
          rw [mir_tops ok h2.c1] at e
          show (topsF ps (-r.1) r.2).sum = room * r.2
          have : -room * r.2 = -(room * r.2) := by grind
          omega
        · obtain ⟨p', hp', w0, m1, m2⟩ := h2.mv
          obtain ⟨p, hp, e⟩ := List.mem_map.mp hp'
          subst e
          refine ⟨p, hp, w0, fun x e => ?_, fun x e => ?_⟩
          · have := m2 (-x) (by show (p.l.map fun x => -x) = some (-x); rw [e]; rfl)
            have h5 : -p.b * r.2 + p.w * r.1 ≤ -x * r.2 := this
            show p.b * r.2 + p.w * (-r.1) ≥ x * r.2
            grind
          · have := m1 (-x) (by show (p.h.map fun x => -x) = some (-x); rw [e]; rfl)
            have h5 : -p.b * r.2 + p.w * r.1 > -x * r.2 := this
            show p.b * r.2 + p.w * (-r.1) < x * r.2
            grind
/-! ### the ends -/
theorem top_le_most {p : Pt} (ok : p.Ok) {m top low : Int} (hl : 0 < low) (hm : mostOf p = some m) : topF top low p ≤ m * low := by
  have h1 := top_R (top := top) hl p
  have h2 := sz_le_most ok hm ((top : Rat) / low) (fun _ => trivial)
  have hl' : (0 : Rat) < low := by exact_mod_cast hl
  have h3 := Rat.mul_le_mul_of_nonneg_left h2 (Rat.le_of_lt hl')
  have h4 : (topF top low p : Rat) ≤ m * low := by rw [h1]; grind
  exact_mod_cast h4
theorem least_le_top {p : Pt} (ok : p.Ok) {m top low : Int} (hl : 0 < low) (hm : leastOf p = some m) : m * low ≤ topF top low p := by
  have h1 := top_le_most (mir_ok ok) (m := -m) (top := -top) hl (by rw [mir_most ok, hm]; rfl)
  rw [mir_top ok hl, Int.neg_neg] at h1
  have : -m * low = -(m * low) := by grind
  omega
theorem sum_le_most {top low : Int} (hl : 0 < low) : ∀ {ps : List Pt} {ms : List Int}, (∀ p ∈ ps, p.Ok) → ps.map mostOf = ms.map some → (topsF ps top low).sum ≤ ms.sum * low
  | [], [], _, _ => by show (0 : Int) ≤ 0 * low; omega
  | p :: ps, m :: ms, ok, e => by
    rw [List.map_cons, List.map_cons] at e
    injection e with e1 e2
    have h1 := top_le_most (ok p List.mem_cons_self) (top := top) hl e1
    have h2 := sum_le_most hl (top := top) (fun q hq => ok q (List.mem_cons_of_mem _ hq)) e2
    show topF top low p + (topsF ps top low).sum ≤ (m + ms.sum) * low
    have : (m + ms.sum) * low = m * low + ms.sum * low := Int.add_mul _ _ _
    omega
theorem least_le_sum {top low : Int} (hl : 0 < low) : ∀ {ps : List Pt} {ms : List Int}, (∀ p ∈ ps, p.Ok) → ps.map leastOf = ms.map some → ms.sum * low ≤ (topsF ps top low).sum
  | [], [], _, _ => by show 0 * low ≤ (0 : Int); omega
  | p :: ps, m :: ms, ok, e => by
    rw [List.map_cons, List.map_cons] at e
    injection e with e1 e2
    have h1 := least_le_top (ok p List.mem_cons_self) (top := top) hl e1
    have h2 := least_le_sum hl (top := top) (fun q hq => ok q (List.mem_cons_of_mem _ hq)) e2
    show (m + ms.sum) * low ≤ topF top low p + (topsF ps top low).sum
    have : (m + ms.sum) * low = m * low + ms.sum * low := Int.add_mul _ _ _
    omega
/-! ### whole sizes -/
def wholesFrom (low : Int) : Int → List Int → List Int
  | _, [] => []
  | ahead, t :: ts => ((ahead + t) / low - ahead / low) :: wholesFrom low (ahead + t) ts
def wholesF (ts : List Int) (low : Int) : List Int := wholesFrom low 0 ts
theorem wholes_sum {low : Int} : ∀ (ts : List Int) (ahead : Int), (wholesFrom low ahead ts).sum = (ahead + ts.sum) / low - ahead / low
  | [], ahead => by show (0 : Int) = (ahead + 0) / low - ahead / low; rw [Int.add_zero]; omega
  | t :: ts, ahead => by
    show ((ahead + t) / low - ahead / low) + (wholesFrom low (ahead + t) ts).sum = _
    rw [wholes_sum ts (ahead + t), List.sum_cons, Int.add_assoc]
    omega
theorem wholes_right {ts : List Int} {low room : Int} (hl : 0 < low) (h : ts.sum = room * low) : (wholesF ts low).sum = room := by
  unfold wholesF
  rw [wholes_sum, Int.zero_add, h, Int.mul_ediv_cancel _ (by omega)]
  simp
end KM
namespace K56
open PySem PySem.Spec PyProof.Rows L2 DL KM
def top (i : Nat) : Stmt := PySem.Challenge.pw_pageseen_k56_whole_shares_have_their_roo.main.body.getD i (.Pass ⟨0, 0, 0, 0⟩)
structure Txt (K : PySem.W.Frag) (mg : Str → Option Value) (cBP cBL cPE : Addr) : Prop where
  len : mg "len" = none
  isinstance : mg "isinstance" = none
  int : mg "int" = none
  bool : mg "bool" = none
  tuple : mg "tuple" = none
  list : mg "list" = none
  str : mg "str" = none
  dict : mg "dict" = none
  all : mg "all" = none
  any : mg "any" = none
  sum : mg "sum" = none
  max : mg "max" = none
  abs : mg "abs" = none
  range : mg "range" = none
  gcd : mg "gcd" = some (.builtin "math.gcd")
  c_MOST_PARTS : ∃ t, mg "MOST_PARTS" = some (.int 200 t)
  x_BadParts : ExcT K mg "BadParts" cBP
  e_BadParts : ExcC K cBP
  g_BadList : mg "BadList" = some (.ref cBL)
  g_PageError : mg "PageError" = some (.ref cPE)
  exm : PySem.W.exmOne K (.ref cBP) (.ref cPE) = some true
  is1 : PySem.W.kitOne K (.ref cBP) (.ref cBP) = some true
  is2 : PySem.W.kitOne K (.ref cBP) (.ref cBL) = some false
/-! ### the parts as data -/
def optD : Option Int → D
  | none => .non
  | some x => .int x
def optBd (n : Nat) : Option Int → Prop
  | none => True
  | some x => Bd n x
theorem optBd.up {n m : Nat} {o : Option Int} (h : optBd n o) (k : n ≤ m := by decide) : optBd m o := by
  cases o with
  | none => trivial
  | some x => exact Bd.mono h k
def ptD (p : Pt) : D := .tup [.int p.b, .int p.w, optD p.l, optD p.h]
structure PB (p : Pt) : Prop where
  ok : p.Ok
  b : Bd 100 p.b
  w : Bd 100 p.w
  l : optBd 100 p.l
  h : optBd 100 p.h
structure Parts where
  ps : List Pt
  ok : ∀ p ∈ ps, PB p
  len : ps.length ≤ 1000
def Parts.d (P : Parts) : D := .lst (P.ps.map ptD)
theorem Parts.oks (P : Parts) : ∀ p ∈ P.ps, p.Ok := fun p h => (P.ok p h).ok
def isW : D → Bool
  | .int _ => true
  | _ => false
def geZ : D → Bool
  | .int i => decide (0 ≤ i)
  | _ => false
def hiOk (l : D) : D → Bool
  | .non => true
  | .int h => (match l with | .int l => decide (l ≤ h) | _ => false)
  | _ => false
def isPart : D → Bool
  | .tup [b, w, l, h] => isW b && isW w && isW l && geZ w && hiOk l h
  | _ => false
def okP : D → D → Bool
  | .lst ds, r => decide (ds.length ≤ 200) && isW r && ds.all isPart
  | _, _ => false
def phi_is_whole : DSp := gSp (A := D) (fun d => [d]) (fun d r => r = .bl (isW d))
def phi_is_part : DSp := gSp (A := D) (fun d => [d]) (fun d r => r = .bl (isPart d))
def noPool : D → Prop
  | .pool => False
  | .scr _ => False
  | .adr _ => False
  | _ => True
def phi_check_parts (cBP : Addr) : DSp := gSp (A := {a : D × D // noPool a.1}) (fun a => [a.1.1, a.1.2]) (fun a r => okP a.1.1 a.1.2 = true ∧ r = .non) (fun a c => okP a.1.1 a.1.2 = false ∧ c = cBP)
def phi_cut : DSp := gSp (A := Int × Option Int × Option Int) (fun a => [.int a.1, optD a.2.1, optD a.2.2]) (fun a r => r = .int (cutF a.1 a.2.1 a.2.2))
def phi_times : DSp := gSp (A := {a : Option Int × Int // optBd 400 a.1 ∧ Bd 400 a.2}) (fun a => [optD a.1.1, .int a.1.2]) (fun a r => r = optD (timesF a.1.1 a.1.2))
structure TopsA where
  P : Parts
  top : Int
  low : Int
  ht : Bd 400 top
  hl : Bd 400 low
def TopsA.dom (a : TopsA) : List D := [a.P.d, .int a.top, .int a.low]
def phi_tops_at : DSp := gSp TopsA.dom (fun a r => r = .lst ((topsF a.P.ps a.top a.low).map D.int))
def pairD (k : Int × Int) : D := .tup [.int k.1, .int k.2]
def phi_knots_of : DSp := gSp (A := Parts) (fun P => [P.d]) (fun P r => r = .lst ((knotsF P.ps).map pairD))
def phi_gain_behind : DSp := gSp TopsA.dom (fun a r => r = .int (gainF a.P.ps a.top a.low))
def phi_lowest : DSp := gSp (A := {a : Int × Int // 0 < a.2 ∧ Bd 400 a.2}) (fun a => [.int a.1.1, .int a.1.2]) (fun a r => r = pairD (lowestF a.1.1 a.1.2))
def optP : Option (Int × Int) → D
  | none => .non
  | some k => pairD k
structure RoomA where
  P : Parts
  room : Int
  hr : Bd 150 room
def RoomA.dom (a : RoomA) : List D := [a.P.d, .int a.room]
def phi_least_ratio : DSp := gSp RoomA.dom (fun a r => r = optP (leastF a.P.ps a.room))
theorem small1000u {n : Nat} (h : n ≤ 2000) : n ≤ sizeLine := by rw [sizeLine_eq]; omega
/-! ### how great the numbers grow -/
theorem bd0 (n : Nat) : Bd n 0 := Nat.two_pow_pos n
theorem bd1 {n : Nat} (h : 0 < n := by decide) : Bd n 1 := Nat.one_lt_two_pow (by omega)
theorem cut_bd {m : Nat} {n : Int} {lo hi : Option Int} (h : Bd m n) (hl : optBd m lo) (hh : optBd m hi) : Bd m (cutF n lo hi) := by
  unfold cutF
  cases hi with
  | none =>
    cases lo with
    | none => exact h
    | some l => dsimp only; split <;> assumption
  | some u =>
    cases lo with
    | none => dsimp only; split <;> assumption
    | some l => dsimp only; repeat' split
                all_goals assumption
theorem times_bd {a b : Nat} {o : Option Int} {k : Int} (h : optBd a o) (hk : Bd b k) : optBd (a + b) (timesF o k) := by
  cases o with
  | none => trivial
  | some x => exact Bd.mul h hk
theorem top_bd {p : Pt} {n : Nat} {top low : Int} (h : PB p) (ht : Bd n top) (hl : Bd n low) : Bd (101 + n) (topF top low p) :=
  cut_bd ((Bd.add (h.b.mul hl) (h.w.mul ht)).mono (by omega)) (optBd.up (times_bd h.l hl) (by omega)) (optBd.up (times_bd h.h hl) (by omega))
theorem sum_le_len : ∀ {l : List Int} {B : Nat}, (∀ x ∈ l, x.natAbs ≤ B) → l.sum.natAbs ≤ l.length * B
  | [], B, _ => by simp
  | x :: l, B, h => by
    have h1 := h x List.mem_cons_self
    have h2 := sum_le_len (l := l) (B := B) fun y hy => h y (List.mem_cons_of_mem _ hy)
    rw [List.sum_cons, List.length_cons, Nat.succ_mul]
    omega
theorem sum_bd {l : List Int} {n : Nat} (h : ∀ x ∈ l, Bd n x) (hl : l.length ≤ 1000) : Bd (n + 10) l.sum := by
  have hp : 0 < 2 ^ n := Nat.two_pow_pos n
  have h1 : l.sum.natAbs ≤ l.length * (2 ^ n - 1) := sum_le_len fun x hx => by have := h x hx; unfold Bd at this; omega
  have h2 : l.length * (2 ^ n - 1) ≤ 1000 * (2 ^ n - 1) := Nat.mul_le_mul_right _ hl
  show l.sum.natAbs < 2 ^ (n + 10)
  rw [Nat.pow_add]
  have : (2 : Nat) ^ 10 = 1024 := rfl
  omega
theorem tops_bd {P : Parts} {n : Nat} {top low : Int} (ht : Bd n top) (hl : Bd n low) : Bd (111 + n) (topsF P.ps top low).sum := by
  refine Bd.mono (sum_bd (n := 101 + n) (fun x hx => ?_) (by unfold topsF; rw [List.length_map]; exact P.len)) (by omega)
  obtain ⟨p, hp, rfl⟩ := List.mem_map.mp hx
  exact top_bd (P.ok p hp) ht hl
theorem gain_bd (P : Parts) (top low : Int) : Bd 110 (gainF P.ps top low) := by
  refine sum_bd (n := 100) (fun x hx => ?_) (by rw [List.length_map]; exact P.len)
  obtain ⟨p, hp, rfl⟩ := List.mem_map.mp hx
  split
  · exact (P.ok p hp).w
  · exact bd0 _
theorem knots_bd {P : Parts} {k : Int × Int} (h : k ∈ knotsF P.ps) : Bd 101 k.1 ∧ Bd 100 k.2 ∧ 0 < k.2 := by
  refine ⟨?_, ?_, (knots_pos h).2⟩ <;>
  · obtain ⟨p, hp, hk⟩ := List.mem_flatMap.mp h
    obtain ⟨o, ho, e⟩ := List.mem_filterMap.mp hk
    have B := P.ok p hp
    cases o with
    | none => cases e
    | some x =>
      unfold knot at e
      dsimp only at e
      split at e
      · injection e with e
        subst e
        have hx : Bd 100 x := by
          rcases List.mem_cons.mp ho with h1 | h1
          · have := B.l; rw [← h1] at this; exact this
          · rcases List.mem_cons.mp h1 with h1 | h1
            · have := B.h; rw [← h1] at this; exact this
            · cases h1
        first | exact hx.sub B.b | exact B.w
      · cases e
theorem start_bd {P : Parts} {room : Int} : ∀ (K : List (Int × Int)), (∀ k ∈ K, k ∈ knotsF P.ps) → ∀ s : Int × Int, (Bd 101 s.1 ∧ Bd 100 s.2 ∧ 0 < s.2) → Bd 101 (K.foldl (startStep P.ps room) s).1 ∧ Bd 100 (K.foldl (startStep P.ps room) s).2 ∧ 0 < (K.foldl (startStep P.ps room) s).2
  | [], _, s, h => h
  | k :: K, hk, s, h => by
    refine start_bd K (fun j hj => hk j (List.mem_cons_of_mem _ hj)) _ ?_
    unfold startStep
    split
    · exact knots_bd (hk k List.mem_cons_self)
    · exact h
theorem start_bd0 (P : Parts) (room : Int) {K : List (Int × Int)} (hk : ∀ k ∈ K, k ∈ knotsF P.ps) : Bd 101 (startF P.ps room K).1 ∧ Bd 100 (startF P.ps room K).2 ∧ 0 < (startF P.ps room K).2 :=
  start_bd K hk (0, 1) ⟨bd0 _, bd1, by decide⟩
theorem div_bd {n : Nat} {a : Int} (h : Bd n a) (g : Nat) : Bd n (a / (g : Int)) := by
  have : (a / (g : Int)).natAbs ≤ a.natAbs := Int.natAbs_ediv_le_natAbs a g
  exact Nat.lt_of_le_of_lt this h
structure RB (r : Int × Int) : Prop where
  a : Bd 300 r.1
  c : Bd 212 r.2
  pos : 0 < r.2
theorem low_bd {top low : Int} (h1 : Bd 300 top) (h2 : Bd 212 low) (h3 : 0 < low) : RB (lowestF top low) := by
  obtain ⟨g, _, _, _, hp, _⟩ := lowest_spec (a := top) h3
  exact ⟨div_bd h1 _, div_bd h2 _, hp⟩
theorem gain_nnI {ps : List Pt} (ok : ∀ p ∈ ps, p.Ok) (top low : Int) : 0 ≤ gainF ps top low := by
  have : ∀ l : List Pt, (∀ p ∈ l, p.Ok) → 0 ≤ (l.map fun p => if growsI p top low then p.w else 0).sum := fun l => by
    induction l with
    | nil => intro _; exact Int.le_refl _
    | cons q l ih =>
      intro h
      rw [List.map_cons, List.sum_cons]
      have h1 := (h q List.mem_cons_self).w0
      have h2 := ih fun p hp => h p (List.mem_cons_of_mem _ hp)
      split <;> omega
  exact this ps ok
theorem least_args {P : Parts} {room : Int} (hr : Bd 150 room) {s : Int × Int} (h : Bd 101 s.1 ∧ Bd 100 s.2 ∧ 0 < s.2) (hg : gainF P.ps s.1 s.2 ≠ 0) :
    Bd 300 (s.1 * gainF P.ps s.1 s.2 + room * s.2 - (topsF P.ps s.1 s.2).sum) ∧ Bd 212 (s.2 * gainF P.ps s.1 s.2) ∧ 0 < s.2 * gainF P.ps s.1 s.2 := by
  have g := gain_bd P s.1 s.2
  have t : Bd 212 (topsF P.ps s.1 s.2).sum := (tops_bd (n := 101) h.1 (h.2.1.mono (by decide))).mono (by decide)
  refine ⟨Bd.mono (Bd.sub (Bd.add ((h.1.mul g).mono (b := 250) (by decide)) (hr.mul h.2.1)) (t.mono (by decide))) (by decide), (h.2.1.mul g).mono (by decide), Int.mul_pos h.2.2 ?_⟩
  have := gain_nnI P.oks s.1 s.2
  omega
theorem least_bd {P : Parts} {room : Int} (hr : Bd 150 room) {r : Int × Int} (e : leastF P.ps room = some r) : RB r := by
  have h := start_bd0 P room (K := knotsF P.ps) fun _ hk => hk
  unfold leastF at e
  dsimp only at e
  split at e
  · cases e
  · next hg =>
    injection e with e
    subst e
    obtain ⟨h1, h2, h3⟩ := least_args hr h hg
    exact low_bd h1 h2 h3
/-! ### the mirror, the parts with a lower bound -/
theorem optBd.map_neg {n : Nat} {o : Option Int} (h : optBd n o) : optBd n (o.map fun x => -x) := by
  cases o with
  | none => trivial
  | some x => exact Bd.neg h
theorem PB.mir {p : Pt} (h : PB p) : PB (mirF p) := ⟨mir_ok h.ok, h.b.neg, h.w, h.h.map_neg, h.l.map_neg⟩
def Parts.mir (P : Parts) : Parts := ⟨P.ps.map mirF, fun p hp => by obtain ⟨q, hq, rfl⟩ := List.mem_map.mp hp; exact (P.ok q hq).mir, by rw [List.length_map]; exact P.len⟩
structure LP where
  P : Parts
  ls : ∀ p ∈ P.ps, ∃ x, p.l = some x
  len : P.ps.length ≤ 200
def phi_mirrored : DSp := gSp (A := LP) (fun a => [a.P.d]) (fun a r => r = a.P.mir.d)
structure LR where
  L : LP
  room : Int
  hr : Bd 150 room
def LR.dom (a : LR) : List D := [a.L.P.d, .int a.room]
def LR.ratio (a : LR) : Option (Int × Int) := ratioF a.L.P.ps a.room
def phi_ratio_of : DSp := gSp LR.dom (fun a r => r = optP a.ratio)
def endsF (ps : List Pt) (room : Int) : List (Option Int) := if (topsF ps 0 1).sum < room then ps.map mostOf else ps.map leastOf
def phi_ends_of : DSp := gSp LR.dom (fun a r => r = .lst ((endsF a.L.P.ps a.room).map optD))
structure WhA where
  ts : List Int
  low : Int
  len : ts.length ≤ 1000
  pos : 0 < low
  hl : Bd 400 low
def phi_whole_sizes : DSp := gSp (A := WhA) (fun a => [.lst (a.ts.map D.int), .int a.low]) (fun a r => r = .lst ((wholesF a.ts a.low).map D.int))
structure SzA where
  R : LR
  r : Option (Int × Int)
  hb : ∀ x, r = some x → RB x
def sizesD (ps : List Pt) (room : Int) : Option (Int × Int) → D
  | none => .lst ((endsF ps room).map optD)
  | some r => .lst ((wholesF (topsF ps r.1 r.2) r.2).map D.int)
def phi_sizes_at : DSp := gSp (A := SzA) (fun a => [a.R.L.P.d, .int a.R.room, optP a.r]) (fun a r => r = sizesD a.R.L.P.ps a.R.room a.r)
theorem ratio_bd (a : LR) {r : Int × Int} (e : a.ratio = some r) : RB r := by
  unfold LR.ratio ratioF at e
  split at e
  · injection e with e; subst e; exact ⟨bd0 _, bd1, by decide⟩
  · split at e
    · exact least_bd a.hr e
    · have e2 : a.L.P.ps.map mirF = a.L.P.mir.ps := rfl
      rw [e2] at e
      cases c : leastF a.L.P.mir.ps (-a.room) with
      | none => rw [c] at e; cases e
      | some x =>
        rw [c] at e
        injection e with e
        subst e
        have b := least_bd a.hr.neg c
        exact ⟨b.a.neg, b.c, b.pos⟩
def sharesD (a : LR) : D := .tup [sizesD a.L.P.ps a.room a.ratio, optP a.ratio]
structure BadA where
  ps : D
  room : D
  np : noPool ps
  bad : okP ps room = false
def ShA := LR ⊕ BadA
def ShA.dom : ShA → List D
  | .inl a => a.dom
  | .inr a => [a.ps, a.room]
def ShA.res : ShA → D → Prop
  | .inl a, r => r = sharesD a
  | .inr _, _ => False
def ShA.exc (cBP : Addr) : ShA → Addr → Prop
  | .inl _, _ => False
  | .inr _, c => c = cBP
def phi_shares (cBP : Addr) : DSp := gSp ShA.dom ShA.res (ShA.exc cBP)
theorem ok_parts (a : LR) : okP a.L.P.d (.int a.room) = true := by
  have h : ∀ p ∈ a.L.P.ps, isPart (ptD p) = true := fun p hp => by
    obtain ⟨x, hx⟩ := a.L.ls p hp
    have B := (a.L.P.ok p hp).ok
    obtain ⟨b, w, l, u⟩ := p
    dsimp only at hx
    subst hx
    show (isW (.int b) && isW (.int w) && isW (.int x) && decide (0 ≤ w) && hiOk (.int x) (optD u)) = true
    have h1 : decide (0 ≤ w) = true := decide_eq_true B.w0
    have h2 : hiOk (.int x) (optD u) = true := by
      cases u with
      | none => rfl
      | some y => exact decide_eq_true (B.lh x y rfl rfl)
    rw [h1, h2]; rfl
  show (decide ((a.L.P.ps.map ptD).length ≤ 200) && isW (.int a.room) && (a.L.P.ps.map ptD).all isPart) = true
  have h3 : (a.L.P.ps.map ptD).all isPart = true := by
    rw [List.all_map]; exact List.all_eq_true.mpr h
  rw [h3, decide_eq_true (by rw [List.length_map]; exact a.L.len)]; rfl
def phi__law_far : DSp := phi_pick
/-! ### the law's own functions -/
def phi__law_part : DSp := gSp (A := {u : Int // 0 ≤ u ∧ u ≤ 10 ^ 18}) (fun a => [.pool, .int a.1]) (fun _ r => ∃ p : Pt, r = ptD p ∧ PB p ∧ ∃ x, p.l = some x)
def phi__law_cut : DSp := gSp (A := {a : Int × Int × Option Int // ∀ u, a.2.2 = some u → a.2.1 ≤ u}) (fun a => [.int a.1.1, .int a.1.2.1, optD a.1.2.2]) (fun a r => r = .int (cutF a.1.1 (some a.1.2.1) a.1.2.2))
structure LT where
  L : LP
  top : Int
  low : Int
  ht : Bd 400 top
  hl : Bd 400 low
  pos : 0 < low
def phi__law_tops : DSp := gSp (A := LT) (fun a => [a.L.P.d, .int a.top, .int a.low]) (fun a r => r = .lst ((topsF a.L.P.ps a.top a.low).map D.int))
def phi__law_wholes : DSp := phi_whole_sizes
def leastI (p : Pt) : Int := (leastOf p).getD 0
def mostD (ps : List Pt) : D := if (ps.map mostOf).any (·.isNone) = true then .non else .lst ((ps.map mostOf).map optD)
def phi__law_ends : DSp := gSp (A := LP) (fun a => [a.P.d]) (fun a r => r = .tup [.lst ((a.P.ps.map leastI).map D.int), mostD a.P.ps])
structure MvA where
  p : Pt
  top : Int
  low : Int
  way : Int
  hp : PB p
  ls : ∃ x, p.l = some x
  ht : Bd 400 top
  hl : Bd 400 low
def mvB (p : Pt) (top low way : Int) : Bool :=
  if p.w = 0 then false
  else if way > 0 then (match p.l with | none => true | some x => decide (p.b * low + p.w * top ≥ x * low)) && (match p.h with | none => true | some x => decide (p.b * low + p.w * top < x * low))
  else (match p.l with | none => true | some x => decide (p.b * low + p.w * top > x * low)) && (match p.h with | none => true | some x => decide (p.b * low + p.w * top ≤ x * low))
theorem mvB_R {p : Pt} {top low way : Int} (hw : way > 0) (h : movesR p top low) : mvB p top low way = true := by
  obtain ⟨h0, h1, h2⟩ := h
  obtain ⟨b, w, l, u⟩ := p
  unfold mvB
  rw [if_neg h0, if_pos hw]
  cases l <;> cases u <;> simp_all
theorem mvB_L {p : Pt} {top low way : Int} (hw : ¬ way > 0) (h : movesL p top low) : mvB p top low way = true := by
  obtain ⟨h0, h1, h2⟩ := h
  obtain ⟨b, w, l, u⟩ := p
  unfold mvB
  rw [if_neg h0, if_neg hw]
  cases l <;> cases u <;> simp_all
def phi__law_moves : DSp := gSp (A := MvA) (fun a => [ptD a.p, .int a.top, .int a.low, .int a.way]) (fun a r => r = .bl (mvB a.p a.top a.low a.way))
theorem leastI_eq {p : Pt} (h : ∃ x, p.l = some x) : leastOf p = some (leastI p) := by
  obtain ⟨x, hx⟩ := h
  unfold leastI leastOf
  split <;> simp [hx]
/-- one turn of the greatest common divisor -/
def Euc (T k one other : Nat) : Prop := Nat.gcd one other = 1 ∧ ((k = 0 ∧ one * other ≤ T) ∨ (1 ≤ k ∧ other < one ∧ one * other * 2 ^ (k - 1) ≤ T))
theorem Euc.next {T k one other : Nat} (h : Euc T k one other) (h0 : 0 < other) : Euc T (k + 1) other (one % other) := by
  obtain ⟨g, h⟩ := h
  have hm : one % other < other := Nat.mod_lt _ h0
  refine ⟨?_, .inr ⟨by omega, hm, ?_⟩⟩
  · rw [Nat.gcd_comm, ← Nat.gcd_rec, Nat.gcd_comm]; exact g
  · show other * (one % other) * 2 ^ k ≤ T
    rcases h with ⟨rfl, h⟩ | ⟨hk, hlt, h⟩
    · have h1 : other * (one % other) ≤ one * other := by
        rw [Nat.mul_comm one]
        exact Nat.mul_le_mul_left _ (Nat.mod_le _ _)
      omega
    · obtain ⟨j, rfl⟩ : ∃ j, k = j + 1 := ⟨k - 1, by omega⟩
      have h2 : 2 * (one % other) ≤ one := by
        have h3 : one % other + other ≤ one := by
          have h4 := Nat.div_add_mod one other
          have h5 : 1 ≤ one / other := (Nat.le_div_iff_mul_le h0).mpr (by omega)
          have h6 : other * 1 ≤ other * (one / other) := Nat.mul_le_mul_left _ h5
          omega
        omega
      have h : one * other * 2 ^ j ≤ T := h
      have e : other * (one % other) * 2 ^ (j + 1) = other * (2 * (one % other)) * 2 ^ j := by
        rw [Nat.pow_succ]
        simp [Nat.mul_comm, Nat.mul_left_comm, Nat.mul_assoc]
      rw [e]
      refine Nat.le_trans ?_ h
      rw [Nat.mul_comm one]
      exact Nat.mul_le_mul_right _ (Nat.mul_le_mul_left _ h2)
theorem Euc.done {T one other : Nat} (h : Euc T 1000 one other) (hT : T < 2 ^ 600) : other = 0 := by
  obtain ⟨_, h⟩ := h
  rcases h with ⟨h, _⟩ | ⟨_, hlt, h⟩
  · cases h
  · refine Classical.byContradiction fun z => ?_
    have h1 : 1 ≤ one * other := Nat.mul_pos (by omega) (by omega)
    have h2 : 1 * 2 ^ (1000 - 1) ≤ one * other * 2 ^ (1000 - 1) := Nat.mul_le_mul_right _ h1
    have h3 : 2 ^ 600 ≤ 2 ^ (1000 - 1) := Nat.pow_le_pow_right (by decide) (by decide)
    omega
structure LoA where
  top : Int
  low : Int
  ht : Bd 300 top
  hl : Bd 300 low
  pos : 0 < low
  cop : Nat.gcd top.natAbs low.natAbs = 1
def phi__law_lowest : DSp := gSp (A := LoA) (fun a => [.int a.top, .int a.low]) (fun _ r => r = .bl true)
structure NeA where
  R : LR
  r : Int × Int
  near : Near R.L.P.ps R.room r
  hb : RB r
def phi__law_is_nearest : DSp := gSp (A := NeA) (fun a => [a.R.L.P.d, .int a.R.room, pairD a.r]) (fun _ r => r = .bl true)
def phi__law_right : DSp := gSp LR.dom (fun _ r => r = .bl true)
structure RoA where
  L : LP
  unit : Int
  hu : 0 ≤ unit ∧ unit ≤ 10 ^ 18
def phi__law_rooms : DSp := gSp (A := RoA) (fun a => [.pool, a.L.P.d, .int a.unit]) (fun _ r => ∃ rs : List Int, r = .lst (rs.map D.int) ∧ (∀ x ∈ rs, Bd 150 x) ∧ rs.length ≤ 10)
def phi__law_outcome : DSp := gSp (A := BadA) (fun a => [a.ps, a.room]) (fun _ r => r = .bl true)
def phi__law_refused : DSp := gSp (A := RoA) (fun a => [.pool, a.L.P.d, .int a.unit]) (fun _ r => r = .bl true)
/-! ### data of the law, laid -/
theorem lay_opt (o : Option Int) (n : Nat) : layB n (optD o) = true := by cases o <;> cases n <;> rfl
theorem lay_pt (p : Pt) (n : Nat) : layB (n + 1) (ptD p) = true := by
  have h1 := lay_opt p.l n
  have h2 := lay_opt p.h n
  have h3 : layB n (.int p.b) = true := lay_opt (some p.b) n
  have h4 : layB n (.int p.w) = true := lay_opt (some p.w) n
  show (layB n (.int p.b) && (layB n (.int p.w) && (layB n (optD p.l) && (layB n (optD p.h) && true)))) = true
  rw [h1, h2, h3, h4]; rfl
theorem lay_map {α : Type} {f : α → D} {n : Nat} {l : List α} (h : ∀ a, layB n (f a) = true) : layB (n + 1) (.lst (l.map f)) = true := by
  refine List.all_eq_true.mpr fun x hx => ?_
  obtain ⟨a, _, rfl⟩ := List.mem_map.mp hx
  exact h a
theorem nds_map {α : Type} {f : α → D} {c : Nat} (h : ∀ a, nd (f a) = c) : ∀ l : List α, nds (l.map f) = l.length * c
  | [] => (Nat.zero_mul c).symm
  | a :: l => by
    have e : nds ((a :: l).map f) = nd (f a) + nds (l.map f) := rfl
    rw [e, h a, nds_map h l, List.length_cons, Nat.succ_mul]; omega
theorem nd_opt (o : Option Int) : nd (optD o) = 1 := by cases o <;> rfl
theorem nd_pt (p : Pt) : nd (ptD p) = 5 := by
  show 1 + (1 + (1 + (nd (optD p.l) + (nd (optD p.h) + 0)))) = 5
  rw [nd_opt, nd_opt]
def sameParts (a : LP) : SameA := ⟨a.P.d, lay_map fun p => lay_pt p 48, by
  show 1 + nds (a.P.ps.map ptD) ≤ _
  rw [nds_map nd_pt]; have := a.len; omega⟩
def sameOpts (os : List (Option Int)) (h : os.length ≤ 1000) : SameA := ⟨.lst (os.map optD), lay_map fun o => lay_opt o 49, by
  show 1 + nds (os.map optD) ≤ _
  rw [nds_map nd_opt]; omega⟩
def sameInts (os : List Int) (h : os.length ≤ 1000) : SameA := ⟨.lst (os.map D.int), lay_map fun o => lay_opt (some o) 49, by
  show 1 + nds (os.map D.int) ≤ _
  rw [nds_map (f := D.int) (c := 1) fun _ => rfl]; omega⟩
theorem wholes_len (low : Int) : ∀ (l : List Int) (a : Int), (wholesFrom low a l).length = l.length
  | [], _ => rfl
  | y :: l, a => by rw [wholesFrom, List.length_cons, List.length_cons, wholes_len]
theorem tops_len (ps : List Pt) (top low : Int) : (topsF ps top low).length = ps.length := List.length_map _
theorem somes {os : List (Option Int)} (h : os.any (·.isNone) = false) : ∃ ms : List Int, os = ms.map some := by
  induction os with
  | nil => exact ⟨[], rfl⟩
  | cons o os ih =>
    rw [List.any_cons, Bool.or_eq_false_iff] at h
    obtain ⟨ms, e⟩ := ih h.2
    cases o with
    | none => cases h.1
    | some x => exact ⟨x :: ms, by rw [e]; rfl⟩
theorem no_none (ms : List Int) : (ms.map some).any (·.isNone) = false := by
  induction ms with
  | nil => rfl
  | cons m ms ih => rw [List.map_cons, List.any_cons, ih]; rfl
theorem some_ints (ms : List Int) : (ms.map some).map optD = ms.map D.int := by rw [List.map_map]; rfl
theorem most_cases (ps : List Pt) : mostD ps = .non ∧ (¬ ∃ ms : List Int, ps.map mostOf = ms.map some) ∨ ∃ ms : List Int, ps.map mostOf = ms.map some ∧ mostD ps = .lst (ms.map D.int) := by
  unfold mostD
  cases h : (ps.map mostOf).any (·.isNone) with
  | true =>
    refine .inl ⟨rfl, fun ⟨ms, e⟩ => ?_⟩
    rw [e, no_none] at h
    cases h
  | false =>
    obtain ⟨ms, e⟩ := somes h
    exact .inr ⟨ms, e, by rw [if_neg Bool.false_ne_true, e, some_ints]⟩
theorem least_is (a : LP) : a.P.ps.map leastOf = (a.P.ps.map leastI).map some := by
  rw [List.map_map]
  exact List.map_congr_left fun p hp => leastI_eq (a.ls p hp)
theorem some_inj {a b : List Int} (h : a.map some = b.map some) : a = b := by
  induction a generalizing b with
  | nil => cases b with
    | nil => rfl
    | cons y b => cases h
  | cons x a ih => cases b with
    | nil => cases h
    | cons y b =>
      rw [List.map_cons, List.map_cons] at h
      injection h with h1 h2
      injection h1 with h1
      rw [h1, ih h2]
theorem shares_most (a : LR) {ms : List Int} (h : a.ratio = none) (lt : (topsF a.L.P.ps 0 1).sum < a.room) (e : a.L.P.ps.map mostOf = ms.map some) : sharesD a = .tup [.lst (ms.map D.int), .non] := by
  unfold sharesD
  rw [h]
  show D.tup [.lst ((endsF a.L.P.ps a.room).map optD), .non] = _
  unfold endsF
  rw [if_pos lt, e, some_ints]
theorem shares_least (a : LR) {ms : List Int} (h : a.ratio = none) (lt : a.room < (topsF a.L.P.ps 0 1).sum) (e : a.L.P.ps.map leastOf = ms.map some) : sharesD a = .tup [.lst (ms.map D.int), .non] := by
  unfold sharesD
  rw [h]
  show D.tup [.lst ((endsF a.L.P.ps a.room).map optD), .non] = _
  unfold endsF
  rw [if_neg (by omega), e, some_ints]
theorem shares_ratio (a : LR) {r : Int × Int} (h : a.ratio = some r) : sharesD a = .tup [.lst ((wholesF (topsF a.L.P.ps r.1 r.2) r.2).map D.int), pairD r] := by
  unfold sharesD
  rw [h]; rfl
theorem bad_in {ds : List D} {z : D} (h : z ∈ ds) (hz : isPart z = false) (r : D) : okP (.lst ds) r = false := by
  have : ds.all isPart = false := by
    rw [List.all_eq_false]
    exact ⟨z, h, by rw [hz]; exact Bool.false_ne_true⟩
  show (decide (ds.length ≤ 200) && isW r && ds.all isPart) = false
  rw [this, Bool.and_false]
theorem bad_len {ds : List D} (h : 200 < ds.length) (r : D) : okP (.lst ds) r = false := by
  show (decide (ds.length ≤ 200) && isW r && ds.all isPart) = false
  rw [decide_eq_false (by omega)]; rfl
theorem bad_room {ds : List D} {r : D} (h : isW r = false) : okP (.lst ds) r = false := by
  show (decide (ds.length ≤ 200) && isW r && ds.all isPart) = false
  rw [h, Bool.and_false]; rfl
def wrongs (b w x : Int) (h : D) : List D := [.tup [.int b, .int (0 - 1 - w), .int x, h], .tup [.int b, .int w, .int x, .int (x - 1)], .lst [.int b, .int w, .int x, h], .tup [.int b, .int w, .int x],
  .tup [.int b, .int w, .int x, h, .int 0], .tup [.non, .int w, .int x, h], .tup [.int b, .str "1", .int x, h], .tup [.int b, .int w, .non, h], .tup [.bl true, .int w, .int x, .non], .tup [.int b, .bl true, .int x, h],
  .tup [.int b, .int w, .bl false, .non], .tup [.int 0, .int 1, .int 0, .bl true], .tup [.int b, .int w, .int x, .str "9"], .tup [.int b, .int w, .int x, .tup [h]], .non, .tup [], .str "part", .int 7, .tup [.int b, .tup [.int w], .int x, h]]
theorem wrongs_bad {b w x : Int} {h : D} (w0 : 0 ≤ w) : ∀ z ∈ wrongs b w x h, isPart z = false := fun z hz => by
  unfold wrongs at hz
  simp only [List.mem_cons, List.mem_nil_iff, or_false] at hz
  rcases hz with rfl | rfl | rfl | rfl | rfl | rfl | rfl | rfl | rfl | rfl | rfl | rfl | rfl | rfl | rfl | rfl | rfl | rfl | rfl
  · have : geZ (.int (0 - 1 - w)) = false := decide_eq_false (by omega)
    show (isW (.int b) && isW (.int (0 - 1 - w)) && isW (.int x) && geZ (.int (0 - 1 - w)) && hiOk (.int x) h) = false
    rw [this, Bool.and_false, Bool.false_and]
  · have : hiOk (.int x) (.int (x - 1)) = false := decide_eq_false (by omega)
    show (isW (.int b) && isW (.int w) && isW (.int x) && geZ (.int w) && hiOk (.int x) (.int (x - 1))) = false
    rw [this, Bool.and_false]
  all_goals simp [isPart, isW, hiOk]
def evens (n : Nat) (h : n ≤ 200) : LP := ⟨⟨List.replicate n ⟨1, 0, some 0, none⟩, fun p hp => by
    rw [(List.mem_replicate.mp hp).2]
    exact ⟨⟨by decide, fun _ _ _ h => nomatch h⟩, bd1, bd0 _, bd0 _, trivial⟩, by rw [List.length_replicate]; omega⟩, fun p hp => by
    rw [(List.mem_replicate.mp hp).2]; exact ⟨0, rfl⟩, by rw [List.length_replicate]; exact h⟩
theorem rep_one {d : D} : ∀ n : Nat, (List.replicate n [d]).flatten = List.replicate n d
  | 0 => rfl
  | n + 1 => by rw [List.replicate_succ, List.flatten_cons, rep_one n, List.replicate_succ]; rfl
def stranges (u : Int) : List D := [.non, .bl true, .bl false, .str "0", .tup [.int u], .lst [.int u], .dct]
theorem stranges_bad (u : Int) : ∀ z ∈ stranges u, isW z = false := fun z hz => by
  unfold stranges at hz
  simp only [List.mem_cons, List.mem_nil_iff, or_false] at hz
  rcases hz with rfl | rfl | rfl | rfl | rfl | rfl | rfl <;> rfl
theorem gather {R : Pt → Prop} : ∀ {es : List D}, (∀ e ∈ es, ∃ p : Pt, e = ptD p ∧ R p) → ∃ ps : List Pt, es = ps.map ptD ∧ ∀ p ∈ ps, R p
  | [], _ => ⟨[], rfl, fun _ h => nomatch h⟩
  | e :: es, h => by
    obtain ⟨p, rfl, hp⟩ := h e List.mem_cons_self
    obtain ⟨ps, rfl, hps⟩ := gather fun e he => h e (List.mem_cons_of_mem _ he)
    exact ⟨p :: ps, rfl, fun q hq => by
      rcases List.mem_cons.mp hq with rfl | hq
      · exact hp
      · exact hps q hq⟩
def mkLP (ps : List Pt) (h : ∀ p ∈ ps, PB p ∧ ∃ x, p.l = some x) (hl : ps.length ≤ 200) : LP := ⟨⟨ps, fun p hp => (h p hp).1, by omega⟩, fun p hp => (h p hp).2, hl⟩
def lineP (k : Nat) : Pt := ⟨0 + k, 1, some (0 - (0 + k)), some (2 * (0 + k) + 3)⟩
theorem lineP_ok {k : Nat} (h : k < 200) : PB (lineP k) ∧ ∃ x, (lineP k).l = some x := by
  have b : ∀ z : Int, -1000 ≤ z → z ≤ 1000 → Bd 100 z := fun z h1 h2 => Bd.mono (a := 10) (by unfold Bd; omega) (by decide)
  refine ⟨⟨⟨by show (0 : Int) ≤ 1; decide, fun x y h1 h2 => ?_⟩, b (0 + k) (by omega) (by omega), b 1 (by decide) (by decide), b (0 - (0 + k)) (by omega) (by omega), b (2 * (0 + k) + 3) (by omega) (by omega)⟩, _, rfl⟩
  injection h1 with h1
  injection h2 with h2
  omega

end K56
namespace K56
open PySem PySem.Spec PyProof.Rows L2 DL KM
def sizesL (R : LR) : List D := match R.ratio with
  | none => (endsF R.L.P.ps R.room).map optD
  | some r => (wholesF (topsF R.L.P.ps r.1 r.2) r.2).map D.int
theorem sharesL (R : LR) : sharesD R = .tup [.lst (sizesL R), optP R.ratio] := by
  unfold sharesD sizesL
  cases R.ratio <;> rfl
theorem noL_opt (o : Option Int) : noL (optD o) = true := by cases o <;> rfl
theorem noL_pt (p : Pt) : noL (ptD p) = true := by
  show (noL (.int p.b) && (noL (.int p.w) && (noL (optD p.l) && (noL (optD p.h) && true)))) = true
  rw [noL_opt, noL_opt]; rfl
theorem noL_optP (r : Option (Int × Int)) : noL (optP r) = true := by cases r <;> rfl
theorem sizesL_no (R : LR) : noLs (sizesL R) = true := by
  unfold sizesL
  cases R.ratio with
  | none => exact noLs_map noL_opt _
  | some r => exact noLs_map (f := D.int) (fun _ => rfl) _
theorem ends_len (ps : List Pt) (room : Int) : (endsF ps room).length = ps.length := by
  unfold endsF
  split <;> exact List.length_map _
theorem sizesL_len (R : LR) : (sizesL R).length ≤ 200 := by
  unfold sizesL
  have := R.L.len
  cases R.ratio with
  | none => show ((endsF R.L.P.ps R.room).map optD).length ≤ 200; rw [List.length_map, ends_len]; exact this
  | some r => show ((wholesF (topsF R.L.P.ps r.1 r.2) r.2).map D.int).length ≤ 200; unfold wholesF; rw [List.length_map, wholes_len, tops_len]; exact this
theorem nds_opt (l : List (Option Int)) : nds (l.map optD) = l.length := by rw [nds_map nd_opt]; omega
theorem nds_int (l : List Int) : nds (l.map D.int) = l.length := by rw [nds_map (f := D.int) (c := 1) fun _ => rfl]; omega
theorem sizesL_lay (R : LR) : (sizesL R).all (layB 48) = true := by
  unfold sizesL
  refine List.all_eq_true.mpr fun x hx => ?_
  cases h : R.ratio with
  | none =>
    rw [h] at hx
    obtain ⟨o, _, rfl⟩ := List.mem_map.mp hx
    exact lay_opt o 48
  | some r =>
    rw [h] at hx
    obtain ⟨o, _, rfl⟩ := List.mem_map.mp hx
    exact lay_opt (some o) 48
theorem optP_lay (r : Option (Int × Int)) : layB 49 (optP r) = true ∧ nd (optP r) ≤ 3 := by
  cases r with
  | none => exact ⟨rfl, by decide⟩
  | some r => exact ⟨rfl, Nat.le_refl 3⟩
def sameShares (R : LR) : SameA := ⟨sharesD R, by
  rw [sharesL]
  show ((sizesL R).all (layB 48) && (layB 49 (optP R.ratio) && true)) = true
  rw [sizesL_lay, (optP_lay _).1]; rfl, by
  rw [sharesL]
  have h1 : nd (.tup [.lst (sizesL R), optP R.ratio]) = 1 + (1 + nds (sizesL R) + (nd (optP R.ratio) + 0)) := rfl
  have h2 : nds (sizesL R) = (sizesL R).length := by
    unfold sizesL
    cases R.ratio with
    | none => show nds ((endsF R.L.P.ps R.room).map optD) = _; rw [nds_opt, List.length_map]
    | some r => show nds ((wholesF (topsF R.L.P.ps r.1 r.2) r.2).map D.int) = _; rw [nds_int, List.length_map]
  have h3 := sizesL_len R
  have h4 := (optP_lay R.ratio).2
  rw [h1, h2]
  omega⟩
section
variable {K : PySem.W.Frag} {cBP : Addr}
/-- the list in the result of shares is a new one -/
theorem shares_fresh {H : Hp} {p : Addr} {S : List Addr} {R : LR} {h : Addr} {ws : List V} {Q : VK} {E : XK} (hp : ∃ pl, PoolAt H p pl) (hh : H h = none) (r : RepAll K (some p) (lessS H p S) ws (R.L.P.ps.map ptD))
    (k : ∀ (t s : Addr) (rv : V) (zs : List V) (H' : Hp), Keep (some p) (upd H h (.lst ws)) H' → (∃ pl, PoolAt H' p pl) → H s = none → s ≠ p → H' s = some (.lst zs) →
      (∀ S' : List Addr, (∀ b ∈ S', ∃ l, H' b = some (.lst l)) → SqT K (lessS H' p S') t [.ref s, rv] ∧ Rep K (some p) (lessS H' p S') rv (optP R.ratio) ∧ RepAll K (some p) (lessS H' p S') zs (sizesL R)) → Q (.ref t) H') :
    spD K (phi_shares cBP) [.ref h, .int R.room] (upd H h (.lst ws)) Q E := by
  obtain ⟨pl, p1, p2⟩ := hp
  have nph : p ≠ h := ne_of_none p1 hh
  have hs1 : Same (lessS H p S) (upd H h (.lst ws)) := fun b o e => by
    have e1 := lessS_same b o e
    rw [upd_ne (ne_of_none e1 hh)]; exact e1
  have gp : small (upd H h (.lst ws)) h p = none := by
    cases e : small (upd H h (.lst ws)) h p with
    | none => rfl
    | some u =>
      exfalso
      obtain ⟨e1, e2⟩ := small_some e
      rcases e2 with e2 | e2
      · exact nph e2
      · rw [upd_ne nph, p1] at e1
        injection e1 with e1
        rw [← e1] at e2
        cases e2
  refine ⟨small (upd H h (.lst ws)) h, some p, [R.L.P.d, .int R.room], fun a e => ?_, small_same, .cons (.lst (by rw [small_at, upd_same]) (RepAll.ts (small_ts hs1) r (noLs_map noL_pt _))) (.cons (.int _) .nil), (Sum.inl R : ShA), rfl, fun d hd v G' H' t rv => ?_, fun c z => z.elim⟩
  · injection e with e
    subst e
    exact ⟨gp, pl, by rw [upd_ne nph]; exact p1, p2⟩
  · have hd : d = sharesD R := hd
    subst hd
    rw [sharesL] at rv
    cases rv with
    | @tup ta xs _ hq ra =>
      cases ra with
      | @cons x xs' _ _ rx ra =>
        cases ra with
        | @cons y ys' _ _ ry ra =>
          cases ra
          cases rx with
          | @lst s zs _ hs rz =>
            have hpool := t.pool p rfl
            obtain ⟨gp', pl', q1, q2⟩ := hpool
            have nsp : s ≠ p := fun z => by rw [z, gp'] at hs; cases hs
            have hsn : H s = none := by
              rcases t.fresh s _ hs with e | e
              · obtain ⟨e1, e2⟩ := small_some e
                rcases e2 with e2 | e2
                · rw [e2]; exact hh
                · cases e2
              · by_cases c : s = h
                · rw [c]; exact hh
                · rw [upd_ne c] at e; exact e
            refine k ta s y zs H' t.keep ⟨pl', q1, q2⟩ hsn nsp (t.same s _ hs) fun S' hS' => ?_
            have ts : TSame G' (lessS H' p S') := fun b u tu e => by
              have e1 : H' b = some u := t.same b u e
              have n1 : b ≠ p := fun z => by rw [z, gp'] at e; cases e
              have n2 : b ∉ S' := fun z => by
                obtain ⟨l, hl⟩ := hS' b z
                rw [hl] at e1
                injection e1 with e1
                rw [← e1] at tu
                cases tu
              rw [lessS_of n1 n2]
              exact e1
            exact ⟨ts.sq hq, ry.ts ts (noL_optP _), RepAll.ts ts rz (sizesL_no R)⟩
end
structure Kept where
  v : V
  R : LR
  s : Addr
def Ent (K : PySem.W.Frag) (p : Addr) (G H : Hp) (e : Kept) : Prop := ∃ (a t : Addr) (vP vD rv : V) (ws : List V), e.v = .ref a ∧ SqT K G a [vP, .int e.R.room, vD, .ref t] ∧ Rep K (some p) G vP e.R.L.P.d ∧ Rep K (some p) G vD (sharesD e.R) ∧
  SqT K G t [.ref e.s, rv] ∧ Rep K (some p) G rv (optP e.R.ratio) ∧ RepAll K (some p) G ws (sizesL e.R) ∧ H e.s = some (.lst ws)
theorem Ent.mono {K : PySem.W.Frag} {p : Addr} {G H G' H' : Hp} {e : Kept} (h : Ent K p G H e) (g : Same G G') (hs : ∀ o, H e.s = some o → H' e.s = some o) : Ent K p G' H' e := by
  obtain ⟨a, t, vP, vD, rv, ws, h1, h2, h3, h4, h5, h6, h7, h8⟩ := h
  exact ⟨a, t, vP, vD, rv, ws, h1, sameT g h2, h3.mono g, h4.mono g, sameT g h5, h6.mono g, RepAll.mono g h7, hs _ h8⟩
def outS (kp wp : Addr) (es : List Kept) : List Addr := kp :: wp :: es.map Kept.s
/-- what stands in the heap while law keeps its list -/
structure J (K : PySem.W.Frag) (p kp wp : Addr) (H : Hp) (es : List Kept) (n : Nat) : Prop where
  pool : ∃ pl, PoolAt H p pl
  hk : H kp = some (.lst (es.map Kept.v))
  hw : H wp = some (.lst [])
  ne1 : kp ≠ p
  ne2 : wp ≠ p
  ne3 : kp ≠ wp
  out : ∀ e ∈ es, e.s ≠ p ∧ e.s ≠ kp ∧ e.s ≠ wp
  nod : (es.map Kept.s).Nodup
  ent : ∀ e ∈ es, Ent K p (lessS H p (outS kp wp es)) H e
  few : es.length ≤ n
theorem J.keep {K : PySem.W.Frag} {p kp wp : Addr} {H H' : Hp} {es : List Kept} {n : Nat} (j : J K p kp wp H es n) (k : Keep (some p) H H') (hp : ∃ pl, PoolAt H' p pl) : J K p kp wp H' es n where
  pool := hp
  hk := k _ _ (fun z => j.ne1 (Option.some.inj z)) j.hk
  hw := k _ _ (fun z => j.ne2 (Option.some.inj z)) j.hw
  ne1 := j.ne1
  ne2 := j.ne2
  ne3 := j.ne3
  out := j.out
  nod := j.nod
  ent := fun e he => (j.ent e he).mono (lessS_grow (fun b o h1 _ h3 => k b o (fun z => h1 (Option.some.inj z)) h3) fun s hs => .inl hs) fun o ho => k _ _ (fun z => (j.out e he).1 (Option.some.inj z)) ho
  few := j.few
theorem J.there {K : PySem.W.Frag} {p kp wp : Addr} {H : Hp} {es : List Kept} {n : Nat} (j : J K p kp wp H es n) : ∀ s ∈ es.map Kept.s, H s ≠ none := fun s hs => by
  obtain ⟨e, he, rfl⟩ := List.mem_map.mp hs
  obtain ⟨_, _, _, _, _, ws, _, _, _, _, _, _, _, h⟩ := j.ent e he
  rw [h]
  exact fun z => nomatch z
theorem J.lists {K : PySem.W.Frag} {p kp wp : Addr} {H : Hp} {es : List Kept} {n : Nat} (j : J K p kp wp H es n) : ∀ b ∈ outS kp wp es, ∃ l, H b = some (.lst l) := fun b hb => by
  rcases List.mem_cons.mp hb with rfl | hb
  · exact ⟨_, j.hk⟩
  · rcases List.mem_cons.mp hb with rfl | hb
    · exact ⟨_, j.hw⟩
    · obtain ⟨e, he, rfl⟩ := List.mem_map.mp hb
      obtain ⟨_, _, _, _, _, ws, _, _, _, _, _, _, _, h⟩ := j.ent e he
      exact ⟨_, h⟩
theorem J.not {K : PySem.W.Frag} {p kp wp : Addr} {H : Hp} {es : List Kept} {n : Nat} (j : J K p kp wp H es n) {b : Addr} (h : H b = none) : b ∉ outS kp wp es := fun z => by
  obtain ⟨l, e⟩ := j.lists b z
  rw [h] at e
  cases e
/-- the tuples of a part of the heap stand in the heap without pool and the lists that are written -/
theorem J.ts {K : PySem.W.Frag} {p kp wp : Addr} {H G : Hp} {es : List Kept} {n : Nat} (j : J K p kp wp H es n) (sm : Same G H) (gp : G p = none) : TSame G (lessS H p (outS kp wp es)) := fun b u tu e => by
  have n1 : b ≠ p := fun z => by rw [z, gp] at e; cases e
  have e1 := sm b u e
  have n2 : b ∉ outS kp wp es := fun z => by
    obtain ⟨l, hl⟩ := j.lists b z
    rw [hl] at e1
    injection e1 with e1
    rw [← e1] at tu
    cases tu
  rw [lessS_of n1 n2]
  exact e1
/-- the parts of a turn -/
structure PP (K : PySem.W.Frag) (p kp wp a6 : Addr) (vs : List V) (ps : List Pt) (H : Hp) (es : List Kept) : Prop where
  is : H a6 = some (.lst vs)
  ne : a6 ≠ p
  out : a6 ∉ outS kp wp es
  rep : RepAll K (some p) (lessS H p (outS kp wp es)) vs (ps.map ptD)
theorem less_keep {H H' : Hp} {p : Addr} {S : List Addr} (k : Keep (some p) H H') : Same (lessS H p S) (lessS H' p S) := lessS_grow (fun b o h1 _ h3 => k b o (fun z => h1 (Option.some.inj z)) h3) fun s hs => .inl hs
theorem PP.keep {K : PySem.W.Frag} {p kp wp a6 : Addr} {vs : List V} {ps : List Pt} {H H' : Hp} {es : List Kept} (h : PP K p kp wp a6 vs ps H es) (k : Keep (some p) H H') : PP K p kp wp a6 vs ps H' es where
  is := k _ _ (fun z => h.ne (Option.some.inj z)) h.is
  ne := h.ne
  out := h.out
  rep := RepAll.mono (less_keep k) h.rep
theorem PP.lst {K : PySem.W.Frag} {p kp wp a6 : Addr} {vs : List V} {ps : List Pt} {H : Hp} {es : List Kept} (h : PP K p kp wp a6 vs ps H es) : Rep K (some p) (lessS H p (outS kp wp es)) (.ref a6) (.lst (ps.map ptD)) := .lst (by rw [lessS_of h.ne h.out]; exact h.is) h.rep
theorem poolOkS {H : Hp} {p : Addr} {S : List Addr} (h : ∃ pl, PoolAt H p pl) : PoolOk (some p) (lessS H p S) H := fun a e => by
  injection e with e
  subst e
  obtain ⟨pl, h1, h2⟩ := h
  exact ⟨lessS_p, pl, h1, h2⟩
theorem stepPool {p : Addr} {G H G' H' : Hp} (t : Step (some p) G H G' H') : ∃ pl, PoolAt H' p pl := by
  obtain ⟨_, pl, h1, h2⟩ := t.pool p rfl
  exact ⟨pl, h1, h2⟩
theorem same_trans {A B C : Hp} (h : Same A B) (k : Same B C) : Same A C := fun b o e => k b o (h b o e)
theorem same_new {A : Hp} {a : Addr} {o : HO} (h : A a = none) : Same A (upd A a o) := fun b u e => by rw [upd_ne (ne_of_none e h)]; exact e
theorem J.more {K : PySem.W.Frag} {p kp wp a6 : Addr} {vs : List V} {H H2 : Hp} {es : List Kept} {n : Nat} {R : LR} (j : J K p kp wp H es n) (pp : PP K p kp wp a6 vs R.L.P.ps H es) (k2 : Keep (some p) H H2) (pl2 : ∃ pl, PoolAt H2 p pl) {s t dd DD ee : Addr} {rv : V} {zs : List V}
    (hs : H s = none) (nsp : s ≠ p) (hzs : H2 s = some (.lst zs)) (hS : ∀ S' : List Addr, (∀ b ∈ S', ∃ l, H2 b = some (.lst l)) → SqT K (lessS H2 p S') t [.ref s, rv] ∧ Rep K (some p) (lessS H2 p S') rv (optP R.ratio) ∧ RepAll K (some p) (lessS H2 p S') zs (sizesL R))
    (hdd : H2 dd = none) (hDD : upd H2 dd (.lst zs) DD = none) (hee : upd (upd H2 dd (.lst zs)) DD (.tup [.ref dd, rv]) ee = none) {H6 : Hp} (e6 : H6 = upd (upd (upd (upd H2 dd (.lst zs)) DD (.tup [.ref dd, rv])) ee (.tup [.ref a6, .int R.room, .ref DD, .ref t])) kp (.lst (es.map Kept.v ++ [.ref ee]))) :
    J K p kp wp H6 (es ++ [⟨.ref ee, R, s⟩]) (n + 1) ∧ PP K p kp wp a6 vs R.L.P.ps H6 (es ++ [⟨.ref ee, R, s⟩]) ∧ ∀ b o, b ≠ kp → b ≠ p → H b = some o → H6 b = some o := by
  have j2 := j.keep k2 pl2
  have s3 : Same H2 (upd H2 dd (.lst zs)) := same_new hdd
  have s4 : Same (upd H2 dd (.lst zs)) (upd (upd H2 dd (.lst zs)) DD (.tup [.ref dd, rv])) := same_new hDD
  have s5 : Same (upd (upd H2 dd (.lst zs)) DD (.tup [.ref dd, rv])) (upd (upd (upd H2 dd (.lst zs)) DD (.tup [.ref dd, rv])) ee (.tup [.ref a6, .int R.room, .ref DD, .ref t])) := same_new hee
  have s25 := same_trans s3 (same_trans s4 s5)
  have up : ∀ b o, b ≠ kp → H2 b = some o → H6 b = some o := fun b o n h => by rw [e6, upd_ne n]; exact s25 b o h
  have up1 : ∀ b o, b ≠ kp → b ≠ p → H b = some o → H6 b = some o := fun b o n n2 h => up b o n (k2 b o (fun z => n2 (Option.some.inj z)) h)
  have nsO : s ∉ outS kp wp es := j.not hs
  have nsk : s ≠ kp := fun z => nsO (by rw [z]; exact List.mem_cons_self)
  have nsw : s ≠ wp := fun z => nsO (by rw [z]; exact List.mem_cons_of_mem _ List.mem_cons_self)
  have nsS : s ∉ es.map Kept.s := fun z => nsO (List.mem_cons_of_mem _ (List.mem_cons_of_mem _ z))
  have nkd : dd ≠ kp := fun z => by rw [z, j2.hk] at hdd; cases hdd
  have nkD : DD ≠ kp := fun z => by rw [z, s3 _ _ j2.hk] at hDD; cases hDD
  have nke : ee ≠ kp := fun z => by rw [z, s4 _ _ (s3 _ _ j2.hk)] at hee; cases hee
  have hd6 : H6 dd = some (.lst zs) := by rw [e6, upd_ne nkd]; exact s5 _ _ (s4 _ _ upd_same)
  have hD6 : H6 DD = some (.tup [.ref dd, rv]) := by rw [e6, upd_ne nkD]; exact s5 _ _ upd_same
  have he6 : H6 ee = some (.tup [.ref a6, .int R.room, .ref DD, .ref t]) := by rw [e6, upd_ne nke]; exact upd_same
  have eO : outS kp wp (es ++ [⟨.ref ee, R, s⟩]) = kp :: wp :: (es.map Kept.s ++ [s]) := by unfold outS; rw [List.map_append]; rfl
  have lists : ∀ b ∈ outS kp wp (es ++ [⟨.ref ee, R, s⟩]), ∃ l, H2 b = some (.lst l) := fun b hb => by
    rw [eO] at hb
    rcases List.mem_cons.mp hb with rfl | hb
    · exact ⟨_, j2.hk⟩
    · rcases List.mem_cons.mp hb with rfl | hb
      · exact ⟨_, j2.hw⟩
      · rcases List.mem_append.mp hb with hb | hb
        · exact j2.lists b (List.mem_cons_of_mem _ (List.mem_cons_of_mem _ hb))
        · rw [List.mem_singleton.mp hb]; exact ⟨_, hzs⟩
  obtain ⟨q1, q2, q3⟩ := hS _ lists
  have kin : kp ∈ outS kp wp (es ++ [⟨.ref ee, R, s⟩]) := List.mem_cons_self
  have g2 : Same (lessS H2 p (outS kp wp (es ++ [⟨.ref ee, R, s⟩]))) (lessS H6 p (outS kp wp (es ++ [⟨.ref ee, R, s⟩]))) := lessS_grow (fun b o _ n h => up b o (fun z => n (by rw [z]; exact kin)) h) fun _ h => .inl h
  have g1 : Same (lessS H p (outS kp wp es)) (lessS H6 p (outS kp wp (es ++ [⟨.ref ee, R, s⟩]))) := lessS_grow (fun b o n1 n h => up1 b o (fun z => n (by rw [z]; exact List.mem_cons_self)) n1 h) fun b hb => by
    rw [eO] at hb
    rcases List.mem_cons.mp hb with rfl | hb
    · exact .inl List.mem_cons_self
    · rcases List.mem_cons.mp hb with rfl | hb
      · exact .inl (List.mem_cons_of_mem _ List.mem_cons_self)
      · rcases List.mem_append.mp hb with hb | hb
        · exact .inl (List.mem_cons_of_mem _ (List.mem_cons_of_mem _ hb))
        · rw [List.mem_singleton.mp hb]; exact .inr hs
  have new : ∀ b, H2 b = none → b ∉ outS kp wp (es ++ [⟨.ref ee, R, s⟩]) := fun b hb z => by
    obtain ⟨l, h⟩ := lists b z
    rw [hb] at h; cases h
  have hp2 : ∃ o, H2 p = some o := by obtain ⟨pl, h1, _⟩ := pl2; exact ⟨_, h1⟩
  have newp : ∀ b, H2 b = none → b ≠ p := fun b hb z => by
    obtain ⟨o, h⟩ := hp2
    rw [← z, hb] at h; cases h
  have nD2 : H2 DD = none := s3.free hDD
  have ne2 : H2 ee = none := (same_trans s3 s4).free hee
  refine ⟨⟨?_, ?_, ?_, j.ne1, j.ne2, j.ne3, fun e he => ?_, ?_, fun e he => ?_, ?_⟩, ⟨?_, pp.ne, ?_, RepAll.mono g1 pp.rep⟩, up1⟩
  · obtain ⟨pl, h1, h2⟩ := pl2
    exact ⟨pl, up _ _ j.ne1.symm h1, h2⟩
  · rw [e6, upd_same, List.map_append]; rfl
  · exact up _ _ j.ne3.symm j2.hw
  · rcases List.mem_append.mp he with he | he
    · exact j.out e he
    · rw [List.mem_singleton.mp he]; exact ⟨nsp, nsk, nsw⟩
  · rw [List.map_append]
    refine List.nodup_append.mpr ⟨j.nod, List.nodup_cons.mpr ⟨(fun h => nomatch h), List.nodup_nil⟩, fun a ha b hb z => ?_⟩
    have hb : b ∈ [s] := hb
    rw [List.mem_singleton.mp hb] at z
    rw [z] at ha
    exact nsS ha
  · rcases List.mem_append.mp he with he | he
    · exact (j.ent e he).mono g1 fun o ho => up1 _ _ (j.out e he).2.1 (j.out e he).1 ho
    · rw [List.mem_singleton.mp he]
      refine ⟨ee, t, .ref a6, .ref DD, rv, zs, rfl, .inl (.inl (by rw [lessS_of (newp _ ne2) (new _ ne2)]; exact he6)), pp.lst.mono g1, ?_, sameT g2 q1, q2.mono g2, RepAll.mono g2 q3, up _ _ nsk hzs⟩
      rw [sharesL]
      exact .tup (.inl (.inl (by rw [lessS_of (newp _ nD2) (new _ nD2)]; exact hD6))) (.cons (.lst (by rw [lessS_of (newp _ hdd) (new _ hdd)]; exact hd6) (RepAll.mono g2 q3)) (.cons (q2.mono g2) .nil))
  · rw [List.length_append]
    exact Nat.succ_le_succ j.few
  · exact up1 _ _ (fun z => pp.out (by rw [z]; exact List.mem_cons_self)) pp.ne pp.is
  · rw [eO]
    intro z
    rcases List.mem_cons.mp z with z | z
    · exact pp.out (by rw [z]; exact List.mem_cons_self)
    · rcases List.mem_cons.mp z with z | z
      · exact pp.out (by rw [z]; exact List.mem_cons_of_mem _ List.mem_cons_self)
      · rcases List.mem_append.mp z with z | z
        · exact pp.out (List.mem_cons_of_mem _ (List.mem_cons_of_mem _ z))
        · rw [List.mem_singleton.mp z] at pp
          have := pp.is
          rw [hs] at this
          cases this
theorem J.up {K : PySem.W.Frag} {p kp wp : Addr} {H : Hp} {es : List Kept} {n m : Nat} (j : J K p kp wp H es n) (h : n ≤ m) : J K p kp wp H es m := ⟨j.pool, j.hk, j.hw, j.ne1, j.ne2, j.ne3, j.out, j.nod, j.ent, Nat.le_trans j.few h⟩
/-- .. while law goes over its list: the entries from i on -/
structure J2 (K : PySem.W.Frag) (p kp wp : Addr) (es : List Kept) (i : Nat) (H : Hp) : Prop where
  pool : ∃ pl, PoolAt H p pl
  hk : H kp = some (.lst (es.map Kept.v))
  hw : H wp = some (.lst ((List.replicate i true).map V.bl))
  ent : ∀ k e, i ≤ k → es[k]? = some e → Ent K p (lessS H p (outS kp wp es)) H e
  there : ∀ e ∈ es, ∃ l, H e.s = some (.lst l)
theorem nod_ne {es : List Kept} {i k : Nat} {e e' : Kept} (n : (es.map Kept.s).Nodup) (h : es[i]? = some e) (h' : es[k]? = some e') (c : i < k) : e'.s ≠ e.s := fun z => by
  have h1 : (es.map Kept.s)[i]? = some e.s := by rw [List.getElem?_map, h]; rfl
  have h2 : (es.map Kept.s)[k]? = some e.s := by rw [List.getElem?_map, h', ← z]; rfl
  have l1 := (List.getElem?_eq_some_iff.mp h1)
  have l2 := (List.getElem?_eq_some_iff.mp h2)
  have := (List.getElem_inj (h₀ := l1.1) (h₁ := l2.1) n).mp (l1.2.trans l2.2.symm)
  omega

end K56
namespace K56
open PySem PySem.Spec PyProof.Rows L2 DL KM
section
variable {P : Program} {w : World} {K : PySem.W.Frag} {mg : Str → Option Value} {base : Heap} {cBP cBL cPE : Addr}
abbrev s_is_whole : Stmt := top 7
theorem sc_is_whole : FnScope ["value"] ["value"] (defScope s_is_whole) := ⟨rfl, rfl, rfl, by decide +kernel, rfl, by decide +kernel, by decide +kernel⟩
theorem ok_is_whole {f : Addr} {fd : FuncData} (F : Fun K "is_whole" "is_whole" s_is_whole f fd) (hm : mg "is_whole" = some (.ref f)) (hb : Binds K fd ["value"] []) (T : Txt K mg cBP cBL cPE)  : DFn P w K mg base 1 "is_whole" ["value"] phi_is_whole := by
  refine okD F sc_is_whole hm hb (gSp_len fun a => by first | rfl | (cases a <;> rfl)) (fun cdv A outer s H E pa G hr => ⟨_, (dss_one (ds_ret (de_and (de_isi .int T.isinstance T.int (dv 0)) (de_one (de_not (de_isi .bool T.isinstance T.bool (dv 0))))))), gSp_go fun a => ?_⟩)
  cases a <;> exact rfl
abbrev s_cut : Stmt := top 10
theorem sc_cut : FnScope ["number", "lo", "hi"] ["number", "lo", "hi"] (defScope s_cut) := ⟨rfl, rfl, rfl, by decide +kernel, rfl, by decide +kernel, by decide +kernel⟩
theorem ok_cut {f : Addr} {fd : FuncData} (F : Fun K "cut" "cut" s_cut f fd) (hm : mg "cut" = some (.ref f)) (hb : Binds K fd ["number", "lo", "hi"] []) (T : Txt K mg cBP cBL cPE)  : DFn P w K mg base 1 "cut" ["number", "lo", "hi"] phi_cut := by
  refine okD F sc_cut hm hb (gSp_len fun a => by first | rfl | (cases a <;> rfl)) (fun cdv A outer s H E pa G hr => ⟨_, (dss_cons (ds_if (DW.dt (dw_and (dt_notN (dv 2)) (dw_and1 (dt_gt (dv 0) (dv 2)))))
        (dss_one (ds_set (i := 0) sc_cut.nd rfl (.inl rfl) (dv 2)))
        dss_nil)
      (dss_cons (ds_if (DW.dt (dw_and (dt_notN (dv 1)) (dw_and1 (dt_lt (dv 0) (dv 1)))))
        (dss_one (ds_set (i := 0) sc_cut.nd rfl (.inl rfl) (dv 1)))
        dss_nil)
      (dss_one (ds_ret (dv 0))))), gSp_go fun a => ?_⟩)
  obtain ⟨n, lo, hi⟩ := a
  unfold cutF
  cases hi with
  | none =>
    cases lo with
    | none => exact rfl
    | some l => refine dIf (fun h => ?_) (fun h => ?_) <;> simp only [h] <;> exact rfl
  | some u =>
    cases lo with
    | none => refine dIf (fun h => ?_) (fun h => ?_) <;> simp only [h] <;> exact rfl
    | some l =>
      refine dIf (fun h => ?_) (fun h => ?_)
      · refine dIf (fun h2 => ?_) (fun h2 => ?_)
        · show D.int l = _; simp [h, h2]
        · show D.int u = _; simp [h, h2]
      · refine dIf (fun h2 => ?_) (fun h2 => ?_)
        · show D.int l = _; simp [h, h2]
        · show D.int n = _; simp [h, h2]
abbrev s_times : Stmt := top 11
theorem sc_times : FnScope ["number", "many"] ["number", "many"] (defScope s_times) := ⟨rfl, rfl, rfl, by decide +kernel, rfl, by decide +kernel, by decide +kernel⟩
theorem ok_times {f : Addr} {fd : FuncData} (F : Fun K "times" "times" s_times f fd) (hm : mg "times" = some (.ref f)) (hb : Binds K fd ["number", "many"] []) (T : Txt K mg cBP cBL cPE)  : DFn P w K mg base 1 "times" ["number", "many"] phi_times := by
  refine okD F sc_times hm hb (gSp_len fun a => by first | rfl | (cases a <;> rfl)) (fun cdv A outer s H E pa G hr => ⟨_, (dss_one (ds_ret (de_if (dt_isN (dv 0)) de_non (de_mul (dv 0) (dv 1))))), gSp_go fun a => ?_⟩)
  obtain ⟨⟨n, k⟩, h1, h2⟩ := a
  cases n with
  | none => exact rfl
  | some x => exact ⟨Bd.cm h1 h2 (by decide) (by decide) (by decide), rfl⟩
abbrev s_tops_at : Stmt := top 12
theorem sc_tops_at : FnScope ["parts", "top", "low", "found", "base", "weight", "lo", "hi"] ["parts", "top", "low"] (defScope s_tops_at) := ⟨rfl, rfl, rfl, by decide +kernel, rfl, by decide +kernel, by decide +kernel⟩
theorem ok_tops_at {f : Addr} {fd : FuncData} (F : Fun K "tops_at" "tops_at" s_tops_at f fd) (hm : mg "tops_at" = some (.ref f)) (hb : Binds K fd ["parts", "top", "low"] []) (T : Txt K mg cBP cBL cPE) (h_cut : DFn P w K mg base 1 "cut" ["number", "lo", "hi"] phi_cut) (h_times : DFn P w K mg base 1 "times" ["number", "many"] phi_times) : DFn P w K mg base 2 "tops_at" ["parts", "top", "low"] phi_tops_at := by
  refine okD F sc_tops_at hm hb (gSp_len fun a => by first | rfl | (cases a <;> rfl)) (fun cdv A outer s H E pa G hr => ⟨_, (dss_cons (ds_setO (i := 3) sc_tops_at.nd rfl (.inl rfl) (do_lst da_nil))
      (dss_cons (ds_for (passes_of rfl) rfl (di_seq (dv 0)) (dg_tup (n := 4) rfl (dgs_cons (dg_name (i := 4) sc_tops_at.nd rfl (.inl rfl)) (dgs_cons (dg_name (i := 5) sc_tops_at.nd rfl (.inl rfl)) (dgs_cons (dg_name (i := 6) sc_tops_at.nd rfl (.inl rfl)) (dgs_cons (dg_name (i := 7) sc_tops_at.nd rfl (.inl rfl)) dgs_nil)))))
        (dss_one (ds_append 3 (de_call h_cut (hr.mono (by decide)) (da_cons (de_add (de_mul (dv 4) (dv 2)) (de_mul (dv 5) (dv 1))) (da_cons (de_call h_times (hr.mono (by decide)) (da_cons (dv 6) (da_cons (dv 2) da_nil))) (da_cons (de_call h_times (hr.mono (by decide)) (da_cons (dv 7) (da_cons (dv 2) da_nil))) da_nil)))))))
      (dss_one (ds_ret (dv 3))))), gSp_go fun a => ?_⟩)
  obtain ⟨Ps, top, low, h1, h2⟩ := a
  refine ⟨Nat.zero_le _, for_pre (enc := ptD) (xs := Ps.ps) (fun pre τ => ∃ a b c d, τ = [sD (Ps.d), sD ((.int top)), sD ((.int low)), oD (((topsF pre top low).map D.int)), a, b, c, d]) rfl ⟨none, none, none, none, rfl⟩ ?_ ?_⟩
  · rintro pre p post τ e ⟨a, b, c, d, rfl⟩
    have hp := Ps.ok p (by rw [e]; simp)
    have hl : pre.length < 1000 := by have := Ps.len; rw [e, List.length_append, List.length_cons] at this; omega
    refine ⟨rfl, rfl, ⟨_, rfl⟩, hp.b.cm h2 (by decide) (by decide) (by decide), hp.w.cm h1 (by decide) (by decide) (by decide), ⟨(p.l, low), hp.l.up, h2⟩, rfl, ceq ⟨⟨(p.h, low), hp.h.up, h2⟩, rfl, ceq ⟨(p.b * low + p.w * top, timesF p.l low, timesF p.h low), rfl, ceq ⟨_, rfl, ?_, sD ((.int p.b)), sD ((.int p.w)), sD ((optD p.l)), sD ((optD p.h)), ?_⟩, cno⟩, cno⟩, cno⟩
    · rw [List.length_map]; unfold topsF; rw [List.length_map]; exact small1000 (by omega)
    · have e2 : (topsF (pre ++ [p]) top low).map D.int = (topsF pre top low).map D.int ++ [.int (topF top low p)] := by unfold topsF; rw [List.map_append, List.map_append]; rfl
      rw [e2]; rfl
  · rintro τ ⟨a, b, c, d, rfl⟩
    exact rfl
end
end K56
namespace K56
open PySem PySem.Spec PyProof.Rows L2 DL KM
section
variable {P : Program} {w : World} {K : PySem.W.Frag} {mg : Str → Option Value} {base : Heap} {cBP cBL cPE : Addr}
abbrev s_is_part : Stmt := top 8
theorem sc_is_part : FnScope ["value", "base", "weight", "lo", "hi"] ["value"] (defScope s_is_part) := ⟨rfl, rfl, rfl, by decide +kernel, rfl, by decide +kernel, by decide +kernel⟩
theorem ok_is_part {f : Addr} {fd : FuncData} (F : Fun K "is_part" "is_part" s_is_part f fd) (hm : mg "is_part" = some (.ref f)) (hb : Binds K fd ["value"] []) (T : Txt K mg cBP cBL cPE) (h_is_whole : DFn P w K mg base 1 "is_whole" ["value"] phi_is_whole) : DFn P w K mg base 2 "is_part" ["value"] phi_is_part := by
  refine okD F sc_is_part hm hb (gSp_len fun a => by first | rfl | (cases a <;> rfl)) (fun cdv A outer s H E pa G hr => ⟨_, (dss_cons (ds_if (DW.dt (dw_or (dt_not (dt_val (de_isi .tuple T.isinstance T.tuple (dv 0)))) (dw_or1 (dt_ne hr.units (de_lenV 0 T.len) de_int))))
        (dss_one (ds_ret de_bl))
        dss_nil)
      (dss_cons (ds_asg (dv 0) (dg_tup (n := 4) rfl (dgs_cons (dg_name (i := 1) sc_is_part.nd rfl (.inl rfl)) (dgs_cons (dg_name (i := 2) sc_is_part.nd rfl (.inl rfl)) (dgs_cons (dg_name (i := 3) sc_is_part.nd rfl (.inl rfl)) (dgs_cons (dg_name (i := 4) sc_is_part.nd rfl (.inl rfl)) dgs_nil))))))
      (dss_cons (ds_if (DW.dt (dw_or (dt_not (dt_val (de_call h_is_whole (hr.mono (by decide)) (da_cons (dv 1) da_nil)))) (dw_or (dt_not (dt_val (de_call h_is_whole (hr.mono (by decide)) (da_cons (dv 2) da_nil)))) (dw_or (dt_not (dt_val (de_call h_is_whole (hr.mono (by decide)) (da_cons (dv 3) da_nil)))) (dw_or1 (dt_lt (dv 2) de_int))))))
        (dss_one (ds_ret de_bl))
        dss_nil)
      (dss_one (ds_ret (de_or (de_isN (dv 4)) (de_one (de_and (de_call h_is_whole (hr.mono (by decide)) (da_cons (dv 4) da_nil)) (de_one (de_le (dv 3) (dv 4))))))))))), gSp_go fun a => ?_⟩)
  have fin : ∀ {X : D}, isPart X = false → D.bl false = D.bl (isPart X) := fun h => by rw [h]
  cases a with
  | tup ds =>
    refine bIf (fun h => ?_) (fun h => ?_)
    · refine fin (X := .tup ds) ?_
      match ds, h with
      | [], _ => rfl
      | [_], _ => rfl
      | [_, _], _ => rfl
      | [_, _, _], _ => rfl
      | _ :: _ :: _ :: _ :: _ :: _, _ => rfl
    · have hl : ds.length = 4 := by
        have h2 : (decide ((ds.length : Int) = 4)) = true := by simpa using h
        have := of_decide_eq_true h2
        omega
      match ds, hl with
      | [b, w, l, h'], _ =>
        refine ⟨rfl, rfl, ?_⟩
        cases b with
        | int b =>
          refine ⟨_, rfl, ceq ?_, cno⟩
          cases w with
          | int w =>
            refine ⟨_, rfl, ceq ?_, cno⟩
            cases l with
            | int l =>
              refine ⟨_, rfl, ceq ?_, cno⟩
              refine dIf (fun hw => ?_) (fun hw => ?_)
              · exact fin (X := .tup [.int b, .int w, .int l, h']) (by
                  have : geZ (.int w) = false := decide_eq_false (by omega)
                  have e0 : isPart (.tup [.int b, .int w, .int l, h']) = (isW (.int b) && isW (.int w) && isW (.int l) && geZ (.int w) && hiOk (.int l) h') := rfl
                  rw [e0, this]; simp)
              · have e : geZ (.int w) = true := decide_eq_true (by omega)
                cases h' with
                | non => show D.bl true = D.bl (isW (.int b) && isW (.int w) && isW (.int l) && geZ (.int w) && true); rw [e]; rfl
                | int u =>
                  refine ⟨_, rfl, ceq ?_, cno⟩
                  show D.bl (decide (l ≤ u)) = D.bl (isW (.int b) && isW (.int w) && isW (.int l) && geZ (.int w) && decide (l ≤ u))
                  rw [e]; rfl
                | bl x => exact ⟨_, rfl, ceq (fin (X := .tup [.int b, .int w, .int l, .bl x]) (by simp [isPart, hiOk])), cno⟩
                | str x => exact ⟨_, rfl, ceq (fin (X := .tup [.int b, .int w, .int l, .str x]) (by simp [isPart, hiOk])), cno⟩
                | lst x => exact ⟨_, rfl, ceq (fin (X := .tup [.int b, .int w, .int l, .lst x]) (by simp [isPart, hiOk])), cno⟩
                | tup x => exact ⟨_, rfl, ceq (fin (X := .tup [.int b, .int w, .int l, .tup x]) (by simp [isPart, hiOk])), cno⟩
                | dct => exact ⟨_, rfl, ceq (fin (X := .tup [.int b, .int w, .int l, .dct]) (by simp [isPart, hiOk])), cno⟩
                | pool => exact ⟨_, rfl, ceq (fin (X := .tup [.int b, .int w, .int l, .pool]) (by simp [isPart, hiOk])), cno⟩
                | scr x => exact ⟨_, rfl, ceq (fin (X := .tup [.int b, .int w, .int l, .scr x]) (by simp [isPart, hiOk])), cno⟩
                | adr x => exact ⟨_, rfl, ceq (fin (X := .tup [.int b, .int w, .int l, .adr x]) (by simp [isPart, hiOk])), cno⟩
            | _ => exact ⟨_, rfl, ceq (fin (X := .tup [.int b, .int w, _, h']) (by simp [isPart, isW])), cno⟩
          | _ => exact ⟨_, rfl, ceq (fin (X := .tup [.int b, _, l, h']) (by simp [isPart, isW])), cno⟩
        | _ => exact ⟨_, rfl, ceq (fin (X := .tup [_, w, l, h']) (by simp [isPart, isW])), cno⟩
  | _ => exact rfl
abbrev s_check_parts : Stmt := top 9
theorem sc_check_parts : FnScope ["parts", "room", "part"] ["parts", "room"] (defScope s_check_parts) := ⟨rfl, rfl, rfl, by decide +kernel, rfl, by decide +kernel, by decide +kernel⟩
theorem ok_check_parts {f : Addr} {fd : FuncData} (F : Fun K "check_parts" "check_parts" s_check_parts f fd) (hm : mg "check_parts" = some (.ref f)) (hb : Binds K fd ["parts", "room"] []) (T : Txt K mg cBP cBL cPE) (h_is_whole : DFn P w K mg base 1 "is_whole" ["value"] phi_is_whole) (h_is_part : DFn P w K mg base 2 "is_part" ["value"] phi_is_part) : DFn P w K mg base 3 "check_parts" ["parts", "room"] (phi_check_parts cBP) := by
  refine okD F sc_check_parts hm hb (gSp_len fun a => by first | rfl | (cases a <;> rfl)) (fun cdv A outer s H E pa G hr => ⟨_, (dss_cons (ds_if (DW.dt (dw_or (dt_not (dt_val (de_isi .list T.isinstance T.list (dv 0)))) (dw_or (dt_gt (de_lenV 0 T.len) (de_globI T.c_MOST_PARTS)) (dw_or1 (dt_not (dt_val (de_call h_is_whole (hr.mono (by decide)) (da_cons (dv 1) da_nil))))))))
        (dss_one (ds_raise T.x_BadParts (takes_of rfl rfl rfl rfl)))
        dss_nil)
      (dss_one (ds_if (dt_not (dt_val (de_all T.all (da_cons (de_of (do_lc (own := [("part", 2)]) rfl sc_check_parts.nd (di_seq (dv 0)) (blkOk_by (own := [("part", 2)]) (N := ["parts", "room", "part"]) (sc := defScope s_check_parts) (by decide +kernel)) (by decide) (fun _ _ _ _ _ => (dg_name (i := 2) sc_check_parts.nd rfl (.inl rfl))) (fun _ _ _ _ _ => dts_nil) (fun _ _ _ _ _ => (de_call h_is_part (hr.mono (by decide)) (da_cons (dv 2) da_nil))))) da_nil))))
        (dss_one (ds_raise T.x_BadParts (takes_of rfl rfl rfl rfl)))
        dss_nil))), gSp_go fun a => ?_⟩)
  obtain ⟨⟨ps, room⟩, np⟩ := a
  cases ps with
  | lst ds =>
    refine dIf (fun h => ?_) (fun h => ?_)
    · refine ⟨?_, rfl⟩
      show (decide (ds.length ≤ 200) && isW room && ds.all isPart) = false
      rw [decide_eq_false (by omega)]; rfl
    · have hd : decide (ds.length ≤ 200) = true := decide_eq_true (by omega)
      refine ⟨room, rfl, ceq ?_, cno⟩
      refine bIf (fun h2 => ?_) (fun h2 => ?_)
      · refine ⟨?_, rfl⟩
        show (decide (ds.length ≤ 200) && isW room && ds.all isPart) = false
        have : isW room = false := by simpa using h2
        rw [this]; simp
      · have hw : isW room = true := by simpa using h2
        refine lc_map (enc := id) (xs := ds) (fun d => .bl (isPart d)) (List.map_id _).symm (by rw [sizeLine_eq]; omega) (fun d _ => ⟨d, rfl, ceq rfl, cno⟩) ?_
        refine ⟨ds.map isPart, by rw [List.map_map]; rfl, ?_⟩
        have e : (ds.map isPart).all id = ds.all isPart := by rw [List.all_map]; rfl
        rw [e]
        refine bIf (fun h3 => ?_) (fun h3 => ?_)
        · refine ⟨?_, rfl⟩
          show (decide (ds.length ≤ 200) && isW room && ds.all isPart) = false
          have : ds.all isPart = false := by simpa using h3
          rw [this]; simp
        · refine ⟨?_, rfl⟩
          show (decide (ds.length ≤ 200) && isW room && ds.all isPart) = true
          have : ds.all isPart = true := by simpa using h3
          rw [this, hd, hw]; rfl
  | pool => exact np.elim
  | scr x => exact np.elim
  | adr x => exact np.elim
  | _ => exact ⟨rfl, rfl⟩
abbrev s_knots_of : Stmt := top 13
theorem sc_knots_of : FnScope ["parts", "found", "base", "weight", "lo", "hi", "bound"] ["parts"] (defScope s_knots_of) := ⟨rfl, rfl, rfl, by decide +kernel, rfl, by decide +kernel, by decide +kernel⟩
theorem ok_knots_of {f : Addr} {fd : FuncData} (F : Fun K "knots_of" "knots_of" s_knots_of f fd) (hm : mg "knots_of" = some (.ref f)) (hb : Binds K fd ["parts"] []) (T : Txt K mg cBP cBL cPE)  : DFn P w K mg base 1 "knots_of" ["parts"] phi_knots_of := by
  refine okD F sc_knots_of hm hb (gSp_len fun a => by first | rfl | (cases a <;> rfl)) (fun cdv A outer s H E pa G hr => ⟨_, (dss_cons (ds_setO (i := 1) sc_knots_of.nd rfl (.inl rfl) (do_lst da_nil))
      (dss_cons (ds_for (passes_of rfl) rfl (di_seq (dv 0)) (dg_tup (n := 4) rfl (dgs_cons (dg_name (i := 2) sc_knots_of.nd rfl (.inl rfl)) (dgs_cons (dg_name (i := 3) sc_knots_of.nd rfl (.inl rfl)) (dgs_cons (dg_name (i := 4) sc_knots_of.nd rfl (.inl rfl)) (dgs_cons (dg_name (i := 5) sc_knots_of.nd rfl (.inl rfl)) dgs_nil)))))
        (dss_one (ds_for (passes_of rfl) rfl (di_seq (de_tup (da_cons (dv 4) (da_cons (dv 5) da_nil)))) (dg_name (i := 6) sc_knots_of.nd rfl (.inl rfl))
          (dss_one (ds_if (DW.dt (dw_and (dt_gt (dv 3) de_int) (dw_and (dt_notN (dv 6)) (dw_and1 (dt_gt (dv 6) (dv 2))))))
            (dss_one (ds_append 1 (de_tup (da_cons (de_sub (dv 6) (dv 2)) (da_cons (dv 3) da_nil)))))
            dss_nil)))))
      (dss_one (ds_ret (dv 1))))), gSp_go fun a => ?_⟩)
  refine ⟨Nat.zero_le _, for_pre (enc := ptD) (xs := a.ps) (fun pre τ => ∃ b c d e f, τ = [sD (a.d), oD (((knotsF pre).map pairD)), b, c, d, e, f]) rfl ⟨none, none, none, none, none, rfl⟩ ?_ ?_⟩
  · rintro pre p post τ e ⟨v2, v3, v4, v5, v6, rfl⟩
    have hl : pre.length < 1000 := by have := a.len; rw [e, List.length_append, List.length_cons] at this; omega
    refine ⟨rfl, rfl, by show 2 ≤ sizeLine; decide, for_pre (enc := optD) (xs := [p.l, p.h]) (fun pre2 τ => ∃ f, τ = [sD (a.d), oD (((knotsF pre ++ pre2.filterMap (knot p)).map pairD)), sD ((.int p.b)), sD ((.int p.w)), sD ((optD p.l)), sD ((optD p.h)), f]) rfl ⟨v6, by simp⟩ ?_ ?_⟩
    · rintro pre2 o post2 τ e2 ⟨f, rfl⟩
      have no : ∀ τ', τ' = [sD (a.d), oD (((knotsF pre ++ pre2.filterMap (knot p)).map pairD)), sD ((.int p.b)), sD ((.int p.w)), sD ((optD p.l)), sD ((optD p.h)), sD ((optD o))] → knot p o = none → ∃ f, τ' = [sD (a.d), oD (((knotsF pre ++ (pre2 ++ [o]).filterMap (knot p)).map pairD)), sD ((.int p.b)), sD ((.int p.w)), sD ((optD p.l)), sD ((optD p.h)), f] := fun τ' e3 k => by
        refine ⟨sD ((optD o)), ?_⟩
        have e4 : (pre2 ++ [o]).filterMap (knot p) = pre2.filterMap (knot p) := by rw [List.filterMap_append]; simp [k]
        rw [e4]; exact e3
      refine dIf (fun h1 => ?_) (fun h1 => ?_)
      · cases o with
        | none => exact no _ rfl rfl
        | some x =>
          refine dIf (fun h2 => ?_) (fun h2 => ?_)
          · refine ⟨⟨_, rfl⟩, by show 2 ≤ sizeLine; decide, _, rfl, ?_, sD ((.int x)), ?_⟩
            · have l1 : (knotsF pre).length ≤ 2 * pre.length := by
                unfold knotsF
                rw [List.length_flatMap]
                have : ∀ l : List Pt, (l.map fun q => (knots1 q).length).sum ≤ 2 * l.length := fun l => by
                  induction l with
                  | nil => exact Nat.le_refl _
                  | cons q l ih =>
                    rw [List.map_cons, List.sum_cons, List.length_cons]
                    have : (knots1 q).length ≤ 2 := by unfold knots1; exact List.length_filterMap_le _ _
                    omega
                exact this pre
              have l2 : (pre2.filterMap (knot p)).length ≤ 2 := by
                have h3 : pre2.length ≤ 2 := by have := congrArg List.length e2; simp at this; omega
                exact Nat.le_trans (List.length_filterMap_le _ _) h3
              rw [List.length_map, List.length_append, sizeLine_eq]; omega
            · have e4 : (pre2 ++ [some x]).filterMap (knot p) = pre2.filterMap (knot p) ++ [(x - p.b, p.w)] := by
                rw [List.filterMap_append]
                simp [knot, h1, h2]
              have e5 : (knotsF pre ++ (pre2 ++ [some x]).filterMap (knot p)).map pairD = (knotsF pre ++ pre2.filterMap (knot p)).map pairD ++ [pairD (x - p.b, p.w)] := by rw [e4]; simp
              rw [e5]; rfl
          · exact no _ rfl (by unfold knot; dsimp only; rw [if_neg (fun z => h2 z.2)])
      · exact no _ rfl (by cases o with
          | none => rfl
          | some x => unfold knot; dsimp only; rw [if_neg (fun z => h1 z.1)])
    · rintro τ ⟨f, rfl⟩
      refine ⟨sD (.int p.b), sD (.int p.w), sD (optD p.l), sD (optD p.h), f, ?_⟩
      have e4 : knotsF (pre ++ [p]) = knotsF pre ++ [p.l, p.h].filterMap (knot p) := by unfold knotsF; rw [List.flatMap_append]; simp [knots1]
      rw [e4]
  · rintro τ ⟨b, c, d, e, f, rfl⟩
    exact rfl
abbrev s_gain_behind : Stmt := top 14
theorem sc_gain_behind : FnScope ["parts", "top", "low", "gain", "base", "weight", "lo", "hi", "number"] ["parts", "top", "low"] (defScope s_gain_behind) := ⟨rfl, rfl, rfl, by decide +kernel, rfl, by decide +kernel, by decide +kernel⟩
theorem ok_gain_behind {f : Addr} {fd : FuncData} (F : Fun K "gain_behind" "gain_behind" s_gain_behind f fd) (hm : mg "gain_behind" = some (.ref f)) (hb : Binds K fd ["parts", "top", "low"] []) (T : Txt K mg cBP cBL cPE)  : DFn P w K mg base 1 "gain_behind" ["parts", "top", "low"] phi_gain_behind := by
  refine okD F sc_gain_behind hm hb (gSp_len fun a => by first | rfl | (cases a <;> rfl)) (fun cdv A outer s H E pa G hr => ⟨_, (dss_cons (ds_set (i := 3) sc_gain_behind.nd rfl (.inl rfl) de_int)
      (dss_cons (ds_for (passes_of rfl) rfl (di_seq (dv 0)) (dg_tup (n := 4) rfl (dgs_cons (dg_name (i := 4) sc_gain_behind.nd rfl (.inl rfl)) (dgs_cons (dg_name (i := 5) sc_gain_behind.nd rfl (.inl rfl)) (dgs_cons (dg_name (i := 6) sc_gain_behind.nd rfl (.inl rfl)) (dgs_cons (dg_name (i := 7) sc_gain_behind.nd rfl (.inl rfl)) dgs_nil)))))
        (dss_cons (ds_set (i := 8) sc_gain_behind.nd rfl (.inl rfl) (de_add (de_mul (dv 4) (dv 2)) (de_mul (dv 5) (dv 1))))
        (dss_one (ds_if (DW.dt (dw_and (DW.dt (dw_or (dt_isN (dv 6)) (dw_or1 (dt_ge (dv 8) (de_mul (dv 6) (dv 2)))))) (dw_and1 (DW.dt (dw_or (dt_isN (dv 7)) (dw_or1 (dt_lt (dv 8) (de_mul (dv 7) (dv 2)))))))))
          (dss_one (ds_set (i := 3) sc_gain_behind.nd rfl (.inl rfl) (de_add (dv 3) (dv 5))))
          dss_nil))))
      (dss_one (ds_ret (dv 3))))), gSp_go fun a => ?_⟩)
  obtain ⟨Ps, top, low, h1, h2⟩ := a
  refine for_pre (enc := ptD) (xs := Ps.ps) (fun pre τ => ∃ v4 v5 v6 v7 v8, τ = [sD Ps.d, sD (.int top), sD (.int low), sD (.int (gainF pre top low)), v4, v5, v6, v7, v8]) rfl ⟨none, none, none, none, none, rfl⟩ ?_ ?_
  · rintro pre p post τ e ⟨v4, v5, v6, v7, v8, rfl⟩
    have hp := Ps.ok p (by rw [e]; simp)
    have e2 : gainF (pre ++ [p]) top low = gainF pre top low + (if growsI p top low = true then p.w else 0) := by
      unfold gainF; rw [List.map_append, List.sum_append]; simp
    refine ⟨rfl, rfl, hp.b.cm h2 (by decide) (by decide) (by decide), hp.w.cm h1 (by decide) (by decide) (by decide), ?_⟩
    have no : growsI p top low = false → ∃ v4 v5 v6 v7 v8, [sD Ps.d, sD (.int top), sD (.int low), sD (.int (gainF pre top low)), sD (.int p.b), sD (.int p.w), sD (optD p.l), sD (optD p.h), sD (.int (p.b * low + p.w * top))] = [sD Ps.d, sD (.int top), sD (.int low), sD (.int (gainF (pre ++ [p]) top low)), v4, v5, v6, v7, v8] := fun k => ⟨sD (.int p.b), sD (.int p.w), sD (optD p.l), sD (optD p.h), sD (.int (p.b * low + p.w * top)), by rw [e2, if_neg (by rw [k]; decide), Int.add_zero]⟩
    have yes : growsI p top low = true → ∃ v4 v5 v6 v7 v8, [sD Ps.d, sD (.int top), sD (.int low), sD (.int (gainF pre top low + p.w)), sD (.int p.b), sD (.int p.w), sD (optD p.l), sD (optD p.h), sD (.int (p.b * low + p.w * top))] = [sD Ps.d, sD (.int top), sD (.int low), sD (.int (gainF (pre ++ [p]) top low)), v4, v5, v6, v7, v8] := fun k => ⟨sD (.int p.b), sD (.int p.w), sD (optD p.l), sD (optD p.h), sD (.int (p.b * low + p.w * top)), by rw [e2, if_pos k]⟩
    obtain ⟨b, w', l, u⟩ := p
    cases l with
    | none =>
      cases u with
      | none => exact yes rfl
      | some y =>
        refine ⟨hp.h.cm h2 (by decide) (by decide) (by decide), ?_⟩
        refine dIf (fun c => ?_) (fun c => ?_)
        · exact yes (by unfold growsI; simp; exact c)
        · exact no (by dsimp only at c; unfold growsI; simp; omega)
    | some x =>
      refine ⟨hp.l.cm h2 (by decide) (by decide) (by decide), ?_⟩
      refine dIf (fun c => ?_) (fun c => ?_)
      · cases u with
        | none => exact yes (by unfold growsI; simp; exact c)
        | some y =>
          refine ⟨hp.h.cm h2 (by decide) (by decide) (by decide), ?_⟩
          refine dIf (fun c2 => ?_) (fun c2 => ?_)
          · exact yes (by unfold growsI; simp; exact ⟨c, c2⟩)
          · exact no (by dsimp only at c c2; unfold growsI; simp; omega)
      · exact no (by dsimp only at c; unfold growsI; simp; omega)
  · rintro τ ⟨v4, v5, v6, v7, v8, rfl⟩
    exact rfl
abbrev s_lowest : Stmt := top 15
theorem sc_lowest : FnScope ["top", "low", "both"] ["top", "low"] (defScope s_lowest) := ⟨rfl, rfl, rfl, by decide +kernel, rfl, by decide +kernel, by decide +kernel⟩
theorem ok_lowest {f : Addr} {fd : FuncData} (F : Fun K "lowest" "lowest" s_lowest f fd) (hm : mg "lowest" = some (.ref f)) (hb : Binds K fd ["top", "low"] []) (T : Txt K mg cBP cBL cPE)  : DFn P w K mg base 1 "lowest" ["top", "low"] phi_lowest := by
  refine okD F sc_lowest hm hb (gSp_len fun a => by first | rfl | (cases a <;> rfl)) (fun cdv A outer s H E pa G hr => ⟨_, (dss_cons (ds_set (i := 2) sc_lowest.nd rfl (.inl rfl) (de_gcd T.gcd (da_cons (dv 0) (da_cons (dv 1) da_nil))))
      (dss_one (ds_ret (de_tup (da_cons (de_div (dv 0) (dv 2)) (da_cons (de_div (dv 1) (dv 2)) da_nil)))))), gSp_go fun a => ?_⟩)
  obtain ⟨⟨top, low⟩, h1, h2⟩ := a
  have hg : 0 < Nat.gcd top.natAbs low.natAbs := Nat.gcd_pos_of_pos_right _ (by dsimp only at h1; omega)
  have hgl : Nat.gcd top.natAbs low.natAbs ≤ low.natAbs := Nat.le_of_dvd (by dsimp only at h1; omega) (Nat.gcd_dvd_right _ _)
  have hb : CDivW top ((Nat.gcd top.natAbs low.natAbs : Nat) : Int) := wide_div (by omega) (show ((Nat.gcd top.natAbs low.natAbs : Nat) : Int).natAbs < 2 ^ 400 from Nat.lt_of_le_of_lt (by rw [Int.natAbs_natCast]; exact hgl) h2) (by decide) (by decide)
  exact ⟨hb, hb, by show 2 ≤ sizeLine; decide, rfl⟩
end
end K56
namespace K56
open PySem PySem.Spec PyProof.Rows L2 DL KM
section
variable {P : Program} {w : World} {K : PySem.W.Frag} {mg : Str → Option Value} {base : Heap} {cBP cBL cPE : Addr}
abbrev s_least_ratio : Stmt := top 16
theorem sc_least_ratio : FnScope ["parts", "room", "top", "low", "other", "under", "gain"] ["parts", "room"] (defScope s_least_ratio) := ⟨rfl, rfl, rfl, by decide +kernel, rfl, by decide +kernel, by decide +kernel⟩
theorem ok_least_ratio {f : Addr} {fd : FuncData} (F : Fun K "least_ratio" "least_ratio" s_least_ratio f fd) (hm : mg "least_ratio" = some (.ref f)) (hb : Binds K fd ["parts", "room"] []) (T : Txt K mg cBP cBL cPE) (h_knots_of : DFn P w K mg base 1 "knots_of" ["parts"] phi_knots_of) (h_tops_at : DFn P w K mg base 2 "tops_at" ["parts", "top", "low"] phi_tops_at) (h_gain_behind : DFn P w K mg base 1 "gain_behind" ["parts", "top", "low"] phi_gain_behind) (h_lowest : DFn P w K mg base 1 "lowest" ["top", "low"] phi_lowest) : DFn P w K mg base 3 "least_ratio" ["parts", "room"] phi_least_ratio := by
  refine okD F sc_least_ratio hm hb (gSp_len fun a => by first | rfl | (cases a <;> rfl)) (fun cdv A outer s H E pa G hr => ⟨_, (dss_cons (ds_asgM rfl (dm_e de_int (dm_e de_int dm_nil)) (dns_cons (i := 2) sc_least_ratio.nd rfl (.inl rfl) (dns_cons (i := 3) sc_least_ratio.nd rfl (.inl rfl) dns_nil)))
      (dss_cons (ds_for (passes_of rfl) rfl (di_seq (de_call h_knots_of (hr.mono (by decide)) (da_cons (dv 0) da_nil))) (dg_tup (n := 2) rfl (dgs_cons (dg_name (i := 4) sc_least_ratio.nd rfl (.inl rfl)) (dgs_cons (dg_name (i := 5) sc_least_ratio.nd rfl (.inl rfl)) dgs_nil)))
        (dss_one (ds_if (DW.dt (dw_and (dt_gt (de_mul (dv 4) (dv 3)) (de_mul (dv 2) (dv 5))) (dw_and1 (dt_lt (de_sum T.sum (da_cons (de_call h_tops_at (hr.mono (by decide)) (da_cons (dv 0) (da_cons (dv 4) (da_cons (dv 5) da_nil)))) da_nil)) (de_mul (dv 1) (dv 5))))))
          (dss_one (ds_par2 (i := 2) (j := 3) rfl sc_least_ratio.nd rfl rfl (by decide) rfl rfl (dm_e (dv 4) (dm_e (dv 5) dm_nil)) rfl))
          dss_nil)))
      (dss_cons (ds_set (i := 6) sc_least_ratio.nd rfl (.inl rfl) (de_call h_gain_behind (hr.mono (by decide)) (da_cons (dv 0) (da_cons (dv 2) (da_cons (dv 3) da_nil)))))
      (dss_cons (ds_if (dt_eq hr.units (dv 6) de_int)
        (dss_one (ds_ret de_non))
        dss_nil)
      (dss_one (ds_ret (de_call h_lowest (hr.mono (by decide)) (da_cons (de_sub (de_add (de_mul (dv 2) (dv 6)) (de_mul (dv 1) (dv 3))) (de_sum T.sum (da_cons (de_call h_tops_at (hr.mono (by decide)) (da_cons (dv 0) (da_cons (dv 2) (da_cons (dv 3) da_nil)))) da_nil))) (da_cons (de_mul (dv 3) (dv 6)) da_nil))))))))), gSp_go fun a => ?_⟩)
  obtain ⟨Ps, room, hr⟩ := a
  refine ⟨rfl, Ps, rfl, ceq (for_pre (enc := pairD) (xs := knotsF Ps.ps) (fun pre τ => ∃ o u, τ = [sD Ps.d, sD (.int room), sD (.int (startF Ps.ps room pre).1), sD (.int (startF Ps.ps room pre).2), o, u, none]) rfl ⟨none, none, rfl⟩ ?_ ?_), cno⟩
  · rintro pre k post τ e ⟨o, u, rfl⟩
    have hk : k ∈ knotsF Ps.ps := by rw [e]; simp
    have kb := knots_bd hk
    have sb := start_bd0 Ps room (K := pre) fun j hj => by rw [e]; exact List.mem_append_left _ hj
    have e2 : startF Ps.ps room (pre ++ [k]) = startStep Ps.ps room (startF Ps.ps room pre) k := by unfold startF; rw [List.foldl_append]; rfl
    refine ⟨rfl, rfl, kb.1.cm sb.2.1 (by decide) (by decide) (by decide), sb.1.cm kb.2.1 (by decide) (by decide) (by decide), ?_⟩
    refine dIf (fun c => ?_) (fun c => ?_)
    · refine ⟨⟨Ps, k.1, k.2, kb.1.mono (by decide), kb.2.1.mono (by decide)⟩, rfl, ceq ⟨topsF Ps.ps k.1 k.2, rfl, hr.cm kb.2.1 (by decide) (by decide) (by decide), ?_⟩, cno⟩
      refine dIf (fun c2 => ?_) (fun c2 => ?_)
      · exact ⟨rfl, sD (.int k.1), sD (.int k.2), by rw [e2]; unfold startStep; rw [if_pos ⟨c, c2⟩]; rfl⟩
      · exact ⟨sD (.int k.1), sD (.int k.2), by rw [e2]; unfold startStep; rw [if_neg (fun z => c2 z.2)]; rfl⟩
    · exact ⟨sD (.int k.1), sD (.int k.2), by rw [e2]; unfold startStep; rw [if_neg (fun z => c z.1)]; rfl⟩
  · rintro τ ⟨o, u, rfl⟩
    have sb := start_bd0 Ps room (K := knotsF Ps.ps) fun _ h => h
    have el : leastF Ps.ps room = if gainF Ps.ps (startF Ps.ps room (knotsF Ps.ps)).1 (startF Ps.ps room (knotsF Ps.ps)).2 = 0 then none else some (lowestF ((startF Ps.ps room (knotsF Ps.ps)).1 * gainF Ps.ps (startF Ps.ps room (knotsF Ps.ps)).1 (startF Ps.ps room (knotsF Ps.ps)).2 + room * (startF Ps.ps room (knotsF Ps.ps)).2 - (topsF Ps.ps (startF Ps.ps room (knotsF Ps.ps)).1 (startF Ps.ps room (knotsF Ps.ps)).2).sum) ((startF Ps.ps room (knotsF Ps.ps)).2 * gainF Ps.ps (startF Ps.ps room (knotsF Ps.ps)).1 (startF Ps.ps room (knotsF Ps.ps)).2)) := rfl
    generalize startF Ps.ps room (knotsF Ps.ps) = s at sb el
    obtain ⟨b1, b2, b3⟩ := sb
    refine ⟨⟨Ps, s.1, s.2, b1.mono (by decide), b2.mono (by decide)⟩, rfl, ceq ?_, cno⟩
    refine dIf (fun c => ?_) (fun c => ?_)
    · show D.non = optP (leastF Ps.ps room)
      rw [el, if_pos c]; rfl
    · have g := gain_bd Ps s.1 s.2
      obtain ⟨a1, a2, a3⟩ := least_args hr ⟨b1, b2, b3⟩ c
      refine ⟨b1.cm g (by decide) (by decide) (by decide), hr.cm b2 (by decide) (by decide) (by decide), ⟨Ps, s.1, s.2, b1.mono (by decide), b2.mono (by decide)⟩, rfl, ceq ⟨topsF Ps.ps s.1 s.2, rfl, b2.cm g (by decide) (by decide) (by decide), ⟨(_, _), a3, a2.mono (by decide)⟩, rfl, ceq ?_, cno⟩, cno⟩
      show pairD _ = optP (leastF Ps.ps room)
      rw [el, if_neg c]; rfl
abbrev s_mirrored : Stmt := top 17
theorem sc_mirrored : FnScope ["parts", "base", "weight", "lo", "hi"] ["parts"] (defScope s_mirrored) := ⟨rfl, rfl, rfl, by decide +kernel, rfl, by decide +kernel, by decide +kernel⟩
theorem ok_mirrored {f : Addr} {fd : FuncData} (F : Fun K "mirrored" "mirrored" s_mirrored f fd) (hm : mg "mirrored" = some (.ref f)) (hb : Binds K fd ["parts"] []) (T : Txt K mg cBP cBL cPE) (h_times : DFn P w K mg base 1 "times" ["number", "many"] phi_times) : DFn P w K mg base 2 "mirrored" ["parts"] phi_mirrored := by
  refine okD F sc_mirrored hm hb (gSp_len fun a => by first | rfl | (cases a <;> rfl)) (fun cdv A outer s H E pa G hr => ⟨_, (dss_one (ds_ret (de_of (do_lc (own := [("base", 1), ("weight", 2), ("lo", 3), ("hi", 4)]) rfl sc_mirrored.nd (di_seq (dv 0)) (blkOk_by (own := [("base", 1), ("weight", 2), ("lo", 3), ("hi", 4)]) (N := ["parts", "base", "weight", "lo", "hi"]) (sc := defScope s_mirrored) (by decide +kernel)) (by decide) (fun _ _ _ _ _ => (dg_tup (n := 4) rfl (dgs_cons (dg_name (i := 1) sc_mirrored.nd rfl (.inl rfl)) (dgs_cons (dg_name (i := 2) sc_mirrored.nd rfl (.inl rfl)) (dgs_cons (dg_name (i := 3) sc_mirrored.nd rfl (.inl rfl)) (dgs_cons (dg_name (i := 4) sc_mirrored.nd rfl (.inl rfl)) dgs_nil)))))) (fun _ _ _ _ _ => dts_nil) (fun _ _ _ _ _ => (de_tup (da_cons (de_neg (dv 1)) (da_cons (dv 2) (da_cons (de_call h_times (hr.mono (by decide)) (da_cons (dv 4) (da_cons (de_neg de_int) da_nil))) (da_cons (de_neg (dv 3)) da_nil)))))))))), gSp_go fun a => ?_⟩)
  obtain ⟨Ps, ls, len⟩ := a
  refine lc_map (enc := ptD) (xs := Ps.ps) (fun p => ptD (mirF p)) rfl (small1000u (by omega)) (fun p hp => ?_) ?_
  · obtain ⟨x, hx⟩ := ls p hp
    have B := Ps.ok p hp
    obtain ⟨b, w, l, u⟩ := p
    dsimp only at hx
    subst hx
    refine ⟨rfl, rfl, ⟨(u, -1), B.h.up, (bd1 : Bd 400 1).neg⟩, rfl, ceq ?_, cno⟩
    have e : ∀ u : Option Int, timesF u (-1) = u.map fun x => -x := fun u => by
      cases u with
      | none => rfl
      | some y => show some (y * (-1)) = some (-y); rw [Int.mul_neg, Int.mul_one]
    refine ⟨by show 4 ≤ sizeLine; decide, ?_⟩
    show D.tup [.int (-b), .int w, optD (timesF u (-1)), .int (-x)] = ptD (mirF ⟨b, w, some x, u⟩)
    rw [e u]; rfl
  · show D.lst (Ps.ps.map fun p => ptD (mirF p)) = D.lst ((Ps.ps.map mirF).map ptD)
    rw [List.map_map]; rfl
abbrev s_ratio_of : Stmt := top 18
theorem sc_ratio_of : FnScope ["parts", "room", "now", "ratio"] ["parts", "room"] (defScope s_ratio_of) := ⟨rfl, rfl, rfl, by decide +kernel, rfl, by decide +kernel, by decide +kernel⟩
theorem ok_ratio_of {f : Addr} {fd : FuncData} (F : Fun K "ratio_of" "ratio_of" s_ratio_of f fd) (hm : mg "ratio_of" = some (.ref f)) (hb : Binds K fd ["parts", "room"] []) (T : Txt K mg cBP cBL cPE) (h_tops_at : DFn P w K mg base 2 "tops_at" ["parts", "top", "low"] phi_tops_at) (h_least_ratio : DFn P w K mg base 3 "least_ratio" ["parts", "room"] phi_least_ratio) (h_mirrored : DFn P w K mg base 2 "mirrored" ["parts"] phi_mirrored) : DFn P w K mg base 4 "ratio_of" ["parts", "room"] phi_ratio_of := by
  refine okD F sc_ratio_of hm hb (gSp_len fun a => by first | rfl | (cases a <;> rfl)) (fun cdv A outer s H E pa G hr => ⟨_, (dss_cons (ds_set (i := 2) sc_ratio_of.nd rfl (.inl rfl) (de_sum T.sum (da_cons (de_call h_tops_at (hr.mono (by decide)) (da_cons (dv 0) (da_cons de_int (da_cons de_int da_nil)))) da_nil)))
      (dss_cons (ds_if (dt_eq hr.units (dv 2) (dv 1))
        (dss_one (ds_ret (de_tup (da_cons de_int (da_cons de_int da_nil)))))
        dss_nil)
      (dss_cons (ds_if (dt_lt (dv 2) (dv 1))
        (dss_one (ds_ret (de_call h_least_ratio (hr.mono (by decide)) (da_cons (dv 0) (da_cons (dv 1) da_nil)))))
        dss_nil)
      (dss_cons (ds_set (i := 3) sc_ratio_of.nd rfl (.inl rfl) (de_call h_least_ratio (hr.mono (by decide)) (da_cons (de_call h_mirrored (hr.mono (by decide)) (da_cons (dv 0) da_nil)) (da_cons (de_neg (dv 1)) da_nil))))
      (dss_one (ds_ret (de_if (dt_isN (dv 3)) de_non (de_tup (da_cons (de_neg (de_ixV 3 de_int)) (da_cons (de_ixV 3 de_int) da_nil)))))))))), gSp_go fun a => ?_⟩)
  obtain ⟨⟨Ps, ls, len⟩, room, hr⟩ := a
  refine ⟨⟨Ps, 0, 1, bd0 _, bd1⟩, rfl, ceq ⟨topsF Ps.ps 0 1, rfl, ?_⟩, cno⟩
  have e : LR.ratio ⟨⟨Ps, ls, len⟩, room, hr⟩ = ratioF Ps.ps room := rfl
  refine dIf (fun c => ?_) (fun c => ?_)
  · refine ⟨by show 2 ≤ sizeLine; decide, ?_⟩
    show pairD (0, 1) = optP _
    rw [e]; unfold ratioF; rw [if_pos c]; rfl
  · refine dIf (fun c2 => ?_) (fun c2 => ?_)
    · refine ⟨⟨Ps, room, hr⟩, rfl, ceq ?_, cno⟩
      show optP (leastF Ps.ps room) = optP _
      rw [e]; unfold ratioF; rw [if_neg c, if_pos c2]
    · refine ⟨⟨Ps, ls, len⟩, rfl, ceq ⟨⟨Parts.mir Ps, -room, hr.neg⟩, rfl, ceq ?_, cno⟩, cno⟩
      have e2 : ratioF Ps.ps room = (leastF (Parts.mir Ps).ps (-room)).map fun r => (-r.1, r.2) := by
        unfold ratioF; rw [if_neg c, if_neg c2]; rfl
      cases h : leastF (Parts.mir Ps).ps (-room) with
      | none =>
        show D.non = optP _
        rw [e, e2, h]; rfl
      | some r =>
        refine ⟨rfl, _, rfl, rfl, _, rfl, by show 2 ≤ sizeLine; decide, ?_⟩
        show pairD (-r.1, r.2) = optP _
        rw [e, e2, h]; rfl
abbrev s_ends_of : Stmt := top 19
theorem sc_ends_of : FnScope ["parts", "room", "base", "weight", "lo", "hi"] ["parts", "room"] (defScope s_ends_of) := ⟨rfl, rfl, rfl, by decide +kernel, rfl, by decide +kernel, by decide +kernel⟩
theorem ok_ends_of {f : Addr} {fd : FuncData} (F : Fun K "ends_of" "ends_of" s_ends_of f fd) (hm : mg "ends_of" = some (.ref f)) (hb : Binds K fd ["parts", "room"] []) (T : Txt K mg cBP cBL cPE) (h_tops_at : DFn P w K mg base 2 "tops_at" ["parts", "top", "low"] phi_tops_at) (h_cut : DFn P w K mg base 1 "cut" ["number", "lo", "hi"] phi_cut) : DFn P w K mg base 3 "ends_of" ["parts", "room"] phi_ends_of := by
  refine okD F sc_ends_of hm hb (gSp_len fun a => by first | rfl | (cases a <;> rfl)) (fun cdv A outer s H E pa G hr => ⟨_, (dss_cons (ds_if (dt_lt (de_sum T.sum (da_cons (de_call h_tops_at (hr.mono (by decide)) (da_cons (dv 0) (da_cons de_int (da_cons de_int da_nil)))) da_nil)) (dv 1))
        (dss_one (ds_ret (de_of (do_lc (own := [("base", 2), ("weight", 3), ("lo", 4), ("hi", 5)]) rfl sc_ends_of.nd (di_seq (dv 0)) (blkOk_by (own := [("base", 2), ("weight", 3), ("lo", 4), ("hi", 5)]) (N := ["parts", "room", "base", "weight", "lo", "hi"]) (sc := defScope s_ends_of) (by decide +kernel)) (by decide) (fun _ _ _ _ _ => (dg_tup (n := 4) rfl (dgs_cons (dg_name (i := 2) sc_ends_of.nd rfl (.inl rfl)) (dgs_cons (dg_name (i := 3) sc_ends_of.nd rfl (.inl rfl)) (dgs_cons (dg_name (i := 4) sc_ends_of.nd rfl (.inl rfl)) (dgs_cons (dg_name (i := 5) sc_ends_of.nd rfl (.inl rfl)) dgs_nil)))))) (fun _ _ _ _ _ => dts_nil) (fun _ _ _ _ _ => (de_if (dt_gt (dv 3) de_int) (dv 5) (de_call h_cut (hr.mono (by decide)) (da_cons (dv 2) (da_cons (dv 4) (da_cons (dv 5) da_nil))))))))))
        dss_nil)
      (dss_one (ds_ret (de_of (do_lc (own := [("base", 2), ("weight", 3), ("lo", 4), ("hi", 5)]) rfl sc_ends_of.nd (di_seq (dv 0)) (blkOk_by (own := [("base", 2), ("weight", 3), ("lo", 4), ("hi", 5)]) (N := ["parts", "room", "base", "weight", "lo", "hi"]) (sc := defScope s_ends_of) (by decide +kernel)) (by decide) (fun _ _ _ _ _ => (dg_tup (n := 4) rfl (dgs_cons (dg_name (i := 2) sc_ends_of.nd rfl (.inl rfl)) (dgs_cons (dg_name (i := 3) sc_ends_of.nd rfl (.inl rfl)) (dgs_cons (dg_name (i := 4) sc_ends_of.nd rfl (.inl rfl)) (dgs_cons (dg_name (i := 5) sc_ends_of.nd rfl (.inl rfl)) dgs_nil)))))) (fun _ _ _ _ _ => dts_nil) (fun _ _ _ _ _ => (de_if (dt_gt (dv 3) de_int) (dv 4) (de_call h_cut (hr.mono (by decide)) (da_cons (dv 2) (da_cons (dv 4) (da_cons (dv 5) da_nil))))))))))), gSp_go fun a => ?_⟩)
  obtain ⟨⟨Ps, ls, len⟩, room, hr⟩ := a
  refine ⟨⟨Ps, 0, 1, bd0 _, bd1⟩, rfl, ceq ⟨topsF Ps.ps 0 1, rfl, ?_⟩, cno⟩
  refine dIf (fun c => ?_) (fun c => ?_)
  · refine lc_map (enc := ptD) (xs := Ps.ps) (fun p => optD (mostOf p)) rfl (small1000u (by omega)) (fun p hp => ?_) ?_
    · refine ⟨rfl, rfl, dIf (fun c2 => ?_) (fun c2 => ?_)⟩
      · show optD p.h = optD (mostOf p)
        unfold mostOf; rw [if_pos c2]
      · refine ⟨(p.b, p.l, p.h), rfl, ceq ?_, cno⟩
        show D.int (cutF p.b p.l p.h) = optD (mostOf p)
        unfold mostOf; rw [if_neg c2]; rfl
    · show D.lst (Ps.ps.map fun p => optD (mostOf p)) = D.lst ((endsF Ps.ps room).map optD)
      unfold endsF; rw [if_pos c, List.map_map]; rfl
  · refine lc_map (enc := ptD) (xs := Ps.ps) (fun p => optD (leastOf p)) rfl (small1000u (by omega)) (fun p hp => ?_) ?_
    · refine ⟨rfl, rfl, dIf (fun c2 => ?_) (fun c2 => ?_)⟩
      · show optD p.l = optD (leastOf p)
        unfold leastOf; rw [if_pos c2]
      · refine ⟨(p.b, p.l, p.h), rfl, ceq ?_, cno⟩
        show D.int (cutF p.b p.l p.h) = optD (leastOf p)
        unfold leastOf; rw [if_neg c2]; rfl
    · show D.lst (Ps.ps.map fun p => optD (leastOf p)) = D.lst ((endsF Ps.ps room).map optD)
      unfold endsF; rw [if_neg c, List.map_map]; rfl
end
end K56
namespace K56
open PySem PySem.Spec PyProof.Rows L2 DL KM
section
variable {P : Program} {w : World} {K : PySem.W.Frag} {mg : Str → Option Value} {base : Heap} {cBP cBL cPE : Addr}
abbrev s_whole_sizes : Stmt := top 20
theorem sc_whole_sizes : FnScope ["tops", "low", "found", "ahead", "top"] ["tops", "low"] (defScope s_whole_sizes) := ⟨rfl, rfl, rfl, by decide +kernel, rfl, by decide +kernel, by decide +kernel⟩
theorem ok_whole_sizes {f : Addr} {fd : FuncData} (F : Fun K "whole_sizes" "whole_sizes" s_whole_sizes f fd) (hm : mg "whole_sizes" = some (.ref f)) (hb : Binds K fd ["tops", "low"] []) (T : Txt K mg cBP cBL cPE)  : DFn P w K mg base 1 "whole_sizes" ["tops", "low"] phi_whole_sizes := by
  refine okD F sc_whole_sizes hm hb (gSp_len fun a => by first | rfl | (cases a <;> rfl)) (fun cdv A outer s H E pa G hr => ⟨_, (dss_cons (ds_setO (i := 2) sc_whole_sizes.nd rfl (.inl rfl) (do_lst da_nil))
      (dss_cons (ds_set (i := 3) sc_whole_sizes.nd rfl (.inl rfl) de_int)
      (dss_cons (ds_for (passes_of rfl) rfl (di_seq (dv 0)) (dg_name (i := 4) sc_whole_sizes.nd rfl (.inl rfl))
        (dss_cons (ds_append 2 (de_sub (de_div (de_add (dv 3) (dv 4)) (dv 1)) (de_div (dv 3) (dv 1))))
        (dss_one (ds_set (i := 3) sc_whole_sizes.nd rfl (.inl rfl) (de_add (dv 3) (dv 4))))))
      (dss_one (ds_ret (dv 2)))))), gSp_go fun a => ?_⟩)
  obtain ⟨ts, low, len, pos, hl⟩ := a
  have hd : ∀ x : Int, CDivW x low := fun x => wide_div (by omega) hl (by decide) (by decide)
  have hs : ∀ (l : List Int) (t : Int) (ahead : Int), wholesFrom low ahead (l ++ [t]) = wholesFrom low ahead l ++ [(ahead + l.sum + t) / low - (ahead + l.sum) / low] := fun l => by
    induction l with
    | nil => intro t ahead; simp [wholesFrom]
    | cons y l ih => intro t ahead; rw [List.cons_append, wholesFrom, wholesFrom, ih, List.sum_cons, List.cons_append, Int.add_assoc ahead y]
  refine ⟨Nat.zero_le _, for_pre (enc := D.int) (xs := ts) (fun pre τ => ∃ v, τ = [sD (.lst (ts.map D.int)), sD (.int low), oD ((wholesFrom low 0 pre).map D.int), sD (.int pre.sum), v]) rfl ⟨none, rfl⟩ ?_ ?_⟩
  · rintro pre t post τ e ⟨v, rfl⟩
    have hl2 : (wholesFrom low 0 pre).length < sizeLine := by
      have : ∀ (l : List Int) (a : Int), (wholesFrom low a l).length = l.length := fun l => by
        induction l with
        | nil => intro a; rfl
        | cons y l ih => intro a; rw [wholesFrom, List.length_cons, List.length_cons, ih]
      rw [this, sizeLine_eq]
      rw [e, List.length_append, List.length_cons] at len
      omega
    refine ⟨⟨_, rfl⟩, hd _, hd _, _, rfl, by rw [List.length_map]; exact hl2, sD (.int t), ?_⟩
    have e2 := hs pre t 0
    rw [Int.zero_add] at e2
    have e3 : (pre ++ [t]).sum = pre.sum + t := by simp
    rw [e2, e3, List.map_append]; rfl
  · rintro τ ⟨v, rfl⟩
    exact rfl
abbrev s_sizes_at : Stmt := top 21
theorem sc_sizes_at : FnScope ["parts", "room", "ratio"] ["parts", "room", "ratio"] (defScope s_sizes_at) := ⟨rfl, rfl, rfl, by decide +kernel, rfl, by decide +kernel, by decide +kernel⟩
theorem ok_sizes_at {f : Addr} {fd : FuncData} (F : Fun K "sizes_at" "sizes_at" s_sizes_at f fd) (hm : mg "sizes_at" = some (.ref f)) (hb : Binds K fd ["parts", "room", "ratio"] []) (T : Txt K mg cBP cBL cPE) (h_ends_of : DFn P w K mg base 3 "ends_of" ["parts", "room"] phi_ends_of) (h_whole_sizes : DFn P w K mg base 1 "whole_sizes" ["tops", "low"] phi_whole_sizes) (h_tops_at : DFn P w K mg base 2 "tops_at" ["parts", "top", "low"] phi_tops_at) : DFn P w K mg base 4 "sizes_at" ["parts", "room", "ratio"] phi_sizes_at := by
  refine okD F sc_sizes_at hm hb (gSp_len fun a => by first | rfl | (cases a <;> rfl)) (fun cdv A outer s H E pa G hr => ⟨_, (dss_cons (ds_if (dt_isN (dv 2))
        (dss_one (ds_ret (de_call h_ends_of (hr.mono (by decide)) (da_cons (dv 0) (da_cons (dv 1) da_nil)))))
        dss_nil)
      (dss_one (ds_ret (de_call h_whole_sizes (hr.mono (by decide)) (da_cons (de_call h_tops_at (hr.mono (by decide)) (da_cons (dv 0) (da_cons (de_ixV 2 de_int) (da_cons (de_ixV 2 de_int) da_nil)))) (da_cons (de_ixV 2 de_int) da_nil)))))), gSp_go fun a => ?_⟩)
  obtain ⟨⟨⟨Ps, ls, len⟩, room, hr⟩, r, hb⟩ := a
  cases r with
  | none => exact ⟨⟨⟨Ps, ls, len⟩, room, hr⟩, rfl, ceq rfl, cno⟩
  | some r =>
    have B := hb r rfl
    exact ⟨rfl, _, rfl, rfl, _, rfl, ⟨Ps, r.1, r.2, B.a.mono (by decide), B.c.mono (by decide)⟩, rfl, ceq ⟨rfl, _, rfl, ⟨topsF Ps.ps r.1 r.2, r.2, by unfold topsF; rw [List.length_map]; omega, B.pos, B.c.mono (by decide)⟩, rfl, ceq rfl, cno⟩, cno⟩
abbrev s_shares : Stmt := top 22
theorem sc_shares : FnScope ["parts", "room", "ratio"] ["parts", "room"] (defScope s_shares) := ⟨rfl, rfl, rfl, by decide +kernel, rfl, by decide +kernel, by decide +kernel⟩
theorem ok_shares {f : Addr} {fd : FuncData} (F : Fun K "shares" "shares" s_shares f fd) (hm : mg "shares" = some (.ref f)) (hb : Binds K fd ["parts", "room"] []) (T : Txt K mg cBP cBL cPE) (h_check_parts : DFn P w K mg base 3 "check_parts" ["parts", "room"] (phi_check_parts cBP)) (h_ratio_of : DFn P w K mg base 4 "ratio_of" ["parts", "room"] phi_ratio_of) (h_sizes_at : DFn P w K mg base 4 "sizes_at" ["parts", "room", "ratio"] phi_sizes_at) : DFn P w K mg base 5 "shares" ["parts", "room"] (phi_shares cBP) := by
  refine okD F sc_shares hm hb (gSp_len fun a => by first | rfl | (cases a <;> rfl)) (fun cdv A outer s H E pa G hr => ⟨_, (dss_cons (ds_expr (de_callX h_check_parts (hr.mono (by decide)) (takes_of rfl rfl rfl rfl) (da_cons (dv 0) (da_cons (dv 1) da_nil))))
      (dss_cons (ds_set (i := 2) sc_shares.nd rfl (.inl rfl) (de_call h_ratio_of (hr.mono (by decide)) (da_cons (dv 0) (da_cons (dv 1) da_nil))))
      (dss_one (ds_ret (de_tup (da_cons (de_call h_sizes_at (hr.mono (by decide)) (da_cons (dv 0) (da_cons (dv 1) (da_cons (dv 2) da_nil)))) (da_cons (dv 2) da_nil))))))), gSp_go fun a => ?_⟩)
  cases a with
  | inr a =>
    obtain ⟨ps, room, np, bad⟩ := a
    exact ⟨⟨(ps, room), np⟩, rfl, fun r hr => absurd hr.1 (by rw [bad]; exact Bool.false_ne_true), fun c hc => hc.2⟩
  | inl a =>
    refine ⟨⟨(a.L.P.d, .int a.room), trivial⟩, rfl, fun r hr => ?_, fun c hc => absurd hc.1 (by rw [ok_parts a]; exact Bool.noConfusion)⟩
    refine ⟨a, rfl, ceq ⟨⟨a, a.ratio, fun x e => ratio_bd a e⟩, rfl, ceq ⟨by show 2 ≤ sizeLine; decide, rfl⟩, cno⟩, cno⟩
end
end K56
namespace K56
open PySem PySem.Spec PyProof.Rows L2 DL KM
section
variable {P : Program} {w : World} {K : PySem.W.Frag} {mg : Str → Option Value} {base : Heap} {cBP cBL cPE : Addr}
abbrev s__law_pool : Stmt := top 24
theorem sc__law_pool : FnScope ["script", "pool", "cell", "rest", "k", "state"] ["script"] (defScope s__law_pool) := ⟨rfl, rfl, rfl, by decide +kernel, rfl, by decide +kernel, by decide +kernel⟩
theorem ok__law_pool {f : Addr} {fd : FuncData} (F : Fun K "_law_pool" "_law_pool" s__law_pool f fd) (hm : mg "_law_pool" = some (.ref f)) (hb : Binds K fd ["script"] []) (T : Txt K mg cBP cBL cPE)  : DFn P w K mg base 1 "_law_pool" ["script"] phi_law_pool := by
  refine okD F sc__law_pool hm hb (gSp_len fun a => by first | rfl | (cases a <;> rfl)) (fun cdv A outer s H E pa G hr => ⟨_, (dss_cons (ds_setO (i := 1) sc__law_pool.nd rfl (.inl rfl) (do_lst da_nil))
      (dss_cons (ds_for (passes_of rfl) rfl (di_seq (dv 0)) (dg_name (i := 2) sc__law_pool.nd rfl (.inl rfl))
        (dss_cons (ds_set (i := 3) sc__law_pool.nd rfl (.inl rfl) (de_mod (de_intc T.int (da_cons (dv 2) da_nil)) (de_pow de_int de_int)))
        (dss_one (ds_if (dt_ge (dv 3) (de_pow de_int de_int))
          (dss_one (ds_for (passes_of rfl) rfl (di_rng1 T.range (da_cons de_int da_nil)) (dg_name (i := 4) sc__law_pool.nd rfl (.inl rfl))
            (dss_cons (ds_append 1 (de_mod (de_intc T.int (da_cons (dv 3) da_nil)) de_int))
            (dss_cons (ds_set (i := 3) sc__law_pool.nd rfl (.inl rfl) (de_intc T.int (da_cons (de_div (dv 3) de_int) da_nil)))
            (dss_one (ds_if (dt_eq hr.units (dv 3) de_int)
              (dss_one ds_break)
              dss_nil))))))
          (dss_one (ds_setO (i := 1) sc__law_pool.nd rfl (.inl rfl) (do_cat (dv 1) (de_of (do_lst (da_cons (de_mod (de_intc T.int (da_cons (dv 3) da_nil)) de_int) (da_cons (de_mod (de_intc T.int (da_cons (de_div (dv 3) de_int) da_nil)) de_int) da_nil)))))))))))
      (dss_cons (ds_set (i := 5) sc__law_pool.nd rfl (.inl rfl) de_int)
      (dss_cons (ds_for (passes_of rfl) rfl (di_seq (dv 0)) (dg_name (i := 2) sc__law_pool.nd rfl (.inl rfl))
        (dss_one (ds_set (i := 5) sc__law_pool.nd rfl (.inl rfl) (de_mod (de_add (de_mul (dv 5) de_int) (de_intc T.int (da_cons (dv 2) da_nil))) de_int))))
      (dss_cons (ds_for (passes_of rfl) rfl (di_rng1 T.range (da_cons de_int da_nil)) (dg_name (i := 4) sc__law_pool.nd rfl (.inl rfl))
        (dss_cons (ds_set (i := 5) sc__law_pool.nd rfl (.inl rfl) (de_mod (de_add (de_mul (dv 5) de_int) de_int) de_int))
        (dss_one (ds_append 1 (de_mod (de_intc T.int (da_cons (de_div (dv 5) de_int) da_nil)) de_int)))))
      (dss_one (ds_ret (dv 1)))))))), gSp_go fun a => ?_⟩)
  obtain ⟨ns, hn⟩ := a
  have lone : ∀ (l : List Int) (c : Int), 60 * (l ++ [c]).length = 60 * l.length + 60 := fun l c => by rw [List.length_append, List.length_singleton, Nat.mul_add]
  refine ⟨Nat.zero_le _, for_pre (enc := D.int) (xs := ns) (fun pre τ => ∃ pl c r k, PG (60 * pre.length) pl ∧ τ = [sD (.scr (ns.map D.int)), oD (pl.map D.int), c, r, k, none]) rfl ⟨[], none, none, none, ⟨fun _ h => (nomatch h), Nat.zero_le _⟩, rfl⟩ ?_ ?_⟩
  · rintro pre c post τ e ⟨pl, v2, v3, v4, hp, rfl⟩
    have hl : pre.length < 63 := by rw [e, List.length_append, List.length_cons] at hn; omega
    refine ⟨⟨by decide, by decide, by decide⟩, (by decide : (0 : Int) < 60 ^ (60 : Nat)), ⟨by decide, by decide, by decide⟩, dIf (fun _ => ?_) (fun _ => ?_)⟩
    · refine ⟨⟨by decide, by decide⟩, for_rng (fun k τ => ∃ pl r v, PG (60 * pre.length + k) pl ∧ τ = [sD (.scr (ns.map D.int)), oD (pl.map D.int), sD (.int c), sD (.int r), v, none]) ⟨pl, _, v4, hp, rfl⟩ ?_ ?_⟩
      · rintro k τ hk ⟨pl, r, v, hp, rfl⟩
        have hk : k < 60 := hk
        refine ⟨⟨_, rfl⟩, (by decide : (0 : Int) < 60), _, rfl, by rw [List.length_map, sizeLine_eq]; have := hp.2; omega, ⟨by decide, by decide⟩, ?_⟩
        have h2 : PG (60 * pre.length + (k + 1)) (pl ++ [r % 60]) := hp.app (PG.mod r)
        refine dIf (fun _ => ?_) (fun _ => ?_)
        · exact ⟨pl ++ [r % 60], sD (.int c), sD (.int (r / 60)), sD (.int (0 + k)), h2.up (by rw [lone]; omega), by rw [List.map_append]; rfl⟩
        · exact ⟨pl ++ [r % 60], r / 60, sD (.int (0 + k)), h2, by rw [List.map_append]; rfl⟩
      · rintro τ ⟨pl, r, v, hp, rfl⟩
        exact ⟨pl, sD (.int c), sD (.int r), v, hp.up (by rw [lone]; exact Nat.le_refl _), rfl⟩
    · refine ⟨(by decide : (0 : Int) < 60), ⟨by decide, by decide⟩, (by decide : (0 : Int) < 60), Nat.le_of_lt (small1000 (by decide : (2 : Nat) ≤ 1000)), ?_⟩
      refine ⟨by rw [List.length_map, sizeLine_eq]; have := hp.2; show pl.length + 2 ≤ _; omega, ?_⟩
      exact ⟨pl ++ ([c % 60 ^ (60 : Nat) % 60] ++ [c % 60 ^ (60 : Nat) / 60 % 60]), sD (.int c), sD (.int (c % 60 ^ (60 : Nat))), v4, (hp.app ((PG.mod _).app (PG.mod _))).up (by rw [lone]; omega), by rw [List.map_append]; rfl⟩
  · rintro τ ⟨pl, v2, v3, v4, hp, rfl⟩
    have hp : PG 3780 pl := hp.up (by omega)
    refine for_pre (enc := D.int) (xs := ns) (fun pre τ => ∃ c r k s, (0 ≤ s ∧ s < 2147483648) ∧ τ = [sD (.scr (ns.map D.int)), oD (pl.map D.int), c, r, k, sD (.int s)]) rfl ⟨v2, v3, v4, 17, by decide, rfl⟩ ?_ ?_
    · rintro pre c post τ e ⟨w2, w3, w4, st, hst, rfl⟩
      refine ⟨?_, (by decide : (0 : Int) < 2147483647), sD (.int c), w3, w4, (st * 31 + c) % 2147483647, by omega, rfl⟩
      exact Bd.cm (a := 40) (b := 40) (by unfold Bd; omega) (by unfold Bd; decide) (by decide) (by decide) (by decide)
    · rintro τ ⟨w2, w3, w4, st, hst, rfl⟩
      refine ⟨⟨by decide, by decide⟩, for_rng (fun k τ => ∃ pl c r v s, PG (3780 + k) pl ∧ k ≤ pl.length ∧ (0 ≤ s ∧ s < 2147483648) ∧ τ = [sD (.scr (ns.map D.int)), oD (pl.map D.int), c, r, v, sD (.int s)]) ⟨pl, w2, w3, w4, st, hp, Nat.zero_le _, hst, rfl⟩ ?_ ?_⟩
      · rintro k τ hk ⟨pl, c, r, v, st, hp, hk2, hst, rfl⟩
        have hk : k < 300 := hk
        refine ⟨Bd.cm (a := 40) (b := 40) (by unfold Bd; omega) (by unfold Bd; decide) (by decide) (by decide) (by decide), (by decide : (0 : Int) < 2147483647), ⟨_, rfl⟩, ⟨by decide, by decide⟩, (by decide : (0 : Int) < 60), _, rfl, by rw [List.length_map, sizeLine_eq]; have := hp.2; omega, ?_⟩
        exact ⟨pl ++ [(st * 48271 + 11) % 2147483647 / 97 % 60], c, r, sD (.int (0 + k)), (st * 48271 + 11) % 2147483647, hp.app (PG.mod _), by rw [List.length_append, List.length_singleton]; omega, by omega, by rw [List.map_append]; rfl⟩
      · rintro τ ⟨pl, c, r, v, st, hp, hk2, hst, rfl⟩
        exact ⟨pl, rfl, hp.1, hk2, hp.2⟩
end
end K56
namespace K56
open PySem PySem.Spec PyProof.Rows L2 DL KM
section
variable {P : Program} {w : World} {K : PySem.W.Frag} {mg : Str → Option Value} {base : Heap} {cBP cBL cPE : Addr}
abbrev s__law_stream : Stmt := top 25
theorem sc__law_stream : FnScope ["script"] ["script"] (defScope s__law_stream) := ⟨rfl, rfl, rfl, by decide +kernel, rfl, by decide +kernel, by decide +kernel⟩
theorem ok__law_stream {f : Addr} {fd : FuncData} (F : Fun K "_law_stream" "_law_stream" s__law_stream f fd) (T : Txt K mg cBP cBL cPE) (h__law_pool : DFn P w K mg base 1 "_law_pool" ["script"] phi_law_pool) : FnOk P w K mg base (L2.CX P w) 2 f fd ["script"] (spStream K) := by
  refine F.okX sc__law_stream (fun vs H Q E h => ?_) (fun cdv A outer s H vs Q E hr h => ?_)
  · obtain ⟨a, ns, rfl, _⟩ := h
    rfl
  · obtain ⟨a, ns, rfl, hS, hn, k⟩ := h
    have sb : SB ⟨K, none, H, H, E⟩ H H := ⟨fun _ _ _ h => h, Same.refl H, fun _ _ h => .inl h, Same.refl H, fun _ e => nomatch e⟩
    have sr := RepAll.start (B := ⟨K, none, H, H, E⟩) sb (vs := [.ref a]) (ds := [.scr (ns.map D.int)]) (.cons (.scr hS (RepAll.ints ns)) .nil)
    refine ⟨_, pss_one (ps_ret (do_cat (B := ⟨K, none, H, H, E⟩) (de_of (do_lst (da_cons de_int da_nil))) (de_call h__law_pool (hr.mono (by decide)) (da_cons (dv 0) da_nil))).pe), ?_⟩
    refine ⟨H, _, [], fits1, sr, ?_⟩
    refine ⟨Nat.le_of_lt (small1000 (by decide : (1 : Nat) ≤ 1000)), ⟨ns, hn⟩, rfl, fun r hr => ?_, cno⟩
    obtain ⟨pl, rfl, p1, p2, p3⟩ := hr
    refine ⟨by rw [sizeLine_eq]; show 1 + (pl.map D.int).length ≤ _; rw [List.length_map]; omega, fun b G' H' C' _ _ s' => ?_⟩
    obtain ⟨b', vs, e1, _, _, h0, hH, ra⟩ := s'.last (x := .ow ([D.int 1] ++ pl.map D.int))
    injection e1 with e1
    subst e1
    have e2 : vs = ((1 :: pl).map V.int) := RepAll.of_ints (ns := 1 :: pl) ra
    exact k b (1 :: pl) H' (fun c o e => s'.sb.keep c o (fun z => nomatch z) e) h0 ⟨by rw [hH, e2], good_stream p1 p2 p3⟩ (by rw [List.length_cons]; omega)

abbrev s__law_pick : Stmt := top 27
theorem sc__law_pick : FnScope ["pool", "many", "place"] ["pool", "many"] (defScope s__law_pick) := ⟨rfl, rfl, rfl, by decide +kernel, rfl, by decide +kernel, by decide +kernel⟩
theorem ok__law_pick {f : Addr} {fd : FuncData} (F : Fun K "_law_pick" "_law_pick" s__law_pick f fd) (T : Txt K mg cBP cBL cPE) : FnOk P w K mg base (L2.CX P w) 1 f fd ["pool", "many"] spPick := by
  refine F.okX sc__law_pick (fun vs H Q E h => ?_) (fun cdv A outer s H vs Q E hr h => ?_)
  · obtain ⟨a, pl, m, rfl, _⟩ := h
    rfl
  · obtain ⟨a, pl, m, rfl, ⟨hH, hg⟩, hm, k⟩ := h
    obtain ⟨p, r, rfl, p1, p2, p3, p4⟩ := hg
    refine ⟨_, pss_cons (ps_set (i := 2) sc__law_pick.nd rfl (.inl rfl) (pe_ix ix_list (pv 0) pe_int (fun _ _ => rfl)))
      (pss_cons (ps_asg (pe_op op_add (pv 2) pe_int) (pg_sub (pv 0) pe_int set_list (fun _ => rfl)) rfl rfl rfl)
      (pss_cons (ps_if (pt_cmpR op_eq (pe_ix ix_list (pv 0) pe_int (fun _ _ => rfl)) (pe_callB call_len_seq rfl T.len PySem.boot_len (pa_cons (pv 0) pa_nil)) (nomark _))
        (pss_one (ps_asg pe_int (pg_sub (pv 0) pe_int set_list (fun _ => rfl)) rfl rfl rfl)) pss_nil)
      (pss_one (ps_ret (pe_op op_mod (pe_callTy call_int1 rfl T.int (by decide +kernel) (pa_cons (pe_ix ix_list (pv 0) (pv 2) (fun _ _ => rfl)) pa_nil)) (pv 1)))))), ?_⟩
    have hx : ∃ x : Int, ∀ q : V, atI (q :: r.map V.int) p = some (.int x) := by
      obtain ⟨j, hj⟩ : ∃ j : Nat, p = ((j + 1 : Nat) : Int) := ⟨p.toNat - 1, by omega⟩
      have hjr : j < r.length := by rw [List.length_cons] at p2; omega
      refine ⟨r[j], fun q => ?_⟩
      rw [hj]
      refine atI_nat ?_
      rw [List.getElem?_cons_succ, List.getElem?_map, List.getElem?_eq_getElem hjr]; rfl
    obtain ⟨x, hx⟩ := hx
    have hk : ∀ (q : Int) (H1 : Hp), But H a H1 → H1 a = some (.lst (.int q :: r.map V.int)) → 1 ≤ q → q < (r.length : Int) + 1 → Q (.int (x % m)) H1 := fun q H1 h1 h2 h3 h4 =>
      k (q :: r) (x % m) H1 h1 ⟨h2, q, r, rfl, h3, by rw [List.length_cons]; omega, p3, p4⟩ rfl (Int.emod_nonneg _ (by omega)) (Int.emod_lt_of_pos _ hm)
    rw [List.length_cons] at p2
    refine ⟨_, rfl, a, _, 0, .int p, rfl, rfl, SqL.of hH, atI_nat (j := 0) rfl, ?_⟩
    refine ⟨_, rfl, _, _, rfl, rfl, _, rfl, a, _, 0, 0, rfl, rfl, hH, ixN0 (by simp), ?_⟩
    refine ⟨_, rfl, a, _, 0, .int (p + 1), rfl, rfl, SqL.of upd_same, atI_nat (j := 0) rfl, _, rfl, a, _, rfl, .inl (SqL.of upd_same), rfl, _, rfl, ?_⟩
    have hb : But H a (upd H a (.lst (((p :: r).map V.int).set 0 (.int (p + 1))))) := (But.refl H a).upd
    refine ite2 (fun c => ?_) (fun c => ?_)
    · refine ⟨_, rfl, a, _, 0, 0, rfl, rfl, upd_same, ixN0 (by simp), ?_⟩
      exact ⟨_, rfl, _, rfl, a, _, p, .int x, rfl, rfl, SqL.of upd_same, hx _, .inl ⟨x, rfl, _, rfl, _, _, rfl, rfl, hm, hk 1 _ hb.upd upd_same (by decide) (by omega)⟩⟩
    · have c' : ¬ (p + 1 = (r.length : Int) + 1) := fun z => c (decide_eq_true (by rw [z]; simp))
      exact ⟨_, rfl, _, rfl, a, _, p, .int x, rfl, rfl, SqL.of upd_same, hx _, .inl ⟨x, rfl, _, rfl, _, _, rfl, rfl, hm, hk (p + 1) _ hb upd_same (by omega) (by omega)⟩⟩

abbrev s__law_longer : Stmt := top 26
theorem sc__law_longer : FnScope ["pool", "many", "state", "one", "k"] ["pool", "many"] (defScope s__law_longer) := ⟨rfl, rfl, rfl, by decide +kernel, rfl, by decide +kernel, by decide +kernel⟩
theorem ok__law_longer {f : Addr} {fd : FuncData} (F : Fun K "_law_longer" "_law_longer" s__law_longer f fd) (T : Txt K mg cBP cBL cPE) : FnOk P w K mg base (L2.CX P w) 1 f fd ["pool", "many"] spLonger := by
  refine F.okX sc__law_longer (fun vs H Q E h => ?_) (fun cdv A outer s H vs Q E hr h => ?_)
  · obtain ⟨a, pl, m, rfl, _⟩ := h
    rfl
  · obtain ⟨a, pl, m, rfl, ⟨hH, hg⟩, hm, hz, k⟩ := h
    refine ⟨_, pss_cons (ps_set (i := 2) sc__law_longer.nd rfl (.inl rfl) pe_int)
      (pss_cons (ps_for (passes_of rfl) rfl (pi_list (pv 0)) (pg_name (i := 3) sc__law_longer.nd rfl (.inl rfl))
        (pss_one (ps_set (i := 2) sc__law_longer.nd rfl (.inl rfl) (pe_op op_mod (pe_callTy call_int1 rfl T.int (by decide +kernel) (pa_cons (pe_op op_add (pe_op op_add (pe_op op_mul (pv 2) pe_int) (pv 3)) pe_int) pa_nil)) pe_int))))
      (pss_cons (ps_for (passes_of rfl) rfl (pi_range1 rfl T.range (pa_cons (pv 1) pa_nil)) (pg_name (i := 4) sc__law_longer.nd rfl (.inl rfl))
        (pss_cons (ps_set (i := 2) sc__law_longer.nd rfl (.inl rfl) (pe_op op_mod (pe_callTy call_int1 rfl T.int (by decide +kernel) (pa_cons (pe_op op_add (pe_op op_mul (pv 2) pe_int) pe_int) pa_nil)) pe_int))
        (pss_one (ps_expr (pe_bm PySem.F.plainAttrs_list PySem.F.slot_list_append PySem.F.type_list_append mt_append (pv 0) (pa_cons (pe_op op_mod (pe_callTy call_int1 rfl T.int (by decide +kernel) (pa_cons (pe_op op_fdivW (pv 2) pe_int) pa_nil)) pe_int) pa_nil))))))
      (pss_one (ps_ret (pv 0))))), ?_⟩
    refine ⟨_, rfl, a, rfl, ⟨_, SqL.of hH⟩, for_list (K := K) (a := a) (xs := pl.map V.int) (fun i σ H' => H' = H ∧ ∃ s v, (0 ≤ s ∧ s < 2147483648) ∧ σ = [some (.ref a), some (.int m), some (.int s), v, none]) ⟨rfl, 1, none, by decide, rfl⟩ (fun i σ H' _ ⟨e, _⟩ => by rw [e]; exact SqL.of hH) ?_ ?_⟩
    · rintro i y σ H' hi ⟨rfl, st, v, hs, rfl⟩
      obtain ⟨u, rfl⟩ : ∃ u, y = V.int u := by
        rw [List.getElem?_map] at hi
        cases e : pl[i]? with
        | none => rw [e] at hi; cases hi
        | some u => rw [e] at hi; exact ⟨u, (Option.some.inj hi).symm⟩
      refine ⟨_, rfl, _, _, rfl, rfl, .inl (by omega), _, rfl, _, _, rfl, rfl, _, _, rfl, rfl, .inl ⟨_, rfl, _, _, rfl, rfl, (by decide : (0 : Int) < 2147483647), ?_⟩⟩
      exact ⟨rfl, (st * 69621 + u + 7) % 2147483647, some (.int u), by omega, rfl⟩
    · rintro σ H' ⟨rfl, st, v, hs, rfl⟩
      refine ⟨_, rfl, m, rfl, by omega, by omega, for_range (lo := 0) (n := m.toNat) (fun i σ H1 => But H' a H1 ∧ ∃ (s : Int) (v w : Option V) (pl' : List Int), (0 ≤ s ∧ s < 2147483648) ∧ PoolAt H1 a pl' ∧ pl'.length = pl.length + i ∧ σ = [some (.ref a), some (.int m), some (.int s), v, w]) ⟨But.refl _ _, st, v, none, pl, hs, ⟨hH, hg⟩, rfl, rfl⟩ ?_ ?_⟩
      · rintro i σ H1 hi ⟨hb, st, v, w, pl', hs, ⟨g1, g2⟩, hl, rfl⟩
        have hlt : pl'.length < 1000000 := by omega
        refine ⟨_, rfl, _, _, rfl, rfl, .inl (by omega), _, _, rfl, rfl, .inl ⟨_, rfl, _, _, rfl, rfl, (by decide : (0 : Int) < 2147483647), ?_⟩⟩
        refine ⟨_, rfl, .inl ⟨rfl, _, SqL.of g1⟩, _, rfl, _, _, rfl, rfl, ⟨by decide, by decide⟩, .inl ⟨_, rfl, _, _, rfl, rfl, (by decide : (0 : Int) < 60), ?_⟩⟩
        refine ⟨a, _, _, rfl, rfl, g1, by rw [List.length_map, sizeLine_eq]; omega, ?_⟩
        refine ⟨hb.upd, (st * 48271 + 11) % 2147483647, v, some (.int (0 + i)), pl' ++ [(st * 48271 + 11) % 2147483647 / 97 % 60], by omega, ⟨?_, good_app g2 (by omega) (by omega) hlt⟩, by rw [List.length_append, List.length_singleton]; omega, rfl⟩
        rw [upd_same, List.map_append]; rfl
      · rintro σ H1 ⟨hb, st, v, w, pl', hs, g, hl, rfl⟩
        exact ⟨_, rfl, k pl' H1 hb g (by omega)⟩

end
end K56
namespace K56
open PySem PySem.Spec PyProof.Rows L2 DL KM
section
variable {P : Program} {w : World} {K : PySem.W.Frag} {mg : Str → Option Value} {base : Heap} {cBP cBL cPE : Addr}
abbrev s__law_same : Stmt := top 29
theorem sc__law_same : FnScope ["told", "due", "pairs", "turn", "one", "other", "key", "k"] ["told", "due"] (defScope s__law_same) := ⟨rfl, rfl, rfl, by decide +kernel, rfl, by decide +kernel, by decide +kernel⟩
theorem ok__law_same {f : Addr} {fd : FuncData} (F : Fun K "_law_same" "_law_same" s__law_same f fd) (hm : mg "_law_same" = some (.ref f)) (hb : Binds K fd ["told", "due"] []) (T : Txt K mg cBP cBL cPE)  : DFn P w K mg base 1 "_law_same" ["told", "due"] phi_same := by
  refine okD F sc__law_same hm hb (gSp_len fun a => by first | rfl | (cases a <;> rfl)) (fun cdv A outer s H E pa G hr => ⟨_, (dss_cons (ds_setO (i := 2) sc__law_same.nd rfl (.inl rfl) (do_lst (da_cons (de_tup (da_cons (dv 0) (da_cons (dv 1) da_nil))) da_nil)))
      (dss_cons (ds_for (passes_of rfl) rfl (di_rng1 T.range (da_cons (de_pow de_int de_int) da_nil)) (dg_name (i := 3) sc__law_same.nd rfl (.inl rfl))
        (dss_cons (ds_if (dt_eqNil 2 hr.units)
          (dss_one (ds_ret de_bl))
          dss_nil)
        (dss_cons (ds_asg (de_pop 2) (dg_tup (n := 2) rfl (dgs_cons (dg_name (i := 4) sc__law_same.nd rfl (.inr rfl)) (dgs_cons (dg_name (i := 5) sc__law_same.nd rfl (.inr rfl)) dgs_nil))))
        (dss_one (ds_if (dt_isN (dv 5))
          (dss_one (ds_if (dt_notN (dv 4))
            (dss_one (ds_ret de_bl))
            dss_nil))
          (dss_one (ds_if (dt_val (de_isi .bool T.isinstance T.bool (dv 5)))
            (dss_one (ds_if (DW.dt (dw_or (dt_not (dt_val (de_isi .bool T.isinstance T.bool (dv 4)))) (dw_or1 (dt_ne hr.units (dv 4) (dv 5)))))
              (dss_one (ds_ret de_bl))
              dss_nil))
            (dss_one (ds_if (dt_val (de_isi .int T.isinstance T.int (dv 5)))
              (dss_one (ds_if (DW.dt (dw_or (dt_not (dt_val (de_isi .int T.isinstance T.int (dv 4)))) (dw_or (dt_val (de_isi .bool T.isinstance T.bool (dv 4))) (dw_or1 (dt_ne hr.units (dv 4) (dv 5))))))
                (dss_one (ds_ret de_bl))
                dss_nil))
              (dss_one (ds_if (dt_val (de_isi .str T.isinstance T.str (dv 5)))
                (dss_one (ds_if (DW.dt (dw_or (dt_not (dt_val (de_isi .str T.isinstance T.str (dv 4)))) (dw_or1 (dt_ne hr.units (dv 4) (dv 5)))))
                  (dss_one (ds_ret de_bl))
                  dss_nil))
                (dss_one (ds_if (dt_val (de_isi .dict T.isinstance T.dict (dv 5)))
                  dss_never
                  (dss_one (ds_if (DW.dt (dw_or (DW.dt (dw_and (dt_val (de_isi .tuple T.isinstance T.tuple (dv 5))) (dw_and1 (dt_not (dt_val (de_isi .tuple T.isinstance T.tuple (dv 4))))))) (dw_or1 (DW.dt (dw_and (dt_val (de_isi .list T.isinstance T.list (dv 5))) (dw_and1 (dt_not (dt_val (de_isi .list T.isinstance T.list (dv 4))))))))))
                    (dss_one (ds_ret de_bl))
                    (dss_one (ds_if (dt_ne hr.units (de_lenV 4 T.len) (de_lenV 5 T.len))
                      (dss_one (ds_ret de_bl))
                      (dss_one (ds_extend 2 (de_of (do_lc (own := [("k", 7)]) rfl sc__law_same.nd (di_rng1 T.range (da_cons (de_lenV 5 T.len) da_nil)) (blkOk_by (own := [("k", 7)]) (N := ["told", "due", "pairs", "turn", "one", "other", "key", "k"]) (sc := defScope s__law_same) (by decide +kernel)) (by decide) (fun _ _ _ _ _ => (dg_name (i := 7) sc__law_same.nd rfl (.inl rfl))) (fun _ _ _ _ _ => dts_nil) (fun _ _ _ _ _ => (de_tup (da_cons (de_ixV 4 (dv 7)) (da_cons (de_ixV 5 (dv 7)) da_nil)))))))))))))))))))))))))
      (dss_one (ds_ret de_bl)))), gSp_go fun a => ?_⟩)
  obtain ⟨d0, lay, few⟩ := a
  have hN : ((10 : Int) ^ ((7 : Int)).toNat).toNat = 10000000 := by decide
  refine ⟨by show 2 ≤ sizeLine; decide, by show 1 ≤ sizeLine; decide, ⟨by decide, by decide, by decide⟩, ⟨by decide, by decide⟩, for_rng (fun k τ => ∃ ps v3 v4 v5 v6 v7, nds ps + k ≤ 9000000 ∧ ps.all (layB 50) = true ∧ τ = [sD d0, sD d0, oD (ps.map twin), v3, v4, v5, v6, v7]) ⟨[d0], none, none, none, none, none, by show nd d0 + 0 + 0 ≤ _; omega, by show (layB 50 d0 && true) = true; rw [lay]; rfl, rfl⟩ ?_ ?_⟩
  · rintro k τ hk ⟨ps, v3, v4, v5, v6, v7, hs, hl, rfl⟩
    rcases List.eq_nil_or_concat ps with rfl | ⟨qs, d, e0⟩
    · exact ⟨[], rfl, rfl, rfl⟩
    rw [List.concat_eq_append] at e0
    subst e0
    have hsh := pairs_sh hl
    have e : (qs ++ [d]).map twin = qs.map twin ++ [twin d] := by rw [List.map_append]; rfl
    rw [nds_app] at hs
    have hd1 : nds [d] = nd d := Nat.add_zero _
    rw [hd1] at hs
    have hq : qs.all (layB 50) = true ∧ layB 50 d = true := by
      rw [List.all_append, Bool.and_eq_true] at hl
      refine ⟨hl.1, ?_⟩
      have h2 := hl.2
      rw [List.all_cons, Bool.and_eq_true] at h2
      exact h2.1
    rw [e] at hsh ⊢
    refine ⟨_, rfl, hsh, bF (by simp) ?_⟩
    refine ⟨_, _, rfl, rfl, rfl, ?_⟩
    have hp := nd_pos d
    cases d with
    | non => exact ⟨qs, _, _, _, v6, v7, by omega, hq.1, rfl⟩
    | bl b => exact bF (by simp) ⟨qs, _, _, _, v6, v7, by omega, hq.1, rfl⟩
    | int b => exact bF (by simp) ⟨qs, _, _, _, v6, v7, by omega, hq.1, rfl⟩
    | str b => exact bF (by simp) ⟨qs, _, _, _, v6, v7, by omega, hq.1, rfl⟩
    | dct => cases hq.2
    | pool => cases hq.2
    | scr ds => cases hq.2
    | adr ds => cases hq.2
    | lst ds =>
      have hds : ds.length ≤ nds ds := len_nds ds
      have hnd : nd (.lst ds) = 1 + nds ds := rfl
      refine bF (by simp) ?_
      refine ⟨⟨_, rfl⟩, ⟨by have := hds; omega, by have := hds; omega⟩, lc_map (enc := fun k : Nat => .int (0 + (k : Int))) (xs := List.range ds.length) (fun k => twin (ds.getD k .non)) rfl (by rw [List.length_range, sizeLine_eq]; omega) (fun k hk => ?_) ?_⟩
      · exact ⟨rfl, _, atI_range hk, rfl, _, atI_range hk, by show 2 ≤ sizeLine; decide, rfl⟩
      · refine ⟨_, _, rfl, rfl, ?_, qs ++ ds, sD (.int (0 + k)), sD (.lst ds), sD (.lst ds), v6, v7, ?_, ?_, ?_⟩
        · rw [range_twin, List.length_map, List.length_map, sizeLine_eq]; have := len_nds qs; omega
        · rw [nds_app]; omega
        · rw [List.all_append, hq.1, layB_in hq.2]; rfl
        · rw [range_twin, List.map_append]; rfl
    | tup ds =>
      have hds : ds.length ≤ nds ds := len_nds ds
      have hnd : nd (.tup ds) = 1 + nds ds := rfl
      refine bF (by simp) ?_
      refine ⟨⟨_, rfl⟩, ⟨by have := hds; omega, by have := hds; omega⟩, lc_map (enc := fun k : Nat => .int (0 + (k : Int))) (xs := List.range ds.length) (fun k => twin (ds.getD k .non)) rfl (by rw [List.length_range, sizeLine_eq]; omega) (fun k hk => ?_) ?_⟩
      · exact ⟨rfl, _, atI_range hk, rfl, _, atI_range hk, by show 2 ≤ sizeLine; decide, rfl⟩
      · refine ⟨_, _, rfl, rfl, ?_, qs ++ ds, sD (.int (0 + k)), sD (.tup ds), sD (.tup ds), v6, v7, ?_, ?_, ?_⟩
        · rw [range_twin, List.length_map, List.length_map, sizeLine_eq]; have := len_nds qs; omega
        · rw [nds_app]; omega
        · rw [List.all_append, hq.1, layB_inT hq.2]; rfl
        · rw [range_twin, List.map_append]; rfl
  · rintro τ ⟨ps, v3, v4, v5, v6, v7, hs, hl, rfl⟩
    exfalso
    rw [hN] at hs
    omega
abbrev s__law_far : Stmt := top 28
theorem sc__law_far : FnScope ["pool", "many"] ["pool", "many"] (defScope s__law_far) := ⟨rfl, rfl, rfl, by decide +kernel, rfl, by decide +kernel, by decide +kernel⟩
theorem ok__law_far {f : Addr} {fd : FuncData} (F : Fun K "_law_far" "_law_far" s__law_far f fd) (hm : mg "_law_far" = some (.ref f)) (hb : Binds K fd ["pool", "many"] []) (T : Txt K mg cBP cBL cPE) (h__law_pick : DFn P w K mg base 1 "_law_pick" ["pool", "many"] phi_pick) : DFn P w K mg base 2 "_law_far" ["pool", "many"] phi__law_far := by
  refine okD F sc__law_far hm hb (gSp_len fun a => by first | rfl | (cases a <;> rfl)) (fun cdv A outer s H E pa G hr => ⟨_, (dss_one (ds_ret (de_mod (de_intc T.int (da_cons (de_add (de_add (de_mul (de_call h__law_pick (hr.mono (by decide)) (da_cons (dv 0) (da_cons de_int da_nil))) de_int) (de_mul (de_call h__law_pick (hr.mono (by decide)) (da_cons (dv 0) (da_cons de_int da_nil))) de_int)) (de_call h__law_pick (hr.mono (by decide)) (da_cons (dv 0) (da_cons de_int da_nil)))) da_nil)) (dv 1)))), gSp_go fun a => ?_⟩)
  obtain ⟨m, hm⟩ := a
  have h60 : (0 : Int) < 60 := by decide
  refine ⟨⟨60, h60⟩, rfl, fun x hx => ?_, cno⟩
  obtain ⟨x, rfl, x0, x1⟩ := hx
  dsimp only at x1
  refine ⟨Bd.cm (a := 20) (b := 20) (by unfold Bd; omega) (by unfold Bd; decide) (by decide) (by decide) (by decide), ⟨60, h60⟩, rfl, fun y hy => ?_, cno⟩
  obtain ⟨y, rfl, y0, y1⟩ := hy
  dsimp only at y1
  refine ⟨Bd.cm (a := 20) (b := 20) (by unfold Bd; omega) (by unfold Bd; decide) (by decide) (by decide) (by decide), ⟨60, h60⟩, rfl, fun z hz => ?_, cno⟩
  obtain ⟨z, rfl, z0, z1⟩ := hz
  dsimp only at z1
  exact ⟨hm, _, rfl, Int.emod_nonneg _ (by show m ≠ 0; omega), Int.emod_lt_of_pos _ hm⟩
end
end K56
namespace K56
open PySem PySem.Spec PyProof.Rows L2 DL KM
section
variable {P : Program} {w : World} {K : PySem.W.Frag} {mg : Str → Option Value} {base : Heap} {cBP cBL cPE : Addr}
abbrev s__law_part : Stmt := top 30
theorem sc__law_part : FnScope ["pool", "unit", "base", "weight", "lo", "most"] ["pool", "unit"] (defScope s__law_part) := ⟨rfl, rfl, rfl, by decide +kernel, rfl, by decide +kernel, by decide +kernel⟩
theorem ok__law_part {f : Addr} {fd : FuncData} (F : Fun K "_law_part" "_law_part" s__law_part f fd) (hm : mg "_law_part" = some (.ref f)) (hb : Binds K fd ["pool", "unit"] []) (T : Txt K mg cBP cBL cPE) (h__law_pick : DFn P w K mg base 1 "_law_pick" ["pool", "many"] phi_pick) : DFn P w K mg base 2 "_law_part" ["pool", "unit"] phi__law_part := by
  refine okD F sc__law_part hm hb (gSp_len fun a => by first | rfl | (cases a <;> rfl)) (fun cdv A outer s H E pa G hr => ⟨_, (dss_cons (ds_set (i := 2) sc__law_part.nd rfl (.inl rfl) (de_add (de_mul (dv 1) (de_sub (de_call h__law_pick (hr.mono (by decide)) (da_cons (dv 0) (da_cons de_int da_nil))) (de_ix (de_of (do_lst (da_cons de_int (da_cons de_int (da_cons de_int (da_cons de_int da_nil)))))) (de_call h__law_pick (hr.mono (by decide)) (da_cons (dv 0) (da_cons de_int da_nil)))))) (de_call h__law_pick (hr.mono (by decide)) (da_cons (dv 0) (da_cons de_int da_nil)))))
      (dss_cons (ds_set (i := 3) sc__law_part.nd rfl (.inl rfl) (de_ix (de_of (do_lst (da_cons de_int (da_cons de_int (da_cons de_int (da_cons de_int (da_cons de_int (da_cons de_int (da_cons de_int (da_cons de_int (da_cons (de_pow de_int de_int) (da_cons de_int da_nil)))))))))))) (de_call h__law_pick (hr.mono (by decide)) (da_cons (dv 0) (da_cons de_int da_nil)))))
      (dss_cons (ds_set (i := 4) sc__law_part.nd rfl (.inl rfl) (de_add (de_add (dv 2) (de_mul (dv 1) (de_ix (de_of (do_lst (da_cons de_int (da_cons (de_neg de_int) (da_cons (de_neg de_int) (da_cons (de_neg de_int) (da_cons (de_neg de_int) (da_cons de_int (da_cons de_int (da_cons (de_neg de_int) da_nil)))))))))) (de_call h__law_pick (hr.mono (by decide)) (da_cons (dv 0) (da_cons de_int da_nil)))))) (de_ix (de_of (do_lst (da_cons de_int (da_cons de_int (da_cons de_int da_nil))))) (de_call h__law_pick (hr.mono (by decide)) (da_cons (dv 0) (da_cons de_int da_nil))))))
      (dss_cons (ds_set (i := 5) sc__law_part.nd rfl (.inl rfl) (de_call h__law_pick (hr.mono (by decide)) (da_cons (dv 0) (da_cons de_int da_nil))))
      (dss_cons (ds_if (dt_gt (dv 5) de_int)
        (dss_one (ds_ret (de_tup (da_cons (dv 2) (da_cons (dv 3) (da_cons (dv 4) (da_cons de_non da_nil)))))))
        dss_nil)
      (dss_one (ds_ret (de_tup (da_cons (dv 2) (da_cons (dv 3) (da_cons (dv 4) (da_cons (de_add (de_add (dv 4) (de_mul (dv 1) (de_ix (de_of (do_lst (da_cons de_int (da_cons de_int (da_cons de_int (da_cons de_int (da_cons de_int da_nil))))))) (dv 5)))) (de_call h__law_pick (hr.mono (by decide)) (da_cons (dv 0) (da_cons de_int da_nil)))) da_nil)))))))))))), gSp_go fun a => ?_⟩)
  obtain ⟨u, u0, u1⟩ := a
  have hu : Bd 60 u := by unfold Bd; omega
  have mul : ∀ z : Int, -100 ≤ z → z ≤ 100 → CMulW u z ∧ Bd 70 (u * z) := fun z h1 h2 => by
    have hz : Bd 10 z := by unfold Bd; omega
    exact ⟨hu.cm hz (by decide) (by decide) (by decide), hu.mul hz⟩
  have sm : ∀ z : Int, -100 ≤ z → z ≤ 100 → Bd 70 z := fun z h1 h2 => Bd.mono (a := 10) (by unfold Bd; omega) (by decide)
  refine pk (by decide) fun i i0 i1 => ⟨sz, pk (by decide) fun j j0 j1 => ?_⟩
  obtain ⟨z, ez, mz⟩ := at_in (ns := [0, 0, 0, 15]) j0 j1
  have hz : 0 ≤ z ∧ z ≤ 15 := by simp at mz; omega
  obtain ⟨m1, b1⟩ := mul (i - z) (by omega) (by omega)
  refine ⟨_, ez, m1, pk (by decide) fun j j0 j1 => ?_⟩
  have hb : Bd 71 (u * (i - z) + j) := b1.add (sm j (by omega) (by omega))
  refine ⟨⟨by decide, by decide, by decide⟩, sz, pk (by decide) fun k k0 k1 => ?_⟩
  obtain ⟨wt, ew, mw⟩ := at_in (ns := [0, 1, 1, 1, 2, 3, 7, 99, 10 ^ ((9 : Int)).toNat, 0]) k0 k1
  have hw : 0 ≤ wt ∧ wt ≤ 1000000000 := by
    have : (10 : Int) ^ ((9 : Int)).toNat = 1000000000 := by decide
    rw [this] at mw
    simp at mw; omega
  refine ⟨_, ew, sz, pk (by decide) fun k k0 k1 => ?_⟩
  obtain ⟨y, ey, my⟩ := at_in (ns := [0, -1, -3, -9, -25, 2, 5, -60]) k0 k1
  have hy : -60 ≤ y ∧ y ≤ 5 := by simp at my; omega
  obtain ⟨m2, b2⟩ := mul y (by omega) (by omega)
  refine ⟨_, ey, m2, sz, pk (by decide) fun k k0 k1 => ?_⟩
  obtain ⟨y2, ey2, my2⟩ := at_in (ns := [0, 0, 1]) k0 k1
  have hy2 : 0 ≤ y2 ∧ y2 ≤ 1 := by simp at my2; omega
  have hlo : Bd 73 (u * (i - z) + j + u * y + y2) := (hb.add (b2.mono (by decide))).add ((sm y2 (by omega) (by omega)).mono (by decide))
  have hwb : Bd 100 wt := by unfold Bd; omega
  refine ⟨_, ey2, pk (by decide) fun most m0 m1 => ?_⟩
  refine dIf (fun c => ?_) (fun c => ?_)
  · exact ⟨sz, ⟨u * (i - z) + j, wt, some (u * (i - z) + j + u * y + y2), none⟩, rfl, ⟨⟨hw.1, fun _ _ _ h => nomatch h⟩, hb.mono (by decide), hwb, hlo.mono (by decide), trivial⟩, _, rfl⟩
  · refine ⟨sz, ?_⟩
    obtain ⟨y', ey, my⟩ := at_in (ns := [0, 1, 4, 12, 40]) m0 (by show most < 5; omega)
    have hy : 0 ≤ y' ∧ y' ≤ 40 := by simp at my; omega
    obtain ⟨m2, b2⟩ := mul y' (by omega) (by omega)
    refine ⟨_, ey, m2, pk (by decide) fun k k0 k1 => ⟨sz, ⟨u * (i - z) + j, wt, some (u * (i - z) + j + u * y + y2), some (u * (i - z) + j + u * y + y2 + u * y' + k)⟩, rfl, ⟨⟨hw.1, fun a b h1 h2 => ?_⟩, hb.mono (by decide), hwb, hlo.mono (by decide), ?_⟩, _, rfl⟩⟩
    · injection h1 with h1
      injection h2 with h2
      have := Int.mul_nonneg u0 hy.1
      omega
    · exact ((hlo.add (b2.mono (by decide))).add ((sm k (by omega) (by omega)).mono (by decide))).mono (by decide)
abbrev s__law_cut : Stmt := top 31
theorem sc__law_cut : FnScope ["number", "lo", "hi"] ["number", "lo", "hi"] (defScope s__law_cut) := ⟨rfl, rfl, rfl, by decide +kernel, rfl, by decide +kernel, by decide +kernel⟩
theorem ok__law_cut {f : Addr} {fd : FuncData} (F : Fun K "_law_cut" "_law_cut" s__law_cut f fd) (hm : mg "_law_cut" = some (.ref f)) (hb : Binds K fd ["number", "lo", "hi"] []) (T : Txt K mg cBP cBL cPE)  : DFn P w K mg base 1 "_law_cut" ["number", "lo", "hi"] phi__law_cut := by
  refine okD F sc__law_cut hm hb (gSp_len fun a => by first | rfl | (cases a <;> rfl)) (fun cdv A outer s H E pa G hr => ⟨_, (dss_cons (ds_if (DW.dt (dw_and (dt_notN (dv 2)) (dw_and1 (dt_gt (dv 0) (dv 2)))))
        (dss_one (ds_ret (dv 2)))
        dss_nil)
      (dss_one (ds_ret (de_max T.max (da_cons (dv 0) (da_cons (dv 1) da_nil)))))), gSp_go fun a => ?_⟩)
  obtain ⟨⟨n, lo, hi⟩, h⟩ := a
  cases hi with
  | none =>
    show D.int (if lo > n then lo else n) = .int (if n < lo then lo else n)
    rfl
  | some u =>
    have hlu : lo ≤ u := h u rfl
    refine dIf (fun c => ?_) (fun c => ?_)
    · show D.int u = .int (if (if n > u then u else n) < lo then lo else (if n > u then u else n))
      rw [if_pos c, if_neg (by omega)]
    · show D.int (if lo > n then lo else n) = .int (if (if n > u then u else n) < lo then lo else (if n > u then u else n))
      rw [if_neg c]
end
end K56
namespace K56
open PySem PySem.Spec PyProof.Rows L2 DL KM
section
variable {P : Program} {w : World} {K : PySem.W.Frag} {mg : Str → Option Value} {base : Heap} {cBP cBL cPE : Addr}
abbrev s__law_tops : Stmt := top 32
theorem sc__law_tops : FnScope ["parts", "top", "low", "found", "base", "weight", "lo", "hi", "most"] ["parts", "top", "low"] (defScope s__law_tops) := ⟨rfl, rfl, rfl, by decide +kernel, rfl, by decide +kernel, by decide +kernel⟩
theorem ok__law_tops {f : Addr} {fd : FuncData} (F : Fun K "_law_tops" "_law_tops" s__law_tops f fd) (hm : mg "_law_tops" = some (.ref f)) (hb : Binds K fd ["parts", "top", "low"] []) (T : Txt K mg cBP cBL cPE) (h__law_cut : DFn P w K mg base 1 "_law_cut" ["number", "lo", "hi"] phi__law_cut) : DFn P w K mg base 2 "_law_tops" ["parts", "top", "low"] phi__law_tops := by
  refine okD F sc__law_tops hm hb (gSp_len fun a => by first | rfl | (cases a <;> rfl)) (fun cdv A outer s H E pa G hr => ⟨_, (dss_cons (ds_setO (i := 3) sc__law_tops.nd rfl (.inl rfl) (do_lst da_nil))
      (dss_cons (ds_for (passes_of rfl) rfl (di_seq (dv 0)) (dg_tup (n := 4) rfl (dgs_cons (dg_name (i := 4) sc__law_tops.nd rfl (.inl rfl)) (dgs_cons (dg_name (i := 5) sc__law_tops.nd rfl (.inl rfl)) (dgs_cons (dg_name (i := 6) sc__law_tops.nd rfl (.inl rfl)) (dgs_cons (dg_name (i := 7) sc__law_tops.nd rfl (.inl rfl)) dgs_nil)))))
        (dss_cons (ds_set (i := 8) sc__law_tops.nd rfl (.inl rfl) de_non)
        (dss_cons (ds_if (dt_notN (dv 7))
          (dss_one (ds_set (i := 8) sc__law_tops.nd rfl (.inl rfl) (de_mul (dv 7) (dv 2))))
          dss_nil)
        (dss_one (ds_append 3 (de_call h__law_cut (hr.mono (by decide)) (da_cons (de_add (de_mul (dv 4) (dv 2)) (de_mul (dv 5) (dv 1))) (da_cons (de_mul (dv 6) (dv 2)) (da_cons (dv 8) da_nil)))))))))
      (dss_one (ds_ret (dv 3))))), gSp_go fun a => ?_⟩)
  obtain ⟨⟨Ps, ls, len⟩, top, low, h1, h2, pos⟩ := a
  refine ⟨Nat.zero_le _, for_pre (enc := ptD) (xs := Ps.ps) (fun pre τ => ∃ a b c d e, τ = [sD (Ps.d), sD ((.int top)), sD ((.int low)), oD (((topsF pre top low).map D.int)), a, b, c, d, e]) rfl ⟨none, none, none, none, none, rfl⟩ ?_ ?_⟩
  · rintro pre p post τ e ⟨a, b, c, d, v8, rfl⟩
    have hp := Ps.ok p (by rw [e]; simp)
    have hl : pre.length < 1000 := by have := Ps.len; rw [e, List.length_append, List.length_cons] at this; omega
    obtain ⟨x, hx⟩ := ls p (by rw [e]; simp)
    have e2 : (topsF (pre ++ [p]) top low).map D.int = (topsF pre top low).map D.int ++ [.int (topF top low p)] := by unfold topsF; rw [List.map_append, List.map_append]; rfl
    have hlen : ((topsF pre top low).map D.int).length < sizeLine := by rw [List.length_map]; unfold topsF; rw [List.length_map]; exact small1000 (by omega)
    obtain ⟨b', w', l', u⟩ := p
    dsimp only at hx
    subst hx
    have hlo : Bd 100 x := hp.l
    cases u with
    | none =>
      refine ⟨rfl, rfl, ⟨_, rfl⟩, hp.b.cm h2 (by decide) (by decide) (by decide), hp.w.cm h1 (by decide) (by decide) (by decide), hlo.cm h2 (by decide) (by decide) (by decide), ⟨(b' * low + w' * top, x * low, none), fun u h => nomatch h⟩, rfl, ceq ⟨_, rfl, hlen, sD (.int b'), sD (.int w'), sD (.int x), sD .non, sD .non, ?_⟩, cno⟩
      rw [e2]; rfl
    | some u =>
      have hxu : x ≤ u := hp.ok.lh x u rfl rfl
      have hhi : Bd 100 u := hp.h
      refine ⟨rfl, rfl, hhi.cm h2 (by decide) (by decide) (by decide), ⟨_, rfl⟩, hp.b.cm h2 (by decide) (by decide) (by decide), hp.w.cm h1 (by decide) (by decide) (by decide), hlo.cm h2 (by decide) (by decide) (by decide), ⟨(b' * low + w' * top, x * low, some (u * low)), fun v h => by injection h with h; subst h; exact Int.mul_le_mul_of_nonneg_right hxu (Int.le_of_lt pos)⟩, rfl, ceq ⟨_, rfl, hlen, sD (.int b'), sD (.int w'), sD (.int x), sD (.int u), sD (.int (u * low)), ?_⟩, cno⟩
      rw [e2]; rfl
  · rintro τ ⟨a, b, c, d, e, rfl⟩
    exact rfl
abbrev s__law_wholes : Stmt := top 33
theorem sc__law_wholes : FnScope ["tops", "low", "found", "ahead", "top"] ["tops", "low"] (defScope s__law_wholes) := ⟨rfl, rfl, rfl, by decide +kernel, rfl, by decide +kernel, by decide +kernel⟩
theorem ok__law_wholes {f : Addr} {fd : FuncData} (F : Fun K "_law_wholes" "_law_wholes" s__law_wholes f fd) (hm : mg "_law_wholes" = some (.ref f)) (hb : Binds K fd ["tops", "low"] []) (T : Txt K mg cBP cBL cPE)  : DFn P w K mg base 1 "_law_wholes" ["tops", "low"] phi__law_wholes := by
  refine okD F sc__law_wholes hm hb (gSp_len fun a => by first | rfl | (cases a <;> rfl)) (fun cdv A outer s H E pa G hr => ⟨_, (dss_cons (ds_par2 (i := 2) (j := 3) rfl sc__law_wholes.nd rfl rfl (by decide) rfl rfl (dm_o (do_lst da_nil) (dm_e de_int dm_nil)) rfl)
      (dss_cons (ds_for (passes_of rfl) rfl (di_seq (dv 0)) (dg_name (i := 4) sc__law_wholes.nd rfl (.inl rfl))
        (dss_cons (ds_append 2 (de_intc T.int (da_cons (de_sub (de_div (de_add (dv 3) (dv 4)) (dv 1)) (de_div (dv 3) (dv 1))) da_nil)))
        (dss_one (ds_set (i := 3) sc__law_wholes.nd rfl (.inl rfl) (de_add (dv 3) (dv 4))))))
      (dss_one (ds_ret (dv 2))))), gSp_go fun a => ?_⟩)
  obtain ⟨ts, low, len, pos, hl⟩ := a
  have hd : ∀ x : Int, CDivW x low := fun x => wide_div (by omega) hl (by decide) (by decide)
  have hs : ∀ (l : List Int) (t : Int) (ahead : Int), wholesFrom low ahead (l ++ [t]) = wholesFrom low ahead l ++ [(ahead + l.sum + t) / low - (ahead + l.sum) / low] := fun l => by
    induction l with
    | nil => intro t ahead; simp [wholesFrom]
    | cons y l ih => intro t ahead; rw [List.cons_append, wholesFrom, wholesFrom, ih, List.sum_cons, List.cons_append, Int.add_assoc ahead y]
  refine ⟨Nat.zero_le _, rfl, for_pre (enc := D.int) (xs := ts) (fun pre τ => ∃ v, τ = [sD (.lst (ts.map D.int)), sD (.int low), oD ((wholesFrom low 0 pre).map D.int), sD (.int pre.sum), v]) rfl ⟨none, rfl⟩ ?_ ?_⟩
  · rintro pre t post τ e ⟨v, rfl⟩
    have hl2 : (wholesFrom low 0 pre).length < sizeLine := by
      have : ∀ (l : List Int) (a : Int), (wholesFrom low a l).length = l.length := fun l => by
        induction l with
        | nil => intro a; rfl
        | cons y l ih => intro a; rw [wholesFrom, List.length_cons, List.length_cons, ih]
      rw [this, sizeLine_eq]
      rw [e, List.length_append, List.length_cons] at len
      omega
    refine ⟨⟨_, rfl⟩, hd _, hd _, _, rfl, by rw [List.length_map]; exact hl2, sD (.int t), ?_⟩
    have e2 := hs pre t 0
    rw [Int.zero_add] at e2
    have e3 : (pre ++ [t]).sum = pre.sum + t := by simp
    rw [e2, e3, List.map_append]; rfl
  · rintro τ ⟨v, rfl⟩
    exact rfl
end
end K56
namespace K56
open PySem PySem.Spec PyProof.Rows L2 DL KM
section
variable {P : Program} {w : World} {K : PySem.W.Frag} {mg : Str → Option Value} {base : Heap} {cBP cBL cPE : Addr}
abbrev s__law_ends : Stmt := top 34
theorem sc__law_ends : FnScope ["parts", "least", "most", "base", "weight", "lo", "hi", "size"] ["parts"] (defScope s__law_ends) := ⟨rfl, rfl, rfl, by decide +kernel, rfl, by decide +kernel, by decide +kernel⟩
theorem ok__law_ends {f : Addr} {fd : FuncData} (F : Fun K "_law_ends" "_law_ends" s__law_ends f fd) (hm : mg "_law_ends" = some (.ref f)) (hb : Binds K fd ["parts"] []) (T : Txt K mg cBP cBL cPE) (h__law_cut : DFn P w K mg base 1 "_law_cut" ["number", "lo", "hi"] phi__law_cut) : DFn P w K mg base 2 "_law_ends" ["parts"] phi__law_ends := by
  refine okD F sc__law_ends hm hb (gSp_len fun a => by first | rfl | (cases a <;> rfl)) (fun cdv A outer s H E pa G hr => ⟨_, (dss_cons (ds_setLc (i := 1) (own := [("base", 3), ("weight", 4), ("lo", 5), ("hi", 6)]) rfl sc__law_ends.nd rfl rfl (sw_true rfl rfl rfl (by decide +kernel)) [] (di_seq (dv 0)) (blkOk_by (own := [("base", 3), ("weight", 4), ("lo", 5), ("hi", 6)]) (N := ["parts", "least", "most", "base", "weight", "lo", "hi", "size"]) (sc := defScope s__law_ends) (by decide +kernel)) (by decide) (fun _ _ _ _ _ => (dg_tup (n := 4) rfl (dgs_cons (dg_name (i := 3) sc__law_ends.nd rfl (.inl rfl)) (dgs_cons (dg_name (i := 4) sc__law_ends.nd rfl (.inl rfl)) (dgs_cons (dg_name (i := 5) sc__law_ends.nd rfl (.inl rfl)) (dgs_cons (dg_name (i := 6) sc__law_ends.nd rfl (.inl rfl)) dgs_nil)))))) (fun _ _ _ _ _ => dts_nil) (fun _ _ _ _ _ => (de_ix (de_of (do_lst (da_cons (de_call h__law_cut (hr.mono (by decide)) (da_cons (dv 3) (da_cons (dv 5) (da_cons (dv 6) da_nil)))) (da_cons (dv 5) da_nil)))) (de_intc T.int (da_cons (de_gt (dv 4) de_int) da_nil)))))
      (dss_cons (ds_setLc (i := 2) (own := [("base", 3), ("weight", 4), ("lo", 5), ("hi", 6)]) rfl sc__law_ends.nd rfl rfl (sw_true rfl rfl rfl (by decide +kernel)) [] (di_seq (dv 0)) (blkOk_by (own := [("base", 3), ("weight", 4), ("lo", 5), ("hi", 6)]) (N := ["parts", "least", "most", "base", "weight", "lo", "hi", "size"]) (sc := defScope s__law_ends) (by decide +kernel)) (by decide) (fun _ _ _ _ _ => (dg_tup (n := 4) rfl (dgs_cons (dg_name (i := 3) sc__law_ends.nd rfl (.inl rfl)) (dgs_cons (dg_name (i := 4) sc__law_ends.nd rfl (.inl rfl)) (dgs_cons (dg_name (i := 5) sc__law_ends.nd rfl (.inl rfl)) (dgs_cons (dg_name (i := 6) sc__law_ends.nd rfl (.inl rfl)) dgs_nil)))))) (fun _ _ _ _ _ => dts_nil) (fun _ _ _ _ _ => (de_ix (de_of (do_lst (da_cons (de_call h__law_cut (hr.mono (by decide)) (da_cons (dv 3) (da_cons (dv 5) (da_cons (dv 6) da_nil)))) (da_cons (dv 6) da_nil)))) (de_intc T.int (da_cons (de_gt (dv 4) de_int) da_nil)))))
      (dss_cons (ds_if (dt_val (de_any T.any (da_cons (de_of (do_lc (own := [("size", 7)]) rfl sc__law_ends.nd (di_seq (dv 2)) (blkOk_by (own := [("size", 7)]) (N := ["parts", "least", "most", "base", "weight", "lo", "hi", "size"]) (sc := defScope s__law_ends) (by decide +kernel)) (by decide) (fun _ _ _ _ _ => (dg_name (i := 7) sc__law_ends.nd rfl (.inl rfl))) (fun _ _ _ _ _ => dts_nil) (fun _ _ _ _ _ => (de_isN (dv 7))))) da_nil)))
        (dss_one (ds_ret (de_tup (da_cons (dv 1) (da_cons de_non da_nil)))))
        dss_nil)
      (dss_one (ds_ret (de_tup (da_cons (dv 1) (da_cons (dv 2) da_nil)))))))), gSp_go fun a => ?_⟩)
  obtain ⟨Ps, ls, len⟩ := a
  have hi : ∀ (x : Int) (a b : D), L2.atI [a, b] (if decide (x > 0) = true then 1 else 0) = some (if x > 0 then b else a) := fun x a b => by
    by_cases c : x > 0
    · rw [decide_eq_true c, if_pos c]; rfl
    · rw [decide_eq_false c, if_neg c]; rfl
  have cut : ∀ p ∈ Ps.ps, ∀ x, p.l = some x → ∀ u, p.h = some u → x ≤ u := fun p hp x hx u hu => (Ps.ok p hp).ok.lh x u hx hu
  refine lc_map (enc := ptD) (xs := Ps.ps) (fun p => .int (leastI p)) rfl (small1000u (by omega)) (fun p hp => ?_) ?_
  · obtain ⟨x, hx⟩ := ls p hp
    have hc := cut p hp x hx
    obtain ⟨b, w, l, u⟩ := p
    dsimp only at hx hc
    subst hx
    refine ⟨rfl, rfl, ⟨(b, x, u), hc⟩, rfl, ceq ⟨sz, _, hi w _ _, ?_⟩, cno⟩
    show (if w > 0 then D.int x else D.int (cutF b (some x) u)) = .int (leastI ⟨b, w, some x, u⟩)
    unfold leastI leastOf
    by_cases c : w > 0
    · rw [if_pos c, if_pos c]; rfl
    · rw [if_neg c, if_neg c]; rfl
  refine lc_map (enc := ptD) (xs := Ps.ps) (fun p => optD (mostOf p)) rfl (small1000u (by omega)) (fun p hp => ?_) ?_
  · obtain ⟨x, hx⟩ := ls p hp
    have hc := cut p hp x hx
    obtain ⟨b, w, l, u⟩ := p
    dsimp only at hx hc
    subst hx
    refine ⟨rfl, rfl, ⟨(b, x, u), hc⟩, rfl, ceq ⟨sz, _, hi w _ _, ?_⟩, cno⟩
    show (if w > 0 then optD u else D.int (cutF b (some x) u)) = optD (mostOf ⟨b, w, some x, u⟩)
    unfold mostOf
    by_cases c : w > 0
    · rw [if_pos c, if_pos c]
    · rw [if_neg c, if_neg c]; rfl
  refine lc_map (enc := fun p => optD (mostOf p)) (xs := Ps.ps) (fun p => .bl (mostOf p).isNone) rfl (small1000u (by omega)) (fun p hp => ?_) ?_
  · cases h : mostOf p <;> exact rfl
  refine ⟨Ps.ps.map fun p => (mostOf p).isNone, by rw [List.map_map]; rfl, ?_⟩
  have e1 : (Ps.ps.map fun p => D.int (leastI p)) = (Ps.ps.map leastI).map D.int := by rw [List.map_map]; rfl
  have e2 : (Ps.ps.map fun p => optD (mostOf p)) = (Ps.ps.map mostOf).map optD := by rw [List.map_map]; rfl
  have e3 : (Ps.ps.map fun p => (mostOf p).isNone).any id = (Ps.ps.map mostOf).any (·.isNone) := by rw [List.any_map, List.any_map]; rfl
  refine bIf (fun c => ⟨sz, ?_⟩) (fun c => ⟨sz, ?_⟩)
  · rw [e3] at c
    show D.tup [D.lst (Ps.ps.map fun p => D.int (leastI p)), .non] = .tup [.lst ((Ps.ps.map leastI).map D.int), mostD Ps.ps]
    unfold mostD
    rw [if_pos c, e1]
  · rw [e3] at c
    show D.tup [D.lst (Ps.ps.map fun p => D.int (leastI p)), D.lst (Ps.ps.map fun p => optD (mostOf p))] = .tup [.lst ((Ps.ps.map leastI).map D.int), mostD Ps.ps]
    unfold mostD
    rw [c, if_neg Bool.false_ne_true, e1, e2]
abbrev s__law_moves : Stmt := top 35
theorem sc__law_moves : FnScope ["part", "top", "low", "way", "base", "weight", "lo", "hi", "number"] ["part", "top", "low", "way"] (defScope s__law_moves) := ⟨rfl, rfl, rfl, by decide +kernel, rfl, by decide +kernel, by decide +kernel⟩
theorem ok__law_moves {f : Addr} {fd : FuncData} (F : Fun K "_law_moves" "_law_moves" s__law_moves f fd) (hm : mg "_law_moves" = some (.ref f)) (hb : Binds K fd ["part", "top", "low", "way"] []) (T : Txt K mg cBP cBL cPE)  : DFn P w K mg base 1 "_law_moves" ["part", "top", "low", "way"] phi__law_moves := by
  refine okD F sc__law_moves hm hb (gSp_len fun a => by first | rfl | (cases a <;> rfl)) (fun cdv A outer s H E pa G hr => ⟨_, (dss_cons (ds_asg (dv 0) (dg_tup (n := 4) rfl (dgs_cons (dg_name (i := 4) sc__law_moves.nd rfl (.inl rfl)) (dgs_cons (dg_name (i := 5) sc__law_moves.nd rfl (.inl rfl)) (dgs_cons (dg_name (i := 6) sc__law_moves.nd rfl (.inl rfl)) (dgs_cons (dg_name (i := 7) sc__law_moves.nd rfl (.inl rfl)) dgs_nil))))))
      (dss_cons (ds_set (i := 8) sc__law_moves.nd rfl (.inl rfl) (de_add (de_mul (dv 4) (dv 2)) (de_mul (dv 5) (dv 1))))
      (dss_cons (ds_if (dt_eq hr.units (dv 5) de_int)
        (dss_one (ds_ret de_bl))
        dss_nil)
      (dss_cons (ds_if (dt_gt (dv 3) de_int)
        (dss_one (ds_ret (de_and (de_ge (dv 8) (de_mul (dv 6) (dv 2))) (de_one (de_or (de_isN (dv 7)) (de_one (de_lt (dv 8) (de_mul (dv 7) (dv 2)))))))))
        dss_nil)
      (dss_one (ds_ret (de_and (de_gt (dv 8) (de_mul (dv 6) (dv 2))) (de_one (de_or (de_isN (dv 7)) (de_one (de_le (dv 8) (de_mul (dv 7) (dv 2))))))))))))), gSp_go fun a => ?_⟩)
  obtain ⟨⟨b, w, l, u⟩, top, low, way, hp, ⟨x, hx⟩, h1, h2⟩ := a
  dsimp only at hx
  subst hx
  have hlo : Bd 100 x := hp.l
  refine ⟨rfl, rfl, hp.b.cm h2 (by decide) (by decide) (by decide), hp.w.cm h1 (by decide) (by decide) (by decide), ?_⟩
  refine dIf (fun c => ?_) (fun c => ?_)
  · show D.bl false = .bl (mvB _ _ _ _)
    unfold mvB; rw [if_pos c]
  · have c : ¬ w = 0 := c
    refine dIf (fun c2 => ?_) (fun c2 => ?_)
    · have c2 : way > 0 := c2
      refine ⟨hlo.cm h2 (by decide) (by decide) (by decide), ?_⟩
      cases u with
      | none => refine dIf (fun c3 => ?_) (fun c3 => ?_) <;> (dsimp only at c3; exact congrArg D.bl (by simp [mvB, c, c2, c3]))
      | some y =>
        have hhi : Bd 100 y := hp.h
        refine dIf (fun c3 => ⟨hhi.cm h2 (by decide) (by decide) (by decide), ?_⟩) (fun c3 => ?_) <;> (dsimp only at c3; exact congrArg D.bl (by simp [mvB, c, c2, c3]))
    · have c2 : ¬ way > 0 := c2
      refine ⟨hlo.cm h2 (by decide) (by decide) (by decide), ?_⟩
      cases u with
      | none => refine dIf (fun c3 => ?_) (fun c3 => ?_) <;> (dsimp only at c3; exact congrArg D.bl (by simp [mvB, c, c2, c3]))
      | some y =>
        have hhi : Bd 100 y := hp.h
        refine dIf (fun c3 => ⟨hhi.cm h2 (by decide) (by decide) (by decide), ?_⟩) (fun c3 => ?_) <;> (dsimp only at c3; exact congrArg D.bl (by simp [mvB, c, c2, c3]))
abbrev s__law_lowest : Stmt := top 36
theorem sc__law_lowest : FnScope ["top", "low", "one", "other", "turn"] ["top", "low"] (defScope s__law_lowest) := ⟨rfl, rfl, rfl, by decide +kernel, rfl, by decide +kernel, by decide +kernel⟩
theorem ok__law_lowest {f : Addr} {fd : FuncData} (F : Fun K "_law_lowest" "_law_lowest" s__law_lowest f fd) (hm : mg "_law_lowest" = some (.ref f)) (hb : Binds K fd ["top", "low"] []) (T : Txt K mg cBP cBL cPE)  : DFn P w K mg base 1 "_law_lowest" ["top", "low"] phi__law_lowest := by
  refine okD F sc__law_lowest hm hb (gSp_len fun a => by first | rfl | (cases a <;> rfl)) (fun cdv A outer s H E pa G hr => ⟨_, (dss_cons (ds_par2 (i := 2) (j := 3) rfl sc__law_lowest.nd rfl rfl (by decide) rfl rfl (dm_e (de_abs T.abs (da_cons (dv 0) da_nil)) (dm_e (dv 1) dm_nil)) rfl)
      (dss_cons (ds_for (passes_of rfl) rfl (di_rng1 T.range (da_cons de_int da_nil)) (dg_name (i := 4) sc__law_lowest.nd rfl (.inl rfl))
        (dss_cons (ds_if (dt_eq hr.units (dv 3) de_int)
          (dss_one ds_break)
          dss_nil)
        (dss_one (ds_par2 (i := 2) (j := 3) rfl sc__law_lowest.nd rfl rfl (by decide) rfl rfl (dm_e (dv 3) (dm_e (de_mod (de_intc T.int (da_cons (dv 2) da_nil)) (dv 3)) dm_nil)) rfl))))
      (dss_one (ds_ret (de_and (de_ge (dv 1) de_int) (de_one (de_eq hr.units (dv 2) de_int))))))), gSp_go fun a => ?_⟩)
  obtain ⟨top, low, ht, hl, pos, cop⟩ := a
  have hT : top.natAbs * low.natAbs < 2 ^ 600 := by
    have : (2 : Nat) ^ 600 = 2 ^ 300 * 2 ^ 300 := by rw [← Nat.pow_add]
    rw [this]
    exact Nat.mul_lt_mul'' ht hl
  have fin : ∀ one : Nat, Nat.gcd one 0 = 1 → D.bl (decide ((one : Int) = 1)) = D.bl true := fun one h => by
    rw [Nat.gcd_zero_right] at h
    rw [decide_eq_true (by omega)]
  refine ⟨rfl, ⟨by decide, by decide⟩, for_rng (fun k τ => ∃ (one other : Nat) (v : Option Sl), Euc (top.natAbs * low.natAbs) k one other ∧ τ = [sD (.int top), sD (.int low), sD (.int one), sD (.int other), v]) ⟨top.natAbs, low.natAbs, none, ⟨cop, .inl ⟨rfl, Nat.le_refl _⟩⟩, ?_⟩ ?_ ?_⟩
  · have e1 : (if top < 0 then -top else top) = (top.natAbs : Int) := by split <;> omega
    have e2 : low = (low.natAbs : Int) := by omega
    show [sD (.int top), sD (.int low), sD (.int (if top < 0 then -top else top)), sD (.int low), none] = _
    rw [e1, ← e2]
  · rintro k τ hk ⟨one, other, v, h, rfl⟩
    refine dIf (fun c => ?_) (fun c => ?_)
    · have c0 : other = 0 := by omega
      subst c0
      exact bT (decide_eq_true (by omega)) (fin one h.1)
    · have c0 : 0 < other := by omega
      refine ⟨(by omega : (0 : Int) < other), rfl, other, one % other, sD (.int (0 + k)), h.next c0, ?_⟩
      show [sD (.int top), sD (.int low), sD (.int other), sD (.int ((one : Int) % other)), sD (.int (0 + k))] = _
      rw [Int.natCast_emod]
  · rintro τ ⟨one, other, v, h, rfl⟩
    have c0 := h.done hT
    subst c0
    exact bT (decide_eq_true (by omega)) (fin one h.1)
end
end K56
namespace K56
open PySem PySem.Spec PyProof.Rows L2 DL KM
section
variable {P : Program} {w : World} {K : PySem.W.Frag} {mg : Str → Option Value} {base : Heap} {cBP cBL cPE : Addr}
abbrev s__law_is_nearest : Stmt := top 37
theorem sc__law_is_nearest : FnScope ["parts", "room", "told", "top", "low", "part"] ["parts", "room", "told"] (defScope s__law_is_nearest) := ⟨rfl, rfl, rfl, by decide +kernel, rfl, by decide +kernel, by decide +kernel⟩
theorem ok__law_is_nearest {f : Addr} {fd : FuncData} (F : Fun K "_law_is_nearest" "_law_is_nearest" s__law_is_nearest f fd) (hm : mg "_law_is_nearest" = some (.ref f)) (hb : Binds K fd ["parts", "room", "told"] []) (T : Txt K mg cBP cBL cPE) (h__law_lowest : DFn P w K mg base 1 "_law_lowest" ["top", "low"] phi__law_lowest) (h__law_tops : DFn P w K mg base 2 "_law_tops" ["parts", "top", "low"] phi__law_tops) (h__law_moves : DFn P w K mg base 1 "_law_moves" ["part", "top", "low", "way"] phi__law_moves) : DFn P w K mg base 3 "_law_is_nearest" ["parts", "room", "told"] phi__law_is_nearest := by
  refine okD F sc__law_is_nearest hm hb (gSp_len fun a => by first | rfl | (cases a <;> rfl)) (fun cdv A outer s H E pa G hr => ⟨_, (dss_cons (ds_asg (dv 2) (dg_tup (n := 2) rfl (dgs_cons (dg_name (i := 3) sc__law_is_nearest.nd rfl (.inr rfl)) (dgs_cons (dg_name (i := 4) sc__law_is_nearest.nd rfl (.inr rfl)) dgs_nil))))
      (dss_cons (ds_if (DW.dt (dw_or (dt_not (dt_val (de_call h__law_lowest (hr.mono (by decide)) (da_cons (dv 3) (da_cons (dv 4) da_nil))))) (dw_or1 (dt_ne hr.units (de_sum T.sum (da_cons (de_call h__law_tops (hr.mono (by decide)) (da_cons (dv 0) (da_cons (dv 3) (da_cons (dv 4) da_nil)))) da_nil)) (de_mul (dv 1) (dv 4))))))
        (dss_one (ds_ret de_bl))
        dss_nil)
      (dss_cons (ds_if (dt_eq hr.units (dv 3) de_int)
        (dss_one (ds_ret de_bl))
        dss_nil)
      (dss_one (ds_ret (de_any T.any (da_cons (de_of (do_lc (own := [("part", 5)]) rfl sc__law_is_nearest.nd (di_seq (dv 0)) (blkOk_by (own := [("part", 5)]) (N := ["parts", "room", "told", "top", "low", "part"]) (sc := defScope s__law_is_nearest) (by decide +kernel)) (by decide) (fun _ _ _ _ _ => (dg_name (i := 5) sc__law_is_nearest.nd rfl (.inl rfl))) (fun _ _ _ _ _ => dts_nil) (fun _ _ _ _ _ => (de_call h__law_moves (hr.mono (by decide)) (da_cons (dv 5) (da_cons (dv 3) (da_cons (dv 4) (da_cons (de_ix (de_of (do_lst (da_cons de_int (da_cons (de_neg de_int) da_nil)))) (de_intc T.int (da_cons (de_gt (dv 3) de_int) da_nil))) da_nil)))))))) da_nil))))))), gSp_go fun a => ?_⟩)
  obtain ⟨⟨⟨Ps, ls, len⟩, room, hroom⟩, r, near, hb⟩ := a
  refine ⟨rfl, rfl, ⟨r.1, r.2, hb.a, hb.c.mono (by decide), hb.pos, near.cop⟩, rfl, ceq ?_, cno⟩
  refine ⟨⟨⟨Ps, ls, len⟩, r.1, r.2, hb.a.mono (by decide), hb.c.mono (by decide), hb.pos⟩, rfl, ceq ⟨topsF Ps.ps r.1 r.2, rfl, hroom.cm hb.c (by decide) (by decide) (by decide), ?_⟩, cno⟩
  have hs : (topsF Ps.ps r.1 r.2).sum = room * r.2 := near.sum
  refine bF (by rw [hs]; simp) ?_
  refine dIf (fun c => rfl) (fun c => ?_)
  have c : ¬ r.1 = 0 := c
  refine lc_map (enc := ptD) (xs := Ps.ps) (fun p => .bl (mvB p r.1 r.2 (if r.1 > 0 then -1 else 1))) rfl (small1000u (by omega)) (fun p hp => ?_) ?_
  · have e : L2.atI [D.int 1, D.int (-1)] (if decide (r.1 > 0) = true then 1 else 0) = some (.int (if r.1 > 0 then -1 else 1)) := by
      by_cases c : r.1 > 0
      · rw [decide_eq_true c, if_pos c]; rfl
      · rw [decide_eq_false c, if_neg c]; rfl
    exact ⟨sz, _, e, ⟨p, r.1, r.2, _, Ps.ok p hp, ls p hp, hb.a.mono (by decide), hb.c.mono (by decide)⟩, rfl, ceq rfl, cno⟩
  · refine ⟨Ps.ps.map fun p => mvB p r.1 r.2 (if r.1 > 0 then -1 else 1), by rw [List.map_map]; rfl, ?_⟩
    have : (Ps.ps.map fun p => mvB p r.1 r.2 (if r.1 > 0 then -1 else 1)).any id = true := by
      rw [List.any_map, List.any_eq_true]
      rcases near.mv with h | ⟨h, p, hp, m⟩ | ⟨h, p, hp, m⟩
      · exact absurd h c
      · refine ⟨p, hp, ?_⟩
        show mvB p r.1 r.2 (if r.1 > 0 then -1 else 1) = true
        rw [if_pos h]
        exact mvB_L (by decide) m
      · refine ⟨p, hp, ?_⟩
        show mvB p r.1 r.2 (if r.1 > 0 then -1 else 1) = true
        rw [if_neg (by omega)]
        exact mvB_R (by decide) m
    show D.bl ((Ps.ps.map fun p => mvB p r.1 r.2 (if r.1 > 0 then -1 else 1)).any id) = D.bl true
    rw [this]
abbrev s__law_rooms : Stmt := top 39
theorem sc__law_rooms : FnScope ["pool", "parts", "unit", "least", "most", "now", "beside", "at", "rooms", "base", "weight", "lo", "hi"] ["pool", "parts", "unit"] (defScope s__law_rooms) := ⟨rfl, rfl, rfl, by decide +kernel, rfl, by decide +kernel, by decide +kernel⟩
theorem ok__law_rooms {f : Addr} {fd : FuncData} (F : Fun K "_law_rooms" "_law_rooms" s__law_rooms f fd) (hm : mg "_law_rooms" = some (.ref f)) (hb : Binds K fd ["pool", "parts", "unit"] []) (T : Txt K mg cBP cBL cPE) (h__law_ends : DFn P w K mg base 2 "_law_ends" ["parts"] phi__law_ends) (h__law_cut : DFn P w K mg base 1 "_law_cut" ["number", "lo", "hi"] phi__law_cut) (h__law_pick : DFn P w K mg base 1 "_law_pick" ["pool", "many"] phi_pick) (h__law_tops : DFn P w K mg base 2 "_law_tops" ["parts", "top", "low"] phi__law_tops) : DFn P w K mg base 3 "_law_rooms" ["pool", "parts", "unit"] phi__law_rooms := by
  refine okD F sc__law_rooms hm hb (gSp_len fun a => by first | rfl | (cases a <;> rfl)) (fun cdv A outer s H E pa G hr => ⟨_, (dss_cons (ds_asg (de_call h__law_ends (hr.mono (by decide)) (da_cons (dv 1) da_nil)) (dg_tup (n := 2) rfl (dgs_cons (dg_name (i := 3) sc__law_rooms.nd rfl (.inl rfl)) (dgs_cons (dg_name (i := 4) sc__law_rooms.nd rfl (.inl rfl)) dgs_nil))))
      (dss_cons (ds_set (i := 5) sc__law_rooms.nd rfl (.inl rfl) (de_sum T.sum (da_cons (de_of (do_lc (own := [("base", 9), ("weight", 10), ("lo", 11), ("hi", 12)]) rfl sc__law_rooms.nd (di_seq (dv 1)) (blkOk_by (own := [("base", 9), ("weight", 10), ("lo", 11), ("hi", 12)]) (N := ["pool", "parts", "unit", "least", "most", "now", "beside", "at", "rooms", "base", "weight", "lo", "hi"]) (sc := defScope s__law_rooms) (by decide +kernel)) (by decide) (fun _ _ _ _ _ => (dg_tup (n := 4) rfl (dgs_cons (dg_name (i := 9) sc__law_rooms.nd rfl (.inl rfl)) (dgs_cons (dg_name (i := 10) sc__law_rooms.nd rfl (.inl rfl)) (dgs_cons (dg_name (i := 11) sc__law_rooms.nd rfl (.inl rfl)) (dgs_cons (dg_name (i := 12) sc__law_rooms.nd rfl (.inl rfl)) dgs_nil)))))) (fun _ _ _ _ _ => dts_nil) (fun _ _ _ _ _ => (de_call h__law_cut (hr.mono (by decide)) (da_cons (dv 9) (da_cons (dv 11) (da_cons (dv 12) da_nil))))))) da_nil)))
      (dss_cons (ds_set (i := 6) sc__law_rooms.nd rfl (.inl rfl) (de_ix (de_of (do_lst (da_cons de_int (da_cons de_int (da_cons de_int (da_cons (de_neg de_int) da_nil)))))) (de_call h__law_pick (hr.mono (by decide)) (da_cons (dv 0) (da_cons de_int da_nil)))))
      (dss_cons (ds_set (i := 7) sc__law_rooms.nd rfl (.inl rfl) (de_sum T.sum (da_cons (de_call h__law_tops (hr.mono (by decide)) (da_cons (dv 1) (da_cons (de_sub (de_call h__law_pick (hr.mono (by decide)) (da_cons (dv 0) (da_cons de_int da_nil))) de_int) (da_cons de_int da_nil)))) da_nil)))
      (dss_cons (ds_setO (i := 8) sc__law_rooms.nd rfl (.inl rfl) (do_lst (da_cons (de_add (dv 5) (dv 6)) (da_cons (de_add (dv 7) (de_ix (de_of (do_lst (da_cons de_int (da_cons de_int (da_cons de_int da_nil))))) (de_call h__law_pick (hr.mono (by decide)) (da_cons (dv 0) (da_cons de_int da_nil))))) (da_cons (de_add (de_sum T.sum (da_cons (dv 3) da_nil)) (dv 6)) (da_cons (de_add (de_add (dv 5) (de_mul (dv 2) (de_sub (de_call h__law_pick (hr.mono (by decide)) (da_cons (dv 0) (da_cons de_int da_nil))) de_int))) (de_call h__law_pick (hr.mono (by decide)) (da_cons (dv 0) (da_cons de_int da_nil)))) da_nil))))))
      (dss_cons (ds_if (dt_notN (dv 4))
        (dss_one (ds_append 8 (de_add (de_sum T.sum (da_cons (dv 4) da_nil)) (de_ix (de_of (do_lst (da_cons de_int (da_cons de_int (da_cons (de_neg de_int) (da_cons (dv 2) da_nil)))))) (de_call h__law_pick (hr.mono (by decide)) (da_cons (dv 0) (da_cons de_int da_nil)))))))
        dss_nil)
      (dss_one (ds_ret (de_of (do_cat (dv 8) (de_of (do_lst (da_cons de_int (da_cons (de_sub (de_sum T.sum (da_cons (dv 3) da_nil)) (de_mul (dv 2) (de_call h__law_pick (hr.mono (by decide)) (da_cons (dv 0) (da_cons de_int da_nil))))) da_nil)))))))))))))), gSp_go fun a => ?_⟩)
  obtain ⟨⟨Ps, ls, len⟩, unit, u0, u1⟩ := a
  have hu : Bd 60 unit := by unfold Bd; omega
  have mul : ∀ z : Int, -100 ≤ z → z ≤ 100 → CMulW unit z ∧ Bd 70 (unit * z) := fun z h1 h2 => by
    have hz : Bd 10 z := by unfold Bd; omega
    exact ⟨hu.cm hz (by decide) (by decide) (by decide), hu.mul hz⟩
  have sm : ∀ z : Int, -100 ≤ z → z ≤ 100 → Bd 70 z := fun z h1 h2 => Bd.mono (a := 10) (by unfold Bd; omega) (by decide)
  have l1000 : Ps.ps.length ≤ 1000 := by omega
  have hnow : Bd 110 (Ps.ps.map fun p => cutF p.b p.l p.h).sum := sum_bd (n := 100) (fun x hx => by
    obtain ⟨p, hp, rfl⟩ := List.mem_map.mp hx
    exact cut_bd (Ps.ok p hp).b (Ps.ok p hp).l (Ps.ok p hp).h) (by rw [List.length_map]; exact l1000)
  have hleast : Bd 110 (Ps.ps.map leastI).sum := sum_bd (n := 100) (fun x hx => by
    obtain ⟨p, hp, rfl⟩ := List.mem_map.mp hx
    obtain ⟨y, hy⟩ := ls p hp
    have B := Ps.ok p hp
    unfold leastI leastOf
    split
    · rw [hy]; have := B.l; rw [hy] at this; exact this
    · exact cut_bd B.b B.l B.h) (by rw [List.length_map]; exact l1000)
  have hmost : ∀ ms : List Int, Ps.ps.map mostOf = ms.map some → Bd 110 ms.sum := fun ms e => sum_bd (n := 100) (fun x hx => by
    have h1 : some x ∈ Ps.ps.map mostOf := by rw [e]; exact List.mem_map.mpr ⟨x, hx, rfl⟩
    obtain ⟨p, hp, e2⟩ := List.mem_map.mp h1
    have B := Ps.ok p hp
    unfold mostOf at e2
    split at e2
    · have := B.h; rw [e2] at this; exact this
    · injection e2 with e2; rw [← e2]; exact cut_bd B.b B.l B.h) (by have := congrArg List.length e; rw [List.length_map, List.length_map] at this; omega)
  refine ⟨⟨Ps, ls, len⟩, rfl, ceq ⟨rfl, rfl, ?_⟩, cno⟩
  refine lc_map (enc := ptD) (xs := Ps.ps) (fun p => .int (cutF p.b p.l p.h)) rfl (small1000u (by omega)) (fun p hp => ?_) ?_
  · obtain ⟨x, hx⟩ := ls p hp
    have hc := (Ps.ok p hp).ok.lh x
    obtain ⟨b, w, l, u⟩ := p
    dsimp only at hx hc
    subst hx
    exact ⟨rfl, rfl, ⟨(b, x, u), fun v hv => hc v rfl hv⟩, rfl, ceq rfl, cno⟩
  refine ⟨Ps.ps.map fun p => cutF p.b p.l p.h, by rw [List.map_map]; rfl, ?_⟩
  refine ⟨sz, pk (by decide) fun i i0 i1 => ?_⟩
  obtain ⟨b, eb, mb⟩ := at_in (ns := [0, 0, 1, -1]) i0 i1
  have hb : -1 ≤ b ∧ b ≤ 1 := by simp at mb; omega
  have hb := sm b (by omega) (by omega)
  refine ⟨_, eb, pk (by decide) fun j j0 j1 => ?_⟩
  have htop : Bd 10 (j - 15) := by unfold Bd; omega
  have hat : Bd 121 (topsF Ps.ps (j - 15) 1).sum := tops_bd htop bd1
  refine ⟨⟨⟨Ps, ls, len⟩, j - 15, 1, htop.mono (by decide), bd1, by decide⟩, rfl, ceq ⟨topsF Ps.ps (j - 15) 1, rfl, ?_⟩, cno⟩
  refine ⟨sz, pk (by decide) fun k k0 k1 => ?_⟩
  obtain ⟨c, ec, mc⟩ := at_in (ns := [0, 0, 1]) k0 k1
  have hc : 0 ≤ c ∧ c ≤ 1 := by simp at mc; omega
  have hc := sm c (by omega) (by omega)
  refine ⟨_, ec, Ps.ps.map leastI, rfl, pk (by decide) fun k k0 k1 => ?_⟩
  obtain ⟨m1, b1⟩ := mul (k - 30) (by omega) (by omega)
  refine ⟨m1, pk (by decide) fun l l0 l1 => ⟨sz, ?_⟩⟩
  have hl := sm l (by omega) (by omega)
  have r1 : Bd 150 ((Ps.ps.map fun p => cutF p.b p.l p.h).sum + b) := (hnow.add (hb.mono (by decide))).mono (by decide)
  have r2 : Bd 150 ((topsF Ps.ps (j - 15) 1).sum + c) := (hat.add (hc.mono (by decide))).mono (by decide)
  have r3 : Bd 150 ((Ps.ps.map leastI).sum + b) := (hleast.add (hb.mono (by decide))).mono (by decide)
  have r4 : Bd 150 ((Ps.ps.map fun p => cutF p.b p.l p.h).sum + unit * (k - 30) + l) := ((hnow.add (b1.mono (by decide))).add (hl.mono (by decide))).mono (by decide)
  have fin : ∀ rs : List Int, (∀ x ∈ rs, Bd 150 x) → rs.length ≤ 5 → ∀ q : Int, 0 ≤ q → q < 9 → ∃ rs' : List Int, D.lst (rs.map D.int ++ [.int 0, .int ((Ps.ps.map leastI).sum - unit * q)]) = .lst (rs'.map D.int) ∧ (∀ x ∈ rs', Bd 150 x) ∧ rs'.length ≤ 10 := fun rs h1 h2 q q0 q1 => by
    refine ⟨rs ++ [0, (Ps.ps.map leastI).sum - unit * q], by rw [List.map_append]; rfl, fun x hx => ?_, by rw [List.length_append]; show rs.length + 2 ≤ 10; omega⟩
    rcases List.mem_append.mp hx with h | h
    · exact h1 x h
    · rcases List.mem_cons.mp h with h | h
      · rw [h]; exact bd0 _
      · rw [List.mem_singleton.mp h]
        exact (hleast.sub ((mul q (by omega) (by omega)).2.mono (by decide))).mono (by decide)
  rcases most_cases Ps.ps with ⟨e2, no⟩ | ⟨ms, e1, e2⟩
  · rw [e2]
    refine ⟨Ps.ps.map leastI, rfl, pk (by decide) fun q q0 q1 => ⟨(mul q (by omega) (by omega)).1, sz, sz, ?_⟩⟩
    exact fin [(Ps.ps.map fun p => cutF p.b p.l p.h).sum + b, (topsF Ps.ps (j - 15) 1).sum + c, (Ps.ps.map leastI).sum + b, (Ps.ps.map fun p => cutF p.b p.l p.h).sum + unit * (k - 30) + l] (fun x hx => by simp at hx; rcases hx with rfl | rfl | rfl | rfl <;> assumption) (Nat.le_of_ble_eq_true rfl) q q0 q1
  · rw [e2]
    refine ⟨⟨_, rfl⟩, ms, rfl, sz, pk (by decide) fun t t0 t1 => ?_⟩
    obtain ⟨d, ed, md⟩ := at_in (ns := [0, 1, -1, unit]) t0 t1
    have hd : Bd 70 d := by
      simp at md
      rcases md with rfl | rfl | rfl | rfl
      · exact bd0 _
      · exact bd1
      · exact (bd1 : Bd 70 1).neg
      · exact hu.mono (by decide)
    have r5 : Bd 150 (ms.sum + d) := ((hmost ms e1).add (hd.mono (by decide))).mono (by decide)
    refine ⟨_, ed, _, rfl, by show 4 < sizeLine; exact small1000 (by decide), ?_⟩
    refine ⟨Ps.ps.map leastI, rfl, pk (by decide) fun q q0 q1 => ⟨(mul q (by omega) (by omega)).1, sz, sz, ?_⟩⟩
    exact fin [(Ps.ps.map fun p => cutF p.b p.l p.h).sum + b, (topsF Ps.ps (j - 15) 1).sum + c, (Ps.ps.map leastI).sum + b, (Ps.ps.map fun p => cutF p.b p.l p.h).sum + unit * (k - 30) + l, ms.sum + d] (fun x hx => by simp at hx; rcases hx with rfl | rfl | rfl | rfl | rfl <;> assumption) (Nat.le_of_ble_eq_true rfl) q q0 q1
end
end K56
namespace K56
open PySem PySem.Spec PyProof.Rows L2 DL KM
section
variable {P : Program} {w : World} {K : PySem.W.Frag} {mg : Str → Option Value} {base : Heap} {cBP cBL cPE : Addr}
abbrev s__law_right : Stmt := top 38
theorem sc__law_right : FnScope ["parts", "room", "handed", "told", "sizes", "ratio", "least", "most", "due", "one"] ["parts", "room"] (defScope s__law_right) := ⟨rfl, rfl, rfl, by decide +kernel, rfl, by decide +kernel, by decide +kernel⟩
theorem ok__law_right {f : Addr} {fd : FuncData} (F : Fun K "_law_right" "_law_right" s__law_right f fd) (hm : mg "_law_right" = some (.ref f)) (hb : Binds K fd ["parts", "room"] []) (T : Txt K mg cBP cBL cPE) (h_shares : DFn P w K mg base 5 "shares" ["parts", "room"] (phi_shares cBP)) (h__law_same : DFn P w K mg base 1 "_law_same" ["told", "due"] phi_same) (h__law_ends : DFn P w K mg base 2 "_law_ends" ["parts"] phi__law_ends) (h__law_is_nearest : DFn P w K mg base 3 "_law_is_nearest" ["parts", "room", "told"] phi__law_is_nearest) (h__law_wholes : DFn P w K mg base 1 "_law_wholes" ["tops", "low"] phi__law_wholes) (h__law_tops : DFn P w K mg base 2 "_law_tops" ["parts", "top", "low"] phi__law_tops) : DFn P w K mg base 6 "_law_right" ["parts", "room"] phi__law_right := by
  refine okD F sc__law_right hm hb (gSp_len fun a => by first | rfl | (cases a <;> rfl)) (fun cdv A outer s H E pa G hr => ⟨_, (dss_cons (ds_setO (i := 2) sc__law_right.nd rfl (.inl rfl) (do_lstOf T.list (da_cons (dv 0) da_nil)))
      (dss_cons (ds_set (i := 3) sc__law_right.nd rfl (.inl rfl) (de_callX h_shares (hr.mono (by decide)) (takes_of rfl rfl rfl rfl) (da_cons (dv 2) (da_cons (dv 1) da_nil))))
      (dss_cons (ds_if (DW.dt (dw_or (dt_not (dt_val (de_isi .tuple T.isinstance T.tuple (dv 3)))) (dw_or (dt_ne hr.units (de_lenV 3 T.len) de_int) (dw_or1 (dt_not (dt_val (de_call h__law_same (hr.mono (by decide)) (da_cons (dv 2) (da_cons (dv 0) da_nil)))))))))
        (dss_one (ds_ret de_bl))
        dss_nil)
      (dss_cons (ds_asg (dv 3) (dg_tup (n := 2) rfl (dgs_cons (dg_name (i := 4) sc__law_right.nd rfl (.inl rfl)) (dgs_cons (dg_name (i := 5) sc__law_right.nd rfl (.inl rfl)) dgs_nil))))
      (dss_cons (ds_asg (de_call h__law_ends (hr.mono (by decide)) (da_cons (dv 0) da_nil)) (dg_tup (n := 2) rfl (dgs_cons (dg_name (i := 6) sc__law_right.nd rfl (.inl rfl)) (dgs_cons (dg_name (i := 7) sc__law_right.nd rfl (.inl rfl)) dgs_nil))))
      (dss_cons (ds_if (dt_lt (dv 1) (de_sum T.sum (da_cons (dv 6) da_nil)))
        (dss_one (ds_ret (de_and (de_isN (dv 5)) (de_one (de_call h__law_same (hr.mono (by decide)) (da_cons (dv 4) (da_cons (dv 6) da_nil)))))))
        dss_nil)
      (dss_cons (ds_if (DW.dt (dw_and (dt_notN (dv 7)) (dw_and1 (dt_gt (dv 1) (de_sum T.sum (da_cons (dv 7) da_nil))))))
        (dss_one (ds_ret (de_and (de_isN (dv 5)) (de_one (de_call h__law_same (hr.mono (by decide)) (da_cons (dv 4) (da_cons (dv 7) da_nil)))))))
        dss_nil)
      (dss_cons (ds_if (DW.dt (dw_or (dt_not (dt_val (de_isi .tuple T.isinstance T.tuple (dv 5)))) (dw_or (dt_ne hr.units (de_lenV 5 T.len) de_int) (dw_or1 (dt_not (dt_val (de_all T.all (da_cons (de_of (do_lc (own := [("one", 9)]) rfl sc__law_right.nd (di_seq (dv 5)) (blkOk_by (own := [("one", 9)]) (N := ["parts", "room", "handed", "told", "sizes", "ratio", "least", "most", "due", "one"]) (sc := defScope s__law_right) (by decide +kernel)) (by decide) (fun _ _ _ _ _ => (dg_name (i := 9) sc__law_right.nd rfl (.inl rfl))) (fun _ _ _ _ _ => dts_nil) (fun _ _ _ _ _ => (de_and (de_isi .int T.isinstance T.int (dv 9)) (de_one (de_not (de_isi .bool T.isinstance T.bool (dv 9)))))))) da_nil))))))))
        (dss_one (ds_ret de_bl))
        dss_nil)
      (dss_cons (ds_if (dt_not (dt_val (de_call h__law_is_nearest (hr.mono (by decide)) (da_cons (dv 0) (da_cons (dv 1) (da_cons (dv 5) da_nil))))))
        (dss_one (ds_ret de_bl))
        dss_nil)
      (dss_cons (ds_set (i := 8) sc__law_right.nd rfl (.inl rfl) (de_call h__law_wholes (hr.mono (by decide)) (da_cons (de_call h__law_tops (hr.mono (by decide)) (da_cons (dv 0) (da_cons (de_ixV 5 de_int) (da_cons (de_ixV 5 de_int) da_nil)))) (da_cons (de_ixV 5 de_int) da_nil))))
      (dss_one (ds_ret (de_and (de_call h__law_same (hr.mono (by decide)) (da_cons (dv 4) (da_cons (dv 8) da_nil))) (de_one (de_eq hr.units (de_sum T.sum (da_cons (dv 8) da_nil)) (dv 1)))))))))))))))), gSp_go fun a => ?_⟩)
  have hLP := a.L
  have e0 : a.L = ⟨a.L.P, a.L.ls, a.L.len⟩ := rfl
  have hms : (a.L.P.ps.map leastI).length ≤ 1000 := by rw [List.length_map]; have := a.L.len; omega
  have hle := least_le_sum (top := 0) (low := 1) (by decide) a.L.P.oks (least_is a.L)
  rw [Int.mul_one] at hle
  refine ⟨(Sum.inl a : ShA), rfl, fun d hd => ?_, cno⟩
  have hd : d = sharesD a := hd
  rcases ratio_right (room := a.room) a.L.P.oks with ⟨h1, h2, ms, h3, h4⟩ | ⟨h1, h2, ms, h3, h4⟩ | ⟨r, h1, near⟩
  · rw [shares_most a h1 h2 h3] at hd
    subst hd
    have hl : ms.length ≤ 1000 := by have := congrArg List.length h3; rw [List.length_map, List.length_map] at this; have := a.L.len; omega
    refine ⟨sameParts a.L, rfl, ceq ?_, cno⟩
    refine ⟨rfl, rfl, a.L, rfl, ceq ⟨rfl, rfl, a.L.P.ps.map leastI, rfl, ?_⟩, cno⟩
    refine dIf (fun c => ?_) (fun c => ?_)
    · exact absurd c (by omega)
    · rcases most_cases a.L.P.ps with ⟨_, no⟩ | ⟨ms', e1, e2⟩
      · exact absurd ⟨ms, h3⟩ no
      · have e3 : ms' = ms := some_inj (e1.symm.trans h3)
        subst e3
        rw [e2]
        refine ⟨ms', rfl, ?_⟩
        refine bT (decide_eq_true h4) ?_
        exact ⟨sameInts ms' hl, rfl, ceq rfl, cno⟩
  · rw [shares_least a h1 h2 h3] at hd
    subst hd
    have e3 : ms = a.L.P.ps.map leastI := some_inj (h3.symm.trans (least_is a.L))
    subst e3
    refine ⟨sameParts a.L, rfl, ceq ?_, cno⟩
    refine ⟨rfl, rfl, a.L, rfl, ceq ⟨rfl, rfl, a.L.P.ps.map leastI, rfl, ?_⟩, cno⟩
    refine dIf (fun c => ?_) (fun c => ?_)
    · exact ⟨sameInts _ hms, rfl, ceq rfl, cno⟩
    · exact absurd h4 c
  · rw [shares_ratio a h1] at hd
    subst hd
    have rb := ratio_bd a h1
    have hle2 := least_le_sum (top := r.1) near.low a.L.P.oks (least_is a.L)
    rw [near.sum] at hle2
    have hle3 := Int.le_of_mul_le_mul_right hle2 near.low
    refine ⟨sameParts a.L, rfl, ceq ?_, cno⟩
    refine ⟨rfl, rfl, a.L, rfl, ceq ⟨rfl, rfl, a.L.P.ps.map leastI, rfl, ?_⟩, cno⟩
    refine dIf (fun c => ?_) (fun c => ?_)
    · exact absurd c (by omega)
    · rcases most_cases a.L.P.ps with ⟨e2, no⟩ | ⟨ms', e1, e2⟩
      · rw [e2]
        have hw : (wholesF (topsF a.L.P.ps r.1 r.2) r.2).length ≤ 1000 := by
          unfold wholesF
          rw [wholes_len, tops_len]; have := a.L.len; omega
        have hws : (wholesF (topsF a.L.P.ps r.1 r.2) r.2).sum = a.room := wholes_right near.low near.sum
        refine lc_map (enc := D.int) (xs := [r.1, r.2]) (fun _ => .bl true) rfl sz (fun p hp => rfl) ⟨[true, true], rfl, ?_⟩
        refine ⟨⟨a, r, near, rb⟩, rfl, ceq ?_, cno⟩
        refine ⟨rfl, _, rfl, rfl, _, rfl, ⟨a.L, r.1, r.2, rb.a.mono (by decide), rb.c.mono (by decide), rb.pos⟩, rfl, ceq ⟨rfl, _, rfl, ⟨topsF a.L.P.ps r.1 r.2, r.2, by rw [tops_len]; have := a.L.len; omega, rb.pos, rb.c.mono (by decide)⟩, rfl, ceq ?_, cno⟩, cno⟩
        refine ⟨sameInts _ hw, rfl, ceq ⟨wholesF (topsF a.L.P.ps r.1 r.2) r.2, rfl, ?_⟩, cno⟩
        show D.bl (decide ((wholesF (topsF a.L.P.ps r.1 r.2) r.2).sum = a.room)) = D.bl true
        rw [decide_eq_true hws]
      · have hle4 := sum_le_most (top := r.1) near.low a.L.P.oks e1
        rw [near.sum] at hle4
        have hle5 := Int.le_of_mul_le_mul_right hle4 near.low
        rw [e2]
        refine ⟨ms', rfl, bF (decide_eq_false (by omega)) ?_⟩
        have hw : (wholesF (topsF a.L.P.ps r.1 r.2) r.2).length ≤ 1000 := by
          unfold wholesF
          rw [wholes_len, tops_len]; have := a.L.len; omega
        have hws : (wholesF (topsF a.L.P.ps r.1 r.2) r.2).sum = a.room := wholes_right near.low near.sum
        refine lc_map (enc := D.int) (xs := [r.1, r.2]) (fun _ => .bl true) rfl sz (fun p hp => rfl) ⟨[true, true], rfl, ?_⟩
        refine ⟨⟨a, r, near, rb⟩, rfl, ceq ?_, cno⟩
        refine ⟨rfl, _, rfl, rfl, _, rfl, ⟨a.L, r.1, r.2, rb.a.mono (by decide), rb.c.mono (by decide), rb.pos⟩, rfl, ceq ⟨rfl, _, rfl, ⟨topsF a.L.P.ps r.1 r.2, r.2, by rw [tops_len]; have := a.L.len; omega, rb.pos, rb.c.mono (by decide)⟩, rfl, ceq ?_, cno⟩, cno⟩
        refine ⟨sameInts _ hw, rfl, ceq ⟨wholesF (topsF a.L.P.ps r.1 r.2) r.2, rfl, ?_⟩, cno⟩
        show D.bl (decide ((wholesF (topsF a.L.P.ps r.1 r.2) r.2).sum = a.room)) = D.bl true
        rw [decide_eq_true hws]
end
end K56
namespace K56
open PySem PySem.Spec PyProof.Rows L2 DL KM
section
variable {P : Program} {w : World} {K : PySem.W.Frag} {mg : Str → Option Value} {base : Heap} {cBP cBL cPE : Addr}
abbrev s__law_refused : Stmt := top 41
theorem sc__law_refused : FnScope ["pool", "parts", "room", "at", "base", "weight", "lo", "hi", "wrong", "turn", "one", "strange"] ["pool", "parts", "room"] (defScope s__law_refused) := ⟨rfl, rfl, rfl, by decide +kernel, rfl, by decide +kernel, by decide +kernel⟩
theorem ok__law_refused {f : Addr} {fd : FuncData} (F : Fun K "_law_refused" "_law_refused" s__law_refused f fd) (hm : mg "_law_refused" = some (.ref f)) (hb : Binds K fd ["pool", "parts", "room"] []) (T : Txt K mg cBP cBL cPE) (h__law_pick : DFn P w K mg base 1 "_law_pick" ["pool", "many"] phi_pick) (h__law_part : DFn P w K mg base 2 "_law_part" ["pool", "unit"] phi__law_part) (h__law_far : DFn P w K mg base 2 "_law_far" ["pool", "many"] phi__law_far) (h__law_outcome : DFn P w K mg base 6 "_law_outcome" ["parts", "room"] phi__law_outcome) (h__law_right : DFn P w K mg base 6 "_law_right" ["parts", "room"] phi__law_right) : DFn P w K mg base 7 "_law_refused" ["pool", "parts", "room"] phi__law_refused := by
  refine okD F sc__law_refused hm hb (gSp_len fun a => by first | rfl | (cases a <;> rfl)) (fun cdv A outer s H E pa G hr => ⟨_, (dss_cons (ds_set (i := 3) sc__law_refused.nd rfl (.inl rfl) (de_mod (de_intc T.int (da_cons (de_call h__law_pick (hr.mono (by decide)) (da_cons (dv 0) (da_cons de_int da_nil))) da_nil)) (de_add (de_lenV 1 T.len) de_int)))
      (dss_cons (ds_asg (de_call h__law_part (hr.mono (by decide)) (da_cons (dv 0) (da_cons de_int da_nil))) (dg_tup (n := 4) rfl (dgs_cons (dg_name (i := 4) sc__law_refused.nd rfl (.inl rfl)) (dgs_cons (dg_name (i := 5) sc__law_refused.nd rfl (.inl rfl)) (dgs_cons (dg_name (i := 6) sc__law_refused.nd rfl (.inl rfl)) (dgs_cons (dg_name (i := 7) sc__law_refused.nd rfl (.inl rfl)) dgs_nil))))))
      (dss_cons (ds_setO (i := 8) sc__law_refused.nd rfl (.inl rfl) (do_lst (da_cons (de_tup (da_cons (dv 4) (da_cons (de_sub (de_sub de_int de_int) (dv 5)) (da_cons (dv 6) (da_cons (dv 7) da_nil))))) (da_cons (de_tup (da_cons (dv 4) (da_cons (dv 5) (da_cons (dv 6) (da_cons (de_sub (dv 6) de_int) da_nil))))) (da_cons (de_of (do_lst (da_cons (dv 4) (da_cons (dv 5) (da_cons (dv 6) (da_cons (dv 7) da_nil)))))) (da_cons (de_tup (da_cons (dv 4) (da_cons (dv 5) (da_cons (dv 6) da_nil)))) (da_cons (de_tup (da_cons (dv 4) (da_cons (dv 5) (da_cons (dv 6) (da_cons (dv 7) (da_cons de_int da_nil)))))) (da_cons (de_tup (da_cons de_non (da_cons (dv 5) (da_cons (dv 6) (da_cons (dv 7) da_nil))))) (da_cons (de_tup (da_cons (dv 4) (da_cons de_str (da_cons (dv 6) (da_cons (dv 7) da_nil))))) (da_cons (de_tup (da_cons (dv 4) (da_cons (dv 5) (da_cons de_non (da_cons (dv 7) da_nil))))) (da_cons (de_tup (da_cons de_bl (da_cons (dv 5) (da_cons (dv 6) (da_cons de_non da_nil))))) (da_cons (de_tup (da_cons (dv 4) (da_cons de_bl (da_cons (dv 6) (da_cons (dv 7) da_nil))))) (da_cons (de_tup (da_cons (dv 4) (da_cons (dv 5) (da_cons de_bl (da_cons de_non da_nil))))) (da_cons (de_tup (da_cons de_int (da_cons de_int (da_cons de_int (da_cons de_bl da_nil))))) (da_cons (de_tup (da_cons (dv 4) (da_cons (dv 5) (da_cons (dv 6) (da_cons de_str da_nil))))) (da_cons (de_tup (da_cons (dv 4) (da_cons (dv 5) (da_cons (dv 6) (da_cons (de_tup (da_cons (dv 7) da_nil)) da_nil))))) (da_cons de_non (da_cons (de_tup da_nil) (da_cons de_str (da_cons de_int (da_cons (de_tup (da_cons (dv 4) (da_cons (de_tup (da_cons (dv 5) da_nil)) (da_cons (dv 6) (da_cons (dv 7) da_nil))))) da_nil)))))))))))))))))))))
      (dss_cons (ds_for (passes_of rfl) rfl (di_rng1 T.range (da_cons de_int da_nil)) (dg_name (i := 9) sc__law_refused.nd rfl (.inl rfl))
        (dss_cons (ds_set (i := 10) sc__law_refused.nd rfl (.inl rfl) (de_ixV 8 (de_mod (de_intc T.int (da_cons (de_call h__law_far (hr.mono (by decide)) (da_cons (dv 0) (da_cons de_int da_nil))) da_nil)) (de_lenV 8 T.len))))
        (dss_one (ds_if (dt_not (dt_val (de_call h__law_outcome (hr.mono (by decide)) (da_cons (de_of (do_cat (de_of (do_cat (de_of (do_sl (dv 1) dp_none (dp_some (dv 3)))) (de_of (do_lst (da_cons (dv 10) da_nil))))) (de_of (do_sl (dv 1) (dp_some (dv 3)) dp_none)))) (da_cons (dv 2) da_nil)))))
          (dss_one (ds_ret de_bl))
          dss_nil))))
      (dss_cons (ds_for (passes_of rfl) rfl (di_seq (de_of (do_lst (da_cons (de_tupOf T.tuple (da_cons (dv 1) da_nil)) (da_cons de_non (da_cons de_dct (da_cons de_str (da_cons de_int (da_cons de_bl (da_cons (de_tup (da_cons (dv 1) da_nil)) da_nil)))))))))) (dg_name (i := 10) sc__law_refused.nd rfl (.inl rfl))
        (dss_one (ds_if (dt_not (dt_val (de_call h__law_outcome (hr.mono (by decide)) (da_cons (dv 10) (da_cons (dv 2) da_nil)))))
          (dss_one (ds_ret de_bl))
          dss_nil)))
      (dss_cons (ds_if (DW.dt (dw_or (dt_not (dt_val (de_call h__law_outcome (hr.mono (by decide)) (da_cons (de_of (do_rep (de_of (do_lst (da_cons (de_tup (da_cons de_int (da_cons de_int (da_cons de_int (da_cons de_non da_nil))))) da_nil))) de_int)) (da_cons (dv 2) da_nil))))) (dw_or1 (dt_not (dt_val (de_call h__law_right (hr.mono (by decide)) (da_cons (de_of (do_rep (de_of (do_lst (da_cons (de_tup (da_cons de_int (da_cons de_int (da_cons de_int (da_cons de_non da_nil))))) da_nil))) de_int)) (da_cons (de_add de_int (de_call h__law_pick (hr.mono (by decide)) (da_cons (dv 0) (da_cons de_int da_nil)))) da_nil))))))))
        (dss_one (ds_ret de_bl))
        dss_nil)
      (dss_cons (ds_setO (i := 11) sc__law_refused.nd rfl (.inl rfl) (do_lst (da_cons de_non (da_cons de_bl (da_cons de_bl (da_cons de_str (da_cons (de_tup (da_cons (dv 2) da_nil)) (da_cons (de_of (do_lst (da_cons (dv 2) da_nil))) (da_cons de_dct da_nil)))))))))
      (dss_one (ds_ret (de_and (de_call h__law_outcome (hr.mono (by decide)) (da_cons (dv 1) (da_cons (de_ixV 11 (de_call h__law_pick (hr.mono (by decide)) (da_cons (dv 0) (da_cons de_int da_nil)))) da_nil))) (de_one (de_call h__law_outcome (hr.mono (by decide)) (da_cons (de_of (do_lst da_nil)) (da_cons (de_ixV 11 (de_call h__law_pick (hr.mono (by decide)) (da_cons (dv 0) (da_cons de_int da_nil)))) da_nil)))))))))))))), gSp_go fun a => ?_⟩)
  obtain ⟨⟨Ps, ls, len⟩, u, u0, u1⟩ := a
  have hd : (Ps.ps.map ptD).length = Ps.ps.length := List.length_map _
  refine pk (by decide) fun i i0 i1 => ⟨by show (0 : Int) < ((Ps.ps.map ptD).length : Int) + 1; omega, ?_⟩
  refine ⟨⟨5, by decide⟩, rfl, fun d hd => ?_, cno⟩
  obtain ⟨⟨b, w, l, h⟩, rfl, B, x, hx⟩ := hd
  dsimp only at hx
  subst hx
  have w0 : 0 ≤ w := B.ok.w0
  refine ⟨rfl, rfl, sz, sz, sz, sz, sz, sz, sz, sz, sz, sz, sz, sz, sz, sz, sz, sz, sz, sz, sz, ?_⟩
  have tail : ∀ ds : List D, ∀ a b : Option Int, (DL.cutD ds a b).length ≤ ds.length := fun ds a b => by
    unfold DL.cutD
    rw [List.length_take, List.length_drop]
    omega
  refine ⟨⟨by decide, by decide⟩, for_rng (fun k τ => ∃ v9 v10, τ = [sD .pool, sD (Ps.d), sD (.int u), sD (.int (i % (((Ps.ps.map ptD).length : Int) + 1))), sD (.int b), sD (.int w), sD (.int x), sD (optD h), oD (wrongs b w x (optD h)), v9, v10, none]) ⟨none, none, rfl⟩ ?_ ?_⟩
  · rintro k τ hk ⟨v9, v10, rfl⟩
    refine ⟨rfl, pk (by decide) fun j j0 j1 => ⟨(by decide : (0 : Int) < 19), ?_⟩⟩
    obtain ⟨z, ez, mz⟩ := at_inD (ds := wrongs b w x (optD h)) (i := j % 19) (Int.emod_nonneg _ (by decide)) (Int.emod_lt_of_pos _ (by decide : (0 : Int) < 19))
    have l1 := tail (Ps.ps.map ptD) none (some (i % (((Ps.ps.map ptD).length : Int) + 1)))
    have l2 := tail (Ps.ps.map ptD) (some (i % (((Ps.ps.map ptD).length : Int) + 1))) none
    refine ⟨z, ez, sz, ?_, ?_, ?_⟩
    · rw [sizeLine_eq]
      show (DL.cutD (Ps.ps.map ptD) none (some (i % (((Ps.ps.map ptD).length : Int) + 1)))).length + 1 ≤ _
      omega
    · rw [sizeLine_eq]
      show (DL.cutD (Ps.ps.map ptD) none (some (i % (((Ps.ps.map ptD).length : Int) + 1))) ++ [z]).length + (DL.cutD (Ps.ps.map ptD) (some (i % (((Ps.ps.map ptD).length : Int) + 1))) none).length ≤ _
      rw [List.length_append, List.length_singleton]
      omega
    · exact ⟨⟨.lst _, .int u, trivial, bad_in (List.mem_append_left _ (List.mem_append_right _ List.mem_cons_self)) (wrongs_bad w0 z mz) _⟩, rfl, ceq ⟨sD (.int (0 + k)), sD z, rfl⟩, cno⟩
  rintro τ ⟨v9, v10, rfl⟩
  refine ⟨sz, sz, for_pre (enc := id) (xs := [.tup (Ps.ps.map ptD), .non, .dct, .str "", .int 0, .bl true, .tup [.lst (Ps.ps.map ptD)]]) (fun pre τ => ∃ v9 v10, τ = [sD .pool, sD (Ps.d), sD (.int u), sD (.int (i % (((Ps.ps.map ptD).length : Int) + 1))), sD (.int b), sD (.int w), sD (.int x), sD (optD h), oD (wrongs b w x (optD h)), v9, v10, none]) (List.map_id _).symm ⟨v9, v10, rfl⟩ ?_ ?_⟩
  · rintro pre z post τ e ⟨v9, v10, rfl⟩
    have mz : z ∈ [.tup (Ps.ps.map ptD), .non, .dct, .str "", .int 0, .bl true, .tup [.lst (Ps.ps.map ptD)]] := by rw [e]; simp
    have hz : noPool z ∧ okP z (.int u) = false := by
      simp only [List.mem_cons, List.mem_nil_iff, or_false] at mz
      rcases mz with rfl | rfl | rfl | rfl | rfl | rfl | rfl <;> exact ⟨trivial, rfl⟩
    exact ⟨⟨z, .int u, hz.1, hz.2⟩, rfl, ceq ⟨v9, sD z, rfl⟩, cno⟩
  rintro τ ⟨v9, v10, rfl⟩
  have e1 : ∀ n : Nat, (List.replicate n [D.tup [.int 1, .int 0, .int 0, .non]]).flatten = (List.replicate n (⟨1, 0, some 0, none⟩ : Pt)).map ptD := fun n => by rw [rep_one, List.map_replicate]; rfl
  refine ⟨sz, sz, ⟨by decide, by decide, sz⟩, ⟨⟨.lst (List.replicate 201 [D.tup [.int 1, .int 0, .int 0, .non]]).flatten, .int u, trivial, bad_len (by rw [e1, List.length_map, List.length_replicate]; decide) _⟩, rfl, ceq ?_, cno⟩⟩
  refine ⟨sz, sz, ⟨by decide, by decide, sz⟩, pk (by decide) fun j j0 j1 => ?_⟩
  refine ⟨⟨evens 200 (by decide), 200 + j, Bd.mono (a := 10) (by unfold Bd; omega) (by decide)⟩, ?_, ceq ?_, cno⟩
  · show [D.lst (List.replicate 200 [D.tup [.int 1, .int 0, .int 0, .non]]).flatten, D.int (200 + j)] = [D.lst ((List.replicate 200 (⟨1, 0, some 0, none⟩ : Pt)).map ptD), .int (200 + j)]
    rw [e1]
  refine ⟨sz, sz, sz, rfl, pk (by decide) fun j j0 j1 => ?_⟩
  obtain ⟨z, ez, mz⟩ := at_inD (ds := stranges u) j0 j1
  refine ⟨z, ez, ⟨.lst (Ps.ps.map ptD), z, trivial, bad_room (stranges_bad u z mz)⟩, rfl, ceq ?_, cno⟩
  refine ⟨sz, rfl, pk (by decide) fun j j0 j1 => ?_⟩
  obtain ⟨z, ez, mz⟩ := at_inD (ds := stranges u) j0 j1
  exact ⟨z, ez, ⟨.lst [], z, trivial, bad_room (stranges_bad u z mz)⟩, rfl, ceq rfl, cno⟩
end
end K56
namespace K56
open PySem PySem.Spec PyProof.Rows L2 DL KM
section
variable {P : Program} {w : World} {K : PySem.W.Frag} {mg : Str → Option Value} {base : Heap} {cBP cBL cPE : Addr}
abbrev s__law_outcome : Stmt := top 40
theorem sc__law_outcome : FnScope ["parts", "room", "e"] ["parts", "room"] (defScope s__law_outcome) := ⟨rfl, rfl, rfl, by decide +kernel, rfl, by decide +kernel, by decide +kernel⟩
theorem ok__law_outcome {f : Addr} {fd : FuncData} (F : Fun K "_law_outcome" "_law_outcome" s__law_outcome f fd) (hm : mg "_law_outcome" = some (.ref f)) (hb : Binds K fd ["parts", "room"] []) (T : Txt K mg cBP cBL cPE) (h_shares : DFn P w K mg base 5 "shares" ["parts", "room"] (phi_shares cBP)) : DFn P w K mg base 6 "_law_outcome" ["parts", "room"] phi__law_outcome := by
  obtain ⟨fS, fdS, FS, mS, kS, bS⟩ := h_shares.ex
  refine ⟨f, fd, F.okX sc__law_outcome (fun vs H Q E h => ?_) (fun cdv A outer s H vs Q E hr h => ?_), hm, F.kp, hb⟩
  · obtain ⟨G, pa, ds, _, _, r, a, rfl, _⟩ := h
    rw [r.length]; rfl
  · obtain ⟨G, pa, ds, hp, sm, r, a, rfl, k, _⟩ := h
    obtain ⟨v1, v2, rfl, r1, r2⟩ : ∃ v w, vs = [v, w] ∧ Rep K pa G v a.ps ∧ Rep K pa G w a.room := by
      cases r with
      | cons x r => cases r with
        | cons y r => cases r; exact ⟨_, _, rfl, x, y⟩
    have hr1 : Room 5 _ := hr.mono (by decide)
    refine ⟨_, pss_cons (ps_try_as (i := 2) (tb := fun W => tDrop (tCallS (spD K (phi_shares cBP)) (WE W) (tCons (tVar 0) (tCons (tVar 1) tNil)))) (ts := fun a cls d => fun D σ H => (cls = .ref cBP ∧ d = none) ∧ σ[2]? = some (some (.ref a)) ∧ D.rt (.bl true) H) (Wout := fun _ _ _ _ => False) rfl rfl sc__law_outcome.nd rfl rfl ⟨rfl, by decide, Or.inl T.g_PageError⟩ takes0
      (fun W pn xe tk _ => pss_one (ps_expr (by exact (pe_callS FS hr1 rfl mS kS bS (fun σ => passAt tk σ) (by exact (pa_cons (pv 0) (pa_cons (pv 1) pa_nil)))))))
      (fun a oe cls d pn hz hf => ?_)) (pss_one (ps_ret pe_bl)), ?_⟩
    · by_cases c : cls = .ref cBP ∧ d = none
      · obtain ⟨rfl, rfl⟩ := c
        refine pssImp (pss_one (ps_ret (pe_and (pe_callB (call_isE T.e_BadParts hz hf) rfl T.isinstance (by decide +kernel) (pa_cons (pv 2) (pa_cons (pe_glob (v := .ref cBP) rfl T.x_BadParts.mg rfl) pa_nil)))
          (pe_one (pe_not (pe_callB (call_isE T.e_BadParts hz hf) rfl T.isinstance (by decide +kernel) (pa_cons (pv 2) (pa_cons (pe_glob (v := .ref cBL) rfl T.g_BadList rfl) pa_nil)))))))) fun D σ H q => ?_
        obtain ⟨_, h2, q⟩ := q
        exact ⟨_, h2, _, _, true, rfl, fun u e => e, T.is1, _, rfl, _, h2, _, _, false, rfl, fun u e => e, T.is2, _, rfl, q⟩
      · exact ⟨fun pins s σ H D I q => absurd q.1 c⟩
    · refine ⟨_, rfl, _, rfl, G, pa, [a.ps, a.room], hp, sm, .cons r1 (.cons r2 .nil), (Sum.inr a : ShA), rfl, fun d hd => hd.elim, fun c hc => ?_⟩
      have hc : c = cBP := hc
      subst hc
      intro G' H' t
      exact ⟨true, T.exm, fun _ x hx => ⟨⟨rfl, rfl⟩, rfl, k (.bl true) rfl (.bl true) G' H' t (.bl true)⟩, fun z => nomatch z⟩

end
end K56
namespace K56
open PySem PySem.Spec PyProof.Rows L2 DL KM
section
variable {P : Program} {w : World} {K : PySem.W.Frag} {mg : Str → Option Value} {base : Heap} {cBP cBL cPE : Addr}
abbrev s__law_great : Stmt := top 42
theorem sc__law_great : FnScope ["pool", "parts", "k"] ["pool"] (defScope s__law_great) := ⟨rfl, rfl, rfl, by decide +kernel, rfl, by decide +kernel, by decide +kernel⟩
theorem ok__law_great {f fL : Addr} {fd fdL : FuncData} (F : Fun K "_law_great" "_law_great" s__law_great f fd) (T : Txt K mg cBP cBL cPE) (FL : FnOk P w K mg base (L2.CX P w) 1 fL fdL ["pool", "many"] spLonger) (mL : mg "_law_longer" = some (.ref fL)) (kL : PySem.W.keepIn K (.ref fL) = true) (bL : Binds K fdL ["pool", "many"] [])
    (h__law_pick : DFn P w K mg base 1 "_law_pick" ["pool", "many"] phi_pick) (h__law_far : DFn P w K mg base 2 "_law_far" ["pool", "many"] phi__law_far) (h__law_part : DFn P w K mg base 2 "_law_part" ["pool", "unit"] phi__law_part) (h__law_right : DFn P w K mg base 6 "_law_right" ["parts", "room"] phi__law_right) (h__law_outcome : DFn P w K mg base 6 "_law_outcome" ["parts", "room"] phi__law_outcome) :
    FnOk P w K mg base (L2.CX P w) 8 f fd ["pool"] spGreat := by
  refine F.okX sc__law_great (fun vs H Q E h => ?_) (fun cdv A outer s H vs Q E hr h => ?_)
  · obtain ⟨a, pl, rfl, _⟩ := h
    rfl
  · obtain ⟨a, pl, rfl, hp, hl, k⟩ := h
    refine ⟨_, pss_cons (ps_set (i := 0) sc__law_great.nd rfl (.inr rfl) (pe_call FL (hr.mono (by decide)) rfl mL kL bL .nil passL (pa_cons (pv 0) (pa_cons pe_int pa_nil)))) (pss_ex (ι := Hp × Hp × Addr) fun i => (DSs.ps (B := ⟨K, some i.2.2, i.1, i.2.1, E⟩)
      (dss_cons (ds_setLc (i := 1) (own := [("k", 2)]) rfl sc__law_great.nd rfl rfl (sw_true rfl rfl rfl (by decide +kernel)) [] (di_rng1 T.range (da_cons (de_add de_int (de_call h__law_pick (hr.mono (by decide)) (da_cons (dv 0) (da_cons de_int da_nil)))) da_nil)) (blkOk_by (own := [("k", 2)]) (N := ["pool", "parts", "k"]) (sc := defScope s__law_great) (by decide +kernel)) (by decide) (fun _ _ _ _ _ => (dg_name (i := 2) sc__law_great.nd rfl (.inl rfl))) (fun _ _ _ _ _ => dts_nil) (fun _ _ _ _ _ => (de_call h__law_part (hr.mono (by decide)) (da_cons (dv 0) (da_cons (de_ix (de_of (do_lst (da_cons de_int (da_cons de_int da_nil)))) (de_call h__law_pick (hr.mono (by decide)) (da_cons (dv 0) (da_cons de_int da_nil)))) da_nil)))))
      (dss_cons (ds_if (dt_not (dt_val (de_call h__law_right (hr.mono (by decide)) (da_cons (dv 1) (da_cons (de_sub (de_mul de_int (de_call h__law_far (hr.mono (by decide)) (da_cons (dv 0) (da_cons de_int da_nil)))) de_int) da_nil)))))
        (dss_one (ds_ret de_bl))
        dss_nil)
      (dss_cons (ds_setO (i := 1) sc__law_great.nd rfl (.inl rfl) (do_cat (dv 1) (de_of (do_lc (own := [("k", 2)]) rfl sc__law_great.nd (di_rng1 T.range (da_cons (de_sub de_int (de_lenV 1 T.len)) da_nil)) (blkOk_by (own := [("k", 2)]) (N := ["pool", "parts", "k"]) (sc := defScope s__law_great) (by decide +kernel)) (by decide) (fun _ _ _ _ _ => (dg_name (i := 2) sc__law_great.nd rfl (.inl rfl))) (fun _ _ _ _ _ => dts_nil) (fun _ _ _ _ _ => (de_tup (da_cons (dv 2) (da_cons de_int (da_cons (de_sub de_int (dv 2)) (da_cons (de_add (de_mul de_int (dv 2)) de_int) da_nil))))))))))
      (dss_one (ds_ret (de_and (de_call h__law_right (hr.mono (by decide)) (da_cons (dv 1) (da_cons (de_call h__law_far (hr.mono (by decide)) (da_cons (dv 0) (da_cons de_int da_nil))) da_nil))) (de_one (de_call h__law_outcome (hr.mono (by decide)) (da_cons (de_of (do_cat (dv 1) (de_of (do_lst (da_cons (de_ixV 1 (de_call h__law_pick (hr.mono (by decide)) (da_cons (dv 0) (da_cons de_int da_nil)))) da_nil))))) (da_cons de_int da_nil)))))))))))), ?_⟩
    refine ⟨_, rfl, a, pl, 1500, rfl, hp, by decide, by omega, fun pl1 H1 b1 p1 l1 => ?_⟩
    refine ⟨(less H1 a, H1, a), less H1 a, _, [], pool_fits (k := 0) rfl, pool_sr p1, ?_⟩
    refine FS.go (E := ⟨fun _ => False, fun r => r = .bl true, fun _ => False, fun _ => False⟩) (ex := fun _ => False) ?_ (fun _ z => z.elim) (ends_true fun G' H' sb => ?_)
    · refine pk (by decide) fun i i0 i1 => ⟨⟨by omega, by omega⟩, ?_⟩
      refine lc_all (enc := fun k : Nat => .int (0 + (k : Int))) (xs := List.range (150 + i).toNat) (fun d => ∃ p : Pt, d = ptD p ∧ (PB p ∧ ∃ x, p.l = some x)) rfl (by rw [List.length_range, sizeLine_eq]; omega) (fun k hk => ?_) (fun es hes hall => ?_)
      · refine ⟨sz, pk (by decide) fun j j0 j1 => ?_⟩
        obtain ⟨z, ez, mz⟩ := at_in (ns := [1, 7]) j0 j1
        have hz : 0 ≤ z ∧ z ≤ 10 ^ 18 := by simp at mz; omega
        exact ⟨_, ez, ⟨z, hz⟩, rfl, fun d hd => hd, cno⟩
      · obtain ⟨ps, rfl, hps⟩ := gather hall
        have hlen : ps.length = (150 + i).toNat := by rw [List.length_map, List.length_range] at hes; exact hes
        have bnd : ∀ z : Int, -10000 ≤ z → z ≤ 10000 → Bd 20 z := fun z h1 h2 => by unfold Bd; omega
        refine pk (by decide) fun j j0 j1 => ⟨(bnd 7 (by decide) (by decide)).cm (bnd j (by omega) (by omega)) (by decide) (by decide) (by decide), ⟨mkLP ps hps (by omega), 7 * j - 200, (bnd _ (by omega) (by omega)).mono (by decide)⟩, rfl, ceq ?_, cno⟩
        have l2 : (200 - ((ps.map ptD).length : Int)).toNat = 200 - ps.length := by rw [List.length_map]; omega
        refine ⟨⟨by rw [List.length_map]; omega, by rw [List.length_map]; omega⟩, lc_map (enc := fun k : Nat => .int (0 + (k : Int))) (xs := List.range (200 - ((ps.map ptD).length : Int)).toNat) (fun k => ptD (lineP k)) rfl (by rw [List.length_range, l2, sizeLine_eq]; omega) (fun k hk => ?_) ?_⟩
        · have hk := List.mem_range.mp hk
          rw [l2] at hk
          exact ⟨(bnd 2 (by decide) (by decide)).cm (bnd (0 + (k : Int)) (by omega) (by omega)) (by decide) (by decide) (by decide), sz, rfl⟩
        · have e1 : ps.map ptD ++ (List.range (200 - ((ps.map ptD).length : Int)).toNat).map (fun k => ptD (lineP k)) = (ps ++ (List.range (200 - ps.length)).map lineP).map ptD := by
            rw [l2, List.map_append, List.map_map]; rfl
          have hall2 : ∀ p ∈ ps ++ (List.range (200 - ps.length)).map lineP, PB p ∧ ∃ x, p.l = some x := fun p hp => by
            rcases List.mem_append.mp hp with h | h
            · exact hps p h
            · obtain ⟨k, hk, rfl⟩ := List.mem_map.mp h
              exact lineP_ok (by have := List.mem_range.mp hk; omega)
          have hl3 : (ps ++ (List.range (200 - ps.length)).map lineP).length = 200 := by
            rw [List.length_append, List.length_map, List.length_range]; omega
          have hcat : (ps.map ptD).length + ((List.range (200 - ((ps.map ptD).length : Int)).toNat).map (fun k => ptD (lineP k))).length ≤ sizeLine := by
            rw [l2, List.length_map, List.length_map, List.length_range, sizeLine_eq]; omega
          refine ⟨hcat, ?_⟩
          rw [e1]
          generalize ps ++ (List.range (200 - ps.length)).map lineP = qs at hall2 hl3
          refine pk (by decide) fun m m0 m1 => ⟨⟨mkLP qs hall2 (by omega), m, (bnd m (by omega) (by omega)).mono (by decide)⟩, rfl, ceq ?_, cno⟩
          refine ⟨rfl, pk (by decide) fun n n0 n1 => ?_⟩
          obtain ⟨z, ez, mz⟩ := at_inD (ds := qs.map ptD) n0 (by rw [List.length_map]; omega)
          refine ⟨z, ez, sz, by rw [List.length_map, hl3]; exact sz, ⟨.lst (qs.map ptD ++ [z]), .int 5, trivial, bad_len (by rw [List.length_append, List.length_map, hl3, List.length_singleton]; decide) _⟩, rfl, ceq rfl, cno⟩
    · obtain ⟨pl2, p2⟩ := sb.poolAt rfl
      exact k pl2 H' (b1.keep.trans sb.keep) p2

end
end K56
namespace K56
open PySem PySem.Spec PyProof.Rows L2 DL KM
section
variable {P : Program} {w : World} {K : PySem.W.Frag} {mg : Str → Option Value} {base : Heap} {cBP cBL cPE : Addr}
abbrev s_law : Stmt := top 43
theorem sc_law : FnScope ["script", "pool", "kept", "was", "turn", "unit", "parts", "room", "told", "due", "k"] ["script"] (defScope s_law) := ⟨rfl, rfl, rfl, by decide +kernel, rfl, by decide +kernel, by decide +kernel⟩
def spLaw (K : PySem.W.Frag) : Sp := fun vs H Q _ => ∃ (a : Addr) (ns : List Int), vs = [.ref a] ∧ SqL K H a (ns.map V.int) ∧ ns.length ≤ 63 ∧ ∀ H', Q (.bl true) H'
theorem ok_law {f fSt fPk fG : Addr} {fd fdSt fdPk fdG : FuncData} (F : Fun K "law" "law" s_law f fd) (T : Txt K mg cBP cBL cPE)
    (FSt : FnOk P w K mg base (L2.CX P w) 2 fSt fdSt ["script"] (spStream K)) (mSt : mg "_law_stream" = some (.ref fSt)) (kSt : PySem.W.keepIn K (.ref fSt) = true) (bSt : Binds K fdSt ["script"] [])
    (FPk : FnOk P w K mg base (L2.CX P w) 1 fPk fdPk ["pool", "many"] spPick) (mPk : mg "_law_pick" = some (.ref fPk)) (kPk : PySem.W.keepIn K (.ref fPk) = true) (bPk : Binds K fdPk ["pool", "many"] [])
    (FG : FnOk P w K mg base (L2.CX P w) 8 fG fdG ["pool"] spGreat) (mG : mg "_law_great" = some (.ref fG)) (kG : PySem.W.keepIn K (.ref fG) = true) (bG : Binds K fdG ["pool"] [])
    (h__law_pick : DFn P w K mg base 1 "_law_pick" ["pool", "many"] phi_pick) (h__law_part : DFn P w K mg base 2 "_law_part" ["pool", "unit"] phi__law_part) (h__law_rooms : DFn P w K mg base 3 "_law_rooms" ["pool", "parts", "unit"] phi__law_rooms) (h__law_right : DFn P w K mg base 6 "_law_right" ["parts", "room"] phi__law_right)
    (h_shares : DFn P w K mg base 5 "shares" ["parts", "room"] (phi_shares cBP)) (h__law_refused : DFn P w K mg base 7 "_law_refused" ["pool", "parts", "room"] phi__law_refused) (h__law_same : DFn P w K mg base 1 "_law_same" ["told", "due"] phi_same) :
    FnOk P w K mg base (L2.CX P w) 9 f fd ["script"] (spLaw K) := by
  obtain ⟨fRo, fdRo, FRo, mRo, kRo, bRo⟩ := h__law_rooms.ex
  obtain ⟨fRi, fdRi, FRi, mRi, kRi, bRi⟩ := h__law_right.ex
  obtain ⟨fSh, fdSh, FSh, mSh, kSh, bSh⟩ := h_shares.ex
  obtain ⟨fRe, fdRe, FRe, mRe, kRe, bRe⟩ := h__law_refused.ex
  obtain ⟨fSa, fdSa, FSa, mSa, kSa, bSa⟩ := h__law_same.ex
  refine F.okX sc_law (fun vs H Q E h => ?_) (fun cdv A outer s H vs Q E hr h => ?_)
  · obtain ⟨a, ns, rfl, _⟩ := h
    rfl
  · obtain ⟨a, ns, rfl, hS, hn, k⟩ := h
    refine ⟨_, pss_cons (ps_set (i := 1) sc_law.nd rfl (.inr rfl) (pe_call FSt (hr.mono (by decide)) rfl mSt kSt bSt .nil passL (pa_cons (pv 0) pa_nil)))
      (pss_cut (ps_if (PW.pt (pw_and (pt_cmpR op_eq (pe_call FPk (hr.mono (by decide)) rfl mPk kPk bPk .nil passL (pa_cons (pv 1) (pa_cons pe_int pa_nil))) pe_int (nomark _)) (pw_and1 (pt_not (pt_val (pe_call FG (hr.mono (by decide)) rfl mG kG bG .nil passL (pa_cons (pv 1) pa_nil))))))) (pss_one (ps_ret pe_bl)) pss_nil)
      (pss_cons (ps_par (i := 2) (j := 3) rfl sc_law.nd rfl rfl (by decide) rfl rfl (pa_cons (pe_lst pa_nil) (pa_cons (pe_lst pa_nil) pa_nil)) rfl)
      (pss_cons (ps_for (passes_of rfl) rfl (pi_range1 rfl T.range (pa_cons pe_int pa_nil)) (pg_name (i := 4) sc_law.nd rfl (.inl rfl))
        (pss_cons (ps_ex (ι := Hp × Hp × Addr) fun i => (DS.ps (B := ⟨K, some i.2.2, i.1, i.2.1, E⟩) (ds_set (i := 5) sc_law.nd rfl (.inr rfl) (de_ix (de_of (do_lst (da_cons de_int (da_cons de_int (da_cons de_int (da_cons (de_pow de_int de_int) (da_cons (de_pow de_int de_int) da_nil))))))) (de_call h__law_pick (hr.mono (by decide)) (da_cons (dv 1) (da_cons de_int da_nil)))))))
        (pss_cons (ps_ex (ι := Hp × Hp × Addr) fun i => (DS.ps (B := ⟨K, some i.2.2, i.1, i.2.1, E⟩) (ds_setLc (i := 6) (own := [("k", 10)]) rfl sc_law.nd rfl rfl (sw_true rfl rfl rfl (by decide +kernel)) [] (di_rng1 T.range (da_cons (de_ix (de_of (do_lst (da_cons de_int (da_cons de_int (da_cons de_int (da_cons de_int (da_cons de_int (da_cons de_int (da_cons de_int (da_cons de_int da_nil)))))))))) (de_call h__law_pick (hr.mono (by decide)) (da_cons (dv 1) (da_cons de_int da_nil)))) da_nil)) (blkOk_by (own := [("k", 10)]) (N := ["script", "pool", "kept", "was", "turn", "unit", "parts", "room", "told", "due", "k"]) (sc := defScope s_law) (by decide +kernel)) (by decide) (fun _ _ _ _ _ => (dg_name (i := 10) sc_law.nd rfl (.inl rfl))) (fun _ _ _ _ _ => dts_nil) (fun _ _ _ _ _ => (de_call h__law_part (hr.mono (by decide)) (da_cons (dv 1) (da_cons (dv 5) da_nil)))))))
        (pss_cons (ps_for (passes_of rfl) rfl (pi_list (pe_call FRo (hr.mono (by decide)) rfl mRo kRo bRo .nil passL (pa_cons (pv 1) (pa_cons (pv 6) (pa_cons (pv 5) pa_nil))))) (pg_name (i := 7) sc_law.nd rfl (.inl rfl))
          (pss_cons (ps_if (pt_not (pt_val (pe_call FRi (hr.mono (by decide)) rfl mRi kRi bRi .nil passL (pa_cons (pv 6) (pa_cons (pv 7) pa_nil))))) (pss_one (ps_ret pe_bl)) pss_nil)
          (pss_cons (ps_set (i := 8) sc_law.nd rfl (.inl rfl) (pe_call FSh (hr.mono (by decide)) rfl mSh kSh bSh .nil passL (pa_cons (pe_callTy call_list_of rfl T.list (by decide +kernel) (pa_cons (pv 6) pa_nil)) (pa_cons (pv 7) pa_nil))))
          (pss_one (ps_expr (pe_bm PySem.F.plainAttrs_list PySem.F.slot_list_append PySem.F.type_list_append mt_append (pv 2) (pa_cons (pe_tup (pa_cons (pv 6) (pa_cons (pv 7) (pa_cons (pe_tup (pa_cons (pe_callTy call_list_of rfl T.list (by decide +kernel) (pa_cons (pe_ix ix_tup (pv 8) pe_int (fun _ _ => rfl)) pa_nil)) (pa_cons (pe_ix ix_tup (pv 8) pe_int (fun _ _ => rfl)) pa_nil))) (pa_cons (pv 8) pa_nil))))) pa_nil)))))))
        (pss_one (ps_if (pt_not (pt_val (pe_call FRe (hr.mono (by decide)) rfl mRe kRe bRe .nil passL (pa_cons (pv 1) (pa_cons (pv 6) (pa_cons (pv 5) pa_nil)))))) (pss_one (ps_ret pe_bl)) pss_nil))))))
      (pss_cons (ps_for (passes_of rfl) rfl (pi_list (pv 2)) (pg_tup rfl (pgs_cons (pg_name (i := 6) sc_law.nd rfl (.inl rfl)) (pgs_cons (pg_name (i := 7) sc_law.nd rfl (.inl rfl)) (pgs_cons (pg_name (i := 9) sc_law.nd rfl (.inl rfl)) (pgs_cons (pg_name (i := 8) sc_law.nd rfl (.inl rfl)) pgs_nil)))))
        (pss_cons (ps_if (pt_not (pt_val (pe_call FSa (hr.mono (by decide)) rfl mSa kSa bSa .nil passL (pa_cons (pv 8) (pa_cons (pv 9) pa_nil))))) (pss_one (ps_ret pe_bl)) pss_nil)
        (pss_cons (ps_expr (pe_bm PySem.F.plainAttrs_list PySem.F.slot_list_append PySem.F.type_list_append mt_append (pe_ix ix_tup (pv 8) pe_int (fun _ _ => rfl)) (pa_cons (pv 7) pa_nil)))
        (pss_one (ps_expr (pe_bm PySem.F.plainAttrs_list PySem.F.slot_list_append PySem.F.type_list_append mt_append (pv 3) (pa_cons (pe_call FSa (hr.mono (by decide)) rfl mSa kSa bSa .nil passL (pa_cons (pe_call FSh (hr.mono (by decide)) rfl mSh kSh bSh .nil passL (pa_cons (pe_callTy call_list_of rfl T.list (by decide +kernel) (pa_cons (pv 6) pa_nil)) (pa_cons (pv 7) pa_nil))) (pa_cons (pv 9) pa_nil))) pa_nil)))))))
      (pss_one (ps_ret (pe_callB (cr_all rfl) rfl T.all (by decide +kernel) (pa_cons (pv 3) pa_nil)))))))), ?_⟩
    refine ⟨_, rfl, a, ns, rfl, hS, hn, fun p pl H1 s1 n1 p1 l1 => ?_⟩
    refine ⟨fun σ' H' => σ' = [some (.ref a), some (.ref p), none, none, none, none, none, none, none, none, none] ∧ ∃ pl, PoolAt H' p pl, ?_, ?_⟩
    · refine ⟨_, rfl, p, pl, 60, rfl, p1, by decide, fun pl2 r H2 b2 p2 l2 r0 r1 => ⟨rfl, _, rfl, ite2 (fun c => ?_) (fun c => ?_)⟩⟩
      · exact ⟨_, rfl, p, pl2, rfl, p2, by omega, fun pl3 H3 k3 p3 => ⟨true, rfl, bF rfl ⟨rfl, pl3, p3⟩⟩⟩
      · exact bF rfl ⟨rfl, pl2, p2⟩
    rintro σ H2 ⟨rfl, pl, hp, hg⟩
    refine ⟨Nat.zero_le _, fun kp hk => ⟨Nat.zero_le _, fun wp hw => ⟨_, _, rfl, ?_⟩⟩⟩
    have npk : p ≠ kp := ne_of_none hp hk
    have npw : p ≠ wp := ne_of_none (by rw [upd_ne npk]; exact hp) hw
    have nkw : kp ≠ wp := ne_of_none upd_same hw
    have j0 : J K p kp wp (upd (upd H2 kp (.lst [])) wp (.lst [])) [] 0 := ⟨⟨pl, by rw [upd_ne npw, upd_ne npk]; exact hp, hg⟩, by rw [upd_ne nkw]; exact upd_same, upd_same, npk.symm, npw.symm, nkw, fun _ h => (nomatch h), List.nodup_nil, fun _ h => (nomatch h), Nat.le_refl _⟩
    refine ⟨3, rfl, by decide, by decide, for_range (lo := 0) (n := 3) (fun i σ H => ∃ es v0 v4 v5 v6 v7 v8 v9 v10, J K p kp wp H es (10 * i) ∧ σ = [v0, some (.ref p), some (.ref kp), some (.ref wp), v4, v5, v6, v7, v8, v9, v10]) ⟨[], some (.ref a), none, none, none, none, none, none, none, j0, rfl⟩ ?_ ?_⟩
    · rintro i σ H hi ⟨es, v0, v4, v5, v6, v7, v8, v9, v10, j, rfl⟩
      obtain ⟨pl, hpl⟩ := j.pool
      have kS : kp ∉ es.map Kept.s := fun z => by
        obtain ⟨e, he, q⟩ := List.mem_map.mp z
        exact (j.out e he).2.1 q
      have wS : wp ∉ es.map Kept.s := fun z => by
        obtain ⟨e, he, q⟩ := List.mem_map.mp z
        exact (j.out e he).2.2 q
      have rk : Rep K (some p) (lessS H p (es.map Kept.s)) (.ref kp) (.adr kp) := .adr (by rw [lessS_of j.ne1 kS]; exact j.hk)
      have rw' : Rep K (some p) (lessS H p (es.map Kept.s)) (.ref wp) (.adr wp) := .adr (by rw [lessS_of j.ne2 wS]; exact j.hw)
      refine ⟨(lessS H p (es.map Kept.s), H, p), lessS H p (es.map Kept.s), [none, some (.ref p, .sh .pool), some (.ref kp, .sh (.adr kp)), some (.ref wp, .sh (.adr wp)), none, none, none, none, none, none, none], [],
        fits_none (fits_some (fits_some (fits_some (fits_none (fits_none (fits_none (fits_none (fits_none (fits_none (fits_none fits_nil)))))))))),
        sr_none (sr_sh (sr_sh (sr_sh (sr_none (sr_none (sr_none (sr_none (sr_none (sr_none (sr_none (sr_nil (sb_lessS hpl)))))))) ) rw') rk) (.pool rfl)), ?_⟩
      refine ⟨⟨by decide, by decide, by decide⟩, ⟨by decide, by decide, by decide⟩, sz, pk (by decide) fun x x0 x1 => ?_⟩
      obtain ⟨z, ez, mz⟩ := at_in (ns := [1, 1, 7, 10 ^ ((6 : Int)).toNat, 10 ^ ((18 : Int)).toNat]) x0 x1
      have hz : 0 ≤ z ∧ z ≤ 10 ^ 18 := by
        have t1 : (10 : Int) ^ ((6 : Int)).toNat = 1000000 := by decide
        have t2 : (10 : Int) ^ ((18 : Int)).toNat = 1000000000000000000 := by decide
        rw [t1, t2] at mz
        simp at mz
        omega
      refine ⟨_, ez, fun G1 H1 C1 σ1 f1 e1 q1 => ?_⟩
      refine ⟨(lessS H p (es.map Kept.s), H, p), G1, C1, [], f1, q1, ?_⟩
      rw [e1]
      refine ⟨sz, pk (by decide) fun y y0 y1 => ?_⟩
      obtain ⟨m, em, mm⟩ := at_in (ns := [0, 1, 2, 3, 4, 5, 7, 9]) y0 y1
      have hm : 0 ≤ m ∧ m ≤ 9 := by simp at mm; omega
      refine ⟨_, em, ⟨by omega, by omega⟩, lc_all (enc := fun k : Nat => .int (0 + (k : Int))) (xs := List.range m.toNat) (fun d => ∃ p : Pt, d = ptD p ∧ (PB p ∧ ∃ x, p.l = some x)) rfl (by rw [List.length_range, sizeLine_eq]; omega) (fun k hk => ⟨⟨z, hz⟩, rfl, fun d hd => hd, cno⟩) (fun ds hds hall => ?_)⟩
      obtain ⟨ps, rfl, hps⟩ := gather hall
      have lps : ps.length ≤ 9 := by rw [List.length_map, List.length_range] at hds; omega
      intro G2 H2 C2 σ2 f2 e2 q2
      have e2 : sls C2 = [none, sD .pool, sD (.adr kp), sD (.adr wp), none, sD (.int z), oD (ps.map ptD), none, none, none, none] := e2
      have hl2 : σ2.length = 11 := by rw [← f2.1]; have := congrArg List.length e2; rw [List.length_map] at this; exact this
      obtain ⟨w0, w1, w2, w3, w4, w5, w6, w7, w8, w9, w10, rfl⟩ := len11 hl2
      obtain ⟨u1, a1, r1⟩ := at_slot q2 f2 e2 (i := 1) rfl
      obtain ⟨u2, a2, r2⟩ := at_slot q2 f2 e2 (i := 2) rfl
      obtain ⟨u3, a3, r3⟩ := at_slot q2 f2 e2 (i := 3) rfl
      obtain ⟨u5, a5, r5⟩ := at_slot q2 f2 e2 (i := 5) rfl
      obtain ⟨u6, a6, r6⟩ := at_slot q2 f2 e2 (i := 6) rfl
      injection a1 with a1
      injection a2 with a2
      injection a3 with a3
      injection a5 with a5
      injection a6 with a6
      obtain ⟨a6, vs, rfl, g6, n6, h6, is6, ra6⟩ := r6
      have r1 : Rep K (some p) G2 u1 .pool := r1
      have r2 : Rep K (some p) G2 u2 (.adr kp) := r2
      have r3 : Rep K (some p) G2 u3 (.adr wp) := r3
      have r5 : Rep K (some p) G2 u5 (.int z) := r5
      cases r1 with
      | @pool pp hpp =>
      injection hpp with hpp
      subst hpp
      cases r2
      cases r3
      cases r5
      subst a1 a2 a3 a5 a6
      have jk := j.keep q2.sb.keep (q2.sb.poolAt rfl)
      have np6 : a6 ≠ p := fun q => n6 (by rw [q])
      have gp2 : G2 p = none := (q2.sb.pool p rfl).1
      have pp : PP K p kp wp a6 vs ps H2 es := ⟨is6, np6, j.not h6, RepAll.ts (jk.ts q2.sb.same gp2) ra6 (noLs_map noL_pt _)⟩
      refine ⟨_, rfl, _, rfl, _, rfl, lessS H2 p (outS kp wp es), some p, [.pool, .lst (ps.map ptD), .int z], poolOkS jk.pool, lessS_same, .cons (.pool rfl) (.cons pp.lst (.cons (.int _) .nil)), ⟨mkLP ps hps (by omega), z, hz⟩, rfl, fun d hd v G' H' t rv => ?_, fun c z => z.elim⟩
      obtain ⟨rs, rfl, hrs, lrs⟩ := hd
      cases rv with
      | @lst ra xs _ hra rxs =>
      have ex := RepAll.of_ints rxs
      subst ex
      have nra : ra ∉ outS kp wp es := fun q => by
        rcases t.fresh ra _ hra with e | e
        · rw [lessS_in q] at e; cases e
        · exact jk.not e q
      have nrp : ra ≠ p := fun q => by
        rw [q, (t.pool p rfl).1] at hra; cases hra
      refine ⟨ra, rfl, ⟨_, SqL.of (t.same _ _ hra)⟩, for_list (K := K) (a := ra) (xs := rs.map V.int) (fun m σ Hx => ∃ es' v7 v8 v9 v10, J K p kp wp Hx es' (10 * i + m) ∧ PP K p kp wp a6 vs ps Hx es' ∧ Hx ra = some (.lst (rs.map V.int)) ∧ σ = [w0, some (.ref p), some (.ref kp), some (.ref wp), w4, some (.int z), some (.ref a6), v7, v8, v9, v10])
        ⟨es, w7, w8, w9, w10, jk.keep t.keep (stepPool t), pp.keep t.keep, t.same _ _ hra, rfl⟩ (fun m σ Hx _ ⟨_, _, _, _, _, _, _, h, _⟩ => SqL.of h) ?_ ?_⟩
      · rintro m y σ Hx hm ⟨es', v7, v8, v9, v10, jx, px, hx, rfl⟩
        have hmr : m < rs.length := by
          have := (List.getElem?_eq_some_iff.mp hm).1
          rw [List.length_map] at this
          exact this
        obtain ⟨room, hroom, rfl⟩ : ∃ room, room ∈ rs ∧ y = V.int room := by
          rw [List.getElem?_map, List.getElem?_eq_getElem hmr] at hm
          exact ⟨rs[m], List.getElem_mem hmr, (Option.some.inj hm).symm⟩
        let R : LR := ⟨mkLP ps hps (by omega), room, hrs room hroom⟩
        refine ⟨_, rfl, _, rfl, lessS Hx p (outS kp wp es'), some p, [.lst (ps.map ptD), .int room], poolOkS jx.pool, lessS_same, .cons px.lst (.cons (.int _) .nil), R, rfl, fun d hd v G3 H3 t3 rv => ?_, fun c z => z.elim⟩
        have hd : d = .bl true := hd
        subst hd
        cases rv
        refine ⟨true, rfl, bF rfl ?_⟩
        have j3 := jx.keep t3.keep (stepPool t3)
        have p3 := px.keep t3.keep
        have h3 := t3.keep _ _ (fun q => nrp (Option.some.inj q)) hx
        refine ⟨_, rfl, a6, vs, rfl, .inl (SqL.of p3.is), fun h hh => ⟨_, rfl, ?_⟩⟩
        refine shares_fresh (S := outS kp wp es') (R := R) j3.pool hh p3.rep fun t s rv zs H4 k4 pl4 hsn nsp hzs hS => ?_
        have k34 : Keep (some p) H3 H4 := fun b o n e => k4 b o n (by rw [upd_ne (ne_of_none e hh)]; exact e)
        have j4 := j3.keep k34 pl4
        have hSm := hS [] fun b hb => (nomatch hb)
        have q1 : SqT K H4 t [.ref s, rv] := sameT lessS_same hSm.1
        refine ⟨_, rfl, .inl ⟨rfl, _, SqL.of j4.hk⟩, _, rfl, _, rfl, _, rfl, t, _, 0, .ref s, rfl, rfl, q1, rfl, s, zs, rfl, .inl (SqL.of hzs), fun dd hdd => ?_⟩
        refine ⟨_, rfl, t, _, 1, rv, rfl, rfl, sameT (same_new hdd) q1, rfl, sz, fun DD hDD => ⟨_, rfl, sz, fun ee hee => ?_⟩⟩
        obtain ⟨jn, pn, up⟩ := J.more (R := R) j3 p3 k34 pl4 hsn nsp hzs hS hdd hDD hee rfl
        have hkk : upd (upd (upd H4 dd (.lst zs)) DD (.tup [.ref dd, rv])) ee (.tup [.ref a6, .int R.room, .ref DD, .ref t]) kp = some (.lst (es'.map Kept.v)) := same_new hee _ _ (same_new hDD _ _ (same_new hdd _ _ j4.hk))
        refine ⟨kp, _, _, rfl, rfl, hkk, small1000 (by rw [List.length_map]; have := jx.few; have : i < 3 := hi; omega), ?_⟩
        refine ⟨es' ++ [⟨.ref ee, R, s⟩], some (.int room), some (.ref t), v9, v10, jn, (show PP K p kp wp a6 vs ps _ (es' ++ [⟨.ref ee, R, s⟩]) from pn), up _ _ ?_ nrp h3, rfl⟩
        intro q
        exact nra (by rw [q]; exact List.mem_cons_self)
      · rintro σ Hx ⟨es', v7, v8, v9, v10, jx, px, hx, rfl⟩
        refine ⟨_, rfl, _, rfl, _, rfl, lessS Hx p (outS kp wp es'), some p, [.pool, .lst (ps.map ptD), .int z], poolOkS jx.pool, lessS_same, .cons (.pool rfl) (.cons px.lst (.cons (.int _) .nil)), ⟨mkLP ps hps (by omega), z, hz⟩, rfl, fun d hd v G3 H3 t3 rv => ?_, fun c z => z.elim⟩
        have hd : d = .bl true := hd
        subst hd
        cases rv
        refine ⟨true, rfl, bF rfl ⟨es', w0, w4, some (.int z), some (.ref a6), v7, v8, v9, v10, (jx.keep t3.keep (stepPool t3)).up ?_, rfl⟩⟩
        rw [List.length_map]
        omega
    · rintro σ H ⟨es, v0, v4, v5, v6, v7, v8, v9, v10, j, rfl⟩
      have sin : ∀ e ∈ es, e.s ∈ outS kp wp es := fun e he => List.mem_cons_of_mem _ (List.mem_cons_of_mem _ (List.mem_map.mpr ⟨e, he, rfl⟩))
      have kin : kp ∈ outS kp wp es := List.mem_cons_self
      have win : wp ∈ outS kp wp es := List.mem_cons_of_mem _ List.mem_cons_self
      refine ⟨_, rfl, kp, rfl, ⟨_, SqL.of j.hk⟩, for_list (K := K) (a := kp) (xs := es.map Kept.v) (fun i σ Hx => ∃ v0 v4 v5 v6 v7 v8 v9 v10, J2 K p kp wp es i Hx ∧ σ = [v0, some (.ref p), some (.ref kp), some (.ref wp), v4, v5, v6, v7, v8, v9, v10])
        ⟨v0, v4, v5, v6, v7, v8, v9, v10, ⟨j.pool, j.hk, j.hw, fun k e _ h => j.ent e (List.mem_of_getElem? h), fun e he => j.lists _ (sin e he)⟩, rfl⟩ (fun i σ Hx _ ⟨_, _, _, _, _, _, _, _, h, _⟩ => SqL.of h.hk) ?_ ?_⟩
      · rintro i y σ Hx hi ⟨v0, v4, v5, v6, v7, v8, v9, v10, jx, rfl⟩
        obtain ⟨e, he, rfl⟩ : ∃ e, es[i]? = some e ∧ y = e.v := by
          rw [List.getElem?_map] at hi
          cases q : es[i]? with
          | none => rw [q] at hi; cases hi
          | some e => rw [q] at hi; exact ⟨e, rfl, (Option.some.inj hi).symm⟩
        have hi30 : i < 30 := by
          have := (List.getElem?_eq_some_iff.mp he).1
          have := j.few
          omega
        have hem := List.mem_of_getElem? he
        obtain ⟨nsp, nsk, nsw⟩ := j.out e hem
        obtain ⟨ea, t, vP, vD, rv, ws, ev, q1, rP, rD, q2, rR, rW, hs⟩ := jx.ent i e (Nat.le_refl _) he
        have gs : lessS Hx p (outS kp wp es) e.s = none := lessS_in (sin e hem)
        have g1 : Same (lessS Hx p (outS kp wp es)) (upd (lessS Hx p (outS kp wp es)) e.s (.lst ws)) := same_new gs
        rw [ev]
        refine ⟨ea, _, rfl, sameT lessS_same q1, rfl, _, _, rfl, _, _, rfl, _, _, rfl, _, _, rfl, rfl, ?_⟩
        refine ⟨_, rfl, _, rfl, upd (lessS Hx p (outS kp wp es)) e.s (.lst ws), some p, [sharesD e.R, sharesD e.R], fun b q => ?_, fun b o q => ?_, .cons ?_ (.cons (rD.mono g1) .nil), sameShares e.R, rfl, fun d hd v G3 H3 t3 r3 => ?_, fun c z => z.elim⟩
        · injection q with q
          subst q
          obtain ⟨pl, h1, h2⟩ := jx.pool
          exact ⟨by rw [upd_ne nsp.symm]; exact lessS_p, pl, h1, h2⟩
        · by_cases c : b = e.s
          · subst c
            rw [upd_same] at q
            rw [hs]; exact q
          · rw [upd_ne c] at q
            exact lessS_same b o q
        · rw [sharesL]
          exact .tup (sameT g1 q2) (.cons (.lst upd_same (RepAll.mono g1 rW)) (.cons (rR.mono g1) .nil))
        have hd : d = .bl true := hd
        subst hd
        cases r3
        refine ⟨true, rfl, bF rfl ?_⟩
        have k3 : ∀ b o, b ≠ p → Hx b = some o → H3 b = some o := fun b o n q => t3.keep b o (fun z => n (Option.some.inj z)) q
        have g3 : Same (lessS Hx p (outS kp wp es)) (lessS H3 p (outS kp wp es)) := less_keep t3.keep
        have hs3 := k3 _ _ nsp hs
        refine ⟨_, rfl, t, _, 0, .ref e.s, rfl, rfl, sameT lessS_same (sameT g3 q2), rfl, .inl ⟨rfl, _, SqL.of hs3⟩, _, rfl, e.s, ws, _, rfl, rfl, hs3, small1000 (by rw [rW.length]; have := sizesL_len e.R; omega), ?_⟩
        have k4 : ∀ b o, b ≠ p → b ≠ e.s → Hx b = some o → upd H3 e.s (.lst (ws ++ [.int e.R.room])) b = some o := fun b o n n2 q => by rw [upd_ne n2]; exact k3 b o n q
        have g4 : Same (lessS Hx p (outS kp wp es)) (lessS (upd H3 e.s (.lst (ws ++ [.int e.R.room]))) p (outS kp wp es)) := lessS_grow (fun b o n1 n2 q => k4 b o n1 (fun z => n2 (by rw [z]; exact sin e hem)) q) fun _ h => .inl h
        have p4 : ∃ pl, PoolAt (upd H3 e.s (.lst (ws ++ [.int e.R.room]))) p pl := by
          obtain ⟨pl, h1, h2⟩ := stepPool t3
          exact ⟨pl, by rw [upd_ne nsp.symm]; exact h1, h2⟩
        have hw4 := k4 _ _ j.ne2 nsw.symm jx.hw
        have he4 : upd H3 e.s (.lst (ws ++ [.int e.R.room])) e.s = some (.lst (ws ++ [.int e.R.room])) := upd_same
        generalize upd H3 e.s (.lst (ws ++ [.int e.R.room])) = H4 at k4 g4 p4 hw4 he4
        have rP4 := rP.mono g4
        have rD4 := rD.mono g4
        cases rP4 with
        | @lst aP xs _ hP rx =>
        refine ⟨_, rfl, .inl ⟨rfl, _, SqL.of hw4⟩, _, rfl, aP, xs, rfl, .inl (SqL.of (lessS_same _ _ hP)), fun h hh => ⟨_, rfl, ?_⟩⟩
        have s5 : Same H4 (upd H4 h (.lst xs)) := same_new hh
        have p5 : ∃ pl, PoolAt (upd H4 h (.lst xs)) p pl := by
          obtain ⟨pl, h1, h2⟩ := p4
          exact ⟨pl, s5 _ _ h1, h2⟩
        have nhp : h ≠ p := fun z => by
          obtain ⟨pl, h1, _⟩ := p4
          rw [← z, hh] at h1; cases h1
        have nhO : h ∉ outS kp wp es := fun z => by
          have : ∃ o, H4 h = some o := by
            rcases List.mem_cons.mp z with rfl | z
            · exact ⟨_, k4 _ _ j.ne1 nsk.symm jx.hk⟩
            · rcases List.mem_cons.mp z with rfl | z
              · exact ⟨_, hw4⟩
              · obtain ⟨e', he', q⟩ := List.mem_map.mp z
                by_cases c : e'.s = e.s
                · rw [← q, c]; exact ⟨_, he4⟩
                · obtain ⟨l, hl⟩ := jx.there e' he'
                  rw [← q]
                  exact ⟨_, k4 _ _ (j.out e' he').1 c hl⟩
          obtain ⟨o, ho⟩ := this
          rw [hh] at ho; cases ho
        have g5 : Same (lessS H4 p (outS kp wp es)) (lessS (upd H4 h (.lst xs)) p (outS kp wp es)) := lessS_grow (fun b o _ _ q => s5 _ _ q) fun _ h => .inl h
        refine ⟨lessS (upd H4 h (.lst xs)) p (outS kp wp es), some p, [e.R.L.P.d, .int e.R.room], poolOkS p5, lessS_same, .cons (.lst (by rw [lessS_of nhp nhO, upd_same]) (RepAll.mono g5 rx)) (.cons (.int _) .nil), (Sum.inl e.R : ShA), rfl, fun d hd v G6 H6 t6 r6 => ?_, fun c z => z.elim⟩
        have hd : d = sharesD e.R := hd
        subst hd
        refine ⟨_, rfl, G6, some p, [sharesD e.R, sharesD e.R], t6.pool, t6.same, .cons r6 (.cons ((rD4.mono g5).mono t6.grow) .nil), sameShares e.R, rfl, fun d hd v7 G7 H7 t7 r7 => ?_, fun c z => z.elim⟩
        have hd : d = .bl true := hd
        subst hd
        cases r7
        have k7 : ∀ b o, b ≠ p → H4 b = some o → H7 b = some o := fun b o n q => t7.keep _ _ (fun z => n (Option.some.inj z)) (t6.keep _ _ (fun z => n (Option.some.inj z)) (s5 _ _ q))
        have hw7 := k7 _ _ j.ne2 hw4
        refine ⟨wp, _, _, rfl, rfl, hw7, small1000 (by rw [List.length_map, List.length_replicate]; omega), ?_⟩
        have k8 : ∀ b o, b ≠ p → b ≠ e.s → b ≠ wp → Hx b = some o → upd H7 wp (.lst ((List.replicate i true).map V.bl ++ [.bl true])) b = some o := fun b o n1 n2 n3 q => by rw [upd_ne n3]; exact k7 b o n1 (k4 b o n1 n2 q)
        refine ⟨v0, v4, v5, _, _, _, _, v10, ⟨?_, k8 _ _ j.ne1 nsk.symm j.ne3 jx.hk, ?_, fun k e' hk he' => ?_, fun e' he' => ?_⟩, rfl⟩
        · obtain ⟨pl, h1, h2⟩ := stepPool t7
          exact ⟨pl, by rw [upd_ne j.ne2.symm]; exact h1, h2⟩
        · rw [upd_same, List.replicate_succ', List.map_append]; rfl
        · have hm' := List.mem_of_getElem? he'
          refine (jx.ent k e' (by omega) he').mono (lessS_grow (fun b o n1 n2 q => k8 b o n1 (fun z => n2 (by rw [z]; exact sin e hem)) (fun z => n2 (by rw [z]; exact win)) q) fun _ h => .inl h) fun o ho => k8 _ _ (j.out e' hm').1 (nod_ne j.nod he he' (by omega)) (j.out e' hm').2.2 ho
        · by_cases c : e'.s = e.s
          · rw [c, upd_ne nsw]
            exact ⟨_, k7 _ _ nsp he4⟩
          · obtain ⟨l, hl⟩ := jx.there e' he'
            exact ⟨l, k8 _ _ (j.out e' he').1 c (j.out e' he').2.2 hl⟩
      · rintro σ Hx ⟨v0, v4, v5, v6, v7, v8, v9, v10, jx, rfl⟩
        refine ⟨_, rfl, wp, List.replicate (es.map Kept.v).length true, rfl, SqL.of jx.hw, ?_⟩
        have e1 : (List.replicate (es.map Kept.v).length true).all id = true := List.all_eq_true.mpr fun x hx => (List.mem_replicate.mp hx).2
        rw [e1]
        exact k Hx

end
end K56
namespace K56
open PySem PySem.Spec PyProof.Rows L2 DL KM

theorem kit_no {K : PySem.W.Frag} {A B : Addr} (h1 : PySem.W.subIn K (.ref A) (.ref A) = some true) (h2 : PySem.W.subIn K (.ref A) (.ref B) = some false) (h3 : PySem.W.isClsIn K B = true) (h4 : PySem.W.typeIn K (.ref B) = some (.type "type")) : PySem.W.kitOne K (.ref A) (.ref B) = some false := by
  have ne : ¬ ((Value.ref A == Value.ref B) = true) := fun z => by
    have e : A = B := Value.ref.inj (beq_iff_eq.mp z)
    rw [← e, h1] at h2
    cases h2
  have e2 : ((PySem.W.clsIn K B).isSome && PySem.W.typeIn K (.ref B) == some (.type "type")) = true := by
    have h3' : (PySem.W.clsIn K B).isSome = true := h3
    rw [h3', h4]; rfl
  show (if (Value.ref A == Value.ref B) = true then some true else (if ((PySem.W.clsIn K B).isSome && PySem.W.typeIn K (.ref B) == some (.type "type")) = true then PySem.W.subIn K (.ref A) (.ref B) else none)) = some false
  rw [if_neg ne, if_pos e2]
  exact h2
theorem kit_yes {K : PySem.W.Frag} {A : Addr} : PySem.W.kitOne K (.ref A) (.ref A) = some true := by
  have e : (Value.ref A == Value.ref A) = true := beq_iff_eq.mpr rfl
  show (if (Value.ref A == Value.ref A) = true then some true else _) = some true
  rw [if_pos e]
theorem all_mk {P : Program} {w : World} {K : PySem.W.Frag} {h : Heap} {mg : Str → Option Value}
    {f_is_whole f_is_part f_check_parts f_cut f_times f_tops_at f_knots_of f_gain_behind f_lowest f_least_ratio f_mirrored f_ratio_of f_ends_of f_whole_sizes f_sizes_at f_shares f__law_pool f__law_stream f__law_longer f__law_pick f__law_far f__law_same f__law_part f__law_cut f__law_tops f__law_wholes f__law_ends f__law_moves f__law_lowest f__law_is_nearest f__law_right f__law_rooms f__law_outcome f__law_refused f__law_great f_law cBP cBL cPE fa : Addr} {tMP : Tok}
    {od_is_whole an_is_whole od_is_part an_is_part od_check_parts an_check_parts od_cut an_cut od_times an_times od_tops_at an_tops_at od_knots_of an_knots_of od_gain_behind an_gain_behind od_lowest an_lowest od_least_ratio an_least_ratio od_mirrored an_mirrored od_ratio_of an_ratio_of od_ends_of an_ends_of od_whole_sizes an_whole_sizes od_sizes_at an_sizes_at od_shares an_shares od__law_pool an__law_pool od__law_stream an__law_stream od__law_longer an__law_longer od__law_pick an__law_pick od__law_far an__law_far od__law_same an__law_same od__law_part an__law_part od__law_cut an__law_cut od__law_tops an__law_tops od__law_wholes an__law_wholes od__law_ends an__law_ends od__law_moves an__law_moves od__law_lowest an__law_lowest od__law_is_nearest an__law_is_nearest od__law_right an__law_right od__law_rooms an__law_rooms od__law_outcome an__law_outcome od__law_refused an__law_refused od__law_great an__law_great od_law an_law : Option Addr}
    {sl_is_whole sl_is_part sl_check_parts sl_cut sl_times sl_tops_at sl_knots_of sl_gain_behind sl_lowest sl_least_ratio sl_mirrored sl_ratio_of sl_ends_of sl_whole_sizes sl_sizes_at sl_shares sl__law_pool sl__law_stream sl__law_longer sl__law_pick sl__law_far sl__law_same sl__law_part sl__law_cut sl__law_tops sl__law_wholes sl__law_ends sl__law_moves sl__law_lowest sl__law_is_nearest sl__law_right sl__law_rooms sl__law_outcome sl__law_refused sl__law_great sl_law : Array (Option Value)}
    {oc_is_whole kV_is_whole dc_is_whole pm_is_whole cd_is_whole ct_is_whole oc_is_part kV_is_part dc_is_part pm_is_part cd_is_part ct_is_part oc_check_parts kV_check_parts dc_check_parts pm_check_parts cd_check_parts ct_check_parts oc_cut kV_cut dc_cut pm_cut cd_cut ct_cut oc_times kV_times dc_times pm_times cd_times ct_times oc_tops_at kV_tops_at dc_tops_at pm_tops_at cd_tops_at ct_tops_at oc_knots_of kV_knots_of dc_knots_of pm_knots_of cd_knots_of ct_knots_of oc_gain_behind kV_gain_behind dc_gain_behind pm_gain_behind cd_gain_behind ct_gain_behind oc_lowest kV_lowest dc_lowest pm_lowest cd_lowest ct_lowest oc_least_ratio kV_least_ratio dc_least_ratio pm_least_ratio cd_least_ratio ct_least_ratio oc_mirrored kV_mirrored dc_mirrored pm_mirrored cd_mirrored ct_mirrored oc_ratio_of kV_ratio_of dc_ratio_of pm_ratio_of cd_ratio_of ct_ratio_of oc_ends_of kV_ends_of dc_ends_of pm_ends_of cd_ends_of ct_ends_of oc_whole_sizes kV_whole_sizes dc_whole_sizes pm_whole_sizes cd_whole_sizes ct_whole_sizes oc_sizes_at kV_sizes_at dc_sizes_at pm_sizes_at cd_sizes_at ct_sizes_at oc_shares kV_shares dc_shares pm_shares cd_shares ct_shares oc__law_pool kV__law_pool dc__law_pool pm__law_pool cd__law_pool ct__law_pool oc__law_stream kV__law_stream dc__law_stream pm__law_stream cd__law_stream ct__law_stream oc__law_longer kV__law_longer dc__law_longer pm__law_longer cd__law_longer ct__law_longer oc__law_pick kV__law_pick dc__law_pick pm__law_pick cd__law_pick ct__law_pick oc__law_far kV__law_far dc__law_far pm__law_far cd__law_far ct__law_far oc__law_same kV__law_same dc__law_same pm__law_same cd__law_same ct__law_same oc__law_part kV__law_part dc__law_part pm__law_part cd__law_part ct__law_part oc__law_cut kV__law_cut dc__law_cut pm__law_cut cd__law_cut ct__law_cut oc__law_tops kV__law_tops dc__law_tops pm__law_tops cd__law_tops ct__law_tops oc__law_wholes kV__law_wholes dc__law_wholes pm__law_wholes cd__law_wholes ct__law_wholes oc__law_ends kV__law_ends dc__law_ends pm__law_ends cd__law_ends ct__law_ends oc__law_moves kV__law_moves dc__law_moves pm__law_moves cd__law_moves ct__law_moves oc__law_lowest kV__law_lowest dc__law_lowest pm__law_lowest cd__law_lowest ct__law_lowest oc__law_is_nearest kV__law_is_nearest dc__law_is_nearest pm__law_is_nearest cd__law_is_nearest ct__law_is_nearest oc__law_right kV__law_right dc__law_right pm__law_right cd__law_right ct__law_right oc__law_rooms kV__law_rooms dc__law_rooms pm__law_rooms cd__law_rooms ct__law_rooms oc__law_outcome kV__law_outcome dc__law_outcome pm__law_outcome cd__law_outcome ct__law_outcome oc__law_refused kV__law_refused dc__law_refused pm__law_refused cd__law_refused ct__law_refused oc__law_great kV__law_great dc__law_great pm__law_great cd__law_great ct__law_great oc_law kV_law dc_law pm_law cd_law ct_law : Value}
    (X : K.In h) (G : h.Ns mainGlobals mg) (hfa : mg "law" = some (.ref fa))
    (a_is_whole : PySem.W.nsIn K mainGlobals "is_whole" = some (some (.ref f_is_whole)))
    (l_is_whole : K.lookup f_is_whole = some ⟨oc_is_whole, od_is_whole, .func (PySem.W.fnOf "is_whole" "is_whole" (defArgs s_is_whole) (defBody s_is_whole) (defScope s_is_whole) .none kV_is_whole dc_is_whole pm_is_whole an_is_whole cd_is_whole ct_is_whole), sl_is_whole⟩)
    (c_is_whole : PySem.W.codeIn K cd_is_whole "is_whole" = true)
    (k_is_whole : PySem.W.keepIn K (.ref f_is_whole) = true)
    (a_is_part : PySem.W.nsIn K mainGlobals "is_part" = some (some (.ref f_is_part)))
    (l_is_part : K.lookup f_is_part = some ⟨oc_is_part, od_is_part, .func (PySem.W.fnOf "is_part" "is_part" (defArgs s_is_part) (defBody s_is_part) (defScope s_is_part) .none kV_is_part dc_is_part pm_is_part an_is_part cd_is_part ct_is_part), sl_is_part⟩)
    (c_is_part : PySem.W.codeIn K cd_is_part "is_part" = true)
    (k_is_part : PySem.W.keepIn K (.ref f_is_part) = true)
    (a_check_parts : PySem.W.nsIn K mainGlobals "check_parts" = some (some (.ref f_check_parts)))
    (l_check_parts : K.lookup f_check_parts = some ⟨oc_check_parts, od_check_parts, .func (PySem.W.fnOf "check_parts" "check_parts" (defArgs s_check_parts) (defBody s_check_parts) (defScope s_check_parts) .none kV_check_parts dc_check_parts pm_check_parts an_check_parts cd_check_parts ct_check_parts), sl_check_parts⟩)
    (c_check_parts : PySem.W.codeIn K cd_check_parts "check_parts" = true)
    (k_check_parts : PySem.W.keepIn K (.ref f_check_parts) = true)
    (a_cut : PySem.W.nsIn K mainGlobals "cut" = some (some (.ref f_cut)))
    (l_cut : K.lookup f_cut = some ⟨oc_cut, od_cut, .func (PySem.W.fnOf "cut" "cut" (defArgs s_cut) (defBody s_cut) (defScope s_cut) .none kV_cut dc_cut pm_cut an_cut cd_cut ct_cut), sl_cut⟩)
    (c_cut : PySem.W.codeIn K cd_cut "cut" = true)
    (k_cut : PySem.W.keepIn K (.ref f_cut) = true)
    (a_times : PySem.W.nsIn K mainGlobals "times" = some (some (.ref f_times)))
    (l_times : K.lookup f_times = some ⟨oc_times, od_times, .func (PySem.W.fnOf "times" "times" (defArgs s_times) (defBody s_times) (defScope s_times) .none kV_times dc_times pm_times an_times cd_times ct_times), sl_times⟩)
    (c_times : PySem.W.codeIn K cd_times "times" = true)
    (k_times : PySem.W.keepIn K (.ref f_times) = true)
    (a_tops_at : PySem.W.nsIn K mainGlobals "tops_at" = some (some (.ref f_tops_at)))
    (l_tops_at : K.lookup f_tops_at = some ⟨oc_tops_at, od_tops_at, .func (PySem.W.fnOf "tops_at" "tops_at" (defArgs s_tops_at) (defBody s_tops_at) (defScope s_tops_at) .none kV_tops_at dc_tops_at pm_tops_at an_tops_at cd_tops_at ct_tops_at), sl_tops_at⟩)
    (c_tops_at : PySem.W.codeIn K cd_tops_at "tops_at" = true)
    (k_tops_at : PySem.W.keepIn K (.ref f_tops_at) = true)
    (a_knots_of : PySem.W.nsIn K mainGlobals "knots_of" = some (some (.ref f_knots_of)))
    (l_knots_of : K.lookup f_knots_of = some ⟨oc_knots_of, od_knots_of, .func (PySem.W.fnOf "knots_of" "knots_of" (defArgs s_knots_of) (defBody s_knots_of) (defScope s_knots_of) .none kV_knots_of dc_knots_of pm_knots_of an_knots_of cd_knots_of ct_knots_of), sl_knots_of⟩)
    (c_knots_of : PySem.W.codeIn K cd_knots_of "knots_of" = true)
    (k_knots_of : PySem.W.keepIn K (.ref f_knots_of) = true)
    (a_gain_behind : PySem.W.nsIn K mainGlobals "gain_behind" = some (some (.ref f_gain_behind)))
    (l_gain_behind : K.lookup f_gain_behind = some ⟨oc_gain_behind, od_gain_behind, .func (PySem.W.fnOf "gain_behind" "gain_behind" (defArgs s_gain_behind) (defBody s_gain_behind) (defScope s_gain_behind) .none kV_gain_behind dc_gain_behind pm_gain_behind an_gain_behind cd_gain_behind ct_gain_behind), sl_gain_behind⟩)
    (c_gain_behind : PySem.W.codeIn K cd_gain_behind "gain_behind" = true)
    (k_gain_behind : PySem.W.keepIn K (.ref f_gain_behind) = true)
    (a_lowest : PySem.W.nsIn K mainGlobals "lowest" = some (some (.ref f_lowest)))
    (l_lowest : K.lookup f_lowest = some ⟨oc_lowest, od_lowest, .func (PySem.W.fnOf "lowest" "lowest" (defArgs s_lowest) (defBody s_lowest) (defScope s_lowest) .none kV_lowest dc_lowest pm_lowest an_lowest cd_lowest ct_lowest), sl_lowest⟩)
    (c_lowest : PySem.W.codeIn K cd_lowest "lowest" = true)
    (k_lowest : PySem.W.keepIn K (.ref f_lowest) = true)
    (a_least_ratio : PySem.W.nsIn K mainGlobals "least_ratio" = some (some (.ref f_least_ratio)))
    (l_least_ratio : K.lookup f_least_ratio = some ⟨oc_least_ratio, od_least_ratio, .func (PySem.W.fnOf "least_ratio" "least_ratio" (defArgs s_least_ratio) (defBody s_least_ratio) (defScope s_least_ratio) .none kV_least_ratio dc_least_ratio pm_least_ratio an_least_ratio cd_least_ratio ct_least_ratio), sl_least_ratio⟩)
    (c_least_ratio : PySem.W.codeIn K cd_least_ratio "least_ratio" = true)
    (k_least_ratio : PySem.W.keepIn K (.ref f_least_ratio) = true)
    (a_mirrored : PySem.W.nsIn K mainGlobals "mirrored" = some (some (.ref f_mirrored)))
    (l_mirrored : K.lookup f_mirrored = some ⟨oc_mirrored, od_mirrored, .func (PySem.W.fnOf "mirrored" "mirrored" (defArgs s_mirrored) (defBody s_mirrored) (defScope s_mirrored) .none kV_mirrored dc_mirrored pm_mirrored an_mirrored cd_mirrored ct_mirrored), sl_mirrored⟩)
    (c_mirrored : PySem.W.codeIn K cd_mirrored "mirrored" = true)
    (k_mirrored : PySem.W.keepIn K (.ref f_mirrored) = true)
    (a_ratio_of : PySem.W.nsIn K mainGlobals "ratio_of" = some (some (.ref f_ratio_of)))
    (l_ratio_of : K.lookup f_ratio_of = some ⟨oc_ratio_of, od_ratio_of, .func (PySem.W.fnOf "ratio_of" "ratio_of" (defArgs s_ratio_of) (defBody s_ratio_of) (defScope s_ratio_of) .none kV_ratio_of dc_ratio_of pm_ratio_of an_ratio_of cd_ratio_of ct_ratio_of), sl_ratio_of⟩)
    (c_ratio_of : PySem.W.codeIn K cd_ratio_of "ratio_of" = true)
    (k_ratio_of : PySem.W.keepIn K (.ref f_ratio_of) = true)
    (a_ends_of : PySem.W.nsIn K mainGlobals "ends_of" = some (some (.ref f_ends_of)))
    (l_ends_of : K.lookup f_ends_of = some ⟨oc_ends_of, od_ends_of, .func (PySem.W.fnOf "ends_of" "ends_of" (defArgs s_ends_of) (defBody s_ends_of) (defScope s_ends_of) .none kV_ends_of dc_ends_of pm_ends_of an_ends_of cd_ends_of ct_ends_of), sl_ends_of⟩)
    (c_ends_of : PySem.W.codeIn K cd_ends_of "ends_of" = true)
    (k_ends_of : PySem.W.keepIn K (.ref f_ends_of) = true)
    (a_whole_sizes : PySem.W.nsIn K mainGlobals "whole_sizes" = some (some (.ref f_whole_sizes)))
    (l_whole_sizes : K.lookup f_whole_sizes = some ⟨oc_whole_sizes, od_whole_sizes, .func (PySem.W.fnOf "whole_sizes" "whole_sizes" (defArgs s_whole_sizes) (defBody s_whole_sizes) (defScope s_whole_sizes) .none kV_whole_sizes dc_whole_sizes pm_whole_sizes an_whole_sizes cd_whole_sizes ct_whole_sizes), sl_whole_sizes⟩)
    (c_whole_sizes : PySem.W.codeIn K cd_whole_sizes "whole_sizes" = true)
    (k_whole_sizes : PySem.W.keepIn K (.ref f_whole_sizes) = true)
    (a_sizes_at : PySem.W.nsIn K mainGlobals "sizes_at" = some (some (.ref f_sizes_at)))
    (l_sizes_at : K.lookup f_sizes_at = some ⟨oc_sizes_at, od_sizes_at, .func (PySem.W.fnOf "sizes_at" "sizes_at" (defArgs s_sizes_at) (defBody s_sizes_at) (defScope s_sizes_at) .none kV_sizes_at dc_sizes_at pm_sizes_at an_sizes_at cd_sizes_at ct_sizes_at), sl_sizes_at⟩)
    (c_sizes_at : PySem.W.codeIn K cd_sizes_at "sizes_at" = true)
    (k_sizes_at : PySem.W.keepIn K (.ref f_sizes_at) = true)
    (a_shares : PySem.W.nsIn K mainGlobals "shares" = some (some (.ref f_shares)))
    (l_shares : K.lookup f_shares = some ⟨oc_shares, od_shares, .func (PySem.W.fnOf "shares" "shares" (defArgs s_shares) (defBody s_shares) (defScope s_shares) .none kV_shares dc_shares pm_shares an_shares cd_shares ct_shares), sl_shares⟩)
    (c_shares : PySem.W.codeIn K cd_shares "shares" = true)
    (k_shares : PySem.W.keepIn K (.ref f_shares) = true)
    (a__law_pool : PySem.W.nsIn K mainGlobals "_law_pool" = some (some (.ref f__law_pool)))
    (l__law_pool : K.lookup f__law_pool = some ⟨oc__law_pool, od__law_pool, .func (PySem.W.fnOf "_law_pool" "_law_pool" (defArgs s__law_pool) (defBody s__law_pool) (defScope s__law_pool) .none kV__law_pool dc__law_pool pm__law_pool an__law_pool cd__law_pool ct__law_pool), sl__law_pool⟩)
    (c__law_pool : PySem.W.codeIn K cd__law_pool "_law_pool" = true)
    (k__law_pool : PySem.W.keepIn K (.ref f__law_pool) = true)
    (a__law_stream : PySem.W.nsIn K mainGlobals "_law_stream" = some (some (.ref f__law_stream)))
    (l__law_stream : K.lookup f__law_stream = some ⟨oc__law_stream, od__law_stream, .func (PySem.W.fnOf "_law_stream" "_law_stream" (defArgs s__law_stream) (defBody s__law_stream) (defScope s__law_stream) .none kV__law_stream dc__law_stream pm__law_stream an__law_stream cd__law_stream ct__law_stream), sl__law_stream⟩)
    (c__law_stream : PySem.W.codeIn K cd__law_stream "_law_stream" = true)
    (k__law_stream : PySem.W.keepIn K (.ref f__law_stream) = true)
    (a__law_longer : PySem.W.nsIn K mainGlobals "_law_longer" = some (some (.ref f__law_longer)))
    (l__law_longer : K.lookup f__law_longer = some ⟨oc__law_longer, od__law_longer, .func (PySem.W.fnOf "_law_longer" "_law_longer" (defArgs s__law_longer) (defBody s__law_longer) (defScope s__law_longer) .none kV__law_longer dc__law_longer pm__law_longer an__law_longer cd__law_longer ct__law_longer), sl__law_longer⟩)
    (c__law_longer : PySem.W.codeIn K cd__law_longer "_law_longer" = true)
    (k__law_longer : PySem.W.keepIn K (.ref f__law_longer) = true)
    (a__law_pick : PySem.W.nsIn K mainGlobals "_law_pick" = some (some (.ref f__law_pick)))
    (l__law_pick : K.lookup f__law_pick = some ⟨oc__law_pick, od__law_pick, .func (PySem.W.fnOf "_law_pick" "_law_pick" (defArgs s__law_pick) (defBody s__law_pick) (defScope s__law_pick) .none kV__law_pick dc__law_pick pm__law_pick an__law_pick cd__law_pick ct__law_pick), sl__law_pick⟩)
    (c__law_pick : PySem.W.codeIn K cd__law_pick "_law_pick" = true)
    (k__law_pick : PySem.W.keepIn K (.ref f__law_pick) = true)
    (a__law_far : PySem.W.nsIn K mainGlobals "_law_far" = some (some (.ref f__law_far)))
    (l__law_far : K.lookup f__law_far = some ⟨oc__law_far, od__law_far, .func (PySem.W.fnOf "_law_far" "_law_far" (defArgs s__law_far) (defBody s__law_far) (defScope s__law_far) .none kV__law_far dc__law_far pm__law_far an__law_far cd__law_far ct__law_far), sl__law_far⟩)
    (c__law_far : PySem.W.codeIn K cd__law_far "_law_far" = true)
    (k__law_far : PySem.W.keepIn K (.ref f__law_far) = true)
    (a__law_same : PySem.W.nsIn K mainGlobals "_law_same" = some (some (.ref f__law_same)))
    (l__law_same : K.lookup f__law_same = some ⟨oc__law_same, od__law_same, .func (PySem.W.fnOf "_law_same" "_law_same" (defArgs s__law_same) (defBody s__law_same) (defScope s__law_same) .none kV__law_same dc__law_same pm__law_same an__law_same cd__law_same ct__law_same), sl__law_same⟩)
    (c__law_same : PySem.W.codeIn K cd__law_same "_law_same" = true)
    (k__law_same : PySem.W.keepIn K (.ref f__law_same) = true)
    (a__law_part : PySem.W.nsIn K mainGlobals "_law_part" = some (some (.ref f__law_part)))
    (l__law_part : K.lookup f__law_part = some ⟨oc__law_part, od__law_part, .func (PySem.W.fnOf "_law_part" "_law_part" (defArgs s__law_part) (defBody s__law_part) (defScope s__law_part) .none kV__law_part dc__law_part pm__law_part an__law_part cd__law_part ct__law_part), sl__law_part⟩)
    (c__law_part : PySem.W.codeIn K cd__law_part "_law_part" = true)
    (k__law_part : PySem.W.keepIn K (.ref f__law_part) = true)
    (a__law_cut : PySem.W.nsIn K mainGlobals "_law_cut" = some (some (.ref f__law_cut)))
    (l__law_cut : K.lookup f__law_cut = some ⟨oc__law_cut, od__law_cut, .func (PySem.W.fnOf "_law_cut" "_law_cut" (defArgs s__law_cut) (defBody s__law_cut) (defScope s__law_cut) .none kV__law_cut dc__law_cut pm__law_cut an__law_cut cd__law_cut ct__law_cut), sl__law_cut⟩)
    (c__law_cut : PySem.W.codeIn K cd__law_cut "_law_cut" = true)
    (k__law_cut : PySem.W.keepIn K (.ref f__law_cut) = true)
    (a__law_tops : PySem.W.nsIn K mainGlobals "_law_tops" = some (some (.ref f__law_tops)))
    (l__law_tops : K.lookup f__law_tops = some ⟨oc__law_tops, od__law_tops, .func (PySem.W.fnOf "_law_tops" "_law_tops" (defArgs s__law_tops) (defBody s__law_tops) (defScope s__law_tops) .none kV__law_tops dc__law_tops pm__law_tops an__law_tops cd__law_tops ct__law_tops), sl__law_tops⟩)
    (c__law_tops : PySem.W.codeIn K cd__law_tops "_law_tops" = true)
    (k__law_tops : PySem.W.keepIn K (.ref f__law_tops) = true)
    (a__law_wholes : PySem.W.nsIn K mainGlobals "_law_wholes" = some (some (.ref f__law_wholes)))
    (l__law_wholes : K.lookup f__law_wholes = some ⟨oc__law_wholes, od__law_wholes, .func (PySem.W.fnOf "_law_wholes" "_law_wholes" (defArgs s__law_wholes) (defBody s__law_wholes) (defScope s__law_wholes) .none kV__law_wholes dc__law_wholes pm__law_wholes an__law_wholes cd__law_wholes ct__law_wholes), sl__law_wholes⟩)
    (c__law_wholes : PySem.W.codeIn K cd__law_wholes "_law_wholes" = true)
    (k__law_wholes : PySem.W.keepIn K (.ref f__law_wholes) = true)
    (a__law_ends : PySem.W.nsIn K mainGlobals "_law_ends" = some (some (.ref f__law_ends)))
    (l__law_ends : K.lookup f__law_ends = some ⟨oc__law_ends, od__law_ends, .func (PySem.W.fnOf "_law_ends" "_law_ends" (defArgs s__law_ends) (defBody s__law_ends) (defScope s__law_ends) .none kV__law_ends dc__law_ends pm__law_ends an__law_ends cd__law_ends ct__law_ends), sl__law_ends⟩)
    (c__law_ends : PySem.W.codeIn K cd__law_ends "_law_ends" = true)
    (k__law_ends : PySem.W.keepIn K (.ref f__law_ends) = true)
    (a__law_moves : PySem.W.nsIn K mainGlobals "_law_moves" = some (some (.ref f__law_moves)))
    (l__law_moves : K.lookup f__law_moves = some ⟨oc__law_moves, od__law_moves, .func (PySem.W.fnOf "_law_moves" "_law_moves" (defArgs s__law_moves) (defBody s__law_moves) (defScope s__law_moves) .none kV__law_moves dc__law_moves pm__law_moves an__law_moves cd__law_moves ct__law_moves), sl__law_moves⟩)
    (c__law_moves : PySem.W.codeIn K cd__law_moves "_law_moves" = true)
    (k__law_moves : PySem.W.keepIn K (.ref f__law_moves) = true)
    (a__law_lowest : PySem.W.nsIn K mainGlobals "_law_lowest" = some (some (.ref f__law_lowest)))
    (l__law_lowest : K.lookup f__law_lowest = some ⟨oc__law_lowest, od__law_lowest, .func (PySem.W.fnOf "_law_lowest" "_law_lowest" (defArgs s__law_lowest) (defBody s__law_lowest) (defScope s__law_lowest) .none kV__law_lowest dc__law_lowest pm__law_lowest an__law_lowest cd__law_lowest ct__law_lowest), sl__law_lowest⟩)
    (c__law_lowest : PySem.W.codeIn K cd__law_lowest "_law_lowest" = true)
    (k__law_lowest : PySem.W.keepIn K (.ref f__law_lowest) = true)
    (a__law_is_nearest : PySem.W.nsIn K mainGlobals "_law_is_nearest" = some (some (.ref f__law_is_nearest)))
    (l__law_is_nearest : K.lookup f__law_is_nearest = some ⟨oc__law_is_nearest, od__law_is_nearest, .func (PySem.W.fnOf "_law_is_nearest" "_law_is_nearest" (defArgs s__law_is_nearest) (defBody s__law_is_nearest) (defScope s__law_is_nearest) .none kV__law_is_nearest dc__law_is_nearest pm__law_is_nearest an__law_is_nearest cd__law_is_nearest ct__law_is_nearest), sl__law_is_nearest⟩)
    (c__law_is_nearest : PySem.W.codeIn K cd__law_is_nearest "_law_is_nearest" = true)
    (k__law_is_nearest : PySem.W.keepIn K (.ref f__law_is_nearest) = true)
    (a__law_right : PySem.W.nsIn K mainGlobals "_law_right" = some (some (.ref f__law_right)))
    (l__law_right : K.lookup f__law_right = some ⟨oc__law_right, od__law_right, .func (PySem.W.fnOf "_law_right" "_law_right" (defArgs s__law_right) (defBody s__law_right) (defScope s__law_right) .none kV__law_right dc__law_right pm__law_right an__law_right cd__law_right ct__law_right), sl__law_right⟩)
    (c__law_right : PySem.W.codeIn K cd__law_right "_law_right" = true)
    (k__law_right : PySem.W.keepIn K (.ref f__law_right) = true)
    (a__law_rooms : PySem.W.nsIn K mainGlobals "_law_rooms" = some (some (.ref f__law_rooms)))
    (l__law_rooms : K.lookup f__law_rooms = some ⟨oc__law_rooms, od__law_rooms, .func (PySem.W.fnOf "_law_rooms" "_law_rooms" (defArgs s__law_rooms) (defBody s__law_rooms) (defScope s__law_rooms) .none kV__law_rooms dc__law_rooms pm__law_rooms an__law_rooms cd__law_rooms ct__law_rooms), sl__law_rooms⟩)
    (c__law_rooms : PySem.W.codeIn K cd__law_rooms "_law_rooms" = true)
    (k__law_rooms : PySem.W.keepIn K (.ref f__law_rooms) = true)
    (a__law_outcome : PySem.W.nsIn K mainGlobals "_law_outcome" = some (some (.ref f__law_outcome)))
    (l__law_outcome : K.lookup f__law_outcome = some ⟨oc__law_outcome, od__law_outcome, .func (PySem.W.fnOf "_law_outcome" "_law_outcome" (defArgs s__law_outcome) (defBody s__law_outcome) (defScope s__law_outcome) .none kV__law_outcome dc__law_outcome pm__law_outcome an__law_outcome cd__law_outcome ct__law_outcome), sl__law_outcome⟩)
    (c__law_outcome : PySem.W.codeIn K cd__law_outcome "_law_outcome" = true)
    (k__law_outcome : PySem.W.keepIn K (.ref f__law_outcome) = true)
    (a__law_refused : PySem.W.nsIn K mainGlobals "_law_refused" = some (some (.ref f__law_refused)))
    (l__law_refused : K.lookup f__law_refused = some ⟨oc__law_refused, od__law_refused, .func (PySem.W.fnOf "_law_refused" "_law_refused" (defArgs s__law_refused) (defBody s__law_refused) (defScope s__law_refused) .none kV__law_refused dc__law_refused pm__law_refused an__law_refused cd__law_refused ct__law_refused), sl__law_refused⟩)
    (c__law_refused : PySem.W.codeIn K cd__law_refused "_law_refused" = true)
    (k__law_refused : PySem.W.keepIn K (.ref f__law_refused) = true)
    (a__law_great : PySem.W.nsIn K mainGlobals "_law_great" = some (some (.ref f__law_great)))
    (l__law_great : K.lookup f__law_great = some ⟨oc__law_great, od__law_great, .func (PySem.W.fnOf "_law_great" "_law_great" (defArgs s__law_great) (defBody s__law_great) (defScope s__law_great) .none kV__law_great dc__law_great pm__law_great an__law_great cd__law_great ct__law_great), sl__law_great⟩)
    (c__law_great : PySem.W.codeIn K cd__law_great "_law_great" = true)
    (k__law_great : PySem.W.keepIn K (.ref f__law_great) = true)
    (a_law : PySem.W.nsIn K mainGlobals "law" = some (some (.ref f_law)))
    (l_law : K.lookup f_law = some ⟨oc_law, od_law, .func (PySem.W.fnOf "law" "law" (defArgs s_law) (defBody s_law) (defScope s_law) .none kV_law dc_law pm_law an_law cd_law ct_law), sl_law⟩)
    (c_law : PySem.W.codeIn K cd_law "law" = true)
    (k_law : PySem.W.keepIn K (.ref f_law) = true)
    (z_len : PySem.W.nsIn K mainGlobals "len" = some none)
    (z_isinstance : PySem.W.nsIn K mainGlobals "isinstance" = some none)
    (z_int : PySem.W.nsIn K mainGlobals "int" = some none)
    (z_bool : PySem.W.nsIn K mainGlobals "bool" = some none)
    (z_tuple : PySem.W.nsIn K mainGlobals "tuple" = some none)
    (z_list : PySem.W.nsIn K mainGlobals "list" = some none)
    (z_str : PySem.W.nsIn K mainGlobals "str" = some none)
    (z_dict : PySem.W.nsIn K mainGlobals "dict" = some none)
    (z_all : PySem.W.nsIn K mainGlobals "all" = some none)
    (z_any : PySem.W.nsIn K mainGlobals "any" = some none)
    (z_sum : PySem.W.nsIn K mainGlobals "sum" = some none)
    (z_max : PySem.W.nsIn K mainGlobals "max" = some none)
    (z_abs : PySem.W.nsIn K mainGlobals "abs" = some none)
    (z_range : PySem.W.nsIn K mainGlobals "range" = some none)
    (z_gcd : PySem.W.nsIn K mainGlobals "gcd" = some (some (.builtin "math.gcd")))
    (z_MP : PySem.W.nsIn K mainGlobals "MOST_PARTS" = some (some (.int 200 tMP)))
    (g_BadParts : PySem.W.nsIn K mainGlobals "BadParts" = some (some (.ref cBP)))
    (g_BadList : PySem.W.nsIn K mainGlobals "BadList" = some (some (.ref cBL)))
    (g_PageError : PySem.W.nsIn K mainGlobals "PageError" = some (some (.ref cPE)))
    (xP : PySem.W.excIn K cBP [.type "Exception", .type "BaseException", .type "object"] "Exception.__new__" = true)
    (xK : PySem.W.keepIn K (.ref cBP) = true)
    (xS : PySem.W.subIn K (.ref cBP) (.type "BaseException") = some true)
    (xT : PySem.W.typeIn K (.ref cBP) = some (.type "type"))
    (e1 : PySem.W.findIn K (.ref cBP) "__getattribute__" = some (some (.builtin "BaseException.__getattribute__")))
    (e2 : PySem.W.findIn K (.ref cBP) "__getattr__" = some none)
    (e4 : PySem.W.hasDictIn K cBP = true)
    (e5 : PySem.W.findIn K (.ref cBP) "__class__" = some (some (.builtin "object.__class__")))
    (e6 : PySem.W.specialIn K (.builtin "object.__class__") "__get__" = some (some (.builtin "getset_descriptor.__get__")))
    (e7 : PySem.W.takesIn K (.builtin "object.__class__") = some true)
    (e8 : PySem.W.mroIn K cBP (.type "object") = some true)
    (p1 : PySem.W.subIn K (.ref cPE) (.type "BaseException") = some true)
    (p2 : PySem.W.hasDictIn K cPE = true)
    (p3 : PySem.W.typeIn K (.ref cPE) = some (.type "type"))
    (p4 : PySem.W.subIn K (.ref cBP) (.ref cPE) = some true)
    (b1 : PySem.W.subIn K (.ref cBP) (.ref cBP) = some true)
    (b2 : PySem.W.subIn K (.ref cBP) (.ref cBL) = some false)
    (b3 : PySem.W.isClsIn K cBL = true)
    (b4 : PySem.W.typeIn K (.ref cBL) = some (.type "type"))
    : ∃ fd : FuncData, (∀ (s : Shared) (v : Value), BindsTo s fd ⟨[v], []⟩ [("script", v)]) ∧ ∀ base : Heap, K.In base → base.Ns mainGlobals mg → FnOk P w K mg base (L2.CX P w) 9 fa fd ["script"] (spLaw K) := by
  have e := hfa.symm.trans (PySem.W.mg_of X G a_law)
  cases e
  have T : Txt K mg cBP cBL cPE := { len := PySem.W.mg_none_of X G z_len, isinstance := PySem.W.mg_none_of X G z_isinstance, int := PySem.W.mg_none_of X G z_int, bool := PySem.W.mg_none_of X G z_bool, tuple := PySem.W.mg_none_of X G z_tuple, list := PySem.W.mg_none_of X G z_list, str := PySem.W.mg_none_of X G z_str, dict := PySem.W.mg_none_of X G z_dict, all := PySem.W.mg_none_of X G z_all, any := PySem.W.mg_none_of X G z_any, sum := PySem.W.mg_none_of X G z_sum, max := PySem.W.mg_none_of X G z_max, abs := PySem.W.mg_none_of X G z_abs, range := PySem.W.mg_none_of X G z_range, gcd := PySem.W.mg_of X G z_gcd, c_MOST_PARTS := ⟨_, PySem.W.mg_of X G z_MP⟩, x_BadParts := ⟨PySem.W.mg_of X G g_BadParts, xP, xK, xS, xT⟩, e_BadParts := ⟨e1, e2, xS, e4, e5, e6, e7, e8⟩, g_BadList := PySem.W.mg_of X G g_BadList, g_PageError := PySem.W.mg_of X G g_PageError, exm := PySem.W.exm_ref p1 p2 p3 p4, is1 := kit_yes, is2 := kit_no b1 b2 b3 b4 }
  refine ⟨PySem.W.fnOf "law" "law" (defArgs s_law) (defBody s_law) (defScope s_law) .none kV_law dc_law pm_law an_law cd_law ct_law, fun s v => .of_eq rfl, fun base _ _ => ?_⟩
  have F_is_whole := fun_mk (st := s_is_whole) l_is_whole c_is_whole k_is_whole
  have b_is_whole := F_is_whole.binds (ps := ["value"]) fun _ _ _ _ _ _ us hl => match us, hl with | [_], _ => rfl
  have G_is_whole := ok_is_whole (P := P) (w := w) (base := base) F_is_whole (PySem.W.mg_of X G a_is_whole) b_is_whole T 
  have F_is_part := fun_mk (st := s_is_part) l_is_part c_is_part k_is_part
  have b_is_part := F_is_part.binds (ps := ["value"]) fun _ _ _ _ _ _ us hl => match us, hl with | [_], _ => rfl
  have G_is_part := ok_is_part (P := P) (w := w) (base := base) F_is_part (PySem.W.mg_of X G a_is_part) b_is_part T G_is_whole
  have F_check_parts := fun_mk (st := s_check_parts) l_check_parts c_check_parts k_check_parts
  have b_check_parts := F_check_parts.binds (ps := ["parts", "room"]) fun _ _ _ _ _ _ us hl => match us, hl with | [_, _], _ => rfl
  have G_check_parts := ok_check_parts (P := P) (w := w) (base := base) F_check_parts (PySem.W.mg_of X G a_check_parts) b_check_parts T G_is_whole G_is_part
  have F_cut := fun_mk (st := s_cut) l_cut c_cut k_cut
  have b_cut := F_cut.binds (ps := ["number", "lo", "hi"]) fun _ _ _ _ _ _ us hl => match us, hl with | [_, _, _], _ => rfl
  have G_cut := ok_cut (P := P) (w := w) (base := base) F_cut (PySem.W.mg_of X G a_cut) b_cut T 
  have F_times := fun_mk (st := s_times) l_times c_times k_times
  have b_times := F_times.binds (ps := ["number", "many"]) fun _ _ _ _ _ _ us hl => match us, hl with | [_, _], _ => rfl
  have G_times := ok_times (P := P) (w := w) (base := base) F_times (PySem.W.mg_of X G a_times) b_times T 
  have F_tops_at := fun_mk (st := s_tops_at) l_tops_at c_tops_at k_tops_at
  have b_tops_at := F_tops_at.binds (ps := ["parts", "top", "low"]) fun _ _ _ _ _ _ us hl => match us, hl with | [_, _, _], _ => rfl
  have G_tops_at := ok_tops_at (P := P) (w := w) (base := base) F_tops_at (PySem.W.mg_of X G a_tops_at) b_tops_at T G_cut G_times
  have F_knots_of := fun_mk (st := s_knots_of) l_knots_of c_knots_of k_knots_of
  have b_knots_of := F_knots_of.binds (ps := ["parts"]) fun _ _ _ _ _ _ us hl => match us, hl with | [_], _ => rfl
  have G_knots_of := ok_knots_of (P := P) (w := w) (base := base) F_knots_of (PySem.W.mg_of X G a_knots_of) b_knots_of T 
  have F_gain_behind := fun_mk (st := s_gain_behind) l_gain_behind c_gain_behind k_gain_behind
  have b_gain_behind := F_gain_behind.binds (ps := ["parts", "top", "low"]) fun _ _ _ _ _ _ us hl => match us, hl with | [_, _, _], _ => rfl
  have G_gain_behind := ok_gain_behind (P := P) (w := w) (base := base) F_gain_behind (PySem.W.mg_of X G a_gain_behind) b_gain_behind T 
  have F_lowest := fun_mk (st := s_lowest) l_lowest c_lowest k_lowest
  have b_lowest := F_lowest.binds (ps := ["top", "low"]) fun _ _ _ _ _ _ us hl => match us, hl with | [_, _], _ => rfl
  have G_lowest := ok_lowest (P := P) (w := w) (base := base) F_lowest (PySem.W.mg_of X G a_lowest) b_lowest T 
  have F_least_ratio := fun_mk (st := s_least_ratio) l_least_ratio c_least_ratio k_least_ratio
  have b_least_ratio := F_least_ratio.binds (ps := ["parts", "room"]) fun _ _ _ _ _ _ us hl => match us, hl with | [_, _], _ => rfl
  have G_least_ratio := ok_least_ratio (P := P) (w := w) (base := base) F_least_ratio (PySem.W.mg_of X G a_least_ratio) b_least_ratio T G_knots_of G_tops_at G_gain_behind G_lowest
  have F_mirrored := fun_mk (st := s_mirrored) l_mirrored c_mirrored k_mirrored
  have b_mirrored := F_mirrored.binds (ps := ["parts"]) fun _ _ _ _ _ _ us hl => match us, hl with | [_], _ => rfl
  have G_mirrored := ok_mirrored (P := P) (w := w) (base := base) F_mirrored (PySem.W.mg_of X G a_mirrored) b_mirrored T G_times
  have F_ratio_of := fun_mk (st := s_ratio_of) l_ratio_of c_ratio_of k_ratio_of
  have b_ratio_of := F_ratio_of.binds (ps := ["parts", "room"]) fun _ _ _ _ _ _ us hl => match us, hl with | [_, _], _ => rfl
  have G_ratio_of := ok_ratio_of (P := P) (w := w) (base := base) F_ratio_of (PySem.W.mg_of X G a_ratio_of) b_ratio_of T G_tops_at G_least_ratio G_mirrored
  have F_ends_of := fun_mk (st := s_ends_of) l_ends_of c_ends_of k_ends_of
  have b_ends_of := F_ends_of.binds (ps := ["parts", "room"]) fun _ _ _ _ _ _ us hl => match us, hl with | [_, _], _ => rfl
  have G_ends_of := ok_ends_of (P := P) (w := w) (base := base) F_ends_of (PySem.W.mg_of X G a_ends_of) b_ends_of T G_tops_at G_cut
  have F_whole_sizes := fun_mk (st := s_whole_sizes) l_whole_sizes c_whole_sizes k_whole_sizes
  have b_whole_sizes := F_whole_sizes.binds (ps := ["tops", "low"]) fun _ _ _ _ _ _ us hl => match us, hl with | [_, _], _ => rfl
  have G_whole_sizes := ok_whole_sizes (P := P) (w := w) (base := base) F_whole_sizes (PySem.W.mg_of X G a_whole_sizes) b_whole_sizes T 
  have F_sizes_at := fun_mk (st := s_sizes_at) l_sizes_at c_sizes_at k_sizes_at
  have b_sizes_at := F_sizes_at.binds (ps := ["parts", "room", "ratio"]) fun _ _ _ _ _ _ us hl => match us, hl with | [_, _, _], _ => rfl
  have G_sizes_at := ok_sizes_at (P := P) (w := w) (base := base) F_sizes_at (PySem.W.mg_of X G a_sizes_at) b_sizes_at T G_ends_of G_whole_sizes G_tops_at
  have F_shares := fun_mk (st := s_shares) l_shares c_shares k_shares
  have b_shares := F_shares.binds (ps := ["parts", "room"]) fun _ _ _ _ _ _ us hl => match us, hl with | [_, _], _ => rfl
  have G_shares := ok_shares (P := P) (w := w) (base := base) F_shares (PySem.W.mg_of X G a_shares) b_shares T G_check_parts G_ratio_of G_sizes_at
  have F__law_pool := fun_mk (st := s__law_pool) l__law_pool c__law_pool k__law_pool
  have b__law_pool := F__law_pool.binds (ps := ["script"]) fun _ _ _ _ _ _ us hl => match us, hl with | [_], _ => rfl
  have G__law_pool := ok__law_pool (P := P) (w := w) (base := base) F__law_pool (PySem.W.mg_of X G a__law_pool) b__law_pool T 
  have F__law_stream := fun_mk (st := s__law_stream) l__law_stream c__law_stream k__law_stream
  have b__law_stream := F__law_stream.binds (ps := ["script"]) fun _ _ _ _ _ _ us hl => match us, hl with | [_], _ => rfl
  have G__law_stream := ok__law_stream (P := P) (w := w) (base := base) F__law_stream T G__law_pool
  have F__law_longer := fun_mk (st := s__law_longer) l__law_longer c__law_longer k__law_longer
  have b__law_longer := F__law_longer.binds (ps := ["pool", "many"]) fun _ _ _ _ _ _ us hl => match us, hl with | [_, _], _ => rfl
  have N__law_longer := ok__law_longer (P := P) (w := w) (base := base) F__law_longer T
  have F__law_pick := fun_mk (st := s__law_pick) l__law_pick c__law_pick k__law_pick
  have b__law_pick := F__law_pick.binds (ps := ["pool", "many"]) fun _ _ _ _ _ _ us hl => match us, hl with | [_, _], _ => rfl
  have N__law_pick := ok__law_pick (P := P) (w := w) (base := base) F__law_pick T
  have G__law_pick := pickD N__law_pick (PySem.W.mg_of X G a__law_pick) k__law_pick b__law_pick
  have F__law_far := fun_mk (st := s__law_far) l__law_far c__law_far k__law_far
  have b__law_far := F__law_far.binds (ps := ["pool", "many"]) fun _ _ _ _ _ _ us hl => match us, hl with | [_, _], _ => rfl
  have G__law_far := ok__law_far (P := P) (w := w) (base := base) F__law_far (PySem.W.mg_of X G a__law_far) b__law_far T G__law_pick
  have F__law_same := fun_mk (st := s__law_same) l__law_same c__law_same k__law_same
  have b__law_same := F__law_same.binds (ps := ["told", "due"]) fun _ _ _ _ _ _ us hl => match us, hl with | [_, _], _ => rfl
  have G__law_same := ok__law_same (P := P) (w := w) (base := base) F__law_same (PySem.W.mg_of X G a__law_same) b__law_same T 
  have F__law_part := fun_mk (st := s__law_part) l__law_part c__law_part k__law_part
  have b__law_part := F__law_part.binds (ps := ["pool", "unit"]) fun _ _ _ _ _ _ us hl => match us, hl with | [_, _], _ => rfl
  have G__law_part := ok__law_part (P := P) (w := w) (base := base) F__law_part (PySem.W.mg_of X G a__law_part) b__law_part T G__law_pick
  have F__law_cut := fun_mk (st := s__law_cut) l__law_cut c__law_cut k__law_cut
  have b__law_cut := F__law_cut.binds (ps := ["number", "lo", "hi"]) fun _ _ _ _ _ _ us hl => match us, hl with | [_, _, _], _ => rfl
  have G__law_cut := ok__law_cut (P := P) (w := w) (base := base) F__law_cut (PySem.W.mg_of X G a__law_cut) b__law_cut T 
  have F__law_tops := fun_mk (st := s__law_tops) l__law_tops c__law_tops k__law_tops
  have b__law_tops := F__law_tops.binds (ps := ["parts", "top", "low"]) fun _ _ _ _ _ _ us hl => match us, hl with | [_, _, _], _ => rfl
  have G__law_tops := ok__law_tops (P := P) (w := w) (base := base) F__law_tops (PySem.W.mg_of X G a__law_tops) b__law_tops T G__law_cut
  have F__law_wholes := fun_mk (st := s__law_wholes) l__law_wholes c__law_wholes k__law_wholes
  have b__law_wholes := F__law_wholes.binds (ps := ["tops", "low"]) fun _ _ _ _ _ _ us hl => match us, hl with | [_, _], _ => rfl
  have G__law_wholes := ok__law_wholes (P := P) (w := w) (base := base) F__law_wholes (PySem.W.mg_of X G a__law_wholes) b__law_wholes T 
  have F__law_ends := fun_mk (st := s__law_ends) l__law_ends c__law_ends k__law_ends
  have b__law_ends := F__law_ends.binds (ps := ["parts"]) fun _ _ _ _ _ _ us hl => match us, hl with | [_], _ => rfl
  have G__law_ends := ok__law_ends (P := P) (w := w) (base := base) F__law_ends (PySem.W.mg_of X G a__law_ends) b__law_ends T G__law_cut
  have F__law_moves := fun_mk (st := s__law_moves) l__law_moves c__law_moves k__law_moves
  have b__law_moves := F__law_moves.binds (ps := ["part", "top", "low", "way"]) fun _ _ _ _ _ _ us hl => match us, hl with | [_, _, _, _], _ => rfl
  have G__law_moves := ok__law_moves (P := P) (w := w) (base := base) F__law_moves (PySem.W.mg_of X G a__law_moves) b__law_moves T 
  have F__law_lowest := fun_mk (st := s__law_lowest) l__law_lowest c__law_lowest k__law_lowest
  have b__law_lowest := F__law_lowest.binds (ps := ["top", "low"]) fun _ _ _ _ _ _ us hl => match us, hl with | [_, _], _ => rfl
  have G__law_lowest := ok__law_lowest (P := P) (w := w) (base := base) F__law_lowest (PySem.W.mg_of X G a__law_lowest) b__law_lowest T 
  have F__law_is_nearest := fun_mk (st := s__law_is_nearest) l__law_is_nearest c__law_is_nearest k__law_is_nearest
  have b__law_is_nearest := F__law_is_nearest.binds (ps := ["parts", "room", "told"]) fun _ _ _ _ _ _ us hl => match us, hl with | [_, _, _], _ => rfl
  have G__law_is_nearest := ok__law_is_nearest (P := P) (w := w) (base := base) F__law_is_nearest (PySem.W.mg_of X G a__law_is_nearest) b__law_is_nearest T G__law_lowest G__law_tops G__law_moves
  have F__law_right := fun_mk (st := s__law_right) l__law_right c__law_right k__law_right
  have b__law_right := F__law_right.binds (ps := ["parts", "room"]) fun _ _ _ _ _ _ us hl => match us, hl with | [_, _], _ => rfl
  have G__law_right := ok__law_right (P := P) (w := w) (base := base) F__law_right (PySem.W.mg_of X G a__law_right) b__law_right T G_shares G__law_same G__law_ends G__law_is_nearest G__law_wholes G__law_tops
  have F__law_rooms := fun_mk (st := s__law_rooms) l__law_rooms c__law_rooms k__law_rooms
  have b__law_rooms := F__law_rooms.binds (ps := ["pool", "parts", "unit"]) fun _ _ _ _ _ _ us hl => match us, hl with | [_, _, _], _ => rfl
  have G__law_rooms := ok__law_rooms (P := P) (w := w) (base := base) F__law_rooms (PySem.W.mg_of X G a__law_rooms) b__law_rooms T G__law_ends G__law_cut G__law_pick G__law_tops
  have F__law_outcome := fun_mk (st := s__law_outcome) l__law_outcome c__law_outcome k__law_outcome
  have b__law_outcome := F__law_outcome.binds (ps := ["parts", "room"]) fun _ _ _ _ _ _ us hl => match us, hl with | [_, _], _ => rfl
  have G__law_outcome := ok__law_outcome F__law_outcome (PySem.W.mg_of X G a__law_outcome) b__law_outcome T G_shares
  have F__law_refused := fun_mk (st := s__law_refused) l__law_refused c__law_refused k__law_refused
  have b__law_refused := F__law_refused.binds (ps := ["pool", "parts", "room"]) fun _ _ _ _ _ _ us hl => match us, hl with | [_, _, _], _ => rfl
  have G__law_refused := ok__law_refused (P := P) (w := w) (base := base) F__law_refused (PySem.W.mg_of X G a__law_refused) b__law_refused T G__law_pick G__law_part G__law_far G__law_outcome G__law_right
  have F__law_great := fun_mk (st := s__law_great) l__law_great c__law_great k__law_great
  have b__law_great := F__law_great.binds (ps := ["pool"]) fun _ _ _ _ _ _ us hl => match us, hl with | [_], _ => rfl
  have N__law_great := ok__law_great F__law_great T N__law_longer (PySem.W.mg_of X G a__law_longer) k__law_longer b__law_longer G__law_pick G__law_far G__law_part G__law_right G__law_outcome
  have F_law := fun_mk (st := s_law) l_law c_law k_law
  exact ok_law F_law T G__law_stream (PySem.W.mg_of X G a__law_stream) k__law_stream b__law_stream N__law_pick (PySem.W.mg_of X G a__law_pick) k__law_pick b__law_pick N__law_great (PySem.W.mg_of X G a__law_great) k__law_great b__law_great G__law_pick G__law_part G__law_rooms G__law_right G_shares G__law_refused G__law_same
theorem walk {l : PySem.W.OpenLaw} {q : Program} {loose : List Str} {XP : (Str → Option Value) → Heap → Prop} {YP : World → Heap → Prop} {d : DefRec} {K : Params → PySem.W.Frag} (hn : l.most = some 63) (hdf : d.params.defaults = [])
    (hY : ∀ (w : World) (h : Heap), YP w h → (K w.params).In h)
    (F : ∀ (w : World) (mg : Str → Option Value) (fa : Addr) (h : Heap), (K w.params).In h → h.Ns mainGlobals mg → mg d.name = some (.ref fa) →
      ∃ fd : FuncData, (∀ (s : Shared) (u : Value), BindsTo s fd ⟨[u], []⟩ [("script", u)]) ∧ ∀ base : Heap, (K w.params).In base → base.Ns mainGlobals mg → FnOk l.prog w (K w.params) mg base (L2.CX l.prog w) 9 fa fd ["script"] (spLaw (K w.params))) :
    PySem.W.WalkO q loose XP YP l.row.toRowW d [] (fun f vs => PySem.call f vs) :=
  L2.walk_of (n := 63) (k := 9) (x := "script") (CX := fun w => L2.CX l.prog w) (sp := fun w => spLaw (K w.params)) hn (by decide) hdf ⟨rfl, by decide, by decide⟩ hY F (fun _ _ a ns hl _ hS => ⟨a, ns, rfl, hS, hl, fun _ => rfl⟩) fun _ _ _ _ _ h => by
    obtain ⟨_, _, _, _, _, _, _, _, _, _, _, _, z⟩ := h
    exact z
end K56

open PySem PySem.W PyProof.Rows in
set_option maxRecDepth 100000 in
set_option maxHeartbeats 0 in
theorem PySem.Challenge.cw_pageseen_k56_whole_shares_have_their_roo_holds : PySem.Challenge.rw_pageseen_k56_whole_shares_have_their_roo.Holds := by
  w_on; o_law; k_head; (case hw => w_witness2)
  k_fill
  refine K56.walk (l := PySem.Challenge.rw_pageseen_k56_whole_shares_have_their_roo) rfl rfl (fun w h Y => PySem.W.kIn_of Y) ?F
  case F =>
    intro w mg fa h KX G hmg
    refine' K56.all_mk KX G hmg ?a_is_whole ?l_is_whole ?c_is_whole ?k_is_whole ?a_is_part ?l_is_part ?c_is_part ?k_is_part ?a_check_parts ?l_check_parts ?c_check_parts ?k_check_parts ?a_cut ?l_cut ?c_cut ?k_cut ?a_times ?l_times ?c_times ?k_times ?a_tops_at ?l_tops_at ?c_tops_at ?k_tops_at ?a_knots_of ?l_knots_of ?c_knots_of ?k_knots_of ?a_gain_behind ?l_gain_behind ?c_gain_behind ?k_gain_behind ?a_lowest ?l_lowest ?c_lowest ?k_lowest ?a_least_ratio ?l_least_ratio ?c_least_ratio ?k_least_ratio ?a_mirrored ?l_mirrored ?c_mirrored ?k_mirrored ?a_ratio_of ?l_ratio_of ?c_ratio_of ?k_ratio_of ?a_ends_of ?l_ends_of ?c_ends_of ?k_ends_of ?a_whole_sizes ?l_whole_sizes ?c_whole_sizes ?k_whole_sizes ?a_sizes_at ?l_sizes_at ?c_sizes_at ?k_sizes_at ?a_shares ?l_shares ?c_shares ?k_shares ?a__law_pool ?l__law_pool ?c__law_pool ?k__law_pool ?a__law_stream ?l__law_stream ?c__law_stream ?k__law_stream ?a__law_longer ?l__law_longer ?c__law_longer ?k__law_longer ?a__law_pick ?l__law_pick ?c__law_pick ?k__law_pick ?a__law_far ?l__law_far ?c__law_far ?k__law_far ?a__law_same ?l__law_same ?c__law_same ?k__law_same ?a__law_part ?l__law_part ?c__law_part ?k__law_part ?a__law_cut ?l__law_cut ?c__law_cut ?k__law_cut ?a__law_tops ?l__law_tops ?c__law_tops ?k__law_tops ?a__law_wholes ?l__law_wholes ?c__law_wholes ?k__law_wholes ?a__law_ends ?l__law_ends ?c__law_ends ?k__law_ends ?a__law_moves ?l__law_moves ?c__law_moves ?k__law_moves ?a__law_lowest ?l__law_lowest ?c__law_lowest ?k__law_lowest ?a__law_is_nearest ?l__law_is_nearest ?c__law_is_nearest ?k__law_is_nearest ?a__law_right ?l__law_right ?c__law_right ?k__law_right ?a__law_rooms ?l__law_rooms ?c__law_rooms ?k__law_rooms ?a__law_outcome ?l__law_outcome ?c__law_outcome ?k__law_outcome ?a__law_refused ?l__law_refused ?c__law_refused ?k__law_refused ?a__law_great ?l__law_great ?c__law_great ?k__law_great ?a_law ?l_law ?c_law ?k_law ?z_len ?z_isinstance ?z_int ?z_bool ?z_tuple ?z_list ?z_str ?z_dict ?z_all ?z_any ?z_sum ?z_max ?z_abs ?z_range ?z_gcd ?z_MP ?g_BadParts ?g_BadList ?g_PageError ?xP ?xK ?xS ?xT ?e1 ?e2 ?e4 ?e5 ?e6 ?e7 ?e8 ?p1 ?p2 ?p3 ?p4 ?b1 ?b2 ?b3 ?b4
    (case a_is_whole => k_is)
    (case l_is_whole => k_is)
    (case c_is_whole => k_is)
    (case k_is_whole => k_is)
    (case a_is_part => k_is)
    (case l_is_part => k_is)
    (case c_is_part => k_is)
    (case k_is_part => k_is)
    (case a_check_parts => k_is)
    (case l_check_parts => k_is)
    (case c_check_parts => k_is)
    (case k_check_parts => k_is)
    (case a_cut => k_is)
    (case l_cut => k_is)
    (case c_cut => k_is)
    (case k_cut => k_is)
    (case a_times => k_is)
    (case l_times => k_is)
    (case c_times => k_is)
    (case k_times => k_is)
    (case a_tops_at => k_is)
    (case l_tops_at => k_is)
    (case c_tops_at => k_is)
    (case k_tops_at => k_is)
    (case a_knots_of => k_is)
    (case l_knots_of => k_is)
    (case c_knots_of => k_is)
    (case k_knots_of => k_is)
    (case a_gain_behind => k_is)
    (case l_gain_behind => k_is)
    (case c_gain_behind => k_is)
    (case k_gain_behind => k_is)
    (case a_lowest => k_is)
    (case l_lowest => k_is)
    (case c_lowest => k_is)
    (case k_lowest => k_is)
    (case a_least_ratio => k_is)
    (case l_least_ratio => k_is)
    (case c_least_ratio => k_is)
    (case k_least_ratio => k_is)
    (case a_mirrored => k_is)
    (case l_mirrored => k_is)
    (case c_mirrored => k_is)
    (case k_mirrored => k_is)
    (case a_ratio_of => k_is)
    (case l_ratio_of => k_is)
    (case c_ratio_of => k_is)
    (case k_ratio_of => k_is)
    (case a_ends_of => k_is)
    (case l_ends_of => k_is)
    (case c_ends_of => k_is)
    (case k_ends_of => k_is)
    (case a_whole_sizes => k_is)
    (case l_whole_sizes => k_is)
    (case c_whole_sizes => k_is)
    (case k_whole_sizes => k_is)
    (case a_sizes_at => k_is)
    (case l_sizes_at => k_is)
    (case c_sizes_at => k_is)
    (case k_sizes_at => k_is)
    (case a_shares => k_is)
    (case l_shares => k_is)
    (case c_shares => k_is)
    (case k_shares => k_is)
    (case a__law_pool => k_is)
    (case l__law_pool => k_is)
    (case c__law_pool => k_is)
    (case k__law_pool => k_is)
    (case a__law_stream => k_is)
    (case l__law_stream => k_is)
    (case c__law_stream => k_is)
    (case k__law_stream => k_is)
    (case a__law_longer => k_is)
    (case l__law_longer => k_is)
    (case c__law_longer => k_is)
    (case k__law_longer => k_is)
    (case a__law_pick => k_is)
    (case l__law_pick => k_is)
    (case c__law_pick => k_is)
    (case k__law_pick => k_is)
    (case a__law_far => k_is)
    (case l__law_far => k_is)
    (case c__law_far => k_is)
    (case k__law_far => k_is)
    (case a__law_same => k_is)
    (case l__law_same => k_is)
    (case c__law_same => k_is)
    (case k__law_same => k_is)
    (case a__law_part => k_is)
    (case l__law_part => k_is)
    (case c__law_part => k_is)
    (case k__law_part => k_is)
    (case a__law_cut => k_is)
    (case l__law_cut => k_is)
    (case c__law_cut => k_is)
    (case k__law_cut => k_is)
    (case a__law_tops => k_is)
    (case l__law_tops => k_is)
    (case c__law_tops => k_is)
    (case k__law_tops => k_is)
    (case a__law_wholes => k_is)
    (case l__law_wholes => k_is)
    (case c__law_wholes => k_is)
    (case k__law_wholes => k_is)
    (case a__law_ends => k_is)
    (case l__law_ends => k_is)
    (case c__law_ends => k_is)
    (case k__law_ends => k_is)
    (case a__law_moves => k_is)
    (case l__law_moves => k_is)
    (case c__law_moves => k_is)
    (case k__law_moves => k_is)
    (case a__law_lowest => k_is)
    (case l__law_lowest => k_is)
    (case c__law_lowest => k_is)
    (case k__law_lowest => k_is)
    (case a__law_is_nearest => k_is)
    (case l__law_is_nearest => k_is)
    (case c__law_is_nearest => k_is)
    (case k__law_is_nearest => k_is)
    (case a__law_right => k_is)
    (case l__law_right => k_is)
    (case c__law_right => k_is)
    (case k__law_right => k_is)
    (case a__law_rooms => k_is)
    (case l__law_rooms => k_is)
    (case c__law_rooms => k_is)
    (case k__law_rooms => k_is)
    (case a__law_outcome => k_is)
    (case l__law_outcome => k_is)
    (case c__law_outcome => k_is)
    (case k__law_outcome => k_is)
    (case a__law_refused => k_is)
    (case l__law_refused => k_is)
    (case c__law_refused => k_is)
    (case k__law_refused => k_is)
    (case a__law_great => k_is)
    (case l__law_great => k_is)
    (case c__law_great => k_is)
    (case k__law_great => k_is)
    (case a_law => k_is)
    (case l_law => k_is)
    (case c_law => k_is)
    (case k_law => k_is)
    (case z_len => k_is)
    (case z_isinstance => k_is)
    (case z_int => k_is)
    (case z_bool => k_is)
    (case z_tuple => k_is)
    (case z_list => k_is)
    (case z_str => k_is)
    (case z_dict => k_is)
    (case z_all => k_is)
    (case z_any => k_is)
    (case z_sum => k_is)
    (case z_max => k_is)
    (case z_abs => k_is)
    (case z_range => k_is)
    (case z_gcd => k_is)
    (case z_MP => k_is)
    (case g_BadParts => k_is)
    (case g_BadList => k_is)
    (case g_PageError => k_is)
    (case xP => k_exc)
    (case xK => k_is)
    (case xS => k_is)
    (case xT => k_is)
    (case e1 => k_is)
    (case e2 => k_is)
    (case e4 => k_is)
    (case e5 => k_is)
    (case e6 => k_is)
    (case e7 => k_is)
    (case e8 => k_is)
    (case p1 => k_is)
    (case p2 => k_is)
    (case p3 => k_is)
    (case p4 => k_is)
    (case b1 => k_is)
    (case b2 => k_is)
    (case b3 => k_is)
    (case b4 => k_is)
#print axioms PySem.Challenge.cw_pageseen_k56_whole_shares_have_their_roo_holds
