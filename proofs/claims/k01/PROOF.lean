import PyProof.Rows.All
import HandS.ForMost
import HandS.Exc
import HandS.WordsExc
import HandS.Defaults
import HandS.IsInst
import HandS.Wide
import HandS.DictComp
import HandS.TupAny
import HandS.Flow
import HandS.More
import PyProof.StrWalks
import HandS.Style
import KE.KRevSl
import HandS.CallSlots
import HandS.MapJoin
import HandS.Codes
import HandS.Head0
import HandS.Head1
import HandS.Head2
import HandS.HeadEnd
import HandS.HeadHook1
import HandS.HeadHook2
import HandS.HeadWalk
import PySem.Challenge.RW_waysheld_k01_names_places_and_roads
set_option Elab.async false
set_option linter.all false
set_option maxRecDepth 100000
set_option maxHeartbeats 4000000
namespace Fz
open PySem L2

/-! ### pure data, values, cells -/
inductive D where
  | non | bl (b : Bool) | int (i : Int) | str (s : Str)
  | tup (xs : List D) | lst (xs : List D) | dic (kvs : List (D × D))
  | ins (c : Nat) (fs : List (Str × D))
  | typ (n : String) | cls (c : Nat)
inductive A where
  | p (d : D) | c (i : Nat) | t (xs : List A)
inductive C where
  | lst (xs : List D) | lsa (xs : List A) | dic (kvs : List (D × D)) | dca (kvs : List (D × A))
  | ins (c : Nat) (fs : List (Str × A)) | dead
abbrev Mem := List C
abbrev Env' := List (Option A)

/-- what is fixed through a law: the fragment, the classes' addresses -/
structure Gd where
  K : PySem.W.Frag
  cls : Nat → Addr

def keyD : D → Option Key
  | .int i => some (.inl i)
  | .str s => some (.inr s)
  | _ => none
def keysD : List D → Option (List Key)
  | [] => some []
  | d :: ds => match keyD d, keysD ds with
    | some k, some ks => some (k :: ks)
    | _, _ => none

mutual
inductive RepD (G : Gd) (F : Hp) : D → V → Prop
  | non : RepD G F .non .non
  | bl (b) : RepD G F (.bl b) (.bl b)
  | int (i) : RepD G F (.int i) (.int i)
  | str (s) : RepD G F (.str s) (.str s)
  | tup {ds a vs} : SqT G.K F a vs → RepDs G F ds vs → RepD G F (.tup ds) (.ref a)
  | lst {ds a vs} : Rd F a (.lst vs) → RepDs G F ds vs → RepD G F (.lst ds) (.ref a)
  | dK {kvs a vs} : Rd F a (.dK vs) → RepK G F kvs vs → RepD G F (.dic kvs) (.ref a)
  | dT {kvs a vs} : Rd F a (.dT vs) → kvs ≠ [] → RepT G F kvs vs → RepD G F (.dic kvs) (.ref a)
  | ins {c fs a dx gs} : F a = some (.ins (G.cls c) dx gs) → F dx = some (.own a) → RepF G F fs gs → RepD G F (.ins c fs) (.ref a)
  | typ (n) : RepD G F (.typ n) (.ty n)
  | cls (c) : RepD G F (.cls c) (.ref (G.cls c))
inductive RepDs (G : Gd) (F : Hp) : List D → List V → Prop
  | nil : RepDs G F [] []
  | cons {d v ds vs} : RepD G F d v → RepDs G F ds vs → RepDs G F (d :: ds) (v :: vs)
inductive RepK (G : Gd) (F : Hp) : List (D × D) → List (Key × V) → Prop
  | nil : RepK G F [] []
  | cons {d e k v ds vs} : keyD d = some k → RepD G F e v → RepK G F ds vs → RepK G F ((d, e) :: ds) ((k, v) :: vs)
inductive RepT (G : Gd) (F : Hp) : List (D × D) → List (List Key × V) → Prop
  | nil : RepT G F [] []
  | cons {ds' e k v ds vs} : keysD ds' = some k → RepD G F e v → RepT G F ds vs → RepT G F ((.tup ds', e) :: ds) ((k, v) :: vs)
inductive RepF (G : Gd) (F : Hp) : List (Str × D) → List (Str × V) → Prop
  | nil : RepF G F [] []
  | cons {f d v fs gs} : RepD G F d v → RepF G F fs gs → RepF G F ((f, d) :: fs) ((f, v) :: gs)
end

section
variable {G : Gd} {F F' : Hp}
theorem Rd_mono {a u} (e : Same F F') (h : Rd F a u) : Rd F' a u := by
  rcases h with h | ⟨o, h⟩
  · exact .inl (e _ _ h)
  · exact .inr ⟨o, e _ _ h⟩
theorem SqL_mono {K : PySem.W.Frag} {a xs} (e : Same F F') (h : SqL K F a xs) : SqL K F' a xs := e.seq h
theorem SqT_mono {K : PySem.W.Frag} {a xs} (e : Same F F') (h : SqT K F a xs) : SqT K F' a xs := by
  rcases h with (h | ⟨o, h⟩) | h
  · exact .inl (.inl (e _ _ h))
  · exact .inl (.inr ⟨o, e _ _ h⟩)
  · exact .inr h
mutual
theorem RepD.mono (e : Same F F') : ∀ {d v}, RepD G F d v → RepD G F' d v
  | _, _, .non => .non
  | _, _, .bl b => .bl b
  | _, _, .int i => .int i
  | _, _, .str s => .str s
  | _, _, .tup h r => .tup (SqT_mono e h) (r.mono e)
  | _, _, .lst h r => .lst (Rd_mono e h) (r.mono e)
  | _, _, .dK h r => .dK (Rd_mono e h) (r.mono e)
  | _, _, .dT h n r => .dT (Rd_mono e h) n (r.mono e)
  | _, _, .ins h1 h2 r => .ins (e _ _ h1) (e _ _ h2) (r.mono e)
  | _, _, .typ n => .typ n
  | _, _, .cls c => .cls c
theorem RepDs.mono (e : Same F F') : ∀ {d v}, RepDs G F d v → RepDs G F' d v
  | _, _, .nil => .nil
  | _, _, .cons a b => .cons (a.mono e) (b.mono e)
theorem RepK.mono (e : Same F F') : ∀ {d v}, RepK G F d v → RepK G F' d v
  | _, _, .nil => .nil
  | _, _, .cons k a b => .cons k (a.mono e) (b.mono e)
theorem RepT.mono (e : Same F F') : ∀ {d v}, RepT G F d v → RepT G F' d v
  | _, _, .nil => .nil
  | _, _, .cons k a b => .cons k (a.mono e) (b.mono e)
theorem RepF.mono (e : Same F F') : ∀ {d v}, RepF G F d v → RepF G F' d v
  | _, _, .nil => .nil
  | _, _, .cons a b => .cons (a.mono e) (b.mono e)
end
theorem RepDs.length : ∀ {d v}, RepDs G F d v → d.length = v.length
  | _, _, .nil => rfl
  | _, _, .cons _ b => by simp [b.length]
theorem RepDs.get : ∀ {ds vs} {i : Nat} {d : D}, RepDs G F ds vs → ds[i]? = some d → ∃ v, vs[i]? = some v ∧ RepD G F d v
  | _, _, _, _, .nil, e => by simp at e
  | _, _, 0, _, .cons a b, e => by simp at e; subst e; exact ⟨_, rfl, a⟩
  | _, _, i + 1, _, .cons a b, e => by
    obtain ⟨v, h1, h2⟩ := RepDs.get (i := i) b (by simpa using e)
    exact ⟨v, by simpa using h1, h2⟩
theorem RepDs.append : ∀ {ds vs es us}, RepDs G F ds vs → RepDs G F es us → RepDs G F (ds ++ es) (vs ++ us)
  | _, _, _, _, .nil, s => s
  | _, _, _, _, .cons a b, s => .cons a (b.append s)
theorem RepDs.take : ∀ {ds vs} (n : Nat), RepDs G F ds vs → RepDs G F (ds.take n) (vs.take n)
  | _, _, 0, _ => .nil
  | _, _, _ + 1, .nil => .nil
  | _, _, n + 1, .cons a b => .cons a (b.take n)
theorem RepDs.drop : ∀ {ds vs} (n : Nat), RepDs G F ds vs → RepDs G F (ds.drop n) (vs.drop n)
  | _, _, 0, r => r
  | _, _, _ + 1, .nil => .nil
  | _, _, n + 1, .cons a b => b.drop n
theorem RepDs.set {d v} (r : RepD G F d v) : ∀ {ds vs} (n : Nat), RepDs G F ds vs → RepDs G F (ds.set n d) (vs.set n v)
  | _, _, _, .nil => .nil
  | _, _, 0, .cons a b => .cons r b
  | _, _, n + 1, .cons a b => .cons a (b.set r n)
theorem RepDs.reverse : ∀ {ds vs}, RepDs G F ds vs → RepDs G F ds.reverse vs.reverse
  | _, _, .nil => .nil
  | _, _, .cons a b => by rw [List.reverse_cons, List.reverse_cons]; exact b.reverse.append (.cons a .nil)
end

mutual
inductive RepA (G : Gd) (F : Hp) (ρ : List Addr) : A → V → Prop
  | p {d v} : RepD G F d v → RepA G F ρ (.p d) v
  | c {i a} : ρ[i]? = some a → RepA G F ρ (.c i) (.ref a)
  | t {xs a vs} : F a = some (.tup vs) → RepAs G F ρ xs vs → RepA G F ρ (.t xs) (.ref a)
inductive RepAs (G : Gd) (F : Hp) (ρ : List Addr) : List A → List V → Prop
  | nil : RepAs G F ρ [] []
  | cons {x v xs vs} : RepA G F ρ x v → RepAs G F ρ xs vs → RepAs G F ρ (x :: xs) (v :: vs)
end
inductive RepFA (G : Gd) (F : Hp) (ρ : List Addr) : List (Str × A) → List (Str × V) → Prop
  | nil : RepFA G F ρ [] []
  | cons {f d v fs gs} : RepA G F ρ d v → RepFA G F ρ fs gs → RepFA G F ρ ((f, d) :: fs) ((f, v) :: gs)
inductive RepKA (G : Gd) (F : Hp) (ρ : List Addr) : List (D × A) → List (Key × V) → Prop
  | nil : RepKA G F ρ [] []
  | cons {d e k v ds vs} : keyD d = some k → RepA G F ρ e v → RepKA G F ρ ds vs → RepKA G F ρ ((d, e) :: ds) ((k, v) :: vs)

/-- the old frozen heap and places are kept -/
structure Ext (F : Hp) (ρ : List Addr) (F' : Hp) (ρ' : List Addr) : Prop where
  f : Same F F'
  r : ∃ t, ρ' = ρ ++ t
theorem Ext.refl {F ρ} : Ext F ρ F ρ := ⟨.refl _, [], by simp⟩
theorem Ext.trans {F ρ F1 ρ1 F2 ρ2} (a : Ext F ρ F1 ρ1) (b : Ext F1 ρ1 F2 ρ2) : Ext F ρ F2 ρ2 := by
  obtain ⟨t, rfl⟩ := a.r
  obtain ⟨u, rfl⟩ := b.r
  exact ⟨a.f.trans b.f, t ++ u, by simp⟩
theorem Ext.at_ {F : Hp} {ρ : List Addr} {F' : Hp} {ρ' : List Addr} (e : Ext F ρ F' ρ') {i : Nat} {a : Addr} (h : ρ[i]? = some a) : ρ'[i]? = some a := by
  obtain ⟨t, rfl⟩ := e.r
  have hi := (List.getElem?_eq_some_iff.mp h).1
  rw [List.getElem?_append_left hi]; exact h
section
variable {G : Gd} {F F' : Hp} {ρ ρ' : List Addr}
mutual
theorem RepA.mono (e : Ext F ρ F' ρ') : ∀ {d v}, RepA G F ρ d v → RepA G F' ρ' d v
  | _, _, .p h => .p (h.mono e.f)
  | _, _, .c h => .c (e.at_ h)
  | _, _, .t h r => .t (e.f _ _ h) (r.mono e)
theorem RepAs.mono (e : Ext F ρ F' ρ') : ∀ {d v}, RepAs G F ρ d v → RepAs G F' ρ' d v
  | _, _, .nil => .nil
  | _, _, .cons a b => .cons (a.mono e) (b.mono e)
end
theorem RepFA.mono (e : Ext F ρ F' ρ') : ∀ {d v}, RepFA G F ρ d v → RepFA G F' ρ' d v
  | _, _, .nil => .nil
  | _, _, .cons a b => .cons (a.mono e) (b.mono e)
theorem RepKA.mono (e : Ext F ρ F' ρ') : ∀ {d v}, RepKA G F ρ d v → RepKA G F' ρ' d v
  | _, _, .nil => .nil
  | _, _, .cons k a b => .cons k (a.mono e) (b.mono e)
theorem RepAs.length : ∀ {d v}, RepAs G F ρ d v → d.length = v.length
  | _, _, .nil => rfl
  | _, _, .cons _ b => by simp [b.length]
theorem RepAs.append : ∀ {ds vs es us}, RepAs G F ρ ds vs → RepAs G F ρ es us → RepAs G F ρ (ds ++ es) (vs ++ us)
  | _, _, _, _, .nil, s => s
  | _, _, _, _, .cons a b, s => .cons a (b.append s)
theorem RepAs.get : ∀ {ds vs} {i : Nat} {d : A}, RepAs G F ρ ds vs → ds[i]? = some d → ∃ v, vs[i]? = some v ∧ RepA G F ρ d v
  | _, _, _, _, .nil, e => by simp at e
  | _, _, 0, _, .cons a b, e => by simp at e; subst e; exact ⟨_, rfl, a⟩
  | _, _, i + 1, _, .cons a b, e => by
    obtain ⟨v, h1, h2⟩ := RepAs.get (i := i) b (by simpa using e)
    exact ⟨v, by simpa using h1, h2⟩
theorem RepAs.of_p : ∀ {ds : List D} {vs}, RepDs G F ds vs → RepAs G F ρ (ds.map A.p) vs
  | _, _, .nil => .nil
  | _, _, .cons a b => .cons (.p a) (RepAs.of_p b)
end
/-- a cell's content at a -/
inductive CRep (G : Gd) (Φ F : Hp) (ρ : List Addr) (H : Hp) (a : Addr) : C → Prop
  | lst {ds vs} : H a = some (.lst vs) → RepDs G F ds vs → CRep G Φ F ρ H a (.lst ds)
  | lsa {ds vs} : H a = some (.lst vs) → RepAs G F ρ ds vs → CRep G Φ F ρ H a (.lsa ds)
  | dK {kvs vs} : H a = some (.dK vs) → RepK G F kvs vs → CRep G Φ F ρ H a (.dic kvs)
  | dT {kvs vs} : H a = some (.dT vs) → kvs ≠ [] → RepT G F kvs vs → CRep G Φ F ρ H a (.dic kvs)
  | dca {kvs vs} : H a = some (.dK vs) → RepKA G F ρ kvs vs → CRep G Φ F ρ H a (.dca kvs)
  | ins {c fs dx gs} : H a = some (.ins (G.cls c) dx gs) → H dx = some (.own a) → F dx = none → Φ dx = none → RepFA G F ρ fs gs → CRep G Φ F ρ H a (.ins c fs)
  | dead : CRep G Φ F ρ H a .dead

structure MR (G : Gd) (Φ F : Hp) (ρ : List Addr) (M : Mem) (H : Hp) : Prop where
  fr : Same Φ H
  sub : Same F H
  dj : ∀ a o, Φ a = some o → (∀ xs, o ≠ .tup xs) → F a = none
  len : ρ.length = M.length
  nd : ρ.Nodup
  al : ∀ a ∈ ρ, H a ≠ none
  fd : ∀ a ∈ ρ, Φ a = none
  at_ : ∀ (i : Nat) (c : C) (a : Addr), M[i]? = some c → ρ[i]? = some a → c ≠ .dead → Φ a = none ∧ F a = none ∧ CRep G Φ F ρ H a c
end Fz

set_option maxHeartbeats 4000000
namespace Fz
open PySem L2
section
variable {G : Gd} {Φ F F' : Hp} {ρ ρ' : List Addr} {M : Mem} {H H' : Hp} {a p : Addr} {c : C} {o : HO} {i : Nat}

theorem CRep.keep (r : CRep G Φ F ρ H a c) (e : Ext F ρ F' ρ') (hH : ∀ b o, (b = a ∨ H b = some (.own a)) → H b = some o → H' b = some o) (hF : ∀ b, H b = some (.own a) → F b = none → F' b = none) : CRep G Φ F' ρ' H' a c := by
  cases r with
  | lst h r => exact .lst (hH _ _ (.inl rfl) h) (r.mono e.f)
  | lsa h r => exact .lsa (hH _ _ (.inl rfl) h) (r.mono e)
  | dK h r => exact .dK (hH _ _ (.inl rfl) h) (r.mono e.f)
  | dT h n r => exact .dT (hH _ _ (.inl rfl) h) n (r.mono e.f)
  | dca h r => exact .dca (hH _ _ (.inl rfl) h) (r.mono e)
  | ins h1 h2 h3 h4 r => exact .ins (hH _ _ (.inl rfl) h1) (hH _ _ (.inr h2) h2) (hF _ h2 h3) h4 (r.mono e)
  | dead => exact .dead
theorem CRep.there (r : CRep G Φ F ρ H a c) (n : c ≠ .dead) : ∃ o, H a = some o ∧ ∀ x, o ≠ .own x := by
  cases r with
  | lst h r => exact ⟨_, h, fun _ q => nomatch q⟩
  | lsa h r => exact ⟨_, h, fun _ q => nomatch q⟩
  | dK h r => exact ⟨_, h, fun _ q => nomatch q⟩
  | dT h _ r => exact ⟨_, h, fun _ q => nomatch q⟩
  | dca h r => exact ⟨_, h, fun _ q => nomatch q⟩
  | ins h1 h2 h3 h4 r => exact ⟨_, h1, fun _ q => nomatch q⟩
  | dead => exact absurd rfl n

theorem same_upd (hp : F p = none) : Same F (upd F p o) := fun b ob h => by rw [upd_ne (ne_of_none h hp)]; exact h
theorem Ext.new (hp : F p = none) : Ext F ρ (upd F p o) ρ := ⟨same_upd hp, [], by simp⟩
theorem Ext.grow : Ext F ρ F (ρ ++ [p]) := ⟨.refl _, [p], rfl⟩
theorem MR.freeF (m : MR G Φ F ρ M H) (hp : H p = none) : F p = none := m.sub.free hp
theorem MR.freeΦ (m : MR G Φ F ρ M H) (hp : H p = none) : Φ p = none := m.fr.free hp

/-- a new object, frozen -/
theorem MR.newF (m : MR G Φ F ρ M H) (hp : H p = none) : MR G Φ (upd F p o) ρ M (upd H p o) where
  fr := fun b ob h => by rw [upd_ne (ne_of_none h (m.freeΦ hp))]; exact m.fr _ _ h
  sub := fun b ob h => by
    by_cases e : b = p
    · subst e; rw [upd_same] at h ⊢; exact h
    · rw [upd_ne e] at h ⊢; exact m.sub _ _ h
  dj := fun b ob h n => by rw [upd_ne (ne_of_none h (m.freeΦ hp))]; exact m.dj _ _ h n
  len := m.len
  nd := m.nd
  al := fun a ha => by
    by_cases e : a = p
    · rw [e, upd_same]; exact fun q => nomatch q
    · rw [upd_ne e]; exact m.al a ha
  fd := m.fd
  at_ := fun i c a h1 h2 n => by
    obtain ⟨h3, h4, r⟩ := m.at_ i c a h1 h2 n
    obtain ⟨oa, ha, _⟩ := r.there n
    refine ⟨h3, by rw [upd_ne (ne_of_none ha hp)]; exact h4, r.keep (Ext.new (m.freeF hp)) (fun b ob _ h => by rw [upd_ne (ne_of_none h hp)]; exact h) fun b h q => by rw [upd_ne (ne_of_none h hp)]; exact q⟩
/-- a new object, a cell -/
theorem MR.newC (m : MR G Φ F ρ M H) (hp : H p = none) (hc : CRep G Φ F (ρ ++ [p]) (upd H p o) p c) : MR G Φ F (ρ ++ [p]) (M ++ [c]) (upd H p o) where
  fr := fun b ob h => by rw [upd_ne (ne_of_none h (m.freeΦ hp))]; exact m.fr _ _ h
  sub := fun b ob h => by rw [upd_ne (ne_of_none h (m.freeF hp))]; exact m.sub _ _ h
  dj := m.dj
  len := by simp [m.len]
  nd := by
    rw [List.nodup_append]
    refine ⟨m.nd, by simp, fun x hx y hy => ?_⟩
    rw [List.mem_singleton] at hy
    subst hy
    exact fun e => m.al x hx (e ▸ hp)
  al := fun a ha => by
    by_cases e : a = p
    · rw [e, upd_same]; exact fun q => nomatch q
    · rw [upd_ne e]
      rcases List.mem_append.mp ha with h | h
      · exact m.al a h
      · exact absurd (List.mem_singleton.mp h) e
  fd := fun a ha => by
    rcases List.mem_append.mp ha with h | h
    · exact m.fd a h
    · rw [List.mem_singleton.mp h]; exact m.freeΦ hp
  at_ := fun i c' a h1 h2 n => by
    by_cases hi : i < M.length
    · rw [List.getElem?_append_left hi] at h1
      rw [List.getElem?_append_left (by rw [m.len]; exact hi)] at h2
      obtain ⟨h3, h4, r⟩ := m.at_ i c' a h1 h2 n
      exact ⟨h3, h4, r.keep Ext.grow (fun b ob _ h => by rw [upd_ne (ne_of_none h hp)]; exact h) fun b h q => q⟩
    · have e : i = M.length := by
        have := (List.getElem?_eq_some_iff.mp h1).1
        simp at this; omega
      subst e
      rw [List.getElem?_append_right (Nat.le_refl _), Nat.sub_self] at h1
      rw [← m.len, List.getElem?_append_right (Nat.le_refl _), Nat.sub_self] at h2
      simp at h1 h2
      subst h1; subst h2
      exact ⟨m.freeΦ hp, m.freeF hp, hc⟩
theorem nodup_at {ρ : List Addr} (h : ρ.Nodup) {i j : Nat} {a : Addr} (h1 : ρ[i]? = some a) (h2 : ρ[j]? = some a) : i = j := by
  obtain ⟨l1, e1⟩ := List.getElem?_eq_some_iff.mp h1
  obtain ⟨l2, e2⟩ := List.getElem?_eq_some_iff.mp h2
  exact (List.getElem_inj h).mp (e1.trans e2.symm)
/-- a cell is written -/
theorem MR.write (m : MR G Φ F ρ M H) (hi : M[i]? = some c) (ha : ρ[i]? = some a) (hn : c ≠ .dead) {c' : C} (hc : CRep G Φ F ρ (upd H a o) a c') : MR G Φ F ρ (M.set i c') (upd H a o) := by
  obtain ⟨h1, h2, r⟩ := m.at_ i c a hi ha hn
  obtain ⟨oa, hoa, hown⟩ := r.there hn
  refine ⟨fun b ob h => by rw [upd_ne (fun e => by rw [e, h1] at h; cases h)]; exact m.fr _ _ h, fun b ob h => by rw [upd_ne (fun e => by rw [e, h2] at h; cases h)]; exact m.sub _ _ h, m.dj, by simp [m.len], m.nd, fun b hb => ?_, m.fd, fun j c2 b g1 g2 n => ?_⟩
  · by_cases e : b = a
    · rw [e, upd_same]; exact fun q => nomatch q
    · rw [upd_ne e]; exact m.al b hb
  · by_cases e : j = i
    · subst e
      rw [ha] at g2; cases g2
      rw [List.getElem?_set_self (List.getElem?_eq_some_iff.mp hi).1] at g1
      cases g1
      exact ⟨h1, h2, hc⟩
    · rw [List.getElem?_set_ne (Ne.symm e)] at g1
      have nb : b ≠ a := fun q => e (nodup_at m.nd g2 (q ▸ ha))
      obtain ⟨k1, k2, r2⟩ := m.at_ j c2 b g1 g2 n
      refine ⟨k1, k2, r2.keep .refl (fun b' ob hb h => ?_) fun _ _ q => q⟩
      refine (upd_ne ?_).trans h
      rcases hb with rfl | hb
      · exact nb
      · intro q; rw [q, hoa] at hb; cases hb; exact hown _ rfl
/-- a cell's object is frozen (it may be locked by that) -/
theorem MR.freeze (m : MR G Φ F ρ M H) (hi : M[i]? = some c) (ha : ρ[i]? = some a) (hn : c ≠ .dead) : MR G Φ (upd F a o) ρ (M.set i .dead) (upd H a o) := by
  obtain ⟨h1, h2, r⟩ := m.at_ i c a hi ha hn
  obtain ⟨oa, hoa, hown⟩ := r.there hn
  refine ⟨fun b ob h => by rw [upd_ne (fun e => by rw [e, h1] at h; cases h)]; exact m.fr _ _ h, fun b ob h => ?_, fun b ob h n => by rw [upd_ne (fun e => by rw [e, h1] at h; cases h)]; exact m.dj _ _ h n, by simp [m.len], m.nd, fun b hb => ?_, m.fd, fun j c2 b g1 g2 n => ?_⟩
  · by_cases e : b = a
    · subst e; rw [upd_same] at h ⊢; exact h
    · rw [upd_ne e] at h ⊢; exact m.sub _ _ h
  · by_cases e : b = a
    · rw [e, upd_same]; exact fun q => nomatch q
    · rw [upd_ne e]; exact m.al b hb
  · by_cases e : j = i
    · subst e
      rw [List.getElem?_set_self (List.getElem?_eq_some_iff.mp hi).1] at g1
      cases g1
      exact absurd rfl n
    · rw [List.getElem?_set_ne (Ne.symm e)] at g1
      have nb : b ≠ a := fun q => e (nodup_at m.nd g2 (q ▸ ha))
      obtain ⟨k1, k2, r2⟩ := m.at_ j c2 b g1 g2 n
      have hna : ∀ b', H b' = some (.own b) → b' ≠ a := fun b' hb q => by rw [q, hoa] at hb; cases hb; exact hown _ rfl
      refine ⟨k1, by rw [upd_ne nb]; exact k2, r2.keep (Ext.new h2) (fun b' ob hb h => ?_) fun b' hb q => by rw [upd_ne (hna b' hb)]; exact q⟩
      refine (upd_ne ?_).trans h
      rcases hb with rfl | hb
      · exact nb
      · exact hna b' hb
end

theorem CRep.phi {Φ' : Hp} (r : CRep G Φ F ρ H a c) (h : ∀ dx, H dx = some (.own a) → Φ dx = none → Φ' dx = none) : CRep G Φ' F ρ H a c := by
  cases r with
  | lst h r => exact .lst h r
  | lsa h r => exact .lsa h r
  | dK h r => exact .dK h r
  | dT h n r => exact .dT h n r
  | dca h r => exact .dca h r
  | ins h1 h2 h3 h4 r => exact .ins h1 h2 h3 (h _ h2 h4) r
  | dead => exact .dead
/-- the frame's object at D is written -/
theorem MR.frw {D : Addr} {o o' : HO} (m : MR G (upd Φ D o) F ρ M H) (no : ∀ xs, o ≠ .tup xs) (nw : ∀ x, o ≠ .own x) : MR G (upd Φ D o') F ρ M (upd H D o') := by
  have hD : H D = some o := m.fr _ _ upd_same
  have fD : F D = none := m.dj _ _ upd_same no
  refine ⟨fun b ob h => ?_, fun b ob h => by rw [upd_ne (fun e => by rw [e, fD] at h; cases h)]; exact m.sub _ _ h, fun b ob h n => ?_, m.len, m.nd, fun b hb => ?_, fun b hb => ?_, fun j c b g1 g2 n => ?_⟩
  · by_cases e : b = D
    · subst e; rw [upd_same] at h ⊢; exact h
    · rw [upd_ne e] at h ⊢; exact m.fr _ _ (by rw [upd_ne e]; exact h)
  · by_cases e : b = D
    · rw [e]; exact fD
    · rw [upd_ne e] at h; exact m.dj b ob (by rw [upd_ne e]; exact h) n
  · by_cases e : b = D
    · rw [e, upd_same]; exact fun q => nomatch q
    · rw [upd_ne e]; exact m.al b hb
  · have h := m.fd b hb
    by_cases e : b = D
    · subst e; rw [upd_same] at h; cases h
    · rw [upd_ne e] at h ⊢; exact h
  · obtain ⟨k1, k2, r⟩ := m.at_ j c b g1 g2 n
    have nb : b ≠ D := fun e => by subst e; rw [upd_same] at k1; cases k1
    have nd' : ∀ b', H b' = some (.own b) → b' ≠ D := fun b' hb e => by subst e; rw [hD] at hb; cases hb; exact nw _ rfl
    refine ⟨by rw [upd_ne nb] at k1 ⊢; exact k1, k2, (r.keep (H' := upd H D o') (F' := F) .refl (fun b' ob hb h => ?_) fun _ _ q => q).phi fun dx h q => ?_⟩
    · refine (upd_ne ?_).trans h
      rcases hb with rfl | hb
      · exact nb
      · exact nd' b' hb
    · by_cases e : dx = D
      · subst e; rw [upd_same] at q; cases q
      · rw [upd_ne e] at q ⊢; exact q
/-- a new object, in the frame -/
theorem MR.newP (m : MR G Φ F ρ M H) (hp : H p = none) (no : ∀ x, o ≠ .own x) : MR G (upd Φ p o) F ρ M (upd H p o) := by
  refine ⟨fun b ob h => ?_, fun b ob h => by rw [upd_ne (ne_of_none h (m.freeF hp))]; exact m.sub _ _ h, fun b ob h n => ?_, m.len, m.nd, fun b hb => ?_, fun b hb => ?_, fun j c b g1 g2 n => ?_⟩
  · by_cases eb : b = p
    · subst eb; rw [upd_same] at h ⊢; exact h
    · rw [upd_ne eb] at h ⊢; exact m.fr _ _ h
  · by_cases eb : b = p
    · rw [eb]; exact m.freeF hp
    · rw [upd_ne eb] at h; exact m.dj _ _ h n
  · by_cases eb : b = p
    · rw [eb, upd_same]; exact fun q => nomatch q
    · rw [upd_ne eb]; exact m.al b hb
  · have nb : b ≠ p := fun eb => by subst eb; exact m.al b hb hp
    rw [upd_ne nb]; exact m.fd b hb
  · obtain ⟨k1, k2, r⟩ := m.at_ j c b g1 g2 n
    obtain ⟨oa, hoa, _⟩ := r.there n
    refine ⟨by rw [upd_ne (ne_of_none hoa hp)]; exact k1, k2, (r.keep .refl (fun b' ob _ h => by rw [upd_ne (ne_of_none h hp)]; exact h) fun _ _ q => q).phi fun dx h q => ?_⟩
    have nx : dx ≠ p := fun ed => by subst ed; rw [upd_same] at h; exact no _ (Option.some.inj h)
    rw [upd_ne nx]; exact q
/-- the frame's object at D becomes a frozen one -/
theorem MR.adoptF {D : Addr} {o : HO} (m : MR G (upd Φ D o) F ρ M H) (hD : Φ D = none) (no : ∀ xs, o ≠ .tup xs) (nw : ∀ x, o ≠ .own x) : MR G Φ (upd F D o) ρ M H ∧ F D = none := by
  have hH : H D = some o := m.fr _ _ upd_same
  have fD : F D = none := m.dj _ _ upd_same no
  have sm : Same Φ (upd Φ D o) := same_upd hD
  refine ⟨⟨fun b ob h => m.fr _ _ (sm _ _ h), fun b ob h => ?_, fun b ob h n => ?_, m.len, m.nd, m.al, fun b hb => ?_, fun j c b g1 g2 n => ?_⟩, fD⟩
  · by_cases e : b = D
    · subst e; rw [upd_same] at h; rw [← h]; exact hH
    · rw [upd_ne e] at h; exact m.sub _ _ h
  · rw [upd_ne (fun e => by rw [e, hD] at h; cases h)]; exact m.dj b ob (sm _ _ h) n
  · exact sm.free (m.fd b hb)
  · obtain ⟨k1, k2, r⟩ := m.at_ j c b g1 g2 n
    have nb : b ≠ D := fun e => by subst e; rw [upd_same] at k1; cases k1
    refine ⟨sm.free k1, by rw [upd_ne nb]; exact k2, (r.keep (Ext.new fD) (fun _ _ _ h => h) fun b' h q => ?_).phi fun dx _ q => sm.free q⟩
    rw [upd_ne (fun e => by subst e; rw [hH] at h; cases h; exact nw _ rfl)]; exact q
/-- .. becomes a cell -/
theorem MR.adoptC {D : Addr} {o : HO} (m : MR G (upd Φ D o) F ρ M H) (hD : Φ D = none) (no : ∀ xs, o ≠ .tup xs) (hc : CRep G Φ F (ρ ++ [D]) H D c) : MR G Φ F (ρ ++ [D]) (M ++ [c]) H := by
  have hH : H D = some o := m.fr _ _ upd_same
  have fD : F D = none := m.dj _ _ upd_same no
  have sm : Same Φ (upd Φ D o) := same_upd hD
  refine ⟨fun b ob h => m.fr _ _ (sm _ _ h), m.sub, fun b ob h n => m.dj b ob (sm _ _ h) n, by simp [m.len], ?_, fun b hb => ?_, fun b hb => ?_, fun j c' b g1 g2 n => ?_⟩
  · rw [List.nodup_append]
    refine ⟨m.nd, by simp, fun x hx y hy => ?_⟩
    rw [List.mem_singleton] at hy
    subst hy
    intro e
    have := m.fd x hx
    rw [e, upd_same] at this
    cases this
  · rcases List.mem_append.mp hb with h | h
    · exact m.al b h
    · rw [List.mem_singleton.mp h, hH]; exact fun q => nomatch q
  · rcases List.mem_append.mp hb with h | h
    · exact sm.free (m.fd b h)
    · rw [List.mem_singleton.mp h]; exact hD
  · by_cases hi : j < M.length
    · rw [List.getElem?_append_left hi] at g1
      rw [List.getElem?_append_left (by rw [m.len]; exact hi)] at g2
      obtain ⟨h3, h4, r⟩ := m.at_ j c' b g1 g2 n
      exact ⟨sm.free h3, h4, (r.keep Ext.grow (fun _ _ _ h => h) fun _ _ q => q).phi fun dx _ q => sm.free q⟩
    · have e : j = M.length := by
        have := (List.getElem?_eq_some_iff.mp g1).1
        simp at this; omega
      subst e
      rw [List.getElem?_append_right (Nat.le_refl _), Nat.sub_self] at g1
      rw [← m.len, List.getElem?_append_right (Nat.le_refl _), Nat.sub_self] at g2
      simp at g1 g2
      subst g1; subst g2
      exact ⟨hD, fD, hc⟩
/-! ### results -/
inductive Res (α : Type) where
  | ok (a : α) (M : Mem) | ex (c : Nat) (fs : List (Str × D)) (M : Mem) | no
def Res.bind {α β : Type} (r : Res α) (f : α → Mem → Res β) : Res β := match r with
  | .ok a M => f a M
  | .ex c fs M => .ex c fs M
  | .no => .no
@[simp] theorem Res.bind_ok {α β : Type} (a : α) (M : Mem) (f : α → Mem → Res β) : (Res.ok a M).bind f = f a M := rfl
@[simp] theorem Res.bind_ex {α β : Type} (c fs) (M : Mem) (f : α → Mem → Res β) : (Res.ex c fs M : Res α).bind f = .ex c fs M := rfl
@[simp] theorem Res.bind_no {α β : Type} (f : α → Mem → Res β) : (Res.no : Res α).bind f = .no := rfl

def XD (G : Gd) (F : Hp) (d : Option Addr) (fs : List (Str × D)) : Prop := match fs with
  | [] => d = none
  | _ => ∃ dx gs, d = some dx ∧ F dx = some (.xd gs) ∧ RepF G F fs gs
def PRG {α β : Type} (G : Gd) (Φ F : Hp) (ρ : List Addr) (r : Res α) (R : Hp → List Addr → α → β → Prop) (Q : β → Hp → Prop) (E : XK) : Prop := match r with
  | .ok a M' => ∀ F' ρ' b H', Ext F ρ F' ρ' → MR G Φ F' ρ' M' H' → R F' ρ' a b → Q b H'
  | .ex c fs M' => ∀ F' ρ' d H', Ext F ρ F' ρ' → MR G Φ F' ρ' M' H' → XD G F' d fs → E (.ref (G.cls c)) d H'
  | .no => False
section
variable {α β γ δ : Type} {G : Gd} {Φ F F' : Hp} {ρ ρ' : List Addr} {M : Mem} {H H' : Hp}
theorem PRG.base {r : Res α} {R : Hp → List Addr → α → β → Prop} {Q : β → Hp → Prop} {E : XK} (h : PRG G Φ F ρ r R Q E) (e : Ext F ρ F' ρ') : PRG G Φ F' ρ' r R Q E := by
  cases r with
  | ok a M' => exact fun F2 ρ2 b H2 e2 m rr => h F2 ρ2 b H2 (e.trans e2) m rr
  | ex c fs M' => exact fun F2 ρ2 b H2 e2 m rr => h F2 ρ2 b H2 (e.trans e2) m rr
  | no => exact h
/-- the first part, the rest as what is wanted behind it -/
theorem PRG.seq {r : Res α} {f : α → Mem → Res γ} {R : Hp → List Addr → α → β → Prop} {R2 : Hp → List Addr → γ → δ → Prop} {Q : δ → Hp → Prop} {E : XK} (h : PRG G Φ F ρ (r.bind f) R2 Q E) :
    PRG G Φ F ρ r R (fun b H1 => ∃ a F1 ρ1 M1, Ext F ρ F1 ρ1 ∧ MR G Φ F1 ρ1 M1 H1 ∧ R F1 ρ1 a b ∧ PRG G Φ F1 ρ1 (f a M1) R2 Q E) E := by
  cases r with
  | ok a M' => exact fun F2 ρ2 b H2 e m rr => ⟨a, F2, ρ2, M', e, m, rr, PRG.base h e⟩
  | ex c fs M' => exact h
  | no => exact h
theorem PRG.imp {r : Res α} {R : Hp → List Addr → α → β → Prop} {Q Q' : β → Hp → Prop} {E E' : XK} (h : PRG G Φ F ρ r R Q E) (hq : ∀ b H, Q b H → Q' b H) (he : ∀ c d H, E c d H → E' c d H) : PRG G Φ F ρ r R Q' E' := by
  cases r with
  | ok a M' => exact fun F2 ρ2 b H2 e m rr => hq _ _ (h F2 ρ2 b H2 e m rr)
  | ex c fs M' => exact fun F2 ρ2 b H2 e m rr => he _ _ _ (h F2 ρ2 b H2 e m rr)
  | no => exact h
theorem PRG.ok {a : α} {b : β} {R : Hp → List Addr → α → β → Prop} {Q : β → Hp → Prop} {E : XK} (h : PRG G Φ F ρ (.ok a M) R Q E) (m : MR G Φ F ρ M H) (r : R F ρ a b) : Q b H := h _ _ _ _ .refl m r
end

/-! ### the environment -/
inductive ER (G : Gd) (F : Hp) (ρ : List Addr) : Env' → St → Prop
  | nil : ER G F ρ [] []
  | sm {a v σA σ} : RepA G F ρ a v → ER G F ρ σA σ → ER G F ρ (some a :: σA) (some v :: σ)
  | nn {v σA σ} : ER G F ρ σA σ → ER G F ρ (none :: σA) (v :: σ)
section
variable {G : Gd} {F F' : Hp} {ρ ρ' : List Addr}
theorem ER.mono (e : Ext F ρ F' ρ') : ∀ {σA σ}, ER G F ρ σA σ → ER G F' ρ' σA σ
  | _, _, .nil => .nil
  | _, _, .sm r t => .sm (r.mono e) (t.mono e)
  | _, _, .nn t => .nn (t.mono e)
theorem ER.get : ∀ {σA σ} {i : Nat} {a : A}, ER G F ρ σA σ → σA[i]? = some (some a) → ∃ v, σ[i]? = some (some v) ∧ RepA G F ρ a v
  | _, _, _, _, .nil, e => by simp at e
  | _, _, 0, _, .sm r t, e => by simp at e; subst e; exact ⟨_, rfl, r⟩
  | _, _, 0, _, .nn t, e => by simp at e
  | _, _, i + 1, _, .sm r t, e => by obtain ⟨v, h⟩ := ER.get (i := i) t (by simpa using e); exact ⟨v, by simpa using h⟩
  | _, _, i + 1, _, .nn t, e => by obtain ⟨v, h⟩ := ER.get (i := i) t (by simpa using e); exact ⟨v, by simpa using h⟩
theorem ER.set {a v} (r : RepA G F ρ a v) : ∀ {σA σ} (i : Nat), ER G F ρ σA σ → ER G F ρ (σA.set i (some a)) (σ.set i (some v))
  | _, _, _, .nil => .nil
  | _, _, 0, .sm _ t => .sm r t
  | _, _, 0, .nn t => .sm r t
  | _, _, i + 1, .sm q t => .sm q (t.set r i)
  | _, _, i + 1, .nn t => .nn (t.set r i)
theorem ER.drop_ {w : Option V} : ∀ {σA σ} (i : Nat), ER G F ρ σA σ → ER G F ρ (σA.set i none) (σ.set i w)
  | _, _, _, .nil => .nil
  | _, _, 0, .sm _ t => .nn t
  | _, _, 0, .nn t => .nn t
  | _, _, i + 1, .sm q t => .sm q (t.drop_ i)
  | _, _, i + 1, .nn t => .nn (t.drop_ i)
end

/-! ### an expression of the evaluator, as a reading -/
abbrev CE (α : Type) := Env' → Mem → Res α
def tG {α β : Type} (G : Gd) (X : Cx) (R : Hp → List Addr → α → β → Prop) (f : CE α) : St → Hp → (β → Hp → Prop) → Prop := fun σ H Q =>
  ∃ Φ F ρ σA M W, MR G Φ F ρ M H ∧ ER G F ρ σA σ ∧ Takes X W ∧ PRG G Φ F ρ (f σA M) R Q (fun c d H' => W c d σ H')
abbrev tS (G : Gd) (X : Cx) (f : CE A) : TE := tG G X (RepA G) f
abbrev tT (G : Gd) (X : Cx) (f : CE Bool) : TT := tG G X (fun _ _ a b => a = b) f
abbrev tL (G : Gd) (X : Cx) (f : CE (List A)) : TA := tG G X (RepAs G) f
theorem _root_.L2.PE.imp {X : Cx} {e : Expr} {t t' : TE} (h : PE X e t) (i : ∀ σ H Q, t' σ H Q → t σ H Q) : PE X e t' := ⟨fun pins s σ H Q I hw => h.run pins s σ H Q I (i _ _ _ hw)⟩
theorem _root_.L2.PT.imp {X : Cx} {e : Expr} {t t' : TT} (h : PT X e t) (i : ∀ σ H Q, t' σ H Q → t σ H Q) : PT X e t' := ⟨fun pins s σ H Q I hw => h.run pins s σ H Q I (i _ _ _ hw)⟩
theorem _root_.L2.PW.imp {X : Cx} {e : Expr} {t t' : TT} (h : PW X e t) (i : ∀ σ H Q, t' σ H Q → t σ H Q) : PW X e t' := ⟨fun wh pins s σ H Q I hw => h.run wh pins s σ H Q I (i _ _ _ hw)⟩
theorem _root_.L2.PA.imp {X : Cx} {e : List Expr} {t t' : TA} (h : PA X e t) (i : ∀ σ H Q, t' σ H Q → t σ H Q) : PA X e t' := ⟨fun pos pins s σ H Q I hw => h.run pos pins s σ H Q I (i _ _ _ hw)⟩
theorem _root_.L2.PS.imp {X : Cx} {e : Stmt} {t t' : TS} (h : PS X e t) (i : ∀ D σ H, t' D σ H → t D σ H) : PS X e t' := ⟨fun pins s σ H D I hw => h.run pins s σ H D I (i _ _ _ hw)⟩
theorem _root_.L2.PSs.imp {X : Cx} {e : List Stmt} {t t' : TS} (h : PSs X e t) (i : ∀ D σ H, t' D σ H → t D σ H) : PSs X e t' := ⟨fun pins s σ H D I hw => h.run pins s σ H D I (i _ _ _ hw)⟩
/-- two parts, one behind the other -/
theorem tG.seq {α β γ δ : Type} {G : Gd} {X : Cx} {R : Hp → List Addr → α → β → Prop} {R2 : Hp → List Addr → γ → δ → Prop} {f : CE α} {g : Env' → α → Mem → Res γ} {σ : St} {H : Hp} {Q : δ → Hp → Prop}
    (h : tG G X R2 (fun σA M => (f σA M).bind (g σA)) σ H Q) :
    tG G X R f σ H fun b H1 => ∃ Φ F ρ σA M W a, MR G Φ F ρ M H1 ∧ ER G F ρ σA σ ∧ Takes X W ∧ R F ρ a b ∧ PRG G Φ F ρ (g σA a M) R2 Q (fun c d H' => W c d σ H') := by
  obtain ⟨Φ, F, ρ, σA, M, W, m, er, tk, p⟩ := h
  refine ⟨Φ, F, ρ, σA, M, W, m, er, tk, PRG.imp (PRG.seq (R := R) p) (fun b H1 q => ?_) fun _ _ _ z => z⟩
  obtain ⟨a, F1, ρ1, M1, e, m1, r, q⟩ := q
  exact ⟨Φ, F1, ρ1, σA, M1, W, a, m1, er.mono e, tk, r, q⟩
theorem tG.imp {α β : Type} {G : Gd} {X : Cx} {R : Hp → List Addr → α → β → Prop} {f : CE α} {σ : St} {H : Hp} {Q Q' : β → Hp → Prop} (h : tG G X R f σ H Q) (i : ∀ b H, Q b H → Q' b H) : tG G X R f σ H Q' := by
  obtain ⟨Φ, F, ρ, σA, M, W, m, er, tk, p⟩ := h
  exact ⟨Φ, F, ρ, σA, M, W, m, er, tk, PRG.imp p i fun _ _ _ z => z⟩
end Fz

set_option maxHeartbeats 4000000
namespace Fz
open PySem L2

/-! ### the evaluator's operations, on values -/
def asP : List A → Option (List D)
  | [] => some []
  | .p d :: xs => (asP xs).map (d :: ·)
  | _ :: _ => none
def vw (M : Mem) : A → Option D
  | .p d => some d
  | .c i => match M[i]? with
    | some (.lst xs) => some (.lst xs)
    | some (.dic kvs) => some (.dic kvs)
    | _ => none
  | .t _ => none
def vws (M : Mem) : List A → Option (List D)
  | [] => some []
  | x :: xs => match vw M x, vws M xs with
    | some d, some ds => some (d :: ds)
    | _, _ => none
/-- a new list: a cell, or frozen -/
def newL (m : Bool) (xs : List A) (M : Mem) : Res A := match m, asP xs with
  | true, some ds => .ok (.c M.length) (M ++ [.lst ds])
  | true, none => .ok (.c M.length) (M ++ [.lsa xs])
  | false, some ds => .ok (.p (.lst ds)) M
  | false, none => .no
def newT (xs : List A) (M : Mem) : Res A := match asP xs with
  | some ds => .ok (.p (.tup ds)) M
  | none => .ok (.t xs) M
def val (d : D) (M : Mem) : Res A := .ok (.p d) M
def tru (M : Mem) (a : A) : Option Bool := match vw M a with
  | some .non => some false
  | some (.bl b) => some b
  | some (.int i) => some (i != 0)
  | some (.str s) => if s.length ≤ sizeLine then some ((s.length : Int) != 0) else none
  | some (.tup xs) => some (!xs.isEmpty)
  | some (.lst xs) => some (!xs.isEmpty)
  | _ => none
def bo (d : Option Bool) (M : Mem) : Res A := match d with
  | some b => .ok (.p (.bl b)) M
  | none => .no

inductive Bop where | add | sub | mul | fdiv | mod | pow
def binSem (o : Bop) (m : Bool) (a b : A) (M : Mem) : Res A := match vw M a, vw M b with
  | some (.int i), some (.int j) => (match o with
    | .add => val (.int (i + j)) M
    | .sub => val (.int (i - j)) M
    | .mul => if (-(2 ^ 64) < i ∧ i < 2 ^ 64) ∨ (-(2 ^ 64) < j ∧ j < 2 ^ 64) then val (.int (i * j)) M else .no
    | .fdiv => if 0 < j ∧ j.natAbs.log2 < 9000 then val (.int (i / j)) M else .no
    | .mod => if 0 < j then val (.int (i % j)) M else .no
    | .pow => if 0 ≤ j ∧ j ≤ 1000000 ∧ i.natAbs < 2 ^ 64 then val (.int (i ^ j.toNat)) M else .no)
  | some (.str s), some (.str t) => (match o with
    | .add => if s.length + t.length ≤ sizeLine then val (.str (s ++ t)) M else .no
    | _ => .no)
  | some (.str s), some (.int n) => (match o with
    | .mul => if 0 ≤ n ∧ n < 2 ^ 62 ∧ s.length * n.toNat ≤ sizeLine then val (.str ⟨((List.replicate n.toNat s.cps.toList).flatten).toArray⟩) M else .no
    | _ => .no)
  | some (.tup xs), some (.tup ys) => (match o with
    | .add => if xs.length + ys.length ≤ sizeLine then val (.tup (xs ++ ys)) M else .no
    | _ => .no)
  | some (.lst xs), some (.lst ys) => (match o with
    | .add => if xs.length + ys.length ≤ sizeLine then newL m ((xs ++ ys).map A.p) M else .no
    | _ => .no)
  | _, _ => .no

/-! ### equality of data (no dicts) -/
mutual
def toPy : D → Option PyData
  | .non => some .none
  | .bl b => some (.bool b)
  | .int i => some (.int i)
  | .str s => some (.str s)
  | .tup xs => (toPys xs).map .tuple
  | .lst xs => (toPys xs).map .list
  | _ => none
def toPys : List D → Option (List PyData)
  | [] => some []
  | x :: xs => match toPy x, toPys xs with
    | some d, some ds => some (d :: ds)
    | _, _ => none
end
def eqD (x y : D) : Option Bool := match toPy x, toPy y with
  | some d, some e => if SeqAt.shaped d = true ∧ SeqAt.shaped e = true then some (PyData.eqv d e) else none
  | _, _ => none
def flatD : D → Bool
  | .non | .bl _ | .int _ | .str _ => true
  | _ => false
def toV : D → V
  | .non => .non
  | .bl b => .bl b
  | .int i => .int i
  | .str s => .str s
  | _ => .non
def inD (x : D) (xs : List D) : Option Bool := if flatD x = true ∧ xs.all flatD = true then some (inV (toV x) (xs.map toV)) else none
def strIn (s t : Str) : Bool := !(Builtin.Str.occurrences t s 0 t.length 1).isEmpty
inductive Cop where | eq | ne | lt | le | gt | ge | in_ | nin | is_ | isn
def i2 (f : Int → Int → Bool) : D → D → Option Bool
  | .int i, .int j => some (f i j)
  | _, _ => none
def isNon : D → Bool
  | .non => true
  | _ => false
def inS : D → D → Option Bool
  | .str s, .str t => some (strIn s t)
  | x, .lst ys => inD x ys
  | x, .tup ys => inD x ys
  | _, _ => none
def cmpD : Cop → D → D → Option Bool
  | .eq => eqD
  | .ne => fun x y => (eqD x y).map (!·)
  | .lt => i2 fun i j => decide (i < j)
  | .le => i2 fun i j => decide (i ≤ j)
  | .gt => i2 fun i j => decide (j < i)
  | .ge => i2 fun i j => decide (j ≤ i)
  | .in_ => inS
  | .nin => fun x y => (inS x y).map (!·)
  | .is_ => fun x y => if isNon y = true then some (isNon x) else none
  | .isn => fun x y => if isNon y = true then some (!isNon x) else none
def cmpSem (o : Cop) (a b : A) (M : Mem) : Option Bool := match vw M a, vw M b with
  | some x, some y => cmpD o x y
  | _, _ => none
/-- o[i] -/
def subSem (a i : A) (M : Mem) : Res A := match i with
  | .p (.int k) => (match a with
    | .p (.lst xs) => (match atI xs k with | some d => .ok (.p d) M | none => .no)
    | .p (.tup xs) => (match atI xs k with | some d => .ok (.p d) M | none => .no)
    | .p (.str s) => if s.length ≤ sizeLine then (match atI s.cps.toList k with | some c => .ok (.p (.str ⟨#[c]⟩)) M | none => .no) else .no
    | .t xs => (match atI xs k with | some d => .ok d M | none => .no)
    | .c j => (match M[j]? with
      | some (.lst xs) => (match atI xs k with | some d => .ok (.p d) M | none => .no)
      | some (.lsa xs) => (match atI xs k with | some d => .ok d M | none => .no)
      | _ => .no)
    | _ => .no)
  | _ => .no
def cutD {α : Type} (xs : List α) (lo hi : Option Int) : List α := (xs.drop (HT.sIx xs.length 0 lo)).take (HT.sIx xs.length xs.length hi - HT.sIx xs.length 0 lo)
def slcSem (m : Bool) (a : A) (lo hi : Option Int) (M : Mem) : Res A := match vw M a with
  | some (.str s) => if s.length ≤ sizeLine then val (.str (cutS s lo hi)) M else .no
  | some (.tup xs) => val (.tup (cutD xs lo hi)) M
  | some (.lst xs) => newL m ((cutD xs lo hi).map A.p) M
  | _ => .no
/-- o[i] = v; o.append(v) -/
def setSem (a i v : A) (M : Mem) : Option Mem := match a, i with
  | .c j, .p (.int k) => (match M[j]? with
    | some (.lst xs) => (match ixN xs.length k, v with
      | some n, .p d => some (M.set j (.lst (xs.set n d)))
      | _, _ => none)
    | _ => none)
  | _, _ => none
end Fz

set_option maxHeartbeats 4000000
namespace Fz
open PySem L2
/-- the top object in H, what is below in F -/
inductive VwR (G : Gd) (F H : Hp) : D → V → Prop
  | f {d v} : RepD G F d v → VwR G F H d v
  | lst {a ds vs} : H a = some (.lst vs) → RepDs G F ds vs → VwR G F H (.lst ds) (.ref a)
  | dK {a kvs vs} : H a = some (.dK vs) → RepK G F kvs vs → VwR G F H (.dic kvs) (.ref a)
  | dT {a kvs vs} : H a = some (.dT vs) → kvs ≠ [] → RepT G F kvs vs → VwR G F H (.dic kvs) (.ref a)
section
variable {G : Gd} {Φ F : Hp} {ρ : List Addr} {M : Mem} {H : Hp} {a : A} {v : V} {d : D}
theorem vw_rep (m : MR G Φ F ρ M H) (r : RepA G F ρ a v) (e : vw M a = some d) : VwR G F H d v := by
  cases r with
  | p h => cases e; exact .f h
  | c h =>
    rename_i i ad
    unfold vw at e
    dsimp only at e
    cases hM : M[i]? with
    | none => rw [hM] at e; cases e
    | some c =>
      rw [hM] at e
      cases c with
      | lst xs =>
        cases e
        obtain ⟨_, _, r⟩ := m.at_ i _ _ hM h (fun q => nomatch q)
        cases r with
        | lst h1 r => exact .lst h1 r
      | dic kvs =>
        cases e
        obtain ⟨_, _, r⟩ := m.at_ i _ _ hM h (fun q => nomatch q)
        cases r with
        | dK h1 r => exact .dK h1 r
        | dT h1 n r => exact .dT h1 n r
      | _ => cases e
  | t h r => cases e
theorem VwR.int {i : Int} (r : VwR G F H (.int i) v) : v = .int i := by cases r with | f r => cases r; rfl
theorem VwR.bl {b : Bool} (r : VwR G F H (.bl b) v) : v = .bl b := by cases r with | f r => cases r; rfl
theorem VwR.str {s : Str} (r : VwR G F H (.str s) v) : v = .str s := by cases r with | f r => cases r; rfl
theorem VwR.non (r : VwR G F H .non v) : v = .non := by cases r with | f r => cases r; rfl
theorem VwR.tup (s : Same F H) {ds : List D} (r : VwR G F H (.tup ds) v) : ∃ b vs, v = .ref b ∧ SqT G.K H b vs ∧ SqT G.K F b vs ∧ RepDs G F ds vs := by
  cases r with
  | f r => cases r with | tup h r => exact ⟨_, _, rfl, SqT_mono s h, h, r⟩
theorem VwR.lst_ (s : Same F H) {ds : List D} (r : VwR G F H (.lst ds) v) : ∃ b vs, v = .ref b ∧ Rd H b (.lst vs) ∧ RepDs G F ds vs := by
  cases r with
  | f r => cases r with | lst h r => exact ⟨_, _, rfl, Rd_mono s h, r⟩
  | lst h r => exact ⟨_, _, rfl, .inl h, r⟩

/-- what the evaluator says of a two-place operation, as a reading by values -/
def rS2 (G : Gd) (g : A → A → Mem → Res A) : R2 := fun x y H Q => ∃ Φ F ρ M a b E, MR G Φ F ρ M H ∧ RepA G F ρ a x ∧ RepA G F ρ b y ∧ PRG G Φ F ρ (g a b M) (RepA G) Q E
def rS1 (G : Gd) (g : A → Mem → Res A) : V → Hp → VK → Prop := fun x H Q => ∃ Φ F ρ M a E, MR G Φ F ρ M H ∧ RepA G F ρ a x ∧ PRG G Φ F ρ (g a M) (RepA G) Q E
def rSL (G : Gd) (g : List A → Mem → Res A) : List V → Hp → VK → Prop := fun xs H Q => ∃ Φ F ρ M as E, MR G Φ F ρ M H ∧ RepAs G F ρ as xs ∧ PRG G Φ F ρ (g as M) (RepA G) Q E

variable {X : Cx}
theorem seq2 {f1 f2 : CE A} {g : A → A → Mem → Res A} {σ : St} {Q : VK} (h : tS G X (fun σ M => (f1 σ M).bind fun a M => (f2 σ M).bind fun b M => g a b M) σ H Q) : tOp (rS2 G g) (tS G X f1) (tS G X f2) σ H Q := by
  obtain ⟨Φ, F, ρ, σA, M, W, m, er, tk, p⟩ := h
  refine ⟨Φ, F, ρ, σA, M, W, m, er, tk, PRG.imp (PRG.seq (R := RepA G) p) (fun x H1 q => ?_) fun _ _ _ z => z⟩
  obtain ⟨a, F1, ρ1, M1, e, m1, ra, q⟩ := q
  refine ⟨Φ, F1, ρ1, σA, M1, W, m1, er.mono e, tk, PRG.imp (PRG.seq (R := RepA G) q) (fun y H2 q => ?_) fun _ _ _ z => z⟩
  obtain ⟨b, F2, ρ2, M2, e2, m2, rb, q⟩ := q
  exact ⟨Φ, F2, ρ2, M2, a, b, _, m2, ra.mono e2, rb, q⟩
theorem seq1 {f1 : CE A} {g : A → Mem → Res A} {σ : St} {Q : VK} (h : tS G X (fun σ M => (f1 σ M).bind g) σ H Q) : tS G X f1 σ H fun x H1 => rS1 G g x H1 Q := by
  obtain ⟨Φ, F, ρ, σA, M, W, m, er, tk, p⟩ := h
  refine ⟨Φ, F, ρ, σA, M, W, m, er, tk, PRG.imp (PRG.seq (R := RepA G) p) (fun x H1 q => ?_) fun _ _ _ z => z⟩
  obtain ⟨a, F1, ρ1, M1, e, m1, ra, q⟩ := q
  exact ⟨Φ, F1, ρ1, M1, a, _, m1, ra, q⟩
theorem seqL {f1 : CE (List A)} {g : List A → Mem → Res A} {σ : St} {Q : VK} (h : tS G X (fun σ M => (f1 σ M).bind g) σ H Q) : tL G X f1 σ H fun xs H1 => rSL G g xs H1 Q := by
  obtain ⟨Φ, F, ρ, σA, M, W, m, er, tk, p⟩ := h
  refine ⟨Φ, F, ρ, σA, M, W, m, er, tk, PRG.imp (PRG.seq (R := RepAs G) p) (fun x H1 q => ?_) fun _ _ _ z => z⟩
  obtain ⟨a, F1, ρ1, M1, e, m1, ra, q⟩ := q
  exact ⟨Φ, F1, ρ1, M1, a, _, m1, ra, q⟩

/-! ### what comes of a value -/
theorem PRG.val {Q : VK} {E : XK} (h : PRG G Φ F ρ (val d M) (RepA G) Q E) (m : MR G Φ F ρ M H) (r : RepD G F d v) : Q v H := h _ _ _ _ .refl m (.p r)
theorem asP_rep : ∀ {xs : List A} {ds : List D} {vs : List V}, RepAs G F ρ xs vs → asP xs = some ds → RepDs G F ds vs
  | _, _, _, .nil, e => by cases e; exact .nil
  | _, _, _, .cons (.p h) b, e => by
    unfold asP at e
    obtain ⟨ds', e1, e2⟩ := Option.map_eq_some_iff.mp e
    subst e2
    exact .cons h (asP_rep b e1)
  | _, _, _, .cons (.c h) b, e => by cases e
  | _, _, _, .cons (.t h r) b, e => by cases e
theorem asP_map (ds : List D) : asP (ds.map A.p) = some ds := by
  induction ds with
  | nil => rfl
  | cons d ds ih => show (asP (ds.map A.p)).map (d :: ·) = some (d :: ds); rw [ih]; rfl
/-- a new list -/
theorem PRG.newL {Q : VK} {E : XK} {k : Bool} {xs : List A} {vs : List V} (h : PRG G Φ F ρ (newL k xs M) (RepA G) Q E) (m : MR G Φ F ρ M H) (r : RepAs G F ρ xs vs) {p : Addr} (hp : H p = none) : Q (.ref p) (upd H p (.lst vs)) := by
  have hF := m.freeF hp
  unfold Fz.newL at h
  cases k with
  | true =>
    cases e : asP xs with
    | some ds =>
      rw [e] at h
      have r' := asP_rep r e
      refine h _ _ _ _ Ext.grow (m.newC hp (.lst upd_same r')) (.c ?_)
      rw [← m.len, List.getElem?_append_right (Nat.le_refl _), Nat.sub_self]; rfl
    | none =>
      rw [e] at h
      refine h _ _ _ _ Ext.grow (m.newC hp (.lsa upd_same (r.mono Ext.grow))) (.c ?_)
      rw [← m.len, List.getElem?_append_right (Nat.le_refl _), Nat.sub_self]; rfl
  | false =>
    cases e : asP xs with
    | some ds =>
      rw [e] at h
      have r' := asP_rep r e
      exact h _ _ _ _ (Ext.new hF) (m.newF hp) (.p (.lst (.inl upd_same) (r'.mono (same_upd hF))))
    | none => rw [e] at h; exact h.elim
/-- a new tuple -/
theorem PRG.newT {Q : VK} {E : XK} {xs : List A} {vs : List V} (h : PRG G Φ F ρ (newT xs M) (RepA G) Q E) (m : MR G Φ F ρ M H) (r : RepAs G F ρ xs vs) {p : Addr} (hp : H p = none) : Q (.ref p) (upd H p (.tup vs)) := by
  have hF := m.freeF hp
  unfold Fz.newT at h
  cases e : asP xs with
  | some ds =>
    rw [e] at h
    have r' := asP_rep r e
    exact h _ _ _ _ (Ext.new hF) (m.newF hp) (.p (.tup (SqT.of upd_same) (r'.mono (same_upd hF))))
  | none =>
    rw [e] at h
    exact h _ _ _ _ (Ext.new hF) (m.newF hp) (.t upd_same (r.mono (Ext.new hF)))
theorem PRG.newTD {Q : VK} {E : XK} {ds : List D} {vs : List V} (h : PRG G Φ F ρ (Fz.val (.tup ds) M) (RepA G) Q E) (m : MR G Φ F ρ M H) (r : RepDs G F ds vs) {p : Addr} (hp : H p = none) : Q (.ref p) (upd H p (.tup vs)) := by
  have hF := m.freeF hp
  exact h _ _ _ _ (Ext.new hF) (m.newF hp) (.p (.tup (SqT.of upd_same) (r.mono (same_upd hF))))
def pyB : Bop → Operator
  | .add => .Add | .sub => .Sub | .mul => .Mult | .fdiv => .FloorDiv | .mod => .Mod | .pow => .Pow
theorem not_no {α β : Type} {R : Hp → List Addr → α → β → Prop} {Q : β → Hp → Prop} {E : XK} (h : PRG G Φ F ρ (.no : Res α) R Q E) : False := h
theorem rep_foldl (xs : Array Nat) (n : Nat) : (List.replicate n xs).foldl (· ++ ·) #[] = ((List.replicate n xs.toList).flatten).toArray := by
  suffices h : ∀ acc : Array Nat, (List.replicate n xs).foldl (· ++ ·) acc = acc ++ ((List.replicate n xs.toList).flatten).toArray by
    rw [h]; simp
  induction n with
  | zero => intro acc; simp
  | succ n ih =>
    intro acc
    rw [List.replicate_succ, List.foldl_cons, ih, List.replicate_succ, List.flatten_cons]
    apply Array.ext'
    simp
theorem rdL {pins : List (Addr × Obj)} {σ : St} {s : Shared} {l : Addr} {xs : List V} (I : Inv X pins σ H s) (h : Rd H l (.lst xs)) :
    xs.length ≤ sizeLine ∧ ∃ (its : List Value) (n : Nat), Vals xs its ∧ s.heap.get? l = some { cls := .type "list", data := .seq its.toArray n } := h.ok I.hok
theorem op_catR : OpR X (binaryOp .Add) (fun x y H Q => ∃ l b xs zs, x = .ref l ∧ y = .ref b ∧ Rd H l (.lst xs) ∧ Rd H b (.lst zs) ∧ xs.length + zs.length ≤ sizeLine ∧ ∀ p, H p = none → Q (.ref p) (upd H p (.lst (xs ++ zs)))) := by
  intro pins s σ H x y v u Q I rx ry h
  obtain ⟨l, b, xs, zs, rfl, rfl, hH, hB, hz, q⟩ := h
  cases rx
  cases ry
  obtain ⟨z, its, n, r, e⟩ := rdL I hH
  obtain ⟨z2, its2, n2, r2, e2⟩ := rdL I hB
  have hl := r.length
  have hl2 := r2.length
  refine PySem.P.add_list e e2 ?_ (by rw [List.size_toArray, List.size_toArray]; omega)
  have ea : its.toArray ++ its2.toArray = (its ++ its2).toArray := by simp
  rw [ea]
  exact ⟨.ref _, _, I.lnew (t' := s.toks) (r.append r2) (by rw [List.length_append]; omega), rfl, q _ I.fresh⟩
theorem op_mulS : OpR X (binaryOp .Mult) (fun x y H Q => ∃ z n, x = .str z ∧ y = .int n ∧ 0 ≤ n ∧ n < 2 ^ 62 ∧ z.length * n.toNat ≤ sizeLine ∧ Q (.str ⟨((List.replicate n.toNat z.cps.toList).flatten).toArray⟩) H) := by
  intro pins s σ H x y v u Q I rx ry h
  obtain ⟨z, n, rfl, rfl, h0, h1, h2, q⟩ := h
  obtain ⟨t, rfl⟩ := rx
  obtain ⟨t', rfl⟩ := ry
  have hlong : Builtin.Str.tooLong (z.length * n.toNat) = false := by
    unfold Builtin.Str.tooLong
    rw [decide_eq_false (by omega)]
  refine PySem.P.mul_str (by rw [decide_eq_false (by omega), decide_eq_false (by omega)]; rfl) (fun g1 g2 => ?_) (fun _ _ => hlong) ?_
  · have e1 : (2 ^ 63 - 1 : Int) / n ≥ 2 := by
      have : n * 2 ≤ 2 ^ 63 - 1 := by omega
      exact (Int.le_ediv_iff_mul_le (by omega)).mpr (by omega)
    have hn : 1 ≤ n := by omega
    have h3 : (z.length : Int) * n ≤ 16777216 := by
      have : ((z.length * n.toNat : Nat) : Int) ≤ 16777216 := by
        have := h2; rw [sizeLine_eq] at this; omega
      rw [Int.natCast_mul, Int.toNat_of_nonneg h0] at this
      exact this
    have h4 : (z.length : Int) ≤ (2 ^ 63 - 1) / n := (Int.le_ediv_iff_mul_le (by omega)).mpr (by omega)
    omega
  · by_cases c : n < 1
    · rw [if_pos c]
      have e0 : n.toNat = 0 := by omega
      rw [e0] at q
      exact ⟨by decide, .str _, H, I.tok _, ⟨_, rfl⟩, q⟩
    · rw [if_neg c]
      by_cases c2 : (n == 1 || z.length == 0) = true
      · rw [if_pos c2]
        have ez : (⟨((List.replicate n.toNat z.cps.toList).flatten).toArray⟩ : Str) = z := by
          rcases Bool.or_eq_true_iff.mp c2 with c3 | c3
          · have : n = 1 := by simpa using c3
            subst this
            obtain ⟨cps⟩ := z
            simp
          · have c4 : z.cps.size = 0 := by simpa [Str.length] using c3
            obtain ⟨cps⟩ := z
            have : cps = #[] := Array.eq_empty_of_size_eq_zero c4
            subst this
            simp
        rw [ez] at q
        exact ⟨.str _, H, I, ⟨_, rfl⟩, q⟩
      · rw [if_neg c2]
        refine ⟨?_, .str _, H, I.tok _, ⟨_, rfl⟩, ?_⟩
        · rw [rep_foldl]
          show (List.flatten _).toArray.size ≤ sizeLine
          simp only [List.size_toArray, List.length_flatten, List.map_replicate, List.sum_replicate_nat, Array.length_toList]
          have := h2
          rw [Nat.mul_comm] at this
          exact this
        · rw [rep_foldl]; exact q
theorem op_bin (hK : X.K = G.K) (o : Bop) (k : Bool) : OpR X (binaryOp (pyB o)) (rS2 G (binSem o k)) := by
  intro pins s σ H x y v u Q I rx ry h
  obtain ⟨Φ, F, ρ, M, a, b, E, m, ra, rb, p⟩ := h
  unfold binSem at p
  split at p
  · rename_i i j ea eb
    obtain rfl := (vw_rep m ra ea).int
    obtain rfl := (vw_rep m rb eb).int
    cases o with
    | add => exact op_add pins s σ H _ _ v u Q I rx ry ⟨i, j, rfl, rfl, p.val m (.int _)⟩
    | sub => exact op_sub pins s σ H _ _ v u Q I rx ry ⟨i, j, rfl, rfl, p.val m (.int _)⟩
    | mul =>
      dsimp only at p; split at p
      · rename_i c; exact op_mul pins s σ H _ _ v u Q I rx ry ⟨i, j, rfl, rfl, c, p.val m (.int _)⟩
      · exact p.elim
    | fdiv =>
      dsimp only at p; split at p
      · rename_i c; exact op_fdivW pins s σ H _ _ v u Q I rx ry ⟨i, j, rfl, rfl, c, p.val m (.int _)⟩
      · exact p.elim
    | mod =>
      dsimp only at p; split at p
      · rename_i c; exact op_mod pins s σ H _ _ v u Q I rx ry ⟨i, j, rfl, rfl, c, p.val m (.int _)⟩
      · exact p.elim
    | pow =>
      dsimp only at p; split at p
      · rename_i c; exact op_pow pins s σ H _ _ v u Q I rx ry ⟨i, j, rfl, rfl, c, p.val m (.int _)⟩
      · exact p.elim
  · rename_i i j ea eb
    obtain rfl := (vw_rep m ra ea).str
    obtain rfl := (vw_rep m rb eb).str
    cases o with
    | add =>
      dsimp only at p; split at p
      · rename_i c; exact op_add_str pins s σ H _ _ v u Q I rx ry ⟨i, j, rfl, rfl, c, p.val m (.str _)⟩
      · exact p.elim
    | _ => exact p.elim
  · rename_i x n ea eb
    obtain rfl := (vw_rep m ra ea).str
    obtain rfl := (vw_rep m rb eb).int
    cases o with
    | mul =>
      dsimp only at p; split at p
      · rename_i c
        exact op_mulS pins s σ H _ _ v u Q I rx ry ⟨_, _, rfl, rfl, c.1, c.2.1, c.2.2, p.val m (.str _)⟩
      · exact p.elim
    | _ => exact p.elim
  · rename_i xs ys ea eb
    obtain ⟨p1, vs, rfl, s1, f1, r1⟩ := (vw_rep m ra ea).tup m.sub
    obtain ⟨p2, us, rfl, s2, f2, r2⟩ := (vw_rep m rb eb).tup m.sub
    cases o with
    | add =>
      dsimp only at p; split at p
      · rename_i c
        rw [r1.length, r2.length] at c
        refine op_catA pins s σ H _ _ v u Q I rx ry ⟨p1, p2, vs, us, rfl, rfl, hK ▸ s1, hK ▸ s2, c, fun e => ?_, fun _ e => ?_, fun _ _ q hq => ?_⟩
        · subst e
          cases r1
          exact p.val m (.tup f2 r2)
        · subst e
          cases r2
          rw [List.append_nil] at p
          exact p.val m (.tup f1 r1)
        · exact p.newTD m (r1.append r2) hq
      · exact p.elim
    | _ => exact p.elim
  · rename_i xs ys ea eb
    obtain ⟨p1, vs, rfl, s1, r1⟩ := (vw_rep m ra ea).lst_ m.sub
    obtain ⟨p2, us, rfl, s2, r2⟩ := (vw_rep m rb eb).lst_ m.sub
    cases o with
    | add =>
      dsimp only at p; split at p
      · rename_i c
        rw [r1.length, r2.length] at c
        refine op_catR pins s σ H _ _ v u Q I rx ry ⟨p1, p2, vs, us, rfl, rfl, s1, s2, c, fun q hq => ?_⟩
        exact p.newL m (RepAs.of_p (r1.append r2)) hq
      · exact p.elim
    | _ => exact p.elim
  · exact p.elim
end
end Fz

set_option maxHeartbeats 4000000
namespace Fz
open PySem L2
section
variable {G : Gd} {Φ F : Hp} {ρ : List Addr} {M : Mem} {H : Hp} {a : A} {v : V} {d : D} {X : Cx}
mutual
theorem dp_of : ∀ {d : D} {v : V} {e : PyData}, RepD G F d v → toPy d = some e → Dp G.K F v e
  | _, _, e, .non, h => by unfold toPy at h; cases h; exact .non
  | _, _, e, .bl b, h => by unfold toPy at h; cases h; exact .bl b
  | _, _, e, .int i, h => by unfold toPy at h; cases h; exact .int i
  | _, _, e, .str s, h => by unfold toPy at h; cases h; exact .str s
  | _, _, e, .tup h1 r, h => by
    unfold toPy at h
    obtain ⟨ds, e1, e2⟩ := Option.map_eq_some_iff.mp h
    subst e2
    exact .tup h1 (dps_of r e1)
  | _, _, e, .lst h1 r, h => by
    unfold toPy at h
    obtain ⟨ds, e1, e2⟩ := Option.map_eq_some_iff.mp h
    subst e2
    exact .lst (.inl h1) (dps_of r e1)
  | _, _, e, .dK _ _, h => by unfold toPy at h; cases h
  | _, _, e, .dT _ _ _, h => by unfold toPy at h; cases h
  | _, _, e, .ins _ _ _, h => by unfold toPy at h; cases h
  | _, _, e, .typ _, h => by unfold toPy at h; cases h
  | _, _, e, .cls _, h => by unfold toPy at h; cases h
theorem dps_of : ∀ {ds : List D} {vs : List V} {es : List PyData}, RepDs G F ds vs → toPys ds = some es → DpAll G.K F vs es
  | _, _, es, .nil, h => by unfold toPys at h; cases h; exact .nil
  | _, _, es, .cons (d := d) (ds := ds) a b, h => by
    unfold toPys at h
    cases e1 : toPy d with
    | none => rw [e1] at h; cases h
    | some x =>
      cases e2 : toPys ds with
      | none => rw [e1, e2] at h; cases h
      | some y =>
        rw [e1, e2] at h
        cases h
        exact .cons (dp_of a e1) (dps_of b e2)
end
mutual
theorem dp_mono {K : PySem.W.Frag} {F H : Hp} (s : Same F H) : ∀ {v : V} {e : PyData}, Dp K F v e → Dp K H v e
  | _, _, .non => .non
  | _, _, .bl b => .bl b
  | _, _, .int i => .int i
  | _, _, .str x => .str x
  | _, _, .lst h r => .lst (SqL_mono s h) (dps_mono s r)
  | _, _, .tup h r => .tup (SqT_mono s h) (dps_mono s r)
theorem dps_mono {K : PySem.W.Frag} {F H : Hp} (s : Same F H) : ∀ {v : List V} {e : List PyData}, DpAll K F v e → DpAll K H v e
  | _, _, .nil => .nil
  | _, _, .cons a b => .cons (dp_mono s a) (dps_mono s b)
end
theorem VwR.dp (s : Same F H) {e : PyData} (r : VwR G F H d v) (h : toPy d = some e) : Dp G.K H v e := by
  cases r with
  | f r => exact dp_mono s (dp_of r h)
  | lst h1 r =>
    unfold toPy at h
    obtain ⟨ds, e1, e2⟩ := Option.map_eq_some_iff.mp h
    subst e2
    exact .lst (.inl (.inl h1)) (dps_mono s (dps_of r e1))
  | dK _ _ => unfold toPy at h; cases h
  | dT _ _ _ => unfold toPy at h; cases h
theorem flat_rep (r : RepD G F d v) (h : flatD d = true) : v = toV d := by
  cases r with
  | non => rfl
  | bl => rfl
  | int => rfl
  | str => rfl
  | _ => cases h
theorem flat_reps : ∀ {ds : List D} {vs : List V}, RepDs G F ds vs → ds.all flatD = true → vs = ds.map toV
  | _, _, .nil, _ => rfl
  | _, _, .cons a b, h => by
    rw [List.all_cons, Bool.and_eq_true] at h
    rw [List.map_cons, flat_rep a h.1, flat_reps b h.2]
theorem flatV_toV (d : D) : flatV (toV d) = true := by cases d <;> rfl
theorem all_flatV (ds : List D) : (ds.map toV).all flatV = true := by
  rw [List.all_eq_true]
  intro x hx
  obtain ⟨d, _, rfl⟩ := List.mem_map.mp hx
  exact flatV_toV d
theorem VwR.flat (r : VwR G F H d v) (h : flatD d = true) : v = toV d := by
  cases r with
  | f r => exact flat_rep r h
  | _ => cases h
def pyC : Cop → CmpOp
  | .eq => .Eq | .ne => .NotEq | .lt => .Lt | .le => .LtE | .gt => .Gt | .ge => .GtE | .in_ => .In | .nin => .NotIn | .is_ => .Is | .isn => .IsNot
def cmpA (o : Cop) (a b : A) (M : Mem) : Res A := bo (cmpSem o a b M) M
theorem PRG.bo {Q : VK} {E : XK} {b : Option Bool} (h : PRG G Φ F ρ (bo b M) (RepA G) Q E) (m : MR G Φ F ρ M H) : ∃ c, b = some c ∧ Q (.bl c) H := by
  cases b with
  | none => exact h.elim
  | some c => exact ⟨c, rfl, h _ _ _ _ .refl m (.p (.bl c))⟩
theorem isNon_D {x : D} {v : V} (r : VwR G F H x v) : decide (v = .non) = isNon x := by
  cases r with
  | f r => cases r <;> first | rfl | exact decide_eq_false (fun q => nomatch q)
  | _ => exact decide_eq_false (fun q => nomatch q)
theorem isNon_eq {x : D} (h : isNon x = true) : x = .non := by cases x <;> first | rfl | cases h
theorem i2_some {f : Int → Int → Bool} {x y : D} {c : Bool} (h : i2 f x y = some c) : ∃ i j, x = .int i ∧ y = .int j ∧ c = f i j := by
  unfold i2 at h
  split at h
  · cases h; exact ⟨_, _, rfl, rfl, rfl⟩
  · cases h
theorem eqD_some {x y : D} {c : Bool} (h : eqD x y = some c) : ∃ d e, toPy x = some d ∧ toPy y = some e ∧ SeqAt.shaped d = true ∧ SeqAt.shaped e = true ∧ c = PyData.eqv d e := by
  unfold eqD at h
  cases e1 : toPy x with
  | none => rw [e1] at h; cases h
  | some d =>
    cases e2 : toPy y with
    | none => rw [e1, e2] at h; cases h
    | some e =>
      rw [e1, e2] at h
      dsimp only at h
      by_cases sh : SeqAt.shaped d = true ∧ SeqAt.shaped e = true
      · rw [if_pos sh] at h; cases h; exact ⟨d, e, rfl, rfl, sh.1, sh.2, rfl⟩
      · rw [if_neg sh] at h; cases h
theorem inD_some {x : D} {ys : List D} {c : Bool} (h : inD x ys = some c) : flatD x = true ∧ ys.all flatD = true ∧ c = inV (toV x) (ys.map toV) := by
  unfold inD at h
  by_cases fl : flatD x = true ∧ ys.all flatD = true
  · rw [if_pos fl] at h; cases h; exact ⟨fl.1, fl.2, rfl⟩
  · rw [if_neg fl] at h; cases h
theorem op_in_V (hK : X.K = G.K) {neg : Bool} {op : CmpOp} (h1 : OpR X (compareOp op) (rIn X.K neg)) (h2 : OpR X (compareOp op) (fun x y H Q => ∃ i j, x = .str i ∧ y = .str j ∧ Q (.bl (if neg then !strIn i j else strIn i j)) H))
    {pins : List (Addr × Obj)} {s : Shared} {σ : St} {x y : V} {v u : Value} {Q : VK} {x' y' : D} {c : Bool} (I : Inv X pins σ H s) (rx : RelV x v) (ry : RelV y u) (sm : Same F H) (vx : VwR G F H x' x) (vy : VwR G F H y' y)
    (e : inS x' y' = some c) (q : Q (.bl (if neg then !c else c)) H) : wpAny (model X.prog X.w) X.A (compareOp op v u) (EP X pins σ Q) X.xe s := by
  unfold inS at e
  split at e
  · cases e
    obtain rfl := vx.str
    obtain rfl := vy.str
    exact h2 pins s σ H _ _ v u Q I rx ry ⟨_, _, rfl, rfl, q⟩
  · obtain ⟨f1, f2, rfl⟩ := inD_some e
    obtain rfl := vx.flat f1
    obtain ⟨b', vs, rfl, hl, r⟩ := vy.lst_ sm
    obtain rfl := flat_reps r f2
    exact h1 pins s σ H _ _ v u Q I rx ry ⟨b', _, rfl, .inl (hK ▸ .inl hl), flatV_toV _, all_flatV _, q⟩
  · obtain ⟨f1, f2, rfl⟩ := inD_some e
    obtain rfl := vx.flat f1
    obtain ⟨b', vs, rfl, hl, _, r⟩ := vy.tup sm
    obtain rfl := flat_reps r f2
    exact h1 pins s σ H _ _ v u Q I rx ry ⟨b', _, rfl, .inr (hK ▸ hl), flatV_toV _, all_flatV _, q⟩
  · cases e
theorem op_cmp (hK : X.K = G.K) (hu : X.A.units + 64 < cLine) (o : Cop) : OpR X (compareOp (pyC o)) (rS2 G (cmpA o)) := by
  intro pins s σ H x y v u Q I rx ry h
  obtain ⟨Φ, F, ρ, M, a, b, E, m, ra, rb, p⟩ := h
  obtain ⟨c, ec, q⟩ := PRG.bo p m
  unfold cmpSem at ec
  cases ea : vw M a with
  | none => rw [ea] at ec; cases ec
  | some x' =>
  cases eb : vw M b with
  | none => rw [ea, eb] at ec; cases ec
  | some y' =>
  rw [ea, eb] at ec
  have vx := vw_rep m ra ea
  have vy := vw_rep m rb eb
  dsimp only at ec
  cases o with
  | eq =>
    obtain ⟨d, e, hd, he, s1, s2, rfl⟩ := eqD_some ec
    exact op_eqD hu pins s σ H _ _ v u Q I rx ry ⟨d, e, hK ▸ vx.dp m.sub hd, hK ▸ vy.dp m.sub he, s1, s2, q⟩
  | ne =>
    obtain ⟨c', ec', rfl⟩ := Option.map_eq_some_iff.mp ec
    obtain ⟨d, e, hd, he, s1, s2, rfl⟩ := eqD_some ec'
    exact op_neD hu pins s σ H _ _ v u Q I rx ry ⟨d, e, hK ▸ vx.dp m.sub hd, hK ▸ vy.dp m.sub he, s1, s2, q⟩
  | lt =>
    obtain ⟨i, j, rfl, rfl, rfl⟩ := i2_some ec
    exact op_lt pins s σ H _ _ v u Q I rx ry ⟨i, j, vx.int, vy.int, q⟩
  | le =>
    obtain ⟨i, j, rfl, rfl, rfl⟩ := i2_some ec
    exact op_le pins s σ H _ _ v u Q I rx ry ⟨i, j, vx.int, vy.int, q⟩
  | gt =>
    obtain ⟨i, j, rfl, rfl, rfl⟩ := i2_some ec
    exact op_gt pins s σ H _ _ v u Q I rx ry ⟨i, j, vx.int, vy.int, q⟩
  | ge =>
    obtain ⟨i, j, rfl, rfl, rfl⟩ := i2_some ec
    exact op_ge pins s σ H _ _ v u Q I rx ry ⟨i, j, vx.int, vy.int, q⟩
  | in_ => exact op_in_V hK (neg := false) op_in_seq (fun pins s σ H x y v u Q I rx ry ⟨i, j, e1, e2, q⟩ => op_in_str pins s σ H x y v u Q I rx ry ⟨i, j, e1, e2, q⟩) I rx ry m.sub vx vy ec q
  | nin =>
    obtain ⟨c', ec', rfl⟩ := Option.map_eq_some_iff.mp ec
    exact op_in_V hK (neg := true) op_notIn_seq (fun pins s σ H x y v u Q I rx ry ⟨i, j, e1, e2, q⟩ => op_notIn_str pins s σ H x y v u Q I rx ry ⟨i, j, e1, e2, q⟩) I rx ry m.sub vx vy ec' q
  | is_ =>
    unfold cmpD at ec
    dsimp only at ec
    by_cases hn : isNon y' = true
    · rw [if_pos hn] at ec
      cases ec
      obtain rfl := isNon_eq hn
      refine op_isN pins s σ H _ _ v u Q I rx ry ⟨vy.non, ?_⟩
      rw [isNon_D vx]; exact q
    · rw [if_neg hn] at ec; cases ec
  | isn =>
    unfold cmpD at ec
    dsimp only at ec
    by_cases hn : isNon y' = true
    · rw [if_pos hn] at ec
      cases ec
      obtain rfl := isNon_eq hn
      refine op_notN pins s σ H _ _ v u Q I rx ry ⟨vy.non, ?_⟩
      rw [isNon_D vx]; exact q
    · rw [if_neg hn] at ec; cases ec
end
end Fz

set_option maxHeartbeats 4000000
namespace Fz
open PySem L2
section
variable {G : Gd} {Φ F : Hp} {ρ : List Addr} {M : Mem} {H : Hp} {a : A} {v : V} {d : D} {X : Cx}
theorem reps_atI {ds : List D} {vs : List V} {k : Int} {d : D} (r : RepDs G F ds vs) (e : atI ds k = some d) : ∃ v, atI vs k = some v ∧ RepD G F d v := by
  unfold atI at e ⊢
  rw [← r.length]
  obtain ⟨j, h1, h2⟩ := Option.bind_eq_some_iff.mp e
  obtain ⟨v, h3, h4⟩ := r.get h2
  exact ⟨v, by rw [h1]; exact h3, h4⟩
theorem repAs_atI {ds : List A} {vs : List V} {k : Int} {d : A} (r : RepAs G F ρ ds vs) (e : atI ds k = some d) : ∃ v, atI vs k = some v ∧ RepA G F ρ d v := by
  unfold atI at e ⊢
  rw [← r.length]
  obtain ⟨j, h1, h2⟩ := Option.bind_eq_some_iff.mp e
  obtain ⟨v, h3, h4⟩ := r.get h2
  exact ⟨v, by rw [h1]; exact h3, h4⟩
theorem ix_sub (hK : X.K = G.K) : IxR X (rS2 G subSem) := by
  intro value slice pins s σ H x y v u Q I rx ry h hs
  obtain ⟨Φ, F, ρ, M, a, b, E, m, ra, rb, p⟩ := h
  unfold subSem at p
  split at p
  · rename_i k
    cases rb with | p rb =>
    cases rb
    split at p
    · rename_i xs
      split at p
      · rename_i d e
        cases ra with | p ra =>
        cases ra with | lst hl r =>
        obtain ⟨w, h1, h2⟩ := reps_atI r e
        exact ix_list value slice pins s σ H _ _ v u Q I rx ry ⟨_, _, k, w, rfl, rfl, .inl (Rd_mono m.sub hl), h1, p _ _ _ _ .refl m (.p h2)⟩ hs
      · exact p.elim
    · rename_i xs
      split at p
      · rename_i d e
        cases ra with | p ra =>
        cases ra with | tup hl r =>
        obtain ⟨w, h1, h2⟩ := reps_atI r e
        exact ix_tup value slice pins s σ H _ _ v u Q I rx ry ⟨_, _, k, w, rfl, rfl, hK ▸ SqT_mono m.sub hl, h1, p _ _ _ _ .refl m (.p h2)⟩ hs
      · exact p.elim
    · rename_i z
      split at p
      · rename_i hz
        split at p
        · rename_i c e
          cases ra with | p ra =>
          cases ra
          exact ix_str value slice pins s σ H _ _ v u Q I rx ry ⟨_, k, c, rfl, rfl, hz, e, p _ _ _ _ .refl m (.p (.str _))⟩ hs
        · exact p.elim
      · exact p.elim
    · rename_i xs
      split at p
      · rename_i d e
        cases ra with | t hl r =>
        obtain ⟨w, h1, h2⟩ := repAs_atI r e
        exact ix_tup value slice pins s σ H _ _ v u Q I rx ry ⟨_, _, k, w, rfl, rfl, .inl (.inl (m.sub _ _ hl)), h1, p _ _ _ _ .refl m h2⟩ hs
      · exact p.elim
    · rename_i j
      split at p
      · rename_i xs eM
        split at p
        · rename_i d e
          cases ra with | c ha =>
          obtain ⟨_, _, r⟩ := m.at_ j _ _ eM ha (fun q => nomatch q)
          cases r with | lst hl r =>
          obtain ⟨w, h1, h2⟩ := reps_atI r e
          exact ix_list value slice pins s σ H _ _ v u Q I rx ry ⟨_, _, k, w, rfl, rfl, SqL.of hl, h1, p _ _ _ _ .refl m (.p h2)⟩ hs
        · exact p.elim
      · rename_i xs eM
        split at p
        · rename_i d e
          cases ra with | c ha =>
          obtain ⟨_, _, r⟩ := m.at_ j _ _ eM ha (fun q => nomatch q)
          cases r with | lsa hl r =>
          obtain ⟨w, h1, h2⟩ := repAs_atI r e
          exact ix_list value slice pins s σ H _ _ v u Q I rx ry ⟨_, _, k, w, rfl, rfl, SqL.of hl, h1, p _ _ _ _ .refl m h2⟩ hs
        · exact p.elim
      · exact p.elim
    · exact p.elim
  · exact p.elim
/-! ### slices -/
def rSl (G : Gd) (k : Bool) : V → Option Int → Option Int → Hp → VK → Prop := fun x lo hi H Q => ∃ Φ F ρ M a E, MR G Φ F ρ M H ∧ RepA G F ρ a x ∧ PRG G Φ F ρ (slcSem k a lo hi M) (RepA G) Q E
theorem reps_cut {ds : List D} {vs : List V} {lo hi : Option Int} (r : RepDs G F ds vs) : RepDs G F (cutD ds lo hi) (cutV vs lo hi) := by
  unfold cutD cutV
  rw [r.length]
  exact (r.drop _).take _
theorem sl_slc (hK : X.K = G.K) (k : Bool) : SlR X (rSl G k) := by
  intro pins s σ H x v vl vu lo hi sl Q I rx hs pl pu h
  obtain ⟨Φ, F, ρ, M, a, E, m, ra, p⟩ := h
  unfold slcSem at p
  split at p
  · rename_i z e
    obtain rfl := (vw_rep m ra e).str
    split at p
    · rename_i hz
      exact sl_str pins s σ H _ v vl vu lo hi sl Q I rx hs pl pu ⟨_, rfl, hz, p.val m (.str _)⟩
    · exact p.elim
  · rename_i xs e
    obtain ⟨b, vs, rfl, h1, h2, r⟩ := (vw_rep m ra e).tup m.sub
    refine sl_tupA pins s σ H _ v vl vu lo hi sl Q I rx hs pl pu ⟨b, vs, rfl, hK ▸ h1, fun hw => ?_, fun hw q hq => p.newTD m (reps_cut r) hq⟩
    have e2 : cutV vs lo hi = vs := by unfold cutV; rw [hw.1, hw.2]; simp
    have e3 := reps_cut (lo := lo) (hi := hi) r
    rw [e2] at e3
    exact p.val m (.tup h2 e3)
  · rename_i xs e
    obtain ⟨b, vs, rfl, h1, r⟩ := (vw_rep m ra e).lst_ m.sub
    exact sl_list pins s σ H _ v vl vu lo hi sl Q I rx hs pl pu ⟨b, vs, rfl, .inl h1, fun q hq => p.newL m (RepAs.of_p (reps_cut r)) hq⟩
  · exact p.elim
/-! ### truth -/
theorem reps_emp {ds : List D} {vs : List V} (r : RepDs G F ds vs) : (!ds.isEmpty) = !vs.isEmpty := by cases r <;> rfl
theorem tru_rep (hK : X.K = G.K) {c : Bool} (m : MR G Φ F ρ M H) (ra : RepA G F ρ a v) (e : tru M a = some c) : TruV X.K v H c := by
  unfold tru at e
  cases ea : vw M a with
  | none => rw [ea] at e; cases e
  | some d =>
    rw [ea] at e
    have r := vw_rep m ra ea
    cases d with
    | non => obtain rfl := r.non; cases e; rfl
    | bl b => obtain rfl := r.bl; cases e; rfl
    | int i => obtain rfl := r.int; cases e; rfl
    | str z =>
      obtain rfl := r.str
      dsimp only at e
      split at e
      · rename_i hz; cases e; exact ⟨hz, rfl⟩
      · cases e
    | tup xs =>
      obtain ⟨b, vs, rfl, h1, _, r⟩ := r.tup m.sub
      cases e
      exact .inr (.inl ⟨vs, hK ▸ h1, reps_emp r⟩)
    | lst xs =>
      obtain ⟨b, vs, rfl, h1, r⟩ := r.lst_ m.sub
      cases e
      exact .inl ⟨vs, .inl h1, reps_emp r⟩
    | _ => cases e
def truR (a : A) (M : Mem) : Res Bool := match tru M a with
  | some b => .ok b M
  | none => .no
theorem seqT {f1 : CE A} {σ : St} {Q : Bool → Hp → Prop} (hK : X.K = G.K) (h : tT G X (fun σ M => (f1 σ M).bind truR) σ H Q) : tS G X f1 σ H fun x H1 => ∃ k, TruV X.K x H1 k ∧ Q k H1 := by
  obtain ⟨Φ, F, ρ, σA, M, W, m, er, tk, p⟩ := h
  refine ⟨Φ, F, ρ, σA, M, W, m, er, tk, PRG.imp (PRG.seq (R := RepA G) p) (fun x H1 q => ?_) fun _ _ _ z => z⟩
  obtain ⟨a, F1, ρ1, M1, e, m1, ra, q⟩ := q
  unfold truR at q
  cases ea : tru M1 a with
  | none => rw [ea] at q; exact q.elim
  | some c => rw [ea] at q; exact ⟨c, tru_rep hK m1 ra ea, q _ _ _ _ .refl m1 rfl⟩
end
end Fz

set_option maxHeartbeats 4000000
namespace Fz
open PySem L2
/-! ### the program: expressions, statements -/
inductive Tg where
  | nm (i : Nat) | tp (is : List Nat)
inductive Bi where
  | len | all | any | sum | min2 | max2 | strI | list | tuple | int
inductive Bm where
  | join | upper
/-- how a call is made: on all cells, or on the handed ones alone -/
inductive Md where | full | loc
mutual
inductive E where
  | cn | cb (b : Bool) | ci (i : Int) | cs (s : Str)
  | v (i : Nat) | gi (x : Str) (i : Int) | gs (x : Str) (s : Str)
  | bin (o : Bop) (m : Bool) (a b : E) | neg (a : E) | nt (a : E) | an (a b : E) | or_ (a b : E) | ifx (c a b : E)
  | cmp (o : Cop) (a b : E) | cmp2 (o p : Cop) (a b c : E)
  | tup (es : Es) | lst (m : Bool) (es : Es)
  | sub (a i : E) | slc (m : Bool) (a : E) (lo hi : Es) | rev (m : Bool) (a : E)
  | isi (a : E) (cs : List String)
  | call (k : Nat) (md : Md) (es : Es) (dfl : List D)
  | bi (b : Bi) (m : Bool) (es : Es)
  | bm (b : Bm) (m : Bool) (o : E) (es : Es)
  | dct (m : Bool) (kvs : Es)
  | comp (m : Bool) (own : List Nat) (tg : Tg) (it : Wk) (ifs : Es) (elt : E)
inductive Es where
  | nil | cons (e : E) (es : Es)
inductive Wk where
  | e (a : E) | rng1 (a : E) | rng2 (a b : E) | items (a : E) | values (a : E) | enum (a : E) | zip (a b : E)
end
mutual
inductive S where
  | asg (tg : Tg) (e : E) | asgL (i : Nat) (m : Bool) (own : List Nat) (tg : Tg) (it : Wk) (ifs : Es) (elt : E) | par (is : List Nat) (es : Es) | setI (o i e : E) | ex (e : E) | app (o e : E)
  | ret (e : E) | retN | ifs (c : E) (a b : Ss) | whl (fuel : Nat) (c : E) (b : Ss) | for_ (tg : Tg) (it : Wk) (b : Ss)
  | pas | cont
inductive Ss where
  | nil | cons (s : S) (ss : Ss)
end

/-! ### what is walked -/
inductive Src where
  | fx (items : List A) | ce (i n : Nat)
def Src.at_ (s : Src) (M : Mem) (k : Nat) : Option (Option A) := match s with
  | .fx items => some items[k]?
  | .ce i n => match M[i]? with
    | some (.lst xs) => if xs.length = n then some (xs[k]?.map A.p) else none
    | some (.lsa xs) => if xs.length = n then some xs[k]? else none
    | _ => none
def Src.len (s : Src) : Nat := match s with
  | .fx items => items.length
  | .ce _ n => n
def signs (s : Str) : List D := s.cps.toList.map fun c => .str ⟨#[c]⟩
def itA (a : A) (M : Mem) : Res Src := match a with
  | .p (.lst ds) => .ok (.fx (ds.map A.p)) M
  | .p (.tup ds) => .ok (.fx (ds.map A.p)) M
  | .p (.str s) => .ok (.fx ((signs s).map A.p)) M
  | .t xs => .ok (.fx xs) M
  | .c i => (match M[i]? with
    | some (.lst xs) => .ok (.ce i xs.length) M
    | some (.lsa xs) => .ok (.ce i xs.length) M
    | _ => .no)
  | _ => .no
def rngL (lo : Int) (n : Nat) : List A := (List.range n).map fun (i : Nat) => .p (.int (lo + (i : Int)))
def rng1S (a : A) (M : Mem) : Res Src := match a with
  | .p (.int j) => if -(2 ^ 62) ≤ j ∧ j < 2 ^ 62 then .ok (.fx (rngL 0 j.toNat)) M else .no
  | _ => .no
def rng2S (a b : A) (M : Mem) : Res Src := match a, b with
  | .p (.int i), .p (.int j) => if -(2 ^ 62) ≤ i ∧ i < 2 ^ 62 ∧ -(2 ^ 62) ≤ j ∧ j < 2 ^ 62 then .ok (.fx (rngL i (j - i).toNat)) M else .no
  | _, _ => .no
/-- a walk's loop -/
def itL {β : Type} (s : Src) (f : A → β → Mem → Res β) : Nat → Nat → β → Mem → Res β
  | fu, k, b, M => match s.at_ M k with
    | none => .no
    | some none => .ok b M
    | some (some a) => match fu with
      | 0 => .no
      | fu + 1 => (f a b M).bind (itL s f fu (k + 1))
/-! ### targets -/
def setAll : List Nat → List A → Env' → Option Env'
  | [], [], σ => some σ
  | i :: is, a :: as, σ => setAll is as (σ.set i (some a))
  | _, _, _ => none
def tgSem (t : Tg) (a : A) (σ : Env') : Option Env' := match t with
  | .nm i => some (σ.set i (some a))
  | .tp is => match a with
    | .p (.tup ds) => setAll is (ds.map A.p) σ
    | .t xs => setAll is xs σ
    | _ => none
def Tg.slots : Tg → List Nat
  | .nm i => [i]
  | .tp is => is
def wipeE (σ : Env') : List Nat → Env'
  | [] => σ
  | v :: vs => (wipeE σ vs).set v none

/-! ### built-in functions -/
def tyNames : D → Option String
  | .non => some "NoneType" | .bl _ => some "bool" | .int _ => some "int" | .str _ => some "str" | .tup _ => some "tuple" | .lst _ => some "list" | .dic _ => some "dict"
  | _ => none
/-- isinstance with built-in classes -/
def isiOne (t c : String) : Option Bool := kitB t c
def isiAny (t : String) : List String → Option Bool
  | [] => some false
  | c :: cs => match isiOne t c with
    | some true => some true
    | some false => isiAny t cs
    | none => none
def topOf (M : Mem) : A → Option String
  | .p d => tyNames d
  | .t _ => some "tuple"
  | .c i => match M[i]? with
    | some (.lst _) => some "list" | some (.lsa _) => some "list" | some (.dic _) => some "dict" | some (.dca _) => some "dict"
    | _ => none
def isiSem (a : A) (cs : List String) (M : Mem) : Option Bool := match topOf M a with
  | some t => isiAny t cs
  | none => none
def bools : List D → Option (List Bool)
  | [] => some []
  | .bl b :: ds => (bools ds).map (b :: ·)
  | _ => none
def intsD : List D → Option (List Int)
  | [] => some []
  | .int i :: ds => (intsD ds).map (i :: ·)
  | _ => none
def strsD : List D → Option (List Str)
  | [] => some []
  | .str i :: ds => (strsD ds).map (i :: ·)
  | _ => none
def one (f : A → Mem → Res A) : List A → Mem → Res A
  | [a], M => f a M
  | _, _ => .no
def optV (d : Option D) (M : Mem) : Res A := match d with
  | some d => val d M
  | none => .no
def lstF {α : Type} (f : List D → Option α) (g : α → D) (a : A) (M : Mem) : Res A := match vw M a with
  | some (.lst xs) => optV ((f xs).map g) M
  | _ => .no
def lenS (a : A) (M : Mem) : Res A := match vw M a with
  | some (.str s) => if s.length ≤ sizeLine then val (.int s.length) M else .no
  | some (.tup xs) => val (.int xs.length) M
  | some (.lst xs) => val (.int xs.length) M
  | some _ => .no
  | none => match a with
    | .c i => (match M[i]? with
      | some (.lsa xs) => val (.int xs.length) M
      | _ => .no)
    | .t xs => val (.int xs.length) M
    | _ => .no
def intI (f : Int → Int → Int) : List A → Mem → Res A
  | [.p (.int i), .p (.int j)], M => val (.int (f i j)) M
  | _, _ => .no
def strIS (a : A) (M : Mem) : Res A := match a with
  | .p (.int i) => if i.natAbs.log2 < 1920 then val (.str (toString i)) M else .no
  | _ => .no
def intBS (a : A) (M : Mem) : Res A := match a with
  | .p (.bl k) => val (.int (if k then 1 else 0)) M
  | _ => .no
def listS (m : Bool) (a : A) (M : Mem) : Res A := match vw M a with
  | some (.lst xs) => newL m (xs.map A.p) M
  | some (.tup xs) => newL m (xs.map A.p) M
  | some (.str s) => if s.length ≤ sizeLine then newL m ((signs s).map A.p) M else .no
  | _ => .no
def tupleS (a : A) (M : Mem) : Res A := match vw M a with
  | some (.lst xs) => val (.tup xs) M
  | some (.tup xs) => val (.tup xs) M
  | _ => .no
def biSem : Bi → Bool → List A → Mem → Res A
  | .len, _ => one lenS
  | .all, _ => one (lstF bools fun bs => .bl (bs.all id))
  | .any, _ => one (lstF bools fun bs => .bl (bs.any id))
  | .sum, _ => one (lstF intsD fun ns => .int ns.sum)
  | .min2, _ => intI fun i j => if j < i then j else i
  | .max2, _ => intI fun i j => if j > i then j else i
  | .strI, _ => one strIS
  | .int, _ => one intBS
  | .list, m => one (listS m)
  | .tuple, _ => one tupleS
def joinS (s : Str) (a : A) (M : Mem) : Res A := match vw M a with
  | some (.lst xs) => (match strsD xs with
    | some ys => if (ys.map (·.length)).sum + ys.length * s.length ≤ 16777216 then val (.str (Txt.join s ys)) M else .no
    | none => .no)
  | _ => .no
def strOf : A → Option Str
  | .p (.str s) => some s
  | _ => none
def bmSem : Bm → Bool → A → List A → Mem → Res A
  | .join, _ => fun o as M => match strOf o with
    | some s => one (joinS s) as M
    | none => .no
  | .upper, _ => fun o as M => match strOf o, as with
    | some s, [] => if s.length ≤ 5592405 then val (.str (Txt.upper s)) M else .no
    | _, _ => .no
def recv : Bm → A → Mem → Bool
  | .join, a, _ => (strOf a).isSome
  | .upper, a, _ => (strOf a).isSome
/-- k = e in a dict -/
def putD (kvs : List (D × D)) (k e : D) : List (D × D) := if (kvs.any fun kv => decide (keyD kv.1 = keyD k)) = true then kvs.map (fun kv => if keyD kv.1 = keyD k then (kv.1, e) else kv) else kvs ++ [(k, e)]
def pairsD : List (A × A) → Option (List (D × D))
  | [] => some []
  | (.p k, .p e) :: ps => if (keyD k).isSome = true then (pairsD ps).map ((k, e) :: ·) else none
  | _ => none
def newD (m : Bool) (kvs : List (D × D)) (M : Mem) : Res A := if m = true then .ok (.c M.length) (M ++ [.dic kvs]) else .ok (.p (.dic kvs)) M
def dctSem (m : Bool) (ps : List (A × A)) (M : Mem) : Res A := match pairsD ps with
  | some kvs => if kvs.length ≤ 15 then newD m (kvs.foldl (fun acc p => putD acc p.1 p.2) []) M else .no
  | none => .no
def revSem (m : Bool) (a : A) (M : Mem) : Res A := match vw M a with
  | some (.str s) => if s.length ≤ sizeLine then val (.str ⟨s.cps.toList.reverse.toArray⟩) M else .no
  | some (.lst xs) => newL m (xs.reverse.map A.p) M
  | some (.tup xs) => val (.tup xs.reverse) M
  | _ => .no
end Fz

set_option maxHeartbeats 4000000
namespace Fz
open PySem L2
abbrev Run := Nat → List A → Mem → Res A
/-- the cells among the arguments -/
def cellsOf : List A → List Nat
  | [] => []
  | .c i :: as => i :: cellsOf as
  | _ :: as => cellsOf as
/-- the arguments, their cells by their places among the handed ones -/
def relabA : List A → Nat → List A
  | [], _ => []
  | .c _ :: as, k => .c k :: relabA as (k + 1)
  | a :: as, k => a :: relabA as k
def closedA : A → Bool
  | .t _ => false
  | _ => true
def closedC : C → Bool
  | .lst _ => true
  | .dic _ => true
  | _ => false
def getsM (M : Mem) : List Nat → Option (List C)
  | [] => some []
  | i :: is => match M[i]?, getsM M is with
    | some c, some cs => if closedC c = true then some (c :: cs) else none
    | _, _ => none
def putsM (M : Mem) : List Nat → List C → Mem
  | i :: is, c :: cs => putsM (M.set i c) is cs
  | _, _ => M
def nodupB : List Nat → Bool
  | [] => true
  | i :: is => !is.contains i && nodupB is
def quietC : C → Bool
  | .lst _ => true
  | .dic _ => true
  | .dead => true
  | _ => false
/-- what the caller has behind it: the handed cells as they are left, a new cell -/
def backLoc (cs : List Nat) (M : Mem) : Res A → Res A
  | .ok a M' => if (M'.take cs.length).all quietC = true then (match a with
    | .p d => .ok (.p d) (putsM M cs (M'.take cs.length))
    | .c j => if j < cs.length then .no else (match M'[j]? with
      | some c => if closedC c = true then .ok (.c M.length) (putsM M cs (M'.take cs.length) ++ [c]) else .no
      | none => .no)
    | .t _ => .no) else .no
  | .ex c fs M' => if (M'.take cs.length).all quietC = true then .ex c fs (putsM M cs (M'.take cs.length)) else .no
  | .no => .no
/-- a call on the handed cells alone -/
def callLoc (r : Run) (k : Nat) (as : List A) (M : Mem) : Res A := if as.all closedA = true ∧ nodupB (cellsOf as) = true then (match getsM M (cellsOf as) with
  | some cc => backLoc (cellsOf as) M (r k (relabA as 0) cc)
  | none => .no) else .no
def callSem (r : Run) (k : Nat) (md : Md) (as : List A) (M : Mem) : Res A := match md with
  | .full => r k as M
  | .loc => callLoc r k as M
def intOf : A → Option Int
  | .p (.int i) => some i
  | _ => none
def boolOf : A → Option Bool
  | .p (.bl b) => some b
  | _ => none
def partS (x : A) (M : Mem) : Res (Option Int) := match intOf x with
  | some i => .ok (some i) M
  | none => .no
def bbind {β : Type} (a : A) (M : Mem) (f : Bool → Mem → Res β) : Res β := match boolOf a with
  | some b => f b M
  | none => .no
def getV (σ : Env') (i : Nat) (M : Mem) : Res A := match σ[i]? with
  | some (some a) => .ok a M
  | _ => .no
def negSem (x : A) (M : Mem) : Res A := match intOf x with
  | some i => val (.int (-i)) M
  | none => .no
def cmp2S (fa fb fc : CE A) (o p : Cop) : CE A := fun σ M => (fa σ M).bind fun x M1 => (fb σ M1).bind fun y M2 => (cmpA o x y M2).bind fun z M3 => bbind z M3 fun k M4 => if k = true then (fc σ M4).bind fun w M5 => cmpA p y w M5 else val (.bl false) M4
/-- nothing is raised -/
def noEx {α : Type} : Res α → Res α
  | .ex _ _ _ => .no
  | r => r
/-- a comprehension's turn -/
def compT (tg : Tg) (own : List Nat) (σ : Env') (fi : CE Bool) (fe : CE A) (a : A) (acc : List A) (M : Mem) : Res (List A) := match tgSem tg a (wipeE σ own) with
  | none => .no
  | some σ2 => (noEx (fi σ2 M)).bind fun ok M3 => if ok = true then (noEx (fe σ2 M3)).bind fun y M4 => if acc.length < sizeLine then .ok (acc ++ [y]) M4 else .no else .ok acc M3
mutual
def evalE (r : Run) : E → CE A
  | .cn => fun _ M => val .non M
  | .cb b => fun _ M => val (.bl b) M
  | .ci i => fun _ M => val (.int i) M
  | .cs s => fun _ M => val (.str s) M
  | .v i => fun σ M => getV σ i M
  | .gi _ i => fun _ M => val (.int i) M
  | .gs _ s => fun _ M => val (.str s) M
  | .bin o m a b => fun σ M => (evalE r a σ M).bind fun x M1 => (evalE r b σ M1).bind fun y M2 => binSem o m x y M2
  | .neg a => fun σ M => (evalE r a σ M).bind negSem
  | .nt a => fun σ M => ((evalE r a σ M).bind truR).bind fun b M1 => val (.bl (!b)) M1
  | .an a b => fun σ M => (evalE r a σ M).bind fun x M1 => bbind x M1 fun c M2 => if c = true then evalE r b σ M2 else val (.bl false) M2
  | .or_ a b => fun σ M => (evalE r a σ M).bind fun x M1 => bbind x M1 fun c M2 => if c = true then val (.bl true) M2 else evalE r b σ M2
  | .ifx c a b => fun σ M => ((evalE r c σ M).bind truR).bind fun k M1 => if k = true then evalE r a σ M1 else evalE r b σ M1
  | .cmp o a b => fun σ M => (evalE r a σ M).bind fun x M1 => (evalE r b σ M1).bind fun y M2 => cmpA o x y M2
  | .cmp2 o p a b c => cmp2S (evalE r a) (evalE r b) (evalE r c) o p
  | .tup es => fun σ M => (evalEs r es σ M).bind fun xs M1 => if xs.length ≤ sizeLine then newT xs M1 else .no
  | .lst m es => fun σ M => (evalEs r es σ M).bind fun xs M1 => if xs.length ≤ sizeLine then newL m xs M1 else .no
  | .sub a i => fun σ M => (evalE r a σ M).bind fun x M1 => (evalE r i σ M1).bind fun y M2 => subSem x y M2
  | .slc m a lo hi => fun σ M => (evalE r a σ M).bind fun x M1 => (evalPt r lo σ M1).bind fun l M2 => (evalPt r hi σ M2).bind fun h M3 => slcSem m x l h M3
  | .rev m a => fun σ M => (evalE r a σ M).bind fun x M1 => revSem m x M1
  | .isi a cs => fun σ M => (evalE r a σ M).bind fun x M1 => bo (isiSem x cs M1) M1
  | .call k md es dfl => fun σ M => (evalEs r es σ M).bind fun xs M1 => callSem r k md (xs ++ dfl.map A.p) M1
  | .bi b m es => fun σ M => (evalEs r es σ M).bind fun xs M1 => biSem b m xs M1
  | .bm b m o es => fun σ M => (evalE r o σ M).bind fun x M1 => if recv b x M1 = true then (evalEs r es σ M1).bind fun xs M2 => bmSem b m x xs M2 else .no
  | .dct m kvs => fun σ M => (evalPs r kvs σ M).bind fun ps M1 => dctSem m ps M1
  | .comp m own tg it ifs elt => fun σ M => (evalIt r it σ M).bind fun s M1 =>
      (itL s (compT tg own σ (evalIfs r ifs) (evalE r elt)) s.len 0 ([] : List A) M1).bind fun acc M5 => newL m acc M5
def evalEs (r : Run) : Es → CE (List A)
  | .nil => fun _ M => .ok [] M
  | .cons e es => fun σ M => (evalE r e σ M).bind fun x M1 => (evalEs r es σ M1).bind fun xs M2 => .ok (x :: xs) M2
def evalPs (r : Run) : Es → CE (List (A × A))
  | .nil => fun _ M => .ok [] M
  | .cons k (.cons v es) => fun σ M => (noEx (evalE r k σ M)).bind fun x M1 => (noEx (evalE r v σ M1)).bind fun y M2 => (evalPs r es σ M2).bind fun ps M3 => .ok ((x, y) :: ps) M3
  | .cons _ .nil => fun _ _ => .no
def evalPt (r : Run) : Es → CE (Option Int)
  | .nil => fun _ M => .ok none M
  | .cons e .nil => fun σ M => (evalE r e σ M).bind partS
  | _ => fun _ _ => .no
/-- a comprehension's tests -/
def evalIfs (r : Run) : Es → CE Bool
  | .nil => fun _ M => .ok true M
  | .cons e es => fun σ M => ((evalE r e σ M).bind truR).bind fun b M1 => if b = true then evalIfs r es σ M1 else .ok false M1
def evalIt (r : Run) : Wk → CE Src
  | .e a => fun σ M => (evalE r a σ M).bind itA
  | .rng1 a => fun σ M => (evalE r a σ M).bind rng1S
  | .rng2 a b => fun σ M => (evalE r a σ M).bind fun x M1 => (evalE r b σ M1).bind fun y M2 => rng2S x y M2
  | _ => fun _ _ => .no
end
/-! ### statements -/
inductive SR where
  | nx (σ : Env') (M : Mem) | ret (a : A) (M : Mem) | bk (σ : Env') (M : Mem) | ct (σ : Env') (M : Mem) | ex (c : Nat) (fs : List (Str × D)) (σ : Env') (M : Mem) | no
def Res.st {α : Type} (r : Res α) (σ : Env') (f : α → Mem → SR) : SR := match r with
  | .ok a M => f a M
  | .ex c fs M => .ex c fs σ M
  | .no => .no
def SR.seq (x : SR) (f : Env' → Mem → SR) : SR := match x with
  | .nx σ M => f σ M
  | y => y
def whL (c : CE Bool) (b : Env' → Mem → SR) : Nat → Env' → Mem → SR
  | 0, _, _ => .no
  | n + 1, σ, M => (c σ M).st σ fun k M1 => if k = true then (match b σ M1 with
      | .nx σ' M' => whL c b n σ' M'
      | .ct σ' M' => whL c b n σ' M'
      | .bk σ' M' => .nx σ' M'
      | y => y) else .nx σ M1
def forL (s : Src) (tg : Tg) (b : Env' → Mem → SR) : Nat → Nat → Env' → Mem → SR
  | fu, k, σ, M => match s.at_ M k with
    | none => .no
    | some none => .nx σ M
    | some (some a) => match fu with
      | 0 => .no
      | fu + 1 => (match tgSem tg a σ with
        | none => .no
        | some σ2 => (match b σ2 M with
          | .nx σ' M' => forL s tg b fu (k + 1) σ' M'
          | .ct σ' M' => forL s tg b fu (k + 1) σ' M'
          | .bk σ' M' => .nx σ' M'
          | y => y))
def appSem (o v : A) (M : Mem) : Option Mem := match o, v with
  | .c j, .p d => (match M[j]? with
    | some (.lst xs) => if xs.length < sizeLine then some (M.set j (.lst (xs ++ [d]))) else none
    | some (.lsa xs) => if xs.length < sizeLine then some (M.set j (.lsa (xs ++ [.p d]))) else none
    | _ => none)
  | .c j, v => (match M[j]? with
    | some (.lst xs) => if xs.length < sizeLine then some (M.set j (.lsa (xs.map A.p ++ [v]))) else none
    | some (.lsa xs) => if xs.length < sizeLine then some (M.set j (.lsa (xs ++ [v]))) else none
    | _ => none)
  | _, _ => none
def isLC (a : A) (M : Mem) : Bool := match topOf M a with
  | some t => t == "list"
  | none => false
def onx (o : Option Mem) (σ : Env') : SR := match o with
  | some M => .nx σ M
  | none => .no
mutual
def evalS (r : Run) : S → Env' → Mem → SR
  | .asg tg e => fun σ M => (evalE r e σ M).st σ fun a M1 => match tgSem tg a σ with
    | some σ' => .nx σ' M1
    | none => .no
  | .asgL i m own tg it ifs elt => fun σ M => (evalE r (.comp m own tg it ifs elt) σ M).st σ fun a M1 => match tgSem (.nm i) a σ with
    | some σ' => .nx σ' M1
    | none => .no
  | .par is es => fun σ M => (evalEs r es σ M).st σ fun as M1 => match setAll is as σ with
    | some σ' => .nx σ' M1
    | none => .no
  | .setI o i e => fun σ M => (evalE r e σ M).st σ fun v M1 => (evalE r o σ M1).st σ fun x M2 => (evalE r i σ M2).st σ fun y M3 => onx (setSem x y v M3) σ
  | .ex e => fun σ M => (evalE r e σ M).st σ fun _ M1 => .nx σ M1
  | .app o e => fun σ M => (evalE r o σ M).st σ fun x M1 => if isLC x M1 = true then (evalE r e σ M1).st σ fun v M2 => onx (appSem x v M2) σ else .no
  | .ret e => fun σ M => (evalE r e σ M).st σ fun a M1 => .ret a M1
  | .retN => fun _ M => .ret (.p .non) M
  | .ifs c a b => fun σ M => ((evalE r c σ M).bind truR).st σ fun k M1 => if k = true then evalSs r a σ M1 else evalSs r b σ M1
  | .whl fu c b => fun σ M => whL (fun σ M => (evalE r c σ M).bind truR) (evalSs r b) fu σ M
  | .for_ tg it b => fun σ M => (evalIt r it σ M).st σ fun s M1 => forL s tg (evalSs r b) s.len 0 σ M1
  | .pas => fun σ M => .nx σ M
  | .cont => fun σ M => .ct σ M
def evalSs (r : Run) : Ss → Env' → Mem → SR
  | .nil => fun σ M => .nx σ M
  | .cons s ss => fun σ M => (evalS r s σ M).seq (evalSs r ss)
end
/-! ### defs, the program -/
structure Fn where
  np : Nat
  ns : Nat
  body : Ss
def startE (ns : Nat) (as : List A) : Env' := as.map some ++ List.replicate (ns - as.length) none
def evalFn (r : Run) (f : Fn) (as : List A) (M : Mem) : Res A := if as.length = f.np then (match evalSs r f.body (startE f.ns as) M with
  | .nx _ M' => .ok (.p .non) M'
  | .ret a M' => .ok a M'
  | .ex c fs _ M' => .ex c fs M'
  | _ => .no) else .no
def runP (fs : List Fn) : Nat → Run
  | 0 => fun _ _ _ => .no
  | n + 1 => fun k as M => match fs[k]? with
    | some f => evalFn (runP fs n) f as M
    | none => .no
end Fz

set_option maxHeartbeats 4000000
namespace Fz
open PySem L2
structure Gx (G : Gd) (X : Cx) : Prop where
  hK : X.K = G.K
  calm : X.calm = true
  hu : X.A.units + 64 < cLine
  nd : X.N.Nodup
section
variable {G : Gd} {X : Cx} {pos : Pos} {a b c : Expr} {fa fb fc : CE A}
theorem se_const {e : Expr} {d : D} {v : V} (h : PE X e (tC v)) (r : ∀ F, RepD G F d v) : PE X e (tS G X fun _ M => val d M) := h.imp fun σ H Q ⟨Φ, F, ρ, σA, M, W, m, er, tk, p⟩ => p.val m (r F)
theorem se_var {i : Nat} {e : Expr} (h : PE X e (tVar i)) : PE X e (tS G X fun σ M => getV σ i M) := h.imp fun σ H Q ⟨Φ, F, ρ, σA, M, W, m, er, tk, p⟩ => by
  dsimp only at p
  unfold getV at p
  split at p
  · rename_i a e
    obtain ⟨v, e1, r⟩ := er.get e
    exact ⟨v, e1, p _ _ _ _ .refl m r⟩
  · exact p.elim
theorem se_bin (g : Gx G X) {o : Bop} {k : Bool} (ha : PE X a (tS G X fa)) (hb : PE X b (tS G X fb)) : PE X (.BinOp a (pyB o) b pos) (tS G X fun σ M => (fa σ M).bind fun x M1 => (fb σ M1).bind fun y M2 => binSem o k x y M2) :=
  (pe_op (op_bin g.hK o k) ha hb).imp fun _ _ _ h => seq2 h
theorem se_neg (ha : PE X a (tS G X fa)) : PE X (.UnaryOp .USub a pos) (tS G X fun σ M => (fa σ M).bind negSem) := (pe_un un_neg ha).imp fun σ H Q h => by
  refine tG.imp (seq1 h) fun x H1 ⟨Φ, F, ρ, M, a, E, m, ra, p⟩ => ?_
  unfold negSem at p
  cases e : intOf a with
  | none => rw [e] at p; exact p.elim
  | some i =>
    rw [e] at p
    unfold intOf at e
    split at e
    · cases e
      cases ra with | p ra =>
      cases ra
      exact ⟨i, rfl, p.val m (.int _)⟩
    · cases e
theorem se_not (g : Gx G X) (ha : PE X a (tS G X fa)) : PE X (.UnaryOp .Not a pos) (tS G X fun σ M => ((fa σ M).bind truR).bind fun b M1 => val (.bl (!b)) M1) := (pe_notT ha).imp fun σ H Q h => by
  refine tG.imp (seqT (Q := fun b H1 => Q (.bl (!b)) H1) g.hK ?_) fun x H1 q => q
  obtain ⟨Φ, F, ρ, σA, M, W, m, er, tk, p⟩ := h
  refine ⟨Φ, F, ρ, σA, M, W, m, er, tk, PRG.imp (PRG.seq (R := fun _ _ a b => a = b) p) (fun b H1 ⟨a, F1, ρ1, M1, e, m1, r, q⟩ => ?_) fun _ _ _ z => z⟩
  subst r
  exact q.val m1 (.bl _)
/-- an expression as a test -/
theorem st_tru (g : Gx G X) (ha : PE X a (tS G X fa)) (he : ∀ whole, isTrue a X.env whole = (do let v ← whole; standAt a.pos; holding [v] (truthy v))) : PT X a (tT G X fun σ M => (fa σ M).bind truR) :=
  (pt_truth ha he).imp fun σ H Q h => seqT g.hK h
theorem st_not {ta : CE Bool} (ha : PT X a (tT G X ta)) : PT X (.UnaryOp .Not a pos) (tT G X fun σ M => (ta σ M).bind fun b M1 => .ok (!b) M1) := (pt_not ha).imp fun σ H Q h => by
  obtain ⟨Φ, F, ρ, σA, M, W, m, er, tk, p⟩ := h
  refine ⟨Φ, F, ρ, σA, M, W, m, er, tk, PRG.imp (PRG.seq (R := fun _ _ a b => a = b) p) (fun b H1 ⟨a, F1, ρ1, M1, e, m1, r, q⟩ => ?_) fun _ _ _ z => z⟩
  subst r
  exact q _ _ _ _ .refl m1 rfl
theorem se_cmp (g : Gx G X) {o : Cop} (ha : PE X a (tS G X fa)) (hb : PE X b (tS G X fb)) (hm : behindInMarks (pyC o) b = false) : PE X (.Compare a [pyC o] [b] pos) (tS G X fun σ M => (fa σ M).bind fun x M1 => (fb σ M1).bind fun y M2 => cmpA o x y M2) :=
  (pe_cmpR (op_cmp g.hK g.hu o) ha hb hm).imp fun _ _ _ h => seq2 h
/-- a test whose value is a bool -/
theorem tB_of {f : CE A} {σ : St} {H : Hp} {Q : Bool → Hp → Prop} (h : tT G X (fun σ M => (f σ M).bind truR) σ H Q) (hb : ∀ σ M a M', f σ M = .ok a M' → ∃ k, a = .p (.bl k)) : tS G X f σ H fun x H' => ∃ k, x = .bl k ∧ Q k H' := by
  obtain ⟨Φ, F, ρ, σA, M, W, m, er, tk, p⟩ := h
  refine ⟨Φ, F, ρ, σA, M, W, m, er, tk, ?_⟩
  have hb' := hb σA M
  dsimp only at p
  cases e : f σA M with
  | ok a M' =>
    rw [e] at p
    obtain ⟨k, rfl⟩ := hb' a M' e
    intro F' ρ' v H' ex m' r
    cases r with | p r =>
    cases r
    exact ⟨k, rfl, p F' ρ' k H' ex m' rfl⟩
  | ex c fs M' => rw [e] at p; exact p
  | no => rw [e] at p; exact p
theorem bo_bl {b : Option Bool} {M M' : Mem} {a : A} (h : bo b M = .ok a M') : ∃ k, a = .p (.bl k) := by
  cases b with
  | none => cases h
  | some k => cases h; exact ⟨k, rfl⟩
theorem bind_ok {α β : Type} {r : Res α} {f : α → Mem → Res β} {b : β} {M' : Mem} (h : r.bind f = .ok b M') : ∃ a M, r = .ok a M ∧ f a M = .ok b M' := by
  cases r with
  | ok a M => exact ⟨a, M, rfl, h⟩
  | ex c fs M => cases h
  | no => cases h
theorem st_cmp (g : Gx G X) {o : Cop} (ha : PE X a (tS G X fa)) (hb : PE X b (tS G X fb)) (hm : behindInMarks (pyC o) b = false) : PT X (.Compare a [pyC o] [b] pos) (tT G X fun σ M => ((fa σ M).bind fun x M1 => (fb σ M1).bind fun y M2 => cmpA o x y M2).bind truR) :=
  (pt_cmpR (op_cmp g.hK g.hu o) ha hb hm).imp fun σ H Q h => seq2 (tB_of h fun σ M a M' e => by
    obtain ⟨_, _, _, e⟩ := bind_ok e
    obtain ⟨_, _, _, e⟩ := bind_ok e
    exact bo_bl e)
theorem boolOf_some {a : A} {k : Bool} (h : boolOf a = some k) : a = .p (.bl k) := by
  unfold boolOf at h
  split at h
  · cases h; rfl
  · cases h
theorem PRG.bb {β γ : Type} {Φ F : Hp} {ρ : List Addr} {a : A} {x : V} {M : Mem} {f : Bool → Mem → Res β} {R : Hp → List Addr → β → γ → Prop} {Q : γ → Hp → Prop} {E : XK} (h : PRG G Φ F ρ (bbind a M f) R Q E) (ra : RepA G F ρ a x) :
    ∃ k, a = .p (.bl k) ∧ x = .bl k ∧ PRG G Φ F ρ (f k M) R Q E := by
  unfold bbind at h
  cases e : boolOf a with
  | none => rw [e] at h; exact h.elim
  | some k =>
    rw [e] at h
    obtain rfl := boolOf_some e
    cases ra with | p ra =>
    cases ra
    exact ⟨k, rfl, rfl, h⟩
variable {rest : List Expr}
theorem se_and (ha : PE X a (tS G X fa)) (hb : PE X (.BoolOp .And (b :: rest) pos) (tS G X fb)) : PE X (.BoolOp .And (a :: b :: rest) pos) (tS G X fun σ M => (fa σ M).bind fun x M1 => bbind x M1 fun c M2 => if c = true then fb σ M2 else val (.bl false) M2) :=
  (pe_and ha hb).imp fun σ H Q ⟨Φ, F, ρ, σA, M, W, m, er, tk, p⟩ => by
  refine ⟨Φ, F, ρ, σA, M, W, m, er, tk, PRG.imp (PRG.seq (R := RepA G) p) (fun x H1 ⟨a, F1, ρ1, M1, e, m1, ra, q⟩ => ?_) fun _ _ _ z => z⟩
  obtain ⟨k, rfl, rfl, q⟩ := q.bb ra
  refine ⟨k, rfl, ?_⟩
  cases k with
  | true => exact ⟨Φ, F1, ρ1, σA, M1, W, m1, er.mono e, tk, q⟩
  | false => exact q.val m1 (.bl _)
theorem se_or (ha : PE X a (tS G X fa)) (hb : PE X (.BoolOp .Or (b :: rest) pos) (tS G X fb)) : PE X (.BoolOp .Or (a :: b :: rest) pos) (tS G X fun σ M => (fa σ M).bind fun x M1 => bbind x M1 fun c M2 => if c = true then val (.bl true) M2 else fb σ M2) :=
  (pe_or ha hb).imp fun σ H Q ⟨Φ, F, ρ, σA, M, W, m, er, tk, p⟩ => by
  refine ⟨Φ, F, ρ, σA, M, W, m, er, tk, PRG.imp (PRG.seq (R := RepA G) p) (fun x H1 ⟨a, F1, ρ1, M1, e, m1, ra, q⟩ => ?_) fun _ _ _ z => z⟩
  obtain ⟨k, rfl, rfl, q⟩ := q.bb ra
  refine ⟨k, rfl, ?_⟩
  cases k with
  | true => exact q.val m1 (.bl _)
  | false => exact ⟨Φ, F1, ρ1, σA, M1, W, m1, er.mono e, tk, q⟩
/-- the same as tests -/
theorem sw_and (ha : PT X a (tT G X fun σ M => (fa σ M).bind truR)) (hb : PW X (.BoolOp .And (b :: rest) pos) (tT G X fun σ M => (fb σ M).bind truR)) :
    PW X (.BoolOp .And (a :: b :: rest) pos) (tT G X fun σ M => ((fa σ M).bind fun x M1 => bbind x M1 fun c M2 => if c = true then fb σ M2 else val (.bl false) M2).bind truR) :=
  (pw_and ha hb).imp fun σ H Q ⟨Φ, F, ρ, σA, M, W, m, er, tk, p⟩ => by
  refine ⟨Φ, F, ρ, σA, M, W, m, er, tk, ?_⟩
  dsimp only at p ⊢
  cases e : fa σA M with
  | no => rw [e] at p; exact p
  | ex c fs M' => rw [e] at p; exact p
  | ok x M1 =>
    rw [e] at p
    simp only [Res.bind_ok] at p ⊢
    unfold bbind at p
    cases e2 : boolOf x with
    | none => rw [e2] at p; exact p.elim
    | some k =>
      rw [e2] at p
      obtain rfl := boolOf_some e2
      show PRG G Φ F ρ (.ok k M1) _ _ _
      intro F' ρ' b H' ex m' r
      subst r
      cases k with
      | false => exact p F' ρ' false H' ex m' rfl
      | true => exact ⟨Φ, F', ρ', σA, M1, W, m', er.mono ex, tk, p.base ex⟩
theorem sw_or (ha : PT X a (tT G X fun σ M => (fa σ M).bind truR)) (hb : PW X (.BoolOp .Or (b :: rest) pos) (tT G X fun σ M => (fb σ M).bind truR)) :
    PW X (.BoolOp .Or (a :: b :: rest) pos) (tT G X fun σ M => ((fa σ M).bind fun x M1 => bbind x M1 fun c M2 => if c = true then val (.bl true) M2 else fb σ M2).bind truR) :=
  (pw_or ha hb).imp fun σ H Q ⟨Φ, F, ρ, σA, M, W, m, er, tk, p⟩ => by
  refine ⟨Φ, F, ρ, σA, M, W, m, er, tk, ?_⟩
  dsimp only at p ⊢
  cases e : fa σA M with
  | no => rw [e] at p; exact p
  | ex c fs M' => rw [e] at p; exact p
  | ok x M1 =>
    rw [e] at p
    simp only [Res.bind_ok] at p ⊢
    unfold bbind at p
    cases e2 : boolOf x with
    | none => rw [e2] at p; exact p.elim
    | some k =>
      rw [e2] at p
      obtain rfl := boolOf_some e2
      show PRG G Φ F ρ (.ok k M1) _ _ _
      intro F' ρ' b H' ex m' r
      subst r
      cases k with
      | true => exact p F' ρ' true H' ex m' rfl
      | false => exact ⟨Φ, F', ρ', σA, M1, W, m', er.mono ex, tk, p.base ex⟩
theorem se_ifx {tc : CE Bool} (hc : PT X c (tT G X tc)) (ha : PE X a (tS G X fa)) (hb : PE X b (tS G X fb)) : PE X (.IfExp c a b pos) (tS G X fun σ M => (tc σ M).bind fun k M1 => if k = true then fa σ M1 else fb σ M1) :=
  (pe_ifExp hc ha hb).imp fun σ H Q ⟨Φ, F, ρ, σA, M, W, m, er, tk, p⟩ => by
  refine ⟨Φ, F, ρ, σA, M, W, m, er, tk, PRG.imp (PRG.seq (R := fun _ _ a b => a = b) p) (fun k H1 ⟨a, F1, ρ1, M1, e, m1, ra, q⟩ => ?_) fun _ _ _ z => z⟩
  subst ra
  cases a with
  | true => exact ⟨Φ, F1, ρ1, σA, M1, W, m1, er.mono e, tk, q⟩
  | false => exact ⟨Φ, F1, ρ1, σA, M1, W, m1, er.mono e, tk, q⟩
theorem imp_cmp2 {o p : Cop} {σ : St} {H : Hp} {Q : VK} (h : tS G X (cmp2S fa fb fc o p) σ H Q) : tChain (rS2 G (cmpA o)) (rS2 G (cmpA p)) (tS G X fa) (tS G X fb) (tS G X fc) σ H Q := by
  obtain ⟨Φ, F, ρ, σA, M, W, m, er, tk, h⟩ := h
  unfold cmp2S at h
  refine ⟨Φ, F, ρ, σA, M, W, m, er, tk, PRG.imp (PRG.seq (R := RepA G) h) (fun x H1 ⟨a, F1, ρ1, M1, e, m1, ra, q⟩ => ?_) fun _ _ _ z => z⟩
  refine ⟨Φ, F1, ρ1, σA, M1, W, m1, er.mono e, tk, PRG.imp (PRG.seq (R := RepA G) q) (fun y H2 ⟨b, F2, ρ2, M2, e2, m2, rb, q⟩ => ?_) fun _ _ _ z => z⟩
  refine ⟨Φ, F2, ρ2, M2, a, b, _, m2, ra.mono e2, rb, PRG.imp (PRG.seq (R := RepA G) q) (fun z H3 ⟨cc, F3, ρ3, M3, e3, m3, rc, q⟩ => ?_) fun _ _ _ z => z⟩
  obtain ⟨k, rfl, rfl, q⟩ := q.bb rc
  refine ⟨k, rfl, ?_⟩
  cases k with
  | false => exact q.val m3 (.bl _)
  | true =>
    refine ⟨Φ, F3, ρ3, σA, M3, W, m3, ((er.mono e).mono e2).mono e3, tk, PRG.imp (PRG.seq (R := RepA G) q) (fun w H4 ⟨d, F4, ρ4, M4, e4, m4, rd, q⟩ => ?_) fun _ _ _ z => z⟩
    exact ⟨Φ, F4, ρ4, M4, b, d, _, m4, (rb.mono e3).mono e4, rd, q⟩
theorem se_cmp2 (g : Gx G X) {o p : Cop} (ha : PE X a (tS G X fa)) (hb : PE X b (tS G X fb)) (hc : PE X c (tS G X fc)) (hm : lastMarks [pyC o, pyC p] [b, c] = false) :
    PE X (.Compare a [pyC o, pyC p] [b, c] pos) (tS G X (cmp2S fa fb fc o p)) := (pe_chain (op_cmp g.hK g.hu o) (op_cmp g.hK g.hu p) ha hb hc hm).imp fun _ _ _ h => imp_cmp2 h
theorem cmp2_bl {o p : Cop} {σ : Env'} {M M' : Mem} {x : A} (h : cmp2S fa fb fc o p σ M = .ok x M') : ∃ k, x = .p (.bl k) := by
  obtain ⟨_, _, _, h⟩ := bind_ok h
  obtain ⟨_, _, _, h⟩ := bind_ok h
  obtain ⟨_, _, _, h⟩ := bind_ok h
  unfold bbind at h
  split at h
  · dsimp only at h
    split at h
    · obtain ⟨_, _, _, h⟩ := bind_ok h
      exact bo_bl h
    · cases h; exact ⟨false, rfl⟩
  · cases h
theorem st_cmp2 (g : Gx G X) {o p : Cop} (ha : PE X a (tS G X fa)) (hb : PE X b (tS G X fb)) (hc : PE X c (tS G X fc)) (hm : lastMarks [pyC o, pyC p] [b, c] = false) :
    PT X (.Compare a [pyC o, pyC p] [b, c] pos) (tT G X fun σ M => (cmp2S fa fb fc o p σ M).bind truR) :=
  (pt_chain (op_cmp g.hK g.hu o) (op_cmp g.hK g.hu p) ha hb hc hm).imp fun _ _ _ h => imp_cmp2 (tB_of h fun _ _ _ _ e => cmp2_bl e)
end
end Fz

set_option maxHeartbeats 4000000
namespace Fz
open PySem L2
def notStar : Expr → Bool
  | .Starred _ _ => false
  | _ => true
theorem starEach_cons {e : Expr} {es : List Expr} {env : Env} (h : notStar e = true) : starEach (e :: es) env = (false, eval e env) :: starEach es env := by
  cases e <;> first | rfl | cases h
theorem noStar_any {pos : Pos} {env : Env} : ∀ {es : List Expr}, es.all notStar = true → (backTo pos (starEach es env)).any (·.1) = false
  | [], _ => rfl
  | e :: es, h => by
    rw [List.all_cons, Bool.and_eq_true] at h
    rw [starEach_cons h.1]
    show ((false : Bool) || (backTo pos (starEach es env)).any (·.1)) = false
    rw [noStar_any h.2]; rfl
section
variable {G : Gd} {X : Cx} {pos : Pos} {a b e : Expr} {es : List Expr} {fa fb : CE A} {fl : CE (List A)}
theorem sa_nil : PA X [] (tL G X fun _ M => .ok [] M) := pa_nil.imp fun σ H Q ⟨Φ, F, ρ, σA, M, W, m, er, tk, p⟩ => p _ _ _ _ .refl m .nil
theorem sa_cons (ha : PE X e (tS G X fa)) (hl : PA X es (tL G X fl)) (hs : notStar e = true) : PA X (e :: es) (tL G X fun σ M => (fa σ M).bind fun x M1 => (fl σ M1).bind fun xs M2 => .ok (x :: xs) M2) :=
  (pa_cons ha hl (starEach_cons hs)).imp fun σ H Q ⟨Φ, F, ρ, σA, M, W, m, er, tk, p⟩ => by
  refine ⟨Φ, F, ρ, σA, M, W, m, er, tk, PRG.imp (PRG.seq (R := RepA G) p) (fun x H1 ⟨a, F1, ρ1, M1, e, m1, ra, q⟩ => ?_) fun _ _ _ z => z⟩
  refine ⟨Φ, F1, ρ1, σA, M1, W, m1, er.mono e, tk, PRG.imp (PRG.seq (R := RepAs G) q) (fun y H2 ⟨b, F2, ρ2, M2, e2, m2, rb, q⟩ => ?_) fun _ _ _ z => z⟩
  exact q _ _ _ _ .refl m2 (.cons (ra.mono e2) rb)
theorem se_tup {k : Nat} (hl : PA X es (tL G X fl)) : PE X (.Tuple es k pos) (tS G X fun σ M => (fl σ M).bind fun xs M1 => if xs.length ≤ sizeLine then newT xs M1 else .no) :=
  (pe_tup hl).imp fun σ H Q h => by
  refine tG.imp (seqL h) fun xs H1 ⟨Φ, F, ρ, M, as, E, m, r, p⟩ => ?_
  dsimp only at p
  by_cases c : as.length ≤ sizeLine
  · rw [if_pos c] at p; exact ⟨by rw [← r.length]; exact c, fun q hq => p.newT m r hq⟩
  · rw [if_neg c] at p; exact p.elim
theorem se_lst {k : Bool} (hl : PA X es (tL G X fl)) : PE X (.List es pos) (tS G X fun σ M => (fl σ M).bind fun xs M1 => if xs.length ≤ sizeLine then newL k xs M1 else .no) :=
  (pe_lst hl).imp fun σ H Q h => by
  refine tG.imp (seqL h) fun xs H1 ⟨Φ, F, ρ, M, as, E, m, r, p⟩ => ?_
  dsimp only at p
  by_cases c : as.length ≤ sizeLine
  · rw [if_pos c] at p; exact ⟨by rw [← r.length]; exact c, fun q hq => p.newL m r hq⟩
  · rw [if_neg c] at p; exact p.elim
def plainB : Expr → Bool
  | .Slice _ _ none _ => false
  | _ => true
theorem plainB_ok {b : Expr} (h : plainB b = true) : PlainIx b := by
  intro o i
  cases b with
  | Slice lo hi st p => cases st with
    | none => cases h
    | some s => rfl
  | _ => rfl
theorem se_sub (g : Gx G X) (ha : PE X a (tS G X fa)) (hb : PE X b (tS G X fb)) (hp : plainB b = true) : PE X (.Subscript a b pos) (tS G X fun σ M => (fa σ M).bind fun x M1 => (fb σ M1).bind fun y M2 => subSem x y M2) :=
  (pe_ix (ix_sub g.hK) ha hb (plainB_ok hp)).imp fun _ _ _ h => seq2 h
theorem so_none : PO X none (tG G X (fun _ _ a b => a = b) fun _ M => .ok none M) := ⟨fun pins s σ H Q I ⟨Φ, F, ρ, σA, M, W, m, er, tk, p⟩ => po_none.run pins s σ H Q I (p _ _ _ _ .refl m rfl)⟩
theorem so_some (ha : PE X a (tS G X fa)) : PO X (some a) (tG G X (fun _ _ a b => a = b) fun σ M => (fa σ M).bind partS) := ⟨fun pins s σ H Q I ⟨Φ, F, ρ, σA, M, W, m, er, tk, p⟩ => (po_some ha).run pins s σ H Q I (by
  refine ⟨Φ, F, ρ, σA, M, W, m, er, tk, PRG.imp (PRG.seq (R := RepA G) p) (fun x H1 ⟨a, F1, ρ1, M1, e, m1, ra, q⟩ => ?_) fun _ _ _ z => z⟩
  unfold partS at q
  cases e2 : intOf a with
  | none => rw [e2] at q; exact q.elim
  | some i =>
    rw [e2] at q
    unfold intOf at e2
    split at e2
    · cases e2
      cases ra with | p ra =>
      cases ra
      exact ⟨i, rfl, q _ _ _ _ .refl m1 rfl⟩
    · cases e2)⟩
theorem se_slc (g : Gx G X) {k : Bool} {lo hi : Option Expr} {fo fh : CE (Option Int)} {p2 : Pos} (ha : PE X a (tS G X fa)) (hl : PO X lo (tG G X (fun _ _ a b => a = b) fo)) (hh : PO X hi (tG G X (fun _ _ a b => a = b) fh)) :
    PE X (.Subscript a (.Slice lo hi none p2) pos) (tS G X fun σ M => (fa σ M).bind fun x M1 => (fo σ M1).bind fun l M2 => (fh σ M2).bind fun h M3 => slcSem k x l h M3) :=
  (pe_slice (sl_slc g.hK k) ha hl hh).imp fun σ H Q ⟨Φ, F, ρ, σA, M, W, m, er, tk, p⟩ => by
  refine ⟨Φ, F, ρ, σA, M, W, m, er, tk, PRG.imp (PRG.seq (R := RepA G) p) (fun x H1 ⟨a, F1, ρ1, M1, e, m1, ra, q⟩ => ?_) fun _ _ _ z => z⟩
  refine ⟨Φ, F1, ρ1, σA, M1, W, m1, er.mono e, tk, PRG.imp (PRG.seq (R := fun _ _ a b => a = b) q) (fun y H2 ⟨b, F2, ρ2, M2, e2, m2, rb, q⟩ => ?_) fun _ _ _ z => z⟩
  subst rb
  refine ⟨Φ, F2, ρ2, σA, M2, W, m2, (er.mono e).mono e2, tk, PRG.imp (PRG.seq (R := fun _ _ a b => a = b) q) (fun y H3 ⟨c, F3, ρ3, M3, e3, m3, rc, q⟩ => ?_) fun _ _ _ z => z⟩
  subst rc
  exact ⟨Φ, F3, ρ3, M3, a, _, m3, (ra.mono e2).mono e3, q⟩
/-! ### built-in functions by name -/
theorem se_bi {x : Str} {id : String} {gg : List A → Mem → Res A} {p : Pos} (hc : CallR X (.builtin id) (rSL G gg)) (hg : Gl X x) (hm : X.mg x = none) (hv : bootBuiltins x = some (.builtin id)) (ha : PA X (e :: es) (tL G X fl)) (hn : x ≠ "__name__") (hdb : (x == ("__debug__" : Str)) = false)
    (hs : (e :: es).all notStar = true) : PE X (.Call (.Name x p) (e :: es) [] pos) (tS G X fun σ M => (fl σ M).bind gg) := by
  rw [List.all_cons, Bool.and_eq_true] at hs
  exact (pe_callB hc hg hm hv ha hn hdb (starEach_cons hs.1) (noStar_any hs.2)).imp fun _ _ _ h => seqL h
theorem se_ty {x : Str} {id : String} {gg : List A → Mem → Res A} {p : Pos} (hc : CallR X (.type id) (rSL G gg)) (hg : Gl X x) (hm : X.mg x = none) (hv : bootBuiltins x = some (.type id)) (ha : PA X (e :: es) (tL G X fl)) (hn : x ≠ "__name__") (hdb : (x == ("__debug__" : Str)) = false)
    (hs : (e :: es).all notStar = true) : PE X (.Call (.Name x p) (e :: es) [] pos) (tS G X fun σ M => (fl σ M).bind gg) := by
  rw [List.all_cons, Bool.and_eq_true] at hs
  exact (pe_callTy hc hg hm hv ha hn hdb (starEach_cons hs.1) (noStar_any hs.2)).imp fun _ _ _ h => seqL h
end
end Fz

set_option maxHeartbeats 4000000
namespace Fz
open PySem PySem.Spec PyProof.Rows
section
variable {prog : Program} {w : World} {A : Around} {E : Value → Shared → Prop} {s : Shared}
theorem hint_str {x : Str} {t : Tok} {Q : Bool → Shared → Prop} (h : Q false s) : wpAny (model prog w) A (Builtin.List.listLengthHint (.str x t)) Q E s := by
  have hT : s.TypeIs (.str x t) "str" := typeIs_str s x t
  unfold Builtin.List.listLengthHint
  refine wpAny_bind (wpAny_specialOf hT F.slot_str_len.lookup ?_)
  generalize hid : ("str.__len__" : String) = id0
  wp_delta
  rw [show splitId id0 = some ("str", "__len__") from by subst hid; decide +kernel]
  subst hid
  refine wpAny_bind (wpAny_isInstance (T := "str") (b := true) hT (by rw [isSubtype_type]; kernel_rfl) ?_)
  refine wpAny_ite_split (fun hab => absurd hab (by decide)) (fun _ => ?_)
  refine wpAny_ite_split (fun _ => ?_) (fun hab => absurd (by decide +kernel) hab)
  refine wpAny_bind (wpAny_typeOf hT ?_)
  exact wpAny_pure h
theorem extend_str {R : Result → Shared → Prop} (hh : A.handled = none) (x : Str) (t : Tok) (S : Addr) (res : Value) (c₀ : Nat) (hS : s.heap.get? S = some { cls := .type "list", data := .seq #[] c₀ })
    (hR : ∀ h' tk acc' c', (∀ b o, b ≠ S → s.heap.get? b = some o → h'.get? b = some o) → h'.get? S = some { cls := .type "list", dict := none, data := .seq acc' c', slots := #[] } →
      ItemsOf (SignAt x) acc' x.cps.size → R (.ok (.ret res)) { s with heap := h', toks := tk }) (hn : x.cps.size ≤ sizeLine) :
    wpAny (model prog w) A.in1 (Builtin.List.listExtendWith (.ref S) (.str x t) res)
      (fun fin s' => match fin with | .done f => R (.ok f) s' | .again c' => c'.quiet = true ∧ codeAny (model prog w) A c' R s') (fun e s' => R (.error e) s') s := by
  have hSI : S ≠ s.heap.objs.size := Nat.ne_of_lt (Heap.lt_size hS)
  have hSf : S ∉ [s.heap.objs.size] := fun hm => hSI (List.mem_singleton.mp hm)
  unfold Builtin.List.listExtendWith
  refine wpAny_bind (wpAny_typeOf (T := "str") (v := .str x t) (typeIs_str s x t) ?_)
  have h1 : Builtin.List.listSameRef (.ref S) (.str x t) = false := rfl
  have h2 : (Value.type "str" == Value.type "list") = false := by decide
  have h3 : (Value.type "str" == Value.type "tuple") = false := by decide
  simp only [h1, h2, h3, Bool.or_false, Bool.false_eq_true, if_false]
  refine wpAny_bind (wpAny_pyIter_str fun o St W hst => ?_)
  refine wpAny_bind (wpAny_holding (hint_str ?_))
  rw [if_neg (by first | decide | decide +kernel)]
  refine wpAny_pure ⟨plainId_quiet PySem.F.plain_extend_loop _, codeAny_extend_loopS (W A.in1 hh).toS hn _ hSf _ x.cps.size 0 _ _ _ rfl (Nat.zero_le _) hst (Heap.get?_push_of_some _ hS) (ItemsOf.nil _) fun s' acc' c' hm hS' hacc => ?_⟩
  rw [Moved.eq_with hm]
  refine hR s'.heap s'.toks acc' c' (fun b ob hb e => hm.heap b ob (fun hmem => ?_) (Heap.get?_push_of_some _ e)) hS' hacc
  rcases List.mem_cons.mp hmem with e' | hmem
  · exact hb e'
  · exact absurd (Heap.lt_size e) (by rw [List.mem_singleton.mp hmem]; exact Nat.lt_irrefl _)
theorem list_init_str {R : Result → Shared → Prop} (hh : A.handled = none) (x : Str) (t : Tok) (S : Addr) (hS : s.heap.get? S = some { cls := .type "list", data := .seq #[] })
    (hR : ∀ h' tk acc' c', (∀ b o, b ≠ S → s.heap.get? b = some o → h'.get? b = some o) → h'.get? S = some { cls := .type "list", dict := none, data := .seq acc' c', slots := #[] } →
      ItemsOf (SignAt x) acc' x.cps.size → R (.ok (.ret .none)) { s with heap := h', toks := tk }) (hn : x.cps.size ≤ sizeLine) :
    wpAny (model prog w) A.in1 (Builtin.«list.__init__» ⟨[.ref S, .str x t], []⟩)
      (fun fin s' => match fin with | .done f => R (.ok f) s' | .again c' => c'.quiet = true ∧ codeAny (model prog w) A c' R s') (fun e s' => R (.error e) s') s := by
  show wpAny _ _ (do let old ← Builtin.List.listItems (.ref S); Builtin.List.listUpdate (.ref S) (fun _ => #[]); letGo old.toList.reverse; Builtin.List.listExtendWith (.ref S) (.str x t) .none) _ _ s
  refine wpAny_bind ?_
  unfold Builtin.List.listItems
  refine wpAny_bind (wpAny_seqItems hS rfl (wpAny_pure ?_))
  show wpAny _ _ (updateSeq S (fun _ => #[]) >>= fun _ => letGo (#[] : Array Value).toList.reverse >>= fun _ => Builtin.List.listExtendWith (.ref S) (.str x t) .none) _ _ s
  refine wpAny_bind (wpAny_updateSeq hS rfl ?_)
  have hS₂ := Heap.get?_update_self (Obj.mapSeq (fun _ => (#[] : Array Value))) hS rfl
  have oth : ∀ b o, b ≠ S → s.heap.get? b = some o → (s.heap.update S (Obj.mapSeq (fun _ => (#[] : Array Value)))).get? b = some o :=
    fun b o hb e => (Heap.get?_update_other _ _ (Ne.symm hb)).trans e
  refine wpAny_bind (wpAny_letGo ?_)
  refine extend_str hh x t S .none _ hS₂ (fun h' tk acc' c' hk hS' hacc => ?_) hn
  exact hR h' tk acc' c' (fun b o hb e => hk b o hb (oth b o hb e)) hS' hacc
theorem call_list_str {x : Str} {t : Tok} {Q : Value → Shared → Prop} (hh : A.handled = none) (hn : x.cps.size ≤ sizeLine)
    (hQ : ∀ h' tk acc' c', (∀ b o, s.heap.get? b = some o → h'.get? b = some o) →
      h'.get? s.heap.objs.size = some { cls := .type "list", dict := none, data := .seq acc' c', slots := #[] } → ItemsOf (SignAt x) acc' x.cps.size → Q (.ref s.heap.objs.size) { s with heap := h', toks := tk }) :
    wpAny (model prog w) A (call (.type "list") [.str x t]) Q E s := by
  refine callType_codes (Q₁ := fun obj s₁ => obj = .ref s.heap.objs.size ∧ s₁ = { s with heap := s.heap.push { cls := .type "list", data := .seq #[] } }) PySem.F.called_list (PySem.F.typeCall_list_1 _) PySem.F.entry_list_init
    (code_list_new _ ⟨rfl, rfl⟩) fun obj s₁ h₁ => ?_
  obtain ⟨rfl, rfl⟩ := h₁
  have hS : (s.heap.push { cls := .type "list", data := .seq #[] }).get? s.heap.objs.size = some { cls := .type "list", data := .seq #[] } := Heap.get?_push_size _ rfl
  refine ⟨⟨_, hS, rfl⟩, PySem.F.args_list_init_2 _ _, list_init_str (A := A.in1) hh x t _ hS (fun h' tk acc' c' hk hS' hacc => ?_) hn⟩
  exact ⟨rfl, hQ h' tk acc' c' (fun b o e => hk b o (Nat.ne_of_lt (Heap.lt_size e)) (Heap.get?_push_of_some _ e)) hS' hacc⟩
end
end Fz
namespace Fz
open PySem L2 PyProof.Rows
section
variable {X : Cx}
theorem call_list_signs (hc : X.calm = true) : CallR X (.type "list") (fun xs H Q => ∃ z : Str, xs = [.str z] ∧ z.length ≤ sizeLine ∧ ∀ q, H q = none → Q (.ref q) (upd H q (.lst (z.cps.toList.map fun c => V.str ⟨#[c]⟩)))) := by
  intro pins s σ H xs us Q I rv ⟨z, hx, hz, q⟩
  subst hx
  cases rv with | cons r1 r2 =>
  cases r2
  obtain ⟨t, rfl⟩ := r1
  refine call_list_str (I.ok.hd hc) hz fun h' tk acc c' hk e hi => ?_
  refine ⟨.ref s.heap.objs.size, upd H s.heap.objs.size (.lst (z.cps.toList.map fun c => V.str ⟨#[c]⟩)), I.laid hk (Nat.le_refl _) ⟨by rw [List.length_map, Array.length_toList]; exact hz, acc.toList, c', ?_, by rw [Array.toArray_toList]; exact e⟩, rfl, q _ (I.hok.fresh (Nat.le_refl _))⟩
  refine vals_of_idx _ _ (by rw [List.length_map, Array.length_toList, Array.length_toList]; exact hi.1) fun j u hj => ?_
  obtain ⟨c, t', hc', rfl⟩ := hi.2 j u (by rw [← Array.getElem?_toList]; exact hj)
  exact ⟨.str ⟨#[c]⟩, by simp [hc'], ⟨_, rfl⟩⟩
end
end Fz

set_option maxHeartbeats 4000000
namespace Fz
open PySem PySem.Spec PyProof.Rows HT
section
variable {prog : Program} {w : World} {A : Around} {E : Value → Shared → Prop} {s : Shared}
theorem fm_congr {α β : Type} {f g : α → Option β} : ∀ {l : List α}, (∀ x ∈ l, f x = g x) → l.filterMap f = l.filterMap g
  | [], _ => rfl
  | x :: l, h => by
    rw [List.filterMap_cons, List.filterMap_cons, h x List.mem_cons_self, fm_congr fun y hy => h y (List.mem_cons_of_mem _ hy)]
theorem adjust_rev (n : Nat) : Builtin.Slice.sliceAdjust none none (-1) (n : Int) = ((n : Int) - 1, -1) := rfl
theorem places_rev (n : Nat) : Builtin.Slice.slicePlaces ((n : Int) - 1) (-1) (-1) = n := by
  unfold Builtin.Slice.slicePlaces
  have h1 : ¬ ((-1 : Int) > 0) := by decide
  simp only [h1, if_false]
  by_cases h : (n : Int) - 1 > -1
  · rw [if_pos h]
    have e : ((n : Int) - 1 - -1 - 1) / (-(-1)) = (n : Int) - 1 := by
      rw [Int.neg_neg, Int.ediv_one]; omega
    rw [e]; omega
  · rw [if_neg h]; omega
theorem sliceApplied_rev {sl : Addr} {vs : Value} {n : Nat} {Q : Int × Int × Nat → Shared → Prop} (hs : s.heap.IsSliceOf sl .none .none vs) (ps : IsPart vs (some (-1)))
    (h : Q ((n : Int) - 1, -1, n) s) : wpAny (model prog w) A (Builtin.Slice.sliceApplied (.ref sl) (pure (n : Int))) Q E s := by
  obtain ⟨os, hos, hcs, hds⟩ := id hs
  unfold Builtin.Slice.sliceApplied Builtin.Slice.sliceFields
  refine wpAny_bind (wpAny_bind (wpAny_field hos hds (x := .none) rfl (wpAny_bind (wpAny_field hos hds (x := .none) rfl (wpAny_bind (wpAny_field hos hds (x := vs) rfl (wpAny_pure ?_)))))))
  refine wpAny_bind (slicePart_ ps ?_)
  show wpAny _ _ (if ((-1 : Int) == 0) = true then _ else _) _ _ s
  rw [if_neg (by decide)]
  refine wpAny_bind (slicePart_none (wpAny_bind (slicePart_none (wpAny_bind (wpAny_pure ?_)))))
  show wpAny _ _ (match Builtin.Slice.sliceAdjust none none (-1) (n : Int) with | (lo, hi) => pure (lo, (-1 : Int), Builtin.Slice.slicePlaces lo hi (-1))) _ _ s
  rw [adjust_rev]
  show wpAny _ _ (pure ((n : Int) - 1, (-1 : Int), Builtin.Slice.slicePlaces ((n : Int) - 1) (-1) (-1))) _ _ s
  rw [places_rev]
  exact wpAny_pure h
theorem pick_rev (xs : Array Value) : ((List.range xs.size).filterMap fun (m : Nat) => xs[(((xs.size : Int) - 1) + (m : Int) * (-1)).toNat]?).toArray = xs.toList.reverse.toArray := by
  have e : (List.range xs.size).filterMap (fun (m : Nat) => xs[(((xs.size : Int) - 1) + (m : Int) * (-1)).toNat]?) = ((List.range xs.size).map fun k => xs.size - 1 - k).filterMap (xs[·]?) := by
    rw [List.filterMap_map]
    refine fm_congr fun m hm => ?_
    have := List.mem_range.mp hm
    show xs[(((xs.size : Int) - 1) + (m : Int) * (-1)).toNat]? = xs[xs.size - 1 - m]?
    have : (((xs.size : Int) - 1) + (m : Int) * (-1)).toNat = xs.size - 1 - m := by omega
    rw [this]
  rw [e, PySem.W.krv_range, List.filterMap_reverse, PySem.W.krv_all]
theorem getItem_tuple_rev {t sl : Addr} {items : Array Value} {vs : Value} {Q : Value → Shared → Prop} (ht : IsTup s.heap t items) (hs : s.heap.IsSliceOf sl .none .none vs) (ps : IsPart vs (some (-1)))
    (h : Q (.ref s.heap.objs.size) { s with heap := s.heap.push { cls := .type "tuple", data := .seq items.toList.reverse.toArray } })
    (hsz : items.size ≤ sizeLine) : wpAny (model prog w) A (getItem (.ref t) (.ref sl)) Q E s := by
  have htake : sizeOk (.seq items.toList.reverse.toArray) := by
    show items.toList.reverse.toArray.size ≤ sizeLine
    rw [List.size_toArray, List.length_reverse, Array.length_toList]
    exact hsz
  obtain ⟨os, hos, hcs, hds⟩ := id hs
  have hTs : s.TypeIs (.ref sl) "slice" := ⟨os, hos, hcs⟩
  unfold getItem
  try with_reducible refine wpAny_holding ?_
  first | refine wpAny_bind (wpAny_pure ?_) | skip
  refine wpAny_bind (wpAny_sequenceKey ht.typeIs (by decide) ?_)
  refine wpAny_bind (wpAny_callSpecial?_slot (name := Str.ofString "__getitem__") ht.typeIs PyProof.Rows.slot_tuple_getitem
    (wpAny_call_entry PyProof.Rows.slot_tuple_getitem ht.typeIs entry_tuple_getitem ?_ (args_tuple_getitem _ _)))
  show wpAny _ _ (Builtin.Tuple.tupleItemsOf (.ref t) >>= _) _ _ s
  refine wpAny_bind (tupleItemsOf_ ht ?_)
  refine wpAny_bind (wpAny_typeOf hTs ?_)
  rw [if_pos (by decide)]
  refine wpAny_bind (sliceApplied_rev hs ps ?_)
  show wpAny _ _ (if (((items.size : Int) - 1) == 0 && (-1 : Int) == 1 && items.size == items.size) = true then _ else _) _ _ s
  rw [if_neg (by rw [show ((-1 : Int) == 1) = false from by decide, Bool.and_false, Bool.false_and]; exact Bool.false_ne_true), pick_rev]
  first
    | exact wpAny_bind (m := Builtin.Tuple.tupleExact _) (wpAny_newObj_type (wpAny_pure ⟨_, rfl, wpAny_pure h⟩) htake)
    | exact wpAny_bind (m := Builtin.Tuple.tupleExact _) (wpAny_newObj_type (wpAny_bind (wpAny_pure (wpAny_pure ⟨_, rfl, wpAny_pure h⟩))) htake)
    | exact wpAny_bind (wpAny_bind (m := Builtin.Tuple.tupleExact _) (wpAny_newObj_type (wpAny_pure (wpAny_pure ⟨_, rfl, wpAny_pure h⟩)) htake))
    | exact wpAny_bind (wpAny_bind (m := Builtin.Tuple.tupleExact _) (wpAny_newObj_type (wpAny_pure ⟨_, rfl, wpAny_pure h⟩) htake))
end
end Fz
namespace Fz
open PySem L2 PyProof.Rows
section
variable {X : Cx}
/-- x[::-1] -/
def rRev (K : PySem.W.Frag) : V → Hp → VK → Prop := fun x H Q => (∃ z, x = .str z ∧ z.length ≤ sizeLine ∧ Q (.str ⟨z.cps.toList.reverse.toArray⟩) H) ∨
  (∃ a xs, x = .ref a ∧ SqL K H a xs ∧ ∀ p, H p = none → Q (.ref p) (upd H p (.lst xs.reverse))) ∨ (∃ a xs, x = .ref a ∧ SqT K H a xs ∧ ∀ p, H p = none → Q (.ref p) (upd H p (.tup xs.reverse)))
theorem pe_rev {e : Expr} {te : TE} {k : Nat} {p1 p2 p3 pos : Pos} (he : PE X e te) : PE X (.Subscript e (.Slice none none (some (.UnaryOp .USub (.Constant (.int 1) k p1) p2)) p3) pos) (fun σ H Q => te σ H fun x H1 => rRev X.K x H1 Q) := by
  refine ⟨fun pins s σ H Q I h => ?_⟩
  refine Subscript_ (thn (he.run pins s σ H _ I h) fun v s1 ⟨x, H1, I1, r1, q1⟩ => ?_)
  have hst : PO X (some (.UnaryOp .USub (.Constant (.int 1) k p1) p2)) (tPart (tUn (rU fun i => .int (-i)) (tC (.int 1)))) := po_some (pe_un un_neg pe_int)
  refine wpAny_Slice (thn (po_none.run pins s1 σ H1 (fun o H2 => o = none ∧ H2 = H1) I1 ⟨rfl, rfl⟩) fun vl s2 ⟨l, H2, I2, pl, el, e2⟩ => ?_)
  subst el e2
  refine thn (po_none.run pins s2 σ H2 (fun o H3 => o = none ∧ H3 = H2) I2 ⟨rfl, rfl⟩) fun vu s3 ⟨u, H3, I3, pu, eu, e3⟩ => ?_
  subst eu e3
  refine thn (hst.run pins s3 σ H3 (fun o H4 => o = some (-1) ∧ H4 = H3) I3 ⟨1, rfl, -1, rfl, rfl, rfl⟩) fun vs s4 ⟨o, H4, I4, ps, eo, e4⟩ => ?_
  subst eo e4
  have I5 : Inv X pins σ H4 { s4 with heap := s4.heap.push { cls := .type "slice", data := .fields #[vl, vu, vs] } } := I4.kept (t' := s4.toks) fun b ob q => Heap.get?_push_of_some _ q
  cases pl
  cases pu
  have hsl := Heap.IsSliceOf.new s4.heap .none .none vs
  show wpAny (model X.prog X.w) X.A (subscriptTail e (.Slice none none (some (.UnaryOp .USub (.Constant (.int 1) k p1) p2)) p3) v (.ref s4.heap.objs.size)) (EP X pins σ Q) X.xe { s4 with heap := s4.heap.push { cls := .type "slice", data := .fields #[.none, .none, vs] } }
  rcases q1 with ⟨z, rfl, hz, q⟩ | ⟨a, xs, rfl, hx, q⟩ | ⟨a, xs, rfl, hx, q⟩
  · obtain ⟨t, rfl⟩ := r1
    obtain ⟨os, hos, hcs, hds⟩ := hsl
    cases ps with | int _ tk =>
    refine tail_any (ops := [.str z t, .ref s4.heap.objs.size]) (typeIs_str _ _ _) F.slot_str_getitem.lookup ?_ (by with_unfolding_all rfl)
    refine wpAny_getItem_str_slice (l := none) (u := none) (st := some (-1, tk)) ⟨os, hos, hcs, hds⟩ rfl ?_
    have e : (sliceMade z t none none (some (-1, tk))) = Made.str ⟨z.cps.toList.reverse.toArray⟩ := by
      unfold sliceMade slicePicked
      show (if ((-1 : Int) == 1 && _) = true then _ else Made.str _) = _
      rw [if_neg (by rw [show ((-1 : Int) == 1) = false from by decide, Bool.false_and]; exact Bool.false_ne_true)]
      have e2 : Builtin.Str.strSliceIndices none none (-1) z.length = (List.range z.cps.size).reverse := by
        show sliceRange ((z.cps.size : Int) - 1) (-1) (-1) = _
        rw [PySem.W.krv_sliceRange, PySem.W.krv_range]
      show Made.str ⟨((Builtin.Str.strSliceIndices none none (-1) z.length).filterMap (z.cps[·]?)).toArray⟩ = _
      rw [e2, List.filterMap_reverse, PySem.W.krv_all]
    rw [e]
    refine ⟨?_, .str _, H4, I5.tok _, ⟨_, rfl⟩, q⟩
    show z.cps.toList.reverse.toArray.size ≤ _
    rw [List.size_toArray, List.length_reverse, Array.length_toList]
    exact hz
  · cases r1
    obtain ⟨its, r, ht, hz⟩ := I5.list hx
    have hlen := r.length
    refine tail_any (ops := [.ref a, .ref s4.heap.objs.size]) ht.isList.typeIs (PySem.slot_list_getitem.lookup) ?_ (by with_unfolding_all rfl)
    refine wpAny_getItem_list_slice ht.isList (Heap.IsSliceOf.new _ .none .none vs) .none .none ps (by decide) ?_ (by rw [List.size_toArray]; omega)
    rw [PySem.W.krv_pick]
    refine ⟨.ref _, _, I5.laid (t' := s4.toks) (o := .lst xs.reverse) (fun b ob q => Heap.get?_push_of_some _ q) (Nat.le_refl _) ?_, rfl, q _ (I5.hok.fresh (Nat.le_refl _))⟩
    exact ⟨by rw [List.length_reverse]; exact hz, _, 0, r.reverse, Heap.get?_push_size _ rfl⟩
  · cases r1
    obtain ⟨its, r, ht, hz⟩ := I5.tuple hx
    have hlen : its.toArray.size = xs.length := by rw [List.size_toArray]; exact r.length.symm
    refine tail_any (ops := [.ref a, .ref s4.heap.objs.size]) ht.typeIs (PyProof.Rows.slot_tuple_getitem.lookup) ?_ (by with_unfolding_all rfl)
    refine getItem_tuple_rev ht (Heap.IsSliceOf.new _ .none .none vs) ps ?_ (by rw [hlen]; exact hz)
    refine ⟨.ref _, _, I5.laid (t' := s4.toks) (o := .tup xs.reverse) (fun b ob q => Heap.get?_push_of_some _ q) (Nat.le_refl _) ?_, rfl, q _ (I5.hok.fresh (Nat.le_refl _))⟩
    exact ⟨by rw [List.length_reverse]; exact hz, _, r.reverse, IsTup.new _ _⟩
end
end Fz

set_option maxHeartbeats 4000000
namespace Fz
open PySem L2
section
variable {G : Gd} {X : Cx} {Φ F : Hp} {ρ : List Addr} {M : Mem} {H : Hp}
theorem reps1 {a : A} {xs : List V} (r : RepAs G F ρ [a] xs) : ∃ v, xs = [v] ∧ RepA G F ρ a v := by
  cases r with | cons a b => cases b; exact ⟨_, rfl, a⟩
theorem reps2 {a b : A} {xs : List V} (r : RepAs G F ρ [a, b] xs) : ∃ v w, xs = [v, w] ∧ RepA G F ρ a v ∧ RepA G F ρ b w := by
  cases r with | cons a b => cases b with | cons b c => cases c; exact ⟨_, _, rfl, a, b⟩
theorem bools_rep : ∀ {ds : List D} {vs : List V} {bs : List Bool}, RepDs G F ds vs → bools ds = some bs → vs = bs.map V.bl
  | _, _, _, .nil, e => by cases e; rfl
  | _, _, _, .cons (.bl b) r, e => by
    unfold bools at e
    obtain ⟨bs, e1, rfl⟩ := Option.map_eq_some_iff.mp e
    rw [bools_rep r e1]; rfl
  | _, _, _, .cons .non r, e => by cases e
  | _, _, _, .cons (.int _) r, e => by cases e
  | _, _, _, .cons (.str _) r, e => by cases e
  | _, _, _, .cons (.tup _ _) r, e => by cases e
  | _, _, _, .cons (.lst _ _) r, e => by cases e
  | _, _, _, .cons (.dK _ _) r, e => by cases e
  | _, _, _, .cons (.dT _ _ _) r, e => by cases e
  | _, _, _, .cons (.ins _ _ _) r, e => by cases e
  | _, _, _, .cons (.typ _) r, e => by cases e
  | _, _, _, .cons (.cls _) r, e => by cases e
theorem ints_rep : ∀ {ds : List D} {vs : List V} {bs : List Int}, RepDs G F ds vs → intsD ds = some bs → vs = bs.map V.int
  | _, _, _, .nil, e => by cases e; rfl
  | _, _, _, .cons (.int b) r, e => by
    unfold intsD at e
    obtain ⟨bs, e1, rfl⟩ := Option.map_eq_some_iff.mp e
    rw [ints_rep r e1]; rfl
  | _, _, _, .cons .non r, e => by cases e
  | _, _, _, .cons (.bl _) r, e => by cases e
  | _, _, _, .cons (.str _) r, e => by cases e
  | _, _, _, .cons (.tup _ _) r, e => by cases e
  | _, _, _, .cons (.lst _ _) r, e => by cases e
  | _, _, _, .cons (.dK _ _) r, e => by cases e
  | _, _, _, .cons (.dT _ _ _) r, e => by cases e
  | _, _, _, .cons (.ins _ _ _) r, e => by cases e
  | _, _, _, .cons (.typ _) r, e => by cases e
  | _, _, _, .cons (.cls _) r, e => by cases e
theorem strs_rep : ∀ {ds : List D} {vs : List V} {bs : List Str}, RepDs G F ds vs → strsD ds = some bs → vs = bs.map V.str
  | _, _, _, .nil, e => by cases e; rfl
  | _, _, _, .cons (.str b) r, e => by
    unfold strsD at e
    obtain ⟨bs, e1, rfl⟩ := Option.map_eq_some_iff.mp e
    rw [strs_rep r e1]; rfl
  | _, _, _, .cons .non r, e => by cases e
  | _, _, _, .cons (.bl _) r, e => by cases e
  | _, _, _, .cons (.int _) r, e => by cases e
  | _, _, _, .cons (.tup _ _) r, e => by cases e
  | _, _, _, .cons (.lst _ _) r, e => by cases e
  | _, _, _, .cons (.dK _ _) r, e => by cases e
  | _, _, _, .cons (.dT _ _ _) r, e => by cases e
  | _, _, _, .cons (.ins _ _ _) r, e => by cases e
  | _, _, _, .cons (.typ _) r, e => by cases e
  | _, _, _, .cons (.cls _) r, e => by cases e
theorem lst_of (m : MR G Φ F ρ M H) {a : A} {v : V} {xs : List D} (ra : RepA G F ρ a v) (e : vw M a = some (.lst xs)) : ∃ b vs, v = .ref b ∧ Rd H b (.lst vs) ∧ RepDs G F xs vs := (vw_rep m ra e).lst_ m.sub
theorem cr_one {f : Value} {g : A → Mem → Res A} (h : ∀ (pins : List (Addr × Obj)) (s : Shared) (σ : St) (H : Hp) (x : V) (us : List Value) (Q : VK), Inv X pins σ H s → Vals [x] us → rS1 G g x H Q → wpAny (model X.prog X.w) X.A (call f us) (EP X pins σ Q) X.xe s) : CallR X f (rSL G (one g)) := by
  intro pins s σ H xs us Q I rv ⟨Φ, F, ρ, M, as, E, m, r, p⟩
  match as, r, p with
  | [], _, p => exact p.elim
  | _ :: _ :: _, _, p => exact p.elim
  | [a], r, p =>
  obtain ⟨v, rfl, ra⟩ := reps1 r
  exact h pins s σ H v us Q I rv ⟨Φ, F, ρ, M, a, E, m, ra, p⟩
theorem bi_len (hK : X.K = G.K) : CallR X (.builtin "len") (rSL G (one lenS)) := cr_one fun pins s σ H v us Q I rv ⟨Φ, F, ρ, M, a, E, m, ra, p⟩ => by
  have go : ∀ n : Nat, LenV X.K v H n → PRG G Φ F ρ (val (.int n) M) (RepA G) Q E → wpAny (model X.prog X.w) X.A (call (.builtin "len") us) (EP X pins σ Q) X.xe s := fun n l p =>
    call_len pins s σ H _ us Q I rv ⟨v, n, rfl, l, p.val m (.int _)⟩
  unfold lenS at p
  split at p
  · rename_i z e
    split at p
    · rename_i hz
      obtain rfl := (vw_rep m ra e).str
      exact go _ ⟨hz, rfl⟩ p
    · exact p.elim
  · rename_i xs e
    obtain ⟨b, vs, rfl, h1, _, r⟩ := (vw_rep m ra e).tup m.sub
    exact go _ (.inr ⟨vs, hK ▸ h1, r.length⟩) p
  · rename_i xs e
    obtain ⟨b, vs, rfl, h1, r⟩ := lst_of m ra e
    exact go _ (.inl ⟨vs, .inl h1, r.length⟩) p
  · exact p.elim
  · cases ra with
    | p => exact p.elim
    | @c i ad ha =>
      dsimp only at p
      cases eM : M[i]? with
      | none => rw [eM] at p; exact p.elim
      | some c =>
        rw [eM] at p
        cases c with
        | lsa xs =>
          obtain ⟨_, _, r⟩ := m.at_ i _ _ eM ha (fun q => nomatch q)
          cases r with | lsa hl r =>
          exact go _ (.inl ⟨_, SqL.of hl, r.length⟩) p
        | _ => exact p.elim
    | @t xs ad vs hl r => exact go _ (.inr ⟨_, .inl (.inl (m.sub _ _ hl)), r.length⟩) p
theorem lstF_some {α : Type} {f : List D → Option α} {g : α → D} {a : A} {v : V} {Q : VK} {E : XK} (m : MR G Φ F ρ M H) (ra : RepA G F ρ a v) (h : PRG G Φ F ρ (lstF f g a M) (RepA G) Q E) :
    ∃ xs y b vs, f xs = some y ∧ v = .ref b ∧ Rd H b (.lst vs) ∧ RepDs G F xs vs ∧ PRG G Φ F ρ (val (g y) M) (RepA G) Q E := by
  unfold lstF at h
  split at h
  · rename_i xs e
    obtain ⟨b, vs, rfl, h1, r⟩ := lst_of m ra e
    cases ef : f xs with
    | none => rw [ef] at h; exact h.elim
    | some y => rw [ef] at h; exact ⟨xs, y, b, vs, ef, rfl, h1, r, h⟩
  · exact h.elim
theorem bi_all (g : Gx G X) : CallR X (.builtin "all") (rSL G (one (lstF bools fun bs => .bl (bs.all id)))) := cr_one fun pins s σ H v us Q I rv ⟨Φ, F, ρ, M, a, E, m, ra, p⟩ => by
  obtain ⟨xs, bs, b, vs, e, rfl, h1, r, p⟩ := lstF_some m ra p
  obtain rfl := bools_rep r e
  exact cr_all g.calm pins s σ H _ us Q I rv ⟨b, bs, rfl, .inl h1, p.val m (.bl _)⟩
theorem bi_any (g : Gx G X) : CallR X (.builtin "any") (rSL G (one (lstF bools fun bs => .bl (bs.any id)))) := cr_one fun pins s σ H v us Q I rv ⟨Φ, F, ρ, M, a, E, m, ra, p⟩ => by
  obtain ⟨xs, bs, b, vs, e, rfl, h1, r, p⟩ := lstF_some m ra p
  obtain rfl := bools_rep r e
  exact cr_any g.calm pins s σ H _ us Q I rv ⟨b, bs, rfl, .inl h1, p.val m (.bl _)⟩
theorem bi_sum (g : Gx G X) : CallR X (.builtin "sum") (rSL G (one (lstF intsD fun ns => .int ns.sum))) := cr_one fun pins s σ H v us Q I rv ⟨Φ, F, ρ, M, a, E, m, ra, p⟩ => by
  obtain ⟨xs, bs, b, vs, e, rfl, h1, r, p⟩ := lstF_some m ra p
  obtain rfl := ints_rep r e
  exact cr_sum g.calm pins s σ H _ us Q I rv ⟨b, bs, rfl, .inl h1, p.val m (.int _)⟩
theorem bi_intI {f : Value} {k : Int → Int → Int} (hc : CallR X f (fun xs H Q => ∃ i j, xs = [.int i, .int j] ∧ Q (.int (k i j)) H)) : CallR X f (rSL G (intI k)) := by
  intro pins s σ H xs us Q I rv ⟨Φ, F, ρ, M, as, E, m, r, p⟩
  unfold intI at p
  split at p
  · obtain ⟨v, w, rfl, r1, r2⟩ := reps2 r
    cases r1 with | p r1 =>
    cases r1
    cases r2 with | p r2 =>
    cases r2
    exact hc pins s σ H _ us Q I rv ⟨_, _, rfl, p.val m (.int _)⟩
  · exact p.elim
theorem bi_strI : CallR X (.type "str") (rSL G (one strIS)) := cr_one fun pins s σ H v us Q I rv ⟨Φ, F, ρ, M, a, E, m, ra, p⟩ => by
  unfold strIS at p
  split at p
  · split at p
    · rename_i c
      cases ra with | p ra =>
      cases ra
      exact call_str_int pins s σ H _ us Q I rv ⟨_, rfl, c, p.val m (.str _)⟩
    · exact p.elim
  · exact p.elim
theorem bi_int : CallR X (.type "int") (rSL G (one intBS)) := cr_one fun pins s σ H v us Q I rv ⟨Φ, F, ρ, M, a, E, m, ra, p⟩ => by
  unfold intBS at p
  split at p
  · cases ra with | p ra =>
    cases ra
    exact call_int1 pins s σ H _ us Q I rv (.inr ⟨_, rfl, p.val m (.int _)⟩)
  · exact p.elim
theorem signs_rep {F : Hp} : ∀ l : List Nat, RepDs G F (l.map fun c => D.str ⟨#[c]⟩) (l.map fun c => V.str ⟨#[c]⟩)
  | [] => .nil
  | c :: l => .cons (.str _) (signs_rep l)
theorem bi_list (g : Gx G X) (k : Bool) : CallR X (.type "list") (rSL G (one (listS k))) := cr_one fun pins s σ H v us Q I rv ⟨Φ, F, ρ, M, a, E, m, ra, p⟩ => by
  unfold listS at p
  split at p
  · rename_i xs e
    obtain ⟨b, vs, rfl, h1, r⟩ := lst_of m ra e
    exact call_list_of pins s σ H _ us Q I rv ⟨b, vs, rfl, .inl (.inl h1), fun l hl => p.newL m (RepAs.of_p r) hl⟩
  · rename_i xs e
    obtain ⟨b, vs, rfl, h1, h2, r⟩ := (vw_rep m ra e).tup m.sub
    exact call_list_of pins s σ H _ us Q I rv ⟨b, vs, rfl, .inr (g.hK ▸ h1), fun l hl => p.newL m (RepAs.of_p r) hl⟩
  · rename_i z e
    split at p
    · rename_i hz
      obtain rfl := (vw_rep m ra e).str
      exact call_list_signs g.calm pins s σ H _ us Q I rv ⟨z, rfl, hz, fun l hl => p.newL m (RepAs.of_p (signs_rep _)) hl⟩
    · exact p.elim
  · exact p.elim
theorem bi_tuple (hK : X.K = G.K) : CallR X (.type "tuple") (rSL G (one tupleS)) := cr_one fun pins s σ H v us Q I rv ⟨Φ, F, ρ, M, a, E, m, ra, p⟩ => by
  unfold tupleS at p
  split at p
  · rename_i xs e
    obtain ⟨b, vs, rfl, h1, r⟩ := lst_of m ra e
    exact call_tuple_of pins s σ H _ us Q I rv ⟨b, vs, rfl, .inl ⟨.inl h1, fun l hl => p.newTD m r hl⟩⟩
  · rename_i xs e
    obtain ⟨b, vs, rfl, h1, h2, r⟩ := (vw_rep m ra e).tup m.sub
    exact call_tuple_of pins s σ H _ us Q I rv ⟨b, vs, rfl, .inr ⟨hK ▸ h1, p.val m (.tup h2 r)⟩⟩
  · exact p.elim
end
end Fz

set_option maxHeartbeats 4000000
namespace Fz
open PySem L2
section
variable {G : Gd} {X : Cx} {Φ F : Hp} {ρ : List Addr} {M : Mem} {H : Hp} {pins : List (Addr × Obj)} {σ : St} {s : Shared}
theorem kit_rdT (I : Inv X pins σ H s) {a : Addr} {vs : List V} (h : SqT X.K H a vs) : ∃ P, PySem.W.KitX X.K (.ref a) (.type "tuple") P ∧ P s.heap := by
  rcases h with (h | ⟨o, h⟩) | ⟨o, its, n, h, c, _⟩
  · obtain ⟨_, _, _, o, h1, h2, _⟩ := (show ObjOk X.prog X.w H s.heap a (.tup vs) from I.hok a _ h)
    exact ⟨_, PySem.W.kitx_tuple, ⟨o, h1, h2⟩⟩
  · obtain ⟨_, _, _, _, o, h1, h2, _⟩ := (show ObjOk X.prog X.w H s.heap a (.frz o (.tup vs)) from I.hok a _ h)
    exact ⟨_, PySem.W.kitx_tuple, ⟨o, h1, h2⟩⟩
  · exact ⟨_, PySem.W.kitx_tuple, ⟨o, I.kIn a o h, c⟩⟩
theorem kit_rdL (I : Inv X pins σ H s) {a : Addr} {vs : List V} (h : Rd H a (.lst vs)) : ∃ P, PySem.W.KitX X.K (.ref a) (.type "list") P ∧ P s.heap := by
  obtain ⟨_, _, n, _, h1⟩ := rdL I h
  exact ⟨_, PySem.W.kitx_list, ⟨_, h1, rfl⟩⟩
theorem kit_dic (I : Inv X pins σ H s) {a : Addr} {u : HO} (h : Rd H a u) (hu : (∃ kvs, u = .dK kvs) ∨ ∃ kvs, u = .dT kvs) : ∃ P, PySem.W.KitX X.K (.ref a) (.type "dict") P ∧ P s.heap := by
  have ok := h.ok I.hok
  rcases hu with ⟨kvs, rfl⟩ | ⟨kvs, rfl⟩
  · obtain ⟨_, _, vs, _, o, es, ep, h1, h2, _⟩ := ok
    exact ⟨_, PySem.W.kitx_dict, ⟨o, h1, h2.1⟩⟩
  · obtain ⟨_, _, xs, _, o, es, ep, h1, h2, _⟩ := ok
    exact ⟨_, PySem.W.kitx_dict, ⟨o, h1, h2.1⟩⟩
theorem kit_D (hK : X.K = G.K) (I : Inv X pins σ H s) (m : MR G Φ F ρ M H) {a : A} {v : V} {u : Value} {tn : String} (ra : RepA G F ρ a v) (rv : RelV v u) (e : topOf M a = some tn) :
    ∃ P, PySem.W.KitX X.K u (.type tn) P ∧ P s.heap ∧ u ≠ .builtin "__main__.__loader__#opaque" := by
  have ref : ∀ {b : Addr} {t : String}, v = .ref b → (∃ P, PySem.W.KitX X.K (.ref b) (.type t) P ∧ P s.heap) → t = tn → ∃ P, PySem.W.KitX X.K u (.type tn) P ∧ P s.heap ∧ u ≠ .builtin "__main__.__loader__#opaque" := by
    rintro b t rfl ⟨P, h1, h2⟩ rfl
    cases (show u = Value.ref b from rv)
    exact ⟨P, h1, h2, fun z => nomatch z⟩
  unfold topOf at e
  cases ra with
  | p r =>
    dsimp only at e
    cases r with
    | non => cases e; cases (show u = Value.none from rv); exact ⟨_, PySem.W.kitx_none, True.intro, fun z => nomatch z⟩
    | bl y => cases e; cases (show u = Value.bool y from rv); exact ⟨_, PySem.W.kitx_bool, True.intro, fun z => nomatch z⟩
    | int i => cases e; obtain ⟨t, q⟩ := (show ∃ t, u = Value.int i t from rv); cases q; exact ⟨_, PySem.W.kitx_int, True.intro, fun z => nomatch z⟩
    | str y => cases e; obtain ⟨t, q⟩ := (show ∃ t, u = Value.str y t from rv); cases q; exact ⟨_, PySem.W.kitx_str, True.intro, fun z => nomatch z⟩
    | tup h r => exact ref rfl (kit_rdT I (hK ▸ SqT_mono m.sub h)) (Option.some.inj e)
    | lst h r => exact ref rfl (kit_rdL I (Rd_mono m.sub h)) (Option.some.inj e)
    | dK h r => exact ref rfl (kit_dic I (Rd_mono m.sub h) (.inl ⟨_, rfl⟩)) (Option.some.inj e)
    | dT h n r => exact ref rfl (kit_dic I (Rd_mono m.sub h) (.inr ⟨_, rfl⟩)) (Option.some.inj e)
    | _ => cases e
  | t h r => exact ref rfl (kit_rdT I (.inl (.inl (m.sub _ _ h)))) (Option.some.inj e)
  | @c i ad ha =>
    dsimp only at e
    cases eM : M[i]? with
    | none => rw [eM] at e; cases e
    | some c =>
      rw [eM] at e
      cases c with
      | lst xs =>
        obtain ⟨_, _, r⟩ := m.at_ i _ _ eM ha (fun q => nomatch q)
        cases r with | lst hl r =>
        exact ref rfl (kit_rdL I (.inl hl)) (Option.some.inj e)
      | lsa xs =>
        obtain ⟨_, _, r⟩ := m.at_ i _ _ eM ha (fun q => nomatch q)
        cases r with | lsa hl r =>
        exact ref rfl (kit_rdL I (.inl hl)) (Option.some.inj e)
      | dic xs =>
        obtain ⟨_, _, r⟩ := m.at_ i _ _ eM ha (fun q => nomatch q)
        cases r with
        | dK hl r => exact ref rfl (kit_dic I (.inl hl) (.inl ⟨_, rfl⟩)) (Option.some.inj e)
        | dT hl n r => exact ref rfl (kit_dic I (.inl hl) (.inr ⟨_, rfl⟩)) (Option.some.inj e)
      | dca xs =>
        obtain ⟨_, _, r⟩ := m.at_ i _ _ eM ha (fun q => nomatch q)
        cases r with | dca hl r =>
        exact ref rfl (kit_dic I (.inl hl) (.inl ⟨_, rfl⟩)) (Option.some.inj e)
      | _ => cases e
theorem kit_any {K : PySem.W.Frag} {t : String} : ∀ {cs : List String} {b : Bool}, isiAny t cs = some b → PySem.W.kitAny K (.type t) (cs.map Value.type) = some b
  | [], b, e => by cases e; exact kitAny_nil
  | c :: cs, b, e => by
    unfold isiAny at e
    cases h : isiOne t c with
    | none => rw [h] at e; cases e
    | some r =>
      rw [h] at e
      cases r with
      | true => cases e; exact kitAny_cons (kit_ty h) (fun q => nomatch q) (fun _ => rfl)
      | false => exact kitAny_cons (kit_ty h) (fun _ => kit_any e) (fun q => nomatch q)
def isiS (cs : List String) (a : A) (M : Mem) : Res A := bo (isiSem a cs M) M
theorem isi_one (hK : X.K = G.K) (n : String) : CallR X (.builtin "isinstance") (fun xs H Q => ∃ v, xs = [v, .ty n] ∧ rS1 G (isiS [n]) v H Q) := by
  intro pins s σ H xs us Q I r h
  obtain ⟨v, rfl, Φ, F, ρ, M, a, E, m, ra, p⟩ := h
  obtain ⟨b, e, q⟩ := PRG.bo p m
  obtain ⟨u1, u2, rfl, r1, r2⟩ := vals2 r
  cases (show u2 = Value.type n from r2)
  unfold isiSem at e
  cases et : topOf M a with
  | none => rw [et] at e; cases e
  | some t =>
    rw [et] at e
    obtain ⟨P, Z, hp, hx⟩ := kit_D hK I m ra r1 et
    have k : PySem.W.kitOne X.K (.type t) (.type n) = some b := by
      dsimp only at e
      unfold isiAny at e
      cases h : isiOne t n with
      | none => rw [h] at e; cases e
      | some r =>
        rw [h] at e
        cases r with
        | true => cases e; exact kit_ty h
        | false => cases e; exact kit_ty h
    exact PySem.W.kia_one Z I.kIn hp k hx fun tk => ⟨.bl b, H, I.tok tk, rfl, q⟩
theorem vals_ty : ∀ {ns : List String} {its : List Value}, Vals (ns.map V.ty) its → its = ns.map Value.type
  | [], _, r => by cases r; rfl
  | n :: ns, _, r => by
    rw [List.map_cons] at r
    cases r with
    | cons ra rb => rw [List.map_cons, vals_ty rb, show _ = Value.type n from ra]
theorem isi_many (hK : X.K = G.K) (ns : List String) : CallR X (.builtin "isinstance") (fun xs H Q => ∃ v tp, xs = [v, .ref tp] ∧ H tp = some (.tup (ns.map V.ty)) ∧ rS1 G (isiS ns) v H Q) := by
  intro pins s σ H xs us Q I r h
  obtain ⟨v, tp, rfl, hT, Φ, F, ρ, M, a, E, m, ra, p⟩ := h
  obtain ⟨b, e, q⟩ := PRG.bo p m
  obtain ⟨u1, u2, rfl, r1, r2⟩ := vals2 r
  cases (show u2 = Value.ref tp from r2)
  unfold isiSem at e
  cases et : topOf M a with
  | none => rw [et] at e; cases e
  | some t =>
    rw [et] at e
    obtain ⟨P, Z, hp, hx⟩ := kit_D hK I m ra r1 et
    obtain ⟨_, its, rv, o, h1, h2, n, h3⟩ := (show ObjOk X.prog X.w H s.heap tp (.tup (ns.map V.ty)) from I.hok tp _ hT)
    have e3 : its = ns.map Value.type := vals_ty rv
    subst e3
    obtain ⟨oc, od, dt, sl⟩ := o
    simp only at h2 h3
    subst h2 h3
    exact PySem.W.kia_tup Z I.kIn hp h1 (kit_any e) hx fun tk => ⟨.bl b, H, I.tok tk, rfl, q⟩
/-! ### methods -/
def plainBase : Expr → Bool
  | .Call (.Name id _) [] [] _ => !(id == ("super" : Str))
  | _ => true
theorem plainBase_ok {o : Expr} {f : Str} {env : Env} {w : Sem Value} (h : plainBase o = true) : attributeBase o f env w = w := by
  unfold plainBase at h
  unfold attributeBase
  split at h
  · rename_i id p1 p2
    have e : (id != ("super" : Str)) = true := by simpa [bne] using h
    simp [e]
  · split
    · rename_i q
      exact (q _ _ _ rfl).elim
    · rfl
section
variable {fa fb : CE A} {fl : CE (List A)} {o e : Expr} {es : List Expr} {apos pos : Pos}
/-- a method of a built-in, by values -/
def rMt (G : Gd) (b : Bm) (k : Bool) : V → List V → Hp → VK → Prop := fun v vs H Q => ∃ Φ F ρ M a as E, MR G Φ F ρ M H ∧ RepA G F ρ a v ∧ RepAs G F ρ as vs ∧ PRG G Φ F ρ (bmSem b k a as M) (RepA G) Q E
/-- o.m(e, ..) of a built-in type: the receiver's value, then the arguments -/
theorem imp_bm {b : Bm} {k : Bool} {T : String} {σ : St} {H : Hp} {Q : VK} (h : tS G X (fun σ M => (fa σ M).bind fun x M1 => if recv b x M1 = true then (fl σ M1).bind fun xs M2 => bmSem b k x xs M2 else .no) σ H Q)
    (ht : ∀ {Φ F ρ M H a v}, MR G Φ F ρ M H → RepA G F ρ a v → recv b a M = true → tyV X.K T v H) : tBM X.K T (rMt G b k) (tS G X fa) (tL G X fl) σ H Q := by
  obtain ⟨Φ, F, ρ, σA, M, W, m, er, tk, h⟩ := h
  refine ⟨Φ, F, ρ, σA, M, W, m, er, tk, PRG.imp (PRG.seq (R := RepA G) h) (fun x H1 ⟨a, F1, ρ1, M1, e, m1, ra, q⟩ => ?_) fun _ _ _ z => z⟩
  by_cases c : recv b a M1 = true
  · rw [if_pos c] at q
    refine ⟨ht m1 ra c, Φ, F1, ρ1, σA, M1, W, m1, er.mono e, tk, PRG.imp (PRG.seq (R := RepAs G) q) (fun y H2 ⟨b, F2, ρ2, M2, e2, m2, rb, q⟩ => ?_) fun _ _ _ z => z⟩
    exact ⟨Φ, F2, ρ2, M2, a, b, _, m2, ra.mono e2, rb, q⟩
  · rw [if_neg c] at q; exact q.elim
end
theorem strOf_rep {F : Hp} {a : A} {v : V} {z : Str} (ra : RepA G F ρ a v) (e : strOf a = some z) : v = .str z := by
  unfold strOf at e
  split at e
  · cases e; cases ra with | p ra => cases ra; rfl
  · cases e
theorem mt_joinA {k : Bool} (hK : X.K = G.K) : MtR X "str.join" (rMt G .join k) := by
  intro pins s σ H x xs v us Q I rx rv ⟨Φ, F, ρ, M, a, as, E, m, ra, r, p⟩
  unfold bmSem at p
  dsimp only at p
  cases e : strOf a with
  | none => rw [e] at p; exact p.elim
  | some z =>
    rw [e] at p
    obtain rfl := strOf_rep ra e
    match as, r, p with
    | [], _, p => exact p.elim
    | _ :: _ :: _, _, p => exact p.elim
    | [b], r, p =>
    obtain ⟨w, rfl, rb⟩ := reps1 r
    unfold one joinS at p
    dsimp only at p
    split at p
    · rename_i ds ed
      obtain ⟨ad, vs, rfl, h1, r⟩ := lst_of m rb ed
      split at p
      · rename_i ys ey
        obtain rfl := strs_rep r ey
        split at p
        · rename_i c
          exact mt_join pins s σ H _ _ v us Q I rx rv ⟨z, ad, ys, rfl, rfl, .inl (.inl h1), c, p.val m (.str _)⟩
        · exact p.elim
      · exact p.elim
    · exact p.elim
theorem mt_upperA {k : Bool} : MtR X "str.upper" (rMt G .upper k) := by
  intro pins s σ H x xs v us Q I rx rv ⟨Φ, F, ρ, M, a, as, E, m, ra, r, p⟩
  unfold bmSem at p
  dsimp only at p
  split at p
  · rename_i z e
    cases r
    split at p
    · rename_i c
      obtain rfl := strOf_rep ra e
      exact mt_upper pins s σ H _ _ v us Q I rx rv ⟨z, rfl, rfl, c, p.val m (.str _)⟩
    · exact p.elim
  · exact p.elim
end
end Fz

set_option maxHeartbeats 4000000
namespace Fz
open PySem L2
section
variable {G : Gd} {X : Cx}
/-! ### targets -/
def gS (G : Gd) (tg : Tg) : TG := fun v σ H K => ∃ Φ F ρ σA M a, MR G Φ F ρ M H ∧ ER G F ρ σA σ ∧ RepA G F ρ a v ∧ match tgSem tg a σA with
  | some σA' => ∀ σ', ER G F ρ σA' σ' → σ'.length = σ.length → (∀ j, j ∉ tg.slots → σ'[j]? = σ[j]?) → K σ' H
  | none => False
theorem sg_nm {i : Nat} {e : Expr} (h : PG X e (gName i)) : PG X e (gS G (.nm i)) := ⟨fun pins s σ H v u K I r ⟨Φ, F, ρ, σA, M, a, m, er, ra, q⟩ => h.run pins s σ H v u K I r
  (q _ (er.set ra i) (by simp) fun j hj => by
    have : i ≠ j := fun e => hj (by rw [e]; exact List.mem_singleton.mpr rfl)
    rw [List.getElem?_set_ne this])⟩
/-- several names -/
def gNs : List Nat → TGs
  | [] => gNil
  | i :: is => gCons (gName i) (gNs is)
theorem gNs_set : ∀ (is : List Nat) {vs : List V} {as : List A} {F : Hp} {ρ : List Addr} {σA σA' : Env'} {σ : St} {H : Hp} {K : St → Hp → Prop}, RepAs G F ρ as vs → ER G F ρ σA σ → setAll is as σA = some σA' →
    (∀ σ', ER G F ρ σA' σ' → σ'.length = σ.length → (∀ j, j ∉ is → σ'[j]? = σ[j]?) → K σ' H) → gNs is vs σ H K
  | [], _, _, _, _, _, _, _, _, _, .nil, er, e, k => by cases e; exact ⟨rfl, k _ er rfl fun _ _ => rfl⟩
  | [], _, _, _, _, _, _, _, _, _, .cons _ _, er, e, k => by cases e
  | i :: is, _, _, _, _, _, _, _, _, _, .nil, er, e, k => by cases e
  | i :: is, _, _, _, _, _, _, _, _, _, .cons r rs, er, e, k => by
    refine ⟨_, _, rfl, ?_⟩
    refine gNs_set is rs (er.set r i) e fun σ' er' hl hj => k σ' er' (by rw [hl]; simp) fun j hn => ?_
    rw [List.mem_cons, not_or] at hn
    rw [hj j hn.2, List.getElem?_set_ne (Ne.symm hn.1)]
theorem setAll_len : ∀ {is : List Nat} {as : List A} {σ σ' : Env'}, setAll is as σ = some σ' → as.length = is.length
  | [], [], _, _, _ => rfl
  | [], _ :: _, _, _, e => by cases e
  | _ :: _, [], _, _, e => by cases e
  | _ :: is, _ :: as, _, _, e => by
    have := setAll_len (is := is) (as := as) e
    simp [this]
theorem sg_tp {is : List Nat} {es : List Expr} {k : Nat} {pos : Pos} (g : Gx G X) (h : PG X (.Tuple es k pos) (gTup X.K is.length (gNs is))) : PG X (.Tuple es k pos) (gS G (.tp is)) := ⟨fun pins s σ H v u K I r ⟨Φ, F, ρ, σA, M, a, m, er, ra, q⟩ => h.run pins s σ H v u K I r (by
  unfold tgSem at q
  cases ra with
  | c h => exact q.elim
  | t hl rs =>
    dsimp only at q
    cases e : setAll is _ σA with
    | none => rw [e] at q; exact q.elim
    | some σA' =>
      rw [e] at q
      exact ⟨_, _, rfl, .inl (.inl (m.sub _ _ hl)), by rw [← rs.length]; exact setAll_len e, gNs_set is rs er e q⟩
  | p r =>
    cases r with
    | tup hl rs =>
      dsimp only at q
      cases e : setAll is _ σA with
      | none => rw [e] at q; exact q.elim
      | some σA' =>
        rw [e] at q
        have l := setAll_len e
        rw [List.length_map] at l
        exact ⟨_, _, rfl, g.hK ▸ SqT_mono m.sub hl, by rw [← rs.length]; exact l, gNs_set is (RepAs.of_p rs) er e q⟩
    | _ => exact q.elim)⟩
/-! ### what is walked -/
def Yl (G : Gd) (F0 : Hp) (ρ0 : List Addr) (s : Src) (J : It) : Prop := ∀ Φ (i : Nat) H F ρ M, Ext F0 ρ0 F ρ → MR G Φ F ρ M H → match s.at_ M i with
  | none => True
  | some none => J.stop i H
  | some (some a) => J.go i H ∧ ∀ x H', J.yld i H x H' → ∃ F', Same F F' ∧ MR G Φ F' ρ M H' ∧ RepA G F' ρ a x
def tI (G : Gd) (X : Cx) (f : CE Src) : TI := tG G X (Yl G) f
theorem yl_list {F0 : Hp} {ρ0 : List Addr} {a : Addr} {vs : List V} {as : List A} {K : PySem.W.Frag} (h : SqL K F0 a vs) (r : RepAs G F0 ρ0 as vs) : Yl G F0 ρ0 (.fx as) (Itl K a) := by
  intro Φ i H F ρ M e m
  have hH : SqL K H a vs := SqL_mono (e.f.trans m.sub) h
  show match some as[i]? with
    | none => True
    | some none => _
    | some (some _) => _
  cases ei : as[i]? with
  | none => exact ⟨vs, hH, by rw [← r.length]; exact List.getElem?_eq_none_iff.mp ei⟩
  | some b =>
    obtain ⟨v, e1, r1⟩ := r.get ei
    refine ⟨⟨vs, v, hH, e1⟩, fun x H' ⟨eH, hx⟩ => ⟨F, .refl _, by rw [eH]; exact m, ?_⟩⟩
    have := hx vs hH
    rw [e1] at this
    cases this
    exact r1.mono e
theorem yl_tup {F0 : Hp} {ρ0 : List Addr} {a : Addr} {vs : List V} {as : List A} {K : PySem.W.Frag} (h : SqT K F0 a vs) (r : RepAs G F0 ρ0 as vs) : Yl G F0 ρ0 (.fx as) (Itt K a) := by
  intro Φ i H F ρ M e m
  have hH : SqT K H a vs := SqT_mono (e.f.trans m.sub) h
  show match some as[i]? with
    | none => True
    | some none => _
    | some (some _) => _
  cases ei : as[i]? with
  | none => exact ⟨vs, hH, by rw [← r.length]; exact List.getElem?_eq_none_iff.mp ei⟩
  | some b =>
    obtain ⟨v, e1, r1⟩ := r.get ei
    refine ⟨⟨vs, v, hH, e1⟩, fun x H' ⟨eH, hx⟩ => ⟨F, .refl _, by rw [eH]; exact m, ?_⟩⟩
    have := hx vs hH
    rw [e1] at this
    cases this
    exact r1.mono e
theorem yl_str {F0 : Hp} {ρ0 : List Addr} {z : Str} : Yl G F0 ρ0 (.fx ((signs z).map A.p)) (Its z) := by
  intro Φ i H F ρ M e m
  show match some ((signs z).map A.p)[i]? with
    | none => True
    | some none => _
    | some (some _) => _
  have q : ((signs z).map A.p)[i]? = z.cps[i]?.map fun c => A.p (.str ⟨#[c]⟩) := by
    unfold signs
    rw [List.map_map, List.getElem?_map, Array.getElem?_toList]; rfl
  rw [q]
  cases ei : z.cps[i]? with
  | none => exact Array.getElem?_eq_none_iff.mp ei
  | some c =>
    refine ⟨(Array.getElem?_eq_some_iff.mp ei).1, fun x H' ⟨eH, c', hc, hx⟩ => ⟨F, .refl _, by rw [eH]; exact m, ?_⟩⟩
    rw [ei] at hc
    cases hc
    rw [hx]
    exact .p (.str _)
theorem yl_rng {F0 : Hp} {ρ0 : List Addr} {lo : Int} {n : Nat} : Yl G F0 ρ0 (.fx (rngL lo n)) (Itr lo n) := by
  intro Φ i H F ρ M e m
  show match some (rngL lo n)[i]? with
    | none => True
    | some none => _
    | some (some _) => _
  unfold rngL
  rw [List.getElem?_map]
  by_cases hi : i < n
  · rw [List.getElem?_range hi]
    refine ⟨hi, fun x H' ⟨eH, hx⟩ => ⟨F, .refl _, by rw [eH]; exact m, ?_⟩⟩
    rw [hx]
    exact .p (.int _)
  · rw [List.getElem?_eq_none (by simpa using hi)]
    exact Nat.le_of_not_lt hi
theorem yl_cell {F0 : Hp} {ρ0 : List Addr} {c n : Nat} {a : Addr} {K : PySem.W.Frag} (h : ρ0[c]? = some a) : Yl G F0 ρ0 (.ce c n) (Itl K a) := by
  intro Φ i H F ρ M e m
  have ha := e.at_ h
  have key : ∀ {vs : List V} {as : List A} , H a = some (.lst vs) → RepAs G F ρ as vs → match some as[i]? with
    | none => True
    | some none => (Itl K a).stop i H
    | some (some a_1) => (Itl K a).go i H ∧ ∀ x H', (Itl K a).yld i H x H' → ∃ F', Same F F' ∧ MR G Φ F' ρ M H' ∧ RepA G F' ρ a_1 x := by
    intro vs as hl r
    cases ei : as[i]? with
    | none => exact ⟨vs, SqL.of hl, by rw [← r.length]; exact List.getElem?_eq_none_iff.mp ei⟩
    | some b =>
      obtain ⟨v, e1, r1⟩ := r.get ei
      refine ⟨⟨vs, v, SqL.of hl, e1⟩, fun x H' ⟨eH, hx⟩ => ⟨F, .refl _, by rw [eH]; exact m, ?_⟩⟩
      have := hx vs (SqL.of hl)
      rw [e1] at this
      cases this
      exact r1
  unfold Src.at_
  dsimp only
  cases eM : M[c]? with
  | none => trivial
  | some cc =>
    cases cc with
    | lst xs =>
      obtain ⟨_, _, r⟩ := m.at_ c _ _ eM ha (fun q => nomatch q)
      cases r with | lst hl r =>
      dsimp only
      by_cases c : xs.length = n
      · rw [if_pos c, ← List.getElem?_map]; exact key hl (RepAs.of_p r)
      · rw [if_neg c]; trivial
    | lsa xs =>
      obtain ⟨_, _, r⟩ := m.at_ c _ _ eM ha (fun q => nomatch q)
      cases r with | lsa hl r =>
      dsimp only
      by_cases c : xs.length = n
      · rw [if_pos c]; exact key hl r
      · rw [if_neg c]; trivial
    | _ => trivial
/-- any expression whose value is walked -/
def iAny (K : PySem.W.Frag) (te : TE) : TI := fun σ H R => te σ H fun x H1 => (∃ a, x = .ref a ∧ (∃ xs, SqL K H1 a xs) ∧ R (Itl K a) H1) ∨ (∃ a, x = .ref a ∧ (∃ xs, SqT K H1 a xs) ∧ R (Itt K a) H1) ∨ (∃ z, x = .str z ∧ R (Its z) H1)
theorem pi_any {tg e : Expr} {te : TE} (he : PE X e te) : PI X tg e (iAny X.K te) := by
  refine ⟨fun pins s σ H R I h => ?_⟩
  refine thn (he.run pins s σ H _ I h) fun v s1 ⟨x, H1, I1, r1, q1⟩ => ?_
  rcases q1 with ⟨a, e, ⟨xs, hq⟩, q⟩ | ⟨a, e, ⟨xs, hq⟩, q⟩ | ⟨z, e, q⟩
  · subst e
    cases r1
    obtain ⟨its, rv, p, hz⟩ := I1.list hq
    refine PySem.wpAny_pyIter_list p.isList ?_
    refine ⟨s1.heap.objs.size, [s1.heap.objs.size], _, _, H1, rfl, I1.kept (t' := s1.toks) fun b o e => Heap.get?_push_of_some _ e, turn_list a _, ⟨_, Heap.get?_push_size _ rfl, rfl, rfl⟩, fun b hb => ?_, q⟩
    have e : b = s1.heap.objs.size := by simpa using hb
    subst e
    exact I1.fpOk (Nat.le_refl _) (I1.hok.fresh (Nat.le_refl _))
  · subst e
    cases r1
    obtain ⟨its, rv, p, hz⟩ := I1.tuple hq
    refine PySem.wpAny_pyIter_tuple (show s1.heap.IsTuple a its.toArray from p) ?_
    refine ⟨s1.heap.objs.size, [s1.heap.objs.size], _, _, H1, rfl, I1.kept (t' := s1.toks) fun b o e => Heap.get?_push_of_some _ e, turn_tuple a _, ⟨_, Heap.get?_push_size _ rfl, rfl, rfl⟩, fun b hb => ?_, q⟩
    have e : b = s1.heap.objs.size := by simpa using hb
    subst e
    exact I1.fpOk (Nat.le_refl _) (I1.hok.fresh (Nat.le_refl _))
  · subst e
    obtain ⟨t, rfl⟩ := r1
    cases ha : z.cps.all (· < 128)
    · exact PySem.wpAny_pyIter_wide ha (pi_one (tk := s1.toks) I1 _ (turn_str _ z t "str_iterator" (.inr rfl)) ⟨_, Heap.get?_push_size _ rfl, rfl, rfl⟩ q)
    · exact PySem.wpAny_pyIter_ascii ha (pi_one (tk := s1.toks) I1 _ (turn_str _ z t "str_ascii_iterator" (.inl rfl)) ⟨_, Heap.get?_push_size _ rfl, rfl, rfl⟩ q)
theorem si_any (g : Gx G X) {tg e : Expr} {fa : CE A} (he : PE X e (tS G X fa)) : PI X tg e (tI G X fun σ M => (fa σ M).bind itA) := ⟨fun pins s σ H R I ⟨Φ, F, ρ, σA, M, W, m, er, tk, p⟩ => (pi_any he).run pins s σ H R I (by
  refine ⟨Φ, F, ρ, σA, M, W, m, er, tk, PRG.imp (PRG.seq (R := RepA G) p) (fun x H1 ⟨a, F1, ρ1, M1, e, m1, ra, q⟩ => ?_) fun _ _ _ z => z⟩
  rw [g.hK]
  unfold itA at q
  cases ra with
  | t hl rs => exact .inr (.inl ⟨_, rfl, ⟨_, .inl (.inl (m1.sub _ _ hl))⟩, q _ _ _ _ .refl m1 (yl_tup (.inl (.inl hl)) rs)⟩)
  | p r =>
    cases r with
    | lst hl rs => exact .inl ⟨_, rfl, ⟨_, .inl (Rd_mono m1.sub hl)⟩, q _ _ _ _ .refl m1 (yl_list (.inl hl) (RepAs.of_p rs))⟩
    | tup hl rs => exact .inr (.inl ⟨_, rfl, ⟨_, SqT_mono m1.sub hl⟩, q _ _ _ _ .refl m1 (yl_tup hl (RepAs.of_p rs))⟩)
    | str z => exact .inr (.inr ⟨z, rfl, q _ _ _ _ .refl m1 yl_str⟩)
    | _ => exact q.elim
  | @c i ad ha =>
    dsimp only at q
    cases eM : M1[i]? with
    | none => rw [eM] at q; exact q.elim
    | some cc =>
      rw [eM] at q
      cases cc with
      | lst xs =>
        obtain ⟨_, _, r⟩ := m1.at_ i _ _ eM ha (fun q => nomatch q)
        cases r with | lst hl r =>
        exact .inl ⟨_, rfl, ⟨_, SqL.of hl⟩, q _ _ _ _ .refl m1 (yl_cell ha)⟩
      | lsa xs =>
        obtain ⟨_, _, r⟩ := m1.at_ i _ _ eM ha (fun q => nomatch q)
        cases r with | lsa hl r =>
        exact .inl ⟨_, rfl, ⟨_, SqL.of hl⟩, q _ _ _ _ .refl m1 (yl_cell ha)⟩
      | _ => exact q.elim)⟩
theorem si_rng1 {tg a : Expr} {fa : CE A} {p pos : Pos} (hg : Gl X "range") (hm : X.mg "range" = none) (ha : PE X a (tS G X fa)) (hs : notStar a = true) : PI X tg (.Call (.Name "range" p) [a] [] pos) (tI G X fun σ M => (fa σ M).bind rng1S) :=
  ⟨fun pins s σ H R I ⟨Φ, F, ρ, σA, M, W, m, er, tk, h⟩ => (pi_range1 hg hm (pa_cons ha pa_nil (starEach_cons hs)) (starEach_cons hs)).run pins s σ H R I (by
  refine ⟨Φ, F, ρ, σA, M, W, m, er, tk, PRG.imp (PRG.seq (R := RepA G) h) (fun x H1 ⟨a, F1, ρ1, M1, e, m1, ra, q⟩ => ?_) fun _ _ _ z => z⟩
  unfold rng1S at q
  split at q
  · split at q
    · rename_i c
      cases ra with | p ra =>
      cases ra
      exact ⟨_, rfl, c.1, c.2, q _ _ _ _ .refl m1 yl_rng⟩
    · exact q.elim
  · exact q.elim)⟩
theorem si_rng2 {tg a b : Expr} {fa fb : CE A} {p pos : Pos} (hg : Gl X "range") (hm : X.mg "range" = none) (ha : PE X a (tS G X fa)) (hb : PE X b (tS G X fb)) (hs : notStar a = true) (hs2 : notStar b = true) :
    PI X tg (.Call (.Name "range" p) [a, b] [] pos) (tI G X fun σ M => (fa σ M).bind fun x M1 => (fb σ M1).bind fun y M2 => rng2S x y M2) :=
  ⟨fun pins s σ H R I ⟨Φ, F, ρ, σA, M, W, m, er, tk, h⟩ => (pi_range2 hg hm (pa_cons ha (pa_cons hb pa_nil (starEach_cons hs2)) (starEach_cons hs)) ((starEach_cons hs).trans (by rw [starEach_cons hs2]; rfl)) (starEach_cons hs2)).run pins s σ H R I (by
  refine ⟨Φ, F, ρ, σA, M, W, m, er, tk, PRG.imp (PRG.seq (R := RepA G) h) (fun x H1 ⟨a, F1, ρ1, M1, e, m1, ra, q⟩ => ?_) fun _ _ _ z => z⟩
  refine ⟨Φ, F1, ρ1, σA, M1, W, m1, er.mono e, tk, PRG.imp (PRG.seq (R := RepA G) q) (fun y H2 ⟨b, F2, ρ2, M2, e2, m2, rb, q⟩ => ?_) fun _ _ _ z => z⟩
  unfold rng2S at q
  split at q
  · split at q
    · rename_i c
      have ra2 := ra.mono e2
      cases ra2 with | p ra2 =>
      cases ra2
      cases rb with | p rb =>
      cases rb
      exact ⟨_, _, rfl, c, q _ _ _ _ .refl m2 yl_rng⟩
    · exact q.elim
  · exact q.elim)⟩
end
end Fz

set_option maxHeartbeats 4000000
namespace Fz
open PySem L2
section
variable {G : Gd} {X : Cx}
/-- a part from which nothing may be raised -/
def tG0 {α β : Type} (G : Gd) (R : Hp → List Addr → α → β → Prop) (f : CE α) : St → Hp → (β → Hp → Prop) → Prop := fun σ H Q =>
  ∃ Φ F ρ σA M, MR G Φ F ρ M H ∧ ER G F ρ σA σ ∧ PRG G Φ F ρ (noEx (f σA M)) R Q (fun _ _ _ => False)
theorem PRG.noEx {α β : Type} {Φ F : Hp} {ρ : List Addr} {r : Res α} {R : Hp → List Addr → α → β → Prop} {Q : β → Hp → Prop} {E E' : XK} (h : PRG G Φ F ρ (noEx r) R Q E) : PRG G Φ F ρ r R Q E' := by
  cases r with
  | ok a M => exact h
  | ex c fs M => exact h.elim
  | no => exact h
theorem tG0.to {α β : Type} {R : Hp → List Addr → α → β → Prop} {f : CE α} {σ : St} {H : Hp} {Q : β → Hp → Prop} (h : tG0 G R f σ H Q) : tG G X R f σ H Q := by
  obtain ⟨Φ, F, ρ, σA, M, m, er, p⟩ := h
  exact ⟨Φ, F, ρ, σA, M, fun _ _ _ _ => False, m, er, takes0, p.noEx⟩
theorem wipe_len (σ : Env') (vs : List Nat) : (wipeE σ vs).length = σ.length := by
  induction vs with
  | nil => rfl
  | cons v vs ih => show ((wipeE σ vs).set v none).length = _; rw [List.length_set, ih]
theorem ER.wipe {F : Hp} {ρ : List Addr} {σA : Env'} {σ : St} (er : ER G F ρ σA σ) : ∀ vs : List Nat, ER G F ρ (wipeE σA vs) (wipe σ vs)
  | [] => er
  | v :: vs => (er.wipe vs).drop_ v
theorem wipe_get {σ : St} : ∀ {vs : List Nat} {j : Nat}, j ∉ vs → (wipe σ vs)[j]? = σ[j]?
  | [], _, _ => rfl
  | v :: vs, j, h => by
    rw [List.mem_cons, not_or] at h
    show ((wipe σ vs).set v none)[j]? = _
    rw [List.getElem?_set_ne (Ne.symm h.1), wipe_get h.2]
theorem wipe_in {σ : St} : ∀ {vs : List Nat} {j : Nat}, j ∈ vs → j < σ.length → (wipe σ vs)[j]? = some none
  | v :: vs, j, h, hl => by
    show ((wipe σ vs).set v none)[j]? = _
    by_cases e : v = j
    · subst e; rw [List.getElem?_set_self (by rw [wipe_length]; exact hl)]
    · rw [List.getElem?_set_ne e]
      rcases List.mem_cons.mp h with h | h
      · exact absurd h.symm e
      · exact wipe_in h hl
theorem wipe_eq {σ σ' : St} {vs : List Nat} (hl : σ'.length = σ.length) (h : ∀ j, j ∉ vs → σ'[j]? = σ[j]?) : wipe σ' vs = wipe σ vs := by
  apply List.ext_getElem?
  intro j
  by_cases hj : j ∈ vs
  · by_cases l : j < σ.length
    · rw [wipe_in hj l, wipe_in hj (by rw [hl]; exact l)]
    · rw [List.getElem?_eq_none (by rw [wipe_length]; omega), List.getElem?_eq_none (by rw [wipe_length]; omega)]
  · rw [wipe_get hj, wipe_get hj, h j hj]
/-- what comes of a list that stands at D -/
theorem PRG.doneL {Φ F : Hp} {ρ : List Addr} {M : Mem} {H : Hp} {Q : VK} {E : XK} {k : Bool} {xs : List A} {vs : List V} {D : Addr} (h : PRG G Φ F ρ (Fz.newL k xs M) (RepA G) Q E) (m : MR G (upd Φ D (.lst vs)) F ρ M H) (hD : Φ D = none) (r : RepAs G F ρ xs vs) : Q (.ref D) H := by
  have hH : H D = some (.lst vs) := m.fr _ _ upd_same
  unfold Fz.newL at h
  cases k with
  | true =>
    have look : (ρ ++ [D])[M.length]? = some D := by rw [← m.len, List.getElem?_append_right (Nat.le_refl _), Nat.sub_self]; rfl
    cases e : asP xs with
    | some ds =>
      rw [e] at h
      exact h _ _ _ _ Ext.grow (m.adoptC hD (fun _ q => nomatch q) (.lst hH (asP_rep r e))) (.c look)
    | none =>
      rw [e] at h
      exact h _ _ _ _ Ext.grow (m.adoptC hD (fun _ q => nomatch q) (.lsa hH (r.mono Ext.grow))) (.c look)
  | false =>
    cases e : asP xs with
    | some ds =>
      rw [e] at h
      obtain ⟨m', fD⟩ := m.adoptF hD (fun _ q => nomatch q) (fun _ q => nomatch q)
      exact h _ _ _ _ (Ext.new fD) m' (.p (.lst (.inl upd_same) ((asP_rep r e).mono (same_upd fD))))
    | none => rw [e] at h; exact h.elim
theorem noEx_ne {α : Type} {r : Res α} {c fs M} : noEx r ≠ .ex c fs M := by
  intro h
  cases r <;> cases h
theorem noEx_ok {α : Type} {r : Res α} {a : α} {M : Mem} (h : noEx r = .ok a M) : r = .ok a M := by
  cases r with
  | ok a M => exact h
  | ex c fs M => cases h
  | no => cases h
theorem imp_comp {vs : List Nat} {t : Tg} {fi : CE Src} {ft : CE Bool} {fe : CE A} {k : Bool} {σ : St} {H : Hp} {Q : VK} (hv : ∀ j ∈ t.slots, j ∈ vs)
    (h : tS G X (fun σ M => (fi σ M).bind fun s M1 => (itL s (compT t vs σ ft fe) s.len 0 ([] : List A) M1).bind fun acc M5 => newL k acc M5) σ H Q) :
    tLc (tI G X fi) (gS G t) (tG0 G (fun _ _ a b => a = b) ft) (tG0 G (RepA G) fe) vs σ H Q := by
  obtain ⟨Φ, F, ρ, σA, M, W, m, er, tk, p⟩ := h
  refine ⟨Φ, F, ρ, σA, M, W, m, er, tk, PRG.imp (PRG.seq (R := Yl G) p) (fun J H1 ⟨s, F1, ρ1, M1, e, m1, yl, q⟩ => ?_) fun _ _ _ z => z⟩
  intro D hD
  have hΦ := m1.freeΦ hD
  have hF := m1.freeF hD
  have er1 := er.mono e
  -- the frame with the list that grows
  have m2 : MR G (upd Φ D (.lst [])) F1 ρ1 M1 (upd H1 D (.lst [])) := m1.newP hD (fun _ q => nomatch q)
  refine ⟨fun i n H => ∃ F2 ρ2 M2 accA acc, MR G (upd Φ D (.lst acc)) F2 ρ2 M2 H ∧ Ext F1 ρ1 F2 ρ2 ∧ RepAs G F2 ρ2 accA acc ∧ PRG G Φ F2 ρ2 ((itL s (compT t vs σA ft fe) n i accA M2).bind fun acc M5 => newL k acc M5) (RepA G) Q (fun c d H' => W c d σ H'),
    ⟨s.len, F1, ρ1, M1, [], [], m2, .refl, .nil, q⟩, ?_⟩
  rintro i n H2 ⟨F2, ρ2, M2, accA, acc, m3, e2, ra, q2⟩
  have y := yl _ i H2 F2 ρ2 M2 e2 m3
  unfold itL at q2
  cases ei : s.at_ M2 i with
  | none => rw [ei] at q2; cases n <;> exact q2.elim
  | some o =>
    rw [ei] at y q2
    cases o with
    | none =>
      refine .inl ⟨y, ?_⟩
      have q3 : PRG G Φ F2 ρ2 (newL k accA M2) (RepA G) Q (fun c d H' => W c d σ H') := by cases n <;> exact q2
      exact q3.doneL m3 hΦ ra
    | some a =>
      cases n with
      | zero => exact q2.elim
      | succ n =>
        refine .inr ⟨y.1, _, fun H' h => ⟨n, Nat.lt_succ_self n, h⟩, fun x H3 hy => ?_⟩
        obtain ⟨F3, sF, m4, rx⟩ := y.2 x H3 hy
        have e3 : Ext F2 ρ2 F3 ρ2 := ⟨sF, [], by simp⟩
        refine ⟨_, F3, ρ2, _, M2, a, m4, (ER.wipe ((er1.mono e2).mono e3) vs), rx, ?_⟩
        dsimp only at q2
        unfold compT at q2
        cases et : tgSem t a (wipeE σA vs) with
        | none => rw [et] at q2; exact q2.elim
        | some σ2A =>
          rw [et] at q2
          dsimp only at q2 ⊢
          intro σ2 er2 hl2 hj2
          refine ⟨?_, ?_⟩
          · have h1 : wipe σ2 vs = wipe (wipe σ vs) vs := wipe_eq hl2 fun j hj => hj2 j fun h => hj (hv j h)
            rw [h1]
            exact wipe_eq (wipe_length _ _) fun j hj => wipe_get hj
          · refine ⟨_, F3, ρ2, σ2A, M2, m4, er2, ?_⟩
            cases eo : noEx (ft σ2A M2) with
            | no => rw [eo] at q2; exact q2.elim
            | ex c fs M3 => exact absurd eo noEx_ne
            | ok b M3 =>
              rw [eo] at q2
              intro F4 ρ4 b' H4 e4 m5 rb
              subst rb
              cases b with
              | false => exact ⟨F4, ρ4, M3, accA, acc, m5, (e2.trans e3).trans e4, (ra.mono e3).mono e4, q2.base (e3.trans e4)⟩
              | true =>
                refine ⟨_, F4, ρ4, σ2A, M3, m5, er2.mono e4, ?_⟩
                simp only [Res.bind_ok, if_true] at q2
                cases ey : noEx (fe σ2A M3) with
                | no => rw [ey] at q2; exact q2.elim
                | ex c fs M3 => exact absurd ey noEx_ne
                | ok z M4 =>
                  rw [ey] at q2
                  simp only [Res.bind_ok] at q2
                  intro F5 ρ5 v H5 e5 m6 rv
                  have len := ra.length
                  by_cases lt : accA.length < sizeLine
                  · rw [if_pos lt] at q2
                    have e35 : Ext F2 ρ2 F5 ρ5 := (e3.trans e4).trans e5
                    refine ⟨acc, m6.fr _ _ upd_same, by rw [← len]; exact lt, F5, ρ5, M4, accA ++ [z], acc ++ [v], m6.frw (fun _ q => nomatch q) (fun _ q => nomatch q), e2.trans e35, (ra.mono e35).append (.cons rv .nil), q2.base e35⟩
                  · rw [if_neg lt] at q2; exact q2.elim
theorem se_comp {elt tg iter : Expr} {ifs : List Expr} {scope : Scope} {own : List (Str × Nat)} {pos : Pos} {t : Tg} {fi : CE Src} {ft : CE Bool} {fe : CE A} {k : Bool} (g : Gx G X) (hi : PI X tg iter (tI G X fi)) (ok : BlkOk X.N X.env.scope scope own)
    (hg : ∀ (s : Shared) (H : Hp) (C : Addr) (cl : List (Str × Addr)) (fp : List Addr), PG (X.blk s H scope (compEnvC scope cl C X.env) fp) tg (gS G t))
    (ht : ∀ (s : Shared) (H : Hp) (C : Addr) (cl : List (Str × Addr)) (fp : List Addr), PTs (X.blk s H scope (compEnvC scope cl C X.env) fp) ifs (tG0 G (fun _ _ a b => a = b) ft))
    (he : ∀ (s : Shared) (H : Hp) (C : Addr) (cl : List (Str × Addr)) (fp : List Addr), PE (X.blk s H scope (compEnvC scope cl C X.env) fp) elt (tG0 G (RepA G) fe))
    (hs : ∀ x, foldedSetIterable iter X.env x = pure x) (hv : ∀ j ∈ t.slots, j ∈ own.map (·.2)) :
    PE X (.ListComp elt [⟨tg, iter, ifs, 0⟩] scope pos) (tS G X fun σ M => (fi σ M).bind fun s M1 => (itL s (compT t (own.map (·.2)) σ ft fe) s.len 0 ([] : List A) M1).bind fun acc M5 => newL k acc M5) :=
  (pe_lc g.calm g.nd hi ok hg ht he hs).imp fun σ H Q h => imp_comp hv h
end
end Fz

set_option maxHeartbeats 4000000
namespace Fz
open PySem L2
section
variable {G : Gd} {X : Cx} {pos : Pos} {Φ F : Hp} {ρ : List Addr} {M : Mem} {H : Hp}
/-! ### x[::-1] -/
theorem se_rev (g : Gx G X) {m : Bool} {e : Expr} {fa : CE A} {k : Nat} {p1 p2 p3 : Pos} (he : PE X e (tS G X fa)) : PE X (.Subscript e (.Slice none none (some (.UnaryOp .USub (.Constant (.int 1) k p1) p2)) p3) pos) (tS G X fun σ M => (fa σ M).bind fun x M1 => revSem m x M1) :=
  (pe_rev he).imp fun σ H Q h => by
  refine tG.imp (seq1 h) fun x H1 ⟨Φ, F, ρ, M, a, E, mr, ra, p⟩ => ?_
  unfold revSem at p
  dsimp only at p
  split at p
  · rename_i z e
    obtain rfl := (vw_rep mr ra e).str
    split at p
    · rename_i hz
      exact .inl ⟨z, rfl, hz, p.val mr (.str _)⟩
    · exact p.elim
  · rename_i xs e
    obtain ⟨b, vs, rfl, h1, r⟩ := (vw_rep mr ra e).lst_ mr.sub
    exact .inr (.inl ⟨b, vs, rfl, .inl h1, fun q hq => p.newL mr (RepAs.of_p r.reverse) hq⟩)
  · rename_i xs e
    obtain ⟨b, vs, rfl, h1, h2, r⟩ := (vw_rep mr ra e).tup mr.sub
    exact .inr (.inr ⟨b, vs, rfl, g.hK ▸ h1, fun q hq => p.newTD mr r.reverse hq⟩)
  · exact p.elim
/-! ### {k: v, ..} -/
theorem keyD_rep {F : Hp} {d : D} {k : Key} {v : V} (r : RepD G F d v) (e : keyD d = some k) : v = kV k := by
  unfold keyD at e
  split at e
  · cases e; cases r; rfl
  · cases e; cases r; rfl
  · cases e
theorem any_put {F : Hp} {k : D} {kk : Key} (hk : keyD k = some kk) : ∀ {ds : List (D × D)} {vs : List (Key × V)}, RepK G F ds vs → (ds.any fun kv => decide (keyD kv.1 = keyD k)) = vs.any fun kv => decide (kv.1 = kk)
  | _, _, .nil => rfl
  | _, _, .cons e r t => by
    rw [List.any_cons, List.any_cons, any_put hk t, e, hk]
    congr 1
    simp
theorem map_put {F : Hp} {k e : D} {kk : Key} {v : V} (hk : keyD k = some kk) (re : RepD G F e v) : ∀ {ds : List (D × D)} {vs : List (Key × V)}, RepK G F ds vs → RepK G F (ds.map fun kv => if keyD kv.1 = keyD k then (kv.1, e) else kv) (vs.map fun kv => if kv.1 = kk then (kv.1, v) else kv)
  | _, _, .nil => .nil
  | _, _, @RepK.cons _ _ d e' k' v' ds vs h r t => by
    rw [List.map_cons, List.map_cons]
    by_cases c : k' = kk
    · have c1 : keyD d = keyD k := by rw [h, hk, c]
      rw [if_pos c1, if_pos c]
      exact .cons h re (map_put hk re t)
    · have c1 : ¬ keyD d = keyD k := by rw [h, hk]; exact fun q => c (Option.some.inj q)
      rw [if_neg c1, if_neg c]
      exact .cons h r (map_put hk re t)
theorem RepK.append {F : Hp} : ∀ {ds es : List (D × D)} {vs us : List (Key × V)}, RepK G F ds vs → RepK G F es us → RepK G F (ds ++ es) (vs ++ us)
  | _, _, _, _, .nil, s => s
  | _, _, _, _, .cons h r t, s => .cons h r (t.append s)
theorem RepK.put {F : Hp} {k e : D} {kk : Key} {v : V} {ds : List (D × D)} {vs : List (Key × V)} (hk : keyD k = some kk) (re : RepD G F e v) (r : RepK G F ds vs) : RepK G F (putD ds k e) (putK vs kk v) := by
  unfold putD putK
  rw [any_put hk r]
  split
  · exact map_put hk re r
  · exact r.append (.cons hk re .nil)
theorem RepK.merge {F : Hp} : ∀ {es : List (D × D)} {us : List (Key × V)} {ds : List (D × D)} {vs : List (Key × V)}, RepK G F es us → RepK G F ds vs → RepK G F (es.foldl (fun acc p => putD acc p.1 p.2) ds) (mergeK vs us)
  | [], [], _, _, _, r => r
  | (_, _) :: es, (_, _) :: us, _, _, .cons h re t, r => RepK.merge (es := es) (us := us) t (r.put h re)
/-- the pairs of a display -/
inductive RepPs (G : Gd) (F : Hp) (ρ : List Addr) : List (A × A) → List (V × V) → Prop
  | nil : RepPs G F ρ [] []
  | cons {a b x y as vs} : RepA G F ρ a x → RepA G F ρ b y → RepPs G F ρ as vs → RepPs G F ρ ((a, b) :: as) ((x, y) :: vs)
theorem pairs_rep {F : Hp} {ρ : List Addr} : ∀ {as : List (A × A)} {vs : List (V × V)} {ds : List (D × D)}, RepPs G F ρ as vs → pairsD as = some ds → ∃ kvs : List (Key × V), vs = kvs.map (fun kv => (kV kv.1, kv.2)) ∧ RepK G F ds kvs
  | _, _, _, .nil, e => by cases e; exact ⟨[], rfl, .nil⟩
  | _, _, ds, @RepPs.cons _ _ _ a b x y as vs ra rb t, e => by
    cases ra with
    | c => cases b <;> cases e
    | t => cases b <;> cases e
    | @p k _ rk =>
      cases rb with
      | c => cases e
      | t => cases e
      | @p d _ rd =>
        unfold pairsD at e
        split at e
        · rename_i hk
          obtain ⟨ds', e1, rfl⟩ := Option.map_eq_some_iff.mp e
          obtain ⟨kvs, rfl, r⟩ := pairs_rep t e1
          obtain ⟨kk, ek⟩ := Option.isSome_iff_exists.mp hk
          exact ⟨(kk, y) :: kvs, by rw [List.map_cons, ← keyD_rep rk ek], .cons ek rd r⟩
        · cases e
def trsOf (G : Gd) (r : Run) : Es → List (TE × TE)
  | .cons k (.cons v es) => (tG0 G (RepA G) (evalE r k), tG0 G (RepA G) (evalE r v)) :: trsOf G r es
  | _ => []
theorem evalPs_noEx {r : Run} : ∀ (es : Es) {σ : Env'} {M M' : Mem} {c : Nat} {fs : List (Str × D)}, evalPs r es σ M ≠ .ex c fs M'
  | .nil, _, _, _, _, _, h => by cases h
  | .cons _ .nil, _, _, _, _, _, h => by cases h
  | .cons k (.cons v es), σ, M, M', c, fs, h => by
    unfold evalPs at h
    cases e1 : evalE r k σ M with
    | ok a M1 =>
      rw [e1] at h
      cases e2 : evalE r v σ M1 with
      | ok b M2 =>
        simp only [noEx, Res.bind_ok, e2] at h
        cases e3 : evalPs r es σ M2 with
        | ok ps M3 => rw [e3] at h; cases h
        | ex c' fs' M3 => exact evalPs_noEx es e3
        | no => rw [e3] at h; cases h
      | ex => simp [noEx, e2] at h
      | no => simp [noEx, e2] at h
    | ex => rw [e1] at h; cases h
    | no => rw [e1] at h; cases h
theorem tp_of {r : Run} : ∀ (es : Es) {σA : Env'} {σ : L2.St} {F : Hp} {ρ : List Addr} {M : Mem} {H : Hp} {Q : List (V × V) → Hp → Prop}, MR G Φ F ρ M H → ER G F ρ σA σ → PRG G Φ F ρ (evalPs r es σA M) (RepPs G) Q (fun _ _ _ => False) → tPairs (trsOf G r es) σ H Q
  | .nil, _, _, _, _, _, _, _, m, er, p => p _ _ _ _ .refl m .nil
  | .cons _ .nil, _, _, _, _, _, _, _, m, er, p => p.elim
  | .cons k (.cons v es), σA, σ, F, ρ, M, H, Q, m, er, p => by
    unfold evalPs at p
    refine ⟨Φ, F, ρ, σA, M, m, er, PRG.imp (PRG.seq (R := RepA G) p) (fun x H1 ⟨a, F1, ρ1, M1, e1, m1, ra, q⟩ => ?_) fun _ _ _ z => z⟩
    have er1 := er.mono e1
    refine ⟨Φ, F1, ρ1, σA, M1, m1, er1, PRG.imp (PRG.seq (R := RepA G) q) (fun y H2 ⟨b, F2, ρ2, M2, e2, m2, rb, q⟩ => ?_) fun _ _ _ z => z⟩
    refine tp_of es m2 (er1.mono e2) (PRG.imp (PRG.seq (R := RepPs G) q) (fun ps H3 ⟨as, F3, ρ3, M3, e3, m3, rp, q⟩ => ?_) fun _ _ _ z => z)
    exact q _ _ _ _ .refl m3 (.cons ((ra.mono e2).mono e3) (rb.mono e3) rp)
theorem PRG.newD {m : Bool} {kvs : List (D × D)} {vs : List (Key × V)} {Q : VK} {E : XK} {p : Addr} {o : HO} (h : PRG G Φ F ρ (newD m kvs M) (RepA G) Q E) (mr : MR G (upd Φ p o) F ρ M H) (no : ∀ xs, o ≠ .tup xs) (nw : ∀ x, o ≠ .own x) (hΦ : Φ p = none) (r : RepK G F kvs vs) : Q (.ref p) (upd H p (.dK vs)) := by
  have m2 : MR G (upd Φ p (.dK vs)) F ρ M (upd H p (.dK vs)) := mr.frw no nw
  unfold Fz.newD at h
  cases m with
  | true =>
    have m3 := m2.adoptC (c := .dic kvs) hΦ (fun _ q => nomatch q) (.dK upd_same r)
    exact h _ _ _ _ Ext.grow m3 (.c (by rw [← mr.len, List.getElem?_append_right (Nat.le_refl _), Nat.sub_self]; rfl))
  | false =>
    obtain ⟨m3, hF⟩ := m2.adoptF hΦ (fun _ q => nomatch q) (fun _ q => nomatch q)
    exact h _ _ _ _ (Ext.new hF) m3 (.p (.dK (.inl upd_same) (r.mono (same_upd hF))))
/-- {k: v, ..} -/
theorem imp_dct {r : Run} {m : Bool} {es : Es} {σ : L2.St} {H : Hp} {Q : VK} (h : tS G X (fun σ M => (evalPs r es σ M).bind fun ps M1 => dctSem m ps M1) σ H Q) : tDisp (trsOf G r es) σ H Q := by
  obtain ⟨Φ, F, ρ, σA, M, W, mr, er, tk, p⟩ := h
  intro a ha
  have hΦ := mr.freeΦ ha
  have m2 : MR G (upd Φ a (.dK [])) F ρ M (upd H a (.dK [])) := mr.newP ha (fun _ q => nomatch q)
  refine tp_of es m2 er ?_
  dsimp only at p
  cases e : evalPs r es σA M with
  | no => rw [e] at p; exact p
  | ex c fs M' => exact absurd e (evalPs_noEx es)
  | ok as M1 =>
    rw [e] at p
    intro F1 ρ1 ps H1 e1 m3 rp
    simp only [Res.bind_ok] at p
    refine ⟨m3.fr _ _ upd_same, ?_⟩
    unfold dctSem at p
    cases ed : pairsD as with
    | none => rw [ed] at p; exact p.elim
    | some ds =>
      rw [ed] at p
      dsimp only at p
      split at p
      · rename_i hl
        obtain ⟨kvs, rfl, rk⟩ := pairs_rep rp ed
        have len : ∀ {ds : List (D × D)} {kvs : List (Key × V)}, RepK G F1 ds kvs → ds.length = kvs.length := by
          intro ds
          induction ds with
          | nil => intro kvs r; cases r; rfl
          | cons d ds ih => intro kvs r; cases r with | cons _ _ t => simp [ih t]
        exact ⟨kvs, rfl, by rw [← len rk]; exact hl, (p.base e1).newD m3 (fun _ q => nomatch q) (fun _ q => nomatch q) hΦ (RepK.merge rk .nil)⟩
      · exact p.elim
theorem imp_dct0 {r : Run} {m : Bool} {σ : L2.St} {H : Hp} {Q : VK} (h : tS G X (fun σ M => (evalPs r .nil σ M).bind fun ps M1 => dctSem m ps M1) σ H Q) : tDNewK σ H Q := by
  have := imp_dct h
  intro p hp
  obtain ⟨_, kvs, ek, _, q⟩ := this p hp
  have : kvs = [] := by cases kvs with
    | nil => rfl
    | cons => cases ek
  subst this
  have e : upd (upd H p (.dK [])) p (.dK (mergeK [] [])) = upd H p (.dK []) := by
    funext b
    by_cases c : b = p
    · subst c; rw [upd_same, upd_same]; rfl
    · rw [upd_ne c]
  rw [← e]; exact q
end
end Fz

set_option maxHeartbeats 4000000
namespace Fz
open PySem L2
def PRS (G : Gd) (Φ F : Hp) (ρ : List Addr) (x : SR) (D : Ends) (W : WX) : Prop := match x with
  | .nx σA M' => ∀ F' ρ' σ' H', Ext F ρ F' ρ' → MR G Φ F' ρ' M' H' → ER G F' ρ' σA σ' → D.nx σ' H'
  | .bk σA M' => ∀ F' ρ' σ' H', Ext F ρ F' ρ' → MR G Φ F' ρ' M' H' → ER G F' ρ' σA σ' → D.bk σ' H'
  | .ct σA M' => ∀ F' ρ' σ' H', Ext F ρ F' ρ' → MR G Φ F' ρ' M' H' → ER G F' ρ' σA σ' → D.ct σ' H'
  | .ret a M' => ∀ F' ρ' v H', Ext F ρ F' ρ' → MR G Φ F' ρ' M' H' → RepA G F' ρ' a v → D.rt v H'
  | .ex c fs σA M' => ∀ F' ρ' σ' d H', Ext F ρ F' ρ' → MR G Φ F' ρ' M' H' → ER G F' ρ' σA σ' → XD G F' d fs → W (.ref (G.cls c)) d σ' H'
  | .no => False
section
variable {G : Gd} {X : Cx} {Φ F F' : Hp} {ρ ρ' : List Addr}
theorem PRS.base {x : SR} {D : Ends} {W : WX} (h : PRS G Φ F ρ x D W) (e : Ext F ρ F' ρ') : PRS G Φ F' ρ' x D W := by
  cases x with
  | nx σA M' => exact fun F2 ρ2 b H2 e2 m rr => h F2 ρ2 b H2 (e.trans e2) m rr
  | bk σA M' => exact fun F2 ρ2 b H2 e2 m rr => h F2 ρ2 b H2 (e.trans e2) m rr
  | ct σA M' => exact fun F2 ρ2 b H2 e2 m rr => h F2 ρ2 b H2 (e.trans e2) m rr
  | ret a M' => exact fun F2 ρ2 b H2 e2 m rr => h F2 ρ2 b H2 (e.trans e2) m rr
  | ex c fs σA M' => exact fun F2 ρ2 b d H2 e2 m rr => h F2 ρ2 b d H2 (e.trans e2) m rr
  | no => exact h
def tSS (G : Gd) (X : Cx) (f : Env' → Mem → SR) : TS := fun D σ H => ∃ Φ F ρ σA M W, MR G Φ F ρ M H ∧ ER G F ρ σA σ ∧ Takes X W ∧ PRS G Φ F ρ (f σA M) D W
/-- an expression's part of a statement -/
theorem PRS.st {α β : Type} {r : Res α} {f : α → Mem → SR} {R : Hp → List Addr → α → β → Prop} {σA : Env'} {σ : St} {D : Ends} {W : WX} (h : PRS G Φ F ρ (r.st σA f) D W) (er : ER G F ρ σA σ) :
    PRG G Φ F ρ r R (fun b H1 => ∃ a F1 ρ1 M1, Ext F ρ F1 ρ1 ∧ MR G Φ F1 ρ1 M1 H1 ∧ R F1 ρ1 a b ∧ PRS G Φ F1 ρ1 (f a M1) D W) (fun c d H' => W c d σ H') := by
  cases r with
  | ok a M' => exact fun F2 ρ2 b H2 e m rr => ⟨a, F2, ρ2, M', e, m, rr, PRS.base h e⟩
  | ex c fs M' => exact fun F2 ρ2 d H2 e m rr => h F2 ρ2 σ d H2 e m (er.mono e) rr
  | no => exact h
variable {st : Stmt} {sts : List Stmt} {e : Expr} {pos : Pos} {fa : CE A}
theorem sss_nil : PSs X [] (tSS G X fun σ M => .nx σ M) := pss_nil.imp fun D σ H ⟨Φ, F, ρ, σA, M, W, m, er, tk, p⟩ => p _ _ _ _ .refl m er
theorem sss_cons {f : Env' → Mem → SR} {g : Env' → Mem → SR} (h1 : PS X st (tSS G X f)) (h2 : PSs X sts (tSS G X g)) : PSs X (st :: sts) (tSS G X fun σ M => (f σ M).seq g) :=
  (pss_cons h1 h2).imp fun D σ H ⟨Φ, F, ρ, σA, M, W, m, er, tk, p⟩ => by
  refine ⟨Φ, F, ρ, σA, M, W, m, er, tk, ?_⟩
  dsimp only at p
  cases e : f σA M with
  | nx σ1 M1 =>
    rw [e] at p
    exact fun F2 ρ2 σ2 H2 e2 m2 er2 => ⟨Φ, F2, ρ2, σ1, M1, W, m2, er2, tk, PRS.base p e2⟩
  | bk σ1 M1 => rw [e] at p; exact p
  | ct σ1 M1 => rw [e] at p; exact p
  | ret a M1 => rw [e] at p; exact p
  | ex c fs σ1 M1 => rw [e] at p; exact p
  | no => rw [e] at p; exact p
theorem ss_pass : PS X (.Pass pos) (tSS G X fun σ M => .nx σ M) := ps_pass.imp fun D σ H ⟨Φ, F, ρ, σA, M, W, m, er, tk, p⟩ => p _ _ _ _ .refl m er
theorem ss_cont : PS X (.Continue pos) (tSS G X fun σ M => .ct σ M) := ps_continue.imp fun D σ H ⟨Φ, F, ρ, σA, M, W, m, er, tk, p⟩ => p _ _ _ _ .refl m er
theorem ss_retN : PS X (.Return none pos) (tSS G X fun _ M => .ret (.p .non) M) := ps_retN.imp fun D σ H ⟨Φ, F, ρ, σA, M, W, m, er, tk, p⟩ => p _ _ _ _ .refl m (.p .non)
theorem ss_ret (ha : PE X e (tS G X fa)) : PS X (.Return (some e) pos) (tSS G X fun σ M => (fa σ M).st σ fun a M1 => .ret a M1) := (ps_ret ha).imp fun D σ H ⟨Φ, F, ρ, σA, M, W, m, er, tk, p⟩ => by
  refine ⟨Φ, F, ρ, σA, M, W, m, er, tk, PRG.imp (PRS.st (R := RepA G) p er) (fun x H1 ⟨a, F1, ρ1, M1, e, m1, ra, q⟩ => ?_) fun _ _ _ z => z⟩
  exact q _ _ _ _ .refl m1 ra
theorem ss_ex (ha : PE X e (tS G X fa)) (hs : swapsWith e none pos.line X.env = pure false) : PS X (.Expr e pos) (tSS G X fun σ M => (fa σ M).st σ fun _ M1 => .nx σ M1) := (ps_expr ha hs).imp fun D σ H ⟨Φ, F, ρ, σA, M, W, m, er, tk, p⟩ => by
  refine ⟨Φ, F, ρ, σA, M, W, m, er, tk, PRG.imp (PRS.st (R := RepA G) p er) (fun x H1 ⟨a, F1, ρ1, M1, e, m1, ra, q⟩ => ?_) fun _ _ _ z => z⟩
  exact q _ _ _ _ .refl m1 (er.mono e)
theorem ss_ifs {c : Expr} {a b : List Stmt} {tc : CE Bool} {ga gb : Env' → Mem → SR} (hc : PT X c (tT G X tc)) (ha : PSs X a (tSS G X ga)) (hb : PSs X b (tSS G X gb)) : PS X (.If c a b pos) (tSS G X fun σ M => (tc σ M).st σ fun k M1 => if k = true then ga σ M1 else gb σ M1) :=
  (ps_if hc ha hb).imp fun D σ H ⟨Φ, F, ρ, σA, M, W, m, er, tk, p⟩ => by
  refine ⟨Φ, F, ρ, σA, M, W, m, er, tk, PRG.imp (PRS.st (R := fun _ _ a b => a = b) p er) (fun x H1 ⟨a, F1, ρ1, M1, e, m1, ra, q⟩ => ?_) fun _ _ _ z => z⟩
  subst ra
  cases a with
  | true => exact ⟨Φ, F1, ρ1, σA, M1, W, m1, er.mono e, tk, q⟩
  | false => exact ⟨Φ, F1, ρ1, σA, M1, W, m1, er.mono e, tk, q⟩
/-- target = value -/
theorem ss_asg {tg : Expr} {t : Tg} (ha : PE X e (tS G X fa)) (hg : PG X tg (gS G t)) (hs : swapsWithSole [tg] e pos.line X.env = pure false) (hw : swappedStores [tg] e X.env = pure none) (h1 : (assignEach [tg] X.env).map (·.2) = [assign tg X.env]) :
    PS X (.Assign [tg] e pos) (tSS G X fun σ M => (fa σ M).st σ fun a M1 => match tgSem t a σ with
      | some σ' => .nx σ' M1
      | none => .no) := (ps_asg ha hg hs hw h1).imp fun D σ H ⟨Φ, F, ρ, σA, M, W, m, er, tk, p⟩ => by
  refine ⟨Φ, F, ρ, σA, M, W, m, er, tk, PRG.imp (PRS.st (R := RepA G) p er) (fun x H1 ⟨a, F1, ρ1, M1, e, m1, ra, q⟩ => ?_) fun _ _ _ z => z⟩
  refine ⟨Φ, F1, ρ1, σA, M1, a, m1, er.mono e, ra, ?_⟩
  cases et : tgSem t a σA with
  | none => rw [et] at q; exact q
  | some σ' =>
    rw [et] at q
    exact fun σ2 er2 _ _ => q _ _ _ _ .refl m1 er2
/-- name = value, whatever the value's form (a comprehension on one line too, by its own rule) -/
theorem ss_name {tg : Expr} {i : Nat} (h : PS X (.Assign [tg] e pos) (tAsg (tS G X fa) (gName i))) : PS X (.Assign [tg] e pos) (tSS G X fun σ M => (fa σ M).st σ fun a M1 => match tgSem (.nm i) a σ with
      | some σ' => .nx σ' M1
      | none => .no) := h.imp fun D σ H ⟨Φ, F, ρ, σA, M, W, m, er, tk, p⟩ => by
  refine ⟨Φ, F, ρ, σA, M, W, m, er, tk, PRG.imp (PRS.st (R := RepA G) p er) (fun x H1 ⟨a, F1, ρ1, M1, e, m1, ra, q⟩ => ?_) fun _ _ _ z => z⟩
  exact q _ _ _ _ .refl m1 ((er.mono e).set ra i)
theorem setAll2 {i j : Nat} {as : List A} {σA σ' : Env'} {σ : St} {vs : List V} {F : Hp} {ρ : List Addr} (h : setAll [i, j] as σA = some σ') (er : ER G F ρ σA σ) (r : RepAs G F ρ as vs) : ∃ v w, vs = [v, w] ∧ ER G F ρ σ' ((σ.set i (some v)).set j (some w)) := by
  match as, h, r with
  | [a, b], h, r =>
    obtain ⟨v, w, rfl, ra, rb⟩ := reps2 r
    cases h
    exact ⟨v, w, rfl, (er.set ra i).set rb j⟩
/-- a, b = x, y -/
theorem ss_par2 {i j : Nat} {tg : Expr} {fl : CE (List A)} {es : Expr} (h : ∃ ta, PS X (.Assign [tg] es pos) (tPar i j ta) ∧ ta = tL G X fl) : PS X (.Assign [tg] es pos) (tSS G X fun σ M => (fl σ M).st σ fun as M1 => match setAll [i, j] as σ with
      | some σ' => .nx σ' M1
      | none => .no) := by
  obtain ⟨ta, h, rfl⟩ := h
  refine h.imp fun D σ H ⟨Φ, F, ρ, σA, M, W, m, er, tk, p⟩ => ?_
  refine ⟨Φ, F, ρ, σA, M, W, m, er, tk, PRG.imp (PRS.st (R := RepAs G) p er) (fun x H1 ⟨a, F1, ρ1, M1, e, m1, ra, q⟩ => ?_) fun _ _ _ z => z⟩
  cases es : setAll [i, j] a σA with
  | none => rw [es] at q; exact q.elim
  | some σ' =>
    rw [es] at q
    obtain ⟨v, w, rfl, er2⟩ := setAll2 es (er.mono e) ra
    exact ⟨v, w, rfl, q _ _ _ _ .refl m1 er2⟩
theorem reps3 {F : Hp} {ρ : List Addr} {a b c : A} {xs : List V} (r : RepAs G F ρ [a, b, c] xs) : ∃ u v w, xs = [u, v, w] ∧ RepA G F ρ a u ∧ RepA G F ρ b v ∧ RepA G F ρ c w := by
  cases r with | cons a b => cases b with | cons b c => cases c with | cons c d => cases d; exact ⟨_, _, _, rfl, a, b, c⟩
theorem setAll3 {i j l : Nat} {as : List A} {σA σ' : Env'} {σ : St} {vs : List V} {F : Hp} {ρ : List Addr} (h : setAll [i, j, l] as σA = some σ') (er : ER G F ρ σA σ) (r : RepAs G F ρ as vs) : ∃ u v w, vs = [u, v, w] ∧ ER G F ρ σ' (((σ.set i (some u)).set j (some v)).set l (some w)) := by
  match as, h, r with
  | [a, b, c], h, r =>
    obtain ⟨u, v, w, rfl, ra, rb, rc⟩ := reps3 r
    cases h
    exact ⟨u, v, w, rfl, ((er.set ra i).set rb j).set rc l⟩
theorem ss_par3 {i j l : Nat} {tg : Expr} {fl : CE (List A)} {es : Expr} (h : ∃ ta, PS X (.Assign [tg] es pos) (tPar3 i j l ta) ∧ ta = tL G X fl) : PS X (.Assign [tg] es pos) (tSS G X fun σ M => (fl σ M).st σ fun as M1 => match setAll [i, j, l] as σ with
      | some σ' => .nx σ' M1
      | none => .no) := by
  obtain ⟨ta, h, rfl⟩ := h
  refine h.imp fun D σ H ⟨Φ, F, ρ, σA, M, W, m, er, tk, p⟩ => ?_
  refine ⟨Φ, F, ρ, σA, M, W, m, er, tk, PRG.imp (PRS.st (R := RepAs G) p er) (fun x H1 ⟨a, F1, ρ1, M1, e, m1, ra, q⟩ => ?_) fun _ _ _ z => z⟩
  cases es : setAll [i, j, l] a σA with
  | none => rw [es] at q; exact q.elim
  | some σ' =>
    rw [es] at q
    obtain ⟨u, v, w, rfl, er2⟩ := setAll3 es (er.mono e) ra
    exact ⟨u, v, w, rfl, q _ _ _ _ .refl m1 er2⟩
/-! ### stores -/
theorem set_setS (hK : X.K = G.K) : PSet X (fun o i v H Q => ∃ Φ F ρ M a b c M', MR G Φ F ρ M H ∧ RepA G F ρ a o ∧ RepA G F ρ b i ∧ RepA G F ρ c v ∧ setSem a b c M = some M' ∧ ∀ H', MR G Φ F ρ M' H' → Q H') := by
  intro pins s σ H o i v ov iv u Q I ro ri rv ⟨Φ, F, ρ, M, a, b, c, M', m, ra, rb, rc, e, q⟩
  unfold setSem at e
  split at e
  · rename_i j k
    cases eM : M[j]? with
    | none => rw [eM] at e; cases e
    | some cc =>
      rw [eM] at e
      cases cc with
      | lst xs =>
        dsimp only at e
        cases ek : ixN xs.length k with
        | none => rw [ek] at e; cases e
        | some n =>
          rw [ek] at e
          cases c with
          | p d =>
            cases e
            cases ra with | c ha =>
            cases rb with | p rb =>
            cases rb
            cases rc with | p rd =>
            obtain ⟨_, _, r⟩ := m.at_ j _ _ eM ha (fun q => nomatch q)
            cases r with | lst hl r =>
            exact set_list pins s σ H _ _ v ov iv u Q I ro ri rv ⟨_, _, k, n, rfl, rfl, hl, by rw [← r.length]; exact ek, q _ (m.write eM ha (fun q => nomatch q) (.lst upd_same (r.set rd n)))⟩
          | _ => cases e
      | _ => cases e
  · cases e
/-- o[i] = v -/
theorem ss_setI {o i v : Expr} {fo fi fv : CE A} {p' : Pos} (g : Gx G X) (ho : PE X o (tS G X fo)) (hi : PE X i (tS G X fi)) (hv : PE X v (tS G X fv))
    (h : ∀ (tv to ti : TE) (t : TSet), PE X v tv → PE X o to → PE X i ti → PSet X t → PS X (.Assign [.Subscript o i p'] v pos) (tAsg tv (gSub to ti t))) :
    PS X (.Assign [.Subscript o i p'] v pos) (tSS G X fun σ M => (fv σ M).st σ fun z M1 => (fo σ M1).st σ fun x M2 => (fi σ M2).st σ fun y M3 => onx (setSem x y z M3) σ) :=
  (h _ _ _ _ hv ho hi (set_setS g.hK)).imp fun D σ H ⟨Φ, F, ρ, σA, M, W, m, er, tk, p⟩ => by
  refine ⟨Φ, F, ρ, σA, M, W, m, er, tk, PRG.imp (PRS.st (R := RepA G) p er) (fun x H1 ⟨a, F1, ρ1, M1, e1, m1, ra, q⟩ => ?_) fun _ _ _ z => z⟩
  have er1 := er.mono e1
  refine ⟨Φ, F1, ρ1, σA, M1, W, m1, er1, tk, PRG.imp (PRS.st (R := RepA G) q er1) (fun y H2 ⟨b, F2, ρ2, M2, e2, m2, rb, q⟩ => ?_) fun _ _ _ z => z⟩
  have er2 := er1.mono e2
  refine ⟨Φ, F2, ρ2, σA, M2, W, m2, er2, tk, PRG.imp (PRS.st (R := RepA G) q er2) (fun z H3 ⟨c, F3, ρ3, M3, e3, m3, rc, q⟩ => ?_) fun _ _ _ z => z⟩
  have er3 := er2.mono e3
  cases es : setSem b c a M3 with
  | none => rw [es] at q; exact q.elim
  | some M4 =>
    rw [es] at q
    exact ⟨Φ, F3, ρ3, M3, b, c, a, M4, m3, rb.mono e3, rc, (ra.mono e2).mono e3, es, fun H4 m4 => q _ _ _ _ .refl m4 er3⟩
/-- o.append(e) -/
theorem mt_app (hK : X.K = G.K) : MtR X "list.append" (fun o vs H Q => ∃ Φ F ρ M a b M', MR G Φ F ρ M H ∧ RepA G F ρ a o ∧ RepAs G F ρ [b] vs ∧ appSem a b M = some M' ∧ ∀ H', MR G Φ F ρ M' H' → Q .non H') := by
  intro pins s σ H o vs v us Q I ro rv ⟨Φ, F, ρ, M, a, b, M', m, ra, rb0, e, q⟩
  obtain ⟨y, rfl, rb⟩ := reps1 rb0
  clear rb0
  have go : ∀ {j : Nat} {ad : Addr} {xs : List V} {cc c' : C}, o = .ref ad → ρ[j]? = some ad → M[j]? = some cc → cc ≠ .dead → H ad = some (.lst xs) → xs.length < sizeLine → CRep G Φ F ρ (upd H ad (.lst (xs ++ [y]))) ad c' → M' = M.set j c' →
      wpAny (model X.prog X.w) X.A (call (.builtin "list.append") (v :: us)) (EP X pins σ Q) X.xe s := by
    rintro j ad xs cc c' rfl ha eM nd hl hz hc rfl
    exact mt_append pins s σ H _ _ v us Q I ro rv ⟨ad, xs, y, rfl, rfl, hl, hz, q _ (m.write eM ha nd hc)⟩
  unfold appSem at e
  cases ra with
  | p r => cases e
  | t h r => cases b <;> cases e
  | @c j ad ha =>
    cases eM : M[j]? with
    | none => cases b <;> (dsimp only at e; rw [eM] at e; cases e)
    | some cc =>
      have at_ := fun nd => m.at_ j _ _ eM ha nd
      cases cc with
      | lst xs =>
        obtain ⟨_, _, r⟩ := at_ (fun q => nomatch q)
        cases r with | lst hl r =>
        have hlen := r.length
        by_cases lt : xs.length < sizeLine
        · have lt' := lt
          rw [hlen] at lt'
          cases b with
          | p d =>
            dsimp only at e; rw [eM] at e; dsimp only at e; rw [if_pos lt] at e; cases e
            cases rb with | p rd =>
            exact go rfl ha eM (fun q => nomatch q) hl lt' (.lst upd_same (r.append (.cons rd .nil))) rfl
          | c i =>
            dsimp only at e; rw [eM] at e; dsimp only at e; rw [if_pos lt] at e; cases e
            exact go rfl ha eM (fun q => nomatch q) hl lt' (.lsa upd_same ((RepAs.of_p r).append (.cons rb .nil))) rfl
          | t i =>
            dsimp only at e; rw [eM] at e; dsimp only at e; rw [if_pos lt] at e; cases e
            exact go rfl ha eM (fun q => nomatch q) hl lt' (.lsa upd_same ((RepAs.of_p r).append (.cons rb .nil))) rfl
        · cases b <;> (dsimp only at e; rw [eM] at e; dsimp only at e; rw [if_neg lt] at e; cases e)
      | lsa xs =>
        obtain ⟨_, _, r⟩ := at_ (fun q => nomatch q)
        cases r with | lsa hl r =>
        have hlen := r.length
        by_cases lt : xs.length < sizeLine
        · have lt' := lt
          rw [hlen] at lt'
          cases b <;> (dsimp only at e; rw [eM] at e; dsimp only at e; rw [if_pos lt] at e; cases e; exact go rfl ha eM (fun q => nomatch q) hl lt' (.lsa upd_same (r.append (.cons rb .nil))) rfl)
        · cases b <;> (dsimp only at e; rw [eM] at e; dsimp only at e; rw [if_neg lt] at e; cases e)
      | _ => cases b <;> (dsimp only at e; rw [eM] at e; cases e)
end
end Fz

set_option maxHeartbeats 4000000
namespace Fz
open PySem L2
section
variable {G : Gd} {X : Cx} {pos : Pos}
theorem ss_whl {c : Expr} {body : List Stmt} {tc : CE Bool} {gb : Env' → Mem → SR} (fu : Nat) (hp : PassesOwn (model X.prog X.w) X.A X.env X.xe) (hc : PT X c (tT G X tc)) (hb : PSs X body (tSS G X gb)) :
    PS X (.While c body [] pos) (tSS G X fun σ M => whL tc gb fu σ M) := (ps_while hp hc hb).imp fun D σ H ⟨Φ, F, ρ, σA, M, W, m, er, tk, p⟩ => by
  refine ⟨fun n σ H => ∃ F ρ σA M, MR G Φ F ρ M H ∧ ER G F ρ σA σ ∧ PRS G Φ F ρ (whL tc gb n σA M) D W, ⟨fu, F, ρ, σA, M, m, er, p⟩, ?_⟩
  rintro n σ1 H1 ⟨F1, ρ1, σA1, M1, m1, er1, p1⟩
  cases n with
  | zero => exact p1.elim
  | succ n =>
    unfold whL at p1
    refine ⟨Φ, F1, ρ1, σA1, M1, W, m1, er1, tk, PRG.imp (PRS.st (R := fun _ _ a b => a = b) p1 er1) (fun b H2 ⟨a, F2, ρ2, M2, e2, m2, rb, q⟩ => ?_) fun _ _ _ z => z⟩
    subst rb
    have er2 := er1.mono e2
    cases a with
    | false => exact q _ _ _ _ .refl m2 er2
    | true =>
      simp only [if_true] at q
      refine ⟨_, fun σ' H' h => ⟨n, Nat.lt_succ_self n, h⟩, Φ, F2, ρ2, σA1, M2, W, m2, er2, tk, ?_⟩
      cases eb : gb σA1 M2 with
      | nx σ' M' => rw [eb] at q; exact fun F3 ρ3 σ3 H3 e3 m3 er3 => ⟨F3, ρ3, σ', M', m3, er3, q.base e3⟩
      | ct σ' M' => rw [eb] at q; exact fun F3 ρ3 σ3 H3 e3 m3 er3 => ⟨F3, ρ3, σ', M', m3, er3, q.base e3⟩
      | bk σ' M' => rw [eb] at q; exact q
      | ret a M' => rw [eb] at q; exact q
      | ex c fs σ' M' => rw [eb] at q; exact q
      | no => rw [eb] at q; exact q
theorem ss_for {tg iter : Expr} {body : List Stmt} {t : Tg} {fi : CE Src} {gb : Env' → Mem → SR} (g : Gx G X) (hp : PassesOwn (model X.prog X.w) X.A X.env X.xe) (hi : PI X tg iter (tI G X fi)) (hg : PG X tg (gS G t)) (hb : PSs X body (tSS G X gb))
    (hs : ∀ x, foldedSetIterable iter X.env x = pure x) : PS X (.For tg iter body [] pos) (tSS G X fun σ M => (fi σ M).st σ fun s M1 => forL s t gb s.len 0 σ M1) := (ps_for hp g.calm hi hg hb hs).imp fun D σ H ⟨Φ, F, ρ, σA, M, W, m, er, tk, p⟩ => by
  refine ⟨Φ, F, ρ, σA, M, W, m, er, tk, PRG.imp (PRS.st (R := Yl G) p er) (fun J H1 ⟨s, F1, ρ1, M1, e1, m1, yl, q⟩ => ?_) fun _ _ _ z => z⟩
  refine ⟨fun i n σ H => ∃ F2 ρ2 σA2 M2, MR G Φ F2 ρ2 M2 H ∧ Ext F1 ρ1 F2 ρ2 ∧ ER G F2 ρ2 σA2 σ ∧ PRS G Φ F2 ρ2 (forL s t gb n i σA2 M2) D W, ⟨s.len, F1, ρ1, σA, M1, m1, .refl, er.mono e1, q⟩, ?_⟩
  rintro i n σ2 H2 ⟨F2, ρ2, σA2, M2, m2, e2, er2, q2⟩
  have y := yl Φ i H2 F2 ρ2 M2 e2 m2
  unfold forL at q2
  cases ei : s.at_ M2 i with
  | none => rw [ei] at q2; cases n <;> exact q2.elim
  | some o =>
    rw [ei] at y q2
    cases o with
    | none =>
      refine .inl ⟨y, ?_⟩
      have q3 : PRS G Φ F2 ρ2 (.nx σA2 M2) D W := by cases n <;> exact q2
      exact q3 _ _ _ _ .refl m2 er2
    | some a =>
      cases n with
      | zero => exact q2.elim
      | succ n =>
        refine .inr ⟨y.1, _, fun σ' H' h => ⟨n, Nat.lt_succ_self n, h⟩, fun x H3 hy => ?_⟩
        obtain ⟨F3, sF, m4, rx⟩ := y.2 x H3 hy
        have e3 : Ext F2 ρ2 F3 ρ2 := ⟨sF, [], by simp⟩
        refine ⟨Φ, F3, ρ2, _, M2, a, m4, er2.mono e3, rx, ?_⟩
        dsimp only at q2
        cases et : tgSem t a σA2 with
        | none => rw [et] at q2; exact q2.elim
        | some σA3 =>
          rw [et] at q2
          dsimp only at q2 ⊢
          intro σ3 er3 _ _
          refine ⟨Φ, F3, ρ2, σA3, M2, W, m4, er3, tk, ?_⟩
          cases eb : gb σA3 M2 with
          | nx σ' M' => rw [eb] at q2; exact fun F4 ρ4 σ4 H4 e4 m4 er4 => ⟨F4, ρ4, σ', M', m4, (e2.trans e3).trans e4, er4, q2.base (e3.trans e4)⟩
          | ct σ' M' => rw [eb] at q2; exact fun F4 ρ4 σ4 H4 e4 m4 er4 => ⟨F4, ρ4, σ', M', m4, (e2.trans e3).trans e4, er4, q2.base (e3.trans e4)⟩
          | bk σ' M' => rw [eb] at q2; exact q2.base e3
          | ret a M' => rw [eb] at q2; exact q2.base e3
          | ex c fs σ' M' => rw [eb] at q2; exact q2.base e3
          | no => rw [eb] at q2; exact q2
theorem isLC_ty (hK : X.K = G.K) {Φ F : Hp} {ρ : List Addr} {M : Mem} {H : Hp} {a : A} {v : V} (m : MR G Φ F ρ M H) (ra : RepA G F ρ a v) (h : isLC a M = true) : tyV X.K "list" v H := by
  unfold isLC topOf at h
  cases ra with
  | t hl r => cases h
  | p r =>
    cases r with
    | lst hl r => exact .inl ⟨rfl, _, .inl (Rd_mono m.sub hl)⟩
    | _ => cases h
  | @c i ad ha =>
    dsimp only at h
    cases eM : M[i]? with
    | none => rw [eM] at h; cases h
    | some cc =>
      rw [eM] at h
      cases cc with
      | lst xs =>
        obtain ⟨_, _, r⟩ := m.at_ i _ _ eM ha (fun q => nomatch q)
        cases r with | lst hl r =>
        exact .inl ⟨rfl, _, SqL.of hl⟩
      | lsa xs =>
        obtain ⟨_, _, r⟩ := m.at_ i _ _ eM ha (fun q => nomatch q)
        cases r with | lsa hl r =>
        exact .inl ⟨rfl, _, SqL.of hl⟩
      | _ => cases h
/-- o.append(e) as a statement -/
theorem ss_app {o e : Expr} {apos cpos : Pos} {fo fe : CE A} (g : Gx G X) (ho : PE X o (tS G X fo)) (he : PE X e (tS G X fe)) (hpb : plainBase o = true) (hns : notStar e = true) (hline : (apos.endLine == cpos.line) = true) :
    PS X (.Expr (.Call (.Attribute o "append" apos) [e] [] cpos) pos) (tSS G X fun σ M => (fo σ M).st σ fun x M1 => if isLC x M1 = true then (fe σ M1).st σ fun v M2 => onx (appSem x v M2) σ else .no) := by
  have h := ps_expr (X := X) (pos := pos) (pe_bm (X := X) (apos := apos) (cpos := cpos) PySem.F.plainAttrs_list PySem.F.slot_list_append PySem.F.type_list_append (mt_app g.hK) ho (pa_cons he pa_nil (starEach_cons hns)) (plainBase_ok hpb)
    (by rw [starEach_cons hns]; rfl) hline (starEach_cons hns) rfl) rfl
  refine h.imp fun D σ H ⟨Φ, F, ρ, σA, M, W, m, er, tk, p⟩ => ?_
  refine ⟨Φ, F, ρ, σA, M, W, m, er, tk, PRG.imp (PRS.st (R := RepA G) p er) (fun x H1 ⟨a, F1, ρ1, M1, e1, m1, ra, q⟩ => ?_) fun _ _ _ z => z⟩
  have er1 := er.mono e1
  by_cases c : isLC a M1 = true
  · rw [if_pos c] at q
    refine ⟨isLC_ty g.hK m1 ra c, Φ, F1, ρ1, σA, M1, W, m1, er1, tk, PRG.imp (PRS.st (R := RepA G) q er1) (fun y H2 ⟨b, F2, ρ2, M2, e2, m2, rb, q⟩ => ?_) fun _ _ _ z => z⟩
    cases es : appSem a b M2 with
    | none => rw [es] at q; exact q.elim
    | some M3 =>
      rw [es] at q
      exact ⟨Φ, F2, ρ2, M2, a, b, M3, m2, ra.mono e2, .cons rb .nil, es, fun H' m' => q _ _ _ _ .refl m' (er1.mono e2)⟩
  · rw [if_neg c] at q; exact q.elim
end
end Fz

set_option maxHeartbeats 4000000
namespace Fz
open PySem L2
section
variable {G : Gd} {Φ F F' : Hp} {ρ ρ' : List Addr} {M M' : Mem} {H H' : Hp}
def pick (ρ : List Addr) : List Nat → List Addr
  | [] => []
  | i :: is => ρ.getD i 0 :: pick ρ is
theorem pick_len (ρ : List Addr) : ∀ cs, (pick ρ cs).length = cs.length
  | [] => rfl
  | _ :: is => by simp [pick, pick_len ρ is]
theorem pick_get : ∀ {cs : List Nat} {k : Nat} {a : Addr}, (pick ρ cs)[k]? = some a → (∀ i ∈ cs, i < ρ.length) → ∃ i, cs[k]? = some i ∧ ρ[i]? = some a
  | [], _, _, h, _ => by simp [pick] at h
  | i :: is, 0, a, h, hl => by
    have hi := hl i List.mem_cons_self
    simp [pick, List.getElem?_eq_getElem hi] at h
    exact ⟨i, rfl, by rw [List.getElem?_eq_getElem hi, h]⟩
  | i :: is, k + 1, a, h, hl => by
    obtain ⟨j, h1, h2⟩ := pick_get (cs := is) (k := k) (by simpa [pick] using h) fun j hj => hl j (List.mem_cons_of_mem _ hj)
    exact ⟨j, by simpa using h1, h2⟩
theorem pick_at : ∀ {cs : List Nat} {k i : Nat} {a : Addr}, cs[k]? = some i → ρ[i]? = some a → (pick ρ cs)[k]? = some a
  | i :: is, 0, _, a, h, e => by
    simp at h; subst h
    simp [pick, e]
  | i :: is, k + 1, j, a, h, e => by
    simp [pick]
    exact pick_at (by simpa using h) e
theorem gets_all : ∀ {cs : List Nat} {cc : List C}, getsM M cs = some cc → cc.length = cs.length ∧ ∀ (k : Nat) (i : Nat) (c : C), cs[k]? = some i → cc[k]? = some c → M[i]? = some c ∧ closedC c = true
  | [], _, e => by cases e; exact ⟨rfl, fun k i c h => by simp at h⟩
  | i :: is, cc, e => by
    unfold getsM at e
    cases e1 : M[i]? with
    | none => rw [e1] at e; cases e
    | some c =>
      cases e2 : getsM M is with
      | none => rw [e1, e2] at e; cases e
      | some cs' =>
        rw [e1, e2] at e
        dsimp only at e
        by_cases cl : closedC c = true
        · rw [if_pos cl] at e
          cases e
          obtain ⟨hl, ih⟩ := gets_all e2
          refine ⟨by simp [hl], fun k j c' h1 h2 => ?_⟩
          cases k with
          | zero => simp at h1 h2; subst h1; subst h2; exact ⟨e1, cl⟩
          | succ k => exact ih k j c' (by simpa using h1) (by simpa using h2)
        · rw [if_neg cl] at e; cases e
theorem gets_lt {cs : List Nat} {cc : List C} (e : getsM M cs = some cc) : ∀ i ∈ cs, i < M.length := fun i hi => by
  obtain ⟨hl, h⟩ := gets_all e
  obtain ⟨k, hk, rfl⟩ := List.getElem_of_mem hi
  have hk' : k < cc.length := by rw [hl]; exact hk
  exact (List.getElem?_eq_some_iff.mp (h k _ _ (List.getElem?_eq_getElem hk) (List.getElem?_eq_getElem hk')).1).1
theorem nodupB_ok : ∀ {is : List Nat}, nodupB is = true → is.Nodup
  | [], _ => List.nodup_nil
  | i :: is, h => by
    unfold nodupB at h
    rw [Bool.and_eq_true] at h
    refine List.nodup_cons.mpr ⟨fun hm => ?_, nodupB_ok h.2⟩
    have : is.contains i = true := by simpa using hm
    rw [this] at h
    cases h.1
theorem puts_len : ∀ (cs : List Nat) (cc : List C) (M : Mem), (putsM M cs cc).length = M.length
  | [], _, _ => by unfold putsM; rfl
  | _ :: _, [], _ => by unfold putsM; rfl
  | i :: is, c :: cs, M => by unfold putsM; rw [puts_len]; simp
theorem puts_out : ∀ {cs : List Nat} {cc : List C} {M : Mem} {j : Nat}, j ∉ cs → (putsM M cs cc)[j]? = M[j]?
  | [], _, _, _, _ => by unfold putsM; rfl
  | _ :: _, [], _, _, _ => by unfold putsM; rfl
  | i :: is, c :: cs, M, j, h => by
    rw [List.mem_cons, not_or] at h
    unfold putsM
    rw [puts_out h.2, List.getElem?_set_ne (Ne.symm h.1)]
theorem puts_in : ∀ {cs : List Nat} {cc : List C} {M : Mem} {k j : Nat}, cs.Nodup → cs[k]? = some j → cc.length = cs.length → j < M.length → (putsM M cs cc)[j]? = cc[k]?
  | i :: is, c :: cs, M, 0, j, nd, h, hl, hj => by
    simp at h; subst h
    unfold putsM
    rw [puts_out (List.nodup_cons.mp nd).1, List.getElem?_set_self hj]; rfl
  | i :: is, c :: cs, M, k + 1, j, nd, h, hl, hj => by
    unfold putsM
    rw [puts_in (List.nodup_cons.mp nd).2 (by simpa using h) (by simpa using hl) (by simpa using hj)]; simp
  | [], [], M, k, j, nd, h, hl, hj => by simp at h
/-- the frame of a callee that is handed the cells at ρc alone -/
def frameOf (Φ F H : Hp) (ρc : List Addr) : Hp := fun a => if a ∈ ρc ∨ (F a).isSome = true then Φ a else H a
theorem frame_out {ρc : List Addr} {a : Addr} {o : HO} (h1 : a ∉ ρc) (h2 : F a = none) (h : H a = some o) : frameOf Φ F H ρc a = some o := by
  unfold frameOf
  rw [if_neg (by rw [h2]; rintro (q | q); exact h1 q; cases q)]; exact h
theorem frame_same {ρc : List Addr} (m : MR G Φ F ρ M H) : Same Φ (frameOf Φ F H ρc) := fun a o h => by
  unfold frameOf
  split
  · exact h
  · exact m.fr _ _ h
theorem closed_rep {a : Addr} {c : C} {Φ' : Hp} {ρ2 : List Addr} (r : CRep G Φ F ρ H a c) (hc : closedC c = true) : CRep G Φ' F ρ2 H a c := by
  cases r with
  | lst h r => exact .lst h r
  | dK h r => exact .dK h r
  | dT h n r => exact .dT h n r
  | _ => cases hc
theorem pick_nodup (hρ : ρ.Nodup) : ∀ {cs : List Nat}, cs.Nodup → (∀ i ∈ cs, i < ρ.length) → (pick ρ cs).Nodup
  | [], _, _ => List.nodup_nil
  | i :: is, nd, hl => by
    obtain ⟨n1, n2⟩ := List.nodup_cons.mp nd
    refine List.nodup_cons.mpr ⟨fun hm => ?_, pick_nodup hρ n2 fun j hj => hl j (List.mem_cons_of_mem _ hj)⟩
    obtain ⟨k, hk, e⟩ := List.getElem_of_mem hm
    obtain ⟨j, h1, h2⟩ := pick_get (List.getElem?_eq_getElem hk) fun j hj => hl j (List.mem_cons_of_mem _ hj)
    have hi := hl i List.mem_cons_self
    have ei : ρ[i]? = some (ρ.getD i 0) := by simp [List.getElem?_eq_getElem hi]
    rw [e] at h2
    have := nodup_at hρ h2 ei
    subst this
    exact n1 (List.mem_of_getElem? h1)
theorem MR.loc (m : MR G Φ F ρ M H) {cs : List Nat} {cc : List C} (e : getsM M cs = some cc) (nd : cs.Nodup) : MR G (frameOf Φ F H (pick ρ cs)) F (pick ρ cs) cc H := by
  have hlt : ∀ i ∈ cs, i < ρ.length := fun i hi => by rw [m.len]; exact gets_lt e i hi
  obtain ⟨hl, hall⟩ := gets_all e
  have mem : ∀ a ∈ pick ρ cs, ∃ i, ρ[i]? = some a := fun a ha => by
    obtain ⟨k, hk, rfl⟩ := List.getElem_of_mem ha
    obtain ⟨i, _, h⟩ := pick_get (List.getElem?_eq_getElem hk) hlt
    exact ⟨i, h⟩
  have memρ : ∀ a ∈ pick ρ cs, a ∈ ρ := fun a ha => by obtain ⟨i, h⟩ := mem a ha; exact List.mem_of_getElem? h
  refine ⟨fun a o h => ?_, m.sub, fun a o h n => ?_, by rw [pick_len, hl], pick_nodup m.nd nd hlt, fun a ha => m.al a (memρ a ha), fun a ha => ?_, fun k c a h1 h2 n => ?_⟩
  · unfold frameOf at h
    split at h
    · exact m.fr _ _ h
    · exact h
  · unfold frameOf at h
    split at h
    · exact m.dj _ _ h n
    · rename_i q
      cases hF : F a with
      | none => rfl
      | some x => exact absurd (.inr (by rw [hF]; rfl)) q
  · unfold frameOf
    rw [if_pos (.inl ha)]
    exact m.fd a (memρ a ha)
  · obtain ⟨i, h3, h4⟩ := pick_get h2 hlt
    obtain ⟨h5, h6⟩ := hall k i c h3 h1
    obtain ⟨k1, k2, r⟩ := m.at_ i c a h5 h4 n
    refine ⟨?_, k2, closed_rep r h6⟩
    unfold frameOf
    rw [if_pos (.inl (List.mem_of_getElem? h2))]; exact k1
theorem relab_rep : ∀ {as : List A} {vs : List V} {zs : List Addr} {k : Nat}, as.all closedA = true → RepAs G F ρ as vs → (∀ t i a, (cellsOf as)[t]? = some i → ρ[i]? = some a → zs[k + t]? = some a) → RepAs G F zs (relabA as k) vs
  | [], _, _, _, _, .nil, _ => .nil
  | .p d :: as, _, _, k, hc, .cons (.p r) rs, h => by
    rw [List.all_cons, Bool.and_eq_true] at hc
    exact .cons (.p r) (relab_rep hc.2 rs h)
  | .c i :: as, _, zs, k, hc, .cons (.c ha) rs, h => by
    rw [List.all_cons, Bool.and_eq_true] at hc
    refine .cons (.c (h 0 i _ rfl ha)) (relab_rep hc.2 rs fun t j a h1 h2 => ?_)
    have := h (t + 1) j a h1 h2
    rw [show k + 1 + t = k + (t + 1) by omega]; exact this
  | .t xs :: as, _, _, k, hc, .cons _ rs, h => by
    rw [List.all_cons, Bool.and_eq_true] at hc
    cases hc.1
theorem quiet_rep {a : Addr} {c : C} {Φ' : Hp} {ρ2 : List Addr} (r : CRep G Φ F ρ H a c) (hc : quietC c = true) : CRep G Φ' F ρ2 H a c := by
  cases r with
  | lst h r => exact .lst h r
  | dK h r => exact .dK h r
  | dT h n r => exact .dT h n r
  | dead => exact .dead
  | _ => cases hc
/-- back in the caller -/
theorem MR.back (m : MR G Φ F ρ M H) {cs : List Nat} {cc : List C} (e : getsM M cs = some cc) (nd : cs.Nodup) {M' : Mem} (x : Ext F (pick ρ cs) F' ρ') (m' : MR G (frameOf Φ F H (pick ρ cs)) F' ρ' M' H') (hq : (M'.take cs.length).all quietC = true) :
    MR G Φ F' ρ (putsM M cs (M'.take cs.length)) H' ∧ ∀ a ∈ ρ, (∃ k : Nat, k < cs.length ∧ ρ'[k]? = some a) ∨ (F' a).isSome = true ∨ frameOf Φ F H (pick ρ cs) a ≠ none := by
  have hlt : ∀ i ∈ cs, i < ρ.length := fun i hi => by rw [m.len]; exact gets_lt e i hi
  have sΦ : Same Φ (frameOf Φ F H (pick ρ cs)) := frame_same m
  have part : ∀ a ∈ ρ, (∃ k : Nat, k < cs.length ∧ ρ'[k]? = some a) ∨ (F' a).isSome = true ∨ frameOf Φ F H (pick ρ cs) a ≠ none := fun a ha => by
    by_cases h : a ∈ pick ρ cs
    · obtain ⟨k, hk, rfl⟩ := List.getElem_of_mem h
      exact .inl ⟨k, by rw [pick_len] at hk; exact hk, x.at_ (List.getElem?_eq_getElem hk)⟩
    · cases hF : F a with
      | some o => exact .inr (.inl (by rw [x.f _ _ hF]; rfl))
      | none =>
        refine .inr (.inr ?_)
        unfold frameOf
        rw [if_neg (by rw [hF]; rintro (q | q); exact h q; cases q)]
        exact m.al a ha
  have len' : cs.length ≤ M'.length := by
    obtain ⟨t, ht⟩ := x.r
    rw [← m'.len, ht, List.length_append, pick_len]; omega
  refine ⟨⟨fun a o h => m'.fr _ _ (sΦ _ _ h), m'.sub, fun a o h n => m'.dj _ _ (sΦ _ _ h) n, by rw [puts_len]; exact m.len, m.nd, fun a ha => ?_, m.fd, fun j c a h1 h2 n => ?_⟩, part⟩
  · rcases part a ha with ⟨k, _, h⟩ | h | h
    · exact m'.al a (List.mem_of_getElem? h)
    · cases hF : F' a with
      | none => rw [hF] at h; cases h
      | some o => rw [m'.sub _ _ hF]; exact fun q => nomatch q
    · cases hP : frameOf Φ F H (pick ρ cs) a with
      | none => exact absurd hP h
      | some o => rw [m'.fr _ _ hP]; exact fun q => nomatch q
  · by_cases hj : j ∈ cs
    · obtain ⟨k, hk, ek⟩ := List.getElem_of_mem hj
      have ek' : cs[k]? = some j := by rw [List.getElem?_eq_getElem hk, ek]
      have hz : (M'.take cs.length).length = cs.length := by rw [List.length_take]; omega
      rw [puts_in nd ek' hz (gets_lt e j hj)] at h1
      have hqc : quietC c = true := List.all_eq_true.mp hq c (List.mem_of_getElem? h1)
      rw [List.getElem?_take_of_lt hk] at h1
      have h3 := x.at_ (pick_at ek' h2)
      obtain ⟨k1, k2, r⟩ := m'.at_ k c a h1 h3 n
      exact ⟨sΦ.free k1, k2, quiet_rep r hqc⟩
    · rw [puts_out hj] at h1
      obtain ⟨k1, k2, r⟩ := m.at_ j c a h1 h2 n
      obtain ⟨oa, hoa, hown⟩ := r.there n
      have na : a ∉ pick ρ cs := fun h => by
        obtain ⟨k, hk, ek⟩ := List.getElem_of_mem h
        obtain ⟨i, h3, h4⟩ := pick_get (List.getElem?_eq_getElem hk) hlt
        rw [ek] at h4
        have := nodup_at m.nd h4 h2
        subst this
        exact hj (List.mem_of_getElem? h3)
      have fa := frame_out (Φ := Φ) na k2 hoa
      have nt : ∀ xs, oa ≠ .tup xs := by
        rintro xs rfl
        cases r with
        | lst h r => rw [h] at hoa; cases hoa
        | lsa h r => rw [h] at hoa; cases hoa
        | dK h r => rw [h] at hoa; cases hoa
        | dT h _ r => rw [h] at hoa; cases hoa
        | dca h r => rw [h] at hoa; cases hoa
        | ins h _ _ _ r => rw [h] at hoa; cases hoa
        | dead => exact n rfl
      have stay : ∀ b o, b ∉ pick ρ cs → H b = some o → H' b = some o := fun b o hb h => by
        cases hF : F b with
        | none => exact m'.fr _ _ (frame_out hb hF h)
        | some o' =>
          have := m.sub _ _ hF
          rw [h] at this
          cases this
          exact m'.sub _ _ (x.f _ _ hF)
      have own_out : ∀ b y, H b = some (.own y) → b ∉ pick ρ cs := fun b y hb h => by
        obtain ⟨k, hk, ek⟩ := List.getElem_of_mem h
        obtain ⟨i, h3, h4⟩ := pick_get (List.getElem?_eq_getElem hk) hlt
        rw [ek] at h4
        obtain ⟨hl, hall⟩ := gets_all e
        have hk' : k < cc.length := by rw [hl]; rw [pick_len] at hk; exact hk
        obtain ⟨h5, h6⟩ := hall k i _ h3 (List.getElem?_eq_getElem hk')
        obtain ⟨_, _, r'⟩ := m.at_ i _ b h5 h4 (fun q => by rw [q] at h6; cases h6)
        obtain ⟨o, ho, hw⟩ := r'.there (fun q => by rw [q] at h6; cases h6)
        rw [hb] at ho
        cases ho
        exact hw _ rfl
      have xr : Ext F ρ F' ρ := ⟨x.f, [], by simp⟩
      refine ⟨k1, m'.dj _ _ fa nt, r.keep xr (fun b o hb h => ?_) fun dx h q => ?_⟩
      · rcases hb with rfl | hb
        · exact stay _ _ na h
        · exact stay _ _ (own_out _ _ hb) h
      · exact m'.dj _ _ (frame_out (own_out _ _ h) q h) (fun _ q => nomatch q)
/-- a call on the handed cells -/
theorem call_loc {r : Run} {k : Nat} {as : List A} {vs : List V} {Q : VK} {E : XK} (m : MR G Φ F ρ M H) (ra : RepAs G F ρ as vs) (p : PRG G Φ F ρ (callLoc r k as M) (RepA G) Q E) :
    ∃ Φ' ρ' M' as', MR G Φ' F ρ' M' H ∧ RepAs G F ρ' as' vs ∧ PRG G Φ' F ρ' (r k as' M') (RepA G) Q E := by
  unfold callLoc at p
  split at p
  · rename_i hc
    have nd := nodupB_ok hc.2
    cases e : getsM M (cellsOf as) with
    | none => rw [e] at p; exact p.elim
    | some cc =>
      rw [e] at p
      dsimp only at p
      obtain ⟨hl, hall⟩ := gets_all e
      refine ⟨_, _, cc, relabA as 0, m.loc e nd, relab_rep hc.1 ra (fun t i a h1 h2 => by rw [Nat.zero_add]; exact pick_at h1 h2), ?_⟩
      cases er : r k (relabA as 0) cc with
      | no => rw [er] at p; exact p
      | ex c fs M' =>
        rw [er] at p
        unfold backLoc at p
        dsimp only at p
        split at p
        · rename_i hq
          intro F' ρ' d H' x m' xd
          exact p F' ρ d H' ⟨x.f, [], by simp⟩ (m.back e nd x m' hq).1 xd
        · exact p.elim
      | ok a M' =>
        rw [er] at p
        unfold backLoc at p
        dsimp only at p
        split at p
        · rename_i hq
          intro F' ρ' v H' x m' rv
          have bk := m.back e nd x m' hq
          cases a with
          | t xs => exact p.elim
          | p d =>
            cases rv with | p rv =>
            exact p F' ρ v H' ⟨x.f, [], by simp⟩ bk.1 (.p rv)
          | c j =>
            dsimp only at p
            split at p
            · exact p.elim
            · rename_i hj
              cases eM : M'[j]? with
              | none => rw [eM] at p; exact p.elim
              | some c =>
                rw [eM] at p
                dsimp only at p
                split at p
                · rename_i cl
                  cases rv with | @c _ ad had =>
                  have ndd : c ≠ .dead := fun q => by rw [q] at cl; cases cl
                  obtain ⟨k1, k2, rc⟩ := m'.at_ j c ad eM had ndd
                  have rc' : CRep G Φ F' (ρ ++ [ad]) H' ad c := closed_rep rc cl
                  obtain ⟨mb, part⟩ := bk
                  have notin : ad ∉ ρ := fun h => by
                    rcases part ad h with ⟨k, hk, h⟩ | h | h
                    · exact hj (by rw [nodup_at m'.nd had h]; exact hk)
                    · rw [k2] at h; cases h
                    · exact h k1
                  have look : (ρ ++ [ad])[M.length]? = some ad := by rw [← m.len, List.getElem?_append_right (Nat.le_refl _), Nat.sub_self]; rfl
                  refine p F' (ρ ++ [ad]) _ H' ⟨x.f, [ad], rfl⟩ ⟨mb.fr, mb.sub, mb.dj, by simp [mb.len], ?_, fun b hb => ?_, fun b hb => ?_, fun i c' b g1 g2 n => ?_⟩ (.c look)
                  · rw [List.nodup_append]
                    refine ⟨mb.nd, by simp, fun y hy z hz => ?_⟩
                    rw [List.mem_singleton] at hz
                    subst hz
                    exact fun q => notin (q ▸ hy)
                  · rcases List.mem_append.mp hb with h | h
                    · exact mb.al b h
                    · rw [List.mem_singleton.mp h]; exact m'.al ad (List.mem_of_getElem? had)
                  · rcases List.mem_append.mp hb with h | h
                    · exact mb.fd b h
                    · rw [List.mem_singleton.mp h]; exact (frame_same m).free k1
                  · by_cases hi : i < ρ.length
                    · rw [List.getElem?_append_left hi] at g2
                      rw [List.getElem?_append_left (by rw [puts_len, ← m.len]; exact hi)] at g1
                      obtain ⟨h3, h4, r5⟩ := mb.at_ i c' b g1 g2 n
                      exact ⟨h3, h4, r5.keep Ext.grow (fun _ _ _ h => h) fun _ _ q => q⟩
                    · have ei : i = ρ.length := by
                        have := (List.getElem?_eq_some_iff.mp g2).1
                        simp at this; omega
                      subst ei
                      rw [List.getElem?_append_right (by rw [puts_len, m.len]; exact Nat.le_refl _), puts_len, m.len, Nat.sub_self] at g1
                      rw [List.getElem?_append_right (Nat.le_refl _), Nat.sub_self] at g2
                      simp at g1 g2
                      subst g1; subst g2
                      exact ⟨(frame_same m).free k1, k2, rc'⟩
                · exact p.elim
        · exact p.elim
  · exact p.elim
/-- a def's promise, as the evaluator has it -/
def spF (G : Gd) (r : Run) (k np : Nat) : Sp := fun vs H Q E => vs.length = np ∧ ∃ Φ F ρ M as, MR G Φ F ρ M H ∧ RepAs G F ρ as vs ∧ PRG G Φ F ρ (r k as M) (RepA G) Q E
theorem call_any {r : Run} {k np : Nat} {md : Md} {as : List A} {vs : List V} {Q : VK} {E : XK} (hn : vs.length = np) (m : MR G Φ F ρ M H) (ra : RepAs G F ρ as vs) (p : PRG G Φ F ρ (callSem r k md as M) (RepA G) Q E) : spF G r k np vs H Q E := by
  cases md with
  | full => exact ⟨hn, Φ, F, ρ, M, as, m, ra, p⟩
  | loc =>
    obtain ⟨Φ', ρ', M', as', m', ra', p'⟩ := call_loc m ra p
    exact ⟨hn, Φ', F, ρ', M', as', m', ra', p'⟩
end
end Fz

set_option maxHeartbeats 4000000
namespace Fz
open PySem L2 PyProof.Rows
theorem PRG.seqE {α β γ δ : Type} {G : Gd} {Φ F : Hp} {ρ : List Addr} {r : Res α} {f : α → Mem → Res γ} {R : Hp → List Addr → α → β → Prop} {R2 : Hp → List Addr → γ → δ → Prop} {Q : δ → Hp → Prop} {E : XK} (h : PRG G Φ F ρ (r.bind f) R2 Q E) :
    PRG G Φ F ρ r R (fun b H1 => ∃ a F1 ρ1 M1, r = .ok a M1 ∧ Ext F ρ F1 ρ1 ∧ MR G Φ F1 ρ1 M1 H1 ∧ R F1 ρ1 a b ∧ PRG G Φ F1 ρ1 (f a M1) R2 Q E) E := by
  cases r with
  | ok a M' => exact fun F2 ρ2 b H2 e m rr => ⟨a, F2, ρ2, M', rfl, e, m, rr, PRG.base h e⟩
  | ex c fs M' => exact h
  | no => exact h
def Es.len : Es → Nat
  | .nil => 0
  | .cons _ es => es.len + 1
theorem evalEs_len {r : Run} : ∀ {es : Es} {σ : Env'} {M M' : Mem} {as : List A}, evalEs r es σ M = .ok as M' → as.length = es.len
  | .nil, _, _, _, _, h => by cases h; rfl
  | .cons e es, _, _, _, _, h => by
    unfold evalEs at h
    obtain ⟨x, M1, _, h⟩ := bind_ok h
    obtain ⟨xs, M2, h2, h⟩ := bind_ok h
    cases h
    simp [Es.len, evalEs_len h2]
section
variable {G : Gd} {X : Cx}
theorem se_call {r : Run} {k np lev : Nat} {md : Md} {f : Addr} {fd : FuncData} {ps : List Str} {dfl : List D} {dvs : List V} {ds : List Value} {x : Str} {p pos : Pos} {e : Expr} {es : List Expr} {ee : Es}
    (F : FnOk X.prog X.w X.K X.mg X.base (L2.CX X.prog X.w) lev f fd ps (spF G r k np)) (hr : Room lev X.A) (hg : Gl X x) (hm : X.mg x = some (.ref f)) (hk : PySem.W.keepIn X.K (.ref f) = true) (hb : Binds X.K fd ps ds) (hd : Vals dvs ds) (hdf : ∀ F, RepDs G F dfl dvs)
    (ha : PA X (e :: es) (tL G X (evalEs r ee))) (hdb : (x == ("__debug__" : Str)) = false) (hs : (e :: es).all notStar = true) (hn : ee.len + dfl.length = np) :
    PE X (.Call (.Name x p) (e :: es) [] pos) (tS G X fun σ M => (evalEs r ee σ M).bind fun xs M1 => callSem r k md (xs ++ dfl.map A.p) M1) := by
  rw [List.all_cons, Bool.and_eq_true] at hs
  refine ⟨fun pins s σ H Q I ⟨Φ, F0, ρ, σA, M, W, m, er, tk, p⟩ => ?_⟩
  refine (pe_callSD (E := fun σ c d H => W c d σ H) F hr hg hm hk hb hd (fun σ => passAt tk σ) ha hdb (starEach_cons hs.1) (noStar_any hs.2)).run pins s σ H Q I ?_
  refine ⟨Φ, F0, ρ, σA, M, W, m, er, tk, PRG.imp (PRG.seqE (R := RepAs G) p) (fun vs H1 ⟨as, F1, ρ1, M1, ev, e1, m1, ra, q⟩ => ?_) fun _ _ _ z => z⟩
  have rd : RepAs G F1 ρ1 (dfl.map A.p) dvs := RepAs.of_p (hdf F1)
  refine call_any ?_ m1 (ra.append rd) q
  rw [List.length_append, ← ra.length, ← (hdf F1).length, evalEs_len ev]; exact hn
theorem se_call0 {r : Run} {k np lev : Nat} {md : Md} {f : Addr} {fd : FuncData} {ps : List Str} {dfl : List D} {dvs : List V} {ds : List Value} {x : Str} {p pos : Pos}
    (F : FnOk X.prog X.w X.K X.mg X.base (L2.CX X.prog X.w) lev f fd ps (spF G r k np)) (hr : Room lev X.A) (hg : Gl X x) (hm : X.mg x = some (.ref f)) (hk : PySem.W.keepIn X.K (.ref f) = true) (hb : Binds X.K fd ps ds) (hd : Vals dvs ds) (hdf : ∀ F, RepDs G F dfl dvs)
    (hdb : (x == ("__debug__" : Str)) = false) (hn : dfl.length = np) :
    PE X (.Call (.Name x p) [] [] pos) (tS G X fun σ M => (evalEs r .nil σ M).bind fun xs M1 => callSem r k md (xs ++ dfl.map A.p) M1) := by
  refine ⟨fun pins s σ H Q I ⟨Φ, F0, ρ, σA, M, W, m, er, tk, p⟩ => ?_⟩
  refine wpAny_Call_Name_kw (ld_glob I hg hm ?_ hdb)
  refine PySem.W.callWith_K0 I.kIn hk (run_fnSD (us := []) (vs := []) (E := fun σ c d H => W c d σ H) F hr hb hd (passAt tk σ) I .nil ?_)
  have rd : RepAs G F0 ρ (dfl.map A.p) dvs := RepAs.of_p (hdf F0)
  exact call_any (by rw [List.nil_append, ← (hdf F0).length]; exact hn) m rd p
theorem er_nn {F : Hp} {ρ : List Addr} : ∀ n : Nat, ER G F ρ (List.replicate n none) (List.replicate n none)
  | 0 => .nil
  | n + 1 => by rw [List.replicate_succ, List.replicate_succ]; exact .nn (er_nn n)
theorem er_start {F : Hp} {ρ : List Addr} (n : Nat) : ∀ {as : List A} {vs : List V}, RepAs G F ρ as vs → ER G F ρ (as.map some ++ List.replicate n none) (vs.map some ++ List.replicate n none)
  | _, _, .nil => er_nn n
  | _, _, .cons r rs => .sm r (er_start n rs)
/-- a def keeps the evaluator's promise: its body by the evaluator's reading -/
theorem fn_ev {P : Program} {w : World} {K : PySem.W.Frag} {mg : Str → Option Value} {base : Heap} {x qual : Str} {params : Arguments} {body : List Stmt} {scope : Scope} {dvs : List V} {kws : List (Str × V)} {f : Addr} {fd : FuncData} {N ps : List Str} {lev : Nat} {G : Gd} {fs : List Fn} {n k : Nat} {fn : Fn}
    (F : FunD K x qual params body scope dvs kws f fd) (S : FnScope N ps scope) (hf : fs[k]? = some fn) (hnp : fn.np = ps.length) (hns : fn.ns = N.length)
    (hbody : ∀ (cdv : Value) (A : Around) (outer : List Env) (s : Shared) (H : Hp) (E : XK), Room lev (A.deeper (envOfC qual scope s.heap.objs.size f cdv)) →
      PSs (cxOf (L2.CX P w) P w K mg base N qual scope f cdv A outer s H E) body (tSS G (cxOf (L2.CX P w) P w K mg base N qual scope f cdv A outer s H E) (evalSs (runP fs n) fn.body))) :
    FnOk P w K mg base (L2.CX P w) (lev + 1) f fd ps (spF G (runP fs (n + 1)) k ps.length) := by
  refine F.ok S (fun vs H Q E h => h.1) fun cdv A outer s H vs Q E hr h => ⟨_, hbody cdv A outer s H E hr, ?_⟩
  obtain ⟨hl, Φ, F0, ρ, M, as, m, ra, p⟩ := h
  have al : as.length = fn.np := by rw [ra.length, hl, hnp]
  refine ⟨Φ, F0, ρ, startE fn.ns as, M, fun cls d _ H => E cls d H, m, ?_, takes_of rfl rfl rfl rfl, ?_⟩
  · unfold startE L2.start
    rw [hns, ra.length]
    exact er_start _ ra
  · have e : runP fs (n + 1) k as M = evalFn (runP fs n) fn as M := by
      show (match fs[k]? with
        | some f => evalFn (runP fs n) f as M
        | none => .no) = _
      rw [hf]
    rw [e] at p
    unfold evalFn at p
    rw [if_pos al] at p
    cases eb : evalSs (runP fs n) fn.body (startE fn.ns as) M with
    | nx σ M' => rw [eb] at p; exact fun F' ρ' σ' H' e m' _ => p F' ρ' .non H' e m' (.p .non)
    | ret a M' => rw [eb] at p; exact p
    | ex c fs σ M' => rw [eb] at p; exact fun F' ρ' σ' d H' e m' _ xd => p F' ρ' d H' e m' xd
    | bk σ M' => rw [eb] at p; exact p.elim
    | ct σ M' => rw [eb] at p; exact p.elim
    | no => rw [eb] at p; exact p.elim
end
end Fz

set_option maxHeartbeats 4000000
namespace Fz
open PySem L2 PyProof.Rows
/-! ### the checker: is this text what that expression says? -/
structure Tab where
  N : List Str
  fns : List (Str × Nat)
  gints : List (Str × Int)
  gstrs : List (Str × Str)
  gfree : List Str
def special (x : Str) : Bool := (x == ("__debug__" : Str)) || (x == ("__classdict__" : Str)) || (x == ("__name__" : Str))
def visB (sc : Scope) (x : Str) : Bool := match sc.names.lookup x with
  | some .local => true
  | some .cell => true
  | some .free => true
  | _ => false
def locB (sc : Scope) (x : Str) : Bool := match sc.names.lookup x with
  | some .local => true
  | some .cell => true
  | _ => false
def glB (sc : Scope) (x : Str) : Bool := match sc.names.lookup x with
  | some .globalImplicit => true
  | _ => false
def slotB (T : Tab) (i : Nat) (x : Str) : Bool := match T.N[i]? with
  | some y => y == x
  | none => false
def biName : Bi → Str
  | .len => "len" | .all => "all" | .any => "any" | .sum => "sum" | .min2 => "min" | .max2 => "max" | .strI => "str" | .list => "list" | .tuple => "tuple" | .int => "int"
def bmName : Bm → Str
  | .join => "join" | .upper => "upper"
def freeB (T : Tab) (sc : Scope) (x : Str) : Bool := glB sc x && T.gfree.contains x
def tyNamesB (T : Tab) (sc : Scope) : List String → List Expr → Bool
  | [], [] => true
  | c :: cs, .Name x _ :: es => (Str.ofString c == x) && freeB T sc x && ["int", "bool", "str", "tuple", "list", "dict"].contains c && tyNamesB T sc cs es
  | _, _ => false
def chkTg (T : Tab) (sc : Scope) : Tg → Expr → Bool
  | .nm i => fun e => match e with
    | .Name x _ => slotB T i x && locB sc x
    | _ => false
  | .tp is => fun e => match e with
    | .Tuple es _ _ => chkNs T sc is es
    | _ => false
where chkNs (T : Tab) (sc : Scope) : List Nat → List Expr → Bool
  | [], [] => true
  | i :: is, .Name x _ :: es => slotB T i x && locB sc x && chkNs T sc is es
  | _, _ => false
def notIf : Expr → Bool
  | .IfExp _ _ _ _ => false
  | _ => true
def isBO : Expr → Bool
  | .BoolOp _ _ _ => true
  | _ => false
def notSetE : Expr → Bool
  | .Set _ _ _ => false
  | _ => true
def notComp : Expr → Bool
  | .ListComp _ _ _ _ => false
  | .SetComp _ _ _ _ => false
  | .DictComp _ _ _ _ _ => false
  | _ => true
def ownOf (T : Tab) (own : List Nat) : List (Str × Nat) := own.map fun i => (T.N.getD i Str.empty, i)
mutual
def chkE (T : Tab) (sc : Scope) : E → Expr → Bool
  | .cn => fun e => match e with
    | .Constant .none _ _ => true
    | _ => false
  | .cb b => fun e => match e with
    | .Constant (.bool c) _ _ => b == c
    | _ => false
  | .ci i => fun e => match e with
    | .Constant (.int j) _ _ => decide (i = j)
    | _ => false
  | .cs s => fun e => match e with
    | .Constant (.str t) _ _ => s == t
    | _ => false
  | .v i => fun e => match e with
    | .Name x _ => slotB T i x && visB sc x && !special x
    | _ => false
  | .gi x i => fun e => match e with
    | .Name y _ => x == y && glB sc x && T.gints.contains (x, i) && !special x
    | _ => false
  | .gs x s => fun e => match e with
    | .Name y _ => x == y && glB sc x && T.gstrs.contains (x, s) && !special x
    | _ => false
  | .bin o _ a b => fun e => match e with
    | .BinOp l op r _ => decide (op = pyB o) && chkE T sc a l && chkE T sc b r
    | _ => false
  | .neg a => fun e => match e with
    | .UnaryOp .USub x _ => chkE T sc a x
    | _ => false
  | .nt a => fun e => match e with
    | .UnaryOp .Not x _ => chkE T sc a x && notIf x
    | _ => false
  | .an a b => fun e => match e with
    | .BoolOp .And [x, y] _ => chkE T sc a x && chkE T sc b y && notIf x && notIf y
    | .BoolOp .And (x :: y :: z :: rest) p => chkE T sc a x && chkE T sc b (.BoolOp .And (y :: z :: rest) p) && notIf x
    | _ => false
  | .or_ a b => fun e => match e with
    | .BoolOp .Or [x, y] _ => chkE T sc a x && chkE T sc b y && notIf x && notIf y
    | .BoolOp .Or (x :: y :: z :: rest) p => chkE T sc a x && chkE T sc b (.BoolOp .Or (y :: z :: rest) p) && notIf x
    | _ => false
  | .ifx c a b => fun e => match e with
    | .IfExp x y z _ => chkE T sc c x && chkE T sc a y && chkE T sc b z && notIf x
    | _ => false
  | .cmp o a b => fun e => match e with
    | .Compare x [op] [y] _ => decide (op = pyC o) && chkE T sc a x && chkE T sc b y && notSetE y
    | _ => false
  | .cmp2 o p a b c => fun e => match e with
    | .Compare x [op, op'] [y, z] _ => decide (op = pyC o) && decide (op' = pyC p) && chkE T sc a x && chkE T sc b y && chkE T sc c z && notSetE z
    | _ => false
  | .tup es => fun e => match e with
    | .Tuple xs _ _ => chkEs T sc es xs && xs.all notStar
    | _ => false
  | .lst _ es => fun e => match e with
    | .List xs _ => chkEs T sc es xs && xs.all notStar
    | _ => false
  | .sub a i => fun e => match e with
    | .Subscript x y _ => chkE T sc a x && chkE T sc i y && plainB y
    | _ => false
  | .slc _ a lo hi => fun e => match e with
    | .Subscript x (.Slice l h none _) _ => chkE T sc a x && chkPt T sc lo l && chkPt T sc hi h
    | _ => false
  | .rev _ a => fun e => match e with
    | .Subscript x (.Slice none none (some (.UnaryOp .USub (.Constant (.int i) _ _) _)) _) _ => decide (i = 1) && chkE T sc a x
    | _ => false
  | .isi a cs => fun e => match e with
    | .Call (.Name f _) [x, .Name y p] [] _ => (f == ("isinstance" : Str)) && decide (cs.length ≤ 9) && freeB T sc f && chkE T sc a x && notStar x && tyNamesB T sc cs [.Name y p]
    | .Call (.Name f _) [x, .Tuple ys _ _] [] _ => (f == ("isinstance" : Str)) && decide (cs.length ≤ 9) && freeB T sc f && chkE T sc a x && notStar x && tyNamesB T sc cs ys
    | _ => false
  | .call k _ es dfl => fun e => match e with
    | .Call (.Name f _) xs [] _ => (match T.fns[k]? with
      | some (g, np) => g == f && glB sc f && !special f && chkEs T sc es xs && xs.all notStar && dfl.isEmpty && decide (es.len = np)
      | none => false)
    | _ => false
  | .bi b _ es => fun e => match e with
    | .Call (.Name f _) (x :: xs) [] _ => (f == biName b) && freeB T sc f && chkEs T sc es (x :: xs) && (x :: xs).all notStar
    | _ => false
  | .bm b _ o es => fun e => match e with
    | .Call (.Attribute x f ap) xs [] cp => (f == bmName b) && chkE T sc o x && plainBase x && (ap.endLine == cp.line) && chkEs T sc es xs && xs.all notStar && decide (xs.length < 20)
    | _ => false
  | .dct _ kvs => fun e => match e with
    | .Dict ks vs _ => chkPs T sc kvs ks vs && decide (ks.length ≤ 15) && decide (ks.length = vs.length)
    | _ => false
  | .comp _ own tg it ifs elt => fun e => match e with
    | .ListComp el [⟨t, i, cs, 0⟩] scope _ => blkC T.N sc scope (ownOf T own) && chkIt T sc it i && notSetE i && chkTg T scope tg t && tg.slots.all own.contains && chkEs T (relS scope sc) ifs cs && decide (cs.length ≤ 1) && cs.all notIf && chkE T (relS scope sc) elt el
    | _ => false
def chkEs (T : Tab) (sc : Scope) : Es → List Expr → Bool
  | .nil => fun l => l.isEmpty
  | .cons e es => fun l => match l with
    | x :: xs => chkE T sc e x && chkEs T sc es xs
    | [] => false
def chkPs (T : Tab) (sc : Scope) : Es → List (Option Expr) → List Expr → Bool
  | .nil => fun l m => l.isEmpty && m.isEmpty
  | .cons k (.cons v es) => fun l m => match l, m with
    | some x :: xs, y :: ys => chkE T sc k x && chkE T sc v y && chkPs T sc es xs ys
    | _, _ => false
  | .cons _ .nil => fun _ _ => false
def chkPt (T : Tab) (sc : Scope) : Es → Option Expr → Bool
  | .nil => fun l => l.isNone
  | .cons e .nil => fun l => match l with
    | some x => chkE T sc e x
    | none => false
  | _ => fun _ => false
def chkIt (T : Tab) (sc : Scope) : Wk → Expr → Bool
  | .e a => fun e => chkE T sc a e
  | .rng1 a => fun e => match e with
    | .Call (.Name f _) [x] [] _ => (f == ("range" : Str)) && freeB T sc f && chkE T sc a x && notStar x
    | _ => false
  | .rng2 a b => fun e => match e with
    | .Call (.Name f _) [x, y] [] _ => (f == ("range" : Str)) && freeB T sc f && chkE T sc a x && chkE T sc b y && notStar x && notStar y
    | _ => false
  | _ => fun _ => false
end
/-- a value as a target's statement: does CPython swap the stores? -/
def noSwap : Expr → Expr → Bool
  | .Tuple ts _ _, .Tuple vs _ _ => !(ts.length == 2 || ts.length == 3) || vs.all (foldedForSure 8)
  | .Tuple _ _ _, _ => true
  | .Name _ _, _ => true
  | _, _ => false
def localB (sc : Scope) (x : Str) : Bool := match sc.names.lookup x with
  | some .local => true
  | _ => false
/-- the names of a swap, on one line -/
def namesB (T : Tab) (sc : Scope) (line : Nat) : List Nat → List Expr → Bool
  | [], [] => true
  | i :: is, .Name x p :: es => slotB T i x && localB sc x && (p.line == line) && namesB T sc line is es
  | _, _ => false
/-- the stores are swapped -/
def swapB (vs : List Expr) : Bool := !vs.all (foldedForSure 8) && !vs.all (constantsAlone 8)
/-- name = [..] on one line -/
def lineB (sc scope : Scope) (y : Str) (py pos : Pos) : Bool := localB sc y && (py.line == pos.line) && !(scope.names.any fun (n, k) => n == y && (k == .local || k == .cell))
mutual
def chkS (T : Tab) (sc : Scope) : S → Stmt → Bool
  | .asg tg e => fun s => match s with
    | .Assign [t] v _ => chkTg T sc tg t && chkE T sc e v && noSwap t v && notComp v
    | _ => false
  | .asgL i m own tg it ifs elt => fun s => match s with
    | .Assign [.Name y py] (.ListComp el [⟨t, ite, cs, 0⟩] scope pos) _ => slotB T i y && chkE T sc (.comp m own tg it ifs elt) (.ListComp el [⟨t, ite, cs, 0⟩] scope pos) && lineB sc scope y py pos && decide (sc.kind = .function)
    | _ => false
  | .ex e => fun s => match s with
    | .Expr v _ => chkE T sc e v && notComp v
    | _ => false
  | .setI o i e => fun s => match s with
    | .Assign [.Subscript x y _] v _ => chkE T sc o x && chkE T sc i y && chkE T sc e v && notComp v && plainB y
    | _ => false
  | .app o e => fun s => match s with
    | .Expr (.Call (.Attribute x f ap) [y] [] cp) _ => (f == ("append" : Str)) && chkE T sc o x && chkE T sc e y && plainBase x && notStar y && (ap.endLine == cp.line)
    | _ => false
  | .ret e => fun s => match s with
    | .Return (some v) _ => chkE T sc e v
    | _ => false
  | .retN => fun s => match s with
    | .Return none _ => true
    | _ => false
  | .ifs c a b => fun s => match s with
    | .If x y z _ => chkE T sc c x && chkSs T sc a y && chkSs T sc b z && notIf x
    | _ => false
  | .whl _ c b => fun s => match s with
    | .While x y [] _ => chkE T sc c x && chkSs T sc b y && notIf x
    | _ => false
  | .for_ tg it b => fun s => match s with
    | .For t i y [] _ => chkTg T sc tg t && chkIt T sc it i && notSetE i && chkSs T sc b y
    | _ => false
  | .pas => fun s => match s with
    | .Pass _ => true
    | _ => false
  | .cont => fun s => match s with
    | .Continue _ => true
    | _ => false
  | .par is es => fun s => match s with
    | .Assign [.Tuple (.Name x px :: ts) _ _] (.Tuple (v :: vs) _ _) _ => namesB T sc px.line is (.Name x px :: ts) && nodupB is && chkEs T sc es (v :: vs) && (v :: vs).all notStar && swapB (v :: vs) && decide (vs.length = ts.length) && (ts.length == 1 || ts.length == 2) && decide (sc.kind = .function)
    | _ => false
def chkSs (T : Tab) (sc : Scope) : Ss → List Stmt → Bool
  | .nil => fun l => l.isEmpty
  | .cons s ss => fun l => match l with
    | x :: xs => chkS T sc s x && chkSs T sc ss xs
    | [] => false
end
end Fz

set_option maxHeartbeats 4000000
namespace Fz
open PySem L2 PyProof.Rows
structure OkC (T : Tab) (G : Gd) (r : Run) (sc : Scope) (X : Cx) : Prop where
  g : Gx G X
  hN : X.N = T.N
  hs : X.env.scope = sc
  fns : ∀ (k : Nat) (f : Str) (np : Nat), T.fns[k]? = some (f, np) → ∃ (fa : Addr) (fd : FuncData) (ps : List Str) (lev : Nat), FnOk X.prog X.w X.K X.mg X.base (L2.CX X.prog X.w) lev fa fd ps (spF G r k np) ∧ Room lev X.A ∧ X.mg f = some (.ref fa) ∧ PySem.W.keepIn X.K (.ref fa) = true ∧ Binds X.K fd ps []
  gi : ∀ p ∈ T.gints, ∃ t, X.mg p.1 = some (.int p.2 t)
  gs : ∀ p ∈ T.gstrs, ∃ t, X.mg p.1 = some (.str p.2 t)
  fr : ∀ x ∈ T.gfree, X.mg x = none
section
variable {T : Tab} {G : Gd} {r : Run} {sc : Scope} {X : Cx}
theorem OkC.blk (o : OkC T G r sc X) (s : Shared) (H : Hp) (scope : Scope) (C : Addr) (cl : List (Str × Addr)) (fp : List Addr) : OkC T G r (relS scope sc) (X.blk s H scope (compEnvC scope cl C X.env) fp) where
  g := ⟨o.g.hK, o.g.calm, o.g.hu, o.g.nd⟩
  hN := o.hN
  hs := by rw [← o.hs]; rfl
  fns := o.fns
  gi := o.gi
  gs := o.gs
  fr := o.fr
theorem visB_ok (o : OkC T G r sc X) {x : Str} (h : visB sc x = true) : Vis X.env.scope x := by
  rw [o.hs]
  unfold visB at h
  split at h
  · rename_i e; exact .inl e
  · rename_i e; exact .inr (.inl e)
  · rename_i e; exact .inr (.inr e)
  · cases h
theorem locB_ok (o : OkC T G r sc X) {x : Str} (h : locB sc x = true) : Loc X.env.scope x := by
  rw [o.hs]
  unfold locB at h
  split at h
  · rename_i e; exact .inl e
  · rename_i e; exact .inr e
  · cases h
theorem glB_ok (o : OkC T G r sc X) {x : Str} (h : glB sc x = true) : Gl X x := by
  show X.env.scope.names.lookup x = some .globalImplicit
  rw [o.hs]
  unfold glB at h
  split at h
  · rename_i e; exact e
  · cases h
theorem slotB_ok (o : OkC T G r sc X) {i : Nat} {x : Str} (h : slotB T i x = true) : X.N[i]? = some x := by
  rw [o.hN]
  unfold slotB at h
  split at h
  · rename_i y e; rw [e, eq_of_beq h]
  · cases h
theorem special_ok {x : Str} (h : (!special x) = true) : (x == ("__debug__" : Str)) = false ∧ (x == ("__classdict__" : Str)) = false ∧ x ≠ "__name__" := by
  unfold special at h
  rw [Bool.not_eq_true', Bool.or_eq_false_iff, Bool.or_eq_false_iff] at h
  exact ⟨h.1.1, h.1.2, fun e => by rw [e] at h; exact absurd h.2 (by decide)⟩
theorem freeB_ok (o : OkC T G r sc X) {x : Str} (h : freeB T sc x = true) : Gl X x ∧ X.mg x = none := by
  unfold freeB at h
  rw [Bool.and_eq_true] at h
  exact ⟨glB_ok o h.1, o.fr x (List.contains_iff_mem.mp h.2)⟩
structure SE (T : Tab) (G : Gd) (r : Run) (sc : Scope) (X : Cx) (f : CE A) (x : Expr) : Prop where
  e : PE X x (tS G X f)
  t : notIf x = true → PT X x (tT G X fun σ M => (f σ M).bind truR)
  w : isBO x = true → PW X x (tT G X fun σ M => (f σ M).bind truR)
theorem SE.of {f : CE A} {x : Expr} (o : OkC T G r sc X) (h : PE X x (tS G X f)) (he : ∀ whole, isTrue x X.env whole = (do let v ← whole; standAt x.pos; holding [v] (truthy v))) (hb : isBO x = false) : SE T G r sc X f x :=
  ⟨h, fun _ => st_tru o.g h he, fun q => by rw [hb] at q; cases q⟩
theorem ty_boot {c : String} (h : ["int", "bool", "str", "tuple", "list", "dict"].contains c = true) : bootBuiltins (Str.ofString c) = some (.type c) ∧ (Str.ofString c) ≠ "__name__" ∧ (Str.ofString c == ("__debug__" : Str)) = false := by
  have h := List.contains_iff_mem.mp h
  simp only [List.mem_cons, List.not_mem_nil, or_false] at h
  rcases h with rfl | rfl | rfl | rfl | rfl | rfl <;> exact ⟨rfl, by decide, by decide⟩
theorem pa_tys (o : OkC T G r sc X) : ∀ {cs : List String} {es : List Expr}, tyNamesB T sc cs es = true → PA X es (fun _ H Q => Q (cs.map V.ty) H) ∧ es.all notStar = true
  | [], [], _ => ⟨⟨fun pos pins s σ H Q I h => pa_nil.run pos pins s σ H Q I h⟩, rfl⟩
  | [], _ :: _, h => by simp [tyNamesB] at h
  | c :: cs, [], h => by simp [tyNamesB] at h
  | c :: cs, e :: es, h => by
    unfold tyNamesB at h
    split at h
    · rename_i a1 a2; cases a1
    · rename_i x p es' a1 a2
      cases a1
      cases a2
      simp only [Bool.and_eq_true] at h
      obtain ⟨⟨⟨h1, h2⟩, h3⟩, h4⟩ := h
      obtain ⟨i1, i2⟩ := pa_tys o h4
      obtain ⟨g1, g2⟩ := freeB_ok o h2
      obtain ⟨b1, b2, b3⟩ := ty_boot h3
      have ex := eq_of_beq h1
      subst ex
      refine ⟨(pa_cons (pe_bltn (v := .ty c) g1 g2 b1 rfl b2 b3) i1 (starEach_cons rfl)).imp fun σ H Q q => ?_, by rw [List.all_cons, i2]; rfl⟩
      exact q
    · cases h
end
end Fz

set_option maxHeartbeats 4000000
namespace Fz
open PySem L2 PyProof.Rows
section
variable {T : Tab} {G : Gd} {r : Run} {sc : Scope} {X : Cx}
/-- isinstance -/
theorem se_isi (o : OkC T G r sc X) {a : CE A} {x : Expr} {cs : List String} {e : Expr} {p pos : Pos} (hx : PE X x (tS G X a)) (hs : notStar x = true) (hl : cs.length ≤ 9)
    (hi : freeB T sc ("isinstance" : Str) = true) (h : (∃ y p', e = .Name y p' ∧ tyNamesB T sc cs [e] = true) ∨ ∃ ys k p', e = .Tuple ys k p' ∧ tyNamesB T sc cs ys = true) :
    PE X (.Call (.Name "isinstance" p) [x, e] [] pos) (tS G X fun σ M => (a σ M).bind fun v M1 => bo (isiSem v cs M1) M1) := by
  obtain ⟨g1, g2⟩ := freeB_ok o hi
  rcases h with ⟨y, p', rfl, h⟩ | ⟨ys, k, p', rfl, h⟩
  · have hc : ∃ c, cs = [c] := by
      cases cs with
      | nil => simp [tyNamesB] at h
      | cons c cs => cases cs with
        | nil => exact ⟨c, rfl⟩
        | cons d ds => simp [tyNamesB] at h
    obtain ⟨c, rfl⟩ := hc
    obtain ⟨pt, ps⟩ := pa_tys o h
    refine (pe_callB (isi_one o.g.hK c) g1 g2 rfl (pa_cons hx pt (starEach_cons hs)) (by decide) (by decide) (starEach_cons hs) (noStar_any ps)).imp fun σ H Q q => ?_
    refine tG.imp (seq1 q) fun v H1 q => ⟨v, rfl, q⟩
  · obtain ⟨pt, ps⟩ := pa_tys o h
    refine (pe_callB (isi_many o.g.hK cs) g1 g2 rfl (pa_cons hx (pa_cons (pe_tup pt) pa_nil (starEach_cons rfl)) (starEach_cons hs)) (by decide) (by decide) (starEach_cons hs) (noStar_any rfl)).imp fun σ H Q q => ?_
    refine tG.imp (seq1 q) fun v H1 q => ?_
    obtain ⟨Φ, F, ρ, M, a, E, m, ra, p⟩ := q
    refine ⟨by rw [List.length_map]; exact Nat.le_trans hl (by decide), fun b hb => ⟨v, b, rfl, upd_same, Φ, _, ρ, M, a, E, m.newF hb, ra.mono (Ext.new (m.freeF hb)), p.base (Ext.new (m.freeF hb))⟩⟩
theorem imp_bm0 {fa : CE A} {b : Bm} {k : Bool} {Ty : String} {σ : L2.St} {H : Hp} {Q : VK} (h : tS G X (fun σ M => (fa σ M).bind fun x M1 => if recv b x M1 = true then (evalEs r .nil σ M1).bind fun xs M2 => bmSem b k x xs M2 else .no) σ H Q)
    (ht : ∀ {Φ F ρ M H a v}, MR G Φ F ρ M H → RepA G F ρ a v → recv b a M = true → tyV X.K Ty v H) : tBM0 X.K Ty (rMt G b k) (tS G X fa) σ H Q := by
  obtain ⟨Φ, F, ρ, σA, M, W, m, er, tk, h⟩ := h
  refine ⟨Φ, F, ρ, σA, M, W, m, er, tk, PRG.imp (PRG.seq (R := RepA G) h) (fun x H1 ⟨a, F1, ρ1, M1, e, m1, ra, q⟩ => ?_) fun _ _ _ z => z⟩
  by_cases c : recv b a M1 = true
  · rw [if_pos c] at q
    exact ⟨ht m1 ra c, Φ, F1, ρ1, M1, a, [], _, m1, ra, .nil, q⟩
  · rw [if_neg c] at q; exact q.elim
theorem recv_str {F : Hp} {ρ : List Addr} {H : Hp} {a : A} {v : V} (ra : RepA G F ρ a v) (h : (strOf a).isSome = true) : tyV X.K "str" v H := by
  cases e : strOf a with
  | none => rw [e] at h; cases h
  | some z => rw [strOf_rep ra e]; exact rfl
theorem few_ok {pos : Pos} {env : Env} {es : List Expr} (hs : es.all notStar = true) (hl : es.length < 20) : ((backTo pos (starEach es env)).all (fun x => !x.1) && (backToKw pos (keywordEach [] env)).all (fun x => x.1.isSome)
      && decide (es.length + ([] : List Keyword).length + (if ([] : List Keyword).isEmpty then 0 else 1) < 30)) = true := by
  have h1 : (backTo pos (starEach es env)).all (fun x => !x.1) = true := by
    have := noStar_any (pos := pos) (env := env) hs
    rw [List.all_eq_not_any_not]
    simp only [Bool.not_not]
    rw [this]; rfl
  rw [h1]
  simp [keywordEach, backToKw]
  omega
end
end Fz

set_option maxHeartbeats 4000000
namespace Fz
open PySem L2 PyProof.Rows
section
variable {T : Tab} {G : Gd} {r : Run}
theorem sg_tg {sc sc0 : Scope} {X : Cx} (o : OkC T G r sc X) (hf : ∀ x, locB sc0 x = true → Loc X.env.scope x ∧ (X.fn x = true ∨ X.env.scope.names.lookup x = some .local)) : ∀ {t : Tg} {e : Expr}, chkTg T sc0 t e = true → PG X e (gS G t) := by
  have nms : ∀ {is : List Nat} {es : List Expr}, chkTg.chkNs T sc0 is es = true → PGs X es (gNs is) ∧ (assignEach es X.env).length = is.length ∧ (assignEach es X.env).findIdx? (·.1) = none := by
    intro is
    induction is with
    | nil =>
      intro es h
      cases es with
      | nil => exact ⟨pgs_nil, rfl, rfl⟩
      | cons => simp [chkTg.chkNs] at h
    | cons i is ih =>
      intro es h
      cases es with
      | nil => simp [chkTg.chkNs] at h
      | cons e es' =>
        cases e with
        | Name x p =>
          simp only [chkTg.chkNs, Bool.and_eq_true] at h
          obtain ⟨h1, h2, h3⟩ := ih h.2
          obtain ⟨l1, l2⟩ := hf x h.1.2
          refine ⟨pgs_cons (pg_name o.g.nd (slotB_ok o h.1.1) l1 l2) h1 rfl, ?_, ?_⟩
          · show (assignEach es' X.env).length + 1 = is.length + 1
            rw [h2]
          · show ((false, assign (.Name x p) X.env) :: assignEach es' X.env).findIdx? (·.1) = none
            rw [List.findIdx?_cons]
            simp [h3]
        | _ => simp [chkTg.chkNs] at h
  intro t e h
  cases t with
  | nm i =>
    unfold chkTg at h
    dsimp only at h
    split at h
    · rename_i x p
      rw [Bool.and_eq_true] at h
      obtain ⟨l1, l2⟩ := hf _ h.2
      exact sg_nm (pg_name o.g.nd (slotB_ok o h.1) l1 l2)
    · cases h
  | tp is =>
    unfold chkTg at h
    dsimp only at h
    split at h
    · obtain ⟨h1, h2, h3⟩ := nms h
      exact sg_tp o.g (pg_tup o.g.calm h1 h2 h3)
    · cases h
theorem notSet_fold {e : Expr} {env : Env} (h : notSetE e = true) (x : Value) : foldedSetIterable e env x = pure x := by
  cases e <;> first | rfl | cases h
theorem notSet_behind {e : Expr} (op : CmpOp) (h : notSetE e = true) : behindInMarks op e = false := by
  cases e <;> first | rfl | cases h
theorem notSet_last {o p : CmpOp} {e f : Expr} (h : notSetE f = true) : lastMarks [o, p] [e, f] = false := by
  show lastMarks [p] [f] = false
  exact notSet_behind p h
/-- a comprehension's block: its names are local there, or cells of the block -/
theorem blk_fn {sc scope : Scope} {s : Shared} {H : Hp} {C : Addr} {X : Cx} {cl : List (Str × Addr)} {fp : List Addr} (x : Str) (h : locB scope x = true) :
    Loc (X.blk s H scope (compEnvC scope cl C X.env) fp).env.scope x ∧ ((X.blk s H scope (compEnvC scope cl C X.env) fp).fn x = true ∨ (X.blk s H scope (compEnvC scope cl C X.env) fp).env.scope.names.lookup x = some .local) := by
  unfold locB at h
  split at h
  · rename_i e; exact ⟨.inl (lookup_relS_keep (by decide) e), .inr (lookup_relS_keep (by decide) e)⟩
  · rename_i e; exact ⟨.inr (lookup_relS_keep (by decide) e), .inl (by show (scope.names.lookup x == some .cell) = true; rw [e]; rfl)⟩
  · cases h
theorem ownOf_snd (own : List Nat) : (ownOf T own).map (·.2) = own := by
  unfold ownOf
  rw [List.map_map]
  exact List.map_id' own
theorem ifs1 (res : Res Bool) : (res.bind fun b M1 => if b = true then .ok true M1 else .ok false M1) = res := by
  cases res with
  | ok b M => cases b <;> rfl
  | _ => rfl
theorem sndC {own : List Nat} {tg : Tg} {it : Wk} {ifs : Es} {elt : E} {scope : Scope} {el t i : Expr} {cs : List Expr} {sc : Scope} {X : Cx} (o : OkC T G r sc X)
    (sit : ∀ {t x : Expr} {sc : Scope} {X : Cx}, OkC T G r sc X → chkIt T sc it x = true → PI X t x (tI G X (evalIt r it)))
    (sifs : ∀ {cs : List Expr} {sc : Scope} {X : Cx}, OkC T G r sc X → chkEs T sc ifs cs = true → cs.length ≤ 1 → cs.all notIf = true → PTs X cs (tG0 G (fun _ _ a b => a = b) (evalIfs r ifs)))
    (selt : ∀ {x : Expr} {sc : Scope} {X : Cx}, OkC T G r sc X → chkE T sc elt x = true → SE T G r sc X (evalE r elt) x)
    (h : (((((((blkC T.N sc scope (ownOf T own) = true ∧ chkIt T sc it i = true) ∧ notSetE i = true) ∧ chkTg T scope tg t = true) ∧ (tg.slots.all own.contains) = true) ∧ chkEs T (relS scope sc) ifs cs = true) ∧ decide (cs.length ≤ 1) = true) ∧ cs.all notIf = true) ∧ chkE T (relS scope sc) elt el = true) :
    BlkOk X.N X.env.scope scope (ownOf T own) ∧ PI X t i (tI G X (evalIt r it)) ∧
    (∀ (s : Shared) (H : Hp) (C : Addr) (cl : List (Str × Addr)) (fp : List Addr), PG (X.blk s H scope (compEnvC scope cl C X.env) fp) t (gS G tg)) ∧ (∀ j ∈ tg.slots, j ∈ own) ∧
    (∀ (s : Shared) (H : Hp) (C : Addr) (cl : List (Str × Addr)) (fp : List Addr), PTs (X.blk s H scope (compEnvC scope cl C X.env) fp) cs (tG0 G (fun _ _ a b => a = b) (evalIfs r ifs))) ∧
    (∀ (s : Shared) (H : Hp) (C : Addr) (cl : List (Str × Addr)) (fp : List Addr), PE (X.blk s H scope (compEnvC scope cl C X.env) fp) el (tG0 G (RepA G) (evalE r elt))) ∧ (∀ x, foldedSetIterable i X.env x = pure x) := by
  obtain ⟨⟨⟨⟨⟨⟨⟨⟨h1, h2⟩, h3⟩, h4⟩, h5⟩, h6⟩, h7⟩, h8⟩, h9⟩ := h
  refine ⟨by rw [o.hN, o.hs]; exact blkOk_by h1, sit o h2, fun s H C cl fp => sg_tg (o.blk s H scope C cl fp) (fun x hx => blk_fn (sc := sc) x hx) h4, fun j hj => ?_, fun s H C cl fp => ?_, fun s H C cl fp => ?_, fun x => notSet_fold h3 x⟩
  · have := List.all_eq_true.mp h5 j hj
    exact List.contains_iff_mem.mp this
  · exact sifs (o.blk s H scope C cl fp) h6 (of_decide_eq_true h7) h8
  · exact (selt (o.blk s H scope C cl fp) h9).e.imp fun σ H Q q => tG0.to q
mutual
theorem sndE : ∀ (e : E) {x : Expr} {sc : Scope} {X : Cx}, OkC T G r sc X → chkE T sc e x = true → SE T G r sc X (evalE r e) x
  | .cn, x, sc, X, o, h => by
    unfold chkE at h; split at h
    · exact .of o (se_const pe_non fun _ => .non) (fun _ => rfl) rfl
    · cases h
  | .cb b, x, sc, X, o, h => by
    unfold chkE at h; split at h
    · obtain rfl := eq_of_beq h; exact .of o (se_const pe_bl fun _ => .bl _) (fun _ => rfl) rfl
    · cases h
  | .ci i, x, sc, X, o, h => by
    unfold chkE at h; split at h
    · obtain rfl := of_decide_eq_true h; exact .of o (se_const pe_int fun _ => .int _) (fun _ => rfl) rfl
    · cases h
  | .cs z, x, sc, X, o, h => by
    unfold chkE at h; split at h
    · obtain rfl := eq_of_beq h; exact .of o (se_const pe_str fun _ => .str _) (fun _ => rfl) rfl
    · cases h
  | .v i, x, sc, X, o, h => by
    unfold chkE at h; split at h
    · simp only [Bool.and_eq_true] at h
      obtain ⟨s1, s2, _⟩ := special_ok h.2
      exact .of o (se_var (pe_var (slotB_ok o h.1.1) (visB_ok o h.1.2) s1 s2)) (fun _ => rfl) rfl
    · cases h
  | .gi y i, x, sc, X, o, h => by
    unfold chkE at h; split at h
    · simp only [Bool.and_eq_true] at h
      obtain ⟨⟨⟨h1, h2⟩, h3⟩, h4⟩ := h
      obtain ⟨s1, s2, _⟩ := special_ok h4
      obtain rfl := eq_of_beq h1
      obtain ⟨t, ht⟩ := o.gi _ (List.contains_iff_mem.mp h3)
      exact .of o (se_const (pe_glob (v := .int i) (glB_ok o h2) ht ⟨t, rfl⟩ s1) fun _ => .int _) (fun _ => rfl) rfl
    · cases h
  | .gs y i, x, sc, X, o, h => by
    unfold chkE at h; split at h
    · simp only [Bool.and_eq_true] at h
      obtain ⟨⟨⟨h1, h2⟩, h3⟩, h4⟩ := h
      obtain ⟨s1, s2, _⟩ := special_ok h4
      obtain rfl := eq_of_beq h1
      obtain ⟨t, ht⟩ := o.gs _ (List.contains_iff_mem.mp h3)
      exact .of o (se_const (pe_glob (v := .str i) (glB_ok o h2) ht ⟨t, rfl⟩ s1) fun _ => .str _) (fun _ => rfl) rfl
    · cases h
  | .bin p m a b, x, sc, X, o, h => by
    unfold chkE at h; split at h
    · simp only [Bool.and_eq_true] at h
      obtain rfl := of_decide_eq_true h.1.1
      exact .of o (se_bin o.g (sndE a o h.1.2).e (sndE b o h.2).e) (fun _ => rfl) rfl
    · cases h
  | .neg a, x, sc, X, o, h => by
    unfold chkE at h; split at h
    · exact .of o (se_neg (sndE a o h).e) (fun _ => rfl) rfl
    · cases h
  | .nt a, x, sc, X, o, h => by
    unfold chkE at h; split at h
    · simp only [Bool.and_eq_true] at h
      have ih := sndE a o h.1
      refine ⟨se_not o.g ih.e, fun _ => ?_, fun q => by cases q⟩
      refine (st_not (ih.t h.2)).imp fun σ H Q q => ?_
      obtain ⟨Φ, F, ρ, σA, M, W, m, er, tk, p⟩ := q
      refine ⟨Φ, F, ρ, σA, M, W, m, er, tk, ?_⟩
      have e : ∀ res : Res Bool, ((res.bind fun b M1 => val (.bl (!b)) M1).bind truR) = res.bind fun b M1 => .ok (!b) M1 := by
        intro res
        cases res with
        | ok b M => cases b <;> rfl
        | _ => rfl
      show PRG G Φ F ρ (((evalE r a σA M).bind truR).bind fun b M1 => .ok (!b) M1) _ _ _
      rw [← e]; exact p
    · cases h
  | .an a b, x, sc, X, o, h => by
    unfold chkE at h; split at h
    · simp only [Bool.and_eq_true] at h
      have i1 := sndE a o h.1.1.1
      have i2 := sndE b o h.1.1.2
      rename_i p0
      have w := sw_and (pos := p0) (i1.t h.1.2) (pw_and1 (pos := p0) (i2.t h.2))
      exact ⟨se_and i1.e ⟨i2.e.run⟩, fun _ => w.pt, fun _ => w⟩
    · simp only [Bool.and_eq_true] at h
      have i1 := sndE a o h.1.1
      have i2 := sndE b o h.1.2
      have w := sw_and (i1.t h.2) (i2.w rfl)
      exact ⟨se_and i1.e i2.e, fun _ => w.pt, fun _ => w⟩
    · cases h
  | .or_ a b, x, sc, X, o, h => by
    unfold chkE at h; split at h
    · simp only [Bool.and_eq_true] at h
      have i1 := sndE a o h.1.1.1
      have i2 := sndE b o h.1.1.2
      rename_i p0
      have w := sw_or (pos := p0) (i1.t h.1.2) (pw_or1 (pos := p0) (i2.t h.2))
      exact ⟨se_or i1.e ⟨i2.e.run⟩, fun _ => w.pt, fun _ => w⟩
    · simp only [Bool.and_eq_true] at h
      have i1 := sndE a o h.1.1
      have i2 := sndE b o h.1.2
      have w := sw_or (i1.t h.2) (i2.w rfl)
      exact ⟨se_or i1.e i2.e, fun _ => w.pt, fun _ => w⟩
    · cases h
  | .ifx c a b, x, sc, X, o, h => by
    unfold chkE at h; split at h
    · simp only [Bool.and_eq_true] at h
      exact ⟨se_ifx ((sndE c o h.1.1.1).t h.2) (sndE a o h.1.1.2).e (sndE b o h.1.2).e, fun q => (by cases q), fun q => by cases q⟩
    · cases h
  | .cmp p a b, x, sc, X, o, h => by
    unfold chkE at h; split at h
    · simp only [Bool.and_eq_true] at h
      obtain rfl := of_decide_eq_true h.1.1.1
      have i1 := sndE a o h.1.1.2
      have i2 := sndE b o h.1.2
      exact ⟨se_cmp o.g i1.e i2.e (notSet_behind _ h.2), fun _ => st_cmp o.g i1.e i2.e (notSet_behind _ h.2), fun q => by cases q⟩
    · cases h
  | .cmp2 p q a b c, x, sc, X, o, h => by
    unfold chkE at h; split at h
    · simp only [Bool.and_eq_true] at h
      obtain ⟨⟨⟨⟨⟨h1, h2⟩, h3⟩, h4⟩, h5⟩, h6⟩ := h
      obtain rfl := of_decide_eq_true h1
      obtain rfl := of_decide_eq_true h2
      have i1 := sndE a o h3
      have i2 := sndE b o h4
      have i3 := sndE c o h5
      exact ⟨se_cmp2 o.g i1.e i2.e i3.e (notSet_last h6), fun _ => st_cmp2 o.g i1.e i2.e i3.e (notSet_last h6), fun q => by cases q⟩
    · cases h
  | .tup es, x, sc, X, o, h => by
    unfold chkE at h; split at h
    · simp only [Bool.and_eq_true] at h
      exact .of o (se_tup (sndEs es o h.1 h.2)) (fun _ => rfl) rfl
    · cases h
  | .lst m es, x, sc, X, o, h => by
    unfold chkE at h; split at h
    · simp only [Bool.and_eq_true] at h
      exact .of o (se_lst (sndEs es o h.1 h.2)) (fun _ => rfl) rfl
    · cases h
  | .sub a i, x, sc, X, o, h => by
    unfold chkE at h; split at h
    · simp only [Bool.and_eq_true] at h
      exact .of o (se_sub o.g (sndE a o h.1.1).e (sndE i o h.1.2).e h.2) (fun _ => rfl) rfl
    · cases h
  | .slc m a lo hi, x, sc, X, o, h => by
    unfold chkE at h; split at h
    · simp only [Bool.and_eq_true] at h
      exact .of o (se_slc o.g (sndE a o h.1.1).e (sndPt lo o h.1.2) (sndPt hi o h.2)) (fun _ => rfl) rfl
    · cases h
  | .rev m a, x, sc, X, o, h => by
    unfold chkE at h; split at h
    · simp only [Bool.and_eq_true] at h
      obtain rfl := of_decide_eq_true h.1
      exact .of o (se_rev o.g (sndE a o h.2).e) (fun _ => rfl) rfl
    · cases h
  | .dct m kvs, x, sc, X, o, h => by
    unfold chkE at h; split at h
    · simp only [Bool.and_eq_true] at h
      obtain ⟨⟨h1, h2⟩, h3⟩ := h
      refine .of o ?_ (fun _ => rfl) rfl
      rename_i ks vs p0
      have pp := fun pos => sndPs kvs (pos := pos) o h1
      cases ks with
      | nil =>
        have hv : vs = [] := by
          have := of_decide_eq_true h3
          cases vs with
          | nil => rfl
          | cons => simp at this
        subst hv
        have ek : kvs = .nil := by
          cases kvs with
          | nil => rfl
          | cons k es => cases es with
            | nil => unfold chkPs at h1; cases h1
            | cons v es => unfold chkPs at h1; cases h1
        subst ek
        exact pe_dnewK.imp fun σ H Q q => imp_dct0 (r := r) (m := m) q
      | cons k ks =>
        exact (pe_disp (pp p0).1 (pp p0).2 (of_decide_eq_true h3) (fun q => nomatch q) (of_decide_eq_true h2)).imp fun σ H Q q => imp_dct (r := r) (m := m) q
    · cases h
  | .isi a cs, x, sc, X, o, h => by
    unfold chkE at h; split at h
    · simp only [Bool.and_eq_true] at h
      obtain ⟨⟨⟨⟨⟨h1, h2⟩, h3⟩, h4⟩, h5⟩, h6⟩ := h
      obtain rfl := eq_of_beq h1
      exact .of o (se_isi o (sndE a o h4).e h5 (of_decide_eq_true h2) h3 (.inl ⟨_, _, rfl, h6⟩)) (fun _ => rfl) rfl
    · simp only [Bool.and_eq_true] at h
      obtain ⟨⟨⟨⟨⟨h1, h2⟩, h3⟩, h4⟩, h5⟩, h6⟩ := h
      obtain rfl := eq_of_beq h1
      exact .of o (se_isi o (sndE a o h4).e h5 (of_decide_eq_true h2) h3 (.inr ⟨_, _, _, rfl, h6⟩)) (fun _ => rfl) rfl
    · cases h
  | .call k md es dfl, x, sc, X, o, h => by
    unfold chkE at h; split at h
    · split at h
      · rename_i g np e
        simp only [Bool.and_eq_true] at h
        obtain ⟨⟨⟨⟨⟨⟨h1, h2⟩, h3⟩, h4⟩, h5⟩, h6⟩, h7⟩ := h
        obtain rfl := eq_of_beq h1
        obtain ⟨fa, fd, ps, lev, F, hr, hm, hk, hb⟩ := o.fns _ _ _ e
        obtain ⟨s1, s2, _⟩ := special_ok h3
        have ed : dfl = [] := List.isEmpty_iff.mp h6
        subst ed
        have hn : es.len = np := of_decide_eq_true h7
        have ha := sndEs es o h4 h5
        cases es with
        | nil =>
          unfold chkEs at h4
          obtain rfl := List.isEmpty_iff.mp h4
          exact .of o (se_call0 (dvs := []) F hr (glB_ok o h2) hm hk hb .nil (fun _ => .nil) s1 hn) (fun _ => rfl) rfl
        | cons e1 es1 =>
          unfold chkEs at h4
          split at h4
          · exact .of o (se_call (dvs := []) F hr (glB_ok o h2) hm hk hb .nil (fun _ => .nil) ha s1 h5 (by rw [← hn]; rfl)) (fun _ => rfl) rfl
          · cases h4
      · cases h
    · cases h
  | .bi b m es, x, sc, X, o, h => by
    unfold chkE at h; split at h
    · simp only [Bool.and_eq_true] at h
      obtain ⟨⟨⟨h1, h2⟩, h3⟩, h4⟩ := h
      obtain rfl := eq_of_beq h1
      obtain ⟨g1, g2⟩ := freeB_ok o h2
      have ha := sndEs es o h3 h4
      refine .of o ?_ (fun _ => rfl) rfl
      cases b with
      | len => exact se_bi (bi_len o.g.hK) g1 g2 rfl ha (by decide) (by decide) h4
      | all => exact se_bi (bi_all o.g) g1 g2 rfl ha (by decide) (by decide) h4
      | any => exact se_bi (bi_any o.g) g1 g2 rfl ha (by decide) (by decide) h4
      | sum => exact se_bi (bi_sum o.g) g1 g2 rfl ha (by decide) (by decide) h4
      | min2 => exact se_bi (bi_intI (call_min2 o.g.calm)) g1 g2 rfl ha (by decide) (by decide) h4
      | max2 => exact se_bi (bi_intI (call_max2 o.g.calm)) g1 g2 rfl ha (by decide) (by decide) h4
      | strI => exact se_ty bi_strI g1 g2 rfl ha (by decide) (by decide) h4
      | list => exact se_ty (bi_list o.g m) g1 g2 rfl ha (by decide) (by decide) h4
      | tuple => exact se_ty (bi_tuple o.g.hK) g1 g2 rfl ha (by decide) (by decide) h4
      | int => exact se_ty bi_int g1 g2 rfl ha (by decide) (by decide) h4
    · cases h
  | .bm b m a es, x, sc, X, o, h => by
    unfold chkE at h; split at h
    · simp only [Bool.and_eq_true] at h
      obtain ⟨⟨⟨⟨⟨⟨h1, h2⟩, h3⟩, h4⟩, h5⟩, h6⟩, h7⟩ := h
      obtain rfl := eq_of_beq h1
      have ho := (sndE a o h2).e
      have ha := sndEs es o h5 h6
      have lt := of_decide_eq_true h7
      refine .of o ?_ (fun _ => rfl) rfl
      rename_i xs _
      cases xs with
      | nil =>
        have en : es = .nil := by
          cases es with
          | nil => rfl
          | cons => unfold chkEs at h5; cases h5
        subst en
        cases b with
        | join => exact (pe_bm0 PySem.F.plainAttrs_str PySem.F.slot_str_join PySem.F.type_str_join (mt_joinA (k := m) o.g.hK) ho (plainBase_ok h3) h4).imp fun σ H Q q => imp_bm0 q fun _ ra hh => recv_str ra hh
        | upper => exact (pe_bm0 PySem.F.plainAttrs_str PySem.F.slot_str_upper PySem.F.type_str_upper (mt_upperA (k := m)) ho (plainBase_ok h3) h4).imp fun σ H Q q => imp_bm0 q fun _ ra hh => recv_str ra hh
      | cons y ys =>
        have h6' := h6
        rw [List.all_cons, Bool.and_eq_true] at h6'
        cases b with
        | join => exact (pe_bm PySem.F.plainAttrs_str PySem.F.slot_str_join PySem.F.type_str_join (mt_joinA (k := m) o.g.hK) ho ha (plainBase_ok h3) (few_ok h6 lt) h4 (starEach_cons h6'.1) (noStar_any h6'.2)).imp fun σ H Q q => imp_bm q fun _ ra hh => recv_str ra hh
        | upper => exact (pe_bm PySem.F.plainAttrs_str PySem.F.slot_str_upper PySem.F.type_str_upper (mt_upperA (k := m)) ho ha (plainBase_ok h3) (few_ok h6 lt) h4 (starEach_cons h6'.1) (noStar_any h6'.2)).imp fun σ H Q q => imp_bm q fun _ ra hh => recv_str ra hh
    · cases h
  | .comp m own tg it ifs elt, x, sc, X, o, h => by
    unfold chkE at h; split at h
    · obtain ⟨ok, hi, hg, hv, ht, he, hs⟩ := sndC o (fun o h => sndIt it o h) (fun o h a b => sndIfs ifs o h a b) (fun o h => sndE elt o h) (by simpa only [Bool.and_eq_true] using h)
      refine .of o ?_ (fun _ => rfl) rfl
      rename_i p0
      have := se_comp (k := m) (pos := p0) o.g hi ok hg ht he hs (by rw [ownOf_snd]; exact hv)
      rw [ownOf_snd] at this
      exact this
    · cases h
theorem sndIfs : ∀ (ifs : Es) {cs : List Expr} {sc : Scope} {X : Cx}, OkC T G r sc X → chkEs T sc ifs cs = true → cs.length ≤ 1 → cs.all notIf = true → PTs X cs (tG0 G (fun _ _ a b => a = b) (evalIfs r ifs))
  | .nil, cs, sc, X, o, h6, h7, h8 => by
    unfold chkEs at h6
    obtain rfl := List.isEmpty_iff.mp h6
    refine ⟨fun pins s σ H Q I q => pts_nil.run pins s σ H Q I ?_⟩
    obtain ⟨Φ, F, ρ, σA, M, m, er, p⟩ := q
    exact p _ _ _ _ .refl m rfl
  | .cons c1 ifs', cs, sc, X, o, h6, h7, h8 => by
    unfold chkEs at h6
    split at h6
    · rename_i y ys
      simp only [Bool.and_eq_true] at h6
      have tt0 := sndE c1 o h6.1
      have hy : ys = [] := by
        cases ys with
        | nil => rfl
        | cons => simp at h7
      subst hy
      have en : ifs' = .nil := by
        cases ifs' with
        | nil => rfl
        | cons => have := h6.2; unfold chkEs at this; cases this
      subst en
      rw [List.all_cons, Bool.and_eq_true] at h8
      have tt := tt0.t h8.1
      refine pts_one (tt.imp fun σ H Q q => ?_)
      obtain ⟨Φ, F, ρ, σA, M, m, er, p⟩ := q
      refine tG0.to ⟨Φ, F, ρ, σA, M, m, er, ?_⟩
      have e : evalIfs r (.cons c1 .nil) σA M = (evalE r c1 σA M).bind truR := ifs1 _
      rw [e] at p
      exact p
    · cases h6
theorem sndEs : ∀ (e : Es) {xs : List Expr} {sc : Scope} {X : Cx}, OkC T G r sc X → chkEs T sc e xs = true → xs.all notStar = true → PA X xs (tL G X (evalEs r e))
  | .nil, xs, sc, X, o, h, hs => by
    unfold chkEs at h
    obtain rfl := List.isEmpty_iff.mp h
    exact sa_nil
  | .cons e es, xs, sc, X, o, h, hs => by
    unfold chkEs at h; split at h
    · simp only [Bool.and_eq_true] at h
      rw [List.all_cons, Bool.and_eq_true] at hs
      exact sa_cons (sndE e o h.1).e (sndEs es o h.2 hs.2) hs.1
    · cases h
theorem sndPs : ∀ (e : Es) {ks : List (Option Expr)} {vs : List Expr} {pos : Pos} {sc : Scope} {X : Cx}, OkC T G r sc X → chkPs T sc e ks vs = true → PPs X pos ks vs (trsOf G r e) ∧ ks.all (·.isSome) = true
  | .nil, ks, vs, pos, sc, X, o, h => by
    unfold chkPs at h
    simp only [Bool.and_eq_true] at h
    obtain rfl := List.isEmpty_iff.mp h.1
    obtain rfl := List.isEmpty_iff.mp h.2
    exact ⟨pps_nil, rfl⟩
  | .cons _ .nil, ks, vs, pos, sc, X, o, h => by unfold chkPs at h; cases h
  | .cons k (.cons v es), ks, vs, pos, sc, X, o, h => by
    unfold chkPs at h; split at h
    · simp only [Bool.and_eq_true] at h
      obtain ⟨⟨h1, h2⟩, h3⟩ := h
      obtain ⟨i1, i2⟩ := sndPs es (pos := pos) o h3
      exact ⟨pps_cons ((sndE k o h1).e.imp fun _ _ _ q => tG0.to q) ((sndE v o h2).e.imp fun _ _ _ q => tG0.to q) i1, by rw [List.all_cons, i2]; rfl⟩
    · cases h
theorem sndPt : ∀ (e : Es) {x : Option Expr} {sc : Scope} {X : Cx}, OkC T G r sc X → chkPt T sc e x = true → PO X x (tG G X (fun _ _ a b => a = b) (evalPt r e))
  | .nil, x, sc, X, o, h => by
    unfold chkPt at h
    obtain rfl := Option.isNone_iff_eq_none.mp h
    exact so_none
  | .cons e .nil, x, sc, X, o, h => by
    unfold chkPt at h; split at h
    · exact so_some (sndE e o h).e
    · cases h
  | .cons _ (.cons _ _), x, sc, X, o, h => by unfold chkPt at h; cases h
theorem sndIt : ∀ (w : Wk) {t x : Expr} {sc : Scope} {X : Cx}, OkC T G r sc X → chkIt T sc w x = true → PI X t x (tI G X (evalIt r w))
  | .e a, t, x, sc, X, o, h => by
    unfold chkIt at h
    exact si_any o.g (sndE a o h).e
  | .rng1 a, t, x, sc, X, o, h => by
    unfold chkIt at h; split at h
    · simp only [Bool.and_eq_true] at h
      obtain ⟨⟨⟨h1, h2⟩, h3⟩, h4⟩ := h
      obtain rfl := eq_of_beq h1
      obtain ⟨g1, g2⟩ := freeB_ok o h2
      exact si_rng1 g1 g2 (sndE a o h3).e h4
    · cases h
  | .rng2 a b, t, x, sc, X, o, h => by
    unfold chkIt at h; split at h
    · simp only [Bool.and_eq_true] at h
      obtain ⟨⟨⟨⟨⟨h1, h2⟩, h3⟩, h4⟩, h5⟩, h6⟩ := h
      obtain rfl := eq_of_beq h1
      obtain ⟨g1, g2⟩ := freeB_ok o h2
      exact si_rng2 g1 g2 (sndE a o h3).e (sndE b o h4).e h5 h6
    · cases h
  | .items _, t, x, sc, X, o, h => by unfold chkIt at h; cases h
  | .values _, t, x, sc, X, o, h => by unfold chkIt at h; cases h
  | .enum _, t, x, sc, X, o, h => by unfold chkIt at h; cases h
  | .zip _ _, t, x, sc, X, o, h => by unfold chkIt at h; cases h
end
end
end Fz

set_option maxHeartbeats 4000000
namespace Fz
open PySem L2 PyProof.Rows
def isStar : Expr → Bool
  | .Starred _ _ => true
  | _ => false
theorem swap2_ok {x y : Str} {a b : Expr} {px py pt pt2 : Pos} {kt k2 : Nat} {env : Env} (hk : env.scope.kind = .function) (hx : env.scope.names.lookup x = some .local) (hy : env.scope.names.lookup y = some .local) (hl : (py.line == px.line) = true)
    (hs : [a, b].all notStar = true) (hne : x ≠ y) (hb : swapB [a, b] = true) : swappedStores [.Tuple [.Name x px, .Name y py] kt pt] (.Tuple [a, b] k2 pt2) env = pure (some [x, y]) := by
  unfold swapB at hb
  rw [Bool.and_eq_true, Bool.not_eq_true', Bool.not_eq_true'] at hb
  have kx : env.kindOf x = some .local := hx
  have ky : env.kindOf y = some .local := hy
  have bk : env.blockKind = .function := by unfold Env.blockKind; rw [hk]; rfl
  have e2 : [a, b].any isStar = false := by
    have h1 : ∀ e, notStar e = true → isStar e = false := fun e h => by cases e <;> first | rfl | cases h
    simp only [List.all_cons, List.all_nil, Bool.and_true, Bool.and_eq_true] at hs
    simp [h1 _ hs.1, h1 _ hs.2]
  show (if (!(2 == 2 || 2 == 3) || 2 != 2 || env.blockKind != .function) = true then pure none else if [a, b].any isStar = true then pure none else _ : Sem (Option (List Str))) = _
  rw [bk, if_neg (by decide), e2, if_neg (by decide)]
  simp [kx, ky, hl, hb.1, hb.2]
  have hl' : py.line = (Expr.Name x px).pos.line := eq_of_beq hl
  have ex : (Expr.Name x px).pos.line = px.line := rfl
  have ed : [x, y].eraseDups = [x, y] := by
    have : (y == x) = false := by simpa using Ne.symm hne
    simp [List.eraseDups_cons, List.eraseDups_nil, this]
  rw [ex] at hl' ⊢
  simp only [List.filterMap_cons, List.filterMap_nil, kx, ky, hl', true_and, if_true, and_self]
  rw [ed]
  simp
theorem swap3_ok {x y z : Str} {a b c : Expr} {px py pz pt pt2 : Pos} {kt k2 : Nat} {env : Env} (hk : env.scope.kind = .function) (hx : env.scope.names.lookup x = some .local) (hy : env.scope.names.lookup y = some .local) (hz : env.scope.names.lookup z = some .local) (hl : (py.line == px.line) = true) (hl2 : (pz.line == px.line) = true)
    (hs : [a, b, c].all notStar = true) (hne : x ≠ y) (hn2 : x ≠ z) (hn3 : y ≠ z) (hb : swapB [a, b, c] = true) : swappedStores [.Tuple [.Name x px, .Name y py, .Name z pz] kt pt] (.Tuple [a, b, c] k2 pt2) env = pure (some [x, y, z]) := by
  unfold swapB at hb
  rw [Bool.and_eq_true, Bool.not_eq_true', Bool.not_eq_true'] at hb
  have kx : env.kindOf x = some .local := hx
  have ky : env.kindOf y = some .local := hy
  have kz : env.kindOf z = some .local := hz
  have bk : env.blockKind = .function := by unfold Env.blockKind; rw [hk]; rfl
  have e2 : [a, b, c].any isStar = false := by
    have h1 : ∀ e, notStar e = true → isStar e = false := fun e h => by cases e <;> first | rfl | cases h
    simp only [List.all_cons, List.all_nil, Bool.and_true, Bool.and_eq_true] at hs
    simp [h1 _ hs.1, h1 _ hs.2.1, h1 _ hs.2.2]
  show (if (!(3 == 2 || 3 == 3) || 3 != 3 || env.blockKind != .function) = true then pure none else if [a, b, c].any isStar = true then pure none else _ : Sem (Option (List Str))) = _
  rw [bk, if_neg (by decide), e2, if_neg (by decide)]
  simp [kx, ky, kz, hl, hl2, hb.1, hb.2]
  have hl' : py.line = (Expr.Name x px).pos.line := eq_of_beq hl
  have hl2' : pz.line = (Expr.Name x px).pos.line := eq_of_beq hl2
  have ex : (Expr.Name x px).pos.line = px.line := rfl
  have ed : [x, y, z].eraseDups = [x, y, z] := by
    have h1 : (y == x) = false := by simpa using Ne.symm hne
    have h2 : (z == x) = false := by simpa using Ne.symm hn2
    have h3 : (z == y) = false := by simpa using Ne.symm hn3
    simp [List.eraseDups_cons, List.eraseDups_nil, h1, h2, h3]
  rw [ex] at hl' hl2' ⊢
  simp only [List.filterMap_cons, List.filterMap_nil, kx, ky, kz, hl', hl2', true_and, if_true, and_self]
  rw [ed]
  simp
section
variable {T : Tab} {G : Gd} {r : Run}
theorem noComp_sw {v : Expr} (h : notComp v = true) (t : Option Expr) (l : Nat) (env : Env) : swapsWith v t l env = pure false := by
  cases v <;> first | rfl | cases h
theorem noComp_sole {v : Expr} (h : notComp v = true) (t : Expr) (l : Nat) (env : Env) : swapsWithSole [t] v l env = pure false := noComp_sw h _ _ _
theorem swap_none {ts vs : List Expr} {k1 k2 : Nat} {p1 p2 : Pos} {env : Env} (h : (!(ts.length == 2 || ts.length == 3) || vs.all (foldedForSure 8)) = true) : swappedStores [.Tuple ts k1 p1] (.Tuple vs k2 p2) env = pure none := by
  unfold swappedStores
  simp only []
  rw [Bool.or_eq_true] at h
  rcases h with h | h
  · rw [h]; rfl
  · rw [h]
    repeat (first | rfl | split)
theorem noSwap_ok {t v : Expr} {env : Env} (h : noSwap t v = true) : swappedStores [t] v env = pure none := by
  cases t with
  | Name x p => rfl
  | Tuple ts k p =>
    cases v with
    | Tuple vs k2 p2 => exact swap_none h
    | _ => rfl
  | _ => cases h
/-- what a statement may lean on, beside the names: a def's body -/
structure OkS (T : Tab) (G : Gd) (r : Run) (sc : Scope) (X : Cx) : Prop extends OkC T G r sc X where
  own : PassesOwn (model X.prog X.w) X.A X.env X.xe
  fn : ∀ x, X.fn x = true
theorem OkS.tg {sc : Scope} {X : Cx} (o : OkS T G r sc X) {t : Tg} {e : Expr} (h : chkTg T sc t e = true) : PG X e (gS G t) := sg_tg o.toOkC (fun x hx => ⟨locB_ok o.toOkC hx, .inl (o.fn x)⟩) h
theorem localB_ok {sc : Scope} {X : Cx} (o : OkC T G r sc X) {x : Str} (h : localB sc x = true) : X.env.scope.names.lookup x = some .local := by
  rw [o.hs]
  unfold localB at h
  split at h
  · rename_i e; exact e
  · cases h
theorem namesB_get {sc : Scope} {X : Cx} (o : OkC T G r sc X) {l : Nat} : ∀ {is : List Nat} {es : List Expr}, namesB T sc l is es = true → ∀ (n : Nat) (e : Expr), es[n]? = some e → ∃ (x : Str) (p : Pos) (i : Nat), e = .Name x p ∧ is[n]? = some i ∧ X.N[i]? = some x ∧ X.env.scope.names.lookup x = some .local ∧ (p.line == l) = true
  | [], [], _, n, e, he => by simp at he
  | i :: is, [], h, n, e, he => by simp [namesB] at h
  | [], _ :: _, h, n, e, he => by simp [namesB] at h
  | i :: is, e0 :: es, h, n, e, he => by
    cases e0 with
    | Name x p =>
      simp only [namesB, Bool.and_eq_true] at h
      cases n with
      | zero => simp at he; subst he; exact ⟨x, p, i, rfl, rfl, slotB_ok o h.1.1.1, localB_ok o h.1.1.2, h.1.2⟩
      | succ n => exact namesB_get o h.2 n e (by simpa using he)
    | _ => simp [namesB] at h
theorem nodup_ix {N : List Str} (hN : N.Nodup) {i j : Nat} {x : Str} (hi : N[i]? = some x) (hj : N[j]? = some x) : i = j := (List.getElem?_inj (List.getElem?_eq_some_iff.mp hi).1 hN).mp (hi.trans hj.symm)
theorem ne_of_ix {N : List Str} {i j : Nat} {x y : Str} (hN : N.Nodup) (hi : N[i]? = some x) (hj : N[j]? = some y) (h : i ≠ j) : x ≠ y := fun e => h (nodup_ix hN hi (e ▸ hj))
/-- a, b[, c] = x, y[, z] -/
theorem ss_par {sc : Scope} {X : Cx} {is : List Nat} {ts vs : List Expr} {kt k2 : Nat} {pt pt2 pos : Pos} {l : Nat} {fl : CE (List A)} (o : OkC T G r sc X) (hn : namesB T sc l is ts = true) (hl : ∃ x px rest, ts = .Name x px :: rest ∧ px.line = l) (hd : nodupB is = true) (ha : PA X vs (tL G X fl)) (hs : vs.all notStar = true) (hb : swapB vs = true)
    (hlen : vs.length = ts.length) (h23 : ts.length = 2 ∨ ts.length = 3) (hk : sc.kind = .function) :
    PS X (.Assign [.Tuple ts kt pt] (.Tuple vs k2 pt2) pos) (tSS G X fun σ M => (fl σ M).st σ fun as M1 => match setAll is as σ with
      | some σ' => .nx σ' M1
      | none => .no) := by
  have hk' : X.env.scope.kind = .function := by rw [o.hs]; exact hk
  have ndi := nodupB_ok hd
  rcases h23 with h2 | h3
  · match ts, vs, h2, hlen with
    | [t1, t2], [v1, v2], _, _ =>
      obtain ⟨x, px, i, rfl, hi, nx, lx, ex⟩ := namesB_get o hn 0 t1 rfl
      obtain ⟨y, py, j, rfl, hj, ny, ly, ey⟩ := namesB_get o hn 1 t2 rfl
      obtain ⟨_, _, _, e, hpl⟩ := hl
      cases e
      have his : is = [i, j] := by
        cases is with
        | nil => simp at hi
        | cons a is => cases is with
          | nil => simp at hj
          | cons b is => cases is with
            | nil => simp at hi hj; rw [hi, hj]
            | cons c is => simp [namesB] at hn
      subst his
      have hij : i ≠ j := fun e => by subst e; simp at ndi
      exact ss_par2 ⟨_, ps_par o.g.calm o.g.nd nx ny hij lx ly ha (swap2_ok hk' lx ly (by rw [hpl]; exact ey) hs (ne_of_ix o.g.nd nx ny hij) hb) rfl, rfl⟩
  · match ts, vs, h3, hlen with
    | [t1, t2, t3], [v1, v2, v3], _, _ =>
      obtain ⟨x, px, i, rfl, hi, nx, lx, ex⟩ := namesB_get o hn 0 t1 rfl
      obtain ⟨y, py, j, rfl, hj, ny, ly, ey⟩ := namesB_get o hn 1 t2 rfl
      obtain ⟨z, pz, q, rfl, hq, nz, lz, ez⟩ := namesB_get o hn 2 t3 rfl
      obtain ⟨_, _, _, e, hpl⟩ := hl
      cases e
      have his : is = [i, j, q] := by
        cases is with
        | nil => simp at hi
        | cons a is => cases is with
          | nil => simp at hj
          | cons b is => cases is with
            | nil => simp at hq
            | cons c is => cases is with
              | nil => simp at hi hj hq; rw [hi, hj, hq]
              | cons d is => simp [namesB] at hn
      subst his
      have hij : i ≠ j := fun e => by subst e; simp at ndi
      have hiq : i ≠ q := fun e => by subst e; simp at ndi
      have hjq : j ≠ q := fun e => by subst e; simp at ndi
      exact ss_par3 ⟨_, ps_par3 o.g.calm o.g.nd nx ny nz hij hiq hjq lx ly lz ha (swap3_ok hk' lx ly lz (by rw [hpl]; exact ey) (by rw [hpl]; exact ez) hs (ne_of_ix o.g.nd nx ny hij) (ne_of_ix o.g.nd nx nz hiq) (ne_of_ix o.g.nd ny nz hjq) hb) rfl, rfl⟩
theorem sub_asg {i o : Expr} {p : Pos} {env : Env} (h : plainB i = true) (v : Value) : assign (.Subscript o i p) env v = (do
      let ov ← holding [v] (eval o env)
      let iv ← holding [v, ov] (eval i env)
      standAt p
      holding [v, ov, iv] (setItem ov iv v)
      release [v, ov, iv] []) := by
  cases i with
  | Slice lo hi st p => cases st with
    | none => cases h
    | some s => rfl
  | _ => rfl
mutual
theorem sndS : ∀ (e : S) {x : Stmt} {sc : Scope} {X : Cx}, OkS T G r sc X → chkS T sc e x = true → PS X x (tSS G X (evalS r e))
  | .asg tg e, x, sc, X, o, h => by
    unfold chkS at h; split at h
    · simp only [Bool.and_eq_true] at h
      obtain ⟨⟨⟨h1, h2⟩, h3⟩, h4⟩ := h
      have hg := o.tg h1
      refine ss_asg (sndE e o.toOkC h2).e hg (noComp_sole h4 _ _ _) (noSwap_ok h3) ?_
      rename_i t v pos
      cases t with
      | Name => rfl
      | Tuple => rfl
      | _ => cases h3
    · cases h
  | .asgL i m own tg it ifs elt, x, sc, X, o, h => by
    unfold chkS at h; split at h
    · simp only [Bool.and_eq_true] at h
      obtain ⟨⟨⟨h1, h2⟩, h3⟩, h4⟩ := h
      unfold chkE at h2
      simp only [Bool.and_eq_true] at h2
      obtain ⟨ok, hi, hg, hv, ht, he, hs⟩ := sndC o.toOkC (fun o h => sndIt it o h) (fun o h a b => sndIfs ifs o h a b) (fun o h => sndE elt o h) h2
      unfold lineB at h3
      simp only [Bool.and_eq_true, Bool.not_eq_true'] at h3
      have hk : X.env.scope.kind = .function := by rw [o.hs]; exact of_decide_eq_true h4
      have hl := localB_ok o.toOkC h3.1.1
      refine ss_name ((ps_setLc o.g.calm o.g.nd (slotB_ok o.toOkC h1) hl (sw_true hk hl h3.1.2 h3.2) hi ok hg ht he hs).imp fun D σ H q => ?_)
      refine imp_comp (k := m) (by rw [ownOf_snd]; exact hv) ?_
      rw [ownOf_snd]
      exact q
    · cases h
  | .ex e, x, sc, X, o, h => by
    unfold chkS at h; split at h
    · simp only [Bool.and_eq_true] at h
      exact ss_ex (sndE e o.toOkC h.1).e (noComp_sw h.2 _ _ _)
    · cases h
  | .setI a i e, x, sc, X, o, h => by
    unfold chkS at h; split at h
    · simp only [Bool.and_eq_true] at h
      obtain ⟨⟨⟨⟨h1, h2⟩, h3⟩, h4⟩, h5⟩ := h
      refine ss_setI o.g (sndE a o.toOkC h1).e (sndE i o.toOkC h2).e (sndE e o.toOkC h3).e fun tv to ti t pv po pi ps => ?_
      exact ps_asg pv (pg_sub po pi ps (sub_asg h5)) (noComp_sole h4 _ _ _) rfl rfl
    · cases h
  | .app a e, x, sc, X, o, h => by
    unfold chkS at h; split at h
    · simp only [Bool.and_eq_true] at h
      obtain ⟨⟨⟨⟨⟨h1, h2⟩, h3⟩, h4⟩, h5⟩, h6⟩ := h
      obtain rfl := eq_of_beq h1
      exact ss_app o.g (sndE a o.toOkC h2).e (sndE e o.toOkC h3).e h4 h5 h6
    · cases h
  | .ret e, x, sc, X, o, h => by
    unfold chkS at h; split at h
    · exact ss_ret (sndE e o.toOkC h).e
    · cases h
  | .retN, x, sc, X, o, h => by
    unfold chkS at h; split at h
    · exact ss_retN
    · cases h
  | .ifs c a b, x, sc, X, o, h => by
    unfold chkS at h; split at h
    · simp only [Bool.and_eq_true] at h
      exact ss_ifs ((sndE c o.toOkC h.1.1.1).t h.2) (sndSs a o h.1.1.2) (sndSs b o h.1.2)
    · cases h
  | .whl fu c b, x, sc, X, o, h => by
    unfold chkS at h; split at h
    · simp only [Bool.and_eq_true] at h
      exact ss_whl fu o.own ((sndE c o.toOkC h.1.1).t h.2) (sndSs b o h.1.2)
    · cases h
  | .for_ tg it b, x, sc, X, o, h => by
    unfold chkS at h; split at h
    · simp only [Bool.and_eq_true] at h
      obtain ⟨⟨⟨h1, h2⟩, h3⟩, h4⟩ := h
      exact ss_for o.g o.own (sndIt it o.toOkC h2) (o.tg h1) (sndSs b o h4) fun x => notSet_fold h3 x
    · cases h
  | .pas, x, sc, X, o, h => by
    unfold chkS at h; split at h
    · exact ss_pass
    · cases h
  | .cont, x, sc, X, o, h => by
    unfold chkS at h; split at h
    · exact ss_cont
    · cases h
  | .par is es, x, sc, X, o, h => by
    unfold chkS at h; split at h
    · simp only [Bool.and_eq_true] at h
      obtain ⟨⟨⟨⟨⟨⟨⟨h1, h2⟩, h3⟩, h4⟩, h5⟩, h6⟩, h7⟩, h8⟩ := h
      refine ss_par o.toOkC h1 ⟨_, _, _, rfl, rfl⟩ h2 (sndEs es o.toOkC h3 h4) h4 h5 ?_ ?_ (of_decide_eq_true h8)
      · have := of_decide_eq_true h6
        simp [this]
      · rw [Bool.or_eq_true] at h7
        rcases h7 with h | h
        · exact .inl (by have := eq_of_beq h; simp [this])
        · exact .inr (by have := eq_of_beq h; simp [this])
    · cases h
theorem sndSs : ∀ (e : Ss) {x : List Stmt} {sc : Scope} {X : Cx}, OkS T G r sc X → chkSs T sc e x = true → PSs X x (tSS G X (evalSs r e))
  | .nil, x, sc, X, o, h => by
    unfold chkSs at h
    obtain rfl := List.isEmpty_iff.mp h
    exact sss_nil
  | .cons s ss, x, sc, X, o, h => by
    unfold chkSs at h; split at h
    · simp only [Bool.and_eq_true] at h
      exact sss_cons (sndS s o h.1) (sndSs ss o h.2)
    · cases h
end
end
end Fz

set_option maxHeartbeats 4000000
namespace Fz
open PySem L2 PyProof.Rows
/-! ### the program's rows -/
structure Rw where
  d : He.DefD
  N : List Str
  ps : List Str
  fn : Fn
def Tab.at_ (T : Tab) (N : List Str) : Tab := { T with N := N }
def BndOk (r : Rw) : Prop := ∀ (kV doc pm : Value) (an : Option Addr) (cdv ct : Value) (us : List Value), us.length = r.ps.length → bindArgs (PySem.W.fnOf r.d.name r.d.qual r.d.params r.d.body r.d.scope .none kV doc pm an cdv ct) ⟨us, []⟩ = pure (r.ps.zip us)
def rowB (T : Tab) (r : Rw) : Bool := C8.scC r.N r.ps r.d.scope && chkSs (T.at_ r.N) r.d.scope r.fn.body r.d.body && decide (r.fn.np = r.ps.length) && decide (r.fn.ns = r.N.length) && r.d.dfl.isEmpty && r.d.kwd.isEmpty
/-- what the module's names tell -/
structure Mods (T : Tab) (mg : Str → Option Value) : Prop where
  gi : ∀ p ∈ T.gints, ∃ t, mg p.1 = some (.int p.2 t)
  gs : ∀ p ∈ T.gstrs, ∃ t, mg p.1 = some (.str p.2 t)
  fr : ∀ x ∈ T.gfree, mg x = none
def Stands (K : PySem.W.Frag) (mg : Str → Option Value) (r : Rw) : Prop := ∃ fd, FunD K r.d.name r.d.qual r.d.params r.d.body r.d.scope [] [] (He.fAd K r.d.at_) fd ∧ mg r.d.name = some (.ref (He.fAd K r.d.at_)) ∧ Binds K fd r.ps []
theorem funD_one {K : PySem.W.Frag} {x q : Str} {p : Arguments} {b : List Stmt} {sc : Scope} {f : Addr} {fd fd' : FuncData} (h : FunD K x q p b sc [] [] f fd) (h' : FunD K x q p b sc [] [] f fd') : fd' = fd := by
  obtain ⟨_, _, _, _, _, _, _, _, _, _, _, e, _⟩ := h.ex
  obtain ⟨_, _, _, _, _, _, _, _, _, _, _, e', _⟩ := h'.ex
  rw [e] at e'
  cases e'
  rfl
theorem all_ok {P : Program} {w : World} {K : PySem.W.Frag} {mg : Str → Option Value} {base : Heap} {G : Gd} {T : Tab} {rows : List Rw} (hG : G.K = K) (hT : T.fns = rows.map fun r => (r.d.name, r.ps.length)) (hrow : rows.all (rowB T) = true) (hm : Mods T mg)
    (hst : ∀ r ∈ rows, Stands K mg r) : ∀ (n k : Nat) (r : Rw), rows[k]? = some r → ∃ fd, FnOk P w K mg base (L2.CX P w) n (He.fAd K r.d.at_) fd r.ps (spF G (runP (rows.map (·.fn)) n) k r.ps.length) ∧
      mg r.d.name = some (.ref (He.fAd K r.d.at_)) ∧ FunD K r.d.name r.d.qual r.d.params r.d.body r.d.scope [] [] (He.fAd K r.d.at_) fd ∧ Binds K fd r.ps []
  | 0, k, r, hk => by
    obtain ⟨fd, F, hg, hb⟩ := hst r (List.mem_of_getElem? hk)
    refine ⟨fd, ⟨fun vs H Q E h => h.1, fun A outer s H args us vs Q E _ _ _ _ h => ?_⟩, hg, F, hb⟩
    obtain ⟨_, Φ, F0, ρ, M, as, m, ra, p⟩ := h
    exact p.elim
  | n + 1, k, r, hk => by
    have ih := all_ok (P := P) (w := w) (base := base) hG hT hrow hm hst n
    obtain ⟨fd, F, hg, hb⟩ := hst r (List.mem_of_getElem? hk)
    have hr := List.all_eq_true.mp hrow r (List.mem_of_getElem? hk)
    unfold rowB at hr
    simp only [Bool.and_eq_true] at hr
    obtain ⟨⟨⟨⟨⟨h1, h2⟩, h3⟩, h4⟩, h5⟩, h6⟩ := hr
    have S := C8.fnScope_by h1
    refine ⟨fd, fn_ev F S (fn := r.fn) (by rw [List.getElem?_map, hk]; rfl) (of_decide_eq_true h3) (of_decide_eq_true h4) fun cdv A outer s H E room => ?_, hg, F, hb⟩
    refine sndSs (T := T.at_ r.N) (sc := r.d.scope) r.fn.body ⟨⟨⟨hG.symm, rfl, room.units, S.nd⟩, rfl, rfl, fun k' f np e => ?_, hm.gi, hm.gs, hm.fr⟩, passes_of rfl, fun _ => rfl⟩ h2
    have e' : (rows.map fun r => (r.d.name, r.ps.length))[k']? = some (f, np) := by rw [← hT]; exact e
    rw [List.getElem?_map] at e'
    cases er : rows[k']? with
    | none => rw [er] at e'; cases e'
    | some r' =>
      rw [er] at e'
      cases e'
      obtain ⟨fd', F', g', k'', b'⟩ := ih k' r' er
      exact ⟨_, fd', r'.ps, n, F', room, g', k''.kp, b'⟩
end Fz

set_option maxHeartbeats 4000000
namespace Fz
open PySem L2 PyProof.Rows
/-! ### the head's hook: no list is leaned on -/
def isLO (o : Obj) : Bool := match o.cls with
  | .type c => c == "list"
  | _ => false
def frN (n : Nat) (g : Addr → Option Obj) : PySem.W.Frag := (He.frG g (He.asD g n)).filter fun p => !isLO p.2
def NoL (K : PySem.W.Frag) : Prop := ∀ a o, K.lookup a = some o → isLO o = false
theorem lookup_mem {K : PySem.W.Frag} {a : Addr} {o : Obj} (h : K.lookup a = some o) : (a, o) ∈ K := by
  induction K with
  | nil => cases h
  | cons p K ih =>
    obtain ⟨b, ob⟩ := p
    rw [List.lookup_cons] at h
    cases e : (a == b) with
    | true => rw [e] at h; cases h; rw [eq_of_beq e]; exact List.mem_cons_self
    | false => rw [e] at h; exact List.mem_cons_of_mem _ (ih h)
theorem frN_noL (n : Nat) (g : Addr → Option Obj) : NoL (frN n g) := fun a o h => by
  have := List.mem_filter.mp (lookup_mem h)
  simpa using this.2
theorem frN_in {n : Nat} {h : Heap} : (frN n h.get?).In h := fun a o e => by
  have := (List.mem_filter.mp (lookup_mem e)).1
  unfold He.frG at this
  obtain ⟨b, _, hb⟩ := List.mem_filterMap.mp this
  cases eb : h.get? b with
  | none => rw [eb] at hb; cases hb
  | some ob => rw [eb] at hb; cases hb; exact eb
def obsN (n : Nat) (fa : List He.Fa) (fn : List He.DefD) (g : Addr → Option Obj) : He.AlD := He.obsD fa fn (frN n g)
def hookN (n : Nat) (fa : List He.Fa) (fn : List He.DefD) : PySem.W.Hook where
  α := He.AlD
  obs := fun s => obsN n fa fn s.heap.get?
  val := fun _ => He.valD fn
  says := fun _ h => ∃ K : PySem.W.Frag, K.In h ∧ NoL K ∧ He.SaysD fa fn K
  of := fun _ _ e => ⟨_, frN_in, frN_noL _ _, e⟩
  keeps := fun _ _ _ ⟨K, hK, nl, c⟩ k => ⟨K, PySem.W.Frag.In.keeps hK k, nl, c⟩
theorem obsN_eq {n : Nat} {fa : List He.Fa} {fn : List He.DefD} {g : Addr → Option Obj} {s : Shared} (h : ∀ a, g a = s.heap.get? a) : obsN n fa fn g = (hookN n fa fn).obs s := by
  have e : g = s.heap.get? := funext h
  subst e; rfl
/-- the facts that a table asks of the module's names -/
def facts (T : Tab) (rows : List Rw) : List He.Fa := T.gfree.map .free ++ (T.gints.map (fun p => .int p.1 p.2) ++ (T.gstrs.map (fun p => .str p.1 p.2) ++ rows.map fun r => .glo r.d.name))
theorem mods_of {T : Tab} {rows : List Rw} {K : PySem.W.Frag} {h : Heap} {mg : Str → Option Value} (X : K.In h) (G : h.Ns mainGlobals mg) (c : He.SaysD (facts T rows) (rows.map (·.d)) K) (hat : ∀ r ∈ rows, r.d.at_ = (r.d.name, none)) (hb : ∀ r ∈ rows, BndOk r) (hd : ∀ r ∈ rows, r.d.dfl = [] ∧ r.d.kwd = []) :
    Mods T mg ∧ ∀ r ∈ rows, Stands K mg r := by
  have fact : ∀ f ∈ facts T rows, f.ok K = true := fun f hf => by
    obtain ⟨i, hi⟩ := List.mem_iff_getElem?.mp hf
    exact c.fact i hi
  refine ⟨⟨fun p hp => He.int_ok X G (fact _ ?_), fun p hp => He.str_ok X G (fact _ ?_), fun x hx => He.free_ok X G (fact _ ?_)⟩, fun r hr => ?_⟩
  · exact List.mem_append_right _ (List.mem_append_left _ (List.mem_map.mpr ⟨p, hp, rfl⟩))
  · exact List.mem_append_right _ (List.mem_append_right _ (List.mem_append_left _ (List.mem_map.mpr ⟨p, hp, rfl⟩)))
  · exact List.mem_append_left _ (List.mem_map.mpr ⟨x, hx, rfl⟩)
  · have hg : mg r.d.name = some (.ref (He.ga K r.d.name)) := He.glo_ok X G (fact _ (List.mem_append_right _ (List.mem_append_right _ (List.mem_append_right _ (List.mem_map.mpr ⟨r, hr, rfl⟩)))))
    obtain ⟨i, hi⟩ := List.mem_iff_getElem?.mp hr
    obtain ⟨fd, F⟩ := c.def_ i (d := r.d) (by rw [List.getElem?_map, hi]; rfl)
    obtain ⟨d1, d2⟩ := hd r hr
    have e1 : r.d.dvs K = [] := by unfold He.DefD.dvs; rw [d1]; rfl
    have e2 : r.d.kws K = [] := by unfold He.DefD.kws; rw [d2]; rfl
    rw [e1, e2] at F
    refine ⟨fd, F, by rw [hat r hr]; exact hg, FunD.bindsN F (hb r hr)⟩
/-- THE LAW, by the evaluator: the rows, the law's own place, the evaluator's answer on every script -/
theorem walk_fz {l : PySem.W.OpenLaw} {m : Nat} {q : Program} {loose : List Str} {XP : (Str → Option Value) → Heap → Prop} {d : DefRec} {T : Tab} {rows : List Rw} {r : Rw} {n k : Nat} {x : Str}
    (hn : l.most = some 63) (hdf : d.params.defaults = []) (hroom : Room n callerA) (hT : T.fns = rows.map fun r => (r.d.name, r.ps.length)) (hrow : rows.all (rowB T) = true) (hat : ∀ r ∈ rows, r.d.at_ = (r.d.name, none)) (hb : ∀ r ∈ rows, BndOk r)
    (hk : rows[k]? = some r) (hps : r.ps = [x]) (hname : d.name = r.d.name)
    (law : ∀ ns : List Int, ns.length ≤ 63 → ∃ M, runP (rows.map (·.fn)) n k [.p (.lst (ns.map D.int))] [] = .ok (.p (.bl true)) M) :
    PySem.W.WalkO q loose XP (hookN m (facts T rows) (rows.map (·.d))).says l.row.toRowW d [] (fun f vs => PySem.call f vs) := by
  refine LamX.walk_ofTsE (l := l) (n := 63) (k := n) (x := x) (CX := fun w => L2.CX l.prog w) hn (by decide) hdf hroom ?_ ?_
  · intro w mg fa h Y G hmg0
    obtain ⟨K, KX, nl, c⟩ := Y
    obtain ⟨hm, hst⟩ := mods_of KX G c hat hb fun r hr => by
      have h1 := List.all_eq_true.mp hrow r hr
      unfold rowB at h1
      simp only [Bool.and_eq_true] at h1
      exact ⟨List.isEmpty_iff.mp h1.1.2, List.isEmpty_iff.mp h1.2⟩
    have hmem := List.mem_of_getElem? hk
    obtain ⟨fd, F, hg, bd⟩ := hst r hmem
    rw [hname, hg] at hmg0
    cases hmg0
    have bA := FunD.bindsA F (hb r hmem)
    refine ⟨K, KX, fd, [], spF ⟨K, fun _ => 0⟩ (runP (rows.map (·.fn)) n) k 1, fun p hp => (by cases hp), fun p hp => (by cases hp), fun p hp => (by cases hp), fun s u => ?_, fun H a ns hl hbits _ hS => ?_, fun base Kb Nb _ => ?_⟩
    · have := bA s [u] (by rw [hps]; rfl)
      rw [hps] at this
      exact this
    · have rd : Rd H a (.lst (ns.map V.int)) := by
        rcases hS with h | ⟨o, its, n', h1, h2, _⟩
        · exact h
        · have := nl a o h1
          unfold isLO at this
          rw [h2] at this
          cases this
      obtain ⟨M, e⟩ := law ns hl
      refine ⟨rfl, fun _ => none, H, [], [], [.p (.lst (ns.map D.int))], ⟨fun _ _ q => (by cases q), fun _ _ q => q, fun _ _ q => (by cases q), rfl, List.nodup_nil, fun _ q => (by cases q), fun _ q => (by cases q), fun i c a q => (by simp at q)⟩, .cons (.p (.lst rd ?_)) .nil, ?_⟩
      · have : ∀ ns : List Int, RepDs ⟨K, fun _ => 0⟩ H (ns.map D.int) (ns.map V.int) := by
          intro ns
          induction ns with
          | nil => exact .nil
          | cons z zs ih => exact .cons (.int z) ih
        exact this ns
      · rw [e]
        intro F' ρ' b H' _ _ rb
        cases rb with | p rb => cases rb; rfl
    · obtain ⟨m2, st2⟩ := mods_of Kb Nb c hat hb fun r hr => by
        have h1 := List.all_eq_true.mp hrow r hr
        unfold rowB at h1
        simp only [Bool.and_eq_true] at h1
        exact ⟨List.isEmpty_iff.mp h1.1.2, List.isEmpty_iff.mp h1.2⟩
      obtain ⟨fd', ok, _, F', _⟩ := all_ok (P := l.prog) (w := w) (base := base) (G := ⟨K, fun _ => 0⟩) rfl hT hrow m2 st2 n k r hk
      obtain rfl := funD_one F F'
      rw [hps] at ok
      exact ok
  · intro w H s e s' hc
    obtain ⟨_, _, _, _, _, _, _, _, _, _, _, _, z⟩ := hc
    exact z
end Fz

set_option maxHeartbeats 4000000
namespace Fz
open PySem
/-! ### the plain laws' rules: the evaluator, step by step -/
section
variable {α β : Type} {M M' : Mem} {σ : Env'}
@[simp] theorem val_eq (d : D) : val d M = .ok (.p d) M := rfl
@[simp] theorem bo_some (b : Bool) : bo (some b) M = .ok (.p (.bl b)) M := rfl
@[simp] theorem bbind_bl (b : Bool) (f : Bool → Mem → Res β) : bbind (.p (.bl b)) M f = f b M := rfl
@[simp] theorem truR_bl (b : Bool) : truR (.p (.bl b)) M = .ok b M := rfl
@[simp] theorem noEx_val (a : α) : noEx (.ok a M) = .ok a M := rfl
@[simp] theorem seq_ret (a : A) (f : Env' → Mem → SR) : (SR.ret a M).seq f = .ret a M := rfl
@[simp] theorem seq_nx (f : Env' → Mem → SR) : (SR.nx σ M).seq f = f σ M := rfl
@[simp] theorem st_ok (a : α) (f : α → Mem → SR) : (Res.ok a M).st σ f = f a M := rfl
@[simp] theorem cmpA_of {o : Cop} {a b : A} {c : Bool} (h : cmpSem o a b M = some c) : cmpA o a b M = .ok (.p (.bl c)) M := by
  unfold cmpA; rw [h]; rfl
theorem evalFn_ret {r : Run} {f : Fn} {as : List A} {a : A} (hl : as.length = f.np) (h : evalSs r f.body (startE f.ns as) M = .ret a M') : evalFn r f as M = .ok a M' := by
  unfold evalFn; rw [if_pos hl, h]
theorem evalFn_nx {r : Run} {f : Fn} {as : List A} (hl : as.length = f.np) (h : evalSs r f.body (startE f.ns as) M = .nx σ M') : evalFn r f as M = .ok (.p .non) M' := by
  unfold evalFn; rw [if_pos hl, h]
theorem runP_eq {fs : List Fn} {n k : Nat} {as : List A} {f : Fn} (h : fs[k]? = some f) : runP fs (n + 1) k as M = evalFn (runP fs n) f as M := by
  show (match fs[k]? with
    | some f => evalFn (runP fs n) f as M
    | none => .no) = _
  rw [h]
theorem runP_ret {fs : List Fn} {n k : Nat} {as : List A} {f : Fn} {a : A} (h : fs[k]? = some f) (hl : as.length = f.np) (e : evalSs (runP fs n) f.body (startE f.ns as) M = .ret a M') : runP fs (n + 1) k as M = .ok a M' := by
  rw [runP_eq h]; exact evalFn_ret hl e
/-- isinstance -/
def good : D → Bool
  | .non | .bl _ | .int _ | .tup _ | .lst _ | .dic _ => true
  | .str s => decide (s.length ≤ sizeLine)
  | _ => false
def isTy (c : String) (d : D) : Bool := match tyNames d with
  | some t => t == c || (t == "bool" && c == "int")
  | none => false
theorem isi_ok (c : String) (hc : c = "int" ∨ c = "bool" ∨ c = "str" ∨ c = "tuple") (d : D) (h : good d = true) (M : Mem) : isiSem (.p d) [c] M = some (isTy c d) := by
  rcases hc with rfl | rfl | rfl | rfl <;> cases d <;> first | rfl | cases h
@[simp] theorem vw_p (d : D) : vw M (.p d) = some d := rfl
@[simp] theorem cmpSem_p (o : Cop) (x y : D) : cmpSem o (.p x) (.p y) M = cmpD o x y := rfl
@[simp] theorem cmpD_le (i j : Int) : cmpD .le (.int i) (.int j) = some (decide (i ≤ j)) := rfl
@[simp] theorem cmpD_lt (i j : Int) : cmpD .lt (.int i) (.int j) = some (decide (i < j)) := rfl
@[simp] theorem bind_ite {c : Prop} [Decidable c] (x y : Res α) (f : α → Mem → Res β) : (if c then x else y).bind f = if c then x.bind f else y.bind f := by split <;> rfl
/-- a call that hands no cell -/
theorem callLoc_p {r : Run} {k : Nat} {ds : List D} {d : D} {M0 : Mem} (h : r k (ds.map A.p) [] = .ok (.p d) M0) : callLoc r k (ds.map A.p) M = .ok (.p d) M := by
  have h1 : (ds.map A.p).all closedA = true := by
    induction ds with
    | nil => rfl
    | cons d ds ih => rw [List.map_cons, List.all_cons]; simp [closedA]
  have h2 : ∀ ds : List D, cellsOf (ds.map A.p) = [] := by
    intro ds
    induction ds with
    | nil => rfl
    | cons d ds ih => rw [List.map_cons]; exact ih
  have h3 : ∀ (ds : List D) (k : Nat), relabA (ds.map A.p) k = ds.map A.p := by
    intro ds
    induction ds with
    | nil => intro k; rfl
    | cons d ds ih => intro k; rw [List.map_cons]; show A.p d :: relabA (ds.map A.p) k = _; rw [ih]
  unfold callLoc
  rw [h2, if_pos ⟨h1, rfl⟩]
  show backLoc [] M (r k (relabA (ds.map A.p) 0) []) = _
  rw [h3, h]
  rfl
/-- a call that hands one cell, as the first argument -/
theorem callLoc_c {r : Run} {k : Nat} {i : Nat} {ds : List D} {d : D} {c c' : C} {G0 : Mem} (hM : M[i]? = some c) (hc : closedC c = true) (h : r k (.c 0 :: ds.map A.p) [c] = .ok (.p d) (c' :: G0)) (hq : quietC c' = true) : callLoc r k (.c i :: ds.map A.p) M = .ok (.p d) (M.set i c') := by
  have h1 : (A.c i :: ds.map A.p).all closedA = true := by
    rw [List.all_cons]
    have : (ds.map A.p).all closedA = true := by
      rw [List.all_eq_true]
      intro x hx
      obtain ⟨y, _, rfl⟩ := List.mem_map.mp hx
      rfl
    rw [this]; rfl
  have h2 : ∀ ds : List D, cellsOf (ds.map A.p) = [] := by
    intro ds
    induction ds with
    | nil => rfl
    | cons d ds ih => rw [List.map_cons]; exact ih
  have h3 : ∀ (ds : List D) (k : Nat), relabA (ds.map A.p) k = ds.map A.p := by
    intro ds
    induction ds with
    | nil => intro k; rfl
    | cons d ds ih => intro k; rw [List.map_cons]; show A.p d :: relabA (ds.map A.p) k = _; rw [ih]
  have h4 : cellsOf (A.c i :: ds.map A.p) = [i] := by show i :: cellsOf (ds.map A.p) = _; rw [h2]
  have h5 : relabA (A.c i :: ds.map A.p) 0 = .c 0 :: ds.map A.p := by show A.c 0 :: relabA (ds.map A.p) 1 = _; rw [h3]
  unfold callLoc
  rw [h4, if_pos ⟨h1, rfl⟩]
  have hg : getsM M [i] = some [c] := by
    unfold getsM getsM
    rw [hM]
    dsimp only
    rw [if_pos hc]
  rw [hg, h5]
  dsimp only
  rw [h]
  unfold backLoc
  dsimp only
  have : ((c' :: G0).take [i].length).all quietC = true := by show [c'].all quietC = true; simp [hq]
  rw [if_pos this]
  rfl
/-! ### walks by an invariant -/
theorem itL_inv {s : Src} {f : A → β → Mem → Res β} {as : List A} (I : Nat → β → Mem → Prop) (hs : ∀ k b M, I k b M → s.at_ M k = some as[k]?) (h : ∀ k a b M, as[k]? = some a → I k b M → ∃ b' M', f a b M = .ok b' M' ∧ I (k + 1) b' M') :
    ∀ (n k : Nat) (b : β) (M : Mem), n + k = as.length → I k b M → ∃ b' M', itL s f n k b M = .ok b' M' ∧ I as.length b' M'
  | 0, k, b, M, hn, hI => by
    have e : as[k]? = none := List.getElem?_eq_none_iff.mpr (by omega)
    refine ⟨b, M, ?_, by rw [← hn, Nat.zero_add]; exact hI⟩
    unfold itL
    have es : s.at_ M k = some none := by rw [hs k b M hI, e]
    rw [es]
  | n + 1, k, b, M, hn, hI => by
    have hk : k < as.length := by omega
    have e : as[k]? = some as[k] := List.getElem?_eq_getElem hk
    obtain ⟨b1, M1, e1, I1⟩ := h k _ b M e hI
    obtain ⟨b2, M2, e2, I2⟩ := itL_inv I hs h n (k + 1) b1 M1 (by omega) I1
    refine ⟨b2, M2, ?_, I2⟩
    unfold itL
    have es : s.at_ M k = some (some as[k]) := by rw [hs k b M hI, e]
    rw [es]
    dsimp only
    rw [e1]
    exact e2
/-- a comprehension that changes nothing -/
theorem comp_pure {s : Src} {tg : Tg} {own : List Nat} {fi : CE Bool} {fe : CE A} {as : List A} {p : A → Bool} {g : A → A} (hs : ∀ k, s.at_ M k = some as[k]?) (hl : as.length ≤ sizeLine)
    (h : ∀ a ∈ as, ∃ σ2, tgSem tg a (wipeE σ own) = some σ2 ∧ fi σ2 M = .ok (p a) M ∧ (p a = true → fe σ2 M = .ok (g a) M)) : itL s (compT tg own σ fi fe) as.length 0 [] M = .ok ((as.filter p).map g) M := by
  obtain ⟨b', M', e, hI⟩ := itL_inv (f := compT tg own σ fi fe) (as := as) (fun k acc M1 => M1 = M ∧ acc = ((as.take k).filter p).map g) (fun k b M1 hI => by rw [hI.1]; exact hs k) (fun k a b M1 hk ⟨hM, hb⟩ => by
    subst hM hb
    obtain ⟨σ2, e1, e2, e3⟩ := h a (List.mem_of_getElem? hk)
    have hk' := (List.getElem?_eq_some_iff.mp hk)
    have et : as.take (k + 1) = as.take k ++ [a] := by rw [List.take_succ, hk]; rfl
    have hlen : (((as.take k).filter p).map g).length < sizeLine := by
      rw [List.length_map]
      have := List.length_filter_le p (as.take k)
      rw [List.length_take] at this
      have := hk'.1
      omega
    unfold compT
    rw [e1]
    simp only [e2, noEx_val, Res.bind_ok]
    cases hp : p a with
    | true =>
      simp only [if_true, e3 hp, noEx_val, Res.bind_ok, if_pos hlen]
      exact ⟨_, _, rfl, rfl, by rw [et, List.filter_append, List.map_append]; simp [hp]⟩
    | false =>
      simp only [Bool.false_eq_true, if_false]
      exact ⟨_, _, rfl, rfl, by rw [et, List.filter_append, List.map_append]; simp [hp]⟩) as.length 0 [] M (by omega) ⟨rfl, by simp⟩
  obtain ⟨rfl, rfl⟩ := hI
  rw [e, List.take_length]
theorem forL_inv {s : Src} {tg : Tg} {body : Env' → Mem → SR} {as : List A} (I : Nat → Env' → Mem → Prop) (hs : ∀ k σ M, I k σ M → s.at_ M k = some as[k]?) (h : ∀ k a σ M, as[k]? = some a → I k σ M → ∃ σ2 σ' M', tgSem tg a σ = some σ2 ∧ (body σ2 M = .nx σ' M' ∨ body σ2 M = .ct σ' M') ∧ I (k + 1) σ' M') :
    ∀ (n k : Nat) (σ : Env') (M : Mem), n + k = as.length → I k σ M → ∃ σ' M', forL s tg body n k σ M = .nx σ' M' ∧ I as.length σ' M'
  | 0, k, σ, M, hn, hI => by
    have e : as[k]? = none := List.getElem?_eq_none_iff.mpr (by omega)
    refine ⟨σ, M, ?_, by rw [← hn, Nat.zero_add]; exact hI⟩
    unfold forL
    have es : s.at_ M k = some none := by rw [hs k σ M hI, e]
    rw [es]
  | n + 1, k, σ, M, hn, hI => by
    have hk : k < as.length := by omega
    have e : as[k]? = some as[k] := List.getElem?_eq_getElem hk
    obtain ⟨σ2, σ1, M1, et, eb, I1⟩ := h k _ σ M e hI
    obtain ⟨σ', M', e2, I2⟩ := forL_inv I hs h n (k + 1) σ1 M1 (by omega) I1
    refine ⟨σ', M', ?_, I2⟩
    unfold forL
    have es : s.at_ M k = some (some as[k]) := by rw [hs k σ M hI, e]
    rw [es]
    dsimp only
    rw [et]
    dsimp only
    rcases eb with eb | eb <;> (rw [eb]; exact e2)
theorem whL_inv {c : CE Bool} {body : Env' → Mem → SR} (I : Nat → Env' → Mem → Prop) (h : ∀ n σ M, I n σ M → ∃ k M1, c σ M = .ok k M1 ∧ (k = true → ∃ m σ' M', m < n ∧ (body σ M1 = .nx σ' M' ∨ body σ M1 = .ct σ' M') ∧ I m σ' M')) :
    ∀ (fu n : Nat) (σ : Env') (M : Mem), n < fu → I n σ M → ∃ n' σ' M0 M', whL c body fu σ M = .nx σ' M' ∧ I n' σ' M0 ∧ c σ' M0 = .ok false M'
  | 0, n, σ, M, hn, hI => by omega
  | fu + 1, n, σ, M, hn, hI => by
    obtain ⟨k, M1, ec, hb⟩ := h n σ M hI
    unfold whL
    rw [ec, st_ok]
    cases k with
    | false => exact ⟨n, σ, M, M1, rfl, hI, ec⟩
    | true =>
      obtain ⟨m, σ', M', hm, eb, I1⟩ := hb rfl
      obtain ⟨n', σ2, M0, M2, e2, I2, e3⟩ := whL_inv I h fu m σ' M' (by omega) I1
      refine ⟨n', σ2, M0, M2, ?_, I2, e3⟩
      rcases eb with eb | eb <;> (simp only [if_true]; rw [eb]; exact e2)
theorem newL_f (ds : List D) : newL false (ds.map A.p) M = .ok (.p (.lst ds)) M := by unfold newL; rw [asP_map]
theorem newL_t (ds : List D) : newL true (ds.map A.p) M = .ok (.c M.length) (M ++ [.lst ds]) := by unfold newL; rw [asP_map]
/-- a comprehension over data that changes nothing -/
theorem comp_D {r : Run} {own : List Nat} {tg : Tg} {it : Wk} {ifs : Es} {elt : E} {s : Src} {ds : List D} {p : D → Bool} {g : D → D} (hi : evalIt r it σ M = .ok s M) (hn : s.len = ds.length) (hs : ∀ k, s.at_ M k = some (ds.map A.p)[k]?) (hl : ds.length ≤ sizeLine)
    (h : ∀ d ∈ ds, ∃ σ2, tgSem tg (.p d) (wipeE σ own) = some σ2 ∧ evalIfs r ifs σ2 M = .ok (p d) M ∧ (p d = true → evalE r elt σ2 M = .ok (.p (g d)) M)) : evalE r (.comp false own tg it ifs elt) σ M = .ok (.p (.lst ((ds.filter p).map g))) M := by
  have c := comp_pure (M := M) (s := s) (tg := tg) (own := own) (σ := σ) (fi := evalIfs r ifs) (fe := evalE r elt) (as := ds.map A.p) (p := fun a => match a with
      | .p d => p d
      | _ => false) (g := fun a => match a with
      | .p d => .p (g d)
      | a => a) hs (by rw [List.length_map]; exact hl) (fun a ha => by
    obtain ⟨d, hd, rfl⟩ := List.mem_map.mp ha
    exact h d hd)
  have e : (((ds.map A.p).filter fun a => match a with
      | .p d => p d
      | _ => false).map fun a => match a with
      | .p d => A.p (g d)
      | a => a) = ((ds.filter p).map g).map A.p := by
    rw [List.filter_map, List.map_map, List.map_map]
    rfl
  rw [e, List.length_map] at c
  show (evalIt r it σ M).bind _ = _
  rw [hi, Res.bind_ok, hn, c, Res.bind_ok, newL_f]
theorem at_fx (as : List A) (k : Nat) : (Src.fx as).at_ M k = some as[k]? := rfl
@[simp] theorem cmpA_le (i j : Int) : cmpA .le (.p (.int i)) (.p (.int j)) M = .ok (.p (.bl (decide (i ≤ j)))) M := rfl
@[simp] theorem cmpA_lt (i j : Int) : cmpA .lt (.p (.int i)) (.p (.int j)) M = .ok (.p (.bl (decide (i < j)))) M := rfl
@[simp] theorem cmpA_ge (i j : Int) : cmpA .ge (.p (.int i)) (.p (.int j)) M = .ok (.p (.bl (decide (j ≤ i)))) M := rfl
@[simp] theorem cmpA_gt (i j : Int) : cmpA .gt (.p (.int i)) (.p (.int j)) M = .ok (.p (.bl (decide (j < i)))) M := rfl
theorem lstF_ok {γ : Type} {f : List D → Option γ} {g : γ → D} {ds : List D} {y : γ} (h : f ds = some y) : lstF f g (.p (.lst ds)) M = .ok (.p (g y)) M := by
  unfold lstF; simp [h, optV]
theorem len_str {z : Str} (h : z.length ≤ sizeLine) : lenS (.p (.str z)) M = .ok (.p (.int z.length)) M := by unfold lenS; simp [h]
@[simp] theorem len_lst (xs : List D) : lenS (.p (.lst xs)) M = .ok (.p (.int xs.length)) M := rfl
@[simp] theorem len_tup (xs : List D) : lenS (.p (.tup xs)) M = .ok (.p (.int xs.length)) M := rfl
theorem eqD_int (i j : Int) : eqD (.int i) (.int j) = some (decide (i = j)) := by
  have e : eqD (.int i) (.int j) = some (PyData.eqv (.int i) (.int j)) := rfl
  rw [e]
  simp only [PyData.eqv]
  congr 1 <;> exact Bool.eq_iff_iff.mpr (by simp)
@[simp] theorem cmpA_ne_int (i j : Int) : cmpA .ne (.p (.int i)) (.p (.int j)) M = .ok (.p (.bl (!decide (i = j)))) M := by
  refine cmpA_of ?_
  show (eqD (.int i) (.int j)).map (!·) = _
  rw [eqD_int]; rfl
@[simp] theorem cmpA_eq_int (i j : Int) : cmpA .eq (.p (.int i)) (.p (.int j)) M = .ok (.p (.bl (decide (i = j)))) M := by
  refine cmpA_of ?_
  show eqD (.int i) (.int j) = _
  exact eqD_int i j
@[simp] theorem callSem_loc (r : Run) (k : Nat) (as : List A) : callSem r k .loc as M = callLoc r k as M := rfl
/-- data that may be compared -/
def eqOk : Nat → D → Bool
  | _, .non => true
  | _, .bl _ => true
  | _, .int _ => true
  | _, .str s => PyData.strOk s
  | k + 1, .tup xs => xs.all (eqOk k)
  | k + 1, .lst xs => xs.all (eqOk k)
  | _, _ => false
theorem eqOk_pys {k : Nat} (ih : ∀ d, eqOk k d = true → ∃ p, toPy d = some p ∧ p.canLay0 = true ∧ p.depth ≤ k) : ∀ xs : List D, xs.all (eqOk k) = true → ∃ ps, toPys xs = some ps ∧ PyData.canLayAll0 ps = true ∧ PyData.depthAll ps ≤ k ∧ ps.length = xs.length
  | [], _ => ⟨[], rfl, rfl, Nat.zero_le _, rfl⟩
  | x :: xs, h => by
    rw [List.all_cons, Bool.and_eq_true] at h
    obtain ⟨p, e1, c1, d1⟩ := ih x h.1
    obtain ⟨ps, e2, c2, d2, l2⟩ := eqOk_pys ih xs h.2
    refine ⟨p :: ps, ?_, ?_, ?_, by simp [l2]⟩
    · unfold toPys; rw [e1, e2]
    · unfold PyData.canLayAll0; rw [c1, c2]; rfl
    · unfold PyData.depthAll; exact Nat.max_le.mpr ⟨d1, d2⟩
theorem eqOk_py : ∀ (k : Nat) (d : D), eqOk k d = true → ∃ p, toPy d = some p ∧ p.canLay0 = true ∧ p.depth ≤ k
  | _, .non, _ => ⟨.none, rfl, rfl, Nat.zero_le _⟩
  | _, .bl b, _ => ⟨.bool b, rfl, rfl, Nat.zero_le _⟩
  | _, .int i, _ => ⟨.int i, rfl, rfl, Nat.zero_le _⟩
  | _, .str s, h => ⟨.str s, rfl, by unfold eqOk at h; exact h, Nat.zero_le _⟩
  | 0, .tup xs, h => by unfold eqOk at h; cases h
  | 0, .lst xs, h => by unfold eqOk at h; cases h
  | k + 1, .tup xs, h => by
    unfold eqOk at h
    obtain ⟨ps, e, c, d, _⟩ := eqOk_pys (eqOk_py k) xs h
    exact ⟨.tuple ps, by unfold toPy; rw [e]; rfl, c, Nat.succ_le_succ d⟩
  | k + 1, .lst xs, h => by
    unfold eqOk at h
    obtain ⟨ps, e, c, d, _⟩ := eqOk_pys (eqOk_py k) xs h
    exact ⟨.list ps, by unfold toPy; rw [e]; rfl, c, Nat.succ_le_succ d⟩
  | _, .dic _, h => by unfold eqOk at h; cases h
  | _, .ins _ _, h => by unfold eqOk at h; cases h
  | _, .typ _, h => by unfold eqOk at h; cases h
  | _, .cls _, h => by unfold eqOk at h; cases h
theorem eqD_nil {k : Nat} {xs : List D} (hk : k < 64) (h : xs.all (eqOk k) = true) : eqD (.lst xs) (.lst []) = some xs.isEmpty := by
  obtain ⟨ps, e, c, d, l⟩ := eqOk_pys (eqOk_py k) xs h
  have e1 : toPy (.lst xs) = some (.list ps) := by unfold toPy; rw [e]; rfl
  have e2 : toPy (.lst []) = some (.list []) := rfl
  unfold eqD
  rw [e1, e2]
  have s1 : SeqAt.shaped (.list ps) = true := by
    unfold SeqAt.shaped
    rw [Bool.and_eq_true]
    exact ⟨c, decide_eq_true (Nat.le_trans (Nat.succ_le_succ d) hk)⟩
  dsimp only
  rw [if_pos ⟨s1, rfl⟩]
  cases ps with
  | nil => cases xs with
    | nil => rfl
    | cons => simp at l
  | cons => cases xs with
    | nil => simp at l
    | cons => rfl
theorem cmpA_ne_nil {k : Nat} {xs : List D} (hk : k < 64) (h : xs.all (eqOk k) = true) : cmpA .ne (.p (.lst xs)) (.p (.lst [])) M = .ok (.p (.bl (!xs.isEmpty))) M := by
  refine cmpA_of ?_
  show (eqD (.lst xs) (.lst [])).map (!·) = _
  rw [eqD_nil hk h]; rfl
theorem cmpA_eq_nil {k : Nat} {xs : List D} (hk : k < 64) (h : xs.all (eqOk k) = true) : cmpA .eq (.p (.lst xs)) (.p (.lst [])) M = .ok (.p (.bl xs.isEmpty)) M := cmpA_of (eqD_nil hk h)
/-! ### a step at a time -/
variable {r : Run} {σ' : Env'} {M1 M2 M3 : Mem} {a x y v : A} {e e1 e2 : E} {es : Es} {tg : Tg} {ss s1 s2 : Ss}
theorem go_asg (he : evalE r e σ M = .ok a M1) (ht : tgSem tg a σ = some σ') : evalSs r (.cons (.asg tg e) ss) σ M = evalSs r ss σ' M1 := by
  show ((evalE r e σ M).st σ fun a M1 => match tgSem tg a σ with
    | some σ' => SR.nx σ' M1
    | none => SR.no).seq (evalSs r ss) = _
  rw [he, st_ok, ht]; rfl
theorem go_asgL {i : Nat} {m : Bool} {own : List Nat} {it : Wk} {ifs : Es} {elt : E} (he : evalE r (.comp m own tg it ifs elt) σ M = .ok a M1) : evalSs r (.cons (.asgL i m own tg it ifs elt) ss) σ M = evalSs r ss (σ.set i (some a)) M1 := by
  show ((evalE r (.comp m own tg it ifs elt) σ M).st σ fun a M1 => match tgSem (.nm i) a σ with
    | some σ' => SR.nx σ' M1
    | none => SR.no).seq (evalSs r ss) = _
  rw [he, st_ok]; rfl
theorem go_par {is : List Nat} {as : List A} (he : evalEs r es σ M = .ok as M1) (ht : setAll is as σ = some σ') : evalSs r (.cons (.par is es) ss) σ M = evalSs r ss σ' M1 := by
  show ((evalEs r es σ M).st σ fun as M1 => match setAll is as σ with
    | some σ' => SR.nx σ' M1
    | none => SR.no).seq (evalSs r ss) = _
  rw [he, st_ok, ht]; rfl
theorem go_app (ho : evalE r e1 σ M = .ok x M1) (hl : isLC x M1 = true) (he : evalE r e2 σ M1 = .ok v M2) (ha : appSem x v M2 = some M3) : evalSs r (.cons (.app e1 e2) ss) σ M = evalSs r ss σ M3 := by
  show ((evalE r e1 σ M).st σ fun x M1 => if isLC x M1 = true then (evalE r e2 σ M1).st σ fun v M2 => onx (appSem x v M2) σ else SR.no).seq (evalSs r ss) = _
  rw [ho, st_ok, if_pos hl, he, st_ok, ha]; rfl
theorem go_ret (he : evalE r e σ M = .ok a M1) : evalSs r (.cons (.ret e) ss) σ M = .ret a M1 := by
  show ((evalE r e σ M).st σ fun a M1 => SR.ret a M1).seq (evalSs r ss) = _
  rw [he, st_ok]; rfl
theorem go_if {k : Bool} (hc : (evalE r e σ M).bind truR = .ok k M1) : evalSs r (.cons (.ifs e s1 s2) ss) σ M = (if k = true then evalSs r s1 σ M1 else evalSs r s2 σ M1).seq (evalSs r ss) := by
  show (((evalE r e σ M).bind truR).st σ fun k M1 => if k = true then evalSs r s1 σ M1 else evalSs r s2 σ M1).seq (evalSs r ss) = _
  rw [hc, st_ok]
theorem go_seq (h : evalSs r s1 σ M = .nx σ' M1) : (evalSs r s1 σ M).seq (evalSs r ss) = evalSs r ss σ' M1 := by rw [h]; rfl
theorem go_nil : evalSs r .nil σ M = .nx σ M := rfl
theorem e_bin {o : Bop} {m : Bool} (h1 : evalE r e1 σ M = .ok x M1) (h2 : evalE r e2 σ M1 = .ok y M2) : evalE r (.bin o m e1 e2) σ M = binSem o m x y M2 := by
  show (evalE r e1 σ M).bind (fun x M1 => (evalE r e2 σ M1).bind fun y M2 => binSem o m x y M2) = _
  rw [h1, Res.bind_ok, h2, Res.bind_ok]
theorem e_sub (h1 : evalE r e1 σ M = .ok x M1) (h2 : evalE r e2 σ M1 = .ok y M2) : evalE r (.sub e1 e2) σ M = subSem x y M2 := by
  show (evalE r e1 σ M).bind (fun x M1 => (evalE r e2 σ M1).bind fun y M2 => subSem x y M2) = _
  rw [h1, Res.bind_ok, h2, Res.bind_ok]
theorem e_cmp {o : Cop} (h1 : evalE r e1 σ M = .ok x M1) (h2 : evalE r e2 σ M1 = .ok y M2) : evalE r (.cmp o e1 e2) σ M = cmpA o x y M2 := by
  show (evalE r e1 σ M).bind (fun x M1 => (evalE r e2 σ M1).bind fun y M2 => cmpA o x y M2) = _
  rw [h1, Res.bind_ok, h2, Res.bind_ok]
theorem e_ifx {e0 : E} {k : Bool} (hc : (evalE r e0 σ M).bind truR = .ok k M1) : evalE r (.ifx e0 e1 e2) σ M = if k = true then evalE r e1 σ M1 else evalE r e2 σ M1 := by
  show ((evalE r e0 σ M).bind truR).bind (fun k M1 => if k = true then evalE r e1 σ M1 else evalE r e2 σ M1) = _
  rw [hc, Res.bind_ok]
theorem e_call {k : Nat} {as : List A} (he : evalEs r es σ M = .ok as M1) : evalE r (.call k .loc es []) σ M = callLoc r k as M1 := by
  show (evalEs r es σ M).bind (fun xs M1 => callSem r k .loc (xs ++ ([] : List D).map A.p) M1) = _
  rw [he, Res.bind_ok]
  show callLoc r k (as ++ []) M1 = _
  rw [List.append_nil]
theorem e_bi {b : Bi} {m : Bool} {as : List A} (he : evalEs r es σ M = .ok as M1) : evalE r (.bi b m es) σ M = biSem b m as M1 := by
  show (evalEs r es σ M).bind (fun xs M1 => biSem b m xs M1) = _
  rw [he, Res.bind_ok]
theorem e_lst {m : Bool} {as : List A} (he : evalEs r es σ M = .ok as M1) (hl : as.length ≤ sizeLine) : evalE r (.lst m es) σ M = newL m as M1 := by
  show (evalEs r es σ M).bind (fun xs M1 => if xs.length ≤ sizeLine then newL m xs M1 else .no) = _
  rw [he, Res.bind_ok, if_pos hl]
theorem e_tup {as : List A} (he : evalEs r es σ M = .ok as M1) (hl : as.length ≤ sizeLine) : evalE r (.tup es) σ M = newT as M1 := by
  show (evalEs r es σ M).bind (fun xs M1 => if xs.length ≤ sizeLine then newT xs M1 else .no) = _
  rw [he, Res.bind_ok, if_pos hl]
theorem es_nil : evalEs r .nil σ M = .ok [] M := rfl
theorem es_cons {as : List A} (h1 : evalE r e σ M = .ok x M1) (h2 : evalEs r es σ M1 = .ok as M2) : evalEs r (.cons e es) σ M = .ok (x :: as) M2 := by
  show (evalE r e σ M).bind (fun x M1 => (evalEs r es σ M1).bind fun xs M2 => .ok (x :: xs) M2) = _
  rw [h1, Res.bind_ok, h2, Res.bind_ok]
theorem e_v {i : Nat} (h : σ[i]? = some (some a)) : evalE r (.v i) σ M = .ok a M := by
  show getV σ i M = _
  unfold getV; rw [h]
end
end Fz

set_option maxHeartbeats 0
namespace Law_k01
open PySem L2 PyProof.Rows Fz
def top (i : Nat) : Stmt := PySem.Challenge.pw_waysheld_k01_names_places_and_roads.main.body.getD i (.Pass ⟨0, 0, 0, 0⟩)
def dd (x : Str) (i : Nat) : He.DefD := ⟨(x, none), x, x, defArgs (top i), defBody (top i), defScope (top i), [], []⟩
/-- is_within -/
def b_0 : Ss := (.cons (.ret (.an (.isi (.v 0) ["int"]) (.an (.nt (.isi (.v 0) ["bool"])) (.cmp2 .le .le (.v 1) (.v 0) (.v 2)))))
   .nil)
def f_0 : Fn := ⟨3, 3, b_0⟩
def r_0 : Rw := ⟨dd "is_within" 5, ["thing", "least", "most"], ["thing", "least", "most"], f_0⟩
theorem bnd_0 : BndOk r_0 := fun _ _ _ _ _ _ us hl => match us, hl with | [_, _, _], _ => rfl
/-- is_name -/
def b_1 : Ss := (.cons (.ret (.an (.isi (.v 0) ["str"]) (.an (.cmp2 .le .le (.ci (1)) (.bi .len false (.cons (.v 0) .nil)) (.gi "LONGEST" (8))) (.bi .all false (.cons (.comp false [1] (.nm 1) (.e (.v 0)) .nil (.cmp .in_ (.v 1) (.gs "SIGNS" "abcdefghijklmnopqrstuvwxyz0123456789"))) .nil)))))
   .nil)
def f_1 : Fn := ⟨1, 2, b_1⟩
def r_1 : Rw := ⟨dd "is_name" 6, ["thing", "sign"], ["thing"], f_1⟩
theorem bnd_1 : BndOk r_1 := fun _ _ _ _ _ _ us hl => match us, hl with | [_], _ => rfl
/-- is_place -/
def b_2 : Ss := (.cons (.ret (.call 0 .loc (.cons (.v 0) (.cons (.ci (0)) (.cons (.gi "GREATEST_PLACE" (999)) .nil))) []))
   .nil)
def f_2 : Fn := ⟨1, 1, b_2⟩
def r_2 : Rw := ⟨dd "is_place" 7, ["thing"], ["thing"], f_2⟩
theorem bnd_2 : BndOk r_2 := fun _ _ _ _ _ _ us hl => match us, hl with | [_], _ => rfl
/-- is_road -/
def b_3 : Ss := (.cons (.ifs (.or_ (.nt (.isi (.v 0) ["tuple"])) (.cmp .ne (.bi .len false (.cons (.v 0) .nil)) (.ci (3)))) (.cons (.ret (.cb false))
   .nil) .nil)
   (.cons (.asg (.tp [1, 2, 3]) (.v 0))
   (.cons (.ret (.an (.call 2 .loc (.cons (.v 1) .nil) []) (.an (.call 2 .loc (.cons (.v 2) .nil) []) (.an (.cmp .ne (.v 1) (.v 2)) (.call 0 .loc (.cons (.v 3) (.cons (.ci (1)) (.cons (.gi "MOST_COST" (1000000000)) .nil))) [])))))
   .nil)))
def f_3 : Fn := ⟨1, 4, b_3⟩
def r_3 : Rw := ⟨dd "is_road" 8, ["thing", "begin", "end", "cost"], ["thing"], f_3⟩
theorem bnd_3 : BndOk r_3 := fun _ _ _ _ _ _ us hl => match us, hl with | [_], _ => rfl
/-- _law_mixed -/
def b_4 : Ss := (.cons (.asg (.nm 2) (.bin .mod false (.bin .pow false (.bin .mod false (.bin .mul false (.bin .add false (.bin .add false (.bin .mod false (.v 0) (.ci (2147483399))) (.bin .mul false (.ci (104729)) (.v 1))) (.ci (11))) (.ci (48271))) (.ci (2147483399))) (.ci (5))) (.ci (2147483399))))
   (.cons (.ifs (.cmp .lt (.v 0) (.bin .pow false (.ci (10)) (.ci (18)))) (.cons (.ret (.v 2))
   .nil) .nil)
   (.cons (.ret (.bin .mod false (.bin .add false (.v 2) (.bin .mod false (.bin .fdiv false (.v 0) (.bin .pow false (.ci (10)) (.ci (18)))) (.bin .add false (.ci (1)) (.bin .mul false (.bin .add false (.v 1) (.ci (1))) (.ci (4014476939333036189094441199026045136645885247730)))))) (.ci (2147483399))))
   .nil)))
def f_4 : Fn := ⟨2, 3, b_4⟩
def r_4 : Rw := ⟨dd "_law_mixed" 10, ["_law_cell", "_law_turn", "_law_mix"], ["_law_cell", "_law_turn"], f_4⟩
theorem bnd_4 : BndOk r_4 := fun _ _ _ _ _ _ us hl => match us, hl with | [_, _], _ => rfl
/-- _law_next -/
def b_5 : Ss := (.cons (.asg (.nm 2) (.sub (.v 0) (.ci (1))))
   (.cons (.setI (.v 0) (.ci (1)) (.bin .add false (.v 2) (.ci (1))))
   (.cons (.asg (.nm 3) (.bi .max2 false (.cons (.ci (1)) (.cons (.bi .len false (.cons (.sub (.v 0) (.ci (0))) .nil)) .nil))))
   (.cons (.asg (.nm 4) (.ci (0)))
   (.cons (.ifs (.cmp .ne (.sub (.v 0) (.ci (0))) (.lst false .nil)) (.cons (.asg (.nm 4) (.sub (.sub (.v 0) (.ci (0))) (.bin .mod false (.v 2) (.v 3))))
   .nil) .nil)
   (.cons (.ret (.bin .mod false (.bin .fdiv false (.call 4 .loc (.cons (.v 4) (.cons (.bin .mod false (.bin .fdiv false (.v 2) (.v 3)) (.ci (127))) .nil)) []) (.ci (7))) (.v 1)))
   .nil))))))
def f_5 : Fn := ⟨2, 5, b_5⟩
def r_5 : Rw := ⟨dd "_law_next" 11, ["_law_draw", "_law_size", "_law_at", "_law_many", "_law_cell"], ["_law_draw", "_law_size"], f_5⟩
theorem bnd_5 : BndOk r_5 := fun _ _ _ _ _ _ us hl => match us, hl with | [_, _], _ => rfl
/-- _law_names -/
def b_6 : Ss := (.cons (.asg (.nm 2) (.lst false (.cons (.cs "road") (.cons (.cs "ban") (.cons (.cs "tile") (.cons (.cs "way") (.cons (.cs "none") (.cons (.cs "lacks") (.cons (.cs "undo") (.cons (.cs "drop") (.cons (.cs "free") (.cons (.cs "closed") (.cons (.cs "0") (.cons (.cs "a") (.cons (.cs "aa") (.cons (.cs "a0") (.cons (.cs "z") .nil)))))))))))))))))
   (.cons (.asg (.nm 3) (.cs "abcdefghijklmnopqrstuvwxyz0123456789"))
   (.cons (.asg (.nm 4) (.lst true .nil))
   (.cons (.whl 400 (.cmp .lt (.bi .len false (.cons (.v 4) .nil)) (.v 1)) (.cons (.asg (.nm 5) (.call 5 .loc (.cons (.v 0) (.cons (.ci (4)) .nil)) []))
   (.cons (.asg (.nm 6) (.ifx (.cmp .eq (.v 5) (.ci (0))) (.sub (.v 2) (.call 5 .loc (.cons (.v 0) (.cons (.ci (15)) .nil)) [])) (.bin .add false (.cs "r") (.bi .strI false (.cons (.bi .len false (.cons (.v 4) .nil)) .nil)))))
   (.cons (.ifs (.cmp .eq (.v 5) (.ci (1))) (.cons (.asg (.nm 6) (.bm .join false (.cs "") (.cons (.comp false [8] (.nm 8) (.rng1 (.bin .add false (.ci (1)) (.call 5 .loc (.cons (.v 0) (.cons (.ci (8)) .nil)) []))) .nil (.sub (.v 3) (.call 5 .loc (.cons (.v 0) (.cons (.ci (36)) .nil)) []))) .nil)))
   .nil) .nil)
   (.cons (.asg (.nm 7) (.bin .add false (.lst false (.cons (.v 6) .nil)) (.comp false [8] (.nm 8) (.rng1 (.ci (99))) .nil (.bin .add false (.cs "q") (.bi .strI false (.cons (.v 8) .nil))))))
   (.cons (.app (.v 4) (.sub (.comp false [9] (.nm 9) (.e (.v 7)) (.cons (.cmp .nin (.v 9) (.v 4)) .nil) (.v 9)) (.ci (0))))
   .nil))))))
   (.cons (.ret (.v 4))
   .nil)))))
def f_6 : Fn := ⟨2, 10, b_6⟩
def r_6 : Rw := ⟨dd "_law_names" 12, ["_law_draw", "_law_many", "_law_own", "_law_letters", "_law_found", "_law_sort", "_law_name", "_law_fresh", "_law_spot", "_law_one"], ["_law_draw", "_law_many"], f_6⟩
theorem bnd_6 : BndOk r_6 := fun _ _ _ _ _ _ us hl => match us, hl with | [_, _], _ => rfl
/-- _law_is_number -/
def b_7 : Ss := (.cons (.ret (.an (.isi (.v 0) ["int"]) (.an (.nt (.isi (.v 0) ["bool"])) (.cmp2 .le .le (.v 1) (.v 0) (.v 2)))))
   .nil)
def f_7 : Fn := ⟨3, 3, b_7⟩
def r_7 : Rw := ⟨dd "_law_is_number" 13, ["_law_thing", "_law_least", "_law_greatest"], ["_law_thing", "_law_least", "_law_greatest"], f_7⟩
theorem bnd_7 : BndOk r_7 := fun _ _ _ _ _ _ us hl => match us, hl with | [_, _, _], _ => rfl
/-- _law_is_name -/
def b_8 : Ss := (.cons (.ifs (.or_ (.nt (.isi (.v 0) ["str"])) (.nt (.cmp2 .lt .lt (.ci (0)) (.bi .len false (.cons (.v 0) .nil)) (.ci (9))))) (.cons (.ret (.cb false))
   .nil) .nil)
   (.cons (.ret (.cmp .eq (.comp false [1] (.nm 1) (.e (.v 0)) (.cons (.cmp .nin (.v 1) (.cs "abcdefghijklmnopqrstuvwxyz0123456789")) .nil) (.v 1)) (.lst false .nil)))
   .nil))
def f_8 : Fn := ⟨1, 2, b_8⟩
def r_8 : Rw := ⟨dd "_law_is_name" 14, ["_law_thing", "_law_sign"], ["_law_thing"], f_8⟩
theorem bnd_8 : BndOk r_8 := fun _ _ _ _ _ _ us hl => match us, hl with | [_], _ => rfl
/-- _law_is_road -/
def b_9 : Ss := (.cons (.ifs (.or_ (.nt (.isi (.v 0) ["tuple"])) (.or_ (.cmp .ne (.bi .len false (.cons (.v 0) .nil)) (.ci (3))) (.nt (.call 7 .loc (.cons (.sub (.v 0) (.ci (2))) (.cons (.ci (1)) (.cons (.bin .pow false (.ci (10)) (.ci (9))) .nil))) [])))) (.cons (.ret (.cb false))
   .nil) .nil)
   (.cons (.asgL 1 false [2] (.nm 2) (.e (.slc false (.v 0) .nil (.cons (.ci (2)) .nil))) (.cons (.call 7 .loc (.cons (.v 2) (.cons (.ci (0)) (.cons (.ci (999)) .nil))) []) .nil) (.v 2))
   (.cons (.ret (.an (.cmp .eq (.bi .len false (.cons (.v 1) .nil)) (.ci (2))) (.cmp .ne (.sub (.v 1) (.ci (0))) (.sub (.v 1) (.ci (1))))))
   .nil)))
def f_9 : Fn := ⟨1, 3, b_9⟩
def r_9 : Rw := ⟨dd "_law_is_road" 15, ["_law_thing", "_law_spots", "_law_one"], ["_law_thing"], f_9⟩
theorem bnd_9 : BndOk r_9 := fun _ _ _ _ _ _ us hl => match us, hl with | [_], _ => rfl
/-- _law_near -/
def b_10 : Ss := (.cons (.par [2, 3, 4] (.cons (.call 5 .loc (.cons (.v 0) (.cons (.ci (4)) .nil)) []) (.cons (.call 5 .loc (.cons (.v 0) (.cons (.bin .add false (.bi .len false (.cons (.v 1) .nil)) (.ci (1))) .nil)) []) (.cons (.sub (.cs "Az0 _-/\n~B") (.call 5 .loc (.cons (.v 0) (.cons (.ci (10)) .nil)) [])) .nil))))
   (.cons (.ret (.sub (.lst false (.cons (.bin .add false (.bin .add false (.slc false (.v 1) .nil (.cons (.v 3) .nil)) (.v 4)) (.slc false (.v 1) (.cons (.v 3) .nil) .nil)) (.cons (.bin .add false (.slc false (.v 1) .nil (.cons (.v 3) .nil)) (.slc false (.v 1) (.cons (.bin .add false (.v 3) (.ci (1))) .nil) .nil)) (.cons (.bin .add false (.bin .add false (.slc false (.v 1) .nil (.cons (.v 3) .nil)) (.v 4)) (.slc false (.v 1) (.cons (.bin .add false (.v 3) (.ci (1))) .nil) .nil)) (.cons (.bin .mul false (.v 1) (.ci (3))) .nil))))) (.v 2)))
   .nil))
def f_10 : Fn := ⟨2, 5, b_10⟩
def r_10 : Rw := ⟨dd "_law_near" 16, ["_law_draw", "_law_text", "_law_way", "_law_at", "_law_sign"], ["_law_draw", "_law_text"], f_10⟩
theorem bnd_10 : BndOk r_10 := fun _ _ _ _ _ _ us hl => match us, hl with | [_, _], _ => rfl
/-- _law_odd_number -/
def b_11 : Ss := (.cons (.asg (.nm 1) (.lst false (.cons (.ci (0)) (.cons (.ci (1)) (.cons (.neg (.ci (1))) (.cons (.ci (998)) (.cons (.ci (999)) (.cons (.ci (1000)) (.cons (.bin .pow false (.ci (10)) (.ci (9))) (.cons (.bin .add false (.bin .pow false (.ci (10)) (.ci (9))) (.ci (1))) (.cons (.cb true) (.cons (.cb false) (.cons .cn (.cons (.cs "1") (.cons (.tup (.cons (.ci (1)) .nil)) (.cons (.bin .pow false (.ci (10)) (.ci (12))) (.cons (.bin .sub false (.bin .pow false (.ci (10)) (.ci (9))) (.ci (1))) .nil)))))))))))))))))
   (.cons (.ret (.sub (.bin .add false (.v 1) (.lst false (.cons (.call 5 .loc (.cons (.v 0) (.cons (.ci (1000)) .nil)) []) (.cons (.bin .mul false (.call 5 .loc (.cons (.v 0) (.cons (.bin .pow false (.ci (10)) (.ci (6))) .nil)) []) (.ci (1000))) .nil)))) (.call 5 .loc (.cons (.v 0) (.cons (.ci (17)) .nil)) [])))
   .nil))
def f_11 : Fn := ⟨1, 2, b_11⟩
def r_11 : Rw := ⟨dd "_law_odd_number" 17, ["_law_draw", "_law_some"], ["_law_draw"], f_11⟩
theorem bnd_11 : BndOk r_11 := fun _ _ _ _ _ _ us hl => match us, hl with | [_], _ => rfl
/-- _law_is_right -/
def b_12 : Ss := (.cons (.asg (.nm 1) (.lst false (.cons (.call 1 .loc (.cons (.v 0) .nil) []) (.cons (.call 2 .loc (.cons (.v 0) .nil) []) (.cons (.call 3 .loc (.cons (.v 0) .nil) []) .nil)))))
   (.cons (.ifs (.cmp .ne (.comp false [2] (.nm 2) (.e (.v 1)) (.cons (.nt (.isi (.v 2) ["bool"])) .nil) (.v 2)) (.lst false .nil)) (.cons (.ret (.cb false))
   .nil) .nil)
   (.cons (.ret (.cmp .eq (.v 1) (.lst false (.cons (.call 8 .loc (.cons (.v 0) .nil) []) (.cons (.call 7 .loc (.cons (.v 0) (.cons (.ci (0)) (.cons (.ci (999)) .nil))) []) (.cons (.call 9 .loc (.cons (.v 0) .nil) []) .nil))))))
   .nil)))
def f_12 : Fn := ⟨1, 3, b_12⟩
def r_12 : Rw := ⟨dd "_law_is_right" 18, ["_law_thing", "_law_told", "_law_one"], ["_law_thing"], f_12⟩
theorem bnd_12 : BndOk r_12 := fun _ _ _ _ _ _ us hl => match us, hl with | [_], _ => rfl
/-- law -/
def b_13 : Ss := (.cons (.asg (.nm 1) (.lst true (.cons (.v 0) (.cons (.ci (0)) .nil))))
   (.cons (.for_ (.nm 2) (.e (.call 6 .loc (.cons (.v 1) (.cons (.bi .max2 false (.cons (.ci (4)) (.cons (.bi .min2 false (.cons (.ci (10)) (.cons (.bi .len false (.cons (.v 0) .nil)) .nil))) .nil))) .nil)) [])) (.cons (.par [9, 10] (.cons (.call 5 .loc (.cons (.v 1) (.cons (.ci (3)) .nil)) []) (.cons (.call 5 .loc (.cons (.v 1) (.cons (.ci (3)) .nil)) []) .nil)))
   (.cons (.asg (.nm 3) (.lst true (.cons (.v 2) (.cons (.bm .upper false (.v 2) .nil) (.cons (.rev false (.v 2)) (.cons (.bi .list false (.cons (.v 2) .nil)) (.cons (.tup (.cons (.v 2) .nil)) .nil)))))))
   (.cons (.for_ (.nm 4) (.rng1 (.v 9)) (.cons (.app (.v 3) (.call 10 .loc (.cons (.v 1) (.cons (.ifx (.cmp .eq (.v 4) (.ci (0))) (.sub (.v 3) (.ci (0))) (.sub (.v 3) (.neg (.ci (1))))) .nil)) []))
   .nil))
   (.cons (.asg (.nm 5) (.tup (.cons (.call 5 .loc (.cons (.v 1) (.cons (.ci (1000)) .nil)) []) (.cons (.call 5 .loc (.cons (.v 1) (.cons (.ci (1000)) .nil)) []) (.cons (.bin .add false (.ci (1)) (.bin .mul false (.call 5 .loc (.cons (.v 1) (.cons (.ci (1000)) .nil)) []) (.bin .pow false (.ci (10)) (.ci (6))))) .nil)))))
   (.cons (.asg (.nm 6) (.bin .add false (.bin .add false (.slc false (.v 5) .nil (.cons (.v 10) .nil)) (.tup (.cons (.call 11 .loc (.cons (.v 1) .nil) []) .nil))) (.slc false (.v 5) (.cons (.bin .add false (.v 10) (.ci (1))) .nil) .nil)))
   (.cons (.asg (.nm 7) (.call 5 .loc (.cons (.v 1) (.cons (.ci (3)) .nil)) []))
   (.cons (.asg (.nm 8) (.bin .add false (.bin .add false (.slc false (.v 6) .nil (.cons (.v 7) .nil)) (.tup (.cons (.call 11 .loc (.cons (.v 1) .nil) []) .nil))) (.slc false (.v 6) (.cons (.bin .add false (.v 7) (.ci (1))) .nil) .nil)))
   (.cons (.asg (.nm 3) (.bin .add true (.v 3) (.lst false (.cons (.v 5) (.cons (.bi .list false (.cons (.v 5) .nil)) (.cons (.rev false (.v 5)) (.cons (.slc false (.v 5) .nil (.cons (.ci (2)) .nil)) (.cons (.bin .add false (.v 5) (.slc false (.v 5) .nil (.cons (.ci (1)) .nil))) (.cons (.tup (.cons (.sub (.v 5) (.ci (0))) (.cons (.sub (.v 5) (.ci (0))) (.cons (.sub (.v 5) (.ci (2))) .nil)))) (.cons (.v 6) (.cons (.v 8) .nil)))))))))))
   (.cons (.asg (.nm 3) (.bin .add true (.v 3) (.lst false (.cons (.call 11 .loc (.cons (.v 1) .nil) []) (.cons (.sub (.v 5) (.ci (0))) (.cons (.dct false (.cons (.v 2) (.cons (.v 5) .nil))) (.cons .cn (.cons (.cs "") (.cons (.tup .nil) (.cons (.lst false .nil) (.cons (.dct false .nil) .nil)))))))))))
   (.cons (.ifs (.cmp .ne (.comp false [11] (.nm 11) (.e (.v 3)) (.cons (.nt (.call 12 .loc (.cons (.v 11) .nil) [])) .nil) (.v 11)) (.lst false .nil)) (.cons (.ret (.cb false))
   .nil) .nil)
   .nil)))))))))))
   (.cons (.ret (.cb true))
   .nil)))
def f_13 : Fn := ⟨1, 12, b_13⟩
def r_13 : Rw := ⟨dd "law" 19, ["_law_script", "_law_draw", "_law_name", "_law_some", "_law_turn", "_law_road", "_law_one", "_law_to", "_law_two", "_law_spoils", "_law_at", "_law_thing"], ["_law_script"], f_13⟩
theorem bnd_13 : BndOk r_13 := fun _ _ _ _ _ _ us hl => match us, hl with | [_], _ => rfl
def rows : List Rw := [r_0, r_1, r_2, r_3, r_4, r_5, r_6, r_7, r_8, r_9, r_10, r_11, r_12, r_13]
def fs : List Fn := [f_0, f_1, f_2, f_3, f_4, f_5, f_6, f_7, f_8, f_9, f_10, f_11, f_12, f_13]
def T : Tab := ⟨[], rows.map (fun r => (r.d.name, r.ps.length)), [("LONGEST", 8), ("GREATEST_PLACE", 999), ("MOST_COST", 1000000000)], [("SIGNS", "abcdefghijklmnopqrstuvwxyz0123456789")], ["all", "bool", "int", "isinstance", "len", "list", "max", "min", "range", "str", "tuple"]⟩
theorem row_0 : rowB T r_0 = true := by decide +kernel
theorem row_1 : rowB T r_1 = true := by decide +kernel
theorem row_2 : rowB T r_2 = true := by decide +kernel
theorem row_3 : rowB T r_3 = true := by decide +kernel
theorem row_4 : rowB T r_4 = true := by decide +kernel
theorem row_5 : rowB T r_5 = true := by decide +kernel
theorem row_6 : rowB T r_6 = true := by decide +kernel
theorem row_7 : rowB T r_7 = true := by decide +kernel
theorem row_8 : rowB T r_8 = true := by decide +kernel
theorem row_9 : rowB T r_9 = true := by decide +kernel
theorem row_10 : rowB T r_10 = true := by decide +kernel
theorem row_11 : rowB T r_11 = true := by decide +kernel
theorem row_12 : rowB T r_12 = true := by decide +kernel
theorem row_13 : rowB T r_13 = true := by decide +kernel
theorem hrow : rows.all (rowB T) = true := by
  show [r_0, r_1, r_2, r_3, r_4, r_5, r_6, r_7, r_8, r_9, r_10, r_11, r_12, r_13].all (rowB T) = true
  simp only [List.all_cons, List.all_nil, row_0, row_1, row_2, row_3, row_4, row_5, row_6, row_7, row_8, row_9, row_10, row_11, row_12, row_13, Bool.and_true]
theorem hat : ∀ r ∈ rows, r.d.at_ = (r.d.name, none) := by
  have h : rows.all (fun r => decide (r.d.at_ = (r.d.name, none))) = true := by decide +kernel
  exact fun r hr => of_decide_eq_true (List.all_eq_true.mp h r hr)
theorem hb : ∀ r ∈ rows, BndOk r := List.forall_mem_cons.mpr ⟨bnd_0, List.forall_mem_cons.mpr ⟨bnd_1, List.forall_mem_cons.mpr ⟨bnd_2, List.forall_mem_cons.mpr ⟨bnd_3, List.forall_mem_cons.mpr ⟨bnd_4, List.forall_mem_cons.mpr ⟨bnd_5, List.forall_mem_cons.mpr ⟨bnd_6, List.forall_mem_cons.mpr ⟨bnd_7, List.forall_mem_cons.mpr ⟨bnd_8, List.forall_mem_cons.mpr ⟨bnd_9, List.forall_mem_cons.mpr ⟨bnd_10, List.forall_mem_cons.mpr ⟨bnd_11, List.forall_mem_cons.mpr ⟨bnd_12, List.forall_mem_cons.mpr ⟨bnd_13, fun _ h => nomatch h⟩⟩⟩⟩⟩⟩⟩⟩⟩⟩⟩⟩⟩⟩
abbrev R : PySem.W.OpenRow := PySem.W.OpenLaw.row PySem.Challenge.rw_waysheld_k01_names_places_and_roads
abbrev hk : PySem.W.Hook := hookN 4 (facts T rows) (rows.map (·.d))
def ob (s : PySem.W.SharedT) : He.AlD := obsN 4 (facts T rows) (rows.map (·.d)) (HandSHeadRun.getT s)
theorem ob_eq (s : PySem.W.SharedT) : ob s = hk.obs s.abs := obsN_eq (HandSHeadRun.getT_eq s)
def names : List Str := ["SIGNS", "LONGEST", "GREATEST_PLACE", "MOST_COST", "is_within", "is_name", "is_place", "is_road", "_law_mixed", "_law_next", "_law_names", "_law_is_number", "_law_is_name", "_law_is_road", "_law_near", "_law_odd_number", "_law_is_right"]
theorem run (w : World) : HandSHeadRun.RunEq R (PySem.W.view R.prog [19]) hk ob 600 names w := by
  intro os
  kernel_rfl
theorem end_ (plain : ∀ ns : List Int, ns.length ≤ 63 → ∃ M, runP (rows.map (·.fn)) 12 13 [.p (.lst (ns.map D.int))] [] = .ok (.p (.bl true)) M) : PySem.Challenge.rw_waysheld_k01_names_places_and_roads.Holds := by
  w_on; o_law
  refine HandSHeadRun.head_any (r := PySem.W.OpenLaw.row PySem.Challenge.rw_waysheld_k01_names_places_and_roads) (q := PySem.W.view (PySem.W.OpenLaw.row PySem.Challenge.rw_waysheld_k01_names_places_and_roads).prog [19]) (H := hk) (ob := ob) (M := 600) (loose := names) (d := HandSHeadRun.topDef (PySem.W.OpenLaw.row PySem.Challenge.rw_waysheld_k01_names_places_and_roads).prog 19) (kwd := []) ob_eq
    (by kernel_rfl) (fun s => by kernel_rfl) run (by kernel_rfl) (by kernel_rfl) (by kernel_rfl) (by rfl) (by first | assumption | decide +kernel) (by decide +kernel) ⟨rfl, rfl, rfl, rfl, rfl, by decide +kernel⟩ ?hw ?hc
  case hw => w_witness2
  case hc =>
    exact walk_fz (l := PySem.Challenge.rw_waysheld_k01_names_places_and_roads) (m := 4) (T := T) (rows := rows) (r := r_13) (n := 12) (k := 13) (x := "_law_script") rfl (by kernel_rfl) ⟨rfl, by decide, by decide⟩ rfl hrow hat hb rfl rfl (by kernel_rfl) plain
end Law_k01

set_option maxHeartbeats 4000000
namespace Law_k01
open Fz PySem
/-- isinstance(x, int) and not isinstance(x, bool) and lo <= x <= hi -/
def within (lo hi : Int) : D → Bool
  | .int i => decide (lo ≤ i) && decide (i ≤ hi)
  | _ => false
theorem is_within_ok (n : Nat) (d : D) (lo hi : Int) (M : Mem) (h : good d = true) : runP fs (n + 1) 0 [.p d, .p (.int lo), .p (.int hi)] M = .ok (.p (.bl (within lo hi d))) M := by
  refine runP_ret (f := f_0) rfl rfl ?_
  simp [f_0, b_0, startE, evalSs, evalS, evalE, getV, isi_ok _ (.inl rfl) d h, isi_ok _ (.inr (.inl rfl)) d h, cmp2S]
  cases d <;> simp [isTy, tyNames, within] <;> (rename_i i; by_cases hc : lo ≤ i <;> simp [hc])
theorem call0 (n : Nat) (d : D) (lo hi : Int) (M : Mem) (h : good d = true) : callLoc (runP fs (n + 1)) 0 [.p d, .p (.int lo), .p (.int hi)] M = .ok (.p (.bl (within lo hi d))) M :=
  callLoc_p (ds := [d, .int lo, .int hi]) (is_within_ok n d lo hi [] h)
theorem is_number_ok (n : Nat) (d : D) (lo hi : Int) (M : Mem) (h : good d = true) : runP fs (n + 1) 7 [.p d, .p (.int lo), .p (.int hi)] M = .ok (.p (.bl (within lo hi d))) M := by
  refine runP_ret (f := f_7) rfl rfl ?_
  simp [f_7, b_7, startE, evalSs, evalS, evalE, getV, isi_ok _ (.inl rfl) d h, isi_ok _ (.inr (.inl rfl)) d h, cmp2S]
  cases d <;> simp [isTy, tyNames, within] <;> (rename_i i; by_cases hc : lo ≤ i <;> simp [hc])
theorem call7 (n : Nat) (d : D) (lo hi : Int) (M : Mem) (h : good d = true) : callLoc (runP fs (n + 1)) 7 [.p d, .p (.int lo), .p (.int hi)] M = .ok (.p (.bl (within lo hi d))) M :=
  callLoc_p (ds := [d, .int lo, .int hi]) (is_number_ok n d lo hi [] h)
theorem is_place_ok (n : Nat) (d : D) (M : Mem) (h : good d = true) : runP fs (n + 2) 2 [.p d] M = .ok (.p (.bl (within 0 999 d))) M := by
  refine runP_ret (f := f_2) rfl rfl ?_
  simp [f_2, b_2, startE, evalSs, evalS, evalE, evalEs, getV, callSem, call0 n d 0 999 M h]
theorem call2 (n : Nat) (d : D) (M : Mem) (h : good d = true) : callLoc (runP fs (n + 2)) 2 [.p d] M = .ok (.p (.bl (within 0 999 d))) M :=
  callLoc_p (ds := [d]) (is_place_ok n d [] h)
/-! ### names -/
def SG : Str := "abcdefghijklmnopqrstuvwxyz0123456789"
def nameD : D → Bool
  | .str z => decide (1 ≤ z.length) && decide (z.length ≤ 8) && (signs z).all fun c => match c with
    | .str t => strIn t SG
    | _ => false
  | _ => false
theorem bools_map {α : Type} (f : α → Bool) : ∀ l : List α, bools (l.map fun x => D.bl (f x)) = some (l.map f)
  | [] => rfl
  | x :: l => by show (bools (l.map fun x => D.bl (f x))).map (f x :: ·) = _; rw [bools_map f l]; rfl
theorem is_name_ok (n : Nat) (d : D) (M : Mem) (h : good d = true) : runP fs (n + 1) 1 [.p d] M = .ok (.p (.bl (nameD d))) M := by
  refine runP_ret (f := f_1) rfl rfl ?_
  cases d with
  | str z =>
    have hz : z.length ≤ sizeLine := of_decide_eq_true h
    have hc := comp_D (r := runP fs n) (M := M) (tg := .nm 1) (own := [1]) (σ := [some (.p (.str z)), none]) (it := .e (.v 0)) (ifs := .nil) (elt := .cmp .in_ (.v 1) (.gs "SIGNS" SG)) (ds := signs z) (p := fun _ => true) (g := fun a => match a with
      | .str t => .bl (strIn t SG)
      | a => a) (s := .fx ((signs z).map A.p)) rfl (by show ((signs z).map A.p).length = _; rw [List.length_map]) (fun k => rfl) (by unfold signs; rw [List.length_map, Array.length_toList]; exact hz) (fun d hd => by
        unfold signs at hd
        obtain ⟨c, _, rfl⟩ := List.mem_map.mp hd
        exact ⟨_, rfl, rfl, fun _ => rfl⟩)
    have hb : bools ((((signs z).filter fun _ => true)).map fun a => match a with
      | .str t => D.bl (strIn t SG)
      | a => a) = some ((signs z).map fun c => match c with
      | .str t => strIn t SG
      | _ => false) := by
      rw [List.filter_eq_self.mpr (fun _ _ => rfl)]
      unfold signs
      rw [List.map_map, List.map_map]
      exact bools_map _ _
    have lz : lenS (.p (.str z)) M = .ok (.p (.int z.length)) M := by unfold lenS; simp [hz]
    show evalSs (runP fs n) (.cons (.ret (.an (.isi (.v 0) ["str"]) (.an (.cmp2 .le .le (.ci (1)) (.bi .len false (.cons (.v 0) .nil)) (.gi "LONGEST" (8))) (.bi .all false (.cons (.comp false [1] (.nm 1) (.e (.v 0)) .nil (.cmp .in_ (.v 1) (.gs "SIGNS" SG))) .nil))))) .nil) [some (.p (.str z)), none] M = _
    generalize E.comp false [1] (.nm 1) (.e (.v 0)) .nil (.cmp .in_ (.v 1) (.gs "SIGNS" SG)) = ec at hc ⊢
    simp only [evalSs, evalS, evalE, evalEs, getV, List.getElem?_cons_zero, Res.bind_ok, isi_ok "str" (by simp) (.str z) h, bo_some, bbind_bl, cmp2S, biSem, one, lz, val_eq]
    rw [if_pos (show isTy "str" (D.str z) = true from rfl)]
    simp only [cmpA_le, Res.bind_ok, bbind_bl]
    unfold nameD
    by_cases c1 : (1 : Int) ≤ z.length
    · by_cases c2 : (z.length : Int) ≤ 8
      · simp only [c1, c2, decide_true, if_true, Res.bind_ok, bbind_bl, hc, lstF_ok hb, st_ok, seq_ret]
        simp only [List.all_map]
        have d1 : decide (1 ≤ z.length) = true := decide_eq_true (by omega)
        have d2 : decide (z.length ≤ 8) = true := decide_eq_true (by omega)
        rw [d1, d2]; rfl
      · have d2 : decide (z.length ≤ 8) = false := decide_eq_false (by omega)
        simp [c1, c2, d2]
    · have d1 : decide (1 ≤ z.length) = false := decide_eq_false (by omega)
      simp [c1, d1]
  | _ => first | rfl | cases h
theorem call1 (n : Nat) (d : D) (M : Mem) (h : good d = true) : callLoc (runP fs (n + 1)) 1 [.p d] M = .ok (.p (.bl (nameD d))) M :=
  callLoc_p (ds := [d]) (is_name_ok n d [] h)
/-! ### roads -/
def roadD : D → Bool
  | .tup [.int b, .int e, c] => within 0 999 (.int b) && within 0 999 (.int e) && !decide (b = e) && within 1 1000000000 c
  | _ => false
def good3 : D → Bool
  | .tup [a, b, c] => good a && good b && good c
  | d => good d
theorem good3_good {d : D} (h : good3 d = true) : good d = true := by
  unfold good3 at h
  split at h
  · rfl
  · exact h
theorem within_int {lo hi : Int} {d : D} (h : within lo hi d = true) : ∃ i, d = .int i := by
  cases d <;> first | exact ⟨_, rfl⟩ | cases h
theorem is_road_ok (n : Nat) (d : D) (M : Mem) (h : good3 d = true) : runP fs (n + 3) 3 [.p d] M = .ok (.p (.bl (roadD d))) M := by
  refine runP_ret (f := f_3) rfl rfl ?_
  cases d with
  | tup xs =>
    by_cases hl : xs.length = 3
    · match xs, hl with
      | [a, b, c], _ =>
        simp only [good3, Bool.and_eq_true] at h
        obtain ⟨⟨ha, hb⟩, hc⟩ := h
        show ((Res.bind (callLoc (runP fs (n + 2)) 2 [.p a] M) fun x M1 => bbind x M1 fun c1 M2 => if c1 = true then (Res.bind (callLoc (runP fs (n + 2)) 2 [.p b] M2) fun x M1 => bbind x M1 fun c2 M2 => if c2 = true then (Res.bind (cmpA .ne (.p a) (.p b) M2) fun x M1 => bbind x M1 fun c3 M2 => if c3 = true then callLoc (runP fs (n + 2)) 0 [.p c, .p (.int 1), .p (.int 1000000000)] M2 else val (.bl false) M2) else val (.bl false) M2) else val (.bl false) M2).st _ fun a M1 => SR.ret a M1).seq _ = _
        rw [call2 n a M ha, Res.bind_ok, bbind_bl]
        cases h1 : within 0 999 a with
        | false =>
          have : roadD (.tup [a, b, c]) = false := by
            unfold roadD
            split
            · rename_i e; cases e; rw [h1]; rfl
            · rfl
          rw [this]; rfl
        | true =>
          obtain ⟨i, rfl⟩ := within_int h1
          rw [if_pos rfl, call2 n b M hb, Res.bind_ok, bbind_bl]
          cases h2 : within 0 999 b with
          | false =>
            have : roadD (.tup [.int i, b, c]) = false := by
              unfold roadD
              split
              · rename_i e; cases e; rw [h2, Bool.and_false]; rfl
              · rfl
            rw [this]; rfl
          | true =>
            obtain ⟨j, rfl⟩ := within_int h2
            rw [if_pos rfl, cmpA_ne_int, Res.bind_ok, bbind_bl]
            have e : roadD (.tup [.int i, .int j, c]) = (!decide (i = j) && within 1 1000000000 c) := by
              show (within 0 999 (.int i) && within 0 999 (.int j) && !decide (i = j) && within 1 1000000000 c) = _
              rw [h1, h2]; rfl
            rw [e]
            cases decide (i = j) with
            | true => rfl
            | false =>
              show ((callLoc (runP fs (n + 1 + 1)) 0 [.p c, .p (.int 1), .p (.int 1000000000)] M).st _ fun a M1 => SR.ret a M1).seq _ = _
              rw [call0 (n + 1) c 1 1000000000 M hc]; rfl
    · have e : roadD (.tup xs) = false := by
        unfold roadD
        split
        · rename_i e; cases e; exact absurd rfl hl
        · rfl
      rw [e]
      have hl' : ¬ ((xs.length : Int) = 3) := by omega
      simp [f_3, b_3, startE, evalSs, evalS, evalE, evalEs, getV, isi_ok "tuple" (by simp) (.tup xs) rfl, isTy, tyNames, biSem, one, hl']
  | _ => first | rfl | cases h
def okS : D → Bool
  | .str z => PyData.strOk z
  | _ => true
theorem signs_ok {z : Str} (h : PyData.strOk z = true) {d : D} (hd : d ∈ signs z) : eqOk 0 d = true := by
  unfold signs at hd
  obtain ⟨c, hc, rfl⟩ := List.mem_map.mp hd
  unfold PyData.strOk at h
  have := Array.all_eq_true_iff_forall_mem.mp h c (by simpa using hc)
  show PyData.strOk ⟨#[c]⟩ = true
  unfold PyData.strOk
  simpa using this
theorem is_name8_ok (n : Nat) (d : D) (M : Mem) (h : good d = true) (ho : okS d = true) : runP fs (n + 1) 8 [.p d] M = .ok (.p (.bl (nameD d))) M := by
  refine runP_ret (f := f_8) rfl rfl ?_
  cases d with
  | str z =>
    have hz : z.length ≤ sizeLine := of_decide_eq_true h
    have hc := comp_D (r := runP fs n) (M := M) (tg := .nm 1) (own := [1]) (σ := [some (.p (.str z)), none]) (it := .e (.v 0)) (ifs := .cons (.cmp .nin (.v 1) (.cs SG)) .nil) (elt := .v 1) (ds := signs z) (p := fun a => match a with
      | .str t => !strIn t SG
      | _ => true) (g := id) (s := .fx ((signs z).map A.p)) rfl (by show ((signs z).map A.p).length = _; rw [List.length_map]) (fun k => rfl) (by unfold signs; rw [List.length_map, Array.length_toList]; exact hz) (fun d hd => by
        unfold signs at hd
        obtain ⟨c, _, rfl⟩ := List.mem_map.mp hd
        refine ⟨_, rfl, ?_, fun _ => rfl⟩
        exact ifs1 (.ok (!strIn ⟨#[c]⟩ SG) M))
    rw [List.map_id] at hc
    have hall : (((signs z).filter fun a => match a with
      | .str t => !strIn t SG
      | _ => true)).all (eqOk 0) = true := List.all_eq_true.mpr fun d hd => signs_ok ho (List.mem_filter.mp hd).1
    show evalSs (runP fs n) (.cons (.ifs (.or_ (.nt (.isi (.v 0) ["str"])) (.nt (.cmp2 .lt .lt (.ci (0)) (.bi .len false (.cons (.v 0) .nil)) (.ci (9))))) (.cons (.ret (.cb false)) .nil) .nil)
      (.cons (.ret (.cmp .eq (.comp false [1] (.nm 1) (.e (.v 0)) (.cons (.cmp .nin (.v 1) (.cs SG)) .nil) (.v 1)) (.lst false .nil))) .nil)) [some (.p (.str z)), none] M = _
    generalize E.comp false [1] (.nm 1) (.e (.v 0)) (.cons (.cmp .nin (.v 1) (.cs SG)) .nil) (.v 1) = ec at hc ⊢
    simp only [evalSs, evalS, evalE, evalEs, getV, List.getElem?_cons_zero, Res.bind_ok, isi_ok "str" (by simp) (.str z) h, bo_some, bbind_bl, cmp2S, biSem, one, len_str hz, val_eq, truR_bl, cmpA_lt]
    rw [show isTy "str" (D.str z) = true from rfl]
    unfold nameD
    have hfin : (((signs z).filter fun a => match a with
      | .str t => !strIn t SG
      | _ => true)).isEmpty = (signs z).all fun c => match c with
      | .str t => strIn t SG
      | _ => false := by
      rw [Bool.eq_iff_iff, List.isEmpty_iff, List.filter_eq_nil_iff, List.all_eq_true]
      constructor
      · intro q x hx
        have := q x hx
        unfold signs at hx
        obtain ⟨c, _, rfl⟩ := List.mem_map.mp hx
        simpa using this
      · intro q x hx
        have := q x hx
        unfold signs at hx
        obtain ⟨c, _, rfl⟩ := List.mem_map.mp hx
        simpa using this
    by_cases c1 : (0 : Int) < z.length
    · by_cases c2 : (z.length : Int) < 9
      · have d1 : decide (1 ≤ z.length) = true := decide_eq_true (by omega)
        have d2 : decide (z.length ≤ 8) = true := decide_eq_true (by omega)
        have e2 : cmpA .eq (.p (.lst ((signs z).filter fun a => match a with
          | .str t => !strIn t SG
          | _ => true))) (.p (.lst [])) M = _ := cmpA_eq_nil (M := M) (k := 0) (by decide) hall
        have nl : newL false [] M = .ok (.p (.lst [])) M := rfl
        have c1' : 0 < z.length := by omega
        simp [c1', c2, d1, d2, hc, e2, hfin, nl]
      · have d2 : decide (z.length ≤ 8) = false := decide_eq_false (by omega)
        have c1' : 0 < z.length := by omega
        simp [c1', c2, d2]
    · have d1 : decide (1 ≤ z.length) = false := decide_eq_false (by omega)
      have c1' : ¬ 0 < z.length := by omega
      simp [c1', d1]
  | _ => first | rfl | cases h
theorem call8 (n : Nat) (d : D) (M : Mem) (h : good d = true) (ho : okS d = true) : callLoc (runP fs (n + 1)) 8 [.p d] M = .ok (.p (.bl (nameD d))) M :=
  callLoc_p (ds := [d]) (is_name8_ok n d [] h ho)
theorem pow9 (r : Fz.Run) (σ : Env') (M : Mem) : evalE r (.bin .pow false (.ci (10)) (.ci (9))) σ M = .ok (.p (.int 1000000000)) M := rfl
theorem road_c {a b c : D} (h : within 1 1000000000 c = false) : roadD (.tup [a, b, c]) = false := by
  unfold roadD
  split
  · rename_i e; cases e; rw [h, Bool.and_false]
  · rfl
theorem is_road9_ok (n : Nat) (d : D) (M : Mem) (h : good3 d = true) : runP fs (n + 2) 9 [.p d] M = .ok (.p (.bl (roadD d))) M := by
  refine runP_ret (f := f_9) rfl rfl ?_
  cases d with
  | tup xs =>
    by_cases hl : xs.length = 3
    · match xs, hl with
      | [a, b, c], _ =>
        simp only [good3, Bool.and_eq_true] at h
        obtain ⟨⟨ha, hb⟩, hc⟩ := h
        have hcomp := comp_D (r := runP fs (n + 1)) (M := M) (tg := .nm 2) (own := [2]) (σ := [some (.p (.tup [a, b, c])), none, none]) (it := .e (.slc false (.v 0) .nil (.cons (.ci (2)) .nil))) (ifs := .cons (.call 7 .loc (.cons (.v 2) (.cons (.ci (0)) (.cons (.ci (999)) .nil))) []) .nil) (elt := .v 2) (ds := [a, b]) (p := within 0 999) (g := id) (s := .fx ([a, b].map A.p)) rfl rfl (fun k => rfl) (show 2 ≤ sizeLine by decide) (fun d hd => by
          have hg : good d = true := by
            simp only [List.mem_cons, List.not_mem_nil, or_false] at hd
            rcases hd with rfl | rfl
            · exact ha
            · exact hb
          refine ⟨_, rfl, ?_, fun _ => rfl⟩
          show (Res.bind (callLoc (runP fs (n + 1)) 7 [.p d, .p (.int 0), .p (.int 999)] M) truR).bind _ = _
          rw [call7 n d 0 999 M hg]
          exact ifs1 (.ok (within 0 999 d) M))
        rw [List.map_id] at hcomp
        show ((((Res.bind (callLoc (runP fs (n + 1)) 7 [.p c, .p (.int 1), .p (.int 1000000000)] M) truR).bind fun b M1 => val (.bl (!b)) M1).bind truR).st [some (.p (.tup [a, b, c])), none, none] fun k M1 => if k = true then evalSs (runP fs (n + 1)) (.cons (.ret (.cb false)) .nil) _ M1 else SR.nx _ M1).seq _ = _
        rw [call7 n c 1 1000000000 M hc]
        cases h3 : within 1 1000000000 c with
        | false => rw [road_c h3]; rfl
        | true =>
          show (((evalE (runP fs (n + 1)) (.comp false [2] (.nm 2) (.e (.slc false (.v 0) .nil (.cons (.ci (2)) .nil))) (.cons (.call 7 .loc (.cons (.v 2) (.cons (.ci (0)) (.cons (.ci (999)) .nil))) []) .nil) (.v 2)) [some (.p (.tup [a, b, c])), none, none] M).st _ fun a M1 => match tgSem (.nm 1) a _ with
            | some σ' => SR.nx σ' M1
            | none => .no).seq _) = _
          rw [hcomp]
          cases h1 : within 0 999 a with
          | false =>
            have e : roadD (.tup [a, b, c]) = false := by
              unfold roadD
              split
              · rename_i e; cases e; rw [h1]; rfl
              · rfl
            rw [e]
            cases h2 : within 0 999 b <;> (simp only [List.filter_cons, List.filter_nil, h1, h2, Bool.false_eq_true, if_false, if_true]; rfl)
          | true =>
            obtain ⟨i, rfl⟩ := within_int h1
            cases h2 : within 0 999 b with
            | false =>
              have e : roadD (.tup [.int i, b, c]) = false := by
                unfold roadD
                split
                · rename_i e; cases e; rw [h2, Bool.and_false]; rfl
                · rfl
              rw [e]
              simp only [List.filter_cons, List.filter_nil, h1, h2, Bool.false_eq_true, if_false, if_true]; rfl
            | true =>
              obtain ⟨j, rfl⟩ := within_int h2
              have e : roadD (.tup [.int i, .int j, c]) = !decide (i = j) := by
                show (within 0 999 (.int i) && within 0 999 (.int j) && !decide (i = j) && within 1 1000000000 c) = _
                rw [h1, h2, h3, Bool.and_true]; rfl
              rw [e]
              simp only [List.filter_cons, List.filter_nil, h1, h2, if_true]
              show ((cmpA .ne (.p (.int i)) (.p (.int j)) M).st [some (.p (.tup [.int i, .int j, c])), some (.p (.lst [.int i, .int j])), none] fun a M1 => SR.ret a M1).seq (evalSs (runP fs (n + 1)) .nil) = _
              rw [cmpA_ne_int]; rfl
    · have e : roadD (.tup xs) = false := by
        unfold roadD
        split
        · rename_i e; cases e; exact absurd rfl hl
        · rfl
      rw [e]
      have hl' : ¬ ((xs.length : Int) = 3) := by omega
      simp [f_9, b_9, startE, evalSs, evalS, evalE, evalEs, getV, isi_ok "tuple" (by simp) (.tup xs) rfl, isTy, tyNames, biSem, one, hl']
  | _ => first | rfl | cases h
theorem call9 (n : Nat) (d : D) (M : Mem) (h : good3 d = true) : callLoc (runP fs (n + 2)) 9 [.p d] M = .ok (.p (.bl (roadD d))) M :=
  callLoc_p (ds := [d]) (is_road9_ok n d [] h)
theorem call3 (n : Nat) (d : D) (M : Mem) (h : good3 d = true) : callLoc (runP fs (n + 3)) 3 [.p d] M = .ok (.p (.bl (roadD d))) M :=
  callLoc_p (ds := [d]) (is_road_ok n d [] h)
/-- the two readings agree -/
theorem is_right_ok (n : Nat) (d : D) (M : Mem) (h : good3 d = true) (ho : okS d = true) : runP fs (n + 4) 12 [.p d] M = .ok (.p (.bl true)) M := by
  refine runP_ret (f := f_12) rfl rfl ?_
  have hg := good3_good h
  show ((Res.bind (Res.bind (callLoc (runP fs (n + 2 + 1)) 1 [.p d] M) fun x M1 => Res.bind (Res.bind (callLoc (runP fs (n + 1 + 2)) 2 [.p d] M1) fun x M1 => Res.bind (Res.bind (callLoc (runP fs (n + 3)) 3 [.p d] M1) fun x M1 => .ok [x] M1) fun xs M2 => .ok (x :: xs) M2) fun xs M2 => .ok (x :: xs) M2) fun xs M1 => if xs.length ≤ sizeLine then newL false xs M1 else .no).st _ _).seq _ = _
  rw [call1 (n + 2) d M hg, Res.bind_ok, call2 (n + 1) d M hg, Res.bind_ok, call3 n d M h]
  show ((Res.bind (Res.bind (Res.bind (callLoc (runP fs (n + 2 + 1)) 8 [.p d] M) fun x M1 => Res.bind (Res.bind (callLoc (runP fs (n + 2 + 1)) 7 [.p d, .p (.int 0), .p (.int 999)] M1) fun x M1 => Res.bind (Res.bind (callLoc (runP fs (n + 1 + 2)) 9 [.p d] M1) fun x M1 => .ok [x] M1) fun xs M2 => .ok (x :: xs) M2) fun xs M2 => .ok (x :: xs) M2) fun xs M1 => if xs.length ≤ sizeLine then newL false xs M1 else .no) fun y M2 => cmpA .eq (.p (.lst [.bl (nameD d), .bl (within 0 999 d), .bl (roadD d)])) y M2).st _ fun a M1 => SR.ret a M1).seq _ = _
  rw [call8 (n + 2) d M hg ho, Res.bind_ok, call7 (n + 2) d 0 999 M hg, Res.bind_ok, call9 (n + 1) d M h]
  cases nameD d <;> cases within 0 999 d <;> cases roadD d <;> rfl
end Law_k01

set_option maxHeartbeats 4000000
namespace Law_k01
open Fz PySem
@[simp] theorem bin_add (m : Bool) (i j : Int) (M : Mem) : binSem .add m (.p (.int i)) (.p (.int j)) M = .ok (.p (.int (i + j))) M := rfl
@[simp] theorem bin_sub (m : Bool) (i j : Int) (M : Mem) : binSem .sub m (.p (.int i)) (.p (.int j)) M = .ok (.p (.int (i - j))) M := rfl
theorem bin_mul {m : Bool} {i j : Int} {M : Mem} (h : (-(2 ^ 64) < i ∧ i < 2 ^ 64) ∨ (-(2 ^ 64) < j ∧ j < 2 ^ 64)) : binSem .mul m (.p (.int i)) (.p (.int j)) M = .ok (.p (.int (i * j))) M := by
  show (if (-(2 ^ 64) < i ∧ i < 2 ^ 64) ∨ (-(2 ^ 64) < j ∧ j < 2 ^ 64) then val (.int (i * j)) M else .no) = _
  rw [if_pos h]; rfl
theorem bin_mod {m : Bool} {i j : Int} {M : Mem} (h : 0 < j) : binSem .mod m (.p (.int i)) (.p (.int j)) M = .ok (.p (.int (i % j))) M := by
  show (if 0 < j then val (.int (i % j)) M else .no) = _
  rw [if_pos h]; rfl
theorem bin_fdiv {m : Bool} {i j : Int} {M : Mem} (h : 0 < j ∧ j.natAbs.log2 < 9000) : binSem .fdiv m (.p (.int i)) (.p (.int j)) M = .ok (.p (.int (i / j))) M := by
  show (if 0 < j ∧ j.natAbs.log2 < 9000 then val (.int (i / j)) M else .no) = _
  rw [if_pos h]; rfl
theorem bin_pow {m : Bool} {i j : Int} {M : Mem} (h : 0 ≤ j ∧ j ≤ 1000000 ∧ i.natAbs < 2 ^ 64) : binSem .pow m (.p (.int i)) (.p (.int j)) M = .ok (.p (.int (i ^ j.toNat))) M := by
  show (if 0 ≤ j ∧ j ≤ 1000000 ∧ i.natAbs < 2 ^ 64 then val (.int (i ^ j.toNat)) M else .no) = _
  rw [if_pos h]; rfl
theorem mixed_ok (n : Nat) (cell turn : Int) (M : Mem) (h0 : 0 ≤ turn) (h1 : turn < 127) : ∃ v : Int, 0 ≤ v ∧ runP fs (n + 1) 4 [.p (.int cell), .p (.int turn)] M = .ok (.p (.int v)) M := by
  have hA : 0 ≤ ((cell % 2147483399 + 104729 * turn + 11) * 48271) % 2147483399 ∧ ((cell % 2147483399 + 104729 * turn + 11) * 48271) % 2147483399 < 2147483399 := ⟨Int.emod_nonneg _ (by decide), Int.emod_lt_of_pos _ (by decide)⟩
  have hB : 0 ≤ (((cell % 2147483399 + 104729 * turn + 11) * 48271) % 2147483399) ^ 5 % 2147483399 := Int.emod_nonneg _ (by decide)
  have m1 : ∀ M : Mem, binSem .mul false (.p (.int 104729)) (.p (.int turn)) M = .ok (.p (.int (104729 * turn))) M := fun M => bin_mul (.inl (by decide))
  have m2 : ∀ (x : Int) (M : Mem), binSem .mul false (.p (.int x)) (.p (.int 48271)) M = .ok (.p (.int (x * 48271))) M := fun x M => bin_mul (.inr (by decide))
  have m3 : ∀ (x : Int) (M : Mem), binSem .mod false (.p (.int x)) (.p (.int 2147483399)) M = .ok (.p (.int (x % 2147483399))) M := fun x M => bin_mod (by decide)
  have m4 : ∀ (M : Mem), binSem .pow false (.p (.int (((cell % 2147483399 + 104729 * turn + 11) * 48271) % 2147483399))) (.p (.int 5)) M = .ok (.p (.int ((((cell % 2147483399 + 104729 * turn + 11) * 48271) % 2147483399) ^ 5))) M := fun M => bin_pow ⟨by decide, by decide, by omega⟩
  have m5 : ∀ (M : Mem), binSem .pow false (.p (.int 10)) (.p (.int 18)) M = .ok (.p (.int 1000000000000000000)) M := fun M => rfl
  have m6 : ∀ (x : Int) (M : Mem), binSem .fdiv false (.p (.int x)) (.p (.int 1000000000000000000)) M = .ok (.p (.int (x / 1000000000000000000))) M := fun x M => bin_fdiv ⟨by decide, by decide +kernel⟩
  have m7 : ∀ (M : Mem), binSem .mul false (.p (.int (turn + 1))) (.p (.int 4014476939333036189094441199026045136645885247730)) M = .ok (.p (.int ((turn + 1) * 4014476939333036189094441199026045136645885247730))) M := fun M => bin_mul (.inl ⟨by omega, by omega⟩)
  have m8 : ∀ (x : Int) (M : Mem), binSem .mod false (.p (.int x)) (.p (.int (1 + (turn + 1) * 4014476939333036189094441199026045136645885247730))) M = .ok (.p (.int (x % (1 + (turn + 1) * 4014476939333036189094441199026045136645885247730)))) M := fun x M => bin_mod (by omega)
  by_cases hc : cell < 1000000000000000000
  · refine ⟨_, hB, runP_ret (f := f_4) rfl rfl ?_⟩
    simp [f_4, b_4, startE, evalSs, evalS, evalE, getV, tgSem, m1, m2, m3, m4, m5, hc]
  · refine ⟨(((((cell % 2147483399 + 104729 * turn + 11) * 48271) % 2147483399) ^ 5 % 2147483399) + cell / 1000000000000000000 % (1 + (turn + 1) * 4014476939333036189094441199026045136645885247730)) % 2147483399, Int.emod_nonneg _ (by decide), runP_ret (f := f_4) rfl rfl ?_⟩
    simp [f_4, b_4, startE, evalSs, evalS, evalE, getV, tgSem, m1, m2, m3, m4, m5, m6, m7, m8, hc]
end Law_k01
namespace Law_k01
open Fz PySem
theorem ints_eqOk (ns : List Int) : (ns.map D.int).all (eqOk 0) = true := by
  induction ns with
  | nil => rfl
  | cons n ns ih => rw [List.map_cons, List.all_cons, ih]; rfl
theorem atI_ints (ns : List Int) (k : Int) (h0 : 0 ≤ k) (h1 : k < ns.length) : ∃ c, L2.atI (ns.map D.int) k = some (.int c) := by
  have hk : k.toNat < ns.length := by omega
  refine ⟨ns[k.toNat], ?_⟩
  unfold L2.atI L2.ixN
  rw [List.length_map, if_pos h0, if_pos h1]
  show (ns.map D.int)[k.toNat]? = _
  rw [List.getElem?_map, List.getElem?_eq_getElem hk]; rfl
def DrC (ns : List Int) (a : Int) : C := .lst [.lst (ns.map D.int), .int a]
theorem next_ok (n : Nat) (ns : List Int) (a size : Int) (hl : ns.length ≤ 63) (h0 : 0 ≤ a) (hs : 0 < size) : ∃ v : Int, 0 ≤ v ∧ v < size ∧ runP fs (n + 2) 5 [.c 0, .p (.int size)] [DrC ns a] = .ok (.p (.int v)) [DrC ns (a + 1)] := by
  have hm : (0 : Int) < (if (ns.length : Int) > 1 then (ns.length : Int) else 1) := by split <;> omega
  obtain ⟨many, em⟩ : ∃ many : Int, many = if (ns.length : Int) > 1 then (ns.length : Int) else 1 := ⟨_, rfl⟩
  rw [← em] at hm
  have hm2 : many ≤ 63 := by rw [em]; split <;> omega
  have hlog : many.natAbs.log2 < 9000 := by
    have : many.natAbs.log2 ≤ many.natAbs := Nat.log2_le_self _
    omega
  have ht0 : 0 ≤ a / many % 127 := Int.emod_nonneg _ (by decide)
  have ht1 : a / many % 127 < 127 := Int.emod_lt_of_pos _ (by decide)
  have goal : ∀ cell : Int, ∃ v : Int, 0 ≤ v ∧ v < size ∧ evalE (runP fs (n + 1)) (.bin .mod false (.bin .fdiv false (.call 4 .loc (.cons (.v 4) (.cons (.bin .mod false (.bin .fdiv false (.v 2) (.v 3)) (.ci (127))) .nil)) []) (.ci (7))) (.v 1)) [some (.c 0), some (.p (.int size)), some (.p (.int a)), some (.p (.int many)), some (.p (.int cell))] [DrC ns (a + 1)] = .ok (.p (.int v)) [DrC ns (a + 1)] := by
    intro cell
    obtain ⟨v, hv, e⟩ := mixed_ok n cell (a / many % 127) [] ht0 ht1
    have e4 := callLoc_p (M := [DrC ns (a + 1)]) (ds := [.int cell, .int (a / many % 127)]) e
    refine ⟨v / 7 % size, Int.emod_nonneg _ (by omega), Int.emod_lt_of_pos _ hs, ?_⟩
    have f1 : ∀ (x : Int) (M : Mem), binSem .fdiv false (.p (.int x)) (.p (.int many)) M = .ok (.p (.int (x / many))) M := fun x M => bin_fdiv ⟨hm, hlog⟩
    have f2 : ∀ (x : Int) (M : Mem), binSem .mod false (.p (.int x)) (.p (.int 127)) M = .ok (.p (.int (x % 127))) M := fun x M => bin_mod (by decide)
    have f3 : ∀ (x : Int) (M : Mem), binSem .fdiv false (.p (.int x)) (.p (.int 7)) M = .ok (.p (.int (x / 7))) M := fun x M => bin_fdiv ⟨by decide, by decide +kernel⟩
    have f4 : ∀ (x : Int) (M : Mem), binSem .mod false (.p (.int x)) (.p (.int size)) M = .ok (.p (.int (x % size))) M := fun x M => bin_mod hs
    simp only [List.map_cons, List.map_nil] at e4
    simp [evalE, evalEs, getV, f1, f2, f3, f4, e4]
  have e0 : subSem (.c 0) (.p (.int 1)) [DrC ns a] = .ok (.p (.int a)) [DrC ns a] := rfl
  have e1 : setSem (.c 0) (.p (.int 1)) (.p (.int (a + 1))) [DrC ns a] = some [DrC ns (a + 1)] := rfl
  have e2 : subSem (.c 0) (.p (.int 0)) [DrC ns (a + 1)] = .ok (.p (.lst (ns.map D.int))) [DrC ns (a + 1)] := rfl
  have e3 : biSem .max2 false [.p (.int 1), .p (.int ns.length)] [DrC ns (a + 1)] = .ok (.p (.int many)) [DrC ns (a + 1)] := by rw [em]; rfl
  have e4 : biSem .len false [.p (.lst (ns.map D.int))] [DrC ns (a + 1)] = .ok (.p (.int ns.length)) [DrC ns (a + 1)] := by
    have := len_lst (M := [DrC ns (a + 1)]) (ns.map D.int)
    rw [List.length_map] at this
    exact this
  have e5 : newL false [] [DrC ns (a + 1)] = .ok (.p (.lst [])) [DrC ns (a + 1)] := rfl
  have e6 : cmpA .ne (.p (.lst (ns.map D.int))) (.p (.lst [])) [DrC ns (a + 1)] = _ := cmpA_ne_nil (k := 0) (by decide) (ints_eqOk ns)
  have e7 : binSem .mod false (.p (.int a)) (.p (.int many)) [DrC ns (a + 1)] = .ok (.p (.int (a % many))) [DrC ns (a + 1)] := bin_mod hm
  have main : ∀ cell : Int, (ns = [] → cell = 0) → (ns ≠ [] → L2.atI (ns.map D.int) (a % many) = some (.int cell)) → ∃ v : Int, 0 ≤ v ∧ v < size ∧ runP fs (n + 2) 5 [.c 0, .p (.int size)] [DrC ns a] = .ok (.p (.int v)) [DrC ns (a + 1)] := by
    intro cell h1 h2
    obtain ⟨v, v0, v1, e⟩ := goal cell
    refine ⟨v, v0, v1, runP_ret (f := f_5) rfl rfl ?_⟩
    show evalSs (runP fs (n + 1)) (.cons (.asg (.nm 2) (.sub (.v 0) (.ci (1))))
   (.cons (.setI (.v 0) (.ci (1)) (.bin .add false (.v 2) (.ci (1))))
   (.cons (.asg (.nm 3) (.bi .max2 false (.cons (.ci (1)) (.cons (.bi .len false (.cons (.sub (.v 0) (.ci (0))) .nil)) .nil))))
   (.cons (.asg (.nm 4) (.ci (0)))
   (.cons (.ifs (.cmp .ne (.sub (.v 0) (.ci (0))) (.lst false .nil)) (.cons (.asg (.nm 4) (.sub (.sub (.v 0) (.ci (0))) (.bin .mod false (.v 2) (.v 3))))
   .nil) .nil)
   (.cons (.ret (.bin .mod false (.bin .fdiv false (.call 4 .loc (.cons (.v 4) (.cons (.bin .mod false (.bin .fdiv false (.v 2) (.v 3)) (.ci (127))) .nil)) []) (.ci (7))) (.v 1)))
   .nil)))))) [some (.c 0), some (.p (.int size)), none, none, none] [DrC ns a] = _
    generalize E.bin .mod false (.bin .fdiv false (.call 4 .loc (.cons (.v 4) (.cons (.bin .mod false (.bin .fdiv false (.v 2) (.v 3)) (.ci (127))) .nil)) []) (.ci (7))) (.v 1) = ER at e ⊢
    by_cases hn : ns = []
    · obtain rfl := h1 hn
      have hi : (ns.map D.int).isEmpty = true := by rw [hn]; rfl
      rw [hi] at e6
      simp [evalSs, evalS, evalE, evalEs, getV, tgSem, onx, e0, e1, e2, e3, e4, e5, e6, e]
    · have e8 : subSem (.p (.lst (ns.map D.int))) (.p (.int (a % many))) [DrC ns (a + 1)] = .ok (.p (.int cell)) [DrC ns (a + 1)] := by unfold subSem; dsimp only; rw [h2 hn]
      simp [evalSs, evalS, evalE, evalEs, getV, tgSem, onx, e0, e1, e2, e3, e4, e5, e6, e7, e8, e, hn]
  by_cases hn : ns = []
  · exact main 0 (fun _ => rfl) (fun h => absurd hn h)
  · have h1 : 0 ≤ a % many := Int.emod_nonneg _ (by omega)
    have h2 : a % many < ns.length := by
      have := Int.emod_lt_of_pos a hm
      have hlen : 0 < ns.length := List.length_pos_iff.mpr hn
      rw [em] at this ⊢
      split at this <;> rename_i hq <;> simp only [hq, if_true, if_false] <;> omega
    obtain ⟨c, hc⟩ := atI_ints ns (a % many) h1 h2
    exact main c (fun h => absurd h hn) (fun _ => hc)
end Law_k01

set_option maxHeartbeats 4000000
namespace Law_k01
open Fz PySem
theorem atI_of {α : Type} {xs : List α} {k : Int} (h0 : 0 ≤ k) (h1 : k < xs.length) : ∃ d, d ∈ xs ∧ L2.atI xs k = some d := by
  have hk : k.toNat < xs.length := by omega
  refine ⟨xs[k.toNat], List.getElem_mem hk, ?_⟩
  unfold L2.atI L2.ixN
  rw [if_pos h0, if_pos h1]
  show xs[k.toNat]? = _
  exact List.getElem?_eq_getElem hk
theorem call5 (n : Nat) (ns : List Int) (a size : Int) (hl : ns.length ≤ 63) (h0 : 0 ≤ a) (hs : 0 < size) (i : Nat) (M : Mem) (hM : M[i]? = some (DrC ns a)) : ∃ v : Int, 0 ≤ v ∧ v < size ∧ callLoc (runP fs (n + 2)) 5 [.c i, .p (.int size)] M = .ok (.p (.int v)) (M.set i (DrC ns (a + 1))) := by
  obtain ⟨v, v0, v1, e⟩ := next_ok n ns a size hl h0 hs
  exact ⟨v, v0, v1, callLoc_c (ds := [.int size]) hM rfl e rfl⟩
theorem sub_lst {xs : List D} {k : Int} {d : D} {M : Mem} (h : L2.atI xs k = some d) : subSem (.p (.lst xs)) (.p (.int k)) M = .ok (.p d) M := by
  unfold subSem; dsimp only; rw [h]
theorem bin_addl {xs ys : List D} {M : Mem} (h : xs.length + ys.length ≤ sizeLine) : binSem .add false (.p (.lst xs)) (.p (.lst ys)) M = .ok (.p (.lst (xs ++ ys))) M := by
  show (if xs.length + ys.length ≤ sizeLine then newL false ((xs ++ ys).map A.p) M else .no) = _
  rw [if_pos h, newL_f]
def oddL : List D := [.int 0, .int 1, .int (-1), .int 998, .int 999, .int 1000, .int 1000000000, .int 1000000001, .bl true, .bl false, .non, .str "1", .tup [.int 1], .int 1000000000000, .int 999999999]
def fine (d : D) : Bool := good3 d && okS d
theorem odd_ok (n : Nat) (ns : List Int) (a : Int) (hl : ns.length ≤ 63) (h0 : 0 ≤ a) : ∃ (d : D) (a' : Int), 0 ≤ a' ∧ fine d = true ∧ runP fs (n + 3) 11 [.c 0] [DrC ns a] = .ok (.p d) [DrC ns a'] := by
  obtain ⟨v1, p1, q1, e1⟩ := call5 n ns a 1000 hl h0 (by decide) 0 [DrC ns a] rfl
  obtain ⟨v2, p2, q2, e2⟩ := call5 n ns (a + 1) 1000000 hl (by omega) (by decide) 0 [DrC ns (a + 1)] rfl
  obtain ⟨v3, p3, q3, e3⟩ := call5 n ns (a + 1 + 1) 17 hl (by omega) (by decide) 0 [DrC ns (a + 1 + 1)] rfl
  obtain ⟨d, hd, ed⟩ := atI_of (xs := oddL ++ [.int v1, .int (v2 * 1000)]) (k := v3) p3 (by show v3 < ((15 + 2 : Nat) : Int); omega)
  have hf : fine d = true := by
    rcases List.mem_append.mp hd with h | h
    · have : oddL.all fine = true := by decide +kernel
      exact List.all_eq_true.mp this d h
    · simp only [List.mem_cons, List.not_mem_nil, or_false] at h
      rcases h with rfl | rfl <;> rfl
  refine ⟨d, a + 1 + 1 + 1, by omega, hf, runP_ret (f := f_11) rfl rfl ?_⟩
  have m1 : ∀ (x : Int) (M : Mem), binSem .mul false (.p (.int x)) (.p (.int 1000)) M = .ok (.p (.int (x * 1000))) M := fun x M => bin_mul (.inr (by decide))
  have eb : ∀ M : Mem, binSem .add false (.p (.lst oddL)) (.p (.lst [.int v1, .int (v2 * 1000)])) M = .ok (.p (.lst (oddL ++ [.int v1, .int (v2 * 1000)]))) M := fun M => bin_addl (show 17 ≤ sizeLine by decide)
  have es : ∀ M : Mem, subSem (.p (.lst (oddL ++ [.int v1, .int (v2 * 1000)]))) (.p (.int v3)) M = .ok (.p d) M := fun M => sub_lst ed
  have e6 : ∀ M : Mem, binSem .pow false (.p (.int 10)) (.p (.int 6)) M = .ok (.p (.int 1000000)) M := fun M => rfl
  have nl : ∀ M : Mem, newL false [.p (.int v1), .p (.int (v2 * 1000))] M = .ok (.p (.lst [.int v1, .int (v2 * 1000)])) M := fun M => rfl
  have h2 : (2 : Nat) ≤ sizeLine := by decide
  show evalSs (runP fs (n + 2)) (.cons (.ret (.sub (.bin .add false (.v 1) (.lst false (.cons (.call 5 .loc (.cons (.v 0) (.cons (.ci (1000)) .nil)) []) (.cons (.bin .mul false (.call 5 .loc (.cons (.v 0) (.cons (.bin .pow false (.ci (10)) (.ci (6))) .nil)) []) (.ci (1000))) .nil)))) (.call 5 .loc (.cons (.v 0) (.cons (.ci (17)) .nil)) [])))
   .nil) [some (.c 0), some (.p (.lst oddL))] [DrC ns a] = _
  simp only [List.set_cons_zero] at e1 e2 e3
  simp [evalSs, evalS, evalE, evalEs, getV, e1, e2, e3, e6, m1, eb, es, nl, h2]
end Law_k01

set_option maxHeartbeats 4000000
namespace Law_k01
open Fz PySem
/-! ### texts -/
def tx (B : Nat) (z : Str) : Prop := PyData.strOk z = true ∧ z.length ≤ B
theorem ok_iff {z : Str} : PyData.strOk z = true ↔ ∀ c ∈ z.cps.toList, c < 0x110000 := by
  unfold PyData.strOk
  rw [Array.all_eq_true_iff_forall_mem]
  constructor
  · intro h c hc; have := h c (by simpa using hc); simpa using this
  · intro h c hc; have := h c (by simpa using hc); simpa using this
theorem tx_cut {B : Nat} {z : Str} (h : tx B z) (lo hi : Option Int) : tx B (L2.cutS z lo hi) := by
  refine ⟨ok_iff.mpr fun c hc => ok_iff.mp h.1 c ?_, Nat.le_trans (L2.cutS_length z lo hi) h.2⟩
  unfold L2.cutS at hc
  rw [List.toList_toArray] at hc
  exact List.mem_of_mem_drop (List.mem_of_mem_take hc)
theorem len_app (y z : Str) : (y ++ z).length = y.length + z.length := by
  show (y.cps ++ z.cps).size = y.cps.size + z.cps.size
  exact Array.size_append
theorem tx_app {B C : Nat} {y z : Str} (h : tx B y) (k : tx C z) : tx (B + C) (y ++ z) := by
  refine ⟨ok_iff.mpr fun c hc => ?_, by rw [len_app]; exact Nat.add_le_add h.2 k.2⟩
  have hc : c ∈ (y.cps ++ z.cps).toList := hc
  rw [Array.toList_append, List.mem_append] at hc
  rcases hc with hc | hc
  · exact ok_iff.mp h.1 c hc
  · exact ok_iff.mp k.1 c hc
theorem tx_rep {B : Nat} {z : Str} (h : tx B z) : tx (3 * B) ⟨((List.replicate 3 z.cps.toList).flatten).toArray⟩ := by
  refine ⟨ok_iff.mpr fun c hc => ?_, ?_⟩
  · rw [List.toList_toArray] at hc
    simp only [List.replicate, List.flatten_cons, List.flatten_nil, List.append_nil, List.mem_append] at hc
    rcases hc with hc | hc | hc <;> exact ok_iff.mp h.1 c hc
  · have := h.2
    show (((List.replicate 3 z.cps.toList).flatten).toArray).size ≤ _
    have e : z.length = z.cps.size := rfl
    simp only [List.replicate, List.flatten_cons, List.flatten_nil, List.append_nil, List.size_toArray, List.length_append, Array.length_toList]
    omega
theorem tx_mono {B C : Nat} {z : Str} (h : tx B z) (hc : B ≤ C) : tx C z := ⟨h.1, Nat.le_trans h.2 hc⟩
theorem slc_str {z : Str} {lo hi : Option Int} {M : Mem} (h : z.length ≤ sizeLine) : slcSem false (.p (.str z)) lo hi M = .ok (.p (.str (L2.cutS z lo hi))) M := by
  unfold slcSem; simp [h]
theorem bin_adds {y z : Str} {M : Mem} (h : y.length + z.length ≤ sizeLine) : binSem .add false (.p (.str y)) (.p (.str z)) M = .ok (.p (.str (y ++ z))) M := by
  show (if y.length + z.length ≤ sizeLine then val (.str (y ++ z)) M else .no) = _
  rw [if_pos h]; rfl
theorem bin_mul3 {y : Str} {M : Mem} (h : y.length * 3 ≤ sizeLine) : binSem .mul false (.p (.str y)) (.p (.int 3)) M = .ok (.p (.str ⟨((List.replicate 3 y.cps.toList).flatten).toArray⟩)) M := by
  show (if (0 : Int) ≤ 3 ∧ (3 : Int) < 2 ^ 62 ∧ y.length * (3 : Int).toNat ≤ sizeLine then val (.str ⟨((List.replicate (3 : Int).toNat y.cps.toList).flatten).toArray⟩) M else .no) = _
  rw [if_pos ⟨by decide, by decide, h⟩]; rfl
def NS : Str := "Az0 _-/\n~B"
theorem sub_ns {k : Int} (h0 : 0 ≤ k) (h1 : k < 10) (M : Mem) : ∃ c, tx 1 ⟨#[c]⟩ ∧ subSem (.p (.str NS)) (.p (.int k)) M = .ok (.p (.str ⟨#[c]⟩)) M := by
  obtain ⟨c, hc, e⟩ := atI_of (xs := NS.cps.toList) (k := k) h0 (by show k < ((10 : Nat) : Int); omega)
  have hok : PyData.strOk NS = true := by decide +kernel
  refine ⟨c, ⟨ok_iff.mpr fun d hd => ?_, Nat.le_refl _⟩, ?_⟩
  · have : d = c := by simpa using hd
    subst this
    exact ok_iff.mp hok d hc
  · unfold subSem
    dsimp only
    rw [if_pos (show NS.length ≤ sizeLine by decide), e]
theorem near_ok (n : Nat) (ns : List Int) (a : Int) (hl : ns.length ≤ 63) (h0 : 0 ≤ a) (B : Nat) (hB : B ≤ 1000) (z : Str) (hz : tx B z) : ∃ (z' : Str) (a' : Int), 0 ≤ a' ∧ tx (3 * B + 3) z' ∧ runP fs (n + 3) 10 [.c 0, .p (.str z)] [DrC ns a] = .ok (.p (.str z')) [DrC ns a'] := by
  have hsz : z.length ≤ 1000 := Nat.le_trans hz.2 hB
  have hS : (100000 : Nat) ≤ sizeLine := by decide
  obtain ⟨v1, p1, q1, e1⟩ := call5 n ns a 4 hl h0 (by decide) 0 [DrC ns a] rfl
  obtain ⟨v2, p2, q2, e2⟩ := call5 n ns (a + 1) (z.length + 1) hl (by omega) (by omega) 0 [DrC ns (a + 1)] rfl
  obtain ⟨v3, p3, q3, e3⟩ := call5 n ns (a + 1 + 1) 10 hl (by omega) (by decide) 0 [DrC ns (a + 1 + 1)] rfl
  simp only [List.set_cons_zero] at e1 e2 e3
  obtain ⟨c, hc, es⟩ := sub_ns p3 q3 [DrC ns (a + 1 + 1 + 1)]
  obtain ⟨w1, ew1⟩ : ∃ w, w = L2.cutS z none (some v2) := ⟨_, rfl⟩
  obtain ⟨w2, ew2⟩ : ∃ w, w = L2.cutS z (some v2) none := ⟨_, rfl⟩
  obtain ⟨w3, ew3⟩ : ∃ w, w = L2.cutS z (some (v2 + 1)) none := ⟨_, rfl⟩
  have t1 : tx B w1 := ew1 ▸ tx_cut hz _ _
  have t2 : tx B w2 := ew2 ▸ tx_cut hz _ _
  have t3 : tx B w3 := ew3 ▸ tx_cut hz _ _
  obtain ⟨w4, ew4⟩ : ∃ w : Str, w = ⟨((List.replicate 3 z.cps.toList).flatten).toArray⟩ := ⟨_, rfl⟩
  have t4 : tx (3 * B) w4 := ew4 ▸ tx_rep hz
  obtain ⟨cs, ecs⟩ : ∃ w : Str, w = ⟨#[c]⟩ := ⟨_, rfl⟩
  rw [← ecs] at hc es
  have L1 := t1.2
  have L2' := t2.2
  have L3 := t3.2
  have Lc := hc.2
  have x1 : ∀ M : Mem, slcSem false (.p (.str z)) none (some v2) M = .ok (.p (.str w1)) M := fun M => by rw [slc_str (by omega), ew1]
  have x2 : ∀ M : Mem, slcSem false (.p (.str z)) (some v2) none M = .ok (.p (.str w2)) M := fun M => by rw [slc_str (by omega), ew2]
  have x3 : ∀ M : Mem, slcSem false (.p (.str z)) (some (v2 + 1)) none M = .ok (.p (.str w3)) M := fun M => by rw [slc_str (by omega), ew3]
  have y1 : ∀ M : Mem, binSem .add false (.p (.str w1)) (.p (.str cs)) M = .ok (.p (.str (w1 ++ cs))) M := fun M => bin_adds (by omega)
  have y2 : ∀ M : Mem, binSem .add false (.p (.str (w1 ++ cs))) (.p (.str w2)) M = .ok (.p (.str (w1 ++ cs ++ w2))) M := fun M => bin_adds (by rw [len_app]; omega)
  have y3 : ∀ M : Mem, binSem .add false (.p (.str (w1 ++ cs))) (.p (.str w3)) M = .ok (.p (.str (w1 ++ cs ++ w3))) M := fun M => bin_adds (by rw [len_app]; omega)
  have y4 : ∀ M : Mem, binSem .add false (.p (.str w1)) (.p (.str w3)) M = .ok (.p (.str (w1 ++ w3))) M := fun M => bin_adds (by omega)
  have y5 : ∀ M : Mem, binSem .mul false (.p (.str z)) (.p (.int 3)) M = .ok (.p (.str w4)) M := fun M => by rw [bin_mul3 (by omega), ew4]
  obtain ⟨d, hd, ed⟩ := atI_of (xs := [D.str (w1 ++ cs ++ w2), .str (w1 ++ w3), .str (w1 ++ cs ++ w3), .str w4]) (k := v1) p1 (by show v1 < ((4 : Nat) : Int); omega)
  have hd' : ∃ z', d = .str z' ∧ tx (3 * B + 3) z' := by
    simp only [List.mem_cons, List.not_mem_nil, or_false] at hd
    rcases hd with rfl | rfl | rfl | rfl
    · exact ⟨_, rfl, tx_mono (tx_app (tx_app t1 hc) t2) (by omega)⟩
    · exact ⟨_, rfl, tx_mono (tx_app t1 t3) (by omega)⟩
    · exact ⟨_, rfl, tx_mono (tx_app (tx_app t1 hc) t3) (by omega)⟩
    · exact ⟨_, rfl, tx_mono t4 (by omega)⟩
  obtain ⟨z', rfl, tz⟩ := hd'
  refine ⟨z', a + 1 + 1 + 1, by omega, tz, runP_ret (f := f_10) rfl rfl ?_⟩
  have lz : ∀ M : Mem, lenS (.p (.str z)) M = .ok (.p (.int z.length)) M := fun M => len_str (by omega)
  have es2 := fun M : Mem => sub_lst (M := M) ed
  have h4 : (4 : Nat) ≤ sizeLine := by decide
  have nl : ∀ M : Mem, newL false [.p (.str (w1 ++ cs ++ w2)), .p (.str (w1 ++ w3)), .p (.str (w1 ++ cs ++ w3)), .p (.str w4)] M = .ok (.p (.lst [D.str (w1 ++ cs ++ w2), .str (w1 ++ w3), .str (w1 ++ cs ++ w3), .str w4])) M := fun M => rfl
  unfold NS at es
  simp [f_10, b_10, startE, evalSs, evalS, evalE, evalEs, evalPt, getV, setAll, partS, intOf, biSem, one, lz, e1, e2, e3, es, x1, x2, x3, y1, y2, y3, y4, y5, nl, h4, es2]
end Law_k01

set_option maxHeartbeats 4000000
namespace Law_k01
open Fz PySem
def nmB (z : Str) : Bool := z.cps.toList.all (fun c => decide (c < 128)) && decide (z.length ≤ 8)
theorem nodup_len {α : Type} [DecidableEq α] : ∀ {l m : List α}, l.Nodup → (∀ x ∈ l, x ∈ m) → l.length ≤ m.length
  | [], m, _, _ => Nat.zero_le _
  | x :: l, m, hd, h => by
    obtain ⟨n1, n2⟩ := List.nodup_cons.mp hd
    have hx := h x List.mem_cons_self
    have := nodup_len (l := l) (m := m.erase x) n2 fun y hy => (List.mem_erase_of_ne (fun e => by subst e; exact n1 hy)).mpr (h y (List.mem_cons_of_mem _ hy))
    rw [List.length_erase_of_mem hx] at this
    have hp : 0 < m.length := List.length_pos_of_mem hx
    simp only [List.length_cons]
    omega
def QL : List Str := (List.range 99).map fun (i : Nat) => ("q" : Str) ++ ((toString (0 + (i : Int)) : String) : Str)
theorem QL_nodup : QL.Nodup := by decide +kernel
theorem QL_nm : QL.all nmB = true := by decide +kernel
theorem QL_len : QL.length = 99 := by unfold QL; rw [List.length_map, List.length_range]
theorem range_rep (n : Nat) : (List.range n).map (fun (i : Nat) => A.p (D.int (0 + (i : Int)))) = ((List.range n).map fun (i : Nat) => D.int (0 + (i : Int))).map A.p := by rw [List.map_map]; rfl
theorem strI_ok {i : Int} {M : Mem} (h : i.natAbs.log2 < 1920) : strIS (.p (.int i)) M = .ok (.p (.str (toString i : String))) M := by
  unfold strIS; simp [h]
/-- ['q' + str(spot) for spot in range(99)] -/
theorem qs_ok (r : Fz.Run) (σ : Env') (M : Mem) (hσ : σ.length = 10) : evalE r (.comp false [8] (.nm 8) (.rng1 (.ci (99))) .nil (.bin .add false (.cs "q") (.bi .strI false (.cons (.v 8) .nil)))) σ M = .ok (.p (.lst (QL.map D.str))) M := by
  have c := comp_D (r := r) (M := M) (σ := σ) (own := [8]) (tg := .nm 8) (it := .rng1 (.ci 99)) (ifs := .nil) (elt := .bin .add false (.cs "q") (.bi .strI false (.cons (.v 8) .nil))) (s := .fx (rngL 0 99)) (ds := (List.range 99).map fun (i : Nat) => D.int (0 + (i : Int))) (p := fun _ => true) (g := fun d => match d with
    | .int i => .str (("q" : Str) ++ ((toString i : String) : Str))
    | d => d) rfl (by show (rngL 0 99).length = _; unfold rngL; rw [List.length_map, List.length_map]) (fun k => by show some (rngL 0 99)[k]? = _; unfold rngL; rw [range_rep]) (by rw [List.length_map, List.length_range]; decide) (fun d hd => by
      obtain ⟨i, hi, rfl⟩ := List.mem_map.mp hd
      have hi := List.mem_range.mp hi
      have hl : ((0 + (i : Int)).natAbs).log2 < 1920 := by
        have : ((0 + (i : Int)).natAbs).log2 ≤ (0 + (i : Int)).natAbs := Nat.log2_le_self _
        omega
      refine ⟨_, rfl, rfl, fun _ => ?_⟩
      have hg : ((wipeE σ [8]).set 8 (some (A.p (D.int (0 + (i : Int))))))[8]? = some (some (A.p (D.int (0 + (i : Int))))) := by
        rw [List.getElem?_set_self (by rw [wipe_len]; omega)]
      have hn : ((("q" : Str).length) + ((toString (0 + (i : Int)) : String) : Str).length) ≤ sizeLine := by
        have hm : (("q" : Str) ++ ((toString (0 + (i : Int)) : String) : Str)) ∈ QL := List.mem_map.mpr ⟨i, List.mem_range.mpr hi, rfl⟩
        have := List.all_eq_true.mp QL_nm _ hm
        unfold nmB at this
        rw [Bool.and_eq_true] at this
        have h8 := of_decide_eq_true this.2
        rw [len_app] at h8
        exact Nat.le_trans h8 (by decide)
      show (Res.bind (Res.bind (Res.bind (getV _ 8 M) fun x M1 => .ok [x] M1) fun xs M1 => biSem .strI false xs M1) fun y M2 => binSem .add false (.p (.str "q")) y M2) = _
      unfold getV
      rw [hg]
      show (Res.bind (strIS (.p (.int (0 + (i : Int)))) M) fun y M2 => binSem .add false (.p (.str "q")) y M2) = _
      rw [strI_ok hl, Res.bind_ok, bin_adds hn])
  rw [c]
  congr 3
theorem inV_strs (z : Str) (f : List Str) : L2.inV (toV (.str z)) ((f.map D.str).map toV) = f.contains z := by
  unfold L2.inV
  induction f with
  | nil => rfl
  | cons y f ih =>
    rw [List.map_cons, List.map_cons, List.any_cons, ih, List.contains_cons]
    congr 1
    show (y == z) = (z == y)
    rw [Bool.eq_iff_iff, beq_iff_eq, beq_iff_eq]
    exact ⟨Eq.symm, Eq.symm⟩
theorem nin_ok {z : Str} {f : List Str} {j : Nat} {M : Mem} (hM : M[j]? = some (.lst (f.map D.str))) : cmpA .nin (.p (.str z)) (.c j) M = .ok (.p (.bl (!f.contains z))) M := by
  refine cmpA_of ?_
  unfold cmpSem
  have e : vw M (.c j) = some (.lst (f.map D.str)) := by unfold vw; dsimp only; rw [hM]
  rw [e]
  show (inD (.str z) (f.map D.str)).map (!·) = _
  unfold inD
  have hf : (f.map D.str).all flatD = true := by
    rw [List.all_eq_true]
    intro x hx
    obtain ⟨y, _, rfl⟩ := List.mem_map.mp hx
    rfl
  rw [if_pos ⟨rfl, hf⟩, inV_strs]; rfl
/-- [one for one in fresh if one not in found][0] -/
theorem pick_ok (r : Fz.Run) (z0 : Str) (f : List Str) (h0 : nmB z0 = true) (hf : f.length < 99) (s0 s1 s2 s3 s5 s6 s8 s9 : Option A) (M : Mem) (hM : M[1]? = some (.lst (f.map D.str))) :
    ∃ z, nmB z = true ∧ evalE r (.sub (.comp false [9] (.nm 9) (.e (.v 7)) (.cons (.cmp .nin (.v 9) (.v 4)) .nil) (.v 9)) (.ci (0))) [s0, s1, s2, s3, some (.c 1), s5, s6, some (.p (.lst ((z0 :: QL).map D.str))), s8, s9] M = .ok (.p (.str z)) M := by
  have c := comp_D (r := r) (M := M) (σ := [s0, s1, s2, s3, some (.c 1), s5, s6, some (.p (.lst ((z0 :: QL).map D.str))), s8, s9]) (own := [9]) (tg := .nm 9) (it := .e (.v 7)) (ifs := .cons (.cmp .nin (.v 9) (.v 4)) .nil) (elt := .v 9) (s := .fx (((z0 :: QL).map D.str).map A.p)) (ds := (z0 :: QL).map D.str) (p := fun d => match d with
    | .str z => !f.contains z
    | _ => false) (g := id) rfl (by show (((z0 :: QL).map D.str).map A.p).length = _; rw [List.length_map]) (fun k => rfl) (by rw [List.length_map, List.length_cons, QL_len]; decide) (fun d hd => by
      obtain ⟨z, _, rfl⟩ := List.mem_map.mp hd
      refine ⟨_, rfl, ?_, fun _ => rfl⟩
      show (Res.bind (cmpA .nin (.p (.str z)) (.c 1) M) truR).bind _ = _
      rw [nin_ok hM]
      exact ifs1 (.ok (!f.contains z) M))
  rw [List.map_id] at c
  have hex : ∃ q ∈ QL, f.contains q = false := by
    by_cases hq : ∃ q ∈ QL, f.contains q = false
    · exact hq
    · have : ∀ x ∈ QL, x ∈ f := fun x hx => by
        cases hc : f.contains x with
        | true => exact List.contains_iff_mem.mp hc
        | false => exact absurd ⟨x, hx, hc⟩ hq
      have := nodup_len QL_nodup this
      rw [QL_len] at this
      omega
  obtain ⟨q, hq, hqf⟩ := hex
  have hmem : D.str q ∈ ((z0 :: QL).map D.str).filter fun d => match d with
    | .str z => !f.contains z
    | _ => false := List.mem_filter.mpr ⟨List.mem_map.mpr ⟨q, List.mem_cons_of_mem _ hq, rfl⟩, by show (!f.contains q) = true; rw [hqf]; rfl⟩
  obtain ⟨d, hd, ed⟩ := atI_of (xs := ((z0 :: QL).map D.str).filter fun d => match d with
    | .str z => !f.contains z
    | _ => false) (k := 0) (by decide) (by have := List.length_pos_of_mem hmem; omega)
  obtain ⟨z, hz, rfl⟩ := List.mem_map.mp (List.mem_filter.mp hd).1
  refine ⟨z, ?_, ?_⟩
  · rcases List.mem_cons.mp hz with rfl | h
    · exact h0
    · exact List.all_eq_true.mp QL_nm _ h
  · show (evalE r (.comp false [9] (.nm 9) (.e (.v 7)) (.cons (.cmp .nin (.v 9) (.v 4)) .nil) (.v 9)) _ M).bind _ = _
    rw [c]
    exact sub_lst ed
end Law_k01

set_option maxHeartbeats 4000000
namespace Law_k01
open Fz PySem
def asc (B : Nat) (z : Str) : Prop := (∀ c ∈ z.cps.toList, c < 128) ∧ z.length ≤ B
theorem asc_app {B C : Nat} {y z : Str} (h : asc B y) (k : asc C z) : asc (B + C) (y ++ z) := by
  refine ⟨fun c hc => ?_, by rw [len_app]; exact Nat.add_le_add h.2 k.2⟩
  have hc : c ∈ (y.cps ++ z.cps).toList := hc
  rw [Array.toList_append, List.mem_append] at hc
  rcases hc with hc | hc
  · exact h.1 c hc
  · exact k.1 c hc
theorem asc_nm {z : Str} (h : asc 8 z) : nmB z = true := by
  unfold nmB
  rw [Bool.and_eq_true, List.all_eq_true]
  exact ⟨fun c hc => decide_eq_true (h.1 c hc), decide_eq_true h.2⟩
theorem nm_asc {z : Str} (h : nmB z = true) : asc 8 z := by
  unfold nmB at h
  rw [Bool.and_eq_true, List.all_eq_true] at h
  exact ⟨fun c hc => of_decide_eq_true (h.1 c hc), of_decide_eq_true h.2⟩
theorem asc_empty : asc 0 ("" : Str) := by
  refine ⟨?_, ?_⟩
  · have : ("" : Str).cps.toList = [] := by decide +kernel
    rw [this]
    intro c hc
    cases hc
  · decide +kernel
theorem asc_join : ∀ ys : List Str, (∀ y ∈ ys, asc 1 y) → asc ys.length (Str.join ("" : Str) ys)
  | [], _ => ⟨fun c hc => (by cases hc), Nat.le_refl _⟩
  | [y], h => h y List.mem_cons_self
  | y :: y2 :: ys, h => by
    have ih := asc_join (y2 :: ys) fun z hz => h z (List.mem_cons_of_mem _ hz)
    have := asc_app (asc_app (h y List.mem_cons_self) asc_empty) ih
    show asc ((y2 :: ys).length + 1) (y ++ ("" : Str) ++ Str.join ("" : Str) (y2 :: ys))
    exact ⟨this.1, Nat.le_trans this.2 (by omega)⟩
def LT : Str := "abcdefghijklmnopqrstuvwxyz0123456789"
theorem sub_lt {k : Int} (h0 : 0 ≤ k) (h1 : k < 36) (M : Mem) : ∃ c : Nat, asc 1 ⟨#[c]⟩ ∧ subSem (.p (.str LT)) (.p (.int k)) M = .ok (.p (.str ⟨#[c]⟩)) M := by
  obtain ⟨c, hc, e⟩ := atI_of (xs := LT.cps.toList) (k := k) h0 (by show k < ((36 : Nat) : Int); omega)
  have hok : LT.cps.toList.all (fun c => decide (c < 128)) = true := by decide +kernel
  refine ⟨c, ⟨fun d hd => ?_, Nat.le_refl _⟩, ?_⟩
  · have : d = c := by simpa using hd
    subst this
    exact of_decide_eq_true (List.all_eq_true.mp hok d hc)
  · unfold subSem
    dsimp only
    rw [if_pos (show LT.length ≤ sizeLine by decide), e]
theorem strsD_map : ∀ ys : List Str, strsD (ys.map D.str) = some ys
  | [] => rfl
  | y :: ys => by show (strsD (ys.map D.str)).map (y :: ·) = _; rw [strsD_map ys]; rfl
theorem sum_le1 : ∀ ys : List Str, (∀ y ∈ ys, asc 1 y) → (ys.map (·.length)).sum ≤ ys.length
  | [], _ => Nat.le_refl _
  | y :: ys, h => by
    have h1 := (h y List.mem_cons_self).2
    have h2 := sum_le1 ys fun z hz => h z (List.mem_cons_of_mem _ hz)
    simp only [List.map_cons, List.sum_cons, List.length_cons]
    omega
/-- ''.join([letters[next(36)] for spot in range(1 + next(8))]) -/
theorem letters_ok (n : Nat) (ns : List Int) (a : Int) (hl : ns.length ≤ 63) (h0 : 0 ≤ a) (f : C) (s1 s2 s4 s5 s6 s7 s8 s9 : Option A) : ∃ (z : Str) (a' : Int), 0 ≤ a' ∧ nmB z = true ∧
    evalE (runP fs (n + 2)) (.bm .join false (.cs "") (.cons (.comp false [8] (.nm 8) (.rng1 (.bin .add false (.ci (1)) (.call 5 .loc (.cons (.v 0) (.cons (.ci (8)) .nil)) []))) .nil (.sub (.v 3) (.call 5 .loc (.cons (.v 0) (.cons (.ci (36)) .nil)) []))) .nil)) [some (.c 0), s1, s2, some (.p (.str LT)), s4, s5, s6, s7, s8, s9] [DrC ns a, f] = .ok (.p (.str z)) [DrC ns a', f] := by
  obtain ⟨v, p1, q1, e1⟩ := call5 n ns a 8 hl h0 (by decide) 0 [DrC ns a, f] rfl
  have hlen : (rngL 0 (1 + v).toNat).length = (1 + v).toNat := by unfold rngL; rw [List.length_map, List.length_range]
  obtain ⟨acc, M', e, a', ys, ha', rfl, hM, hy, hk⟩ := itL_inv (s := .fx (rngL 0 (1 + v).toNat)) (as := rngL 0 (1 + v).toNat) (f := compT (.nm 8) [8] [some (.c 0), s1, s2, some (.p (.str LT)), s4, s5, s6, s7, s8, s9] (evalIfs (runP fs (n + 2)) .nil) (evalE (runP fs (n + 2)) (.sub (.v 3) (.call 5 .loc (.cons (.v 0) (.cons (.ci (36)) .nil)) []))))
    (fun k acc M => ∃ (a' : Int) (ys : List Str), 0 ≤ a' ∧ acc = (ys.map D.str).map A.p ∧ M = [DrC ns a', f] ∧ (∀ y ∈ ys, asc 1 y) ∧ ys.length = k) (fun k b M _ => rfl) (fun k x b M hx ⟨a1, ys, g0, hb, hM, hy, hk⟩ => by
      subst hb hM
      obtain ⟨w, w0, w1, e2⟩ := call5 n ns a1 36 hl g0 (by decide) 0 [DrC ns a1, f] rfl
      obtain ⟨c, hc, e3⟩ := sub_lt w0 w1 [DrC ns (a1 + 1), f]
      have hkl : k < (1 + v).toNat := by rw [← hlen]; exact (List.getElem?_eq_some_iff.mp hx).1
      refine ⟨((ys ++ [(⟨#[c]⟩ : Str)]).map D.str).map A.p, [DrC ns (a1 + 1), f], ?_, a1 + 1, ys ++ [⟨#[c]⟩], by omega, rfl, rfl, ?_, by simp [hk]⟩
      · unfold compT
        show (Res.bind (noEx (.ok true [DrC ns a1, f])) fun ok M3 => if ok = true then (noEx (Res.bind (callLoc (runP fs (n + 2)) 5 [.c 0, .p (.int 36)] M3) fun y M2 => subSem (.p (.str LT)) y M2)).bind fun y M4 => if (((ys.map D.str).map A.p).length < sizeLine) then Res.ok (((ys.map D.str).map A.p) ++ [y]) M4 else .no else .ok ((ys.map D.str).map A.p) M3) = _
        rw [noEx_val, Res.bind_ok, if_pos rfl, e2]
        show (noEx (subSem (.p (.str LT)) (.p (.int w)) [DrC ns (a1 + 1), f])).bind _ = _
        rw [e3, noEx_val, Res.bind_ok, if_pos (by rw [List.length_map, List.length_map, hk]; exact Nat.lt_of_lt_of_le hkl (Nat.le_trans (show (1 + v).toNat ≤ 100 by omega) (by decide)))]
        simp
      · intro y hy'
        rcases List.mem_append.mp hy' with h | h
        · exact hy y h
        · rw [List.mem_singleton.mp h]; exact hc) (rngL 0 (1 + v).toNat).length 0 [] [DrC ns (a + 1), f] (by omega) ⟨a + 1, [], by omega, rfl, rfl, fun _ h => (by cases h), rfl⟩
  subst hM
  have hys : ys.length ≤ 8 := by rw [hk, hlen]; omega
  refine ⟨Txt.join ("" : Str) ys, a', ha', ?_, ?_⟩
  · have : Txt.join ("" : Str) ys = Str.join ("" : Str) ys := StrLaws.glued_eq_join _ _
    rw [this]
    have := asc_join ys hy
    exact asc_nm ⟨this.1, Nat.le_trans this.2 hys⟩
  · show (Res.bind (Res.bind (Res.bind (Res.bind (callLoc (runP fs (n + 2)) 5 [.c 0, .p (.int 8)] [DrC ns a, f]) fun y M2 => binSem .add false (.p (.int 1)) y M2) rng1S) fun s M1 => (itL s (compT (.nm 8) [8] [some (.c 0), s1, s2, some (.p (.str LT)), s4, s5, s6, s7, s8, s9] (evalIfs (runP fs (n + 2)) .nil) (evalE (runP fs (n + 2)) (.sub (.v 3) (.call 5 .loc (.cons (.v 0) (.cons (.ci (36)) .nil)) [])))) s.len 0 ([] : List A) M1).bind fun acc M5 => newL false acc M5) fun x M1 => Res.ok [x] M1).bind (fun xs M2 => bmSem .join false (.p (.str "")) xs M2) = _
    rw [e1]
    have er : ∀ M : Mem, rng1S (.p (.int (1 + v))) M = .ok (.fx (rngL 0 (1 + v).toNat)) M := fun M => by
      show (if -(2 ^ 62) ≤ 1 + v ∧ 1 + v < 2 ^ 62 then Res.ok (Src.fx (rngL 0 (1 + v).toNat)) M else Res.no) = _
      rw [if_pos ⟨by omega, by omega⟩]
    simp only [List.set_cons_zero, Res.bind_ok, bin_add, er]
    show ((Res.bind (itL (.fx (rngL 0 (1 + v).toNat)) _ (rngL 0 (1 + v).toNat).length 0 [] [DrC ns (a + 1), f]) fun acc M5 => newL false acc M5).bind fun x M1 => Res.ok [x] M1).bind _ = _
    rw [e, Res.bind_ok, newL_f]
    show joinS ("" : Str) (.p (.lst (ys.map D.str))) [DrC ns a', f] = _
    unfold joinS
    simp only [vw_p, strsD_map]
    have h1 := sum_le1 ys hy
    have h2 : ("" : Str).length = 0 := by decide +kernel
    rw [if_pos (by rw [h2]; omega)]
    rfl
end Law_k01

set_option maxHeartbeats 4000000
namespace Law_k01
open Fz PySem
def ownL : List Str := ["road", "ban", "tile", "way", "none", "lacks", "undo", "drop", "free", "closed", "0", "a", "aa", "a0", "z"]
theorem ownL_nm : ownL.all nmB = true := by decide +kernel
abbrev FR : E := .bin .add false (.lst false (.cons (.v 6) .nil)) (.comp false [8] (.nm 8) (.rng1 (.ci (99))) .nil (.bin .add false (.cs "q") (.bi .strI false (.cons (.v 8) .nil))))
abbrev PK : E := .sub (.comp false [9] (.nm 9) (.e (.v 7)) (.cons (.cmp .nin (.v 9) (.v 4)) .nil) (.v 9)) (.ci (0))
abbrev JN : E := .bm .join false (.cs "") (.cons (.comp false [8] (.nm 8) (.rng1 (.bin .add false (.ci (1)) (.call 5 .loc (.cons (.v 0) (.cons (.ci (8)) .nil)) []))) .nil (.sub (.v 3) (.call 5 .loc (.cons (.v 0) (.cons (.ci (36)) .nil)) []))) .nil)
theorem cont_ok (n : Nat) (d0 : C) (f : List Str) (hf : f.length < 99) (z0 : Str) (h0 : nmB z0 = true) (s1 s2 s3 s5 s7 s8 s9 : Option A) :
    ∃ z, nmB z = true ∧ evalSs (runP fs (n + 2)) (.cons (.asg (.nm 7) FR) (.cons (.app (.v 4) PK) .nil)) [some (.c 0), s1, s2, s3, some (.c 1), s5, some (.p (.str z0)), s7, s8, s9] [d0, .lst (f.map D.str)] =
      .nx [some (.c 0), s1, s2, s3, some (.c 1), s5, some (.p (.str z0)), some (.p (.lst ((z0 :: QL).map D.str))), s8, s9] [d0, .lst ((f ++ [z]).map D.str)] := by
  obtain ⟨z, hz, ep⟩ := pick_ok (runP fs (n + 2)) z0 f h0 hf (some (.c 0)) s1 s2 s3 s5 (some (.p (.str z0))) s8 s9 [d0, .lst (f.map D.str)] rfl
  refine ⟨z, hz, ?_⟩
  have ef : evalE (runP fs (n + 2)) FR [some (.c 0), s1, s2, s3, some (.c 1), s5, some (.p (.str z0)), s7, s8, s9] [d0, .lst (f.map D.str)] = .ok (.p (.lst ((z0 :: QL).map D.str))) [d0, .lst (f.map D.str)] := by
    refine (e_bin (x := .p (.lst [D.str z0])) (M1 := [d0, .lst (f.map D.str)]) ?_ (qs_ok _ _ _ rfl)).trans ?_
    · exact (e_lst (es_cons (e_v rfl) es_nil) (show 1 ≤ sizeLine by decide)).trans rfl
    · exact (bin_addl (xs := [D.str z0]) (ys := QL.map D.str) (by rw [List.length_map, QL_len]; show 1 + 99 ≤ sizeLine; decide)).trans rfl
  have ea : appSem (.c 1) (.p (.str z)) [d0, .lst (f.map D.str)] = some [d0, .lst ((f ++ [z]).map D.str)] := by
    show (if (f.map D.str).length < sizeLine then some [d0, C.lst (f.map D.str ++ [D.str z])] else none) = _
    rw [if_pos (by rw [List.length_map]; exact Nat.lt_of_lt_of_le hf (by decide)), List.map_append]
    rfl
  refine (go_asg ef rfl).trans ((go_app (e_v rfl) rfl ep ea).trans go_nil)
theorem rk_ok : ∀ k : Nat, k < 10 → nmB (("r" : Str) ++ ((toString (k : Int) : String) : Str)) = true := by decide +kernel
theorem body_ok (n : Nat) (ns : List Int) (a : Int) (hl : ns.length ≤ 63) (h0 : 0 ≤ a) (f : List Str) (hf : f.length < 10) (s1 s5 s6 s7 s8 s9 : Option A) :
    ∃ (z : Str) (a' : Int) (t5 t6 t7 : Option A), 0 ≤ a' ∧ nmB z = true ∧ evalSs (runP fs (n + 2)) (.cons (.asg (.nm 5) (.call 5 .loc (.cons (.v 0) (.cons (.ci (4)) .nil)) []))
   (.cons (.asg (.nm 6) (.ifx (.cmp .eq (.v 5) (.ci (0))) (.sub (.v 2) (.call 5 .loc (.cons (.v 0) (.cons (.ci (15)) .nil)) [])) (.bin .add false (.cs "r") (.bi .strI false (.cons (.bi .len false (.cons (.v 4) .nil)) .nil)))))
   (.cons (.ifs (.cmp .eq (.v 5) (.ci (1))) (.cons (.asg (.nm 6) JN) .nil) .nil)
   (.cons (.asg (.nm 7) FR) (.cons (.app (.v 4) PK) .nil))))) [some (.c 0), s1, some (.p (.lst (ownL.map D.str))), some (.p (.str LT)), some (.c 1), s5, s6, s7, s8, s9] [DrC ns a, .lst (f.map D.str)] =
      .nx [some (.c 0), s1, some (.p (.lst (ownL.map D.str))), some (.p (.str LT)), some (.c 1), t5, t6, t7, s8, s9] [DrC ns a', .lst ((f ++ [z]).map D.str)] := by
  obtain ⟨v, p1, q1, e1⟩ := call5 n ns a 4 hl h0 (by decide) 0 [DrC ns a, .lst (f.map D.str)] rfl
  simp only [List.set_cons_zero] at e1
  have c5 : evalE (runP fs (n + 2)) (.call 5 .loc (.cons (.v 0) (.cons (.ci (4)) .nil)) []) [some (.c 0), s1, some (.p (.lst (ownL.map D.str))), some (.p (.str LT)), some (.c 1), s5, s6, s7, s8, s9] [DrC ns a, .lst (f.map D.str)] = .ok (.p (.int v)) [DrC ns (a + 1), .lst (f.map D.str)] := (e_call (es_cons (e_v rfl) (es_cons rfl es_nil))).trans e1
  -- the name, first
  have nam : ∃ (z0 : Str) (a1 : Int), 0 ≤ a1 ∧ nmB z0 = true ∧ evalE (runP fs (n + 2)) (.ifx (.cmp .eq (.v 5) (.ci (0))) (.sub (.v 2) (.call 5 .loc (.cons (.v 0) (.cons (.ci (15)) .nil)) [])) (.bin .add false (.cs "r") (.bi .strI false (.cons (.bi .len false (.cons (.v 4) .nil)) .nil)))) [some (.c 0), s1, some (.p (.lst (ownL.map D.str))), some (.p (.str LT)), some (.c 1), some (.p (.int v)), s6, s7, s8, s9] [DrC ns (a + 1), .lst (f.map D.str)] = .ok (.p (.str z0)) [DrC ns a1, .lst (f.map D.str)] := by
    have hc : (evalE (runP fs (n + 2)) (.cmp .eq (.v 5) (.ci (0))) [some (.c 0), s1, some (.p (.lst (ownL.map D.str))), some (.p (.str LT)), some (.c 1), some (.p (.int v)), s6, s7, s8, s9] [DrC ns (a + 1), .lst (f.map D.str)]).bind truR = .ok (decide (v = 0)) [DrC ns (a + 1), .lst (f.map D.str)] := by
      rw [(e_cmp (e_v rfl) rfl).trans (cmpA_eq_int v 0)]; rfl
    by_cases hv : v = 0
    · obtain ⟨w, w0, w1, e2⟩ := call5 n ns (a + 1) 15 hl (by omega) (by decide) 0 [DrC ns (a + 1), .lst (f.map D.str)] rfl
      simp only [List.set_cons_zero] at e2
      obtain ⟨d, hd, ed⟩ := atI_of (xs := ownL.map D.str) (k := w) w0 (by show w < ((15 : Nat) : Int); omega)
      obtain ⟨z, hz, rfl⟩ := List.mem_map.mp hd
      refine ⟨z, a + 1 + 1, by omega, List.all_eq_true.mp ownL_nm z hz, ?_⟩
      rw [e_ifx hc, decide_eq_true hv, if_pos rfl]
      exact (e_sub (e_v rfl) ((e_call (es_cons (e_v rfl) (es_cons rfl es_nil))).trans e2)).trans (sub_lst ed)
    · have hk := rk_ok f.length hf
      refine ⟨_, a + 1, by omega, hk, ?_⟩
      rw [e_ifx hc, decide_eq_false hv, if_neg (by decide)]
      have hlog : ((f.length : Int).natAbs).log2 < 1920 := by
        have : ((f.length : Int).natAbs).log2 ≤ (f.length : Int).natAbs := Nat.log2_le_self _
        omega
      have el : evalE (runP fs (n + 2)) (.bi .len false (.cons (.v 4) .nil)) [some (.c 0), s1, some (.p (.lst (ownL.map D.str))), some (.p (.str LT)), some (.c 1), some (.p (.int v)), s6, s7, s8, s9] [DrC ns (a + 1), .lst (f.map D.str)] = .ok (.p (.int f.length)) [DrC ns (a + 1), .lst (f.map D.str)] := by
        refine (e_bi (es_cons (e_v rfl) es_nil)).trans ?_
        show Res.ok (A.p (.int ((f.map D.str).length : Int))) _ = _
        rw [List.length_map]
      have es' : evalE (runP fs (n + 2)) (.bi .strI false (.cons (.bi .len false (.cons (.v 4) .nil)) .nil)) [some (.c 0), s1, some (.p (.lst (ownL.map D.str))), some (.p (.str LT)), some (.c 1), some (.p (.int v)), s6, s7, s8, s9] [DrC ns (a + 1), .lst (f.map D.str)] = .ok (.p (.str (toString (f.length : Int) : String))) [DrC ns (a + 1), .lst (f.map D.str)] := (e_bi (es_cons el es_nil)).trans (show biSem .strI false [A.p (.int f.length)] _ = _ from strI_ok hlog)
      refine (e_bin (x := .p (.str ("r" : Str))) rfl es').trans (bin_adds ?_)
      have h8 := (nm_asc hk).2
      rw [len_app] at h8
      exact Nat.le_trans h8 (by decide)
  obtain ⟨z0, a1, g1, hz0, en⟩ := nam
  have hc1 : (evalE (runP fs (n + 2)) (.cmp .eq (.v 5) (.ci (1))) [some (.c 0), s1, some (.p (.lst (ownL.map D.str))), some (.p (.str LT)), some (.c 1), some (.p (.int v)), some (.p (.str z0)), s7, s8, s9] [DrC ns a1, .lst (f.map D.str)]).bind truR = .ok (decide (v = 1)) [DrC ns a1, .lst (f.map D.str)] := by
    rw [(e_cmp (e_v rfl) rfl).trans (cmpA_eq_int v 1)]; rfl
  by_cases hv1 : v = 1
  · obtain ⟨z1, a2, g2, hz1, ej⟩ := letters_ok n ns a1 hl g1 (.lst (f.map D.str)) s1 (some (.p (.lst (ownL.map D.str)))) (some (.c 1)) (some (.p (.int v))) (some (.p (.str z0))) s7 s8 s9
    obtain ⟨z, hz, ec⟩ := cont_ok n (DrC ns a2) f (by omega) z1 hz1 s1 (some (.p (.lst (ownL.map D.str)))) (some (.p (.str LT))) (some (.p (.int v))) s7 s8 s9
    refine ⟨z, a2, some (.p (.int v)), some (.p (.str z1)), some (.p (.lst ((z1 :: QL).map D.str))), g2, hz, ?_⟩
    refine (go_asg c5 rfl).trans ((go_asg en rfl).trans ((go_if hc1).trans ?_))
    rw [decide_eq_true hv1, if_pos rfl]
    exact (go_seq ((go_asg ej rfl).trans go_nil)).trans ec
  · obtain ⟨z, hz, ec⟩ := cont_ok n (DrC ns a1) f (by omega) z0 hz0 s1 (some (.p (.lst (ownL.map D.str)))) (some (.p (.str LT))) (some (.p (.int v))) s7 s8 s9
    refine ⟨z, a1, some (.p (.int v)), some (.p (.str z0)), some (.p (.lst ((z0 :: QL).map D.str))), g1, hz, ?_⟩
    refine (go_asg c5 rfl).trans ((go_asg en rfl).trans ((go_if hc1).trans ?_))
    rw [decide_eq_false hv1, if_neg (by decide)]
    exact (go_seq go_nil).trans ec
end Law_k01

set_option maxHeartbeats 4000000
namespace Law_k01
open Fz PySem
theorem go_whl {r : Fz.Run} {fu : Nat} {c : E} {b ss : Ss} {σ σ' : Env'} {M M1 : Mem} (h : whL (fun σ M => (evalE r c σ M).bind truR) (evalSs r b) fu σ M = .nx σ' M1) : evalSs r (.cons (.whl fu c b) ss) σ M = evalSs r ss σ' M1 := by
  show (whL (fun σ M => (evalE r c σ M).bind truR) (evalSs r b) fu σ M).seq (evalSs r ss) = _
  rw [h]; rfl
theorem names_ok (n : Nat) (ns : List Int) (a : Int) (hl : ns.length ≤ 63) (h0 : 0 ≤ a) (many : Nat) (hm : many ≤ 10) : ∃ (f : List Str) (a' : Int), 0 ≤ a' ∧ f.all nmB = true ∧ f.length ≤ 10 ∧ runP fs (n + 3) 6 [.c 0, .p (.int many)] [DrC ns a] = .ok (.c 1) [DrC ns a', .lst (f.map D.str)] := by
  have main := whL_inv (c := fun σ M => (evalE (runP fs (n + 2)) (.cmp .lt (.bi .len false (.cons (.v 4) .nil)) (.v 1)) σ M).bind truR)
    (body := evalSs (runP fs (n + 2)) (.cons (.asg (.nm 5) (.call 5 .loc (.cons (.v 0) (.cons (.ci (4)) .nil)) []))
   (.cons (.asg (.nm 6) (.ifx (.cmp .eq (.v 5) (.ci (0))) (.sub (.v 2) (.call 5 .loc (.cons (.v 0) (.cons (.ci (15)) .nil)) [])) (.bin .add false (.cs "r") (.bi .strI false (.cons (.bi .len false (.cons (.v 4) .nil)) .nil)))))
   (.cons (.ifs (.cmp .eq (.v 5) (.ci (1))) (.cons (.asg (.nm 6) JN) .nil) .nil)
   (.cons (.asg (.nm 7) FR) (.cons (.app (.v 4) PK) .nil))))))
    (fun m σ M => ∃ (f : List Str) (a1 : Int) (s5 s6 s7 s8 s9 : Option A), 0 ≤ a1 ∧ f.all nmB = true ∧ f.length ≤ many ∧ m = many - f.length ∧ σ = [some (.c 0), some (.p (.int many)), some (.p (.lst (ownL.map D.str))), some (.p (.str LT)), some (.c 1), s5, s6, s7, s8, s9] ∧ M = [DrC ns a1, .lst (f.map D.str)])
    (fun m σ M ⟨f, a1, s5, s6, s7, s8, s9, g0, hf, hlen, hm', hσ, hM⟩ => by
      subst hσ hM
      have ec : (evalE (runP fs (n + 2)) (.cmp .lt (.bi .len false (.cons (.v 4) .nil)) (.v 1)) [some (.c 0), some (.p (.int many)), some (.p (.lst (ownL.map D.str))), some (.p (.str LT)), some (.c 1), s5, s6, s7, s8, s9] [DrC ns a1, .lst (f.map D.str)]).bind truR = .ok (decide ((f.length : Int) < many)) [DrC ns a1, .lst (f.map D.str)] := by
        have el : evalE (runP fs (n + 2)) (.bi .len false (.cons (.v 4) .nil)) [some (.c 0), some (.p (.int many)), some (.p (.lst (ownL.map D.str))), some (.p (.str LT)), some (.c 1), s5, s6, s7, s8, s9] [DrC ns a1, .lst (f.map D.str)] = .ok (.p (.int f.length)) [DrC ns a1, .lst (f.map D.str)] := by
          refine (e_bi (es_cons (e_v rfl) es_nil)).trans ?_
          show Res.ok (A.p (.int ((f.map D.str).length : Int))) _ = _
          rw [List.length_map]
        rw [(e_cmp el (e_v rfl)).trans (cmpA_lt _ _)]; rfl
      refine ⟨_, _, ec, fun hk => ?_⟩
      have hlt : f.length < many := by have := of_decide_eq_true hk; omega
      obtain ⟨z, a2, t5, t6, t7, g2, hz, eb⟩ := body_ok n ns a1 hl g0 f (by omega) (some (.p (.int many))) s5 s6 s7 s8 s9
      refine ⟨many - (f ++ [z]).length, _, _, ?_, .inl eb, f ++ [z], a2, t5, t6, t7, s8, s9, g2, ?_, ?_, rfl, rfl, rfl⟩
      · rw [hm', List.length_append]; simp; omega
      · rw [List.all_append, hf]; simp [hz]
      · rw [List.length_append]; simp; omega) 400 (many - 0) [some (.c 0), some (.p (.int many)), some (.p (.lst (ownL.map D.str))), some (.p (.str LT)), some (.c 1), none, none, none, none, none] [DrC ns a, .lst []] (by omega) ⟨[], a, none, none, none, none, none, h0, rfl, Nat.zero_le _, rfl, rfl, rfl⟩
  obtain ⟨n', σ', M0, M', ew, ⟨f, a1, s5, s6, s7, s8, s9, g0, hf, hlen, _, hσ, hM⟩, ef⟩ := main
  subst hσ hM
  have ec : (evalE (runP fs (n + 2)) (.cmp .lt (.bi .len false (.cons (.v 4) .nil)) (.v 1)) [some (.c 0), some (.p (.int many)), some (.p (.lst (ownL.map D.str))), some (.p (.str LT)), some (.c 1), s5, s6, s7, s8, s9] [DrC ns a1, .lst (f.map D.str)]).bind truR = .ok (decide ((f.length : Int) < many)) [DrC ns a1, .lst (f.map D.str)] := by
    have el : evalE (runP fs (n + 2)) (.bi .len false (.cons (.v 4) .nil)) [some (.c 0), some (.p (.int many)), some (.p (.lst (ownL.map D.str))), some (.p (.str LT)), some (.c 1), s5, s6, s7, s8, s9] [DrC ns a1, .lst (f.map D.str)] = .ok (.p (.int f.length)) [DrC ns a1, .lst (f.map D.str)] := by
      refine (e_bi (es_cons (e_v rfl) es_nil)).trans ?_
      show Res.ok (A.p (.int ((f.map D.str).length : Int))) _ = _
      rw [List.length_map]
    rw [(e_cmp el (e_v rfl)).trans (cmpA_lt _ _)]; rfl
  have hM' : M' = [DrC ns a1, .lst (f.map D.str)] := by
    exact (Res.ok.inj (ec.symm.trans ef)).2.symm
  subst hM'
  refine ⟨f, a1, g0, hf, by omega, runP_ret (f := f_6) rfl rfl ?_⟩
  refine (go_asg (a := .p (.lst (ownL.map D.str))) (M1 := [DrC ns a]) rfl rfl).trans ((go_asg (a := .p (.str LT)) rfl rfl).trans ((go_asg (a := .c 1) (M1 := [DrC ns a, .lst []]) rfl rfl).trans ?_))
  exact (go_whl ew).trans (go_ret (e_v rfl))
end Law_k01

set_option maxHeartbeats 4000000
namespace Law_k01
open Fz PySem
theorem call11 (n : Nat) (ns : List Int) (a : Int) (hl : ns.length ≤ 63) (h0 : 0 ≤ a) (i : Nat) (M : Mem) (hM : M[i]? = some (DrC ns a)) : ∃ (d : D) (a' : Int), 0 ≤ a' ∧ fine d = true ∧ callLoc (runP fs (n + 3)) 11 [.c i] M = .ok (.p d) (M.set i (DrC ns a')) := by
  obtain ⟨d, a', g, hf, e⟩ := odd_ok n ns a hl h0
  exact ⟨d, a', g, hf, callLoc_c (ds := []) hM rfl e rfl⟩
theorem call10 (n : Nat) (ns : List Int) (a : Int) (hl : ns.length ≤ 63) (h0 : 0 ≤ a) (B : Nat) (hB : B ≤ 1000) (z : Str) (hz : tx B z) (i : Nat) (M : Mem) (hM : M[i]? = some (DrC ns a)) : ∃ (z' : Str) (a' : Int), 0 ≤ a' ∧ tx (3 * B + 3) z' ∧ callLoc (runP fs (n + 3)) 10 [.c i, .p (.str z)] M = .ok (.p (.str z')) (M.set i (DrC ns a')) := by
  obtain ⟨z', a', g, hf, e⟩ := near_ok n ns a hl h0 B hB z hz
  exact ⟨z', a', g, hf, callLoc_c (ds := [.str z]) hM rfl e rfl⟩
theorem call12 (n : Nat) (d : D) (M : Mem) (h : fine d = true) : callLoc (runP fs (n + 4)) 12 [.p d] M = .ok (.p (.bl true)) M := by
  unfold fine at h
  rw [Bool.and_eq_true] at h
  exact callLoc_p (ds := [d]) (is_right_ok n d [] h.1 h.2)
theorem cells_p : ∀ ds : List D, cellsOf (ds.map A.p) = []
  | [] => rfl
  | _ :: ds => cells_p ds
theorem relab_p : ∀ (ds : List D) (k : Nat), relabA (ds.map A.p) k = ds.map A.p
  | [], _ => rfl
  | d :: ds, k => by show A.p d :: relabA (ds.map A.p) k = _; rw [relab_p ds]; rfl
/-- a call that hands one cell, as the first argument, and makes one -/
theorem callLoc_new {r : Fz.Run} {k i : Nat} {ds : List D} {c c' cn : C} {M : Mem} (hM : M[i]? = some c) (hc : closedC c = true) (h : r k (.c 0 :: ds.map A.p) [c] = .ok (.c 1) [c', cn]) (hq : quietC c' = true) (hn : closedC cn = true) : callLoc r k (.c i :: ds.map A.p) M = .ok (.c M.length) (M.set i c' ++ [cn]) := by
  have h1 : (A.c i :: ds.map A.p).all closedA = true := by
    rw [List.all_cons]
    have : (ds.map A.p).all closedA = true := by
      rw [List.all_eq_true]
      intro x hx
      obtain ⟨y, _, rfl⟩ := List.mem_map.mp hx
      rfl
    rw [this]; rfl
  have h4 : cellsOf (A.c i :: ds.map A.p) = [i] := by show i :: cellsOf (ds.map A.p) = _; rw [cells_p]
  have h5 : relabA (A.c i :: ds.map A.p) 0 = .c 0 :: ds.map A.p := by show A.c 0 :: relabA (ds.map A.p) 1 = _; rw [relab_p]
  unfold callLoc
  rw [h4, if_pos ⟨h1, rfl⟩]
  have hg : getsM M [i] = some [c] := by
    unfold getsM getsM
    rw [hM]
    dsimp only
    rw [if_pos hc]
  rw [hg, h5]
  dsimp only
  rw [h]
  unfold backLoc
  dsimp only
  have e1 : (List.take [i].length [c', cn]).all quietC = true := by show [c'].all quietC = true; simp [hq]
  rw [if_pos e1, if_neg (show ¬ 1 < [i].length from Nat.lt_irrefl 1)]
  show (if closedC cn = true then Res.ok (A.c M.length) (putsM M [i] [c'] ++ [cn]) else Res.no) = _
  rw [if_pos hn]
  rfl
theorem call6 (n : Nat) (ns : List Int) (a : Int) (hl : ns.length ≤ 63) (h0 : 0 ≤ a) (many : Nat) (hm : many ≤ 10) (i : Nat) (M : Mem) (hM : M[i]? = some (DrC ns a)) : ∃ (f : List Str) (a' : Int), 0 ≤ a' ∧ f.all nmB = true ∧ f.length ≤ 10 ∧ callLoc (runP fs (n + 3)) 6 [.c i, .p (.int many)] M = .ok (.c M.length) (M.set i (DrC ns a') ++ [.lst (f.map D.str)]) := by
  obtain ⟨f, a', g, hf, hlen, e⟩ := names_ok n ns a hl h0 many hm
  exact ⟨f, a', g, hf, hlen, callLoc_new (ds := [.int many]) hM rfl e rfl rfl⟩
end Law_k01

set_option maxHeartbeats 4000000
namespace Law_k01
open Fz PySem
theorem tx_fine {B : Nat} {z : Str} (h : tx B z) (hB : B ≤ 100000) : fine (.str z) = true := by
  unfold fine
  rw [Bool.and_eq_true]
  refine ⟨?_, h.1⟩
  show decide (z.length ≤ sizeLine) = true
  exact decide_eq_true (Nat.le_trans h.2 (Nat.le_trans hB (by decide)))
theorem nm_tx {z : Str} (h : nmB z = true) : tx 8 z := by
  have := nm_asc h
  exact ⟨ok_iff.mpr fun c hc => Nat.lt_trans (this.1 c hc) (by decide), this.2⟩
/-- the last item -/
theorem atI_last {xs : List D} {d : D} (h : xs.getLast? = some d) : L2.atI xs (-1) = some d := by
  have hp : 0 < xs.length := by
    cases xs with
    | nil => cases h
    | cons => simp
  unfold L2.atI L2.ixN
  rw [if_neg (by decide), if_pos (by omega)]
  show xs[((-1 : Int) + xs.length).toNat]? = some d
  have e : ((-1 : Int) + xs.length).toNat = xs.length - 1 := by omega
  rw [e, ← List.getLast?_eq_getElem?]
  exact h
def bnd : Nat → Nat
  | 0 => 8
  | 1 => 27
  | _ => 84
/-- the spoilt names -/
theorem spoil_ok (n : Nat) (ns : List Int) (hl : ns.length ≤ 63) (j : Nat) (hj : j ≠ 0) (M : Mem) (a : Int) (h0 : 0 ≤ a) (xs : List D) (z0 : Str) (hz0 : tx 8 z0) (hx0 : xs[0]? = some (.str z0)) (hx : xs.all fine = true) (hxl : xs.length ≤ 5) (sp : Nat) (hsp : sp ≤ 2) (s0 s2 s4 s5 s6 s7 s8 s9 s10 s11 : Option A)
    (hM0 : M[0]? = some (DrC ns a)) (hMj : M[j]? = some (.lst xs)) :
    ∃ (t4 : Option A) (M' : Mem) (a' : Int) (xs' : List D), forL (.fx (rngL 0 sp)) (.nm 4) (evalSs (runP fs (n + 3)) (.cons (.app (.v 3) (.call 10 .loc (.cons (.v 1) (.cons (.ifx (.cmp .eq (.v 4) (.ci (0))) (.sub (.v 3) (.ci (0))) (.sub (.v 3) (.neg (.ci (1))))) .nil)) [])) .nil)) sp 0 [s0, some (.c 0), s2, some (.c j), s4, s5, s6, s7, s8, s9, s10, s11] M =
      .nx [s0, some (.c 0), s2, some (.c j), t4, s5, s6, s7, s8, s9, s10, s11] M' ∧ 0 ≤ a' ∧ M'[0]? = some (DrC ns a') ∧ M'[j]? = some (.lst xs') ∧ xs'.all fine = true ∧ xs'.length ≤ 7 ∧ M'.length = M.length ∧ (∀ i, i ≠ 0 → i ≠ j → M'[i]? = M[i]?) := by
  have hlen : (rngL 0 sp).length = sp := by unfold rngL; rw [List.length_map, List.length_range]
  obtain ⟨σ', M', e, t4, a', xs', hσ, g, hM0', hMj', hf, hl', _, hL, hK, _⟩ := forL_inv (s := .fx (rngL 0 sp)) (as := rngL 0 sp) (tg := .nm 4) (body := evalSs (runP fs (n + 3)) (.cons (.app (.v 3) (.call 10 .loc (.cons (.v 1) (.cons (.ifx (.cmp .eq (.v 4) (.ci (0))) (.sub (.v 3) (.ci (0))) (.sub (.v 3) (.neg (.ci (1))))) .nil)) [])) .nil))
    (fun k σ M1 => ∃ (t4 : Option A) (a' : Int) (xs' : List D), σ = [s0, some (.c 0), s2, some (.c j), t4, s5, s6, s7, s8, s9, s10, s11] ∧ 0 ≤ a' ∧ M1[0]? = some (DrC ns a') ∧ M1[j]? = some (.lst xs') ∧ xs'.all fine = true ∧ xs'.length ≤ 5 + k ∧ k ≤ sp ∧ M1.length = M.length ∧ (∀ i, i ≠ 0 → i ≠ j → M1[i]? = M[i]?) ∧ (xs'[0]? = some (.str z0) ∧ (k ≠ 0 → ∃ z, tx (bnd k) z ∧ xs'.getLast? = some (.str z))))
    (fun k σ M1 _ => rfl) (fun k x σ M1 hk ⟨t4, a1, xs1, hσ, g1, m0, mj, hf, hl1, hks, hL, hK, hz, hlast⟩ => by
      subst hσ
      have hk1 : k < sp := by rw [← hlen]; exact (List.getElem?_eq_some_iff.mp hk).1
      have hxk : x = .p (.int (k : Int)) := by
        unfold rngL at hk
        rw [List.getElem?_map, List.getElem?_range hk1] at hk
        simp at hk
        exact hk.symm
      subst hxk
      -- the text that is spoilt
      have tex : ∃ z, tx (bnd k) z ∧ evalE (runP fs (n + 3)) (.ifx (.cmp .eq (.v 4) (.ci (0))) (.sub (.v 3) (.ci (0))) (.sub (.v 3) (.neg (.ci (1))))) [s0, some (.c 0), s2, some (.c j), some (.p (.int (k : Int))), s5, s6, s7, s8, s9, s10, s11] M1 = .ok (.p (.str z)) M1 := by
        have hc : (evalE (runP fs (n + 3)) (.cmp .eq (.v 4) (.ci (0))) [s0, some (.c 0), s2, some (.c j), some (.p (.int (k : Int))), s5, s6, s7, s8, s9, s10, s11] M1).bind truR = .ok (decide ((k : Int) = 0)) M1 := by
          rw [(e_cmp (e_v rfl) rfl).trans (cmpA_eq_int _ _)]; rfl
        have sub : ∀ (i : Int) (z : Str), L2.atI xs1 i = some (.str z) → subSem (.c j) (.p (.int i)) M1 = .ok (.p (.str z)) M1 := fun i z h => by
          unfold subSem; dsimp only; rw [mj]; dsimp only; rw [h]
        by_cases hk0 : k = 0
        · subst hk0
          refine ⟨z0, hz0, ?_⟩
          rw [e_ifx hc, if_pos (decide_eq_true (show ((0 : Nat) : Int) = 0 from rfl))]
          refine (e_sub (e_v rfl) rfl).trans (sub 0 z0 ?_)
          have hp : 0 < xs1.length := by
            cases xs1 with
            | nil => cases hz
            | cons => simp
          unfold L2.atI L2.ixN
          rw [if_pos (by decide), if_pos (by omega)]
          exact hz
        · obtain ⟨z, tz, hzl⟩ := hlast hk0
          refine ⟨z, tz, ?_⟩
          rw [e_ifx hc, decide_eq_false (by omega), if_neg (by decide)]
          exact (e_sub (e_v rfl) rfl).trans (sub (-1) z (atI_last hzl))
      obtain ⟨z, tz, ez⟩ := tex
      have hb : bnd k ≤ 1000 := by unfold bnd; split <;> omega
      obtain ⟨z', a2, g2, tz', ec⟩ := call10 n ns a1 hl g1 (bnd k) hb z tz 0 M1 m0
      have mj2 : (M1.set 0 (DrC ns a2))[j]? = some (.lst xs1) := by rw [List.getElem?_set_ne (Ne.symm hj)]; exact mj
      have hz84 : tx (bnd (k + 1)) z' := by
        refine tx_mono tz' ?_
        have : k = 0 ∨ k = 1 := by omega
        rcases this with rfl | rfl <;> decide
      have ea : appSem (.c j) (.p (.str z')) (M1.set 0 (DrC ns a2)) = some ((M1.set 0 (DrC ns a2)).set j (.lst (xs1 ++ [.str z']))) := by
        unfold appSem
        dsimp only
        rw [mj2]
        dsimp only
        rw [if_pos (Nat.lt_of_le_of_lt hl1 (Nat.lt_of_lt_of_le (show 5 + k < 100 by omega) (by decide)))]
      have hj1 : j < M1.length := (List.getElem?_eq_some_iff.mp mj).1
      refine ⟨_, [s0, some (.c 0), s2, some (.c j), some (.p (.int (k : Int))), s5, s6, s7, s8, s9, s10, s11], (M1.set 0 (DrC ns a2)).set j (.lst (xs1 ++ [.str z'])), rfl, .inl ?_, some (.p (.int (k : Int))), a2, xs1 ++ [.str z'], rfl, g2, ?_, ?_, ?_, ?_, hk1, by simp [hL], fun i h1 h2 => by rw [List.getElem?_set_ne (Ne.symm h2), List.getElem?_set_ne (Ne.symm h1)]; exact hK i h1 h2, ?_, fun _ => ⟨z', hz84, by simp⟩⟩
      · refine (go_app (x := .c j) (M1 := M1) (e_v rfl) ?_ ((e_call (es_cons (e_v rfl) (es_cons ez es_nil))).trans ec) ea).trans go_nil
        unfold isLC topOf
        dsimp only
        rw [mj]
        rfl
      · rw [List.getElem?_set_ne hj, List.getElem?_set_self (by omega)]
      · rw [List.getElem?_set_self (by rw [List.length_set]; exact hj1)]
      · rw [List.all_append, hf]
        have : fine (.str z') = true := tx_fine tz' (by omega)
        simp [this]
      · rw [List.length_append]; simp; omega
      · have hp : 0 < xs1.length := by
          cases xs1 with
          | nil => cases hz
          | cons => simp
        rw [List.getElem?_append_left hp]; exact hz) sp 0 [s0, some (.c 0), s2, some (.c j), s4, s5, s6, s7, s8, s9, s10, s11] M (by omega) ⟨s4, a, xs, rfl, h0, hM0, hMj, hx, hxl, Nat.zero_le _, rfl, fun _ _ _ => rfl, hx0, fun h => absurd rfl h⟩
  subst hσ
  exact ⟨t4, M', a', xs', e, g, hM0', hMj', hf, by omega, hL, hK⟩
end Law_k01

set_option maxHeartbeats 4000000
namespace Law_k01
open Fz PySem
theorem upper_tx {z : Str} (h : nmB z = true) : tx 8 (Txt.upper z) := by
  have ha := nm_asc h
  rw [PyProof.Rows.upper_ascii ha.1]
  refine ⟨ok_iff.mpr fun c hc => ?_, ?_⟩
  · have hc : c ∈ (z.cps.map PyProof.Rows.up1).toList := hc
    rw [Array.toList_map] at hc
    obtain ⟨d, hd, rfl⟩ := List.mem_map.mp hc
    have := ha.1 d hd
    unfold PyProof.Rows.up1
    split <;> omega
  · show (z.cps.map PyProof.Rows.up1).size ≤ 8
    rw [Array.size_map]; exact ha.2
theorem rev_tx {z : Str} (h : nmB z = true) : tx 8 ⟨z.cps.toList.reverse.toArray⟩ := by
  have ha := nm_asc h
  refine ⟨ok_iff.mpr fun c hc => ?_, ?_⟩
  · rw [List.toList_toArray, List.mem_reverse] at hc
    exact Nat.lt_trans (ha.1 c hc) (by decide)
  · show z.cps.toList.reverse.toArray.size ≤ 8
    rw [List.size_toArray, List.length_reverse, Array.length_toList]; exact ha.2
def someL (z : Str) : List D := [.str z, .str (Txt.upper z), .str ⟨z.cps.toList.reverse.toArray⟩, .lst (signs z), .tup [.str z]]
theorem someL_fine {z : Str} (h : nmB z = true) : (someL z).all fine = true := by
  unfold someL
  simp only [List.all_cons, List.all_nil, Bool.and_true, Bool.and_eq_true]
  exact ⟨tx_fine (nm_tx h) (by decide), tx_fine (upper_tx h) (by decide), tx_fine (rev_tx h) (by decide), rfl, rfl⟩
theorem some_new (r : Fz.Run) (z : Str) (hz : nmB z = true) (s0 s1 s3 s4 s5 s6 s7 s8 s9 s10 s11 : Option A) (M : Mem) : evalE r (.lst true (.cons (.v 2) (.cons (.bm .upper false (.v 2) .nil) (.cons (.rev false (.v 2)) (.cons (.bi .list false (.cons (.v 2) .nil)) (.cons (.tup (.cons (.v 2) .nil)) .nil)))))) [s0, s1, some (.p (.str z)), s3, s4, s5, s6, s7, s8, s9, s10, s11] M = .ok (.c M.length) (M ++ [.lst (someL z)]) := by
  have h8 := (nm_asc hz).2
  have hS : (100 : Nat) ≤ sizeLine := by decide
  have e1 : evalE r (.bm .upper false (.v 2) .nil) [s0, s1, some (.p (.str z)), s3, s4, s5, s6, s7, s8, s9, s10, s11] M = .ok (.p (.str (Txt.upper z))) M := by
    show (if z.length ≤ 5592405 then val (.str (Txt.upper z)) M else .no) = _
    rw [if_pos (by omega)]; rfl
  have e2 : evalE r (.rev false (.v 2)) [s0, s1, some (.p (.str z)), s3, s4, s5, s6, s7, s8, s9, s10, s11] M = .ok (.p (.str ⟨z.cps.toList.reverse.toArray⟩)) M := by
    show (if z.length ≤ sizeLine then val (.str ⟨z.cps.toList.reverse.toArray⟩) M else .no) = _
    rw [if_pos (by omega)]; rfl
  have e3 : evalE r (.bi .list false (.cons (.v 2) .nil)) [s0, s1, some (.p (.str z)), s3, s4, s5, s6, s7, s8, s9, s10, s11] M = .ok (.p (.lst (signs z))) M := by
    refine (e_bi (es_cons (e_v rfl) es_nil)).trans ?_
    show (if z.length ≤ sizeLine then newL false ((signs z).map A.p) M else .no) = _
    rw [if_pos (by omega), newL_f]
  have e4 : evalE r (.tup (.cons (.v 2) .nil)) [s0, s1, some (.p (.str z)), s3, s4, s5, s6, s7, s8, s9, s10, s11] M = .ok (.p (.tup [.str z])) M := (e_tup (es_cons (e_v rfl) es_nil) (show 1 ≤ sizeLine by decide)).trans rfl
  refine (e_lst (es_cons (e_v rfl) (es_cons e1 (es_cons e2 (es_cons e3 (es_cons e4 es_nil))))) (show 5 ≤ sizeLine by decide)).trans ?_
  exact newL_t (someL z)
end Law_k01

set_option maxHeartbeats 4000000
namespace Law_k01
open Fz PySem
/-- t[:k] + (d,) + t[k + 1:] for three items -/
def put3 (k : Int) (x y z d : D) : List D := if k = 0 then [d, y, z] else if k = 1 then [x, d, z] else [x, y, d]
theorem put3_ok {k : Int} (h0 : 0 ≤ k) (h1 : k < 3) (x y z d : D) : cutD [x, y, z] none (some k) ++ [d] ++ cutD [x, y, z] (some (k + 1)) none = put3 k x y z d := by
  have : k = 0 ∨ k = 1 ∨ k = 2 := by omega
  rcases this with rfl | rfl | rfl <;> rfl
theorem slc_tup {xs : List D} {lo hi : Option Int} {M : Mem} : slcSem false (.p (.tup xs)) lo hi M = .ok (.p (.tup (cutD xs lo hi))) M := rfl
theorem bin_addt {xs ys : List D} {M : Mem} (h : xs.length + ys.length ≤ sizeLine) : binSem .add false (.p (.tup xs)) (.p (.tup ys)) M = .ok (.p (.tup (xs ++ ys))) M := by
  show (if xs.length + ys.length ≤ sizeLine then val (.tup (xs ++ ys)) M else .no) = _
  rw [if_pos h]; rfl
theorem cut_le (xs : List D) (lo hi : Option Int) : (cutD xs lo hi).length ≤ xs.length := by
  unfold cutD
  rw [List.length_take, List.length_drop]
  omega
theorem put_ok (n : Nat) (ns : List Int) (hl : ns.length ≤ 63) (a : Int) (h0 : 0 ≤ a) (p q : Nat) (k : Int) (k0 : 0 ≤ k) (k1 : k < 3) (x y z : D) (σ : Env') (M : Mem) (hM : M[0]? = some (DrC ns a)) (hp : σ[p]? = some (some (.p (.tup [x, y, z])))) (hq : σ[q]? = some (some (.p (.int k)))) (h1 : σ[1]? = some (some (.c 0))) :
    ∃ (d : D) (a' : Int), 0 ≤ a' ∧ fine d = true ∧ evalE (runP fs (n + 3)) (.bin .add false (.bin .add false (.slc false (.v p) .nil (.cons (.v q) .nil)) (.tup (.cons (.call 11 .loc (.cons (.v 1) .nil) []) .nil))) (.slc false (.v p) (.cons (.bin .add false (.v q) (.ci (1))) .nil) .nil)) σ M = .ok (.p (.tup (put3 k x y z d))) (M.set 0 (DrC ns a')) := by
  obtain ⟨d, a', g, hf, e⟩ := call11 n ns a hl h0 0 M hM
  refine ⟨d, a', g, hf, ?_⟩
  have hS : (100 : Nat) ≤ sizeLine := by decide
  have l1 := cut_le [x, y, z] none (some k)
  have l2 := cut_le [x, y, z] (some (k + 1)) none
  simp only [List.length_cons, List.length_nil] at l1 l2
  have e1 : evalE (runP fs (n + 3)) (.slc false (.v p) .nil (.cons (.v q) .nil)) σ M = .ok (.p (.tup (cutD [x, y, z] none (some k)))) M := by
    show (evalE (runP fs (n + 3)) (.v p) σ M).bind (fun x M1 => (Res.ok none M1).bind fun l M2 => ((evalE (runP fs (n + 3)) (.v q) σ M2).bind partS).bind fun h M3 => slcSem false x l h M3) = _
    rw [e_v hp, Res.bind_ok, Res.bind_ok, e_v hq]; rfl
  have e2 : ∀ M : Mem, evalE (runP fs (n + 3)) (.slc false (.v p) (.cons (.bin .add false (.v q) (.ci (1))) .nil) .nil) σ M = .ok (.p (.tup (cutD [x, y, z] (some (k + 1)) none))) M := fun M => by
    show (evalE (runP fs (n + 3)) (.v p) σ M).bind (fun x M1 => ((evalE (runP fs (n + 3)) (.bin .add false (.v q) (.ci (1))) σ M1).bind partS).bind fun l M2 => (Res.ok none M2).bind fun h M3 => slcSem false x l h M3) = _
    rw [e_v hp, Res.bind_ok, e_bin (e_v hq) rfl]; rfl
  have e3 : evalE (runP fs (n + 3)) (.tup (.cons (.call 11 .loc (.cons (.v 1) .nil) []) .nil)) σ M = .ok (.p (.tup [d])) (M.set 0 (DrC ns a')) :=
    (e_tup (es_cons ((e_call (es_cons (e_v h1) es_nil)).trans e) es_nil) (show 1 ≤ sizeLine by decide)).trans rfl
  refine (e_bin ((e_bin e1 e3).trans (bin_addt (by simp only [List.length_cons, List.length_nil]; omega))) (e2 _)).trans ((bin_addt (by rw [List.length_append]; simp only [List.length_cons, List.length_nil]; omega)).trans ?_)
  rw [put3_ok k0 k1]
end Law_k01

set_option maxHeartbeats 4000000
namespace Law_k01
open Fz PySem
theorem set_set (M : Mem) (c c' : C) : (M.set 0 c).set 0 c' = M.set 0 c' := by rw [List.set_set]
theorem set_at {M : Mem} {c c' : C} (h : M[0]? = some c) : (M.set 0 c')[0]? = some c' := List.getElem?_set_self (List.getElem?_eq_some_iff.mp h).1
/-- the road -/
theorem road5_ok (n : Nat) (ns : List Int) (hl : ns.length ≤ 63) (a : Int) (h0 : 0 ≤ a) (σ : Env') (M : Mem) (hM : M[0]? = some (DrC ns a)) (h1 : σ[1]? = some (some (.c 0))) :
    ∃ (x y z a' : Int), 0 ≤ a' ∧ evalE (runP fs (n + 2)) (.tup (.cons (.call 5 .loc (.cons (.v 1) (.cons (.ci (1000)) .nil)) []) (.cons (.call 5 .loc (.cons (.v 1) (.cons (.ci (1000)) .nil)) []) (.cons (.bin .add false (.ci (1)) (.bin .mul false (.call 5 .loc (.cons (.v 1) (.cons (.ci (1000)) .nil)) []) (.bin .pow false (.ci (10)) (.ci (6))))) .nil)))) σ M = .ok (.p (.tup [.int x, .int y, .int z])) (M.set 0 (DrC ns a')) := by
  obtain ⟨x, _, _, e1⟩ := call5 n ns a 1000 hl h0 (by decide) 0 M hM
  obtain ⟨y, _, _, e2⟩ := call5 n ns (a + 1) 1000 hl (by omega) (by decide) 0 (M.set 0 (DrC ns (a + 1))) (set_at hM)
  obtain ⟨z, _, _, e3⟩ := call5 n ns (a + 1 + 1) 1000 hl (by omega) (by decide) 0 (M.set 0 (DrC ns (a + 1 + 1))) (set_at hM)
  rw [set_set] at e2 e3
  have c : ∀ (M M' : Mem) (w : Int), callLoc (runP fs (n + 2)) 5 [.c 0, .p (.int 1000)] M = .ok (.p (.int w)) M' → evalE (runP fs (n + 2)) (.call 5 .loc (.cons (.v 1) (.cons (.ci (1000)) .nil)) []) σ M = .ok (.p (.int w)) M' := fun M M' w e => (e_call (es_cons (e_v h1) (es_cons rfl es_nil))).trans e
  refine ⟨x, y, 1 + z * 1000000, a + 1 + 1 + 1, by omega, ?_⟩
  have e4 : evalE (runP fs (n + 2)) (.bin .add false (.ci (1)) (.bin .mul false (.call 5 .loc (.cons (.v 1) (.cons (.ci (1000)) .nil)) []) (.bin .pow false (.ci (10)) (.ci (6))))) σ (M.set 0 (DrC ns (a + 1 + 1))) = .ok (.p (.int (1 + z * 1000000))) (M.set 0 (DrC ns (a + 1 + 1 + 1))) :=
    (e_bin rfl ((e_bin (c _ _ z e3) (show evalE _ (.bin .pow false (.ci (10)) (.ci (6))) σ _ = .ok (.p (.int 1000000)) _ from rfl)).trans (bin_mul (.inr (by decide))))).trans rfl
  exact (e_tup (es_cons (c _ _ x e1) (es_cons (c _ _ y e2) (es_cons e4 es_nil))) (show 3 ≤ sizeLine by decide)).trans rfl
theorem bin_addc {j : Nat} {xs ys : List D} {M : Mem} (hM : M[j]? = some (.lst xs)) (h : xs.length + ys.length ≤ sizeLine) : binSem .add true (.c j) (.p (.lst ys)) M = .ok (.c M.length) (M ++ [.lst (xs ++ ys)]) := by
  have e : vw M (.c j) = some (.lst xs) := by unfold vw; dsimp only; rw [hM]
  unfold binSem
  rw [e]
  show (if xs.length + ys.length ≤ sizeLine then newL true ((xs ++ ys).map A.p) M else .no) = _
  rw [if_pos h, newL_t]
def roadL (x y z : Int) (one two : List D) : List D := [.tup [.int x, .int y, .int z], .lst [.int x, .int y, .int z], .tup [.int z, .int y, .int x], .tup [.int x, .int y], .tup [.int x, .int y, .int z, .int x], .tup [.int x, .int x, .int z], .tup one, .tup two]
theorem roadL_ok (r : Fz.Run) (x y z : Int) (one two : List D) (s0 s1 s2 s3 s4 s7 s9 s10 s11 : Option A) (M : Mem) : evalE r (.lst false (.cons (.v 5) (.cons (.bi .list false (.cons (.v 5) .nil)) (.cons (.rev false (.v 5)) (.cons (.slc false (.v 5) .nil (.cons (.ci (2)) .nil)) (.cons (.bin .add false (.v 5) (.slc false (.v 5) .nil (.cons (.ci (1)) .nil))) (.cons (.tup (.cons (.sub (.v 5) (.ci (0))) (.cons (.sub (.v 5) (.ci (0))) (.cons (.sub (.v 5) (.ci (2))) .nil)))) (.cons (.v 6) (.cons (.v 8) .nil))))))))) [s0, s1, s2, s3, s4, some (.p (.tup [.int x, .int y, .int z])), some (.p (.tup one)), s7, some (.p (.tup two)), s9, s10, s11] M = .ok (.p (.lst (roadL x y z one two))) M :=
  (e_lst (as := (roadL x y z one two).map A.p) (es_cons (e_v rfl) (es_cons rfl (es_cons rfl (es_cons rfl (es_cons rfl (es_cons rfl (es_cons (e_v rfl) (es_cons (e_v rfl) es_nil)))))))) (show 8 ≤ sizeLine by decide)).trans (newL_f _)
def endL (d : D) (x : Int) (dc : D) : List D := [d, .int x, dc, .non, .str "", .tup [], .lst [], .dic []]
theorem endL_ok (n : Nat) (ns : List Int) (hl : ns.length ≤ 63) (a : Int) (h0 : 0 ≤ a) (z : Str) (x y w : Int) (s0 s3 s4 s6 s7 s8 s9 s10 s11 : Option A) (M : Mem) (hM : M[0]? = some (DrC ns a)) :
    ∃ (d : D) (kvs : List (D × D)) (a' : Int), 0 ≤ a' ∧ fine d = true ∧ evalE (runP fs (n + 3)) (.lst false (.cons (.call 11 .loc (.cons (.v 1) .nil) []) (.cons (.sub (.v 5) (.ci (0))) (.cons (.dct false (.cons (.v 2) (.cons (.v 5) .nil))) (.cons .cn (.cons (.cs "") (.cons (.tup .nil) (.cons (.lst false .nil) (.cons (.dct false .nil) .nil))))))))) [s0, some (.c 0), some (.p (.str z)), s3, s4, some (.p (.tup [.int x, .int y, .int w])), s6, s7, s8, s9, s10, s11] M = .ok (.p (.lst (endL d x (.dic kvs)))) (M.set 0 (DrC ns a')) := by
  obtain ⟨d, a', g, hf, e⟩ := call11 n ns a hl h0 0 M hM
  refine ⟨d, [(.str z, .tup [.int x, .int y, .int w])], a', g, hf, ?_⟩
  exact (e_lst (as := (endL d x (.dic [(.str z, .tup [.int x, .int y, .int w])])).map A.p) (es_cons ((e_call (es_cons (e_v rfl) es_nil)).trans e) (es_cons rfl (es_cons rfl (es_cons rfl (es_cons rfl (es_cons rfl (es_cons rfl (es_cons rfl es_nil)))))))) (show 8 ≤ sizeLine by decide)).trans (newL_f _)
end Law_k01

set_option maxHeartbeats 4000000
namespace Law_k01
open Fz PySem
theorem check_ok (n : Nat) (j : Nat) (xs : List D) (hx : xs.all fine = true) (hl : xs.length ≤ 100) (s0 s1 s2 s4 s5 s6 s7 s8 s9 s10 s11 : Option A) (M : Mem) (hM : M[j]? = some (.lst xs)) :
    evalE (runP fs (n + 4)) (.comp false [11] (.nm 11) (.e (.v 3)) (.cons (.nt (.call 12 .loc (.cons (.v 11) .nil) [])) .nil) (.v 11)) [s0, s1, s2, some (.c j), s4, s5, s6, s7, s8, s9, s10, s11] M = .ok (.p (.lst [])) M := by
  have c := comp_D (r := runP fs (n + 4)) (M := M) (σ := [s0, s1, s2, some (.c j), s4, s5, s6, s7, s8, s9, s10, s11]) (own := [11]) (tg := .nm 11) (it := .e (.v 3)) (ifs := .cons (.nt (.call 12 .loc (.cons (.v 11) .nil) [])) .nil) (elt := .v 11) (s := .ce j xs.length) (ds := xs) (p := fun _ => false) (g := id)
    (by
      show (Res.ok (A.c j) M).bind itA = _
      rw [Res.bind_ok]
      unfold itA
      dsimp only
      rw [hM]) rfl (fun k => by
      show (match M[j]? with
        | some (.lst ys) => if ys.length = xs.length then some (ys[k]?.map A.p) else none
        | some (.lsa ys) => if ys.length = xs.length then some ys[k]? else none
        | _ => none) = _
      rw [hM]
      dsimp only
      rw [if_pos rfl, List.getElem?_map]) (Nat.le_trans hl (by decide)) (fun d hd => by
      refine ⟨_, rfl, ?_, fun h => by cases h⟩
      have hf := List.all_eq_true.mp hx d hd
      show ((Res.bind (Res.bind (callLoc (runP fs (n + 4)) 12 [.p d] M) truR) fun b M1 => val (.bl (!b)) M1).bind truR).bind _ = _
      rw [call12 n d M hf]
      rfl)
  rw [c]
  have : xs.filter (fun _ => false) = [] := List.filter_eq_nil_iff.mpr fun _ _ h => by cases h
  rw [this]
  rfl
end Law_k01

set_option maxHeartbeats 4000000
namespace Law_k01
open Fz PySem
theorem fine_good {d : D} (h : fine d = true) : good d = true := by
  unfold fine at h; rw [Bool.and_eq_true] at h; exact good3_good h.1
theorem put3_three (k : Int) (x y z d : D) (hx : good x = true) (hy : good y = true) (hz : good z = true) (hd : good d = true) : ∃ p q r, put3 k x y z d = [p, q, r] ∧ good p = true ∧ good q = true ∧ good r = true := by
  unfold put3
  split
  · exact ⟨_, _, _, rfl, hd, hy, hz⟩
  · split
    · exact ⟨_, _, _, rfl, hx, hd, hz⟩
    · exact ⟨_, _, _, rfl, hx, hy, hd⟩
theorem three_fine {p q r : D} (h1 : good p = true) (h2 : good q = true) (h3 : good r = true) : fine (.tup [p, q, r]) = true := by
  show (good p && good q && good r && true) = true
  rw [h1, h2, h3]; rfl
theorem roadL_fine (x y z : Int) (one two : List D) (h1 : fine (.tup one) = true) (h2 : fine (.tup two) = true) : (roadL x y z one two).all fine = true := by
  unfold roadL
  simp only [List.all_cons, List.all_nil, Bool.and_true, Bool.and_eq_true]
  exact ⟨rfl, rfl, rfl, rfl, rfl, rfl, h1, h2⟩
theorem endL_fine (d : D) (x : Int) (kvs : List (D × D)) (h : fine d = true) : (endL d x (.dic kvs)).all fine = true := by
  unfold endL
  simp only [List.all_cons, List.all_nil, Bool.and_true, Bool.and_eq_true]
  exact ⟨h, rfl, rfl, rfl, by decide +kernel, rfl, rfl, rfl⟩
theorem keep_app {M : Mem} {i : Nat} {x c : C} (h : M[i]? = some x) : (M ++ [c])[i]? = some x := by
  rw [List.getElem?_append_left (List.getElem?_eq_some_iff.mp h).1]; exact h
theorem keep_set {M : Mem} {i : Nat} {x c : C} (h : M[i]? = some x) (hi : i ≠ 0) : (M.set 0 c)[i]? = some x := by
  rw [List.getElem?_set_ne (Ne.symm hi)]; exact h
theorem new_at (M : Mem) (c : C) : (M ++ [c])[M.length]? = some c := by simp
theorem go_for {r : Fz.Run} {tg : Tg} {it : Wk} {b ss : Ss} {σ σ' : Env'} {M M1 M2 : Mem} {s : Src} (hi : evalIt r it σ M = .ok s M1) (h : forL s tg (evalSs r b) s.len 0 σ M1 = .nx σ' M2) : evalSs r (.cons (.for_ tg it b) ss) σ M = evalSs r ss σ' M2 := by
  show ((evalIt r it σ M).st σ fun s M1 => forL s tg (evalSs r b) s.len 0 σ M1).seq (evalSs r ss) = _
  rw [hi, st_ok, h]; rfl
def turnS : Ss := match b_13 with
  | .cons _ (.cons (.for_ _ _ b) _) => b
  | _ => .nil
theorem turn_ok (n : Nat) (ns : List Int) (hl : ns.length ≤ 63) (a : Int) (h0 : 0 ≤ a) (z : Str) (hz : nmB z = true) (f : List D) (s0 s3 s4 s5 s6 s7 s8 s9 s10 s11 : Option A) (M : Mem) (hM0 : M[0]? = some (DrC ns a)) (hM1 : M[1]? = some (.lst f)) :
    ∃ (t3 t4 t5 t6 t7 t8 t9 t10 t11 : Option A) (M' : Mem) (a' : Int), 0 ≤ a' ∧ evalSs (runP fs (n + 4)) turnS [s0, some (.c 0), some (.p (.str z)), s3, s4, s5, s6, s7, s8, s9, s10, s11] M = .nx [s0, some (.c 0), some (.p (.str z)), t3, t4, t5, t6, t7, t8, t9, t10, t11] M' ∧ M'[0]? = some (DrC ns a') ∧ M'[1]? = some (.lst f) := by
  have hS : (100 : Nat) ≤ sizeLine := by decide
  -- two draws
  obtain ⟨v9, p9, q9, e9⟩ := call5 (n + 2) ns a 3 hl h0 (by decide) 0 M hM0
  obtain ⟨v10, p10, q10, e10⟩ := call5 (n + 2) ns (a + 1) 3 hl (by omega) (by decide) 0 (M.set 0 (DrC ns (a + 1))) (set_at hM0)
  rw [set_set] at e10
  generalize hA2 : a + 1 + 1 = a2 at e10
  have g2 : 0 ≤ a2 := by omega
  have m0 := set_at (c' := DrC ns a2) hM0
  have m1 := keep_set (c := DrC ns a2) hM1 (by decide)
  have hlen : 2 ≤ (M.set 0 (DrC ns a2)).length := by
    have := (List.getElem?_eq_some_iff.mp m1).1
    omega
  generalize hMM : M.set 0 (DrC ns a2) = MA at m0 m1 hlen e10
  -- the first list
  have e3 := some_new (runP fs (n + 4)) z hz s0 (some (.c 0)) s3 s4 s5 s6 s7 s8 (some (.p (.int v9))) (some (.p (.int v10))) s11 MA
  have hj : MA.length ≠ 0 := by omega
  have hj1 : MA.length ≠ 1 := by omega
  have n0 := keep_app (c := .lst (someL z)) m0
  have n1 := keep_app (c := .lst (someL z)) m1
  have nj := new_at MA (.lst (someL z))
  generalize hj' : MA.length = j at e3 nj hj hj1
  -- the spoilt names
  obtain ⟨t4, MB, a3, xs, eS, g3, b0, bj, hxs, hxl, hBl, hK⟩ := spoil_ok (n + 1) ns hl j hj (MA ++ [.lst (someL z)]) a2 g2 (someL z) z (nm_tx hz) rfl (someL_fine hz) (Nat.le_refl 5) v9.toNat (by omega) s0 (some (.p (.str z))) s4 s5 s6 s7 s8 (some (.p (.int v9))) (some (.p (.int v10))) s11 n0 nj
  have b1 : MB[1]? = some (.lst f) := by rw [hK 1 (by decide) (Ne.symm hj1)]; exact n1
  -- the road
  obtain ⟨x, y, w, a4, g4, eR⟩ := road5_ok (n + 2) ns hl a3 g3 [s0, some (.c 0), some (.p (.str z)), some (.c j), t4, s5, s6, s7, s8, some (.p (.int v9)), some (.p (.int v10)), s11] MB b0 rfl
  have c0 := set_at (c' := DrC ns a4) b0
  have c1 := keep_set (c := DrC ns a4) b1 (by decide)
  have cj := keep_set (c := DrC ns a4) bj hj
  generalize hMC : MB.set 0 (DrC ns a4) = MC at c0 c1 cj eR
  obtain ⟨d1, a5, g5, hd1, e6⟩ := put_ok (n + 1) ns hl a4 g4 5 10 v10 p10 q10 (.int x) (.int y) (.int w) [s0, some (.c 0), some (.p (.str z)), some (.c j), t4, some (.p (.tup [.int x, .int y, .int w])), s6, s7, s8, some (.p (.int v9)), some (.p (.int v10)), s11] MC c0 rfl rfl rfl
  have d0 := set_at (c' := DrC ns a5) c0
  have dd1 := keep_set (c := DrC ns a5) c1 (by decide)
  have dj := keep_set (c := DrC ns a5) cj hj
  generalize hMD : MC.set 0 (DrC ns a5) = MD at d0 dd1 dj e6
  obtain ⟨o1, o2, o3, eo, k1, k2, k3⟩ := put3_three v10 (.int x) (.int y) (.int w) d1 rfl rfl rfl (fine_good hd1)
  rw [eo] at e6
  obtain ⟨v7, p7, q7, e7⟩ := call5 (n + 2) ns a5 3 hl g5 (by decide) 0 MD d0
  have f0 := set_at (c' := DrC ns (a5 + 1)) d0
  have f1 := keep_set (c := DrC ns (a5 + 1)) dd1 (by decide)
  have fj := keep_set (c := DrC ns (a5 + 1)) dj hj
  generalize hME : MD.set 0 (DrC ns (a5 + 1)) = ME at f0 f1 fj e7
  obtain ⟨d2, a6, g6, hd2, e8⟩ := put_ok (n + 1) ns hl (a5 + 1) (by omega) 6 7 v7 p7 q7 o1 o2 o3 [s0, some (.c 0), some (.p (.str z)), some (.c j), t4, some (.p (.tup [.int x, .int y, .int w])), some (.p (.tup [o1, o2, o3])), some (.p (.int v7)), s8, some (.p (.int v9)), some (.p (.int v10)), s11] ME f0 rfl rfl rfl
  have h00 := set_at (c' := DrC ns a6) f0
  have h01 := keep_set (c := DrC ns a6) f1 (by decide)
  have h0j := keep_set (c := DrC ns a6) fj hj
  generalize hMF : ME.set 0 (DrC ns a6) = MF at h00 h01 h0j e8
  obtain ⟨u1, u2, u3, eu, l1, l2, l3⟩ := put3_three v7 o1 o2 o3 d2 k1 k2 k3 (fine_good hd2)
  rw [eu] at e8
  -- the second list
  have e3b := roadL_ok (runP fs (n + 4)) x y w [o1, o2, o3] [u1, u2, u3] s0 (some (.c 0)) (some (.p (.str z))) (some (.c j)) t4 (some (.p (.int v7))) (some (.p (.int v9))) (some (.p (.int v10))) s11 MF
  have r1 : (roadL x y w [o1, o2, o3] [u1, u2, u3]).length = 8 := rfl
  have e3c := bin_addc (ys := roadL x y w [o1, o2, o3] [u1, u2, u3]) h0j (by omega)
  have hys : (xs ++ roadL x y w [o1, o2, o3] [u1, u2, u3]).all fine = true := by
    rw [List.all_append, hxs, roadL_fine x y w _ _ (three_fine k1 k2 k3) (three_fine l1 l2 l3)]; rfl
  have hyl : (xs ++ roadL x y w [o1, o2, o3] [u1, u2, u3]).length ≤ 15 := by rw [List.length_append]; omega
  have i0 := keep_app (c := .lst (xs ++ roadL x y w [o1, o2, o3] [u1, u2, u3])) h00
  have i1 := keep_app (c := .lst (xs ++ roadL x y w [o1, o2, o3] [u1, u2, u3])) h01
  have ij := new_at MF (.lst (xs ++ roadL x y w [o1, o2, o3] [u1, u2, u3]))
  have hj2 : MF.length ≠ 0 := by
    have := (List.getElem?_eq_some_iff.mp h00).1
    omega
  generalize hys' : xs ++ roadL x y w [o1, o2, o3] [u1, u2, u3] = ys at e3c hys hyl i0 i1 ij
  generalize hj2' : MF.length = j2 at e3c ij hj2
  -- the third list
  obtain ⟨d3, kvs, a7, g7, hd3, e3d⟩ := endL_ok (n + 1) ns hl a6 g6 z x y w s0 (some (.c j2)) t4 (some (.p (.tup [o1, o2, o3]))) (some (.p (.int v7))) (some (.p (.tup [u1, u2, u3]))) (some (.p (.int v9))) (some (.p (.int v10))) s11 (MF ++ [.lst ys]) i0
  have x0 := set_at (c' := DrC ns a7) i0
  have x1 := keep_set (c := DrC ns a7) i1 (by decide)
  have xj := keep_set (c := DrC ns a7) ij hj2
  generalize hMG : (MF ++ [C.lst ys]).set 0 (DrC ns a7) = MG at x0 x1 xj e3d
  have r2 : (endL d3 x (.dic kvs)).length = 8 := rfl
  have e3e := bin_addc (ys := endL d3 x (.dic kvs)) xj (by omega)
  have hzs : (ys ++ endL d3 x (.dic kvs)).all fine = true := by
    rw [List.all_append, hys, endL_fine d3 x kvs hd3]; rfl
  have hzl : (ys ++ endL d3 x (.dic kvs)).length ≤ 23 := by rw [List.length_append]; omega
  have w0 := keep_app (c := .lst (ys ++ endL d3 x (.dic kvs))) x0
  have w1 := keep_app (c := .lst (ys ++ endL d3 x (.dic kvs))) x1
  have wj := new_at MG (.lst (ys ++ endL d3 x (.dic kvs)))
  generalize hzs' : ys ++ endL d3 x (.dic kvs) = zs at e3e hzs hzl w0 w1 wj
  -- the check
  have eC := check_ok n MG.length zs hzs (by omega) s0 (some (.c 0)) (some (.p (.str z))) t4 (some (.p (.tup [.int x, .int y, .int w]))) (some (.p (.tup [o1, o2, o3]))) (some (.p (.int v7))) (some (.p (.tup [u1, u2, u3]))) (some (.p (.int v9))) (some (.p (.int v10))) s11 (MG ++ [.lst zs]) wj
  refine ⟨some (.c MG.length), t4, some (.p (.tup [.int x, .int y, .int w])), some (.p (.tup [o1, o2, o3])), some (.p (.int v7)), some (.p (.tup [u1, u2, u3])), some (.p (.int v9)), some (.p (.int v10)), s11, MG ++ [.lst zs], a7, g7, ?_, w0, w1⟩
  unfold turnS b_13
  dsimp only
  refine (go_par (as := [.p (.int v9), .p (.int v10)]) (es_cons ((e_call (es_cons (e_v rfl) (es_cons rfl es_nil))).trans e9) (es_cons ((e_call (es_cons (e_v rfl) (es_cons rfl es_nil))).trans e10) es_nil)) rfl).trans ?_
  refine (go_asg e3 rfl).trans ?_
  have hr : (rngL 0 v9.toNat).length = v9.toNat := by unfold rngL; rw [List.length_map, List.length_range]
  have eit : evalIt (runP fs (n + 4)) (.rng1 (.v 9)) [s0, some (.c 0), some (.p (.str z)), some (.c j), s4, s5, s6, s7, s8, some (.p (.int v9)), some (.p (.int v10)), s11] (MA ++ [.lst (someL z)]) = .ok (.fx (rngL 0 v9.toNat)) (MA ++ [.lst (someL z)]) := by
    show rng1S (.p (.int v9)) _ = _
    unfold rng1S
    dsimp only
    rw [if_pos ⟨by omega, by omega⟩]
  refine (go_for eit (by show forL _ _ _ (rngL 0 v9.toNat).length 0 _ _ = _; rw [hr]; exact eS)).trans ?_
  refine (go_asg eR rfl).trans ?_
  refine (go_asg e6 rfl).trans ?_
  refine (go_asg ((e_call (es_cons (e_v rfl) (es_cons rfl es_nil))).trans e7) rfl).trans ?_
  refine (go_asg e8 rfl).trans ?_
  refine (go_asg ((e_bin (e_v rfl) e3b).trans e3c) rfl).trans ?_
  refine (go_asg ((e_bin (e_v rfl) e3d).trans e3e) rfl).trans ?_
  have eN : (evalE (runP fs (n + 4)) (.cmp .ne (.comp false [11] (.nm 11) (.e (.v 3)) (.cons (.nt (.call 12 .loc (.cons (.v 11) .nil) [])) .nil) (.v 11)) (.lst false .nil)) [s0, some (.c 0), some (.p (.str z)), some (.c MG.length), t4, some (.p (.tup [.int x, .int y, .int w])), some (.p (.tup [o1, o2, o3])), some (.p (.int v7)), some (.p (.tup [u1, u2, u3])), some (.p (.int v9)), some (.p (.int v10)), s11] (MG ++ [.lst zs])).bind truR = .ok false (MG ++ [.lst zs]) := by
    rw [e_cmp eC (show evalE _ (.lst false .nil) _ _ = .ok (.p (.lst [])) _ from rfl), cmpA_ne_nil (k := 0) (xs := []) (by decide) rfl]
    rfl
  refine (go_if eN).trans ?_
  rw [if_neg (by decide)]
  rfl
end Law_k01

set_option maxHeartbeats 4000000
namespace Law_k01
open Fz PySem
theorem go_ex {r : Fz.Run} {e : E} {σ : Env'} {M M1 : Mem} {a : A} {ss : Ss} (h : evalE r e σ M = .ok a M1) : evalSs r (.cons (.ex e) ss) σ M = evalSs r ss σ M1 := by
  show ((evalE r e σ M).st σ fun _ M1 => SR.nx σ M1).seq (evalSs r ss) = _
  rw [h]; rfl
theorem law_ok (ns : List Int) (hl : ns.length ≤ 63) : ∃ M, runP fs 12 13 [.p (.lst (ns.map D.int))] [] = .ok (.p (.bl true)) M := by
  obtain ⟨many, hm, eM⟩ : ∃ many : Nat, many ≤ 10 ∧ evalE (runP fs 11) (.bi .max2 false (.cons (.ci (4)) (.cons (.bi .min2 false (.cons (.ci (10)) (.cons (.bi .len false (.cons (.v 0) .nil)) .nil))) .nil))) [some (.p (.lst (ns.map D.int))), some (.c 0), none, none, none, none, none, none, none, none, none, none] [DrC ns 0] = .ok (.p (.int (many : Int))) [DrC ns 0] := by
    have e1 : evalE (runP fs 11) (.bi .max2 false (.cons (.ci (4)) (.cons (.bi .min2 false (.cons (.ci (10)) (.cons (.bi .len false (.cons (.v 0) .nil)) .nil))) .nil))) [some (.p (.lst (ns.map D.int))), some (.c 0), none, none, none, none, none, none, none, none, none, none] [DrC ns 0] = .ok (.p (.int (if (if ((ns.map D.int).length : Int) < 10 then ((ns.map D.int).length : Int) else 10) > 4 then (if ((ns.map D.int).length : Int) < 10 then ((ns.map D.int).length : Int) else 10) else 4))) [DrC ns 0] := rfl
    refine ⟨((if (if ((ns.map D.int).length : Int) < 10 then ((ns.map D.int).length : Int) else 10) > 4 then (if ((ns.map D.int).length : Int) < 10 then ((ns.map D.int).length : Int) else 10) else 4)).toNat, ?_, e1.trans ?_⟩
    · split <;> split <;> omega
    · congr 3
      split <;> split <;> omega
  obtain ⟨f, a1, g1, hf, hfl, e6⟩ := call6 8 ns 0 hl (by omega) many hm 0 [DrC ns 0] rfl
  have hS : (100 : Nat) ≤ sizeLine := by decide
  have eit : evalIt (runP fs 11) (.e (.call 6 .loc (.cons (.v 1) (.cons (.bi .max2 false (.cons (.ci (4)) (.cons (.bi .min2 false (.cons (.ci (10)) (.cons (.bi .len false (.cons (.v 0) .nil)) .nil))) .nil))) .nil)) [])) [some (.p (.lst (ns.map D.int))), some (.c 0), none, none, none, none, none, none, none, none, none, none] [DrC ns 0] = .ok (.ce 1 f.length) [DrC ns a1, .lst (f.map D.str)] := by
    show (evalE (runP fs 11) (.call 6 .loc (.cons (.v 1) (.cons (.bi .max2 false (.cons (.ci (4)) (.cons (.bi .min2 false (.cons (.ci (10)) (.cons (.bi .len false (.cons (.v 0) .nil)) .nil))) .nil))) .nil)) []) _ _).bind itA = _
    rw [(e_call (es_cons (e_v rfl) (es_cons eM es_nil))).trans e6]
    show itA (.c 1) [DrC ns a1, .lst (f.map D.str)] = _
    show Res.ok (Src.ce 1 (f.map D.str).length) _ = _
    rw [List.length_map]
  obtain ⟨σ', M', eF, b, t2, t3, t4, t5, t6, t7, t8, t9, t10, t11, gb, hσ, hM0, hM1⟩ := forL_inv (s := .ce 1 f.length) (tg := .nm 2) (body := evalSs (runP fs 11) turnS) (as := f.map fun z => A.p (.str z))
    (fun k σ M => ∃ (b : Int) (t2 t3 t4 t5 t6 t7 t8 t9 t10 t11 : Option A), 0 ≤ b ∧ σ = [some (.p (.lst (ns.map D.int))), some (.c 0), t2, t3, t4, t5, t6, t7, t8, t9, t10, t11] ∧ M[0]? = some (DrC ns b) ∧ M[1]? = some (.lst (f.map D.str)))
    (fun k σ M ⟨b, t2, t3, t4, t5, t6, t7, t8, t9, t10, t11, gb, hσ, hM0, hM1⟩ => by
      show (match M[1]? with
        | some (.lst ys) => if ys.length = f.length then some (ys[k]?.map A.p) else none
        | some (.lsa ys) => if ys.length = f.length then some ys[k]? else none
        | _ => none) = _
      rw [hM1]
      dsimp only
      rw [if_pos (by rw [List.length_map]), List.getElem?_map, List.getElem?_map, Option.map_map]
      rfl)
    (fun k x σ M hk ⟨b, t2, t3, t4, t5, t6, t7, t8, t9, t10, t11, gb, hσ, hM0, hM1⟩ => by
      subst hσ
      obtain ⟨z, hz, rfl⟩ := List.mem_map.mp (List.mem_of_getElem? hk)
      obtain ⟨u3, u4, u5, u6, u7, u8, u9, u10, u11, M2, b2, gb2, eT, m0, m1⟩ := turn_ok 7 ns hl b gb z (List.all_eq_true.mp hf z hz) (f.map D.str) (some (.p (.lst (ns.map D.int)))) t3 t4 t5 t6 t7 t8 t9 t10 t11 M hM0 hM1
      exact ⟨_, _, M2, rfl, .inl eT, b2, some (.p (.str z)), u3, u4, u5, u6, u7, u8, u9, u10, u11, gb2, rfl, m0, m1⟩) f.length 0 [some (.p (.lst (ns.map D.int))), some (.c 0), none, none, none, none, none, none, none, none, none, none] [DrC ns a1, .lst (f.map D.str)] (by rw [List.length_map]; omega) ⟨a1, none, none, none, none, none, none, none, none, none, none, g1, rfl, rfl, rfl⟩
  subst hσ
  refine ⟨M', runP_ret (f := f_13) rfl rfl ?_⟩
  show evalSs (runP fs 11) b_13 [some (.p (.lst (ns.map D.int))), none, none, none, none, none, none, none, none, none, none, none] [] = _
  unfold b_13
  have ed : evalE (runP fs 11) (.lst true (.cons (.v 0) (.cons (.ci (0)) .nil))) [some (.p (.lst (ns.map D.int))), none, none, none, none, none, none, none, none, none, none, none] [] = .ok (.c 0) [DrC ns 0] := rfl
  exact (go_asg ed rfl).trans ((go_for eit eF).trans (go_ret rfl))
end Law_k01
namespace PySem.Challenge
end PySem.Challenge

set_option maxHeartbeats 0 in
theorem PySem.Challenge.cw_waysheld_k01_names_places_and_roads_holds : PySem.Challenge.rw_waysheld_k01_names_places_and_roads.Holds := by
  exact Law_k01.end_ Law_k01.law_ok
