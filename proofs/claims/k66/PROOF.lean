import PyProof.Rows.All
import HandS.ForMost
import HandS.Exc
import HandS.TryMany
import HandS.Lambda
import HandS.Defaults
import HandS.HeadHook4
import HandS.HeadWalk
import HandS.Wide
import HandS.CallSlots
import HandS.Style
import HandS.TupAny
import HandS.TupMul
import HandS.IsInst
import HandS.Deep
import HandS.ExcOwn
import KE.KExcSuper
import HandS.ExcInit
import HandS.Nested
import HandS.ExcField
import HandS.Property
import HandS.HeadHook1
import HandS.Star
import HandS.Conv
import HandS.Head0
import HandS.Head1
import HandS.Head2
import PySem.Challenge.RW_poolupto_k66_sums_cuts_and_shares_of_cre
section
set_option Elab.async false
set_option linter.all false
set_option maxRecDepth 100000
namespace Z
open PySem PySem.Spec PyProof.Rows
open L2

/-! data, the store of mutable things, results -/
inductive D where
  | non | bl (b : Bool) | int (i : Int) | str (s : Str) | ty (n : String)
  | tup (l : List D) | lst (l : List D) | rol (l : List D)
  | obj (c : Str) (ks : List Str) (vs : List D)
  | cell (n : Nat)
inductive MO where
  | lst (l : List D)
  | obj (c : Str) (ks : List Str) (vs : List D)
abbrev Store := List (Option MO)
abbrev DEnv := List (Option D)
inductive Res (α : Type) where
  | ok (a : α) (S : Store)
  | exc (c : Str) (ks : List Str) (ps : List D) (S : Store)
  | bad
def Res.bind {α β : Type} : Res α → (α → Store → Res β) → Res β
  | .ok a S, f => f a S
  | .exc c ks ps S, _ => .exc c ks ps S
  | .bad, _ => .bad
inductive SRes where
  | nx (e : DEnv) (S : Store) | ret (d : D) (S : Store) | brk (e : DEnv) (S : Store) | cnt (e : DEnv) (S : Store)
  | exc (e : DEnv) (c : Str) (ks : List Str) (ps : List D) (S : Store)
  | bad
abbrev RF (α : Type) := DEnv → Store → Res α
abbrev EF := RF D
abbrev SF := DEnv → Store → SRes
abbrev DF := List D → Store → Res D

/-! ghost state: where cells stand, what is frozen -/
structure GS where
  ρ : Nat → Option Addr
  F : Hp
  P : Hp
structure GS.le0 (G G' : GS) : Prop where
  ρ : ∀ n a, G.ρ n = some a → G'.ρ n = some a
  F : ∀ b o, G.F b = some o → G'.F b = some o
structure GS.le (G G' : GS) : Prop extends GS.le0 G G' where
  P : ∀ b o, G.P b = some o → G'.P b = some o
theorem GS.le.refl (G : GS) : G.le G := ⟨⟨fun _ _ h => h, fun _ _ h => h⟩, fun _ _ h => h⟩
theorem GS.le.trans {G G1 G2 : GS} (a : G.le G1) (b : G1.le G2) : G.le G2 := ⟨⟨fun n x h => b.ρ n x (a.ρ n x h), fun n x h => b.F n x (a.F n x h)⟩, fun n x h => b.P n x (a.P n x h)⟩

mutual
def Rep (K : PySem.W.Frag) (G : GS) : V → D → Prop
  | v, .non => v = .non
  | v, .bl b => v = .bl b
  | v, .int i => v = .int i
  | v, .str s => v = .str s
  | v, .ty n => v = .ty n
  | v, .tup l => ∃ a xs, v = .ref a ∧ SqT K G.F a xs ∧ RepL K G xs l
  | v, .lst l => ∃ a xs, v = .ref a ∧ G.F a = some (.lst xs) ∧ RepL K G xs l
  | v, .rol l => ∃ a xs, v = .ref a ∧ SqL K G.F a xs ∧ RepL K G xs l
  | v, .obj c ks vs => ∃ a dx xs, v = .ref a ∧ G.F a = some (.ins (He.ga K c) dx (ks.zip xs)) ∧ ks.length = xs.length ∧ RepL K G xs vs
  | v, .cell n => ∃ a, v = .ref a ∧ G.ρ n = some a
def RepL (K : PySem.W.Frag) (G : GS) : List V → List D → Prop
  | xs, [] => xs = []
  | xs, d :: ds => ∃ x r, xs = x :: r ∧ Rep K G x d ∧ RepL K G r ds
end
theorem sqT_up {K : PySem.W.Frag} {H H' : Hp} (h : ∀ b o, H b = some o → H' b = some o) {a : Addr} {xs : List V} (s : SqT K H a xs) : SqT K H' a xs :=
  s.imp (fun z => z.imp (h _ _) fun ⟨o, z⟩ => ⟨o, h _ _ z⟩) id
theorem sqL_up {K : PySem.W.Frag} {H H' : Hp} (h : ∀ b o, H b = some o → H' b = some o) {a : Addr} {xs : List V} (s : SqL K H a xs) : SqL K H' a xs :=
  s.imp (fun z => z.imp (h _ _) fun ⟨o, z⟩ => ⟨o, h _ _ z⟩) id
mutual
theorem Rep.up0 {K : PySem.W.Frag} {G G' : GS} (h : G.le0 G') : ∀ {d : D} {v : V}, Rep K G v d → Rep K G' v d
  | .non, _, r => r
  | .bl _, _, r => r
  | .int _, _, r => r
  | .str _, _, r => r
  | .ty _, _, r => r
  | .tup l, _, ⟨a, xs, e, s, r⟩ => ⟨a, xs, e, sqT_up h.F s, RepL.up0 h r⟩
  | .lst l, _, ⟨a, xs, e, s, r⟩ => ⟨a, xs, e, h.F _ _ s, RepL.up0 h r⟩
  | .rol l, _, ⟨a, xs, e, s, r⟩ => ⟨a, xs, e, sqL_up h.F s, RepL.up0 h r⟩
  | .obj c ks vs, _, ⟨a, dx, xs, e, s, z, r⟩ => ⟨a, dx, xs, e, h.F _ _ s, z, RepL.up0 h r⟩
  | .cell n, _, ⟨a, e, r⟩ => ⟨a, e, h.ρ _ _ r⟩
theorem RepL.up0 {K : PySem.W.Frag} {G G' : GS} (h : G.le0 G') : ∀ {l : List D} {xs : List V}, RepL K G xs l → RepL K G' xs l
  | [], _, r => r
  | d :: ds, _, ⟨x, r, e, a, b⟩ => ⟨x, r, e, Rep.up0 h a, RepL.up0 h b⟩
end
theorem Rep.up {K : PySem.W.Frag} {G G' : GS} (h : G.le G') {d : D} {v : V} (r : Rep K G v d) : Rep K G' v d := Rep.up0 h.tole0 r
theorem RepL.up {K : PySem.W.Frag} {G G' : GS} (h : G.le G') {d : List D} {v : List V} (r : RepL K G v d) : RepL K G' v d := RepL.up0 h.tole0 r
theorem RepL.len {K : PySem.W.Frag} {G : GS} : ∀ {l : List D} {xs : List V}, RepL K G xs l → xs.length = l.length
  | [], _, r => by rw [show _ = _ from r]; rfl
  | d :: ds, _, ⟨x, r, e, a, b⟩ => by rw [e, List.length_cons, List.length_cons, b.len]
theorem RepL.get {K : PySem.W.Frag} {G : GS} : ∀ {l : List D} {xs : List V} {i : Nat} {d : D}, RepL K G xs l → l[i]? = some d → ∃ x, xs[i]? = some x ∧ Rep K G x d
  | [], _, i, _, _, h => by simp at h
  | d :: ds, _, 0, _, ⟨x, r, e, a, b⟩, h => by
    simp at h
    subst h e
    exact ⟨x, by simp, a⟩
  | d :: ds, _, i + 1, _, ⟨x, r, e, a, b⟩, h => by
    subst e
    obtain ⟨y, h1, h2⟩ := RepL.get (i := i) b (by simpa using h)
    exact ⟨y, by simpa using h1, h2⟩
theorem RepL.snoc {K : PySem.W.Frag} {G : GS} {x : V} {d : D} (h : Rep K G x d) : ∀ {l : List D} {xs : List V}, RepL K G xs l → RepL K G (xs ++ [x]) (l ++ [d])
  | [], _, r => by
    rw [show _ = _ from r]
    exact ⟨x, [], rfl, h, rfl⟩
  | e :: ds, _, ⟨y, r, q, a, b⟩ => by
    subst q
    exact ⟨y, r ++ [x], rfl, a, RepL.snoc h b⟩
theorem RepL.app {K : PySem.W.Frag} {G : GS} {l2 : List D} {ys : List V} (h : RepL K G ys l2) : ∀ {l : List D} {xs : List V}, RepL K G xs l → RepL K G (xs ++ ys) (l ++ l2)
  | [], _, r => by
    rw [show _ = _ from r]
    exact h
  | e :: ds, _, ⟨y, r, q, a, b⟩ => by
    subst q
    exact ⟨y, r ++ ys, rfl, a, RepL.app h b⟩
theorem RepL.set {K : PySem.W.Frag} {G : GS} {x : V} {d : D} (h : Rep K G x d) : ∀ {l : List D} {xs : List V} {i : Nat}, RepL K G xs l → RepL K G (xs.set i x) (l.set i d)
  | [], _, i, r => by
    rw [show _ = _ from r]
    exact rfl
  | e :: ds, _, 0, ⟨y, r, q, a, b⟩ => by
    subst q
    exact ⟨x, r, rfl, h, b⟩
  | e :: ds, _, i + 1, ⟨y, r, q, a, b⟩ => by
    subst q
    exact ⟨y, r.set i x, rfl, a, RepL.set h b⟩
theorem RepL.take {K : PySem.W.Frag} {G : GS} : ∀ {l : List D} {xs : List V} (n : Nat), RepL K G xs l → RepL K G (xs.take n) (l.take n)
  | [], _, n, r => by
    rw [show _ = _ from r]
    simp [RepL]
  | e :: ds, _, 0, ⟨y, r, q, a, b⟩ => rfl
  | e :: ds, _, n + 1, ⟨y, r, q, a, b⟩ => by
    subst q
    exact ⟨y, r.take n, rfl, a, RepL.take n b⟩
theorem RepL.drop {K : PySem.W.Frag} {G : GS} : ∀ {l : List D} {xs : List V} (n : Nat), RepL K G xs l → RepL K G (xs.drop n) (l.drop n)
  | [], _, n, r => by
    rw [show _ = _ from r]
    simp [RepL]
  | e :: ds, _, 0, r => r
  | e :: ds, _, n + 1, ⟨y, r, q, a, b⟩ => by
    subst q
    exact RepL.drop n b
theorem RepL.dropLast {K : PySem.W.Frag} {G : GS} {l : List D} {xs : List V} (r : RepL K G xs l) : RepL K G xs.dropLast l.dropLast := by
  rw [List.dropLast_eq_take, List.dropLast_eq_take, r.len]
  exact r.take _

/-! the relation between a store and a heap -/
def MR (K : PySem.W.Frag) (G : GS) (H : Hp) (a : Addr) : MO → Prop
  | .lst l => ∃ xs, H a = some (.lst xs) ∧ RepL K G xs l
  | .obj c ks vs => ∃ dx xs, H a = some (.ins (He.ga K c) dx (ks.zip xs)) ∧ ks.length = xs.length ∧ RepL K G xs vs
abbrev Tbl := List (Addr × Str)
structure SR (K : PySem.W.Frag) (T : Tbl) (G : GS) (S : Store) (H : Hp) : Prop where
  sub : ∀ b o, G.F b = some o → H b = some o
  pin : ∀ b o, G.P b = some o → H b = some o ∧ G.F b = none
  cell : ∀ (n : Nat) m, S[n]? = some (some m) → ∃ a, G.ρ n = some a ∧ (G.F a = none ∧ G.P a = none) ∧ MR K G H a m
  new : ∀ n, S.length ≤ n → G.ρ n = none
  inj : ∀ (n n' : Nat) m m' a, S[n]? = some (some m) → S[n']? = some (some m') → G.ρ n = some a → G.ρ n' = some a → n = n'
  tabs : LamX.Tabs T H
  nt : ∀ b ps, G.F b ≠ some (.tbl ps) ∧ G.P b ≠ some (.tbl ps)
theorem MR.up {K : PySem.W.Frag} {G G' : GS} {H H' : Hp} {a : Addr} {m : MO} (h : G.le0 G') (e : H' a = H a) (r : MR K G H a m) : MR K G' H' a m := by
  cases m with
  | lst l => obtain ⟨xs, h1, h2⟩ := r; exact ⟨xs, by rw [e]; exact h1, h2.up0 h⟩
  | obj c ks vs => obtain ⟨dx, xs, h1, h2, h3⟩ := r; exact ⟨dx, xs, by rw [e]; exact h1, h2, h3.up0 h⟩
theorem MR.upP {K : PySem.W.Frag} {G G' : GS} {H H' : Hp} {a : Addr} {m : MO} (h1 : ∀ n a, G.ρ n = some a → G'.ρ n = some a) (h2 : ∀ b o, G.F b = some o → G'.F b = some o) (e : H' a = H a) (r : MR K G H a m) : MR K G' H' a m := r.up ⟨h1, h2⟩ e
theorem MR.some {K : PySem.W.Frag} {G : GS} {H : Hp} {a : Addr} {m : MO} (r : MR K G H a m) : ∃ o, H a = some o := by
  cases m with
  | lst l => obtain ⟨xs, h1, h2⟩ := r; exact ⟨_, h1⟩
  | obj c ks vs => obtain ⟨dx, xs, h1, h2, h3⟩ := r; exact ⟨_, h1⟩

/-- a cell's thing is changed -/
def plainO : HO → Prop
  | .lst _ => True
  | .ins _ _ _ => True
  | _ => False
def noTbl (o : HO) : Prop := ∀ ps, o ≠ .tbl ps
theorem plainO.noTbl {o : HO} (h : plainO o) : noTbl o := fun ps z => by
  rw [z] at h
  exact h
theorem upd_nt {H : Hp} {p : Addr} {o : HO} (h : noTbl o) (n : ∀ b ps, H b ≠ some (.tbl ps)) : ∀ b ps, upd H p o b ≠ some (.tbl ps) := fun b ps z => by
  by_cases e : b = p
  · subst e
    rw [upd_same] at z
    exact h ps (Option.some.inj z)
  · rw [upd_ne e] at z
    exact n b ps z
section
variable {K : PySem.W.Frag} {T : Tbl} {G : GS} {S : Store} {H : Hp}
/-- a new frozen thing -/
def GS.frz (G : GS) (p : Addr) (o : HO) : GS := ⟨G.ρ, upd G.F p o, G.P⟩
theorem SR.free (r : SR K T G S H) {p : Addr} (hp : H p = none) : G.F p = none := by
  cases q : G.F p with
  | none => rfl
  | some o => have := r.sub p o q; rw [hp] at this; cases this
theorem SR.freeP (r : SR K T G S H) {p : Addr} (hp : H p = none) : G.P p = none := by
  cases q : G.P p with
  | none => rfl
  | some o => have := (r.pin p o q).1; rw [hp] at this; cases this
theorem GS.le_frz0 {p : Addr} {o : HO} (hp : G.F p = none) : G.le (G.frz p o) :=
  ⟨⟨fun _ _ h => h, fun b u h => by
    show upd G.F p o b = some u
    rw [upd_ne (ne_of_none h hp)]
    exact h⟩, fun _ _ h => h⟩
theorem GS.le_frz (r : SR K T G S H) {p : Addr} {o : HO} (hp : H p = none) : G.le (G.frz p o) := GS.le_frz0 (r.free hp)
theorem SR.frz (r : SR K T G S H) {p : Addr} {o : HO} (hp : H p = none) (no : noTbl o := by intro _ h; cases h) : SR K T (G.frz p o) S (upd H p o) where
  sub := fun b u h => by
    by_cases e : b = p
    · subst e
      have h : upd G.F b o b = some u := h
      rw [upd_same] at h
      rw [upd_same]
      exact h
    · have h : upd G.F p o b = some u := h
      rw [upd_ne e] at h
      rw [upd_ne e]
      exact r.sub b u h
  pin := fun b u h => by
    obtain ⟨h1, h2⟩ := r.pin b u h
    have ne : b ≠ p := ne_of_none h1 hp
    refine ⟨by rw [upd_ne ne]; exact h1, ?_⟩
    show upd G.F p o b = none
    rw [upd_ne ne]
    exact h2
  cell := fun n m h => by
    obtain ⟨a, h1, h2, h3⟩ := r.cell n m h
    obtain ⟨u, hu⟩ := h3.some
    have ne : a ≠ p := ne_of_none hu hp
    exact ⟨a, h1, ⟨by show upd G.F p o a = none; rw [upd_ne ne]; exact h2.1, h2.2⟩, h3.up (GS.le_frz r hp).tole0 (upd_ne ne)⟩
  new := r.new
  inj := r.inj
  tabs := r.tabs.ext fun b u h => by rw [upd_ne (ne_of_none h hp)]; exact h
  nt := fun b ps => ⟨upd_nt no (fun b ps => (r.nt b ps).1) b ps, (r.nt b ps).2⟩
/-- a new cell -/
def GS.cel (G : GS) (n : Nat) (p : Addr) : GS := ⟨fun m => if m = n then some p else G.ρ m, G.F, G.P⟩
theorem GS.le_cel (r : SR K T G S H) {p : Addr} : G.le (G.cel S.length p) :=
  ⟨⟨fun n a h => by
    show (if n = S.length then some p else G.ρ n) = some a
    by_cases e : n = S.length
    · rw [e, r.new S.length (Nat.le_refl _)] at h
      cases h
    · rw [if_neg e]
      exact h, fun _ _ h => h⟩, fun _ _ h => h⟩
/-- .. from a thing that stands, neither frozen nor a cell -/
theorem SR.cel0 (r : SR K T G S H) {p : Addr} {o : HO} {m : MO} (hF : G.F p = none) (hP : G.P p = none) (hC : ∀ (k : Nat) mk, S[k]? = some (some mk) → G.ρ k ≠ some p) (hH : H p = some o) (hm : MR K (G.cel S.length p) H p m) : SR K T (G.cel S.length p) (S ++ [some m]) H where
  sub := r.sub
  pin := r.pin
  cell := fun n m' h => by
    by_cases e : n < S.length
    · rw [List.getElem?_append_left e] at h
      obtain ⟨a, h1, h2, h3⟩ := r.cell n m' h
      exact ⟨a, (GS.le_cel r).ρ _ _ h1, h2, h3.up (GS.le_cel r).tole0 rfl⟩
    · have hn : n = S.length := by
        obtain ⟨hl, _⟩ := List.getElem?_eq_some_iff.mp h
        rw [List.length_append] at hl
        simp at hl
        omega
      subst hn
      rw [List.getElem?_append_right (Nat.le_refl _)] at h
      simp at h
      subst h
      exact ⟨p, if_pos rfl, ⟨hF, hP⟩, hm⟩
  new := fun n h => by
    rw [List.length_append] at h
    simp at h
    show (if n = S.length then some p else G.ρ n) = none
    rw [if_neg (by omega)]
    exact r.new n (by omega)
  inj := fun n n' m1 m2 a h1 h2 e1 e2 => by
    have key : ∀ (k : Nat) mk, (S ++ [some m])[k]? = some (some mk) → (k < S.length ∧ S[k]? = some (some mk)) ∨ k = S.length := fun k mk hk => by
      by_cases e : k < S.length
      · rw [List.getElem?_append_left e] at hk
        exact .inl ⟨e, hk⟩
      · obtain ⟨hl, _⟩ := List.getElem?_eq_some_iff.mp hk
        rw [List.length_append] at hl
        simp at hl
        exact .inr (by omega)
    have old : ∀ (k : Nat), k < S.length → (G.cel S.length p).ρ k = G.ρ k := fun k hk => if_neg (Nat.ne_of_lt hk)
    rcases key n m1 h1 with ⟨l1, g1⟩ | l1 <;> rcases key n' m2 h2 with ⟨l2, g2⟩ | l2
    · rw [old n l1] at e1
      rw [old n' l2] at e2
      exact r.inj n n' m1 m2 a g1 g2 e1 e2
    · rw [old n l1] at e1
      subst l2
      have e2 : (if S.length = S.length then some p else G.ρ S.length) = some a := e2
      rw [if_pos rfl] at e2
      cases e2
      exact absurd e1 (hC n m1 g1)
    · rw [old n' l2] at e2
      subst l1
      have e1 : (if S.length = S.length then some p else G.ρ S.length) = some a := e1
      rw [if_pos rfl] at e1
      cases e1
      exact absurd e2 (hC n' m2 g2)
    · omega
  tabs := r.tabs
  nt := r.nt
theorem SR.grow (r : SR K T G S H) {p : Addr} {o : HO} (hp : H p = none) : SR K T G S (upd H p o) where
  sub := fun b u h => by
    rw [upd_ne (ne_of_none (r.sub b u h) hp)]
    exact r.sub b u h
  pin := fun b u h => by
    obtain ⟨h1, h2⟩ := r.pin b u h
    exact ⟨by rw [upd_ne (ne_of_none h1 hp)]; exact h1, h2⟩
  cell := fun n m h => by
    obtain ⟨a, h1, h2, h3⟩ := r.cell n m h
    obtain ⟨u, hu⟩ := h3.some
    exact ⟨a, h1, h2, h3.up (GS.le.refl G).tole0 (upd_ne (ne_of_none hu hp))⟩
  new := r.new
  inj := r.inj
  tabs := r.tabs.ext fun b u h => by rw [upd_ne (ne_of_none h hp)]; exact h
  nt := r.nt
theorem SR.noCell (r : SR K T G S H) {p : Addr} (hp : H p = none) : ∀ (k : Nat) mk, S[k]? = some (some mk) → G.ρ k ≠ some p := fun k mk hk z => by
  obtain ⟨b, q1, q2, q3⟩ := r.cell k mk hk
  obtain ⟨u, hu⟩ := q3.some
  rw [z] at q1
  cases q1
  rw [hp] at hu
  cases hu
theorem SR.cel (r : SR K T G S H) {p : Addr} {o : HO} {m : MO} (hp : H p = none) (hm : MR K (G.cel S.length p) (upd H p o) p m) : SR K T (G.cel S.length p) (S ++ [some m]) (upd H p o) :=
  (r.grow hp).cel0 (r.free hp) (r.freeP hp) (r.noCell hp) upd_same hm
/-- a thing pinned -/
def GS.pinned (G : GS) (p : Addr) (o : HO) : GS := ⟨G.ρ, G.F, upd G.P p o⟩
theorem GS.le_pin {p : Addr} {o : HO} (hp : G.P p = none) : G.le (G.pinned p o) := ⟨⟨fun _ _ h => h, fun _ _ h => h⟩, fun b u h => by
  show upd G.P p o b = some u
  rw [upd_ne (ne_of_none h hp)]
  exact h⟩
theorem SR.pinNew (r : SR K T G S H) {p : Addr} {o : HO} (hp : H p = none) (no : noTbl o := by intro _ h; cases h) : SR K T (G.pinned p o) S (upd H p o) where
  sub := (r.grow hp).sub
  pin := fun b u h => by
    have h : upd G.P p o b = some u := h
    by_cases e : b = p
    · subst e
      rw [upd_same] at h
      cases h
      exact ⟨upd_same, r.free hp⟩
    · rw [upd_ne e] at h
      exact (r.grow hp).pin b u h
  cell := fun n m h => by
    obtain ⟨a, h1, h2, h3⟩ := (r.grow (o := o) hp).cell n m h
    refine ⟨a, h1, ⟨h2.1, ?_⟩, h3.upP (G := G) (G' := G.pinned p o) (fun _ _ h => h) (fun _ _ h => h) rfl⟩
    show upd G.P p o a = none
    have ne : a ≠ p := fun z => r.noCell hp n m h (by rw [← z]; exact h1)
    rw [upd_ne ne]
    exact h2.2
  new := r.new
  inj := r.inj
  tabs := (r.grow hp).tabs
  nt := fun b ps => ⟨(r.nt b ps).1, upd_nt no (fun b ps => (r.nt b ps).2) b ps⟩
theorem tabs_put {T : Tbl} {H : Hp} {a : Addr} {o o' : HO} (t : LamX.Tabs T H) (h : H a = some o) (po : plainO o) : LamX.Tabs T (upd H a o') := fun q hq => by
  obtain ⟨ps, h1, h2, h3⟩ := t q hq
  refine ⟨ps, ?_, h2, fun pos cv hc => ?_⟩
  · rw [upd_ne]
    · exact h1
    · intro z
      rw [z, h] at h1
      cases h1
      exact po
  · obtain ⟨c, e1, e2⟩ := h3 pos cv hc
    refine ⟨c, e1, ?_⟩
    rw [upd_ne]
    · exact e2
    · intro z
      rw [z, h] at e2
      have e3 := Option.some.inj e2
      unfold LamX.CodeO at e3
      subst e3
      exact po
/-- a pinned thing is changed -/
theorem SR.pinPut (r : SR K T G S H) {p : Addr} {o o' : HO} (hp : G.P p = some o) (po : plainO o) (no : noTbl o' := by intro _ h; cases h) : SR K T (G.pinned p o') S (upd H p o') where
  sub := fun b u h => by
    have ne : b ≠ p := ne_of_none h (r.pin p o hp).2
    rw [upd_ne ne]
    exact r.sub b u h
  pin := fun b u h => by
    have h : upd G.P p o' b = some u := h
    by_cases e : b = p
    · subst e
      rw [upd_same] at h
      cases h
      exact ⟨upd_same, (r.pin b o hp).2⟩
    · rw [upd_ne e] at h
      rw [upd_ne e]
      exact r.pin b u h
  cell := fun n m h => by
    obtain ⟨a, h1, h2, h3⟩ := r.cell n m h
    have ne : a ≠ p := fun z => by rw [z, hp] at h2; cases h2.2
    refine ⟨a, h1, ⟨h2.1, ?_⟩, h3.upP (G := G) (G' := G.pinned p o') (fun _ _ h => h) (fun _ _ h => h) (upd_ne ne)⟩
    show upd G.P p o' a = none
    rw [upd_ne ne]
    exact h2.2
  new := r.new
  inj := r.inj
  tabs := tabs_put r.tabs (r.pin p o hp).1 po
  nt := fun b ps => ⟨(r.nt b ps).1, upd_nt no (fun b ps => (r.nt b ps).2) b ps⟩
/-- a pinned thing let go -/
def GS.unpin (G : GS) (p : Addr) : GS := ⟨G.ρ, G.F, fun b => if b = p then none else G.P b⟩
theorem GS.le_unpin {G0 : GS} {p : Addr} (l : G0.le G) (h : G0.P p = none) : G0.le (G.unpin p) := ⟨⟨l.ρ, l.F⟩, fun b u e => by
  show (if b = p then none else G.P b) = some u
  rw [if_neg (ne_of_none e h)]
  exact l.P b u e⟩
theorem SR.unpin (r : SR K T G S H) (p : Addr) : SR K T (G.unpin p) S H where
  sub := r.sub
  pin := fun b u h => by
    have h : (if b = p then none else G.P b) = some u := h
    by_cases e : b = p
    · rw [if_pos e] at h; cases h
    · rw [if_neg e] at h
      exact r.pin b u h
  cell := fun n m h => by
    obtain ⟨a, h1, h2, h3⟩ := r.cell n m h
    refine ⟨a, h1, ⟨h2.1, ?_⟩, h3.upP (G := G) (G' := G.unpin p) (fun _ _ h => h) (fun _ _ h => h) rfl⟩
    show (if a = p then none else G.P a) = none
    rw [h2.2]
    split <;> rfl
  new := r.new
  inj := r.inj
  tabs := r.tabs
  nt := fun b ps => ⟨(r.nt b ps).1, fun z => by
    have z : (if b = p then none else G.P b) = some _ := z
    split at z
    · cases z
    · exact (r.nt b ps).2 z⟩
/-- a thing that stands is frozen -/
theorem SR.frz0 (r : SR K T G S H) {p : Addr} {o : HO} (hF : G.F p = none) (hP : G.P p = none) (hC : ∀ (k : Nat) mk, S[k]? = some (some mk) → G.ρ k ≠ some p) (hH : H p = some o) (no : noTbl o := by intro _ h; cases h) : SR K T (G.frz p o) S H where
  sub := fun b u h => by
    have h : upd G.F p o b = some u := h
    by_cases e : b = p
    · subst e
      rw [upd_same] at h
      cases h
      exact hH
    · rw [upd_ne e] at h
      exact r.sub b u h
  pin := fun b u h => by
    obtain ⟨h1, h2⟩ := r.pin b u h
    refine ⟨h1, ?_⟩
    show upd G.F p o b = none
    rw [upd_ne (ne_of_none h hP)]
    exact h2
  cell := fun n m h => by
    obtain ⟨a, h1, h2, h3⟩ := r.cell n m h
    refine ⟨a, h1, ⟨?_, h2.2⟩, h3.up (GS.le_frz0 hF).tole0 rfl⟩
    show upd G.F p o a = none
    have ne : a ≠ p := fun z => hC n m h (by rw [← z]; exact h1)
    rw [upd_ne ne]
    exact h2.1
  new := r.new
  inj := r.inj
  tabs := r.tabs
  nt := fun b ps => ⟨upd_nt no (fun b ps => (r.nt b ps).1) b ps, (r.nt b ps).2⟩
theorem SR.put (r : SR K T G S H) {n : Nat} {m m' : MO} {a : Addr} {o o' : HO} (hn : S[n]? = some (some m)) (ha : G.ρ n = some a) (ho : H a = some o) (po : plainO o) (hm : MR K G (upd H a o') a m') : SR K T G (S.set n (some m')) (upd H a o') where
  sub := fun b u h => by
    obtain ⟨a', q1, q2, _⟩ := r.cell n m hn
    rw [ha] at q1
    cases q1
    rw [upd_ne (ne_of_none h q2.1)]
    exact r.sub b u h
  pin := fun b u h => by
    obtain ⟨a', q1, q2, _⟩ := r.cell n m hn
    rw [ha] at q1
    cases q1
    rw [upd_ne (ne_of_none h q2.2)]
    exact r.pin b u h
  cell := fun k mk h => by
    by_cases e : k = n
    · subst e
      obtain ⟨a', q1, q2, _⟩ := r.cell k m hn
      rw [ha] at q1
      cases q1
      have hl := (List.getElem?_eq_some_iff.mp hn).1
      rw [List.getElem?_set_self hl] at h
      cases h
      exact ⟨a, ha, q2, hm⟩
    · rw [List.getElem?_set_ne (Ne.symm e)] at h
      obtain ⟨b, q1, q2, q3⟩ := r.cell k mk h
      refine ⟨b, q1, q2, q3.up (GS.le.refl G).tole0 (upd_ne fun z => e ?_)⟩
      subst z
      exact r.inj k n mk m b h hn q1 ha
  new := fun k h => r.new k (by simpa using h)
  inj := fun k k' m1 m2 b h1 h2 e1 e2 => by
    have key : ∀ (j : Nat) mj, (S.set n (some m'))[j]? = some (some mj) → ∃ mo, S[j]? = some (some mo) := fun j mj hj => by
      by_cases e : j = n
      · subst e
        exact ⟨m, hn⟩
      · rw [List.getElem?_set_ne (Ne.symm e)] at hj
        exact ⟨mj, hj⟩
    obtain ⟨o1, g1⟩ := key k m1 h1
    obtain ⟨o2, g2⟩ := key k' m2 h2
    exact r.inj k k' o1 o2 b g1 g2 e1 e2
  tabs := tabs_put r.tabs ho po
  nt := r.nt
/-- a cell is dropped -/
theorem SR.drop (r : SR K T G S H) (n : Nat) : SR K T G (S.set n none) H := by
  have key : ∀ (j : Nat) mj, (S.set n none)[j]? = some (some mj) → j ≠ n ∧ S[j]? = some (some mj) := fun j mj hj => by
    by_cases e : j = n
    · subst e
      by_cases hl : j < S.length
      · rw [List.getElem?_set_self hl] at hj
        cases hj
      · rw [List.getElem?_eq_none (by simpa using hl)] at hj
        cases hj
    · rw [List.getElem?_set_ne (Ne.symm e)] at hj
      exact ⟨e, hj⟩
  exact ⟨r.sub, r.pin, fun k mk h => r.cell k mk (key k mk h).2, fun k h => r.new k (by simpa using h), fun k k' m1 m2 b h1 h2 e1 e2 => r.inj k k' m1 m2 b (key k m1 h1).2 (key k' m2 h2).2 e1 e2, r.tabs, r.nt⟩
/-- a cell is frozen: no more a cell -/
theorem SR.ice (r : SR K T G S H) {n : Nat} {m : MO} {a : Addr} {o : HO} (hn : S[n]? = some (some m)) (ha : G.ρ n = some a) (ho : H a = some o) (no : noTbl o := by intro _ h; cases h) : G.le (G.frz a o) ∧ SR K T (G.frz a o) (S.set n none) H := by
  obtain ⟨a', q1, q2, _⟩ := r.cell n m hn
  rw [ha] at q1
  cases q1
  refine ⟨GS.le_frz0 q2.1, (r.drop n).frz0 q2.1 q2.2 (fun k mk hk z => ?_) ho no⟩
  by_cases e : k = n
  · subst e
    have hl := (List.getElem?_eq_some_iff.mp hn).1
    rw [List.getElem?_set_self hl] at hk
    cases hk
  · rw [List.getElem?_set_ne (Ne.symm e)] at hk
    exact e (r.inj k n mk m a hk hn z ha)
end

/-! names' values -/
structure ER (K : PySem.W.Frag) (G : GS) (σ : L2.St) (env : DEnv) : Prop where
  len : env.length ≤ σ.length
  at_ : ∀ (i : Nat) d, env[i]? = some (some d) → ∃ v, σ[i]? = some (some v) ∧ Rep K G v d
section
variable {K : PySem.W.Frag} {G G' : GS} {σ : L2.St} {env : DEnv}
theorem ER.up (h : G.le G') (r : ER K G σ env) : ER K G' σ env := ⟨r.len, fun i d e => let ⟨v, h1, h2⟩ := r.at_ i d e; ⟨v, h1, h2.up h⟩⟩
theorem ER.set (r : ER K G σ env) {i : Nat} {v : V} {d : D} (h : Rep K G v d) : ER K G (σ.set i (some v)) (env.set i (some d)) := by
  refine ⟨by simpa using r.len, fun j e hj => ?_⟩
  by_cases q : j = i
  · subst q
    have hl : j < env.length := by
      have := (List.getElem?_eq_some_iff.mp hj).1
      simpa using this
    rw [List.getElem?_set_self hl] at hj
    cases hj
    exact ⟨v, List.getElem?_set_self (Nat.lt_of_lt_of_le hl r.len), h⟩
  · rw [List.getElem?_set_ne (Ne.symm q)] at hj
    rw [List.getElem?_set_ne (Ne.symm q)]
    exact r.at_ j e hj
theorem ER.start {ps : List V} {ds : List D} (N : List Str) (h : RepL K G ps ds) : ER K G (L2.start N ps) (ds.map some ++ List.replicate (N.length - ds.length) none) := by
  refine ⟨by unfold L2.start; simp [h.len], fun i d e => ?_⟩
  unfold L2.start
  by_cases hi : i < ds.length
  · rw [List.getElem?_append_left (by simpa using hi), List.getElem?_map] at e
    cases q : ds[i]? with
    | none => rw [q] at e; cases e
    | some d' =>
      rw [q] at e
      cases e
      obtain ⟨x, h1, h2⟩ := h.get q
      refine ⟨x, ?_, h2⟩
      rw [List.getElem?_append_left (by simpa [h.len] using hi), List.getElem?_map, h1]
      rfl
  · rw [List.getElem?_append_right (by simpa using hi), List.getElem?_replicate] at e
    split at e <;> cases e
end

/-! what is wanted behind a result -/
def XRep (K : PySem.W.Frag) (G : GS) (cls : Value) (dx : Option Addr) (c : Str) (ks : List Str) (ps : List D) : Prop :=
  cls = .ref (He.ga K c) ∧ ∃ xs, ks.length = xs.length ∧ RepL K G xs ps ∧ (ks = [] ∨ ∃ d, dx = some d ∧ G.F d = some (.xd (ks.zip xs)))
theorem XRep.up {K : PySem.W.Frag} {G G' : GS} {cls : Value} {dx : Option Addr} {c : Str} {ks : List Str} {ps : List D} (h : G.le G') (r : XRep K G cls dx c ks ps) : XRep K G' cls dx c ks ps := by
  obtain ⟨e, xs, h1, h2, h3⟩ := r
  exact ⟨e, xs, h1, h2.up h, h3.imp id fun ⟨d, a, b⟩ => ⟨d, a, h.F _ _ b⟩⟩
section
variable (K : PySem.W.Frag) (T : Tbl)
def Post {α β : Type} (rel : GS → β → α → Prop) (W : XK) (G : GS) (Q : β → Hp → Prop) : Res α → Prop
  | .ok a S => ∀ b H' G', G.le G' → SR K T G' S H' → rel G' b a → Q b H'
  | .exc c ks ps S => ∀ cls dx H' G', G.le G' → SR K T G' S H' → XRep K G' cls dx c ks ps → W cls dx H'
  | .bad => False
def tG {α β : Type} (rel : GS → β → α → Prop) (W : WX) (f : RF α) : L2.St → Hp → (β → Hp → Prop) → Prop := fun σ H Q =>
  ∃ env G S, SR K T G S H ∧ ER K G σ env ∧ Post K T rel (fun c d H' => W c d σ H') G Q (f env S)
def PostS (W : WX) (G : GS) (D : Ends) : SRes → Prop
  | .nx e S => ∀ σ' H' G', G.le G' → SR K T G' S H' → ER K G' σ' e → D.nx σ' H'
  | .brk e S => ∀ σ' H' G', G.le G' → SR K T G' S H' → ER K G' σ' e → D.bk σ' H'
  | .cnt e S => ∀ σ' H' G', G.le G' → SR K T G' S H' → ER K G' σ' e → D.ct σ' H'
  | .ret d S => ∀ v H' G', G.le G' → SR K T G' S H' → Rep K G' v d → D.rt v H'
  | .exc e c ks ps S => ∀ cls dx σ' H' G', G.le G' → SR K T G' S H' → ER K G' σ' e → XRep K G' cls dx c ks ps → W cls dx σ' H'
  | .bad => False
def tS (W : WX) (f : SF) : TS := fun D σ H => ∃ env G S, SR K T G S H ∧ ER K G σ env ∧ PostS K T W G D (f env S)
end
def relB : GS → Bool → Bool → Prop := fun _ b a => b = a
/-- judgements: expression, test, arguments, statement, block -/
abbrev SE (X : Cx) (T : Tbl) (W : WX) (e : Expr) (f : EF) : Prop := PE X e (tG X.K T (Rep X.K) W f)
abbrev ST (X : Cx) (T : Tbl) (W : WX) (e : Expr) (f : RF Bool) : Prop := PT X e (tG X.K T relB W f)
abbrev SW (X : Cx) (T : Tbl) (W : WX) (e : Expr) (f : RF Bool) : Prop := PW X e (tG X.K T relB W f)
abbrev SA (X : Cx) (T : Tbl) (W : WX) (es : List Expr) (f : RF (List D)) : Prop := PA X es (tG X.K T (RepL X.K) W f)
abbrev SS (X : Cx) (T : Tbl) (W : WX) (st : Stmt) (f : SF) : Prop := PS X st (tS X.K T W f)
abbrev SSs (X : Cx) (T : Tbl) (W : WX) (st : List Stmt) (f : SF) : Prop := PSs X st (tS X.K T W f)
section
variable {X : Cx} {e : Expr}
theorem PE.imp {t t' : TE} (h : PE X e t) (i : ∀ σ H Q, t' σ H Q → t σ H Q) : PE X e t' := ⟨fun pins s σ H Q I q => h.run pins s σ H Q I (i σ H Q q)⟩
theorem PT.imp {t t' : TT} (h : PT X e t) (i : ∀ σ H Q, t' σ H Q → t σ H Q) : PT X e t' := ⟨fun pins s σ H Q I q => h.run pins s σ H Q I (i σ H Q q)⟩
theorem PW.imp {t t' : TT} (h : PW X e t) (i : ∀ σ H Q, t' σ H Q → t σ H Q) : PW X e t' := ⟨fun wh pins s σ H Q I q => h.run wh pins s σ H Q I (i σ H Q q)⟩
theorem PA.imp {es : List Expr} {t t' : TA} (h : PA X es t) (i : ∀ σ H Q, t' σ H Q → t σ H Q) : PA X es t' := ⟨fun pos pins s σ H Q I q => h.run pos pins s σ H Q I (i σ H Q q)⟩
theorem PS.imp {st : Stmt} {t t' : TS} (h : PS X st t) (i : ∀ D σ H, t' D σ H → t D σ H) : PS X st t' := ⟨fun pins s σ H D I q => h.run pins s σ H D I (i D σ H q)⟩
theorem PSs.imp {st : List Stmt} {t t' : TS} (h : PSs X st t) (i : ∀ D σ H, t' D σ H → t D σ H) : PSs X st t' := ⟨fun pins s σ H D I q => h.run pins s σ H D I (i D σ H q)⟩
end
section
variable {K : PySem.W.Frag} {T : Tbl} {α β γ δ : Type} {rel : GS → β → α → Prop} {rel' : GS → δ → γ → Prop} {W : WX} {W' : XK} {G G' : GS} {S : Store} {H : Hp} {σ : L2.St} {env : DEnv} {Q Q' : β → Hp → Prop} {R : δ → Hp → Prop}
theorem Post.up (h : G.le G') : ∀ {r : Res α}, Post K T rel W' G Q r → Post K T rel W' G' Q r
  | .ok a S, p => fun b H' G2 l s r => p b H' G2 (h.trans l) s r
  | .exc c ks ps S, p => fun cls dx H' G2 l s r => p cls dx H' G2 (h.trans l) s r
  | .bad, p => p
theorem Post.mono (h : ∀ b H, Q b H → Q' b H) : ∀ {r : Res α}, Post K T rel W' G Q r → Post K T rel W' G Q' r
  | .ok a S, p => fun b H' G2 l s r => h _ _ (p b H' G2 l s r)
  | .exc c ks ps S, p => p
  | .bad, p => p
theorem PostS.up {D : Ends} (h : G.le G') : ∀ {r : SRes}, PostS K T W G D r → PostS K T W G' D r
  | .nx _ _, p => fun a b G2 l s r => p a b G2 (h.trans l) s r
  | .brk _ _, p => fun a b G2 l s r => p a b G2 (h.trans l) s r
  | .cnt _ _, p => fun a b G2 l s r => p a b G2 (h.trans l) s r
  | .ret _ _, p => fun a b G2 l s r => p a b G2 (h.trans l) s r
  | .exc _ c ks ps S, p => fun cls dx a b G2 l s r => p cls dx a b G2 (h.trans l) s r
  | .bad, p => p
/-- the state as it is known at a point -/
structure At (K : PySem.W.Frag) (T : Tbl) (σ : L2.St) (env : DEnv) (G : GS) (S : Store) (H : Hp) : Prop where
  s : SR K T G S H
  e : ER K G σ env
theorem tG.mk {f : RF α} (A : At K T σ env G S H) (p : Post K T rel (fun c d H' => W c d σ H') G Q (f env S)) : tG K T rel W f σ H Q := ⟨env, G, S, A.s, A.e, p⟩
theorem tG.mono {f : RF α} (h : ∀ b H, Q b H → Q' b H) (t : tG K T rel W f σ H Q) : tG K T rel W f σ H Q' := by
  obtain ⟨env, G, S, s, e, p⟩ := t
  exact ⟨env, G, S, s, e, p.mono h⟩
/-- the first of two: what stands behind it -/
theorem chain {f : RF γ} {k : γ → Store → Res α} {Q' : δ → Hp → Prop} (A : At K T σ env G S H) (p : Post K T rel (fun c d H' => W c d σ H') G Q ((f env S).bind k))
    (h : ∀ v H' d S' G', G.le G' → At K T σ env G' S' H' → rel' G' v d → Post K T rel (fun c d H' => W c d σ H') G' Q (k d S') → Q' v H') : tG K T rel' W f σ H Q' := by
  refine tG.mk A ?_
  cases q : f env S with
  | ok d S' =>
    rw [q] at p
    exact fun v H' G' l s r => h v H' d S' G' l ⟨s, A.e.up l⟩ r (p.up l)
  | exc c ks ps S' =>
    rw [q] at p
    exact p
  | bad =>
    rw [q] at p
    exact p
theorem At.up (A : At K T σ env G S H) {S' : Store} {H' : Hp} (l : G.le G') (s : SR K T G' S' H') : At K T σ env G' S' H' := ⟨s, A.e.up l⟩
/-- the end of a reading -/
theorem Post.fin {a : α} {b : β} (p : Post K T rel W' G Q (.ok a S)) (s : SR K T G S H) (r : rel G b a) : Q b H := p b H G (GS.le.refl G) s r
end
end Z
end
section
set_option Elab.async false
set_option linter.all false
set_option maxRecDepth 100000
namespace Z
open PySem PySem.Spec PyProof.Rows
open L2
abbrev lineN : Nat := 16777216
theorem lineN_eq : sizeLine = lineN := sizeLine_eq

/-! reading sequences -/
def rd (S : Store) : D → Option (Bool × List D)
  | .tup l => some (true, l)
  | .lst l => some (false, l)
  | .rol l => some (false, l)
  | .cell n => match S[n]? with
    | some (some (.lst l)) => some (false, l)
    | _ => none
  | _ => none
/-- a tracked list -/
def trk (S : Store) : D → Option (List D)
  | .lst l => some l
  | .cell n => match S[n]? with
    | some (some (.lst l)) => some l
    | _ => none
  | _ => none
section
variable {K : PySem.W.Frag} {T : Tbl} {G : GS} {S : Store} {H : Hp} {v : V} {d : D} {l : List D}
theorem SR.lstAt (s : SR K T G S H) {n : Nat} {l : List D} {a : Addr} (h : S[n]? = some (some (.lst l))) (ha : G.ρ n = some a) : ∃ xs, H a = some (.lst xs) ∧ RepL K G xs l := by
  obtain ⟨b, h1, _, h3⟩ := s.cell n _ h
  rw [ha] at h1
  cases h1
  exact h3
theorem trk_ok (s : SR K T G S H) (r : Rep K G v d) (h : trk S d = some l) : ∃ a xs, v = .ref a ∧ H a = some (.lst xs) ∧ RepL K G xs l := by
  cases d with
  | lst m =>
    cases h
    obtain ⟨a, xs, e, q, r⟩ := r
    exact ⟨a, xs, e, s.sub _ _ q, r⟩
  | cell n =>
    obtain ⟨a, e, q⟩ := r
    unfold trk at h
    dsimp only at h
    split at h
    · rename_i m hm
      cases h
      obtain ⟨xs, h1, h2⟩ := s.lstAt hm q
      exact ⟨a, xs, e, h1, h2⟩
    · cases h
  | _ => cases h
theorem rd_list (s : SR K T G S H) (r : Rep K G v d) (h : rd S d = some (false, l)) : ∃ a xs, v = .ref a ∧ SqL K H a xs ∧ RepL K G xs l := by
  cases d with
  | rol m =>
    cases h
    obtain ⟨a, xs, e, q, r⟩ := r
    exact ⟨a, xs, e, sqL_up s.sub q, r⟩
  | lst m =>
    cases h
    obtain ⟨a, xs, e, h1, h2⟩ := trk_ok s r rfl
    exact ⟨a, xs, e, SqL.of h1, h2⟩
  | cell n =>
    have h' : trk S (.cell n) = some l := by
      unfold rd at h
      unfold trk
      dsimp only at h ⊢
      split at h
      · rename_i m hm
        cases h
        rfl
      · cases h
    obtain ⟨a, xs, e, h1, h2⟩ := trk_ok s r h'
    exact ⟨a, xs, e, SqL.of h1, h2⟩
  | _ => cases h
theorem rd_tup (s : SR K T G S H) (r : Rep K G v d) (h : rd S d = some (true, l)) : ∃ a xs, v = .ref a ∧ SqT K H a xs ∧ RepL K G xs l := by
  cases d with
  | tup m =>
    cases h
    obtain ⟨a, xs, e, q, r⟩ := r
    exact ⟨a, xs, e, sqT_up s.sub q, r⟩
  | cell n =>
    unfold rd at h
    dsimp only at h
    split at h <;> cases h
  | _ => cases h
theorem rd_any (s : SR K T G S H) (r : Rep K G v d) {t : Bool} (h : rd S d = some (t, l)) : ∃ a xs, v = .ref a ∧ (SqL K H a xs ∨ SqT K H a xs) ∧ RepL K G xs l := by
  cases t with
  | true =>
    obtain ⟨a, xs, e, q, r⟩ := rd_tup s r h
    exact ⟨a, xs, e, .inr q, r⟩
  | false =>
    obtain ⟨a, xs, e, q, r⟩ := rd_list s r h
    exact ⟨a, xs, e, .inl q, r⟩
/-- a value is None just where its datum is -/
theorem Rep.non_iff (r : Rep K G v d) : (v = .non) ↔ d = .non := by
  cases d with
  | non => exact ⟨fun _ => rfl, fun _ => r⟩
  | bl b => rw [show v = _ from r]; exact ⟨fun z => (nomatch z), fun z => (nomatch z)⟩
  | int b => rw [show v = _ from r]; exact ⟨fun z => (nomatch z), fun z => (nomatch z)⟩
  | str b => rw [show v = _ from r]; exact ⟨fun z => (nomatch z), fun z => (nomatch z)⟩
  | ty b => rw [show v = _ from r]; exact ⟨fun z => (nomatch z), fun z => (nomatch z)⟩
  | tup l => obtain ⟨a, xs, e, _⟩ := r; rw [e]; exact ⟨fun z => (nomatch z), fun z => (nomatch z)⟩
  | lst l => obtain ⟨a, xs, e, _⟩ := r; rw [e]; exact ⟨fun z => (nomatch z), fun z => (nomatch z)⟩
  | rol l => obtain ⟨a, xs, e, _⟩ := r; rw [e]; exact ⟨fun z => (nomatch z), fun z => (nomatch z)⟩
  | obj c ks vs => obtain ⟨a, dx, xs, e, _⟩ := r; rw [e]; exact ⟨fun z => (nomatch z), fun z => (nomatch z)⟩
  | cell n => obtain ⟨a, e, _⟩ := r; rw [e]; exact ⟨fun z => (nomatch z), fun z => (nomatch z)⟩
end

/-! new lists -/
abbrev MkF := List D → Store → Res D
def mkL : MkF := fun l S => .ok (.lst l) S
def mkC : MkF := fun l S => .ok (.cell S.length) (S ++ [some (.lst l)])
structure MkOk (mk : MkF) : Prop where
  new : ∀ (K : PySem.W.Frag) (T : Tbl) (G : GS) (S : Store) (H : Hp) (xs : List V) (l : List D) (p : Addr) (W : XK) (Q : VK), SR K T G S H → RepL K G xs l → H p = none → Post K T (Rep K) W G Q (mk l S) → Q (.ref p) (upd H p (.lst xs))
  pin : ∀ (K : PySem.W.Frag) (T : Tbl) (G0 G : GS) (S : Store) (H : Hp) (xs : List V) (l : List D) (p : Addr) (W : XK) (Q : VK), SR K T G S H → RepL K G xs l → G.P p = some (.lst xs) → G0.le G → G0.P p = none → Post K T (Rep K) W G0 Q (mk l S) → Q (.ref p) H
theorem SR.pinNoCell {K : PySem.W.Frag} {T : Tbl} {G : GS} {S : Store} {H : Hp} (s : SR K T G S H) {p : Addr} {o : HO} (h : G.P p = some o) : ∀ (k : Nat) mk, S[k]? = some (some mk) → (G.unpin p).ρ k ≠ some p := fun k mk hk z => by
  obtain ⟨a, q1, q2, _⟩ := s.cell k mk hk
  have z : G.ρ k = some p := z
  rw [z] at q1
  cases q1
  rw [h] at q2
  cases q2.2
theorem mkL_ok : MkOk mkL where
  new := fun K T G S H xs l p W Q s r hp q => q (.ref p) _ (G.frz p (.lst xs)) (GS.le_frz s hp) (s.frz hp) ⟨p, xs, rfl, by show upd G.F p _ p = _; rw [upd_same], r.up (GS.le_frz s hp)⟩
  pin := fun K T G0 G S H xs l p W Q s r hP le h0 q => by
    have hF := (s.pin p _ hP).2
    have l1 : (G.unpin p).le ((G.unpin p).frz p (.lst xs)) := GS.le_frz0 hF
    refine q (.ref p) H ((G.unpin p).frz p (.lst xs)) ((GS.le_unpin le h0).trans l1) ((s.unpin p).frz0 hF (if_pos rfl) (s.pinNoCell hP) (s.pin p _ hP).1) ⟨p, xs, rfl, by show upd G.F p _ p = _; rw [upd_same], ?_⟩
    exact RepL.up0 (G := G) (G' := (G.unpin p).frz p (.lst xs)) ⟨fun _ _ h => h, fun b o h => l1.F b o h⟩ r
theorem mkC_ok : MkOk mkC where
  new := fun K T G S H xs l p W Q s r hp q => by
    have le := GS.le_cel s (p := p)
    exact q (.ref p) _ (G.cel S.length p) le (s.cel hp ⟨xs, upd_same, r.up le⟩) ⟨p, rfl, if_pos rfl⟩
  pin := fun K T G0 G S H xs l p W Q s r hP le h0 q => by
    have l1 : (G.unpin p).le ((G.unpin p).cel S.length p) := GS.le_cel (s.unpin p)
    have r' : RepL K ((G.unpin p).cel S.length p) xs l := RepL.up0 (G := G) (G' := (G.unpin p).cel S.length p) ⟨fun b o h => l1.ρ b o h, fun b o h => h⟩ r
    exact q (.ref p) H _ ((GS.le_unpin le h0).trans l1) ((s.unpin p).cel0 (s.pin p _ hP).2 (if_pos rfl) (s.pinNoCell hP) (s.pin p _ hP).1 ⟨xs, (s.pin p _ hP).1, r'⟩) ⟨p, rfl, if_pos rfl⟩
theorem tup_new {K : PySem.W.Frag} {T : Tbl} {G : GS} {S : Store} {H : Hp} {xs : List V} {l : List D} {p : Addr} {W : XK} {Q : VK} (s : SR K T G S H) (r : RepL K G xs l) (hp : H p = none) (q : Post K T (Rep K) W G Q (.ok (.tup l) S)) :
    Q (.ref p) (upd H p (.tup xs)) :=
  q (.ref p) _ (G.frz p (.tup xs)) (GS.le_frz s hp) (s.frz hp) ⟨p, xs, rfl, SqT.of (by show upd G.F p _ p = _; rw [upd_same]), r.up (GS.le_frz s hp)⟩

/-! names, constants -/
def eVar (i : Nat) : EF := fun env S => match env[i]? with
  | some (some d) => .ok d S
  | _ => .bad
def eK (d : D) : EF := fun _ S => .ok d S
section
variable {X : Cx} {T : Tbl} {W : WX} {pos : Pos}
theorem se_var {i : Nat} {x : Str} (hN : X.N[i]? = some x) (hv : Vis X.env.scope x) (hd : (x == ("__debug__" : Str)) = false := by decide) (hcd : (x == ("__classdict__" : Str)) = false := by decide) : SE X T W (.Name x pos) (eVar i) := by
  refine PE.imp (pe_var hN hv hd hcd) fun σ H Q ⟨env, G, S, s, e, p⟩ => ?_
  unfold eVar at p
  split at p
  · rename_i d h
    obtain ⟨v, h1, h2⟩ := e.at_ i d h
    exact ⟨v, h1, p.fin s h2⟩
  · exact p.elim
theorem se_tC {e : Expr} {v : V} {d : D} (h : PE X e (tC v)) (r : ∀ G, Rep X.K G v d) : SE X T W e (eK d) :=
  PE.imp h fun σ H Q ⟨env, G, S, s, e, p⟩ => p.fin s (r G)
theorem se_int {i j} : SE X T W (.Constant (.int i) j pos) (eK (.int i)) := se_tC pe_int fun _ => rfl
theorem se_bl {b j} : SE X T W (.Constant (.bool b) j pos) (eK (.bl b)) := se_tC pe_bl fun _ => rfl
theorem se_non {j} : SE X T W (.Constant .none j pos) (eK .non) := se_tC pe_non fun _ => rfl
theorem se_str {x j} : SE X T W (.Constant (.str x) j pos) (eK (.str x)) := se_tC pe_str fun _ => rfl
theorem se_glob {x : Str} {v : V} {u : Value} {d : D} (hg : Gl X x) (hm : X.mg x = some u) (r : RelV v u) (rd : ∀ G, Rep X.K G v d) (hd : (x == ("__debug__" : Str)) = false := by decide) : SE X T W (.Name x pos) (eK d) := se_tC (pe_glob hg hm r hd) rd
end

/-! two-place operations -/
def e2 (g : D → D → Store → Res D) (fa fb : EF) : EF := fun env S => (fa env S).bind fun x S => (fb env S).bind fun y S => g x y S
def e1 (g : D → Store → Res D) (fa : EF) : EF := fun env S => (fa env S).bind fun x S => g x S
def OkR2 (K : PySem.W.Frag) (T : Tbl) (r : R2) (g : D → D → Store → Res D) : Prop := ∀ (W : XK) (G : GS) (S : Store) (H : Hp) (x y : V) (dx dy : D) (Q : VK), SR K T G S H → Rep K G x dx → Rep K G y dy → Post K T (Rep K) W G Q (g dx dy S) → r x y H Q
section
variable {X : Cx} {T : Tbl} {W : WX} {pos : Pos} {a b c : Expr} {fa fb fc : EF}
theorem t_op {r : R2} {g : D → D → Store → Res D} (ok : OkR2 X.K T r g) (ha : SE X T W a fa) (hb : SE X T W b fb) : ∀ σ H Q, tG X.K T (Rep X.K) W (e2 g fa fb) σ H Q → tOp r (tG X.K T (Rep X.K) W fa) (tG X.K T (Rep X.K) W fb) σ H Q := fun σ H Q ⟨env, G, S, s, e, p⟩ =>
  chain ⟨s, e⟩ p fun x H1 dx S1 G1 l1 A1 r1 p1 => chain A1 p1 fun y H2 dy S2 G2 l2 A2 r2 p2 => ok _ G2 S2 H2 x y dx dy Q A2.s (r1.up l2) r2 p2
theorem se_op {op : Operator} {r : R2} {g : D → D → Store → Res D} (ho : OpR X (binaryOp op) r) (ok : OkR2 X.K T r g) (ha : SE X T W a fa) (hb : SE X T W b fb) : SE X T W (.BinOp a op b pos) (e2 g fa fb) := PE.imp (pe_op ho ha hb) (t_op ok ha hb)
theorem se_cmp {op : CmpOp} {r : R2} {g : D → D → Store → Res D} (ho : OpR X (compareOp op) r) (ok : OkR2 X.K T r g) (ha : SE X T W a fa) (hb : SE X T W b fb) (hm : behindInMarks op b = false) : SE X T W (.Compare a [op] [b] pos) (e2 g fa fb) := PE.imp (pe_cmpR ho ha hb hm) (t_op ok ha hb)
/-- a value as a test -/
def tst (f : EF) : RF Bool := fun env S => (f env S).bind fun x S => match x with
  | .bl b => .ok b S
  | _ => .bad
theorem tst_ok {f : EF} {σ : L2.St} {H : Hp} {Q : Bool → Hp → Prop} (t : tG X.K T relB W (tst f) σ H Q) : tG X.K T (Rep X.K) W f σ H fun x H' => ∃ k, x = .bl k ∧ Q k H' := by
  obtain ⟨env, G, S, s, e, p⟩ := t
  refine chain ⟨s, e⟩ p fun x H1 dx S1 G1 l1 A1 r1 p1 => ?_
  cases dx with
  | bl b => exact ⟨b, r1, p1.fin A1.s rfl⟩
  | _ => exact p1.elim
theorem st_cmp {op : CmpOp} {r : R2} {g : D → D → Store → Res D} (ho : OpR X (compareOp op) r) (ok : OkR2 X.K T r g) (ha : SE X T W a fa) (hb : SE X T W b fb) (hm : behindInMarks op b = false) : ST X T W (.Compare a [op] [b] pos) (tst (e2 g fa fb)) :=
  PT.imp (pt_cmpR ho ha hb hm) fun σ H Q t => t_op ok ha hb σ H _ (tst_ok t)
theorem st_val {e : Expr} {f : EF} (h : SE X T W e f) (he : ∀ whole, isTrue e X.env whole = (do let v ← whole; standAt e.pos; holding [v] (truthy v)) := by intro _; rfl) : ST X T W e (tst f) := PT.imp (pt_val h he) fun σ H Q t => tst_ok t
/-- a op1 b op2 c -/
def e3c (g g' : D → D → Store → Res D) (fa fb fc : EF) : EF := fun env S => (fa env S).bind fun x S => (fb env S).bind fun y S => (g x y S).bind fun k S => match k with
  | .bl true => (fc env S).bind fun z S => g' y z S
  | .bl false => .ok (.bl false) S
  | _ => .bad
theorem t_chain {r r' : R2} {g g' : D → D → Store → Res D} (ok : OkR2 X.K T r g) (ok' : OkR2 X.K T r' g') (σ : L2.St) (H : Hp) (Q : VK) (t : tG X.K T (Rep X.K) W (e3c g g' fa fb fc) σ H Q) :
    tChain r r' (tG X.K T (Rep X.K) W fa) (tG X.K T (Rep X.K) W fb) (tG X.K T (Rep X.K) W fc) σ H Q := by
  obtain ⟨env, G, S, s, e, p⟩ := t
  refine chain ⟨s, e⟩ p fun x H1 dx S1 G1 l1 A1 r1 p1 => chain A1 p1 fun y H2 dy S2 G2 l2 A2 r2 p2 => ?_
  cases q : g dx dy S2 with
  | bad => rw [q] at p2; exact p2.elim
  | exc c ks ps S' =>
    rw [q] at p2
    exact ok (fun c d H' => W c d σ H') G2 S2 H2 x y dx dy _ A2.s (r1.up l2) r2 (by rw [q]; exact p2)
  | ok dk S3 =>
    rw [q] at p2
    refine ok (fun c d H' => W c d σ H') G2 S2 H2 x y dx dy _ A2.s (r1.up l2) r2 ?_
    rw [q]
    intro k H3 G3 l3 s3 r3
    cases dk with
    | bl k' =>
      refine ⟨k', r3, ?_⟩
      cases k' with
      | true =>
        refine iteT ?_
        have p3 := Post.up l3 (show Post X.K T (Rep X.K) (fun c d H' => W c d σ H') G2 Q ((fc env S3).bind fun z S => g' dy z S) from p2)
        exact chain (A2.up l3 s3) p3 fun z H4 dz S4 G4 l4 A4 r4 p4 => ok' _ G4 S4 H4 y z dy dz Q A4.s (r2.up (l3.trans l4)) r4 p4
      | false =>
        refine iteF ?_
        exact Post.fin (Post.up l3 (show Post X.K T (Rep X.K) (fun c d H' => W c d σ H') G2 Q (.ok (.bl false) S3) from p2)) s3 rfl
    | _ => exact p2.elim
theorem se_chain {op op' : CmpOp} {r r' : R2} {g g' : D → D → Store → Res D} (ho : OpR X (compareOp op) r) (ho' : OpR X (compareOp op') r') (ok : OkR2 X.K T r g) (ok' : OkR2 X.K T r' g') (ha : SE X T W a fa) (hb : SE X T W b fb) (hc : SE X T W c fc)
    (hm : lastMarks [op, op'] [b, c] = false := by with_unfolding_all rfl) : SE X T W (.Compare a [op, op'] [b, c] pos) (e3c g g' fa fb fc) := PE.imp (pe_chain ho ho' ha hb hc hm) (t_chain ok ok')
theorem st_chain {op op' : CmpOp} {r r' : R2} {g g' : D → D → Store → Res D} (ho : OpR X (compareOp op) r) (ho' : OpR X (compareOp op') r') (ok : OkR2 X.K T r g) (ok' : OkR2 X.K T r' g') (ha : SE X T W a fa) (hb : SE X T W b fb) (hc : SE X T W c fc)
    (hm : lastMarks [op, op'] [b, c] = false := by with_unfolding_all rfl) : ST X T W (.Compare a [op, op'] [b, c] pos) (tst (e3c g g' fa fb fc)) := PT.imp (pt_chain ho ho' ha hb hc hm) fun σ H Q t => t_chain ok ok' σ H _ (tst_ok t)
end

/-! the operations on data -/
def gInt (f : Int → Int → D) : D → D → Store → Res D := fun x y S => match x, y with
  | .int i, .int j => .ok (f i j) S
  | _, _ => .bad
def gIntC (C : Int → Int → Bool) (f : Int → Int → D) : D → D → Store → Res D := fun x y S => match x, y with
  | .int i, .int j => if C i j then .ok (f i j) S else .bad
  | _, _ => .bad
section
variable {K : PySem.W.Frag} {T : Tbl}
theorem ok_int {g : Int → Int → V} {f : Int → Int → D} (h : ∀ G i j, Rep K G (g i j) (f i j)) : OkR2 K T (rI0 g) (gInt f) := fun W G S H x y dx dy Q s rx ry p => by
  cases dx with
  | int i => cases dy with
    | int j => exact ⟨i, j, rx, ry, p.fin s (h G i j)⟩
    | _ => exact p.elim
  | _ => exact p.elim
theorem ok_intC {C : Int → Int → Prop} {D' : Int → Int → Bool} {g : Int → Int → V} {f : Int → Int → D} (hC : ∀ i j, D' i j = true → C i j) (h : ∀ G i j, Rep K G (g i j) (f i j)) : OkR2 K T (rI C g) (gIntC D' f) := fun W G S H x y dx dy Q s rx ry p => by
  cases dx with
  | int i => cases dy with
    | int j =>
      unfold gIntC at p
      dsimp only at p
      split at p
      · rename_i q
        exact ⟨i, j, rx, ry, hC i j q, p.fin s (h G i j)⟩
      · exact p.elim
    | _ => exact p.elim
  | _ => exact p.elim
end
abbrev gSub := gInt fun i j => .int (i - j)
abbrev gLt := gInt fun i j => .bl (decide (i < j))
abbrev gLe := gInt fun i j => .bl (decide (i ≤ j))
abbrev gGt := gInt fun i j => .bl (decide (j < i))
abbrev gGe := gInt fun i j => .bl (decide (j ≤ i))
abbrev gDiv := gIntC (fun _ j => decide (0 < j ∧ j.natAbs.log2 < 9000)) fun i j => .int (i / j)
abbrev gMod := gIntC (fun _ j => decide (j ≠ 0)) fun i j => .int (i.fmod j)
abbrev gPow := gIntC (fun i j => decide (0 ≤ j ∧ j ≤ 1000000 ∧ i.natAbs < 2 ^ 64)) fun i j => .int (i ^ j.toNat)
section
variable {X : Cx} {T : Tbl} {W : WX} {pos : Pos} {a b : Expr} {fa fb : EF}
theorem se_sub (ha : SE X T W a fa) (hb : SE X T W b fb) : SE X T W (.BinOp a .Sub b pos) (e2 gSub fa fb) := se_op op_sub (ok_int fun _ _ _ => rfl) ha hb
theorem se_div (ha : SE X T W a fa) (hb : SE X T W b fb) : SE X T W (.BinOp a .FloorDiv b pos) (e2 gDiv fa fb) := se_op op_fdivW (ok_intC (fun i j h => (show 0 < j ∧ j.natAbs.log2 < 9000 from of_decide_eq_true h)) fun _ _ _ => rfl) ha hb
theorem se_mod (ha : SE X T W a fa) (hb : SE X T W b fb) : SE X T W (.BinOp a .Mod b pos) (e2 gMod fa fb) := se_op op_modN (ok_intC (fun _ _ h => of_decide_eq_true h) fun _ _ _ => rfl) ha hb
theorem se_pow (ha : SE X T W a fa) (hb : SE X T W b fb) : SE X T W (.BinOp a .Pow b pos) (e2 gPow fa fb) := se_op op_pow (ok_intC (fun i j h => (show 0 ≤ j ∧ j ≤ 1000000 ∧ i.natAbs < 2 ^ 64 from of_decide_eq_true h)) fun _ _ _ => rfl) ha hb
theorem se_lt (ha : SE X T W a fa) (hb : SE X T W b fb) : SE X T W (.Compare a [.Lt] [b] pos) (e2 gLt fa fb) := se_cmp op_lt (ok_int fun _ _ _ => rfl) ha hb (nomark _)
theorem se_le (ha : SE X T W a fa) (hb : SE X T W b fb) : SE X T W (.Compare a [.LtE] [b] pos) (e2 gLe fa fb) := se_cmp op_le (ok_int fun _ _ _ => rfl) ha hb (nomark _)
theorem se_gt (ha : SE X T W a fa) (hb : SE X T W b fb) : SE X T W (.Compare a [.Gt] [b] pos) (e2 gGt fa fb) := se_cmp op_gt (ok_int fun _ _ _ => rfl) ha hb (nomark _)
theorem se_ge (ha : SE X T W a fa) (hb : SE X T W b fb) : SE X T W (.Compare a [.GtE] [b] pos) (e2 gGe fa fb) := se_cmp op_ge (ok_int fun _ _ _ => rfl) ha hb (nomark _)
theorem st_lt (ha : SE X T W a fa) (hb : SE X T W b fb) : ST X T W (.Compare a [.Lt] [b] pos) (tst (e2 gLt fa fb)) := st_cmp op_lt (ok_int fun _ _ _ => rfl) ha hb (nomark _)
theorem st_le (ha : SE X T W a fa) (hb : SE X T W b fb) : ST X T W (.Compare a [.LtE] [b] pos) (tst (e2 gLe fa fb)) := st_cmp op_le (ok_int fun _ _ _ => rfl) ha hb (nomark _)
theorem st_gt (ha : SE X T W a fa) (hb : SE X T W b fb) : ST X T W (.Compare a [.Gt] [b] pos) (tst (e2 gGt fa fb)) := st_cmp op_gt (ok_int fun _ _ _ => rfl) ha hb (nomark _)
theorem st_ge (ha : SE X T W a fa) (hb : SE X T W b fb) : ST X T W (.Compare a [.GtE] [b] pos) (tst (e2 gGe fa fb)) := st_cmp op_ge (ok_int fun _ _ _ => rfl) ha hb (nomark _)
end
/-- + of ints, texts, tuples, lists -/
def gAdd (mk : MkF) : D → D → Store → Res D := fun x y S => match x, y with
  | .int i, .int j => .ok (.int (i + j)) S
  | .str i, .str j => if i.length + j.length ≤ lineN then .ok (.str (i ++ j)) S else .bad
  | .tup l, .tup m => if l.length + m.length ≤ lineN then .ok (.tup (l ++ m)) S else .bad
  | x, y => match trk S x, trk S y with
    | some l, some m => if l.length + m.length ≤ lineN then mk (l ++ m) S else .bad
    | _, _ => .bad
/-- * of ints, of a list and an int -/
def gMul (mk : MkF) : D → D → Store → Res D := fun x y S => match x, y with
  | .int i, .int j => if i.natAbs.log2 + j.natAbs.log2 < 1000000 then .ok (.int (i * j)) S else .bad
  | .tup l, .int k => if l ≠ [] ∧ 2 ≤ k ∧ k ≤ 1000 ∧ l.length ≤ 1000 then .ok (.tup (List.replicate k.toNat l).flatten) S else .bad
  | x, .int k => match trk S x with
    | some l => if -(2 ^ 63) ≤ k ∧ k < 2 ^ 63 ∧ l.length * k.toNat ≤ lineN then mk (List.replicate k.toNat l).flatten S else .bad
    | _ => .bad
  | _, _ => .bad
section
variable {K : PySem.W.Frag} {T : Tbl} {mk : MkF}
abbrev rAddL : R2 := fun x y H Q => rI0 (fun i j => .int (i + j)) x y H Q ∨ (∃ i j, x = .str i ∧ y = .str j ∧ i.length + j.length ≤ sizeLine ∧ Q (.str (i ++ j)) H) ∨ rCat x y H Q
theorem RepL.nilL {G : GS} {xs : List V} {l : List D} (r : RepL K G xs l) : xs = [] ↔ l = [] := by
  have h := r.len
  constructor
  · intro e
    rw [e] at h
    exact List.length_eq_zero_iff.mp h.symm
  · intro e
    rw [e] at h
    exact List.length_eq_zero_iff.mp h
theorem ok_add (hmk : MkOk mk) : OkR2 K T (fun x y H Q => rI0 (fun i j => .int (i + j)) x y H Q ∨ (∃ i j, x = .str i ∧ y = .str j ∧ i.length + j.length ≤ sizeLine ∧ Q (.str (i ++ j)) H) ∨ rCat x y H Q ∨ rCatA K x y H Q) (gAdd mk) :=
  fun W G S H x y dx dy Q s rx ry p => by
  unfold gAdd at p
  split at p
  · exact .inl ⟨_, _, rx, ry, p.fin s rfl⟩
  · split at p
    · rename_i i j hl
      exact .inr (.inl ⟨_, _, rx, ry, by rw [lineN_eq]; exact hl, p.fin s rfl⟩)
    · exact p.elim
  · split at p
    · rename_i l m hl
      obtain ⟨a, xs, ea, ha, ra⟩ := rd_tup s rx (l := l) rfl
      obtain ⟨b, ys, eb, hb, rb⟩ := rd_tup s ry (l := m) rfl
      refine .inr (.inr (.inr ⟨a, b, xs, ys, ea, eb, ha, hb, by rw [ra.len, rb.len, lineN_eq]; exact hl, fun e => ?_, fun _ e => ?_, fun _ _ q hq => tup_new s (ra.app rb |> fun z => (RepL.app rb ra)) hq p⟩))
      · rw [ra.nilL.mp e, List.nil_append] at p
        exact p.fin s (eb ▸ ry)
      · rw [rb.nilL.mp e, List.append_nil] at p
        exact p.fin s (ea ▸ rx)
    · exact p.elim
  · split at p
    · rename_i l m h1 h2
      split at p
      · rename_i hl
        obtain ⟨a, xs, ea, ha, ra⟩ := trk_ok s rx h1
        obtain ⟨b, ys, eb, hb, rb⟩ := trk_ok s ry h2
        exact .inr (.inr (.inl ⟨a, b, xs, ys, ea, eb, ha, hb, by rw [ra.len, rb.len, lineN_eq]; exact hl, fun q hq => hmk.new K T G S H _ _ q W Q s (RepL.app rb ra) hq p⟩))
      · exact p.elim
    · exact p.elim
theorem RepL.flatN {G : GS} {xs : List V} {l : List D} (r : RepL K G xs l) : ∀ n : Nat, RepL K G (List.replicate n xs).flatten (List.replicate n l).flatten
  | 0 => rfl
  | n + 1 => by
    rw [List.replicate_succ, List.replicate_succ, List.flatten_cons, List.flatten_cons]
    exact RepL.app (RepL.flatN r n) r
end
end Z
end
section
set_option Elab.async false
set_option linter.all false
set_option maxRecDepth 100000
namespace Z
open PySem PySem.Spec PyProof.Rows
open L2
section
variable {K : PySem.W.Frag} {T : Tbl} {mk : MkF}
theorem ok_mul (hmk : MkOk mk) : OkR2 K T (fun x y H Q => rI CMulW (fun i j => .int (i * j)) x y H Q ∨ rRep x y H Q ∨ rRepT K x y H Q) (gMul mk) :=
  fun W G S H x y dx dy Q s rx ry p => by
  unfold gMul at p
  split at p
  · split at p
    · rename_i i j hc
      exact .inl ⟨_, _, rx, ry, hc, p.fin s rfl⟩
    · exact p.elim
  · split at p
    · rename_i l k hc
      obtain ⟨a, xs, ea, ha, ra⟩ := rd_tup s rx (l := l) rfl
      exact .inr (.inr ⟨a, k, xs, ea, ry, ha, fun e => hc.1 (ra.nilL.mp e), hc.2.1, hc.2.2.1, by rw [ra.len]; exact hc.2.2.2, fun q hq => tup_new s (ra.flatN _) hq p⟩)
    · exact p.elim
  · split at p
    · rename_i l h1
      split at p
      · rename_i hc
        obtain ⟨a, xs, ea, ha, ra⟩ := trk_ok s rx h1
        exact .inr (.inl ⟨a, _, xs, ea, ry, ha, hc.1, hc.2.1, by rw [ra.len, lineN_eq]; exact hc.2.2, fun q hq => hmk.new K T G S H _ _ q W Q s (ra.flatN _) hq p⟩)
      · exact p.elim
    · exact p.elim
  · exact p.elim
end
/-! data that == compares -/
mutual
def toP (S : Store) : D → Option PyData
  | .non => some .none
  | .bl b => some (.bool b)
  | .int i => some (.int i)
  | .str x => some (.str x)
  | .tup l => (toPs S l).map .tuple
  | .lst l => (toPs S l).map .list
  | .rol l => (toPs S l).map .list
  | .ty _ => none
  | .obj _ _ _ => none
  | .cell _ => none
def toPs (S : Store) : List D → Option (List PyData)
  | [] => some []
  | d :: ds => match toP S d, toPs S ds with
    | some p, some ps => some (p :: ps)
    | _, _ => none
end
/-- .. with a cell's list at the top -/
def toPC (S : Store) : D → Option PyData
  | .cell n => match S[n]? with
    | some (some (.lst l)) => (toPs S l).map .list
    | _ => none
  | d => toP S d
section
variable {K : PySem.W.Frag} {T : Tbl} {G : GS} {S : Store} {H : Hp}
mutual
theorem toP_ok (s : SR K T G S H) : ∀ {d : D} {v : V} {p : PyData}, Rep K G v d → toP S d = some p → Dp K H v p
  | .non, _, _, r, h => by cases h; rw [show _ = _ from r]; exact .non
  | .bl b, _, _, r, h => by cases h; rw [show _ = _ from r]; exact .bl b
  | .int b, _, _, r, h => by cases h; rw [show _ = _ from r]; exact .int b
  | .str b, _, _, r, h => by cases h; rw [show _ = _ from r]; exact .str b
  | .tup l, _, _, ⟨a, xs, e, q, r⟩, h => by
    have h : (toPs S l).map PyData.tuple = some _ := h
    cases z : toPs S l with
    | none => rw [z] at h; cases h
    | some ps =>
      rw [z] at h
      cases h
      subst e
      exact .tup (sqT_up s.sub q) (toPs_ok s r z)
  | .lst l, _, _, ⟨a, xs, e, q, r⟩, h => by
    have h : (toPs S l).map PyData.list = some _ := h
    cases z : toPs S l with
    | none => rw [z] at h; cases h
    | some ps =>
      rw [z] at h
      cases h
      subst e
      exact .lst (SqL.of (s.sub _ _ q)) (toPs_ok s r z)
  | .rol l, _, _, ⟨a, xs, e, q, r⟩, h => by
    have h : (toPs S l).map PyData.list = some _ := h
    cases z : toPs S l with
    | none => rw [z] at h; cases h
    | some ps =>
      rw [z] at h
      cases h
      subst e
      exact .lst (sqL_up s.sub q) (toPs_ok s r z)
  | .ty _, _, _, _, h => by cases h
  | .obj _ _ _, _, _, _, h => by cases h
  | .cell _, _, _, _, h => by cases h
theorem toPs_ok (s : SR K T G S H) : ∀ {l : List D} {xs : List V} {ps : List PyData}, RepL K G xs l → toPs S l = some ps → DpAll K H xs ps
  | [], _, _, r, h => by
    cases h
    rw [show _ = _ from r]
    exact .nil
  | d :: ds, _, _, ⟨x, r, e, a, b⟩, h => by
    unfold toPs at h
    split at h
    · rename_i p q hp hq
      cases h
      subst e
      exact .cons (toP_ok s a hp) (toPs_ok s b hq)
    · cases h
end
theorem toPC_ok (s : SR K T G S H) {d : D} {v : V} {p : PyData} (r : Rep K G v d) (h : toPC S d = some p) : Dp K H v p := by
  cases d with
  | cell n =>
    obtain ⟨a, e, q⟩ := r
    unfold toPC at h
    dsimp only at h
    split at h
    · rename_i l hl
      obtain ⟨xs, h1, h2⟩ := s.lstAt hl q
      cases z : toPs S l with
      | none => rw [z] at h; cases h
      | some ps =>
        rw [z] at h
        cases h
        subst e
        exact .lst (SqL.of h1) (toPs_ok s h2 z)
    · cases h
  | _ => exact toP_ok s r h
end
def gEqB (neg : Bool) : D → D → Store → Res D := fun x y S => match toPC S x, toPC S y with
  | some p, some q => if SeqAt.shaped p = true ∧ SeqAt.shaped q = true then .ok (.bl (neg != PyData.eqv p q)) S else .bad
  | _, _ => .bad
abbrev gEq := gEqB false
abbrev gNe := gEqB true
theorem ok_eq {K : PySem.W.Frag} {T : Tbl} : OkR2 K T (rEqD K) gEq := fun W G S H x y dx dy Q s rx ry p => by
  unfold gEq gEqB at p
  split at p
  · rename_i a b h1 h2
    split at p
    · rename_i hs
      exact ⟨a, b, toPC_ok s rx h1, toPC_ok s ry h2, hs.1, hs.2, by simpa using p.fin s (b := V.bl (false != PyData.eqv a b)) rfl⟩
    · exact p.elim
  · exact p.elim
theorem ok_ne {K : PySem.W.Frag} {T : Tbl} : OkR2 K T (rNeD K) gNe := fun W G S H x y dx dy Q s rx ry p => by
  unfold gNe gEqB at p
  split at p
  · rename_i a b h1 h2
    split at p
    · rename_i hs
      refine ⟨a, b, toPC_ok s rx h1, toPC_ok s ry h2, hs.1, hs.2, ?_⟩
      have z := p.fin s (b := V.bl (true != PyData.eqv a b)) rfl
      rwa [show (true != PyData.eqv a b) = !PyData.eqv a b by cases PyData.eqv a b <;> rfl] at z
    · exact p.elim
  · exact p.elim
def isNon : D → Bool
  | .non => true
  | _ => false
def gIsN (neg : Bool) : D → Store → Res D := fun x S => .ok (.bl (neg != isNon x)) S
theorem isNon_iff {d : D} : isNon d = true ↔ d = .non := by cases d <;> simp [isNon]
/-- x is True, x is False -/
def gIsB (b : Bool) : D → Store → Res D := fun x S => match x with
  | .bl c => .ok (.bl (decide (c = b))) S
  | _ => .bad
section
variable {X : Cx} {T : Tbl} {W : WX} {pos p2 : Pos} {a b c : Expr} {fa fb fc : EF} {mk : MkF}
theorem se_add (hmk : MkOk mk) (ha : SE X T W a fa) (hb : SE X T W b fb) : SE X T W (.BinOp a .Add b pos) (e2 (gAdd mk) fa fb) := se_op (op_add.or (op_add_str.or (op_cat.or op_catA))) (ok_add hmk) ha hb
theorem se_mul (hmk : MkOk mk) (ha : SE X T W a fa) (hb : SE X T W b fb) : SE X T W (.BinOp a .Mult b pos) (e2 (gMul mk) fa fb) := se_op (op_mulW.or (op_rep.or op_repT)) (ok_mul hmk) ha hb
theorem se_eq (hu : X.A.units + 64 < cLine) (ha : SE X T W a fa) (hb : SE X T W b fb) : SE X T W (.Compare a [.Eq] [b] pos) (e2 gEq fa fb) := se_cmp (op_eqD hu) ok_eq ha hb (nomark _)
theorem se_ne (hu : X.A.units + 64 < cLine) (ha : SE X T W a fa) (hb : SE X T W b fb) : SE X T W (.Compare a [.NotEq] [b] pos) (e2 gNe fa fb) := se_cmp (op_neD hu) ok_ne ha hb (nomark _)
theorem st_eq (hu : X.A.units + 64 < cLine) (ha : SE X T W a fa) (hb : SE X T W b fb) : ST X T W (.Compare a [.Eq] [b] pos) (tst (e2 gEq fa fb)) := st_cmp (op_eqD hu) ok_eq ha hb (nomark _)
theorem st_ne (hu : X.A.units + 64 < cLine) (ha : SE X T W a fa) (hb : SE X T W b fb) : ST X T W (.Compare a [.NotEq] [b] pos) (tst (e2 gNe fa fb)) := st_cmp (op_neD hu) ok_ne ha hb (nomark _)
theorem se_isN {j} (ha : SE X T W a fa) : SE X T W (.Compare a [.Is] [.Constant .none j p2] pos) (e1 (gIsN false) fa) := PE.imp (pe_cmp (pc_isN ha)) fun σ H Q ⟨env, G, S, s, e, p⟩ =>
  chain ⟨s, e⟩ p fun x H1 dx S1 G1 l1 A1 r1 p1 => by
    have z := p1.fin A1.s (b := V.bl (false != isNon dx)) rfl
    rwa [show (false != isNon dx) = decide (x = .non) by
      cases q : isNon dx with
      | true => rw [decide_eq_true (r1.non_iff.mpr (isNon_iff.mp q))]; rfl
      | false => rw [decide_eq_false fun y => by rw [isNon_iff.mpr (r1.non_iff.mp y)] at q; cases q]; rfl] at z
theorem se_notN {j} (ha : SE X T W a fa) : SE X T W (.Compare a [.IsNot] [.Constant .none j p2] pos) (e1 (gIsN true) fa) := PE.imp (pe_cmp (pc_notN ha)) fun σ H Q ⟨env, G, S, s, e, p⟩ =>
  chain ⟨s, e⟩ p fun x H1 dx S1 G1 l1 A1 r1 p1 => by
    have z := p1.fin A1.s (b := V.bl (true != isNon dx)) rfl
    rwa [show (true != isNon dx) = !decide (x = .non) by
      cases q : isNon dx with
      | true => rw [decide_eq_true (r1.non_iff.mpr (isNon_iff.mp q))]; rfl
      | false => rw [decide_eq_false fun y => by rw [isNon_iff.mpr (r1.non_iff.mp y)] at q; cases q]; rfl] at z
theorem st_isN {j} (ha : SE X T W a fa) : ST X T W (.Compare a [.Is] [.Constant .none j p2] pos) (tst (e1 (gIsN false) fa)) := PT.imp (pt_cmp (pc_isN ha)) fun σ H Q t => by
  obtain ⟨env, G, S, s, e, p⟩ := tst_ok t
  refine chain ⟨s, e⟩ p fun x H1 dx S1 G1 l1 A1 r1 p1 => ?_
  obtain ⟨k, h1, h2⟩ := p1.fin A1.s (b := V.bl (false != isNon dx)) rfl
  refine ⟨k, ?_, h2⟩
  rw [← h1]
  congr 1
  cases q : isNon dx with
  | true => rw [decide_eq_true (r1.non_iff.mpr (isNon_iff.mp q))]; rfl
  | false => rw [decide_eq_false fun y => by rw [isNon_iff.mpr (r1.non_iff.mp y)] at q; cases q]; rfl
theorem st_notN {j} (ha : SE X T W a fa) : ST X T W (.Compare a [.IsNot] [.Constant .none j p2] pos) (tst (e1 (gIsN true) fa)) := PT.imp (pt_cmp (pc_notN ha)) fun σ H Q t => by
  obtain ⟨env, G, S, s, e, p⟩ := tst_ok t
  refine chain ⟨s, e⟩ p fun x H1 dx S1 G1 l1 A1 r1 p1 => ?_
  obtain ⟨k, h1, h2⟩ := p1.fin A1.s (b := V.bl (true != isNon dx)) rfl
  refine ⟨k, ?_, h2⟩
  rw [← h1]
  congr 1
  cases q : isNon dx with
  | true => rw [decide_eq_true (r1.non_iff.mpr (isNon_iff.mp q))]; rfl
  | false => rw [decide_eq_false fun y => by rw [isNon_iff.mpr (r1.non_iff.mp y)] at q; cases q]; rfl
theorem se_isB {k : Bool} {j} (ha : SE X T W a fa) : SE X T W (.Compare a [.Is] [.Constant (.bool k) j p2] pos) (e1 (gIsB k) fa) := PE.imp (pe_cmpR op_isBl ha pe_bl (nomark _)) fun σ H Q ⟨env, G, S, s, e, p⟩ =>
  chain ⟨s, e⟩ p fun x H1 dx S1 G1 l1 A1 r1 p1 => by
    cases dx with
    | bl c => exact ⟨c, k, r1, rfl, p1.fin A1.s rfl⟩
    | _ => exact p1.elim
/-! and, or, not, if -/
def eAnd (fa fb : EF) : EF := fun env S => (fa env S).bind fun x S => match x with
  | .bl true => fb env S
  | .bl false => .ok (.bl false) S
  | _ => .bad
def eOr (fa fb : EF) : EF := fun env S => (fa env S).bind fun x S => match x with
  | .bl false => fb env S
  | .bl true => .ok (.bl true) S
  | _ => .bad
def gNot : D → Store → Res D := fun x S => match x with
  | .bl b => .ok (.bl (!b)) S
  | _ => .bad
def tAndD (fa fb : RF Bool) : RF Bool := fun env S => (fa env S).bind fun x S => if x = true then fb env S else .ok false S
def tOrD (fa fb : RF Bool) : RF Bool := fun env S => (fa env S).bind fun x S => if x = true then .ok true S else fb env S
def tNotD (fa : RF Bool) : RF Bool := fun env S => (fa env S).bind fun x S => .ok (!x) S
def eIf {α : Type} (t : RF Bool) (fa fb : RF α) : RF α := fun env S => (t env S).bind fun x S => if x = true then fa env S else fb env S
variable {rest : List Expr} {ta tb : RF Bool}
theorem se_one {op} (h : SE X T W a fa) : SE X T W (.BoolOp op [a] pos) fa := pe_one h
theorem se_and (ha : SE X T W a fa) (hb : SE X T W (.BoolOp .And (b :: rest) pos) fb) : SE X T W (.BoolOp .And (a :: b :: rest) pos) (eAnd fa fb) := PE.imp (pe_and ha hb) fun σ H Q ⟨env, G, S, s, e, p⟩ =>
  chain ⟨s, e⟩ p fun x H1 dx S1 G1 l1 A1 r1 p1 => by
    cases dx with
    | bl c =>
      refine ⟨c, r1, ?_⟩
      cases c with
      | true => exact iteT (tG.mk A1 p1)
      | false => exact iteF (p1.fin A1.s rfl)
    | _ => exact p1.elim
theorem se_or (ha : SE X T W a fa) (hb : SE X T W (.BoolOp .Or (b :: rest) pos) fb) : SE X T W (.BoolOp .Or (a :: b :: rest) pos) (eOr fa fb) := PE.imp (pe_or ha hb) fun σ H Q ⟨env, G, S, s, e, p⟩ =>
  chain ⟨s, e⟩ p fun x H1 dx S1 G1 l1 A1 r1 p1 => by
    cases dx with
    | bl c =>
      refine ⟨c, r1, ?_⟩
      cases c with
      | true => exact iteT (p1.fin A1.s rfl)
      | false => exact iteF (tG.mk A1 p1)
    | _ => exact p1.elim
theorem se_not (ha : SE X T W a fa) : SE X T W (.UnaryOp .Not a pos) (e1 gNot fa) := PE.imp (pe_not ha) fun σ H Q ⟨env, G, S, s, e, p⟩ =>
  chain ⟨s, e⟩ p fun x H1 dx S1 G1 l1 A1 r1 p1 => by
    cases dx with
    | bl c => exact ⟨c, r1, p1.fin A1.s rfl⟩
    | _ => exact p1.elim
def gNeg : D → Store → Res D := fun x S => match x with
  | .int i => .ok (.int (-i)) S
  | _ => .bad
theorem se_neg (ha : SE X T W a fa) : SE X T W (.UnaryOp .USub a pos) (e1 gNeg fa) := PE.imp (pe_un un_neg ha) fun σ H Q ⟨env, G, S, s, e, p⟩ =>
  chain ⟨s, e⟩ p fun x H1 dx S1 G1 l1 A1 r1 p1 => by
    cases dx with
    | int c => exact ⟨c, r1, p1.fin A1.s rfl⟩
    | _ => exact p1.elim
theorem sw_and1 (ha : ST X T W a ta) : SW X T W (.BoolOp .And [a] pos) ta := pw_and1 ha
theorem sw_or1 (ha : ST X T W a ta) : SW X T W (.BoolOp .Or [a] pos) ta := pw_or1 ha
theorem sw_and (ha : ST X T W a ta) (hb : SW X T W (.BoolOp .And (b :: rest) pos) tb) : SW X T W (.BoolOp .And (a :: b :: rest) pos) (tAndD ta tb) := PW.imp (pw_and ha hb) fun σ H Q ⟨env, G, S, s, e, p⟩ =>
  chain ⟨s, e⟩ p fun x H1 dx S1 G1 l1 A1 r1 p1 => by
    cases dx with
    | true => rw [show x = true from r1]; exact iteT (tG.mk A1 p1)
    | false => rw [show x = false from r1]; exact iteF (p1.fin A1.s rfl)
theorem sw_or (ha : ST X T W a ta) (hb : SW X T W (.BoolOp .Or (b :: rest) pos) tb) : SW X T W (.BoolOp .Or (a :: b :: rest) pos) (tOrD ta tb) := PW.imp (pw_or ha hb) fun σ H Q ⟨env, G, S, s, e, p⟩ =>
  chain ⟨s, e⟩ p fun x H1 dx S1 G1 l1 A1 r1 p1 => by
    cases dx with
    | true => rw [show x = true from r1]; exact iteT (p1.fin A1.s rfl)
    | false => rw [show x = false from r1]; exact iteF (tG.mk A1 p1)
theorem st_not (ha : ST X T W a ta) : ST X T W (.UnaryOp .Not a pos) (tNotD ta) := PT.imp (pt_not ha) fun σ H Q ⟨env, G, S, s, e, p⟩ =>
  chain ⟨s, e⟩ p fun x H1 dx S1 G1 l1 A1 r1 p1 => by
    rw [show x = dx from r1]
    exact p1.fin A1.s rfl
theorem se_if (hc : ST X T W c ta) (ha : SE X T W a fa) (hb : SE X T W b fb) : SE X T W (.IfExp c a b pos) (eIf ta fa fb) := PE.imp (pe_ifExp hc ha hb) fun σ H Q ⟨env, G, S, s, e, p⟩ =>
  chain ⟨s, e⟩ p fun x H1 dx S1 G1 l1 A1 r1 p1 => by
    cases dx with
    | true => rw [show x = true from r1]; exact iteT (tG.mk A1 p1)
    | false => rw [show x = false from r1]; exact iteF (tG.mk A1 p1)
/-! argument lists, displays -/
def aNil : RF (List D) := fun _ S => .ok [] S
def aCons (f : EF) (g : RF (List D)) : RF (List D) := fun env S => (f env S).bind fun x S => (g env S).bind fun xs S => .ok (x :: xs) S
variable {es : List Expr} {g : RF (List D)}
theorem sa_nil : SA X T W [] aNil := PA.imp pa_nil fun σ H Q ⟨env, G, S, s, e, p⟩ => p.fin s rfl
theorem sa_cons (ha : SE X T W a fa) (hr : SA X T W es g) (hs : starEach (a :: es) X.env = (false, eval a X.env) :: starEach es X.env := by rfl) : SA X T W (a :: es) (aCons fa g) := PA.imp (pa_cons ha hr hs) fun σ H Q ⟨env, G, S, s, e, p⟩ =>
  chain ⟨s, e⟩ p fun x H1 dx S1 G1 l1 A1 r1 p1 => chain A1 p1 fun xs H2 ds S2 G2 l2 A2 r2 p2 => p2.fin A2.s ⟨x, xs, rfl, r1.up l2, r2⟩
def eTup (g : RF (List D)) : EF := fun env S => (g env S).bind fun xs S => if xs.length ≤ lineN then .ok (.tup xs) S else .bad
def eLst (mk : MkF) (g : RF (List D)) : EF := fun env S => (g env S).bind fun xs S => if xs.length ≤ lineN then mk xs S else .bad
theorem se_tup {x1} (h : SA X T W es g) : SE X T W (.Tuple es x1 pos) (eTup g) := PE.imp (pe_tup h) fun σ H Q ⟨env, G, S, s, e, p⟩ =>
  chain ⟨s, e⟩ p fun xs H1 ds S1 G1 l1 A1 r1 p1 => by
    split at p1
    · rename_i hl
      exact ⟨by rw [r1.len, lineN_eq]; exact hl, fun q hq => tup_new A1.s r1 hq p1⟩
    · exact p1.elim
theorem se_lst (hmk : MkOk mk) (h : SA X T W es g) : SE X T W (.List es pos) (eLst mk g) := PE.imp (pe_lst h) fun σ H Q ⟨env, G, S, s, e, p⟩ =>
  chain ⟨s, e⟩ p fun xs H1 ds S1 G1 l1 A1 r1 p1 => by
    split at p1
    · rename_i hl
      exact ⟨by rw [r1.len, lineN_eq]; exact hl, fun q hq => hmk.new _ _ _ _ _ _ _ q _ Q A1.s r1 hq p1⟩
    · exact p1.elim
/-! items, slices -/
def gIx : D → D → Store → Res D := fun x y S => match y with
  | .int i => match x with
    | .str z => if z.length ≤ lineN then (match atI z.cps.toList i with
      | some c => .ok (.str ⟨#[c]⟩) S
      | none => .bad) else .bad
    | x => match rd S x with
      | some (_, l) => match atI l i with
        | some d => .ok d S
        | none => .bad
      | none => .bad
  | _ => .bad
theorem RepL.atI {K : PySem.W.Frag} {G : GS} {xs : List V} {l : List D} {i : Int} {d : D} (r : RepL K G xs l) (h : L2.atI l i = some d) : ∃ v, L2.atI xs i = some v ∧ Rep K G v d := by
  unfold L2.atI at h ⊢
  rw [r.len]
  cases q : ixN l.length i with
  | none => rw [q] at h; cases h
  | some j =>
    rw [q] at h
    exact r.get h
theorem ok_ix {K : PySem.W.Frag} {T : Tbl} : OkR2 K T (rIx K) gIx := fun W G S H x y dx dy Q s rx ry p => by
  cases dy with
  | int i =>
    unfold gIx at p
    dsimp only at p
    split at p
    · split at p
      · rename_i z hz
        split at p
        · rename_i c hc
          exact .inr (.inr ⟨z, i, c, rx, ry, by rw [lineN_eq]; exact hz, hc, p.fin s rfl⟩)
        · exact p.elim
      · exact p.elim
    · split at p
      · rename_i t l hl
        split at p
        · rename_i d hd
          cases t with
          | false =>
            obtain ⟨a, xs, ea, ha, ra⟩ := rd_list s rx hl
            obtain ⟨v, h1, h2⟩ := ra.atI hd
            exact .inl ⟨a, xs, i, v, ea, ry, ha, h1, p.fin s h2⟩
          | true =>
            obtain ⟨a, xs, ea, ha, ra⟩ := rd_tup s rx hl
            obtain ⟨v, h1, h2⟩ := ra.atI hd
            exact .inr (.inl ⟨a, xs, i, v, ea, ry, ha, h1, p.fin s h2⟩)
        · exact p.elim
      · exact p.elim
  | _ => exact p.elim
theorem se_ix (ha : SE X T W a fa) (hb : SE X T W b fb) (hs : PlainIx b := by exact fun _ _ => rfl) : SE X T W (.Subscript a b pos) (e2 gIx fa fb) := PE.imp (pe_ix ix_seq ha hb hs) (t_op ok_ix ha hb)
end
end Z
end
section
set_option Elab.async false
set_option linter.all false
set_option maxRecDepth 100000
namespace Z
open PySem PySem.Spec PyProof.Rows
open L2
/-! slices -/
def relO : GS → Option Int → Option Int → Prop := fun _ b a => b = a
abbrev SO (X : Cx) (T : Tbl) (W : WX) (e : Option Expr) (f : RF (Option Int)) : Prop := PO X e (tG X.K T relO W f)
def oNo : RF (Option Int) := fun _ S => .ok none S
def oYes (f : EF) : RF (Option Int) := fun env S => (f env S).bind fun x S => match x with
  | .int i => .ok (some i) S
  | _ => .bad
def cutD (l : List D) (lo hi : Option Int) : List D := (l.drop (HT.sIx l.length 0 lo)).take (HT.sIx l.length l.length hi - HT.sIx l.length 0 lo)
def gSl (mk : MkF) (x : D) (lo hi : Option Int) (S : Store) : Res D := match x with
  | .str z => if z.length ≤ lineN then .ok (.str (cutS z lo hi)) S else .bad
  | .tup l => .ok (.tup (cutD l lo hi)) S
  | x => match rd S x with
    | some (false, l) => mk (cutD l lo hi) S
    | _ => .bad
def eSl (mk : MkF) (fa : EF) (fl fh : RF (Option Int)) : EF := fun env S => (fa env S).bind fun x S => (fl env S).bind fun lo S => (fh env S).bind fun hi S => gSl mk x lo hi S
section
variable {K : PySem.W.Frag} {G : GS}
theorem RepL.cut {xs : List V} {l : List D} {lo hi : Option Int} (r : RepL K G xs l) : RepL K G (cutV xs lo hi) (cutD l lo hi) := by
  unfold cutV cutD
  rw [r.len]
  exact (r.drop _).take _
end
section
variable {X : Cx} {T : Tbl} {W : WX} {pos p2 : Pos} {a b c : Expr} {fa fb fc : EF} {mk : MkF}
theorem so_none : SO X T W none oNo := ⟨fun pins s σ H Q I ⟨env, G, S, q, e, p⟩ => po_none.run pins s σ H Q I (p.fin q rfl)⟩
theorem so_some (h : SE X T W a fa) : SO X T W (some a) (oYes fa) := ⟨fun pins s σ H Q I ⟨env, G, S, q, e, p⟩ => (po_some h).run pins s σ H Q I (chain ⟨q, e⟩ p fun x H1 dx S1 G1 l1 A1 r1 p1 => by
  cases dx with
  | int i => exact ⟨i, r1, p1.fin A1.s rfl⟩
  | _ => exact p1.elim)⟩
theorem se_sl (hmk : MkOk mk) {lo hi : Option Expr} {fl fh : RF (Option Int)} (ha : SE X T W a fa) (hl : SO X T W lo fl) (hh : SO X T W hi fh) : SE X T W (.Subscript a (.Slice lo hi none p2) pos) (eSl mk fa fl fh) :=
  PE.imp (pe_slice (sl_list.or (sl_tupA.or sl_str)) ha hl hh) fun σ H Q ⟨env, G, S, s, e, p⟩ =>
  chain ⟨s, e⟩ p fun x H1 dx S1 G1 l1 A1 r1 p1 => chain A1 p1 fun lo' H2 dl S2 G2 l2 A2 r2 p2 => chain A2 p2 fun hi' H3 dh S3 G3 l3 A3 r3 p3 => by
    have r1 := r1.up (l2.trans l3)
    subst r2 r3
    have gen : ∀ {l : List D}, rd S3 dx = some (false, l) → Post X.K T (Rep X.K) (fun c d H' => W c d σ H') G3 Q (mk (cutD l lo' hi') S3) → rSlL X.K x lo' hi' H3 Q := fun hl p3 => by
      obtain ⟨q, xs, ea, ha, ra⟩ := rd_list A3.s r1 hl
      exact ⟨q, xs, ea, ha, fun p hp => hmk.new _ _ _ _ _ _ _ p _ Q A3.s ra.cut hp p3⟩
    cases dx with
    | str z =>
      unfold gSl at p3
      dsimp only at p3
      split at p3
      · rename_i hz
        exact .inr (.inr ⟨z, r1, by rw [lineN_eq]; exact hz, p3.fin A3.s rfl⟩)
      · exact p3.elim
    | tup l =>
      obtain ⟨q, xs, ea, ha, ra⟩ := rd_tup A3.s r1 (l := l) rfl
      have p3 : Post X.K T (Rep X.K) (fun c d H' => W c d σ H') G3 Q (.ok (.tup (cutD l lo' hi')) S3) := p3
      refine .inr (.inl ⟨q, xs, ea, ha, fun hw => ?_, fun _ p hp => tup_new A3.s ra.cut hp p3⟩)
      have e : cutD l lo' hi' = l := by
        unfold cutD
        rw [ra.len] at hw
        rw [hw.1, hw.2]
        simp
      rw [e] at p3
      exact p3.fin A3.s (ea ▸ r1)
    | lst l => exact .inl (gen rfl p3)
    | rol l => exact .inl (gen rfl p3)
    | cell n =>
      unfold gSl at p3
      dsimp only at p3
      split at p3
      · rename_i l hl
        exact .inl (gen hl p3)
      · exact p3.elim
    | _ => exact p3.elim
end
/-! calls -/
abbrev CF := List D → Store → Res D
def eC (g : CF) (fa : RF (List D)) : EF := fun env S => (fa env S).bind fun xs S => g xs S
/-- what a rule of a call asks is granted by a function on data -/
def OkC (K : PySem.W.Frag) (T : Tbl) (r : List V → Hp → VK → Prop) (g : CF) : Prop := ∀ (W : XK) (G : GS) (S : Store) (H : Hp) (xs : List V) (ds : List D) (Q : VK), SR K T G S H → RepL K G xs ds → Post K T (Rep K) W G Q (g ds S) → r xs H Q
section
variable {X : Cx} {T : Tbl} {W : WX} {pos p : Pos} {e : Expr} {es : List Expr} {fa : RF (List D)} {r : List V → Hp → VK → Prop} {g : CF} {id TT : String} {x : Str}
theorem t_cb (ok : OkC X.K T r g) (ha : SA X T W es fa) (σ : L2.St) (H : Hp) (Q : VK) (t : tG X.K T (Rep X.K) W (eC g fa) σ H Q) : tCB r (tG X.K T (RepL X.K) W fa) σ H Q := by
  obtain ⟨env, G, S, s, e, p⟩ := t
  exact chain ⟨s, e⟩ p fun xs H1 ds S1 G1 l1 A1 r1 p1 => ok _ G1 S1 H1 xs ds Q A1.s r1 p1
theorem se_cB (hc : CallR X (.builtin id) r) (ok : OkC X.K T r g) (hg : Gl X x) (hm : X.mg x = none) (hv : bootBuiltins x = some (.builtin id)) (ha : SA X T W (e :: es) fa) (hn : x ≠ "__name__" := by decide) (hdb : (x == ("__debug__" : Str)) = false := by decide)
    (he : starEach (e :: es) X.env = (false, eval e X.env) :: starEach es X.env := by rfl) (hpl : (backTo pos (starEach es X.env)).any (·.1) = false := by rfl) : SE X T W (.Call (.Name x p) (e :: es) [] pos) (eC g fa) := PE.imp (pe_callB hc hg hm hv ha hn hdb he hpl) (t_cb ok ha)
theorem se_cT (hc : CallR X (.type TT) r) (ok : OkC X.K T r g) (hg : Gl X x) (hm : X.mg x = none) (hv : bootBuiltins x = some (.type TT)) (ha : SA X T W (e :: es) fa) (hn : x ≠ "__name__" := by decide) (hdb : (x == ("__debug__" : Str)) = false := by decide)
    (he : starEach (e :: es) X.env = (false, eval e X.env) :: starEach es X.env := by rfl) (hpl : (backTo pos (starEach es X.env)).any (·.1) = false := by rfl) : SE X T W (.Call (.Name x p) (e :: es) [] pos) (eC g fa) := PE.imp (pe_callTy hc hg hm hv ha hn hdb he hpl) (t_cb ok ha)
end
def gLen : CF := fun ds S => match ds with
  | [.str z] => if z.length ≤ lineN then .ok (.int z.length) S else .bad
  | [x] => match rd S x with
    | some (_, l) => .ok (.int l.length) S
    | none => .bad
  | _ => .bad
def gInt1 : CF := fun ds S => match ds with
  | [.int i] => .ok (.int i) S
  | [.bl k] => .ok (.int (if k then 1 else 0)) S
  | _ => .bad
def gMax2 : CF := fun ds S => match ds with
  | [.int i, .int j] => .ok (.int (if j > i then j else i)) S
  | _ => .bad
def gMin2 : CF := fun ds S => match ds with
  | [.int i, .int j] => .ok (.int (if j < i then j else i)) S
  | _ => .bad
def gAbs : CF := fun ds S => match ds with
  | [.int i] => .ok (.int (if i < 0 then -i else i)) S
  | _ => .bad
def dInts : List D → Option (List Int)
  | [] => some []
  | .int i :: r => (dInts r).map (i :: ·)
  | _ => none
def dBls : List D → Option (List Bool)
  | [] => some []
  | .bl i :: r => (dBls r).map (i :: ·)
  | _ => none
/-- the dInts of a list that is read -/
def rdI (S : Store) (d : D) : Option (List Int) := match rd S d with
  | some (false, l) => dInts l
  | _ => none
def rdB (S : Store) (d : D) : Option (List Bool) := match rd S d with
  | some (false, l) => dBls l
  | _ => none
def gSum : CF := fun ds S => match ds with
  | [x] => match rdI S x with
    | some ns => .ok (.int ns.sum) S
    | none => .bad
  | _ => .bad
def maxI : List Int → Option Int
  | [] => none
  | i :: r => some (r.foldl max i)
def minI : List Int → Option Int
  | [] => none
  | i :: r => some (r.foldl min i)
def gMaxL : CF := fun ds S => match ds with
  | [x] => match rdI S x with
    | some ns => match maxI ns with
      | some m => .ok (.int m) S
      | none => .bad
    | none => .bad
  | _ => .bad
def gMinL : CF := fun ds S => match ds with
  | [x] => match rdI S x with
    | some ns => match minI ns with
      | some m => .ok (.int m) S
      | none => .bad
    | none => .bad
  | _ => .bad
def gAll : CF := fun ds S => match ds with
  | [x] => match rdB S x with
    | some bs => .ok (.bl (bs.all id)) S
    | none => .bad
  | _ => .bad
def gAny : CF := fun ds S => match ds with
  | [x] => match rdB S x with
    | some bs => .ok (.bl (bs.any id)) S
    | none => .bad
  | _ => .bad
def gList (mk : MkF) : CF := fun ds S => match ds with
  | [x] => match rd S x with
    | some (_, l) => mk l S
    | none => .bad
  | _ => .bad
def gTuple : CF := fun ds S => match ds with
  | [x] => match rd S x with
    | some (_, l) => .ok (.tup l) S
    | none => .bad
  | _ => .bad
def gBool : CF := fun ds S => match ds with
  | [.bl b] => .ok (.bl b) S
  | [.int i] => .ok (.bl (i != 0)) S
  | _ => .bad
def gStrI : CF := fun ds S => match ds with
  | [.int i] => if i.natAbs.log2 < 1920 then .ok (.str (toString i)) S else .bad
  | _ => .bad
section
variable {K : PySem.W.Frag} {T : Tbl} {G : GS}
theorem RepL.one {xs : List V} {d : D} (r : RepL K G xs [d]) : ∃ x, xs = [x] ∧ Rep K G x d := by
  obtain ⟨x, r', e, h, z⟩ := r
  rw [show r' = [] from z] at e
  exact ⟨x, e, h⟩
theorem RepL.two {xs : List V} {d d2 : D} (r : RepL K G xs [d, d2]) : ∃ x y, xs = [x, y] ∧ Rep K G x d ∧ Rep K G y d2 := by
  obtain ⟨x, r', e, h, z⟩ := r
  obtain ⟨y, e2, h2⟩ := RepL.one z
  rw [e2] at e
  exact ⟨x, y, e, h, h2⟩
theorem dInts_ok : ∀ {l : List D} {xs : List V} {ns : List Int}, RepL K G xs l → dInts l = some ns → xs = ns.map V.int
  | [], _, _, r, h => by
    cases h
    rw [show _ = _ from r]
    rfl
  | .int i :: ds, _, _, ⟨x, r, e, a, b⟩, h => by
    unfold dInts at h
    cases z : dInts ds with
    | none => rw [z] at h; cases h
    | some ms =>
      rw [z] at h
      cases h
      rw [e, dInts_ok b z, show x = _ from a]
      rfl
  | .non :: _, _, _, _, h => by cases h
  | .bl _ :: _, _, _, _, h => by cases h
  | .str _ :: _, _, _, _, h => by cases h
  | .ty _ :: _, _, _, _, h => by cases h
  | .tup _ :: _, _, _, _, h => by cases h
  | .lst _ :: _, _, _, _, h => by cases h
  | .rol _ :: _, _, _, _, h => by cases h
  | .obj _ _ _ :: _, _, _, _, h => by cases h
  | .cell _ :: _, _, _, _, h => by cases h
theorem dBls_ok : ∀ {l : List D} {xs : List V} {ns : List Bool}, RepL K G xs l → dBls l = some ns → xs = ns.map V.bl
  | [], _, _, r, h => by
    cases h
    rw [show _ = _ from r]
    rfl
  | .bl i :: ds, _, _, ⟨x, r, e, a, b⟩, h => by
    unfold dBls at h
    cases z : dBls ds with
    | none => rw [z] at h; cases h
    | some ms =>
      rw [z] at h
      cases h
      rw [e, dBls_ok b z, show x = _ from a]
      rfl
  | .non :: _, _, _, _, h => by cases h
  | .int _ :: _, _, _, _, h => by cases h
  | .str _ :: _, _, _, _, h => by cases h
  | .ty _ :: _, _, _, _, h => by cases h
  | .tup _ :: _, _, _, _, h => by cases h
  | .lst _ :: _, _, _, _, h => by cases h
  | .rol _ :: _, _, _, _, h => by cases h
  | .obj _ _ _ :: _, _, _, _, h => by cases h
  | .cell _ :: _, _, _, _, h => by cases h
theorem rdI_ok {S : Store} {H : Hp} {v : V} {d : D} {ns : List Int} (s : SR K T G S H) (r : Rep K G v d) (h : rdI S d = some ns) : ∃ a, v = .ref a ∧ SqL K H a (ns.map V.int) := by
  unfold rdI at h
  split at h
  · rename_i l hl
    obtain ⟨a, xs, e, q, rr⟩ := rd_list s r hl
    rw [dInts_ok rr h] at q
    exact ⟨a, e, q⟩
  · cases h
theorem rdB_ok {S : Store} {H : Hp} {v : V} {d : D} {ns : List Bool} (s : SR K T G S H) (r : Rep K G v d) (h : rdB S d = some ns) : ∃ a, v = .ref a ∧ SqL K H a (ns.map V.bl) := by
  unfold rdB at h
  split at h
  · rename_i l hl
    obtain ⟨a, xs, e, q, rr⟩ := rd_list s r hl
    rw [dBls_ok rr h] at q
    exact ⟨a, e, q⟩
  · cases h
theorem ok_len : OkC K T (fun xs H Q => ∃ x n, xs = [x] ∧ LenV K x H n ∧ Q (.int n) H) gLen := fun W G S H xs ds Q s r p => by
  unfold gLen at p
  split at p
  · split at p
    · rename_i z hz
      obtain ⟨x, e, h⟩ := r.one
      refine ⟨x, z.length, e, ?_, p.fin s rfl⟩
      rw [show x = _ from h]
      exact ⟨by rw [lineN_eq]; exact hz, rfl⟩
    · exact p.elim
  · rename_i d _
    split at p
    · rename_i t l hl
      obtain ⟨x, e, h⟩ := r.one
      obtain ⟨a, ys, e2, h2, h3⟩ := rd_any s h hl
      refine ⟨x, l.length, e, ?_, p.fin s rfl⟩
      rw [e2]
      rcases h2 with h2 | h2
      · exact .inl ⟨ys, h2, h3.len.symm⟩
      · exact .inr ⟨ys, h2, h3.len.symm⟩
    · exact p.elim
  · exact p.elim
theorem ok_int1 : OkC K T (fun xs H Q => (∃ i, xs = [.int i] ∧ Q (.int i) H) ∨ ∃ k, xs = [.bl k] ∧ Q (.int (if k then 1 else 0)) H) gInt1 := fun W G S H xs ds Q s r p => by
  unfold gInt1 at p
  split at p
  · obtain ⟨x, e, h⟩ := r.one
    exact .inl ⟨_, by rw [e, show x = _ from h], p.fin s rfl⟩
  · obtain ⟨x, e, h⟩ := r.one
    exact .inr ⟨_, by rw [e, show x = _ from h], p.fin s rfl⟩
  · exact p.elim
theorem ok_max2 : OkC K T (fun xs H Q => ∃ i j, xs = [.int i, .int j] ∧ Q (.int (if j > i then j else i)) H) gMax2 := fun W G S H xs ds Q s r p => by
  unfold gMax2 at p
  split at p
  · obtain ⟨x, y, e, h, h2⟩ := r.two
    exact ⟨_, _, by rw [e, show x = _ from h, show y = _ from h2], p.fin s rfl⟩
  · exact p.elim
theorem ok_min2 : OkC K T (fun xs H Q => ∃ i j, xs = [.int i, .int j] ∧ Q (.int (if j < i then j else i)) H) gMin2 := fun W G S H xs ds Q s r p => by
  unfold gMin2 at p
  split at p
  · obtain ⟨x, y, e, h, h2⟩ := r.two
    exact ⟨_, _, by rw [e, show x = _ from h, show y = _ from h2], p.fin s rfl⟩
  · exact p.elim
theorem ok_abs : OkC K T (fun xs H Q => ∃ i, xs = [.int i] ∧ Q (.int (if i < 0 then -i else i)) H) gAbs := fun W G S H xs ds Q s r p => by
  unfold gAbs at p
  split at p
  · obtain ⟨x, e, h⟩ := r.one
    exact ⟨_, by rw [e, show x = _ from h], p.fin s rfl⟩
  · exact p.elim
theorem ok_strI : OkC K T (fun xs H Q => ∃ i, xs = [.int i] ∧ i.natAbs.log2 < 1920 ∧ Q (.str (toString i)) H) gStrI := fun W G S H xs ds Q s r p => by
  unfold gStrI at p
  split at p
  · split at p
    · rename_i hi
      obtain ⟨x, e, h⟩ := r.one
      exact ⟨_, by rw [e, show x = _ from h], hi, p.fin s rfl⟩
    · exact p.elim
  · exact p.elim
theorem ok_bool : OkC K T (fun xs H Q => (∃ i, xs = [.int i] ∧ Q (.bl (i != 0)) H) ∨ ∃ k, xs = [.bl k] ∧ Q (.bl k) H) gBool := fun W G S H xs ds Q s r p => by
  unfold gBool at p
  split at p
  · obtain ⟨x, e, h⟩ := r.one
    exact .inr ⟨_, by rw [e, show x = _ from h], p.fin s rfl⟩
  · obtain ⟨x, e, h⟩ := r.one
    exact .inl ⟨_, by rw [e, show x = _ from h], p.fin s rfl⟩
  · exact p.elim
theorem ok_sum : OkC K T (rSum K) gSum := fun W G S H xs ds Q s r p => by
  unfold gSum at p
  split at p
  · split at p
    · rename_i ns hn
      obtain ⟨x, e, h⟩ := r.one
      obtain ⟨a, e2, h2⟩ := rdI_ok s h hn
      exact ⟨a, ns, by rw [e, e2], h2, p.fin s rfl⟩
    · exact p.elim
  · exact p.elim
theorem foldl_max_mem : ∀ (r : List Int) (i : Int), r.foldl max i = i ∨ r.foldl max i ∈ r
  | [], _ => .inl rfl
  | j :: r, i => by
    rw [List.foldl_cons]
    rcases foldl_max_mem r (max i j) with h | h
    · rw [h]
      by_cases q : i ≤ j
      · exact .inr (by rw [Int.max_eq_right q]; exact List.mem_cons_self)
      · exact .inl (Int.max_eq_left (by omega))
    · exact .inr (List.mem_cons_of_mem _ h)
theorem foldl_max_le : ∀ (r : List Int) (i : Int), i ≤ r.foldl max i ∧ ∀ y ∈ r, y ≤ r.foldl max i
  | [], i => ⟨Int.le_refl i, fun y h => by cases h⟩
  | j :: r, i => by
    rw [List.foldl_cons]
    obtain ⟨h1, h2⟩ := foldl_max_le r (max i j)
    refine ⟨Int.le_trans (Int.le_max_left i j) h1, fun y hy => ?_⟩
    rcases List.mem_cons.mp hy with e | hy
    · rw [e]
      exact Int.le_trans (Int.le_max_right i j) h1
    · exact h2 y hy
theorem foldl_min_mem : ∀ (r : List Int) (i : Int), r.foldl min i = i ∨ r.foldl min i ∈ r
  | [], _ => .inl rfl
  | j :: r, i => by
    rw [List.foldl_cons]
    rcases foldl_min_mem r (min i j) with h | h
    · rw [h]
      by_cases q : i ≤ j
      · exact .inl (Int.min_eq_left q)
      · exact .inr (by rw [Int.min_eq_right (by omega)]; exact List.mem_cons_self)
    · exact .inr (List.mem_cons_of_mem _ h)
theorem foldl_min_le : ∀ (r : List Int) (i : Int), r.foldl min i ≤ i ∧ ∀ y ∈ r, r.foldl min i ≤ y
  | [], i => ⟨Int.le_refl i, fun y h => by cases h⟩
  | j :: r, i => by
    rw [List.foldl_cons]
    obtain ⟨h1, h2⟩ := foldl_min_le r (min i j)
    refine ⟨Int.le_trans h1 (Int.min_le_left i j), fun y hy => ?_⟩
    rcases List.mem_cons.mp hy with e | hy
    · rw [e]
      exact Int.le_trans h1 (Int.min_le_right i j)
    · exact h2 y hy
theorem maxI_ok {ns : List Int} {m : Int} (h : maxI ns = some m) : 0 < ns.length ∧ ∀ k, k ∈ ns → (∀ y, y ∈ ns → y ≤ k) → k = m := by
  cases ns with
  | nil => cases h
  | cons i r =>
    cases h
    refine ⟨by simp, fun k hk hle => ?_⟩
    obtain ⟨h1, h2⟩ := foldl_max_le r i
    have a1 : k ≤ r.foldl max i := by
      rcases List.mem_cons.mp hk with e | hk
      · rw [e]; exact h1
      · exact h2 k hk
    have a2 : r.foldl max i ≤ k := by
      rcases foldl_max_mem r i with e | e
      · rw [e]; exact hle i List.mem_cons_self
      · exact hle _ (List.mem_cons_of_mem _ e)
    omega
theorem minI_ok {ns : List Int} {m : Int} (h : minI ns = some m) : 0 < ns.length ∧ ∀ k, k ∈ ns → (∀ y, y ∈ ns → k ≤ y) → k = m := by
  cases ns with
  | nil => cases h
  | cons i r =>
    cases h
    refine ⟨by simp, fun k hk hle => ?_⟩
    obtain ⟨h1, h2⟩ := foldl_min_le r i
    have a1 : r.foldl min i ≤ k := by
      rcases List.mem_cons.mp hk with e | hk
      · rw [e]; exact h1
      · exact h2 k hk
    have a2 : k ≤ r.foldl min i := by
      rcases foldl_min_mem r i with e | e
      · rw [e]; exact hle i List.mem_cons_self
      · exact hle _ (List.mem_cons_of_mem _ e)
    omega
theorem ok_maxL : OkC K T (rMax K) gMaxL := fun W G S H xs ds Q s r p => by
  unfold gMaxL at p
  split at p
  · split at p
    · rename_i ns hn
      split at p
      · rename_i m hm
        obtain ⟨x, e, h⟩ := r.one
        obtain ⟨a, e2, h2⟩ := rdI_ok s h hn
        obtain ⟨h3, h4⟩ := maxI_ok hm
        exact ⟨a, ns, by rw [e, e2], h2, h3, fun k k1 k2 => by rw [h4 k k1 k2]; exact p.fin s rfl⟩
      · exact p.elim
    · exact p.elim
  · exact p.elim
theorem ok_minL : OkC K T (rMin K) gMinL := fun W G S H xs ds Q s r p => by
  unfold gMinL at p
  split at p
  · split at p
    · rename_i ns hn
      split at p
      · rename_i m hm
        obtain ⟨x, e, h⟩ := r.one
        obtain ⟨a, e2, h2⟩ := rdI_ok s h hn
        obtain ⟨h3, h4⟩ := minI_ok hm
        exact ⟨a, ns, by rw [e, e2], h2, h3, fun k k1 k2 => by rw [h4 k k1 k2]; exact p.fin s rfl⟩
      · exact p.elim
    · exact p.elim
  · exact p.elim
theorem ok_all : OkC K T (rAll K) gAll := fun W G S H xs ds Q s r p => by
  unfold gAll at p
  split at p
  · split at p
    · rename_i ns hn
      obtain ⟨x, e, h⟩ := r.one
      obtain ⟨a, e2, h2⟩ := rdB_ok s h hn
      exact ⟨a, ns, by rw [e, e2], h2, p.fin s rfl⟩
    · exact p.elim
  · exact p.elim
theorem ok_any : OkC K T (rAny K) gAny := fun W G S H xs ds Q s r p => by
  unfold gAny at p
  split at p
  · split at p
    · rename_i ns hn
      obtain ⟨x, e, h⟩ := r.one
      obtain ⟨a, e2, h2⟩ := rdB_ok s h hn
      exact ⟨a, ns, by rw [e, e2], h2, p.fin s rfl⟩
    · exact p.elim
  · exact p.elim
theorem ok_list {mk : MkF} (hmk : MkOk mk) : OkC K T (fun xs H Q => ∃ p ys, xs = [.ref p] ∧ (SqL K H p ys ∨ SqT K H p ys) ∧ ∀ l, H l = none → Q (.ref l) (upd H l (.lst ys))) (gList mk) := fun W G S H xs ds Q s r p => by
  unfold gList at p
  split at p
  · split at p
    · rename_i t l hl
      obtain ⟨x, e, h⟩ := r.one
      obtain ⟨a, ys, e2, h2, h3⟩ := rd_any s h hl
      exact ⟨a, ys, by rw [e, e2], h2, fun q hq => hmk.new _ _ _ _ _ _ _ q _ Q s h3 hq p⟩
    · exact p.elim
  · exact p.elim
theorem rd_true {S : Store} {d : D} {l : List D} (h : rd S d = some (true, l)) : d = .tup l := by
  cases d with
  | tup m => cases h; rfl
  | cell n =>
    unfold rd at h
    dsimp only at h
    split at h <;> cases h
  | _ => cases h
theorem ok_tuple : OkC K T (fun xs H Q => ∃ p ys, xs = [.ref p] ∧ ((SqL K H p ys ∧ ∀ l, H l = none → Q (.ref l) (upd H l (.tup ys))) ∨ (SqT K H p ys ∧ Q (.ref p) H))) gTuple := fun W G S H xs ds Q s r p => by
  unfold gTuple at p
  split at p
  · split at p
    · rename_i t l hl
      obtain ⟨x, e, h⟩ := r.one
      cases t with
      | false =>
        obtain ⟨a, ys, e2, h2, h3⟩ := rd_list s h hl
        exact ⟨a, ys, by rw [e, e2], .inl ⟨h2, fun q hq => tup_new s h3 hq p⟩⟩
      | true =>
        obtain ⟨a, ys, e2, h2, h3⟩ := rd_tup s h hl
        refine ⟨a, ys, by rw [e, e2], .inr ⟨h2, p.fin s ?_⟩⟩
        rw [← e2, ← rd_true hl]
        exact h
    · exact p.elim
  · exact p.elim
end
end Z
end
section
set_option Elab.async false
set_option linter.all false
set_option maxRecDepth 100000
namespace Z
open PySem PySem.Spec PyProof.Rows
open L2
/-! targets -/
def gG (K : PySem.W.Frag) (T : Tbl) (vs : List Nat) (g : D → DEnv → Option DEnv) : TG := fun v σ H Q => ∃ env G S d, SR K T G S H ∧ ER K G σ env ∧ Rep K G v d ∧ ∃ env', g d env = some env' ∧ ∀ σ', ER K G σ' env' → wipe σ' vs = wipe σ vs → Q σ' H
def gGs (K : PySem.W.Frag) (T : Tbl) (vs : List Nat) (g : List D → DEnv → Option DEnv) : TGs := fun xs σ H Q => ∃ env G S ds, SR K T G S H ∧ ER K G σ env ∧ RepL K G xs ds ∧ ∃ env', g ds env = some env' ∧ ∀ σ', ER K G σ' env' → wipe σ' vs = wipe σ vs → Q σ' H
abbrev SG (X : Cx) (T : Tbl) (vs : List Nat) (tg : Expr) (g : D → DEnv → Option DEnv) : Prop := PG X tg (gG X.K T vs g)
abbrev SGs (X : Cx) (T : Tbl) (vs : List Nat) (ts : List Expr) (g : List D → DEnv → Option DEnv) : Prop := PGs X ts (gGs X.K T vs g)
theorem PG.imp {X : Cx} {e : Expr} {t t' : TG} (h : PG X e t) (i : ∀ v σ H Q, t' v σ H Q → t v σ H Q) : PG X e t' := ⟨fun pins s σ H v u Q I r q => h.run pins s σ H v u Q I r (i v σ H Q q)⟩
theorem PGs.imp {X : Cx} {es : List Expr} {t t' : TGs} (h : PGs X es t) (i : ∀ v σ H Q, t' v σ H Q → t v σ H Q) : PGs X es t' := ⟨fun pins s σ H v u Q I r q => h.run pins s σ H v u Q I r (i v σ H Q q)⟩
def tN (i : Nat) : D → DEnv → Option DEnv := fun d env => some (env.set i (some d))
def tNil : List D → DEnv → Option DEnv := fun ds env => match ds with
  | [] => some env
  | _ => none
def tCons (t : D → DEnv → Option DEnv) (ts : List D → DEnv → Option DEnv) : List D → DEnv → Option DEnv := fun ds env => match ds with
  | d :: ds => (t d env).bind (ts ds)
  | [] => none
def tT (n : Nat) (ts : List D → DEnv → Option DEnv) : D → DEnv → Option DEnv := fun d env => match d with
  | .tup l => if l.length = n then ts l env else none
  | _ => none
theorem wipe_set {σ : L2.St} {i : Nat} {x : Option V} : ∀ {vs : List Nat}, i ∈ vs → wipe (σ.set i x) vs = wipe σ vs
  | [], h => by cases h
  | v :: vs, h => by
    unfold wipe
    by_cases e : i ∈ vs
    · rw [wipe_set e]
    · have q : v = i := by
        rcases List.mem_cons.mp h with z | z
        · exact z.symm
        · exact absurd z e
      subst q
      have key : ∀ vs : List Nat, v ∉ vs → wipe (σ.set v x) vs = (wipe σ vs).set v x := by
        intro vs
        induction vs with
        | nil => intro _; rfl
        | cons w vs ih =>
          intro hn
          unfold wipe
          rw [ih fun z => hn (List.mem_cons_of_mem _ z), List.set_comm]
          exact fun z => hn (by rw [z]; exact List.mem_cons_self)
      rw [key vs e, List.set_set]
section
variable {X : Cx} {T : Tbl} {vs : List Nat} {pos : Pos} {e : Expr} {es : List Expr}
theorem sg_name {i : Nat} {x : Str} (hN : X.N.Nodup) (hi : X.N[i]? = some x) (hx : Loc X.env.scope x) (hf : X.fn x = true ∨ X.env.scope.names.lookup x = some .local) (hv : i ∈ vs) : SG X T vs (.Name x pos) (tN i) :=
  PG.imp (pg_name hN hi hx hf) fun v σ H Q ⟨env, G, S, d, s, er, r, env', h, k⟩ => by
    cases h
    exact k _ (er.set r) (wipe_set hv)
theorem sgs_nil : SGs X T vs [] tNil := PGs.imp pgs_nil fun xs σ H Q ⟨env, G, S, ds, s, er, r, env', h, k⟩ => by
  cases ds with
  | nil =>
    cases h
    exact ⟨r, k σ er rfl⟩
  | cons d ds => cases h
theorem sgs_cons {t : D → DEnv → Option DEnv} {ts : List D → DEnv → Option DEnv} (h1 : SG X T vs e t) (h2 : SGs X T vs es ts) (hs : (assignEach (e :: es) X.env).map (·.2) = assign e X.env :: (assignEach es X.env).map (·.2) := by rfl) : SGs X T vs (e :: es) (tCons t ts) :=
  PGs.imp (pgs_cons h1 h2 hs) fun xs σ H Q ⟨env, G, S, ds, s, er, r, env', h, k⟩ => by
    cases ds with
    | nil => cases h
    | cons d ds =>
      obtain ⟨x, r', e, ra, rb⟩ := r
      unfold tCons at h
      dsimp only at h
      cases q : t d env with
      | none => rw [q] at h; cases h
      | some env1 =>
        rw [q] at h
        exact ⟨x, r', e, env, G, S, d, s, er, ra, env1, q, fun σ1 er1 w1 => ⟨env1, G, S, ds, s, er1, rb, env', h, fun σ2 er2 w2 => k σ2 er2 (w2.trans w1)⟩⟩
theorem sg_tup {k n : Nat} {ts : List D → DEnv → Option DEnv} (hc : X.calm = true) (h : SGs X T vs es ts) (hn : (assignEach es X.env).length = n := by rfl) (hst : (assignEach es X.env).findIdx? (·.1) = none := by rfl) : SG X T vs (.Tuple es k pos) (tT n ts) :=
  PG.imp (pg_tup hc h hn hst) fun v σ H Q ⟨env, G, S, d, s, er, r, env', h, k⟩ => by
    cases d with
    | tup l =>
      unfold tT at h
      dsimp only at h
      split at h
      · rename_i hl
        obtain ⟨a, xs, e, q, rr⟩ := r
        exact ⟨a, xs, e, sqT_up s.sub q, by rw [rr.len]; exact hl, env, G, S, l, s, er, rr, env', h, k⟩
      · cases h
    | _ => cases h
end
/-! what is walked -/
def Walks (K : PySem.W.Frag) (T : Tbl) (J : It) (G : GS) (l : List D) : Prop := ∀ (G' : GS) (S' : Store) (H' : Hp) (i : Nat), G.le G' → SR K T G' S' H' →
  (∀ d, l[i]? = some d → J.go i H' ∧ ∀ x H2, J.yld i H' x H2 → ∃ G2, G'.le G2 ∧ SR K T G2 S' H2 ∧ Rep K G2 x d) ∧ (l.length ≤ i → J.stop i H')
def tI (K : PySem.W.Frag) (T : Tbl) (W : WX) (f : RF (List D)) : TI := fun σ H R => ∃ env G S, SR K T G S H ∧ ER K G σ env ∧ match f env S with
  | .ok l S' => ∀ J H' G', G.le G' → SR K T G' S' H' → Walks K T J G' l → R J H'
  | .exc c ks ps S' => ∀ cls dx H' G', G.le G' → SR K T G' S' H' → XRep K G' cls dx c ks ps → W cls dx σ H'
  | .bad => False
abbrev SI (X : Cx) (T : Tbl) (W : WX) (tg iter : Expr) (f : RF (List D)) : Prop := PI X tg iter (tI X.K T W f)
theorem PI.imp {X : Cx} {tg e : Expr} {t t' : TI} (h : PI X tg e t) (i : ∀ σ H R, t' σ H R → t σ H R) : PI X tg e t' := ⟨fun pins s σ H R I q => h.run pins s σ H R I (i σ H R q)⟩
theorem PI.orI {X : Cx} {tg e : Expr} {t t' : TI} (h : PI X tg e t) (h' : PI X tg e t') : PI X tg e (fun σ H R => t σ H R ∨ t' σ H R) := ⟨fun pins s σ H R I q => q.elim (h.run pins s σ H R I) (h'.run pins s σ H R I)⟩
/-- an iterable's list, and the rest -/
def PostI (K : PySem.W.Frag) (T : Tbl) (W : XK) (G : GS) (R : It → Hp → Prop) : Res (List D) → Prop
  | .ok l S' => ∀ J H' G', G.le G' → SR K T G' S' H' → Walks K T J G' l → R J H'
  | .exc c ks ps S' => ∀ cls dx H' G', G.le G' → SR K T G' S' H' → XRep K G' cls dx c ks ps → W cls dx H'
  | .bad => False
section
variable {K : PySem.W.Frag} {T : Tbl} {G G' : GS} {S : Store} {H : Hp} {σ : L2.St} {env : DEnv} {W : WX} {R : It → Hp → Prop}
theorem tI_post {f : RF (List D)} (t : tI K T W f σ H R) : ∃ env G S, SR K T G S H ∧ ER K G σ env ∧ PostI K T (fun c d H' => W c d σ H') G R (f env S) := by
  obtain ⟨env, G, S, s, e, p⟩ := t
  refine ⟨env, G, S, s, e, ?_⟩
  cases q : f env S with
  | ok l S' => rw [q] at p; exact p
  | exc c ks ps S' => rw [q] at p; exact p
  | bad => rw [q] at p; exact p
theorem PostI.up {W' : XK} (h : G.le G') : ∀ {r : Res (List D)}, PostI K T W' G R r → PostI K T W' G' R r
  | .ok a S, p => fun b H' G2 l s r => p b H' G2 (h.trans l) s r
  | .exc c ks ps S, p => fun cls dx H' G2 l s r => p cls dx H' G2 (h.trans l) s r
  | .bad, p => p
/-- as chain, the end an iterable's -/
theorem chainI {γ δ : Type} {rel' : GS → δ → γ → Prop} {f : RF γ} {k : γ → Store → Res (List D)} {Q' : δ → Hp → Prop} (A : At K T σ env G S H) (p : PostI K T (fun c d H' => W c d σ H') G R ((f env S).bind k))
    (h : ∀ v H' d S' G', G.le G' → At K T σ env G' S' H' → rel' G' v d → PostI K T (fun c d H' => W c d σ H') G' R (k d S') → Q' v H') : tG K T rel' W f σ H Q' := by
  refine tG.mk A ?_
  cases q : f env S with
  | ok d S' =>
    rw [q] at p
    exact fun v H' G' l s r => h v H' d S' G' l ⟨s, A.e.up l⟩ r (p.up l)
  | exc c ks ps S' =>
    rw [q] at p
    exact p
  | bad =>
    rw [q] at p
    exact p
theorem walks_list {a : Addr} {xs : List V} {l : List D} (h : SqL K G.F a xs) (r : RepL K G xs l) : Walks K T (Itl K a) G l := fun G' S' H' i le s => by
  have h' : SqL K H' a xs := sqL_up s.sub (sqL_up le.F h)
  refine ⟨fun d hd => ?_, fun hi => ⟨xs, h', by rw [r.len]; exact hi⟩⟩
  obtain ⟨x, h1, h2⟩ := r.get hd
  refine ⟨⟨xs, x, h', h1⟩, fun y H2 hy => ?_⟩
  obtain ⟨e, q⟩ := hy
  subst e
  have := q xs h'
  rw [h1] at this
  cases this
  exact ⟨G', GS.le.refl G', s, h2.up le⟩
theorem walks_tup {a : Addr} {xs : List V} {l : List D} (h : SqT K G.F a xs) (r : RepL K G xs l) : Walks K T (Itt K a) G l := fun G' S' H' i le s => by
  have h' : SqT K H' a xs := sqT_up s.sub (sqT_up le.F h)
  refine ⟨fun d hd => ?_, fun hi => ⟨xs, h', by rw [r.len]; exact hi⟩⟩
  obtain ⟨x, h1, h2⟩ := r.get hd
  refine ⟨⟨xs, x, h', h1⟩, fun y H2 hy => ?_⟩
  obtain ⟨e, q⟩ := hy
  subst e
  have := q xs h'
  rw [h1] at this
  cases this
  exact ⟨G', GS.le.refl G', s, h2.up le⟩
def rngD (lo : Int) (n : Nat) : List D := (List.range n).map fun i => .int (lo + (i : Nat))
theorem walks_rng {lo : Int} {n : Nat} : Walks K T (Itr lo n) G (rngD lo n) := fun G' S' H' i le s => by
  refine ⟨fun d hd => ?_, fun hi => (show n ≤ i by simpa [rngD] using hi)⟩
  unfold rngD at hd
  rw [List.getElem?_map] at hd
  cases q : (List.range n)[i]? with
  | none => rw [q] at hd; cases hd
  | some j =>
    rw [q] at hd
    cases hd
    obtain ⟨h1, h2⟩ := List.getElem?_eq_some_iff.mp q
    rw [List.getElem_range] at h2
    rw [List.length_range] at h1
    subst h2
    refine ⟨h1, fun y H2 hy => ?_⟩
    obtain ⟨e, q⟩ := hy
    subst e
    exact ⟨G', GS.le.refl G', s, q⟩
end
/-- a frozen sequence -/
def frz? : D → Option (Bool × List D)
  | .tup l => some (true, l)
  | .lst l => some (false, l)
  | .rol l => some (false, l)
  | _ => none
def iSeq (f : EF) : RF (List D) := fun env S => (f env S).bind fun d S => match frz? d with
  | some (_, l) => .ok l S
  | none => .bad
def iRng1 (f : RF (List D)) : RF (List D) := fun env S => (f env S).bind fun ds S => match ds with
  | [.int j] => if j.natAbs < 2 ^ 62 then .ok (rngD 0 j.toNat) S else .bad
  | _ => .bad
def iRng2 (f : RF (List D)) : RF (List D) := fun env S => (f env S).bind fun ds S => match ds with
  | [.int i, .int j] => if i.natAbs < 2 ^ 62 ∧ j.natAbs < 2 ^ 62 then .ok (rngD i (j - i).toNat) S else .bad
  | _ => .bad
section
variable {X : Cx} {T : Tbl} {W : WX} {tg l a b : Expr} {pos p : Pos} {f : EF} {fa : RF (List D)}
theorem si_seq (h : SE X T W l f) : SI X T W tg l (iSeq f) := PI.imp (PI.orI (pi_list h) (pi_tup h)) fun σ H R t => by
  obtain ⟨env, G, S, s, e, p⟩ := tI_post t
  unfold iSeq at p
  cases q : f env S with
  | bad => rw [q] at p; exact p.elim
  | exc c ks ps S' =>
    rw [q] at p
    refine .inl ⟨env, G, S, s, e, ?_⟩
    rw [q]
    exact p
  | ok d S' =>
    have p' := p
    rw [q] at p'
    have p' : PostI X.K T (fun c d H' => W c d σ H') G R (match frz? d with | some (_, l) => .ok l S' | none => .bad) := p'
    cases z : frz? d with
    | none => rw [z] at p'; exact p'.elim
    | some tl =>
      obtain ⟨t, m⟩ := tl
      cases t with
      | false =>
        refine .inl (tG.mk ⟨s, e⟩ ?_)
        rw [q]
        rw [z] at p'
        intro v H' G' le s' r
        have : ∃ a xs, v = .ref a ∧ SqL X.K G'.F a xs ∧ RepL X.K G' xs m := by
          cases d with
          | lst l => cases z; obtain ⟨a, xs, e, h, r⟩ := r; exact ⟨a, xs, e, SqL.of h, r⟩
          | rol l => cases z; exact r
          | _ => cases z
        obtain ⟨a, xs, e1, h1, h2⟩ := this
        exact ⟨a, e1, ⟨xs, sqL_up s'.sub h1⟩, p' _ _ G' le s' (walks_list h1 h2)⟩
      | true =>
        refine .inr (tG.mk ⟨s, e⟩ ?_)
        rw [q]
        rw [z] at p'
        intro v H' G' le s' r
        have : ∃ a xs, v = .ref a ∧ SqT X.K G'.F a xs ∧ RepL X.K G' xs m := by
          cases d with
          | tup l => cases z; exact r
          | _ => cases z
        obtain ⟨a, xs, e1, h1, h2⟩ := this
        exact ⟨a, e1, ⟨xs, sqT_up s'.sub h1⟩, p' _ _ G' le s' (walks_tup h1 h2)⟩
theorem si_rng1 (hg : Gl X "range") (hm : X.mg "range" = none) (ha : SA X T W [a] fa) (hs : starEach [a] X.env = [(false, eval a X.env)] := by rfl) : SI X T W tg (.Call (.Name "range" p) [a] [] pos) (iRng1 fa) := PI.imp (pi_range1 hg hm ha hs) fun σ H R t => by
  obtain ⟨env, G, S, s, e, q⟩ := tI_post t
  refine chainI ⟨s, e⟩ q fun xs H1 ds S1 G1 l1 A1 r1 p1 => ?_
  split at p1
  · rename_i j
    split at p1
    · rename_i hj
      obtain ⟨x, e1, e2⟩ := r1.one
      exact ⟨j, by rw [e1, show x = _ from e2], by omega, by omega, p1 _ _ G1 (GS.le.refl _) A1.s walks_rng⟩
    · exact p1.elim
  · exact p1.elim
theorem si_rng2 (hg : Gl X "range") (hm : X.mg "range" = none) (ha : SA X T W [a, b] fa) (hs : starEach [a, b] X.env = [(false, eval a X.env), (false, eval b X.env)] := by rfl) (hs2 : starEach [b] X.env = [(false, eval b X.env)] := by rfl) :
    SI X T W tg (.Call (.Name "range" p) [a, b] [] pos) (iRng2 fa) := PI.imp (pi_range2 hg hm ha hs hs2) fun σ H R t => by
  obtain ⟨env, G, S, s, e, q⟩ := tI_post t
  refine chainI ⟨s, e⟩ q fun xs H1 ds S1 G1 l1 A1 r1 p1 => ?_
  split at p1
  · rename_i i j
    split at p1
    · rename_i hj
      obtain ⟨x, y, e1, e2, e3⟩ := r1.two
      exact ⟨i, j, by rw [e1, show x = _ from e2, show y = _ from e3], by omega, p1 _ _ G1 (GS.le.refl _) A1.s walks_rng⟩
    · exact p1.elim
  · exact p1.elim
end
/-! blocks and statements -/
def sNx : SF := fun env S => .nx env S
def sSeq (f g : SF) : SF := fun env S => match f env S with
  | .nx e S' => g e S'
  | r => r
def sE {α : Type} (r : Res α) (env : DEnv) (k : α → Store → SRes) : SRes := match r with
  | .ok a S => k a S
  | .exc c ks ps S => .exc env c ks ps S
  | .bad => .bad
def sRet (f : EF) : SF := fun env S => sE (f env S) env fun d S => .ret d S
def sRetN : SF := fun _ S => .ret .non S
def sDrop (f : EF) : SF := fun env S => sE (f env S) env fun _ S => .nx env S
def sIf (t : RF Bool) (f g : SF) : SF := fun env S => sE (t env S) env fun b S => if b = true then f env S else g env S
def sAsg (f : EF) (g : D → DEnv → Option DEnv) : SF := fun env S => sE (f env S) env fun d S => match g d env with
  | some e => .nx e S
  | none => .bad
def sPar (i j : Nat) (fa : RF (List D)) : SF := fun env S => sE (fa env S) env fun ds S => match ds with
  | [x, y] => .nx ((env.set i (some x)).set j (some y)) S
  | _ => .bad
section
variable {K : PySem.W.Frag} {T : Tbl} {G G' : GS} {S : Store} {H : Hp} {σ : L2.St} {env : DEnv} {W : WX} {D' : Ends}
/-- the first thing of a statement -/
theorem chainS {γ δ : Type} {rel' : GS → δ → γ → Prop} {f : RF γ} {k : γ → Store → SRes} {Q' : δ → Hp → Prop} (A : At K T σ env G S H) (p : PostS K T W G D' (sE (f env S) env k))
    (h : ∀ v H' d S' G', G.le G' → At K T σ env G' S' H' → rel' G' v d → PostS K T W G' D' (k d S') → Q' v H') : tG K T rel' W f σ H Q' := by
  refine tG.mk A ?_
  cases q : f env S with
  | ok d S' =>
    rw [q] at p
    exact fun v H' G' l s r => h v H' d S' G' l ⟨s, A.e.up l⟩ r (p.up l)
  | exc c ks ps S' =>
    rw [q] at p
    exact fun cls dx H' G' l s r => p cls dx σ H' G' l s (A.e.up l) r
  | bad =>
    rw [q] at p
    exact p
theorem PostS.imp {D2 : Ends} (h1 : ∀ σ H, D'.nx σ H → D2.nx σ H) (h2 : ∀ v H, D'.rt v H → D2.rt v H) (h3 : ∀ σ H, D'.bk σ H → D2.bk σ H) (h4 : ∀ σ H, D'.ct σ H → D2.ct σ H) : ∀ {r : SRes}, PostS K T W G D' r → PostS K T W G D2 r
  | .nx _ _, p => fun a b G2 l s r => h1 _ _ (p a b G2 l s r)
  | .brk _ _, p => fun a b G2 l s r => h3 _ _ (p a b G2 l s r)
  | .cnt _ _, p => fun a b G2 l s r => h4 _ _ (p a b G2 l s r)
  | .ret _ _, p => fun a b G2 l s r => h2 _ _ (p a b G2 l s r)
  | .exc _ c ks ps S, p => p
  | .bad, p => p
theorem tS.mk {f : SF} (A : At K T σ env G S H) (p : PostS K T W G D' (f env S)) : tS K T W f D' σ H := ⟨env, G, S, A.s, A.e, p⟩
end
section
variable {X : Cx} {T : Tbl} {W : WX} {pos p2 : Pos} {st : Stmt} {sts a b : List Stmt} {f g : SF} {e : Expr} {fe : EF}
theorem ss_nil : SSs X T W [] sNx := PSs.imp pss_nil fun D σ H ⟨env, G, S, s, e, p⟩ => p σ H G (GS.le.refl G) s e
theorem ss_one (h : SS X T W st f) : SSs X T W [st] f := pss_one h
theorem ss_cons (h1 : SS X T W st f) (h2 : SSs X T W sts g) : SSs X T W (st :: sts) (sSeq f g) := PSs.imp (pss_cons h1 h2) fun D σ H ⟨env, G, S, s, e, p⟩ => by
  refine tS.mk (D' := { D with nx := tS X.K T W g D }) ⟨s, e⟩ ?_
  unfold sSeq at p
  cases q : f env S with
  | nx e' S' =>
    rw [q] at p
    exact fun σ' H' G' l s' e'' => tS.mk ⟨s', e''⟩ (p.up l)
  | ret d S' => rw [q] at p; exact p
  | brk e' S' => rw [q] at p; exact p
  | cnt e' S' => rw [q] at p; exact p
  | exc e' c ks ps S' => rw [q] at p; exact p
  | bad => rw [q] at p; exact p
theorem ss_ret (h : SE X T W e fe) : SS X T W (.Return (some e) pos) (sRet fe) := PS.imp (ps_ret h) fun D σ H ⟨env, G, S, s, e, p⟩ =>
  chainS ⟨s, e⟩ p fun v H' d S' G' l A r q => q v H' G' (GS.le.refl _) A.s r
theorem ss_retN : SS X T W (.Return none pos) sRetN := PS.imp ps_retN fun D σ H ⟨env, G, S, s, e, p⟩ => p .non H G (GS.le.refl _) s rfl
theorem ss_expr (h : SE X T W e fe) (hs : swapsWith e none pos.line X.env = pure false := by rfl) : SS X T W (.Expr e pos) (sDrop fe) := PS.imp (ps_expr h hs) fun D σ H ⟨env, G, S, s, e, p⟩ =>
  chainS ⟨s, e⟩ p fun v H' d S' G' l A r q => q σ H' G' (GS.le.refl _) A.s A.e
theorem ss_pass : SS X T W (.Pass pos) sNx := PS.imp ps_pass fun D σ H ⟨env, G, S, s, e, p⟩ => p σ H G (GS.le.refl G) s e
theorem ss_break : SS X T W (.Break pos) (fun env S => .brk env S) := PS.imp ps_break fun D σ H ⟨env, G, S, s, e, p⟩ => p σ H G (GS.le.refl G) s e
theorem ss_continue : SS X T W (.Continue pos) (fun env S => .cnt env S) := PS.imp ps_continue fun D σ H ⟨env, G, S, s, e, p⟩ => p σ H G (GS.le.refl G) s e
theorem ss_if {c : Expr} {t : RF Bool} (hc : ST X T W c t) (ha : SSs X T W a f) (hb : SSs X T W b g) : SS X T W (.If c a b pos) (sIf t f g) := PS.imp (ps_if hc ha hb) fun D σ H ⟨env, G, S, s, e, p⟩ =>
  chainS ⟨s, e⟩ p fun v H' d S' G' l A r q => by
    subst r
    cases v with
    | true => exact iteT (tS.mk A q)
    | false => exact iteF (tS.mk A q)
theorem ss_asg {tg : Expr} {t : D → DEnv → Option DEnv} {vs : List Nat} (he : SE X T W e fe) (hg : SG X T vs tg t) (hs : swapsWithSole [tg] e pos.line X.env = pure false := by rfl) (hw : swappedStores [tg] e X.env = pure none := by rfl)
    (h1 : (assignEach [tg] X.env).map (·.2) = [assign tg X.env] := by rfl) : SS X T W (.Assign [tg] e pos) (sAsg fe t) := PS.imp (ps_asg he hg hs hw h1) fun D σ H ⟨env, G, S, s, e, p⟩ =>
  chainS ⟨s, e⟩ p fun v H' d S' G' l A r q => by
    split at q
    · rename_i env' h
      exact ⟨env, G', S', d, A.s, A.e, r, env', h, fun σ' er _ => q σ' H' G' (GS.le.refl _) A.s er⟩
    · exact q.elim
theorem ss_par {i j : Nat} {x y : Str} {a b : Expr} {fa : RF (List D)} {px py pt : Pos} {kt k2 pt2} (hc : X.calm = true) (hN : X.N.Nodup) (hi : X.N[i]? = some x) (hj : X.N[j]? = some y) (hij : i ≠ j)
    (hx : X.env.scope.names.lookup x = some .local) (hy : X.env.scope.names.lookup y = some .local) (ha : SA X T W [a, b] fa) (hw : swappedStores [.Tuple [.Name x px, .Name y py] kt pt] (.Tuple [a, b] k2 pt2) X.env = pure (some [x, y]))
    (hs : swapsWithSole [.Tuple [.Name x px, .Name y py] kt pt] (.Tuple [a, b] k2 pt2) pos.line X.env = pure false := by rfl) : SS X T W (.Assign [.Tuple [.Name x px, .Name y py] kt pt] (.Tuple [a, b] k2 pt2) pos) (sPar i j fa) :=
  PS.imp (ps_par hc hN hi hj hij hx hy ha hw hs) fun D σ H ⟨env, G, S, s, e, p⟩ => chainS ⟨s, e⟩ p fun v H' d S' G' l A r q => by
    split at q
    · obtain ⟨v1, v2, e1, r1, r2⟩ := r.two
      exact ⟨v1, v2, e1, q _ H' G' (GS.le.refl _) A.s ((A.e.set r1).set r2)⟩
    · exact q.elim
def sPar3 (i j k : Nat) (fa : RF (List D)) : SF := fun env S => sE (fa env S) env fun ds S => match ds with
  | [x, y, z] => .nx (((env.set i (some x)).set j (some y)).set k (some z)) S
  | _ => .bad
/-! loops -/
def loopK (k : DEnv → Store → SRes) : SRes → SRes
  | .nx e S' => k e S'
  | .cnt e S' => k e S'
  | .brk e S' => .nx e S'
  | .ret d S' => .ret d S'
  | .exc e c ks ps S' => .exc e c ks ps S'
  | .bad => .bad
def forL (g : D → DEnv → Option DEnv) (fb : SF) : List D → DEnv → Store → SRes
  | [], env, S => .nx env S
  | d :: ds, env, S => match g d env with
    | none => .bad
    | some env1 => loopK (fun e S' => forL g fb ds e S') (fb env1 S)
def sFor (fi : RF (List D)) (g : D → DEnv → Option DEnv) (fb : SF) : SF := fun env S => sE (fi env S) env fun l S => forL g fb l env S
def whileN (t : RF Bool) (fb : SF) : Nat → DEnv → Store → SRes
  | 0, _, _ => .bad
  | n + 1, env, S => sE (t env S) env fun b S => if b = true then loopK (fun e S' => whileN t fb n e S') (fb env S) else .nx env S
theorem ss_for {tg iter : Expr} {body : List Stmt} {fi : RF (List D)} {gt : D → DEnv → Option DEnv} {fb : SF} {vs : List Nat} (hp : PassesOwn (model X.prog X.w) X.A X.env X.xe) (hc : X.calm = true) (hi : SI X T W tg iter fi) (hg : SG X T vs tg gt) (hb : SSs X T W body fb) (hs : ∀ x, foldedSetIterable iter X.env x = pure x := by intro _; rfl) :
    SS X T W (.For tg iter body [] pos) (sFor fi gt fb) := PS.imp (ps_for hp hc hi hg hb hs) fun D σ H ⟨env, G, S, s, e, p⟩ => by
  refine ⟨env, G, S, s, e, ?_⟩
  unfold sFor sE at p
  cases q : fi env S with
  | bad => rw [q] at p; exact p
  | exc c ks ps S' =>
    rw [q] at p
    exact fun cls dx H' G' l s r => p cls dx σ H' G' l s (e.up l) r
  | ok l S1 =>
    rw [q] at p
    have p : PostS X.K T W G D (forL gt fb l env S1) := p
    intro J H1 G1 le1 s1 wk
    refine ⟨fun i m σ' H' => m = l.length - i ∧ i ≤ l.length ∧ ∃ env' G' S', G1.le G' ∧ SR X.K T G' S' H' ∧ ER X.K G' σ' env' ∧ PostS X.K T W G' D (forL gt fb (l.drop i) env' S'),
      ⟨l.length, by simp, Nat.zero_le _, env, G1, S1, GS.le.refl _, s1, e.up le1, by simpa using p.up le1⟩, ?_⟩
    rintro i m σ' H' ⟨rfl, hi, env', G', S', le', s', e', p'⟩
    obtain ⟨w1, w2⟩ := wk G' S' H' i le' s'
    by_cases hlt : i < l.length
    · have hd : l.drop i = l[i] :: l.drop (i + 1) := List.drop_eq_getElem_cons hlt
      rw [hd] at p'
      unfold forL at p'
      obtain ⟨go, yl⟩ := w1 l[i] (List.getElem?_eq_getElem hlt)
      refine .inr ⟨go, fun σ2 H2 => ∃ env2 G2 S2, G1.le G2 ∧ SR X.K T G2 S2 H2 ∧ ER X.K G2 σ2 env2 ∧ PostS X.K T W G2 D (forL gt fb (l.drop (i + 1)) env2 S2),
        fun σ2 H2 z => ⟨l.length - (i + 1), by omega, rfl, hlt, z⟩, fun x H2 hy => ?_⟩
      obtain ⟨G2, le2, s2, r2⟩ := yl x H2 hy
      cases z : gt l[i] env' with
      | none => rw [z] at p'; exact p'.elim
      | some env1 =>
        rw [z] at p'
        refine ⟨env', G2, S', l[i], s2, e'.up le2, r2, env1, z, fun σ3 er3 _ => ⟨env1, G2, S', s2, er3, ?_⟩⟩
        have p' : PostS X.K T W G' D (loopK (fun e S' => forL gt fb (l.drop (i + 1)) e S') (fb env1 S')) := p'
        cases y : fb env1 S' with
        | nx e4 S4 => rw [y] at p'; exact fun σ5 H5 G5 l5 s5 e5 => ⟨e4, G5, S4, (le'.trans le2).trans l5, s5, e5, p'.up (le2.trans l5)⟩
        | cnt e4 S4 => rw [y] at p'; exact fun σ5 H5 G5 l5 s5 e5 => ⟨e4, G5, S4, (le'.trans le2).trans l5, s5, e5, p'.up (le2.trans l5)⟩
        | brk e4 S4 => rw [y] at p'; exact PostS.up le2 (show PostS X.K T W G' D (.nx e4 S4) from p')
        | ret d4 S4 => rw [y] at p'; exact PostS.up le2 (show PostS X.K T W G' D (.ret d4 S4) from p')
        | exc e4 c ks ps S4 => rw [y] at p'; exact PostS.up le2 (show PostS X.K T W G' D (.exc e4 c ks ps S4) from p')
        | bad => rw [y] at p'; exact p'
    · have hd : l.drop i = [] := List.drop_eq_nil_of_le (by omega)
      rw [hd] at p'
      exact .inl ⟨w2 (by omega), p' σ' H' G' (GS.le.refl _) s' e'⟩
theorem ss_while {c : Expr} {body : List Stmt} {t : RF Bool} {fb : SF} (N : Nat) (hp : PassesOwn (model X.prog X.w) X.A X.env X.xe) (hc : ST X T W c t) (hb : SSs X T W body fb) : SS X T W (.While c body [] pos) (whileN t fb N) :=
  PS.imp (ps_while hp hc hb) fun D σ H ⟨env, G, S, s, e, p⟩ => by
  refine ⟨fun m σ' H' => ∃ env' G' S', G.le G' ∧ SR X.K T G' S' H' ∧ ER X.K G' σ' env' ∧ PostS X.K T W G' D (whileN t fb m env' S'), ⟨N, env, G, S, GS.le.refl _, s, e, p⟩, ?_⟩
  rintro m σ' H' ⟨env', G', S', le', s', e', p'⟩
  cases m with
  | zero => exact p'.elim
  | succ n =>
    unfold whileN at p'
    refine chainS ⟨s', e'⟩ p' fun v H2 d S2 G2 l2 A2 r q => ?_
    subst r
    cases v with
    | false => exact iteF (q σ' H2 G2 (GS.le.refl _) A2.s A2.e)
    | true =>
      refine iteT ⟨fun σ3 H3 => ∃ env3 G3 S3, G.le G3 ∧ SR X.K T G3 S3 H3 ∧ ER X.K G3 σ3 env3 ∧ PostS X.K T W G3 D (whileN t fb n env3 S3), fun σ3 H3 z => ⟨n, Nat.lt_succ_self n, z⟩, env', G2, S2, A2.s, A2.e, ?_⟩
      have q : PostS X.K T W G2 D (loopK (fun e S' => whileN t fb n e S') (fb env' S2)) := q
      cases y : fb env' S2 with
      | nx e4 S4 => rw [y] at q; exact fun σ5 H5 G5 l5 s5 e5 => ⟨e4, G5, S4, (le'.trans l2).trans l5, s5, e5, q.up l5⟩
      | cnt e4 S4 => rw [y] at q; exact fun σ5 H5 G5 l5 s5 e5 => ⟨e4, G5, S4, (le'.trans l2).trans l5, s5, e5, q.up l5⟩
      | brk e4 S4 => rw [y] at q; exact q
      | ret d4 S4 => rw [y] at q; exact q
      | exc e4 c ks ps S4 => rw [y] at q; exact q
      | bad => rw [y] at q; exact q
end
/-! comprehensions -/
theorem wipe_wipe (σ : L2.St) : ∀ vs : List Nat, wipe (wipe σ vs) vs = wipe σ vs
  | [] => rfl
  | v :: vs => by
    show (wipe ((wipe σ vs).set v none) vs).set v none = (wipe σ vs).set v none
    by_cases e : v ∈ vs
    · rw [wipe_set e, wipe_wipe σ vs]
    · have key : ∀ (ws : List Nat) (τ : L2.St), v ∉ ws → wipe (τ.set v none) ws = (wipe τ ws).set v none := by
        intro ws
        induction ws with
        | nil => intro τ _; rfl
        | cons w ws ih =>
          intro τ hn
          unfold wipe
          rw [ih τ fun z => hn (List.mem_cons_of_mem _ z), List.set_comm]
          exact fun z => hn (by rw [z]; exact List.mem_cons_self)
      rw [key vs _ e, wipe_wipe σ vs, List.set_set]
def Res.noX {α : Type} : Res α → Res α
  | .ok a S => .ok a S
  | _ => .bad
def wipeD (env : DEnv) : List Nat → DEnv
  | [] => env
  | v :: vs => (wipeD env vs).set v none
def lcL (g : D → DEnv → Option DEnv) (ft : RF Bool) (fe : EF) (env : DEnv) : List D → Store → Res (List D)
  | [], S => .ok [] S
  | d :: ds, S => match g d env with
    | none => .bad
    | some env1 => (ft env1 S).noX.bind fun b S => if b = true then (fe env1 S).noX.bind fun y S => (lcL g ft fe env ds S).bind fun ys S => .ok (y :: ys) S else lcL g ft fe env ds S
def eLc (mk : MkF) (fi : RF (List D)) (g : D → DEnv → Option DEnv) (ft : RF Bool) (fe : EF) (vs : List Nat) : EF := fun env S => (fi env S).bind fun l S => if l.length ≤ lineN then (lcL g ft fe (wipeD env vs) l S).bind fun ys S => mk ys S else .bad
def tYesD : RF Bool := fun _ S => .ok true S
abbrev W0 : WX := fun _ _ _ _ => False
abbrev STs (X : Cx) (T : Tbl) (W : WX) (ifs : List Expr) (f : RF Bool) : Prop := PTs X ifs (tG X.K T relB W f)
theorem sts_nil {X : Cx} {T : Tbl} {W : WX} : STs X T W [] tYesD := ⟨fun pins s σ H Q I ⟨env, G, S, q, e, p⟩ => pts_nil.run pins s σ H Q I (p.fin q rfl)⟩
theorem sts_one {X : Cx} {T : Tbl} {W : WX} {c : Expr} {f : RF Bool} (h : ST X T W c f) : STs X T W [c] f := pts_one h
section
variable {K : PySem.W.Frag} {T : Tbl} {α β γ δ : Type} {rel : GS → β → α → Prop} {rel' : GS → δ → γ → Prop} {W : WX} {W' : XK} {Gb G G' : GS} {S : Store} {H : Hp} {σ : L2.St} {env : DEnv} {Q Q' : β → Hp → Prop} {R : δ → Hp → Prop}
theorem ER.wipe (r : ER K G σ env) : ∀ vs : List Nat, ER K G (L2.wipe σ vs) (wipeD env vs)
  | [] => r
  | v :: vs => by
    have q := ER.wipe r vs
    refine ⟨by unfold L2.wipe wipeD; simpa using q.len, fun i d h => ?_⟩
    unfold wipeD at h
    unfold L2.wipe
    by_cases e : i = v
    · subst e
      by_cases hl : i < (wipeD env vs).length
      · rw [List.getElem?_set_self hl] at h
        cases h
      · rw [List.getElem?_eq_none (by simpa using hl)] at h
        cases h
    · rw [List.getElem?_set_ne (Ne.symm e)] at h
      rw [List.getElem?_set_ne (Ne.symm e)]
      exact q.at_ i d h
/-- in a block from which nothing is raised; the rest is told of an elder ghost -/
theorem chainN {f : RF γ} {k : γ → Store → Res α} {Q' : δ → Hp → Prop} (A : At K T σ env G S H) (p : Post K T rel W' Gb Q ((f env S).noX.bind k))
    (h : ∀ v H' d S' G', G.le G' → At K T σ env G' S' H' → rel' G' v d → Post K T rel W' Gb Q (k d S') → Q' v H') : tG K T rel' W0 f σ H Q' := by
  refine tG.mk A ?_
  cases q : f env S with
  | ok d S' =>
    rw [q] at p
    exact fun v H' G' l s r => h v H' d S' G' l ⟨s, A.e.up l⟩ r p
  | exc c ks ps S' =>
    rw [q] at p
    exact p.elim
  | bad =>
    rw [q] at p
    exact p.elim
theorem Res.bind_assoc {f : Res α} {g : α → Store → Res β} {h : β → Store → Res γ} : (f.bind g).bind h = f.bind fun a S => (g a S).bind h := by cases f <;> rfl
end
section
variable {X : Cx} {T : Tbl} {W : WX} {pos spos : Pos}
theorem t_lc {fi : RF (List D)} {gt : D → DEnv → Option DEnv} {ft : RF Bool} {fe : EF} {vs : List Nat} {mk : MkF} (hmk : MkOk mk) (σ : L2.St) (H : Hp) (Q : VK) (t : tG X.K T (Rep X.K) W (eLc mk fi gt ft fe vs) σ H Q) :
    tLc (tI X.K T W fi) (gG X.K T vs gt) (tG X.K T relB W0 ft) (tG X.K T (Rep X.K) W0 fe) vs σ H Q := by
  obtain ⟨env, G, S, s, e, p⟩ := t
  refine ⟨env, G, S, s, e, ?_⟩
  unfold eLc at p
  cases q : fi env S with
  | bad => rw [q] at p; exact p
  | exc c ks ps S' =>
    rw [q] at p
    exact p
  | ok l S1 =>
    rw [q] at p
    have p : Post X.K T (Rep X.K) (fun c d H' => W c d σ H') G Q (if l.length ≤ lineN then (lcL gt ft fe (wipeD env vs) l S1).bind fun ys S => mk ys S else .bad) := p
    split at p
    · rename_i hlen
      intro J H1 G1 le1 s1 wk D hD
      have p1 := p.up le1
      have e1 := (e.up le1).wipe vs
      refine ⟨fun i m H' => m = l.length - i ∧ i ≤ l.length ∧ ∃ G' S' acc ad, G1.le G' ∧ SR X.K T G' S' H' ∧ G'.P D = some (.lst acc) ∧ RepL X.K G' acc ad ∧ acc.length ≤ i ∧
          Post X.K T (Rep X.K) (fun c d H' => W c d σ H') G1 Q ((lcL gt ft fe (wipeD env vs) (l.drop i) S').bind fun ys S => mk (ad ++ ys) S),
        ⟨l.length, by simp, Nat.zero_le _, G1.pinned D (.lst []), S1, [], [], GS.le_pin (s1.freeP hD), s1.pinNew hD, by show upd _ _ _ _ = _; rw [upd_same], rfl, by simp, by simpa using p1⟩, ?_⟩
      rintro i m H' ⟨rfl, hi, G', S', acc, ad, le', s', hP, ra, hacc, p'⟩
      obtain ⟨w1, w2⟩ := wk G' S' H' i le' s'
      by_cases hlt : i < l.length
      · have hd : l.drop i = l[i] :: l.drop (i + 1) := List.drop_eq_getElem_cons hlt
        rw [hd] at p'
        unfold lcL at p'
        obtain ⟨go, yl⟩ := w1 l[i] (List.getElem?_eq_getElem hlt)
        refine .inr ⟨go, fun H2 => ∃ G' S' acc ad, G1.le G' ∧ SR X.K T G' S' H2 ∧ G'.P D = some (.lst acc) ∧ RepL X.K G' acc ad ∧ acc.length ≤ i + 1 ∧
          Post X.K T (Rep X.K) (fun c d H' => W c d σ H') G1 Q ((lcL gt ft fe (wipeD env vs) (l.drop (i + 1)) S').bind fun ys S => mk (ad ++ ys) S), fun H2 z => ⟨l.length - (i + 1), by omega, rfl, hlt, z⟩, fun x H2 hy => ?_⟩
        obtain ⟨G2, le2, s2, r2⟩ := yl x H2 hy
        cases z : gt l[i] (wipeD env vs) with
        | none => rw [z] at p'; exact p'.elim
        | some env1 =>
          rw [z] at p'
          refine ⟨wipeD env vs, G2, S', l[i], s2, e1.up (le'.trans le2), r2, env1, z, fun σ3 er3 w3 => ⟨w3.trans (wipe_wipe σ vs), ?_⟩⟩
          have p' : Post X.K T (Rep X.K) (fun c d H' => W c d σ H') G1 Q (((ft env1 S').noX.bind fun b S => if b = true then (fe env1 S).noX.bind fun y S => (lcL gt ft fe (wipeD env vs) (l.drop (i + 1)) S).bind fun ys S => .ok (y :: ys) S
            else lcL gt ft fe (wipeD env vs) (l.drop (i + 1)) S).bind fun ys S => mk (ad ++ ys) S) := p'
          rw [Res.bind_assoc] at p'
          refine chainN ⟨s2, er3⟩ p' fun b H3 d3 S3 G3 l3 A3 r3 p3 => ?_
          subst r3
          have hP3 : G3.P D = some (.lst acc) := l3.P _ _ (le2.P _ _ hP)
          cases b with
          | false =>
            refine iteF ⟨G3, S3, acc, ad, (le'.trans le2).trans l3, A3.s, hP3, ra.up (le2.trans l3), Nat.le_succ_of_le hacc, p3⟩
          | true =>
            refine iteT ?_
            have p3 : Post X.K T (Rep X.K) (fun c d H' => W c d σ H') G1 Q (((fe env1 S3).noX.bind fun y S => (lcL gt ft fe (wipeD env vs) (l.drop (i + 1)) S).bind fun ys S => .ok (y :: ys) S).bind fun ys S => mk (ad ++ ys) S) := p3
            rw [Res.bind_assoc] at p3
            refine chainN A3 p3 fun y H4 d4 S4 G4 l4 A4 r4 p4 => ?_
            rw [Res.bind_assoc] at p4
            have hP4 : G4.P D = some (.lst acc) := l4.P _ _ hP3
            have hH4 := (A4.s.pin D _ hP4).1
            refine ⟨acc, hH4, by rw [lineN_eq]; omega, G4.pinned D (.lst (acc ++ [y])), S4, acc ++ [y], ad ++ [d4], ?_, A4.s.pinPut hP4 True.intro, by show upd _ _ _ _ = _; rw [upd_same], ?_, by simp; omega, ?_⟩
            · have l5 := ((le'.trans le2).trans l3).trans l4
              refine ⟨⟨l5.ρ, l5.F⟩, fun b o h => ?_⟩
              have : b ≠ D := fun z => by
                have h2 := (s1.freeP hD)
                rw [← z, h] at h2
                cases h2
              show upd G4.P D _ b = some o
              rw [upd_ne this]
              exact l5.P b o h
            · refine RepL.up0 (G := G4) (G' := G4.pinned D (.lst (acc ++ [y]))) ⟨fun _ _ h => h, fun _ _ h => h⟩ (RepL.snoc r4 (ra.up ((le2.trans l3).trans l4)))
            · simpa [Res.bind, List.append_assoc] using p4
      · have hd : l.drop i = [] := List.drop_eq_nil_of_le (by omega)
        rw [hd] at p'
        have p' : Post X.K T (Rep X.K) (fun c d H' => W c d σ H') G1 Q (mk (ad ++ []) S') := p'
        rw [List.append_nil] at p'
        exact .inl ⟨w2 (by omega), hmk.pin _ _ G1 G' S' H' acc ad D _ Q s' ra hP le' (s1.freeP hD) p'⟩
    · exact p.elim
end
end Z
end
section
set_option Elab.async false
set_option linter.all false
set_option maxRecDepth 100000
namespace Z
open PySem PySem.Spec PyProof.Rows
open L2
section
variable {X : Cx} {T : Tbl} {W : WX} {pos spos : Pos} {elt tg iter : Expr} {ifs : List Expr} {scope : Scope} {own : List (Str × Nat)} {fi : RF (List D)} {gt : D → DEnv → Option DEnv} {ft : RF Bool} {fe : EF} {mk : MkF}
theorem se_lc (hmk : MkOk mk) (hc : X.calm = true) (hN : X.N.Nodup) (hi : SI X T W tg iter fi) (ok : BlkOk X.N X.env.scope scope own)
    (hg : ∀ (s : Shared) (H : Hp) (C : Addr) (cl : List (Str × Addr)) (fp : List Addr), SG (X.blk s H scope (compEnvC scope cl C X.env) fp) T (own.map (·.2)) tg gt)
    (ht : ∀ (s : Shared) (H : Hp) (C : Addr) (cl : List (Str × Addr)) (fp : List Addr), STs (X.blk s H scope (compEnvC scope cl C X.env) fp) T W0 ifs ft)
    (he : ∀ (s : Shared) (H : Hp) (C : Addr) (cl : List (Str × Addr)) (fp : List Addr), SE (X.blk s H scope (compEnvC scope cl C X.env) fp) T W0 elt fe) (hs : ∀ x, foldedSetIterable iter X.env x = pure x := by intro _; rfl) :
    SE X T W (.ListComp elt [⟨tg, iter, ifs, 0⟩] scope pos) (eLc mk fi gt ft fe (own.map (·.2))) := PE.imp (pe_lc hc hN hi ok hg ht he hs) (t_lc hmk)
theorem ss_setLc {i : Nat} {y : Str} {py : Pos} (hmk : MkOk mk) (hc : X.calm = true) (hN : X.N.Nodup) (hy : X.N[i]? = some y) (hyl : X.env.scope.names.lookup y = some .local)
    (hsw : swapsWith (.ListComp elt [⟨tg, iter, ifs, 0⟩] scope pos) (some (.Name y py)) spos.line X.env = pure true) (hi : SI X T W tg iter fi) (ok : BlkOk X.N X.env.scope scope own)
    (hg : ∀ (s : Shared) (H : Hp) (C : Addr) (cl : List (Str × Addr)) (fp : List Addr), SG (X.blk s H scope (compEnvC scope cl C X.env) fp) T (own.map (·.2)) tg gt)
    (ht : ∀ (s : Shared) (H : Hp) (C : Addr) (cl : List (Str × Addr)) (fp : List Addr), STs (X.blk s H scope (compEnvC scope cl C X.env) fp) T W0 ifs ft)
    (he : ∀ (s : Shared) (H : Hp) (C : Addr) (cl : List (Str × Addr)) (fp : List Addr), SE (X.blk s H scope (compEnvC scope cl C X.env) fp) T W0 elt fe) (hs : ∀ x, foldedSetIterable iter X.env x = pure x := by intro _; rfl) :
    SS X T W (.Assign [.Name y py] (.ListComp elt [⟨tg, iter, ifs, 0⟩] scope pos) spos) (sAsg (eLc mk fi gt ft fe (own.map (·.2))) (tN i)) :=
  PS.imp (ps_setLc hc hN hy hyl hsw hi ok hg ht he hs) fun D σ H t => t_lc hmk σ H _ (by
    obtain ⟨env, G, S, s, e, p⟩ := t
    exact chainS ⟨s, e⟩ p fun v H' d S' G' l A r q => q (σ.set i (some v)) H' G' (GS.le.refl _) A.s (A.e.set r))
end
/-! defs -/
def spD (K : PySem.W.Frag) (T : Tbl) (n : Nat) (F : DF) : Sp := fun vs H Q E => ∃ ds G S, SR K T G S H ∧ RepL K G vs ds ∧ vs.length = n ∧ Post K T (Rep K) E G Q (F ds S)
def outD : SRes → Res D
  | .nx _ S => .ok .non S
  | .ret d S => .ok d S
  | .exc _ c ks ps S => .exc c ks ps S
  | _ => .bad
def dfn (n : Nat) (f : SF) : DF := fun ds S => outD (f (ds.map some ++ List.replicate (n - ds.length) none) S)
structure Wd where
  P : Program
  w : World
  K : PySem.W.Frag
  mg : Str → Option Value
  base : Heap
  T : Tbl
abbrev Wd.Fn (Z : Wd) (k : Nat) (f : Addr) (fd : FuncData) (ps : List Str) (F : DF) : Prop := FnOk Z.P Z.w Z.K Z.mg Z.base (L2.CX Z.P Z.w) k f fd ps (spD Z.K Z.T ps.length F)
structure Own (Z : Wd) (x : Str) (k : Nat) (ps : List Str) (F : DF) : Prop where
  ex : ∃ f fd, Z.mg x = some (.ref f) ∧ PySem.W.keepIn Z.K (.ref f) = true ∧ L2.Binds Z.K fd ps [] ∧ Z.Fn k f fd ps F
abbrev wdOf (X : Cx) (T : Tbl) : Wd := ⟨X.prog, X.w, X.K, X.mg, X.base, T⟩
abbrev wE (E : XK) : WX := fun c d _ H' => E c d H'
/-- a def's body -/
abbrev cxD (Z : Wd) (N : List Str) (qual : Str) (scope : Scope) (f : Addr) (cdv : Value) (A : Around) (outer : List Env) (s : Shared) (H : Hp) (E : XK) : Cx :=
  cxOf (L2.CX Z.P Z.w) Z.P Z.w Z.K Z.mg Z.base N qual scope f cdv A outer s H E
theorem fn_def {Z : Wd} {x qual : Str} {params : Arguments} {body : List Stmt} {scope : Scope} {dvs : List V} {kws : List (Str × V)} {f : Addr} {fd : FuncData} {N ps : List Str} {k : Nat} {fb : SF} (F : FunD Z.K x qual params body scope dvs kws f fd) (sc : FnScope N ps scope)
    (h : ∀ (cdv : Value) (A : Around) (outer : List Env) (s : Shared) (H : Hp) (E : XK), Room k (A.deeper (envOfC qual scope s.heap.objs.size f cdv)) → SSs (cxD Z N qual scope f cdv A outer s H E) Z.T (wE E) body fb) : Z.Fn (k + 1) f fd ps (dfn N.length fb) := by
  refine F.ok sc (fun vs H Q E ⟨_, _, _, _, _, hl, _⟩ => hl) fun cdv A outer s H vs Q E hr ⟨ds, G, S, hs, r, hl, p⟩ => ⟨_, h cdv A outer s H E hr, ?_⟩
  refine ⟨_, G, S, hs, ER.start N r, ?_⟩
  unfold dfn at p
  generalize fb (ds.map some ++ List.replicate (N.length - ds.length) none) S = r at p ⊢
  cases r with
  | nx e S' => exact fun σ' H' G' l s _ => p .non H' G' l s rfl
  | ret d S' => exact p
  | brk e S' => exact p.elim
  | cnt e S' => exact p.elim
  | exc e c ks ps S' => exact fun cls dx σ' H' G' l s _ => p cls dx H' G' l s
  | bad => exact p
theorem own_def {Z : Wd} {x qual : Str} {params : Arguments} {body : List Stmt} {scope : Scope} {kws : List (Str × V)} {f : Addr} {fd : FuncData} {N ps : List Str} {k : Nat} {fb : SF} (F : FunD Z.K x qual params body scope [] kws f fd) (hm : Z.mg x = some (.ref f)) (sc : FnScope N ps scope)
    (hb : ∀ (kV doc pm : Value) (an : Option Addr) (cdv ct : Value) (us : List Value), us.length = ps.length → bindArgs (PySem.W.fnOf x qual params body scope .none kV doc pm an cdv ct) ⟨us, []⟩ = pure (ps.zip us))
    (h : ∀ (cdv : Value) (A : Around) (outer : List Env) (s : Shared) (H : Hp) (E : XK), Room k (A.deeper (envOfC qual scope s.heap.objs.size f cdv)) → SSs (cxD Z N qual scope f cdv A outer s H E) Z.T (wE E) body fb) : Own Z x (k + 1) ps (dfn N.length fb) :=
  ⟨f, fd, hm, F.kp, F.bindsN hb, fn_def F sc h⟩
theorem own_bad {Z : Wd} {x qual : Str} {params : Arguments} {body : List Stmt} {scope : Scope} {kws : List (Str × V)} {f : Addr} {fd : FuncData} {ps : List Str} {k : Nat} (F : FunD Z.K x qual params body scope [] kws f fd) (hm : Z.mg x = some (.ref f))
    (hb : ∀ (kV doc pm : Value) (an : Option Addr) (cdv ct : Value) (us : List Value), us.length = ps.length → bindArgs (PySem.W.fnOf x qual params body scope .none kV doc pm an cdv ct) ⟨us, []⟩ = pure (ps.zip us)) : Own Z x k ps (fun _ _ => .bad) :=
  ⟨f, fd, hm, F.kp, F.bindsN hb, ⟨fun vs H Q E ⟨_, _, _, _, _, hl, _⟩ => hl, fun A outer s H args us vs Q E _ _ _ _ ⟨_, _, _, _, _, _, p⟩ => p.elim⟩⟩
theorem takesD {Z : Wd} {N : List Str} {qual : Str} {scope : Scope} {f : Addr} {cdv : Value} {A : Around} {outer : List Env} {s : Shared} {H : Hp} {E : XK} : Takes (cxD Z N qual scope f cdv A outer s H E) (wE E) := takes_of rfl rfl rfl rfl
theorem passD {Z : Wd} {N : List Str} {qual : Str} {scope : Scope} {f : Addr} {cdv : Value} {A : Around} {outer : List Env} {s : Shared} {H : Hp} {E : XK} : PassesOwn (model Z.P Z.w) (cxD Z N qual scope f cdv A outer s H E).A (cxD Z N qual scope f cdv A outer s H E).env (cxD Z N qual scope f cdv A outer s H E).xe :=
  passes_of (X := cxD Z N qual scope f cdv A outer s H E) (K := fun e s'' => L2.CX Z.P Z.w outer H s E e s'') (E₁ := fun e s'' => L2.CX Z.P Z.w outer H s E e s'') rfl
section
variable {X : Cx} {T : Tbl} {W : WX} {pos p : Pos} {e : Expr} {es : List Expr} {fa : RF (List D)} {x : Str} {k : Nat} {ps : List Str} {F : DF}
theorem t_sp {G : GS} {S : Store} {H : Hp} {σ : L2.St} {env : DEnv} {Q : VK} {vs : List V} {ds : List D} (A : At X.K T σ env G S H) (r : RepL X.K G vs ds) (hl : ds.length = ps.length) (p : Post X.K T (Rep X.K) (fun c d H' => W c d σ H') G Q (F ds S)) : spD X.K T ps.length F vs H Q (WE W σ) :=
  ⟨ds, G, S, A.s, r, by rw [r.len, hl], p⟩
/-- a call of so many arguments -/
def eCn (n : Nat) (F : CF) (fa : RF (List D)) : EF := fun env S => (fa env S).bind fun ds S => if ds.length = n then F ds S else .bad
theorem se_call (O : Own (wdOf X T) x k ps F) (tk : Takes X W) (hr : Room k X.A) (hg : Gl X x) (ha : SA X T W (e :: es) fa) (hdb : (x == ("__debug__" : Str)) = false := by decide) (he : starEach (e :: es) X.env = (false, eval e X.env) :: starEach es X.env := by rfl)
    (hpl : (backTo pos (starEach es X.env)).any (·.1) = false := by rfl) : SE X T W (.Call (.Name x p) (e :: es) [] pos) (eCn ps.length F fa) := by
  obtain ⟨f, fd, hm, hk, hb, hF⟩ := O.ex
  refine PE.imp (pe_callS hF hr hg hm hk hb (fun σ => passAt tk σ) ha hdb he hpl) fun σ H Q ⟨env, G, S, s, e, p⟩ => ?_
  refine chain ⟨s, e⟩ p fun vs H1 ds S1 G1 l1 A1 r1 p1 => ?_
  split at p1
  · rename_i hl
    exact t_sp A1 r1 hl p1
  · exact p1.elim
end
end Z
end
section
set_option Elab.async false
set_option linter.all false
set_option maxRecDepth 100000
namespace Z
open PySem PySem.Spec PyProof.Rows
open L2
/-! a cell's list is frozen where no more is stored to it -/
def sIce (i : Nat) : SF := fun env S => match env[i]? with
  | some (some (.cell n)) => match S[n]? with
    | some (some (.lst l)) => .nx (env.set i (some (.lst l))) (S.set n none)
    | _ => .bad
  | _ => .nx env S
section
variable {X : Cx} {T : Tbl} {W : WX} {pos p2 : Pos} {sts : List Stmt} {f : SF}
theorem ER.ice {K : PySem.W.Frag} {G : GS} {σ : L2.St} {env : DEnv} (r : ER K G σ env) {i : Nat} {d : D} (h : ∀ v, σ[i]? = some (some v) → (∃ d0, env[i]? = some (some d0) ∧ Rep K G v d0) → Rep K G v d) (he : ∃ d0, env[i]? = some (some d0)) : ER K G σ (env.set i (some d)) := by
  refine ⟨by simpa using r.len, fun j e hj => ?_⟩
  by_cases q : j = i
  · subst q
    obtain ⟨d0, h0⟩ := he
    obtain ⟨v, h1, h2⟩ := r.at_ j d0 h0
    have hl := (List.getElem?_eq_some_iff.mp h0).1
    rw [List.getElem?_set_self hl] at hj
    cases hj
    exact ⟨v, h1, h v h1 ⟨d0, h0, h2⟩⟩
  · rw [List.getElem?_set_ne (Ne.symm q)] at hj
    exact r.at_ j e hj
theorem sIce_cases (i : Nat) (env : DEnv) (S : Store) : (∃ e S', sIce i env S = .nx e S') ∨ sIce i env S = .bad := by
  unfold sIce
  split
  · split
    · exact .inl ⟨_, _, rfl⟩
    · exact .inr rfl
  · exact .inl ⟨_, _, rfl⟩
theorem ss_ice (i : Nat) (h : SSs X T W sts f) : SSs X T W sts (sSeq (sIce i) f) := PSs.imp h fun D σ H ⟨env, G, S, s, e, p⟩ => by
  unfold sSeq at p
  rcases sIce_cases i env S with ⟨e', S', q⟩ | q
  · rw [q] at p
    have p : PostS X.K T W G D (f e' S') := p
    unfold sIce at q
    split at q
    · rename_i n hn
      split at q
      · rename_i l hl
        cases q
        obtain ⟨v, h1, a, h2, h3⟩ := e.at_ i _ hn
        obtain ⟨xs, h4, h5⟩ := s.lstAt hl h3
        obtain ⟨le, s'⟩ := s.ice hl h3 h4
        refine ⟨_, G.frz a (.lst xs), _, s', (e.up le).ice (fun w hw _ => ?_) ⟨_, hn⟩, p.up le⟩
        rw [h1] at hw
        cases hw
        exact ⟨a, xs, h2, by show upd _ _ _ _ = _; rw [upd_same], h5.up le⟩
      · cases q
    · cases q
      exact ⟨env, G, S, s, e, p⟩
  · rw [q] at p
    exact p.elim
/-! o[i] = e -/
def sPut (fe fo fi : EF) : SF := fun env S => sE (fe env S) env fun d S => sE (fo env S) env fun x S => sE (fi env S) env fun k S => match x, k with
  | .cell n, .int i => match S[n]? with
    | some (some (.lst l)) => match ixN l.length i with
      | some j => .nx env (S.set n (some (.lst (l.set j d))))
      | none => .bad
    | _ => .bad
  | _, _ => .bad
theorem ss_put {e o i : Expr} {fe fo fi : EF} (he : SE X T W e fe) (ho : SE X T W o fo) (hi : SE X T W i fi)
    (ha : ∀ v, assign (.Subscript o i p2) X.env v = (do
      let ov ← holding [v] (eval o X.env)
      let iv ← holding [v, ov] (eval i X.env)
      standAt p2
      holding [v, ov, iv] (setItem ov iv v)
      release [v, ov, iv] []) := by intro _; rfl)
    (hs : swapsWithSole [.Subscript o i p2] e pos.line X.env = pure false := by rfl) (hw : swappedStores [.Subscript o i p2] e X.env = pure none := by rfl)
    (h1 : (assignEach [.Subscript o i p2] X.env).map (·.2) = [assign (.Subscript o i p2) X.env] := by rfl) : SS X T W (.Assign [.Subscript o i p2] e pos) (sPut fe fo fi) :=
  PS.imp (ps_asg he (pg_sub ho hi set_list ha) hs hw h1) fun D σ H ⟨env, G, S, s, e, p⟩ =>
  chainS ⟨s, e⟩ p fun v H' d S' G' l A r q => chainS A q fun x H2 dx S2 G2 l2 A2 r2 q2 => chainS A2 q2 fun y H3 dy S3 G3 l3 A3 r3 q3 => by
    cases dx with
    | cell n => cases dy with
      | int i =>
        dsimp only at q3
        split at q3
        · rename_i l hl
          split at q3
          · rename_i j hj
            obtain ⟨a, e1, e2⟩ := r2.up l3
            obtain ⟨xs, h4, h5⟩ := A3.s.lstAt hl e2
            refine ⟨a, xs, i, j, e1, r3, h4, by rw [h5.len]; exact hj, q3 σ _ G3 (GS.le.refl _) (A3.s.put hl e2 h4 True.intro ⟨xs.set j v, upd_same, h5.set (r.up (l2.trans l3))⟩) A3.e⟩
          · exact q3.elim
        · exact q3.elim
      | _ => exact q3.elim
    | _ => exact q3.elim
end
/-! methods of built-in types -/
abbrev MF := D → List D → Store → Res D
def OkM (K : PySem.W.Frag) (T : Tbl) (r : V → List V → Hp → VK → Prop) (g : MF) : Prop := ∀ (W : XK) (G : GS) (S : Store) (H : Hp) (x : V) (d : D) (xs : List V) (ds : List D) (Q : VK), SR K T G S H → Rep K G x d → RepL K G xs ds → Post K T (Rep K) W G Q (g d ds S) → r x xs H Q
def isLst (S : Store) (d : D) : Bool := match rd S d with
  | some (false, _) => true
  | _ => false
def isStr (_ : Store) (d : D) : Bool := match d with
  | .str _ => true
  | _ => false
def eM (ty : Store → D → Bool) (g : MF) (fo : EF) (fa : RF (List D)) : EF := fun env S => (fo env S).bind fun x S => if ty S x then (fa env S).bind fun ds S => g x ds S else .bad
def TyOk (K : PySem.W.Frag) (T : Tbl) (TT : String) (ty : Store → D → Bool) : Prop := ∀ (G : GS) (S : Store) (H : Hp) (x : V) (d : D), SR K T G S H → Rep K G x d → ty S d = true → tyV K TT x H
theorem tyok_list {K : PySem.W.Frag} {T : Tbl} : TyOk K T "list" isLst := fun G S H x d s r h => by
  unfold isLst at h
  split at h
  · rename_i l hl
    obtain ⟨a, xs, e, q, _⟩ := rd_list s r hl
    rw [e]
    exact .inl ⟨rfl, xs, q⟩
  · cases h
theorem tyok_str {K : PySem.W.Frag} {T : Tbl} : TyOk K T "str" isStr := fun G S H x d s r h => by
  cases d with
  | str z => rw [show x = _ from r]; exact rfl
  | _ => cases h
section
variable {X : Cx} {T : Tbl} {W : WX} {o e : Expr} {es : List Expr} {name : Str} {apos cpos : Pos} {TT id : String} {r : V → List V → Hp → VK → Prop} {g : MF} {fo : EF} {fa : RF (List D)} {ty : Store → D → Bool}
theorem se_bm (pa : PlainAttrs TT) (slot : Slot TT name id) (hty : typeOf (.builtin id) = pure (.type "method_descriptor")) (hm : MtR X id r) (tk : TyOk X.K T TT ty) (ok : OkM X.K T r g) (ho : SE X T W o fo) (ha : SA X T W (e :: es) fa)
    (hbase : attributeBase o name X.env (eval o X.env) = eval o X.env := by rfl)
    (hfew : ((backTo cpos (starEach (e :: es) X.env)).all (fun x => !x.1) && (backToKw cpos (keywordEach [] X.env)).all (fun x => x.1.isSome)
      && decide ((e :: es).length + ([] : List Keyword).length + (if ([] : List Keyword).isEmpty then 0 else 1) < 30)) = true := by rfl)
    (hline : (apos.endLine == cpos.line) = true := by rfl) (hs : starEach (e :: es) X.env = (false, eval e X.env) :: starEach es X.env := by rfl) (hplain : (backTo cpos (starEach es X.env)).any (·.1) = false := by rfl) :
    SE X T W (.Call (.Attribute o name apos) (e :: es) [] cpos) (eM ty g fo fa) := PE.imp (pe_bm pa slot hty hm ho ha hbase hfew hline hs hplain) fun σ H Q ⟨env, G, S, s, e, p⟩ =>
  chain ⟨s, e⟩ p fun x H1 dx S1 G1 l1 A1 r1 p1 => by
    split at p1
    · rename_i ht
      exact ⟨tk G1 S1 H1 x dx A1.s r1 ht, chain A1 p1 fun xs H2 ds S2 G2 l2 A2 r2 p2 => ok _ G2 S2 H2 x dx xs ds Q A2.s (r1.up l2) r2 p2⟩
    · exact p1.elim
theorem se_bm0 (pa : PlainAttrs TT) (slot : Slot TT name id) (hty : typeOf (.builtin id) = pure (.type "method_descriptor")) (hm : MtR X id r) (tk : TyOk X.K T TT ty) (ok : OkM X.K T r g) (ho : SE X T W o fo)
    (hbase : attributeBase o name X.env (eval o X.env) = eval o X.env := by rfl) (hline : (apos.endLine == cpos.line) = true := by rfl) : SE X T W (.Call (.Attribute o name apos) [] [] cpos) (eM ty g fo aNil) :=
  PE.imp (pe_bm0 pa slot hty hm ho hbase hline) fun σ H Q ⟨env, G, S, s, e, p⟩ =>
  chain ⟨s, e⟩ p fun x H1 dx S1 G1 l1 A1 r1 p1 => by
    split at p1
    · rename_i ht
      exact ⟨tk G1 S1 H1 x dx A1.s r1 ht, ok _ G1 S1 H1 x dx [] [] Q A1.s r1 rfl p1⟩
    · exact p1.elim
end
/-- a stored list -/
def celL (S : Store) : D → Option (Nat × List D)
  | .cell n => match S[n]? with
    | some (some (.lst l)) => some (n, l)
    | _ => none
  | _ => none
theorem celL_ok {K : PySem.W.Frag} {T : Tbl} {G : GS} {S : Store} {H : Hp} {v : V} {d : D} {n : Nat} {l : List D} (s : SR K T G S H) (r : Rep K G v d) (h : celL S d = some (n, l)) :
    ∃ a xs, v = .ref a ∧ H a = some (.lst xs) ∧ RepL K G xs l ∧ ∀ (ys : List V) (m : List D), RepL K G ys m → SR K T G (S.set n (some (.lst m))) (upd H a (.lst ys)) := by
  cases d with
  | cell k =>
    unfold celL at h
    dsimp only at h
    split at h
    · rename_i l' hl
      cases h
      obtain ⟨a, e1, e2⟩ := r
      obtain ⟨xs, h1, h2⟩ := s.lstAt hl e2
      exact ⟨a, xs, e1, h1, h2, fun ys m q => s.put hl e2 h1 True.intro ⟨ys, upd_same, q⟩⟩
    · cases h
  | _ => cases h
def gAppend : MF := fun x ds S => match celL S x, ds with
  | some (n, l), [d] => if l.length < lineN then .ok .non (S.set n (some (.lst (l ++ [d])))) else .bad
  | _, _ => .bad
def gExtend : MF := fun x ds S => match celL S x, ds with
  | some (n, l), [d] => match trk S d with
    | some m => if l.length + m.length ≤ lineN then .ok .non (S.set n (some (.lst (l ++ m)))) else .bad
    | none => .bad
  | _, _ => .bad
def gInsert : MF := fun x ds S => match celL S x, ds with
  | some (n, l), [.int i, d] => if l.length < lineN ∧ 0 ≤ i ∧ i < 2 ^ 63 then .ok .non (S.set n (some (.lst (l.take i.toNat ++ [d] ++ l.drop i.toNat)))) else .bad
  | _, _ => .bad
def gPop : MF := fun x ds S => match celL S x, ds with
  | some (n, l), [] => match l[l.length - 1]? with
    | some d => .ok d (S.set n (some (.lst l.dropLast)))
    | none => .bad
  | _, _ => .bad
section
variable {K : PySem.W.Frag} {T : Tbl}
theorem ok_append : OkM K T rAppend gAppend := fun W G S H x d xs ds Q s r rs p => by
  unfold gAppend at p
  split at p
  · rename_i n l d' hc
    split at p
    · rename_i hl
      obtain ⟨a, ys, e1, h1, h2, h3⟩ := celL_ok s r hc
      obtain ⟨y, e2, h4⟩ := rs.one
      exact ⟨a, ys, y, e1, e2, h1, by rw [h2.len, lineN_eq]; exact hl, p.fin (h3 _ _ (RepL.snoc h4 h2)) rfl⟩
    · exact p.elim
  · exact p.elim
theorem ok_extend : OkM K T rExtend gExtend := fun W G S H x d xs ds Q s r rs p => by
  unfold gExtend at p
  split at p
  · rename_i n l d' hc
    split at p
    · rename_i m hm
      split at p
      · rename_i hl
        obtain ⟨a, ys, e1, h1, h2, h3⟩ := celL_ok s r hc
        obtain ⟨y, e2, h4⟩ := rs.one
        obtain ⟨b, zs, e3, h5, h6⟩ := trk_ok s h4 hm
        exact ⟨a, b, ys, zs, e1, by rw [e2, e3], h1, h5, by rw [h2.len, h6.len, lineN_eq]; exact hl, p.fin (h3 _ _ (RepL.app h6 h2)) rfl⟩
      · exact p.elim
    · exact p.elim
  · exact p.elim
theorem ok_insert : OkM K T (fun x vs H Q => ∃ (l : Addr) (xs : List V) (i : Int) (y : V), x = .ref l ∧ vs = [.int i, y] ∧ H l = some (.lst xs) ∧ xs.length < sizeLine ∧ 0 ≤ i ∧ i < 2 ^ 63 ∧
    Q .non (upd H l (.lst (xs.take i.toNat ++ [y] ++ xs.drop i.toNat)))) gInsert := fun W G S H x d xs ds Q s r rs p => by
  unfold gInsert at p
  split at p
  · rename_i n l i d' hc
    split at p
    · rename_i hl
      obtain ⟨a, ys, e1, h1, h2, h3⟩ := celL_ok s r hc
      obtain ⟨y, z, e2, h4, h5⟩ := rs.two
      refine ⟨a, ys, i, z, e1, by rw [e2, show y = _ from h4], h1, by rw [h2.len, lineN_eq]; exact hl.1, hl.2.1, hl.2.2, p.fin (h3 _ _ (RepL.app (h2.drop _) (RepL.snoc h5 (h2.take _)))) rfl⟩
    · exact p.elim
  · exact p.elim
theorem ok_pop : OkM K T rPop gPop := fun W G S H x d xs ds Q s r rs p => by
  unfold gPop at p
  split at p
  · rename_i n l hc
    split at p
    · rename_i d' hd
      obtain ⟨a, ys, e1, h1, h2, h3⟩ := celL_ok s r hc
      obtain ⟨y, h4, h5⟩ := h2.get hd
      exact ⟨a, ys, y, e1, rs, h1, by rw [h2.len]; exact h4, p.fin (h3 _ _ h2.dropLast) h5⟩
    · exact p.elim
  · exact p.elim
end
section
variable {X : Cx} {T : Tbl} {W : WX} {o e a b : Expr} {apos cpos : Pos} {fo : EF} {fa : RF (List D)}
theorem se_append (ho : SE X T W o fo) (ha : SA X T W [a] fa) (hbase : attributeBase o "append" X.env (eval o X.env) = eval o X.env := by rfl)
    (hfew : ((backTo cpos (starEach [a] X.env)).all (fun x => !x.1) && (backToKw cpos (keywordEach [] X.env)).all (fun x => x.1.isSome) && decide ([a].length + ([] : List Keyword).length + (if ([] : List Keyword).isEmpty then 0 else 1) < 30)) = true := by rfl)
    (hline : (apos.endLine == cpos.line) = true := by rfl) (hs : starEach [a] X.env = (false, eval a X.env) :: starEach [] X.env := by rfl) : SE X T W (.Call (.Attribute o "append" apos) [a] [] cpos) (eM isLst gAppend fo fa) :=
  se_bm PySem.F.plainAttrs_list PySem.F.slot_list_append PySem.F.type_list_append mt_append tyok_list ok_append ho ha hbase hfew hline hs rfl
theorem se_extend (ho : SE X T W o fo) (ha : SA X T W [a] fa) (hbase : attributeBase o "extend" X.env (eval o X.env) = eval o X.env := by rfl)
    (hfew : ((backTo cpos (starEach [a] X.env)).all (fun x => !x.1) && (backToKw cpos (keywordEach [] X.env)).all (fun x => x.1.isSome) && decide ([a].length + ([] : List Keyword).length + (if ([] : List Keyword).isEmpty then 0 else 1) < 30)) = true := by rfl)
    (hline : (apos.endLine == cpos.line) = true := by rfl) (hs : starEach [a] X.env = (false, eval a X.env) :: starEach [] X.env := by rfl) : SE X T W (.Call (.Attribute o "extend" apos) [a] [] cpos) (eM isLst gExtend fo fa) :=
  se_bm PySem.F.plainAttrs_list PySem.F.slot_list_extend PySem.F.type_list_extend mt_extend tyok_list ok_extend ho ha hbase hfew hline hs rfl
theorem se_pop (ho : SE X T W o fo) (hbase : attributeBase o "pop" X.env (eval o X.env) = eval o X.env := by rfl) (hline : (apos.endLine == cpos.line) = true := by rfl) : SE X T W (.Call (.Attribute o "pop" apos) [] [] cpos) (eM isLst gPop fo aNil) :=
  se_bm0 PySem.F.plainAttrs_list PySem.F.slot_list_pop PySem.F.type_list_pop mt_pop tyok_list ok_pop ho hbase hline
end
/-! more rules in short -/
def sBrk : SF := fun env S => .brk env S
def sCnt : SF := fun env S => .cnt env S
def fuel : Nat := 1099511627776
def gIndex : MF := fun x ds S => match rdB S x, ds with
  | some bs, [.bl b] => match bs.findIdx? (· == b) with
    | some j => .ok (.int (j : Nat)) S
    | none => .bad
  | _, _ => .bad
theorem ok_index {K : PySem.W.Frag} {T : Tbl} : OkM K T (rIndex K) gIndex := fun W G S H x d xs ds Q s r rs p => by
  unfold gIndex at p
  split at p
  · rename_i bs b hb
    split at p
    · rename_i j hj
      obtain ⟨a, e1, h1⟩ := rdB_ok s r hb
      obtain ⟨y, e2, h2⟩ := rs.one
      rw [List.findIdx?_eq_some_iff_getElem] at hj
      obtain ⟨hl, hj1, hj2⟩ := hj
      refine ⟨a, bs.map V.bl, .bl b, j, .bl bs[j], e1, by rw [e2, show y = _ from h2], h1, rfl, ?_, by simp [hl], hj1, fun m z' hm hz => ?_, p.fin s rfl⟩
      · rw [List.all_eq_true]
        intro z hz
        obtain ⟨c, _, rfl⟩ := List.mem_map.mp hz
        rfl
      · rw [List.getElem?_map, List.getElem?_eq_getElem (Nat.lt_trans hm hl)] at hz
        cases hz
        have := hj2 m hm
        simpa [eqV] using this
    · exact p.elim
  · exact p.elim
section
variable {X : Cx} {T : Tbl} {W : WX} {o a : Expr} {apos cpos pos : Pos} {fo : EF} {fa : RF (List D)} {x : Str}
theorem se_index (ho : SE X T W o fo) (ha : SA X T W [a] fa) (hbase : attributeBase o "index" X.env (eval o X.env) = eval o X.env := by rfl)
    (hfew : ((backTo cpos (starEach [a] X.env)).all (fun x => !x.1) && (backToKw cpos (keywordEach [] X.env)).all (fun x => x.1.isSome) && decide ([a].length + ([] : List Keyword).length + (if ([] : List Keyword).isEmpty then 0 else 1) < 30)) = true := by rfl)
    (hline : (apos.endLine == cpos.line) = true := by rfl) (hs : starEach [a] X.env = (false, eval a X.env) :: starEach [] X.env := by rfl) : SE X T W (.Call (.Attribute o "index" apos) [a] [] cpos) (eM isLst gIndex fo fa) :=
  se_bm PySem.F.plainAttrs_list PySem.F.slot_list_index PySem.F.type_list_index mt_index tyok_list ok_index ho ha hbase hfew hline hs rfl
theorem se_gconst {i : Int} (h : ∃ t, X.mg x = some (.int i t)) (hg : Gl X x) (hd : (x == ("__debug__" : Str)) = false := by decide) : SE X T W (.Name x pos) (eK (.int i)) := by
  obtain ⟨t, h⟩ := h
  exact se_glob (v := .int i) hg h ⟨t, rfl⟩ (fun _ => rfl) hd
end
/-! isinstance -/
inductive Tag where
  | b (n : String)
  | o (c : Str)
  deriving DecidableEq
def tagV (K : PySem.W.Frag) : Tag → Value
  | .b n => .type n
  | .o c => .ref (He.ga K c)
def tagD (S : Store) : D → Option Tag
  | .non => some (.b "NoneType")
  | .bl _ => some (.b "bool")
  | .int _ => some (.b "int")
  | .str _ => some (.b "str")
  | .tup _ => some (.b "tuple")
  | .lst _ => some (.b "list")
  | .rol _ => some (.b "list")
  | .obj c _ _ => some (.o c)
  | .cell n => match S[n]? with
    | some (some (.lst _)) => some (.b "list")
    | some (some (.obj c _ _)) => some (.o c)
    | _ => none
  | .ty _ => none
/-- what isinstance asks of a class of one's own -/
structure ClsA (K : PySem.W.Frag) (C : Addr) : Prop where
  cl : Cls K C
  ha : PySem.W.findIn K (.ref C) "__class__" = some (some (.builtin "object.__class__"))
  hn : PySem.W.specialIn K (.builtin "object.__class__") "__get__" = some (some (.builtin "getset_descriptor.__get__"))
  htk : PySem.W.takesIn K (.builtin "object.__class__") = some true
  hm : PySem.W.mroIn K C (.type "object") = some true
def isSub (sub : Str → Str → Bool) : Tag → Tag → Bool
  | .b n, .b m => n == m || (n == "bool" && m == "int")
  | .o c, .o d => c == d || sub c d
  | _, _ => false
/-- the tags that may be asked of, the answers of the head -/
structure KitT (K : PySem.W.Frag) (sub : Str → Str → Bool) (tags asked : List Tag) : Prop where
  cls : ∀ c, Tag.o c ∈ tags → ClsA K (He.ga K c)
  kit : ∀ t ∈ tags, ∀ u ∈ asked, PySem.W.kitOne K (tagV K t) (tagV K u) = some (isSub sub t u)
theorem sqL_ty {K : PySem.W.Frag} {H : Hp} {a : Addr} {xs : List V} (h : SqL K H a xs) : TyX K H (.ref a) (.type "list") := by
  rcases h with (h | ⟨o, h⟩) | ⟨o, its, n, h1, h2, _⟩
  · exact .base (.lst h)
  · exact .base (.frz h)
  · exact .kList h1 h2
theorem sqT_ty {K : PySem.W.Frag} {H : Hp} {a : Addr} {xs : List V} (h : SqT K H a xs) : TyX K H (.ref a) (.type "tuple") := by
  rcases h with (h | ⟨o, h⟩) | ⟨o, its, n, h1, h2, _⟩
  · exact .base (.tup h)
  · exact .fTuple h
  · exact .kTuple h1 h2
theorem tag_ty {K : PySem.W.Frag} {T : Tbl} {G : GS} {S : Store} {H : Hp} {v : V} {d : D} {t : Tag} (s : SR K T G S H) (r : Rep K G v d) (h : tagD S d = some t) (hc : ∀ c, t = .o c → ClsA K (He.ga K c)) : TyX K H v (tagV K t) := by
  cases d with
  | non => cases h; rw [show v = _ from r]; exact .base .non
  | bl b => cases h; rw [show v = _ from r]; exact .base (.bl b)
  | int b => cases h; rw [show v = _ from r]; exact .base (.int b)
  | str b => cases h; rw [show v = _ from r]; exact .base (.str b)
  | ty n => cases h
  | tup l => cases h; obtain ⟨a, xs, e, q, _⟩ := r; rw [e]; exact sqT_ty (sqT_up s.sub q)
  | lst l => cases h; obtain ⟨a, xs, e, q, _⟩ := r; rw [e]; exact .base (.lst (s.sub _ _ q))
  | rol l => cases h; obtain ⟨a, xs, e, q, _⟩ := r; rw [e]; exact sqL_ty (sqL_up s.sub q)
  | obj c ks vs =>
    cases h
    obtain ⟨a, dx, xs, e, q, _⟩ := r
    have k := hc c rfl
    rw [e]
    exact .base (.ins (s.sub _ _ q) k.cl k.ha k.hn k.htk k.hm)
  | cell n =>
    obtain ⟨a, e, q⟩ := r
    unfold tagD at h
    dsimp only at h
    split at h
    · rename_i l hl
      cases h
      obtain ⟨xs, h1, h2⟩ := s.lstAt hl q
      rw [e]
      exact .base (.lst h1)
    · rename_i c ks vs hl
      cases h
      obtain ⟨b, q1, _, dx, xs, h1, _⟩ := s.cell n _ hl
      rw [q] at q1
      cases q1
      have k := hc c rfl
      rw [e]
      exact .base (.ins h1 k.cl k.ha k.hn k.htk k.hm)
    · cases h
def gIsi (sub : Str → Str → Bool) (tags : List Tag) (u : Tag) : D → Store → Res D := fun x S => match tagD S x with
  | some t => if t ∈ tags then .ok (.bl (isSub sub t u)) S else .bad
  | none => .bad
section
variable {X : Cx} {T : Tbl} {W : WX} {a : Expr} {pos p p2 : Pos} {fa : EF} {sub : Str → Str → Bool} {tags asked : List Tag} {c : Str}
/-- isinstance(x, T), T a built-in type -/
theorem se_isiB {n : String} (kt : KitT X.K sub tags asked) (hu : Tag.b n ∈ asked) (hg : Gl X "isinstance") (hm : X.mg "isinstance" = none) (hgc : Gl X c) (hmc : X.mg c = none) (hv : bootBuiltins c = some (.type n)) (ha : SE X T W a fa) (hn : c ≠ "__name__" := by decide) (hd : (c == ("__debug__" : Str)) = false := by decide)
    (he : starEach [a, .Name c p2] X.env = (false, eval a X.env) :: starEach [.Name c p2] X.env := by rfl) (hpl : (backTo pos (starEach [.Name c p2] X.env)).any (·.1) = false := by rfl) (he2 : starEach [.Name c p2] X.env = (false, eval (.Name c p2) X.env) :: starEach [] X.env := by rfl) :
    SE X T W (.Call (.Name "isinstance" p) [a, .Name c p2] [] pos) (e1 (gIsi sub tags (.b n)) fa) :=
  PE.imp (pe_callB call_isi hg hm (by decide +kernel) (pa_cons ha (pa_cons (pe_bltn (v := .ty n) hgc hmc hv rfl hn hd) pa_nil he2) he) (by decide) (by decide) he hpl) fun σ H Q ⟨env, G, S, s, e, p⟩ =>
  chain ⟨s, e⟩ p fun x H1 dx S1 G1 l1 A1 r1 p1 => by
    unfold gIsi at p1
    split at p1
    · rename_i t ht
      split at p1
      · rename_i hin
        exact ⟨x, .ty n, tagV X.K t, .type n, _, rfl, .ty n, tag_ty A1.s r1 ht fun c hc => kt.cls c (hc ▸ hin), kt.kit t hin _ hu, p1.fin A1.s rfl⟩
      · exact p1.elim
    · exact p1.elim
/-- .. T a class of one's own -/
theorem se_isiO (kt : KitT X.K sub tags asked) (hu : Tag.o c ∈ asked) (hg : Gl X "isinstance") (hm : X.mg "isinstance" = none) (hgc : Gl X c) (hmc : X.mg c = some (.ref (He.ga X.K c))) (ha : SE X T W a fa) (hd : (c == ("__debug__" : Str)) = false := by decide)
    (he : starEach [a, .Name c p2] X.env = (false, eval a X.env) :: starEach [.Name c p2] X.env := by rfl) (hpl : (backTo pos (starEach [.Name c p2] X.env)).any (·.1) = false := by rfl) (he2 : starEach [.Name c p2] X.env = (false, eval (.Name c p2) X.env) :: starEach [] X.env := by rfl) :
    SE X T W (.Call (.Name "isinstance" p) [a, .Name c p2] [] pos) (e1 (gIsi sub tags (.o c)) fa) :=
  PE.imp (pe_callB call_isi hg hm (by decide +kernel) (pa_cons ha (pa_cons (pe_glob (v := .ref (He.ga X.K c)) hgc hmc rfl hd) pa_nil he2) he) (by decide) (by decide) he hpl) fun σ H Q ⟨env, G, S, s, e, p⟩ =>
  chain ⟨s, e⟩ p fun x H1 dx S1 G1 l1 A1 r1 p1 => by
    unfold gIsi at p1
    split at p1
    · rename_i t ht
      split at p1
      · rename_i hin
        exact ⟨x, .ref (He.ga X.K c), tagV X.K t, .ref (He.ga X.K c), _, rfl, .own _, tag_ty A1.s r1 ht fun c hc => kt.cls c (hc ▸ hin), kt.kit t hin _ hu, p1.fin A1.s rfl⟩
      · exact p1.elim
    · exact p1.elim
end
end Z
end
section
set_option Elab.async false
set_option linter.all false
set_option maxRecDepth 100000
set_option maxHeartbeats 1000000
namespace Zx
open PySem PySem.Spec PyProof.Rows L2 NdefX
/-! an own exception class over a built-in one, its __init__: super().__init__(text), then one field -/
structure IniK (K : PySem.W.Frag) (C : Addr) (B newId iniId : String) (bmB : List Value) : Prop where
  cls : PySem.W.excInitIn K C bmB newId = true
  ov : PySem.W.excOver K C bmB = true
  hd : PySem.W.hasDictIn K C = true
  sa : PySem.W.findIn K (.ref C) "__setattr__" = some (some (.builtin "object.__setattr__"))
  exC : PySem.W.subIn K (.ref C) (.type "BaseException") = some true
  subB : PySem.W.subIn K (.ref C) (.type B) = some true
  tyC : PySem.W.typeIn K (.ref C) = some (.type "type")
  kC : PySem.W.keepIn K (.ref C) = true
  mroC : PySem.W.mroIn K C (.ref C) = some true
  any : PySem.W.nsIn K cStatics "thirdparty.any" = some none
  sup : PySem.W.ks_superIn K C C "__init__" = some (some (.builtin iniId))
structure BaseK (B newId iniId : String) (bmB : List Value) : Prop where
  fb : ExcBaseFacts B newId iniId bmB
  sf : StoreFacts B bmB "object.__setattr__" "object"
  kf : PySem.W.KxsFacts B iniId
abbrev bmV : List Value := [.type "ValueError", .type "Exception", .type "BaseException", .type "object"]
abbrev bmO : List Value := [.type "OverflowError", .type "ArithmeticError", .type "Exception", .type "BaseException", .type "object"]
abbrev bmL : List Value := [.type "LookupError", .type "Exception", .type "BaseException", .type "object"]
theorem base_ValueError : BaseK "ValueError" "ValueError.__new__" "ValueError.__init__" bmV := ⟨F.excBase_ValueError, F.store_ValueError, PySem.W.kxs_ValueError⟩
theorem base_OverflowError : BaseK "OverflowError" "OverflowError.__new__" "OverflowError.__init__" bmO := ⟨F.excBase_OverflowError, F.store_OverflowError, PySem.W.kxs_OverflowError⟩
theorem base_LookupError : BaseK "LookupError" "LookupError.__new__" "LookupError.__init__" bmL := ⟨F.excBase_LookupError, F.store_LookupError, PySem.W.kxs_LookupError⟩
section
open Builtin Builtin.ObjectAttr
variable {prog : Program} {w : World} {A : Around} {E : Value → Shared → Prop} {R : Result → Shared → Prop} {hp : Heap} {g : Array GenState} {d : Drawn} {t : Nat} {os : OsState}
theorem osa_first {B : String} {bmB : List Value} {K : PySem.W.Frag} {f : Str} {tk : Tok} {v : Value} {x C : Addr} {fv : Array Value} (SF : StoreFacts B bmB "object.__setattr__" "object") (X : K.In hp)
    (hx : hp.get? x = some { cls := .ref C, data := .fields fv }) (ov : PySem.W.excOver K C bmB = true) (hh : PySem.W.hasDictIn K C = true) (ha : PySem.W.findIn K (.ref C) f = some none)
    (hq : ∀ h2 tk2 dx, (∀ b o, b ≠ x → hp.get? b = some o → h2.get? b = some o) → hp.objs.size ≤ dx → dx ≠ x → h2.get? x = some { cls := .ref C, dict := some dx, data := .fields fv } →
      h2.Ns1 dx (fun y => if y = f then some v else none) → R (.ok (.ret .none)) ⟨h2, g, d, tk2, os⟩) :
    codeAny (model prog w) A (.call (.builtin "object.__setattr__") ⟨[.ref x, .str f tk, v], []⟩) R ⟨hp, g, d, t, os⟩ := by
  have inst : PySem.W.InstAt hp x { cls := .ref C, data := .fields fv } C none := ⟨hx, rfl, rfl, trivial⟩
  refine PySem.W.osa_openX SF X inst ov (r := none) (by unfold PySem.W.takerIn; rw [ha]; rfl) fun b => ?_
  show wpAny _ _ (storeInOwnDict (.ref x) (.ref C) (.str f tk) f v b) _ _ _
  obtain ⟨cd, hcd, hd⟩ := PySem.W.any_some hh
  have look : PySem.W.Looks (model prog w) hp (classData C) cd := PySem.W.looks_clsIn X hcd
  have apart : x ≠ hp.objs.size := Nat.ne_of_lt (Heap.lt_size hx)
  obtain ⟨nm, bs, mro, ns, qn, hasD, sn, sb, ab, col, del⟩ := cd
  dsimp only at hd
  subst hd
  unfold storeInOwnDict ownDictForStores
  repeat (first | with_reducible refine PySem.HandSPX.store_in_new ?_ ?_ | with_reducible refine wpAny_loadPart_at hx ?_ | with_reducible refine look.at ?_ | wp_step)
  · refine ⟨_, #[], _, (Heap.get?_update_ne _ _ _ _ apart.symm).trans (Heap.get?_push_at rfl rfl), rfl, fun e he => absurd he (by simp), fun _ => rfl⟩
  · intro h2 tk2 n2 s2
    have z := Heap.get?_push_of_some ({ cls := .type "dict", data := .dict #[] } : Obj) hx
    refine hq h2 tk2 hp.objs.size (fun c o hc ho => ?_) (Nat.le_refl _) apart.symm ?_ n2
    · refine (s2.2 c (Nat.ne_of_lt (Heap.lt_size ho))).trans ?_
      exact (Heap.get?_update_ne _ _ _ _ hc).trans (Heap.get?_push_of_some _ ho)
    · exact (s2.2 x apart).trans (Heap.get?_update_self _ z rfl)
end
section
variable {X : Cx} {pins : List (Addr × Obj)} {σ : L2.St} {H : Hp} {s : Shared} {a C : Addr} {f : Str} {y : V} {u : Value} {Q : Unit → Shared → Prop} {E : Value → Shared → Prop} {A : Around} {B newId iniId : String} {bmB : List Value}
/-- the field is stored -/
theorem first_store (KB : BaseK B newId iniId bmB) (T : IniK X.K C B newId iniId bmB) (I : Inv X pins σ H s) (e : H a = some (exo a C none)) (hno : PySem.W.findIn X.K (.ref C) f = some none) (ry : RelV y u)
    (h : ∀ dx s2, H dx = none → dx ≠ a → Inv X pins σ (upd (upd H dx (exd dx [(f, y)])) a (exo a C (some dx))) s2 → Q () s2) : wpAny (model X.prog X.w) A (setAttr (.ref a) f u) Q E s := by
  obtain ⟨t1, ho⟩ := exo_at I.hok e
  obtain ⟨hp, g, d, t, os⟩ := s
  refine PySem.W.set_plain I.kIn (ox := { cls := .ref C, dict := none, data := .fields #[.ref t1, .none, .none, .none, .bool false, .none] }) (od := none) ⟨ho, rfl, rfl, trivial⟩ T.sa ?_
  refine osa_first KB.sf I.kIn ho T.ov T.hd hno fun h2 tk2 dx kp above apart hx hn => ?_
  have fr : H dx = none := I.hok.fresh above
  have old : ∀ {b : Addr} {o : Obj}, hp.get? b = some o → b ≠ dx := fun {b o} q z => by
    have := Heap.lt_size q
    rw [z] at this
    exact absurd above (Nat.not_le.mpr this)
  have nota : ∀ {b : Addr}, H b = none → b ≠ a := fun {b} n z => by
    rw [z, e] at n
    cases n
  refine h dx _ fr apart (I.un (t' := tk2) (h' := h2) ?_ fun b o q => ?_)
  · constructor
    · intro b o q n _ _
      exact kp b o (nota n) q
    · intro b o q n _ _
      exact ⟨o.slots, kp b o (nota n) q⟩
    · intro b o q n _
      rw [upd_ne (nota n), upd_ne (old q)]
      exact n
    · intro b o q _
      by_cases hb : b = a
      · rw [hb]
        exact ⟨_, hx⟩
      · exact ⟨o, kp b o hb q⟩
    · intro b xs q
      rw [upd_ne (at_ne e q exo_tup), upd_ne (ne_of_none q fr)]
      exact q
    · intro b o v q
      rw [upd_ne (at_ne e q exo_frz), upd_ne (ne_of_none q fr)]
      exact q
    · intro b ps q
      refine ⟨#[], ?_⟩
      rw [upd_ne (at_ne e q exo_tbl), upd_ne (ne_of_none q fr), q]
      simp
  · by_cases hb : b = a
    · subst hb
      rw [upd_same] at q
      cases q
      exact exo_ok hx
    · rw [upd_ne hb] at q
      by_cases hd : b = dx
      · subst hd
        rw [upd_same] at q
        cases q
        exact exd_ok hn (relO_put (fs := []) ry fun _ => True.intro)
      · rw [upd_ne hd] at q
        refine (I.hok b o q).stay (fun c v hc z => kp c v ?_ z) (fun c hc => ?_) fun c xs hc => ?_
        · rcases hc with hc | hc
          · rw [hc]
            exact hb
          · exact at_ne e hc exo_own
        · rw [upd_ne (at_ne e hc exo_own), upd_ne (ne_of_none hc fr)]
          exact hc
        · rw [upd_ne (at_ne e hc exo_tup), upd_ne (ne_of_none hc fr)]
          exact hc
/-- self.f = e -/
def tFst (K : PySem.W.Frag) (C : Addr) (f : Str) (to te : TE) : TS := fun D σ H => te σ H fun y H1 => to σ H1 fun x H2 => ∃ a : Addr, x = .ref a ∧ H2 a = some (exo a C none) ∧ ∀ dx, H2 dx = none → dx ≠ a → D.nx σ (upd (upd H2 dx (exd dx [(f, y)])) a (exo a C (some dx)))
theorem ps_fst {o e : Expr} {to te : TE} {p2 pos : Pos} (KB : BaseK B newId iniId bmB) (T : IniK X.K C B newId iniId bmB) (hno : PySem.W.findIn X.K (.ref C) f = some none) (ho : PE X o to) (he : PE X e te) (hs : swapsWith e (some (.Attribute o f p2)) pos.line X.env = pure false := by rfl) :
    PS X (.Assign [.Attribute o f p2] e pos) (tFst X.K C f to te) := by
  refine ⟨fun pins s σ H D I h => ?_⟩
  refine plainObj_wpAny_Assign_Attribute (thn (he.run pins s σ H _ I h) fun v s1 ⟨y, H1, I1, r1, q1⟩ => thn (ho.run pins s1 σ H1 _ I1 q1) fun u s2 ⟨x, H2, I2, r2, a, ex, ea, q⟩ => ?_) hs
  subst ex
  obtain rfl : u = Value.ref a := r2
  exact first_store KB T I2 ea hno r1 fun dx s3 n ne J => ⟨σ, _, J, q dx n ne⟩
end
/-! super().__init__(text) at the head of the body -/
section
variable {CX : CXT} {P : Program} {w : World} {K : PySem.W.Frag} {mg : Str → Option Value} {base : Heap} {N ps : List Str} {F : NF} {f cc C : Addr} {k : Nat} {B newId iniId : String} {bmB : List Value} {oc : Value} {od : Option Addr} {osl : Array (Option Value)} {doc pm ctv : Value} {sp : Sp}
structure SupK (P : Program) (K : PySem.W.Frag) (mg : Str → Option Value) (F : NF) (C cc : Addr) : Prop where
  cl : F.cl = [(("__class__" : Str), cc)]
  cell : ∃ c2 d2 s2, K.lookup cc = some ⟨c2, d2, .cell (some (.ref C)), s2⟩
  code : PySem.W.codeIn K (.ref F.c) F.qual = true
  file : ∃ c2 d2 vs s2 fl tf, K.lookup F.c = some ⟨c2, d2, .fields vs, s2⟩ ∧ vs[2]? = some (.str fl tf) ∧ ((P.main.file : Str) == fl) = true
  par : ∃ ar, (F.params.posonlyargs ++ F.params.args).head? = some ar ∧ ar.arg = ("self" : Str)
  free : mg "super" = none
  ksup : F.scope.names.lookup ("super" : Str) = some .globalImplicit
  kcls : F.scope.names.lookup ("__class__" : Str) = some .free
  kself : F.scope.names.lookup ("self" : Str) = some .local
  top : (P.main.scope.names.lookup ("super" : Str)).isSome = false
theorem keepsH {H : Hp} {a : Addr} {o : HO} (e : H a = some o) : upd H a o = H := by
  funext b
  by_cases hb : b = a
  · rw [hb, upd_same, e]
  · rw [upd_ne hb]
theorem call_wrapped {A : Around} {E : Value → Shared → Prop} {h : Heap} {g : Array GenState} {d : Drawn} {t : Nat} {os : OsState} {prog : Program} {u x t0 : Addr} {rest : List Value} {Q : Value → Shared → Prop} (KB : BaseK B newId iniId bmB) (hK : K.In h) (q : PySem.W.excInitIn K C bmB newId = true)
    (hu : h.get? u = some (PySem.W.kxs_mw iniId x)) (he : h.get? x = some (PySem.HandSPX.excO C t0)) (hz : rest.length ≤ sizeLine)
    (hq : ∀ h2 t2, (∀ b o, b ≠ x → h.get? b = some o → h2.get? b = some o) → h2.get? x = some (PySem.HandSPX.excO C t2) → Q .none ⟨h2, g, d, t, os⟩) :
    wpAny (model prog w) A (call (.ref u) rest) Q E ⟨h, g, d, t, os⟩ := by
  obtain ⟨nm, N2, qn, bs, bm, hdct, sn, sub, ab, col, dd, k0, k1, k2, k3, k5, hC, _⟩ := PySem.W.excInit_of hK q
  refine wpAny_call (codeAny_of_tree ?_)
  show wpAny _ A.in1 (callAny (.ref u) ⟨rest, []⟩) _ _ _
  simp only [callAny]
  refine wpAny_bind (wpAny_load hu ?_)
  simp only [PySem.W.kxs_mw, show (Value.type "method-wrapper" == Value.type "method" || Value.type "method-wrapper" == Value.type "builtin_function_or_method" || Value.type "method-wrapper" == Value.type "method-wrapper") = true by decide, if_true]
  refine PySem.W.KFB.if_so (by decide) ?_
  refine wpAny_bind (PySem.W.check_bound_init KB.fb.toExcCallFacts hC he rfl ?_)
  refine wpAny_bind (wpAny_pure (wpAny_pure ⟨plainId_quiet KB.fb.init.plain _, codeAny_builtin KB.fb.initEntry ?_⟩))
  exact PySem.W.exc_init_tree (cls := .ref C) (t0 := t0) (dv := none) (c2 := .none) (c3 := .none) (b4 := .bool false) he hz fun h2 kp e2 _ => hq h2 _ kp e2
/-- a function so begun keeps its promise -/
theorem ini_fn {msg : Str} {j : Nat} {p0 p1 apos cpos epos mpos : Pos} {rest : List Stmt} (KB : BaseK B newId iniId bmB) (T : IniK K C B newId iniId bmB) (SK : SupK P K mg F C cc) (S : NScope N ps [("__class__" : Str)] F.scope) (lk : K.lookup f = some ⟨oc, od, .func (F.fd doc pm ctv), osl⟩)
    (hb : ∀ (us : List Value), us.length = ps.length → bindArgs (F.fd doc pm ctv) ⟨us, []⟩ = pure (ps.zip us)) (hps : ps[0]? = some ("self" : Str)) {pl : Env → Sem Bool}
    (he : ∀ env, eval (.Call (.Attribute (.Call (.Name "super" p0) [] [] p1) "__init__" apos) [.Constant (.str msg) j mpos] [] cpos) env = (do
      let ov ← attributeBase (.Call (.Name "super" p0) [] [] p1) "__init__" env (eval (.Call (.Name "super" p0) [] [] p1) env)
      standAt apos.atName
      let (f, first) ← holding [ov] (getMethod ov "__init__" (pl env))
      callWith cpos f first (backTo cpos (starEach [.Constant (.str msg) j mpos] env)) []))
    (hbody : F.body = .Expr (.Call (.Attribute (.Call (.Name "super" p0) [] [] p1) "__init__" apos) [.Constant (.str msg) j mpos] [] cpos) epos :: rest)
    (len : ∀ vs H Q E, sp vs H Q E → vs.length = ps.length)
    (run : ∀ (A : Around) (outer : List Env) (s : Shared) (H : Hp) (vs : List V) (Q : VK) (E : XK), sp vs H Q E → ∃ a ws, vs = .ref a :: ws ∧ H a = some (exo a C none) ∧
      ∃ t, PSs (ncx CX P w K mg base N F f A outer s H E) rest t ∧ t { nx := fun _ H' => Q .non H', rt := Q } (startF N vs [none]) H) :
    FnR P w K mg base CX (k + 1) f sp := by
  intro A outer s H us vs Q E hr e0 r hsp
  have hl := len _ _ _ _ hsp
  have KX : K.In s.heap := e0.mod.kin.keeps fun b o e => (e0.bs b o e).1
  have lim : s.heap.NoLimit := e0.mod.nolimit.keeps fun b o e => (e0.bs b o e).1
  obtain ⟨a, ws, rfl, ea, t, ht, hq⟩ := run A outer s H vs Q E hsp
  refine codeAny_call_function hr.depth (KX _ _ lk) rfl S.co S.gen rfl (PySem.W.codeRec_of KX SK.code) ?_
  rw [hb us (by rw [← r.length]; exact hl)]
  refine wpAny_pure (wpAny_newFunctionEnv S.nocell (fun ⟨n, _⟩ hy => S.par n (List.of_mem_zip hy).1) (fun h₁ hns hsb => ⟨lim.fresh _ hsb, ?_⟩) S.kind)
  show codeAny _ _ (.func F.body (envF F f s.heap.objs.size)) _ _
  have kp : ∀ b o, s.heap.get? b = some o → h₁.get? b = some o := fun b o e => hsb.extBut b o (Nat.ne_of_lt (Heap.lt_size e)) (Heap.get?_push_of_some _ e)
  obtain ⟨c2, d2, s2, lcell⟩ := SK.cell
  have bcell : base.get? cc = some ⟨c2, d2, .cell (some (.ref C)), s2⟩ := e0.mod.kin _ _ lcell
  have Cs : CellsAt F.cl [("__class__" : Str)] [none] s.heap H := by
    rw [SK.cl]
    have one : ∀ {y : Str} {c : Addr}, List.lookup y [(("__class__" : Str), cc)] = some c → y = "__class__" ∧ c = cc := fun {y c} e => by
      have := PySem.mem_of_lookup e
      simpa using this
    refine ⟨rfl, fun y c e => ?_, fun x y c e1 e2 => (one e1).1.trans (one e2).1.symm, fun i y e => ?_⟩
    · rw [(one e).2]
      exact ⟨(e0.bs _ _ bcell).2, some (.ref C), _, (e0.bs _ _ bcell).1, rfl⟩
    · cases i with
      | zero =>
        cases e
        exact ⟨cc, by simp [List.lookup], fun v z => by cases z⟩
      | succ i => simp at e
  have I : Inv (ncx CX P w K mg base N F f A outer s H E) [] (startF N (.ref a :: ws) [none]) H { s with heap := h₁, toks := s.toks + (ps.zip us).length } := inv_startN S hr.hd e0 hl r Cs hns kp
  refine ks_codeAny_funcAt ?_
  rw [hbody]
  have hD := T.cls
  have IK := I.kIn
  obtain ⟨c3, d3, vs3, s3, fl, tf, lcode, hv3, hfile⟩ := SK.file
  obtain ⟨ar, hpar, harg⟩ := SK.par
  obtain ⟨t1, hx⟩ := exo_at I.hok ea
  obtain ⟨nm, N2, qn, bs, bm, hdct, sn, sub, ab, col, dd, k0, k1, k2, k3, k5, hC, _⟩ := PySem.W.excInit_of IK T.cls
  obtain ⟨mb, blt1, blt2⟩ := I.mod.blt
  have ku : us[0]? = some (Value.ref a) := by
    cases r with
    | cons ra _ => rw [show _ = Value.ref a from ra]; rfl
  have ndP : ps.Nodup := by
    have q := S.nd.sublist (List.take_sublist (ps.length + [("__class__" : Str)].length) N)
    rw [S.pre] at q
    exact (List.nodup_append.mp q).1
  have hself : (fun y => (ps.zip us).reverse.lookup y) ("self" : Str) = some (Value.ref a) := zip_look (i := 0) ndP hps ku
  refine ks_wpAt_execs_cons (ks_wpAt_Expr_any (ks_wpAt_MethodCall (pl := pl _) ?_ (he _)) I.quiet)
  refine ks_wpAt_super_base (env := envF F f s.heap.objs.size) SK.ksup SK.kcls (by decide) rfl (IK _ _ lk) rfl hpar rfl (IK _ _ lcode) rfl hv3 hfile SK.top ?_
  refine PySem.W.ks_loadName_global S.kind SK.ksup (Calls.loadGlobal_builtin (I.mod.glob.keeps I.bk) SK.free (blt1.keeps I.bk) ((blt2 _ (by decide)).trans (by decide +kernel)) ⟨rfl, ?_⟩)
  refine wpAny_loadName_free S.kind SK.kcls (c := cc) (v := .ref C) (by show F.cl.lookup _ = _; rw [SK.cl]; rfl) ⟨_, IK _ _ lcell, rfl⟩ ?_
  rw [harg]
  refine wpAny_loadName_local S.kind SK.kself hns hself ?_
  refine ks_wpAny_isType_cls hC rfl ⟨rfl, ?_⟩
  refine ks_wpAny_call_super hC rfl hx rfl (fun c e => by cases e) (PySem.W.looks_mroIn IK T.mroC) fun h2 hso kp2 => ?_
  have I2 := I.kept (t' := s.toks + (ps.zip us).length) kp2
  have IK2 := I2.kIn
  have hx2 := kp2 _ _ hx
  have inst2 : PySem.W.InstAt h2 a { cls := .ref C, dict := none, data := .fields #[.ref t1, .none, .none, .none, .bool false, .none] } C none := ⟨hx2, rfl, rfl, trivial⟩
  have isB : PySem.W.Looks (model P w) h2 (isInstance (.ref a) (.type B)) true := inst2.type.andThen (PySem.W.looks_subIn IK2 T.subB)
  obtain ⟨cdC, hcdC, _⟩ := PySem.W.any_some T.hd
  have sup := T.sup
  unfold PySem.W.ks_superIn at sup
  rw [hcdC] at sup
  refine PySem.W.kxs_getMethod KB.kf (l₀ := cdC.mro) hso (PySem.W.looks_opaque IK2 T.any) (fun A Q E s k q => wpAny_bind ((PySem.W.looks_clsIn IK2 hcdC) A _ E s k (wpAny_pure q))) rfl IK2 sup isB (PySem.W.ks_ne IK2 inst2 hcdC) (by decide) ?_
  have up3 : ∀ b o, h2.get? b = some o → (h2.push (PySem.W.kxs_mw iniId a)).get? b = some o := fun b o e => Heap.get?_push_of_some _ e
  have I3 := I2.kept (t' := s.toks + (ps.zip us).length + 1) up3
  have hu3 : (h2.push (PySem.W.kxs_mw iniId a)).get? h2.objs.size = some (PySem.W.kxs_mw iniId a) := Heap.get?_push_size _ rfl
  refine PySem.W.kxs_callWith (i := iniId) (x := a) rfl ?_
  show wpAny _ _ (evalArgs (.ref h2.objs.size) true ((false, eval (.Constant (.str msg) j mpos) (envF F f s.heap.objs.size)) :: []) []) _ _ _
  refine Calls.evalArgs_plain ?_
  have pin : Inv (ncx CX P w K mg base N F f A outer s H E) [(h2.objs.size, PySem.W.kxs_mw iniId a)] (startF N (.ref a :: ws) [none]) H ⟨h2.push (PySem.W.kxs_mw iniId a), s.gens, s.drawn, s.toks + (ps.zip us).length + 1, s.os⟩ := by
    refine I3.pins_of fun p hp => ?_
    rw [List.mem_singleton.mp hp]
    exact ⟨hu3, I2.hok.fresh (Nat.le_refl _), fun z => absurd I2.lt (by rw [← z]; exact Nat.lt_irrefl _), I2.nofs (Nat.le_refl _), fun v z => by cases z⟩
  refine thn ((pa_cons (X := ncx CX P w K mg base N F f A outer s H E) (e := .Constant (.str msg) j mpos) pe_str pa_nil).run cpos _ _ _ H (fun vs H1 => H1 = H ∧ vs.length = 1) pin ⟨rfl, rfl⟩) fun vs4 s4 ⟨ws4, H4, I4, r4, e4, l4⟩ => ?_
  subst e4
  have hu4 := (I4.pin _ (List.mem_cons_self ..)).1
  refine ⟨hu4, ?_⟩
  obtain ⟨t4, hx4⟩ := exo_at I4.hok ea
  obtain ⟨hp4, g4, dr4, tk4, os4⟩ := s4
  refine call_wrapped (C := C) KB I4.kIn T.cls hu4 hx4 (by rw [List.nil_append, ← r4.length, l4, sizeLine_eq]; decide) fun h5 t5 kp5 hx5 => ?_
  have I5 := I4.write (t' := tk4) (x := a) (e := a) (o := exo a C none) (by rw [ea]; exact True.intro) (.inl rfl) kp5 ⟨_, hx5⟩ (exo_ok hx5)
  rw [keepsH ea] at I5
  refine _root_.PySem.wpAt_of_wpAny (wpAny_mono (ht.run [] _ _ _ { nx := fun _ H' => Q .non H', rt := Q } (I5.pins_of fun p hp => absurd hp (by simp)) hq) (fun fl s' hs => ?_) fun e s' hs => hs)
  have fin : ∀ {σ' : L2.St} {H' : Hp} {v : V} {u : Value}, Inv (ncx CX P w K mg base N F f A outer s H4 E) [] σ' H' s' → L2.RelV v u → Q v H' → CE outer P w H4 s Q u s' :=
    fun {σ' H' v u} J rv q => ⟨v, H', J.os, J.bare, J.base, J.hok, rv, q⟩
  cases fl with
  | ret u =>
    obtain ⟨v, σ', H', J, rv, q⟩ := hs
    exact fin J rv q
  | next =>
    obtain ⟨σ', H', J, q⟩ := hs
    exact fin (v := V.non) (u := Value.none) J rfl q
  | brk =>
    obtain ⟨_, _, _, q⟩ := hs
    exact False.elim q
  | cont =>
    obtain ⟨_, _, _, q⟩ := hs
    exact False.elim q
end
/-- the promise of an __init__ that keeps its argument in the field f -/
def spIni (C : Addr) (f : Str) : Sp := fun vs H Q _ => ∃ (a : Addr) (v : V), vs = [.ref a, v] ∧ H a = some (exo a C none) ∧ ∀ dx, H dx = none → dx ≠ a → Q .non (upd (upd H dx (exd dx [(f, v)])) a (exo a C (some dx)))
section
variable {CX : CXT} {P : Program} {w : World} {K : PySem.W.Frag} {mg : Str → Option Value} {base : Heap} {F : NF} {f cc C : Addr} {k : Nat} {B newId iniId : String} {bmB : List Value} {oc : Value} {od : Option Addr} {osl : Array (Option Value)} {doc pm ctv : Value}
theorem ini_one {msg par fld : Str} {j : Nat} {p0 p1 apos cpos epos mpos q1 q2 q3 q4 : Pos} (KB : BaseK B newId iniId bmB) (T : IniK K C B newId iniId bmB) (SK : SupK P K mg F C cc) (S : NScope [("self" : Str), par, ("__class__" : Str)] [("self" : Str), par] [("__class__" : Str)] F.scope)
    (lk : K.lookup f = some ⟨oc, od, .func (F.fd doc pm ctv), osl⟩)
    (hb : ∀ (us : List Value), us.length = 2 → bindArgs (F.fd doc pm ctv) ⟨us, []⟩ = pure ([("self" : Str), par].zip us)) {pl : Env → Sem Bool}
    (he : ∀ env, eval (.Call (.Attribute (.Call (.Name "super" p0) [] [] p1) "__init__" apos) [.Constant (.str msg) j mpos] [] cpos) env = (do
      let ov ← attributeBase (.Call (.Name "super" p0) [] [] p1) "__init__" env (eval (.Call (.Name "super" p0) [] [] p1) env)
      standAt apos.atName
      let (f, first) ← holding [ov] (getMethod ov "__init__" (pl env))
      callWith cpos f first (backTo cpos (starEach [.Constant (.str msg) j mpos] env)) []))
    (hbody : F.body = [.Expr (.Call (.Attribute (.Call (.Name "super" p0) [] [] p1) "__init__" apos) [.Constant (.str msg) j mpos] [] cpos) epos, .Assign [.Attribute (.Name "self" q1) fld q2] (.Name par q3) q4])
    (hno : PySem.W.findIn K (.ref C) fld = some none) (hp1 : (par == ("__debug__" : Str)) = false) (hp2 : (par == ("__classdict__" : Str)) = false) (hpar : F.scope.names.lookup par = some .local)
    (hsw : ∀ env, swapsWith (.Name par q3) (some (.Attribute (.Name "self" q1) fld q2)) q4.line env = pure false) : FnR P w K mg base CX (k + 1) f (spIni C fld) :=
  ini_fn (k := k) (N := [("self" : Str), par, ("__class__" : Str)]) KB T SK S lk hb rfl he hbody (fun vs H Q E ⟨a, v, e, _⟩ => by rw [e]; rfl) fun A outer s H vs Q E ⟨a, v, e, ea, q⟩ => by
    subst e
    refine ⟨a, [v], rfl, ea, _, pss_one (ps_fst KB T hno (pe_var (i := 0) rfl (.inl SK.kself)) (pe_var (i := 1) rfl (.inl hpar) hp1 hp2) (hsw _)), ?_⟩
    exact ⟨v, rfl, .ref a, rfl, a, rfl, ea, q⟩
end
/-- C(e) is made to be raised -/
def tMkF (C : Addr) (f : Str) (ta : TA) : L2.St → Hp → XK → Prop := fun σ H Q => ta σ H fun vs H1 => ∃ v, vs = [v] ∧ ∀ dx, H1 dx = none → Q (.ref C) (some dx) (upd H1 dx (.xd [(f, v)]))
section
variable {X : Cx} {e : Expr} {ta : TA} {p pos : Pos} {CX : CXT} {x f : Str} {C fI : Addr} {k : Nat} {B newId iniId : String} {bmB : List Value}
theorem pmk_ini (KB : BaseK B newId iniId bmB) (T : IniK X.K C B newId iniId bmB) (iC : PySem.W.findIn X.K (.ref C) "__init__" = some (some (.ref fI))) (tI : PySem.W.typeIn X.K (.ref fI) = some (.type "function"))
    (F1 : FnR X.prog X.w X.K X.mg X.base CX k fI (spIni C f)) (hr : Room (k + 1) X.A) (hx : Passes CX X (fun _ _ _ => False)) (hg : Gl X x) (hm : X.mg x = some (.ref C)) (ha : PA X [e] ta)
    (hdb : (x == ("__debug__" : Str)) = false := by decide) (he : starEach [e] X.env = (false, eval e X.env) :: starEach [] X.env := by rfl) : PMk X (.Call (.Name x p) [e] [] pos) (tMkF C f ta) := by
  intro pins s σ H Q I h
  refine wpAny_Call_Name_kw (ld_glob I hg hm ?_ hdb)
  refine PySem.W.callWith_K (h₀ := X.base) I.ok.mod.kin T.kC (thn (ha.run pos pins s σ H _ I h) fun us s1 ⟨vs, H1, I1, r1, v, ev, q1⟩ => ⟨I1.kIn, ?_⟩) he rfl
  subst ev
  show wpAny _ _ (call (.ref C) us) _ _ _
  obtain ⟨nm, N, qn, bs, bm, hdct, sn, sub, ab, col, dd, k0, k1, k2, k3, k5, hC, hbm⟩ := PySem.W.excInit_of I1.kIn T.cls
  obtain ⟨hp, g, dr, tk, os⟩ := s1
  have above : hp.objs.size ≤ hp.objs.size + 1 := Nat.le_succ _
  have hn : H1 (hp.objs.size + 1) = none := I1.hok.fresh above
  have up2 : ∀ b o, hp.get? b = some o → ((hp.push (PySem.W.kdv_tup us)).push (PySem.HandSPX.excO C hp.objs.size)).get? b = some o := fun b o z => Heap.get?_push_of_some _ (Heap.get?_push_of_some _ z)
  have at2 : ((hp.push (PySem.W.kdv_tup us)).push (PySem.HandSPX.excO C hp.objs.size)).get? (hp.objs.size + 1) = some (PySem.HandSPX.excO C hp.objs.size) := by heap_get
  have I2 := I1.laid (t' := tk) (a := hp.objs.size + 1) (o := exo (hp.objs.size + 1) C none) up2 above (exo_ok at2)
  have r2 : Vals [V.ref (hp.objs.size + 1), v] (Value.ref (hp.objs.size + 1) :: us) := .cons rfl r1
  have small : us.length ≤ sizeLine := by
    rw [← Paired.length r1, sizeLine_eq]
    show 1 ≤ 16777216
    decide
  have prom : spIni C f [V.ref (hp.objs.size + 1), v] (upd H1 (hp.objs.size + 1) (exo (hp.objs.size + 1) C none)) (fun y H2 => y = .non ∧ ∃ (d : Addr) (fs : List (Str × V)), H2 (hp.objs.size + 1) = some (exo (hp.objs.size + 1) C (some d)) ∧ H2 d = some (exd d fs) ∧ H1 d = none ∧
      Q (.ref C) (some d) (upd (del H2 (hp.objs.size + 1)) d (.xd fs))) (fun _ _ _ => False) := by
    refine ⟨_, v, rfl, upd_same, fun dx h1 h2 => ⟨rfl, dx, _, upd_same, by rw [upd_ne h2, upd_same], by rw [upd_ne h2] at h1; exact h1, ?_⟩⟩
    rw [upd_ne h2] at h1
    have eq : upd (del (upd (upd (upd H1 (hp.objs.size + 1) (exo (hp.objs.size + 1) C none)) dx (exd dx [(f, v)])) (hp.objs.size + 1) (exo (hp.objs.size + 1) C (some dx))) (hp.objs.size + 1)) dx (.xd [(f, v)]) = upd H1 dx (.xd [(f, v)]) := by
      funext b
      by_cases e1 : b = dx
      · rw [e1, upd_same, upd_same]
      · rw [upd_ne e1, upd_ne e1]
        by_cases e2 : b = hp.objs.size + 1
        · rw [e2, del_same, hn]
        · rw [del_ne e2, upd_ne e2, upd_ne e1, upd_ne e2]
    rw [eq]
    exact q1 dx h1
  refine wpAny_call (PySem.HandSPX.call_own KB.fb hbm hC (PySem.W.looks_findIn I1.kIn iC) (fun self => PySem.W.bind_fn I1.kIn self tI) small
    (codeAny_mono (F1 _ X.stack _ _ (Value.ref (hp.objs.size + 1) :: us) _ _ (fun _ _ _ => False) (hr.make C us []) (I2.env0.make C us []) r2 prom) fun r s' hq' => ?_))
  cases r with
  | error er => exact hx pins σ _ _ er s' I2 hq'
  | ok fl =>
    cases fl with
    | ret u =>
      obtain ⟨y, H2, os2, bare2, un2, hok2, rv, ev, d, fs, ea, ed, hd1, q2⟩ := hq'
      subst ev
      obtain ⟨h2, g2, d2, t2, os'⟩ := s'
      exact ⟨rv, mk_end (raises_own T.exC T.tyC) I1 above up2 un2 hok2 os2 bare2 ea ed hd1 q2⟩
    | next => exact False.elim hq'
    | brk => exact False.elim hq'
    | cont => exact False.elim hq'
end
end Zx
end
section
set_option Elab.async false
set_option linter.all false
set_option maxRecDepth 100000
namespace Z
open PySem PySem.Spec PyProof.Rows
open L2
/-! raise C(e) -/
structure ExcZ (Z : Wd) (x fld : Str) (k : Nat) : Prop where
  ex : ∃ B n i bm fI, Zx.BaseK B n i bm ∧ Zx.IniK Z.K (He.ga Z.K x) B n i bm ∧ PySem.W.findIn Z.K (.ref (He.ga Z.K x)) "__init__" = some (some (.ref fI)) ∧ PySem.W.typeIn Z.K (.ref fI) = some (.type "function") ∧
    FnR Z.P Z.w Z.K Z.mg Z.base (L2.CX Z.P Z.w) k fI (Zx.spIni (He.ga Z.K x) fld)
  mg : Z.mg x = some (.ref (He.ga Z.K x))
def sRaise (x fld : Str) (fa : RF (List D)) : SF := fun env S => sE (fa env S) env fun ds S => match ds with
  | [d] => .exc env x [fld] [d] S
  | _ => .bad
section
variable {X : Cx} {T : Tbl} {W : WX} {pos p p2 cpos : Pos} {e : Expr} {fa : RF (List D)} {x fld : Str} {k : Nat}
theorem ss_raise (O : ExcZ (wdOf X T) x fld k) (tk : Takes X W) (hr : Room (k + 1) X.A) (hc : X.calm = true) (hg : Gl X x) (ha : SA X T W [e] fa) (hdb : (x == ("__debug__" : Str)) = false := by decide)
    (he : starEach [e] X.env = (false, eval e X.env) :: starEach [] X.env := by rfl) : SS X T W (.Raise (some (.Call (.Name x p) [e] [] cpos)) none pos) (sRaise x fld fa) := by
  obtain ⟨B, n, i, bm, fI, KB, IK, iC, tI, F1⟩ := O.ex
  refine PS.imp (L2.ps_raise hc tk (Zx.pmk_ini KB IK iC tI F1 hr (passes_call tk fun _ _ _ _ z => z.elim) hg O.mg ha hdb he)) fun D σ H ⟨env, G, S, s, e, p⟩ => chainS ⟨s, e⟩ p fun vs H1 ds S1 G1 l A r q => ?_
  split at q
  · rename_i d
    obtain ⟨v, ev, rv⟩ := r.one
    refine ⟨v, ev, fun dx hd => ?_⟩
    have le := GS.le_frz A.s (o := .xd [(fld, v)]) hd
    exact q _ _ σ _ (G1.frz dx (.xd [(fld, v)])) le (A.s.frz hd) (A.e.up le) ⟨rfl, [v], rfl, ⟨v, [], rfl, rv.up le, rfl⟩, .inr ⟨dx, rfl, by show upd _ _ _ _ = _; rw [upd_same]; rfl⟩⟩
  · exact q.elim
end
/-! instances -/
def oview (S : Store) : D → Option (Str × List Str × List D)
  | .obj c ks vs => some (c, ks, vs)
  | .cell n => match S[n]? with
    | some (some (.obj c ks vs)) => some (c, ks, vs)
    | _ => none
  | _ => none
theorem oview_ok {K : PySem.W.Frag} {T : Tbl} {G : GS} {S : Store} {H : Hp} {v : V} {d : D} {c : Str} {ks : List Str} {vs : List D} (s : SR K T G S H) (r : Rep K G v d) (h : oview S d = some (c, ks, vs)) :
    ∃ a dx xs, v = .ref a ∧ H a = some (.ins (He.ga K c) dx (ks.zip xs)) ∧ ks.length = xs.length ∧ RepL K G xs vs := by
  cases d with
  | obj c0 k0 v0 =>
    cases h
    obtain ⟨a, dx, xs, e, q, z, r⟩ := r
    exact ⟨a, dx, xs, e, s.sub _ _ q, z, r⟩
  | cell n =>
    obtain ⟨a, e, q⟩ := r
    unfold oview at h
    dsimp only at h
    split at h
    · rename_i c0 k0 v0 hl
      cases h
      obtain ⟨b, q1, _, dx, xs, h1, h2, h3⟩ := s.cell n _ hl
      rw [q] at q1
      cases q1
      exact ⟨a, dx, xs, e, h1, h2, h3⟩
    · cases h
  | _ => cases h
theorem zip_get {K : PySem.W.Frag} {G : GS} {f : Str} : ∀ {ks : List Str} {xs : List V} {vs : List D} {d : D}, RepL K G xs vs → (ks.zip vs).lookup f = some d → ∃ v, (ks.zip xs).lookup f = some v ∧ Rep K G v d
  | [], _, _, _, _, h => by simp at h
  | k :: ks, _, [], _, _, h => by simp at h
  | k :: ks, _, w :: vs, d, ⟨x, r, e, a, b⟩, h => by
    subst e
    rw [List.zip_cons_cons] at h
    rw [List.zip_cons_cons]
    unfold List.lookup at h ⊢
    cases q : f == k with
    | true =>
      rw [q] at h
      cases h
      exact ⟨x, rfl, a⟩
    | false =>
      rw [q] at h
      exact zip_get b h
/-- the class and field pairs that are read or stored: told by the head -/
def FldK (K : PySem.W.Frag) (fl : List (Str × Str)) : Prop := ∀ p ∈ fl, Cls K (He.ga K p.1) ∧ NoAttr K (He.ga K p.1) p.2
def gFld (fl : List (Str × Str)) (f : Str) : D → Store → Res D := fun x S => match oview S x with
  | some (c, ks, vs) => if (c, f) ∈ fl then (match (ks.zip vs).lookup f with
    | some d => .ok d S
    | none => .bad) else .bad
  | none => .bad
def putK (f : Str) : List Str → List Str
  | [] => [f]
  | k :: ks => if k = f then k :: ks else k :: putK f ks
def putX {α : Type} (f : Str) (y : α) : List Str → List α → List α
  | [], _ => [y]
  | k :: ks, v :: vs => if k = f then y :: vs else v :: putX f y ks vs
  | _ :: _, [] => []
theorem putF_zip (f : Str) (y : V) : ∀ (ks : List Str) (xs : List V), ks.length = xs.length → putF f y (ks.zip xs) = (putK f ks).zip (putX f y ks xs) ∧ (putK f ks).length = (putX f y ks xs).length
  | [], [], _ => ⟨rfl, rfl⟩
  | k :: ks, x :: xs, h => by
    obtain ⟨h1, h2⟩ := putF_zip f y ks xs (by simpa using h)
    rw [List.zip_cons_cons]
    unfold putF putK putX
    split
    · rename_i e
      exact ⟨by rw [List.zip_cons_cons], by simpa using h⟩
    · exact ⟨by rw [List.zip_cons_cons, h1], by simpa using h2⟩
  | [], _ :: _, h => by simp at h
  | _ :: _, [], h => by simp at h
theorem RepL.putX {K : PySem.W.Frag} {G : GS} {f : Str} {y : V} {d : D} (hy : Rep K G y d) : ∀ {ks : List Str} {xs : List V} {vs : List D}, ks.length = xs.length → RepL K G xs vs → RepL K G (putX f y ks xs) (Z.putX f d ks vs)
  | [], xs, vs, h, r => by
    unfold Z.putX
    exact ⟨y, [], rfl, hy, rfl⟩
  | k :: ks, _, [], h, r => by
    rw [show _ = _ from r] at h
    simp at h
  | k :: ks, _, v :: vs, h, ⟨x, r, e, a, b⟩ => by
    subst e
    unfold Z.putX
    split
    · exact ⟨y, r, rfl, hy, b⟩
    · exact ⟨x, _, rfl, a, RepL.putX hy (by simpa using h) b⟩
def sFld (fl : List (Str × Str)) (f : Str) (fo fe : EF) : SF := fun env S => sE (fe env S) env fun d S => sE (fo env S) env fun x S => match x with
  | .cell n => match S[n]? with
    | some (some (.obj c ks vs)) => if (c, f) ∈ fl ∧ ks.length < 1000 then .nx env (S.set n (some (.obj c (putK f ks) (putX f d ks vs)))) else .bad
    | _ => .bad
  | _ => .bad
section
variable {X : Cx} {T : Tbl} {W : WX} {pos p p2 : Pos} {a o e : Expr} {fa fo fe : EF} {fl : List (Str × Str)} {f : Str}
theorem se_fld (k : FldK X.K fl) (ha : SE X T W a fa) (hb : attributeBase a f X.env (eval a X.env) = eval a X.env := by rfl) : SE X T W (.Attribute a f pos) (e1 (gFld fl f) fa) := PE.imp (pe_fld ha hb) fun σ H Q ⟨env, G, S, s, e, p⟩ =>
  chain ⟨s, e⟩ p fun x H1 dx S1 G1 l1 A1 r1 p1 => by
    unfold gFld at p1
    split at p1
    · rename_i c ks vs ho
      split at p1
      · rename_i hin
        split at p1
        · rename_i d hd
          obtain ⟨b, dx, xs, e1, h1, h2, h3⟩ := oview_ok A1.s r1 ho
          obtain ⟨v, h4, h5⟩ := zip_get h3 hd
          obtain ⟨c1, n1⟩ := k _ hin
          exact ⟨b, _, dx, _, v, e1, h1, c1, n1, h4, p1.fin A1.s h5⟩
        · exact p1.elim
      · exact p1.elim
    · exact p1.elim
theorem ss_fld (k : FldK X.K fl) (ho : SE X T W o fo) (he : SE X T W e fe) (hs : swapsWith e (some (.Attribute o f p2)) pos.line X.env = pure false := by rfl) : SS X T W (.Assign [.Attribute o f p2] e pos) (sFld fl f fo fe) :=
  PS.imp (ps_fld ho he hs) fun D σ H ⟨env, G, S, s, e, p⟩ => chainS ⟨s, e⟩ p fun v H' d S' G' l A r q => chainS A q fun x H2 dx S2 G2 l2 A2 r2 q2 => by
    split at q2
    · rename_i n
      split at q2
      · rename_i c ks vs hl
        split at q2
        · rename_i hin
          obtain ⟨b, e1, e2⟩ := r2
          obtain ⟨b2, z1, _, dx, xs, h1, h2, h3⟩ := A2.s.cell n _ hl
          rw [e2] at z1
          cases z1
          obtain ⟨c1, n1⟩ := k _ hin.1
          obtain ⟨u1, u2⟩ := putF_zip f v ks xs h2
          refine ⟨b, _, dx, _, e1, h1, c1, n1, ?_, q2 σ _ G2 (GS.le.refl _) (A2.s.put hl e2 h1 True.intro ⟨dx, putX f v ks xs, ?_, u2, RepL.putX (r.up l2) h2 h3⟩) A2.e⟩
          · rw [List.length_zip]
            exact Nat.lt_of_le_of_lt (Nat.min_le_left _ _) hin.2
          · rw [upd_same, u1]
        · exact q2.elim
      · exact q2.elim
    · exact q2.elim
end
/-! methods, properties, making -/
structure MetZ (Z : Wd) (c m : Str) (k : Nat) (ps : List Str) (F : DF) : Prop where
  ex : ∃ f fd, Cls Z.K (He.ga Z.K c) ∧ Meth Z.K (He.ga Z.K c) m f ∧ L2.Binds Z.K fd ps [] ∧ Z.Fn k f fd ps F
structure PrpZ (Z : Wd) (c m : Str) (k : Nat) (F : DF) : Prop where
  ex : ∃ p g fd, Cls Z.K (He.ga Z.K c) ∧ PropOf Z.K (He.ga Z.K c) m p g ∧ L2.Binds Z.K fd [("self" : Str)] [] ∧ Z.Fn k g fd [("self" : Str)] F
structure MakZ (Z : Wd) (c : Str) (k : Nat) (ps : List Str) (F : DF) : Prop where
  ex : ∃ f fd, Mk Z.K (He.ga Z.K c) f ∧ L2.Binds Z.K fd ps [] ∧ Z.Fn k f fd ps F
  mg : Z.mg c = some (.ref (He.ga Z.K c))
def eMet (c m : Str) (n : Nat) (F : CF) (fo : EF) (fa : RF (List D)) : EF := fun env S => (fo env S).bind fun x S => match oview S x with
  | some (c', ks, vs) => if c' = c ∧ (ks.zip vs).lookup m = none ∧ ks.length = vs.length then (fa env S).bind fun ds S => if ds.length + 1 = n then F (x :: ds) S else .bad else .bad
  | none => .bad
def ePrp (c : Str) (F : CF) (fo : EF) : EF := fun env S => (fo env S).bind fun x S => match oview S x with
  | some (c', _, _) => if c' = c then (F [x] S).noX else .bad
  | none => .bad
def mkEnd (fr : Bool) (n : Nat) (c : Str) : Res D → Res D
  | .ok .non S => match S[n]? with
    | some (some (.obj c' ks vs)) => if c' = c then (if fr then .ok (.obj c' ks vs) (S.set n none) else .ok (.cell n) S) else .bad
    | _ => .bad
  | .exc c ks ps S => .exc c ks ps S
  | _ => .bad
def eMak (fr : Bool) (c : Str) (n : Nat) (F : CF) (fa : RF (List D)) : EF := fun env S => (fa env S).bind fun ds S => if ds.length + 1 = n then mkEnd fr S.length c (F (.cell S.length :: ds) (S ++ [some (.obj c [] [])])) else .bad
theorem zip_none {K : PySem.W.Frag} {G : GS} {f : Str} : ∀ {ks : List Str} {xs : List V} {vs : List D}, RepL K G xs vs → (ks.zip vs).lookup f = none → (ks.zip xs).lookup f = none
  | [], _, _, _, h => by simp
  | k :: ks, _, [], r, h => by
    rw [show _ = _ from r]
    simp
  | k :: ks, _, w :: vs, ⟨x, r, e, a, b⟩, h => by
    subst e
    rw [List.zip_cons_cons] at h
    rw [List.zip_cons_cons]
    unfold List.lookup at h ⊢
    cases q : f == k with
    | true => rw [q] at h; cases h
    | false =>
      rw [q] at h
      exact zip_none b h
section
variable {X : Cx} {T : Tbl} {E : XK} {W : WX} {pos p apos : Pos} {o e : Expr} {es : List Expr} {fo : EF} {fa : RF (List D)} {c m : Str} {k : Nat} {ps : List Str} {F : DF}
theorem t_met {f : Addr} {fd : FuncData} {σ : L2.St} {H : Hp} {Q : VK} (t : tG X.K T (Rep X.K) (wE E) (eMet c m ps.length F fo fa) σ H Q) :
    tMeth (He.ga X.K c) m (spD X.K T ps.length F) [] E (tG X.K T (Rep X.K) (wE E) fo) (tG X.K T (RepL X.K) (wE E) fa) σ H Q := by
  obtain ⟨env, G, S, s, er, p⟩ := t
  refine chain ⟨s, er⟩ p fun x H1 dx S1 G1 l1 A1 r1 p1 => ?_
  split at p1
  · rename_i c' ks vs ho
    split at p1
    · rename_i hc
      obtain ⟨rfl, hm, _⟩ := hc
      obtain ⟨a, dd, xs, e1, h1, h2, h3⟩ := oview_ok A1.s r1 ho
      refine ⟨a, dd, _, e1, h1, zip_none h3 hm, ?_⟩
      refine chain A1 p1 fun ws H2 ds S2 G2 l2 A2 r2 p2 => ?_
      split at p2
      · rename_i hl
        rw [List.append_nil]
        exact ⟨_ :: ds, G2, S2, A2.s, ⟨x, ws, rfl, r1.up l2, r2⟩, by rw [List.length_cons, r2.len]; exact hl, p2⟩
      · exact p2.elim
    · exact p1.elim
  · exact p1.elim
theorem se_met {pl : Sem Bool} (M : MetZ (wdOf X T) c m k ps F) (tk : Takes X (wE E)) (hr : Room k X.A) (ho : SE X T (wE E) o fo) (ha : SA X T (wE E) (e :: es) fa)
    (hst : starEach (e :: es) X.env = (false, eval e X.env) :: starEach es X.env := by rfl) (hpl : (backTo pos (starEach es X.env)).any (·.1) = false := by rfl)
    (ht : eval (.Call (.Attribute o m apos) (e :: es) [] pos) X.env = (do
      let ov ← eval o X.env
      standAt apos.atName
      let (f, first) ← holding [ov] (getMethod ov m pl)
      callWith pos f first (backTo pos (starEach (e :: es) X.env)) (backToKw pos (keywordEach [] X.env))) := by rfl) :
    SE X T (wE E) (.Call (.Attribute o m apos) (e :: es) [] pos) (eMet c m ps.length F fo fa) := by
  obtain ⟨f, fd, c1, m1, hb, hF⟩ := M.ex
  exact PE.imp (pe_meth (pl := pl) ho c1 m1 hF hr hb .nil (passes_call tk fun _ _ _ _ z => z) ha hst hpl ht) fun σ H Q t => t_met (f := f) (fd := fd) t
theorem se_met0 {pl : Sem Bool} (M : MetZ (wdOf X T) c m k ps F) (tk : Takes X (wE E)) (hr : Room k X.A) (ho : SE X T (wE E) o fo)
    (ht : eval (.Call (.Attribute o m apos) [] [] pos) X.env = (do
      let ov ← eval o X.env
      standAt apos.atName
      let (f, first) ← holding [ov] (getMethod ov m pl)
      callWith pos f first (backTo pos (starEach [] X.env)) (backToKw pos (keywordEach [] X.env))) := by rfl) :
    SE X T (wE E) (.Call (.Attribute o m apos) [] [] pos) (eMet c m ps.length F fo aNil) := by
  obtain ⟨f, fd, c1, m1, hb, hF⟩ := M.ex
  refine PE.imp (pe_meth0 (pl := pl) ho c1 m1 hF hr hb .nil (passes_call tk fun _ _ _ _ z => z) ht) fun σ H Q t => ?_
  obtain ⟨env, G, S, s, er, p⟩ := t
  refine chain ⟨s, er⟩ p fun x H1 dx S1 G1 l1 A1 r1 p1 => ?_
  split at p1
  · rename_i c' ks vs ho
    split at p1
    · rename_i hc
      obtain ⟨rfl, hm, _⟩ := hc
      obtain ⟨a, dd, xs, e1, h1, h2, h3⟩ := oview_ok A1.s r1 ho
      refine ⟨a, dd, _, e1, h1, zip_none h3 hm, ?_⟩
      have p1 : Post X.K T (Rep X.K) (fun c d H' => wE E c d σ H') G1 Q (if ([] : List D).length + 1 = ps.length then F [dx] S1 else .bad) := p1
      split at p1
      · rename_i hl
        exact ⟨[dx], G1, S1, A1.s, ⟨x, [], rfl, r1, rfl⟩, hl, p1⟩
      · exact p1.elim
    · exact p1.elim
  · exact p1.elim
theorem se_prp (M : PrpZ (wdOf X T) c m k F) (hr : Room (k + 1) X.A) (ho : SE X T W o fo) (hab : attributeBase o m X.env (eval o X.env) = eval o X.env := by rfl) : SE X T W (.Attribute o m pos) (ePrp c F fo) := by
  obtain ⟨q, g, fd, c1, m1, hb, hF⟩ := M.ex
  refine PE.imp (pe_prop (E := fun _ _ _ => False) ho c1 m1 hF hr hb .nil (passes_call (X := X.nox) LamX.takes0 fun _ _ _ _ z => z) hab) fun σ H Q t => ?_
  obtain ⟨env, G, S, s, er, p⟩ := t
  refine chain ⟨s, er⟩ p fun x H1 dx S1 G1 l1 A1 r1 p1 => ?_
  split at p1
  · rename_i c' ks vs ho
    split at p1
    · rename_i hc
      subst hc
      obtain ⟨a, dd, xs, e1, h1, h2, h3⟩ := oview_ok A1.s r1 ho
      refine ⟨a, dd, _, e1, h1, [dx], G1, S1, A1.s, ⟨x, [], by rw [e1], r1, rfl⟩, rfl, ?_⟩
      cases z : F [dx] S1 with
      | ok d S' => rw [z] at p1; exact p1
      | exc _ _ _ _ => rw [z] at p1; exact p1.elim
      | bad => rw [z] at p1; exact p1.elim
    · exact p1.elim
  · exact p1.elim
theorem se_mak {fr : Bool} (M : MakZ (wdOf X T) c k ps F) (tk : Takes X (wE E)) (hr : Room (k + 1) X.A) (hg : Gl X c) (ha : SA X T (wE E) (e :: es) fa) (hdb : (c == ("__debug__" : Str)) = false := by decide)
    (he : starEach (e :: es) X.env = (false, eval e X.env) :: starEach es X.env := by rfl) (hpl : (backTo pos (starEach es X.env)).any (·.1) = false := by rfl) : SE X T (wE E) (.Call (.Name c p) (e :: es) [] pos) (eMak fr c ps.length F fa) := by
  obtain ⟨f, fd, m1, hb, hF⟩ := M.ex
  refine PE.imp (pe_make m1 hF hr hg M.mg hb .nil (passes_call tk fun _ _ _ _ z => z) ha hdb he hpl) fun σ H Q t => ?_
  obtain ⟨env, G, S, s, er, p⟩ := t
  refine chain ⟨s, er⟩ p fun vs H1 ds S1 G1 l1 A1 r1 p1 => ?_
  split at p1
  · rename_i hl
    intro x dx hx hd hne
    have hx1 : upd H1 dx (.own x) x = none := by rw [upd_ne (Ne.symm hne)]; exact hx
    have g1 := A1.s.grow (o := .own x) hd
    have le := GS.le_cel g1 (p := x)
    have s2 : SR X.K T (G1.cel S1.length x) (S1 ++ [some (.obj c [] [])]) (upd (upd H1 dx (.own x)) x (.ins (He.ga X.K c) dx [])) := g1.cel hx1 ⟨dx, [], upd_same, rfl, rfl⟩
    rw [List.append_nil]
    refine ⟨.cell S1.length :: ds, _, _, s2, ⟨.ref x, vs, rfl, ⟨x, rfl, if_pos rfl⟩, r1.up le⟩, by rw [List.length_cons, r1.len]; exact hl, ?_⟩
    revert p1
    cases z : F (.cell S1.length :: ds) (S1 ++ [some (.obj c [] [])]) with
    | bad => exact fun p1 => p1
    | exc c2 k2 ps2 S2 => exact fun p1 cls d H' G' l' s' x' => p1 cls d H' G' (le.trans l') s' x'
    | ok d S2 =>
      cases d with
      | non =>
        intro p1 b H' G' l' s' rb
        refine ⟨rb, ?_⟩
        unfold mkEnd at p1
        dsimp only at p1
        split at p1
        · rename_i c' ks ws hn
          split at p1
          · rename_i hc
            subst hc
            obtain ⟨a, q1, q2, d3, xs, q3, q4, q5⟩ := s'.cell _ _ hn
            have q6 : G'.ρ S1.length = some x := l'.ρ _ _ (if_pos rfl)
            rw [q6] at q1
            cases q1
            cases fr with
            | false => exact p1 (.ref x) H' G' (le.trans l') s' ⟨x, rfl, q6⟩
            | true =>
              obtain ⟨l4, s4⟩ := s'.ice hn q6 q3
              exact p1 (.ref x) H' _ ((le.trans l').trans l4) s4 ⟨x, d3, xs, rfl, by show upd _ _ _ _ = _; rw [upd_same], q4, q5.up l4⟩
          · exact p1.elim
        · exact p1.elim
      | _ => exact fun p1 => p1.elim
  · exact p1.elim
end
end Z
end
section
set_option Elab.async false
set_option linter.all false
set_option maxRecDepth 100000
set_option maxHeartbeats 1000000
namespace Zt
open PySem PySem.Spec PyProof.Rows L2
/-! except clauses, each with or without a name -/
abbrev ClR := Value × (Ends → WX)
def wAny (K : PySem.W.Frag) (Wout : WX) (D : Ends) : List ClR → WX
  | [] => Wout
  | (c, f) :: r => fun cls d σ H => ∃ b, PySem.W.exmOne K cls c = some b ∧ (b = true → f D cls d σ H) ∧ (b = false → wAny K Wout D r cls d σ H)
def endsAt (i : Nat) (D : Ends) : Ends := { nx := fun σ' H' => D.nx (σ'.set i none) H', rt := D.rt, bk := fun σ' H' => D.bk (σ'.set i none) H', ct := fun σ' H' => D.ct (σ'.set i none) H' }
inductive ClsOk (X : Cx) : List ExceptHandler → List ClR → Prop
  | nil : ClsOk X [] []
  | bare {x : Str} {c : Value} {ts : Addr → Value → Option Addr → TS} {st : Stmt} {more : List Stmt} {np hp : Pos} {hds : List ExceptHandler} {l : List ClR} (hc : Names X x c)
      (hsu : ∀ (a : Addr) (oe : Obj) (cls : Value) (d : Option Addr) (pn : List (Addr × Obj)), Zc cls d oe → (∃ vs, oe.data = .fields vs) → PSs (X.suite a ((a, oe) :: pn)) (st :: more) (ts a cls d)) (r : ClsOk X hds l) :
      ClsOk X (.ExceptHandler (some (.Name x np)) none (st :: more) hp :: hds) ((c, fun D cls d σ H => ∀ a, H a = none → ts a cls d D σ H) :: l)
  | named {x n : Str} {i : Nat} {c : Value} {ts : Addr → Value → Option Addr → TS} {st : Stmt} {more : List Stmt} {np hp : Pos} {hds : List ExceptHandler} {l : List ClR} (hN : X.N.Nodup) (hi : X.N[i]? = some n) (hln : X.env.kindOf n = some .local) (hc : Names X x c)
      (hsu : ∀ (a : Addr) (oe : Obj) (cls : Value) (d : Option Addr) (pn : List (Addr × Obj)), Zc cls d oe → (∃ vs, oe.data = .fields vs) → PSs (X.suite a ((a, oe) :: pn)) (st :: more) (ts a cls d)) (r : ClsOk X hds l) :
      ClsOk X (.ExceptHandler (some (.Name x np)) (some n) (st :: more) hp :: hds) ((c, fun D cls d σ H => ∀ a, H a = none → ts a cls d (endsAt i D) (σ.set i (some (.ref a))) H) :: l)
section
variable {X : Cx} {body : List Stmt} {h₀ : ExceptHandler} {hds : List ExceptHandler} {l : List ClR} {pos : Pos} {tb : WX → TS} {Wout : WX}
theorem ps_try_any (hs : X.stack = X.env :: X.outer) (hf : X.env.frame = some X.env.locals) (tk : Takes X Wout)
    (hb : ∀ (W : WX) (pn : List (Addr × Obj)) (xe : Value → Shared → Prop), Takes (X.tr pn xe) W → PassesOwn (model X.prog X.w) X.A X.env xe → PSs (X.tr pn xe) body (tb W))
    (hh : ClsOk X (h₀ :: hds) l) : PS X (.Try body (h₀ :: hds) [] [] pos) (fun D σ H => tb (wAny X.K Wout D l) D σ H) := by
  refine ⟨fun pins s σ H D I start => ?_⟩
  have ok := I.ok
  have frames : X.A.frames = some (X.env :: X.outer) := by rw [ok.frames, hs]
  refine wpAny_Try_except ?_
  refine wpAny_mono ((hb (wAny X.K Wout D l) (X.pn ++ pins) (fun e s1 => wpAny (model X.prog X.w) X.A (noteFrame e X.env) (fun _ s2 => wpAny (model X.prog X.w) X.A (setFlight e none) (fun _ s3 =>
    wpAny (model X.prog X.w) X.A (handleBy e X.env (h₀ :: hds)) (SP X pins D) X.xe s3) X.xe s2) X.xe s1) (fun u sx flown => ?_) PassesOwn.looking).run [] s σ H D (I.toTry _) start) (fun fl s1 done => ?_) (fun e s1 z => z)
  · obtain ⟨a, B, sI, pinsB, σb, Hb, cls, d, rfl, Jb, nb, up, sky, na, os, ag, wish⟩ := flown
    have J : Inv X pins σb Hb sI := Jb.ofTry ok
    have sky2 : Sky B (X.env :: X.outer) a (Zc cls d) X.env.locals sx.heap := by rw [← hs]; exact sky
    show wpAny (model X.prog X.w) X.A (noteFrame (.ref a) X.env) _ _ _
    refine Sky.land Zc.steady frames hf sky2 fun h3 fl3 up3 => ?_
    have J3 : Inv X pins σb Hb { sx with heap := h3 } := J.landed nb fl3.1 (up.trans up3) os ag
    obtain ⟨oe3, vs3, he3, hz3, hd3⟩ := fl3.there
    have apart : a ∉ frs (X.env :: X.outer) := fun hm => by
      obtain ⟨_, o', e', hnf⟩ := fl3.2.2.1.mem hm
      rw [he3] at e'
      cases e'
      exact hnf _ hd3
    have nL : a ≠ X.env.locals := fun z => apart (List.mem_filterMap.mpr ⟨X.env, List.mem_cons_self, by rw [hf, z]⟩)
    have nF : a ∉ X.fs := fun hm => by
      obtain ⟨e, he, q⟩ := List.mem_filterMap.mp hm
      exact apart (List.mem_filterMap.mpr ⟨e, List.mem_cons_of_mem _ he, q⟩)
    have S3 := J3.suite he3 hd3 na nL nF
    have LT : PySem.W.Looks (model X.prog X.w) h3 (typeOf (.ref a)) cls := fun A Q E s k q => wpAny_typeOf_ref (k _ _ he3) (by rw [hz3.1]; exact q)
    have ask : ∀ {x : Str} {c : Value} {np : Pos} {Q : Value → Shared → Prop} {E : Value → Shared → Prop}, Names X x c → Q c { sx with heap := h3 } → wpAny (model X.prog X.w) (X.A.mark (some (.ref a))) (eval (.Name x np) X.env) Q E { sx with heap := h3 } := fun {x c np Q E} hc q => by
      obtain ⟨hg, hdbg, hm | ⟨hm, hv, hnn⟩⟩ := hc
      · exact ld_glob (X := X.suite a ((a, oe3) :: (X.pn ++ pins))) S3 hg hm q hdbg
      · exact ld_blt (X := X.suite a ((a, oe3) :: (X.pn ++ pins))) S3 hg hm hv q hnn hdbg
    have go : ∀ {hs2 : List ExceptHandler} {l2 : List ClR}, ClsOk X hs2 l2 → wAny X.K Wout D l2 cls d σb Hb → wpAny (model X.prog X.w) X.A (handleBy (.ref a) X.env hs2) (SP X pins D) X.xe { sx with heap := h3 } := by
      intro hs2 l2 hk
      induction hk with
      | nil =>
        intro w
        refine wpAny_handleBy_nil ?_
        obtain ⟨k1, k2, k3, oe, vs, T, oT, ts', he, hz, hd, h1, hr⟩ := id fl3
        unfold PySem.passOn
        refine wpAny_bind (wpAny_field he hd h1 ?_)
        rw [if_neg (show ¬ ((Value.ref T == Value.none) = true) from by simp)]
        have on : wpAny (model X.prog X.w) X.A (setFlight (.ref a) X.env.frame) (fun _ s4 => wpAny (model X.prog X.w) X.A (throw (.ref a) : Sem Flow) (SP X pins D) X.xe s4) X.xe { sx with heap := h3 } := by
          rw [hf]
          refine HandSPX.setFlight_upZ fl3 fun h4 hh4 up4 => wpAny_throw (tk _ _ ?_)
          exact ⟨a, B, sI, pins, σb, Hb, cls, d, rfl, J, nb, (up.trans up3).trans up4, .inr (.inr (by rw [hs]; exact hh4)), na, os, ag, w⟩
        first
          | exact wpAny_bind (wpAny_pure (wpAny_bind on))
          | exact wpAny_bind on
      | @bare x c ts st more np hp hds2 l2 hc hsu r ih =>
        rintro ⟨b, hb1, yes, no⟩
        refine wpAny_handleBy_cons (codeAny_handlers_test ?_) (by intro q; cases q)
        refine ask hc ((PySem.W.exm_one (M := model X.prog X.w) (J3.kIn) LT hb1).here ?_)
        cases b with
        | false =>
          show wpAny _ X.A (handleBy (.ref a) X.env hds2) _ _ _
          exact ih (no rfl)
        | true =>
          refine codeAny_handlers_suite ?_
          refine HandSPX.lands_againZ fl3 fun h4 fl4 up4 => ?_
          have J4 : Inv X pins σb Hb { sx with heap := h4 } := J.landed nb fl4.1 ((up.trans up3).trans up4) os ag
          obtain ⟨oe4, vs4, he4, hz4, hd4⟩ := fl4.there
          refine wpAny_mono ((hsu a oe4 cls d (X.pn ++ pins) hz4 ⟨_, hd4⟩).run [] _ _ Hb _ (J4.suite he4 hd4 na nL nF) (yes rfl a na)) (fun f s6 fin => ?_) (fun _ _ z => False.elim z)
          cases f with
          | ret u =>
            obtain ⟨v6, σ6, H6, S6, r6, q6⟩ := fin
            exact ⟨_, _, _, S6.unsuite ok, r6, q6⟩
          | next =>
            obtain ⟨σ6, H6, S6, q6⟩ := fin
            exact ⟨_, _, S6.unsuite ok, q6⟩
          | brk =>
            obtain ⟨σ6, H6, S6, q6⟩ := fin
            exact ⟨_, _, S6.unsuite ok, q6⟩
          | cont =>
            obtain ⟨σ6, H6, S6, q6⟩ := fin
            exact ⟨_, _, S6.unsuite ok, q6⟩
      | @named x n i c ts st more np hp hds2 l2 hN hi hln hc hsu r ih =>
        rintro ⟨b, hb1, yes, no⟩
        refine wpAny_handleBy_cons (codeAny_handlers_test ?_) (by intro q; cases q)
        refine ask hc ((PySem.W.exm_one (M := model X.prog X.w) (J3.kIn) LT hb1).here ?_)
        cases b with
        | false =>
          show wpAny _ X.A (handleBy (.ref a) X.env hds2) _ _ _
          exact ih (no rfl)
        | true =>
          refine codeAny_handlers_suite_as ?_
          refine HandSPX.lands_againZ fl3 fun h4 fl4 up4 => ?_
          have J4 : Inv X pins σb Hb { sx with heap := h4 } := J.landed nb fl4.1 ((up.trans up3).trans up4) os ag
          obtain ⟨oe4, vs4, he4, hz4, hd4⟩ := fl4.there
          refine store_ok (X := X.suite a ((a, oe4) :: (X.pn ++ pins))) (v := .ref a) (J4.suite he4 hd4 na nL nF) hN hi (.inl hln) rfl (fun s5 S5 => ?_) (.inr hln)
          refine wpAny_mono ((hsu a oe4 cls d (X.pn ++ pins) hz4 ⟨_, hd4⟩).run [] s5 _ Hb _ S5 (yes rfl a na)) (fun f s6 fin => ?_) (fun _ _ z => False.elim z)
          have gone : ∀ {σ6 : L2.St} {H6 : Hp} {Q : Shared → Prop}, Inv (X.suite a ((a, oe4) :: (X.pn ++ pins))) [] σ6 H6 s6 → (∀ s7, Inv X pins (σ6.set i none) H6 s7 → Q s7) →
              wpAny (model X.prog X.w) X.A (do bindName X.env n .none; unbindBehindTheSuite X.env n hp) (fun _ s7 => Q s7) X.xe s6 := fun {σ6 H6 Q} S6 hq => gone_ok (S6.unsuite ok) hN hi hln hq
          cases f with
          | ret u =>
            obtain ⟨v6, σ6, H6, S6, r6, q6⟩ := fin
            exact gone S6 fun s7 J7 => ⟨_, _, _, J7, r6, q6⟩
          | next =>
            obtain ⟨σ6, H6, S6, q6⟩ := fin
            exact gone S6 fun s7 J7 => ⟨_, _, J7, q6⟩
          | brk =>
            obtain ⟨σ6, H6, S6, q6⟩ := fin
            exact gone S6 fun s7 J7 => ⟨_, _, J7, q6⟩
          | cont =>
            obtain ⟨σ6, H6, S6, q6⟩ := fin
            exact gone S6 fun s7 J7 => ⟨_, _, J7, q6⟩
    exact go hh wish
  · cases fl with
    | ret u =>
      obtain ⟨v, σ', H', J', r, q⟩ := done
      exact ⟨v, σ', H', J'.ofTry ok, r, q⟩
    | next =>
      obtain ⟨σ', H', J', q⟩ := done
      exact wpAny_execs_nil ⟨σ', H', J'.ofTry ok, q⟩
    | brk =>
      obtain ⟨σ', H', J', q⟩ := done
      exact ⟨σ', H', J'.ofTry ok, q⟩
    | cont =>
      obtain ⟨σ', H', J', q⟩ := done
      exact ⟨σ', H', J'.ofTry ok, q⟩
end
end Zt
end
section
set_option Elab.async false
set_option linter.all false
set_option maxRecDepth 100000
set_option maxHeartbeats 1000000
namespace Z
open PySem PySem.Spec PyProof.Rows
open L2 LamX
/-! a def that calls what it got, and tells what was raised -/
structure Cla where
  c : Str
  tag : Str
  fld : Option Str
def hearD (sb : Str → Str → Bool) (c : Str) (ks : List Str) (ps : List D) : List Cla → Option D
  | [] => none
  | q :: r => if sb c q.c = true then (match q.fld with
    | none => some (.tup [.str q.tag, .non])
    | some f => if c = q.c then ((ks.zip ps).lookup f).map fun d => .tup [.str q.tag, d] else none) else hearD sb c ks ps r
def eHear (sb : Str → Str → Bool) (excs : List Str) (cs : List Cla) (fb : EF) : EF := fun env S => match fb env S with
  | .ok d S' => .ok (.tup [.str "told", d]) S'
  | .exc c ks ps S' => if c ∈ excs then (match hearD sb c ks ps cs with
    | some d => .ok d S'
    | none => .bad) else .bad
  | .bad => .bad
/-- what the head tells of the exception classes -/
structure KitE (K : PySem.W.Frag) (sb : Str → Str → Bool) (excs : List Str) (cs : List Cla) : Prop where
  exm : ∀ c ∈ excs, ∀ q ∈ cs, PySem.W.exmOne K (.ref (He.ga K c)) (.ref (He.ga K q.c)) = some (sb c q.c)
  fld : ∀ q ∈ cs, ∀ f, q.fld = some f → XfC K (He.ga K q.c) ∧ PySem.W.findIn K (.ref (He.ga K q.c)) f = some none
/-- the clauses as they are written -/
inductive HdIs (X : Cx) (Ng : List Str) (sg : Scope) : List ExceptHandler → List Cla → Prop
  | nil : HdIs X Ng sg [] []
  | bare {C tag : Str} {j j2 k : Nat} {np p1 p2 p3 p4 hp : Pos} {hds : List ExceptHandler} {cs : List Cla} (hg : sg.names.lookup C = some .globalImplicit) (hd : (C == ("__debug__" : Str)) = false) (hm : X.mg C = some (.ref (He.ga X.K C))) (r : HdIs X Ng sg hds cs) :
      HdIs X Ng sg (.ExceptHandler (some (.Name C np)) none [.Return (some (.Tuple [.Constant (.str tag) j p1, .Constant .none j2 p2] k p3)) p4] hp :: hds) (⟨C, tag, none⟩ :: cs)
  | namedN {C tag n : Str} {i j j2 k : Nat} {np p1 p2 p3 p4 hp : Pos} {hds : List ExceptHandler} {cs : List Cla} (hg : sg.names.lookup C = some .globalImplicit) (hd : (C == ("__debug__" : Str)) = false) (hm : X.mg C = some (.ref (He.ga X.K C))) (hN : Ng.Nodup) (hi : Ng[i]? = some n)
      (hl : sg.names.lookup n = some .local) (r : HdIs X Ng sg hds cs) :
      HdIs X Ng sg (.ExceptHandler (some (.Name C np)) (some n) [.Return (some (.Tuple [.Constant (.str tag) j p1, .Constant .none j2 p2] k p3)) p4] hp :: hds) (⟨C, tag, none⟩ :: cs)
  | named {C tag n f : Str} {i j k : Nat} {np p1 p2 p3 p4 p5 hp : Pos} {hds : List ExceptHandler} {cs : List Cla} (hg : sg.names.lookup C = some .globalImplicit) (hd : (C == ("__debug__" : Str)) = false) (hm : X.mg C = some (.ref (He.ga X.K C))) (hN : Ng.Nodup) (hi : Ng[i]? = some n)
      (hl : sg.names.lookup n = some .local) (n1 : (n == ("__debug__" : Str)) = false) (n2 : (n == ("__classdict__" : Str)) = false) (hb : ∀ env, attributeBase (.Name n p2) f env (eval (.Name n p2) env) = eval (.Name n p2) env) (r : HdIs X Ng sg hds cs) :
      HdIs X Ng sg (.ExceptHandler (some (.Name C np)) (some n) [.Return (some (.Tuple [.Constant (.str tag) j p1, .Attribute (.Name n p2) f p3] k p4)) p5] hp :: hds) (⟨C, tag, some f⟩ :: cs)
section
variable {X Y : Cx} {Ng : List Str} {sg : Scope} {sb : Str → Str → Bool} {excs : List Str} {T : Tbl}
theorem tup2 {K : PySem.W.Frag} {G : GS} {S : Store} {H : Hp} {v w : V} {d e : D} {p : Addr} (s : SR K T G S H) (r1 : Rep K G v d) (r2 : Rep K G w e) (hp : H p = none) :
    G.le (G.frz p (.tup [v, w])) ∧ SR K T (G.frz p (.tup [v, w])) S (upd H p (.tup [v, w])) ∧ Rep K (G.frz p (.tup [v, w])) (.ref p) (.tup [d, e]) := by
  have le := GS.le_frz s (o := .tup [v, w]) hp
  exact ⟨le, s.frz hp, p, [v, w], rfl, SqT.of (by show upd _ _ _ _ = _; rw [upd_same]), v, [w], rfl, r1.up le, w, [], rfl, r2.up le, rfl⟩
theorem two_le {v w : V} : [v, w].length ≤ sizeLine := by
  rw [sizeLine_eq]
  show 2 ≤ 16777216
  decide
theorem lookup_zipR {K : PySem.W.Frag} {G : GS} {ks : List Str} {xs : List V} {ps : List D} {f : Str} {d : D} (r : RepL K G xs ps) (h : (ks.zip ps).lookup f = some d) : ∃ v, (ks.zip xs).lookup f = some v ∧ Rep K G v d := zip_get r h
theorem hds_ok (hK : Y.K = X.K) (hmg : Y.mg = X.mg) (hN : Y.N = Ng) (hsc : Y.env.scope = sg) : ∀ {hds : List ExceptHandler} {cs : List Cla}, HdIs X Ng sg hds cs → KitE X.K sb excs cs →
    ∃ l, Zt.ClsOk Y hds l ∧ ∀ (D' : Ends) (cls : Value) (d : Option Addr) (σ : L2.St) (H : Hp) (c : Str) (ks : List Str) (ps : List D) (r : D) (G : GS) (S : Store), c ∈ excs → σ.length = Ng.length → SR X.K T G S H → XRep X.K G cls d c ks ps → hearD sb c ks ps cs = some r →
      (∀ v H' G', G.le G' → SR X.K T G' S H' → Rep X.K G' v r → D'.rt v H') → Zt.wAny Y.K (fun _ _ _ _ => False) D' l cls d σ H := by
  intro hds cs h
  induction h with
  | nil => exact fun _ => ⟨[], .nil, fun D' cls d σ H c ks ps r G S _ _ _ _ e => by cases e⟩
  | @bare C tag j j2 k np p1 p2 p3 p4 hp hds cs hg hd hm r ih =>
    intro kt
    obtain ⟨l, ok, key⟩ := ih ⟨fun c hc q hq => kt.exm c hc q (List.mem_cons_of_mem _ hq), fun q hq => kt.fld q (List.mem_cons_of_mem _ hq)⟩
    refine ⟨_, .bare (c := .ref (He.ga X.K C)) ⟨by show Y.env.scope.names.lookup C = _; rw [hsc]; exact hg, hd, .inl (by rw [hmg]; exact hm)⟩ (fun a oe cls d pn _ _ => pss_one (ps_ret (pe_tup (pa_cons pe_str (pa_cons pe_non pa_nil))))) ok, ?_⟩
    intro D' cls d σ H c ks ps r G S hc hσ s x e q
    refine ⟨sb c C, by rw [hK, x.1]; exact kt.exm c hc _ (List.mem_cons_self ..), fun hb a ha => ?_, fun hb => ?_⟩
    · unfold hearD at e
      rw [if_pos hb] at e
      have e : some (D.tup [.str tag, .non]) = some r := e
      cases e
      refine ⟨two_le, fun p hp => ?_⟩
      obtain ⟨le, s2, r2⟩ := tup2 (v := .str tag) (w := .non) (d := .str tag) (e := .non) s rfl rfl hp
      exact q _ _ _ le s2 r2
    · unfold hearD at e
      rw [if_neg (by rw [hb]; decide)] at e
      exact key D' cls d σ H c ks ps r G S hc hσ s x e q
  | @namedN C tag n i j j2 k np p1 p2 p3 p4 hp hds cs hg hd hm hNd hi hl r ih =>
    intro kt
    obtain ⟨l, ok, key⟩ := ih ⟨fun c hc q hq => kt.exm c hc q (List.mem_cons_of_mem _ hq), fun q hq => kt.fld q (List.mem_cons_of_mem _ hq)⟩
    refine ⟨_, .named (c := .ref (He.ga X.K C)) (by rw [hN]; exact hNd) (by rw [hN]; exact hi) (by show Y.env.scope.names.lookup n = _; rw [hsc]; exact hl) ⟨by show Y.env.scope.names.lookup C = _; rw [hsc]; exact hg, hd, .inl (by rw [hmg]; exact hm)⟩
      (fun a oe cls d pn _ _ => pss_one (ps_ret (pe_tup (pa_cons pe_str (pa_cons pe_non pa_nil))))) ok, ?_⟩
    intro D' cls d σ H c ks ps r G S hc hσ s x e q
    refine ⟨sb c C, by rw [hK, x.1]; exact kt.exm c hc _ (List.mem_cons_self ..), fun hb a ha => ?_, fun hb => ?_⟩
    · unfold hearD at e
      rw [if_pos hb] at e
      have e : some (D.tup [.str tag, .non]) = some r := e
      cases e
      refine ⟨two_le, fun p hp => ?_⟩
      obtain ⟨le, s2, r2⟩ := tup2 (v := .str tag) (w := .non) (d := .str tag) (e := .non) s rfl rfl hp
      exact q _ _ _ le s2 r2
    · unfold hearD at e
      rw [if_neg (by rw [hb]; decide)] at e
      exact key D' cls d σ H c ks ps r G S hc hσ s x e q
  | @named C tag n f i j k np p1 p2 p3 p4 p5 hp hds cs hg hd hm hNd hi hl n1 n2 hb0 r ih =>
    intro kt
    obtain ⟨l, ok, key⟩ := ih ⟨fun c hc q hq => kt.exm c hc q (List.mem_cons_of_mem _ hq), fun q hq => kt.fld q (List.mem_cons_of_mem _ hq)⟩
    obtain ⟨xf, nof⟩ := kt.fld _ (List.mem_cons_self ..) f rfl
    refine ⟨_, .named (c := .ref (He.ga X.K C)) (by rw [hN]; exact hNd) (by rw [hN]; exact hi) (by show Y.env.scope.names.lookup n = _; rw [hsc]; exact hl) ⟨by show Y.env.scope.names.lookup C = _; rw [hsc]; exact hg, hd, .inl (by rw [hmg]; exact hm)⟩
      (fun a oe cls d pn hz hf => pss_one (ps_ret (pe_tup (pa_cons pe_str (pa_cons (pe_xf (C := He.ga X.K C) (by rw [hK]; exact xf) (by rw [hK]; exact nof) hz hf (pe_var (i := i) (by rw [hN]; exact hi) (.inl (by rw [hsc]; exact hl)) n1 n2) (hb0 _)) pa_nil))))) ok, ?_⟩
    intro D' cls d σ H c ks ps r G S hc hσ s x e q
    refine ⟨sb c C, by rw [hK, x.1]; exact kt.exm c hc _ (List.mem_cons_self ..), fun hb a ha => ?_, fun hb => ?_⟩
    · unfold hearD at e
      rw [if_pos hb] at e
      have e2 : (if c = C then ((ks.zip ps).lookup f).map fun d => D.tup [.str tag, d] else none) = some r := e
      clear e
      by_cases hcC : c = C
      · rw [if_pos hcC] at e2
        subst hcC
        cases z : (ks.zip ps).lookup f with
        | none => rw [z] at e2; cases e2
        | some d0 =>
          rw [z] at e2
          cases e2
          obtain ⟨ecls, xs, hlen, rl, hks⟩ := x
          obtain ⟨v, hv1, hv2⟩ := lookup_zipR rl z
          rcases hks with rfl | ⟨dd, hdd, hF⟩
          · simp at z
          · have hil : i < σ.length := by
              rw [hσ]
              exact (List.getElem?_eq_some_iff.mp hi).1
            refine ⟨.ref a, List.getElem?_set_self hil, rfl, ecls, dd, _, v, hdd, s.sub _ _ hF, hv1, two_le, fun p hp => ?_⟩
            obtain ⟨le, s2, r2⟩ := tup2 (v := .str tag) (w := v) (d := .str tag) (e := d0) s rfl hv2 hp
            exact q _ _ _ le s2 r2
      · rw [if_neg hcC] at e2
        cases e2
    · unfold hearD at e
      rw [if_neg (by rw [hb]; decide)] at e
      exact key D' cls d σ H c ks ps r G S hc hσ s x e q
theorem takes_len {X : Cx} {W : WX} (tk : Takes X W) : Takes X (fun cls d σ H => σ.length = X.N.length → W cls d σ H) := fun e s' x => by
  obtain ⟨a, B, sI, pins, σ, H, cls, d, h1, J, h2, h3, h4, h5, h6, h7, w⟩ := x
  exact tk e s' ⟨a, B, sI, pins, σ, H, cls, d, h1, J, h2, h3, h4, h5, h6, h7, w J.len⟩
/-- what is asked of the lambda's reading -/
def THear (K : PySem.W.Frag) (T : Tbl) (sb : Str → Str → Bool) (excs : List Str) (cs : List Cla) : (XK → Hp → VK → Prop) → Hp → VK → Prop := fun tl H Q =>
  ∃ Ech : XK, tl Ech H (fun v H1 => [V.str "told", v].length ≤ sizeLine ∧ ∀ p, H1 p = none → Q (.ref p) (upd H1 p (.tup [.str "told", v]))) ∧
    ∀ cls d H', Ech cls d H' → ∃ G S c ks ps r, c ∈ excs ∧ SR K T G S H' ∧ XRep K G cls d c ks ps ∧ hearD sb c ks ps cs = some r ∧ ∀ v H2 G', G.le G' → SR K T G' S H2 → Rep K G' v r → Q v H2
theorem hear_gives {x a q : Str} {g : Addr} {cdg : Value} {hds : List ExceptHandler} {h₀ : ExceptHandler} {cs : List Cla} {j k : Nat} {p1 p2 p3 p4 p5 p6 : Pos} (hk : HdIs X Ng sg (h₀ :: hds) cs) (kt : KitE X.K sb excs cs) (h0 : ∀ f : Addr, (L2.start Ng [V.ref f])[0]? = some (some (V.ref f))) :
    GivesTo X Ng x sg g cdg [.Try [.Return (some (.Tuple [.Constant (.str "told") j p1, .Call (.Name a p2) [] [] p3] k p4)) p5] (h₀ :: hds) [] [] p6] a q (THear X.K T sb excs cs) := by
  intro f c' s H Q tl act hc ⟨Ech, ht, hE⟩
  obtain ⟨l, ok, key⟩ := hds_ok (X := X) (Y := (cxOf C8.CX0 X.prog X.w X.K X.mg X.base Ng x sg g cdg X.A X.stack s H C8.E0).nox) (T := T) (sb := sb) (excs := excs) rfl rfl rfl rfl hk kt
  refine ⟨_, pss_one (Zt.ps_try_any (X := (cxOf C8.CX0 X.prog X.w X.K X.mg X.base Ng x sg g cdg X.A X.stack s H C8.E0).nox) (Wout := fun _ _ _ _ => False)
      (tb := fun W D' σ H => ∃ E2 : XK, (∀ cls d σ' H', σ'.length = Ng.length → E2 cls d H' → W cls d σ' H') ∧ σ[0]? = some (some (.ref f)) ∧ H c' = some (CodeO c' q) ∧ tl E2 H (fun v H1 => [V.str "told", v].length ≤ sizeLine ∧ ∀ p, H1 p = none → D'.rt (.ref p) (upd H1 p (.tup [.str "told", v]))))
      rfl rfl takes0 (fun W pn xe tk _ => ?_) ok), ?_⟩
  · refine ⟨fun pins s' σ H' D' I h' => ?_⟩
    obtain ⟨E2, hW, h1, h2, h3⟩ := h'
    have hp := act (fun cls d σ H => σ.length = Ng.length → W cls d σ H) pn xe E2 p2 p3 (takes_len tk) fun cls d σ' H' z hl => hW cls d σ' H' hl z
    have hq := pss_one (ps_ret (pos := p5) (pe_tup (pos := p4) (x1 := k) (pa_cons (pe_str (x := "told") (j := j) (pos := p1)) (pa_cons hp pa_nil))))
    exact hq.run pins s' σ H' D' I ⟨h1, h2, h3⟩
  · exact ⟨Ech, fun cls d σ' H' hl h => by
      obtain ⟨G, S, c, ks, ps, r, hc2, s2, x2, e2, q2⟩ := hE cls d H' h
      exact key _ cls d σ' H' c ks ps r G S hc2 hl s2 x2 e2 q2, h0 f, hc, ht⟩
end
end Z
end
section
set_option Elab.async false
set_option linter.all false
set_option maxRecDepth 100000
set_option maxHeartbeats 1000000
namespace Z
open PySem PySem.Spec PyProof.Rows
open L2 LamX
structure LamZ (Z : Wd) (x : Str) : Prop where
  tb : LamX.TabB Z.base Z.mg (He.codeOf Z.K (x, none)) (He.cT Z.K (x, none)).2
  mem : ((He.cT Z.K (x, none)).2, (x ++ ".<locals>.") ++ "<lambda>") ∈ Z.T
  un : ∀ p ∈ Z.T, p.1 = (He.cT Z.K (x, none)).2 → p.2 = (x ++ ".<locals>.") ++ "<lambda>"
theorem SR.extN {K : PySem.W.Frag} {T : Tbl} {G : GS} {S : Store} {H H1 : Hp} (r : SR K T G S H) (e : ExtN H H1) (t : Tabs T H1) : SR K T G S H1 where
  sub := fun b o h => e b o (r.sub b o h) fun ps z => (r.nt b ps).1 (by rw [h, z])
  pin := fun b o h => ⟨e b o (r.pin b o h).1 fun ps z => (r.nt b ps).2 (by rw [h, z]), (r.pin b o h).2⟩
  cell := fun n m h => by
    obtain ⟨a, h1, h2, h3⟩ := r.cell n m h
    refine ⟨a, h1, h2, ?_⟩
    cases m with
    | lst l =>
      obtain ⟨xs, q1, q2⟩ := h3
      exact ⟨xs, e _ _ q1 (fun ps z => by cases z), q2⟩
    | obj c ks vs =>
      obtain ⟨dx, xs, q1, q2, q3⟩ := h3
      exact ⟨dx, xs, e _ _ q1 (fun ps z => by cases z), q2, q3⟩
  new := r.new
  inj := r.inj
  tabs := t
  nt := r.nt
section
variable {X : Cx} {T : Tbl} {W : WX} {Ng : List Str} {sg scope : Scope} {sb : Str → Str → Bool} {excs : List Str} {cs : List Cla} {x h a : Str} {g : Addr} {fd : FuncData} {pg params : Arguments} {bg : List Stmt} {body : Expr} {fb : EF} {k : Nat} {h₀ : ExceptHandler} {hds : List ExceptHandler} {j kk : Nat} {p1 p2 p3 p4 p5 p6 p lpos pos : Pos}
theorem se_hear (F : FunD X.K h h pg bg sg [] [] g fd) (hm : X.mg h = some (.ref g)) (hb : L2.Binds X.K fd [a] []) (Sg : FnScope Ng [a] sg) (hNg : Ng[0]? = some a) (hva : Vis sg a) (h0 : ∀ f : Addr, (L2.start Ng [V.ref f])[0]? = some (some (V.ref f)))
    (hbg : bg = [.Try [.Return (some (.Tuple [.Constant (.str "told") j p1, .Call (.Name a p2) [] [] p3] kk p4)) p5] (h₀ :: hds) [] [] p6]) (hk : HdIs X Ng sg (h₀ :: hds) cs) (kt : KitE X.K sb excs cs) (Lz : LamZ (wdOf X T) x) (hcode : X.env.code = .ref (He.codeOf X.K (x, none)))
    (hq : X.env.qual = x ++ ".<locals>.") (hr : Room (k + 2) X.A) (hg : Gl X h) (L : LamS X.env.scope scope) (hbody : ∀ (A : Around) (outer : List Env) (s : Shared) (H : Hp) (E : XK) (f c' : Addr), Room k (A.deeper (lamEnv X scope s.heap.objs.size f c')) → SE (lamCx X A outer s H E scope f c') T (wE E) body fb)
    (hdef : defaultsOf params X.env = ([], []) := by rfl) (hbind : ∀ (q : Str) (cl : List (Str × Addr)) (pm cv ctv : Value), bindArgs (PySem.W.kla_fn "<lambda>" q params body scope cl pm cv ctv) ⟨[], []⟩ = pure [] := by intro _ _ _ _ _; rfl)
    (hdb : (h == ("__debug__" : Str)) = false := by decide) (hd : (a == ("__debug__" : Str)) = false := by decide) (hcd : (a == ("__classdict__" : Str)) = false := by decide) :
    SE X T W (.Call (.Name h p) [.Lambda params body scope lpos] [] pos) (eHear sb excs cs fb) := by
  obtain ⟨oc, od, dV, kV, doc, pm, an, cdv, ct, osl, rfl, lk, hcd2, _, _⟩ := F.ex
  refine PE.imp (pe_lamcall (T := T) (TT := THear X.K T sb excs cs) (t := fun E => tG X.K T (Rep X.K) (wE E) fb) hg hm F.kp lk hcd2 hb Sg hNg hva (by rw [hbg]; exact hear_gives hk kt h0) Lz.tb hcode (by rw [hq]; exact Lz.mem) (by rw [hq]; exact Lz.un) hr L hdef hbind (fun A outer s H E f c' hr2 => hbody A outer s H E f c' hr2) hdb hd hcd) fun σ H Q t => ?_
  obtain ⟨env, G, S, s, e, p⟩ := t
  refine ⟨s.tabs, fun H1 en t1 => ?_⟩
  have s1 := s.extN en t1
  unfold eHear at p
  cases z : fb env S with
  | bad => rw [z] at p; exact p.elim
  | ok d S2 =>
    rw [z] at p
    refine ⟨fun _ _ _ => False, ⟨env, G, S, s1, e, ?_⟩, fun cls d H' h => h.elim⟩
    rw [z]
    intro v H' G' le s2 r
    refine ⟨two_le, fun q hq => ?_⟩
    obtain ⟨le2, s3, r3⟩ := tup2 (v := .str "told") (w := v) (d := .str "told") (e := d) s2 rfl r hq
    exact p _ _ _ (le.trans le2) s3 r3
  | exc c ks ps S2 =>
    rw [z] at p
    dsimp only at p
    split at p
    · rename_i hc
      split at p
      · rename_i r hr2
        refine ⟨fun cls d H' => ∃ G', G.le G' ∧ SR X.K T G' S2 H' ∧ XRep X.K G' cls d c ks ps, ⟨env, G, S, s1, e, ?_⟩, fun cls d H' h => ?_⟩
        · rw [z]
          exact fun cls dx H' G' le s2 x => ⟨G', le, s2, x⟩
        · obtain ⟨G', le, s2, x⟩ := h
          exact ⟨G', S2, c, ks, ps, r, hc, s2, x, hr2, fun v H2 G2 le2 s3 r3 => p v H2 G2 (le.trans le2) s3 r3⟩
      · exact p.elim
    · exact p.elim
end
/-- a def with lambdas: its code object is told -/
theorem own_defL {Z : Wd} {x : Str} {params : Arguments} {body : List Stmt} {scope : Scope} {kws : List (Str × V)} {fd : FuncData} {N ps : List Str} {k : Nat} {fb : SF} (F : FunD Z.K x x params body scope [] kws (He.ga Z.K x) fd) (hm : Z.mg x = some (.ref (He.ga Z.K x))) (sc : FnScope N ps scope)
    (hb : ∀ (kV doc pm : Value) (an : Option Addr) (cdv ct : Value) (us : List Value), us.length = ps.length → bindArgs (PySem.W.fnOf x x params body scope .none kV doc pm an cdv ct) ⟨us, []⟩ = pure (ps.zip us))
    (h : ∀ (A : Around) (outer : List Env) (s : Shared) (H : Hp) (E : XK), Room k (A.deeper (envOfC x scope s.heap.objs.size (He.ga Z.K x) (.ref (He.codeOf Z.K (x, none))))) → SSs (cxD Z N x scope (He.ga Z.K x) (.ref (He.codeOf Z.K (x, none))) A outer s H E) Z.T (wE E) body fb) : Own Z x (k + 1) ps (dfn N.length fb) := by
  refine ⟨_, fd, hm, F.kp, F.bindsN hb, ?_⟩
  obtain ⟨oc, od, dV, kV, doc, pm, an, cdv, ct, osl, rfl, lk, hcd, _, _⟩ := F.ex
  obtain ⟨c, hc⟩ := He.codeIn_ref hcd
  have e : He.codeOf Z.K (x, none) = c := He.codeOf_eq (p := (x, none)) lk hc
  subst hc
  refine fn_of lk hcd sc (fun vs H Q E ⟨_, _, _, _, _, hl, _⟩ => hl) fun A outer s H vs Q E hr ⟨ds, G, S, hs, r, hl, p⟩ => ⟨_, by rw [← e] at hr ⊢; exact h A outer s H E hr, ?_⟩
  refine ⟨_, G, S, hs, ER.start N r, ?_⟩
  unfold dfn at p
  generalize fb (ds.map some ++ List.replicate (N.length - ds.length) none) S = r at p ⊢
  cases r with
  | nx e S' => exact fun σ' H' G' l s _ => p .non H' G' l s rfl
  | ret d S' => exact p
  | brk e S' => exact p.elim
  | cnt e S' => exact p.elim
  | exc e c ks ps S' => exact fun cls dx σ' H' G' l s _ => p cls dx H' G' l s
  | bad => exact p
theorem takesL {X : Cx} {A : Around} {outer : List Env} {s : Shared} {H : Hp} {E : XK} {scope : Scope} {f c' : Addr} : Takes (lamCx X A outer s H E scope f c') (wE E) := takes_of rfl rfl rfl rfl
end Z
end
section
set_option Elab.async false
set_option linter.all false
set_option maxRecDepth 100000
set_option maxHeartbeats 1000000
namespace Z
open PySem PySem.Spec PyProof.Rows
open L2
/-! isinstance(x, (A, B)) -/
inductive TagsAre (X : Cx) : List Expr → List Tag → Prop
  | nil : TagsAre X [] []
  | b {c : Str} {n : String} {p : Pos} {es : List Expr} {us : List Tag} (hg : Gl X c) (hm : X.mg c = none) (hv : bootBuiltins c = some (.type n)) (r : TagsAre X es us) (hn : c ≠ "__name__" := by decide) (hd : (c == ("__debug__" : Str)) = false := by decide)
      (he : starEach (.Name c p :: es) X.env = (false, eval (.Name c p) X.env) :: starEach es X.env := by rfl) : TagsAre X (.Name c p :: es) (.b n :: us)
  | o {c : Str} {p : Pos} {es : List Expr} {us : List Tag} (hg : Gl X c) (hm : X.mg c = some (.ref (He.ga X.K c))) (r : TagsAre X es us) (hd : (c == ("__debug__" : Str)) = false := by decide)
      (he : starEach (.Name c p :: es) X.env = (false, eval (.Name c p) X.env) :: starEach es X.env := by rfl) : TagsAre X (.Name c p :: es) (.o c :: us)
def tagX (K : PySem.W.Frag) : Tag → V
  | .b n => .ty n
  | .o c => .ref (He.ga K c)
theorem tagX_ok {K : PySem.W.Frag} : ∀ u : Tag, ClsV (tagX K u) (tagV K u)
  | .b n => .ty n
  | .o c => .own _
theorem tags_pa {X : Cx} : ∀ {es : List Expr} {us : List Tag}, TagsAre X es us → PA X es (fun σ H Q => Q (us.map (tagX X.K)) H) := fun {es us} h => by
  induction h with
  | nil => exact pa_nil
  | b hg hm hv r hn hd he ih => exact PA.imp (pa_cons (pe_bltn (v := .ty _) hg hm hv rfl hn hd) ih he) fun σ H Q q => q
  | o hg hm r hd he ih => exact PA.imp (pa_cons (pe_glob (v := .ref _) hg hm rfl hd) ih he) fun σ H Q q => q
theorem tags_paired {K : PySem.W.Frag} : ∀ us : List Tag, Paired ClsV (us.map (tagX K)) (us.map (tagV K))
  | [] => .nil
  | u :: us => .cons (tagX_ok u) (tags_paired us)
theorem kitAny_of {K : PySem.W.Frag} {sub : Str → Str → Bool} {tags asked : List Tag} (kt : KitT K sub tags asked) {t : Tag} (ht : t ∈ tags) : ∀ us : List Tag, (∀ u ∈ us, u ∈ asked) → PySem.W.kitAny K (tagV K t) (us.map (tagV K)) = some (us.any (isSub sub t))
  | [], _ => rfl
  | u :: us, h => by
    have h1 := kt.kit t ht u (h u (List.mem_cons_self ..))
    have h2 := kitAny_of kt ht us fun v hv => h v (List.mem_cons_of_mem _ hv)
    rw [List.map_cons, List.any_cons]
    unfold PySem.W.kitAny
    rw [h1]
    cases isSub sub t u with
    | true => rfl
    | false => exact h2
def gIsiT (sub : Str → Str → Bool) (tags : List Tag) (us : List Tag) : D → Store → Res D := fun x S => match tagD S x with
  | some t => if t ∈ tags then .ok (.bl (us.any (isSub sub t))) S else .bad
  | none => .bad
theorem isSub_le {us : List Tag} (h : us.length ≤ 16777216) {K : PySem.W.Frag} : (us.map (tagX K)).length ≤ sizeLine := by
  rw [List.length_map, sizeLine_eq]
  exact h
section
variable {X : Cx} {T : Tbl} {W : WX} {a : Expr} {es : List Expr} {pos p p2 : Pos} {k : Nat} {fa : EF} {sub : Str → Str → Bool} {tags asked us : List Tag}
theorem se_isiT (kt : KitT X.K sub tags asked) (hu : ∀ u ∈ us, u ∈ asked) (hus : us.length ≤ 16777216) (hg : Gl X "isinstance") (hm : X.mg "isinstance" = none) (ha : SE X T W a fa) (ht : TagsAre X es us)
    (he : starEach [a, .Tuple es k p2] X.env = (false, eval a X.env) :: starEach [.Tuple es k p2] X.env := by rfl) (hpl : (backTo pos (starEach [.Tuple es k p2] X.env)).any (·.1) = false := by rfl) (he2 : starEach [.Tuple es k p2] X.env = (false, eval (.Tuple es k p2) X.env) :: starEach [] X.env := by rfl) :
    SE X T W (.Call (.Name "isinstance" p) [a, .Tuple es k p2] [] pos) (e1 (gIsiT sub tags us) fa) :=
  PE.imp (pe_callB call_isiT hg hm (by decide +kernel) (pa_cons ha (pa_cons (pe_tup (tags_pa ht)) pa_nil he2) he) (by decide) (by decide) he hpl) fun σ H Q ⟨env, G, S, s, e, p⟩ =>
  chain ⟨s, e⟩ p fun x H1 dx S1 G1 l1 A1 r1 p1 => by
    refine ⟨isSub_le hus, fun q hq => ?_⟩
    unfold gIsiT at p1
    split at p1
    · rename_i t ht
      split at p1
      · rename_i hin
        have le := GS.le_frz A1.s (o := .tup (us.map (tagX X.K))) hq
        have s2 := A1.s.frz (o := .tup (us.map (tagX X.K))) hq
        exact ⟨x, q, us.map (tagX X.K), tagV X.K t, us.map (tagV X.K), _, rfl, upd_same, tags_paired us, tag_ty s2 (r1.up le) ht fun c hc => kt.cls c (hc ▸ hin), kitAny_of kt hin us hu, (p1.up le).fin s2 rfl⟩
      · exact p1.elim
    · exact p1.elim
/-! starred arguments -/
def aStar (f : EF) (g : RF (List D)) : RF (List D) := fun env S => (f env S).bind fun x S => match rd S x with
  | some (_, l) => (g env S).bind fun xs S => .ok (l ++ xs) S
  | none => .bad
theorem sa_star {fe : EF} {ga : RF (List D)} (he : SE X T W a fe) (hr : SA X T W es ga) (hs : starEach (.Starred a p :: es) X.env = (true, eval a X.env) :: starEach es X.env := by rfl) : SA X T W (.Starred a p :: es) (aStar fe ga) :=
  PA.imp (StX.pa_star he hr hs) fun σ H Q ⟨env, G, S, s, e, p⟩ => chain ⟨s, e⟩ p fun x H1 dx S1 G1 l1 A1 r1 p1 => by
    split at p1
    · rename_i t l hl
      obtain ⟨b, xs, e1, h1, h2⟩ := rd_any A1.s r1 hl
      refine ⟨b, xs, e1, h1.symm, ?_⟩
      exact chain A1 p1 fun ys H2 ds S2 G2 l2 A2 r2 p2 => p2.fin A2.s (RepL.app r2 (h2.up l2))
    · exact p1.elim
/-! list(range(a, b)) -/
def rgOkD (a b : Int) : Bool := decide (-(2 ^ 62) ≤ a) && decide (a < 2 ^ 62) && decide (-(2 ^ 62) ≤ b) && decide (b < 2 ^ 62) && decide ((b - a).toNat ≤ 2 ^ 24)
def rgL (a b : Int) : List D := (List.range (b - a).toNat).map fun i => .int (a + (i : Nat))
theorem rgL_rep {K : PySem.W.Frag} {G : GS} (a b : Int) : RepL K G (rgV a b) (rgL a b) := by
  unfold rgV rgL
  have : ∀ l : List Nat, RepL K G (l.map fun i => V.int (a + (i : Nat))) (l.map fun i => D.int (a + (i : Nat))) := by
    intro l
    induction l with
    | nil => exact rfl
    | cons i l ih => exact ⟨_, _, rfl, rfl, ih⟩
  exact this _
def eLRg2 (mk : MkF) (fa fb : EF) : EF := fun env S => (fa env S).bind fun x S => (fb env S).bind fun y S => match x, y with
  | .int i, .int j => if rgOkD i j = true then mk (rgL i j) S else .bad
  | _, _ => .bad
def eLRg1 (mk : MkF) (fa : EF) : EF := fun env S => (fa env S).bind fun x S => match x with
  | .int j => if rgOkD 0 j = true then mk (rgL 0 j) S else .bad
  | _ => .bad
theorem rgOk_of {a b : Int} (h : rgOkD a b = true) : RgOk a b := by
  unfold rgOkD at h
  simp only [Bool.and_eq_true, decide_eq_true_eq] at h
  obtain ⟨⟨⟨⟨h1, h2⟩, h3⟩, h4⟩, h5⟩ := h
  exact ⟨h1, h2, h3, h4, h5⟩
variable {b : Expr} {fb : EF} {mk : MkF}
theorem se_listRg2 {lpos rpos : Pos} (hmk : MkOk mk) (hc : X.calm = true) (hg : Gl X "list") (hm : X.mg "list" = none) (hg2 : Gl X "range") (hm2 : X.mg "range" = none) (ha : SE X T W a fa) (hb : SE X T W b fb)
    (na : starEach [a, b] X.env = (false, eval a X.env) :: starEach [b] X.env := by rfl) (nb : starEach [b] X.env = (false, eval b X.env) :: starEach [] X.env := by rfl) (hp : (backTo rpos (starEach [b] X.env)).any (·.1) = false := by rfl)
    (nc : starEach [.Call (.Name "range" p2) [a, b] [] rpos] X.env = (false, eval (.Call (.Name "range" p2) [a, b] [] rpos) X.env) :: starEach [] X.env := by rfl) :
    SE X T W (.Call (.Name "list" p) [.Call (.Name "range" p2) [a, b] [] rpos] [] lpos) (eLRg2 mk fa fb) :=
  PE.imp (pe_listRg hc hg hm (prg_2 hg2 hm2 ha hb na nb hp) nc) fun σ H Q ⟨env, G, S, s, e, p⟩ => chain ⟨s, e⟩ p fun x H1 dx S1 G1 l1 A1 r1 p1 => chain A1 p1 fun y H2 dy S2 G2 l2 A2 r2 p2 => by
    cases dx with
    | int i => cases dy with
      | int j =>
        have p2 : Post X.K T (Rep X.K) (fun c d H' => W c d σ H') G2 Q (if rgOkD i j = true then mk (rgL i j) S2 else .bad) := p2
        split at p2
        · rename_i ok
          exact ⟨i, j, r1, r2, rgOk_of ok, fun q hq => hmk.new _ _ _ _ _ _ _ q _ Q A2.s (rgL_rep i j) hq p2⟩
        · exact p2.elim
      | _ => exact p2.elim
    | _ => exact p2.elim
theorem se_listRg1 {lpos rpos : Pos} (hmk : MkOk mk) (hc : X.calm = true) (hg : Gl X "list") (hm : X.mg "list" = none) (hg2 : Gl X "range") (hm2 : X.mg "range" = none) (ha : SE X T W a fa)
    (na : starEach [a] X.env = (false, eval a X.env) :: starEach [] X.env := by rfl)
    (nc : starEach [.Call (.Name "range" p2) [a] [] rpos] X.env = (false, eval (.Call (.Name "range" p2) [a] [] rpos) X.env) :: starEach [] X.env := by rfl) :
    SE X T W (.Call (.Name "list" p) [.Call (.Name "range" p2) [a] [] rpos] [] lpos) (eLRg1 mk fa) :=
  PE.imp (pe_listRg hc hg hm (prg_1 hg2 hm2 ha na) nc) fun σ H Q ⟨env, G, S, s, e, p⟩ => chain ⟨s, e⟩ p fun x H1 dx S1 G1 l1 A1 r1 p1 => by
    cases dx with
    | int j =>
      have p1 : Post X.K T (Rep X.K) (fun c d H' => W c d σ H') G1 Q (if rgOkD 0 j = true then mk (rgL 0 j) S1 else .bad) := p1
      split at p1
      · rename_i ok
        exact ⟨j, r1, rgOk_of ok, fun q hq => hmk.new _ _ _ _ _ _ _ q _ Q A1.s (rgL_rep 0 j) hq p1⟩
      · exact p1.elim
    | _ => exact p1.elim
end
theorem slot_ne : Slot "object" "__ne__" "object.__ne__" :=
  .of (owner := "object") (n := "__ne__") (by rw [typeLookup_type, builtinLookup_eq_fast]; kernel_rfl) (by decide +kernel) (by decide +kernel) (by decide +kernel)
    (by first | exact .inl (by decide +kernel) | exact .inr (by decide +kernel)) (by rw [isSubtype_type]; kernel_rfl)
/-! == and != of instances with an own __eq__ -/
section
open PySem.W
variable {prog : Program} {w : World} {A : Around} {E : Value → Shared → Prop} {s : Shared} {K : Frag} {x C f : Addr} {ox : Obj} {od : Option Obj} {b tb : Value} {L : Addr} {h₀ : Heap} {m : Str → Option Value}
theorem objNe_own {Q : Fin → Shared → Prop} (hu : A.units < cLine) (X : K.In s.heap) (I : InstAt s.heap x ox C od) (hs : findIn K (.ref C) "__eq__" = some (some (.ref f))) (hf : isFn K (.ref f) = true)
    (h : wpAny (model prog w) A (call (.ref f) [.ref x, b]) (fun v s' => ∃ k, v = .bool k ∧ Q (.done (.ret (.bool (!k)))) s') E s) : wpAny (model prog w) A (Builtin.«object.__ne__» ⟨[.ref x, b], []⟩) Q E s := by
  unfold Builtin.«object.__ne__»
  refine wpAny_bind (wpAny_of_eq (a := ((Value.ref x : Value), [b])) (by first | rfl | (simp only [slotArgs]; rfl)) ?_)
  refine wpAny_bind (wpAny_cRoomFor hu ?_)
  refine wpAny_bind (ifBound_K X I hs hf (wpAny_mono h (fun v s' hv => ?_) fun _ _ z => z))
  obtain ⟨k, rfl, q⟩ := hv
  refine wpAny_bind (m := truthy (.bool k)) (wpAny_truthy_bool ?_)
  exact wpAny_pure q
theorem neq_own {Q : Value → Shared → Prop} (hu : A.units + 1 < cLine) (F : Fr h₀ L s.heap m) (X₀ : K.In h₀) (I : InstAt s.heap x ox C od) (hb : Looks (model prog w) s.heap (typeOf b) (.ref C))
    (hn : findIn K (.ref C) "__ne__" = some (some (.builtin "object.__ne__"))) (ho : mroIn K C (.type "object") = some true) (hs : findIn K (.ref C) "__eq__" = some (some (.ref f))) (hf : isFn K (.ref f) = true) (hbn : ∀ self, bindSpecial (.builtin "object.__ne__") self = pure (.builtin "object.__ne__", [self]))
    (h : wpAny (model prog w) A.in1 (call (.ref f) [.ref x, b]) (fun v s' => ∃ k, v = .bool k ∧ Q (.bool (!k)) s') E s) : wpAny (model prog w) A (richCompare .NotEq (.ref x) b) Q E s := by
  have X := X₀.keeps F.keep
  have one : wpAny (model prog w) A (tryCompare (.ref x) "__ne__" b) (fun r s' => ∃ v, r = some v ∧ Q v s') E s := by
    unfold tryCompare
    have two : wpAny (model prog w) A (call (.builtin "object.__ne__") ([.ref x] ++ [b])) (fun v s' => ∃ k, v = .bool k ∧ Q (.bool k) s') E s := by
      have isO : Looks (model prog w) s.heap (isInstance (.ref x) (.type "object")) true := I.type.andThen (looks_mroIn X ho)
      refine wpAny_call (codeAny_call_builtin (by decide +kernel) PySem.F.cmpEntry_ne (@check_slot (model prog w) _ _ s "object.__ne__" "object" "__ne__" (.ref x) [b] [] _ PySem.F.cmpKind_ne PySem.F.cmpSplit_ne isO (PySem.F.cmpArgs_ne _ _) ?_))
      refine objNe_own (A := A.in1) hu X I hs hf (wpAny_mono h (fun v s' hv => ?_) fun _ _ z => z)
      obtain ⟨k, rfl, q⟩ := hv
      exact ⟨k, rfl, _, rfl, q⟩
    refine wpAny_bind ?_
    simp only [callSpecialIfBound?, bindSpecialIfBound?]
    refine wpAny_holding (wpAny_bind (wpAny_bind (wpAny_bind (I.type.here ((looks_findIn X hn).here ?_)))))
    refine wpAny_bind (wpAny_askSetting (wpAny_ite ?_))
    have fin : wpAny (model prog w) A (call (.builtin "object.__ne__") ([.ref x] ++ [b]) >>= fun v => pure (some v)) (fun r s' => wpAny (model prog w) A (match r with
      | some .notImplemented | none => pure none
      | some v => pure (some v)) (fun r s' => ∃ v, r = some v ∧ Q v s') E s') E s := by
      refine wpAny_bind (wpAny_mono two (fun v s' hv => ?_) fun _ _ z => z)
      obtain ⟨k, rfl, q⟩ := hv
      exact wpAny_pure (wpAny_pure ⟨_, rfl, q⟩)
    split
    · rw [hbn]
      exact wpAny_bind (wpAny_pure (wpAny_pure (by exact fin)))
    · rw [hbn]
      exact wpAny_tryCatch (wpAny_bind (wpAny_pure (wpAny_pure (by exact fin))))
  unfold richCompare
  simp only [oneThing_ref]
  refine wpAny_holding (wpAny_bind (wpAny_cRoomFor (Nat.lt_of_succ_lt hu) ?_))
  refine wpAny_bind (I.type.here (wpAny_bind (hb.here ?_)))
  rw [show (Value.ref C != Value.ref C) = false from by simp]
  simp only [Bool.false_eq_true, if_false]
  refine wpAny_bind (wpAny_pure ?_)
  simp only [Bool.false_eq_true, if_false]
  refine wpAny_bind (wpAny_mono one (fun r s' z => ?_) fun _ _ e => e)
  obtain ⟨v, rfl, hq⟩ := z
  exact wpAny_pure hq
end
structure EqoZ (Z : Wd) (c : Str) (k : Nat) (F : DF) : Prop where
  ex : ∃ f fd, PySem.W.findIn Z.K (.ref (He.ga Z.K c)) "__eq__" = some (some (.ref f)) ∧ PySem.W.isFn Z.K (.ref f) = true ∧ L2.Binds Z.K fd [("self" : Str), ("other" : Str)] [] ∧ Z.Fn k f fd [("self" : Str), ("other" : Str)] F
  ne : PySem.W.findIn Z.K (.ref (He.ga Z.K c)) "__ne__" = some (some (.builtin "object.__ne__"))
  ob : PySem.W.mroIn Z.K (He.ga Z.K c) (.type "object") = some true
def gEqo (c : Str) (neg : Bool) (F : CF) : D → D → Store → Res D := fun x y S => match oview S x, oview S y with
  | some (c1, _, _), some (c2, _, _) => if c1 = c ∧ c2 = c then (match F [x, y] S with
    | .ok (.bl b) S' => .ok (.bl (neg != b)) S'
    | _ => .bad) else .bad
  | _, _ => .bad
def rEqo (C : Addr) (sp : Sp) (neg : Bool) : R2 := fun x y H Q => ∃ a b dx dy fs gs, x = .ref a ∧ y = .ref b ∧ H a = some (.ins C dx fs) ∧ H b = some (.ins C dy gs) ∧ sp [.ref a, .ref b] H (fun v H' => ∃ k, v = .bl k ∧ Q (.bl (neg != k)) H') (fun _ _ _ => False)
section
variable {X : Cx} {T : Tbl} {c : Str} {k : Nat} {F : DF}
theorem run_eqo {A : Around} {pins : List (Addr × Obj)} {s : Shared} {σ : L2.St} {H : Hp} {a b : Addr} {f : Addr} {fd : FuncData} {Q : VK} {sp : Sp} (neg : Bool) (hF : FnOk X.prog X.w X.K X.mg X.base (L2.CX X.prog X.w) k f fd [("self" : Str), ("other" : Str)] sp) (hb : L2.Binds X.K fd [("self" : Str), ("other" : Str)] []) (hr : Room k A) (I : Inv X pins σ H s) (e0 : Env0 X.prog X.w X.K X.mg X.base A X.stack s H)
    (q : sp [.ref a, .ref b] H (fun v H' => ∃ k, v = .bl k ∧ Q (.bl (neg != k)) H') (fun _ _ _ => False)) : wpAny (model X.prog X.w) A (call (.ref f) [.ref a, .ref b]) (fun v s' => ∃ k, v = .bool k ∧ EP X pins σ Q (.bool (neg != k)) s') X.xe s := by
  refine wpAny_call (codeAny_mono (hF.run A X.stack s H ⟨[.ref a, .ref b], []⟩ [.ref a, .ref b] [.ref a, .ref b] _ _ hr e0 (by
    have := hb s [.ref a, .ref b] I.kIn rfl
    simpa using this) (.cons rfl (.cons rfl .nil)) q) fun r s' hq => ?_)
  cases r with
  | error e => exact passes_call (X := X) (W := fun _ _ _ _ => False) LamX.takes0 (fun _ _ _ _ z => z) pins σ H s e s' I hq
  | ok fl =>
    cases fl with
    | ret u =>
      obtain ⟨v, H', I', rv, j, ev, q2⟩ := I.after hq
      subst ev
      cases rv
      exact ⟨j, rfl, .bl (neg != j), H', I', rfl, q2⟩
    | next => exact False.elim hq
    | brk => exact False.elim hq
    | cont => exact False.elim hq
theorem op_eqo {f : Addr} {fd : FuncData} {C : Addr} {sp : Sp} (hs : PySem.W.findIn X.K (.ref C) "__eq__" = some (some (.ref f))) (hf : PySem.W.isFn X.K (.ref f) = true) (hF : FnOk X.prog X.w X.K X.mg X.base (L2.CX X.prog X.w) k f fd [("self" : Str), ("other" : Str)] sp) (hb : L2.Binds X.K fd [("self" : Str), ("other" : Str)] []) (hr : Room k X.A) :
    OpR X (compareOp .Eq) (rEqo C sp false) := by
  intro pins s σ H x y v u Q I rx ry ⟨a, b, dx, dy, fs, gs, e1, e2, ha, hb2, q⟩
  subst e1 e2
  cases rx
  cases ry
  obtain ⟨mA, J, _⟩ := ins_get I.hok ha
  obtain ⟨mB, J', _⟩ := ins_get I.hok hb2
  obtain ⟨od, J, _⟩ := J.look
  obtain ⟨od', J', _⟩ := J'.look
  obtain ⟨m, fr⟩ := I.fr
  show wpAny (model X.prog X.w) X.A (richCompare .Eq (.ref a) (.ref b)) (EP X pins σ Q) X.xe s
  refine PySem.W.cmp_K (op := .Eq) (tb := .ref C) hr.units0 fr I.ok.mod.kin J J'.type (by simp [PySem.W.notFirst]) hs hf (wpAny_mono (run_eqo false hF hb hr I I.env0 q) (fun v s' hv => ?_) fun _ _ z => z)
  obtain ⟨j, rfl, h⟩ := hv
  show EP X pins σ Q (Value.bool j) s'
  simpa using h
theorem op_neo {f : Addr} {fd : FuncData} {C : Addr} {sp : Sp} (hn : PySem.W.findIn X.K (.ref C) "__ne__" = some (some (.builtin "object.__ne__"))) (ho : PySem.W.mroIn X.K C (.type "object") = some true) (hs : PySem.W.findIn X.K (.ref C) "__eq__" = some (some (.ref f))) (hf : PySem.W.isFn X.K (.ref f) = true)
    (hF : FnOk X.prog X.w X.K X.mg X.base (L2.CX X.prog X.w) k f fd [("self" : Str), ("other" : Str)] sp) (hb : L2.Binds X.K fd [("self" : Str), ("other" : Str)] []) (hr : Room (k + 1) X.A) : OpR X (compareOp .NotEq) (rEqo C sp true) := by
  intro pins s σ H x y v u Q I rx ry ⟨a, b, dx, dy, fs, gs, e1, e2, ha, hb2, q⟩
  subst e1 e2
  cases rx
  cases ry
  obtain ⟨mA, J, _⟩ := ins_get I.hok ha
  obtain ⟨mB, J', _⟩ := ins_get I.hok hb2
  obtain ⟨od, J, _⟩ := J.look
  obtain ⟨od', J', _⟩ := J'.look
  obtain ⟨m, fr⟩ := I.fr
  show wpAny (model X.prog X.w) X.A (richCompare .NotEq (.ref a) (.ref b)) (EP X pins σ Q) X.xe s
  refine neq_own (by have := hr.units; omega) fr I.ok.mod.kin J J'.type hn ho hs hf slot_ne.bind (wpAny_mono (run_eqo true hF hb hr.in1 I I.env0.in1 q) (fun v s' hv => ?_) fun _ _ z => z)
  obtain ⟨j, rfl, h⟩ := hv
  exact ⟨j, rfl, by simpa using h⟩
theorem ok_eqo {K : PySem.W.Frag} {neg : Bool} : OkR2 K T (rEqo (He.ga K c) (spD K T [("self" : Str), ("other" : Str)].length F) neg) (gEqo c neg F) := fun W G S H x y da db Q s rx ry p => by
  unfold gEqo at p
  split at p
  · rename_i c1 k1 v1 c2 k2 v2 h1 h2
    split at p
    · rename_i hc
      obtain ⟨rfl, rfl⟩ := hc
      obtain ⟨a, dx, xs, e1, q1, q2, q3⟩ := oview_ok s rx h1
      obtain ⟨b, dy, ys, e2, q4, q5, q6⟩ := oview_ok s ry h2
      refine ⟨a, b, dx, dy, _, _, e1, e2, q1, q4, [da, db], G, S, s, ⟨_, [_], rfl, by rw [← e1]; exact rx, _, [], rfl, by rw [← e2]; exact ry, rfl⟩, rfl, ?_⟩
      revert p
      cases z : F [da, db] S with
      | bad => exact fun p => p.elim
      | exc _ _ _ _ => exact fun p => p.elim
      | ok d S2 =>
        cases d with
        | bl j => exact fun p v H' G' le s2 r => ⟨j, r, p _ H' G' le s2 rfl⟩
        | _ => exact fun p => p.elim
    · exact p.elim
  · exact p.elim
end
section
variable {X : Cx} {T : Tbl} {W : WX} {c : Str} {k : Nat} {F : DF} {a b : Expr} {fa fb : EF} {pos : Pos}
theorem se_eqo (O : EqoZ (wdOf X T) c k F) (hr : Room k X.A) (ha : SE X T W a fa) (hb : SE X T W b fb) : SE X T W (.Compare a [.Eq] [b] pos) (e2 (gEqo c false F) fa fb) := by
  obtain ⟨f, fd, hs, hf, hbd, hF⟩ := O.ex
  exact se_cmp (op_eqo hs hf hF hbd hr) ok_eqo ha hb (nomark _)
theorem se_neo (O : EqoZ (wdOf X T) c k F) (hr : Room (k + 1) X.A) (ha : SE X T W a fa) (hb : SE X T W b fb) : SE X T W (.Compare a [.NotEq] [b] pos) (e2 (gEqo c true F) fa fb) := by
  obtain ⟨f, fd, hs, hf, hbd, hF⟩ := O.ex
  exact se_cmp (op_neo O.ne O.ob hs hf hF hbd hr) ok_eqo ha hb (nomark _)
end
end Z
end
section
set_option Elab.async false
set_option linter.all false
set_option maxRecDepth 100000
set_option maxHeartbeats 1000000
namespace Z
open PySem PySem.Spec PyProof.Rows
open L2 He
/-! the head's facts -/
inductive Loc where
  | glo (x : Str)
  | met (C m : Str)
  | prp (C m : Str)
def prpF (K : PySem.W.Frag) (C m : Str) : Addr := match PySem.W.recIn K (ma K (ga K C) m) "property" with
  | some (.ref g :: _) => g
  | _ => 0
def Loc.a (K : PySem.W.Frag) : Loc → Addr
  | .glo x => ga K x
  | .met C m => ma K (ga K C) m
  | .prp C m => prpF K C m
abbrev FnT : Type := Option (Str × Str × Arguments × FuncBody × Scope × Addr × Addr)
def fnA (K : PySem.W.Frag) (a : Addr) : FnT := match K.lookup a with
  | some ⟨_, _, .func fd, _⟩ => some (fd.name, fd.qualname, fd.params, fd.body, fd.scope, fd.globals, fd.builtins)
  | _ => none
structure DefZ where
  loc : Loc
  name : Str
  qual : Str
  params : Arguments
  body : List Stmt
  scope : Scope
  dfl : List Dv := []
  kwd : List (Str × Dv) := []
def valT (name qual : Str) (params : Arguments) (body : List Stmt) (scope : Scope) : FnT := some (name, qual, params, .stmts body, scope, mainGlobals, builtinsNs)
def DefZ.val (d : DefZ) : FnT := valT d.name d.qual d.params d.body d.scope
def DefZ.dvs (K : PySem.W.Frag) (d : DefZ) : List V := d.dfl.map (Dv.v K)
def DefZ.kws (K : PySem.W.Frag) (d : DefZ) : List (Str × V) := d.kwd.map fun q => (q.1, q.2.v K)
def DefZ.ok (K : PySem.W.Frag) (d : DefZ) : Bool := PySem.W.keepIn K (.ref (d.loc.a K)) && (match K.lookup (d.loc.a K) with
  | some ⟨_, _, .func fd, _⟩ => fd.closure.isEmpty && (PySem.W.codeIn K fd.code d.qual && (dflB K fd.defaults (d.dvs K) && kwdB K fd.kwdefaults (d.kws K)))
  | _ => false)
theorem DefZ.funD {K : PySem.W.Frag} {d : DefZ} (e : fnA K (d.loc.a K) = d.val) (c : d.ok K = true) : ∃ fd, FunD K d.name d.qual d.params d.body d.scope (d.dvs K) (d.kws K) (d.loc.a K) fd := by
  obtain ⟨kp, c2⟩ := ba c
  unfold fnA at e
  cases q : K.lookup (d.loc.a K) with
  | none => rw [q] at c2; cases c2
  | some o =>
    obtain ⟨oc, od, dt, osl⟩ := o
    rw [q] at c2 e
    cases dt with
    | func fd =>
      obtain ⟨n1, n2, n3, n4, n5, n6, n7, n8, n9, n10, n11, n12, n13, n14, n15⟩ := fd
      have z : (some (n1, n2, n3, n4, n5, n6, n15) : FnT) = some (d.name, d.qual, d.params, .stmts d.body, d.scope, mainGlobals, builtinsNs) := e
      simp only [Option.some.injEq, Prod.mk.injEq] at z
      obtain ⟨h1, h2, h3, h4, h5, h6, h7⟩ := z
      subst h1 h2 h3 h4 h5 h6 h7
      have c3 : (n7.isEmpty && (PySem.W.codeIn K n13 d.qual && (dflB K n8 (d.dvs K) && kwdB K n9 (d.kws K)))) = true := c2
      obtain ⟨k0, k⟩ := ba c3
      obtain ⟨k1, k2⟩ := ba k
      obtain ⟨k3, k4⟩ := ba k2
      have e0 : n7 = [] := List.isEmpty_iff.mp k0
      subst e0
      exact ⟨_, ⟨oc, od, n8, n9, n10, n11, n12, n13, n14, osl, rfl, q, k1, dflB_ok k3, kwdB_ok k4⟩, kp⟩
    | _ => cases c2
/-! an exception's __init__ -/
structure IniZ where
  C : Str
  fld : Str
  B : String
  newId : String
  iniId : String
  bm : List Value
  qual : Str
  params : Arguments
  body : List Stmt
  scope : Scope
def IniZ.val (d : IniZ) : FnT := valT "__init__" d.qual d.params d.body d.scope
def isNo : Value → Bool
  | .none => true
  | _ => false
theorem isNo_eq {v : Value} (h : isNo v = true) : v = .none := by
  cases v <;> first | rfl | cases h
def cellB (K : PySem.W.Frag) (C cc : Addr) : Bool := match K.lookup cc with
  | some ⟨_, _, .cell (some (.ref D)), _⟩ => decide (D = C)
  | _ => false
theorem cellB_ok {K : PySem.W.Frag} {C cc : Addr} (h : cellB K C cc = true) : ∃ c2 d2 s2, K.lookup cc = some ⟨c2, d2, .cell (some (.ref C)), s2⟩ := by
  unfold cellB at h
  split at h
  · rename_i c d D sl e
    rw [of_decide_eq_true h] at e
    exact ⟨_, _, _, e⟩
  · cases h
def fileB (K : PySem.W.Frag) (file : Str) (c : Addr) : Bool := match K.lookup c with
  | some ⟨_, _, .fields vs, _⟩ => (match vs[2]? with
    | some (Value.str fl _) => fl == file
    | _ => false)
  | _ => false
theorem fileB_ok {K : PySem.W.Frag} {file : Str} {c : Addr} (h : fileB K file c = true) : ∃ c2 d2 vs s2 fl tf, K.lookup c = some ⟨c2, d2, .fields vs, s2⟩ ∧ vs[2]? = some (.str fl tf) ∧ (fl == file) = true := by
  unfold fileB at h
  split at h
  · rename_i c2 d2 vs s2 e
    split at h
    · rename_i fl tf e2
      exact ⟨_, _, _, _, _, _, e, e2, h⟩
    · cases h
  · cases h
def IniZ.ok (K : PySem.W.Frag) (file : Str) (d : IniZ) : Bool := match K.lookup (ma K (ga K d.C) "__init__") with
  | some ⟨_, _, .func fd, _⟩ => (match fd.closure, fd.code with
    | [(n, cc)], .ref c => decide (n = ("__class__" : Str)) && (cellB K (ga K d.C) cc && (isNo fd.defaults && (isNo fd.kwdefaults && (fd.annotations.isNone && (PySem.W.codeIn K fd.code d.qual && fileB K file c)))))
    | _, _ => false)
  | _ => false
theorem IniZ.func {K : PySem.W.Frag} {file : Str} {d : IniZ} (e : fnA K (ma K (ga K d.C) "__init__") = d.val) (h : d.ok K file = true) : ∃ oc od osl doc pm ctv cc c, K.lookup (ma K (ga K d.C) "__init__") =
    some ⟨oc, od, .func (PySem.W.fnX "__init__" d.qual d.params d.body d.scope [(("__class__" : Str), cc)] .none .none doc pm none (.ref c) ctv), osl⟩ ∧ cellB K (ga K d.C) cc = true ∧ PySem.W.codeIn K (.ref c) d.qual = true ∧ fileB K file c = true := by
  unfold fnA at e
  unfold IniZ.ok at h
  cases q : K.lookup (ma K (ga K d.C) "__init__") with
  | none => rw [q] at h; cases h
  | some o =>
    obtain ⟨oc, od, dt, osl⟩ := o
    rw [q] at h e
    cases dt with
    | func fd =>
      obtain ⟨n1, n2, n3, n4, n5, n6, n7, n8, n9, n10, n11, n12, n13, n14, n15⟩ := fd
      have z : (some (n1, n2, n3, n4, n5, n6, n15) : FnT) = some (("__init__" : Str), d.qual, d.params, .stmts d.body, d.scope, mainGlobals, builtinsNs) := e
      simp only [Option.some.injEq, Prod.mk.injEq] at z
      obtain ⟨h1, h2, h3, h4, h5, h6, h7⟩ := z
      subst h1 h2 h3 h4 h5 h6 h7
      dsimp only at h
      split at h
      · rename_i n cc c
        obtain ⟨k1, k⟩ := ba h
        obtain ⟨k2, k⟩ := ba k
        obtain ⟨k3, k⟩ := ba k
        obtain ⟨k4, k⟩ := ba k
        obtain ⟨k5, k⟩ := ba k
        obtain ⟨k6, k7⟩ := ba k
        have e1 := of_decide_eq_true k1
        have e3 := isNo_eq k3
        have e4 := isNo_eq k4
        have e5 : n12 = none := Option.isNone_iff_eq_none.mp k5
        subst e1 e3 e4 e5
        exact ⟨oc, od, osl, _, _, _, cc, c, rfl, k2, k6, k7⟩
      · cases h
    | _ => cases h
def excB (K : PySem.W.Frag) (d : IniZ) : Bool := PySem.W.excInitIn K (ga K d.C) d.bm d.newId && (PySem.W.excOver K (ga K d.C) d.bm && (PySem.W.hasDictIn K (ga K d.C) && (decide (PySem.W.findIn K (.ref (ga K d.C)) "__setattr__" = some (some (.builtin "object.__setattr__"))) && (decide (PySem.W.subIn K (.ref (ga K d.C)) (.type "BaseException") = some true) &&
  (decide (PySem.W.subIn K (.ref (ga K d.C)) (.type d.B) = some true) && (decide (PySem.W.typeIn K (.ref (ga K d.C)) = some (.type "type")) && (PySem.W.keepIn K (.ref (ga K d.C)) && (decide (PySem.W.mroIn K (ga K d.C) (.ref (ga K d.C)) = some true) && (decide (PySem.W.nsIn K cStatics "thirdparty.any" = some none) &&
  (decide (PySem.W.ks_superIn K (ga K d.C) (ga K d.C) "__init__" = some (some (.builtin d.iniId))) && (decide (PySem.W.findIn K (.ref (ga K d.C)) "__init__" = some (some (.ref (ma K (ga K d.C) "__init__")))) && (decide (PySem.W.typeIn K (.ref (ma K (ga K d.C) "__init__")) = some (.type "function")) &&
  (decide (PySem.W.findIn K (.ref (ga K d.C)) d.fld = some none) && (xfB K (ga K d.C) && decide (PySem.W.nsIn K mainGlobals d.C = some (some (.ref (ga K d.C))))))))))))))))))
structure ExcB (K : PySem.W.Frag) (d : IniZ) : Prop where
  ik : Zx.IniK K (ga K d.C) d.B d.newId d.iniId d.bm
  iC : PySem.W.findIn K (.ref (ga K d.C)) "__init__" = some (some (.ref (ma K (ga K d.C) "__init__")))
  tI : PySem.W.typeIn K (.ref (ma K (ga K d.C) "__init__")) = some (.type "function")
  no : PySem.W.findIn K (.ref (ga K d.C)) d.fld = some none
  xf : XfC K (ga K d.C)
  gl : PySem.W.nsIn K mainGlobals d.C = some (some (.ref (ga K d.C)))
theorem excB_ok {K : PySem.W.Frag} {d : IniZ} (h : excB K d = true) : ExcB K d := by
  obtain ⟨h1, h⟩ := ba h
  obtain ⟨h2, h⟩ := ba h
  obtain ⟨h3, h⟩ := ba h
  obtain ⟨h4, h⟩ := ba h
  obtain ⟨h5, h⟩ := ba h
  obtain ⟨h6, h⟩ := ba h
  obtain ⟨h7, h⟩ := ba h
  obtain ⟨h8, h⟩ := ba h
  obtain ⟨h9, h⟩ := ba h
  obtain ⟨h10, h⟩ := ba h
  obtain ⟨h11, h⟩ := ba h
  obtain ⟨h12, h⟩ := ba h
  obtain ⟨h13, h⟩ := ba h
  obtain ⟨h14, h⟩ := ba h
  obtain ⟨h15, h16⟩ := ba h
  exact ⟨⟨h1, h2, h3, of_decide_eq_true h4, of_decide_eq_true h5, of_decide_eq_true h6, of_decide_eq_true h7, h8, of_decide_eq_true h9, of_decide_eq_true h10, of_decide_eq_true h11⟩, of_decide_eq_true h12, of_decide_eq_true h13, of_decide_eq_true h14, xfB_ok h15, of_decide_eq_true h16⟩
/-- from the facts to what a raise asks -/
theorem exc_of {U : Wd} {d : IniZ} {file par msg : Str} {j : Nat} {p0 p1 apos cpos epos mpos q1 q2 q3 q4 : Pos} (KB : Zx.BaseK d.B d.newId d.iniId d.bm) (hv : fnA U.K (ma U.K (ga U.K d.C) "__init__") = d.val) (hok : d.ok U.K file = true) (hB : excB U.K d = true) (hfile : U.P.main.file = file)
    (htop : (U.P.main.scope.names.lookup ("super" : Str)).isSome = false) (hsup : U.mg "super" = none) (hmg : U.mg d.C = some (.ref (ga U.K d.C)))
    (hbody : d.body = [.Expr (.Call (.Attribute (.Call (.Name "super" p0) [] [] p1) "__init__" apos) [.Constant (.str msg) j mpos] [] cpos) epos, .Assign [.Attribute (.Name "self" q1) d.fld q2] (.Name par q3) q4])
    (S : NdefX.NScope [("self" : Str), par, ("__class__" : Str)] [("self" : Str), par] [("__class__" : Str)] d.scope)
    (hb : ∀ (cl : List (Str × Addr)) (doc pm cdv ctv : Value) (us : List Value), us.length = 2 → bindArgs (PySem.W.fnX "__init__" d.qual d.params d.body d.scope cl .none .none doc pm none cdv ctv) ⟨us, []⟩ = pure ([("self" : Str), par].zip us))
    (hhead : ∃ ar, (d.params.posonlyargs ++ d.params.args).head? = some ar ∧ ar.arg = ("self" : Str)) (ks : d.scope.names.lookup ("super" : Str) = some .globalImplicit) (kc : d.scope.names.lookup ("__class__" : Str) = some .free) (kself : d.scope.names.lookup ("self" : Str) = some .local)
    (kpar : d.scope.names.lookup par = some .local) {pl : Env → Sem Bool}
    (he : ∀ env, eval (.Call (.Attribute (.Call (.Name "super" p0) [] [] p1) "__init__" apos) [.Constant (.str msg) j mpos] [] cpos) env = (do
      let ov ← attributeBase (.Call (.Name "super" p0) [] [] p1) "__init__" env (eval (.Call (.Name "super" p0) [] [] p1) env)
      standAt apos.atName
      let (f, first) ← holding [ov] (getMethod ov "__init__" (pl env))
      callWith cpos f first (backTo cpos (starEach [.Constant (.str msg) j mpos] env)) []) := by intro _; rfl)
    (hsw : ∀ env, swapsWith (.Name par q3) (some (.Attribute (.Name "self" q1) d.fld q2)) q4.line env = pure false := by intro _; rfl) (hp1 : (par == ("__debug__" : Str)) = false := by decide) (hp2 : (par == ("__classdict__" : Str)) = false := by decide) : ExcZ U d.C d.fld 1 := by
  have B := excB_ok hB
  obtain ⟨oc, od, osl, doc, pm, ctv, cc, c, lk, hcell, hcode, hfl⟩ := IniZ.func hv hok
  obtain ⟨c2, d2, vs, s2, fl, tf, f1, f2, f3⟩ := fileB_ok hfl
  have SK : Zx.SupK U.P U.K U.mg ⟨"__init__", d.qual, d.params, d.body, d.scope, [(("__class__" : Str), cc)], c⟩ (ga U.K d.C) cc :=
    ⟨rfl, cellB_ok hcell, hcode, ⟨c2, d2, vs, s2, fl, tf, f1, f2, by rw [hfile, (beq_iff_eq.mp f3)]; exact beq_self_eq_true _⟩, hhead, hsup, ks, kc, kself, htop⟩
  refine ⟨⟨d.B, d.newId, d.iniId, d.bm, _, KB, B.ik, B.iC, B.tI, ?_⟩, hmg⟩
  exact Zx.ini_one (k := 0) (pl := pl) KB B.ik SK S lk (hb _ doc pm _ ctv) he hbody B.no hp1 hp2 kpar hsw
end Z
end
section
set_option Elab.async false
set_option linter.all false
set_option maxRecDepth 100000
set_option maxHeartbeats 1000000
namespace Z
open PySem PySem.Spec PyProof.Rows
open L2 He
/-! one hook -/
structure HkZ where
  fn : List DefZ
  ei : List IniZ
  tf : List Defn
  file : Str
  ex : PySem.W.Frag → Bool
abbrev AlZ : Type := (List FnT × List FnT) × Bool
def asZ (g : Addr → Option Obj) (n : Nat) : List Addr := cStatics :: asD g n
def seeZ (h : HkZ) (g : Addr → Option Obj) (K : PySem.W.Frag) : AlZ := ((h.fn.map fun d => fnA K (d.loc.a K), h.ei.map fun d => fnA K (ma K (ga K d.C) "__init__")), (h.fn.all fun d => d.ok K) && ((h.ei.all fun d => d.ok K h.file && excB K d) && (h.ex K && tabsB g h.tf K)))
def obsZ (n : Nat) (h : HkZ) (g : Addr → Option Obj) : AlZ := seeZ h g (frT g (asZ g n))
def valZ (h : HkZ) : AlZ := ((h.fn.map DefZ.val, h.ei.map IniZ.val), true)
structure SaysZ (h : HkZ) (hp : Heap) (K : PySem.W.Frag) : Prop where
  fns : (h.fn.map fun d => fnA K (d.loc.a K)) = h.fn.map DefZ.val
  inis : (h.ei.map fun d => fnA K (ma K (ga K d.C) "__init__")) = h.ei.map IniZ.val
  fok : ∀ d ∈ h.fn, d.ok K = true
  iok : ∀ d ∈ h.ei, d.ok K h.file = true ∧ excB K d = true
  more : h.ex K = true
  hd : ∀ p ∈ h.tf, PySem.W.codeHdIn K (cT K p).1 (cT K p).2 = true
  out : ∀ p ∈ h.tf, K.lookup (cT K p).2 = none
  empty : ∀ p ∈ h.tf, hp.get? (cT K p).2 = some { cls := .none, data := .fields #[] }
theorem saysZ_of {n : Nat} {h : HkZ} {hp : Heap} (e : obsZ n h hp.get? = valZ h) : SaysZ h hp (frT hp.get? (asZ hp.get? n)) := by
  have e1 := congrArg (fun z : AlZ => z.1.1) e
  have e2 := congrArg (fun z : AlZ => z.1.2) e
  have e3 : ((h.fn.all fun d => d.ok (frT hp.get? (asZ hp.get? n))) && ((h.ei.all fun d => d.ok (frT hp.get? (asZ hp.get? n)) h.file && excB (frT hp.get? (asZ hp.get? n)) d) && (h.ex (frT hp.get? (asZ hp.get? n)) && tabsB hp.get? h.tf (frT hp.get? (asZ hp.get? n))))) = true := congrArg (fun z : AlZ => z.2) e
  obtain ⟨k1, k⟩ := ba e3
  obtain ⟨k2, k⟩ := ba k
  obtain ⟨k3, k4⟩ := ba k
  have key : ∀ p ∈ h.tf, PySem.W.codeHdIn (frT hp.get? (asZ hp.get? n)) (cT (frT hp.get? (asZ hp.get? n)) p).1 (cT (frT hp.get? (asZ hp.get? n)) p).2 = true ∧ ∃ o, hp.get? (cT (frT hp.get? (asZ hp.get? n)) p).2 = some o ∧ emptyTab o = true := fun p hm => by
    obtain ⟨h3, h4⟩ := ba (List.all_eq_true.mp k4 p hm)
    refine ⟨h3, ?_⟩
    cases q : hp.get? (cT (frT hp.get? (asZ hp.get? n)) p).2 with
    | none =>
      rw [q] at h4
      cases h4
    | some o =>
      rw [q] at h4
      exact ⟨o, rfl, h4⟩
  refine ⟨e1, e2, fun d hd => List.all_eq_true.mp k1 d hd, fun d hd => ba (List.all_eq_true.mp k2 d hd), k3, fun p hm => (key p hm).1, fun p hm => ?_, fun p hm => ?_⟩
  · obtain ⟨_, o, q, z⟩ := key p hm
    exact frT_none q z
  · obtain ⟨_, o, q, z⟩ := key p hm
    rw [q, emptyTab_eq z]
def hookZ (n : Nat) (h : HkZ) : PySem.W.Hook where
  α := AlZ
  obs := fun s => obsZ n h s.heap.get?
  val := fun _ => valZ h
  says := fun _ hp => ∃ K : PySem.W.Frag, K.In hp ∧ SaysZ h hp K
  of := fun _ _ e => ⟨_, frT_in, saysZ_of e⟩
  keeps := fun _ _ _ ⟨K, hK, c⟩ k => ⟨K, PySem.W.Frag.In.keeps hK k, ⟨c.fns, c.inis, c.fok, c.iok, c.more, c.hd, c.out, fun p hp => k _ _ (c.empty p hp)⟩⟩
theorem obsZ_eq {n : Nat} {h : HkZ} {g : Addr → Option Obj} {s : Shared} (e : ∀ a, g a = s.heap.get? a) : obsZ n h g = (hookZ n h).obs s := by
  have e : g = s.heap.get? := funext e
  rw [e] <;> rfl
section
variable {h : HkZ} {hp : Heap} {K : PySem.W.Frag}
theorem SaysZ.fun_ (c : SaysZ h hp K) (i : Nat) {d : DefZ} (e : h.fn[i]? = some d) : ∃ fd, FunD K d.name d.qual d.params d.body d.scope (d.dvs K) (d.kws K) (d.loc.a K) fd := by
  have z : (h.fn.map fun d => fnA K (d.loc.a K))[i]? = (h.fn.map DefZ.val)[i]? := by rw [c.fns]
  rw [List.getElem?_map, List.getElem?_map, e] at z
  exact DefZ.funD (Option.some.inj z) (c.fok d (List.mem_of_getElem? e))
theorem SaysZ.ini_ (c : SaysZ h hp K) (i : Nat) {d : IniZ} (e : h.ei[i]? = some d) : fnA K (ma K (ga K d.C) "__init__") = d.val ∧ d.ok K h.file = true ∧ excB K d = true := by
  have z : (h.ei.map fun d => fnA K (ma K (ga K d.C) "__init__"))[i]? = (h.ei.map IniZ.val)[i]? := by rw [c.inis]
  rw [List.getElem?_map, List.getElem?_map, e] at z
  exact ⟨Option.some.inj z, c.iok d (List.mem_of_getElem? e)⟩
end
/-! further facts, asked by Bools -/
def prpB (K : PySem.W.Frag) (q : Str × Str) : Bool := decide (PySem.W.findIn K (.ref (ga K q.1)) q.2 = some (some (.ref (ma K (ga K q.1) q.2)))) && (decide (PySem.W.specialIn K (.ref (ma K (ga K q.1) q.2)) "__get__" = some (some (.builtin "property.__get__"))) && (decide (PySem.W.takesIn K (.ref (ma K (ga K q.1) q.2)) = some true) &&
  (match PySem.W.recIn K (ma K (ga K q.1) q.2) "property" with
  | some (.ref _ :: _) => true
  | _ => false)))
theorem prpB_ok {K : PySem.W.Frag} {q : Str × Str} (h : prpB K q = true) : PropOf K (ga K q.1) q.2 (ma K (ga K q.1) q.2) (prpF K q.1 q.2) := by
  obtain ⟨h1, h⟩ := ba h
  obtain ⟨h2, h⟩ := ba h
  obtain ⟨h3, h4⟩ := ba h
  refine ⟨of_decide_eq_true h1, of_decide_eq_true h2, of_decide_eq_true h3, ?_⟩
  unfold prpF
  split at h4
  · rename_i g rest e
    rw [e]
    exact ⟨rest, rfl⟩
  · cases h4
def clsAB (K : PySem.W.Frag) (c : Str) : Bool := (Fa.cls c).ok K && (decide (PySem.W.findIn K (.ref (ga K c)) "__class__" = some (some (.builtin "object.__class__"))) && (decide (PySem.W.specialIn K (.builtin "object.__class__") "__get__" = some (some (.builtin "getset_descriptor.__get__"))) &&
  (decide (PySem.W.takesIn K (.builtin "object.__class__") = some true) && decide (PySem.W.mroIn K (ga K c) (.type "object") = some true))))
theorem clsAB_ok {K : PySem.W.Frag} {c : Str} (h : clsAB K c = true) : ClsA K (ga K c) := by
  obtain ⟨h1, h⟩ := ba h
  obtain ⟨h2, h⟩ := ba h
  obtain ⟨h3, h⟩ := ba h
  obtain ⟨h4, h5⟩ := ba h
  exact ⟨cls_ok h1, of_decide_eq_true h2, of_decide_eq_true h3, of_decide_eq_true h4, of_decide_eq_true h5⟩
def tagC : Tag → List Str
  | .o c => [c]
  | .b _ => []
def kitB (K : PySem.W.Frag) (sub : Str → Str → Bool) (tags asked : List Tag) : Bool := ((tags.flatMap tagC).all fun c => clsAB K c) && tags.all fun t => asked.all fun u => decide (PySem.W.kitOne K (tagV K t) (tagV K u) = some (isSub sub t u))
theorem kitB_ok {K : PySem.W.Frag} {sub : Str → Str → Bool} {tags asked : List Tag} (h : kitB K sub tags asked = true) : KitT K sub tags asked := by
  obtain ⟨h1, h2⟩ := ba h
  refine ⟨fun c hc => clsAB_ok (List.all_eq_true.mp h1 c (List.mem_flatMap.mpr ⟨_, hc, List.mem_singleton.mpr rfl⟩)), fun t ht u hu => of_decide_eq_true (List.all_eq_true.mp (List.all_eq_true.mp h2 t ht) u hu)⟩
def exmB (K : PySem.W.Frag) (sb : Str → Str → Bool) (excs : List Str) (cs : List Cla) : Bool := (excs.all fun c => cs.all fun q => decide (PySem.W.exmOne K (.ref (ga K c)) (.ref (ga K q.c)) = some (sb c q.c))) && cs.all fun q => match q.fld with
  | none => true
  | some f => xfB K (ga K q.c) && decide (PySem.W.findIn K (.ref (ga K q.c)) f = some none)
theorem exmB_ok {K : PySem.W.Frag} {sb : Str → Str → Bool} {excs : List Str} {cs : List Cla} (h : exmB K sb excs cs = true) : KitE K sb excs cs := by
  obtain ⟨h1, h2⟩ := ba h
  refine ⟨fun c hc q hq => of_decide_eq_true (List.all_eq_true.mp (List.all_eq_true.mp h1 c hc) q hq), fun q hq f hf => ?_⟩
  have z := List.all_eq_true.mp h2 q hq
  rw [hf] at z
  obtain ⟨z1, z2⟩ := ba z
  exact ⟨xfB_ok z1, of_decide_eq_true z2⟩
def fldB (K : PySem.W.Frag) (fl : List (Str × Str)) : Bool := fl.all fun p => (Fa.cls p.1).ok K && (Fa.noat p.1 p.2).ok K
theorem fldB_ok {K : PySem.W.Frag} {fl : List (Str × Str)} (h : fldB K fl = true) : FldK K fl := fun p hp => by
  obtain ⟨h1, h2⟩ := ba (List.all_eq_true.mp h p hp)
  exact ⟨cls_ok h1, noat_ok h2⟩
def eqoB (K : PySem.W.Frag) (c : Str) : Bool := decide (PySem.W.findIn K (.ref (ga K c)) "__eq__" = some (some (.ref (ma K (ga K c) "__eq__")))) && (PySem.W.isFn K (.ref (ma K (ga K c) "__eq__")) && (decide (PySem.W.findIn K (.ref (ga K c)) "__ne__" = some (some (.builtin "object.__ne__"))) && decide (PySem.W.mroIn K (ga K c) (.type "object") = some true)))
theorem eqoB_ok {K : PySem.W.Frag} {c : Str} (h : eqoB K c = true) : PySem.W.findIn K (.ref (ga K c)) "__eq__" = some (some (.ref (ma K (ga K c) "__eq__"))) ∧ PySem.W.isFn K (.ref (ma K (ga K c) "__eq__")) = true ∧ PySem.W.findIn K (.ref (ga K c)) "__ne__" = some (some (.builtin "object.__ne__")) ∧ PySem.W.mroIn K (ga K c) (.type "object") = some true := by
  obtain ⟨h1, h⟩ := ba h
  obtain ⟨h2, h⟩ := ba h
  obtain ⟨h3, h4⟩ := ba h
  exact ⟨of_decide_eq_true h1, h2, of_decide_eq_true h3, of_decide_eq_true h4⟩
/-! the law's end -/
def tabZ (K : PySem.W.Frag) (tf : List Defn) : Tbl := tf.map fun p => ((cT K p).2, (p.1 ++ ".<locals>.") ++ "<lambda>")
def F0 (H : Hp) : Hp := fun b => match H b with
  | some (.tbl _) => none
  | o => o
theorem F0_some {H : Hp} {b : Addr} {o : HO} (h : F0 H b = some o) : H b = some o ∧ noTbl o := by
  unfold F0 at h
  split at h
  · cases h
  · rename_i n
    exact ⟨h, fun ps z => n ps (by rw [h, z])⟩
theorem F0_of {H : Hp} {b : Addr} {o : HO} (h : H b = some o) (n : noTbl o) : F0 H b = some o := by
  unfold F0
  rw [h]
  split
  · rename_i ps e
    exact absurd (Option.some.inj e) (n ps)
  · rfl
theorem sr_start {K : PySem.W.Frag} {T : Tbl} {H : Hp} (t : LamX.Tabs T H) : SR K T ⟨fun _ => none, F0 H, fun _ => none⟩ [] H where
  sub := fun b o h => (F0_some h).1
  pin := fun b o h => by cases h
  cell := fun n m h => by simp at h
  new := fun n _ => rfl
  inj := fun n n' m m' a h => by simp at h
  tabs := t
  nt := fun b ps => ⟨fun z => (F0_some z).2 ps rfl, fun z => by cases z⟩
theorem ints_rep {K : PySem.W.Frag} {G : GS} : ∀ ns : List Int, RepL K G (ns.map V.int) (ns.map .int)
  | [] => rfl
  | n :: ns => ⟨_, _, rfl, rfl, ints_rep ns⟩
theorem script_rep {K : PySem.W.Frag} {H : Hp} {a : Addr} {ns : List Int} (h : SqL K H a (ns.map V.int)) : Rep K ⟨fun _ => none, F0 H, fun _ => none⟩ (.ref a) (.rol (ns.map .int)) := by
  refine ⟨a, ns.map V.int, rfl, ?_, ints_rep ns⟩
  rcases h with (h | ⟨o, h⟩) | h
  · exact .inl (.inl (F0_of h fun ps z => by cases z))
  · exact .inl (.inr ⟨o, F0_of h fun ps z => by cases z⟩)
  · exact .inr h
theorem lawAt {l : PySem.W.OpenLaw} {w : World} {K : PySem.W.Frag} {k n : Nat} {x : Str} {mg : Str → Option Value} {fa : Addr} {hp : Heap} {h : HkZ} {F : DF} (KX : K.In hp) (c : SaysZ h hp K) {fd : FuncData} (bnd : L2.Binds K fd [x] [])
    (hF : ∀ base : Heap, K.In base → base.Ns mainGlobals mg → (∀ p ∈ h.tf, LamX.TabB base mg (cT K p).1 (cT K p).2) → FnOk l.prog w K mg base (L2.CX l.prog w) k fa fd [x] (spD K (tabZ K h.tf) 1 F))
    (hspec : ∀ ns : List Int, ns.length ≤ n → (∀ z ∈ ns, Builtin.Int.intBits z ≤ 1048576) → ∃ S, F [.rol (ns.map .int)] [] = .ok (.bl true) S) (bs : ∀ (s : Shared) (u : Value), BindsTo s fd ⟨[u], []⟩ [(x, u)]) : LamX.LawAtS l w K (L2.CX l.prog w) k n x mg fa hp := by
  refine ⟨fd, h.tf.map (cT K), spD K (tabZ K h.tf) 1 F, fun p hm => ?_, fun p hm => ?_, fun p hm => ?_, bs, fun H a ns hl hb ht hs => ?_, fun base KB G TB => hF base KB G fun p hm => TB _ (List.mem_map_of_mem hm)⟩
  · obtain ⟨q, hq, rfl⟩ := List.mem_map.mp hm
    exact c.empty q hq
  · obtain ⟨q, hq, rfl⟩ := List.mem_map.mp hm
    exact c.out q hq
  · obtain ⟨q, hq, rfl⟩ := List.mem_map.mp hm
    exact PySem.W.codeHd_of_K KX (c.hd q hq)
  · obtain ⟨S, hS⟩ := hspec ns hl hb
    refine ⟨[.rol (ns.map .int)], _, [], sr_start fun p hm => ?_, ⟨_, [], rfl, script_rep hs, rfl⟩, rfl, ?_⟩
    · obtain ⟨q, hq, rfl⟩ := List.mem_map.mp hm
      exact LamX.TabS.nil (ht _ (List.mem_map_of_mem hq))
    · rw [hS]
      exact fun b H' G' _ _ r => r
theorem noCX {l : PySem.W.OpenLaw} (w : World) (H : Hp) (s : Shared) (e : Value) (s' : Shared) (h : L2.CX l.prog w [] H s (fun _ _ _ => False) e s') : False := by
  obtain ⟨_, _, _, _, _, _, _, _, _, _, _, _, z⟩ := h
  exact z
theorem nodup_eq {α β : Type} {f : α → β} : ∀ {l : List α}, (l.map f).Nodup → ∀ {a b : α}, a ∈ l → b ∈ l → f a = f b → a = b
  | [], _, a, b, ha, _, _ => absurd ha (by simp)
  | c :: l, nd, a, b, ha, hb, e => by
    rw [List.map_cons, List.nodup_cons] at nd
    rcases List.mem_cons.mp ha with ea | ha2 <;> rcases List.mem_cons.mp hb with eb | hb2
    · rw [ea, eb]
    · rw [← ea, e] at nd
      exact absurd (List.mem_map_of_mem hb2) nd.1
    · rw [← eb, ← e] at nd
      exact absurd (List.mem_map_of_mem ha2) nd.1
    · exact nodup_eq nd.2 ha2 hb2 e
theorem lam_of {P : Program} {w : World} {K : PySem.W.Frag} {mg : Str → Option Value} {base : Heap} {tf : List Defn} {x : Str} (nd : (tf.map fun p => (cT K p).2).Nodup) (hx : (x, none) ∈ tf) (TB : ∀ p ∈ tf, LamX.TabB base mg (cT K p).1 (cT K p).2) : LamZ ⟨P, w, K, mg, base, tabZ K tf⟩ x :=
  ⟨TB _ hx, List.mem_map_of_mem (f := fun p => ((cT K p).2, (p.1 ++ ".<locals>.") ++ "<lambda>")) hx, fun p hp e => by
    obtain ⟨q, hq, rfl⟩ := List.mem_map.mp hp
    have : q = (x, none) := nodup_eq nd hq hx e
    rw [this]⟩
def clsB : Stmt → List Stmt
  | .ClassDef _ _ _ b _ _ _ _ _ _ _ => b
  | _ => []
def tryH : List Stmt → List ExceptHandler
  | [.Try _ hs _ _ _] => hs
  | _ => []
theorem met_of {Z : Wd} {c m : Str} {k : Nat} {ps : List Str} {F : DF} {x qual : Str} {params : Arguments} {body : List Stmt} {scope : Scope} {kws : List (Str × V)} {f : Addr} {fd : FuncData} (D : FunD Z.K x qual params body scope [] kws f fd) (c1 : Cls Z.K (ga Z.K c)) (m1 : Meth Z.K (ga Z.K c) m f)
    (hb : ∀ (kV doc pm : Value) (an : Option Addr) (cdv ct : Value) (us : List Value), us.length = ps.length → bindArgs (PySem.W.fnOf x qual params body scope .none kV doc pm an cdv ct) ⟨us, []⟩ = pure (ps.zip us)) (h : Z.Fn k f fd ps F) : MetZ Z c m k ps F := ⟨⟨f, fd, c1, m1, D.bindsN hb, h⟩⟩
theorem prp_of {Z : Wd} {c m : Str} {k : Nat} {F : DF} {x qual : Str} {params : Arguments} {body : List Stmt} {scope : Scope} {kws : List (Str × V)} {f p : Addr} {fd : FuncData} (D : FunD Z.K x qual params body scope [] kws f fd) (c1 : Cls Z.K (ga Z.K c)) (m1 : PropOf Z.K (ga Z.K c) m p f)
    (hb : ∀ (kV doc pm : Value) (an : Option Addr) (cdv ct : Value) (us : List Value), us.length = 1 → bindArgs (PySem.W.fnOf x qual params body scope .none kV doc pm an cdv ct) ⟨us, []⟩ = pure ([("self" : Str)].zip us)) (h : Z.Fn k f fd [("self" : Str)] F) : PrpZ Z c m k F := ⟨⟨p, f, fd, c1, m1, D.bindsN hb, h⟩⟩
theorem mak_of {Z : Wd} {c : Str} {k : Nat} {ps : List Str} {F : DF} {x qual : Str} {params : Arguments} {body : List Stmt} {scope : Scope} {kws : List (Str × V)} {f : Addr} {fd : FuncData} (D : FunD Z.K x qual params body scope [] kws f fd) (m1 : Mk Z.K (ga Z.K c) f) (g : Z.mg c = some (.ref (ga Z.K c)))
    (hb : ∀ (kV doc pm : Value) (an : Option Addr) (cdv ct : Value) (us : List Value), us.length = ps.length → bindArgs (PySem.W.fnOf x qual params body scope .none kV doc pm an cdv ct) ⟨us, []⟩ = pure (ps.zip us)) (h : Z.Fn k f fd ps F) : MakZ Z c k ps F := ⟨⟨f, fd, m1, D.bindsN hb, h⟩, g⟩
theorem eqo_of {Z : Wd} {c : Str} {k : Nat} {F : DF} {x qual : Str} {params : Arguments} {body : List Stmt} {scope : Scope} {kws : List (Str × V)} {fd : FuncData} (D : FunD Z.K x qual params body scope [] kws (ma Z.K (ga Z.K c) "__eq__") fd) (q : eqoB Z.K c = true)
    (hb : ∀ (kV doc pm : Value) (an : Option Addr) (cdv ct : Value) (us : List Value), us.length = 2 → bindArgs (PySem.W.fnOf x qual params body scope .none kV doc pm an cdv ct) ⟨us, []⟩ = pure ([("self" : Str), ("other" : Str)].zip us)) (h : Z.Fn k (ma Z.K (ga Z.K c) "__eq__") fd [("self" : Str), ("other" : Str)] F) : EqoZ Z c k F :=
  let ⟨h1, h2, h3, h4⟩ := eqoB_ok q
  ⟨⟨_, fd, h1, h2, D.bindsN hb, h⟩, h3, h4⟩
end Z
end
section
set_option Elab.async false
set_option linter.all false
set_option maxRecDepth 100000
namespace Z
/-! plain reasoning about mirrors -/
@[simp] theorem bind_ok {α β : Type} {a : α} {S : Store} {f : α → Store → Res β} : (Res.ok a S).bind f = f a S := rfl
@[simp] theorem bind_exc {α β : Type} {c ks ps S} {f : α → Store → Res β} : (Res.exc c ks ps S : Res α).bind f = .exc c ks ps S := rfl
theorem noX_ok {α : Type} {a : α} {S : Store} : (Res.ok a S).noX = .ok a S := rfl
theorem sE_ok {α : Type} {a : α} {S env k} : sE (Res.ok a S : Res α) env k = k a S := rfl
theorem sE_exc {α : Type} {c ks ps S env k} : sE (Res.exc c ks ps S : Res α) env k = .exc env c ks ps S := rfl
/-- an expression's evaluation, told at once -/
theorem e2_ok {g : D → D → Store → Res D} {fa fb : EF} {env S x S1 y S2} (h1 : fa env S = .ok x S1) (h2 : fb env S1 = .ok y S2) : e2 g fa fb env S = g x y S2 := by unfold e2; rw [h1, bind_ok, h2, bind_ok]
theorem e1_ok {g : D → Store → Res D} {fa : EF} {env S x S1} (h1 : fa env S = .ok x S1) : e1 g fa env S = g x S1 := by unfold e1; rw [h1, bind_ok]
/-- a list comprehension whose parts leave the store -/
theorem lcL_map {g : D → DEnv → Option DEnv} {ft : RF Bool} {fe : EF} {env : DEnv} {S : Store} (h : D → Option D) : ∀ {l : List D}, (∀ d ∈ l, ∃ env1, g d env = some env1 ∧ ((∃ y, ft env1 S = .ok true S ∧ fe env1 S = .ok y S ∧ h d = some y) ∨ (ft env1 S = .ok false S ∧ h d = none))) → lcL g ft fe env l S = .ok (l.filterMap h) S
  | [], _ => rfl
  | d :: ds, H => by
    obtain ⟨env1, h1, h2⟩ := H d (List.mem_cons_self ..)
    have ih := lcL_map (l := ds) h fun e he => H e (List.mem_cons_of_mem _ he)
    unfold lcL
    rw [h1]
    rcases h2 with ⟨y, a, b, c⟩ | ⟨a, c⟩
    · show ((ft env1 S).noX.bind fun b S => _) = _
      rw [a, noX_ok, bind_ok, if_pos rfl, b, noX_ok, bind_ok, ih, bind_ok, List.filterMap_cons, c]
    · show ((ft env1 S).noX.bind fun b S => _) = _
      rw [a, noX_ok, bind_ok, if_neg (by decide), ih, List.filterMap_cons, c]
theorem fm_some {α β : Type} {h : α → β} : ∀ l : List α, l.filterMap (fun d => some (h d)) = l.map h
  | [] => rfl
  | a :: l => by rw [List.filterMap_cons, List.map_cons, fm_some l]
/-- .. with no condition -/
theorem lcL_all {g : D → DEnv → Option DEnv} {fe : EF} {env : DEnv} {S : Store} (h : D → D) {l : List D} (H : ∀ d ∈ l, ∃ env1, g d env = some env1 ∧ fe env1 S = .ok (h d) S) : lcL g tYesD fe env l S = .ok (l.map h) S := by
  have := lcL_map (g := g) (ft := tYesD) (fe := fe) (env := env) (S := S) (fun d => some (h d)) (l := l) fun d hd => by
    obtain ⟨env1, h1, h2⟩ := H d hd
    exact ⟨env1, h1, .inl ⟨_, rfl, h2, rfl⟩⟩
  rw [this, fm_some]
/-- .. whose parts let the store grow -/
theorem lcL_grow {g : D → DEnv → Option DEnv} {fe : EF} {env : DEnv} (h : D → D) : ∀ {l : List D} {S : Store}, (∀ d ∈ l, ∃ env1, g d env = some env1 ∧ ∀ S1, S <+: S1 → ∃ S2, fe env1 S1 = .ok (h d) S2 ∧ S1 <+: S2) → ∃ S', lcL g tYesD fe env l S = .ok (l.map h) S' ∧ S <+: S'
  | [], S, _ => ⟨S, rfl, List.prefix_refl _⟩
  | d :: ds, S, H => by
    obtain ⟨env1, h1, h2⟩ := H d (List.mem_cons_self ..)
    obtain ⟨S2, h3, h4⟩ := h2 S (List.prefix_refl _)
    obtain ⟨S', h5, h6⟩ := lcL_grow (l := ds) (S := S2) h fun e he => by
      obtain ⟨env1, q1, q2⟩ := H e (List.mem_cons_of_mem _ he)
      exact ⟨env1, q1, fun S1 hS => q2 S1 (h4.trans hS)⟩
    refine ⟨S', ?_, h4.trans h6⟩
    unfold lcL
    rw [h1]
    show ((tYesD env1 S).noX.bind fun b S => _) = _
    rw [show tYesD env1 S = .ok true S from rfl, noX_ok, bind_ok, if_pos rfl, h3, noX_ok, bind_ok, h5, bind_ok, List.map_cons]
/-- a loop that never stops early -/
theorem forL_go {g : D → DEnv → Option DEnv} {fb : SF} (I : List D → DEnv → Store → Prop) (step : ∀ d ds env S, I (d :: ds) env S → ∃ env1, g d env = some env1 ∧ ∃ e S', (fb env1 S = .nx e S' ∨ fb env1 S = .cnt e S') ∧ I ds e S') : ∀ l env S, I l env S → ∃ e S', forL g fb l env S = .nx e S' ∧ I [] e S'
  | [], env, S, h => ⟨env, S, rfl, h⟩
  | d :: ds, env, S, h => by
    obtain ⟨env1, h1, e, S', h2, h3⟩ := step d ds env S h
    obtain ⟨e2, S2, h4, h5⟩ := forL_go I step ds e S' h3
    refine ⟨e2, S2, ?_, h5⟩
    unfold forL
    rw [h1]
    show loopK _ (fb env1 S) = _
    rcases h2 with h2 | h2 <;> rw [h2] <;> exact h4
/-- a while loop, by a measure -/
theorem while_go {t : RF Bool} {fb : SF} (I : Nat → DEnv → Store → Prop) (step : ∀ m env S, I m env S → (∃ S', t env S = .ok false S' ∧ I 0 env S' ∧ m = 0) ∨ ∃ k, m = k + 1 ∧ ∃ S1, t env S = .ok true S1 ∧ ∃ e S', (fb env S1 = .nx e S' ∨ fb env S1 = .cnt e S') ∧ I k e S') :
    ∀ m n env S, m < n → I m env S → ∃ e S', whileN t fb n env S = .nx e S' ∧ I 0 e S'
  | m, 0, env, S, h, _ => absurd h (Nat.not_lt_zero _)
  | m, n + 1, env, S, hn, h => by
    unfold whileN
    rcases step m env S h with ⟨S', h1, h2, rfl⟩ | ⟨k, rfl, S1, h1, e, S', h2, h3⟩
    · rw [h1, sE_ok, if_neg (by decide)]
      exact ⟨env, S', rfl, h2⟩
    · obtain ⟨e2, S2, h4, h5⟩ := while_go I step k n e S' (by omega) h3
      refine ⟨e2, S2, ?_, h5⟩
      rw [h1, sE_ok, if_pos rfl]
      rcases h2 with h2 | h2 <;> rw [h2] <;> exact h4
end Z
namespace Z
theorem eLc_all {fi : RF (List D)} {g : D → DEnv → Option DEnv} {fe : EF} {vs : List Nat} {env : DEnv} {S S1 : Store} {l : List D} (h : D → D) (h1 : fi env S = .ok l S1) (hl : l.length ≤ lineN) (H : ∀ d ∈ l, ∃ env1, g d (wipeD env vs) = some env1 ∧ fe env1 S1 = .ok (h d) S1) :
    eLc mkL fi g tYesD fe vs env S = .ok (.lst (l.map h)) S1 := by
  unfold eLc
  rw [h1, bind_ok, if_pos hl, lcL_all h H, bind_ok]
  rfl
theorem eLc_map {fi : RF (List D)} {g : D → DEnv → Option DEnv} {ft : RF Bool} {fe : EF} {vs : List Nat} {env : DEnv} {S S1 : Store} {l : List D} (h : D → Option D) (h1 : fi env S = .ok l S1) (hl : l.length ≤ lineN)
    (H : ∀ d ∈ l, ∃ env1, g d (wipeD env vs) = some env1 ∧ ((∃ y, ft env1 S1 = .ok true S1 ∧ fe env1 S1 = .ok y S1 ∧ h d = some y) ∨ (ft env1 S1 = .ok false S1 ∧ h d = none))) :
    eLc mkL fi g ft fe vs env S = .ok (.lst (l.filterMap h)) S1 := by
  unfold eLc
  rw [h1, bind_ok, if_pos hl, lcL_map h H, bind_ok]
  rfl
theorem eLc_grow {fi : RF (List D)} {g : D → DEnv → Option DEnv} {fe : EF} {vs : List Nat} {env : DEnv} {S S1 : Store} {l : List D} (h : D → D) (h1 : fi env S = .ok l S1) (hl : l.length ≤ lineN)
    (H : ∀ d ∈ l, ∃ env1, g d (wipeD env vs) = some env1 ∧ ∀ S2, S1 <+: S2 → ∃ S3, fe env1 S2 = .ok (h d) S3 ∧ S2 <+: S3) :
    ∃ S', eLc mkL fi g tYesD fe vs env S = .ok (.lst (l.map h)) S' ∧ S1 <+: S' := by
  obtain ⟨S', h2, h3⟩ := lcL_grow h H
  refine ⟨S', ?_, h3⟩
  unfold eLc
  rw [h1, bind_ok, if_pos hl, h2, bind_ok]
  rfl
theorem dBls_map (l : List Bool) : dBls (l.map D.bl) = some l := by
  induction l with
  | nil => rfl
  | cons b l ih => simp [dBls, ih]
theorem dInts_map (l : List Int) : dInts (l.map D.int) = some l := by
  induction l with
  | nil => rfl
  | cons b l ih => simp [dInts, ih]
end Z
namespace Z
theorem le_line {n : Nat} (h : n ≤ 1000000) : n ≤ lineN := Nat.le_trans h (by decide)
theorem lt_line {n : Nat} (h : n < 1000000) : n < lineN := Nat.lt_of_lt_of_le h (by decide)
theorem map_rep {α β : Type} {f : α → β} {b : β} : ∀ {l : List α}, (∀ a ∈ l, f a = b) → l.map f = List.replicate l.length b
  | [], _ => rfl
  | a :: l, h => by rw [List.map_cons, h a (List.mem_cons_self ..), map_rep fun c hc => h c (List.mem_cons_of_mem _ hc), List.length_cons, List.replicate_succ]
end Z
namespace Z
/-! evaluation, for simp -/
section
variable {env : DEnv} {S S' : Store} {f g : SF} {fe fa fb fc : EF} {x y d : D} {i j : Int}
def seqK (g : SF) : SRes → SRes
  | .nx e S => g e S
  | r => r
@[simp] theorem ev_seq : sSeq f g env S = seqK g (f env S) := by unfold sSeq seqK; cases f env S <;> rfl
@[simp] theorem seqK_nx {e : DEnv} : seqK g (.nx e S) = g e S := rfl
@[simp] theorem seqK_ret : seqK g (.ret d S) = .ret d S := rfl
@[simp] theorem seqK_exc {e : DEnv} {c ks ps} : seqK g (.exc e c ks ps S) = .exc e c ks ps S := rfl
@[simp] theorem ev_sE_ok {α : Type} {a : α} {k : α → Store → SRes} : sE (.ok a S) env k = k a S := rfl
@[simp] theorem ev_sE_exc {α : Type} {c ks ps} {k : α → Store → SRes} : sE (.exc c ks ps S) env k = .exc env c ks ps S := rfl
@[simp] theorem ev_ret : sRet fe env S = sE (fe env S) env fun d S => .ret d S := rfl
@[simp] theorem ev_nx : sNx env S = .nx env S := rfl
@[simp] theorem ev_drop : sDrop fe env S = sE (fe env S) env fun _ S => .nx env S := rfl
@[simp] theorem ev_sif {t : RF Bool} : sIf t f g env S = sE (t env S) env fun b S => if b = true then f env S else g env S := rfl
@[simp] theorem ev_asgN {n : Nat} : sAsg fe (tN n) env S = sE (fe env S) env fun d S => .nx (env.set n (some d)) S := rfl
@[simp] theorem ev_raise {c fld : PySem.Str} : sRaise c fld (aCons fe aNil) env S = sE (fe env S) env fun d S => .exc env c [fld] [d] S := by
  unfold sRaise aCons aNil
  cases fe env S <;> rfl
@[simp] theorem out_nx {e : DEnv} : outD (.nx e S) = .ok .non S := rfl
@[simp] theorem out_ret : outD (.ret d S) = .ok d S := rfl
@[simp] theorem out_exc {e : DEnv} {c ks ps} : outD (.exc e c ks ps S) = .exc c ks ps S := rfl
@[simp] theorem ev_var {n : Nat} (h : env[n]? = some (some d)) : eVar n env S = .ok d S := by unfold eVar; rw [h]
@[simp] theorem ev_k : eK d env S = .ok d S := rfl
@[simp] theorem ev_e1 {g : D → Store → Res D} : e1 g fa env S = (fa env S).bind fun x S => g x S := rfl
@[simp] theorem ev_e2 {g : D → D → Store → Res D} : e2 g fa fb env S = (fa env S).bind fun x S => (fb env S).bind fun y S => g x y S := rfl
@[simp] theorem ev_aNil : aNil env S = .ok [] S := rfl
@[simp] theorem ev_aCons {gs : RF (List D)} : aCons fe gs env S = (fe env S).bind fun x S => (gs env S).bind fun xs S => .ok (x :: xs) S := rfl
@[simp] theorem ev_cn {n : Nat} {F : CF} {gs : RF (List D)} : eCn n F gs env S = (gs env S).bind fun ds S => if ds.length = n then F ds S else .bad := rfl
@[simp] theorem ev_c {F : CF} {gs : RF (List D)} : eC F gs env S = (gs env S).bind fun ds S => F ds S := rfl
@[simp] theorem ev_and : eAnd fa fb env S = (fa env S).bind fun x S => match x with
  | .bl true => fb env S
  | .bl false => .ok (.bl false) S
  | _ => .bad := rfl
@[simp] theorem ev_or : eOr fa fb env S = (fa env S).bind fun x S => match x with
  | .bl false => fb env S
  | .bl true => .ok (.bl true) S
  | _ => .bad := rfl
@[simp] theorem ev_tand {a b : RF Bool} : tAndD a b env S = (a env S).bind fun x S => if x = true then b env S else .ok false S := rfl
@[simp] theorem ev_tor {a b : RF Bool} : tOrD a b env S = (a env S).bind fun x S => if x = true then .ok true S else b env S := rfl
@[simp] theorem ev_tnot {a : RF Bool} : tNotD a env S = (a env S).bind fun x S => .ok (!x) S := rfl
@[simp] theorem ev_tst : tst fe env S = (fe env S).bind fun x S => match x with
  | .bl b => .ok b S
  | _ => .bad := rfl
@[simp] theorem ev_if {α : Type} {t : RF Bool} {a b : RF α} : eIf t a b env S = (t env S).bind fun x S => if x = true then a env S else b env S := rfl
@[simp] theorem ev_not {b : Bool} : gNot (.bl b) S = .ok (.bl (!b)) S := rfl
@[simp] theorem ev_neg : gNeg (.int i) S = .ok (.int (-i)) S := rfl
@[simp] theorem ev_sub : gSub (.int i) (.int j) S = .ok (.int (i - j)) S := rfl
@[simp] theorem ev_lt : gLt (.int i) (.int j) S = .ok (.bl (decide (i < j))) S := rfl
@[simp] theorem ev_le : gLe (.int i) (.int j) S = .ok (.bl (decide (i ≤ j))) S := rfl
@[simp] theorem ev_gt : gGt (.int i) (.int j) S = .ok (.bl (decide (j < i))) S := rfl
@[simp] theorem ev_ge : gGe (.int i) (.int j) S = .ok (.bl (decide (j ≤ i))) S := rfl
@[simp] theorem ev_addI {mk : MkF} : gAdd mk (.int i) (.int j) S = .ok (.int (i + j)) S := rfl
theorem ev_mulI {mk : MkF} (h : i.natAbs.log2 + j.natAbs.log2 < 1000000) : gMul mk (.int i) (.int j) S = .ok (.int (i * j)) S := if_pos h
theorem ev_mod (h : j ≠ 0) : gMod (.int i) (.int j) S = .ok (.int (i.fmod j)) S := if_pos (decide_eq_true h)
theorem ev_div (h : 0 < j) (h2 : j.natAbs.log2 < 9000) : gDiv (.int i) (.int j) S = .ok (.int (i / j)) S := if_pos (decide_eq_true ⟨h, h2⟩)
theorem ev_pow (h : 0 ≤ j ∧ j ≤ 1000000 ∧ i.natAbs < 2 ^ 64) : gPow (.int i) (.int j) S = .ok (.int (i ^ j.toNat)) S := if_pos (decide_eq_true h)
@[simp] theorem ev_isN {neg : Bool} : gIsN neg d S = .ok (.bl (neg != isNon d)) S := rfl
@[simp] theorem ev_isB {b c : Bool} : gIsB b (.bl c) S = .ok (.bl (decide (c = b))) S := rfl
@[simp] theorem ev_int1 : gInt1 [.int i] S = .ok (.int i) S := rfl
@[simp] theorem ev_max2 : gMax2 [.int i, .int j] S = .ok (.int (if j > i then j else i)) S := rfl
@[simp] theorem ev_min2 : gMin2 [.int i, .int j] S = .ok (.int (if j < i then j else i)) S := rfl
@[simp] theorem ev_bool {b : Bool} : gBool [.bl b] S = .ok (.bl b) S := rfl
@[simp] theorem ev_lenT {l : List D} : gLen [.tup l] S = .ok (.int l.length) S := rfl
@[simp] theorem ev_lenL {l : List D} : gLen [.lst l] S = .ok (.int l.length) S := rfl
@[simp] theorem ev_tupT {l : List D} : gTuple [.tup l] S = .ok (.tup l) S := rfl
@[simp] theorem ev_tupL {l : List D} : gTuple [.lst l] S = .ok (.tup l) S := rfl
@[simp] theorem ev_listT {mk : MkF} {l : List D} : gList mk [.tup l] S = mk l S := rfl
@[simp] theorem ev_listL {mk : MkF} {l : List D} : gList mk [.lst l] S = mk l S := rfl
@[simp] theorem ev_mkL {l : List D} : mkL l S = .ok (.lst l) S := rfl
@[simp] theorem ev_mkC {l : List D} : mkC l S = .ok (.cell S.length) (S ++ [some (.lst l)]) := rfl
@[simp] theorem ev_all {bs : List Bool} : gAll [.lst (bs.map D.bl)] S = .ok (.bl (bs.all id)) S := by
  show (match rdB S (.lst (bs.map D.bl)) with | some bs => _ | none => _) = _
  simp only [rdB, rd, dBls_map]
@[simp] theorem ev_any {bs : List Bool} : gAny [.lst (bs.map D.bl)] S = .ok (.bl (bs.any id)) S := by
  show (match rdB S (.lst (bs.map D.bl)) with | some bs => _ | none => _) = _
  simp only [rdB, rd, dBls_map]
@[simp] theorem ev_sum {ns : List Int} : gSum [.lst (ns.map D.int)] S = .ok (.int ns.sum) S := by
  show (match rdI S (.lst (ns.map D.int)) with | some bs => _ | none => _) = _
  simp only [rdI, rd, dInts_map]
theorem ev_maxL {ns : List Int} {n : Int} : gMaxL [.lst ((n :: ns).map D.int)] S = .ok (.int (ns.foldl max n)) S := by
  show (match rdI S (.lst ((n :: ns).map D.int)) with | some bs => _ | none => _) = _
  simp only [rdI, rd, dInts_map, maxI]
@[simp] theorem ev_tup {gs : RF (List D)} : eTup gs env S = (gs env S).bind fun xs S => if xs.length ≤ lineN then .ok (.tup xs) S else .bad := rfl
@[simp] theorem ev_lst {mk : MkF} {gs : RF (List D)} : eLst mk gs env S = (gs env S).bind fun xs S => if xs.length ≤ lineN then mk xs S else .bad := rfl
@[simp] theorem ev_chain : e3c gLe gLe fa fb fc env S = (fa env S).bind fun x S => (fb env S).bind fun y S => (gLe x y S).bind fun k S => match k with
  | .bl true => (fc env S).bind fun z S => gLe y z S
  | .bl false => .ok (.bl false) S
  | _ => .bad := rfl
@[simp] theorem ev_oYes : oYes fe env S = (fe env S).bind fun x S => match x with
  | .int i => .ok (some i) S
  | _ => .bad := rfl
@[simp] theorem ev_oNo : oNo env S = .ok none S := rfl
@[simp] theorem ev_sl {mk : MkF} {fl fh : RF (Option Int)} : eSl mk fa fl fh env S = (fa env S).bind fun x S => (fl env S).bind fun lo S => (fh env S).bind fun hi S => gSl mk x lo hi S := rfl
@[simp] theorem ev_slT {mk : MkF} {l : List D} {lo hi : Option Int} : gSl mk (.tup l) lo hi S = .ok (.tup (cutD l lo hi)) S := rfl
@[simp] theorem ev_slL {mk : MkF} {l : List D} {lo hi : Option Int} : gSl mk (.lst l) lo hi S = mk (cutD l lo hi) S := rfl
theorem ev_ixT {l : List D} {i : Int} {d : D} (h : L2.atI l i = some d) : gIx (.tup l) (.int i) S = .ok d S := by
  unfold gIx
  simp only [rd, h]
theorem ev_ixL {l : List D} {i : Int} {d : D} (h : L2.atI l i = some d) : gIx (.lst l) (.int i) S = .ok d S := by
  unfold gIx
  simp only [rd, h]
@[simp] theorem ev_iSeqT {l : List D} (h : fe env S = .ok (.tup l) S') : iSeq fe env S = .ok l S' := by unfold iSeq; rw [h]; rfl
@[simp] theorem ev_iSeqL {l : List D} (h : fe env S = .ok (.lst l) S') : iSeq fe env S = .ok l S' := by unfold iSeq; rw [h]; rfl
@[simp] theorem ev_iSeqR {l : List D} (h : fe env S = .ok (.rol l) S') : iSeq fe env S = .ok l S' := by unfold iSeq; rw [h]; rfl
@[simp] theorem ev_dfn {n : Nat} {f : SF} {ds : List D} : dfn n f ds S = outD (f (ds.map some ++ List.replicate (n - ds.length) none) S) := rfl
@[simp] theorem ev_noX_ok {α : Type} {a : α} : (Res.ok a S).noX = .ok a S := rfl
theorem atI_of {l : List D} {n : Nat} (h : n < l.length) : L2.atI l (n : Int) = some l[n] := by
  unfold L2.atI L2.ixN
  simp [h]
end
end Z
namespace Z
theorem atI_last {α : Type} {l : List α} (h : l ≠ []) : L2.atI l (-1) = some (l.getLast h) := by
  have hl : 0 < l.length := List.length_pos_iff.mpr h
  unfold L2.atI L2.ixN
  have e : (-1 + (l.length : Int)).toNat = l.length - 1 := by omega
  rw [if_neg (by omega), if_pos (by omega), Option.bind_some, e, List.getLast_eq_getElem, List.getElem?_eq_getElem]
theorem cut_from {l : List D} (n : Nat) (h : n ≤ l.length) : cutD l (some (n : Int)) none = l.drop n := by
  unfold cutD
  rw [HT.sIx_nat, HT.sIx_none, Nat.min_eq_left h, List.take_of_length_le (by rw [List.length_drop]; exact Nat.le_refl _)]
theorem cut_to {l : List D} (n : Nat) : cutD l none (some (n : Int)) = l.take n := by
  unfold cutD
  rw [HT.sIx_nat, HT.sIx_none, List.drop_zero, Nat.sub_zero]
  rcases Nat.le_total n l.length with h | h
  · rw [Nat.min_eq_left h]
  · rw [Nat.min_eq_right h, List.take_of_length_le (Nat.le_refl _), List.take_of_length_le h]
theorem iRng1_ok {fs : RF (List D)} {env : DEnv} {S S' : Store} {n : Nat} (h : fs env S = .ok [.int (n : Int)] S') (hn : n ≤ 1000000) : iRng1 fs env S = .ok (rngD 0 n) S' := by
  unfold iRng1
  rw [h, bind_ok]
  show (if (n : Int).natAbs < 2 ^ 62 then _ else _) = _
  rw [if_pos (by omega), Int.toNat_natCast]
theorem iRng2_ok {fs : RF (List D)} {env : DEnv} {S S' : Store} {i j : Int} (h : fs env S = .ok [.int i, .int j] S') (h1 : i.natAbs ≤ 1000000) (h2 : j.natAbs ≤ 1000000) : iRng2 fs env S = .ok (rngD i (j - i).toNat) S' := by
  unfold iRng2
  rw [h, bind_ok]
  show (if _ then _ else _) = _
  rw [if_pos ⟨by omega, by omega⟩]
theorem rngD_len (i : Int) (n : Nat) : (rngD i n).length = n := by simp [rngD]
theorem mem_rngD {i : Int} {n : Nat} {d : D} (h : d ∈ rngD i n) : ∃ k, k < n ∧ d = .int (i + (k : Nat)) := by
  unfold rngD at h
  obtain ⟨k, hk, rfl⟩ := List.mem_map.mp h
  exact ⟨k, List.mem_range.mp hk, rfl⟩
theorem map_rng (i : Int) (n : Nat) (d : D) : (rngD i n).map (fun _ => d) = List.replicate n d := by rw [map_rep (b := d) fun _ _ => rfl, rngD_len]
theorem map_cst {α : Type} (l : List α) (d : D) : l.map (fun _ => d) = List.replicate l.length d := map_rep fun _ _ => rfl
theorem rep_bl (n : Nat) (b : Bool) : (List.replicate n b).map D.bl = List.replicate n (D.bl b) := by rw [List.map_replicate]
theorem rep_all (n : Nat) : (List.replicate n true).all id = true := by simp
end Z
namespace Z
theorem lcA_map {α : Type} {g : D → DEnv → Option DEnv} {ft : RF Bool} {fe : EF} {env : DEnv} {S : Store} (f : α → D) (h : α → Option D) : ∀ {l : List α}, (∀ a ∈ l, ∃ env1, g (f a) env = some env1 ∧ ((∃ y, ft env1 S = .ok true S ∧ fe env1 S = .ok y S ∧ h a = some y) ∨ (ft env1 S = .ok false S ∧ h a = none))) → lcL g ft fe env (l.map f) S = .ok (l.filterMap h) S
  | [], _ => rfl
  | d :: ds, H => by
    obtain ⟨env1, h1, h2⟩ := H d (List.mem_cons_self ..)
    have ih := lcA_map (l := ds) f h fun e he => H e (List.mem_cons_of_mem _ he)
    rw [List.map_cons]
    unfold lcL
    rw [h1]
    rcases h2 with ⟨y, a, b, c⟩ | ⟨a, c⟩
    · show ((ft env1 S).noX.bind fun b S => _) = _
      rw [a, noX_ok, bind_ok, if_pos rfl, b, noX_ok, bind_ok, ih, bind_ok, List.filterMap_cons, c]
    · show ((ft env1 S).noX.bind fun b S => _) = _
      rw [a, noX_ok, bind_ok, if_neg (by decide), ih, List.filterMap_cons, c]
theorem lcA_grow {α : Type} {g : D → DEnv → Option DEnv} {fe : EF} {env : DEnv} (f h : α → D) : ∀ {l : List α} {S : Store}, (∀ a ∈ l, ∃ env1, g (f a) env = some env1 ∧ ∀ S1, S <+: S1 → ∃ S2, fe env1 S1 = .ok (h a) S2 ∧ S1 <+: S2) → ∃ S', lcL g tYesD fe env (l.map f) S = .ok (l.map h) S' ∧ S <+: S'
  | [], S, _ => ⟨S, rfl, List.prefix_refl _⟩
  | d :: ds, S, H => by
    obtain ⟨env1, h1, h2⟩ := H d (List.mem_cons_self ..)
    obtain ⟨S2, h3, h4⟩ := h2 S (List.prefix_refl _)
    obtain ⟨S', h5, h6⟩ := lcA_grow (l := ds) (S := S2) f h fun e he => by
      obtain ⟨env1, q1, q2⟩ := H e (List.mem_cons_of_mem _ he)
      exact ⟨env1, q1, fun S1 hS => q2 S1 (h4.trans hS)⟩
    refine ⟨S', ?_, h4.trans h6⟩
    rw [List.map_cons]
    unfold lcL
    rw [h1]
    show ((tYesD env1 S).noX.bind fun b S => _) = _
    rw [show tYesD env1 S = .ok true S from rfl, noX_ok, bind_ok, if_pos rfl, h3, noX_ok, bind_ok, h5, bind_ok, List.map_cons]
theorem eLcA_map {α : Type} {fi : RF (List D)} {g : D → DEnv → Option DEnv} {ft : RF Bool} {fe : EF} {vs : List Nat} {env : DEnv} {S S1 : Store} {l : List α} (f : α → D) (h : α → Option D) (h1 : fi env S = .ok (l.map f) S1) (hl : l.length ≤ 1000000)
    (H : ∀ d ∈ l, ∃ env1, g (f d) (wipeD env vs) = some env1 ∧ ((∃ y, ft env1 S1 = .ok true S1 ∧ fe env1 S1 = .ok y S1 ∧ h d = some y) ∨ (ft env1 S1 = .ok false S1 ∧ h d = none))) :
    eLc mkL fi g ft fe vs env S = .ok (.lst (l.filterMap h)) S1 := by
  unfold eLc
  rw [h1, bind_ok, if_pos (le_line (by rw [List.length_map]; exact hl)), lcA_map f h H, bind_ok]
  rfl
theorem eLcA_all {α : Type} {fi : RF (List D)} {g : D → DEnv → Option DEnv} {fe : EF} {vs : List Nat} {env : DEnv} {S S1 : Store} {l : List α} (f h : α → D) (h1 : fi env S = .ok (l.map f) S1) (hl : l.length ≤ 1000000) (H : ∀ d ∈ l, ∃ env1, g (f d) (wipeD env vs) = some env1 ∧ fe env1 S1 = .ok (h d) S1) :
    eLc mkL fi g tYesD fe vs env S = .ok (.lst (l.map h)) S1 := by
  rw [eLcA_map f (fun a => some (h a)) h1 hl fun a ha => by
    obtain ⟨env1, q1, q2⟩ := H a ha
    exact ⟨env1, q1, .inl ⟨_, rfl, q2, rfl⟩⟩, fm_some]
theorem eLcA_grow {α : Type} {fi : RF (List D)} {g : D → DEnv → Option DEnv} {fe : EF} {vs : List Nat} {env : DEnv} {S S1 : Store} {l : List α} (f h : α → D) (h1 : fi env S = .ok (l.map f) S1) (hl : l.length ≤ 1000000)
    (H : ∀ d ∈ l, ∃ env1, g (f d) (wipeD env vs) = some env1 ∧ ∀ S2, S1 <+: S2 → ∃ S3, fe env1 S2 = .ok (h d) S3 ∧ S2 <+: S3) :
    ∃ S', eLc mkL fi g tYesD fe vs env S = .ok (.lst (l.map h)) S' ∧ S1 <+: S' := by
  obtain ⟨S', h2, h3⟩ := lcA_grow f h H
  refine ⟨S', ?_, h3⟩
  unfold eLc
  rw [h1, bind_ok, if_pos (le_line (by rw [List.length_map]; exact hl)), h2, bind_ok]
  rfl
theorem beqI (i j : Int) : (i == j) = decide (i = j) := by
  by_cases h : i = j <;> simp [h]
@[simp] theorem ev_eqI {i j : Int} {S : Store} : gEq (.int i) (.int j) S = .ok (.bl (decide (i = j))) S := by
  simp [gEqB, toPC, toP, PySem.SeqAt.shaped, PySem.PyData.canLay0, PySem.PyData.depth, PySem.PyData.eqv, beqI]
@[simp] theorem ev_neI {i j : Int} {S : Store} : gNe (.int i) (.int j) S = .ok (.bl (!decide (i = j))) S := by
  simp [gEqB, toPC, toP, PySem.SeqAt.shaped, PySem.PyData.canLay0, PySem.PyData.depth, PySem.PyData.eqv, beqI]
@[simp] theorem ev_neB {i j : Bool} {S : Store} : gNe (.bl i) (.bl j) S = .ok (.bl (!(i == j))) S := by
  simp [gEqB, toPC, toP, PySem.SeqAt.shaped, PySem.PyData.canLay0, PySem.PyData.depth, PySem.PyData.eqv]
theorem ev_eqS {i j : PySem.Str} {S : Store} (h1 : PySem.PyData.strOk i = true) (h2 : PySem.PyData.strOk j = true) : gEq (.str i) (.str j) S = .ok (.bl (i == j)) S := by
  simp [gEqB, toPC, toP, PySem.SeqAt.shaped, PySem.PyData.canLay0, PySem.PyData.depth, PySem.PyData.eqv, h1, h2]
open PySem in
mutual
theorem eqv_self : ∀ p : PyData, p.canLay0 = true → PyData.eqv p p = true
  | .none, _ => by simp [PyData.eqv]
  | .bool _, _ => by simp [PyData.eqv]
  | .int _, _ => by simp [PyData.eqv]
  | .str _, _ => by simp [PyData.eqv]
  | .list xs, h => by rw [PyData.eqv]; exact eqvAll_self xs (by simpa [PyData.canLay0] using h)
  | .tuple xs, h => by rw [PyData.eqv]; exact eqvAll_self xs (by simpa [PyData.canLay0] using h)
  | .dict _, h => by simp [PyData.canLay0] at h
theorem eqvAll_self : ∀ ps : List PyData, PyData.canLayAll0 ps = true → PyData.eqvAll ps ps = true
  | [], _ => by simp [PyData.eqvAll]
  | p :: ps, h => by
    have h2 : p.canLay0 = true ∧ PyData.canLayAll0 ps = true := by simpa [PyData.canLayAll0] using h
    rw [PyData.eqvAll, eqv_self p h2.1, eqvAll_self ps h2.2]
    rfl
end
/-- data that are told alike: no instances, no cells, so deep at most -/
def nice : Nat → D → Bool
  | 0, _ => false
  | n + 1, d => match d with
    | .non | .bl _ | .int _ => true
    | .str s => PySem.PyData.strOk s
    | .tup l | .lst l => decide (l.length ≤ 1000000) && l.all (nice n)
    | _ => false
end Z
namespace Z
theorem ev_addT {mk : MkF} {l m : List D} {S : Store} (h : l.length + m.length ≤ 1000000) : gAdd mk (.tup l) (.tup m) S = .ok (.tup (l ++ m)) S := if_pos (le_line h)
theorem ev_addL {mk : MkF} {l m : List D} {S : Store} (h : l.length + m.length ≤ 1000000) : gAdd mk (.lst l) (.lst m) S = mk (l ++ m) S := if_pos (le_line h)
theorem ev_hear_ok {sb excs cs} {fb : EF} {env : DEnv} {S S' : Store} {d : D} (h : fb env S = .ok d S') : eHear sb excs cs fb env S = .ok (.tup [.str "told", d]) S' := by unfold eHear; rw [h]
theorem ev_hear_exc {sb excs cs} {fb : EF} {env : DEnv} {S S' : Store} {c ks ps} {d : D} (h : fb env S = .exc c ks ps S') (hc : c ∈ excs) (hd : hearD sb c ks ps cs = some d) : eHear sb excs cs fb env S = .ok d S' := by
  unfold eHear
  rw [h]
  simp only [hc, if_true, hd]
theorem grow1 (S : Store) (x : Option MO) : S <+: S ++ [x] := List.prefix_append _ _
end Z
namespace Z
open PySem in
theorem nice_toP (S : Store) : ∀ (n : Nat) (d : D), nice n d = true → ∃ p, toP S d = some p ∧ p.canLay0 = true ∧ p.depth ≤ n
  | 0, d, h => by cases h
  | n + 1, d, h => by
    have many : ∀ l : List D, (∀ x ∈ l, nice n x = true) → ∃ ps, toPs S l = some ps ∧ PyData.canLayAll0 ps = true ∧ PyData.depthAll ps ≤ n ∧ ps.length = l.length := by
      intro l
      induction l with
      | nil => exact fun _ => ⟨[], by simp [toPs], by simp [PyData.canLayAll0], by simp [PyData.depthAll], rfl⟩
      | cons x l ih =>
        intro hx
        obtain ⟨p, h1, h2, h3⟩ := nice_toP S n x (hx x (List.mem_cons_self ..))
        obtain ⟨ps, h4, h5, h6, h7⟩ := ih fun y hy => hx y (List.mem_cons_of_mem _ hy)
        refine ⟨p :: ps, by simp [toPs, h1, h4], by simp [PyData.canLayAll0, h2, h5], ?_, by simp [h7]⟩
        simp [PyData.depthAll]
        omega
    cases d with
    | non => exact ⟨.none, rfl, rfl, by simp [PyData.depth]⟩
    | bl b => exact ⟨.bool b, rfl, rfl, by simp [PyData.depth]⟩
    | int i => exact ⟨.int i, rfl, rfl, by simp [PyData.depth]⟩
    | str x => exact ⟨.str x, rfl, by
      have h : PyData.strOk x = true := h
      simpa [PyData.canLay0] using h, by simp [PyData.depth]⟩
    | tup l =>
      have h2 : (decide (l.length ≤ 1000000) && l.all (nice n)) = true := h
      simp only [Bool.and_eq_true, decide_eq_true_eq, List.all_eq_true] at h2
      obtain ⟨ps, h3, h4, h5, h6⟩ := many l h2.2
      exact ⟨.tuple ps, by simp [toP, h3], by simpa [PyData.canLay0] using h4, by simp [PyData.depth]; omega⟩
    | lst l =>
      have h2 : (decide (l.length ≤ 1000000) && l.all (nice n)) = true := h
      simp only [Bool.and_eq_true, decide_eq_true_eq, List.all_eq_true] at h2
      obtain ⟨ps, h3, h4, h5, h6⟩ := many l h2.2
      exact ⟨.list ps, by simp [toP, h3], by simpa [PyData.canLay0] using h4, by simp [PyData.depth]; omega⟩
    | _ => cases h
theorem toPC_of {S : Store} {d : D} {p : PySem.PyData} (h : toP S d = some p) : toPC S d = some p := by
  cases d <;> first | exact h | (simp [toP] at h)
theorem eq_nice {n : Nat} {d : D} (h : nice n d = true) (hn : n ≤ 64) (neg : Bool) (S : Store) : gEqB neg d d S = .ok (.bl (!neg)) S := by
  obtain ⟨p, h1, h2, h3⟩ := nice_toP S n d h
  unfold gEqB
  rw [toPC_of h1]
  have hs : PySem.SeqAt.shaped p = true := by simp [PySem.SeqAt.shaped, h2]; omega
  simp only [hs, and_self, if_true, eqv_self p h2]
  cases neg <;> rfl
/-- a list against the empty one -/
theorem eq_nilL {n : Nat} {l : List D} (h : nice n (.lst l) = true) (hn : n ≤ 64) (neg : Bool) (S : Store) : gEqB neg (.lst l) (.lst []) S = .ok (.bl (neg != l.isEmpty)) S := by
  obtain ⟨p, h1, h2, h3⟩ := nice_toP S n _ h
  have hs : PySem.SeqAt.shaped p = true := by simp [PySem.SeqAt.shaped, h2]; omega
  have h0 : PySem.SeqAt.shaped (.list []) = true := by decide
  unfold gEqB
  rw [toPC_of h1]
  simp only [toPC, toP, toPs, Option.map_some, hs, h0, and_self, if_true]
  cases l with
  | nil =>
    simp [toP, toPs] at h1
    subst h1
    simp [PySem.PyData.eqv, PySem.PyData.eqvAll]
  | cons x l =>
    simp only [toP, toPs] at h1
    cases z : toP S x with
    | none => rw [z] at h1; simp at h1
    | some q =>
      cases z2 : toPs S l with
      | none => rw [z, z2] at h1; simp at h1
      | some qs =>
        rw [z, z2] at h1
        simp at h1
        subst h1
        simp [PySem.PyData.eqv, PySem.PyData.eqvAll]
end Z
end
section
set_option Elab.async false
set_option linter.all false
set_option maxRecDepth 100000
set_option maxHeartbeats 4000000
namespace ZL
open PySem PySem.Spec PyProof.Rows
open L2 Z
def top (i : Nat) : Stmt := PySem.Challenge.pw_poolupto_k66_sums_cuts_and_shares_of_cre.main.body.getD i (.Pass ⟨0, 0, 0, 0⟩)
def cst (i j : Nat) : Stmt := (clsB (top i)).getD j (.Pass ⟨0, 0, 0, 0⟩)
abbrev FnAt (K : PySem.W.Frag) (x q : Str) (st : Stmt) (f : Addr) : Prop := ∃ fd, FunD K x q (defArgs st) (defBody st) (defScope st) [] [] f fd
def isSb : Str → Str → Bool := fun _ _ => false
def isTg : List Tag := [.b "NoneType", .b "bool", .b "int", .b "str", .b "tuple", .b "list", .o "Crew"]
def isAs : List Tag := [.b "bool", .b "int", .b "list", .b "str", .b "tuple", .o "Crew"]
def subE : List (Str × Str) := [("InvalidCrew", "SafeError"), ("InvalidNumber", "SafeError")]
def isSbE : Str → Str → Bool := fun c d => c == d || subE.contains (c, d)
def isEx : List Str := ["InvalidCrew", "InvalidNumber", "TooMany"]
def fl : List (Str × Str) := [("Crew", "own_kinds")]
abbrev file0 : Str := "/claim/cut.py"
def i_InvalidCrew : IniZ := ⟨"InvalidCrew", "value", "ValueError", "ValueError.__new__", "ValueError.__init__", Zx.bmV, "InvalidCrew.__init__", defArgs (cst 9 0), defBody (cst 9 0), defScope (cst 9 0)⟩
def i_InvalidNumber : IniZ := ⟨"InvalidNumber", "value", "ValueError", "ValueError.__new__", "ValueError.__init__", Zx.bmV, "InvalidNumber.__init__", defArgs (cst 6 0), defBody (cst 6 0), defScope (cst 6 0)⟩
def i_TooMany : IniZ := ⟨"TooMany", "limit", "OverflowError", "OverflowError.__new__", "OverflowError.__init__", Zx.bmO, "TooMany.__init__", defArgs (cst 7 0), defBody (cst 7 0), defScope (cst 7 0)⟩
def cl__law_heard : List Cla := [⟨"InvalidCrew", "InvalidCrew", (some "value")⟩, ⟨"InvalidNumber", "InvalidNumber", (some "value")⟩, ⟨"TooMany", "TooMany", (some "limit")⟩]
structure Txt (Z : Wd) : Prop where
  kt : KitT Z.K isSb isTg isAs
  fk : FldK Z.K fl
  pf : Z.P.main.file = file0
  pt : (Z.P.main.scope.names.lookup ("super" : Str)).isSome = false
  n_all : Z.mg "all" = none
  n_any : Z.mg "any" = none
  n_bool : Z.mg "bool" = none
  n_int : Z.mg "int" = none
  n_isinstance : Z.mg "isinstance" = none
  n_len : Z.mg "len" = none
  n_list : Z.mg "list" = none
  n_max : Z.mg "max" = none
  n_min : Z.mg "min" = none
  n_range : Z.mg "range" = none
  n_str : Z.mg "str" = none
  n_sum : Z.mg "sum" = none
  n_super : Z.mg "super" = none
  n_tuple : Z.mg "tuple" = none
  g_MOST_ENTRIES : ∃ t, Z.mg "MOST_ENTRIES" = some (.int 41 t)
  g_MOST_KINDS : ∃ t, Z.mg "MOST_KINDS" = some (.int 3 t)
  g_MOST_MANY : ∃ t, Z.mg "MOST_MANY" = some (.int 1000000000000000000000000000000 t)
  g_MOST_OFFICES : ∃ t, Z.mg "MOST_OFFICES" = some (.int 1000 t)
  f_is_integer : FnAt Z.K "is_integer" "is_integer" (top 1) (He.ga Z.K "is_integer")
  g_is_integer : Z.mg "is_integer" = some (.ref (He.ga Z.K "is_integer"))
  f_is_between : FnAt Z.K "is_between" "is_between" (top 2) (He.ga Z.K "is_between")
  g_is_between : Z.mg "is_between" = some (.ref (He.ga Z.K "is_between"))
  f_is_many : FnAt Z.K "is_many" "is_many" (top 19) (He.ga Z.K "is_many")
  g_is_many : Z.mg "is_many" = some (.ref (He.ga Z.K "is_many"))
  f_least_of : FnAt Z.K "least_of" "least_of" (top 15) (He.ga Z.K "least_of")
  g_least_of : Z.mg "least_of" = some (.ref (He.ga Z.K "least_of"))
  f_is_values : FnAt Z.K "is_values" "is_values" (top 18) (He.ga Z.K "is_values")
  g_is_values : Z.mg "is_values" = some (.ref (He.ga Z.K "is_values"))
  f_is_kind : FnAt Z.K "is_kind" "is_kind" (top 20) (He.ga Z.K "is_kind")
  g_is_kind : Z.mg "is_kind" = some (.ref (He.ga Z.K "is_kind"))
  f_is_row : FnAt Z.K "is_row" "is_row" (top 3) (He.ga Z.K "is_row")
  g_is_row : Z.mg "is_row" = some (.ref (He.ga Z.K "is_row"))
  f_quota_of : FnAt Z.K "quota_of" "quota_of" (top 16) (He.ga Z.K "quota_of")
  g_quota_of : Z.mg "quota_of" = some (.ref (He.ga Z.K "quota_of"))
  f_span_of : FnAt Z.K "span_of" "span_of" (top 17) (He.ga Z.K "span_of")
  g_span_of : Z.mg "span_of" = some (.ref (He.ga Z.K "span_of"))
  f__law_facts : FnAt Z.K "_law_facts" "_law_facts" (top 35) (He.ga Z.K "_law_facts")
  g__law_facts : Z.mg "_law_facts" = some (.ref (He.ga Z.K "_law_facts"))
  f__law_heard_cut : FnAt Z.K "_law_heard_cut" "_law_heard_cut" (top 38) (He.ga Z.K "_law_heard_cut")
  g__law_heard_cut : Z.mg "_law_heard_cut" = some (.ref (He.ga Z.K "_law_heard_cut"))
  f__law_pc_least : FnAt Z.K "_law_pc_least" "_law_pc_least" (top 29) (He.ga Z.K "_law_pc_least")
  g__law_pc_least : Z.mg "_law_pc_least" = some (.ref (He.ga Z.K "_law_pc_least"))
  f__law_pc_quota : FnAt Z.K "_law_pc_quota" "_law_pc_quota" (top 30) (He.ga Z.K "_law_pc_quota")
  g__law_pc_quota : Z.mg "_law_pc_quota" = some (.ref (He.ga Z.K "_law_pc_quota"))
  f__law_pc_sums : FnAt Z.K "_law_pc_sums" "_law_pc_sums" (top 31) (He.ga Z.K "_law_pc_sums")
  g__law_pc_sums : Z.mg "_law_pc_sums" = some (.ref (He.ga Z.K "_law_pc_sums"))
  f__law_owed : FnAt Z.K "_law_owed" "_law_owed" (top 36) (He.ga Z.K "_law_owed")
  g__law_owed : Z.mg "_law_owed" = some (.ref (He.ga Z.K "_law_owed"))
  f__law_with : FnAt Z.K "_law_with" "_law_with" (top 43) (He.ga Z.K "_law_with")
  g__law_with : Z.mg "_law_with" = some (.ref (He.ga Z.K "_law_with"))
  f__law_yq_is_whole : FnAt Z.K "_law_yq_is_whole" "_law_yq_is_whole" (top 27) (He.ga Z.K "_law_yq_is_whole")
  g__law_yq_is_whole : Z.mg "_law_yq_is_whole" = some (.ref (He.ga Z.K "_law_yq_is_whole"))
  f__law_yq_same : FnAt Z.K "_law_yq_same" "_law_yq_same" (top 28) (He.ga Z.K "_law_yq_same")
  g__law_yq_same : Z.mg "_law_yq_same" = some (.ref (He.ga Z.K "_law_yq_same"))
  f__law_cuts_right : FnAt Z.K "_law_cuts_right" "_law_cuts_right" (top 44) (He.ga Z.K "_law_cuts_right")
  g__law_cuts_right : Z.mg "_law_cuts_right" = some (.ref (He.ga Z.K "_law_cuts_right"))
  f__law_heard_crew : FnAt Z.K "_law_heard_crew" "_law_heard_crew" (top 37) (He.ga Z.K "_law_heard_crew")
  g__law_heard_crew : Z.mg "_law_heard_crew" = some (.ref (He.ga Z.K "_law_heard_crew"))
  f__law_heard_less : FnAt Z.K "_law_heard_less" "_law_heard_less" (top 42) (He.ga Z.K "_law_heard_less")
  g__law_heard_less : Z.mg "_law_heard_less" = some (.ref (He.ga Z.K "_law_heard_less"))
  f_look_at_many : FnAt Z.K "look_at_many" "look_at_many" (top 21) (He.ga Z.K "look_at_many")
  g_look_at_many : Z.mg "look_at_many" = some (.ref (He.ga Z.K "look_at_many"))
  f__law_heard_many : FnAt Z.K "_law_heard_many" "_law_heard_many" (top 40) (He.ga Z.K "_law_heard_many")
  g__law_heard_many : Z.mg "_law_heard_many" = some (.ref (He.ga Z.K "_law_heard_many"))
  f__law_manies_right : FnAt Z.K "_law_manies_right" "_law_manies_right" (top 46) (He.ga Z.K "_law_manies_right")
  g__law_manies_right : Z.mg "_law_manies_right" = some (.ref (He.ga Z.K "_law_manies_right"))
  f__law_heard_more : FnAt Z.K "_law_heard_more" "_law_heard_more" (top 41) (He.ga Z.K "_law_heard_more")
  g__law_heard_more : Z.mg "_law_heard_more" = some (.ref (He.ga Z.K "_law_heard_more"))
  f__law_take : FnAt Z.K "_law_take" "_law_take" (top 25) (He.ga Z.K "_law_take")
  g__law_take : Z.mg "_law_take" = some (.ref (He.ga Z.K "_law_take"))
  f__law_one : FnAt Z.K "_law_one" "_law_one" (top 26) (He.ga Z.K "_law_one")
  g__law_one : Z.mg "_law_one" = some (.ref (He.ga Z.K "_law_one"))
  f__law_pc_drawn_values : FnAt Z.K "_law_pc_drawn_values" "_law_pc_drawn_values" (top 32) (He.ga Z.K "_law_pc_drawn_values")
  g__law_pc_drawn_values : Z.mg "_law_pc_drawn_values" = some (.ref (He.ga Z.K "_law_pc_drawn_values"))
  f__law_more_right : FnAt Z.K "_law_more_right" "_law_more_right" (top 47) (He.ga Z.K "_law_more_right")
  g__law_more_right : Z.mg "_law_more_right" = some (.ref (He.ga Z.K "_law_more_right"))
  f__law_pc_drawn : FnAt Z.K "_law_pc_drawn" "_law_pc_drawn" (top 33) (He.ga Z.K "_law_pc_drawn")
  g__law_pc_drawn : Z.mg "_law_pc_drawn" = some (.ref (He.ga Z.K "_law_pc_drawn"))
  f__law_pool : FnAt Z.K "_law_pool" "_law_pool" (top 24) (He.ga Z.K "_law_pool")
  g__law_pool : Z.mg "_law_pool" = some (.ref (He.ga Z.K "_law_pool"))
  f__law_heard_share : FnAt Z.K "_law_heard_share" "_law_heard_share" (top 39) (He.ga Z.K "_law_heard_share")
  g__law_heard_share : Z.mg "_law_heard_share" = some (.ref (He.ga Z.K "_law_heard_share"))
  f__law_shares_right : FnAt Z.K "_law_shares_right" "_law_shares_right" (top 45) (He.ga Z.K "_law_shares_right")
  g__law_shares_right : Z.mg "_law_shares_right" = some (.ref (He.ga Z.K "_law_shares_right"))
  f__law_alike : FnAt Z.K "_law_alike" "_law_alike" (top 49) (He.ga Z.K "_law_alike")
  g__law_alike : Z.mg "_law_alike" = some (.ref (He.ga Z.K "_law_alike"))
  f__law_ways_right : FnAt Z.K "_law_ways_right" "_law_ways_right" (top 48) (He.ga Z.K "_law_ways_right")
  g__law_ways_right : Z.mg "_law_ways_right" = some (.ref (He.ga Z.K "_law_ways_right"))
  f_law : FnAt Z.K "law" "law" (top 50) (He.ga Z.K "law")
  g_law : Z.mg "law" = some (.ref (He.ga Z.K "law"))
  f__law_heard : FnAt Z.K "_law_heard" "_law_heard" (top 34) (He.ga Z.K "_law_heard")
  g__law_heard : Z.mg "_law_heard" = some (.ref (He.ga Z.K "_law_heard"))
  g_Crew : Z.mg "Crew" = some (.ref (He.ga Z.K "Crew"))
  g_InvalidCrew : Z.mg "InvalidCrew" = some (.ref (He.ga Z.K "InvalidCrew"))
  g_InvalidNumber : Z.mg "InvalidNumber" = some (.ref (He.ga Z.K "InvalidNumber"))
  g_TooMany : Z.mg "TooMany" = some (.ref (He.ga Z.K "TooMany"))
  c_Crew : Cls Z.K (He.ga Z.K "Crew")
  mk_Crew : Mk Z.K (He.ga Z.K "Crew") (He.ma Z.K (He.ga Z.K "Crew") "__init__")
  eq_Crew : eqoB Z.K "Crew" = true
  me_Crew_changed : Meth Z.K (He.ga Z.K "Crew") "changed" (He.ma Z.K (He.ga Z.K "Crew") "changed")
  me_Crew_cut : Meth Z.K (He.ga Z.K "Crew") "cut" (He.ma Z.K (He.ga Z.K "Crew") "cut")
  me_Crew_look_at_kind : Meth Z.K (He.ga Z.K "Crew") "look_at_kind" (He.ma Z.K (He.ga Z.K "Crew") "look_at_kind")
  me_Crew_share : Meth Z.K (He.ga Z.K "Crew") "share" (He.ma Z.K (He.ga Z.K "Crew") "share")
  me_Crew_with_kind : Meth Z.K (He.ga Z.K "Crew") "with_kind" (He.ma Z.K (He.ga Z.K "Crew") "with_kind")
  me_Crew_with_many : Meth Z.K (He.ga Z.K "Crew") "with_many" (He.ma Z.K (He.ga Z.K "Crew") "with_many")
  me_Crew_without_kind : Meth Z.K (He.ga Z.K "Crew") "without_kind" (He.ma Z.K (He.ga Z.K "Crew") "without_kind")
  pr_Crew_all_kinds : PropOf Z.K (He.ga Z.K "Crew") "all_kinds" (He.ma Z.K (He.ga Z.K "Crew") "all_kinds") (prpF Z.K "Crew" "all_kinds")
  pr_Crew_full : PropOf Z.K (He.ga Z.K "Crew") "full" (He.ma Z.K (He.ga Z.K "Crew") "full") (prpF Z.K "Crew" "full")
  pr_Crew_least : PropOf Z.K (He.ga Z.K "Crew") "least" (He.ma Z.K (He.ga Z.K "Crew") "least") (prpF Z.K "Crew" "least")
  pr_Crew_members : PropOf Z.K (He.ga Z.K "Crew") "members" (He.ma Z.K (He.ga Z.K "Crew") "members") (prpF Z.K "Crew" "members")
  pr_Crew_span : PropOf Z.K (He.ga Z.K "Crew") "span" (He.ma Z.K (He.ga Z.K "Crew") "span") (prpF Z.K "Crew" "span")
  f_Crew___init__ : FnAt Z.K "__init__" "Crew.__init__" (cst 22 0) (He.ma Z.K (He.ga Z.K "Crew") "__init__")
  f_Crew_changed : FnAt Z.K "changed" "Crew.changed" (cst 22 8) (He.ma Z.K (He.ga Z.K "Crew") "changed")
  f_Crew_look_at_kind : FnAt Z.K "look_at_kind" "Crew.look_at_kind" (cst 22 7) (He.ma Z.K (He.ga Z.K "Crew") "look_at_kind")
  f_Crew_cut : FnAt Z.K "cut" "Crew.cut" (cst 22 12) (He.ma Z.K (He.ga Z.K "Crew") "cut")
  f_Crew_all_kinds : FnAt Z.K "all_kinds" "Crew.all_kinds" (cst 22 1) (prpF Z.K "Crew" "all_kinds")
  f_Crew_full : FnAt Z.K "full" "Crew.full" (cst 22 4) (prpF Z.K "Crew" "full")
  f_Crew_least : FnAt Z.K "least" "Crew.least" (cst 22 3) (prpF Z.K "Crew" "least")
  f_Crew_members : FnAt Z.K "members" "Crew.members" (cst 22 2) (prpF Z.K "Crew" "members")
  f_Crew_span : FnAt Z.K "span" "Crew.span" (cst 22 5) (prpF Z.K "Crew" "span")
  f_Crew_without_kind : FnAt Z.K "without_kind" "Crew.without_kind" (cst 22 11) (He.ma Z.K (He.ga Z.K "Crew") "without_kind")
  f_Crew_with_many : FnAt Z.K "with_many" "Crew.with_many" (cst 22 9) (He.ma Z.K (He.ga Z.K "Crew") "with_many")
  f_Crew_with_kind : FnAt Z.K "with_kind" "Crew.with_kind" (cst 22 10) (He.ma Z.K (He.ga Z.K "Crew") "with_kind")
  f_Crew_share : FnAt Z.K "share" "Crew.share" (cst 22 13) (He.ma Z.K (He.ga Z.K "Crew") "share")
  f_Crew___eq__ : FnAt Z.K "__eq__" "Crew.__eq__" (cst 22 6) (He.ma Z.K (He.ga Z.K "Crew") "__eq__")
  xi_InvalidCrew : fnA Z.K (He.ma Z.K (He.ga Z.K "InvalidCrew") "__init__") = i_InvalidCrew.val ∧ i_InvalidCrew.ok Z.K file0 = true ∧ excB Z.K i_InvalidCrew = true
  xi_InvalidNumber : fnA Z.K (He.ma Z.K (He.ga Z.K "InvalidNumber") "__init__") = i_InvalidNumber.val ∧ i_InvalidNumber.ok Z.K file0 = true ∧ excB Z.K i_InvalidNumber = true
  xi_TooMany : fnA Z.K (He.ma Z.K (He.ga Z.K "TooMany") "__init__") = i_TooMany.val ∧ i_TooMany.ok Z.K file0 = true ∧ excB Z.K i_TooMany = true
  ke__law_heard : KitE Z.K isSbE isEx cl__law_heard
  l__law_heard_cut : LamZ Z "_law_heard_cut"
  l__law_heard_crew : LamZ Z "_law_heard_crew"
  l__law_heard_less : LamZ Z "_law_heard_less"
  l__law_heard_many : LamZ Z "_law_heard_many"
  l__law_heard_more : LamZ Z "_law_heard_more"
  l__law_heard_share : LamZ Z "_law_heard_share"
  l__law_ways_right : LamZ Z "_law_ways_right"
abbrev c_MOST_ENTRIES : D := .int 41
abbrev c_MOST_KINDS : D := .int 3
abbrev c_MOST_MANY : D := .int 1000000000000000000000000000000
abbrev c_MOST_OFFICES : D := .int 1000
theorem x_InvalidCrew {Z : Wd} (T : Txt Z) : ExcZ Z "InvalidCrew" "value" 1 :=
  exc_of (d := i_InvalidCrew) (par := "value") Zx.base_ValueError T.xi_InvalidCrew.1 T.xi_InvalidCrew.2.1 T.xi_InvalidCrew.2.2 T.pf T.pt T.n_super T.g_InvalidCrew rfl (NdefX.nscope_by (by decide +kernel)) (fun _ _ _ _ _ us hl => match us, hl with | [_, _], _ => rfl) ⟨_, rfl, rfl⟩ rfl rfl rfl rfl
theorem x_InvalidNumber {Z : Wd} (T : Txt Z) : ExcZ Z "InvalidNumber" "value" 1 :=
  exc_of (d := i_InvalidNumber) (par := "value") Zx.base_ValueError T.xi_InvalidNumber.1 T.xi_InvalidNumber.2.1 T.xi_InvalidNumber.2.2 T.pf T.pt T.n_super T.g_InvalidNumber rfl (NdefX.nscope_by (by decide +kernel)) (fun _ _ _ _ _ us hl => match us, hl with | [_, _], _ => rfl) ⟨_, rfl, rfl⟩ rfl rfl rfl rfl
theorem x_TooMany {Z : Wd} (T : Txt Z) : ExcZ Z "TooMany" "limit" 1 :=
  exc_of (d := i_TooMany) (par := "limit") Zx.base_OverflowError T.xi_TooMany.1 T.xi_TooMany.2.1 T.xi_TooMany.2.2 T.pf T.pt T.n_super T.g_TooMany rfl (NdefX.nscope_by (by decide +kernel)) (fun _ _ _ _ _ us hl => match us, hl with | [_, _], _ => rfl) ⟨_, rfl, rfl⟩ rfl rfl rfl rfl
theorem hs__law_heard : FnScope ["asked_now", "error_one"] ["asked_now"] (defScope (top 34)) := ⟨rfl, rfl, rfl, by decide +kernel, rfl, by decide +kernel, by decide +kernel⟩
theorem hv__law_heard : Vis (defScope (top 34)) "asked_now" := .inl rfl
theorem hd__law_heard {Z : Wd} (T : Txt Z) (X : Cx) (hK : X.K = Z.K) (hm : X.mg = Z.mg) : HdIs X ["asked_now", "error_one"] (defScope (top 34)) (tryH (defBody (top 34))) cl__law_heard :=
  (.named (i := 1) rfl (by decide) (by rw [hm, hK]; exact T.g_InvalidCrew) (by decide +kernel) rfl rfl (by decide) (by decide) (fun _ => rfl) (.named (i := 1) rfl (by decide) (by rw [hm, hK]; exact T.g_InvalidNumber) (by decide +kernel) rfl rfl (by decide) (by decide) (fun _ => rfl) (.named (i := 1) rfl (by decide) (by rw [hm, hK]; exact T.g_TooMany) (by decide +kernel) rfl rfl (by decide) (by decide) (fun _ => rfl) .nil)))
theorem sc_is_integer : FnScope ["value"] ["value"] (defScope (top 1)) := ⟨rfl, rfl, rfl, by decide +kernel, rfl, by decide +kernel, by decide +kernel⟩
def m_is_integer : DF := dfn 1 (sRet (eAnd (e1 (gIsi isSb isTg (.b "int")) (eVar 0)) (e1 gNot (e1 (gIsi isSb isTg (.b "bool")) (eVar 0)))))
theorem o_is_integer {Z : Wd} (T : Txt Z) : Own Z "is_integer" 1 ["value"] m_is_integer := by
  obtain ⟨fd, F⟩ := T.f_is_integer
  exact own_def F T.g_is_integer sc_is_integer (fun _ _ _ _ _ _ us hl => match us, hl with | [_], _ => rfl) fun cdv A outer s H E hr => (ss_one (ss_ret (se_and (se_isiB T.kt (by decide) rfl T.n_isinstance rfl T.n_int (by decide +kernel) (se_var (i := 0) rfl (.inl rfl))) (se_one (se_not (se_isiB T.kt (by decide) rfl T.n_isinstance rfl T.n_bool (by decide +kernel) (se_var (i := 0) rfl (.inl rfl))))))))
theorem sc_is_between : FnScope ["value", "least", "most"] ["value", "least", "most"] (defScope (top 2)) := ⟨rfl, rfl, rfl, by decide +kernel, rfl, by decide +kernel, by decide +kernel⟩
def m_is_between : DF := dfn 3 (sRet (eAnd (eCn 1 m_is_integer (aCons (eVar 0) aNil)) (e3c gLe gLe (eVar 1) (eVar 0) (eVar 2))))
theorem o_is_between {Z : Wd} (T : Txt Z) : Own Z "is_between" 2 ["value", "least", "most"] m_is_between := by
  obtain ⟨fd, F⟩ := T.f_is_between
  exact own_def F T.g_is_between sc_is_between (fun _ _ _ _ _ _ us hl => match us, hl with | [_, _, _], _ => rfl) fun cdv A outer s H E hr => (ss_one (ss_ret (se_and (se_call (o_is_integer T) takesD (hr.mono (by decide)) rfl (sa_cons (se_var (i := 0) rfl (.inl rfl)) sa_nil)) (se_one (se_chain op_le op_le (ok_int fun _ _ _ => rfl) (ok_int fun _ _ _ => rfl) (se_var (i := 1) rfl (.inl rfl)) (se_var (i := 0) rfl (.inl rfl)) (se_var (i := 2) rfl (.inl rfl)))))))
theorem sc_is_many : FnScope ["value"] ["value"] (defScope (top 19)) := ⟨rfl, rfl, rfl, by decide +kernel, rfl, by decide +kernel, by decide +kernel⟩
def m_is_many : DF := dfn 1 (sRet (eCn 3 m_is_between (aCons (eVar 0) (aCons (eK (.int 0)) (aCons (eK c_MOST_MANY) aNil)))))
theorem o_is_many {Z : Wd} (T : Txt Z) : Own Z "is_many" 3 ["value"] m_is_many := by
  obtain ⟨fd, F⟩ := T.f_is_many
  exact own_def F T.g_is_many sc_is_many (fun _ _ _ _ _ _ us hl => match us, hl with | [_], _ => rfl) fun cdv A outer s H E hr => (ss_one (ss_ret (se_call (o_is_between T) takesD (hr.mono (by decide)) rfl (sa_cons (se_var (i := 0) rfl (.inl rfl)) (sa_cons se_int (sa_cons (se_gconst T.g_MOST_MANY rfl) sa_nil))))))
theorem sc_least_of : FnScope ["values", "value"] ["values"] (defScope (top 15)) := ⟨rfl, rfl, rfl, by decide +kernel, rfl, by decide +kernel, by decide +kernel⟩
def m_least_of : DF := dfn 2 (sRet (eM isLst gIndex (eLc mkL (iSeq (eVar 0)) (tN 1) tYesD (e1 (gIsN true) (eVar 1)) [1]) (aCons (eK (.bl true)) aNil)))
theorem o_least_of {Z : Wd} (T : Txt Z) : Own Z "least_of" 1 ["values"] m_least_of := by
  obtain ⟨fd, F⟩ := T.f_least_of
  exact own_def F T.g_least_of sc_least_of (fun _ _ _ _ _ _ us hl => match us, hl with | [_], _ => rfl) fun cdv A outer s H E hr => (ss_one (ss_ret (se_index (se_lc mkL_ok (own := [("value", 1)]) rfl sc_least_of.nd (si_seq (se_var (i := 0) rfl (.inl rfl))) (blkOk_by (N := ["values", "value"]) (sc := defScope (top 15)) (by decide +kernel)) (fun _ _ _ _ _ => (sg_name (i := 1) sc_least_of.nd rfl (.inl rfl) (.inr rfl) (by decide))) (fun _ _ _ _ _ => sts_nil) (fun _ _ _ _ _ => (se_notN (se_var (i := 1) rfl (.inl rfl))))) (sa_cons se_bl sa_nil))))
theorem sc_is_values : FnScope ["value", "known", "place", "one"] ["value"] (defScope (top 18)) := ⟨rfl, rfl, rfl, by decide +kernel, rfl, by decide +kernel, by decide +kernel⟩
def m_is_values : DF := dfn 4 (sSeq (sIf (tOrD (tNotD (tst (e1 (gIsi isSb isTg (.b "tuple")) (eVar 0)))) (tOrD (tNotD (tst (e3c gLe gLe (eK (.int 1)) (eC gLen (aCons (eVar 0) aNil)) (eK c_MOST_ENTRIES)))) (tst (e1 (gIsN false) (e2 gIx (eVar 0) (e1 gNeg (eK (.int 1)))))))) (sRet (eK (.bl false))) sNx) (sSeq (sAsg (eSl mkL (eVar 0) (oYes (eCn 1 m_least_of (aCons (eVar 0) aNil))) oNo) (tN 1)) (sSeq (sIf (tNotD (tst (eC gAll (aCons (eLc mkL (iSeq (eVar 1)) (tN 3) tYesD (eCn 1 m_is_integer (aCons (eVar 3) aNil)) [3]) aNil)))) (sRet (eK (.bl false))) sNx) (sRet (eC gAll (aCons (eLc mkL (iRng1 (aCons (e2 gSub (eC gLen (aCons (eVar 1) aNil)) (eK (.int 1))) aNil)) (tN 2) tYesD (e2 gLe (e2 gIx (eVar 1) (eVar 2)) (e2 gIx (eVar 1) (e2 (gAdd mkL) (eVar 2) (eK (.int 1))))) [2]) aNil))))))
theorem o_is_values {Z : Wd} (T : Txt Z) : Own Z "is_values" 2 ["value"] m_is_values := by
  obtain ⟨fd, F⟩ := T.f_is_values
  exact own_def F T.g_is_values sc_is_values (fun _ _ _ _ _ _ us hl => match us, hl with | [_], _ => rfl) fun cdv A outer s H E hr => (ss_cons (ss_if (PW.pt (sw_or (st_not (st_val (se_isiB T.kt (by decide) rfl T.n_isinstance rfl T.n_tuple (by decide +kernel) (se_var (i := 0) rfl (.inl rfl))))) (sw_or (st_not (st_chain op_le op_le (ok_int fun _ _ _ => rfl) (ok_int fun _ _ _ => rfl) se_int (se_cB call_len ok_len rfl T.n_len (by decide +kernel) (sa_cons (se_var (i := 0) rfl (.inl rfl)) sa_nil)) (se_gconst T.g_MOST_ENTRIES rfl))) (sw_or1 (st_isN (se_ix (se_var (i := 0) rfl (.inl rfl)) (se_neg se_int))))))) (ss_one (ss_ret se_bl)) ss_nil) (ss_cons (ss_asg (vs := [1]) (se_sl mkL_ok (se_var (i := 0) rfl (.inl rfl)) (so_some (se_call (o_least_of T) takesD (hr.mono (by decide)) rfl (sa_cons (se_var (i := 0) rfl (.inl rfl)) sa_nil))) so_none) (sg_name (i := 1) sc_is_values.nd rfl (.inr rfl) (.inl rfl) (by decide))) (ss_cons (ss_if (st_not (st_val (se_cB (cr_all rfl) ok_all rfl T.n_all (by decide +kernel) (sa_cons (se_lc mkL_ok (own := [("one", 3)]) rfl sc_is_values.nd (si_seq (se_var (i := 1) rfl (.inr (.inl rfl)))) (blkOk_by (N := ["value", "known", "place", "one"]) (sc := defScope (top 18)) (by decide +kernel)) (fun _ _ _ _ _ => (sg_name (i := 3) sc_is_values.nd rfl (.inl rfl) (.inr rfl) (by decide))) (fun _ _ _ _ _ => sts_nil) (fun _ _ _ _ _ => (se_call (o_is_integer T) LamX.takes0 (hr.mono (by decide)) rfl (sa_cons (se_var (i := 3) rfl (.inl rfl)) sa_nil)))) sa_nil)))) (ss_one (ss_ret se_bl)) ss_nil) (ss_one (ss_ret (se_cB (cr_all rfl) ok_all rfl T.n_all (by decide +kernel) (sa_cons (se_lc mkL_ok (own := [("place", 2)]) rfl sc_is_values.nd (si_rng1 rfl T.n_range (sa_cons (se_sub (se_cB call_len ok_len rfl T.n_len (by decide +kernel) (sa_cons (se_var (i := 1) rfl (.inr (.inl rfl))) sa_nil)) se_int) sa_nil)) (blkOk_by (N := ["value", "known", "place", "one"]) (sc := defScope (top 18)) (by decide +kernel)) (fun _ _ _ _ _ => (sg_name (i := 2) sc_is_values.nd rfl (.inl rfl) (.inr rfl) (by decide))) (fun _ _ _ _ _ => sts_nil) (fun _ _ _ _ _ => (se_le (se_ix (se_var (i := 1) rfl (.inr (.inl rfl))) (se_var (i := 2) rfl (.inl rfl))) (se_ix (se_var (i := 1) rfl (.inr (.inl rfl))) (se_add mkL_ok (se_var (i := 2) rfl (.inl rfl)) se_int))))) sa_nil)))))))
theorem sc_is_kind : FnScope ["value"] ["value"] (defScope (top 20)) := ⟨rfl, rfl, rfl, by decide +kernel, rfl, by decide +kernel, by decide +kernel⟩
def m_is_kind : DF := dfn 1 (sRet (eAnd (e1 (gIsi isSb isTg (.b "tuple")) (eVar 0)) (eAnd (e2 gEq (eC gLen (aCons (eVar 0) aNil)) (eK (.int 2))) (eAnd (eCn 1 m_is_values (aCons (e2 gIx (eVar 0) (eK (.int 0))) aNil)) (eCn 1 m_is_many (aCons (e2 gIx (eVar 0) (eK (.int 1))) aNil))))))
theorem o_is_kind {Z : Wd} (T : Txt Z) : Own Z "is_kind" 4 ["value"] m_is_kind := by
  obtain ⟨fd, F⟩ := T.f_is_kind
  exact own_def F T.g_is_kind sc_is_kind (fun _ _ _ _ _ _ us hl => match us, hl with | [_], _ => rfl) fun cdv A outer s H E hr => (ss_one (ss_ret (se_and (se_isiB T.kt (by decide) rfl T.n_isinstance rfl T.n_tuple (by decide +kernel) (se_var (i := 0) rfl (.inl rfl))) (se_and (se_eq hr.units (se_cB call_len ok_len rfl T.n_len (by decide +kernel) (sa_cons (se_var (i := 0) rfl (.inl rfl)) sa_nil)) se_int) (se_and (se_call (o_is_values T) takesD (hr.mono (by decide)) rfl (sa_cons (se_ix (se_var (i := 0) rfl (.inl rfl)) se_int) sa_nil)) (se_one (se_call (o_is_many T) takesD (hr.mono (by decide)) rfl (sa_cons (se_ix (se_var (i := 0) rfl (.inl rfl)) se_int) sa_nil))))))))
theorem sc_is_row : FnScope ["value"] ["value"] (defScope (top 3)) := ⟨rfl, rfl, rfl, by decide +kernel, rfl, by decide +kernel, by decide +kernel⟩
def m_is_row : DF := dfn 1 (sRet (e1 (gIsiT isSb isTg [.b "list", .b "tuple"]) (eVar 0)))
theorem o_is_row {Z : Wd} (T : Txt Z) : Own Z "is_row" 1 ["value"] m_is_row := by
  obtain ⟨fd, F⟩ := T.f_is_row
  exact own_def F T.g_is_row sc_is_row (fun _ _ _ _ _ _ us hl => match us, hl with | [_], _ => rfl) fun cdv A outer s H E hr => (ss_one (ss_ret (se_isiT T.kt (by decide) (by decide) rfl T.n_isinstance (se_var (i := 0) rfl (.inl rfl)) (.b rfl T.n_list (by decide +kernel) (.b rfl T.n_tuple (by decide +kernel) .nil)))))
def m_Crew___init___b0 : SF := (sIf (tNotD (tst (eCn 1 m_is_kind (aCons (eVar 2) aNil)))) (sRaise "InvalidCrew" "value" (aCons (eVar 2) aNil)) sNx)
theorem sc_Crew___init__ : FnScope ["self", "kinds", "kind", "values", "many"] ["self", "kinds"] (defScope (cst 22 0)) := ⟨rfl, rfl, rfl, by decide +kernel, rfl, by decide +kernel, by decide +kernel⟩
def m_Crew___init__ : DF := dfn 5 (sSeq (sIf (tOrD (tNotD (tst (eCn 1 m_is_row (aCons (eVar 1) aNil)))) (tNotD (tst (e3c gLe gLe (eK (.int 1)) (eC gLen (aCons (eVar 1) aNil)) (eK c_MOST_KINDS))))) (sRaise "InvalidCrew" "value" (aCons (eVar 1) aNil)) sNx) (sSeq (sFor (iSeq (eVar 1)) (tN 2) m_Crew___init___b0) (sFld fl "own_kinds" (eVar 0) (eC gTuple (aCons (eLc mkL (iSeq (eVar 1)) (tT 2 (tCons (tN 3) (tCons (tN 4) tNil))) tYesD (eTup (aCons (eVar 3) (aCons (eVar 4) aNil))) [3, 4]) aNil)))))
theorem fn_Crew___init__ {Z : Wd} (T : Txt Z) : ∃ fd, FunD Z.K "__init__" "Crew.__init__" (defArgs (cst 22 0)) (defBody (cst 22 0)) (defScope (cst 22 0)) [] [] (He.ma Z.K (He.ga Z.K "Crew") "__init__") fd ∧ Z.Fn 5 (He.ma Z.K (He.ga Z.K "Crew") "__init__") fd ["self", "kinds"] m_Crew___init__ := by
  obtain ⟨fd, F⟩ := T.f_Crew___init__
  exact ⟨fd, F, fn_def F sc_Crew___init__ fun cdv A outer s H E hr => (ss_cons (ss_if (PW.pt (sw_or (st_not (st_val (se_call (o_is_row T) takesD (hr.mono (by decide)) rfl (sa_cons (se_var (i := 1) rfl (.inl rfl)) sa_nil)))) (sw_or1 (st_not (st_chain op_le op_le (ok_int fun _ _ _ => rfl) (ok_int fun _ _ _ => rfl) se_int (se_cB call_len ok_len rfl T.n_len (by decide +kernel) (sa_cons (se_var (i := 1) rfl (.inl rfl)) sa_nil)) (se_gconst T.g_MOST_KINDS rfl)))))) (ss_one (ss_raise (x_InvalidCrew T) takesD (hr.mono (by decide)) rfl rfl (sa_cons (se_var (i := 1) rfl (.inl rfl)) sa_nil))) ss_nil) (ss_cons (ss_for (vs := [2]) passD rfl (si_seq (se_var (i := 1) rfl (.inl rfl))) (sg_name (i := 2) sc_Crew___init__.nd rfl (.inl rfl) (.inr rfl) (by decide)) (ss_one (ss_if (st_not (st_val (se_call (o_is_kind T) takesD (hr.mono (by decide)) rfl (sa_cons (se_var (i := 2) rfl (.inl rfl)) sa_nil)))) (ss_one (ss_raise (x_InvalidCrew T) takesD (hr.mono (by decide)) rfl rfl (sa_cons (se_var (i := 2) rfl (.inl rfl)) sa_nil))) ss_nil))) (ss_one (ss_fld T.fk (se_var (i := 0) rfl (.inl rfl)) (se_cT call_tuple_of ok_tuple rfl T.n_tuple (by decide +kernel) (sa_cons (se_lc mkL_ok (own := [("values", 3), ("many", 4)]) rfl sc_Crew___init__.nd (si_seq (se_var (i := 1) rfl (.inl rfl))) (blkOk_by (N := ["self", "kinds", "kind", "values", "many"]) (sc := defScope (cst 22 0)) (by decide +kernel)) (fun _ _ _ _ _ => (sg_tup rfl (sgs_cons (sg_name (i := 3) sc_Crew___init__.nd rfl (.inl rfl) (.inr rfl) (by decide)) (sgs_cons (sg_name (i := 4) sc_Crew___init__.nd rfl (.inl rfl) (.inr rfl) (by decide)) sgs_nil)))) (fun _ _ _ _ _ => sts_nil) (fun _ _ _ _ _ => (se_tup (sa_cons (se_var (i := 3) rfl (.inl rfl)) (sa_cons (se_var (i := 4) rfl (.inl rfl)) sa_nil))))) sa_nil))))))⟩
theorem k_Crew {Z : Wd} (T : Txt Z) : MakZ Z "Crew" 5 ["self", "kinds"] m_Crew___init__ := by
  obtain ⟨fd, F, h⟩ := fn_Crew___init__ T
  exact mak_of F T.mk_Crew T.g_Crew (fun _ _ _ _ _ _ us hl => match us, hl with | [_, _], _ => rfl) h
theorem sc_Crew_changed : FnScope ["self", "kind", "entry"] ["self", "kind", "entry"] (defScope (cst 22 8)) := ⟨rfl, rfl, rfl, by decide +kernel, rfl, by decide +kernel, by decide +kernel⟩
def m_Crew_changed : DF := dfn 3 (sRet (eMak true "Crew" 2 m_Crew___init__ (aCons (e2 (gAdd mkL) (e2 (gAdd mkL) (eSl mkL (e1 (gFld fl "own_kinds") (eVar 0)) oNo (oYes (eVar 1))) (eTup (aCons (eVar 2) aNil))) (eSl mkL (e1 (gFld fl "own_kinds") (eVar 0)) (oYes (e2 (gAdd mkL) (eVar 1) (eK (.int 1)))) oNo)) aNil)))
theorem fn_Crew_changed {Z : Wd} (T : Txt Z) : ∃ fd, FunD Z.K "changed" "Crew.changed" (defArgs (cst 22 8)) (defBody (cst 22 8)) (defScope (cst 22 8)) [] [] (He.ma Z.K (He.ga Z.K "Crew") "changed") fd ∧ Z.Fn 7 (He.ma Z.K (He.ga Z.K "Crew") "changed") fd ["self", "kind", "entry"] m_Crew_changed := by
  obtain ⟨fd, F⟩ := T.f_Crew_changed
  exact ⟨fd, F, fn_def F sc_Crew_changed fun cdv A outer s H E hr => (ss_one (ss_ret (se_mak (k_Crew T) takesD (hr.mono (by decide)) rfl (sa_cons (se_add mkL_ok (se_add mkL_ok (se_sl mkL_ok (se_fld T.fk (se_var (i := 0) rfl (.inl rfl))) so_none (so_some (se_var (i := 1) rfl (.inl rfl)))) (se_tup (sa_cons (se_var (i := 2) rfl (.inl rfl)) sa_nil))) (se_sl mkL_ok (se_fld T.fk (se_var (i := 0) rfl (.inl rfl))) (so_some (se_add mkL_ok (se_var (i := 1) rfl (.inl rfl)) se_int)) so_none)) sa_nil))))⟩
theorem t_Crew_changed {Z : Wd} (T : Txt Z) : MetZ Z "Crew" "changed" 7 ["self", "kind", "entry"] m_Crew_changed := by
  obtain ⟨fd, F, h⟩ := fn_Crew_changed T
  exact met_of F T.c_Crew T.me_Crew_changed (fun _ _ _ _ _ _ us hl => match us, hl with | [_, _, _], _ => rfl) h
theorem sc_Crew_look_at_kind : FnScope ["self", "kind"] ["self", "kind"] (defScope (cst 22 7)) := ⟨rfl, rfl, rfl, by decide +kernel, rfl, by decide +kernel, by decide +kernel⟩
def m_Crew_look_at_kind : DF := dfn 2 (sIf (tNotD (tst (eCn 3 m_is_between (aCons (eVar 1) (aCons (eK (.int 0)) (aCons (e2 gSub (eC gLen (aCons (e1 (gFld fl "own_kinds") (eVar 0)) aNil)) (eK (.int 1))) aNil)))))) (sRaise "InvalidNumber" "value" (aCons (eVar 1) aNil)) sNx)
theorem fn_Crew_look_at_kind {Z : Wd} (T : Txt Z) : ∃ fd, FunD Z.K "look_at_kind" "Crew.look_at_kind" (defArgs (cst 22 7)) (defBody (cst 22 7)) (defScope (cst 22 7)) [] [] (He.ma Z.K (He.ga Z.K "Crew") "look_at_kind") fd ∧ Z.Fn 3 (He.ma Z.K (He.ga Z.K "Crew") "look_at_kind") fd ["self", "kind"] m_Crew_look_at_kind := by
  obtain ⟨fd, F⟩ := T.f_Crew_look_at_kind
  exact ⟨fd, F, fn_def F sc_Crew_look_at_kind fun cdv A outer s H E hr => (ss_one (ss_if (st_not (st_val (se_call (o_is_between T) takesD (hr.mono (by decide)) rfl (sa_cons (se_var (i := 1) rfl (.inl rfl)) (sa_cons se_int (sa_cons (se_sub (se_cB call_len ok_len rfl T.n_len (by decide +kernel) (sa_cons (se_fld T.fk (se_var (i := 0) rfl (.inl rfl))) sa_nil)) se_int) sa_nil)))))) (ss_one (ss_raise (x_InvalidNumber T) takesD (hr.mono (by decide)) rfl rfl (sa_cons (se_var (i := 1) rfl (.inl rfl)) sa_nil))) ss_nil))⟩
theorem t_Crew_look_at_kind {Z : Wd} (T : Txt Z) : MetZ Z "Crew" "look_at_kind" 3 ["self", "kind"] m_Crew_look_at_kind := by
  obtain ⟨fd, F, h⟩ := fn_Crew_look_at_kind T
  exact met_of F T.c_Crew T.me_Crew_look_at_kind (fun _ _ _ _ _ _ us hl => match us, hl with | [_, _], _ => rfl) h
theorem sc_quota_of : FnScope ["values"] ["values"] (defScope (top 16)) := ⟨rfl, rfl, rfl, by decide +kernel, rfl, by decide +kernel, by decide +kernel⟩
def m_quota_of : DF := dfn 1 (sRet (e2 gSub (eC gLen (aCons (eVar 0) aNil)) (eK (.int 1))))
theorem o_quota_of {Z : Wd} (T : Txt Z) : Own Z "quota_of" 1 ["values"] m_quota_of := by
  obtain ⟨fd, F⟩ := T.f_quota_of
  exact own_def F T.g_quota_of sc_quota_of (fun _ _ _ _ _ _ us hl => match us, hl with | [_], _ => rfl) fun cdv A outer s H E hr => (ss_one (ss_ret (se_sub (se_cB call_len ok_len rfl T.n_len (by decide +kernel) (sa_cons (se_var (i := 0) rfl (.inl rfl)) sa_nil)) se_int)))
theorem sc_Crew_cut : FnScope ["self", "kind", "quota", "values", "many"] ["self", "kind", "quota"] (defScope (cst 22 12)) := ⟨rfl, rfl, rfl, by decide +kernel, rfl, by decide +kernel, by decide +kernel⟩
def m_Crew_cut : DF := dfn 5 (sSeq (sDrop (eMet "Crew" "look_at_kind" 2 m_Crew_look_at_kind (eVar 0) (aCons (eVar 1) aNil))) (sSeq (sAsg (e2 gIx (e1 (gFld fl "own_kinds") (eVar 0)) (eVar 1)) (tT 2 (tCons (tN 3) (tCons (tN 4) tNil)))) (sSeq (sIf (tNotD (tst (eCn 3 m_is_between (aCons (eVar 2) (aCons (eCn 1 m_least_of (aCons (eVar 3) aNil)) (aCons (eCn 1 m_quota_of (aCons (eVar 3) aNil)) aNil)))))) (sRaise "InvalidNumber" "value" (aCons (eVar 2) aNil)) sNx) (sRet (eMet "Crew" "changed" 3 m_Crew_changed (eVar 0) (aCons (eVar 1) (aCons (eTup (aCons (eSl mkL (eVar 3) oNo (oYes (e2 (gAdd mkL) (eVar 2) (eK (.int 1))))) (aCons (eVar 4) aNil))) aNil)))))))
theorem fn_Crew_cut {Z : Wd} (T : Txt Z) : ∃ fd, FunD Z.K "cut" "Crew.cut" (defArgs (cst 22 12)) (defBody (cst 22 12)) (defScope (cst 22 12)) [] [] (He.ma Z.K (He.ga Z.K "Crew") "cut") fd ∧ Z.Fn 8 (He.ma Z.K (He.ga Z.K "Crew") "cut") fd ["self", "kind", "quota"] m_Crew_cut := by
  obtain ⟨fd, F⟩ := T.f_Crew_cut
  exact ⟨fd, F, fn_def F sc_Crew_cut fun cdv A outer s H E hr => (ss_cons (ss_expr (se_met (t_Crew_look_at_kind T) takesD (hr.mono (by decide)) (se_var (i := 0) rfl (.inl rfl)) (sa_cons (se_var (i := 1) rfl (.inl rfl)) sa_nil))) (ss_cons (ss_asg (vs := [3, 4]) (se_ix (se_fld T.fk (se_var (i := 0) rfl (.inl rfl))) (se_var (i := 1) rfl (.inl rfl))) (sg_tup rfl (sgs_cons (sg_name (i := 3) sc_Crew_cut.nd rfl (.inl rfl) (.inr rfl) (by decide)) (sgs_cons (sg_name (i := 4) sc_Crew_cut.nd rfl (.inl rfl) (.inr rfl) (by decide)) sgs_nil)))) (ss_cons (ss_if (st_not (st_val (se_call (o_is_between T) takesD (hr.mono (by decide)) rfl (sa_cons (se_var (i := 2) rfl (.inl rfl)) (sa_cons (se_call (o_least_of T) takesD (hr.mono (by decide)) rfl (sa_cons (se_var (i := 3) rfl (.inl rfl)) sa_nil)) (sa_cons (se_call (o_quota_of T) takesD (hr.mono (by decide)) rfl (sa_cons (se_var (i := 3) rfl (.inl rfl)) sa_nil)) sa_nil)))))) (ss_one (ss_raise (x_InvalidNumber T) takesD (hr.mono (by decide)) rfl rfl (sa_cons (se_var (i := 2) rfl (.inl rfl)) sa_nil))) ss_nil) (ss_one (ss_ret (se_met (t_Crew_changed T) takesD (hr.mono (by decide)) (se_var (i := 0) rfl (.inl rfl)) (sa_cons (se_var (i := 1) rfl (.inl rfl)) (sa_cons (se_tup (sa_cons (se_sl mkL_ok (se_var (i := 3) rfl (.inl rfl)) so_none (so_some (se_add mkL_ok (se_var (i := 2) rfl (.inl rfl)) se_int))) (sa_cons (se_var (i := 4) rfl (.inl rfl)) sa_nil))) sa_nil))))))))⟩
theorem t_Crew_cut {Z : Wd} (T : Txt Z) : MetZ Z "Crew" "cut" 8 ["self", "kind", "quota"] m_Crew_cut := by
  obtain ⟨fd, F, h⟩ := fn_Crew_cut T
  exact met_of F T.c_Crew T.me_Crew_cut (fun _ _ _ _ _ _ us hl => match us, hl with | [_, _, _], _ => rfl) h
theorem sc_Crew_all_kinds : FnScope ["self"] ["self"] (defScope (cst 22 1)) := ⟨rfl, rfl, rfl, by decide +kernel, rfl, by decide +kernel, by decide +kernel⟩
def m_Crew_all_kinds : DF := dfn 1 (sRet (e1 (gFld fl "own_kinds") (eVar 0)))
theorem fn_Crew_all_kinds {Z : Wd} (T : Txt Z) : ∃ fd, FunD Z.K "all_kinds" "Crew.all_kinds" (defArgs (cst 22 1)) (defBody (cst 22 1)) (defScope (cst 22 1)) [] [] (prpF Z.K "Crew" "all_kinds") fd ∧ Z.Fn 1 (prpF Z.K "Crew" "all_kinds") fd ["self"] m_Crew_all_kinds := by
  obtain ⟨fd, F⟩ := T.f_Crew_all_kinds
  exact ⟨fd, F, fn_def F sc_Crew_all_kinds fun cdv A outer s H E hr => (ss_one (ss_ret (se_fld T.fk (se_var (i := 0) rfl (.inl rfl)))))⟩
theorem p_Crew_all_kinds {Z : Wd} (T : Txt Z) : PrpZ Z "Crew" "all_kinds" 1 m_Crew_all_kinds := by
  obtain ⟨fd, F, h⟩ := fn_Crew_all_kinds T
  exact prp_of F T.c_Crew T.pr_Crew_all_kinds (fun _ _ _ _ _ _ us hl => match us, hl with | [_], _ => rfl) h
theorem sc_Crew_full : FnScope ["self", "values", "many"] ["self"] (defScope (cst 22 4)) := ⟨rfl, rfl, rfl, by decide +kernel, rfl, by decide +kernel, by decide +kernel⟩
def m_Crew_full : DF := dfn 3 (sRet (eC gSum (aCons (eLc mkL (iSeq (e1 (gFld fl "own_kinds") (eVar 0))) (tT 2 (tCons (tN 1) (tCons (tN 2) tNil))) tYesD (e2 (gMul mkL) (eCn 1 m_quota_of (aCons (eVar 1) aNil)) (eVar 2)) [1, 2]) aNil)))
theorem fn_Crew_full {Z : Wd} (T : Txt Z) : ∃ fd, FunD Z.K "full" "Crew.full" (defArgs (cst 22 4)) (defBody (cst 22 4)) (defScope (cst 22 4)) [] [] (prpF Z.K "Crew" "full") fd ∧ Z.Fn 2 (prpF Z.K "Crew" "full") fd ["self"] m_Crew_full := by
  obtain ⟨fd, F⟩ := T.f_Crew_full
  exact ⟨fd, F, fn_def F sc_Crew_full fun cdv A outer s H E hr => (ss_one (ss_ret (se_cB (cr_sum rfl) ok_sum rfl T.n_sum (by decide +kernel) (sa_cons (se_lc mkL_ok (own := [("values", 1), ("many", 2)]) rfl sc_Crew_full.nd (si_seq (se_fld T.fk (se_var (i := 0) rfl (.inl rfl)))) (blkOk_by (N := ["self", "values", "many"]) (sc := defScope (cst 22 4)) (by decide +kernel)) (fun _ _ _ _ _ => (sg_tup rfl (sgs_cons (sg_name (i := 1) sc_Crew_full.nd rfl (.inl rfl) (.inr rfl) (by decide)) (sgs_cons (sg_name (i := 2) sc_Crew_full.nd rfl (.inl rfl) (.inr rfl) (by decide)) sgs_nil)))) (fun _ _ _ _ _ => sts_nil) (fun _ _ _ _ _ => (se_mul mkL_ok (se_call (o_quota_of T) LamX.takes0 (hr.mono (by decide)) rfl (sa_cons (se_var (i := 1) rfl (.inl rfl)) sa_nil)) (se_var (i := 2) rfl (.inl rfl))))) sa_nil))))⟩
theorem p_Crew_full {Z : Wd} (T : Txt Z) : PrpZ Z "Crew" "full" 2 m_Crew_full := by
  obtain ⟨fd, F, h⟩ := fn_Crew_full T
  exact prp_of F T.c_Crew T.pr_Crew_full (fun _ _ _ _ _ _ us hl => match us, hl with | [_], _ => rfl) h
theorem sc_Crew_least : FnScope ["self", "values", "many"] ["self"] (defScope (cst 22 3)) := ⟨rfl, rfl, rfl, by decide +kernel, rfl, by decide +kernel, by decide +kernel⟩
def m_Crew_least : DF := dfn 3 (sRet (eC gSum (aCons (eLc mkL (iSeq (e1 (gFld fl "own_kinds") (eVar 0))) (tT 2 (tCons (tN 1) (tCons (tN 2) tNil))) tYesD (e2 (gMul mkL) (eCn 1 m_least_of (aCons (eVar 1) aNil)) (eVar 2)) [1, 2]) aNil)))
theorem fn_Crew_least {Z : Wd} (T : Txt Z) : ∃ fd, FunD Z.K "least" "Crew.least" (defArgs (cst 22 3)) (defBody (cst 22 3)) (defScope (cst 22 3)) [] [] (prpF Z.K "Crew" "least") fd ∧ Z.Fn 2 (prpF Z.K "Crew" "least") fd ["self"] m_Crew_least := by
  obtain ⟨fd, F⟩ := T.f_Crew_least
  exact ⟨fd, F, fn_def F sc_Crew_least fun cdv A outer s H E hr => (ss_one (ss_ret (se_cB (cr_sum rfl) ok_sum rfl T.n_sum (by decide +kernel) (sa_cons (se_lc mkL_ok (own := [("values", 1), ("many", 2)]) rfl sc_Crew_least.nd (si_seq (se_fld T.fk (se_var (i := 0) rfl (.inl rfl)))) (blkOk_by (N := ["self", "values", "many"]) (sc := defScope (cst 22 3)) (by decide +kernel)) (fun _ _ _ _ _ => (sg_tup rfl (sgs_cons (sg_name (i := 1) sc_Crew_least.nd rfl (.inl rfl) (.inr rfl) (by decide)) (sgs_cons (sg_name (i := 2) sc_Crew_least.nd rfl (.inl rfl) (.inr rfl) (by decide)) sgs_nil)))) (fun _ _ _ _ _ => sts_nil) (fun _ _ _ _ _ => (se_mul mkL_ok (se_call (o_least_of T) LamX.takes0 (hr.mono (by decide)) rfl (sa_cons (se_var (i := 1) rfl (.inl rfl)) sa_nil)) (se_var (i := 2) rfl (.inl rfl))))) sa_nil))))⟩
theorem p_Crew_least {Z : Wd} (T : Txt Z) : PrpZ Z "Crew" "least" 2 m_Crew_least := by
  obtain ⟨fd, F, h⟩ := fn_Crew_least T
  exact prp_of F T.c_Crew T.pr_Crew_least (fun _ _ _ _ _ _ us hl => match us, hl with | [_], _ => rfl) h
theorem sc_Crew_members : FnScope ["self", "values", "many"] ["self"] (defScope (cst 22 2)) := ⟨rfl, rfl, rfl, by decide +kernel, rfl, by decide +kernel, by decide +kernel⟩
def m_Crew_members : DF := dfn 3 (sRet (eC gSum (aCons (eLc mkL (iSeq (e1 (gFld fl "own_kinds") (eVar 0))) (tT 2 (tCons (tN 1) (tCons (tN 2) tNil))) tYesD (eVar 2) [1, 2]) aNil)))
theorem fn_Crew_members {Z : Wd} (T : Txt Z) : ∃ fd, FunD Z.K "members" "Crew.members" (defArgs (cst 22 2)) (defBody (cst 22 2)) (defScope (cst 22 2)) [] [] (prpF Z.K "Crew" "members") fd ∧ Z.Fn 1 (prpF Z.K "Crew" "members") fd ["self"] m_Crew_members := by
  obtain ⟨fd, F⟩ := T.f_Crew_members
  exact ⟨fd, F, fn_def F sc_Crew_members fun cdv A outer s H E hr => (ss_one (ss_ret (se_cB (cr_sum rfl) ok_sum rfl T.n_sum (by decide +kernel) (sa_cons (se_lc mkL_ok (own := [("values", 1), ("many", 2)]) rfl sc_Crew_members.nd (si_seq (se_fld T.fk (se_var (i := 0) rfl (.inl rfl)))) (blkOk_by (N := ["self", "values", "many"]) (sc := defScope (cst 22 2)) (by decide +kernel)) (fun _ _ _ _ _ => (sg_tup rfl (sgs_cons (sg_name (i := 1) sc_Crew_members.nd rfl (.inl rfl) (.inr rfl) (by decide)) (sgs_cons (sg_name (i := 2) sc_Crew_members.nd rfl (.inl rfl) (.inr rfl) (by decide)) sgs_nil)))) (fun _ _ _ _ _ => sts_nil) (fun _ _ _ _ _ => (se_var (i := 2) rfl (.inl rfl)))) sa_nil))))⟩
theorem p_Crew_members {Z : Wd} (T : Txt Z) : PrpZ Z "Crew" "members" 1 m_Crew_members := by
  obtain ⟨fd, F, h⟩ := fn_Crew_members T
  exact prp_of F T.c_Crew T.pr_Crew_members (fun _ _ _ _ _ _ us hl => match us, hl with | [_], _ => rfl) h
theorem sc_span_of : FnScope ["values"] ["values"] (defScope (top 17)) := ⟨rfl, rfl, rfl, by decide +kernel, rfl, by decide +kernel, by decide +kernel⟩
def m_span_of : DF := dfn 1 (sRet (e2 gSub (eCn 1 m_quota_of (aCons (eVar 0) aNil)) (eCn 1 m_least_of (aCons (eVar 0) aNil))))
theorem o_span_of {Z : Wd} (T : Txt Z) : Own Z "span_of" 2 ["values"] m_span_of := by
  obtain ⟨fd, F⟩ := T.f_span_of
  exact own_def F T.g_span_of sc_span_of (fun _ _ _ _ _ _ us hl => match us, hl with | [_], _ => rfl) fun cdv A outer s H E hr => (ss_one (ss_ret (se_sub (se_call (o_quota_of T) takesD (hr.mono (by decide)) rfl (sa_cons (se_var (i := 0) rfl (.inl rfl)) sa_nil)) (se_call (o_least_of T) takesD (hr.mono (by decide)) rfl (sa_cons (se_var (i := 0) rfl (.inl rfl)) sa_nil)))))
theorem sc_Crew_span : FnScope ["self", "values", "many"] ["self"] (defScope (cst 22 5)) := ⟨rfl, rfl, rfl, by decide +kernel, rfl, by decide +kernel, by decide +kernel⟩
def m_Crew_span : DF := dfn 3 (sRet (eC gMaxL (aCons (eLst mkL (aCons (eK (.int 0)) (aStar (eLc mkL (iSeq (e1 (gFld fl "own_kinds") (eVar 0))) (tT 2 (tCons (tN 1) (tCons (tN 2) tNil))) (tst (e2 gGt (eVar 2) (eK (.int 0)))) (eCn 1 m_span_of (aCons (eVar 1) aNil)) [1, 2]) aNil))) aNil)))
theorem fn_Crew_span {Z : Wd} (T : Txt Z) : ∃ fd, FunD Z.K "span" "Crew.span" (defArgs (cst 22 5)) (defBody (cst 22 5)) (defScope (cst 22 5)) [] [] (prpF Z.K "Crew" "span") fd ∧ Z.Fn 3 (prpF Z.K "Crew" "span") fd ["self"] m_Crew_span := by
  obtain ⟨fd, F⟩ := T.f_Crew_span
  exact ⟨fd, F, fn_def F sc_Crew_span fun cdv A outer s H E hr => (ss_one (ss_ret (se_cB (cr_max rfl) ok_maxL rfl T.n_max (by decide +kernel) (sa_cons (se_lst mkL_ok (sa_cons se_int (sa_star (se_lc mkL_ok (own := [("values", 1), ("many", 2)]) rfl sc_Crew_span.nd (si_seq (se_fld T.fk (se_var (i := 0) rfl (.inl rfl)))) (blkOk_by (N := ["self", "values", "many"]) (sc := defScope (cst 22 5)) (by decide +kernel)) (fun _ _ _ _ _ => (sg_tup rfl (sgs_cons (sg_name (i := 1) sc_Crew_span.nd rfl (.inl rfl) (.inr rfl) (by decide)) (sgs_cons (sg_name (i := 2) sc_Crew_span.nd rfl (.inl rfl) (.inr rfl) (by decide)) sgs_nil)))) (fun _ _ _ _ _ => (sts_one (st_gt (se_var (i := 2) rfl (.inl rfl)) se_int))) (fun _ _ _ _ _ => (se_call (o_span_of T) LamX.takes0 (hr.mono (by decide)) rfl (sa_cons (se_var (i := 1) rfl (.inl rfl)) sa_nil)))) sa_nil))) sa_nil))))⟩
theorem p_Crew_span {Z : Wd} (T : Txt Z) : PrpZ Z "Crew" "span" 3 m_Crew_span := by
  obtain ⟨fd, F, h⟩ := fn_Crew_span T
  exact prp_of F T.c_Crew T.pr_Crew_span (fun _ _ _ _ _ _ us hl => match us, hl with | [_], _ => rfl) h
theorem sc__law_facts : FnScope ["crew"] ["crew"] (defScope (top 35)) := ⟨rfl, rfl, rfl, by decide +kernel, rfl, by decide +kernel, by decide +kernel⟩
def m__law_facts : DF := dfn 1 (sRet (eLst mkL (aCons (ePrp "Crew" m_Crew_all_kinds (eVar 0)) (aCons (ePrp "Crew" m_Crew_members (eVar 0)) (aCons (ePrp "Crew" m_Crew_least (eVar 0)) (aCons (ePrp "Crew" m_Crew_full (eVar 0)) (aCons (ePrp "Crew" m_Crew_span (eVar 0)) aNil)))))))
theorem o__law_facts {Z : Wd} (T : Txt Z) : Own Z "_law_facts" 5 ["crew"] m__law_facts := by
  obtain ⟨fd, F⟩ := T.f__law_facts
  exact own_def F T.g__law_facts sc__law_facts (fun _ _ _ _ _ _ us hl => match us, hl with | [_], _ => rfl) fun cdv A outer s H E hr => (ss_one (ss_ret (se_lst mkL_ok (sa_cons (se_prp (p_Crew_all_kinds T) (hr.mono (by decide)) (se_var (i := 0) rfl (.inl rfl))) (sa_cons (se_prp (p_Crew_members T) (hr.mono (by decide)) (se_var (i := 0) rfl (.inl rfl))) (sa_cons (se_prp (p_Crew_least T) (hr.mono (by decide)) (se_var (i := 0) rfl (.inl rfl))) (sa_cons (se_prp (p_Crew_full T) (hr.mono (by decide)) (se_var (i := 0) rfl (.inl rfl))) (sa_cons (se_prp (p_Crew_span T) (hr.mono (by decide)) (se_var (i := 0) rfl (.inl rfl))) sa_nil))))))))
theorem sc__law_heard_cut : FnScope ["kinds", "at", "quota"] ["kinds", "at", "quota"] (defScope (top 38)) := ⟨rfl, rfl, rfl, by decide +kernel, rfl, by decide +kernel, by decide +kernel⟩
def m__law_heard_cut : DF := dfn 3 (sRet (eHear isSbE isEx cl__law_heard (eCn 1 m__law_facts (aCons (eMet "Crew" "cut" 3 m_Crew_cut (eMak true "Crew" 2 m_Crew___init__ (aCons (eVar 0) aNil)) (aCons (eVar 1) (aCons (eVar 2) aNil))) aNil))))
theorem o__law_heard_cut {Z : Wd} (T : Txt Z) : Own Z "_law_heard_cut" 11 ["kinds", "at", "quota"] m__law_heard_cut := by
  obtain ⟨fd, F⟩ := T.f__law_heard_cut
  obtain ⟨_, hf__law_heard⟩ := T.f__law_heard
  exact own_defL F T.g__law_heard_cut sc__law_heard_cut (fun _ _ _ _ _ _ us hl => match us, hl with | [_, _, _], _ => rfl) fun A outer s H E hr => (ss_one (ss_ret (se_hear (k := 8) hf__law_heard T.g__law_heard (FunD.bindsN hf__law_heard (fun _ _ _ _ _ _ us hl => match us, hl with | [_], _ => rfl)) hs__law_heard rfl hv__law_heard (fun _ => rfl) rfl (hd__law_heard T _ rfl rfl) T.ke__law_heard T.l__law_heard_cut rfl rfl (hr.mono (by decide)) rfl (LamX.lamS_by (sc := defScope (top 38)) (by decide +kernel)) (fun A2 outer2 s2 H2 E2 f2 c2 hr => (se_call (o__law_facts T) takesL (hr.mono (by decide)) rfl (sa_cons (se_met (t_Crew_cut T) takesL (hr.mono (by decide)) (se_mak (k_Crew T) takesL (hr.mono (by decide)) rfl (sa_cons (se_var (i := 0) rfl (.inr (.inr rfl))) sa_nil)) (sa_cons (se_var (i := 1) rfl (.inr (.inr rfl))) (sa_cons (se_var (i := 2) rfl (.inr (.inr rfl))) sa_nil))) sa_nil))))))
theorem sc__law_pc_least : FnScope ["values", "x"] ["values"] (defScope (top 29)) := ⟨rfl, rfl, rfl, by decide +kernel, rfl, by decide +kernel, by decide +kernel⟩
def m__law_pc_least : DF := dfn 2 (sRet (eC gLen (aCons (eLc mkL (iSeq (eVar 0)) (tN 1) (tst (e1 (gIsN false) (eVar 1))) (eVar 1) [1]) aNil)))
theorem o__law_pc_least {Z : Wd} (T : Txt Z) : Own Z "_law_pc_least" 1 ["values"] m__law_pc_least := by
  obtain ⟨fd, F⟩ := T.f__law_pc_least
  exact own_def F T.g__law_pc_least sc__law_pc_least (fun _ _ _ _ _ _ us hl => match us, hl with | [_], _ => rfl) fun cdv A outer s H E hr => (ss_one (ss_ret (se_cB call_len ok_len rfl T.n_len (by decide +kernel) (sa_cons (se_lc mkL_ok (own := [("x", 1)]) rfl sc__law_pc_least.nd (si_seq (se_var (i := 0) rfl (.inl rfl))) (blkOk_by (N := ["values", "x"]) (sc := defScope (top 29)) (by decide +kernel)) (fun _ _ _ _ _ => (sg_name (i := 1) sc__law_pc_least.nd rfl (.inl rfl) (.inr rfl) (by decide))) (fun _ _ _ _ _ => (sts_one (st_isN (se_var (i := 1) rfl (.inl rfl))))) (fun _ _ _ _ _ => (se_var (i := 1) rfl (.inl rfl)))) sa_nil))))
theorem sc__law_pc_quota : FnScope ["values"] ["values"] (defScope (top 30)) := ⟨rfl, rfl, rfl, by decide +kernel, rfl, by decide +kernel, by decide +kernel⟩
def m__law_pc_quota : DF := dfn 1 (sRet (e2 gSub (eC gLen (aCons (eVar 0) aNil)) (eK (.int 1))))
theorem o__law_pc_quota {Z : Wd} (T : Txt Z) : Own Z "_law_pc_quota" 1 ["values"] m__law_pc_quota := by
  obtain ⟨fd, F⟩ := T.f__law_pc_quota
  exact own_def F T.g__law_pc_quota sc__law_pc_quota (fun _ _ _ _ _ _ us hl => match us, hl with | [_], _ => rfl) fun cdv A outer s H E hr => (ss_one (ss_ret (se_sub (se_cB call_len ok_len rfl T.n_len (by decide +kernel) (sa_cons (se_var (i := 0) rfl (.inl rfl)) sa_nil)) se_int)))
theorem sc__law_pc_sums : FnScope ["kinds", "spans", "least", "full", "values", "many"] ["kinds"] (defScope (top 31)) := ⟨rfl, rfl, rfl, by decide +kernel, rfl, by decide +kernel, by decide +kernel⟩
def m__law_pc_sums : DF := dfn 6 (sSeq (sAsg (eLc mkL (iSeq (eVar 0)) (tT 2 (tCons (tN 4) (tCons (tN 5) tNil))) (tst (e2 gGt (eVar 5) (eK (.int 0)))) (e2 gSub (eCn 1 m__law_pc_quota (aCons (eVar 4) aNil)) (eCn 1 m__law_pc_least (aCons (eVar 4) aNil))) [4, 5]) (tN 1)) (sSeq (sAsg (eC gSum (aCons (eLc mkL (iSeq (eVar 0)) (tT 2 (tCons (tN 4) (tCons (tN 5) tNil))) tYesD (e2 (gMul mkL) (eVar 5) (eCn 1 m__law_pc_least (aCons (eVar 4) aNil))) [4, 5]) aNil)) (tN 2)) (sSeq (sAsg (eC gSum (aCons (eLc mkL (iSeq (eVar 0)) (tT 2 (tCons (tN 4) (tCons (tN 5) tNil))) tYesD (e2 (gMul mkL) (eVar 5) (eCn 1 m__law_pc_quota (aCons (eVar 4) aNil))) [4, 5]) aNil)) (tN 3)) (sRet (eTup (aCons (eC gSum (aCons (eLc mkL (iSeq (eVar 0)) (tT 2 (tCons (tN 4) (tCons (tN 5) tNil))) tYesD (eVar 5) [4, 5]) aNil)) (aCons (eVar 2) (aCons (eVar 3) (aCons (eC gMaxL (aCons (e2 (gAdd mkL) (eLst mkL (aCons (eK (.int 0)) aNil)) (eVar 1)) aNil)) aNil)))))))))
theorem o__law_pc_sums {Z : Wd} (T : Txt Z) : Own Z "_law_pc_sums" 2 ["kinds"] m__law_pc_sums := by
  obtain ⟨fd, F⟩ := T.f__law_pc_sums
  exact own_def F T.g__law_pc_sums sc__law_pc_sums (fun _ _ _ _ _ _ us hl => match us, hl with | [_], _ => rfl) fun cdv A outer s H E hr => (ss_cons (ss_setLc (i := 1) mkL_ok (own := [("values", 4), ("many", 5)]) rfl sc__law_pc_sums.nd rfl rfl (sw_true rfl rfl rfl (by decide +kernel)) (si_seq (se_var (i := 0) rfl (.inl rfl))) (blkOk_by (N := ["kinds", "spans", "least", "full", "values", "many"]) (sc := defScope (top 31)) (by decide +kernel)) (fun _ _ _ _ _ => (sg_tup rfl (sgs_cons (sg_name (i := 4) sc__law_pc_sums.nd rfl (.inl rfl) (.inr rfl) (by decide)) (sgs_cons (sg_name (i := 5) sc__law_pc_sums.nd rfl (.inl rfl) (.inr rfl) (by decide)) sgs_nil)))) (fun _ _ _ _ _ => (sts_one (st_gt (se_var (i := 5) rfl (.inl rfl)) se_int))) (fun _ _ _ _ _ => (se_sub (se_call (o__law_pc_quota T) LamX.takes0 (hr.mono (by decide)) rfl (sa_cons (se_var (i := 4) rfl (.inl rfl)) sa_nil)) (se_call (o__law_pc_least T) LamX.takes0 (hr.mono (by decide)) rfl (sa_cons (se_var (i := 4) rfl (.inl rfl)) sa_nil))))) (ss_cons (ss_asg (vs := [2]) (se_cB (cr_sum rfl) ok_sum rfl T.n_sum (by decide +kernel) (sa_cons (se_lc mkL_ok (own := [("values", 4), ("many", 5)]) rfl sc__law_pc_sums.nd (si_seq (se_var (i := 0) rfl (.inl rfl))) (blkOk_by (N := ["kinds", "spans", "least", "full", "values", "many"]) (sc := defScope (top 31)) (by decide +kernel)) (fun _ _ _ _ _ => (sg_tup rfl (sgs_cons (sg_name (i := 4) sc__law_pc_sums.nd rfl (.inl rfl) (.inr rfl) (by decide)) (sgs_cons (sg_name (i := 5) sc__law_pc_sums.nd rfl (.inl rfl) (.inr rfl) (by decide)) sgs_nil)))) (fun _ _ _ _ _ => sts_nil) (fun _ _ _ _ _ => (se_mul mkL_ok (se_var (i := 5) rfl (.inl rfl)) (se_call (o__law_pc_least T) LamX.takes0 (hr.mono (by decide)) rfl (sa_cons (se_var (i := 4) rfl (.inl rfl)) sa_nil))))) sa_nil)) (sg_name (i := 2) sc__law_pc_sums.nd rfl (.inl rfl) (.inr rfl) (by decide))) (ss_cons (ss_asg (vs := [3]) (se_cB (cr_sum rfl) ok_sum rfl T.n_sum (by decide +kernel) (sa_cons (se_lc mkL_ok (own := [("values", 4), ("many", 5)]) rfl sc__law_pc_sums.nd (si_seq (se_var (i := 0) rfl (.inl rfl))) (blkOk_by (N := ["kinds", "spans", "least", "full", "values", "many"]) (sc := defScope (top 31)) (by decide +kernel)) (fun _ _ _ _ _ => (sg_tup rfl (sgs_cons (sg_name (i := 4) sc__law_pc_sums.nd rfl (.inl rfl) (.inr rfl) (by decide)) (sgs_cons (sg_name (i := 5) sc__law_pc_sums.nd rfl (.inl rfl) (.inr rfl) (by decide)) sgs_nil)))) (fun _ _ _ _ _ => sts_nil) (fun _ _ _ _ _ => (se_mul mkL_ok (se_var (i := 5) rfl (.inl rfl)) (se_call (o__law_pc_quota T) LamX.takes0 (hr.mono (by decide)) rfl (sa_cons (se_var (i := 4) rfl (.inl rfl)) sa_nil))))) sa_nil)) (sg_name (i := 3) sc__law_pc_sums.nd rfl (.inl rfl) (.inr rfl) (by decide))) (ss_one (ss_ret (se_tup (sa_cons (se_cB (cr_sum rfl) ok_sum rfl T.n_sum (by decide +kernel) (sa_cons (se_lc mkL_ok (own := [("values", 4), ("many", 5)]) rfl sc__law_pc_sums.nd (si_seq (se_var (i := 0) rfl (.inl rfl))) (blkOk_by (N := ["kinds", "spans", "least", "full", "values", "many"]) (sc := defScope (top 31)) (by decide +kernel)) (fun _ _ _ _ _ => (sg_tup rfl (sgs_cons (sg_name (i := 4) sc__law_pc_sums.nd rfl (.inl rfl) (.inr rfl) (by decide)) (sgs_cons (sg_name (i := 5) sc__law_pc_sums.nd rfl (.inl rfl) (.inr rfl) (by decide)) sgs_nil)))) (fun _ _ _ _ _ => sts_nil) (fun _ _ _ _ _ => (se_var (i := 5) rfl (.inl rfl)))) sa_nil)) (sa_cons (se_var (i := 2) rfl (.inl rfl)) (sa_cons (se_var (i := 3) rfl (.inl rfl)) (sa_cons (se_cB (cr_max rfl) ok_maxL rfl T.n_max (by decide +kernel) (sa_cons (se_add mkL_ok (se_lst mkL_ok (sa_cons se_int sa_nil)) (se_var (i := 1) rfl (.inl rfl))) sa_nil)) sa_nil))))))))))
theorem sc__law_owed : FnScope ["kinds"] ["kinds"] (defScope (top 36)) := ⟨rfl, rfl, rfl, by decide +kernel, rfl, by decide +kernel, by decide +kernel⟩
def m__law_owed : DF := dfn 1 (sRet (eTup (aCons (eK (.str "told")) (aCons (e2 (gAdd mkL) (eLst mkL (aCons (eC gTuple (aCons (eVar 0) aNil)) aNil)) (eC (gList mkL) (aCons (eCn 1 m__law_pc_sums (aCons (eVar 0) aNil)) aNil))) aNil))))
theorem o__law_owed {Z : Wd} (T : Txt Z) : Own Z "_law_owed" 3 ["kinds"] m__law_owed := by
  obtain ⟨fd, F⟩ := T.f__law_owed
  exact own_def F T.g__law_owed sc__law_owed (fun _ _ _ _ _ _ us hl => match us, hl with | [_], _ => rfl) fun cdv A outer s H E hr => (ss_one (ss_ret (se_tup (sa_cons se_str (sa_cons (se_add mkL_ok (se_lst mkL_ok (sa_cons (se_cT call_tuple_of ok_tuple rfl T.n_tuple (by decide +kernel) (sa_cons (se_var (i := 0) rfl (.inl rfl)) sa_nil)) sa_nil)) (se_cT call_list_of (ok_list mkL_ok) rfl T.n_list (by decide +kernel) (sa_cons (se_call (o__law_pc_sums T) takesD (hr.mono (by decide)) rfl (sa_cons (se_var (i := 0) rfl (.inl rfl)) sa_nil)) sa_nil))) sa_nil)))))
theorem sc__law_with : FnScope ["kinds", "at", "kind"] ["kinds", "at", "kind"] (defScope (top 43)) := ⟨rfl, rfl, rfl, by decide +kernel, rfl, by decide +kernel, by decide +kernel⟩
def m__law_with : DF := dfn 3 (sRet (e2 (gAdd mkL) (e2 (gAdd mkL) (eSl mkL (eVar 0) oNo (oYes (eVar 1))) (eLst mkL (aCons (eVar 2) aNil))) (eSl mkL (eVar 0) (oYes (e2 (gAdd mkL) (eVar 1) (eK (.int 1)))) oNo)))
theorem o__law_with {Z : Wd} (T : Txt Z) : Own Z "_law_with" 1 ["kinds", "at", "kind"] m__law_with := by
  obtain ⟨fd, F⟩ := T.f__law_with
  exact own_def F T.g__law_with sc__law_with (fun _ _ _ _ _ _ us hl => match us, hl with | [_, _, _], _ => rfl) fun cdv A outer s H E hr => (ss_one (ss_ret (se_add mkL_ok (se_add mkL_ok (se_sl mkL_ok (se_var (i := 0) rfl (.inl rfl)) so_none (so_some (se_var (i := 1) rfl (.inl rfl)))) (se_lst mkL_ok (sa_cons (se_var (i := 2) rfl (.inl rfl)) sa_nil))) (se_sl mkL_ok (se_var (i := 0) rfl (.inl rfl)) (so_some (se_add mkL_ok (se_var (i := 1) rfl (.inl rfl)) se_int)) so_none))))
theorem sc__law_yq_is_whole : FnScope ["thing"] ["thing"] (defScope (top 27)) := ⟨rfl, rfl, rfl, by decide +kernel, rfl, by decide +kernel, by decide +kernel⟩
def m__law_yq_is_whole : DF := dfn 1 (sRet (eAnd (e1 (gIsi isSb isTg (.b "int")) (eVar 0)) (e1 gNot (e1 (gIsi isSb isTg (.b "bool")) (eVar 0)))))
theorem o__law_yq_is_whole {Z : Wd} (T : Txt Z) : Own Z "_law_yq_is_whole" 1 ["thing"] m__law_yq_is_whole := by
  obtain ⟨fd, F⟩ := T.f__law_yq_is_whole
  exact own_def F T.g__law_yq_is_whole sc__law_yq_is_whole (fun _ _ _ _ _ _ us hl => match us, hl with | [_], _ => rfl) fun cdv A outer s H E hr => (ss_one (ss_ret (se_and (se_isiB T.kt (by decide) rfl T.n_isinstance rfl T.n_int (by decide +kernel) (se_var (i := 0) rfl (.inl rfl))) (se_one (se_not (se_isiB T.kt (by decide) rfl T.n_isinstance rfl T.n_bool (by decide +kernel) (se_var (i := 0) rfl (.inl rfl))))))))
theorem sc__law_yq_same : FnScope ["heard_one", "owed", "at"] ["heard_one", "owed"] (defScope (top 28)) := ⟨rfl, rfl, rfl, by decide +kernel, rfl, by decide +kernel, by decide +kernel⟩
def b__law_yq_same (r : DF) : DF := dfn 3 (sSeq (sIf (tst (e1 (gIsN false) (eVar 1))) (sRet (e1 (gIsN false) (eVar 0))) sNx) (sSeq (sIf (tst (e1 (gIsi isSb isTg (.b "bool")) (eVar 1))) (sRet (eIf (tst (eVar 1)) (e1 (gIsB true) (eVar 0)) (e1 (gIsB false) (eVar 0)))) sNx) (sSeq (sIf (tst (e1 (gIsi isSb isTg (.b "int")) (eVar 1))) (sRet (eAnd (eCn 1 m__law_yq_is_whole (aCons (eVar 0) aNil)) (e2 gEq (eVar 0) (eVar 1)))) sNx) (sSeq (sIf (tst (e1 (gIsi isSb isTg (.b "str")) (eVar 1))) (sRet (eAnd (e1 (gIsi isSb isTg (.b "str")) (eVar 0)) (e2 gEq (eVar 0) (eVar 1)))) sNx) (sSeq (sIf (tAndD (tNotD (tst (e1 (gIsi isSb isTg (.b "tuple")) (eVar 1)))) (tNotD (tst (e1 (gIsi isSb isTg (.b "list")) (eVar 1))))) (sRet (eC gBool (aCons (e2 gEq (eVar 0) (eVar 1)) aNil))) sNx) (sSeq (sIf (tst (e2 gNe (e1 (gIsi isSb isTg (.b "tuple")) (eVar 1)) (e1 (gIsi isSb isTg (.b "tuple")) (eVar 0)))) (sRet (eK (.bl false))) sNx) (sSeq (sIf (tst (e2 gNe (e1 (gIsi isSb isTg (.b "list")) (eVar 1)) (e1 (gIsi isSb isTg (.b "list")) (eVar 0)))) (sRet (eK (.bl false))) sNx) (sSeq (sIf (tst (e2 gNe (eC gLen (aCons (eVar 0) aNil)) (eC gLen (aCons (eVar 1) aNil)))) (sRet (eK (.bl false))) sNx) (sSeq (sFor (iRng1 (aCons (eC gLen (aCons (eVar 1) aNil)) aNil)) (tN 2) (sIf (tNotD (tst (eCn 2 r (aCons (e2 gIx (eVar 0) (eVar 2)) (aCons (e2 gIx (eVar 1) (eVar 2)) aNil))))) (sRet (eK (.bl false))) sNx)) (sRet (eK (.bl true))))))))))))
def m__law_yq_same : Nat → DF
  | 0 => fun _ _ => .bad
  | n + 1 => b__law_yq_same (m__law_yq_same n)
theorem ob__law_yq_same {Z : Wd} (T : Txt Z) {r : DF} {k : Nat} (ih : Own Z "_law_yq_same" k ["heard_one", "owed"] r) (hk : 1 ≤ k) : Own Z "_law_yq_same" (k + 1) ["heard_one", "owed"] (b__law_yq_same r) := by
  obtain ⟨fd, F⟩ := T.f__law_yq_same
  exact own_def F T.g__law_yq_same sc__law_yq_same (fun _ _ _ _ _ _ us hl => match us, hl with | [_, _], _ => rfl) fun cdv A outer s H E hr => (ss_cons (ss_if (st_isN (se_var (i := 1) rfl (.inl rfl))) (ss_one (ss_ret (se_isN (se_var (i := 0) rfl (.inl rfl))))) ss_nil) (ss_cons (ss_if (st_val (se_isiB T.kt (by decide) rfl T.n_isinstance rfl T.n_bool (by decide +kernel) (se_var (i := 1) rfl (.inl rfl)))) (ss_one (ss_ret (se_if (st_val (se_var (i := 1) rfl (.inl rfl))) (se_isB (se_var (i := 0) rfl (.inl rfl))) (se_isB (se_var (i := 0) rfl (.inl rfl)))))) ss_nil) (ss_cons (ss_if (st_val (se_isiB T.kt (by decide) rfl T.n_isinstance rfl T.n_int (by decide +kernel) (se_var (i := 1) rfl (.inl rfl)))) (ss_one (ss_ret (se_and (se_call (o__law_yq_is_whole T) takesD (hr.mono (by omega)) rfl (sa_cons (se_var (i := 0) rfl (.inl rfl)) sa_nil)) (se_one (se_eq hr.units (se_var (i := 0) rfl (.inl rfl)) (se_var (i := 1) rfl (.inl rfl))))))) ss_nil) (ss_cons (ss_if (st_val (se_isiB T.kt (by decide) rfl T.n_isinstance rfl T.n_str (by decide +kernel) (se_var (i := 1) rfl (.inl rfl)))) (ss_one (ss_ret (se_and (se_isiB T.kt (by decide) rfl T.n_isinstance rfl T.n_str (by decide +kernel) (se_var (i := 0) rfl (.inl rfl))) (se_one (se_eq hr.units (se_var (i := 0) rfl (.inl rfl)) (se_var (i := 1) rfl (.inl rfl))))))) ss_nil) (ss_cons (ss_if (PW.pt (sw_and (st_not (st_val (se_isiB T.kt (by decide) rfl T.n_isinstance rfl T.n_tuple (by decide +kernel) (se_var (i := 1) rfl (.inl rfl))))) (sw_and1 (st_not (st_val (se_isiB T.kt (by decide) rfl T.n_isinstance rfl T.n_list (by decide +kernel) (se_var (i := 1) rfl (.inl rfl)))))))) (ss_one (ss_ret (se_cT call_bool1 ok_bool rfl T.n_bool (by decide +kernel) (sa_cons (se_eq hr.units (se_var (i := 0) rfl (.inl rfl)) (se_var (i := 1) rfl (.inl rfl))) sa_nil)))) ss_nil) (ss_cons (ss_if (st_ne hr.units (se_isiB T.kt (by decide) rfl T.n_isinstance rfl T.n_tuple (by decide +kernel) (se_var (i := 1) rfl (.inl rfl))) (se_isiB T.kt (by decide) rfl T.n_isinstance rfl T.n_tuple (by decide +kernel) (se_var (i := 0) rfl (.inl rfl)))) (ss_one (ss_ret se_bl)) ss_nil) (ss_cons (ss_if (st_ne hr.units (se_isiB T.kt (by decide) rfl T.n_isinstance rfl T.n_list (by decide +kernel) (se_var (i := 1) rfl (.inl rfl))) (se_isiB T.kt (by decide) rfl T.n_isinstance rfl T.n_list (by decide +kernel) (se_var (i := 0) rfl (.inl rfl)))) (ss_one (ss_ret se_bl)) ss_nil) (ss_cons (ss_if (st_ne hr.units (se_cB call_len ok_len rfl T.n_len (by decide +kernel) (sa_cons (se_var (i := 0) rfl (.inl rfl)) sa_nil)) (se_cB call_len ok_len rfl T.n_len (by decide +kernel) (sa_cons (se_var (i := 1) rfl (.inl rfl)) sa_nil))) (ss_one (ss_ret se_bl)) ss_nil) (ss_cons (ss_for (vs := [2]) passD rfl (si_rng1 rfl T.n_range (sa_cons (se_cB call_len ok_len rfl T.n_len (by decide +kernel) (sa_cons (se_var (i := 1) rfl (.inl rfl)) sa_nil)) sa_nil)) (sg_name (i := 2) sc__law_yq_same.nd rfl (.inl rfl) (.inr rfl) (by decide)) (ss_one (ss_if (st_not (st_val (se_call (X := cxD Z _ _ _ _ _ _ _ _ _ _) ih takesD (hr.mono (by omega)) rfl (sa_cons (se_ix (se_var (i := 0) rfl (.inl rfl)) (se_var (i := 2) rfl (.inl rfl))) (sa_cons (se_ix (se_var (i := 1) rfl (.inl rfl)) (se_var (i := 2) rfl (.inl rfl))) sa_nil))))) (ss_one (ss_ret se_bl)) ss_nil))) (ss_one (ss_ret se_bl)))))))))))
theorem o0__law_yq_same {Z : Wd} (T : Txt Z) : ∀ n : Nat, Own Z "_law_yq_same" (2 + n) ["heard_one", "owed"] (m__law_yq_same n)
  | 0 => by
    obtain ⟨fd, F⟩ := T.f__law_yq_same
    exact own_bad F T.g__law_yq_same (fun _ _ _ _ _ _ us hl => match us, hl with | [_, _], _ => rfl)
  | n + 1 => ob__law_yq_same (k := 2 + n) T (o0__law_yq_same T n) (by omega)
theorem o__law_yq_same {Z : Wd} (T : Txt Z) : Own Z "_law_yq_same" 32 ["heard_one", "owed"] (m__law_yq_same 30) := o0__law_yq_same T 30
def m__law_cuts_right_b0 : SF := (sSeq (sAsg (eCn 1 m__law_owed (aCons (eCn 3 m__law_with (aCons (eVar 0) (aCons (eVar 1) (aCons (eTup (aCons (eSl mkL (eVar 2) oNo (oYes (e2 (gAdd mkL) (eVar 6) (eK (.int 1))))) (aCons (eVar 3) aNil))) aNil)))) aNil)) (tN 7)) (sIf (tNotD (tst (eCn 2 (m__law_yq_same 30) (aCons (eCn 3 m__law_heard_cut (aCons (eVar 0) (aCons (eVar 1) (aCons (eVar 6) aNil)))) (aCons (eVar 7) aNil))))) (sRet (eK (.bl false))) sNx))
def m__law_cuts_right_b1 : SF := (sSeq (sAsg (e2 gIx (eVar 0) (eVar 1)) (tT 2 (tCons (tN 2) (tCons (tN 3) tNil)))) (sSeq (sPar 4 5 (aCons (eCn 1 m__law_pc_least (aCons (eVar 2) aNil)) (aCons (eCn 1 m__law_pc_quota (aCons (eVar 2) aNil)) aNil))) (sSeq (sFor (iRng2 (aCons (eVar 4) (aCons (e2 (gAdd mkL) (eVar 5) (eK (.int 1))) aNil))) (tN 6) m__law_cuts_right_b0) (sSeq (sAsg (eLc mkL (iSeq (eLst mkL (aCons (e2 gSub (eVar 4) (eK (.int 1))) (aCons (e2 (gAdd mkL) (eVar 5) (eK (.int 1))) (aCons (eK .non) (aCons (eK (.bl true)) (aCons (eC gStrI (aCons (eVar 4) aNil)) (aCons (e1 gNeg (eK (.int 1))) aNil)))))))) (tN 9) tYesD (eCn 3 m__law_heard_cut (aCons (eVar 0) (aCons (eVar 1) (aCons (eVar 9) aNil)))) [9]) (tN 8)) (sSeq (sAsg (eLst mkL (aCons (e2 gSub (eVar 4) (eK (.int 1))) (aCons (e2 (gAdd mkL) (eVar 5) (eK (.int 1))) (aCons (eK .non) (aCons (eK (.bl true)) (aCons (eC gStrI (aCons (eVar 4) aNil)) (aCons (e1 gNeg (eK (.int 1))) aNil))))))) (tN 7)) (sIf (tNotD (tst (eCn 2 (m__law_yq_same 30) (aCons (eVar 8) (aCons (eLc mkL (iSeq (eVar 7)) (tN 9) tYesD (eTup (aCons (eK (.str "InvalidNumber")) (aCons (eVar 9) aNil))) [9]) aNil))))) (sRet (eK (.bl false))) sNx))))))
theorem sc__law_cuts_right : FnScope ["kinds", "at", "values", "many", "low", "high", "quota", "owed", "said", "odd"] ["kinds"] (defScope (top 44)) := ⟨rfl, rfl, rfl, by decide +kernel, rfl, by decide +kernel, by decide +kernel⟩
def m__law_cuts_right : DF := dfn 10 (sSeq (sFor (iRng1 (aCons (eC gLen (aCons (eVar 0) aNil)) aNil)) (tN 1) m__law_cuts_right_b1) (sSeq (sAsg (eLc mkL (iSeq (eLst mkL (aCons (e1 gNeg (eK (.int 1))) (aCons (eC gLen (aCons (eVar 0) aNil)) (aCons (eK .non) (aCons (eK (.bl true)) (aCons (eK (.str "0")) (aCons (eTup (aCons (eK (.int 0)) aNil)) aNil)))))))) (tN 9) tYesD (eCn 3 m__law_heard_cut (aCons (eVar 0) (aCons (eVar 9) (aCons (eK .non) aNil)))) [9]) (tN 8)) (sRet (eCn 2 (m__law_yq_same 30) (aCons (eVar 8) (aCons (eLc mkL (iSeq (eLst mkL (aCons (e1 gNeg (eK (.int 1))) (aCons (eC gLen (aCons (eVar 0) aNil)) (aCons (eK .non) (aCons (eK (.bl true)) (aCons (eK (.str "0")) (aCons (eTup (aCons (eK (.int 0)) aNil)) aNil)))))))) (tN 9) tYesD (eTup (aCons (eK (.str "InvalidNumber")) (aCons (eVar 9) aNil))) [9]) aNil))))))
theorem o__law_cuts_right {Z : Wd} (T : Txt Z) : Own Z "_law_cuts_right" 33 ["kinds"] m__law_cuts_right := by
  obtain ⟨fd, F⟩ := T.f__law_cuts_right
  exact own_def F T.g__law_cuts_right sc__law_cuts_right (fun _ _ _ _ _ _ us hl => match us, hl with | [_], _ => rfl) fun cdv A outer s H E hr => (ss_cons (ss_for (vs := [1]) passD rfl (si_rng1 rfl T.n_range (sa_cons (se_cB call_len ok_len rfl T.n_len (by decide +kernel) (sa_cons (se_var (i := 0) rfl (.inr (.inl rfl))) sa_nil)) sa_nil)) (sg_name (i := 1) sc__law_cuts_right.nd rfl (.inr rfl) (.inl rfl) (by decide)) (ss_cons (ss_asg (vs := [2, 3]) (se_ix (se_var (i := 0) rfl (.inr (.inl rfl))) (se_var (i := 1) rfl (.inr (.inl rfl)))) (sg_tup rfl (sgs_cons (sg_name (i := 2) sc__law_cuts_right.nd rfl (.inl rfl) (.inr rfl) (by decide)) (sgs_cons (sg_name (i := 3) sc__law_cuts_right.nd rfl (.inl rfl) (.inr rfl) (by decide)) sgs_nil)))) (ss_cons (ss_par (i := 4) (j := 5) rfl sc__law_cuts_right.nd rfl rfl (by decide) rfl rfl (sa_cons (se_call (o__law_pc_least T) takesD (hr.mono (by decide)) rfl (sa_cons (se_var (i := 2) rfl (.inl rfl)) sa_nil)) (sa_cons (se_call (o__law_pc_quota T) takesD (hr.mono (by decide)) rfl (sa_cons (se_var (i := 2) rfl (.inl rfl)) sa_nil)) sa_nil)) (by rfl)) (ss_cons (ss_for (vs := [6]) passD rfl (si_rng2 rfl T.n_range (sa_cons (se_var (i := 4) rfl (.inl rfl)) (sa_cons (se_add mkL_ok (se_var (i := 5) rfl (.inl rfl)) se_int) sa_nil))) (sg_name (i := 6) sc__law_cuts_right.nd rfl (.inl rfl) (.inr rfl) (by decide)) (ss_cons (ss_asg (vs := [7]) (se_call (o__law_owed T) takesD (hr.mono (by decide)) rfl (sa_cons (se_call (o__law_with T) takesD (hr.mono (by decide)) rfl (sa_cons (se_var (i := 0) rfl (.inr (.inl rfl))) (sa_cons (se_var (i := 1) rfl (.inr (.inl rfl))) (sa_cons (se_tup (sa_cons (se_sl mkL_ok (se_var (i := 2) rfl (.inl rfl)) so_none (so_some (se_add mkL_ok (se_var (i := 6) rfl (.inl rfl)) se_int))) (sa_cons (se_var (i := 3) rfl (.inl rfl)) sa_nil))) sa_nil)))) sa_nil)) (sg_name (i := 7) sc__law_cuts_right.nd rfl (.inl rfl) (.inr rfl) (by decide))) (ss_one (ss_if (st_not (st_val (se_call (o__law_yq_same T) takesD (hr.mono (by decide)) rfl (sa_cons (se_call (o__law_heard_cut T) takesD (hr.mono (by decide)) rfl (sa_cons (se_var (i := 0) rfl (.inr (.inl rfl))) (sa_cons (se_var (i := 1) rfl (.inr (.inl rfl))) (sa_cons (se_var (i := 6) rfl (.inl rfl)) sa_nil)))) (sa_cons (se_var (i := 7) rfl (.inl rfl)) sa_nil))))) (ss_one (ss_ret se_bl)) ss_nil)))) (ss_cons (ss_setLc (i := 8) mkL_ok (own := [("odd", 9)]) rfl sc__law_cuts_right.nd rfl rfl (sw_true rfl rfl rfl (by decide +kernel)) (si_seq (se_lst mkL_ok (sa_cons (se_sub (se_var (i := 4) rfl (.inl rfl)) se_int) (sa_cons (se_add mkL_ok (se_var (i := 5) rfl (.inl rfl)) se_int) (sa_cons se_non (sa_cons se_bl (sa_cons (se_cT call_str_int ok_strI rfl T.n_str (by decide +kernel) (sa_cons (se_var (i := 4) rfl (.inl rfl)) sa_nil)) (sa_cons (se_neg se_int) sa_nil)))))))) (blkOk_by (N := ["kinds", "at", "values", "many", "low", "high", "quota", "owed", "said", "odd"]) (sc := defScope (top 44)) (by decide +kernel)) (fun _ _ _ _ _ => (sg_name (i := 9) sc__law_cuts_right.nd rfl (.inl rfl) (.inr rfl) (by decide))) (fun _ _ _ _ _ => sts_nil) (fun _ _ _ _ _ => (se_call (o__law_heard_cut T) LamX.takes0 (hr.mono (by decide)) rfl (sa_cons (se_var (i := 0) rfl (.inr (.inl rfl))) (sa_cons (se_var (i := 1) rfl (.inr (.inl rfl))) (sa_cons (se_var (i := 9) rfl (.inl rfl)) sa_nil)))))) (ss_cons (ss_asg (vs := [7]) (se_lst mkL_ok (sa_cons (se_sub (se_var (i := 4) rfl (.inl rfl)) se_int) (sa_cons (se_add mkL_ok (se_var (i := 5) rfl (.inl rfl)) se_int) (sa_cons se_non (sa_cons se_bl (sa_cons (se_cT call_str_int ok_strI rfl T.n_str (by decide +kernel) (sa_cons (se_var (i := 4) rfl (.inl rfl)) sa_nil)) (sa_cons (se_neg se_int) sa_nil))))))) (sg_name (i := 7) sc__law_cuts_right.nd rfl (.inl rfl) (.inr rfl) (by decide))) (ss_one (ss_if (st_not (st_val (se_call (o__law_yq_same T) takesD (hr.mono (by decide)) rfl (sa_cons (se_var (i := 8) rfl (.inl rfl)) (sa_cons (se_lc mkL_ok (own := [("odd", 9)]) rfl sc__law_cuts_right.nd (si_seq (se_var (i := 7) rfl (.inl rfl))) (blkOk_by (N := ["kinds", "at", "values", "many", "low", "high", "quota", "owed", "said", "odd"]) (sc := defScope (top 44)) (by decide +kernel)) (fun _ _ _ _ _ => (sg_name (i := 9) sc__law_cuts_right.nd rfl (.inl rfl) (.inr rfl) (by decide))) (fun _ _ _ _ _ => sts_nil) (fun _ _ _ _ _ => (se_tup (sa_cons se_str (sa_cons (se_var (i := 9) rfl (.inl rfl)) sa_nil))))) sa_nil))))) (ss_one (ss_ret se_bl)) ss_nil)))))))) (ss_cons (ss_setLc (i := 8) mkL_ok (own := [("odd", 9)]) rfl sc__law_cuts_right.nd rfl rfl (sw_true rfl rfl rfl (by decide +kernel)) (si_seq (se_lst mkL_ok (sa_cons (se_neg se_int) (sa_cons (se_cB call_len ok_len rfl T.n_len (by decide +kernel) (sa_cons (se_var (i := 0) rfl (.inr (.inl rfl))) sa_nil)) (sa_cons se_non (sa_cons se_bl (sa_cons se_str (sa_cons (se_tup (sa_cons se_int sa_nil)) sa_nil)))))))) (blkOk_by (N := ["kinds", "at", "values", "many", "low", "high", "quota", "owed", "said", "odd"]) (sc := defScope (top 44)) (by decide +kernel)) (fun _ _ _ _ _ => (sg_name (i := 9) sc__law_cuts_right.nd rfl (.inl rfl) (.inr rfl) (by decide))) (fun _ _ _ _ _ => sts_nil) (fun _ _ _ _ _ => (se_call (o__law_heard_cut T) LamX.takes0 (hr.mono (by decide)) rfl (sa_cons (se_var (i := 0) rfl (.inr (.inl rfl))) (sa_cons (se_var (i := 9) rfl (.inl rfl)) (sa_cons se_non sa_nil)))))) (ss_one (ss_ret (se_call (o__law_yq_same T) takesD (hr.mono (by decide)) rfl (sa_cons (se_var (i := 8) rfl (.inl rfl)) (sa_cons (se_lc mkL_ok (own := [("odd", 9)]) rfl sc__law_cuts_right.nd (si_seq (se_lst mkL_ok (sa_cons (se_neg se_int) (sa_cons (se_cB call_len ok_len rfl T.n_len (by decide +kernel) (sa_cons (se_var (i := 0) rfl (.inr (.inl rfl))) sa_nil)) (sa_cons se_non (sa_cons se_bl (sa_cons se_str (sa_cons (se_tup (sa_cons se_int sa_nil)) sa_nil)))))))) (blkOk_by (N := ["kinds", "at", "values", "many", "low", "high", "quota", "owed", "said", "odd"]) (sc := defScope (top 44)) (by decide +kernel)) (fun _ _ _ _ _ => (sg_name (i := 9) sc__law_cuts_right.nd rfl (.inl rfl) (.inr rfl) (by decide))) (fun _ _ _ _ _ => sts_nil) (fun _ _ _ _ _ => (se_tup (sa_cons se_str (sa_cons (se_var (i := 9) rfl (.inl rfl)) sa_nil))))) sa_nil)))))))
theorem sc__law_heard_crew : FnScope ["kinds"] ["kinds"] (defScope (top 37)) := ⟨rfl, rfl, rfl, by decide +kernel, rfl, by decide +kernel, by decide +kernel⟩
def m__law_heard_crew : DF := dfn 1 (sRet (eHear isSbE isEx cl__law_heard (eCn 1 m__law_facts (aCons (eMak true "Crew" 2 m_Crew___init__ (aCons (eVar 0) aNil)) aNil))))
theorem o__law_heard_crew {Z : Wd} (T : Txt Z) : Own Z "_law_heard_crew" 9 ["kinds"] m__law_heard_crew := by
  obtain ⟨fd, F⟩ := T.f__law_heard_crew
  obtain ⟨_, hf__law_heard⟩ := T.f__law_heard
  exact own_defL F T.g__law_heard_crew sc__law_heard_crew (fun _ _ _ _ _ _ us hl => match us, hl with | [_], _ => rfl) fun A outer s H E hr => (ss_one (ss_ret (se_hear (k := 6) hf__law_heard T.g__law_heard (FunD.bindsN hf__law_heard (fun _ _ _ _ _ _ us hl => match us, hl with | [_], _ => rfl)) hs__law_heard rfl hv__law_heard (fun _ => rfl) rfl (hd__law_heard T _ rfl rfl) T.ke__law_heard T.l__law_heard_crew rfl rfl (hr.mono (by decide)) rfl (LamX.lamS_by (sc := defScope (top 37)) (by decide +kernel)) (fun A2 outer2 s2 H2 E2 f2 c2 hr => (se_call (o__law_facts T) takesL (hr.mono (by decide)) rfl (sa_cons (se_mak (k_Crew T) takesL (hr.mono (by decide)) rfl (sa_cons (se_var (i := 0) rfl (.inr (.inr rfl))) sa_nil)) sa_nil))))))
theorem sc_Crew_without_kind : FnScope ["self", "kind"] ["self", "kind"] (defScope (cst 22 11)) := ⟨rfl, rfl, rfl, by decide +kernel, rfl, by decide +kernel, by decide +kernel⟩
def m_Crew_without_kind : DF := dfn 2 (sSeq (sDrop (eMet "Crew" "look_at_kind" 2 m_Crew_look_at_kind (eVar 0) (aCons (eVar 1) aNil))) (sSeq (sIf (tst (e2 gEq (eC gLen (aCons (e1 (gFld fl "own_kinds") (eVar 0)) aNil)) (eK (.int 1)))) (sRaise "InvalidCrew" "value" (aCons (eTup aNil) aNil)) sNx) (sRet (eMak true "Crew" 2 m_Crew___init__ (aCons (e2 (gAdd mkL) (eSl mkL (e1 (gFld fl "own_kinds") (eVar 0)) oNo (oYes (eVar 1))) (eSl mkL (e1 (gFld fl "own_kinds") (eVar 0)) (oYes (e2 (gAdd mkL) (eVar 1) (eK (.int 1)))) oNo)) aNil)))))
theorem fn_Crew_without_kind {Z : Wd} (T : Txt Z) : ∃ fd, FunD Z.K "without_kind" "Crew.without_kind" (defArgs (cst 22 11)) (defBody (cst 22 11)) (defScope (cst 22 11)) [] [] (He.ma Z.K (He.ga Z.K "Crew") "without_kind") fd ∧ Z.Fn 7 (He.ma Z.K (He.ga Z.K "Crew") "without_kind") fd ["self", "kind"] m_Crew_without_kind := by
  obtain ⟨fd, F⟩ := T.f_Crew_without_kind
  exact ⟨fd, F, fn_def F sc_Crew_without_kind fun cdv A outer s H E hr => (ss_cons (ss_expr (se_met (t_Crew_look_at_kind T) takesD (hr.mono (by decide)) (se_var (i := 0) rfl (.inl rfl)) (sa_cons (se_var (i := 1) rfl (.inl rfl)) sa_nil))) (ss_cons (ss_if (st_eq hr.units (se_cB call_len ok_len rfl T.n_len (by decide +kernel) (sa_cons (se_fld T.fk (se_var (i := 0) rfl (.inl rfl))) sa_nil)) se_int) (ss_one (ss_raise (x_InvalidCrew T) takesD (hr.mono (by decide)) rfl rfl (sa_cons (se_tup sa_nil) sa_nil))) ss_nil) (ss_one (ss_ret (se_mak (k_Crew T) takesD (hr.mono (by decide)) rfl (sa_cons (se_add mkL_ok (se_sl mkL_ok (se_fld T.fk (se_var (i := 0) rfl (.inl rfl))) so_none (so_some (se_var (i := 1) rfl (.inl rfl)))) (se_sl mkL_ok (se_fld T.fk (se_var (i := 0) rfl (.inl rfl))) (so_some (se_add mkL_ok (se_var (i := 1) rfl (.inl rfl)) se_int)) so_none)) sa_nil))))))⟩
theorem t_Crew_without_kind {Z : Wd} (T : Txt Z) : MetZ Z "Crew" "without_kind" 7 ["self", "kind"] m_Crew_without_kind := by
  obtain ⟨fd, F, h⟩ := fn_Crew_without_kind T
  exact met_of F T.c_Crew T.me_Crew_without_kind (fun _ _ _ _ _ _ us hl => match us, hl with | [_, _], _ => rfl) h
theorem sc__law_heard_less : FnScope ["kinds", "at"] ["kinds", "at"] (defScope (top 42)) := ⟨rfl, rfl, rfl, by decide +kernel, rfl, by decide +kernel, by decide +kernel⟩
def m__law_heard_less : DF := dfn 2 (sRet (eHear isSbE isEx cl__law_heard (eCn 1 m__law_facts (aCons (eMet "Crew" "without_kind" 2 m_Crew_without_kind (eMak true "Crew" 2 m_Crew___init__ (aCons (eVar 0) aNil)) (aCons (eVar 1) aNil)) aNil))))
theorem o__law_heard_less {Z : Wd} (T : Txt Z) : Own Z "_law_heard_less" 10 ["kinds", "at"] m__law_heard_less := by
  obtain ⟨fd, F⟩ := T.f__law_heard_less
  obtain ⟨_, hf__law_heard⟩ := T.f__law_heard
  exact own_defL F T.g__law_heard_less sc__law_heard_less (fun _ _ _ _ _ _ us hl => match us, hl with | [_, _], _ => rfl) fun A outer s H E hr => (ss_one (ss_ret (se_hear (k := 7) hf__law_heard T.g__law_heard (FunD.bindsN hf__law_heard (fun _ _ _ _ _ _ us hl => match us, hl with | [_], _ => rfl)) hs__law_heard rfl hv__law_heard (fun _ => rfl) rfl (hd__law_heard T _ rfl rfl) T.ke__law_heard T.l__law_heard_less rfl rfl (hr.mono (by decide)) rfl (LamX.lamS_by (sc := defScope (top 42)) (by decide +kernel)) (fun A2 outer2 s2 H2 E2 f2 c2 hr => (se_call (o__law_facts T) takesL (hr.mono (by decide)) rfl (sa_cons (se_met (t_Crew_without_kind T) takesL (hr.mono (by decide)) (se_mak (k_Crew T) takesL (hr.mono (by decide)) rfl (sa_cons (se_var (i := 0) rfl (.inr (.inr rfl))) sa_nil)) (sa_cons (se_var (i := 1) rfl (.inr (.inr rfl))) sa_nil)) sa_nil))))))
theorem sc_look_at_many : FnScope ["many"] ["many"] (defScope (top 21)) := ⟨rfl, rfl, rfl, by decide +kernel, rfl, by decide +kernel, by decide +kernel⟩
def m_look_at_many : DF := dfn 1 (sIf (tNotD (tst (eCn 1 m_is_many (aCons (eVar 0) aNil)))) (sRaise "InvalidNumber" "value" (aCons (eVar 0) aNil)) sNx)
theorem o_look_at_many {Z : Wd} (T : Txt Z) : Own Z "look_at_many" 4 ["many"] m_look_at_many := by
  obtain ⟨fd, F⟩ := T.f_look_at_many
  exact own_def F T.g_look_at_many sc_look_at_many (fun _ _ _ _ _ _ us hl => match us, hl with | [_], _ => rfl) fun cdv A outer s H E hr => (ss_one (ss_if (st_not (st_val (se_call (o_is_many T) takesD (hr.mono (by decide)) rfl (sa_cons (se_var (i := 0) rfl (.inl rfl)) sa_nil)))) (ss_one (ss_raise (x_InvalidNumber T) takesD (hr.mono (by decide)) rfl rfl (sa_cons (se_var (i := 0) rfl (.inl rfl)) sa_nil))) ss_nil))
theorem sc_Crew_with_many : FnScope ["self", "kind", "many"] ["self", "kind", "many"] (defScope (cst 22 9)) := ⟨rfl, rfl, rfl, by decide +kernel, rfl, by decide +kernel, by decide +kernel⟩
def m_Crew_with_many : DF := dfn 3 (sSeq (sDrop (eMet "Crew" "look_at_kind" 2 m_Crew_look_at_kind (eVar 0) (aCons (eVar 1) aNil))) (sSeq (sDrop (eCn 1 m_look_at_many (aCons (eVar 2) aNil))) (sRet (eMet "Crew" "changed" 3 m_Crew_changed (eVar 0) (aCons (eVar 1) (aCons (eTup (aCons (e2 gIx (e2 gIx (e1 (gFld fl "own_kinds") (eVar 0)) (eVar 1)) (eK (.int 0))) (aCons (eVar 2) aNil))) aNil))))))
theorem fn_Crew_with_many {Z : Wd} (T : Txt Z) : ∃ fd, FunD Z.K "with_many" "Crew.with_many" (defArgs (cst 22 9)) (defBody (cst 22 9)) (defScope (cst 22 9)) [] [] (He.ma Z.K (He.ga Z.K "Crew") "with_many") fd ∧ Z.Fn 8 (He.ma Z.K (He.ga Z.K "Crew") "with_many") fd ["self", "kind", "many"] m_Crew_with_many := by
  obtain ⟨fd, F⟩ := T.f_Crew_with_many
  exact ⟨fd, F, fn_def F sc_Crew_with_many fun cdv A outer s H E hr => (ss_cons (ss_expr (se_met (t_Crew_look_at_kind T) takesD (hr.mono (by decide)) (se_var (i := 0) rfl (.inl rfl)) (sa_cons (se_var (i := 1) rfl (.inl rfl)) sa_nil))) (ss_cons (ss_expr (se_call (o_look_at_many T) takesD (hr.mono (by decide)) rfl (sa_cons (se_var (i := 2) rfl (.inl rfl)) sa_nil))) (ss_one (ss_ret (se_met (t_Crew_changed T) takesD (hr.mono (by decide)) (se_var (i := 0) rfl (.inl rfl)) (sa_cons (se_var (i := 1) rfl (.inl rfl)) (sa_cons (se_tup (sa_cons (se_ix (se_ix (se_fld T.fk (se_var (i := 0) rfl (.inl rfl))) (se_var (i := 1) rfl (.inl rfl))) se_int) (sa_cons (se_var (i := 2) rfl (.inl rfl)) sa_nil))) sa_nil)))))))⟩
theorem t_Crew_with_many {Z : Wd} (T : Txt Z) : MetZ Z "Crew" "with_many" 8 ["self", "kind", "many"] m_Crew_with_many := by
  obtain ⟨fd, F, h⟩ := fn_Crew_with_many T
  exact met_of F T.c_Crew T.me_Crew_with_many (fun _ _ _ _ _ _ us hl => match us, hl with | [_, _, _], _ => rfl) h
theorem sc__law_heard_many : FnScope ["kinds", "at", "many"] ["kinds", "at", "many"] (defScope (top 40)) := ⟨rfl, rfl, rfl, by decide +kernel, rfl, by decide +kernel, by decide +kernel⟩
def m__law_heard_many : DF := dfn 3 (sRet (eHear isSbE isEx cl__law_heard (eCn 1 m__law_facts (aCons (eMet "Crew" "with_many" 3 m_Crew_with_many (eMak true "Crew" 2 m_Crew___init__ (aCons (eVar 0) aNil)) (aCons (eVar 1) (aCons (eVar 2) aNil))) aNil))))
theorem o__law_heard_many {Z : Wd} (T : Txt Z) : Own Z "_law_heard_many" 11 ["kinds", "at", "many"] m__law_heard_many := by
  obtain ⟨fd, F⟩ := T.f__law_heard_many
  obtain ⟨_, hf__law_heard⟩ := T.f__law_heard
  exact own_defL F T.g__law_heard_many sc__law_heard_many (fun _ _ _ _ _ _ us hl => match us, hl with | [_, _, _], _ => rfl) fun A outer s H E hr => (ss_one (ss_ret (se_hear (k := 8) hf__law_heard T.g__law_heard (FunD.bindsN hf__law_heard (fun _ _ _ _ _ _ us hl => match us, hl with | [_], _ => rfl)) hs__law_heard rfl hv__law_heard (fun _ => rfl) rfl (hd__law_heard T _ rfl rfl) T.ke__law_heard T.l__law_heard_many rfl rfl (hr.mono (by decide)) rfl (LamX.lamS_by (sc := defScope (top 40)) (by decide +kernel)) (fun A2 outer2 s2 H2 E2 f2 c2 hr => (se_call (o__law_facts T) takesL (hr.mono (by decide)) rfl (sa_cons (se_met (t_Crew_with_many T) takesL (hr.mono (by decide)) (se_mak (k_Crew T) takesL (hr.mono (by decide)) rfl (sa_cons (se_var (i := 0) rfl (.inr (.inr rfl))) sa_nil)) (sa_cons (se_var (i := 1) rfl (.inr (.inr rfl))) (sa_cons (se_var (i := 2) rfl (.inr (.inr rfl))) sa_nil))) sa_nil))))))
def m__law_manies_right_b0 : SF := (sSeq (sAsg (eCn 1 m__law_owed (aCons (eCn 3 m__law_with (aCons (eVar 0) (aCons (eVar 1) (aCons (eTup (aCons (e2 gIx (e2 gIx (eVar 0) (eVar 1)) (eK (.int 0))) (aCons (eVar 2) aNil))) aNil)))) aNil)) (tN 3)) (sIf (tNotD (tst (eCn 2 (m__law_yq_same 30) (aCons (eCn 3 m__law_heard_many (aCons (eVar 0) (aCons (eVar 1) (aCons (eVar 2) aNil)))) (aCons (eVar 3) aNil))))) (sRet (eK (.bl false))) sNx))
def m__law_manies_right_b1 : SF := (sSeq (sFor (iSeq (eLst mkL (aCons (eK (.int 0)) (aCons (eK (.int 1)) (aCons (e2 gPow (eK (.int 10)) (eK (.int 30))) (aCons (e2 gSub (e2 gPow (eK (.int 10)) (eK (.int 30))) (eK (.int 1))) aNil)))))) (tN 2) m__law_manies_right_b0) (sSeq (sAsg (eLst mkL (aCons (e1 gNeg (eK (.int 1))) (aCons (e2 (gAdd mkL) (e2 gPow (eK (.int 10)) (eK (.int 30))) (eK (.int 1))) (aCons (eK .non) (aCons (eK (.bl true)) (aCons (eK (.str "1")) (aCons (eTup (aCons (eK (.int 1)) aNil)) aNil))))))) (tN 4)) (sSeq (sAsg (eLc mkL (iSeq (eVar 4)) (tN 7) tYesD (eCn 3 m__law_heard_many (aCons (eVar 0) (aCons (eVar 1) (aCons (eVar 7) aNil)))) [7]) (tN 5)) (sSeq (sIf (tNotD (tst (eCn 2 (m__law_yq_same 30) (aCons (eVar 5) (aCons (eLc mkL (iSeq (eVar 4)) (tN 7) tYesD (eTup (aCons (eK (.str "InvalidNumber")) (aCons (eVar 7) aNil))) [7]) aNil))))) (sRet (eK (.bl false))) sNx) (sSeq (sAsg (e2 (gAdd mkL) (eSl mkL (eVar 0) oNo (oYes (eVar 1))) (eSl mkL (eVar 0) (oYes (e2 (gAdd mkL) (eVar 1) (eK (.int 1)))) oNo)) (tN 6)) (sSeq (sAsg (eIf (tst (e2 gNe (eVar 6) (eLst mkL aNil))) (eCn 1 m__law_owed (aCons (eVar 6) aNil)) (eTup (aCons (eK (.str "InvalidCrew")) (aCons (eTup aNil) aNil)))) (tN 3)) (sIf (tNotD (tst (eCn 2 (m__law_yq_same 30) (aCons (eCn 2 m__law_heard_less (aCons (eVar 0) (aCons (eVar 1) aNil))) (aCons (eVar 3) aNil))))) (sRet (eK (.bl false))) sNx)))))))
theorem sc__law_manies_right : FnScope ["kinds", "at", "many", "owed", "odds", "said", "rest", "odd"] ["kinds"] (defScope (top 46)) := ⟨rfl, rfl, rfl, by decide +kernel, rfl, by decide +kernel, by decide +kernel⟩
def m__law_manies_right : DF := dfn 8 (sSeq (sFor (iRng1 (aCons (eC gLen (aCons (eVar 0) aNil)) aNil)) (tN 1) m__law_manies_right_b1) (sRet (eK (.bl true))))
theorem o__law_manies_right {Z : Wd} (T : Txt Z) : Own Z "_law_manies_right" 33 ["kinds"] m__law_manies_right := by
  obtain ⟨fd, F⟩ := T.f__law_manies_right
  exact own_def F T.g__law_manies_right sc__law_manies_right (fun _ _ _ _ _ _ us hl => match us, hl with | [_], _ => rfl) fun cdv A outer s H E hr => (ss_cons (ss_for (vs := [1]) passD rfl (si_rng1 rfl T.n_range (sa_cons (se_cB call_len ok_len rfl T.n_len (by decide +kernel) (sa_cons (se_var (i := 0) rfl (.inr (.inl rfl))) sa_nil)) sa_nil)) (sg_name (i := 1) sc__law_manies_right.nd rfl (.inr rfl) (.inl rfl) (by decide)) (ss_cons (ss_for (vs := [2]) passD rfl (si_seq (se_lst mkL_ok (sa_cons se_int (sa_cons se_int (sa_cons (se_pow se_int se_int) (sa_cons (se_sub (se_pow se_int se_int) se_int) sa_nil)))))) (sg_name (i := 2) sc__law_manies_right.nd rfl (.inl rfl) (.inr rfl) (by decide)) (ss_cons (ss_asg (vs := [3]) (se_call (o__law_owed T) takesD (hr.mono (by decide)) rfl (sa_cons (se_call (o__law_with T) takesD (hr.mono (by decide)) rfl (sa_cons (se_var (i := 0) rfl (.inr (.inl rfl))) (sa_cons (se_var (i := 1) rfl (.inr (.inl rfl))) (sa_cons (se_tup (sa_cons (se_ix (se_ix (se_var (i := 0) rfl (.inr (.inl rfl))) (se_var (i := 1) rfl (.inr (.inl rfl)))) se_int) (sa_cons (se_var (i := 2) rfl (.inl rfl)) sa_nil))) sa_nil)))) sa_nil)) (sg_name (i := 3) sc__law_manies_right.nd rfl (.inl rfl) (.inr rfl) (by decide))) (ss_one (ss_if (st_not (st_val (se_call (o__law_yq_same T) takesD (hr.mono (by decide)) rfl (sa_cons (se_call (o__law_heard_many T) takesD (hr.mono (by decide)) rfl (sa_cons (se_var (i := 0) rfl (.inr (.inl rfl))) (sa_cons (se_var (i := 1) rfl (.inr (.inl rfl))) (sa_cons (se_var (i := 2) rfl (.inl rfl)) sa_nil)))) (sa_cons (se_var (i := 3) rfl (.inl rfl)) sa_nil))))) (ss_one (ss_ret se_bl)) ss_nil)))) (ss_cons (ss_asg (vs := [4]) (se_lst mkL_ok (sa_cons (se_neg se_int) (sa_cons (se_add mkL_ok (se_pow se_int se_int) se_int) (sa_cons se_non (sa_cons se_bl (sa_cons se_str (sa_cons (se_tup (sa_cons se_int sa_nil)) sa_nil))))))) (sg_name (i := 4) sc__law_manies_right.nd rfl (.inl rfl) (.inr rfl) (by decide))) (ss_cons (ss_setLc (i := 5) mkL_ok (own := [("odd", 7)]) rfl sc__law_manies_right.nd rfl rfl (sw_true rfl rfl rfl (by decide +kernel)) (si_seq (se_var (i := 4) rfl (.inl rfl))) (blkOk_by (N := ["kinds", "at", "many", "owed", "odds", "said", "rest", "odd"]) (sc := defScope (top 46)) (by decide +kernel)) (fun _ _ _ _ _ => (sg_name (i := 7) sc__law_manies_right.nd rfl (.inl rfl) (.inr rfl) (by decide))) (fun _ _ _ _ _ => sts_nil) (fun _ _ _ _ _ => (se_call (o__law_heard_many T) LamX.takes0 (hr.mono (by decide)) rfl (sa_cons (se_var (i := 0) rfl (.inr (.inl rfl))) (sa_cons (se_var (i := 1) rfl (.inr (.inl rfl))) (sa_cons (se_var (i := 7) rfl (.inl rfl)) sa_nil)))))) (ss_cons (ss_if (st_not (st_val (se_call (o__law_yq_same T) takesD (hr.mono (by decide)) rfl (sa_cons (se_var (i := 5) rfl (.inl rfl)) (sa_cons (se_lc mkL_ok (own := [("odd", 7)]) rfl sc__law_manies_right.nd (si_seq (se_var (i := 4) rfl (.inl rfl))) (blkOk_by (N := ["kinds", "at", "many", "owed", "odds", "said", "rest", "odd"]) (sc := defScope (top 46)) (by decide +kernel)) (fun _ _ _ _ _ => (sg_name (i := 7) sc__law_manies_right.nd rfl (.inl rfl) (.inr rfl) (by decide))) (fun _ _ _ _ _ => sts_nil) (fun _ _ _ _ _ => (se_tup (sa_cons se_str (sa_cons (se_var (i := 7) rfl (.inl rfl)) sa_nil))))) sa_nil))))) (ss_one (ss_ret se_bl)) ss_nil) (ss_cons (ss_asg (vs := [6]) (se_add mkL_ok (se_sl mkL_ok (se_var (i := 0) rfl (.inr (.inl rfl))) so_none (so_some (se_var (i := 1) rfl (.inr (.inl rfl))))) (se_sl mkL_ok (se_var (i := 0) rfl (.inr (.inl rfl))) (so_some (se_add mkL_ok (se_var (i := 1) rfl (.inr (.inl rfl))) se_int)) so_none)) (sg_name (i := 6) sc__law_manies_right.nd rfl (.inl rfl) (.inr rfl) (by decide))) (ss_cons (ss_asg (vs := [3]) (se_if (st_ne hr.units (se_var (i := 6) rfl (.inl rfl)) (se_lst mkL_ok sa_nil)) (se_call (o__law_owed T) takesD (hr.mono (by decide)) rfl (sa_cons (se_var (i := 6) rfl (.inl rfl)) sa_nil)) (se_tup (sa_cons se_str (sa_cons (se_tup sa_nil) sa_nil)))) (sg_name (i := 3) sc__law_manies_right.nd rfl (.inl rfl) (.inr rfl) (by decide))) (ss_one (ss_if (st_not (st_val (se_call (o__law_yq_same T) takesD (hr.mono (by decide)) rfl (sa_cons (se_call (o__law_heard_less T) takesD (hr.mono (by decide)) rfl (sa_cons (se_var (i := 0) rfl (.inr (.inl rfl))) (sa_cons (se_var (i := 1) rfl (.inr (.inl rfl))) sa_nil))) (sa_cons (se_var (i := 3) rfl (.inl rfl)) sa_nil))))) (ss_one (ss_ret se_bl)) ss_nil))))))))) (ss_one (ss_ret se_bl)))
theorem sc_Crew_with_kind : FnScope ["self", "values", "many"] ["self", "values", "many"] (defScope (cst 22 10)) := ⟨rfl, rfl, rfl, by decide +kernel, rfl, by decide +kernel, by decide +kernel⟩
def m_Crew_with_kind : DF := dfn 3 (sSeq (sIf (tNotD (tst (eCn 1 m_is_values (aCons (eVar 1) aNil)))) (sRaise "InvalidCrew" "value" (aCons (eVar 1) aNil)) sNx) (sSeq (sDrop (eCn 1 m_look_at_many (aCons (eVar 2) aNil))) (sSeq (sIf (tst (e2 gEq (eC gLen (aCons (e1 (gFld fl "own_kinds") (eVar 0)) aNil)) (eK c_MOST_KINDS))) (sRaise "TooMany" "limit" (aCons (eK c_MOST_KINDS) aNil)) sNx) (sRet (eMak true "Crew" 2 m_Crew___init__ (aCons (e2 (gAdd mkL) (e1 (gFld fl "own_kinds") (eVar 0)) (eTup (aCons (eTup (aCons (eVar 1) (aCons (eVar 2) aNil))) aNil))) aNil))))))
theorem fn_Crew_with_kind {Z : Wd} (T : Txt Z) : ∃ fd, FunD Z.K "with_kind" "Crew.with_kind" (defArgs (cst 22 10)) (defBody (cst 22 10)) (defScope (cst 22 10)) [] [] (He.ma Z.K (He.ga Z.K "Crew") "with_kind") fd ∧ Z.Fn 7 (He.ma Z.K (He.ga Z.K "Crew") "with_kind") fd ["self", "values", "many"] m_Crew_with_kind := by
  obtain ⟨fd, F⟩ := T.f_Crew_with_kind
  exact ⟨fd, F, fn_def F sc_Crew_with_kind fun cdv A outer s H E hr => (ss_cons (ss_if (st_not (st_val (se_call (o_is_values T) takesD (hr.mono (by decide)) rfl (sa_cons (se_var (i := 1) rfl (.inl rfl)) sa_nil)))) (ss_one (ss_raise (x_InvalidCrew T) takesD (hr.mono (by decide)) rfl rfl (sa_cons (se_var (i := 1) rfl (.inl rfl)) sa_nil))) ss_nil) (ss_cons (ss_expr (se_call (o_look_at_many T) takesD (hr.mono (by decide)) rfl (sa_cons (se_var (i := 2) rfl (.inl rfl)) sa_nil))) (ss_cons (ss_if (st_eq hr.units (se_cB call_len ok_len rfl T.n_len (by decide +kernel) (sa_cons (se_fld T.fk (se_var (i := 0) rfl (.inl rfl))) sa_nil)) (se_gconst T.g_MOST_KINDS rfl)) (ss_one (ss_raise (x_TooMany T) takesD (hr.mono (by decide)) rfl rfl (sa_cons (se_gconst T.g_MOST_KINDS rfl) sa_nil))) ss_nil) (ss_one (ss_ret (se_mak (k_Crew T) takesD (hr.mono (by decide)) rfl (sa_cons (se_add mkL_ok (se_fld T.fk (se_var (i := 0) rfl (.inl rfl))) (se_tup (sa_cons (se_tup (sa_cons (se_var (i := 1) rfl (.inl rfl)) (sa_cons (se_var (i := 2) rfl (.inl rfl)) sa_nil))) sa_nil))) sa_nil)))))))⟩
theorem t_Crew_with_kind {Z : Wd} (T : Txt Z) : MetZ Z "Crew" "with_kind" 7 ["self", "values", "many"] m_Crew_with_kind := by
  obtain ⟨fd, F, h⟩ := fn_Crew_with_kind T
  exact met_of F T.c_Crew T.me_Crew_with_kind (fun _ _ _ _ _ _ us hl => match us, hl with | [_, _, _], _ => rfl) h
theorem sc__law_heard_more : FnScope ["kinds", "values", "many"] ["kinds", "values", "many"] (defScope (top 41)) := ⟨rfl, rfl, rfl, by decide +kernel, rfl, by decide +kernel, by decide +kernel⟩
def m__law_heard_more : DF := dfn 3 (sRet (eHear isSbE isEx cl__law_heard (eCn 1 m__law_facts (aCons (eMet "Crew" "with_kind" 3 m_Crew_with_kind (eMak true "Crew" 2 m_Crew___init__ (aCons (eVar 0) aNil)) (aCons (eVar 1) (aCons (eVar 2) aNil))) aNil))))
theorem o__law_heard_more {Z : Wd} (T : Txt Z) : Own Z "_law_heard_more" 10 ["kinds", "values", "many"] m__law_heard_more := by
  obtain ⟨fd, F⟩ := T.f__law_heard_more
  obtain ⟨_, hf__law_heard⟩ := T.f__law_heard
  exact own_defL F T.g__law_heard_more sc__law_heard_more (fun _ _ _ _ _ _ us hl => match us, hl with | [_, _, _], _ => rfl) fun A outer s H E hr => (ss_one (ss_ret (se_hear (k := 7) hf__law_heard T.g__law_heard (FunD.bindsN hf__law_heard (fun _ _ _ _ _ _ us hl => match us, hl with | [_], _ => rfl)) hs__law_heard rfl hv__law_heard (fun _ => rfl) rfl (hd__law_heard T _ rfl rfl) T.ke__law_heard T.l__law_heard_more rfl rfl (hr.mono (by decide)) rfl (LamX.lamS_by (sc := defScope (top 41)) (by decide +kernel)) (fun A2 outer2 s2 H2 E2 f2 c2 hr => (se_call (o__law_facts T) takesL (hr.mono (by decide)) rfl (sa_cons (se_met (t_Crew_with_kind T) takesL (hr.mono (by decide)) (se_mak (k_Crew T) takesL (hr.mono (by decide)) rfl (sa_cons (se_var (i := 0) rfl (.inr (.inr rfl))) sa_nil)) (sa_cons (se_var (i := 1) rfl (.inr (.inr rfl))) (sa_cons (se_var (i := 2) rfl (.inr (.inr rfl))) sa_nil))) sa_nil))))))
theorem sc__law_take : FnScope ["jar", "many", "found"] ["jar", "many"] (defScope (top 25)) := ⟨rfl, rfl, rfl, by decide +kernel, rfl, by decide +kernel, by decide +kernel⟩
def m__law_take : DF := dfn 3 (sSeq (sIf (tst (e2 gGt (e2 gIx (eVar 0) (eK (.int 0))) (eK (.int 0)))) (sSeq (sAsg (e2 gMod (eC gInt1 (aCons (e2 gIx (eVar 0) (eK (.int 0))) aNil)) (eVar 1)) (tN 2)) (sSeq (sPut (e2 gDiv (e2 gIx (eVar 0) (eK (.int 0))) (eVar 1)) (eVar 0) (eK (.int 0))) (sRet (eVar 2)))) sNx) (sSeq (sPut (e2 (gAdd mkL) (e2 gIx (eVar 0) (eK (.int 2))) (eK (.int 1))) (eVar 0) (eK (.int 2))) (sSeq (sPut (e2 gMod (eC gInt1 (aCons (e2 (gAdd mkL) (e2 (gAdd mkL) (e2 (gMul mkL) (e2 gIx (eVar 0) (eK (.int 1))) (eK (.int 39373))) (e2 (gMul mkL) (eK (.int 7919)) (e2 gIx (eVar 0) (eK (.int 2))))) (eK (.int 7))) aNil)) (eK (.int 2147483647))) (eVar 0) (eK (.int 1))) (sRet (e2 gMod (eC gInt1 (aCons (e2 gDiv (e2 gMod (eC gInt1 (aCons (e2 (gMul mkL) (e2 gIx (eVar 0) (eK (.int 1))) (e2 gIx (eVar 0) (eK (.int 1)))) aNil)) (eK (.int 2147483629))) (eK (.int 32))) aNil)) (eVar 1))))))
theorem o__law_take {Z : Wd} (T : Txt Z) : Own Z "_law_take" 1 ["jar", "many"] m__law_take := by
  obtain ⟨fd, F⟩ := T.f__law_take
  exact own_def F T.g__law_take sc__law_take (fun _ _ _ _ _ _ us hl => match us, hl with | [_, _], _ => rfl) fun cdv A outer s H E hr => (ss_cons (ss_if (st_gt (se_ix (se_var (i := 0) rfl (.inl rfl)) se_int) se_int) (ss_cons (ss_asg (vs := [2]) (se_mod (se_cT call_int1 ok_int1 rfl T.n_int (by decide +kernel) (sa_cons (se_ix (se_var (i := 0) rfl (.inl rfl)) se_int) sa_nil)) (se_var (i := 1) rfl (.inl rfl))) (sg_name (i := 2) sc__law_take.nd rfl (.inl rfl) (.inr rfl) (by decide))) (ss_cons (ss_put (se_div (se_ix (se_var (i := 0) rfl (.inl rfl)) se_int) (se_var (i := 1) rfl (.inl rfl))) (se_var (i := 0) rfl (.inl rfl)) se_int) (ss_one (ss_ret (se_var (i := 2) rfl (.inl rfl)))))) ss_nil) (ss_cons (ss_put (se_add mkL_ok (se_ix (se_var (i := 0) rfl (.inl rfl)) se_int) se_int) (se_var (i := 0) rfl (.inl rfl)) se_int) (ss_cons (ss_put (se_mod (se_cT call_int1 ok_int1 rfl T.n_int (by decide +kernel) (sa_cons (se_add mkL_ok (se_add mkL_ok (se_mul mkL_ok (se_ix (se_var (i := 0) rfl (.inl rfl)) se_int) se_int) (se_mul mkL_ok se_int (se_ix (se_var (i := 0) rfl (.inl rfl)) se_int))) se_int) sa_nil)) se_int) (se_var (i := 0) rfl (.inl rfl)) se_int) (ss_one (ss_ret (se_mod (se_cT call_int1 ok_int1 rfl T.n_int (by decide +kernel) (sa_cons (se_div (se_mod (se_cT call_int1 ok_int1 rfl T.n_int (by decide +kernel) (sa_cons (se_mul mkL_ok (se_ix (se_var (i := 0) rfl (.inl rfl)) se_int) (se_ix (se_var (i := 0) rfl (.inl rfl)) se_int)) sa_nil)) se_int) se_int) sa_nil)) (se_var (i := 1) rfl (.inl rfl))))))))
theorem sc__law_one : FnScope ["jar", "things"] ["jar", "things"] (defScope (top 26)) := ⟨rfl, rfl, rfl, by decide +kernel, rfl, by decide +kernel, by decide +kernel⟩
def m__law_one : DF := dfn 2 (sRet (e2 gIx (eVar 1) (eCn 2 m__law_take (aCons (eVar 0) (aCons (eC gLen (aCons (eVar 1) aNil)) aNil)))))
theorem o__law_one {Z : Wd} (T : Txt Z) : Own Z "_law_one" 2 ["jar", "things"] m__law_one := by
  obtain ⟨fd, F⟩ := T.f__law_one
  exact own_def F T.g__law_one sc__law_one (fun _ _ _ _ _ _ us hl => match us, hl with | [_, _], _ => rfl) fun cdv A outer s H E hr => (ss_one (ss_ret (se_ix (se_var (i := 1) rfl (.inl rfl)) (se_call (o__law_take T) takesD (hr.mono (by decide)) rfl (sa_cons (se_var (i := 0) rfl (.inl rfl)) (sa_cons (se_cB call_len ok_len rfl T.n_len (by decide +kernel) (sa_cons (se_var (i := 1) rfl (.inl rfl)) sa_nil)) sa_nil))))))
def m__law_pc_drawn_values_b0 : SF := (sDrop (eM isLst gAppend (eVar 4) (aCons (e2 (gAdd mkL) (e2 gIx (eVar 4) (e1 gNeg (eK (.int 1)))) (eCn 2 m__law_one (aCons (eVar 0) (aCons (eLst mkL (aCons (eK (.int 0)) (aCons (eK (.int 0)) (aCons (eK (.int 1)) (aCons (eK (.int 2)) (aCons (eK (.int 5)) (aCons (eCn 2 m__law_take (aCons (eVar 0) (aCons (eVar 2) aNil))) aNil))))))) aNil)))) aNil)))
theorem sc__law_pc_drawn_values : FnScope ["jar", "quota", "most", "ahead", "made"] ["jar", "quota", "most"] (defScope (top 32)) := ⟨rfl, rfl, rfl, by decide +kernel, rfl, by decide +kernel, by decide +kernel⟩
def m__law_pc_drawn_values : DF := dfn 5 (sSeq (sAsg (eCn 2 m__law_one (aCons (eVar 0) (aCons (eLst mkL (aCons (eK (.int 0)) (aCons (eK (.int 0)) (aCons (eK (.int 0)) (aCons (eK (.int 1)) (aCons (eK (.int 2)) aNil)))))) aNil))) (tN 3)) (sSeq (sAsg (eC gMin2 (aCons (eC gInt1 (aCons (eVar 3) aNil)) (aCons (eC gInt1 (aCons (eVar 1) aNil)) aNil))) (tN 3)) (sSeq (sAsg (e2 (gAdd mkC) (e2 (gMul mkL) (eLst mkL (aCons (eK .non) aNil)) (eVar 3)) (eLst mkL (aCons (eCn 2 m__law_one (aCons (eVar 0) (aCons (eLst mkL (aCons (eK (.int 0)) (aCons (eK (.int 0)) (aCons (e1 gNeg (eK (.int 3))) (aCons (eK (.int 5)) (aCons (e2 gSub (eCn 2 m__law_take (aCons (eVar 0) (aCons (eK (.int 20)) aNil))) (eK (.int 10))) aNil)))))) aNil))) aNil))) (tN 4)) (sSeq (whileN (tst (e2 gLt (eC gLen (aCons (eVar 4) aNil)) (e2 (gAdd mkL) (eVar 1) (eK (.int 1))))) m__law_pc_drawn_values_b0 fuel) (sSeq (sIce 4) (sRet (eC gTuple (aCons (eVar 4) aNil))))))))
theorem o__law_pc_drawn_values {Z : Wd} (T : Txt Z) : Own Z "_law_pc_drawn_values" 3 ["jar", "quota", "most"] m__law_pc_drawn_values := by
  obtain ⟨fd, F⟩ := T.f__law_pc_drawn_values
  exact own_def F T.g__law_pc_drawn_values sc__law_pc_drawn_values (fun _ _ _ _ _ _ us hl => match us, hl with | [_, _, _], _ => rfl) fun cdv A outer s H E hr => (ss_cons (ss_asg (vs := [3]) (se_call (o__law_one T) takesD (hr.mono (by decide)) rfl (sa_cons (se_var (i := 0) rfl (.inl rfl)) (sa_cons (se_lst mkL_ok (sa_cons se_int (sa_cons se_int (sa_cons se_int (sa_cons se_int (sa_cons se_int sa_nil)))))) sa_nil))) (sg_name (i := 3) sc__law_pc_drawn_values.nd rfl (.inl rfl) (.inr rfl) (by decide))) (ss_cons (ss_asg (vs := [3]) (se_cB (call_min2 rfl) ok_min2 rfl T.n_min (by decide +kernel) (sa_cons (se_cT call_int1 ok_int1 rfl T.n_int (by decide +kernel) (sa_cons (se_var (i := 3) rfl (.inl rfl)) sa_nil)) (sa_cons (se_cT call_int1 ok_int1 rfl T.n_int (by decide +kernel) (sa_cons (se_var (i := 1) rfl (.inl rfl)) sa_nil)) sa_nil))) (sg_name (i := 3) sc__law_pc_drawn_values.nd rfl (.inl rfl) (.inr rfl) (by decide))) (ss_cons (ss_asg (vs := [4]) (se_add mkC_ok (se_mul mkL_ok (se_lst mkL_ok (sa_cons se_non sa_nil)) (se_var (i := 3) rfl (.inl rfl))) (se_lst mkL_ok (sa_cons (se_call (o__law_one T) takesD (hr.mono (by decide)) rfl (sa_cons (se_var (i := 0) rfl (.inl rfl)) (sa_cons (se_lst mkL_ok (sa_cons se_int (sa_cons se_int (sa_cons (se_neg se_int) (sa_cons se_int (sa_cons (se_sub (se_call (o__law_take T) takesD (hr.mono (by decide)) rfl (sa_cons (se_var (i := 0) rfl (.inl rfl)) (sa_cons se_int sa_nil))) se_int) sa_nil)))))) sa_nil))) sa_nil))) (sg_name (i := 4) sc__law_pc_drawn_values.nd rfl (.inl rfl) (.inr rfl) (by decide))) (ss_cons (ss_while fuel passD (st_lt (se_cB call_len ok_len rfl T.n_len (by decide +kernel) (sa_cons (se_var (i := 4) rfl (.inl rfl)) sa_nil)) (se_add mkL_ok (se_var (i := 1) rfl (.inl rfl)) se_int)) (ss_one (ss_expr (se_append (se_var (i := 4) rfl (.inl rfl)) (sa_cons (se_add mkL_ok (se_ix (se_var (i := 4) rfl (.inl rfl)) (se_neg se_int)) (se_call (o__law_one T) takesD (hr.mono (by decide)) rfl (sa_cons (se_var (i := 0) rfl (.inl rfl)) (sa_cons (se_lst mkL_ok (sa_cons se_int (sa_cons se_int (sa_cons se_int (sa_cons se_int (sa_cons se_int (sa_cons (se_call (o__law_take T) takesD (hr.mono (by decide)) rfl (sa_cons (se_var (i := 0) rfl (.inl rfl)) (sa_cons (se_var (i := 2) rfl (.inl rfl)) sa_nil))) sa_nil))))))) sa_nil)))) sa_nil))))) (ss_ice 4 (ss_one (ss_ret (se_cT call_tuple_of ok_tuple rfl T.n_tuple (by decide +kernel) (sa_cons (se_var (i := 4) rfl (.inl rfl)) sa_nil)))))))))
def m__law_more_right_b0 : SF := (sIf (tNotD (tst (eCn 2 (m__law_yq_same 30) (aCons (eCn 3 m__law_heard_more (aCons (eVar 1) (aCons (eVar 5) (aCons (eK .non) aNil)))) (aCons (eTup (aCons (eK (.str "InvalidCrew")) (aCons (eVar 5) aNil))) aNil))))) (sRet (eK (.bl false))) sNx)
theorem sc__law_more_right : FnScope ["jar", "kinds", "values", "owed", "said", "odd"] ["jar", "kinds"] (defScope (top 47)) := ⟨rfl, rfl, rfl, by decide +kernel, rfl, by decide +kernel, by decide +kernel⟩
def m__law_more_right : DF := dfn 6 (sSeq (sAsg (eCn 3 m__law_pc_drawn_values (aCons (eVar 0) (aCons (eCn 2 m__law_take (aCons (eVar 0) (aCons (eK (.int 7)) aNil))) (aCons (eK (.int 9)) aNil)))) (tN 2)) (sSeq (sAsg (eIf (tst (e2 gEq (eC gLen (aCons (eVar 1) aNil)) (eK (.int 3)))) (eTup (aCons (eK (.str "TooMany")) (aCons (eK (.int 3)) aNil))) (eCn 1 m__law_owed (aCons (e2 (gAdd mkL) (eVar 1) (eLst mkL (aCons (eTup (aCons (eVar 2) (aCons (eK (.int 4)) aNil))) aNil))) aNil))) (tN 3)) (sSeq (sAsg (eLst mkL (aCons (eCn 3 m__law_heard_more (aCons (eVar 1) (aCons (eVar 2) (aCons (eK (.int 4)) aNil)))) (aCons (eCn 3 m__law_heard_more (aCons (eVar 1) (aCons (eVar 2) (aCons (e1 gNeg (eK (.int 1))) aNil)))) aNil))) (tN 4)) (sSeq (sIf (tNotD (tst (eCn 2 (m__law_yq_same 30) (aCons (eVar 4) (aCons (eLst mkL (aCons (eVar 3) (aCons (eTup (aCons (eK (.str "InvalidNumber")) (aCons (e1 gNeg (eK (.int 1))) aNil))) aNil))) aNil))))) (sRet (eK (.bl false))) sNx) (sSeq (sFor (iSeq (eLst mkL (aCons (eK .non) (aCons (eTup aNil) (aCons (eTup (aCons (eK .non) aNil)) (aCons (eTup (aCons (eK (.int 3)) (aCons (eK (.int 2)) aNil))) (aCons (eTup (aCons (eK (.int 0)) (aCons (eK .non) aNil))) (aCons (eLst mkL (aCons (eK (.int 0)) (aCons (eK (.int 1)) aNil))) (aCons (eTup (aCons (eK (.bl true)) aNil)) (aCons (e2 (gMul mkL) (eTup (aCons (eK (.int 0)) aNil)) (eK (.int 42))) (aCons (eTup (aCons (eK (.str "0")) aNil)) (aCons (eK (.int 5)) (aCons (eTup (aCons (eK (.int 1)) (aCons (eK .non) (aCons (eK (.int 2)) aNil)))) aNil))))))))))))) (tN 5) m__law_more_right_b0) (sRet (eK (.bl true))))))))
theorem o__law_more_right {Z : Wd} (T : Txt Z) : Own Z "_law_more_right" 33 ["jar", "kinds"] m__law_more_right := by
  obtain ⟨fd, F⟩ := T.f__law_more_right
  exact own_def F T.g__law_more_right sc__law_more_right (fun _ _ _ _ _ _ us hl => match us, hl with | [_, _], _ => rfl) fun cdv A outer s H E hr => (ss_cons (ss_asg (vs := [2]) (se_call (o__law_pc_drawn_values T) takesD (hr.mono (by decide)) rfl (sa_cons (se_var (i := 0) rfl (.inl rfl)) (sa_cons (se_call (o__law_take T) takesD (hr.mono (by decide)) rfl (sa_cons (se_var (i := 0) rfl (.inl rfl)) (sa_cons se_int sa_nil))) (sa_cons se_int sa_nil)))) (sg_name (i := 2) sc__law_more_right.nd rfl (.inl rfl) (.inr rfl) (by decide))) (ss_cons (ss_asg (vs := [3]) (se_if (st_eq hr.units (se_cB call_len ok_len rfl T.n_len (by decide +kernel) (sa_cons (se_var (i := 1) rfl (.inl rfl)) sa_nil)) se_int) (se_tup (sa_cons se_str (sa_cons se_int sa_nil))) (se_call (o__law_owed T) takesD (hr.mono (by decide)) rfl (sa_cons (se_add mkL_ok (se_var (i := 1) rfl (.inl rfl)) (se_lst mkL_ok (sa_cons (se_tup (sa_cons (se_var (i := 2) rfl (.inl rfl)) (sa_cons se_int sa_nil))) sa_nil))) sa_nil))) (sg_name (i := 3) sc__law_more_right.nd rfl (.inl rfl) (.inr rfl) (by decide))) (ss_cons (ss_asg (vs := [4]) (se_lst mkL_ok (sa_cons (se_call (o__law_heard_more T) takesD (hr.mono (by decide)) rfl (sa_cons (se_var (i := 1) rfl (.inl rfl)) (sa_cons (se_var (i := 2) rfl (.inl rfl)) (sa_cons se_int sa_nil)))) (sa_cons (se_call (o__law_heard_more T) takesD (hr.mono (by decide)) rfl (sa_cons (se_var (i := 1) rfl (.inl rfl)) (sa_cons (se_var (i := 2) rfl (.inl rfl)) (sa_cons (se_neg se_int) sa_nil)))) sa_nil))) (sg_name (i := 4) sc__law_more_right.nd rfl (.inl rfl) (.inr rfl) (by decide))) (ss_cons (ss_if (st_not (st_val (se_call (o__law_yq_same T) takesD (hr.mono (by decide)) rfl (sa_cons (se_var (i := 4) rfl (.inl rfl)) (sa_cons (se_lst mkL_ok (sa_cons (se_var (i := 3) rfl (.inl rfl)) (sa_cons (se_tup (sa_cons se_str (sa_cons (se_neg se_int) sa_nil))) sa_nil))) sa_nil))))) (ss_one (ss_ret se_bl)) ss_nil) (ss_cons (ss_for (vs := [5]) passD rfl (si_seq (se_lst mkL_ok (sa_cons se_non (sa_cons (se_tup sa_nil) (sa_cons (se_tup (sa_cons se_non sa_nil)) (sa_cons (se_tup (sa_cons se_int (sa_cons se_int sa_nil))) (sa_cons (se_tup (sa_cons se_int (sa_cons se_non sa_nil))) (sa_cons (se_lst mkL_ok (sa_cons se_int (sa_cons se_int sa_nil))) (sa_cons (se_tup (sa_cons se_bl sa_nil)) (sa_cons (se_mul mkL_ok (se_tup (sa_cons se_int sa_nil)) se_int) (sa_cons (se_tup (sa_cons se_str sa_nil)) (sa_cons se_int (sa_cons (se_tup (sa_cons se_int (sa_cons se_non (sa_cons se_int sa_nil)))) sa_nil))))))))))))) (sg_name (i := 5) sc__law_more_right.nd rfl (.inl rfl) (.inr rfl) (by decide)) (ss_one (ss_if (st_not (st_val (se_call (o__law_yq_same T) takesD (hr.mono (by decide)) rfl (sa_cons (se_call (o__law_heard_more T) takesD (hr.mono (by decide)) rfl (sa_cons (se_var (i := 1) rfl (.inl rfl)) (sa_cons (se_var (i := 5) rfl (.inl rfl)) (sa_cons se_non sa_nil)))) (sa_cons (se_tup (sa_cons se_str (sa_cons (se_var (i := 5) rfl (.inl rfl)) sa_nil))) sa_nil))))) (ss_one (ss_ret se_bl)) ss_nil))) (ss_one (ss_ret se_bl)))))))
def m__law_pc_drawn_b0 : SF := (sSeq (sAsg (eCn 3 m__law_pc_drawn_values (aCons (eVar 0) (aCons (eCn 2 m__law_take (aCons (eVar 0) (aCons (e2 (gAdd mkL) (eVar 1) (eK (.int 1))) aNil))) (aCons (eK (.int 9)) aNil)))) (tN 5)) (sSeq (sIf (tAndD (tst (e2 gNe (eVar 3) (eLst mkL aNil))) (tst (e2 gEq (eCn 2 m__law_take (aCons (eVar 0) (aCons (eK (.int 5)) aNil))) (eK (.int 0))))) (sAsg (eC gTuple (aCons (eLc mkL (iSeq (e2 gIx (e2 gIx (eVar 3) (eK (.int 0))) (eK (.int 0)))) (tN 6) tYesD (eIf (tst (e1 (gIsN false) (eVar 6))) (eK .non) (e2 (gAdd mkL) (eVar 6) (eK (.int 2)))) [6]) aNil)) (tN 5)) sNx) (sDrop (eM isLst gAppend (eVar 3) (aCons (eTup (aCons (eVar 5) (aCons (eCn 2 m__law_one (aCons (eVar 0) (aCons (eVar 2) aNil))) aNil))) aNil)))))
theorem sc__law_pc_drawn : FnScope ["jar", "quota", "many", "made", "go", "values", "x"] ["jar", "quota", "many"] (defScope (top 33)) := ⟨rfl, rfl, rfl, by decide +kernel, rfl, by decide +kernel, by decide +kernel⟩
def m__law_pc_drawn : DF := dfn 7 (sSeq (sAsg (eLst mkC aNil) (tN 3)) (sSeq (sFor (iRng1 (aCons (e2 (gAdd mkL) (eK (.int 1)) (eCn 2 m__law_take (aCons (eVar 0) (aCons (eK (.int 3)) aNil)))) aNil)) (tN 4) m__law_pc_drawn_b0) (sSeq (sIce 3) (sRet (eVar 3)))))
theorem o__law_pc_drawn {Z : Wd} (T : Txt Z) : Own Z "_law_pc_drawn" 4 ["jar", "quota", "many"] m__law_pc_drawn := by
  obtain ⟨fd, F⟩ := T.f__law_pc_drawn
  exact own_def F T.g__law_pc_drawn sc__law_pc_drawn (fun _ _ _ _ _ _ us hl => match us, hl with | [_, _, _], _ => rfl) fun cdv A outer s H E hr => (ss_cons (ss_asg (vs := [3]) (se_lst mkC_ok sa_nil) (sg_name (i := 3) sc__law_pc_drawn.nd rfl (.inl rfl) (.inr rfl) (by decide))) (ss_cons (ss_for (vs := [4]) passD rfl (si_rng1 rfl T.n_range (sa_cons (se_add mkL_ok se_int (se_call (o__law_take T) takesD (hr.mono (by decide)) rfl (sa_cons (se_var (i := 0) rfl (.inl rfl)) (sa_cons se_int sa_nil)))) sa_nil)) (sg_name (i := 4) sc__law_pc_drawn.nd rfl (.inl rfl) (.inr rfl) (by decide)) (ss_cons (ss_asg (vs := [5]) (se_call (o__law_pc_drawn_values T) takesD (hr.mono (by decide)) rfl (sa_cons (se_var (i := 0) rfl (.inl rfl)) (sa_cons (se_call (o__law_take T) takesD (hr.mono (by decide)) rfl (sa_cons (se_var (i := 0) rfl (.inl rfl)) (sa_cons (se_add mkL_ok (se_var (i := 1) rfl (.inl rfl)) se_int) sa_nil))) (sa_cons se_int sa_nil)))) (sg_name (i := 5) sc__law_pc_drawn.nd rfl (.inl rfl) (.inr rfl) (by decide))) (ss_cons (ss_if (PW.pt (sw_and (st_ne hr.units (se_var (i := 3) rfl (.inl rfl)) (se_lst mkL_ok sa_nil)) (sw_and1 (st_eq hr.units (se_call (o__law_take T) takesD (hr.mono (by decide)) rfl (sa_cons (se_var (i := 0) rfl (.inl rfl)) (sa_cons se_int sa_nil))) se_int)))) (ss_one (ss_asg (vs := [5]) (se_cT call_tuple_of ok_tuple rfl T.n_tuple (by decide +kernel) (sa_cons (se_lc mkL_ok (own := [("x", 6)]) rfl sc__law_pc_drawn.nd (si_seq (se_ix (se_ix (se_var (i := 3) rfl (.inl rfl)) se_int) se_int)) (blkOk_by (N := ["jar", "quota", "many", "made", "go", "values", "x"]) (sc := defScope (top 33)) (by decide +kernel)) (fun _ _ _ _ _ => (sg_name (i := 6) sc__law_pc_drawn.nd rfl (.inl rfl) (.inr rfl) (by decide))) (fun _ _ _ _ _ => sts_nil) (fun _ _ _ _ _ => (se_if (st_isN (se_var (i := 6) rfl (.inl rfl))) se_non (se_add mkL_ok (se_var (i := 6) rfl (.inl rfl)) se_int)))) sa_nil)) (sg_name (i := 5) sc__law_pc_drawn.nd rfl (.inl rfl) (.inr rfl) (by decide)))) ss_nil) (ss_one (ss_expr (se_append (se_var (i := 3) rfl (.inl rfl)) (sa_cons (se_tup (sa_cons (se_var (i := 5) rfl (.inl rfl)) (sa_cons (se_call (o__law_one T) takesD (hr.mono (by decide)) rfl (sa_cons (se_var (i := 0) rfl (.inl rfl)) (sa_cons (se_var (i := 2) rfl (.inl rfl)) sa_nil))) sa_nil))) sa_nil))))))) (ss_ice 3 (ss_one (ss_ret (se_var (i := 3) rfl (.inl rfl)))))))
def m__law_pool_b0 : SF := (sSeq (sAsg (eC gMax2 (aCons (eC gInt1 (aCons (e2 gIx (eVar 0) (eVar 3)) aNil)) (aCons (eC gInt1 (aCons (e2 gSub (e1 gNeg (eK (.int 1))) (e2 gIx (eVar 0) (eVar 3))) aNil)) aNil))) (tN 4)) (sSeq (sAsg (e2 gMod (eC gInt1 (aCons (e2 (gAdd mkL) (e2 (gAdd mkL) (e2 (gMul mkL) (eVar 2) (eK (.int 48271))) (e2 gMod (eVar 4) (eK (.int 2147483629)))) (eK (.int 11))) aNil)) (eK (.int 2147483647))) (tN 2)) (sAsg (eIf (tAndD (tst (e2 gGe (eVar 4) (e2 gPow (eK (.int 10)) (eK (.int 12))))) (tst (e2 gLt (eVar 1) (e2 gPow (eK (.int 10)) (eK (.int 60)))))) (eC gInt1 (aCons (e2 (gAdd mkL) (e2 (gMul mkL) (eVar 1) (e2 gPow (eK (.int 10)) (eK (.int 60)))) (e2 gMod (eVar 4) (e2 gPow (eK (.int 10)) (eK (.int 60))))) aNil)) (eVar 1)) (tN 1))))
theorem sc__law_pool : FnScope ["script", "digits", "stirred", "at", "cell"] ["script"] (defScope (top 24)) := ⟨rfl, rfl, rfl, by decide +kernel, rfl, by decide +kernel, by decide +kernel⟩
def m__law_pool : DF := dfn 5 (sSeq (sAsg (eTup (aCons (eK (.int 0)) (aCons (eK (.int 7)) aNil))) (tT 2 (tCons (tN 1) (tCons (tN 2) tNil)))) (sSeq (sFor (iRng1 (aCons (eC gLen (aCons (eVar 0) aNil)) aNil)) (tN 3) m__law_pool_b0) (sRet (eLst mkC (aCons (eVar 1) (aCons (eVar 2) (aCons (eK (.int 0)) aNil)))))))
theorem o__law_pool {Z : Wd} (T : Txt Z) : Own Z "_law_pool" 1 ["script"] m__law_pool := by
  obtain ⟨fd, F⟩ := T.f__law_pool
  exact own_def F T.g__law_pool sc__law_pool (fun _ _ _ _ _ _ us hl => match us, hl with | [_], _ => rfl) fun cdv A outer s H E hr => (ss_cons (ss_asg (vs := [1, 2]) (se_tup (sa_cons se_int (sa_cons se_int sa_nil))) (sg_tup rfl (sgs_cons (sg_name (i := 1) sc__law_pool.nd rfl (.inl rfl) (.inr rfl) (by decide)) (sgs_cons (sg_name (i := 2) sc__law_pool.nd rfl (.inl rfl) (.inr rfl) (by decide)) sgs_nil)))) (ss_cons (ss_for (vs := [3]) passD rfl (si_rng1 rfl T.n_range (sa_cons (se_cB call_len ok_len rfl T.n_len (by decide +kernel) (sa_cons (se_var (i := 0) rfl (.inl rfl)) sa_nil)) sa_nil)) (sg_name (i := 3) sc__law_pool.nd rfl (.inl rfl) (.inr rfl) (by decide)) (ss_cons (ss_asg (vs := [4]) (se_cB (call_max2 rfl) ok_max2 rfl T.n_max (by decide +kernel) (sa_cons (se_cT call_int1 ok_int1 rfl T.n_int (by decide +kernel) (sa_cons (se_ix (se_var (i := 0) rfl (.inl rfl)) (se_var (i := 3) rfl (.inl rfl))) sa_nil)) (sa_cons (se_cT call_int1 ok_int1 rfl T.n_int (by decide +kernel) (sa_cons (se_sub (se_neg se_int) (se_ix (se_var (i := 0) rfl (.inl rfl)) (se_var (i := 3) rfl (.inl rfl)))) sa_nil)) sa_nil))) (sg_name (i := 4) sc__law_pool.nd rfl (.inl rfl) (.inr rfl) (by decide))) (ss_cons (ss_asg (vs := [2]) (se_mod (se_cT call_int1 ok_int1 rfl T.n_int (by decide +kernel) (sa_cons (se_add mkL_ok (se_add mkL_ok (se_mul mkL_ok (se_var (i := 2) rfl (.inl rfl)) se_int) (se_mod (se_var (i := 4) rfl (.inl rfl)) se_int)) se_int) sa_nil)) se_int) (sg_name (i := 2) sc__law_pool.nd rfl (.inl rfl) (.inr rfl) (by decide))) (ss_one (ss_asg (vs := [1]) (se_if (PW.pt (sw_and (st_ge (se_var (i := 4) rfl (.inl rfl)) (se_pow se_int se_int)) (sw_and1 (st_lt (se_var (i := 1) rfl (.inl rfl)) (se_pow se_int se_int))))) (se_cT call_int1 ok_int1 rfl T.n_int (by decide +kernel) (sa_cons (se_add mkL_ok (se_mul mkL_ok (se_var (i := 1) rfl (.inl rfl)) (se_pow se_int se_int)) (se_mod (se_var (i := 4) rfl (.inl rfl)) (se_pow se_int se_int))) sa_nil)) (se_var (i := 1) rfl (.inl rfl))) (sg_name (i := 1) sc__law_pool.nd rfl (.inl rfl) (.inr rfl) (by decide))))))) (ss_one (ss_ret (se_lst mkC_ok (sa_cons (se_var (i := 1) rfl (.inl rfl)) (sa_cons (se_var (i := 2) rfl (.inl rfl)) (sa_cons se_int sa_nil))))))))
theorem sc_Crew_share : FnScope ["self", "offices", "values", "many"] ["self", "offices"] (defScope (cst 22 13)) := ⟨rfl, rfl, rfl, by decide +kernel, rfl, by decide +kernel, by decide +kernel⟩
def m_Crew_share : DF := dfn 4 (sSeq (sIf (tNotD (tst (eCn 3 m_is_between (aCons (eVar 1) (aCons (eK (.int 1)) (aCons (eK c_MOST_OFFICES) aNil)))))) (sRaise "InvalidNumber" "value" (aCons (eVar 1) aNil)) sNx) (sSeq (sIf (tst (eC gAny (aCons (eLc mkL (iSeq (e1 (gFld fl "own_kinds") (eVar 0))) (tT 2 (tCons (tN 2) (tCons (tN 3) tNil))) tYesD (e2 gNe (e2 gMod (eVar 3) (eVar 1)) (eK (.int 0))) [2, 3]) aNil))) (sRaise "InvalidNumber" "value" (aCons (eVar 1) aNil)) sNx) (sRet (eMak true "Crew" 2 m_Crew___init__ (aCons (eLc mkL (iSeq (e1 (gFld fl "own_kinds") (eVar 0))) (tT 2 (tCons (tN 2) (tCons (tN 3) tNil))) tYesD (eTup (aCons (eVar 2) (aCons (e2 gDiv (eVar 3) (eVar 1)) aNil))) [2, 3]) aNil)))))
theorem fn_Crew_share {Z : Wd} (T : Txt Z) : ∃ fd, FunD Z.K "share" "Crew.share" (defArgs (cst 22 13)) (defBody (cst 22 13)) (defScope (cst 22 13)) [] [] (He.ma Z.K (He.ga Z.K "Crew") "share") fd ∧ Z.Fn 7 (He.ma Z.K (He.ga Z.K "Crew") "share") fd ["self", "offices"] m_Crew_share := by
  obtain ⟨fd, F⟩ := T.f_Crew_share
  exact ⟨fd, F, fn_def F sc_Crew_share fun cdv A outer s H E hr => (ss_cons (ss_if (st_not (st_val (se_call (o_is_between T) takesD (hr.mono (by decide)) rfl (sa_cons (se_var (i := 1) rfl (.inr (.inl rfl))) (sa_cons se_int (sa_cons (se_gconst T.g_MOST_OFFICES rfl) sa_nil)))))) (ss_one (ss_raise (x_InvalidNumber T) takesD (hr.mono (by decide)) rfl rfl (sa_cons (se_var (i := 1) rfl (.inr (.inl rfl))) sa_nil))) ss_nil) (ss_cons (ss_if (st_val (se_cB (cr_any rfl) ok_any rfl T.n_any (by decide +kernel) (sa_cons (se_lc mkL_ok (own := [("values", 2), ("many", 3)]) rfl sc_Crew_share.nd (si_seq (se_fld T.fk (se_var (i := 0) rfl (.inl rfl)))) (blkOk_by (N := ["self", "offices", "values", "many"]) (sc := defScope (cst 22 13)) (by decide +kernel)) (fun _ _ _ _ _ => (sg_tup rfl (sgs_cons (sg_name (i := 2) sc_Crew_share.nd rfl (.inl rfl) (.inr rfl) (by decide)) (sgs_cons (sg_name (i := 3) sc_Crew_share.nd rfl (.inl rfl) (.inr rfl) (by decide)) sgs_nil)))) (fun _ _ _ _ _ => sts_nil) (fun _ _ _ _ _ => (se_ne hr.units (se_mod (se_var (i := 3) rfl (.inl rfl)) (se_var (i := 1) rfl (.inr (.inl rfl)))) se_int))) sa_nil))) (ss_one (ss_raise (x_InvalidNumber T) takesD (hr.mono (by decide)) rfl rfl (sa_cons (se_var (i := 1) rfl (.inr (.inl rfl))) sa_nil))) ss_nil) (ss_one (ss_ret (se_mak (k_Crew T) takesD (hr.mono (by decide)) rfl (sa_cons (se_lc mkL_ok (own := [("values", 2), ("many", 3)]) rfl sc_Crew_share.nd (si_seq (se_fld T.fk (se_var (i := 0) rfl (.inl rfl)))) (blkOk_by (N := ["self", "offices", "values", "many"]) (sc := defScope (cst 22 13)) (by decide +kernel)) (fun _ _ _ _ _ => (sg_tup rfl (sgs_cons (sg_name (i := 2) sc_Crew_share.nd rfl (.inl rfl) (.inr rfl) (by decide)) (sgs_cons (sg_name (i := 3) sc_Crew_share.nd rfl (.inl rfl) (.inr rfl) (by decide)) sgs_nil)))) (fun _ _ _ _ _ => sts_nil) (fun _ _ _ _ _ => (se_tup (sa_cons (se_var (i := 2) rfl (.inl rfl)) (sa_cons (se_div (se_var (i := 3) rfl (.inl rfl)) (se_var (i := 1) rfl (.inr (.inl rfl)))) sa_nil))))) sa_nil))))))⟩
theorem t_Crew_share {Z : Wd} (T : Txt Z) : MetZ Z "Crew" "share" 7 ["self", "offices"] m_Crew_share := by
  obtain ⟨fd, F, h⟩ := fn_Crew_share T
  exact met_of F T.c_Crew T.me_Crew_share (fun _ _ _ _ _ _ us hl => match us, hl with | [_, _], _ => rfl) h
theorem sc__law_heard_share : FnScope ["kinds", "offices"] ["kinds", "offices"] (defScope (top 39)) := ⟨rfl, rfl, rfl, by decide +kernel, rfl, by decide +kernel, by decide +kernel⟩
def m__law_heard_share : DF := dfn 2 (sRet (eHear isSbE isEx cl__law_heard (eCn 1 m__law_facts (aCons (eMet "Crew" "share" 2 m_Crew_share (eMak true "Crew" 2 m_Crew___init__ (aCons (eVar 0) aNil)) (aCons (eVar 1) aNil)) aNil))))
theorem o__law_heard_share {Z : Wd} (T : Txt Z) : Own Z "_law_heard_share" 10 ["kinds", "offices"] m__law_heard_share := by
  obtain ⟨fd, F⟩ := T.f__law_heard_share
  obtain ⟨_, hf__law_heard⟩ := T.f__law_heard
  exact own_defL F T.g__law_heard_share sc__law_heard_share (fun _ _ _ _ _ _ us hl => match us, hl with | [_, _], _ => rfl) fun A outer s H E hr => (ss_one (ss_ret (se_hear (k := 7) hf__law_heard T.g__law_heard (FunD.bindsN hf__law_heard (fun _ _ _ _ _ _ us hl => match us, hl with | [_], _ => rfl)) hs__law_heard rfl hv__law_heard (fun _ => rfl) rfl (hd__law_heard T _ rfl rfl) T.ke__law_heard T.l__law_heard_share rfl rfl (hr.mono (by decide)) rfl (LamX.lamS_by (sc := defScope (top 39)) (by decide +kernel)) (fun A2 outer2 s2 H2 E2 f2 c2 hr => (se_call (o__law_facts T) takesL (hr.mono (by decide)) rfl (sa_cons (se_met (t_Crew_share T) takesL (hr.mono (by decide)) (se_mak (k_Crew T) takesL (hr.mono (by decide)) rfl (sa_cons (se_var (i := 0) rfl (.inr (.inr rfl))) sa_nil)) (sa_cons (se_var (i := 1) rfl (.inr (.inr rfl))) sa_nil)) sa_nil))))))
def m__law_shares_right_b0 : SF := (sSeq (sAsg (eLc mkL (iSeq (eVar 0)) (tT 2 (tCons (tN 5) (tCons (tN 6) tNil))) tYesD (e2 gMod (eVar 6) (eVar 1)) [5, 6]) (tN 2)) (sSeq (sAsg (eTup (aCons (eK (.str "InvalidNumber")) (aCons (eVar 1) aNil))) (tN 3)) (sSeq (sIf (tst (e2 gEq (eC gMaxL (aCons (eLc mkL (iSeq (eVar 2)) (tN 8) tYesD (eC gInt1 (aCons (eVar 8) aNil)) [8]) aNil)) (eK (.int 0)))) (sAsg (eCn 1 m__law_owed (aCons (eLc mkL (iSeq (eVar 0)) (tT 2 (tCons (tN 5) (tCons (tN 6) tNil))) tYesD (eTup (aCons (eVar 5) (aCons (e2 gDiv (eVar 6) (eVar 1)) aNil))) [5, 6]) aNil)) (tN 3)) sNx) (sIf (tNotD (tst (eCn 2 (m__law_yq_same 30) (aCons (eCn 2 m__law_heard_share (aCons (eVar 0) (aCons (eVar 1) aNil))) (aCons (eVar 3) aNil))))) (sRet (eK (.bl false))) sNx))))
theorem sc__law_shares_right : FnScope ["kinds", "offices", "rests", "owed", "odds", "values", "many", "odd", "x"] ["kinds"] (defScope (top 45)) := ⟨rfl, rfl, rfl, by decide +kernel, rfl, by decide +kernel, by decide +kernel⟩
def m__law_shares_right : DF := dfn 9 (sSeq (sFor (iSeq (e2 (gAdd mkL) (eLRg2 mkL (eK (.int 1)) (eK (.int 41))) (eLst mkL (aCons (eK (.int 999)) (aCons (eK (.int 1000)) aNil))))) (tN 1) m__law_shares_right_b0) (sSeq (sAsg (eLst mkL (aCons (eK (.int 0)) (aCons (e1 gNeg (eK (.int 1))) (aCons (eK (.int 1001)) (aCons (eK .non) (aCons (eK (.bl true)) (aCons (eK (.str "2")) (aCons (eTup (aCons (eK (.int 2)) aNil)) (aCons (e2 gPow (eK (.int 10)) (eK (.int 30))) aNil))))))))) (tN 4)) (sRet (eCn 2 (m__law_yq_same 30) (aCons (eLc mkL (iSeq (eVar 4)) (tN 7) tYesD (eCn 2 m__law_heard_share (aCons (eVar 0) (aCons (eVar 7) aNil))) [7]) (aCons (eLc mkL (iSeq (eVar 4)) (tN 7) tYesD (eTup (aCons (eK (.str "InvalidNumber")) (aCons (eVar 7) aNil))) [7]) aNil))))))
theorem o__law_shares_right {Z : Wd} (T : Txt Z) : Own Z "_law_shares_right" 33 ["kinds"] m__law_shares_right := by
  obtain ⟨fd, F⟩ := T.f__law_shares_right
  exact own_def F T.g__law_shares_right sc__law_shares_right (fun _ _ _ _ _ _ us hl => match us, hl with | [_], _ => rfl) fun cdv A outer s H E hr => (ss_cons (ss_for (vs := [1]) passD rfl (si_seq (se_add mkL_ok (se_listRg2 mkL_ok rfl rfl T.n_list rfl T.n_range se_int se_int) (se_lst mkL_ok (sa_cons se_int (sa_cons se_int sa_nil))))) (sg_name (i := 1) sc__law_shares_right.nd rfl (.inr rfl) (.inl rfl) (by decide)) (ss_cons (ss_setLc (i := 2) mkL_ok (own := [("values", 5), ("many", 6)]) rfl sc__law_shares_right.nd rfl rfl (sw_true rfl rfl rfl (by decide +kernel)) (si_seq (se_var (i := 0) rfl (.inr (.inl rfl)))) (blkOk_by (N := ["kinds", "offices", "rests", "owed", "odds", "values", "many", "odd", "x"]) (sc := defScope (top 45)) (by decide +kernel)) (fun _ _ _ _ _ => (sg_tup rfl (sgs_cons (sg_name (i := 5) sc__law_shares_right.nd rfl (.inl rfl) (.inr rfl) (by decide)) (sgs_cons (sg_name (i := 6) sc__law_shares_right.nd rfl (.inl rfl) (.inr rfl) (by decide)) sgs_nil)))) (fun _ _ _ _ _ => sts_nil) (fun _ _ _ _ _ => (se_mod (se_var (i := 6) rfl (.inl rfl)) (se_var (i := 1) rfl (.inr (.inl rfl)))))) (ss_cons (ss_asg (vs := [3]) (se_tup (sa_cons se_str (sa_cons (se_var (i := 1) rfl (.inr (.inl rfl))) sa_nil))) (sg_name (i := 3) sc__law_shares_right.nd rfl (.inl rfl) (.inr rfl) (by decide))) (ss_cons (ss_if (st_eq hr.units (se_cB (cr_max rfl) ok_maxL rfl T.n_max (by decide +kernel) (sa_cons (se_lc mkL_ok (own := [("x", 8)]) rfl sc__law_shares_right.nd (si_seq (se_var (i := 2) rfl (.inl rfl))) (blkOk_by (N := ["kinds", "offices", "rests", "owed", "odds", "values", "many", "odd", "x"]) (sc := defScope (top 45)) (by decide +kernel)) (fun _ _ _ _ _ => (sg_name (i := 8) sc__law_shares_right.nd rfl (.inl rfl) (.inr rfl) (by decide))) (fun _ _ _ _ _ => sts_nil) (fun _ _ _ _ _ => (se_cT call_int1 ok_int1 rfl T.n_int (by decide +kernel) (sa_cons (se_var (i := 8) rfl (.inl rfl)) sa_nil)))) sa_nil)) se_int) (ss_one (ss_asg (vs := [3]) (se_call (o__law_owed T) takesD (hr.mono (by decide)) rfl (sa_cons (se_lc mkL_ok (own := [("values", 5), ("many", 6)]) rfl sc__law_shares_right.nd (si_seq (se_var (i := 0) rfl (.inr (.inl rfl)))) (blkOk_by (N := ["kinds", "offices", "rests", "owed", "odds", "values", "many", "odd", "x"]) (sc := defScope (top 45)) (by decide +kernel)) (fun _ _ _ _ _ => (sg_tup rfl (sgs_cons (sg_name (i := 5) sc__law_shares_right.nd rfl (.inl rfl) (.inr rfl) (by decide)) (sgs_cons (sg_name (i := 6) sc__law_shares_right.nd rfl (.inl rfl) (.inr rfl) (by decide)) sgs_nil)))) (fun _ _ _ _ _ => sts_nil) (fun _ _ _ _ _ => (se_tup (sa_cons (se_var (i := 5) rfl (.inl rfl)) (sa_cons (se_div (se_var (i := 6) rfl (.inl rfl)) (se_var (i := 1) rfl (.inr (.inl rfl)))) sa_nil))))) sa_nil)) (sg_name (i := 3) sc__law_shares_right.nd rfl (.inl rfl) (.inr rfl) (by decide)))) ss_nil) (ss_one (ss_if (st_not (st_val (se_call (o__law_yq_same T) takesD (hr.mono (by decide)) rfl (sa_cons (se_call (o__law_heard_share T) takesD (hr.mono (by decide)) rfl (sa_cons (se_var (i := 0) rfl (.inr (.inl rfl))) (sa_cons (se_var (i := 1) rfl (.inr (.inl rfl))) sa_nil))) (sa_cons (se_var (i := 3) rfl (.inl rfl)) sa_nil))))) (ss_one (ss_ret se_bl)) ss_nil)))))) (ss_cons (ss_asg (vs := [4]) (se_lst mkL_ok (sa_cons se_int (sa_cons (se_neg se_int) (sa_cons se_int (sa_cons se_non (sa_cons se_bl (sa_cons se_str (sa_cons (se_tup (sa_cons se_int sa_nil)) (sa_cons (se_pow se_int se_int) sa_nil))))))))) (sg_name (i := 4) sc__law_shares_right.nd rfl (.inl rfl) (.inr rfl) (by decide))) (ss_one (ss_ret (se_call (o__law_yq_same T) takesD (hr.mono (by decide)) rfl (sa_cons (se_lc mkL_ok (own := [("odd", 7)]) rfl sc__law_shares_right.nd (si_seq (se_var (i := 4) rfl (.inl rfl))) (blkOk_by (N := ["kinds", "offices", "rests", "owed", "odds", "values", "many", "odd", "x"]) (sc := defScope (top 45)) (by decide +kernel)) (fun _ _ _ _ _ => (sg_name (i := 7) sc__law_shares_right.nd rfl (.inl rfl) (.inr rfl) (by decide))) (fun _ _ _ _ _ => sts_nil) (fun _ _ _ _ _ => (se_call (o__law_heard_share T) LamX.takes0 (hr.mono (by decide)) rfl (sa_cons (se_var (i := 0) rfl (.inr (.inl rfl))) (sa_cons (se_var (i := 7) rfl (.inl rfl)) sa_nil))))) (sa_cons (se_lc mkL_ok (own := [("odd", 7)]) rfl sc__law_shares_right.nd (si_seq (se_var (i := 4) rfl (.inl rfl))) (blkOk_by (N := ["kinds", "offices", "rests", "owed", "odds", "values", "many", "odd", "x"]) (sc := defScope (top 45)) (by decide +kernel)) (fun _ _ _ _ _ => (sg_name (i := 7) sc__law_shares_right.nd rfl (.inl rfl) (.inr rfl) (by decide))) (fun _ _ _ _ _ => sts_nil) (fun _ _ _ _ _ => (se_tup (sa_cons se_str (sa_cons (se_var (i := 7) rfl (.inl rfl)) sa_nil))))) sa_nil)))))))
theorem sc_Crew___eq__ : FnScope ["self", "other"] ["self", "other"] (defScope (cst 22 6)) := ⟨rfl, rfl, rfl, by decide +kernel, rfl, by decide +kernel, by decide +kernel⟩
def m_Crew___eq__ : DF := dfn 2 (sRet (eAnd (e1 (gIsi isSb isTg (.o "Crew")) (eVar 1)) (e2 gEq (e1 (gFld fl "own_kinds") (eVar 0)) (e1 (gFld fl "own_kinds") (eVar 1)))))
theorem fn_Crew___eq__ {Z : Wd} (T : Txt Z) : ∃ fd, FunD Z.K "__eq__" "Crew.__eq__" (defArgs (cst 22 6)) (defBody (cst 22 6)) (defScope (cst 22 6)) [] [] (He.ma Z.K (He.ga Z.K "Crew") "__eq__") fd ∧ Z.Fn 1 (He.ma Z.K (He.ga Z.K "Crew") "__eq__") fd ["self", "other"] m_Crew___eq__ := by
  obtain ⟨fd, F⟩ := T.f_Crew___eq__
  exact ⟨fd, F, fn_def F sc_Crew___eq__ fun cdv A outer s H E hr => (ss_one (ss_ret (se_and (se_isiO T.kt (by decide) rfl T.n_isinstance rfl T.g_Crew (se_var (i := 1) rfl (.inl rfl))) (se_one (se_eq hr.units (se_fld T.fk (se_var (i := 0) rfl (.inl rfl))) (se_fld T.fk (se_var (i := 1) rfl (.inl rfl))))))))⟩
theorem q_Crew {Z : Wd} (T : Txt Z) : EqoZ Z "Crew" 1 m_Crew___eq__ := by
  obtain ⟨fd, F, h⟩ := fn_Crew___eq__ T
  exact eqo_of F T.eq_Crew (fun _ _ _ _ _ _ us hl => match us, hl with | [_, _], _ => rfl) h
def m__law_alike_b0 : SF := (sAsg (eMet "Crew" "with_many" 3 m_Crew_with_many (eMet "Crew" "with_kind" 3 m_Crew_with_kind (eVar 1) (aCons (eVar 3) (aCons (eK (.int 0)) aNil))) (aCons (eC gLen (aCons (ePrp "Crew" m_Crew_all_kinds (eVar 1)) aNil)) (aCons (eVar 4) aNil))) (tN 1))
theorem sc__law_alike : FnScope ["kinds", "first", "last", "values", "many"] ["kinds"] (defScope (top 49)) := ⟨rfl, rfl, rfl, by decide +kernel, rfl, by decide +kernel, by decide +kernel⟩
def m__law_alike : DF := dfn 5 (sSeq (sPar 1 2 (aCons (eMak true "Crew" 2 m_Crew___init__ (aCons (eSl mkL (eVar 0) oNo (oYes (eK (.int 1)))) aNil)) (aCons (eMak true "Crew" 2 m_Crew___init__ (aCons (eC gTuple (aCons (eVar 0) aNil)) aNil)) aNil))) (sSeq (sFor (iSeq (eSl mkL (eVar 0) (oYes (eK (.int 1))) oNo)) (tT 2 (tCons (tN 3) (tCons (tN 4) tNil))) m__law_alike_b0) (sRet (eLst mkL (aCons (e2 (gEqo "Crew" false m_Crew___eq__) (eVar 1) (eVar 2)) (aCons (e2 (gEqo "Crew" false m_Crew___eq__) (eMet "Crew" "cut" 3 m_Crew_cut (eVar 2) (aCons (eK (.int 0)) (aCons (eCn 1 m__law_pc_quota (aCons (e2 gIx (e2 gIx (eVar 0) (eK (.int 0))) (eK (.int 0))) aNil)) aNil))) (eVar 1)) (aCons (e2 (gEqo "Crew" true m_Crew___eq__) (eVar 1) (eVar 2)) aNil)))))))
theorem o__law_alike {Z : Wd} (T : Txt Z) : Own Z "_law_alike" 9 ["kinds"] m__law_alike := by
  obtain ⟨fd, F⟩ := T.f__law_alike
  exact own_def F T.g__law_alike sc__law_alike (fun _ _ _ _ _ _ us hl => match us, hl with | [_], _ => rfl) fun cdv A outer s H E hr => (ss_cons (ss_par (i := 1) (j := 2) rfl sc__law_alike.nd rfl rfl (by decide) rfl rfl (sa_cons (se_mak (k_Crew T) takesD (hr.mono (by decide)) rfl (sa_cons (se_sl mkL_ok (se_var (i := 0) rfl (.inl rfl)) so_none (so_some se_int)) sa_nil)) (sa_cons (se_mak (k_Crew T) takesD (hr.mono (by decide)) rfl (sa_cons (se_cT call_tuple_of ok_tuple rfl T.n_tuple (by decide +kernel) (sa_cons (se_var (i := 0) rfl (.inl rfl)) sa_nil)) sa_nil)) sa_nil)) (by rfl)) (ss_cons (ss_for (vs := [3, 4]) passD rfl (si_seq (se_sl mkL_ok (se_var (i := 0) rfl (.inl rfl)) (so_some se_int) so_none)) (sg_tup rfl (sgs_cons (sg_name (i := 3) sc__law_alike.nd rfl (.inl rfl) (.inr rfl) (by decide)) (sgs_cons (sg_name (i := 4) sc__law_alike.nd rfl (.inl rfl) (.inr rfl) (by decide)) sgs_nil))) (ss_one (ss_asg (vs := [1]) (se_met (t_Crew_with_many T) takesD (hr.mono (by decide)) (se_met (t_Crew_with_kind T) takesD (hr.mono (by decide)) (se_var (i := 1) rfl (.inl rfl)) (sa_cons (se_var (i := 3) rfl (.inl rfl)) (sa_cons se_int sa_nil))) (sa_cons (se_cB call_len ok_len rfl T.n_len (by decide +kernel) (sa_cons (se_prp (p_Crew_all_kinds T) (hr.mono (by decide)) (se_var (i := 1) rfl (.inl rfl))) sa_nil)) (sa_cons (se_var (i := 4) rfl (.inl rfl)) sa_nil))) (sg_name (i := 1) sc__law_alike.nd rfl (.inl rfl) (.inr rfl) (by decide))))) (ss_one (ss_ret (se_lst mkL_ok (sa_cons (se_eqo (q_Crew T) (hr.mono (by decide)) (se_var (i := 1) rfl (.inl rfl)) (se_var (i := 2) rfl (.inl rfl))) (sa_cons (se_eqo (q_Crew T) (hr.mono (by decide)) (se_met (t_Crew_cut T) takesD (hr.mono (by decide)) (se_var (i := 2) rfl (.inl rfl)) (sa_cons se_int (sa_cons (se_call (o__law_pc_quota T) takesD (hr.mono (by decide)) rfl (sa_cons (se_ix (se_ix (se_var (i := 0) rfl (.inl rfl)) se_int) se_int) sa_nil)) sa_nil))) (se_var (i := 1) rfl (.inl rfl))) (sa_cons (se_neo (q_Crew T) (hr.mono (by decide)) (se_var (i := 1) rfl (.inl rfl)) (se_var (i := 2) rfl (.inl rfl))) sa_nil))))))))
theorem sc__law_ways_right : FnScope ["kinds", "said"] ["kinds"] (defScope (top 48)) := ⟨rfl, rfl, rfl, by decide +kernel, rfl, by decide +kernel, by decide +kernel⟩
def m__law_ways_right : DF := dfn 2 (sSeq (sAsg (eHear isSbE isEx cl__law_heard (eCn 1 m__law_alike (aCons (eVar 0) aNil))) (tN 1)) (sRet (eCn 2 (m__law_yq_same 30) (aCons (eVar 1) (aCons (eTup (aCons (eK (.str "told")) (aCons (eLst mkL (aCons (eK (.bl true)) (aCons (eK (.bl true)) (aCons (eK (.bl false)) aNil)))) aNil))) aNil)))))
theorem o__law_ways_right {Z : Wd} (T : Txt Z) : Own Z "_law_ways_right" 33 ["kinds"] m__law_ways_right := by
  obtain ⟨fd, F⟩ := T.f__law_ways_right
  obtain ⟨_, hf__law_heard⟩ := T.f__law_heard
  exact own_defL F T.g__law_ways_right sc__law_ways_right (fun _ _ _ _ _ _ us hl => match us, hl with | [_], _ => rfl) fun A outer s H E hr => (ss_cons (ss_asg (vs := [1]) (se_hear (k := 9) hf__law_heard T.g__law_heard (FunD.bindsN hf__law_heard (fun _ _ _ _ _ _ us hl => match us, hl with | [_], _ => rfl)) hs__law_heard rfl hv__law_heard (fun _ => rfl) rfl (hd__law_heard T _ rfl rfl) T.ke__law_heard T.l__law_ways_right rfl rfl (hr.mono (by decide)) rfl (LamX.lamS_by (sc := defScope (top 48)) (by decide +kernel)) (fun A2 outer2 s2 H2 E2 f2 c2 hr => (se_call (o__law_alike T) takesL (hr.mono (by decide)) rfl (sa_cons (se_var (i := 0) rfl (.inr (.inr rfl))) sa_nil)))) (sg_name (i := 1) sc__law_ways_right.nd rfl (.inl rfl) (.inr rfl) (by decide))) (ss_one (ss_ret (se_call (o__law_yq_same T) takesD (hr.mono (by decide)) rfl (sa_cons (se_var (i := 1) rfl (.inl rfl)) (sa_cons (se_tup (sa_cons se_str (sa_cons (se_lst mkL_ok (sa_cons se_bl (sa_cons se_bl (sa_cons se_bl sa_nil)))) sa_nil))) sa_nil))))))
def m_law_b0 : SF := (sSeq (sAsg (eLst mkL (aCons (eTup (aCons (eK (.int 6)) (aCons (eLst mkL (aCons (eK (.int 0)) (aCons (eK (.int 1)) (aCons (eK (.int 2)) (aCons (eK (.int 5)) (aCons (eK (.int 12)) aNil)))))) aNil))) (aCons (eTup (aCons (eK (.int 12)) (aCons (eLst mkL (aCons (eK (.int 0)) (aCons (eK (.int 6)) (aCons (eK (.int 36)) aNil)))) aNil))) (aCons (eTup (aCons (eK (.int 40)) (aCons (eLst mkL (aCons (eK (.int 1)) (aCons (eK (.int 0)) (aCons (eK (.int 720)) aNil)))) aNil))) (aCons (eTup (aCons (eK (.int 4)) (aCons (eLst mkL (aCons (e2 gPow (eK (.int 10)) (eK (.int 30))) (aCons (eK (.int 0)) (aCons (e2 (gMul mkL) (eK (.int 360360)) (e2 gPow (eK (.int 10)) (eK (.int 20)))) aNil)))) aNil))) aNil))))) (tN 3)) (sSeq (sAsg (eCn 2 m__law_one (aCons (eVar 1) (aCons (eVar 3) aNil))) (tT 2 (tCons (tN 4) (tCons (tN 5) tNil)))) (sSeq (sAsg (eCn 3 m__law_pc_drawn (aCons (eVar 1) (aCons (eVar 4) (aCons (eVar 5) aNil)))) (tN 6)) (sSeq (sIf (tNotD (tst (eCn 2 (m__law_yq_same 30) (aCons (eCn 1 m__law_heard_crew (aCons (eVar 6) aNil)) (aCons (eCn 1 m__law_owed (aCons (eVar 6) aNil)) aNil))))) (sRet (eK (.bl false))) sNx) (sSeq (sIf (tOrD (tNotD (tst (eCn 1 m__law_cuts_right (aCons (eVar 6) aNil)))) (tOrD (tNotD (tst (eCn 1 m__law_shares_right (aCons (eVar 6) aNil)))) (tNotD (tst (eCn 1 m__law_manies_right (aCons (eVar 6) aNil)))))) (sRet (eK (.bl false))) sNx) (sIf (tOrD (tNotD (tst (eCn 2 m__law_more_right (aCons (eVar 1) (aCons (eVar 6) aNil))))) (tNotD (tst (eCn 1 m__law_ways_right (aCons (eVar 6) aNil))))) (sRet (eK (.bl false))) sNx))))))
theorem sc_law : FnScope ["script", "jar", "go", "some", "quota", "many", "kinds"] ["script"] (defScope (top 50)) := ⟨rfl, rfl, rfl, by decide +kernel, rfl, by decide +kernel, by decide +kernel⟩
def m_law : DF := dfn 7 (sSeq (sAsg (eCn 1 m__law_pool (aCons (eVar 0) aNil)) (tN 1)) (sSeq (sFor (iRng1 (aCons (eK (.int 9)) aNil)) (tN 2) m_law_b0) (sRet (eK (.bl true)))))
theorem fz_law {Z : Wd} (T : Txt Z) {fd : FuncData} (F : FunD Z.K "law" "law" (defArgs (top 50)) (defBody (top 50)) (defScope (top 50)) [] [] (He.ga Z.K "law") fd) : Z.Fn 34 (He.ga Z.K "law") fd ["script"] m_law := by
  exact fn_def F sc_law fun cdv A outer s H E hr => (ss_cons (ss_asg (vs := [1]) (se_call (o__law_pool T) takesD (hr.mono (by decide)) rfl (sa_cons (se_var (i := 0) rfl (.inl rfl)) sa_nil)) (sg_name (i := 1) sc_law.nd rfl (.inl rfl) (.inr rfl) (by decide))) (ss_cons (ss_for (vs := [2]) passD rfl (si_rng1 rfl T.n_range (sa_cons se_int sa_nil)) (sg_name (i := 2) sc_law.nd rfl (.inl rfl) (.inr rfl) (by decide)) (ss_cons (ss_asg (vs := [3]) (se_lst mkL_ok (sa_cons (se_tup (sa_cons se_int (sa_cons (se_lst mkL_ok (sa_cons se_int (sa_cons se_int (sa_cons se_int (sa_cons se_int (sa_cons se_int sa_nil)))))) sa_nil))) (sa_cons (se_tup (sa_cons se_int (sa_cons (se_lst mkL_ok (sa_cons se_int (sa_cons se_int (sa_cons se_int sa_nil)))) sa_nil))) (sa_cons (se_tup (sa_cons se_int (sa_cons (se_lst mkL_ok (sa_cons se_int (sa_cons se_int (sa_cons se_int sa_nil)))) sa_nil))) (sa_cons (se_tup (sa_cons se_int (sa_cons (se_lst mkL_ok (sa_cons (se_pow se_int se_int) (sa_cons se_int (sa_cons (se_mul mkL_ok se_int (se_pow se_int se_int)) sa_nil)))) sa_nil))) sa_nil))))) (sg_name (i := 3) sc_law.nd rfl (.inl rfl) (.inr rfl) (by decide))) (ss_cons (ss_asg (vs := [4, 5]) (se_call (o__law_one T) takesD (hr.mono (by decide)) rfl (sa_cons (se_var (i := 1) rfl (.inl rfl)) (sa_cons (se_var (i := 3) rfl (.inl rfl)) sa_nil))) (sg_tup rfl (sgs_cons (sg_name (i := 4) sc_law.nd rfl (.inl rfl) (.inr rfl) (by decide)) (sgs_cons (sg_name (i := 5) sc_law.nd rfl (.inl rfl) (.inr rfl) (by decide)) sgs_nil)))) (ss_cons (ss_asg (vs := [6]) (se_call (o__law_pc_drawn T) takesD (hr.mono (by decide)) rfl (sa_cons (se_var (i := 1) rfl (.inl rfl)) (sa_cons (se_var (i := 4) rfl (.inl rfl)) (sa_cons (se_var (i := 5) rfl (.inl rfl)) sa_nil)))) (sg_name (i := 6) sc_law.nd rfl (.inl rfl) (.inr rfl) (by decide))) (ss_cons (ss_if (st_not (st_val (se_call (o__law_yq_same T) takesD (hr.mono (by decide)) rfl (sa_cons (se_call (o__law_heard_crew T) takesD (hr.mono (by decide)) rfl (sa_cons (se_var (i := 6) rfl (.inl rfl)) sa_nil)) (sa_cons (se_call (o__law_owed T) takesD (hr.mono (by decide)) rfl (sa_cons (se_var (i := 6) rfl (.inl rfl)) sa_nil)) sa_nil))))) (ss_one (ss_ret se_bl)) ss_nil) (ss_cons (ss_if (PW.pt (sw_or (st_not (st_val (se_call (o__law_cuts_right T) takesD (hr.mono (by decide)) rfl (sa_cons (se_var (i := 6) rfl (.inl rfl)) sa_nil)))) (sw_or (st_not (st_val (se_call (o__law_shares_right T) takesD (hr.mono (by decide)) rfl (sa_cons (se_var (i := 6) rfl (.inl rfl)) sa_nil)))) (sw_or1 (st_not (st_val (se_call (o__law_manies_right T) takesD (hr.mono (by decide)) rfl (sa_cons (se_var (i := 6) rfl (.inl rfl)) sa_nil)))))))) (ss_one (ss_ret se_bl)) ss_nil) (ss_one (ss_if (PW.pt (sw_or (st_not (st_val (se_call (o__law_more_right T) takesD (hr.mono (by decide)) rfl (sa_cons (se_var (i := 1) rfl (.inl rfl)) (sa_cons (se_var (i := 6) rfl (.inl rfl)) sa_nil))))) (sw_or1 (st_not (st_val (se_call (o__law_ways_right T) takesD (hr.mono (by decide)) rfl (sa_cons (se_var (i := 6) rfl (.inl rfl)) sa_nil))))))) (ss_one (ss_ret se_bl)) ss_nil)))))))) (ss_one (ss_ret se_bl))))
end ZL
end
section
set_option Elab.async false
set_option linter.all false
set_option maxRecDepth 100000
set_option maxHeartbeats 1000000
namespace ZL
open PySem Z
/-! the plain law -/
theorem r_isi (d : D) (S : Store) {t : Tag} (h : tagD S d = some t) (ht : t ∈ isTg) (u : Tag) : gIsi isSb isTg u d S = .ok (.bl (isSub isSb t u)) S := by
  unfold gIsi
  rw [h]
  exact if_pos ht
theorem r_is_integer (d : D) (S : Store) {t : Tag} (h : tagD S d = some t) (ht : t ∈ isTg) : m_is_integer [d] S = .ok (.bl (decide (t = .b "int"))) S := by
  simp only [isTg, List.mem_cons, List.mem_singleton, List.not_mem_nil, or_false] at ht
  rcases ht with rfl | rfl | rfl | rfl | rfl | rfl | rfl <;> simp [m_is_integer, r_isi d S h (by decide), isSub, isSb]
def betw (d : D) (a b : Int) : Bool := match d with
  | .int i => decide (a ≤ i) && decide (i ≤ b)
  | _ => false
def plainD : D → Bool
  | .non | .bl _ | .int _ | .str _ | .tup _ | .lst _ => true
  | _ => false
theorem r_between (d : D) (a b : Int) (S : Store) (h : plainD d = true) : m_is_between [d, .int a, .int b] S = .ok (.bl (betw d a b)) S := by
  have key : ∀ t, tagD S d = some t → t ∈ isTg → (∃ i, d = .int i) ∨ (t ≠ .b "int" ∧ ∀ i, d ≠ .int i) → m_is_between [d, .int a, .int b] S = .ok (.bl (betw d a b)) S := fun t h1 h2 h3 => by
    have q := r_is_integer d S h1 h2
    rcases h3 with ⟨i, rfl⟩ | ⟨h3, h4⟩
    · cases h1
      simp [m_is_between, q, betw]
      by_cases z : a ≤ i <;> simp [z]
    · have e : betw d a b = false := by
        cases d <;> first | rfl | exact absurd rfl (h4 _)
      rw [e]
      simp [m_is_between, q, h3]
  cases d with
  | int i => exact key _ rfl (by decide) (.inl ⟨i, rfl⟩)
  | non => exact key _ rfl (by decide) (.inr ⟨by decide, fun _ z => by cases z⟩)
  | bl b => exact key _ rfl (by decide) (.inr ⟨by decide, fun _ z => by cases z⟩)
  | str b => exact key _ rfl (by decide) (.inr ⟨by decide, fun _ z => by cases z⟩)
  | tup b => exact key _ rfl (by decide) (.inr ⟨by decide, fun _ z => by cases z⟩)
  | lst b => exact key _ rfl (by decide) (.inr ⟨by decide, fun _ z => by cases z⟩)
  | _ => cases h
def vals (a : Nat) (xs : List Int) : List D := List.replicate a D.non ++ xs.map D.int
theorem vals_len (a : Nat) (xs : List Int) : (vals a xs).length = a + xs.length := by simp [vals]
theorem r_least (a : Nat) (xs : List Int) (S : Store) (hx : xs ≠ []) (hl : a + xs.length ≤ 41) : m_least_of [.tup (vals a xs)] S = .ok (.int a) S := by
  have h1 : eLc mkL (iSeq (eVar 0)) (tN 1) tYesD (e1 (gIsN true) (eVar 1)) [1] [some (.tup (vals a xs)), none] S = .ok (.lst ((vals a xs).map fun d => .bl (true != isNon d))) S :=
    eLc_all _ rfl (le_line (by rw [vals_len]; omega)) fun d hd => ⟨_, rfl, rfl⟩
  have h2 : (vals a xs).map (fun d => D.bl (true != isNon d)) = (List.replicate a false ++ List.replicate xs.length true).map D.bl := by
    unfold vals
    rw [List.map_append, List.map_append, map_rep (b := D.bl false) (l := List.replicate a D.non) (fun d hd => by rw [List.eq_of_mem_replicate hd]; rfl), map_rep (b := D.bl true) (l := xs.map D.int) (fun d hd => by obtain ⟨i, _, rfl⟩ := List.mem_map.mp hd; rfl)]
    simp
  have h3 : (List.replicate a false ++ List.replicate xs.length true).findIdx? (· == true) = some a := by
    rw [List.findIdx?_append]
    cases xs with
    | nil => exact absurd rfl hx
    | cons x xs => simp [List.replicate_succ, List.findIdx?_cons]
  rw [h2] at h1
  generalize List.replicate a false ++ List.replicate xs.length true = bs at h1 h3
  have h3 : List.findIdx? (fun x => x) bs = some a := by simpa using h3
  simp [m_least_of, eM, h1, isLst, rd, gIndex, rdB, dBls_map, h3]
theorem r_quota (l : List D) (S : Store) : m_quota_of [.tup l] S = .ok (.int (l.length - 1)) S := by
  simp [m_quota_of]
theorem vals_ne {a : Nat} {xs : List Int} (hx : xs ≠ []) : vals a xs ≠ [] := by
  unfold vals
  simp [hx]
theorem vals_last {a : Nat} {xs : List Int} (hx : xs ≠ []) : L2.atI (vals a xs) (-1) = some (.int (xs.getLast hx)) := by
  rw [atI_last (vals_ne hx)]
  have hm : xs.map D.int ≠ [] := by simpa using hx
  exact congrArg some ((List.getLast_append_of_ne_nil (vals_ne hx) hm).trans (List.getLast_map hm))
theorem vals_drop (a : Nat) (xs : List Int) : (vals a xs).drop a = xs.map D.int := by
  unfold vals
  rw [List.drop_left' (by simp)]
theorem r_is_values (a : Nat) (xs : List Int) (S : Store) (hx : xs ≠ []) (hl : a + xs.length ≤ 41) (hs : xs.Pairwise (· ≤ ·)) : m_is_values [.tup (vals a xs)] S = .ok (.bl true) S := by
  have hlen := vals_len a xs
  have hxl : 0 < xs.length := List.length_pos_iff.mpr hx
  have hix : gIx (.tup (vals a xs)) (.int (-1)) S = .ok (.int (xs.getLast hx)) S := ev_ixT (vals_last hx)
  have hcut : cutD (vals a xs) (some (a : Int)) none = xs.map D.int := by
    rw [cut_from a (by rw [hlen]; omega), vals_drop]
  have h4 : eLc mkL (iSeq (eVar 1)) (tN 3) tYesD (eCn 1 m_is_integer (aCons (eVar 3) aNil)) [3] [some (.tup (vals a xs)), some (.tup (xs.map D.int)), none, none] S = .ok (.lst ((List.replicate xs.length true).map D.bl)) S := by
    rw [show (List.replicate xs.length true).map D.bl = (xs.map D.int).map (fun _ => D.bl true) by rw [rep_bl, map_cst, List.length_map]]
    refine eLc_all _ rfl (le_line (by rw [List.length_map]; omega)) fun d hd => ⟨_, rfl, ?_⟩
    obtain ⟨i, _, rfl⟩ := List.mem_map.mp hd
    simp [wipeD, r_is_integer (.int i) S rfl (by decide)]
  have h5 : eLc mkL (iRng1 (aCons (e2 gSub (eC gLen (aCons (eVar 1) aNil)) (eK (.int 1))) aNil)) (tN 2) tYesD (e2 gLe (e2 gIx (eVar 1) (eVar 2)) (e2 gIx (eVar 1) (e2 (gAdd mkL) (eVar 2) (eK (.int 1))))) [2] [some (.tup (vals a xs)), some (.tup (xs.map D.int)), none, none] S =
      .ok (.lst ((List.replicate (xs.length - 1) true).map D.bl)) S := by
    rw [show (List.replicate (xs.length - 1) true).map D.bl = (rngD 0 (xs.length - 1)).map (fun _ => D.bl true) by rw [rep_bl, map_rng]]
    refine eLc_all _ (iRng1_ok (n := xs.length - 1) (by simp; omega) (by omega)) (le_line (by rw [rngD_len]; omega)) fun d hd => ⟨_, rfl, ?_⟩
    obtain ⟨k, hk, rfl⟩ := mem_rngD hd
    have k1 : k < xs.length := by omega
    have k2 : k + 1 < xs.length := by omega
    have e1 : gIx (.tup (xs.map D.int)) (.int (k : Int)) S = .ok (.int xs[k]) S := ev_ixT (by rw [atI_of (by simpa using k1)]; simp)
    have e2 : gIx (.tup (xs.map D.int)) (.int ((k : Int) + 1)) S = .ok (.int xs[k + 1]) S := ev_ixT (by rw [show (k : Int) + 1 = ((k + 1 : Nat) : Int) by omega, atI_of (by simpa using k2)]; simp)
    simp [wipeD, e1, e2]
    exact List.pairwise_iff_getElem.mp hs k (k + 1) k1 k2 (by omega)
  have h6 := rep_all xs.length
  have h7 := rep_all (xs.length - 1)
  generalize List.replicate xs.length true = b1 at h4 h6
  generalize List.replicate (xs.length - 1) true = b2 at h5 h7
  have c1 : (1 : Int) ≤ (a : Int) + (xs.length : Int) := by omega
  have c2 : (a : Int) + (xs.length : Int) ≤ 41 := by omega
  simp [m_is_values, r_isi (.tup (vals a xs)) S rfl (by decide), isSub, hlen, hix, isNon, r_least a xs S hx hl, hcut, h4, h5, h6, h7, c1, c2]
/-! what is alike is told alike -/
theorem same_ok : ∀ (n : Nat) (d : D) (S : Store), nice n d = true → m__law_yq_same n [d, d] S = .ok (.bl true) S
  | 0, d, S, h => by cases h
  | n + 1, d, S, h => by
    show b__law_yq_same (m__law_yq_same n) [d, d] S = _
    have seqs : ∀ l : List D, l.length ≤ 1000000 → (∀ x ∈ l, nice n x = true) → (∀ i : Nat, (hi : i < l.length) → gIx d (.int (i : Int)) S = .ok l[i] S) →
        ∃ e, sFor (iRng1 (aCons (eC gLen (aCons (eVar 1) aNil)) aNil)) (tN 2) (sIf (tNotD (tst (eCn 2 (m__law_yq_same n) (aCons (e2 gIx (eVar 0) (eVar 2)) (aCons (e2 gIx (eVar 1) (eVar 2)) aNil))))) (sRet (eK (.bl false))) sNx) [some d, some d, none] S = .nx e S ∨ gLen [d] S ≠ .ok (.int l.length) S := by
      intro l hl hn hix
      by_cases hg : gLen [d] S = .ok (.int l.length) S
      · have h1 : iRng1 (aCons (eC gLen (aCons (eVar 1) aNil)) aNil) [some d, some d, none] S = .ok (rngD 0 l.length) S := iRng1_ok (by simp [hg]) hl
        obtain ⟨e, S', q1, q2⟩ := forL_go (g := tN 2) (fb := sIf (tNotD (tst (eCn 2 (m__law_yq_same n) (aCons (e2 gIx (eVar 0) (eVar 2)) (aCons (e2 gIx (eVar 1) (eVar 2)) aNil))))) (sRet (eK (.bl false))) sNx)
          (fun ds e S' => S' = S ∧ (∃ x, e = [some d, some d, x]) ∧ ∀ y ∈ ds, ∃ i : Nat, i < l.length ∧ y = .int (i : Int)) (fun y ds e S' ⟨hS, ⟨x, he⟩, hy⟩ => by
            subst hS he
            obtain ⟨i, hi, rfl⟩ := hy y (List.mem_cons_self ..)
            refine ⟨_, rfl, [some d, some d, some (.int i)], S', .inl ?_, rfl, ⟨_, rfl⟩, fun z hz => hy z (List.mem_cons_of_mem _ hz)⟩
            simp [hix i hi, same_ok n l[i] S' (hn _ (List.getElem_mem hi))]) (rngD 0 l.length) [some d, some d, none] S ⟨rfl, ⟨none, rfl⟩, fun y hy => by
              obtain ⟨k, hk, rfl⟩ := mem_rngD hy
              exact ⟨k, hk, by simp⟩⟩
        obtain ⟨rfl, _, _⟩ := q2
        refine ⟨e, .inl ?_⟩
        show sE (iRng1 _ _ _) _ _ = _
        rw [h1, ev_sE_ok]
        exact q1
      · exact ⟨[], .inr hg⟩
    cases d with
    | non => simp [b__law_yq_same, isNon]
    | bl b => cases b <;> simp [b__law_yq_same, isNon, r_isi (.bl _) S rfl (by decide), isSub]
    | int i => simp [b__law_yq_same, isNon, r_isi (.int i) S rfl (by decide), isSub, m__law_yq_is_whole, isSb]
    | str x => simp [b__law_yq_same, isNon, r_isi (.str x) S rfl (by decide), isSub, isSb, ev_eqS (show PySem.PyData.strOk x = true from h) h]
    | tup l =>
      have h2 : (decide (l.length ≤ 1000000) && l.all (nice n)) = true := h
      simp only [Bool.and_eq_true, decide_eq_true_eq, List.all_eq_true] at h2
      obtain ⟨e, q⟩ := seqs l h2.1 h2.2 fun i hi => ev_ixT (atI_of hi)
      have q := q.resolve_right (fun z => z ev_lenT)
      simp [b__law_yq_same, isNon, r_isi (.tup l) S rfl (by decide), isSub, isSb, q]
    | lst l =>
      have h2 : (decide (l.length ≤ 1000000) && l.all (nice n)) = true := h
      simp only [Bool.and_eq_true, decide_eq_true_eq, List.all_eq_true] at h2
      obtain ⟨e, q⟩ := seqs l h2.1 h2.2 fun i hi => ev_ixL (atI_of hi)
      have q := q.resolve_right (fun z => z ev_lenL)
      simp [b__law_yq_same, isNon, r_isi (.lst l) S rfl (by decide), isSub, isSb, q]
    | _ => cases h
/-! crews -/
structure Kd where
  a : Nat
  xs : List Int
  m : Int
def vt (k : Kd) : D := .tup (vals k.a k.xs)
def dk (k : Kd) : D := .tup [vt k, .int k.m]
structure Good (k : Kd) : Prop where
  ne : k.xs ≠ []
  len : k.a + k.xs.length ≤ 41
  sorted : k.xs.Pairwise (· ≤ ·)
  m0 : 0 ≤ k.m
  m1 : k.m ≤ 1000000000000000000000000000000
theorem r_many (d : D) (S : Store) (h : plainD d = true) : m_is_many [d] S = .ok (.bl (betw d 0 1000000000000000000000000000000)) S := by
  simp [m_is_many, r_between d 0 1000000000000000000000000000000 S h]
theorem atI_two0 {x y : D} : L2.atI [x, y] (0 : Int) = some x := rfl
theorem atI_two1 {x y : D} : L2.atI [x, y] (1 : Int) = some y := rfl
theorem r_is_kind {k : Kd} (g : Good k) (S : Store) : m_is_kind [dk k] S = .ok (.bl true) S := by
  have e0 : gIx (.tup [vt k, .int k.m]) (.int 0) S = .ok (vt k) S := ev_ixT rfl
  have e1 : gIx (.tup [vt k, .int k.m]) (.int 1) S = .ok (.int k.m) S := ev_ixT rfl
  have v := r_is_values k.a k.xs S g.ne g.len g.sorted
  have m := r_many (.int k.m) S rfl
  simp only [vt] at e0 e1
  simp [m_is_kind, dk, vt, r_isi (.tup [.tup (vals k.a k.xs), .int k.m]) S rfl (by decide), isSub, e0, e1, v, m, betw, g.m0, g.m1]
/-- kinds as a list or a tuple -/
def isKs (d : D) (ks : List Kd) : Prop := d = .lst (ks.map dk) ∨ d = .tup (ks.map dk)
def crew (ks : List Kd) : D := .obj "Crew" ["own_kinds"] [.tup (ks.map dk)]
theorem isKs_row {d : D} {ks : List Kd} (h : isKs d ks) (S : Store) : m_is_row [d] S = .ok (.bl true) S := by
  rcases h with rfl | rfl
  · simp [m_is_row]; rfl
  · simp [m_is_row]; rfl
theorem isKs_len {d : D} {ks : List Kd} (h : isKs d ks) (S : Store) : gLen [d] S = .ok (.int ks.length) S := by
  rcases h with rfl | rfl <;> simp
theorem isKs_seq {d : D} {ks : List Kd} (h : isKs d ks) {fe : EF} {env : DEnv} {S S' : Store} (e : fe env S = .ok d S') : iSeq fe env S = .ok (ks.map dk) S' := by
  rcases h with rfl | rfl
  · exact ev_iSeqL e
  · exact ev_iSeqT e
/-- a comprehension over kinds -/
theorem kcomp {fi : RF (List D)} {i j : Nat} {fe : EF} {env : DEnv} {S S1 : Store} {ks : List Kd} (h : Kd → D) (h1 : fi env S = .ok (ks.map dk) S1) (hl : ks.length ≤ 1000000) (H : ∀ k ∈ ks, fe (((wipeD env [i, j]).set i (some (vt k))).set j (some (.int k.m))) S1 = .ok (h k) S1) :
    eLc mkL fi (tT 2 (tCons (tN i) (tCons (tN j) tNil))) tYesD fe [i, j] env S = .ok (.lst (ks.map h)) S1 := eLcA_all dk h h1 hl fun k hk => ⟨_, rfl, H k hk⟩
theorem kcompF {fi : RF (List D)} {i j : Nat} {ft : RF Bool} {fe : EF} {env : DEnv} {S S1 : Store} {ks : List Kd} (p : Kd → Bool) (h : Kd → D) (h1 : fi env S = .ok (ks.map dk) S1) (hl : ks.length ≤ 1000000) (P : ∀ k ∈ ks, ft (((wipeD env [i, j]).set i (some (vt k))).set j (some (.int k.m))) S1 = .ok (p k) S1)
    (H : ∀ k ∈ ks, fe (((wipeD env [i, j]).set i (some (vt k))).set j (some (.int k.m))) S1 = .ok (h k) S1) :
    eLc mkL fi (tT 2 (tCons (tN i) (tCons (tN j) tNil))) ft fe [i, j] env S = .ok (.lst ((ks.filter p).map h)) S1 := by
  rw [eLcA_map dk (fun k => if p k then some (h k) else none) h1 hl fun k hk => ⟨_, rfl, by
    by_cases hp : p k = true
    · exact .inl ⟨h k, by rw [P k hk, hp], H k hk, by simp [hp]⟩
    · exact .inr ⟨by rw [P k hk]; simp [hp], by simp [hp]⟩⟩]
  congr 2
  clear h1 hl P H
  induction ks with
  | nil => rfl
  | cons k ks ih =>
    by_cases hp : p k = true <;> simp [hp, ih]
theorem r_init {d : D} {ks : List Kd} (h : isKs d ks) (g : ∀ k ∈ ks, Good k) (h1 : 1 ≤ ks.length) (h3 : ks.length ≤ 3) (S : Store) (n : Nat) (hn : S[n]? = some (some (.obj "Crew" [] []))) :
    m_Crew___init__ [.cell n, d] S = .ok .non (S.set n (some (.obj "Crew" ["own_kinds"] [.tup (ks.map dk)]))) := by
  have loop : ∃ x, sFor (iSeq (eVar 1)) (tN 2) m_Crew___init___b0 [some (.cell n), some d, none, none, none] S = .nx [some (.cell n), some d, x, none, none] S := by
    obtain ⟨e, S', q1, q2⟩ := forL_go (g := tN 2) (fb := m_Crew___init___b0)
      (fun ds e S' => S' = S ∧ (∃ x, e = [some (.cell n), some d, x, none, none]) ∧ ∀ y ∈ ds, ∃ k ∈ ks, y = dk k) (fun y ds e S' ⟨hS, ⟨x, he⟩, hy⟩ => by
        subst hS he
        obtain ⟨k, hk, rfl⟩ := hy y (List.mem_cons_self ..)
        refine ⟨_, rfl, [some (.cell n), some d, some (dk k), none, none], S', .inl ?_, rfl, ⟨_, rfl⟩, fun z hz => hy z (List.mem_cons_of_mem _ hz)⟩
        simp [m_Crew___init___b0, r_is_kind (g k hk)]) (ks.map dk) [some (.cell n), some d, none, none, none] S ⟨rfl, ⟨none, rfl⟩, fun y hy => by
          obtain ⟨k, hk, rfl⟩ := List.mem_map.mp hy
          exact ⟨k, hk, rfl⟩⟩
    obtain ⟨rfl, ⟨x, rfl⟩, _⟩ := q2
    refine ⟨x, ?_⟩
    show sE (iSeq _ _ _) _ _ = _
    rw [isKs_seq h (ev_var rfl), ev_sE_ok]
    exact q1
  obtain ⟨x, loop⟩ := loop
  have c1 : (1 : Int) ≤ (ks.length : Int) := by omega
  have c2 : (ks.length : Int) ≤ 3 := by omega
  have comp : eLc mkL (iSeq (eVar 1)) (tT 2 (tCons (tN 3) (tCons (tN 4) tNil))) tYesD (eTup (aCons (eVar 3) (aCons (eVar 4) aNil))) [3, 4] [some (.cell n), some d, x, none, none] S = .ok (.lst (ks.map dk)) S :=
    kcomp dk (isKs_seq h (ev_var rfl)) (by omega) fun k hk => by simp [wipeD, dk, lineN]
  simp [m_Crew___init__, isKs_row h S, isKs_len h S, c1, c2, loop, sFld, comp, hn]
  rw [if_pos (show (("Crew" : Str), ("own_kinds" : Str)) ∈ fl by decide)]
  rfl
theorem r_make {d : D} {ks : List Kd} (h : isKs d ks) (g : ∀ k ∈ ks, Good k) (h1 : 1 ≤ ks.length) (h3 : ks.length ≤ 3) {fe : EF} {env : DEnv} {S S1 : Store} (he : fe env S = .ok d S1) :
    eMak true "Crew" 2 m_Crew___init__ (aCons fe aNil) env S = .ok (crew ks) (S1 ++ [none]) := by
  have q := r_init h g h1 h3 (S1 ++ [some (.obj "Crew" [] [])]) S1.length (by simp)
  unfold eMak
  simp [he, q, mkEnd, crew]
theorem r_fld (ks : List Kd) (S : Store) : gFld fl "own_kinds" (crew ks) S = .ok (.tup (ks.map dk)) S := by
  unfold gFld crew
  simp only [oview]
  rw [if_pos (show (("Crew" : Str), ("own_kinds" : Str)) ∈ fl by decide)]
  rfl
theorem r_prp {F : CF} {fo : EF} {env : DEnv} {S S1 : Store} {ks : List Kd} (h : fo env S = .ok (crew ks) S1) : ePrp "Crew" F fo env S = (F [crew ks] S1).noX := by
  unfold ePrp
  rw [h, bind_ok]
  exact if_pos rfl
theorem r_met {m : Str} {n : Nat} {F : CF} {fo : EF} {fa : RF (List D)} {env : DEnv} {S S1 : Store} {ks : List Kd} (h : fo env S = .ok (crew ks) S1) (hm : (("own_kinds" : Str) == m) = false ∧ (m == ("own_kinds" : Str)) = false) :
    eMet "Crew" m n F fo fa env S = (fa env S1).bind fun ds S => if ds.length + 1 = n then F (crew ks :: ds) S else .bad := by
  unfold eMet
  rw [h, bind_ok]
  refine if_pos ⟨rfl, ?_, rfl⟩
  show List.lookup m [(("own_kinds" : Str), D.tup (ks.map dk))] = none
  simp [List.lookup, hm.2]
theorem r_look (ks : List Kd) (d : D) (S : Store) (h : plainD d = true) : m_Crew_look_at_kind [crew ks, d] S = if betw d 0 (ks.length - 1) then .ok .non S else .exc "InvalidNumber" ["value"] [d] S := by
  have q := r_between d 0 ((ks.length : Int) - 1) S h
  simp [m_Crew_look_at_kind, r_fld, q]
  cases betw d 0 ((ks.length : Int) - 1) <;> simp
def qt (k : Kd) : Int := ((vals k.a k.xs).length : Int) - 1
theorem qt_eq (k : Kd) : qt k = (k.a : Int) + (k.xs.length : Int) - 1 := by unfold qt; rw [vals_len]; omega
theorem qt_ge {k : Kd} (g : Good k) : (k.a : Int) ≤ qt k ∧ qt k ≤ 40 := by
  have := g.len
  have := List.length_pos_iff.mpr g.ne
  rw [qt_eq]
  omega
theorem r_qt (k : Kd) (S : Store) : m_quota_of [vt k] S = .ok (.int (qt k)) S := r_quota _ S
theorem r_lt {k : Kd} (g : Good k) (S : Store) : m_least_of [vt k] S = .ok (.int k.a) S := r_least k.a k.xs S g.ne g.len
/-- the sums -/
def spanL (ks : List Kd) : List Int := (ks.filter fun k => decide (0 < k.m)).map fun k => qt k - k.a
def sumsL (ks : List Kd) : List D := [.int (ks.map fun k => k.m).sum, .int (ks.map fun k => (k.a : Int) * k.m).sum, .int (ks.map fun k => qt k * k.m).sum, .int ((spanL ks).foldl max 0)]
def factsD (ks : List Kd) : D := .lst (.tup (ks.map dk) :: sumsL ks)
theorem small_mul {a b : Int} (h1 : a.natAbs ≤ 10 ^ 30) (h2 : b.natAbs ≤ 10 ^ 30) : a.natAbs.log2 + b.natAbs.log2 < 1000000 := by
  have k : ∀ n : Nat, n ≤ 10 ^ 30 → n.log2 < 100 := fun n hn => by
    rcases Nat.eq_zero_or_pos n with rfl | hp
    · decide
    · exact (Nat.log2_lt (by omega)).mpr (Nat.lt_of_le_of_lt hn (by decide))
  have := k _ h1
  have := k _ h2
  omega
theorem mulK {k : Kd} (g : Good k) {q : Int} (h0 : 0 ≤ q) (h1 : q ≤ 40) (S : Store) : gMul mkL (.int q) (.int k.m) S = .ok (.int (q * k.m)) S ∧ gMul mkL (.int k.m) (.int q) S = .ok (.int (k.m * q)) S := by
  have := g.m0
  have := g.m1
  have e1 : q.natAbs ≤ 10 ^ 30 := by omega
  have e2 : k.m.natAbs ≤ 10 ^ 30 := by omega
  exact ⟨ev_mulI (small_mul e1 e2), ev_mulI (small_mul e2 e1)⟩
theorem r_members (ks : List Kd) (hl : ks.length ≤ 3) (S : Store) : m_Crew_members [crew ks] S = .ok (.int (ks.map fun k => k.m).sum) S := by
  have c : eLc mkL (iSeq (e1 (gFld fl "own_kinds") (eVar 0))) (tT 2 (tCons (tN 1) (tCons (tN 2) tNil))) tYesD (eVar 2) [1, 2] [some (crew ks), none, none] S = .ok (.lst ((ks.map fun k => k.m).map D.int)) S := by
    rw [List.map_map]
    exact kcomp _ (ev_iSeqT (by simp [r_fld])) (by omega) fun k hk => by simp [wipeD]
  generalize ks.map (fun k => k.m) = ms at c ⊢
  simp [m_Crew_members, c]
theorem r_leastP (ks : List Kd) (g : ∀ k ∈ ks, Good k) (hl : ks.length ≤ 3) (S : Store) : m_Crew_least [crew ks] S = .ok (.int (ks.map fun k => (k.a : Int) * k.m).sum) S := by
  have c : eLc mkL (iSeq (e1 (gFld fl "own_kinds") (eVar 0))) (tT 2 (tCons (tN 1) (tCons (tN 2) tNil))) tYesD (e2 (gMul mkL) (eCn 1 m_least_of (aCons (eVar 1) aNil)) (eVar 2)) [1, 2] [some (crew ks), none, none] S = .ok (.lst ((ks.map fun k => (k.a : Int) * k.m).map D.int)) S := by
    rw [List.map_map]
    refine kcomp _ (ev_iSeqT (by simp [r_fld])) (by omega) fun k hk => ?_
    have q := qt_ge (g k hk)
    simp [wipeD, r_lt (g k hk), (mulK (g k hk) (q := k.a) (by omega) (by omega) S).1]
  generalize ks.map (fun k => (k.a : Int) * k.m) = ms at c ⊢
  simp [m_Crew_least, c]
theorem r_fullP (ks : List Kd) (g : ∀ k ∈ ks, Good k) (hl : ks.length ≤ 3) (S : Store) : m_Crew_full [crew ks] S = .ok (.int (ks.map fun k => qt k * k.m).sum) S := by
  have c : eLc mkL (iSeq (e1 (gFld fl "own_kinds") (eVar 0))) (tT 2 (tCons (tN 1) (tCons (tN 2) tNil))) tYesD (e2 (gMul mkL) (eCn 1 m_quota_of (aCons (eVar 1) aNil)) (eVar 2)) [1, 2] [some (crew ks), none, none] S = .ok (.lst ((ks.map fun k => qt k * k.m).map D.int)) S := by
    rw [List.map_map]
    refine kcomp _ (ev_iSeqT (by simp [r_fld])) (by omega) fun k hk => ?_
    have q := qt_ge (g k hk)
    simp [wipeD, r_qt, (mulK (g k hk) (q := qt k) (by omega) (by omega) S).1]
  generalize ks.map (fun k => qt k * k.m) = ms at c ⊢
  simp [m_Crew_full, c]
theorem r_spanK {k : Kd} (g : Good k) (S : Store) : m_span_of [vt k] S = .ok (.int (qt k - k.a)) S := by
  simp [m_span_of, r_qt, r_lt g]
theorem r_spanP (ks : List Kd) (g : ∀ k ∈ ks, Good k) (hl : ks.length ≤ 3) (S : Store) : m_Crew_span [crew ks] S = .ok (.int ((spanL ks).foldl max 0)) S := by
  have c : eLc mkL (iSeq (e1 (gFld fl "own_kinds") (eVar 0))) (tT 2 (tCons (tN 1) (tCons (tN 2) tNil))) (tst (e2 gGt (eVar 2) (eK (.int 0)))) (eCn 1 m_span_of (aCons (eVar 1) aNil)) [1, 2] [some (crew ks), none, none] S = .ok (.lst ((spanL ks).map D.int)) S := by
    unfold spanL
    rw [List.map_map]
    refine kcompF _ _ (ev_iSeqT (by simp [r_fld])) (by omega) (fun k hk => ?_) fun k hk => ?_
    · simp [wipeD]
    · simp [wipeD, r_spanK (g k hk)]
  have hlen : (spanL ks).length ≤ 3 := by
    unfold spanL
    rw [List.length_map]
    exact Nat.le_trans (List.length_filter_le _ _) hl
  generalize spanL ks = ms at c hlen ⊢
  have e := ev_maxL (ns := ms) (n := 0) (S := S)
  rw [List.map_cons] at e
  have c3 : ms.length + 1 ≤ lineN := le_line (by omega)
  simp [m_Crew_span, aStar, c, rd, c3, e]
theorem r_facts (ks : List Kd) (g : ∀ k ∈ ks, Good k) (hl : ks.length ≤ 3) (S : Store) : m__law_facts [crew ks] S = .ok (factsD ks) S := by
  have p : ∀ (F : CF) (S1 : Store), ePrp "Crew" F (eVar 0) [some (crew ks)] S1 = (F [crew ks] S1).noX := fun F S1 => r_prp (ev_var rfl)
  have a : m_Crew_all_kinds [crew ks] S = .ok (.tup (ks.map dk)) S := by simp [m_Crew_all_kinds, r_fld]
  simp [m__law_facts, p, a, r_members ks hl, r_leastP ks g hl, r_fullP ks g hl, r_spanP ks g hl, lineN, factsD, sumsL]
/-! operations -/
def put (ks : List Kd) (n : Nat) (k : Kd) : List Kd := ks.take n ++ [k] ++ ks.drop (n + 1)
theorem put_len {ks : List Kd} {n : Nat} {k : Kd} (h : n < ks.length) : (put ks n k).length = ks.length := by
  unfold put
  simp
  omega
theorem put_good {ks : List Kd} {n : Nat} {k : Kd} (g : ∀ k ∈ ks, Good k) (gk : Good k) : ∀ x ∈ put ks n k, Good x := fun x hx => by
  unfold put at hx
  simp only [List.mem_append, List.mem_singleton] at hx
  rcases hx with (hx | rfl) | hx
  · exact g x (List.mem_of_mem_take hx)
  · exact gk
  · exact g x (List.mem_of_mem_drop hx)
theorem put_map (ks : List Kd) (n : Nat) (k : Kd) : (put ks n k).map dk = (ks.map dk).take n ++ [dk k] ++ (ks.map dk).drop (n + 1) := by
  unfold put
  simp
theorem r_changed {ks : List Kd} {n : Nat} {k : Kd} (g : ∀ k ∈ ks, Good k) (gk : Good k) (hn : n < ks.length) (h3 : ks.length ≤ 3) (S : Store) : m_Crew_changed [crew ks, .int (n : Int), dk k] S = .ok (crew (put ks n k)) (S ++ [none]) := by
  have c1 : cutD (ks.map dk) none (some (n : Int)) = (ks.map dk).take n := cut_to n
  have c2 : cutD (ks.map dk) (some ((n : Int) + 1)) none = (ks.map dk).drop (n + 1) := by
    rw [show (n : Int) + 1 = ((n + 1 : Nat) : Int) by omega]
    exact cut_from (n + 1) (by rw [List.length_map]; omega)
  have a1 : gAdd mkL (.tup ((ks.map dk).take n)) (.tup [dk k]) S = .ok (.tup ((ks.map dk).take n ++ [dk k])) S := ev_addT (by simp; omega)
  have a2 : gAdd mkL (.tup ((ks.map dk).take n ++ [dk k])) (.tup ((ks.map dk).drop (n + 1))) S = .ok (.tup ((put ks n k).map dk)) S := by
    rw [put_map]
    exact ev_addT (by simp; omega)
  have e : e2 (gAdd mkL) (e2 (gAdd mkL) (eSl mkL (e1 (gFld fl "own_kinds") (eVar 0)) oNo (oYes (eVar 1))) (eTup (aCons (eVar 2) aNil))) (eSl mkL (e1 (gFld fl "own_kinds") (eVar 0)) (oYes (e2 (gAdd mkL) (eVar 1) (eK (.int 1)))) oNo) [some (crew ks), some (.int (n : Int)), some (dk k)] S = .ok (.tup ((put ks n k).map dk)) S := by
    simp [r_fld, -List.map_take, -List.map_drop, c1, c2, a1, a2, lineN]
  have q := r_make (.inr rfl) (put_good g gk) (by rw [put_len hn]; omega) (by rw [put_len hn]; exact h3) e
  simp [m_Crew_changed, q]
theorem r_kindAt {ks : List Kd} {n : Nat} (hn : n < ks.length) (S : Store) : gIx (.tup (ks.map dk)) (.int (n : Int)) S = .ok (dk ks[n]) S := ev_ixT (by rw [atI_of (by simpa using hn)]; simp)
theorem r_kindAtL {ks : List Kd} {n : Nat} (hn : n < ks.length) (S : Store) : gIx (.lst (ks.map dk)) (.int (n : Int)) S = .ok (dk ks[n]) S := ev_ixL (by rw [atI_of (by simpa using hn)]; simp)
def cutK (k : Kd) (q : Nat) : Kd := ⟨k.a, k.xs.take (q + 1 - k.a), k.m⟩
theorem cutK_good {k : Kd} (g : Good k) {q : Nat} (h : k.a ≤ q) : Good (cutK k q) := by
  have h1 := List.length_pos_iff.mpr g.ne
  have h2 := g.len
  refine ⟨?_, ?_, ?_, g.m0, g.m1⟩
  · show k.xs.take _ ≠ []
    rw [← List.length_pos_iff, List.length_take]
    omega
  · show k.a + (k.xs.take _).length ≤ 41
    rw [List.length_take]
    omega
  · exact g.sorted.sublist (List.take_sublist _ _)
theorem cutK_vals {k : Kd} {q : Nat} (h : k.a ≤ q) : cutD (vals k.a k.xs) none (some ((q : Int) + 1)) = vals k.a (k.xs.take (q + 1 - k.a)) := by
  rw [show (q : Int) + 1 = ((q + 1 : Nat) : Int) by omega, cut_to]
  unfold vals
  rw [List.take_append, List.length_replicate, List.map_take, List.take_of_length_le (by simp; omega)]
theorem r_betwK {ks : List Kd} {n : Nat} (hn : n < ks.length) : betw (.int (n : Int)) 0 ((ks.length : Int) - 1) = true := by
  simp [betw]
  omega
theorem r_cut {ks : List Kd} {n q : Nat} (g : ∀ k ∈ ks, Good k) (hn : n < ks.length) (h3 : ks.length ≤ 3) (h1 : ks[n].a ≤ q) (h2 : (q : Int) ≤ qt ks[n]) (S : Store) : m_Crew_cut [crew ks, .int (n : Int), .int (q : Int)] S = .ok (crew (put ks n (cutK ks[n] q))) (S ++ [none]) := by
  have gn := g ks[n] (List.getElem_mem hn)
  have l := r_look ks (.int (n : Int)) S rfl
  rw [r_betwK hn, if_pos rfl] at l
  have b : m_is_between [.int (q : Int), .int (ks[n].a : Int), .int (qt ks[n])] S = .ok (.bl true) S := by
    rw [r_between _ _ _ _ rfl]
    simp [betw]
    omega
  have m1 : ∀ (F : CF) (fa : RF (List D)) (env : DEnv) (S1 : Store), eMet "Crew" "look_at_kind" 2 F (eVar 0) fa (some (crew ks) :: env) S1 = (fa (some (crew ks) :: env) S1).bind fun ds S => if ds.length + 1 = 2 then F (crew ks :: ds) S else .bad := fun F fa env S1 => r_met (ev_var rfl) ⟨by decide, by decide⟩
  have m2 : ∀ (F : CF) (fa : RF (List D)) (env : DEnv) (S1 : Store), eMet "Crew" "changed" 3 F (eVar 0) fa (some (crew ks) :: env) S1 = (fa (some (crew ks) :: env) S1).bind fun ds S => if ds.length + 1 = 3 then F (crew ks :: ds) S else .bad := fun F fa env S1 => r_met (ev_var rfl) ⟨by decide, by decide⟩
  have ch := r_changed g (cutK_good gn h1) hn h3 S
  have ee : dk (cutK ks[n] q) = .tup [.tup (vals ks[n].a (ks[n].xs.take (q + 1 - ks[n].a))), .int ks[n].m] := rfl
  rw [ee] at ch
  have sg : sAsg (e2 gIx (e1 (gFld fl "own_kinds") (eVar 0)) (eVar 1)) (tT 2 (tCons (tN 3) (tCons (tN 4) tNil))) [some (crew ks), some (.int (n : Int)), some (.int (q : Int)), none, none] S = .nx [some (crew ks), some (.int (n : Int)), some (.int (q : Int)), some (vt ks[n]), some (.int ks[n].m)] S := by
    unfold sAsg
    simp [r_fld, r_kindAt hn, dk, tT, tCons, tN, tNil]
  simp [m_Crew_cut, m1, m2, l, sg, r_lt gn, r_qt, b]
  simp [vt, cutK_vals h1, lineN, ch]
theorem r_cut_bad {ks : List Kd} {n : Nat} {d : D} (g : ∀ k ∈ ks, Good k) (hn : n < ks.length) (hd : plainD d = true) (hb : betw d ks[n].a (qt ks[n]) = false) (S : Store) : m_Crew_cut [crew ks, .int (n : Int), d] S = .exc "InvalidNumber" ["value"] [d] S := by
  have gn := g ks[n] (List.getElem_mem hn)
  have l := r_look ks (.int (n : Int)) S rfl
  rw [r_betwK hn, if_pos rfl] at l
  have b : m_is_between [d, .int (ks[n].a : Int), .int (qt ks[n])] S = .ok (.bl false) S := by rw [r_between _ _ _ _ hd, hb]
  have m1 : ∀ (F : CF) (fa : RF (List D)) (env : DEnv) (S1 : Store), eMet "Crew" "look_at_kind" 2 F (eVar 0) fa (some (crew ks) :: env) S1 = (fa (some (crew ks) :: env) S1).bind fun ds S => if ds.length + 1 = 2 then F (crew ks :: ds) S else .bad := fun F fa env S1 => r_met (ev_var rfl) ⟨by decide, by decide⟩
  have sg : sAsg (e2 gIx (e1 (gFld fl "own_kinds") (eVar 0)) (eVar 1)) (tT 2 (tCons (tN 3) (tCons (tN 4) tNil))) [some (crew ks), some (.int (n : Int)), some d, none, none] S = .nx [some (crew ks), some (.int (n : Int)), some d, some (vt ks[n]), some (.int ks[n].m)] S := by
    unfold sAsg
    simp [r_fld, r_kindAt hn, dk, tT, tCons, tN, tNil]
  simp [m_Crew_cut, m1, l, sg, r_lt gn, r_qt, b]
theorem r_cut_at {ks : List Kd} {d q : D} (hd : plainD d = true) (hb : betw d 0 ((ks.length : Int) - 1) = false) (S : Store) : m_Crew_cut [crew ks, d, q] S = .exc "InvalidNumber" ["value"] [d] S := by
  have l := r_look ks d S hd
  rw [hb, if_neg (by decide)] at l
  have m1 : ∀ (F : CF) (fa : RF (List D)) (env : DEnv) (S1 : Store), eMet "Crew" "look_at_kind" 2 F (eVar 0) fa (some (crew ks) :: env) S1 = (fa (some (crew ks) :: env) S1).bind fun ds S => if ds.length + 1 = 2 then F (crew ks :: ds) S else .bad := fun F fa env S1 => r_met (ev_var rfl) ⟨by decide, by decide⟩
  simp [m_Crew_cut, m1, l]
theorem metL {m : Str} {n : Nat} {F : CF} {fa : RF (List D)} {env : DEnv} {S1 : Store} {ks : List Kd} (hm : (("own_kinds" : Str) == m) = false ∧ (m == ("own_kinds" : Str)) = false) :
    eMet "Crew" m n F (eVar 0) fa (some (crew ks) :: env) S1 = (fa (some (crew ks) :: env) S1).bind fun ds S => if ds.length + 1 = n then F (crew ks :: ds) S else .bad := r_met (ev_var rfl) hm
def manyK (k : Kd) (m : Int) : Kd := ⟨k.a, k.xs, m⟩
theorem manyK_good {k : Kd} (g : Good k) {m : Int} (h0 : 0 ≤ m) (h1 : m ≤ 1000000000000000000000000000000) : Good (manyK k m) := ⟨g.ne, g.len, g.sorted, h0, h1⟩
theorem r_look_many (d : D) (S : Store) (h : plainD d = true) : m_look_at_many [d] S = if betw d 0 1000000000000000000000000000000 then .ok .non S else .exc "InvalidNumber" ["value"] [d] S := by
  have q := r_many d S h
  simp [m_look_at_many, q]
  cases betw d 0 1000000000000000000000000000000 <;> simp
theorem r_with_many {ks : List Kd} {n : Nat} {m : Int} (g : ∀ k ∈ ks, Good k) (hn : n < ks.length) (h3 : ks.length ≤ 3) (h0 : 0 ≤ m) (h1 : m ≤ 1000000000000000000000000000000) (S : Store) : m_Crew_with_many [crew ks, .int (n : Int), .int m] S = .ok (crew (put ks n (manyK ks[n] m))) (S ++ [none]) := by
  have gn := g ks[n] (List.getElem_mem hn)
  have l := r_look ks (.int (n : Int)) S rfl
  rw [r_betwK hn, if_pos rfl] at l
  have lm := r_look_many (.int m) S rfl
  rw [if_pos (show betw (.int m) 0 1000000000000000000000000000000 = true by simp [betw]; omega)] at lm
  have ch := r_changed g (manyK_good gn h0 h1) hn h3 S
  have ee : dk (manyK ks[n] m) = .tup [vt ks[n], .int m] := rfl
  rw [ee] at ch
  have e0 : gIx (dk ks[n]) (.int 0) S = .ok (vt ks[n]) S := ev_ixT rfl
  simp [m_Crew_with_many, metL (m := "look_at_kind") ⟨by decide, by decide⟩, metL (m := "changed") ⟨by decide, by decide⟩, l, lm, r_fld, r_kindAt hn, e0, ch, lineN]
theorem r_with_many_bad {ks : List Kd} {n : Nat} {d : D} (hn : n < ks.length) (hd : plainD d = true) (hb : betw d 0 1000000000000000000000000000000 = false) (S : Store) : m_Crew_with_many [crew ks, .int (n : Int), d] S = .exc "InvalidNumber" ["value"] [d] S := by
  have l := r_look ks (.int (n : Int)) S rfl
  rw [r_betwK hn, if_pos rfl] at l
  have lm := r_look_many d S hd
  rw [hb, if_neg (by decide)] at lm
  simp [m_Crew_with_many, metL (m := "look_at_kind") ⟨by decide, by decide⟩, l, lm]
def del (ks : List Kd) (n : Nat) : List Kd := ks.take n ++ ks.drop (n + 1)
theorem del_len {ks : List Kd} {n : Nat} (h : n < ks.length) : (del ks n).length = ks.length - 1 := by
  unfold del
  simp
  omega
theorem del_good {ks : List Kd} {n : Nat} (g : ∀ k ∈ ks, Good k) : ∀ x ∈ del ks n, Good x := fun x hx => by
  unfold del at hx
  rcases List.mem_append.mp hx with hx | hx
  · exact g x (List.mem_of_mem_take hx)
  · exact g x (List.mem_of_mem_drop hx)
theorem del_map (ks : List Kd) (n : Nat) : (del ks n).map dk = (ks.map dk).take n ++ (ks.map dk).drop (n + 1) := by
  unfold del
  simp
theorem cut_kinds {ks : List Kd} {n : Nat} (hn : n < ks.length) : cutD (ks.map dk) none (some (n : Int)) = (ks.map dk).take n ∧ cutD (ks.map dk) (some ((n : Int) + 1)) none = (ks.map dk).drop (n + 1) := by
  refine ⟨cut_to n, ?_⟩
  rw [show (n : Int) + 1 = ((n + 1 : Nat) : Int) by omega]
  exact cut_from (n + 1) (by rw [List.length_map]; omega)
theorem r_without {ks : List Kd} {n : Nat} (g : ∀ k ∈ ks, Good k) (hn : n < ks.length) (h2 : 2 ≤ ks.length) (h3 : ks.length ≤ 3) (S : Store) : m_Crew_without_kind [crew ks, .int (n : Int)] S = .ok (crew (del ks n)) (S ++ [none]) := by
  have l := r_look ks (.int (n : Int)) S rfl
  rw [r_betwK hn, if_pos rfl] at l
  have a2 : gAdd mkL (.tup ((ks.map dk).take n)) (.tup ((ks.map dk).drop (n + 1))) S = .ok (.tup ((del ks n).map dk)) S := by
    rw [del_map]
    exact ev_addT (by simp; omega)
  have e : e2 (gAdd mkL) (eSl mkL (e1 (gFld fl "own_kinds") (eVar 0)) oNo (oYes (eVar 1))) (eSl mkL (e1 (gFld fl "own_kinds") (eVar 0)) (oYes (e2 (gAdd mkL) (eVar 1) (eK (.int 1)))) oNo) [some (crew ks), some (.int (n : Int))] S = .ok (.tup ((del ks n).map dk)) S := by
    simp [r_fld, -List.map_take, -List.map_drop, (cut_kinds hn).1, (cut_kinds hn).2, a2]
  have q := r_make (.inr rfl) (del_good g) (by rw [del_len hn]; omega) (by rw [del_len hn]; omega) e
  have ne : ¬ ((ks.length : Int) = 1) := by omega
  simp [m_Crew_without_kind, metL (m := "look_at_kind") ⟨by decide, by decide⟩, l, r_fld, ne, q]
theorem r_without_one {ks : List Kd} (h1 : ks.length = 1) (S : Store) : m_Crew_without_kind [crew ks, .int 0] S = .exc "InvalidCrew" ["value"] [.tup []] S := by
  have l := r_look ks (.int ((0 : Nat) : Int)) S rfl
  rw [r_betwK (by omega), if_pos rfl] at l
  have l : m_Crew_look_at_kind [crew ks, .int 0] S = .ok .non S := l
  simp [m_Crew_without_kind, metL (m := "look_at_kind") ⟨by decide, by decide⟩, l, r_fld, h1, lineN]
theorem r_with_kind {ks : List Kd} {k : Kd} (g : ∀ k ∈ ks, Good k) (gk : Good k) (h3 : ks.length < 3) (S : Store) : m_Crew_with_kind [crew ks, vt k, .int k.m] S = .ok (crew (ks ++ [k])) (S ++ [none]) := by
  have lm := r_look_many (.int k.m) S rfl
  have := gk.m0
  have := gk.m1
  rw [if_pos (show betw (.int k.m) 0 1000000000000000000000000000000 = true by simp [betw]; omega)] at lm
  have v : m_is_values [vt k] S = .ok (.bl true) S := r_is_values k.a k.xs S gk.ne gk.len gk.sorted
  have a2 : gAdd mkL (.tup (ks.map dk)) (.tup [.tup [vt k, .int k.m]]) S = .ok (.tup ((ks ++ [k]).map dk)) S := by
    rw [List.map_append]
    exact ev_addT (by simp; omega)
  have e : e2 (gAdd mkL) (e1 (gFld fl "own_kinds") (eVar 0)) (eTup (aCons (eTup (aCons (eVar 1) (aCons (eVar 2) aNil))) aNil)) [some (crew ks), some (vt k), some (.int k.m)] S = .ok (.tup ((ks ++ [k]).map dk)) S := by
    simp [r_fld, -List.map_append, a2, lineN]
  have q := r_make (.inr rfl) (ks := ks ++ [k]) (fun x hx => by
    rcases List.mem_append.mp hx with hx | hx
    · exact g x hx
    · rw [List.mem_singleton.mp hx]; exact gk) (by simp) (by simp; omega) e
  have ne : ¬ ((ks.length : Int) = 3) := by omega
  simp [m_Crew_with_kind, v, lm, r_fld, ne, q]
theorem r_with_kind_full {ks : List Kd} {k : Kd} (gk : Good k) (h3 : ks.length = 3) (S : Store) : m_Crew_with_kind [crew ks, vt k, .int k.m] S = .exc "TooMany" ["limit"] [.int 3] S := by
  have lm := r_look_many (.int k.m) S rfl
  have := gk.m0
  have := gk.m1
  rw [if_pos (show betw (.int k.m) 0 1000000000000000000000000000000 = true by simp [betw]; omega)] at lm
  have v : m_is_values [vt k] S = .ok (.bl true) S := r_is_values k.a k.xs S gk.ne gk.len gk.sorted
  simp [m_Crew_with_kind, v, lm, r_fld, h3]
theorem r_with_kind_many {ks : List Kd} {k : Kd} (gk : Good k) {d : D} (hd : plainD d = true) (hb : betw d 0 1000000000000000000000000000000 = false) (S : Store) : m_Crew_with_kind [crew ks, vt k, d] S = .exc "InvalidNumber" ["value"] [d] S := by
  have lm := r_look_many d S hd
  rw [hb, if_neg (by decide)] at lm
  have v : m_is_values [vt k] S = .ok (.bl true) S := r_is_values k.a k.xs S gk.ne gk.len gk.sorted
  simp [m_Crew_with_kind, v, lm]
theorem r_with_kind_odd {ks : List Kd} {d e : D} (S : Store) (v : m_is_values [d] S = .ok (.bl false) S) : m_Crew_with_kind [crew ks, d, e] S = .exc "InvalidCrew" ["value"] [d] S := by
  simp [m_Crew_with_kind, v]
def shareK (k : Kd) (o : Int) : Kd := ⟨k.a, k.xs, k.m / o⟩
theorem shareK_good {k : Kd} (g : Good k) {o : Int} (h : 1 ≤ o) : Good (shareK k o) := by
  refine ⟨g.ne, g.len, g.sorted, Int.ediv_nonneg g.m0 (by omega), ?_⟩
  exact Int.le_trans (Int.ediv_le_self _ g.m0) g.m1
theorem log_small {o : Int} (h : 1 ≤ o) (h2 : o ≤ 1000) : o.natAbs.log2 < 9000 := by
  have : o.natAbs.log2 < 10 := (Nat.log2_lt (by omega)).mpr (by omega)
  omega
theorem r_share_bad {ks : List Kd} {d : D} (hd : plainD d = true) (hb : betw d 1 1000 = false) (S : Store) : m_Crew_share [crew ks, d] S = .exc "InvalidNumber" ["value"] [d] S := by
  have b := r_between d 1 1000 S hd
  rw [hb] at b
  simp [m_Crew_share, b]
theorem r_share {ks : List Kd} {o : Int} (g : ∀ k ∈ ks, Good k) (h1 : 1 ≤ ks.length) (h3 : ks.length ≤ 3) (o1 : 1 ≤ o) (o2 : o ≤ 1000) (S : Store) : m_Crew_share [crew ks, .int o] S =
    if (ks.any fun k => !decide (k.m.fmod o = 0)) then .exc "InvalidNumber" ["value"] [.int o] S else .ok (crew (ks.map fun k => shareK k o)) (S ++ [none]) := by
  have b := r_between (.int o) 1 1000 S rfl
  rw [show betw (.int o) 1 1000 = true by simp [betw]; omega] at b
  have c : eLc mkL (iSeq (e1 (gFld fl "own_kinds") (eVar 0))) (tT 2 (tCons (tN 2) (tCons (tN 3) tNil))) tYesD (e2 gNe (e2 gMod (eVar 3) (eVar 1)) (eK (.int 0))) [2, 3] [some (crew ks), some (.int o), none, none] S = .ok (.lst ((ks.map fun k => !decide (k.m.fmod o = 0)).map D.bl)) S := by
    rw [List.map_map]
    refine kcomp _ (ev_iSeqT (by simp [r_fld])) (by omega) fun k hk => ?_
    simp [wipeD, ev_mod (show o ≠ 0 by omega)]
  have c2 : eLc mkL (iSeq (e1 (gFld fl "own_kinds") (eVar 0))) (tT 2 (tCons (tN 2) (tCons (tN 3) tNil))) tYesD (eTup (aCons (eVar 2) (aCons (e2 gDiv (eVar 3) (eVar 1)) aNil))) [2, 3] [some (crew ks), some (.int o), none, none] S = .ok (.lst ((ks.map fun k => shareK k o).map dk)) S := by
    rw [List.map_map]
    refine kcomp _ (ev_iSeqT (by simp [r_fld])) (by omega) fun k hk => ?_
    simp [wipeD, ev_div (show 0 < o by omega) (log_small o1 o2), lineN, dk, shareK, vt]
  have q := r_make (.inl rfl) (ks := ks.map fun k => shareK k o) (fun x hx => by
    obtain ⟨k, hk, rfl⟩ := List.mem_map.mp hx
    exact shareK_good (g k hk) o1) (by simpa using h1) (by simpa using h3) c2
  have e : (ks.any fun k => !decide (k.m.fmod o = 0)) = (ks.map fun k => !decide (k.m.fmod o = 0)).any id := by rw [List.any_map]; rfl
  rw [e]
  generalize ks.map (fun k => !decide (k.m.fmod o = 0)) = bs at c ⊢
  have e3 := ev_any (bs := bs) (S := S)
  generalize bs.map D.bl = ds at c e3
  generalize bs.any id = z at e3 ⊢
  cases z <;> simp [m_Crew_share, b, c, e3, q]
/-! what is owed -/
theorem r_pcl {k : Kd} (g : Good k) (S : Store) : m__law_pc_least [vt k] S = .ok (.int k.a) S := by
  have l := g.len
  have c : eLc mkL (iSeq (eVar 0)) (tN 1) (tst (e1 (gIsN false) (eVar 1))) (eVar 1) [1] [some (vt k), none] S = .ok (.lst ((vals k.a k.xs).filterMap fun d => if isNon d then some d else none)) S := by
    refine eLc_map _ (ev_iSeqT rfl) (le_line (by rw [vals_len]; omega)) fun d hd => ⟨_, rfl, ?_⟩
    cases z : isNon d with
    | true => exact .inl ⟨d, by simp [wipeD, z], by simp [wipeD], by simp⟩
    | false => exact .inr ⟨by simp [wipeD, z], by simp⟩
  have e : ((vals k.a k.xs).filterMap fun d => if isNon d then some d else none).length = k.a := by
    unfold vals
    rw [List.filterMap_append, List.length_append]
    have h1 : ((List.replicate k.a D.non).filterMap fun d => if isNon d then some d else none) = List.replicate k.a D.non := by
      induction k.a with
      | zero => rfl
      | succ n ih => simp [List.replicate_succ, isNon, ih]
    have h2 : ((k.xs.map D.int).filterMap fun d => if isNon d then some d else none) = [] := by
      induction k.xs with
      | nil => rfl
      | cons x xs ih => simp [isNon, ih]
    rw [h1, h2]
    simp
  generalize ((vals k.a k.xs).filterMap fun d => if isNon d then some d else none) = l at c e
  simp [m__law_pc_least, c, e]
theorem r_pcq (k : Kd) (S : Store) : m__law_pc_quota [vt k] S = .ok (.int (qt k)) S := by
  simp [m__law_pc_quota, vt, qt]
theorem r_sums (ks : List Kd) (g : ∀ k ∈ ks, Good k) (hl : ks.length ≤ 3) (S : Store) : m__law_pc_sums [.lst (ks.map dk)] S = .ok (.tup (sumsL ks)) S := by
  have fi : ∀ (env : DEnv), iSeq (eVar 0) (some (.lst (ks.map dk)) :: env) S = .ok (ks.map dk) S := fun env => ev_iSeqL (ev_var rfl)
  have c1 : eLc mkL (iSeq (eVar 0)) (tT 2 (tCons (tN 4) (tCons (tN 5) tNil))) (tst (e2 gGt (eVar 5) (eK (.int 0)))) (e2 gSub (eCn 1 m__law_pc_quota (aCons (eVar 4) aNil)) (eCn 1 m__law_pc_least (aCons (eVar 4) aNil))) [4, 5] [some (.lst (ks.map dk)), none, none, none, none, none] S = .ok (.lst ((spanL ks).map D.int)) S := by
    unfold spanL
    rw [List.map_map]
    refine kcompF _ _ (fi _) (by omega) (fun k hk => ?_) fun k hk => ?_
    · simp [wipeD]
    · simp [wipeD, r_pcl (g k hk), r_pcq]
  have c2 : eLc mkL (iSeq (eVar 0)) (tT 2 (tCons (tN 4) (tCons (tN 5) tNil))) tYesD (e2 (gMul mkL) (eVar 5) (eCn 1 m__law_pc_least (aCons (eVar 4) aNil))) [4, 5] [some (.lst (ks.map dk)), some (.lst ((spanL ks).map D.int)), none, none, none, none] S = .ok (.lst ((ks.map fun k => (k.a : Int) * k.m).map D.int)) S := by
    rw [List.map_map]
    refine kcomp _ (fi _) (by omega) fun k hk => ?_
    have q := qt_ge (g k hk)
    simp [wipeD, r_pcl (g k hk), (mulK (g k hk) (q := k.a) (by omega) (by omega) S).2, Int.mul_comm]
  have c3 : eLc mkL (iSeq (eVar 0)) (tT 2 (tCons (tN 4) (tCons (tN 5) tNil))) tYesD (e2 (gMul mkL) (eVar 5) (eCn 1 m__law_pc_quota (aCons (eVar 4) aNil))) [4, 5] [some (.lst (ks.map dk)), some (.lst ((spanL ks).map D.int)), some (.int (ks.map fun k => (k.a : Int) * k.m).sum), none, none, none] S = .ok (.lst ((ks.map fun k => qt k * k.m).map D.int)) S := by
    rw [List.map_map]
    refine kcomp _ (fi _) (by omega) fun k hk => ?_
    have q := qt_ge (g k hk)
    simp [wipeD, r_pcq, (mulK (g k hk) (q := qt k) (by omega) (by omega) S).2, Int.mul_comm]
  have c4 : eLc mkL (iSeq (eVar 0)) (tT 2 (tCons (tN 4) (tCons (tN 5) tNil))) tYesD (eVar 5) [4, 5] [some (.lst (ks.map dk)), some (.lst ((spanL ks).map D.int)), some (.int (ks.map fun k => (k.a : Int) * k.m).sum), some (.int (ks.map fun k => qt k * k.m).sum), none, none] S = .ok (.lst ((ks.map fun k => k.m).map D.int)) S := by
    rw [List.map_map]
    exact kcomp _ (fi _) (by omega) fun k hk => by simp [wipeD]
  have hlen : (spanL ks).length ≤ 3 := by
    unfold spanL
    rw [List.length_map]
    exact Nat.le_trans (List.length_filter_le _ _) hl
  have a1 : gAdd mkL (.lst [.int 0]) (.lst ((spanL ks).map D.int)) S = .ok (.lst ((0 :: spanL ks).map D.int)) S := ev_addL (by simp; omega)
  have mx := ev_maxL (ns := spanL ks) (n := 0) (S := S)
  generalize (0 :: spanL ks).map D.int = l0 at a1 mx
  unfold sumsL
  generalize (spanL ks).foldl max 0 = z0 at mx ⊢
  have s1 := ev_sum (ns := ks.map fun k => (k.a : Int) * k.m) (S := S)
  have s2 := ev_sum (ns := ks.map fun k => qt k * k.m) (S := S)
  have s3 := ev_sum (ns := ks.map fun k => k.m) (S := S)
  generalize (ks.map fun k => (k.a : Int) * k.m).map D.int = m1 at c2 s1
  generalize (ks.map fun k => qt k * k.m).map D.int = m2 at c3 s2
  generalize (ks.map fun k => k.m).map D.int = m3 at c4 s3
  generalize (ks.map fun k => (k.a : Int) * k.m).sum = v1 at *
  generalize (ks.map fun k => qt k * k.m).sum = v2 at *
  generalize (ks.map fun k => k.m).sum = v3 at *
  generalize (spanL ks).map D.int = sp at *
  simp [m__law_pc_sums, c1, c2, c3, c4, s1, s2, s3, a1, mx, lineN]
def told (ks : List Kd) : D := .tup [.str "told", factsD ks]
theorem r_owed (ks : List Kd) (g : ∀ k ∈ ks, Good k) (hl : ks.length ≤ 3) (S : Store) : m__law_owed [.lst (ks.map dk)] S = .ok (told ks) S := by
  have a1 : gAdd mkL (.lst [.tup (ks.map dk)]) (.lst (sumsL ks)) S = .ok (factsD ks) S := ev_addL (by simp [sumsL])
  simp [m__law_owed, r_sums ks g hl, a1, lineN, told]
/-! what is heard -/
def inv (t : Str) (d : D) : D := .tup [.str t, d]
theorem r_hear_ok {m : Str} {n : Nat} {F : CF} {fa : RF (List D)} {env : DEnv} {d : D} {ks ks' : List Kd} {ds : List D} {S S2 : Store} (h : isKs d ks) (g : ∀ k ∈ ks, Good k) (h1 : 1 ≤ ks.length) (h3 : ks.length ≤ 3) (hm : (("own_kinds" : Str) == m) = false ∧ (m == ("own_kinds" : Str)) = false)
    (ha : fa (some d :: env) (S ++ [none]) = .ok ds (S ++ [none])) (hn : ds.length + 1 = n) (hF : F (crew ks :: ds) (S ++ [none]) = .ok (crew ks') S2) (g' : ∀ k ∈ ks', Good k) (h3' : ks'.length ≤ 3) :
    eHear isSbE isEx cl__law_heard (eCn 1 m__law_facts (aCons (eMet "Crew" m n F (eMak true "Crew" 2 m_Crew___init__ (aCons (eVar 0) aNil)) fa) aNil)) (some d :: env) S = .ok (told ks') S2 := by
  refine ev_hear_ok ?_
  have mk := r_make (fe := eVar 0) (env := some d :: env) h g h1 h3 (S1 := S) (ev_var rfl)
  have me := r_met (n := n) (F := F) (fa := fa) mk hm
  simp [me, ha, hn, hF, r_facts ks' g' h3']
theorem r_hear_exc {m : Str} {n : Nat} {F : CF} {fa : RF (List D)} {env : DEnv} {d r : D} {ks : List Kd} {ds ps : List D} {S S2 : Store} {c : Str} {fs : List Str} (h : isKs d ks) (g : ∀ k ∈ ks, Good k) (h1 : 1 ≤ ks.length) (h3 : ks.length ≤ 3) (hm : (("own_kinds" : Str) == m) = false ∧ (m == ("own_kinds" : Str)) = false)
    (ha : fa (some d :: env) (S ++ [none]) = .ok ds (S ++ [none])) (hn : ds.length + 1 = n) (hF : F (crew ks :: ds) (S ++ [none]) = .exc c fs ps S2) (hc : c ∈ isEx) (hr : hearD isSbE c fs ps cl__law_heard = some r) :
    eHear isSbE isEx cl__law_heard (eCn 1 m__law_facts (aCons (eMet "Crew" m n F (eMak true "Crew" 2 m_Crew___init__ (aCons (eVar 0) aNil)) fa) aNil)) (some d :: env) S = .ok r S2 := by
  refine ev_hear_exc ?_ hc hr
  have mk := r_make (fe := eVar 0) (env := some d :: env) h g h1 h3 (S1 := S) (ev_var rfl)
  have me := r_met (n := n) (F := F) (fa := fa) mk hm
  simp [me, ha, hn, hF]
theorem hr_num (d : D) : hearD isSbE "InvalidNumber" ["value"] [d] cl__law_heard = some (inv "InvalidNumber" d) := rfl
theorem hr_crew (d : D) : hearD isSbE "InvalidCrew" ["value"] [d] cl__law_heard = some (inv "InvalidCrew" d) := rfl
theorem hr_many (d : D) : hearD isSbE "TooMany" ["limit"] [d] cl__law_heard = some (inv "TooMany" d) := rfl
structure Ks (ks : List Kd) : Prop where
  g : ∀ k ∈ ks, Good k
  l1 : 1 ≤ ks.length
  l3 : ks.length ≤ 3
theorem r_h_crew {d : D} {ks : List Kd} (h : isKs d ks) (k : Ks ks) (S : Store) : m__law_heard_crew [d] S = .ok (told ks) (S ++ [none]) := by
  have q : eHear isSbE isEx cl__law_heard (eCn 1 m__law_facts (aCons (eMak true "Crew" 2 m_Crew___init__ (aCons (eVar 0) aNil)) aNil)) [some d] S = .ok (told ks) (S ++ [none]) := by
    refine ev_hear_ok ?_
    have mk := r_make (fe := eVar 0) (env := [some d]) h k.g k.l1 k.l3 (S1 := S) (ev_var rfl)
    simp [mk, r_facts ks k.g k.l3]
  simp [m__law_heard_crew, q]
theorem r_h_cut {d : D} {ks : List Kd} {n q : Nat} (h : isKs d ks) (k : Ks ks) (hn : n < ks.length) (h1 : ks[n].a ≤ q) (h2 : (q : Int) ≤ qt ks[n]) (S : Store) : m__law_heard_cut [d, .int (n : Int), .int (q : Int)] S = .ok (told (put ks n (cutK ks[n] q))) (S ++ [none] ++ [none]) := by
  have e := r_hear_ok (m := "cut") (n := 3) (F := m_Crew_cut) (fa := aCons (eVar 1) (aCons (eVar 2) aNil)) (env := [some (.int (n : Int)), some (.int (q : Int))]) (S := S) h k.g k.l1 k.l3 ⟨by decide, by decide⟩ rfl rfl (r_cut k.g hn k.l3 h1 h2 _) (put_good k.g (cutK_good (k.g _ (List.getElem_mem hn)) h1)) (by rw [put_len hn]; exact k.l3)
  simp only [m__law_heard_cut, ev_dfn, List.map_cons, List.map_nil, List.length_cons, List.length_nil, Nat.sub_self, List.replicate, List.append_nil, ev_ret, e, ev_sE_ok, out_ret]
theorem r_h_cut_q {d x : D} {ks : List Kd} {n : Nat} (h : isKs d ks) (k : Ks ks) (hn : n < ks.length) (hd : plainD x = true) (hb : betw x ks[n].a (qt ks[n]) = false) (S : Store) : m__law_heard_cut [d, .int (n : Int), x] S = .ok (inv "InvalidNumber" x) (S ++ [none]) := by
  have e := r_hear_exc (m := "cut") (n := 3) (F := m_Crew_cut) (fa := aCons (eVar 1) (aCons (eVar 2) aNil)) (env := [some (.int (n : Int)), some x]) (S := S) h k.g k.l1 k.l3 ⟨by decide, by decide⟩ rfl rfl (r_cut_bad k.g hn hd hb _) (by decide) (hr_num x)
  simp only [m__law_heard_cut, ev_dfn, List.map_cons, List.map_nil, List.length_cons, List.length_nil, Nat.sub_self, List.replicate, List.append_nil, ev_ret, e, ev_sE_ok, out_ret]
theorem r_h_cut_at {d x y : D} {ks : List Kd} (h : isKs d ks) (k : Ks ks) (hd : plainD x = true) (hb : betw x 0 ((ks.length : Int) - 1) = false) (S : Store) : m__law_heard_cut [d, x, y] S = .ok (inv "InvalidNumber" x) (S ++ [none]) := by
  have e := r_hear_exc (m := "cut") (n := 3) (F := m_Crew_cut) (fa := aCons (eVar 1) (aCons (eVar 2) aNil)) (env := [some x, some y]) (S := S) h k.g k.l1 k.l3 ⟨by decide, by decide⟩ rfl rfl (r_cut_at hd hb _) (by decide) (hr_num x)
  simp only [m__law_heard_cut, ev_dfn, List.map_cons, List.map_nil, List.length_cons, List.length_nil, Nat.sub_self, List.replicate, List.append_nil, ev_ret, e, ev_sE_ok, out_ret]
theorem r_h_share {d : D} {ks : List Kd} {o : Int} (h : isKs d ks) (k : Ks ks) (o1 : 1 ≤ o) (o2 : o ≤ 1000) (S : Store) : ∃ S', m__law_heard_share [d, .int o] S = .ok (if (ks.any fun k => !decide (k.m.fmod o = 0)) then inv "InvalidNumber" (.int o) else told (ks.map fun k => shareK k o)) S' ∧ S <+: S' := by
  have q := r_share k.g k.l1 k.l3 o1 o2 (S ++ [none])
  by_cases z : (ks.any fun k => !decide (k.m.fmod o = 0)) = true
  · rw [if_pos z] at q ⊢
    have e := r_hear_exc (m := "share") (n := 2) (F := m_Crew_share) (fa := aCons (eVar 1) aNil) (env := [some (.int o)]) (S := S) h k.g k.l1 k.l3 ⟨by decide, by decide⟩ rfl rfl q (by decide) (hr_num _)
    refine ⟨_, ?_, grow1 S none⟩
    simp only [m__law_heard_share, ev_dfn, List.map_cons, List.map_nil, List.length_cons, List.length_nil, Nat.sub_self, List.replicate, List.append_nil, ev_ret, e, ev_sE_ok, out_ret]
  · rw [if_neg z] at q ⊢
    have e := r_hear_ok (m := "share") (n := 2) (F := m_Crew_share) (fa := aCons (eVar 1) aNil) (env := [some (.int o)]) (S := S) h k.g k.l1 k.l3 ⟨by decide, by decide⟩ rfl rfl q (fun x hx => by
      obtain ⟨y, hy, rfl⟩ := List.mem_map.mp hx
      exact shareK_good (k.g y hy) o1) (by rw [List.length_map]; exact k.l3)
    refine ⟨_, ?_, (grow1 S none).trans (grow1 _ none)⟩
    simp only [m__law_heard_share, ev_dfn, List.map_cons, List.map_nil, List.length_cons, List.length_nil, Nat.sub_self, List.replicate, List.append_nil, ev_ret, e, ev_sE_ok, out_ret]
theorem r_h_share_bad {d x : D} {ks : List Kd} (h : isKs d ks) (k : Ks ks) (hd : plainD x = true) (hb : betw x 1 1000 = false) (S : Store) : m__law_heard_share [d, x] S = .ok (inv "InvalidNumber" x) (S ++ [none]) := by
  have e := r_hear_exc (m := "share") (n := 2) (F := m_Crew_share) (fa := aCons (eVar 1) aNil) (env := [some x]) (S := S) h k.g k.l1 k.l3 ⟨by decide, by decide⟩ rfl rfl (r_share_bad hd hb _) (by decide) (hr_num x)
  simp only [m__law_heard_share, ev_dfn, List.map_cons, List.map_nil, List.length_cons, List.length_nil, Nat.sub_self, List.replicate, List.append_nil, ev_ret, e, ev_sE_ok, out_ret]
theorem r_h_many {d : D} {ks : List Kd} {n : Nat} {m : Int} (h : isKs d ks) (k : Ks ks) (hn : n < ks.length) (h0 : 0 ≤ m) (h1 : m ≤ 1000000000000000000000000000000) (S : Store) : m__law_heard_many [d, .int (n : Int), .int m] S = .ok (told (put ks n (manyK ks[n] m))) (S ++ [none] ++ [none]) := by
  have e := r_hear_ok (m := "with_many") (n := 3) (F := m_Crew_with_many) (fa := aCons (eVar 1) (aCons (eVar 2) aNil)) (env := [some (.int (n : Int)), some (.int m)]) (S := S) h k.g k.l1 k.l3 ⟨by decide, by decide⟩ rfl rfl (r_with_many k.g hn k.l3 h0 h1 _) (put_good k.g (manyK_good (k.g _ (List.getElem_mem hn)) h0 h1)) (by rw [put_len hn]; exact k.l3)
  simp only [m__law_heard_many, ev_dfn, List.map_cons, List.map_nil, List.length_cons, List.length_nil, Nat.sub_self, List.replicate, List.append_nil, ev_ret, e, ev_sE_ok, out_ret]
theorem r_h_many_bad {d x : D} {ks : List Kd} {n : Nat} (h : isKs d ks) (k : Ks ks) (hn : n < ks.length) (hd : plainD x = true) (hb : betw x 0 1000000000000000000000000000000 = false) (S : Store) : m__law_heard_many [d, .int (n : Int), x] S = .ok (inv "InvalidNumber" x) (S ++ [none]) := by
  have e := r_hear_exc (m := "with_many") (n := 3) (F := m_Crew_with_many) (fa := aCons (eVar 1) (aCons (eVar 2) aNil)) (env := [some (.int (n : Int)), some x]) (S := S) h k.g k.l1 k.l3 ⟨by decide, by decide⟩ rfl rfl (r_with_many_bad hn hd hb _) (by decide) (hr_num x)
  simp only [m__law_heard_many, ev_dfn, List.map_cons, List.map_nil, List.length_cons, List.length_nil, Nat.sub_self, List.replicate, List.append_nil, ev_ret, e, ev_sE_ok, out_ret]
theorem r_h_less {d : D} {ks : List Kd} {n : Nat} (h : isKs d ks) (k : Ks ks) (hn : n < ks.length) (h2 : 2 ≤ ks.length) (S : Store) : m__law_heard_less [d, .int (n : Int)] S = .ok (told (del ks n)) (S ++ [none] ++ [none]) := by
  have e := r_hear_ok (m := "without_kind") (n := 2) (F := m_Crew_without_kind) (fa := aCons (eVar 1) aNil) (env := [some (.int (n : Int))]) (S := S) h k.g k.l1 k.l3 ⟨by decide, by decide⟩ rfl rfl (r_without k.g hn h2 k.l3 _) (del_good k.g) (by rw [del_len hn]; have := k.l3; omega)
  simp only [m__law_heard_less, ev_dfn, List.map_cons, List.map_nil, List.length_cons, List.length_nil, Nat.sub_self, List.replicate, List.append_nil, ev_ret, e, ev_sE_ok, out_ret]
theorem r_h_less_one {d : D} {ks : List Kd} (h : isKs d ks) (k : Ks ks) (h1 : ks.length = 1) (S : Store) : m__law_heard_less [d, .int 0] S = .ok (inv "InvalidCrew" (.tup [])) (S ++ [none]) := by
  have e := r_hear_exc (m := "without_kind") (n := 2) (F := m_Crew_without_kind) (fa := aCons (eVar 1) aNil) (env := [some (.int 0)]) (S := S) h k.g k.l1 k.l3 ⟨by decide, by decide⟩ rfl rfl (r_without_one h1 _) (by decide) (hr_crew _)
  simp only [m__law_heard_less, ev_dfn, List.map_cons, List.map_nil, List.length_cons, List.length_nil, Nat.sub_self, List.replicate, List.append_nil, ev_ret, e, ev_sE_ok, out_ret]
theorem r_h_more {d : D} {ks : List Kd} {x : Kd} (h : isKs d ks) (k : Ks ks) (gx : Good x) (h3 : ks.length < 3) (S : Store) : m__law_heard_more [d, vt x, .int x.m] S = .ok (told (ks ++ [x])) (S ++ [none] ++ [none]) := by
  have e := r_hear_ok (m := "with_kind") (n := 3) (F := m_Crew_with_kind) (fa := aCons (eVar 1) (aCons (eVar 2) aNil)) (env := [some (vt x), some (.int x.m)]) (S := S) h k.g k.l1 k.l3 ⟨by decide, by decide⟩ rfl rfl (r_with_kind k.g gx h3 _) (fun y hy => by
    rcases List.mem_append.mp hy with hy | hy
    · exact k.g y hy
    · rw [List.mem_singleton.mp hy]; exact gx) (by simp; omega)
  simp only [m__law_heard_more, ev_dfn, List.map_cons, List.map_nil, List.length_cons, List.length_nil, Nat.sub_self, List.replicate, List.append_nil, ev_ret, e, ev_sE_ok, out_ret]
theorem r_h_more_full {d : D} {ks : List Kd} {x : Kd} (h : isKs d ks) (k : Ks ks) (gx : Good x) (h3 : ks.length = 3) (S : Store) : m__law_heard_more [d, vt x, .int x.m] S = .ok (inv "TooMany" (.int 3)) (S ++ [none]) := by
  have e := r_hear_exc (m := "with_kind") (n := 3) (F := m_Crew_with_kind) (fa := aCons (eVar 1) (aCons (eVar 2) aNil)) (env := [some (vt x), some (.int x.m)]) (S := S) h k.g k.l1 k.l3 ⟨by decide, by decide⟩ rfl rfl (r_with_kind_full gx h3 _) (by decide) (hr_many _)
  simp only [m__law_heard_more, ev_dfn, List.map_cons, List.map_nil, List.length_cons, List.length_nil, Nat.sub_self, List.replicate, List.append_nil, ev_ret, e, ev_sE_ok, out_ret]
theorem r_h_more_many {d y : D} {ks : List Kd} {x : Kd} (h : isKs d ks) (k : Ks ks) (gx : Good x) (hd : plainD y = true) (hb : betw y 0 1000000000000000000000000000000 = false) (S : Store) : m__law_heard_more [d, vt x, y] S = .ok (inv "InvalidNumber" y) (S ++ [none]) := by
  have e := r_hear_exc (m := "with_kind") (n := 3) (F := m_Crew_with_kind) (fa := aCons (eVar 1) (aCons (eVar 2) aNil)) (env := [some (vt x), some y]) (S := S) h k.g k.l1 k.l3 ⟨by decide, by decide⟩ rfl rfl (r_with_kind_many gx hd hb _) (by decide) (hr_num _)
  simp only [m__law_heard_more, ev_dfn, List.map_cons, List.map_nil, List.length_cons, List.length_nil, Nat.sub_self, List.replicate, List.append_nil, ev_ret, e, ev_sE_ok, out_ret]
theorem r_h_more_odd {d x y : D} {ks : List Kd} (h : isKs d ks) (k : Ks ks) (S : Store) (v : ∀ S, m_is_values [x] S = .ok (.bl false) S) : m__law_heard_more [d, x, y] S = .ok (inv "InvalidCrew" x) (S ++ [none]) := by
  have e := r_hear_exc (m := "with_kind") (n := 3) (F := m_Crew_with_kind) (fa := aCons (eVar 1) (aCons (eVar 2) aNil)) (env := [some x, some y]) (S := S) h k.g k.l1 k.l3 ⟨by decide, by decide⟩ rfl rfl (r_with_kind_odd _ (v _)) (by decide) (hr_crew _)
  simp only [m__law_heard_more, ev_dfn, List.map_cons, List.map_nil, List.length_cons, List.length_nil, Nat.sub_self, List.replicate, List.append_nil, ev_ret, e, ev_sE_ok, out_ret]
theorem odd1 (S : Store) : m_is_values [.non] S = .ok (.bl false) S := rfl
theorem odd2 (S : Store) : m_is_values [.tup []] S = .ok (.bl false) S := rfl
theorem odd3 (S : Store) : m_is_values [.tup [.non]] S = .ok (.bl false) S := rfl
theorem odd4 (S : Store) : m_is_values [.tup [.int 3, .int 2]] S = .ok (.bl false) S := rfl
theorem odd5 (S : Store) : m_is_values [.tup [.int 0, .non]] S = .ok (.bl false) S := rfl
theorem odd6 (S : Store) : m_is_values [.lst [.int 0, .int 1]] S = .ok (.bl false) S := rfl
theorem odd7 (S : Store) : m_is_values [.tup [.bl true]] S = .ok (.bl false) S := rfl
theorem odd8 (S : Store) : m_is_values [.tup (List.replicate 42 (.int 0))] S = .ok (.bl false) S := rfl
theorem odd9 (S : Store) : m_is_values [.tup [.str "0"]] S = .ok (.bl false) S := rfl
theorem odd10 (S : Store) : m_is_values [.int 5] S = .ok (.bl false) S := rfl
theorem odd11 (S : Store) : m_is_values [.tup [.int 1, .non, .int 2]] S = .ok (.bl false) S := rfl
/-! the law's parts -/
theorem nice_vals {a : Nat} {xs : List Int} (n : Nat) : ∀ x ∈ vals a xs, nice (n + 1) x = true := fun x hx => by
  unfold vals at hx
  rcases List.mem_append.mp hx with hx | hx
  · rw [List.eq_of_mem_replicate hx]; rfl
  · obtain ⟨i, _, rfl⟩ := List.mem_map.mp hx
    rfl
theorem nice_vt {k : Kd} (g : Good k) (n : Nat) : nice (n + 2) (vt k) = true := by
  show (decide ((vals k.a k.xs).length ≤ 1000000) && (vals k.a k.xs).all (nice (n + 1))) = true
  have := g.len
  rw [Bool.and_eq_true, List.all_eq_true]
  exact ⟨decide_eq_true (by rw [vals_len]; omega), nice_vals n⟩
theorem nice_dk {k : Kd} (g : Good k) (n : Nat) : nice (n + 3) (dk k) = true := by
  show (decide (2 ≤ 1000000) && [vt k, .int k.m].all (nice (n + 2))) = true
  simp only [List.all_cons, List.all_nil, nice_vt g n]
  rfl
theorem nice_ks {ks : List Kd} (g : ∀ k ∈ ks, Good k) (hl : ks.length ≤ 3) (n : Nat) : nice (n + 4) (.tup (ks.map dk)) = true ∧ nice (n + 4) (.lst (ks.map dk)) = true := by
  have h : (decide ((ks.map dk).length ≤ 1000000) && (ks.map dk).all (nice (n + 3))) = true := by
    rw [Bool.and_eq_true, List.all_eq_true]
    refine ⟨decide_eq_true (by rw [List.length_map]; omega), fun x hx => ?_⟩
    obtain ⟨k, hk, rfl⟩ := List.mem_map.mp hx
    exact nice_dk (g k hk) n
  exact ⟨h, h⟩
theorem nice_told {ks : List Kd} (g : ∀ k ∈ ks, Good k) (hl : ks.length ≤ 3) : nice 30 (told ks) = true := by
  have h1 := (nice_ks g hl 24).1
  have h2 : nice 29 (factsD ks) = true := by
    show (decide ((.tup (ks.map dk) :: sumsL ks : List D).length ≤ 1000000) && (.tup (ks.map dk) :: sumsL ks : List D).all (nice 28)) = true
    simp only [List.all_cons, h1, sumsL, List.length_cons, List.length_nil]
    rfl
  show (decide (2 ≤ 1000000) && [D.str "told", factsD ks].all (nice 29)) = true
  have h3 : nice 29 (D.str "told") = true := (by decide +kernel : PySem.PyData.strOk "told" = true)
  simp only [List.all_cons, List.all_nil, h2, h3]
  rfl
theorem nice_inv {t : Str} {d : D} (ht : PySem.PyData.strOk t = true) (hd : nice 28 d = true) : nice 29 (inv t d) = true := by
  show (decide (2 ≤ 1000000) && [D.str t, d].all (nice 28)) = true
  have h : nice 28 (D.str t) = true := ht
  simp only [List.all_cons, hd, h]
  rfl
theorem nice_up : ∀ (n : Nat) (d : D), nice n d = true → nice (n + 1) d = true
  | 0, d, h => by cases h
  | n + 1, d, h => by
    cases d with
    | tup l =>
      have h2 : (decide (l.length ≤ 1000000) && l.all (nice n)) = true := h
      rw [Bool.and_eq_true, List.all_eq_true] at h2
      show (decide (l.length ≤ 1000000) && l.all (nice (n + 1))) = true
      rw [Bool.and_eq_true, List.all_eq_true]
      exact ⟨h2.1, fun x hx => nice_up n x (h2.2 x hx)⟩
    | lst l =>
      have h2 : (decide (l.length ≤ 1000000) && l.all (nice n)) = true := h
      rw [Bool.and_eq_true, List.all_eq_true] at h2
      show (decide (l.length ≤ 1000000) && l.all (nice (n + 1))) = true
      rw [Bool.and_eq_true, List.all_eq_true]
      exact ⟨h2.1, fun x hx => nice_up n x (h2.2 x hx)⟩
    | non => exact h
    | bl b => exact h
    | int i => exact h
    | str x => exact h
    | _ => cases h
theorem nice_lst {l : List D} (hl : l.length ≤ 1000000) (h : ∀ x ∈ l, nice 29 x = true) : nice 30 (.lst l) = true := by
  show (decide (l.length ≤ 1000000) && l.all (nice 29)) = true
  rw [Bool.and_eq_true, List.all_eq_true]
  exact ⟨decide_eq_true hl, h⟩
theorem r_with {ks : List Kd} {n : Nat} {k : Kd} (hn : n < ks.length) (hl : ks.length ≤ 3) (S : Store) : m__law_with [.lst (ks.map dk), .int (n : Int), dk k] S = .ok (.lst ((put ks n k).map dk)) S := by
  have a1 : gAdd mkL (.lst ((ks.map dk).take n)) (.lst [dk k]) S = .ok (.lst ((ks.map dk).take n ++ [dk k])) S := ev_addL (by simp; omega)
  have a2 : gAdd mkL (.lst ((ks.map dk).take n ++ [dk k])) (.lst ((ks.map dk).drop (n + 1))) S = .ok (.lst ((put ks n k).map dk)) S := by
    rw [put_map]
    exact ev_addL (by simp; omega)
  simp [m__law_with, -List.map_take, -List.map_drop, (cut_kinds hn).1, (cut_kinds hn).2, a1, a2, lineN]
theorem okS : ∀ a : Fin 42, PySem.PyData.strOk ((toString ((a.val : Nat) : Int) : String) : Str) = true := by decide +kernel
def oddsK (k : Kd) : List D := [.int ((k.a : Int) - 1), .int (qt k + 1), .non, .bl true, .str (toString (k.a : Int)), .int (-1)]
theorem oddsK_ok {k : Kd} : ∀ d ∈ oddsK k, plainD d = true ∧ betw d k.a (qt k) = false := fun d hd => by
  simp only [oddsK, List.mem_cons, List.not_mem_nil, or_false] at hd
  rcases hd with rfl | rfl | rfl | rfl | rfl | rfl <;> refine ⟨rfl, ?_⟩ <;> simp [betw] <;> omega
theorem oddsK_nice {k : Kd} (g : Good k) : ∀ d ∈ oddsK k, nice 28 d = true := fun d hd => by
  have := g.len
  simp only [oddsK, List.mem_cons, List.not_mem_nil, or_false] at hd
  rcases hd with rfl | rfl | rfl | rfl | rfl | rfl
  · rfl
  · rfl
  · rfl
  · rfl
  · exact okS ⟨k.a, by omega⟩
  · rfl
theorem r_strI {a : Nat} (h : a ≤ 41) (S : Store) : gStrI [.int (a : Int)] S = .ok (.str (toString (a : Int))) S := by
  refine if_pos ?_
  rw [Int.natAbs_natCast]
  rcases Nat.eq_zero_or_pos a with rfl | hp
  · decide
  · exact Nat.lt_trans ((Nat.log2_lt (k := 6) (by omega)).mpr (by omega)) (by decide)
/-- what the odd ones make -/
theorem invs {l : List D} {n i : Nat} {env : DEnv} {S : Store} (hl : l.length ≤ 100) (hf : ∀ S, iSeq (eVar n) env S = .ok l S) (hi : i < (wipeD env [i]).length) :
    eLc mkL (iSeq (eVar n)) (tN i) tYesD (eTup (aCons (eK (.str "InvalidNumber")) (aCons (eVar i) aNil))) [i] env S = .ok (.lst (l.map (inv "InvalidNumber"))) S :=
  eLc_all _ (hf S) (le_line (by omega)) fun d hd => ⟨_, rfl, by
    have : ((wipeD env [i]).set i (some d))[i]? = some (some d) := List.getElem?_set_self hi
    simp [ev_var this, lineN, inv]⟩
theorem cuts_inner {ks : List Kd} (K : Ks ks) {n : Nat} (hn : n < ks.length) (x8 x9 u0 v0 : Option D) (S : Store) : ∃ u v S', sFor (iRng2 (aCons (eVar 4) (aCons (e2 (gAdd mkL) (eVar 5) (eK (.int 1))) aNil))) (tN 6) m__law_cuts_right_b0
    [some (.lst (ks.map dk)), some (.int (n : Int)), some (vt ks[n]), some (.int ks[n].m), some (.int ks[n].a), some (.int (qt ks[n])), u0, v0, x8, x9] S = .nx [some (.lst (ks.map dk)), some (.int (n : Int)), some (vt ks[n]), some (.int ks[n].m), some (.int ks[n].a), some (.int (qt ks[n])), u, v, x8, x9] S' ∧ S <+: S' := by
  have gn := K.g ks[n] (List.getElem_mem hn)
  have bq := qt_ge gn
  obtain ⟨e, S', q1, q2⟩ := forL_go (g := tN 6) (fb := m__law_cuts_right_b0)
    (fun ds e S' => S <+: S' ∧ (∃ u v, e = [some (.lst (ks.map dk)), some (.int (n : Int)), some (vt ks[n]), some (.int ks[n].m), some (.int ks[n].a), some (.int (qt ks[n])), u, v, x8, x9]) ∧ ∀ y ∈ ds, ∃ q : Nat, y = .int (q : Int) ∧ ks[n].a ≤ q ∧ (q : Int) ≤ qt ks[n]) (fun y ds e S1 ⟨hS, ⟨u, v, he⟩, hy⟩ => by
      subst he
      obtain ⟨q, rfl, a1, a2⟩ := hy y (List.mem_cons_self ..)
      have gc := cutK_good gn a1
      have hc := r_h_cut (.inl rfl) K hn a1 a2 S1
      have hw := r_with (k := cutK ks[n] q) hn K.l3 S1
      have ho := r_owed (put ks n (cutK ks[n] q)) (put_good K.g gc) (by rw [put_len hn]; exact K.l3) S1
      have ee : dk (cutK ks[n] q) = .tup [.tup (vals ks[n].a (ks[n].xs.take (q + 1 - ks[n].a))), .int ks[n].m] := rfl
      rw [ee] at hw
      have hs := same_ok 30 (told (put ks n (cutK ks[n] q))) (S1 ++ [none] ++ [none]) (nice_told (put_good K.g gc) (by rw [put_len hn]; exact K.l3))
      refine ⟨_, rfl, [some (.lst (ks.map dk)), some (.int (n : Int)), some (vt ks[n]), some (.int ks[n].m), some (.int ks[n].a), some (.int (qt ks[n])), some (.int (q : Int)), some (told (put ks n (cutK ks[n] q))), x8, x9], S1 ++ [none] ++ [none], .inl ?_, (hS.trans (grow1 _ _)).trans (grow1 _ _), ⟨_, _, rfl⟩, fun z hz => hy z (List.mem_cons_of_mem _ hz)⟩
      simp only [vt] at *
      simp [m__law_cuts_right_b0, cutK_vals a1, lineN, hw, ho, -List.append_assoc, hc, hs])
    (rngD ks[n].a (qt ks[n] + 1 - ks[n].a).toNat) [some (.lst (ks.map dk)), some (.int (n : Int)), some (vt ks[n]), some (.int ks[n].m), some (.int ks[n].a), some (.int (qt ks[n])), u0, v0, x8, x9] S ⟨List.prefix_refl _, ⟨_, _, rfl⟩, fun y hy => by
      obtain ⟨j, hj, rfl⟩ := mem_rngD hy
      exact ⟨ks[n].a + j, by simp, by omega, by omega⟩⟩
  obtain ⟨hS, ⟨u, v, rfl⟩, _⟩ := q2
  refine ⟨u, v, S', ?_, hS⟩
  show sE (iRng2 _ _ _) _ _ = _
  rw [iRng2_ok (i := ks[n].a) (j := qt ks[n] + 1) (S' := S) (by simp) (by omega) (by omega), ev_sE_ok]
  exact q1
theorem niceS (t : Str) (h : PySem.PyData.strOk t = true) (n : Nat) : nice (n + 1) (.str t) = true := h
theorem okNum : PySem.PyData.strOk "InvalidNumber" = true := by decide +kernel
theorem okCrew : PySem.PyData.strOk "InvalidCrew" = true := by decide +kernel
theorem okMany : PySem.PyData.strOk "TooMany" = true := by decide +kernel
theorem nice_invs {l : List D} (hl : l.length ≤ 100) (h : ∀ d ∈ l, nice 28 d = true) : nice 30 (.lst (l.map (inv "InvalidNumber"))) = true :=
  nice_lst (by rw [List.length_map]; omega) fun x hx => by
    obtain ⟨d, hd, rfl⟩ := List.mem_map.mp hx
    exact nice_inv okNum (h d hd)
def oddsN (n : Nat) : List D := [.int (-1), .int (n : Int), .non, .bl true, .str "0", .tup [.int 0]]
theorem oddsN_ok {n : Nat} : ∀ d ∈ oddsN n, plainD d = true ∧ betw d 0 ((n : Int) - 1) = false ∧ nice 28 d = true := fun d hd => by
  simp only [oddsN, List.mem_cons, List.not_mem_nil, or_false] at hd
  rcases hd with rfl | rfl | rfl | rfl | rfl | rfl
  · exact ⟨rfl, by simp [betw], rfl⟩
  · exact ⟨rfl, by simp [betw]; omega, rfl⟩
  · exact ⟨rfl, rfl, rfl⟩
  · exact ⟨rfl, rfl, rfl⟩
  · exact ⟨rfl, rfl, niceS "0" (by decide +kernel) 27⟩
  · exact ⟨rfl, rfl, rfl⟩
theorem cuts_step {ks : List Kd} (K : Ks ks) {n : Nat} (hn : n < ks.length) (w2 w3 w4 w5 w6 w7 w8 w9 : Option D) (S1 : Store) : ∃ u3 u4 u5 u6 u7 u8 u9 u2 S', m__law_cuts_right_b1 [some (.lst (ks.map dk)), some (.int (n : Int)), w2, w3, w4, w5, w6, w7, w8, w9] S1 = .nx [some (.lst (ks.map dk)), some (.int (n : Int)), u2, u3, u4, u5, u6, u7, u8, u9] S' ∧ S1 <+: S' := by
  have gn := K.g ks[n] (List.getElem_mem hn)
  have al := gn.len
  obtain ⟨u, v, S2, h1, p1⟩ := cuts_inner K hn w8 w9 w6 w7 S1
  have od : ∀ v w8 S, eLst mkL (aCons (e2 gSub (eVar 4) (eK (.int 1))) (aCons (e2 (gAdd mkL) (eVar 5) (eK (.int 1))) (aCons (eK .non) (aCons (eK (.bl true)) (aCons (eC gStrI (aCons (eVar 4) aNil)) (aCons (e1 gNeg (eK (.int 1))) aNil)))))) [some (.lst (ks.map dk)), some (.int (n : Int)), some (vt ks[n]), some (.int ks[n].m), some (.int ks[n].a), some (.int (qt ks[n])), u, v, w8, w9] S = .ok (.lst (oddsK ks[n])) S := fun v w8 S => by
    simp [r_strI (show ks[n].a ≤ 41 by omega), lineN, oddsK]
  obtain ⟨S3, h2, p2⟩ := eLc_grow (fi := iSeq (eLst mkL (aCons (e2 gSub (eVar 4) (eK (.int 1))) (aCons (e2 (gAdd mkL) (eVar 5) (eK (.int 1))) (aCons (eK .non) (aCons (eK (.bl true)) (aCons (eC gStrI (aCons (eVar 4) aNil)) (aCons (e1 gNeg (eK (.int 1))) aNil)))))))) (g := tN 9) (fe := eCn 3 m__law_heard_cut (aCons (eVar 0) (aCons (eVar 1) (aCons (eVar 9) aNil)))) (vs := [9]) (env := [some (.lst (ks.map dk)), some (.int (n : Int)), some (vt ks[n]), some (.int ks[n].m), some (.int ks[n].a), some (.int (qt ks[n])), u, v, w8, w9]) (S := S2) (inv "InvalidNumber") (ev_iSeqL (od v w8 S2)) (le_line (by simp [oddsK])) (fun d hd => ⟨_, rfl, fun S3 _ => ⟨S3 ++ [none], by
      have o := oddsK_ok d hd
      simp [wipeD, r_h_cut_q (.inl rfl) K hn o.1 o.2 S3], grow1 _ _⟩⟩)
  have h3 : ∀ w8, eLc mkL (iSeq (eVar 7)) (tN 9) tYesD (eTup (aCons (eK (.str "InvalidNumber")) (aCons (eVar 9) aNil))) [9] [some (.lst (ks.map dk)), some (.int (n : Int)), some (vt ks[n]), some (.int ks[n].m), some (.int ks[n].a), some (.int (qt ks[n])), u, some (.lst (oddsK ks[n])), w8, w9] S3 = .ok (.lst ((oddsK ks[n]).map (inv "InvalidNumber"))) S3 := fun w8 => invs (by simp [oddsK]) (fun S => ev_iSeqL (ev_var rfl)) (by simp [wipeD])
  have h4 := same_ok 30 _ S3 (nice_invs (l := oddsK ks[n]) (by simp [oddsK]) (oddsK_nice gn))
  have sg : sAsg (e2 gIx (eVar 0) (eVar 1)) (tT 2 (tCons (tN 2) (tCons (tN 3) tNil))) [some (.lst (ks.map dk)), some (.int (n : Int)), w2, w3, w4, w5, w6, w7, w8, w9] S1 = .nx [some (.lst (ks.map dk)), some (.int (n : Int)), some (vt ks[n]), some (.int ks[n].m), w4, w5, w6, w7, w8, w9] S1 := by
    unfold sAsg
    simp [r_kindAtL hn, dk, tT, tCons, tN, tNil]
  generalize hL : (oddsK ks[n]).map (inv "InvalidNumber") = L at *
  generalize hO : eLst mkL (aCons (e2 gSub (eVar 4) (eK (.int 1))) (aCons (e2 (gAdd mkL) (eVar 5) (eK (.int 1))) (aCons (eK .non) (aCons (eK (.bl true)) (aCons (eC gStrI (aCons (eVar 4) aNil)) (aCons (e1 gNeg (eK (.int 1))) aNil)))))) = O at *
  refine ⟨some (.int ks[n].m), some (.int ks[n].a), some (.int (qt ks[n])), u, some (.lst (oddsK ks[n])), some (.lst L), w9, some (vt ks[n]), S3, ?_, p1.trans p2⟩
  unfold m__law_cuts_right_b1
  rw [hO]
  simp [sg, sPar, r_pcl gn, r_pcq, h1, h2, od, h3, h4]
theorem r_cuts {ks : List Kd} (K : Ks ks) (S : Store) : ∃ S', m__law_cuts_right [.lst (ks.map dk)] S = .ok (.bl true) S' ∧ S <+: S' := by
  have l3 := K.l3
  have outer : ∃ w1 w2 w3 w4 w5 w6 w7 w8 w9 S', sFor (iRng1 (aCons (eC gLen (aCons (eVar 0) aNil)) aNil)) (tN 1) m__law_cuts_right_b1 [some (.lst (ks.map dk)), none, none, none, none, none, none, none, none, none] S = .nx [some (.lst (ks.map dk)), w1, w2, w3, w4, w5, w6, w7, w8, w9] S' ∧ S <+: S' := by
    obtain ⟨e, S', q1, q2⟩ := forL_go (g := tN 1) (fb := m__law_cuts_right_b1)
      (fun ds e S' => S <+: S' ∧ (∃ w1 w2 w3 w4 w5 w6 w7 w8 w9, e = [some (.lst (ks.map dk)), w1, w2, w3, w4, w5, w6, w7, w8, w9]) ∧ ∀ y ∈ ds, ∃ n : Nat, n < ks.length ∧ y = .int (n : Int)) (fun y ds e S1 ⟨hS, ⟨w1, w2, w3, w4, w5, w6, w7, w8, w9, he⟩, hy⟩ => by
        subst he
        obtain ⟨n, hn, rfl⟩ := hy y (List.mem_cons_self ..)
        obtain ⟨u3, u4, u5, u6, u7, u8, u9, u2, S2, h1, p1⟩ := cuts_step K hn w2 w3 w4 w5 w6 w7 w8 w9 S1
        exact ⟨_, rfl, _, S2, .inl h1, hS.trans p1, ⟨_, _, _, _, _, _, _, _, _, rfl⟩, fun z hz => hy z (List.mem_cons_of_mem _ hz)⟩)
      (rngD 0 ks.length) [some (.lst (ks.map dk)), none, none, none, none, none, none, none, none, none] S ⟨List.prefix_refl _, ⟨_, _, _, _, _, _, _, _, _, rfl⟩, fun y hy => by
        obtain ⟨j, hj, rfl⟩ := mem_rngD hy
        exact ⟨j, hj, by simp⟩⟩
    obtain ⟨hS, ⟨w1, w2, w3, w4, w5, w6, w7, w8, w9, rfl⟩, _⟩ := q2
    refine ⟨w1, w2, w3, w4, w5, w6, w7, w8, w9, S', ?_, hS⟩
    show sE (iRng1 _ _ _) _ _ = _
    rw [iRng1_ok (n := ks.length) (S' := S) (by simp) (by omega), ev_sE_ok]
    exact q1
  obtain ⟨w1, w2, w3, w4, w5, w6, w7, w8, w9, S1, h1, p1⟩ := outer
  have od : ∀ w8 S, eLst mkL (aCons (e1 gNeg (eK (.int 1))) (aCons (eC gLen (aCons (eVar 0) aNil)) (aCons (eK .non) (aCons (eK (.bl true)) (aCons (eK (.str "0")) (aCons (eTup (aCons (eK (.int 0)) aNil)) aNil)))))) [some (.lst (ks.map dk)), w1, w2, w3, w4, w5, w6, w7, w8, w9] S = .ok (.lst (oddsN ks.length)) S := fun w8 S => by
    simp [lineN, oddsN]
  obtain ⟨S2, h2, p2⟩ := eLc_grow (fi := iSeq (eLst mkL (aCons (e1 gNeg (eK (.int 1))) (aCons (eC gLen (aCons (eVar 0) aNil)) (aCons (eK .non) (aCons (eK (.bl true)) (aCons (eK (.str "0")) (aCons (eTup (aCons (eK (.int 0)) aNil)) aNil)))))))) (g := tN 9) (fe := eCn 3 m__law_heard_cut (aCons (eVar 0) (aCons (eVar 9) (aCons (eK .non) aNil)))) (vs := [9]) (env := [some (.lst (ks.map dk)), w1, w2, w3, w4, w5, w6, w7, w8, w9]) (S := S1) (inv "InvalidNumber") (ev_iSeqL (od w8 S1)) (le_line (by simp [oddsN])) (fun d hd => ⟨_, rfl, fun S3 _ => ⟨S3 ++ [none], by
      have o := oddsN_ok d hd
      simp [wipeD, r_h_cut_at (y := .non) (.inl rfl) K o.1 o.2.1 S3], grow1 _ _⟩⟩)
  have h3 : eLc mkL (iSeq (eLst mkL (aCons (e1 gNeg (eK (.int 1))) (aCons (eC gLen (aCons (eVar 0) aNil)) (aCons (eK .non) (aCons (eK (.bl true)) (aCons (eK (.str "0")) (aCons (eTup (aCons (eK (.int 0)) aNil)) aNil)))))))) (tN 9) tYesD (eTup (aCons (eK (.str "InvalidNumber")) (aCons (eVar 9) aNil))) [9] [some (.lst (ks.map dk)), w1, w2, w3, w4, w5, w6, w7, some (.lst ((oddsN ks.length).map (inv "InvalidNumber"))), w9] S2 = .ok (.lst ((oddsN ks.length).map (inv "InvalidNumber"))) S2 :=
    eLc_all _ (ev_iSeqL (od _ S2)) (le_line (by simp [oddsN])) fun d hd => ⟨_, rfl, by simp [wipeD, lineN, inv]⟩
  have h4 := same_ok 30 _ S2 (nice_invs (l := oddsN ks.length) (by simp [oddsN]) fun d hd => (oddsN_ok d hd).2.2)
  generalize hL : (oddsN ks.length).map (inv "InvalidNumber") = L at *
  generalize hO : eLst mkL (aCons (e1 gNeg (eK (.int 1))) (aCons (eC gLen (aCons (eVar 0) aNil)) (aCons (eK .non) (aCons (eK (.bl true)) (aCons (eK (.str "0")) (aCons (eTup (aCons (eK (.int 0)) aNil)) aNil)))))) = O at *
  refine ⟨S2, ?_, p1.trans p2⟩
  unfold m__law_cuts_right
  rw [hO]
  simp [h1, h2, h3, h4]
/-! shares -/
theorem mx_zero : ∀ (ms : List Int) (m : Int), 0 ≤ m → (∀ x ∈ ms, (0 : Int) ≤ x) → decide (ms.foldl max m = 0) = !((m :: ms).any fun x => !decide (x = 0))
  | [], m, h0, _ => by rw [List.foldl_nil]; simp only [List.any_cons, List.any_nil, Bool.or_false, Bool.not_not]
  | x :: ms, m, h0, h => by
    have hx := h x (List.mem_cons_self ..)
    have ih := mx_zero ms (max m x) (by omega) fun y hy => h y (List.mem_cons_of_mem _ hy)
    rw [List.foldl_cons, ih, List.any_cons, List.any_cons, List.any_cons]
    have e : decide (max m x = 0) = (decide (m = 0) && decide (x = 0)) := by
      by_cases a : m = 0 <;> by_cases b : x = 0 <;> simp [a, b] <;> omega
    rw [e]
    cases decide (m = 0) <;> cases decide (x = 0) <;> simp
theorem fm_ge {m o : Int} (h : 1 ≤ o) : 0 ≤ m.fmod o := Int.fmod_nonneg_of_pos m (by omega)
theorem shares_step {ks : List Kd} (K : Ks ks) {o : Int} (o1 : 1 ≤ o) (o2 : o ≤ 1000) (w2 w3 w4 w5 w6 w7 w8 : Option D) (S : Store) : ∃ u2 u3 S', m__law_shares_right_b0 [some (.lst (ks.map dk)), some (.int o), w2, w3, w4, w5, w6, w7, w8] S = .nx [some (.lst (ks.map dk)), some (.int o), u2, u3, w4, w5, w6, w7, w8] S' ∧ S <+: S' := by
  have l3 := K.l3
  have g := K.g
  have c1 : ∀ w3, eLc mkL (iSeq (eVar 0)) (tT 2 (tCons (tN 5) (tCons (tN 6) tNil))) tYesD (e2 gMod (eVar 6) (eVar 1)) [5, 6] [some (.lst (ks.map dk)), some (.int o), w2, w3, w4, w5, w6, w7, w8] S = .ok (.lst ((ks.map fun k => k.m.fmod o).map D.int)) S := fun w3 => by
    rw [List.map_map]
    refine kcomp _ (ev_iSeqL (ev_var rfl)) (by omega) fun k hk => ?_
    simp [wipeD, ev_mod (show o ≠ 0 by omega)]
  have c2 : ∀ w3 (ms : List Int), ms.length ≤ 3 → eLc mkL (iSeq (eVar 2)) (tN 8) tYesD (eC gInt1 (aCons (eVar 8) aNil)) [8] [some (.lst (ks.map dk)), some (.int o), some (.lst (ms.map D.int)), w3, w4, w5, w6, w7, w8] S = .ok (.lst (ms.map D.int)) S := fun w3 ms hl =>
    eLcA_all D.int D.int (ev_iSeqL (ev_var rfl)) (by omega) fun i hi => ⟨_, rfl, by simp [wipeD]⟩
  have c3 : ∀ w2 w3, eLc mkL (iSeq (eVar 0)) (tT 2 (tCons (tN 5) (tCons (tN 6) tNil))) tYesD (eTup (aCons (eVar 5) (aCons (e2 gDiv (eVar 6) (eVar 1)) aNil))) [5, 6] [some (.lst (ks.map dk)), some (.int o), w2, w3, w4, w5, w6, w7, w8] S = .ok (.lst ((ks.map fun k => shareK k o).map dk)) S := fun w2 w3 => by
    rw [List.map_map]
    refine kcomp _ (ev_iSeqL (ev_var rfl)) (by omega) fun k hk => ?_
    simp [wipeD, ev_div (show 0 < o by omega) (log_small o1 o2), lineN, dk, shareK, vt]
  have gs : ∀ x ∈ ks.map fun k => shareK k o, Good x := fun x hx => by
    obtain ⟨y, hy, rfl⟩ := List.mem_map.mp hx
    exact shareK_good (g y hy) o1
  have ow := r_owed (ks.map fun k => shareK k o) gs (by rw [List.length_map]; exact l3) S
  obtain ⟨S', hh, hp⟩ := r_h_share (.inl rfl) K o1 o2 S
  have mx : ∃ m0 ms, ks.map (fun k => k.m.fmod o) = m0 :: ms ∧ decide (ms.foldl max m0 = 0) = !(ks.any fun k => !decide (k.m.fmod o = 0)) := by
    cases ks with
    | nil => exact absurd K.l1 (by simp)
    | cons k ks =>
      refine ⟨k.m.fmod o, ks.map fun k => k.m.fmod o, rfl, ?_⟩
      rw [mx_zero _ _ (fm_ge o1) (fun x hx => by
        obtain ⟨y, _, rfl⟩ := List.mem_map.mp hx
        exact fm_ge o1), List.any_cons, List.any_cons, List.any_map]
      rfl
  obtain ⟨m0, ms, em, hmx⟩ := mx
  have hlen : (m0 :: ms).length ≤ 3 := by rw [← em, List.length_map]; exact l3
  rw [em] at c1
  have gm := ev_maxL (ns := ms) (n := m0) (S := S)
  have c2 := fun w3 => c2 w3 (m0 :: ms) hlen
  generalize hL : (m0 :: ms).map D.int = L at c1 c2 gm
  have nt := nice_told gs (by rw [List.length_map]; exact l3)
  have ni : nice 30 (inv "InvalidNumber" (.int o)) = true := nice_up 29 _ (nice_inv okNum rfl)
  by_cases z : (ks.any fun k => !decide (k.m.fmod o = 0)) = true
  · rw [if_pos z] at hh
    have ne : ¬ (ms.foldl max m0 = 0) := of_decide_eq_false (by rw [hmx, z]; rfl)
    have hs := same_ok 30 _ S' ni
    refine ⟨some (.lst L), some (inv "InvalidNumber" (.int o)), S', ?_, hp⟩
    have hv : eTup (aCons (eK (.str "InvalidNumber")) (aCons (eVar 1) aNil)) [some (.lst (ks.map dk)), some (.int o), some (.lst L), w3, w4, w5, w6, w7, w8] S = .ok (inv "InvalidNumber" (.int o)) S := by simp [lineN, inv]
    generalize inv "InvalidNumber" (.int o) = I at hh hs hv ⊢
    unfold m__law_shares_right_b0
    generalize eTup (aCons (eK (.str "InvalidNumber")) (aCons (eVar 1) aNil)) = T at hv ⊢
    simp [c1, c2, gm, ne, hh, hs, hv]
  · rw [if_neg z] at hh
    have eq : ms.foldl max m0 = 0 := of_decide_eq_true (by rw [hmx]; simpa using z)
    have hs := same_ok 30 _ S' nt
    refine ⟨some (.lst L), some (told (ks.map fun k => shareK k o)), S', ?_, hp⟩
    have hv : eTup (aCons (eK (.str "InvalidNumber")) (aCons (eVar 1) aNil)) [some (.lst (ks.map dk)), some (.int o), some (.lst L), w3, w4, w5, w6, w7, w8] S = .ok (inv "InvalidNumber" (.int o)) S := by simp [lineN, inv]
    have c3 := c3 (some (.lst L))
    generalize (ks.map fun k => shareK k o).map dk = Q at *
    generalize inv "InvalidNumber" (.int o) = I at hv
    generalize told (ks.map fun k => shareK k o) = I at hh hs ow ⊢
    unfold m__law_shares_right_b0
    generalize eTup (aCons (eK (.str "InvalidNumber")) (aCons (eVar 1) aNil)) = T at hv ⊢
    simp [c1, c2, gm, eq, hh, c3, ow, hs, hv]
def oddsS : List D := [.int 0, .int (-1), .int 1001, .non, .bl true, .str "2", .tup [.int 2], .int 1000000000000000000000000000000]
theorem oddsS_ok : ∀ d ∈ oddsS, plainD d = true ∧ betw d 1 1000 = false ∧ nice 28 d = true := fun d hd => by
  simp only [oddsS, List.mem_cons, List.not_mem_nil, or_false] at hd
  rcases hd with rfl | rfl | rfl | rfl | rfl | rfl | rfl | rfl
  · exact ⟨rfl, rfl, rfl⟩
  · exact ⟨rfl, rfl, rfl⟩
  · exact ⟨rfl, rfl, rfl⟩
  · exact ⟨rfl, rfl, rfl⟩
  · exact ⟨rfl, rfl, rfl⟩
  · exact ⟨rfl, rfl, niceS "2" (by decide +kernel) 27⟩
  · exact ⟨rfl, rfl, rfl⟩
  · exact ⟨rfl, rfl, rfl⟩
theorem r_shares {ks : List Kd} (K : Ks ks) (S : Store) : ∃ S', m__law_shares_right [.lst (ks.map dk)] S = .ok (.bl true) S' ∧ S <+: S' := by
  have l3 := K.l3
  have outer : ∃ w1 w2 w3 w4 w5 w6 w7 w8 S', sFor (iSeq (e2 (gAdd mkL) (eLRg2 mkL (eK (.int 1)) (eK (.int 41))) (eLst mkL (aCons (eK (.int 999)) (aCons (eK (.int 1000)) aNil))))) (tN 1) m__law_shares_right_b0 [some (.lst (ks.map dk)), none, none, none, none, none, none, none, none] S = .nx [some (.lst (ks.map dk)), w1, w2, w3, w4, w5, w6, w7, w8] S' ∧ S <+: S' := by
    obtain ⟨e, S', q1, q2⟩ := forL_go (g := tN 1) (fb := m__law_shares_right_b0)
      (fun ds e S' => S <+: S' ∧ (∃ w1 w2 w3 w4 w5 w6 w7 w8, e = [some (.lst (ks.map dk)), w1, w2, w3, w4, w5, w6, w7, w8]) ∧ ∀ y ∈ ds, ∃ o : Int, 1 ≤ o ∧ o ≤ 1000 ∧ y = .int o) (fun y ds e S1 ⟨hS, ⟨w1, w2, w3, w4, w5, w6, w7, w8, he⟩, hy⟩ => by
        subst he
        obtain ⟨o, o1, o2, rfl⟩ := hy y (List.mem_cons_self ..)
        obtain ⟨u2, u3, S2, h1, p1⟩ := shares_step K o1 o2 w2 w3 w4 w5 w6 w7 w8 S1
        exact ⟨_, rfl, _, S2, .inl h1, hS.trans p1, ⟨_, _, _, _, _, _, _, _, rfl⟩, fun z hz => hy z (List.mem_cons_of_mem _ hz)⟩)
      (rgL 1 41 ++ [.int 999, .int 1000]) [some (.lst (ks.map dk)), none, none, none, none, none, none, none, none] S ⟨List.prefix_refl _, ⟨_, _, _, _, _, _, _, _, rfl⟩, fun y hy => by
        rcases List.mem_append.mp hy with hy | hy
        · obtain ⟨j, hj, rfl⟩ := List.mem_map.mp hy
          have hj := List.mem_range.mp hj
          exact ⟨_, by omega, by omega, rfl⟩
        · simp only [List.mem_cons, List.not_mem_nil, or_false] at hy
          rcases hy with rfl | rfl
          · exact ⟨999, by omega, by omega, rfl⟩
          · exact ⟨1000, by omega, by omega, rfl⟩⟩
    obtain ⟨hS, ⟨w1, w2, w3, w4, w5, w6, w7, w8, rfl⟩, _⟩ := q2
    refine ⟨w1, w2, w3, w4, w5, w6, w7, w8, S', ?_, hS⟩
    have hl : ∀ env S, eLst mkL (aCons (eK (.int 999)) (aCons (eK (.int 1000)) aNil)) env S = .ok (.lst [.int 999, .int 1000]) S := fun env S => by simp [lineN]
    have ha : gAdd mkL (.lst (rgL 1 41)) (.lst [.int 999, .int 1000]) S = .ok (.lst (rgL 1 41 ++ [.int 999, .int 1000])) S := ev_addL (by simp [rgL])
    have hr : ∀ env S, eLRg2 mkL (eK (.int 1)) (eK (.int 41)) env S = .ok (.lst (rgL 1 41)) S := fun env S => rfl
    show sE (iSeq _ _ _) _ _ = _
    rw [ev_iSeqL (l := rgL 1 41 ++ [.int 999, .int 1000]) (S' := S) (by simp only [ev_e2, hr, hl, bind_ok, ha]), ev_sE_ok]
    exact q1
  obtain ⟨w1, w2, w3, w4, w5, w6, w7, w8, S1, h1, p1⟩ := outer
  have od : ∀ w4 S, eLst mkL (aCons (eK (.int 0)) (aCons (e1 gNeg (eK (.int 1))) (aCons (eK (.int 1001)) (aCons (eK .non) (aCons (eK (.bl true)) (aCons (eK (.str "2")) (aCons (eTup (aCons (eK (.int 2)) aNil)) (aCons (e2 gPow (eK (.int 10)) (eK (.int 30))) aNil)))))))) [some (.lst (ks.map dk)), w1, w2, w3, w4, w5, w6, w7, w8] S = .ok (.lst oddsS) S := fun w4 S => by
    simp [lineN, oddsS, ev_pow]
  obtain ⟨S2, h2, p2⟩ := eLc_grow (fi := iSeq (eVar 4)) (g := tN 7) (fe := eCn 2 m__law_heard_share (aCons (eVar 0) (aCons (eVar 7) aNil))) (vs := [7]) (env := [some (.lst (ks.map dk)), w1, w2, w3, some (.lst oddsS), w5, w6, w7, w8]) (S := S1) (inv "InvalidNumber") (ev_iSeqL (ev_var rfl)) (le_line (by simp [oddsS])) (fun d hd => ⟨_, rfl, fun S3 _ => ⟨S3 ++ [none], by
      have o := oddsS_ok d hd
      simp [wipeD, r_h_share_bad (.inl rfl) K o.1 o.2.1 S3], grow1 _ _⟩⟩)
  have h3 : eLc mkL (iSeq (eVar 4)) (tN 7) tYesD (eTup (aCons (eK (.str "InvalidNumber")) (aCons (eVar 7) aNil))) [7] [some (.lst (ks.map dk)), w1, w2, w3, some (.lst oddsS), w5, w6, w7, w8] S2 = .ok (.lst (oddsS.map (inv "InvalidNumber"))) S2 := invs (by simp [oddsS]) (fun S => ev_iSeqL (ev_var rfl)) (by simp [wipeD])
  have h4 := same_ok 30 _ S2 (nice_invs (l := oddsS) (by simp [oddsS]) fun d hd => (oddsS_ok d hd).2.2)
  generalize hL : oddsS.map (inv "InvalidNumber") = L at *
  refine ⟨S2, ?_, p1.trans p2⟩
  unfold m__law_shares_right
  generalize hO : eLst mkL (aCons (eK (.int 0)) (aCons (e1 gNeg (eK (.int 1))) (aCons (eK (.int 1001)) (aCons (eK .non) (aCons (eK (.bl true)) (aCons (eK (.str "2")) (aCons (eTup (aCons (eK (.int 2)) aNil)) (aCons (e2 gPow (eK (.int 10)) (eK (.int 30))) aNil)))))))) = O at *
  simp [h1, od, h2, h3, h4]
/-! numbers of members -/
theorem ev_pair0 {a b : D} {S : Store} : gIx (.tup [a, b]) (.int 0) S = .ok a S := rfl
theorem manies_inner {ks : List Kd} (K : Ks ks) {n : Nat} (hn : n < ks.length) {m : Int} (m0 : 0 ≤ m) (m1 : m ≤ 1000000000000000000000000000000) (w3 w4 w5 w6 w7 : Option D) (S : Store) : ∃ u3 S', m__law_manies_right_b0 [some (.lst (ks.map dk)), some (.int (n : Int)), some (.int m), w3, w4, w5, w6, w7] S = .nx [some (.lst (ks.map dk)), some (.int (n : Int)), some (.int m), u3, w4, w5, w6, w7] S' ∧ S <+: S' := by
  have gn := K.g ks[n] (List.getElem_mem hn)
  have hv : eTup (aCons (e2 gIx (e2 gIx (eVar 0) (eVar 1)) (eK (.int 0))) (aCons (eVar 2) aNil)) [some (.lst (ks.map dk)), some (.int (n : Int)), some (.int m), w3, w4, w5, w6, w7] S = .ok (dk (manyK ks[n] m)) S := by
    simp [r_kindAtL hn, dk, lineN, manyK, vt, ev_pair0]
  have gp := put_good K.g (manyK_good gn m0 m1) (n := n)
  have ow := r_owed (put ks n (manyK ks[n] m)) gp (by rw [put_len hn]; exact K.l3) S
  have hw := r_with (k := manyK ks[n] m) hn K.l3 S
  have hh := r_h_many (.inl rfl) K hn m0 m1 S
  have hs := same_ok 30 _ (S ++ [none] ++ [none]) (nice_told gp (by rw [put_len hn]; exact K.l3))
  refine ⟨some (told (put ks n (manyK ks[n] m))), S ++ [none] ++ [none], ?_, (grow1 _ _).trans (grow1 _ _)⟩
  generalize S ++ [none] ++ [none] = S9 at *
  unfold m__law_manies_right_b0
  generalize eTup (aCons (e2 gIx (e2 gIx (eVar 0) (eVar 1)) (eK (.int 0))) (aCons (eVar 2) aNil)) = T at hv ⊢
  generalize (put ks n (manyK ks[n] m)).map dk = Q at *
  generalize told (put ks n (manyK ks[n] m)) = I at *
  simp [hv, hw, ow, hh, hs]
def oddsM : List D := [.int (-1), .int 1000000000000000000000000000001, .non, .bl true, .str "1", .tup [.int 1]]
theorem oddsM_ok : ∀ d ∈ oddsM, plainD d = true ∧ betw d 0 1000000000000000000000000000000 = false ∧ nice 28 d = true := fun d hd => by
  simp only [oddsM, List.mem_cons, List.not_mem_nil, or_false] at hd
  rcases hd with rfl | rfl | rfl | rfl | rfl | rfl
  · exact ⟨rfl, rfl, rfl⟩
  · exact ⟨rfl, rfl, rfl⟩
  · exact ⟨rfl, rfl, rfl⟩
  · exact ⟨rfl, rfl, rfl⟩
  · exact ⟨rfl, rfl, niceS "1" (by decide +kernel) 27⟩
  · exact ⟨rfl, rfl, rfl⟩
theorem manies_step {ks : List Kd} (K : Ks ks) {n : Nat} (hn : n < ks.length) (w2 w3 w4 w5 w6 w7 : Option D) (S : Store) : ∃ u2 u3 u4 u5 u6 S', m__law_manies_right_b1 [some (.lst (ks.map dk)), some (.int (n : Int)), w2, w3, w4, w5, w6, w7] S = .nx [some (.lst (ks.map dk)), some (.int (n : Int)), u2, u3, u4, u5, u6, w7] S' ∧ S <+: S' := by
  have l3 := K.l3
  have inner : ∃ x2 x3 S', sFor (iSeq (eLst mkL (aCons (eK (.int 0)) (aCons (eK (.int 1)) (aCons (e2 gPow (eK (.int 10)) (eK (.int 30))) (aCons (e2 gSub (e2 gPow (eK (.int 10)) (eK (.int 30))) (eK (.int 1))) aNil)))))) (tN 2) m__law_manies_right_b0 [some (.lst (ks.map dk)), some (.int (n : Int)), w2, w3, w4, w5, w6, w7] S = .nx [some (.lst (ks.map dk)), some (.int (n : Int)), x2, x3, w4, w5, w6, w7] S' ∧ S <+: S' := by
    obtain ⟨e, S', q1, q2⟩ := forL_go (g := tN 2) (fb := m__law_manies_right_b0)
      (fun ds e S' => S <+: S' ∧ (∃ w2 w3, e = [some (.lst (ks.map dk)), some (.int (n : Int)), w2, w3, w4, w5, w6, w7]) ∧ ∀ y ∈ ds, ∃ o : Int, 0 ≤ o ∧ o ≤ 1000000000000000000000000000000 ∧ y = .int o) (fun y ds e S1 ⟨hS, ⟨w2, w3, he⟩, hy⟩ => by
        subst he
        obtain ⟨o, o1, o2, rfl⟩ := hy y (List.mem_cons_self ..)
        obtain ⟨u3, S2, h1, p1⟩ := manies_inner K hn o1 o2 w3 w4 w5 w6 w7 S1
        exact ⟨_, rfl, _, S2, .inl h1, hS.trans p1, ⟨_, _, rfl⟩, fun z hz => hy z (List.mem_cons_of_mem _ hz)⟩)
      [.int 0, .int 1, .int 1000000000000000000000000000000, .int 999999999999999999999999999999] [some (.lst (ks.map dk)), some (.int (n : Int)), w2, w3, w4, w5, w6, w7] S ⟨List.prefix_refl _, ⟨_, _, rfl⟩, fun y hy => by
        simp only [List.mem_cons, List.not_mem_nil, or_false] at hy
        rcases hy with rfl | rfl | rfl | rfl <;> exact ⟨_, by omega, by omega, rfl⟩⟩
    obtain ⟨hS, ⟨x2, x3, rfl⟩, _⟩ := q2
    refine ⟨x2, x3, S', ?_, hS⟩
    show sE (iSeq _ _ _) _ _ = _
    rw [ev_iSeqL (l := [.int 0, .int 1, .int 1000000000000000000000000000000, .int 999999999999999999999999999999]) (S' := S) (by simp [ev_pow, lineN]), ev_sE_ok]
    exact q1
  obtain ⟨u2, u3, S1, h1, p1⟩ := inner
  have od : ∀ w3 w4 S, eLst mkL (aCons (e1 gNeg (eK (.int 1))) (aCons (e2 (gAdd mkL) (e2 gPow (eK (.int 10)) (eK (.int 30))) (eK (.int 1))) (aCons (eK .non) (aCons (eK (.bl true)) (aCons (eK (.str "1")) (aCons (eTup (aCons (eK (.int 1)) aNil)) aNil)))))) [some (.lst (ks.map dk)), some (.int (n : Int)), u2, w3, w4, w5, w6, w7] S = .ok (.lst oddsM) S := fun w3 w4 S => by
    simp [lineN, oddsM, ev_pow]
  obtain ⟨S2, h2, p2⟩ := eLc_grow (fi := iSeq (eVar 4)) (g := tN 7) (fe := eCn 3 m__law_heard_many (aCons (eVar 0) (aCons (eVar 1) (aCons (eVar 7) aNil)))) (vs := [7]) (env := [some (.lst (ks.map dk)), some (.int (n : Int)), u2, u3, some (.lst oddsM), w5, w6, w7]) (S := S1) (inv "InvalidNumber") (ev_iSeqL (ev_var rfl)) (le_line (by simp [oddsM])) (fun d hd => ⟨_, rfl, fun S3 _ => ⟨S3 ++ [none], by
      have o := oddsM_ok d hd
      simp [wipeD, r_h_many_bad (.inl rfl) K hn o.1 o.2.1 S3], grow1 _ _⟩⟩)
  have h3 : ∀ w5, eLc mkL (iSeq (eVar 4)) (tN 7) tYesD (eTup (aCons (eK (.str "InvalidNumber")) (aCons (eVar 7) aNil))) [7] [some (.lst (ks.map dk)), some (.int (n : Int)), u2, u3, some (.lst oddsM), w5, w6, w7] S2 = .ok (.lst (oddsM.map (inv "InvalidNumber"))) S2 := fun w5 => invs (by simp [oddsM]) (fun S => ev_iSeqL (ev_var rfl)) (by simp [wipeD])
  have h4 := same_ok 30 _ S2 (nice_invs (l := oddsM) (by simp [oddsM]) fun d hd => (oddsM_ok d hd).2.2)
  generalize hL : oddsM.map (inv "InvalidNumber") = L at *
  have h5 : ∀ w3 w4 w5 w6, e2 (gAdd mkL) (eSl mkL (eVar 0) oNo (oYes (eVar 1))) (eSl mkL (eVar 0) (oYes (e2 (gAdd mkL) (eVar 1) (eK (.int 1)))) oNo) [some (.lst (ks.map dk)), some (.int (n : Int)), u2, w3, w4, w5, w6, w7] S2 = .ok (.lst ((del ks n).map dk)) S2 := fun w3 w4 w5 w6 => by
    have a1 : gAdd mkL (.lst ((ks.map dk).take n)) (.lst ((ks.map dk).drop (n + 1))) S2 = .ok (.lst ((del ks n).map dk)) S2 := by
      rw [ev_addL (by simp; omega), del, List.map_append, List.map_take, List.map_drop]
      rfl
    simp [-List.map_take, -List.map_drop, (cut_kinds hn).1, (cut_kinds hn).2, a1]
  have hf : ∃ I S', m__law_heard_less [.lst (ks.map dk), .int (n : Int)] S2 = .ok I S' ∧ nice 30 I = true ∧ S2 <+: S' ∧ ∀ w3 w4 w5, eIf (tst (e2 gNe (eVar 6) (eLst mkL aNil))) (eCn 1 m__law_owed (aCons (eVar 6) aNil)) (eTup (aCons (eK (.str "InvalidCrew")) (aCons (eTup aNil) aNil))) [some (.lst (ks.map dk)), some (.int (n : Int)), u2, w3, w4, w5, some (.lst ((del ks n).map dk)), w7] S2 = .ok I S2 := by
    by_cases h2 : 2 ≤ ks.length
    · have dl := del_len hn
      have ow := r_owed (del ks n) (del_good K.g) (by omega) S2
      refine ⟨told (del ks n), S2 ++ [none] ++ [none], r_h_less (.inl rfl) K hn h2 S2, nice_told (del_good K.g) (by omega), (grow1 _ _).trans (grow1 _ _), fun w3 w4 w5 => ?_⟩
      have en : ∀ S, gEqB true (.lst ((del ks n).map dk)) (.lst []) S = .ok (.bl true) S := fun S => by
        rw [eq_nilL (n := 28) (nice_ks (del_good K.g) (by omega) 24).2 (by omega)]
        cases hq : del ks n with
        | nil => rw [hq] at dl; simp at dl; omega
        | cons x l => rfl
      simp [ow, en, lineN, gNe]
    · have e1 : ks.length = 1 := by have := K.l1; omega
      have e0 : n = 0 := by omega
      subst e0
      refine ⟨inv "InvalidCrew" (.tup []), S2 ++ [none], r_h_less_one (.inl rfl) K e1 S2, nice_up 29 _ (nice_inv okCrew rfl), grow1 _ _, fun w3 w4 w5 => ?_⟩
      have dn : del ks 0 = [] := List.eq_nil_of_length_eq_zero (by rw [del_len hn]; omega)
      have en : ∀ S, gEqB true (.lst []) (.lst []) S = .ok (.bl false) S := fun S => rfl
      simp [dn, en, lineN, gNe, inv]
  obtain ⟨I, S3, h6, h7, p3, h8⟩ := hf
  have h9 := same_ok 30 _ S3 h7
  refine ⟨u2, some I, some (.lst oddsM), some (.lst L), some (.lst ((del ks n).map dk)), S3, ?_, p1.trans (p2.trans p3)⟩
  unfold m__law_manies_right_b1
  generalize hA : sFor (iSeq (eLst mkL (aCons (eK (.int 0)) (aCons (eK (.int 1)) (aCons (e2 gPow (eK (.int 10)) (eK (.int 30))) (aCons (e2 gSub (e2 gPow (eK (.int 10)) (eK (.int 30))) (eK (.int 1))) aNil)))))) (tN 2) m__law_manies_right_b0 = A at *
  generalize hO : eLst mkL (aCons (e1 gNeg (eK (.int 1))) (aCons (e2 (gAdd mkL) (e2 gPow (eK (.int 10)) (eK (.int 30))) (eK (.int 1))) (aCons (eK .non) (aCons (eK (.bl true)) (aCons (eK (.str "1")) (aCons (eTup (aCons (eK (.int 1)) aNil)) aNil)))))) = O at *
  generalize e2 (gAdd mkL) (eSl mkL (eVar 0) oNo (oYes (eVar 1))) (eSl mkL (eVar 0) (oYes (e2 (gAdd mkL) (eVar 1) (eK (.int 1)))) oNo) = P at *
  generalize eIf (tst (e2 gNe (eVar 6) (eLst mkL aNil))) (eCn 1 m__law_owed (aCons (eVar 6) aNil)) (eTup (aCons (eK (.str "InvalidCrew")) (aCons (eTup aNil) aNil))) = Q at *
  simp [h1, od, h2, h3, h4, h5, h6, h8, h9]
theorem r_manies {ks : List Kd} (K : Ks ks) (S : Store) : ∃ S', m__law_manies_right [.lst (ks.map dk)] S = .ok (.bl true) S' ∧ S <+: S' := by
  have l3 := K.l3
  have outer : ∃ w1 w2 w3 w4 w5 w6 w7 S', sFor (iRng1 (aCons (eC gLen (aCons (eVar 0) aNil)) aNil)) (tN 1) m__law_manies_right_b1 [some (.lst (ks.map dk)), none, none, none, none, none, none, none] S = .nx [some (.lst (ks.map dk)), w1, w2, w3, w4, w5, w6, w7] S' ∧ S <+: S' := by
    obtain ⟨e, S', q1, q2⟩ := forL_go (g := tN 1) (fb := m__law_manies_right_b1)
      (fun ds e S' => S <+: S' ∧ (∃ w1 w2 w3 w4 w5 w6 w7, e = [some (.lst (ks.map dk)), w1, w2, w3, w4, w5, w6, w7]) ∧ ∀ y ∈ ds, ∃ n : Nat, n < ks.length ∧ y = .int (n : Int)) (fun y ds e S1 ⟨hS, ⟨w1, w2, w3, w4, w5, w6, w7, he⟩, hy⟩ => by
        subst he
        obtain ⟨n, hn, rfl⟩ := hy y (List.mem_cons_self ..)
        obtain ⟨u2, u3, u4, u5, u6, S2, h1, p1⟩ := manies_step K hn w2 w3 w4 w5 w6 w7 S1
        exact ⟨_, rfl, _, S2, .inl h1, hS.trans p1, ⟨_, _, _, _, _, _, _, rfl⟩, fun z hz => hy z (List.mem_cons_of_mem _ hz)⟩)
      (rngD 0 ks.length) [some (.lst (ks.map dk)), none, none, none, none, none, none, none] S ⟨List.prefix_refl _, ⟨_, _, _, _, _, _, _, rfl⟩, fun y hy => by
        obtain ⟨j, hj, rfl⟩ := mem_rngD hy
        exact ⟨j, hj, by simp⟩⟩
    obtain ⟨hS, ⟨w1, w2, w3, w4, w5, w6, w7, rfl⟩, _⟩ := q2
    refine ⟨w1, w2, w3, w4, w5, w6, w7, S', ?_, hS⟩
    show sE (iRng1 _ _ _) _ _ = _
    rw [iRng1_ok (n := ks.length) (S' := S) (by simp) (by omega), ev_sE_ok]
    exact q1
  obtain ⟨w1, w2, w3, w4, w5, w6, w7, S1, h1, p1⟩ := outer
  exact ⟨S1, by simp [m__law_manies_right, h1], p1⟩
/-! the jar -/
theorem ev_ixC {j : Nat} {S : Store} {l : List D} {i : Int} {d : D} (h : S[j]? = some (some (.lst l))) (h2 : L2.atI l i = some d) : gIx (.cell j) (.int i) S = .ok d S := by
  unfold gIx
  simp only [rd, h, h2]
theorem ev_putC {fe fo fi : EF} {env : DEnv} {S S1 : Store} {j : Nat} {l : List D} {i : Int} {n : Nat} {d : D} (he : fe env S = .ok d S1) (ho : fo env S1 = .ok (.cell j) S1) (hi : fi env S1 = .ok (.int i) S1) (h : S1[j]? = some (some (.lst l))) (hn : L2.ixN l.length i = some n) : sPut fe fo fi env S = .nx env (S1.set j (some (.lst (l.set n d)))) := by
  unfold sPut
  rw [he, ev_sE_ok, ho, ev_sE_ok, hi, ev_sE_ok]
  simp only [h, hn]
def J (j : Nat) (S : Store) (C : Int) : Prop := ∃ a b c : Int, S[j]? = some (some (.lst [.int a, .int b, .int c])) ∧ 0 ≤ b ∧ b < 2147483648 ∧ 0 ≤ c ∧ c ≤ C
def Kp (j : Nat) (S S' : Store) : Prop := S.length ≤ S'.length ∧ ∀ i, i ≠ j → ∀ x, S[i]? = some x → S'[i]? = some x
theorem Kp.rfl {j : Nat} {S : Store} : Kp j S S := ⟨Nat.le_refl _, fun _ _ _ h => h⟩
theorem Kp.trans {j : Nat} {S S1 S2 : Store} (h : Kp j S S1) (h2 : Kp j S1 S2) : Kp j S S2 := ⟨Nat.le_trans h.1 h2.1, fun i hi x hx => h2.2 i hi x (h.2 i hi x hx)⟩
theorem pre_at {S S' : Store} (h : S <+: S') {i : Nat} {x : Option MO} (hx : S[i]? = some x) : S'[i]? = some x := by
  obtain ⟨t, rfl⟩ := h
  obtain ⟨hi, _⟩ := List.getElem?_eq_some_iff.mp hx
  rw [List.getElem?_append_left hi, hx]
theorem Kp.pre {j : Nat} {S S' : Store} (h : S <+: S') : Kp j S S' := ⟨h.length_le, fun _ _ _ hx => pre_at h hx⟩
theorem J.pre {j : Nat} {S S' : Store} {C : Int} (h : S <+: S') (g : J j S C) : J j S' C := by
  obtain ⟨a, b, c, h1, h2⟩ := g
  exact ⟨a, b, c, pre_at h h1, h2⟩
theorem J.le {j : Nat} {S : Store} {C C' : Int} (g : J j S C) (h : C ≤ C') : J j S C' := by
  obtain ⟨a, b, c, h1, h2, h3, h4, h5⟩ := g
  exact ⟨a, b, c, h1, h2, h3, h4, by omega⟩
theorem Kp.set {j : Nat} {S : Store} {x : Option MO} : Kp j S (S.set j x) := ⟨by simp, fun i hi y hy => by rw [List.getElem?_set_ne (Ne.symm hi)]; exact hy⟩
theorem log_lt {i : Int} {n : Nat} (h : i.natAbs < 2 ^ n) (hn : 0 < n) : i.natAbs.log2 < n := by
  by_cases z : i.natAbs = 0
  · rw [z]; simpa using hn
  · exact (Nat.log2_lt z).mpr h
theorem r_take {j : Nat} {S : Store} {C m : Int} (g : J j S C) (hC : C ≤ 1000000) (m1 : 1 ≤ m) (m2 : m ≤ 1000) : ∃ v S', m__law_take [.cell j, .int m] S = .ok (.int v) S' ∧ 0 ≤ v ∧ v < m ∧ J j S' (C + 1) ∧ Kp j S S' := by
  obtain ⟨a, b, c, h, b0, b1, c0, c1⟩ := g
  have hj : j < S.length := (List.getElem?_eq_some_iff.mp h).1
  have i0 := ev_ixC (i := 0) h rfl
  have lm : m.natAbs.log2 < 9000 := log_small m1 m2
  by_cases z : 0 < a
  · refine ⟨a.fmod m, S.set j (some (.lst [.int (a / m), .int b, .int c])), ?_, Int.fmod_nonneg_of_pos _ (by omega), Int.fmod_lt_of_pos _ (by omega), ⟨a / m, b, c, by rw [List.getElem?_set_self hj], b0, b1, c0, by omega⟩, Kp.set⟩
    have p := ev_putC (fe := e2 gDiv (e2 gIx (eVar 0) (eK (.int 0))) (eVar 1)) (fo := eVar 0) (fi := eK (.int 0)) (env := [some (.cell j), some (.int m), some (.int (a.fmod m))]) (S := S) (S1 := S) (j := j) (d := .int (a / m)) (i := 0) (n := 0) (by simp [i0, ev_div (show 0 < m by omega) lm]) rfl rfl h rfl
    simp only [List.set_cons_zero] at p
    simp [m__law_take, i0, z, ev_mod (show m ≠ 0 by omega), p]
  · have i2 := ev_ixC (i := 2) h rfl
    have p1 := ev_putC (fe := e2 (gAdd mkL) (e2 gIx (eVar 0) (eK (.int 2))) (eK (.int 1))) (fo := eVar 0) (fi := eK (.int 2)) (env := [some (.cell j), some (.int m), none]) (S := S) (S1 := S) (j := j) (d := .int (c + 1)) (i := 2) (n := 2) (by simp [i2]) rfl rfl h rfl
    simp only [List.set_cons_zero, List.set_cons_succ] at p1
    have hs : (S.set j (some (.lst [.int a, .int b, .int (c + 1)])))[j]? = some (some (.lst [.int a, .int b, .int (c + 1)])) := List.getElem?_set_self hj
    generalize hS1 : S.set j (some (.lst [.int a, .int b, .int (c + 1)])) = S1 at p1 hs
    have hj1 : j < S1.length := by rw [← hS1, List.length_set]; exact hj
    have k1 := ev_ixC (i := 1) hs rfl
    have k2 := ev_ixC (i := 2) hs rfl
    have lb : b.natAbs.log2 < 32 := log_lt (by omega) (by omega)
    have lc : (c + 1).natAbs.log2 < 32 := log_lt (by omega) (by omega)
    have m3 : gMul mkL (.int b) (.int 39373) S1 = .ok (.int (b * 39373)) S1 := ev_mulI (by
      have : (39373 : Int).natAbs.log2 = 15 := by decide +kernel
      omega)
    have m4 : gMul mkL (.int 7919) (.int (c + 1)) S1 = .ok (.int (7919 * (c + 1))) S1 := ev_mulI (by
      have : (7919 : Int).natAbs.log2 = 12 := by decide +kernel
      omega)
    generalize hb' : (b * 39373 + 7919 * (c + 1) + 7).fmod 2147483647 = b'
    have b0' : 0 ≤ b' := by rw [← hb']; exact Int.fmod_nonneg_of_pos _ (by omega)
    have b1' : b' < 2147483647 := by rw [← hb']; exact Int.fmod_lt_of_pos _ (by omega)
    have p2 := ev_putC (fe := e2 gMod (eC gInt1 (aCons (e2 (gAdd mkL) (e2 (gAdd mkL) (e2 (gMul mkL) (e2 gIx (eVar 0) (eK (.int 1))) (eK (.int 39373))) (e2 (gMul mkL) (eK (.int 7919)) (e2 gIx (eVar 0) (eK (.int 2))))) (eK (.int 7))) aNil)) (eK (.int 2147483647))) (fo := eVar 0) (fi := eK (.int 1)) (env := [some (.cell j), some (.int m), none]) (S := S1) (S1 := S1) (j := j) (d := .int b') (i := 1) (n := 1) (by simp [k1, k2, m3, m4, ev_mod (show (2147483647 : Int) ≠ 0 by omega), hb']) rfl rfl hs rfl
    simp only [List.set_cons_zero, List.set_cons_succ] at p2
    have hs2 : (S1.set j (some (.lst [.int a, .int b', .int (c + 1)])))[j]? = some (some (.lst [.int a, .int b', .int (c + 1)])) := List.getElem?_set_self hj1
    have kp : Kp j S (S1.set j (some (.lst [.int a, .int b', .int (c + 1)]))) := by
      rw [← hS1]
      exact Kp.set.trans Kp.set
    generalize S1.set j (some (.lst [.int a, .int b', .int (c + 1)])) = S2 at p2 hs2 kp
    have q1 := ev_ixC (i := 1) hs2 rfl
    have lb' : b'.natAbs.log2 < 32 := log_lt (by omega) (by omega)
    have m5 : gMul mkL (.int b') (.int b') S2 = .ok (.int (b' * b')) S2 := ev_mulI (by omega)
    refine ⟨((b' * b').fmod 2147483629 / 32).fmod m, S2, ?_, Int.fmod_nonneg_of_pos _ (by omega), Int.fmod_lt_of_pos _ (by omega), ⟨a, b', c + 1, hs2, b0', by omega, by omega, by omega⟩, kp⟩
    simp [m__law_take, i0, z, p1, p2, q1, m5, ev_mod (show m ≠ 0 by omega), ev_mod (show (2147483629 : Int) ≠ 0 by omega), ev_div (show (0 : Int) < 32 by omega) (show (32 : Int).natAbs.log2 < 9000 by decide +kernel)]
theorem r_one {j : Nat} {S : Store} {C : Int} {l : List D} (g : J j S C) (hC : C ≤ 1000000) (h1 : 1 ≤ l.length) (h2 : l.length ≤ 1000) : ∃ (n : Nat) (h : n < l.length) (S' : Store), m__law_one [.cell j, .lst l] S = .ok l[n] S' ∧ J j S' (C + 1) ∧ Kp j S S' := by
  obtain ⟨v, S', h, v0, v1, g', k⟩ := r_take (m := (l.length : Int)) g hC (by omega) (by omega)
  obtain ⟨n, rfl⟩ : ∃ n : Nat, v = n := ⟨v.toNat, by omega⟩
  have hn : n < l.length := by omega
  have ix : gIx (.lst l) (.int (n : Int)) S' = .ok l[n] S' := ev_ixL (atI_of hn)
  exact ⟨n, hn, S', by simp [m__law_one, h, ix], g', k⟩
theorem le_last {xs : List Int} (h : xs.Pairwise (· ≤ ·)) (hx : xs ≠ []) : ∀ y ∈ xs, y ≤ xs.getLast hx := by
  induction xs with
  | nil => exact absurd rfl hx
  | cons x xs ih =>
    intro y hy
    rw [List.pairwise_cons] at h
    cases xs with
    | nil => simp at hy; simp [hy]
    | cons z zs =>
      rw [List.getLast_cons (by simp)]
      rcases List.mem_cons.mp hy with rfl | hy
      · exact h.1 _ (List.getLast_mem _)
      · exact ih h.2 (by simp) y hy
theorem r_oneI {j : Nat} {S : Store} {C : Int} (ns : List Int) (g : J j S C) (hC : C ≤ 1000000) (h1 : 1 ≤ ns.length) (h2 : ns.length ≤ 1000) : ∃ x ∈ ns, ∃ S', m__law_one [.cell j, .lst (ns.map D.int)] S = .ok (.int x) S' ∧ J j S' (C + 1) ∧ Kp j S S' := by
  obtain ⟨n, hn, S', h, g', k⟩ := r_one (l := ns.map D.int) g hC (by simpa using h1) (by simpa using h2)
  rw [List.length_map] at hn
  rw [List.getElem_map] at h
  exact ⟨ns[n], List.getElem_mem hn, S', h, g', k⟩
theorem ev_lenC {j : Nat} {S : Store} {l : List D} (h : S[j]? = some (some (.lst l))) : gLen [.cell j] S = .ok (.int l.length) S := by
  unfold gLen
  simp only [rd, h]
theorem ev_tupC {j : Nat} {S : Store} {l : List D} (h : S[j]? = some (some (.lst l))) : gTuple [.cell j] S = .ok (.tup l) S := by
  unfold gTuple
  simp only [rd, h]
theorem ev_appC {fo : EF} {fa : RF (List D)} {env : DEnv} {j : Nat} {S S1 : Store} {l : List D} {d : D} (ho : fo env S = .ok (.cell j) S) (h : S[j]? = some (some (.lst l))) (ha : fa env S = .ok [d] S1) (h1 : S1[j]? = some (some (.lst l))) (hl : l.length < 1000000) : eM isLst gAppend fo fa env S = .ok .non (S1.set j (some (.lst (l ++ [d])))) := by
  unfold eM
  rw [ho, bind_ok]
  have e : isLst S (.cell j) = true := by unfold isLst; simp only [rd, h]
  rw [if_pos e, ha, bind_ok]
  unfold gAppend
  simp only [celL, h1]
  rw [if_pos (lt_line hl)]
theorem Kp.setc {j c : Nat} {S S1 : Store} {x : Option MO} (k : Kp j S S1) (hc : S.length ≤ c) : Kp j S (S1.set c x) := by
  refine ⟨by rw [List.length_set]; exact k.1, fun i hi y hy => ?_⟩
  have := (List.getElem?_eq_some_iff.mp hy).1
  rw [List.getElem?_set_ne (by omega)]
  exact k.2 i hi y hy
theorem J.setc {j c : Nat} {S : Store} {C : Int} {x : Option MO} (g : J j S C) (hc : c ≠ j) : J j (S.set c x) C := by
  obtain ⟨a, b, d, h, r⟩ := g
  exact ⟨a, b, d, by rw [List.getElem?_set_ne hc]; exact h, r⟩
theorem J.lt {j : Nat} {S : Store} {C : Int} (g : J j S C) : j < S.length := by
  obtain ⟨a, b, c, h, _⟩ := g
  exact (List.getElem?_eq_some_iff.mp h).1
theorem drawn_step {j c : Nat} {S : Store} {C q s : Int} {a : Nat} {xs : List Int} {w3 : Option D} (g : J j S C) (hC : C ≤ 900000) (hc : c ≠ j) (h : S[c]? = some (some (.lst (vals a xs)))) (hx : xs ≠ []) (hs : xs.Pairwise (· ≤ ·)) (hl : a + xs.length ≤ 41) (s1 : 1 ≤ s) (s2 : s ≤ 1000) :
    ∃ xs' S1 S2, m__law_pc_drawn_values_b0 [some (.cell j), some (.int q), some (.int s), w3, some (.cell c)] S = .nx [some (.cell j), some (.int q), some (.int s), w3, some (.cell c)] S2 ∧ S2 = S1.set c (some (.lst (vals a xs'))) ∧ c < S1.length ∧ Kp j S S1 ∧ J j S1 (C + 2) ∧ xs' ≠ [] ∧ xs'.Pairwise (· ≤ ·) ∧ xs'.length = xs.length + 1 := by
  obtain ⟨v, S1, t1, v0, v1, g1, k1⟩ := r_take g (by omega) s1 s2
  obtain ⟨x, hxm, S2, t2, g2, k2⟩ := r_oneI [0, 0, 1, 2, 5, v] g1 (by omega) (by simp) (by simp)
  have x0 : 0 ≤ x := by
    simp only [List.mem_cons, List.not_mem_nil, or_false] at hxm
    omega
  simp only [List.map_cons, List.map_nil] at t2
  have k := k1.trans k2
  have h2 := k.2 c hc _ h
  have vn : vals a xs ≠ [] := by
    intro z
    have := vals_len a xs
    rw [z] at this
    have := List.length_pos_iff.mpr hx
    simp at *
    omega
  have gl : (vals a xs).getLast vn = .int (xs.getLast hx) := by
    have e : xs.map D.int ≠ [] := by simpa using hx
    have q : ∀ w, (List.replicate a D.non ++ xs.map D.int).getLast w = .int (xs.getLast hx) := fun w => by
      rw [List.getLast_append_of_ne_nil _ e, List.getLast_map]
    exact q vn
  have ix := ev_ixC (i := -1) h (by rw [atI_last vn, gl])
  have ap := ev_appC (fo := eVar 4) (fa := aCons (e2 (gAdd mkL) (e2 gIx (eVar 4) (e1 gNeg (eK (.int 1)))) (eCn 2 m__law_one (aCons (eVar 0) (aCons (eLst mkL (aCons (eK (.int 0)) (aCons (eK (.int 0)) (aCons (eK (.int 1)) (aCons (eK (.int 2)) (aCons (eK (.int 5)) (aCons (eCn 2 m__law_take (aCons (eVar 0) (aCons (eVar 2) aNil))) aNil))))))) aNil)))) aNil) (env := [some (.cell j), some (.int q), some (.int s), w3, some (.cell c)]) (S := S) (S1 := S2) (d := .int (xs.getLast hx + x)) rfl h (by simp [ix, t1, t2, lineN]) h2 (by rw [vals_len]; omega)
  refine ⟨xs ++ [xs.getLast hx + x], S2, _, ?_, rfl, (List.getElem?_eq_some_iff.mp h2).1, k, g2.le (by omega), by simp, ?_, by simp⟩
  · unfold m__law_pc_drawn_values_b0
    rw [ev_drop, ap, ev_sE_ok]
    simp [vals]
  · rw [List.pairwise_append]
    refine ⟨hs, by simp, fun y hy z hz => ?_⟩
    have := List.mem_singleton.mp hz
    have le := le_last hs hx y hy
    omega
theorem drawn_loop {j c a n : Nat} {S S4 : Store} {C q s y : Int} (hn : 100 < n) (hC : C ≤ 800000) (q1 : q ≤ 40) (a2 : (a : Int) ≤ q) (s1 : 1 ≤ s) (s2 : s ≤ 1000) (hc : c ≠ j) (hSl : S.length ≤ c) (hS4 : S4[c]? = some (some (.lst (vals a [y])))) (g4 : J j S4 (C + 3)) (k4 : Kp j S S4) :
    ∃ xs S', whileN (tst (e2 gLt (eC gLen (aCons (eVar 4) aNil)) (e2 (gAdd mkL) (eVar 1) (eK (.int 1))))) m__law_pc_drawn_values_b0 n [some (.cell j), some (.int q), some (.int s), some (.int (a : Int)), some (.cell c)] S4 = .nx [some (.cell j), some (.int q), some (.int s), some (.int (a : Int)), some (.cell c)] S' ∧ S'[c]? = some (some (.lst (vals a xs))) ∧ xs ≠ [] ∧ xs.Pairwise (· ≤ ·) ∧ (a : Int) + xs.length = q + 1 ∧ J j S' (C + 100) ∧ Kp j S S' := by
  obtain ⟨e, S', w1, xs, he, w2, w3, w4, w5, w6, w7⟩ := while_go (t := tst (e2 gLt (eC gLen (aCons (eVar 4) aNil)) (e2 (gAdd mkL) (eVar 1) (eK (.int 1))))) (fb := m__law_pc_drawn_values_b0)
    (fun k e S' => ∃ xs : List Int, e = [some (.cell j), some (.int q), some (.int s), some (.int (a : Int)), some (.cell c)] ∧ S'[c]? = some (some (.lst (vals a xs))) ∧ xs ≠ [] ∧ xs.Pairwise (· ≤ ·) ∧ (a : Int) + xs.length + k = q + 1 ∧ J j S' (C + 100 - 2 * k) ∧ Kp j S S') (fun k e S' ⟨xs, he, w2, w3, w4, w5, w6, w7⟩ => by
      subst he
      have ln := ev_lenC w2
      rw [vals_len] at ln
      cases k with
      | zero => exact .inl ⟨S', by simp [ln]; omega, ⟨xs, rfl, w2, w3, w4, w5, w6, w7⟩, rfl⟩
      | succ k =>
        obtain ⟨xs', S5, S6, b1, b2, b3, b4, b5, b6, b7, b8⟩ := drawn_step (q := q) (s := s) (w3 := some (.int (a : Int))) w6 (by omega) hc w2 w3 w4 (by omega) s1 s2
        subst b2
        exact .inr ⟨k, rfl, S', by simp [ln]; omega, _, _, .inl b1, xs', rfl, List.getElem?_set_self b3, b6, b7, by omega, (b5.le (by omega)).setc hc, (w7.trans b4).setc hSl⟩)
    (q - a).toNat n [some (.cell j), some (.int q), some (.int s), some (.int (a : Int)), some (.cell c)] S4 (by omega) ⟨[y], rfl, hS4, by simp, by simp, by simp; omega, g4.le (by omega), k4⟩
  subst he
  exact ⟨xs, S', w1, w2, w3, w4, by omega, w6.le (by omega), w7⟩
def drawnF (n : Nat) : DF := dfn 5 (sSeq (sAsg (eCn 2 m__law_one (aCons (eVar 0) (aCons (eLst mkL (aCons (eK (.int 0)) (aCons (eK (.int 0)) (aCons (eK (.int 0)) (aCons (eK (.int 1)) (aCons (eK (.int 2)) aNil)))))) aNil))) (tN 3)) (sSeq (sAsg (eC gMin2 (aCons (eC gInt1 (aCons (eVar 3) aNil)) (aCons (eC gInt1 (aCons (eVar 1) aNil)) aNil))) (tN 3)) (sSeq (sAsg (e2 (gAdd mkC) (e2 (gMul mkL) (eLst mkL (aCons (eK .non) aNil)) (eVar 3)) (eLst mkL (aCons (eCn 2 m__law_one (aCons (eVar 0) (aCons (eLst mkL (aCons (eK (.int 0)) (aCons (eK (.int 0)) (aCons (e1 gNeg (eK (.int 3))) (aCons (eK (.int 5)) (aCons (e2 gSub (eCn 2 m__law_take (aCons (eVar 0) (aCons (eK (.int 20)) aNil))) (eK (.int 10))) aNil)))))) aNil))) aNil))) (tN 4)) (sSeq (whileN (tst (e2 gLt (eC gLen (aCons (eVar 4) aNil)) (e2 (gAdd mkL) (eVar 1) (eK (.int 1))))) m__law_pc_drawn_values_b0 n) (sSeq (sIce 4) (sRet (eC gTuple (aCons (eVar 4) aNil))))))))
theorem r_drawnF {n j : Nat} {S : Store} {C q s : Int} (g : J j S C) (hC : C ≤ 800000) (q0 : 0 ≤ q) (q1 : q ≤ 40) (s1 : 1 ≤ s) (s2 : s ≤ 1000) (hn : 100 < n) :
    ∃ a xs S', drawnF n [.cell j, .int q, .int s] S = .ok (.tup (vals a xs)) S' ∧ J j S' (C + 100) ∧ Kp j S S' ∧ xs ≠ [] ∧ ((a : Int) + xs.length = q + 1) ∧ xs.Pairwise (· ≤ ·) ∧ a ≤ 2 := by
  obtain ⟨x, hx, S1, h1, g1, k1⟩ := r_oneI [0, 0, 0, 1, 2] g (by omega) (by simp) (by simp)
  obtain ⟨v, S2, h2, v0, v1, g2, k2⟩ := r_take (m := 20) g1 (by omega) (by omega) (by omega)
  obtain ⟨y, hy, S3, h3, g3, k3⟩ := r_oneI [0, 0, -3, 5, v - 10] g2 (by omega) (by simp) (by simp)
  simp only [List.map_cons, List.map_nil] at h1 h3
  obtain ⟨a, ha⟩ : ∃ a : Nat, (if q < x then q else x) = a := ⟨(if q < x then q else x).toNat, by
    simp only [List.mem_cons, List.not_mem_nil, or_false] at hx
    split <;> omega⟩
  have a2 : a ≤ 2 ∧ (a : Int) ≤ q := by
    simp only [List.mem_cons, List.not_mem_nil, or_false] at hx
    split at ha <;> omega
  have m1 : gMul mkL (.lst [.non]) (.int (a : Int)) S1 = .ok (.lst (List.replicate a D.non)) S1 := by
    unfold gMul
    simp only [trk]
    have hl : ([D.non] : List D).length * (a : Int).toNat ≤ lineN := le_line (by simp; omega)
    have h63 : -(2 ^ 63) ≤ (a : Int) ∧ (a : Int) < 2 ^ 63 := by omega
    rw [if_pos ⟨h63.1, h63.2, hl⟩]
    simp
  have a1 : gAdd mkC (.lst (List.replicate a D.non)) (.lst [.int y]) S3 = .ok (.cell S3.length) (S3 ++ [some (.lst (vals a [y]))]) := ev_addL (by simp; omega)
  have kk := (k1.trans k2).trans k3
  have jl := g3.lt
  have hc : S3.length ≠ j := by omega
  have g4 : J j (S3 ++ [some (.lst (vals a [y]))]) (C + 3) := (J.pre (List.prefix_append _ _) g3).le (by omega)
  have hS4 : (S3 ++ [some (.lst (vals a [y]))])[S3.length]? = some (some (.lst (vals a [y]))) := by simp
  have k4 : Kp j S (S3 ++ [some (.lst (vals a [y]))]) := kk.trans (Kp.pre (List.prefix_append _ _))
  have hSl : S.length ≤ S3.length := kk.1
  generalize hS : S3 ++ [some (.lst (vals a [y]))] = S4 at *
  generalize S3.length = c at *
  obtain ⟨xs, S', w1, w2, w3, w4, w5, w6, w7⟩ := drawn_loop (n := n) hn hC q1 a2.2 s1 s2 hc hSl hS4 g4 k4
  refine ⟨a, xs, S'.set c none, ?_, (w6.setc hc).le (by omega), w7.setc hSl, w3, by omega, w4, a2.1⟩
  have ic : sIce 4 [some (.cell j), some (.int q), some (.int s), some (.int (a : Int)), some (.cell c)] S' = .nx [some (.cell j), some (.int q), some (.int s), some (.int (a : Int)), some (.lst (vals a xs))] (S'.set c none) := by
    unfold sIce
    simp [w2]
  have A1 : (sAsg (eCn 2 m__law_one (aCons (eVar 0) (aCons (eLst mkL (aCons (eK (.int 0)) (aCons (eK (.int 0)) (aCons (eK (.int 0)) (aCons (eK (.int 1)) (aCons (eK (.int 2)) aNil)))))) aNil))) (tN 3)) [some (.cell j), some (.int q), some (.int s), none, none] S = .nx [some (.cell j), some (.int q), some (.int s), some (.int x), none] S1 := by simp [h1, lineN]
  have A2 : (sAsg (eC gMin2 (aCons (eC gInt1 (aCons (eVar 3) aNil)) (aCons (eC gInt1 (aCons (eVar 1) aNil)) aNil))) (tN 3)) [some (.cell j), some (.int q), some (.int s), some (.int x), none] S1 = .nx [some (.cell j), some (.int q), some (.int s), some (.int (a : Int)), none] S1 := by simp [ha]
  have B1 : (e2 (gMul mkL) (eLst mkL (aCons (eK .non) aNil)) (eVar 3)) [some (.cell j), some (.int q), some (.int s), some (.int (a : Int)), none] S1 = .ok (.lst (List.replicate a D.non)) S1 := by
    have B0 : eLst mkL (aCons (eK .non) aNil) [some (.cell j), some (.int q), some (.int s), some (.int (a : Int)), none] S1 = .ok (.lst [.non]) S1 := by simp [lineN]
    have B9 : eVar 3 [some (.cell j), some (.int q), some (.int s), some (.int (a : Int)), none] S1 = .ok (.int (a : Int)) S1 := ev_var rfl
    rw [ev_e2, B0, bind_ok, B9, bind_ok, m1]
  have B2 : (eLst mkL (aCons (eCn 2 m__law_one (aCons (eVar 0) (aCons (eLst mkL (aCons (eK (.int 0)) (aCons (eK (.int 0)) (aCons (e1 gNeg (eK (.int 3))) (aCons (eK (.int 5)) (aCons (e2 gSub (eCn 2 m__law_take (aCons (eVar 0) (aCons (eK (.int 20)) aNil))) (eK (.int 10))) aNil)))))) aNil))) aNil)) [some (.cell j), some (.int q), some (.int s), some (.int (a : Int)), none] S1 = .ok (.lst [.int y]) S3 := by simp [h2, h3, lineN]
  have A3 : (sAsg (e2 (gAdd mkC) (e2 (gMul mkL) (eLst mkL (aCons (eK .non) aNil)) (eVar 3)) (eLst mkL (aCons (eCn 2 m__law_one (aCons (eVar 0) (aCons (eLst mkL (aCons (eK (.int 0)) (aCons (eK (.int 0)) (aCons (e1 gNeg (eK (.int 3))) (aCons (eK (.int 5)) (aCons (e2 gSub (eCn 2 m__law_take (aCons (eVar 0) (aCons (eK (.int 20)) aNil))) (eK (.int 10))) aNil)))))) aNil))) aNil))) (tN 4)) [some (.cell j), some (.int q), some (.int s), some (.int (a : Int)), none] S1 = .nx [some (.cell j), some (.int q), some (.int s), some (.int (a : Int)), some (.cell c)] S4 := by rw [ev_asgN, ev_e2, B1, bind_ok, B2, bind_ok, a1, ev_sE_ok]; rfl
  unfold drawnF
  rw [ev_dfn]
  show outD (sSeq _ _ [some (.cell j), some (.int q), some (.int s), none, none] S) = _
  rw [ev_seq, A1, seqK_nx, ev_seq, A2, seqK_nx, ev_seq, A3, seqK_nx, ev_seq, w1, seqK_nx, ev_seq, ic, seqK_nx]
  simp
theorem drawn_eq : m__law_pc_drawn_values = drawnF fuel := rfl
theorem r_drawn {j : Nat} {S : Store} {C q s : Int} (g : J j S C) (hC : C ≤ 800000) (q0 : 0 ≤ q) (q1 : q ≤ 40) (s1 : 1 ≤ s) (s2 : s ≤ 1000) :
    ∃ a xs S', m__law_pc_drawn_values [.cell j, .int q, .int s] S = .ok (.tup (vals a xs)) S' ∧ J j S' (C + 100) ∧ Kp j S S' ∧ xs ≠ [] ∧ ((a : Int) + xs.length = q + 1) ∧ xs.Pairwise (· ≤ ·) ∧ a ≤ 2 := by
  rw [drawn_eq]
  exact r_drawnF g hC q0 q1 s1 s2 (by decide +kernel)
theorem eq_cell {c : Nat} {S : Store} {l : List D} (h : S[c]? = some (some (.lst l))) (neg : Bool) (y : D) : gEqB neg (.cell c) y S = gEqB neg (.lst l) y S := by
  have e : toPC S (.cell c) = toPC S (.lst l) := by
    unfold toPC
    simp only [h]
    rfl
  unfold gEqB
  rw [e]
structure GV (a : Nat) (xs : List Int) : Prop where
  ne : xs ≠ []
  len : a + xs.length ≤ 41
  sorted : xs.Pairwise (· ≤ ·)
def up2 (d : D) : D := match d with
  | .int i => .int (i + 2)
  | d => d
theorem up2_vals (a : Nat) (xs : List Int) : (vals a xs).map up2 = vals a (xs.map (· + 2)) := by
  unfold vals
  rw [List.map_append, List.map_replicate, List.map_map, List.map_map]
  rfl
theorem copy_step {j c : Nat} {S : Store} {C q : Int} {ms : List Int} {ks : List Kd} {w4 w6 : Option D} {a : Nat} {xs : List Int} (g : J j S C) (hC : C ≤ 900000) (hc : c ≠ j) (h : S[c]? = some (some (.lst (ks.map dk)))) (gk : ∀ k ∈ ks, Good k) (hl : ks.length ≤ 3) (gv : GV a xs) :
    ∃ a' xs' S1, (sIf (tAndD (tst (e2 gNe (eVar 3) (eLst mkL aNil))) (tst (e2 gEq (eCn 2 m__law_take (aCons (eVar 0) (aCons (eK (.int 5)) aNil))) (eK (.int 0))))) (sAsg (eC gTuple (aCons (eLc mkL (iSeq (e2 gIx (e2 gIx (eVar 3) (eK (.int 0))) (eK (.int 0)))) (tN 6) tYesD (eIf (tst (e1 (gIsN false) (eVar 6))) (eK .non) (e2 (gAdd mkL) (eVar 6) (eK (.int 2)))) [6]) aNil)) (tN 5)) sNx) [some (.cell j), some (.int q), some (.lst (ms.map D.int)), some (.cell c), w4, some (.tup (vals a xs)), w6] S = .nx [some (.cell j), some (.int q), some (.lst (ms.map D.int)), some (.cell c), w4, some (.tup (vals a' xs')), w6] S1 ∧ J j S1 (C + 1) ∧ Kp j S S1 ∧ GV a' xs' := by
  have en : gEqB true (.cell c) (.lst []) S = .ok (.bl (true != (ks.map dk).isEmpty)) S := by
    rw [eq_cell h]
    exact eq_nilL (n := 28) (nice_ks gk hl 24).2 (by omega) _ _
  have el : ∀ S, eLst mkL aNil [some (.cell j), some (.int q), some (.lst (ms.map D.int)), some (.cell c), w4, some (.tup (vals a xs)), w6] S = .ok (.lst []) S := fun S => by simp [lineN]
  cases ks with
  | nil =>
    have en : gEqB true (.cell c) (.lst []) S = .ok (.bl false) S := en
    refine ⟨a, xs, S, ?_, g.le (by omega), Kp.rfl, gv⟩
    generalize eLst mkL aNil = E at *
    simp [el, en]
  | cons k ks =>
    have en : gEqB true (.cell c) (.lst []) S = .ok (.bl true) S := en
    obtain ⟨v, S1, t1, v0, v1, g1, k1⟩ := r_take (m := 5) g (by omega) (by omega) (by omega)
    have h1 := k1.2 c hc _ h
    generalize hE : eLst mkL aNil = E at *
    by_cases z : v = 0
    · have kg := gk k (List.mem_cons_self ..)
      have i1 := ev_ixC (i := 0) h1 (d := dk k) (by
        have := atI_of (l := (k :: ks).map dk) (n := 0) (by simp)
        simpa using this)
      have i2 : gIx (dk k) (.int 0) S1 = .ok (.tup (vals k.a k.xs)) S1 := rfl
      have cm : (eLc mkL (iSeq (e2 gIx (e2 gIx (eVar 3) (eK (.int 0))) (eK (.int 0)))) (tN 6) tYesD (eIf (tst (e1 (gIsN false) (eVar 6))) (eK .non) (e2 (gAdd mkL) (eVar 6) (eK (.int 2)))) [6]) [some (.cell j), some (.int q), some (.lst (ms.map D.int)), some (.cell c), w4, some (.tup (vals a xs)), w6] S1 = .ok (.lst (vals k.a (k.xs.map (· + 2)))) S1 := by
        rw [← up2_vals]
        refine eLc_all up2 (ev_iSeqT (by simp [i1, i2])) (le_line (by rw [vals_len]; have := kg.len; omega)) fun d hd => ⟨_, rfl, ?_⟩
        unfold vals at hd
        rcases List.mem_append.mp hd with hd | hd
        · obtain ⟨_, rfl⟩ := List.mem_replicate.mp hd
          simp [wipeD, isNon, up2]
        · obtain ⟨i, _, rfl⟩ := List.mem_map.mp hd
          simp [wipeD, isNon, up2]
      refine ⟨k.a, k.xs.map (· + 2), S1, ?_, g1, k1, by simpa using kg.ne, by rw [List.length_map]; exact kg.len, ?_⟩
      · generalize (eLc mkL (iSeq (e2 gIx (e2 gIx (eVar 3) (eK (.int 0))) (eK (.int 0)))) (tN 6) tYesD (eIf (tst (e1 (gIsN false) (eVar 6))) (eK .non) (e2 (gAdd mkL) (eVar 6) (eK (.int 2)))) [6]) = CM at *
        simp [el, en, t1, z, cm]
      · rw [List.pairwise_map]
        exact kg.sorted.imp fun h => by omega
    · refine ⟨a, xs, S1, ?_, g1, k1, gv⟩
      simp [el, en, t1, z]
theorem kinds_step {j c : Nat} {S : Store} {C q : Int} {ms : List Int} {ks : List Kd} {w4 w5 w6 : Option D} (g : J j S C) (hC : C ≤ 700000) (hc : c ≠ j) (h : S[c]? = some (some (.lst (ks.map dk)))) (gk : ∀ k ∈ ks, Good k) (hl : ks.length ≤ 2) (q0 : 0 ≤ q) (q1 : q ≤ 40) (hm : ∀ m ∈ ms, (0 : Int) ≤ m ∧ m ≤ 1000000000000000000000000000000) (m1 : 1 ≤ ms.length) (m2 : ms.length ≤ 1000) :
    ∃ k u5 S1, m__law_pc_drawn_b0 [some (.cell j), some (.int q), some (.lst (ms.map D.int)), some (.cell c), w4, w5, w6] S = .nx [some (.cell j), some (.int q), some (.lst (ms.map D.int)), some (.cell c), w4, u5, w6] (S1.set c (some (.lst ((ks ++ [k]).map dk)))) ∧ c < S1.length ∧ Kp j S S1 ∧ J j S1 (C + 103) ∧ Good k := by
  obtain ⟨v, S1, t1, v0, v1, g1, k1⟩ := r_take (m := q + 1) g (by omega) (by omega) (by omega)
  obtain ⟨a, xs, S2, t2, g2, k2, x0, xl, xs', _⟩ := r_drawn (q := v) (s := 9) g1 (by omega) (by omega) (by omega) (by omega) (by omega)
  have k12 := k1.trans k2
  have h2 := k12.2 c hc _ h
  obtain ⟨a', xs', S3, t3, g3, k3, gv⟩ := copy_step (q := q) (ms := ms) (w4 := w4) (w6 := w6) g2 (by omega) hc h2 gk (by omega) (⟨x0, by omega, xs'⟩ : GV a xs)
  have h3 := k3.2 c hc _ h2
  obtain ⟨m, hmm, S4, t4, g4, k4⟩ := r_oneI ms g3 (by omega) m1 m2
  have h4 := k4.2 c hc _ h3
  have ap := ev_appC (fo := eVar 3) (fa := (aCons (eTup (aCons (eVar 5) (aCons (eCn 2 m__law_one (aCons (eVar 0) (aCons (eVar 2) aNil))) aNil))) aNil)) (env := [some (.cell j), some (.int q), some (.lst (ms.map D.int)), some (.cell c), w4, some (.tup (vals a' xs')), w6]) (S := S3) (S1 := S4) (d := dk ⟨a', xs', m⟩) rfl h3 (by simp [t4, lineN, dk, vt]) h4 (by rw [List.length_map]; omega)
  refine ⟨⟨a', xs', m⟩, some (.tup (vals a' xs')), S4, ?_, (List.getElem?_eq_some_iff.mp h4).1, (k12.trans k3).trans k4, g4.le (by omega), ⟨gv.ne, gv.len, gv.sorted, (hm m hmm).1, (hm m hmm).2⟩⟩
  unfold m__law_pc_drawn_b0
  generalize (sIf (tAndD (tst (e2 gNe (eVar 3) (eLst mkL aNil))) (tst (e2 gEq (eCn 2 m__law_take (aCons (eVar 0) (aCons (eK (.int 5)) aNil))) (eK (.int 0))))) (sAsg (eC gTuple (aCons (eLc mkL (iSeq (e2 gIx (e2 gIx (eVar 3) (eK (.int 0))) (eK (.int 0)))) (tN 6) tYesD (eIf (tst (e1 (gIsN false) (eVar 6))) (eK .non) (e2 (gAdd mkL) (eVar 6) (eK (.int 2)))) [6]) aNil)) (tN 5)) sNx) = IFF at *
  generalize hM : eM isLst gAppend (eVar 3) (aCons (eTup (aCons (eVar 5) (aCons (eCn 2 m__law_one (aCons (eVar 0) (aCons (eVar 2) aNil))) aNil))) aNil) = MM at *
  rw [show (ks ++ [(⟨a', xs', m⟩ : Kd)]).map dk = ks.map dk ++ [dk ⟨a', xs', m⟩] by simp]
  generalize ms.map D.int = mD at *
  simp [t1, t2, t3, ap]
theorem r_pc_drawn {j : Nat} {S : Store} {C q : Int} {ms : List Int} (g : J j S C) (hC : C ≤ 600000) (q0 : 0 ≤ q) (q1 : q ≤ 40) (hm : ∀ m ∈ ms, (0 : Int) ≤ m ∧ m ≤ 1000000000000000000000000000000) (m1 : 1 ≤ ms.length) (m2 : ms.length ≤ 1000) :
    ∃ ks S', m__law_pc_drawn [.cell j, .int q, .lst (ms.map D.int)] S = .ok (.lst (ks.map dk)) S' ∧ Ks ks ∧ J j S' (C + 400) ∧ Kp j S S' := by
  have jl := g.lt
  have g0 : J j (S ++ [some (.lst [])]) C := J.pre (List.prefix_append _ _) g
  have k0 : Kp j S (S ++ [some (.lst [])]) := Kp.pre (List.prefix_append _ _)
  have hc : S.length ≠ j := by omega
  have hSl : S.length ≤ S.length := Nat.le_refl _
  have h0 : (S ++ [some (.lst [])] : Store)[S.length]? = some (some (.lst [])) := by simp
  have e0 : eLst mkC aNil [some (.cell j), some (.int q), some (.lst (ms.map D.int)), none, none, none, none] S = .ok (.cell S.length) (S ++ [some (.lst [])]) := by simp [lineN]
  generalize S ++ [some (.lst [])] = S0 at *
  generalize hcc : S.length = c at *
  obtain ⟨v, S1, t1, v0, v1, g1, k1⟩ := r_take (m := 3) g0 (by omega) (by omega) (by omega)
  have h1 := k1.2 c hc _ h0
  have it : (iRng1 (aCons (e2 (gAdd mkL) (eK (.int 1)) (eCn 2 m__law_take (aCons (eVar 0) (aCons (eK (.int 3)) aNil)))) aNil)) [some (.cell j), some (.int q), some (.lst (ms.map D.int)), some (.cell c), none, none, none] S0 = .ok (rngD 0 (1 + v).toNat) S1 := by
    refine iRng1_ok ?_ (by omega)
    have : (((1 + v).toNat : Nat) : Int) = 1 + v := by omega
    rw [this]
    simp [t1]
  obtain ⟨e, S', q1', ks, ⟨w4, w5, w6, he⟩, hS, gk, gl, gj, kk⟩ := forL_go (g := tN 4) (fb := m__law_pc_drawn_b0)
    (fun ds e S' => ∃ ks : List Kd, (∃ w4 w5 w6, e = [some (.cell j), some (.int q), some (.lst (ms.map D.int)), some (.cell c), w4, w5, w6]) ∧ S'[c]? = some (some (.lst (ks.map dk))) ∧ (∀ k ∈ ks, Good k) ∧ ((ks.length : Int) + ds.length = 1 + v) ∧ J j S' (C + 1 + 110 * ks.length) ∧ Kp j S S') (fun y ds e S1 ⟨ks, ⟨w4, w5, w6, he⟩, hS, gk, gl, gj, kk⟩ => by
      subst he
      rw [List.length_cons] at gl
      obtain ⟨k, u5, S2, b1, b2, b3, b4, b5⟩ := kinds_step (q := q) (ms := ms) (w4 := some y) (w5 := w5) (w6 := w6) gj (by omega) hc hS gk (by omega) q0 q1 hm m1 m2
      refine ⟨_, rfl, _, _, .inl b1, ks ++ [k], ⟨_, _, _, rfl⟩, List.getElem?_set_self b2, fun x hx => ?_, by rw [List.length_append]; simp; omega, (b4.setc hc).le (by rw [List.length_append]; simp; omega), (kk.trans b3).setc (by omega)⟩
      rcases List.mem_append.mp hx with hx | hx
      · exact gk x hx
      · rw [List.mem_singleton.mp hx]
        exact b5)
    (rngD 0 (1 + v).toNat) [some (.cell j), some (.int q), some (.lst (ms.map D.int)), some (.cell c), none, none, none] S1 ⟨[], ⟨_, _, _, rfl⟩, h1, by simp, by rw [rngD_len]; simp; omega, g1.le (by simp), k0.trans k1⟩
  subst he
  simp only [List.length_nil] at gl
  refine ⟨ks, S'.set c none, ?_, ⟨gk, by omega, by omega⟩, (gj.setc hc).le (by omega), kk.setc (by omega)⟩
  have ic : sIce 3 [some (.cell j), some (.int q), some (.lst (ms.map D.int)), some (.cell c), w4, w5, w6] S' = .nx [some (.cell j), some (.int q), some (.lst (ms.map D.int)), some (.lst (ks.map dk)), w4, w5, w6] (S'.set c none) := by
    unfold sIce
    simp [hS]
  have lp : (sFor (iRng1 (aCons (e2 (gAdd mkL) (eK (.int 1)) (eCn 2 m__law_take (aCons (eVar 0) (aCons (eK (.int 3)) aNil)))) aNil)) (tN 4) m__law_pc_drawn_b0) [some (.cell j), some (.int q), some (.lst (ms.map D.int)), some (.cell c), none, none, none] S0 = .nx [some (.cell j), some (.int q), some (.lst (ms.map D.int)), some (.cell c), w4, w5, w6] S' := by
    show sE ((iRng1 (aCons (e2 (gAdd mkL) (eK (.int 1)) (eCn 2 m__law_take (aCons (eVar 0) (aCons (eK (.int 3)) aNil)))) aNil)) _ _) _ _ = _
    rw [it, ev_sE_ok]
    exact q1'
  unfold m__law_pc_drawn
  generalize (sFor (iRng1 (aCons (e2 (gAdd mkL) (eK (.int 1)) (eCn 2 m__law_take (aCons (eVar 0) (aCons (eK (.int 3)) aNil)))) aNil)) (tN 4) m__law_pc_drawn_b0) = F at *
  generalize eLst mkC aNil = E at *
  generalize ms.map D.int = mD at *
  simp [e0, lp, ic]
theorem ev_lenR {l : List D} {S : Store} : gLen [.rol l] S = .ok (.int l.length) S := rfl
theorem ev_ixR {l : List D} {i : Int} {d : D} {S : Store} (h : L2.atI l i = some d) : gIx (.rol l) (.int i) S = .ok d S := by
  unfold gIx
  simp only [rd, h]
theorem p60 : ∀ env S, e2 gPow (eK (.int 10)) (eK (.int 60)) env S = .ok (.int 1000000000000000000000000000000000000000000000000000000000000) S := fun env S => by
  rw [ev_e2, ev_k, bind_ok, ev_k, bind_ok, ev_pow (by decide +kernel)]
  rfl
theorem p12 : ∀ env S, e2 gPow (eK (.int 10)) (eK (.int 12)) env S = .ok (.int 1000000000000) S := fun env S => by
  rw [ev_e2, ev_k, bind_ok, ev_k, bind_ok, ev_pow (by decide +kernel)]
  rfl
theorem pool_step {ns : List Int} {n : Nat} {a s : Int} {w4 : Option D} (hn : n < ns.length) (a0 : 0 ≤ a) (s0 : 0 ≤ s) (s1 : s < 2147483648) (S : Store) :
    ∃ a' s' u4, m__law_pool_b0 [some (.rol (ns.map .int)), some (.int a), some (.int s), some (.int (n : Int)), w4] S = .nx [some (.rol (ns.map .int)), some (.int a'), some (.int s'), some (.int (n : Int)), u4] S ∧ 0 ≤ a' ∧ 0 ≤ s' ∧ s' < 2147483648 := by
  have ix : gIx (.rol (ns.map .int)) (.int (n : Int)) S = .ok (.int ns[n]) S := ev_ixR (by rw [atI_of (by simpa using hn)]; simp)
  generalize hb : (if -1 - ns[n] > ns[n] then -1 - ns[n] else ns[n]) = b
  have b0 : 0 ≤ b := by rw [← hb]; split <;> omega
  have A1 : (sAsg (eC gMax2 (aCons (eC gInt1 (aCons (e2 gIx (eVar 0) (eVar 3)) aNil)) (aCons (eC gInt1 (aCons (e2 gSub (e1 gNeg (eK (.int 1))) (e2 gIx (eVar 0) (eVar 3))) aNil)) aNil))) (tN 4)) [some (.rol (ns.map .int)), some (.int a), some (.int s), some (.int (n : Int)), w4] S = .nx [some (.rol (ns.map .int)), some (.int a), some (.int s), some (.int (n : Int)), some (.int b)] S := by
    have q : gMax2 [.int ns[n], .int (-1 - ns[n])] S = .ok (.int b) S := by rw [ev_max2, hb]
    generalize ns.map D.int = R at *
    generalize ns[n] = x at *
    simp [ix, q, -ev_max2]
  have ls : s.natAbs.log2 < 32 := log_lt (by omega) (by omega)
  have m1 : gMul mkL (.int s) (.int 48271) S = .ok (.int (s * 48271)) S := ev_mulI (by
    have : (48271 : Int).natAbs.log2 = 15 := by decide +kernel
    omega)
  generalize hs : (s * 48271 + b.fmod 2147483629 + 11).fmod 2147483647 = s'
  have s0' : 0 ≤ s' := by rw [← hs]; exact Int.fmod_nonneg_of_pos _ (by omega)
  have s1' : s' < 2147483647 := by rw [← hs]; exact Int.fmod_lt_of_pos _ (by omega)
  have A2 : (sAsg (e2 gMod (eC gInt1 (aCons (e2 (gAdd mkL) (e2 (gAdd mkL) (e2 (gMul mkL) (eVar 2) (eK (.int 48271))) (e2 gMod (eVar 4) (eK (.int 2147483629)))) (eK (.int 11))) aNil)) (eK (.int 2147483647))) (tN 2)) [some (.rol (ns.map .int)), some (.int a), some (.int s), some (.int (n : Int)), some (.int b)] S = .nx [some (.rol (ns.map .int)), some (.int a), some (.int s'), some (.int (n : Int)), some (.int b)] S := by
    simp [m1, ev_mod (show (2147483629 : Int) ≠ 0 by omega), ev_mod (show (2147483647 : Int) ≠ 0 by omega), hs]
  have A3 : ∃ a', (sAsg (eIf (tAndD (tst (e2 gGe (eVar 4) (e2 gPow (eK (.int 10)) (eK (.int 12))))) (tst (e2 gLt (eVar 1) (e2 gPow (eK (.int 10)) (eK (.int 60)))))) (eC gInt1 (aCons (e2 (gAdd mkL) (e2 (gMul mkL) (eVar 1) (e2 gPow (eK (.int 10)) (eK (.int 60)))) (e2 gMod (eVar 4) (e2 gPow (eK (.int 10)) (eK (.int 60))))) aNil)) (eVar 1)) (tN 1)) [some (.rol (ns.map .int)), some (.int a), some (.int s'), some (.int (n : Int)), some (.int b)] S = .nx [some (.rol (ns.map .int)), some (.int a'), some (.int s'), some (.int (n : Int)), some (.int b)] S ∧ 0 ≤ a' := by
    have pq := p60
    have pp := p12
    generalize e2 gPow (eK (.int 10)) (eK (.int 60)) = P60 at *
    generalize e2 gPow (eK (.int 10)) (eK (.int 12)) = P12 at *
    by_cases c1 : (1000000000000 : Int) ≤ b
    · by_cases c2 : a < 1000000000000000000000000000000000000000000000000000000000000
      · have la : a.natAbs.log2 < 200 := log_lt (by omega) (by omega)
        have m2 : gMul mkL (.int a) (.int 1000000000000000000000000000000000000000000000000000000000000) S = .ok (.int (a * 1000000000000000000000000000000000000000000000000000000000000)) S := ev_mulI (by
          have : (1000000000000000000000000000000000000000000000000000000000000 : Int).natAbs.log2 = 199 := by decide +kernel
          omega)
        refine ⟨a * 1000000000000000000000000000000000000000000000000000000000000 + b.fmod 1000000000000000000000000000000000000000000000000000000000000, ?_, Int.add_nonneg (Int.mul_nonneg a0 (by omega)) (Int.fmod_nonneg_of_pos _ (by omega))⟩
        have m3 : gMod (.int b) (.int 1000000000000000000000000000000000000000000000000000000000000) S = .ok (.int (b.fmod 1000000000000000000000000000000000000000000000000000000000000)) S := ev_mod (by omega)
        have gl : gLt (.int a) (.int 1000000000000000000000000000000000000000000000000000000000000) S = .ok (.bl true) S := by rw [ev_lt, decide_eq_true c2]
        generalize (1000000000000000000000000000000000000000000000000000000000000 : Int) = P at *
        simp [pq, pp, c1, gl, m2, m3, -ev_lt]
      · refine ⟨a, ?_, a0⟩
        have gl : gLt (.int a) (.int 1000000000000000000000000000000000000000000000000000000000000) S = .ok (.bl false) S := by rw [ev_lt, decide_eq_false c2]
        generalize (1000000000000000000000000000000000000000000000000000000000000 : Int) = P at *
        simp [pq, pp, c1, gl, -ev_lt]
    · refine ⟨a, ?_, a0⟩
      have gl : gGe (.int b) (.int 1000000000000) S = .ok (.bl false) S := by rw [ev_ge, decide_eq_false c1]
      simp [pq, pp, gl, -ev_ge]
  obtain ⟨a', A3, a0'⟩ := A3
  refine ⟨a', s', some (.int b), ?_, a0', s0', by omega⟩
  unfold m__law_pool_b0
  rw [ev_seq, A1, seqK_nx, ev_seq, A2, seqK_nx, A3]
theorem r_pool {ns : List Int} (hl : ns.length ≤ 100) (S : Store) : ∃ j S', m__law_pool [.rol (ns.map .int)] S = .ok (.cell j) S' ∧ J j S' 0 := by
  have s0 : (sAsg (eTup (aCons (eK (.int 0)) (aCons (eK (.int 7)) aNil))) (tT 2 (tCons (tN 1) (tCons (tN 2) tNil)))) [some (.rol (ns.map .int)), none, none, none, none] S = .nx [some (.rol (ns.map .int)), some (.int 0), some (.int 7), none, none] S := by
    unfold sAsg
    simp [tT, tCons, tN, tNil, lineN]
  have it : (iRng1 (aCons (eC gLen (aCons (eVar 0) aNil)) aNil)) [some (.rol (ns.map .int)), some (.int 0), some (.int 7), none, none] S = .ok (rngD 0 ns.length) S := iRng1_ok (by simp [ev_lenR]) (by omega)
  obtain ⟨e, S', q1, rfl, ⟨a, s, w3, w4, he, a0, s0', s1⟩, _⟩ := forL_go (g := tN 3) (fb := m__law_pool_b0)
    (fun ds e S' => S' = S ∧ (∃ (a s : Int) (w3 w4 : Option D), e = [some (.rol (ns.map .int)), some (.int a), some (.int s), w3, w4] ∧ 0 ≤ a ∧ 0 ≤ s ∧ s < 2147483648) ∧ ∀ y ∈ ds, ∃ n : Nat, n < ns.length ∧ y = .int (n : Int)) (fun y ds e S1 ⟨hS, ⟨a, s, w3, w4, he, a0, sa0, s1⟩, hy⟩ => by
      subst he
      subst hS
      obtain ⟨n, hn, rfl⟩ := hy y (List.mem_cons_self ..)
      obtain ⟨a', s', u4, h1, h2, h3, h4⟩ := pool_step (w4 := w4) hn a0 sa0 s1 S1
      exact ⟨_, rfl, _, _, .inl h1, rfl, ⟨_, _, _, _, rfl, h2, h3, h4⟩, fun z hz => hy z (List.mem_cons_of_mem _ hz)⟩)
    (rngD 0 ns.length) [some (.rol (ns.map .int)), some (.int 0), some (.int 7), none, none] S ⟨rfl, ⟨0, 7, none, none, rfl, by omega, by omega, by omega⟩, fun y hy => by
      obtain ⟨k, hk, rfl⟩ := mem_rngD hy
      exact ⟨k, hk, by simp⟩⟩
  subst he
  have lp : (sFor (iRng1 (aCons (eC gLen (aCons (eVar 0) aNil)) aNil)) (tN 3) m__law_pool_b0) [some (.rol (ns.map .int)), some (.int 0), some (.int 7), none, none] S' = .nx [some (.rol (ns.map .int)), some (.int a), some (.int s), w3, w4] S' := by
    show sE ((iRng1 (aCons (eC gLen (aCons (eVar 0) aNil)) aNil)) _ _) _ _ = _
    rw [it, ev_sE_ok]
    exact q1
  refine ⟨S'.length, S' ++ [some (.lst [.int a, .int s, .int 0])], ?_, a, s, 0, by simp, s0', s1, by omega, by omega⟩
  unfold m__law_pool
  generalize (sFor (iRng1 (aCons (eC gLen (aCons (eVar 0) aNil)) aNil)) (tN 3) m__law_pool_b0) = F at *
  generalize (sAsg (eTup (aCons (eK (.int 0)) (aCons (eK (.int 7)) aNil))) (tT 2 (tCons (tN 1) (tCons (tN 2) tNil)))) = F0 at *
  generalize ns.map D.int = mD at *
  simp [s0, lp, lineN]
/-! with one more kind -/
theorem nice_told29 {ks : List Kd} (g : ∀ k ∈ ks, Good k) (hl : ks.length ≤ 3) : nice 29 (told ks) = true := by
  have h1 := (nice_ks g hl 23).1
  have h2 : nice 28 (factsD ks) = true := by
    show (decide ((.tup (ks.map dk) :: sumsL ks : List D).length ≤ 1000000) && (.tup (ks.map dk) :: sumsL ks : List D).all (nice 27)) = true
    simp only [List.all_cons, h1, sumsL, List.length_cons, List.length_nil]
    rfl
  exact nice_inv (by decide +kernel) h2
def oddsV : List D := [.non, .tup [], .tup [.non], .tup [.int 3, .int 2], .tup [.int 0, .non], .lst [.int 0, .int 1], .tup [.bl true], .tup (List.replicate 42 (.int 0)), .tup [.str "0"], .int 5, .tup [.int 1, .non, .int 2]]
theorem oddsV_ok : ∀ d ∈ oddsV, (∀ S, m_is_values [d] S = .ok (.bl false) S) ∧ nice 28 d = true := fun d hd => by
  simp only [oddsV, List.mem_cons, List.not_mem_nil, or_false] at hd
  rcases hd with rfl | rfl | rfl | rfl | rfl | rfl | rfl | rfl | rfl | rfl | rfl
  · exact ⟨odd1, rfl⟩
  · exact ⟨odd2, rfl⟩
  · exact ⟨odd3, rfl⟩
  · exact ⟨odd4, rfl⟩
  · exact ⟨odd5, rfl⟩
  · exact ⟨odd6, rfl⟩
  · exact ⟨odd7, rfl⟩
  · exact ⟨odd8, rfl⟩
  · exact ⟨odd9, by decide +kernel⟩
  · exact ⟨odd10, rfl⟩
  · exact ⟨odd11, rfl⟩
theorem ev_mul42 : ∀ env S, e2 (gMul mkL) (eTup (aCons (eK (.int 0)) aNil)) (eK (.int 42)) env S = .ok (.tup (List.replicate 42 (.int 0))) S := fun env S => by
  have h0 : eTup (aCons (eK (.int 0)) aNil) env S = .ok (.tup [.int 0]) S := by simp [lineN]
  rw [ev_e2, h0, bind_ok, ev_k, bind_ok]
  unfold gMul
  exact if_pos ⟨by simp, by omega, by omega, by decide⟩
theorem more_odd {j : Nat} {ks : List Kd} (K : Ks ks) {d : D} (hd : (∀ S, m_is_values [d] S = .ok (.bl false) S) ∧ nice 28 d = true) (w2 w3 w4 : Option D) (S : Store) : m__law_more_right_b0 [some (.cell j), some (.lst (ks.map dk)), w2, w3, w4, some d] S = .nx [some (.cell j), some (.lst (ks.map dk)), w2, w3, w4, some d] (S ++ [none]) := by
  have h1 := r_h_more_odd (y := .non) (.inl rfl) K S hd.1
  have h2 := same_ok 30 _ (S ++ [none]) (nice_up 29 _ (nice_inv okCrew hd.2))
  have h3 : ∀ S, eTup (aCons (eK (.str "InvalidCrew")) (aCons (eVar 5) aNil)) [some (.cell j), some (.lst (ks.map dk)), w2, w3, w4, some d] S = .ok (inv "InvalidCrew" d) S := fun S => by simp [lineN, inv]
  unfold m__law_more_right_b0
  generalize eTup (aCons (eK (.str "InvalidCrew")) (aCons (eVar 5) aNil)) = T at *
  generalize inv "InvalidCrew" d = I at *
  simp [h1, h2, h3]
theorem r_more_right {j : Nat} {S : Store} {C : Int} {ks : List Kd} (K : Ks ks) (g : J j S C) (hC : C ≤ 600000) : ∃ S', m__law_more_right [.cell j, .lst (ks.map dk)] S = .ok (.bl true) S' ∧ J j S' (C + 200) := by
  have l3 := K.l3
  obtain ⟨v, S1, t1, v0, v1, g1, k1⟩ := r_take (m := 7) g (by omega) (by omega) (by omega)
  obtain ⟨a, xs, S2, t2, g2, k2, x0, xl, xp, _⟩ := r_drawn (q := v) (s := 9) g1 (by omega) (by omega) (by omega) (by omega) (by omega)
  obtain ⟨x, hx, gx, hxm⟩ : ∃ x : Kd, vt x = .tup (vals a xs) ∧ Good x ∧ x.m = 4 := ⟨⟨a, xs, 4⟩, rfl, ⟨x0, show a + xs.length ≤ 41 by omega, xp, show (0 : Int) ≤ 4 by omega, show (4 : Int) ≤ 1000000000000000000000000000000 by omega⟩, rfl⟩
  rw [← hx] at t2
  have hd : ∃ I S3, m__law_heard_more [.lst (ks.map dk), vt x, .int 4] S2 = .ok I S3 ∧ nice 29 I = true ∧ S2 <+: S3 ∧ ∀ w3 w4 w5, (eIf (tst (e2 gEq (eC gLen (aCons (eVar 1) aNil)) (eK (.int 3)))) (eTup (aCons (eK (.str "TooMany")) (aCons (eK (.int 3)) aNil))) (eCn 1 m__law_owed (aCons (e2 (gAdd mkL) (eVar 1) (eLst mkL (aCons (eTup (aCons (eVar 2) (aCons (eK (.int 4)) aNil))) aNil))) aNil))) [some (.cell j), some (.lst (ks.map dk)), some (vt x), w3, w4, w5] S2 = .ok I S2 := by
    by_cases h3 : ks.length = 3
    · refine ⟨inv "TooMany" (.int 3), S2 ++ [none], by rw [← hxm]; exact r_h_more_full (.inl rfl) K gx h3 S2, nice_inv okMany rfl, grow1 _ _, fun w3 w4 w5 => ?_⟩
      simp [h3, lineN, inv]
    · have gg : ∀ k ∈ ks ++ [x], Good k := fun y hy => by
        rcases List.mem_append.mp hy with hy | hy
        · exact K.g y hy
        · rw [List.mem_singleton.mp hy]
          exact gx
      have ll : (ks ++ [x]).length ≤ 3 := by rw [List.length_append]; simp; omega
      refine ⟨told (ks ++ [x]), S2 ++ [none] ++ [none], by rw [← hxm]; exact r_h_more (.inl rfl) K gx (by omega) S2, nice_told29 gg ll, (grow1 _ _).trans (grow1 _ _), fun w3 w4 w5 => ?_⟩
      have ow := r_owed (ks ++ [x]) gg ll S2
      have ad : gAdd mkL (.lst (ks.map dk)) (.lst [.tup [vt x, .int 4]]) S2 = .ok (.lst ((ks ++ [x]).map dk)) S2 := by
        rw [ev_addL (by simp; omega), List.map_append, ← hxm]
        rfl
      have n3 : ¬ ((ks.length : Int) = 3) := by omega
      generalize (ks ++ [x]).map dk = Q at *
      simp [n3, lineN, ow, ad]
  obtain ⟨I, S3, h1, n1, p1, h2⟩ := hd
  have h3 := r_h_more_many (y := .int (-1)) (.inl rfl) K gx rfl rfl S3
  have n2 := nice_inv okNum (d := .int (-1)) rfl
  have h4 := same_ok 30 (.lst [I, inv "InvalidNumber" (.int (-1))]) (S3 ++ [none]) (nice_lst (by simp) fun y hy => by
    simp only [List.mem_cons, List.not_mem_nil, or_false] at hy
    rcases hy with rfl | rfl
    · exact n1
    · exact n2)
  have h5 : ∀ env S, eTup (aCons (eK (.str "InvalidNumber")) (aCons (e1 gNeg (eK (.int 1))) aNil)) env S = .ok (inv "InvalidNumber" (.int (-1))) S := fun env S => by simp [lineN, inv]
  have lp : ∀ w2 w3 w4 S, ∃ w5 S', (sFor (iSeq (eLst mkL (aCons (eK .non) (aCons (eTup aNil) (aCons (eTup (aCons (eK .non) aNil)) (aCons (eTup (aCons (eK (.int 3)) (aCons (eK (.int 2)) aNil))) (aCons (eTup (aCons (eK (.int 0)) (aCons (eK .non) aNil))) (aCons (eLst mkL (aCons (eK (.int 0)) (aCons (eK (.int 1)) aNil))) (aCons (eTup (aCons (eK (.bl true)) aNil)) (aCons (e2 (gMul mkL) (eTup (aCons (eK (.int 0)) aNil)) (eK (.int 42))) (aCons (eTup (aCons (eK (.str "0")) aNil)) (aCons (eK (.int 5)) (aCons (eTup (aCons (eK (.int 1)) (aCons (eK .non) (aCons (eK (.int 2)) aNil)))) aNil))))))))))))) (tN 5) m__law_more_right_b0) [some (.cell j), some (.lst (ks.map dk)), w2, w3, w4, none] S = .nx [some (.cell j), some (.lst (ks.map dk)), w2, w3, w4, w5] S' ∧ S <+: S' := fun w2 w3 w4 S => by
    obtain ⟨e, S', q1, q2, ⟨w5, q3⟩, _⟩ := forL_go (g := tN 5) (fb := m__law_more_right_b0)
      (fun ds e S' => S <+: S' ∧ (∃ w5, e = [some (.cell j), some (.lst (ks.map dk)), w2, w3, w4, w5]) ∧ ∀ y ∈ ds, y ∈ oddsV) (fun y ds e S1 ⟨hS, ⟨w5, he⟩, hy⟩ => by
        subst he
        exact ⟨_, rfl, _, _, .inl (more_odd K (oddsV_ok y (hy y (List.mem_cons_self ..))) w2 w3 w4 S1), hS.trans (grow1 _ _), ⟨_, rfl⟩, fun z hz => hy z (List.mem_cons_of_mem _ hz)⟩)
      oddsV [some (.cell j), some (.lst (ks.map dk)), w2, w3, w4, none] S ⟨List.prefix_refl _, ⟨_, rfl⟩, fun y hy => hy⟩
    subst q3
    refine ⟨w5, S', ?_, q2⟩
    have li : eLst mkL (aCons (eK .non) (aCons (eTup aNil) (aCons (eTup (aCons (eK .non) aNil)) (aCons (eTup (aCons (eK (.int 3)) (aCons (eK (.int 2)) aNil))) (aCons (eTup (aCons (eK (.int 0)) (aCons (eK .non) aNil))) (aCons (eLst mkL (aCons (eK (.int 0)) (aCons (eK (.int 1)) aNil))) (aCons (eTup (aCons (eK (.bl true)) aNil)) (aCons (e2 (gMul mkL) (eTup (aCons (eK (.int 0)) aNil)) (eK (.int 42))) (aCons (eTup (aCons (eK (.str "0")) aNil)) (aCons (eK (.int 5)) (aCons (eTup (aCons (eK (.int 1)) (aCons (eK .non) (aCons (eK (.int 2)) aNil)))) aNil))))))))))) [some (.cell j), some (.lst (ks.map dk)), w2, w3, w4, none] S = .ok (.lst oddsV) S := by
      have m42 := ev_mul42
      generalize (e2 (gMul mkL) (eTup (aCons (eK (.int 0)) aNil)) (eK (.int 42))) = MM at *
      generalize hR : List.replicate 42 (D.int 0) = R at *
      simp [m42, lineN, oddsV, hR]
    show sE ((iSeq (eLst mkL (aCons (eK .non) (aCons (eTup aNil) (aCons (eTup (aCons (eK .non) aNil)) (aCons (eTup (aCons (eK (.int 3)) (aCons (eK (.int 2)) aNil))) (aCons (eTup (aCons (eK (.int 0)) (aCons (eK .non) aNil))) (aCons (eLst mkL (aCons (eK (.int 0)) (aCons (eK (.int 1)) aNil))) (aCons (eTup (aCons (eK (.bl true)) aNil)) (aCons (e2 (gMul mkL) (eTup (aCons (eK (.int 0)) aNil)) (eK (.int 42))) (aCons (eTup (aCons (eK (.str "0")) aNil)) (aCons (eK (.int 5)) (aCons (eTup (aCons (eK (.int 1)) (aCons (eK .non) (aCons (eK (.int 2)) aNil)))) aNil))))))))))))) _ _) _ _ = _
    rw [ev_iSeqL li, ev_sE_ok]
    exact q1
  have hc : ((eLst mkL (aCons (eCn 3 m__law_heard_more (aCons (eVar 1) (aCons (eVar 2) (aCons (eK (.int 4)) aNil)))) (aCons (eCn 3 m__law_heard_more (aCons (eVar 1) (aCons (eVar 2) (aCons (e1 gNeg (eK (.int 1))) aNil)))) aNil)))) [some (.cell j), some (.lst (ks.map dk)), some (vt x), some I, none, none] S2 = .ok (.lst [I, inv "InvalidNumber" (.int (-1))]) (S3 ++ [none]) := by
    generalize inv "InvalidNumber" (.int (-1)) = V at *
    simp [h1, h3, lineN]
  generalize hV : inv "InvalidNumber" (.int (-1)) = V at *
  obtain ⟨w5, S4, q1, q2⟩ := lp (some (vt x)) (some I) (some (.lst [I, V])) (S3 ++ [none])
  refine ⟨S4, ?_, ((J.pre (p1.trans ((grow1 _ _).trans q2)) g2).le (by omega))⟩
  have h5' : ∀ w5 S, eLst mkL (aCons (eVar 3) (aCons (eTup (aCons (eK (.str "InvalidNumber")) (aCons (e1 gNeg (eK (.int 1))) aNil))) aNil)) [some (.cell j), some (.lst (ks.map dk)), some (vt x), some I, some (.lst [I, V]), w5] S = .ok (.lst [I, V]) S := fun w5 S => by
    generalize eTup (aCons (eK (.str "InvalidNumber")) (aCons (e1 gNeg (eK (.int 1))) aNil)) = T at *
    simp [h5, lineN]
  unfold m__law_more_right
  generalize (sFor (iSeq (eLst mkL (aCons (eK .non) (aCons (eTup aNil) (aCons (eTup (aCons (eK .non) aNil)) (aCons (eTup (aCons (eK (.int 3)) (aCons (eK (.int 2)) aNil))) (aCons (eTup (aCons (eK (.int 0)) (aCons (eK .non) aNil))) (aCons (eLst mkL (aCons (eK (.int 0)) (aCons (eK (.int 1)) aNil))) (aCons (eTup (aCons (eK (.bl true)) aNil)) (aCons (e2 (gMul mkL) (eTup (aCons (eK (.int 0)) aNil)) (eK (.int 42))) (aCons (eTup (aCons (eK (.str "0")) aNil)) (aCons (eK (.int 5)) (aCons (eTup (aCons (eK (.int 1)) (aCons (eK .non) (aCons (eK (.int 2)) aNil)))) aNil))))))))))))) (tN 5) m__law_more_right_b0) = F at *
  generalize (eLst mkL (aCons (eCn 3 m__law_heard_more (aCons (eVar 1) (aCons (eVar 2) (aCons (eK (.int 4)) aNil)))) (aCons (eCn 3 m__law_heard_more (aCons (eVar 1) (aCons (eVar 2) (aCons (e1 gNeg (eK (.int 1))) aNil)))) aNil))) = E2 at *
  generalize (eIf (tst (e2 gEq (eC gLen (aCons (eVar 1) aNil)) (eK (.int 3)))) (eTup (aCons (eK (.str "TooMany")) (aCons (eK (.int 3)) aNil))) (eCn 1 m__law_owed (aCons (e2 (gAdd mkL) (eVar 1) (eLst mkL (aCons (eTup (aCons (eVar 2) (aCons (eK (.int 4)) aNil))) aNil))) aNil))) = E1 at *
  generalize eLst mkL (aCons (eVar 3) (aCons (eTup (aCons (eK (.str "InvalidNumber")) (aCons (e1 gNeg (eK (.int 1))) aNil))) aNil)) = E3 at *
  simp [t1, t2, h2, hc, h5', h4, q1]
/-! two ways to one crew -/
theorem r_isCrew (ks : List Kd) (S : Store) : gIsi isSb isTg (.o "Crew") (crew ks) S = .ok (.bl true) S := r_isi (crew ks) S (t := .o "Crew") rfl (by decide) _
theorem r_eqC {ks : List Kd} (K : Ks ks) (neg : Bool) (S : Store) : gEqo "Crew" neg m_Crew___eq__ (crew ks) (crew ks) S = .ok (.bl (!neg)) S := by
  have h1 := r_fld ks S
  have h2 := eq_nice (nice_ks K.g K.l3 24).1 (by omega) false S
  have h3 : m_Crew___eq__ [crew ks, crew ks] S = .ok (.bl true) S := by
    have h4 := r_isCrew ks S
    generalize crew ks = W at *
    generalize D.tup (ks.map dk) = V at *
    simp [m_Crew___eq__, h1, h2, h4]
  unfold gEqo
  simp only [oview, crew] at h3 ⊢
  rw [if_pos (by simp), h3]
  cases neg <;> rfl
theorem cut_all {ks : List Kd} (K : Ks ks) (h0 : 0 < ks.length) : put ks 0 (cutK ks[0] (qt ks[0]).toNat) = ks := by
  cases ks with
  | nil => simp at h0
  | cons k ks =>
    have kg := K.g k (List.mem_cons_self ..)
    have e : cutK k (qt k).toNat = k := by
      have hq := qt_eq k
      have := List.length_pos_iff.mpr kg.ne
      have hl : (qt k).toNat + 1 - k.a = k.xs.length := by omega
      unfold cutK
      rw [hl, List.take_of_length_le (Nat.le_refl _)]
    show put (k :: ks) 0 (cutK k (qt k).toNat) = k :: ks
    rw [e]
    rfl
theorem alike_step {bs : List Kd} {k : Kd} (g : ∀ x ∈ bs, Good x) (gk : Good k) (hl : bs.length < 3) (w0 w2 : Option D) (S : Store) : ∃ S', m__law_alike_b0 [w0, some (crew bs), w2, some (vt k), some (.int k.m)] S = .nx [w0, some (crew (bs ++ [k])), w2, some (vt k), some (.int k.m)] S' ∧ S <+: S' := by
  have h1 := r_with_kind (k := ⟨k.a, k.xs, 0⟩) g ⟨gk.ne, gk.len, gk.sorted, Int.le_refl _, show (0 : Int) ≤ 1000000000000000000000000000000 by omega⟩ hl S
  have gx : ∀ x ∈ bs ++ [(⟨k.a, k.xs, 0⟩ : Kd)], Good x := fun x hx => by
    rcases List.mem_append.mp hx with hx | hx
    · exact g x hx
    · rw [List.mem_singleton.mp hx]
      exact ⟨gk.ne, gk.len, gk.sorted, Int.le_refl _, show (0 : Int) ≤ 1000000000000000000000000000000 by omega⟩
  have ll : (bs ++ [(⟨k.a, k.xs, 0⟩ : Kd)]).length = bs.length + 1 := by simp
  have h2 := r_with_many (n := bs.length) (m := k.m) gx (by omega) (by omega) gk.m0 gk.m1 (S ++ [none])
  have e : put (bs ++ [(⟨k.a, k.xs, 0⟩ : Kd)]) bs.length (manyK (bs ++ [(⟨k.a, k.xs, 0⟩ : Kd)])[bs.length] k.m) = bs ++ [k] := by
    unfold put
    simp [manyK]
  rw [e] at h2
  have hv : vt (⟨k.a, k.xs, 0⟩ : Kd) = vt k := rfl
  rw [hv] at h1
  have h1 : m_Crew_with_kind [crew bs, vt k, .int 0] S = .ok (crew (bs ++ [⟨k.a, k.xs, 0⟩])) (S ++ [none]) := h1
  refine ⟨S ++ [none] ++ [none], ?_, (grow1 _ _).trans (grow1 _ _)⟩
  have m1 : eMet "Crew" "with_kind" 3 m_Crew_with_kind (eVar 1) (aCons (eVar 3) (aCons (eK (.int 0)) aNil)) [w0, some (crew bs), w2, some (vt k), some (.int k.m)] S = .ok (crew (bs ++ [⟨k.a, k.xs, 0⟩])) (S ++ [none]) := by
    rw [r_met (ks := bs) (ev_var rfl) ⟨by decide, by decide⟩]
    generalize crew (bs ++ [⟨k.a, k.xs, 0⟩]) = W at *
    generalize crew bs = W0 at *
    simp [h1]
  have p1 : ePrp "Crew" m_Crew_all_kinds (eVar 1) [w0, some (crew bs), w2, some (vt k), some (.int k.m)] (S ++ [none]) = .ok (.tup (bs.map dk)) (S ++ [none]) := by
    rw [r_prp (ks := bs) (S1 := S ++ [none]) (ev_var rfl)]
    have hf := r_fld bs (S ++ [none])
    generalize crew bs = W0 at *
    generalize bs.map dk = R at *
    simp [m_Crew_all_kinds, hf]
  have m2 : (eMet "Crew" "with_many" 3 m_Crew_with_many (eMet "Crew" "with_kind" 3 m_Crew_with_kind (eVar 1) (aCons (eVar 3) (aCons (eK (.int 0)) aNil))) (aCons (eC gLen (aCons (ePrp "Crew" m_Crew_all_kinds (eVar 1)) aNil)) (aCons (eVar 4) aNil))) [w0, some (crew bs), w2, some (vt k), some (.int k.m)] S = .ok (crew (bs ++ [k])) (S ++ [none] ++ [none]) := by
    rw [r_met m1 ⟨by decide, by decide⟩]
    have ln : gLen [.tup (bs.map dk)] (S ++ [none]) = .ok (.int (bs.length : Int)) (S ++ [none]) := by rw [ev_lenT, List.length_map]
    generalize S ++ [none] ++ [none] = S2 at *
    generalize S ++ [none] = S1 at *
    generalize crew (bs ++ [⟨k.a, k.xs, 0⟩]) = W1 at *
    generalize crew (bs ++ [k]) = W2 at *
    generalize crew bs = W0 at *
    generalize bs.map dk = R at *
    simp [p1, ln, h2, -ev_lenT]
  show sE ((eMet "Crew" "with_many" 3 m_Crew_with_many (eMet "Crew" "with_kind" 3 m_Crew_with_kind (eVar 1) (aCons (eVar 3) (aCons (eK (.int 0)) aNil))) (aCons (eC gLen (aCons (ePrp "Crew" m_Crew_all_kinds (eVar 1)) aNil)) (aCons (eVar 4) aNil))) _ _) _ _ = _
  rw [m2, ev_sE_ok]
  rfl
theorem r_alike {ks : List Kd} (K : Ks ks) (S : Store) : ∃ S', m__law_alike [.lst (ks.map dk)] S = .ok (.lst [.bl true, .bl true, .bl false]) S' ∧ S <+: S' := by
  obtain ⟨k, rs, rfl⟩ : ∃ k rs, ks = k :: rs := by
    cases ks with
    | nil => exact absurd K.l1 (by simp)
    | cons k rs => exact ⟨k, rs, rfl⟩
  have l3 := K.l3
  rw [List.length_cons] at l3
  have kg := K.g k (List.mem_cons_self ..)
  have sl : ∀ env S, eVar 0 env S = .ok (.lst ((k :: rs).map dk)) S → eSl mkL (eVar 0) oNo (oYes (eK (.int 1))) env S = .ok (.lst ([k].map dk)) S := fun env S h => by
    have c := cut_to (l := (k :: rs).map dk) 1
    have e : ((k :: rs).map dk).take 1 = [k].map dk := rfl
    rw [e] at c
    have c : cutD ((k :: rs).map dk) none (some 1) = [k].map dk := c
    rw [ev_sl, h, bind_ok, ev_oNo, bind_ok, ev_oYes, ev_k, bind_ok]
    show gSl mkL (.lst ((k :: rs).map dk)) none (some 1) S = _
    rw [ev_slL, c]
    rfl
  have sf : ∀ env S, eVar 0 env S = .ok (.lst ((k :: rs).map dk)) S → eSl mkL (eVar 0) (oYes (eK (.int 1))) oNo env S = .ok (.lst (rs.map dk)) S := fun env S h => by
    have c := cut_from (l := (k :: rs).map dk) 1 (by simp)
    have e : ((k :: rs).map dk).drop 1 = rs.map dk := rfl
    rw [e] at c
    have c : cutD ((k :: rs).map dk) (some 1) none = rs.map dk := c
    rw [ev_sl, h, bind_ok, ev_oYes, ev_k, bind_ok]
    show (Res.ok (some 1) S).bind _ = _
    rw [bind_ok, ev_oNo, bind_ok]
    show gSl mkL (.lst ((k :: rs).map dk)) (some 1) none S = _
    rw [ev_slL, c]
    rfl
  have k1 := r_make (env := [some (.lst ((k :: rs).map dk)), none, none, none, none]) (S := S) (S1 := S) (ks := [k]) (.inl rfl) (fun x hx => by rw [List.mem_singleton.mp hx]; exact kg) (by simp) (by simp) (sl _ S (ev_var rfl))
  have k2 := r_make (fe := eC gTuple (aCons (eVar 0) aNil)) (env := [some (.lst ((k :: rs).map dk)), none, none, none, none]) (S := S ++ [none]) (S1 := S ++ [none]) (ks := k :: rs) (.inr rfl) K.g K.l1 K.l3 (by
    generalize (k :: rs).map dk = R at *
    simp)
  have sp : (sPar 1 2 (aCons (eMak true "Crew" 2 m_Crew___init__ (aCons (eSl mkL (eVar 0) oNo (oYes (eK (.int 1)))) aNil)) (aCons (eMak true "Crew" 2 m_Crew___init__ (aCons (eC gTuple (aCons (eVar 0) aNil)) aNil)) aNil))) [some (.lst ((k :: rs).map dk)), none, none, none, none] S = .nx [some (.lst ((k :: rs).map dk)), some (crew [k]), some (crew (k :: rs)), none, none] (S ++ [none] ++ [none]) := by
    unfold sPar
    rw [ev_aCons, k1, bind_ok, ev_aCons, k2, bind_ok, ev_aNil, bind_ok, bind_ok]
    rfl
  obtain ⟨e, S2, q1, pS, bs, ⟨w3, w4, he⟩, qb⟩ := forL_go (g := (tT 2 (tCons (tN 3) (tCons (tN 4) tNil)))) (fb := m__law_alike_b0)
    (fun ds e S' => S <+: S' ∧ ∃ bs : List Kd, (∃ w3 w4, e = [some (.lst ((k :: rs).map dk)), some (crew bs), some (crew (k :: rs)), w3, w4]) ∧ ∃ ts : List Kd, ds = ts.map dk ∧ bs ++ ts = k :: rs) (fun y ds e S1 ⟨pS, bs, ⟨w3, w4, he⟩, ts, hd, hb⟩ => by
      subst he
      cases ts with
      | nil => cases hd
      | cons t ts =>
        rw [List.map_cons] at hd
        injection hd with hy hd
        subst hy
        have gt : Good t := K.g t (by rw [← hb]; simp)
        have gb : ∀ x ∈ bs, Good x := fun x hx => K.g x (by rw [← hb]; simp [hx])
        have hl : bs.length < 3 := by
          have := congrArg List.length hb
          rw [List.length_append, List.length_cons, List.length_cons] at this
          omega
        obtain ⟨S2, h, p2⟩ := alike_step gb gt hl (some (.lst ((k :: rs).map dk))) (some (crew (k :: rs))) S1
        exact ⟨_, rfl, _, _, .inl h, pS.trans p2, bs ++ [t], ⟨_, _, rfl⟩, ts, hd, by rw [← hb]; simp⟩)
    (rs.map dk) [some (.lst ((k :: rs).map dk)), some (crew [k]), some (crew (k :: rs)), none, none] (S ++ [none] ++ [none]) ⟨(grow1 _ _).trans (grow1 _ _), [k], ⟨_, _, rfl⟩, rs, rfl, rfl⟩
  obtain ⟨ts, ht, hb⟩ := qb
  have ht : ts = [] := by
    cases ts with
    | nil => rfl
    | cons t ts => cases ht
  subst ht
  rw [List.append_nil] at hb
  subst hb
  subst he
  have lp : (sFor (iSeq (eSl mkL (eVar 0) (oYes (eK (.int 1))) oNo)) (tT 2 (tCons (tN 3) (tCons (tN 4) tNil))) m__law_alike_b0) [some (.lst ((k :: rs).map dk)), some (crew [k]), some (crew (k :: rs)), none, none] (S ++ [none] ++ [none]) = .nx [some (.lst ((k :: rs).map dk)), some (crew (k :: rs)), some (crew (k :: rs)), w3, w4] S2 := by
    show sE ((iSeq (eSl mkL (eVar 0) (oYes (eK (.int 1))) oNo)) _ _) _ _ = _
    rw [ev_iSeqL (sf _ _ (ev_var rfl)), ev_sE_ok]
    exact q1
  have q0 := (qt_ge kg)
  have hq : (((qt k).toNat : Nat) : Int) = qt k := by omega
  have ct := r_cut (n := 0) (q := (qt k).toNat) K.g (by simp) K.l3 (show k.a ≤ _ by omega) (show _ ≤ qt k by omega) S2
  have ca : put (k :: rs) 0 (cutK (k :: rs)[0] (qt k).toNat) = k :: rs := cut_all K (by simp)
  rw [ca, hq] at ct
  have ct : m_Crew_cut [crew (k :: rs), .int 0, .int (qt k)] S2 = .ok (crew (k :: rs)) (S2 ++ [none]) := ct
  have pq := r_pcq k S2
  have i1 := r_kindAtL (ks := k :: rs) (n := 0) (by simp) S2
  have i1 : gIx (.lst ((k :: rs).map dk)) (.int 0) S2 = .ok (dk k) S2 := i1
  have i2 : gIx (dk k) (.int 0) S2 = .ok (vt k) S2 := rfl
  have mt : (eMet "Crew" "cut" 3 m_Crew_cut (eVar 2) (aCons (eK (.int 0)) (aCons (eCn 1 m__law_pc_quota (aCons (e2 gIx (e2 gIx (eVar 0) (eK (.int 0))) (eK (.int 0))) aNil)) aNil))) [some (.lst ((k :: rs).map dk)), some (crew (k :: rs)), some (crew (k :: rs)), w3, w4] S2 = .ok (crew (k :: rs)) (S2 ++ [none]) := by
    rw [r_met (ev_var rfl) ⟨by decide, by decide⟩]
    generalize crew (k :: rs) = W at *
    generalize (k :: rs).map dk = R at *
    simp [i1, i2, pq, ct]
  have e1' := r_eqC K false S2
  have e2' := r_eqC K false (S2 ++ [none])
  have e3' := r_eqC K true (S2 ++ [none])
  refine ⟨S2 ++ [none], ?_, pS.trans (grow1 _ _)⟩
  unfold m__law_alike
  generalize (sPar 1 2 (aCons (eMak true "Crew" 2 m_Crew___init__ (aCons (eSl mkL (eVar 0) oNo (oYes (eK (.int 1)))) aNil)) (aCons (eMak true "Crew" 2 m_Crew___init__ (aCons (eC gTuple (aCons (eVar 0) aNil)) aNil)) aNil))) = F0 at *
  generalize (sFor (iSeq (eSl mkL (eVar 0) (oYes (eK (.int 1))) oNo)) (tT 2 (tCons (tN 3) (tCons (tN 4) tNil))) m__law_alike_b0) = F1 at *
  generalize (eMet "Crew" "cut" 3 m_Crew_cut (eVar 2) (aCons (eK (.int 0)) (aCons (eCn 1 m__law_pc_quota (aCons (e2 gIx (e2 gIx (eVar 0) (eK (.int 0))) (eK (.int 0))) aNil)) aNil))) = ME at *
  generalize S2 ++ [none] = S3 at *
  generalize S ++ [none] ++ [none] = S0 at *
  generalize crew (k :: rs) = W at *
  generalize (k :: rs).map dk = R at *
  simp [sp, lp, e1', e2', e3', mt, lineN]
theorem r_ways {ks : List Kd} (K : Ks ks) (S : Store) : ∃ S', m__law_ways_right [.lst (ks.map dk)] S = .ok (.bl true) S' ∧ S <+: S' := by
  obtain ⟨S', h, hp⟩ := r_alike K S
  have h1 := ev_hear_ok (sb := isSbE) (excs := isEx) (cs := cl__law_heard) (fb := eCn 1 m__law_alike (aCons (eVar 0) aNil)) (env := [some (.lst (ks.map dk)), none]) (S := S) (S' := S') (d := .lst [.bl true, .bl true, .bl false]) (by
    generalize ks.map dk = R at *
    simp [h])
  have h2 := same_ok 30 (.tup [.str "told", .lst [.bl true, .bl true, .bl false]]) S' (by decide +kernel)
  refine ⟨S', ?_, hp⟩
  unfold m__law_ways_right
  generalize ks.map dk = R at *
  simp [h1, lineN, h2]
/-! the law -/
def rnds : List (Int × List Int) := [(6, [0, 1, 2, 5, 12]), (12, [0, 6, 36]), (40, [1, 0, 720]), (4, [1000000000000000000000000000000, 0, 36036000000000000000000000])]
def rndD (p : Int × List Int) : D := .tup [.int p.1, .lst (p.2.map D.int)]
theorem rnds_ok : ∀ p ∈ rnds, (0 : Int) ≤ p.1 ∧ p.1 ≤ 40 ∧ (∀ m ∈ p.2, (0 : Int) ≤ m ∧ m ≤ 1000000000000000000000000000000) ∧ 1 ≤ p.2.length ∧ p.2.length ≤ 1000 := by decide +kernel
theorem rnds_D : ∀ env S, eLst mkL (aCons (eTup (aCons (eK (.int 6)) (aCons (eLst mkL (aCons (eK (.int 0)) (aCons (eK (.int 1)) (aCons (eK (.int 2)) (aCons (eK (.int 5)) (aCons (eK (.int 12)) aNil)))))) aNil))) (aCons (eTup (aCons (eK (.int 12)) (aCons (eLst mkL (aCons (eK (.int 0)) (aCons (eK (.int 6)) (aCons (eK (.int 36)) aNil)))) aNil))) (aCons (eTup (aCons (eK (.int 40)) (aCons (eLst mkL (aCons (eK (.int 1)) (aCons (eK (.int 0)) (aCons (eK (.int 720)) aNil)))) aNil))) (aCons (eTup (aCons (eK (.int 4)) (aCons (eLst mkL (aCons (e2 gPow (eK (.int 10)) (eK (.int 30))) (aCons (eK (.int 0)) (aCons (e2 (gMul mkL) (eK (.int 360360)) (e2 gPow (eK (.int 10)) (eK (.int 20)))) aNil)))) aNil))) aNil)))) env S = .ok (.lst (rnds.map rndD)) S := fun env S => by
  have m : ∀ S, gMul mkL (.int 360360) (.int 100000000000000000000) S = .ok (.int 36036000000000000000000000) S := fun S => by
    rw [ev_mulI (by decide +kernel)]
    rfl
  simp [lineN, rnds, rndD, ev_pow, m]
theorem law_step {j : Nat} {S : Store} {C : Int} (g : J j S C) (hC : C ≤ 500000) (w0 w2 w3 w4 w5 w6 : Option D) : ∃ u3 u4 u5 u6 S', m_law_b0 [w0, some (.cell j), w2, w3, w4, w5, w6] S = .nx [w0, some (.cell j), w2, u3, u4, u5, u6] S' ∧ J j S' (C + 1000) := by
  obtain ⟨n, hn, S1, t1, g1, k1⟩ := r_one (l := rnds.map rndD) g (by omega) (by decide) (by decide)
  rw [List.length_map] at hn
  rw [List.getElem_map] at t1
  obtain ⟨r0, r1, r2, r3, r4⟩ := rnds_ok rnds[n] (List.getElem_mem hn)
  generalize rnds[n] = p at *
  obtain ⟨ks, S2, t2, K, g2, k2⟩ := r_pc_drawn g1 (by omega) r0 r1 r2 r3 r4
  have t3 := r_h_crew (.inl rfl) K S2
  have t4 := r_owed ks K.g K.l3 (S2 ++ [none])
  have t5 := same_ok 30 _ (S2 ++ [none]) (nice_told K.g K.l3)
  obtain ⟨S4, t6, p4⟩ := r_cuts K (S2 ++ [none])
  obtain ⟨S5, t7, p5⟩ := r_shares K S4
  obtain ⟨S6, t8, p6⟩ := r_manies K S5
  have g6 : J j S6 (C + 1 + 400) := J.pre ((grow1 S2 none).trans (p4.trans (p5.trans p6))) g2
  obtain ⟨S7, t9, g7⟩ := r_more_right K g6 (by omega)
  obtain ⟨S8, t10, p8⟩ := r_ways K S7
  have rd := rnds_D
  have sg : (sAsg (eCn 2 m__law_one (aCons (eVar 1) (aCons (eVar 3) aNil))) (tT 2 (tCons (tN 4) (tCons (tN 5) tNil)))) [w0, some (.cell j), w2, some (.lst (rnds.map rndD)), w4, w5, w6] S = .nx [w0, some (.cell j), w2, some (.lst (rnds.map rndD)), some (.int p.1), some (.lst (p.2.map D.int)), w6] S1 := by
    generalize rnds.map rndD = R at *
    unfold sAsg
    simp [t1, rndD, tT, tCons, tN, tNil]
  refine ⟨some (.lst (rnds.map rndD)), some (.int p.1), some (.lst (p.2.map D.int)), some (.lst (ks.map dk)), S8, ?_, ?_⟩
  · unfold m_law_b0
    generalize (eLst mkL (aCons (eTup (aCons (eK (.int 6)) (aCons (eLst mkL (aCons (eK (.int 0)) (aCons (eK (.int 1)) (aCons (eK (.int 2)) (aCons (eK (.int 5)) (aCons (eK (.int 12)) aNil)))))) aNil))) (aCons (eTup (aCons (eK (.int 12)) (aCons (eLst mkL (aCons (eK (.int 0)) (aCons (eK (.int 6)) (aCons (eK (.int 36)) aNil)))) aNil))) (aCons (eTup (aCons (eK (.int 40)) (aCons (eLst mkL (aCons (eK (.int 1)) (aCons (eK (.int 0)) (aCons (eK (.int 720)) aNil)))) aNil))) (aCons (eTup (aCons (eK (.int 4)) (aCons (eLst mkL (aCons (e2 gPow (eK (.int 10)) (eK (.int 30))) (aCons (eK (.int 0)) (aCons (e2 (gMul mkL) (eK (.int 360360)) (e2 gPow (eK (.int 10)) (eK (.int 20)))) aNil)))) aNil))) aNil))))) = E0 at *
    generalize (sAsg (eCn 2 m__law_one (aCons (eVar 1) (aCons (eVar 3) aNil))) (tT 2 (tCons (tN 4) (tCons (tN 5) tNil)))) = F1 at *
    generalize S2 ++ [none] = S3 at *
    generalize rnds.map rndD = R at *
    generalize ks.map dk = Q at *
    generalize p.2.map D.int = Q2 at *
    generalize told ks = I at *
    simp [rd, sg, t2, t3, t4, t5, t6, t7, t8, t9, t10]
  · exact (J.pre p8 g7).le (by omega)
theorem law_spec : ∀ ns : List Int, ns.length ≤ 63 → (∀ z ∈ ns, Builtin.Int.intBits z ≤ 1048576) → ∃ S, m_law [.rol (ns.map .int)] [] = .ok (.bl true) S := fun ns hl _ => by
  obtain ⟨j, S1, h1, g1⟩ := r_pool (ns := ns) (by omega) []
  have it : ∀ env S, (iRng1 (aCons (eK (.int 9)) aNil)) env S = .ok (rngD 0 9) S := fun env S => iRng1_ok (n := 9) rfl (by omega)
  obtain ⟨e, S', q1, ⟨w2, w3, w4, w5, w6, he⟩, C, g, hC⟩ := forL_go (g := tN 2) (fb := m_law_b0)
    (fun ds e S' => (∃ w2 w3 w4 w5 w6, e = [some (.rol (ns.map .int)), some (.cell j), w2, w3, w4, w5, w6]) ∧ ∃ C : Int, J j S' C ∧ C + 1000 * (ds.length : Int) ≤ 9000) (fun y ds e S1 ⟨⟨w2, w3, w4, w5, w6, he⟩, C, g, hC⟩ => by
      subst he
      rw [List.length_cons] at hC
      obtain ⟨u3, u4, u5, u6, S2, h, g2⟩ := law_step g (by omega) (some (.rol (ns.map .int))) (some y) w3 w4 w5 w6
      exact ⟨_, rfl, _, _, .inl h, ⟨_, _, _, _, _, rfl⟩, _, g2, by omega⟩)
    (rngD 0 9) [some (.rol (ns.map .int)), some (.cell j), none, none, none, none, none] S1 ⟨⟨_, _, _, _, _, rfl⟩, 0, g1, by rw [rngD_len]; omega⟩
  have lp : (sFor (iRng1 (aCons (eK (.int 9)) aNil)) (tN 2) m_law_b0) [some (.rol (ns.map .int)), some (.cell j), none, none, none, none, none] S1 = .nx e S' := by
    show sE ((iRng1 (aCons (eK (.int 9)) aNil)) _ _) _ _ = _
    rw [it, ev_sE_ok]
    exact q1
  refine ⟨S', ?_⟩
  unfold m_law
  generalize (sFor (iRng1 (aCons (eK (.int 9)) aNil)) (tN 2) m_law_b0) = F at *
  generalize ns.map D.int = R at *
  simp [h1, lp]
end ZL
end
section
set_option Elab.async false
set_option linter.all false
set_option maxRecDepth 100000
set_option maxHeartbeats 0
namespace ZL
open PySem PySem.Spec PyProof.Rows
open L2 Z
def fas : List He.Fa := [
.free "all",
  .free "any",
  .free "bool",
  .free "int",
  .free "isinstance",
  .free "len",
  .free "list",
  .free "max",
  .free "min",
  .free "range",
  .free "str",
  .free "sum",
  .free "super",
  .free "tuple",
  .int "MOST_ENTRIES" (41),
  .int "MOST_KINDS" (3),
  .int "MOST_MANY" (1000000000000000000000000000000),
  .int "MOST_OFFICES" (1000),
  .glo "is_integer",
  .glo "is_between",
  .glo "is_many",
  .glo "least_of",
  .glo "is_values",
  .glo "is_kind",
  .glo "is_row",
  .glo "quota_of",
  .glo "span_of",
  .glo "_law_facts",
  .glo "_law_heard_cut",
  .glo "_law_pc_least",
  .glo "_law_pc_quota",
  .glo "_law_pc_sums",
  .glo "_law_owed",
  .glo "_law_with",
  .glo "_law_yq_is_whole",
  .glo "_law_yq_same",
  .glo "_law_cuts_right",
  .glo "_law_heard_crew",
  .glo "_law_heard_less",
  .glo "look_at_many",
  .glo "_law_heard_many",
  .glo "_law_manies_right",
  .glo "_law_heard_more",
  .glo "_law_take",
  .glo "_law_one",
  .glo "_law_pc_drawn_values",
  .glo "_law_more_right",
  .glo "_law_pc_drawn",
  .glo "_law_pool",
  .glo "_law_heard_share",
  .glo "_law_shares_right",
  .glo "_law_alike",
  .glo "_law_ways_right",
  .glo "law",
  .glo "_law_heard",
  .glo "Crew",
  .glo "InvalidCrew",
  .glo "InvalidNumber",
  .glo "TooMany",
  .cls "Crew",
  .mkr "Crew",
  .meth "Crew" "changed",
  .meth "Crew" "cut",
  .meth "Crew" "look_at_kind",
  .meth "Crew" "share",
  .meth "Crew" "with_kind",
  .meth "Crew" "with_many",
  .meth "Crew" "without_kind"]
def df0 : DefZ := ⟨.glo "is_integer", "is_integer", "is_integer", defArgs (top 1), defBody (top 1), defScope (top 1), [], []⟩
def df1 : DefZ := ⟨.glo "is_between", "is_between", "is_between", defArgs (top 2), defBody (top 2), defScope (top 2), [], []⟩
def df2 : DefZ := ⟨.glo "is_many", "is_many", "is_many", defArgs (top 19), defBody (top 19), defScope (top 19), [], []⟩
def df3 : DefZ := ⟨.glo "least_of", "least_of", "least_of", defArgs (top 15), defBody (top 15), defScope (top 15), [], []⟩
def df4 : DefZ := ⟨.glo "is_values", "is_values", "is_values", defArgs (top 18), defBody (top 18), defScope (top 18), [], []⟩
def df5 : DefZ := ⟨.glo "is_kind", "is_kind", "is_kind", defArgs (top 20), defBody (top 20), defScope (top 20), [], []⟩
def df6 : DefZ := ⟨.glo "is_row", "is_row", "is_row", defArgs (top 3), defBody (top 3), defScope (top 3), [], []⟩
def df7 : DefZ := ⟨.glo "quota_of", "quota_of", "quota_of", defArgs (top 16), defBody (top 16), defScope (top 16), [], []⟩
def df8 : DefZ := ⟨.glo "span_of", "span_of", "span_of", defArgs (top 17), defBody (top 17), defScope (top 17), [], []⟩
def df9 : DefZ := ⟨.glo "_law_facts", "_law_facts", "_law_facts", defArgs (top 35), defBody (top 35), defScope (top 35), [], []⟩
def df10 : DefZ := ⟨.glo "_law_heard_cut", "_law_heard_cut", "_law_heard_cut", defArgs (top 38), defBody (top 38), defScope (top 38), [], []⟩
def df11 : DefZ := ⟨.glo "_law_pc_least", "_law_pc_least", "_law_pc_least", defArgs (top 29), defBody (top 29), defScope (top 29), [], []⟩
def df12 : DefZ := ⟨.glo "_law_pc_quota", "_law_pc_quota", "_law_pc_quota", defArgs (top 30), defBody (top 30), defScope (top 30), [], []⟩
def df13 : DefZ := ⟨.glo "_law_pc_sums", "_law_pc_sums", "_law_pc_sums", defArgs (top 31), defBody (top 31), defScope (top 31), [], []⟩
def df14 : DefZ := ⟨.glo "_law_owed", "_law_owed", "_law_owed", defArgs (top 36), defBody (top 36), defScope (top 36), [], []⟩
def df15 : DefZ := ⟨.glo "_law_with", "_law_with", "_law_with", defArgs (top 43), defBody (top 43), defScope (top 43), [], []⟩
def df16 : DefZ := ⟨.glo "_law_yq_is_whole", "_law_yq_is_whole", "_law_yq_is_whole", defArgs (top 27), defBody (top 27), defScope (top 27), [], []⟩
def df17 : DefZ := ⟨.glo "_law_yq_same", "_law_yq_same", "_law_yq_same", defArgs (top 28), defBody (top 28), defScope (top 28), [], []⟩
def df18 : DefZ := ⟨.glo "_law_cuts_right", "_law_cuts_right", "_law_cuts_right", defArgs (top 44), defBody (top 44), defScope (top 44), [], []⟩
def df19 : DefZ := ⟨.glo "_law_heard_crew", "_law_heard_crew", "_law_heard_crew", defArgs (top 37), defBody (top 37), defScope (top 37), [], []⟩
def df20 : DefZ := ⟨.glo "_law_heard_less", "_law_heard_less", "_law_heard_less", defArgs (top 42), defBody (top 42), defScope (top 42), [], []⟩
def df21 : DefZ := ⟨.glo "look_at_many", "look_at_many", "look_at_many", defArgs (top 21), defBody (top 21), defScope (top 21), [], []⟩
def df22 : DefZ := ⟨.glo "_law_heard_many", "_law_heard_many", "_law_heard_many", defArgs (top 40), defBody (top 40), defScope (top 40), [], []⟩
def df23 : DefZ := ⟨.glo "_law_manies_right", "_law_manies_right", "_law_manies_right", defArgs (top 46), defBody (top 46), defScope (top 46), [], []⟩
def df24 : DefZ := ⟨.glo "_law_heard_more", "_law_heard_more", "_law_heard_more", defArgs (top 41), defBody (top 41), defScope (top 41), [], []⟩
def df25 : DefZ := ⟨.glo "_law_take", "_law_take", "_law_take", defArgs (top 25), defBody (top 25), defScope (top 25), [], []⟩
def df26 : DefZ := ⟨.glo "_law_one", "_law_one", "_law_one", defArgs (top 26), defBody (top 26), defScope (top 26), [], []⟩
def df27 : DefZ := ⟨.glo "_law_pc_drawn_values", "_law_pc_drawn_values", "_law_pc_drawn_values", defArgs (top 32), defBody (top 32), defScope (top 32), [], []⟩
def df28 : DefZ := ⟨.glo "_law_more_right", "_law_more_right", "_law_more_right", defArgs (top 47), defBody (top 47), defScope (top 47), [], []⟩
def df29 : DefZ := ⟨.glo "_law_pc_drawn", "_law_pc_drawn", "_law_pc_drawn", defArgs (top 33), defBody (top 33), defScope (top 33), [], []⟩
def df30 : DefZ := ⟨.glo "_law_pool", "_law_pool", "_law_pool", defArgs (top 24), defBody (top 24), defScope (top 24), [], []⟩
def df31 : DefZ := ⟨.glo "_law_heard_share", "_law_heard_share", "_law_heard_share", defArgs (top 39), defBody (top 39), defScope (top 39), [], []⟩
def df32 : DefZ := ⟨.glo "_law_shares_right", "_law_shares_right", "_law_shares_right", defArgs (top 45), defBody (top 45), defScope (top 45), [], []⟩
def df33 : DefZ := ⟨.glo "_law_alike", "_law_alike", "_law_alike", defArgs (top 49), defBody (top 49), defScope (top 49), [], []⟩
def df34 : DefZ := ⟨.glo "_law_ways_right", "_law_ways_right", "_law_ways_right", defArgs (top 48), defBody (top 48), defScope (top 48), [], []⟩
def df35 : DefZ := ⟨.glo "law", "law", "law", defArgs (top 50), defBody (top 50), defScope (top 50), [], []⟩
def df36 : DefZ := ⟨.glo "_law_heard", "_law_heard", "_law_heard", defArgs (top 34), defBody (top 34), defScope (top 34), [], []⟩
def df37 : DefZ := ⟨.met "Crew" "__init__", "__init__", "Crew.__init__", defArgs (cst 22 0), defBody (cst 22 0), defScope (cst 22 0), [], []⟩
def df38 : DefZ := ⟨.met "Crew" "changed", "changed", "Crew.changed", defArgs (cst 22 8), defBody (cst 22 8), defScope (cst 22 8), [], []⟩
def df39 : DefZ := ⟨.met "Crew" "look_at_kind", "look_at_kind", "Crew.look_at_kind", defArgs (cst 22 7), defBody (cst 22 7), defScope (cst 22 7), [], []⟩
def df40 : DefZ := ⟨.met "Crew" "cut", "cut", "Crew.cut", defArgs (cst 22 12), defBody (cst 22 12), defScope (cst 22 12), [], []⟩
def df41 : DefZ := ⟨.prp "Crew" "all_kinds", "all_kinds", "Crew.all_kinds", defArgs (cst 22 1), defBody (cst 22 1), defScope (cst 22 1), [], []⟩
def df42 : DefZ := ⟨.prp "Crew" "full", "full", "Crew.full", defArgs (cst 22 4), defBody (cst 22 4), defScope (cst 22 4), [], []⟩
def df43 : DefZ := ⟨.prp "Crew" "least", "least", "Crew.least", defArgs (cst 22 3), defBody (cst 22 3), defScope (cst 22 3), [], []⟩
def df44 : DefZ := ⟨.prp "Crew" "members", "members", "Crew.members", defArgs (cst 22 2), defBody (cst 22 2), defScope (cst 22 2), [], []⟩
def df45 : DefZ := ⟨.prp "Crew" "span", "span", "Crew.span", defArgs (cst 22 5), defBody (cst 22 5), defScope (cst 22 5), [], []⟩
def df46 : DefZ := ⟨.met "Crew" "without_kind", "without_kind", "Crew.without_kind", defArgs (cst 22 11), defBody (cst 22 11), defScope (cst 22 11), [], []⟩
def df47 : DefZ := ⟨.met "Crew" "with_many", "with_many", "Crew.with_many", defArgs (cst 22 9), defBody (cst 22 9), defScope (cst 22 9), [], []⟩
def df48 : DefZ := ⟨.met "Crew" "with_kind", "with_kind", "Crew.with_kind", defArgs (cst 22 10), defBody (cst 22 10), defScope (cst 22 10), [], []⟩
def df49 : DefZ := ⟨.met "Crew" "share", "share", "Crew.share", defArgs (cst 22 13), defBody (cst 22 13), defScope (cst 22 13), [], []⟩
def df50 : DefZ := ⟨.met "Crew" "__eq__", "__eq__", "Crew.__eq__", defArgs (cst 22 6), defBody (cst 22 6), defScope (cst 22 6), [], []⟩
def dfs : List DefZ := [df0, df1, df2, df3, df4, df5, df6, df7, df8, df9, df10, df11, df12, df13, df14, df15, df16, df17, df18, df19, df20, df21, df22, df23, df24, df25, df26, df27, df28, df29, df30, df31, df32, df33, df34, df35, df36, df37, df38, df39, df40, df41, df42, df43, df44, df45, df46, df47, df48, df49, df50]
def inis : List IniZ := [i_InvalidCrew, i_InvalidNumber, i_TooMany]
def tfs : List He.Defn := [("_law_heard_cut", none), ("_law_heard_crew", none), ("_law_heard_less", none), ("_law_heard_many", none), ("_law_heard_more", none), ("_law_heard_share", none), ("_law_ways_right", none)]
def prs : List (Str × Str) := [("Crew", "all_kinds"), ("Crew", "full"), ("Crew", "least"), ("Crew", "members"), ("Crew", "span")]
def eqs : List Str := ["Crew"]
def ex1 (K : PySem.W.Frag) : Bool := fas.all fun f => f.ok K
def ex2 (K : PySem.W.Frag) : Bool := kitB K isSb isTg isAs && (fldB K fl && (prs.all (prpB K) && eqs.all (eqoB K)))
def ex3 (K : PySem.W.Frag) : Bool := exmB K isSbE isEx cl__law_heard
def ex4 (K : PySem.W.Frag) : Bool := decide ((tfs.map fun p => (He.cT K p).2).Nodup)
def hk : HkZ := ⟨dfs, inis, tfs, file0, fun K => ex1 K && (ex2 K && (ex3 K && ex4 K))⟩
abbrev R : PySem.W.OpenRow := PySem.W.OpenLaw.row PySem.Challenge.rw_poolupto_k66_sums_cuts_and_shares_of_cre
abbrev qv : Program := PySem.W.view R.prog [50]
def ob (s : PySem.W.SharedT) : AlZ := obsZ 6 hk (HandSHeadRun.getT s)
theorem ob_eq (s : PySem.W.SharedT) : ob s = (hookZ 6 hk).obs s.abs := obsZ_eq (HandSHeadRun.getT_eq s)
def loose0 : List PySem.Str := [(PySem.Str.ofString "is_integer"), (PySem.Str.ofString "is_between"), (PySem.Str.ofString "is_row"), (PySem.Str.ofString "SafeError"), (PySem.Str.ofString "InvalidNumber"), (PySem.Str.ofString "TooMany"), (PySem.Str.ofString "InvalidCrew"), (PySem.Str.ofString "MOST_ENTRIES"), (PySem.Str.ofString "MOST_KINDS"), (PySem.Str.ofString "MOST_MANY"), (PySem.Str.ofString "MOST_OFFICES"), (PySem.Str.ofString "least_of"), (PySem.Str.ofString "quota_of"), (PySem.Str.ofString "span_of"), (PySem.Str.ofString "is_values"), (PySem.Str.ofString "is_many"), (PySem.Str.ofString "is_kind"), (PySem.Str.ofString "look_at_many"), (PySem.Str.ofString "Crew"), (PySem.Str.ofString "_law_pool"), (PySem.Str.ofString "_law_take"), (PySem.Str.ofString "_law_one"), (PySem.Str.ofString "_law_yq_is_whole"), (PySem.Str.ofString "_law_yq_same"), (PySem.Str.ofString "_law_pc_least"), (PySem.Str.ofString "_law_pc_quota"), (PySem.Str.ofString "_law_pc_sums"), (PySem.Str.ofString "_law_pc_drawn_values"), (PySem.Str.ofString "_law_pc_drawn"), (PySem.Str.ofString "_law_heard"), (PySem.Str.ofString "_law_facts"), (PySem.Str.ofString "_law_owed"), (PySem.Str.ofString "_law_heard_crew"), (PySem.Str.ofString "_law_heard_cut"), (PySem.Str.ofString "_law_heard_share")]
def loose1 : List PySem.Str := [(PySem.Str.ofString "_law_heard_many"), (PySem.Str.ofString "_law_heard_more"), (PySem.Str.ofString "_law_heard_less"), (PySem.Str.ofString "_law_with"), (PySem.Str.ofString "_law_cuts_right"), (PySem.Str.ofString "_law_shares_right"), (PySem.Str.ofString "_law_manies_right"), (PySem.Str.ofString "_law_more_right"), (PySem.Str.ofString "_law_ways_right"), (PySem.Str.ofString "_law_alike")]
def loose : List Str := loose0 ++ loose1
theorem run (w : World) : HandSHeadRun.RunEq R qv (hookZ 6 hk) ob 4000 loose w := by
  intro os
  kernel_rfl
section
variable {P : Program} {w : World} {K : PySem.W.Frag} {mg : Str → Option Value} {base hp : Heap}
theorem factOf (c : SaysZ hk hp K) (i : Nat) {f : He.Fa} (h : fas[i]? = some f) : f.ok K = true := List.all_eq_true.mp (He.ba c.more).1 f (List.mem_of_getElem? h)
theorem txt_of (pf : P.main.file = file0) (pt : (P.main.scope.names.lookup ("super" : Str)).isSome = false) (X : K.In base) (G : base.Ns mainGlobals mg) (c : SaysZ hk hp K) (TB : ∀ p ∈ tfs, LamX.TabB base mg (He.cT K p).1 (He.cT K p).2) : Txt ⟨P, w, K, mg, base, tabZ K tfs⟩ := by
  obtain ⟨k1, k⟩ := He.ba c.more
  obtain ⟨k2, k⟩ := He.ba k
  obtain ⟨k3, k4⟩ := He.ba k
  obtain ⟨k5, k⟩ := He.ba k2
  obtain ⟨k6, k⟩ := He.ba k
  obtain ⟨k7, k8⟩ := He.ba k
  have nd := of_decide_eq_true k4
  have e0 := k3
  exact {
    kt := kitB_ok k5
    fk := fldB_ok k6
    pf := pf
    pt := pt
    n_all := He.free_ok X G (factOf c 0 rfl)
    n_any := He.free_ok X G (factOf c 1 rfl)
    n_bool := He.free_ok X G (factOf c 2 rfl)
    n_int := He.free_ok X G (factOf c 3 rfl)
    n_isinstance := He.free_ok X G (factOf c 4 rfl)
    n_len := He.free_ok X G (factOf c 5 rfl)
    n_list := He.free_ok X G (factOf c 6 rfl)
    n_max := He.free_ok X G (factOf c 7 rfl)
    n_min := He.free_ok X G (factOf c 8 rfl)
    n_range := He.free_ok X G (factOf c 9 rfl)
    n_str := He.free_ok X G (factOf c 10 rfl)
    n_sum := He.free_ok X G (factOf c 11 rfl)
    n_super := He.free_ok X G (factOf c 12 rfl)
    n_tuple := He.free_ok X G (factOf c 13 rfl)
    g_MOST_ENTRIES := He.int_ok X G (factOf c 14 rfl)
    g_MOST_KINDS := He.int_ok X G (factOf c 15 rfl)
    g_MOST_MANY := He.int_ok X G (factOf c 16 rfl)
    g_MOST_OFFICES := He.int_ok X G (factOf c 17 rfl)
    f_is_integer := SaysZ.fun_ c 0 (d := df0) rfl
    f_is_between := SaysZ.fun_ c 1 (d := df1) rfl
    f_is_many := SaysZ.fun_ c 2 (d := df2) rfl
    f_least_of := SaysZ.fun_ c 3 (d := df3) rfl
    f_is_values := SaysZ.fun_ c 4 (d := df4) rfl
    f_is_kind := SaysZ.fun_ c 5 (d := df5) rfl
    f_is_row := SaysZ.fun_ c 6 (d := df6) rfl
    f_quota_of := SaysZ.fun_ c 7 (d := df7) rfl
    f_span_of := SaysZ.fun_ c 8 (d := df8) rfl
    f__law_facts := SaysZ.fun_ c 9 (d := df9) rfl
    f__law_heard_cut := SaysZ.fun_ c 10 (d := df10) rfl
    f__law_pc_least := SaysZ.fun_ c 11 (d := df11) rfl
    f__law_pc_quota := SaysZ.fun_ c 12 (d := df12) rfl
    f__law_pc_sums := SaysZ.fun_ c 13 (d := df13) rfl
    f__law_owed := SaysZ.fun_ c 14 (d := df14) rfl
    f__law_with := SaysZ.fun_ c 15 (d := df15) rfl
    f__law_yq_is_whole := SaysZ.fun_ c 16 (d := df16) rfl
    f__law_yq_same := SaysZ.fun_ c 17 (d := df17) rfl
    f__law_cuts_right := SaysZ.fun_ c 18 (d := df18) rfl
    f__law_heard_crew := SaysZ.fun_ c 19 (d := df19) rfl
    f__law_heard_less := SaysZ.fun_ c 20 (d := df20) rfl
    f_look_at_many := SaysZ.fun_ c 21 (d := df21) rfl
    f__law_heard_many := SaysZ.fun_ c 22 (d := df22) rfl
    f__law_manies_right := SaysZ.fun_ c 23 (d := df23) rfl
    f__law_heard_more := SaysZ.fun_ c 24 (d := df24) rfl
    f__law_take := SaysZ.fun_ c 25 (d := df25) rfl
    f__law_one := SaysZ.fun_ c 26 (d := df26) rfl
    f__law_pc_drawn_values := SaysZ.fun_ c 27 (d := df27) rfl
    f__law_more_right := SaysZ.fun_ c 28 (d := df28) rfl
    f__law_pc_drawn := SaysZ.fun_ c 29 (d := df29) rfl
    f__law_pool := SaysZ.fun_ c 30 (d := df30) rfl
    f__law_heard_share := SaysZ.fun_ c 31 (d := df31) rfl
    f__law_shares_right := SaysZ.fun_ c 32 (d := df32) rfl
    f__law_alike := SaysZ.fun_ c 33 (d := df33) rfl
    f__law_ways_right := SaysZ.fun_ c 34 (d := df34) rfl
    f_law := SaysZ.fun_ c 35 (d := df35) rfl
    f__law_heard := SaysZ.fun_ c 36 (d := df36) rfl
    g_is_integer := He.glo_ok X G (factOf c 18 rfl)
    g_is_between := He.glo_ok X G (factOf c 19 rfl)
    g_is_many := He.glo_ok X G (factOf c 20 rfl)
    g_least_of := He.glo_ok X G (factOf c 21 rfl)
    g_is_values := He.glo_ok X G (factOf c 22 rfl)
    g_is_kind := He.glo_ok X G (factOf c 23 rfl)
    g_is_row := He.glo_ok X G (factOf c 24 rfl)
    g_quota_of := He.glo_ok X G (factOf c 25 rfl)
    g_span_of := He.glo_ok X G (factOf c 26 rfl)
    g__law_facts := He.glo_ok X G (factOf c 27 rfl)
    g__law_heard_cut := He.glo_ok X G (factOf c 28 rfl)
    g__law_pc_least := He.glo_ok X G (factOf c 29 rfl)
    g__law_pc_quota := He.glo_ok X G (factOf c 30 rfl)
    g__law_pc_sums := He.glo_ok X G (factOf c 31 rfl)
    g__law_owed := He.glo_ok X G (factOf c 32 rfl)
    g__law_with := He.glo_ok X G (factOf c 33 rfl)
    g__law_yq_is_whole := He.glo_ok X G (factOf c 34 rfl)
    g__law_yq_same := He.glo_ok X G (factOf c 35 rfl)
    g__law_cuts_right := He.glo_ok X G (factOf c 36 rfl)
    g__law_heard_crew := He.glo_ok X G (factOf c 37 rfl)
    g__law_heard_less := He.glo_ok X G (factOf c 38 rfl)
    g_look_at_many := He.glo_ok X G (factOf c 39 rfl)
    g__law_heard_many := He.glo_ok X G (factOf c 40 rfl)
    g__law_manies_right := He.glo_ok X G (factOf c 41 rfl)
    g__law_heard_more := He.glo_ok X G (factOf c 42 rfl)
    g__law_take := He.glo_ok X G (factOf c 43 rfl)
    g__law_one := He.glo_ok X G (factOf c 44 rfl)
    g__law_pc_drawn_values := He.glo_ok X G (factOf c 45 rfl)
    g__law_more_right := He.glo_ok X G (factOf c 46 rfl)
    g__law_pc_drawn := He.glo_ok X G (factOf c 47 rfl)
    g__law_pool := He.glo_ok X G (factOf c 48 rfl)
    g__law_heard_share := He.glo_ok X G (factOf c 49 rfl)
    g__law_shares_right := He.glo_ok X G (factOf c 50 rfl)
    g__law_alike := He.glo_ok X G (factOf c 51 rfl)
    g__law_ways_right := He.glo_ok X G (factOf c 52 rfl)
    g_law := He.glo_ok X G (factOf c 53 rfl)
    g__law_heard := He.glo_ok X G (factOf c 54 rfl)
    g_Crew := He.glo_ok X G (factOf c 55 rfl)
    g_InvalidCrew := He.glo_ok X G (factOf c 56 rfl)
    g_InvalidNumber := He.glo_ok X G (factOf c 57 rfl)
    g_TooMany := He.glo_ok X G (factOf c 58 rfl)
    c_Crew := He.cls_ok (factOf c 59 rfl)
    mk_Crew := He.mkr_ok (factOf c 60 rfl)
    eq_Crew := List.all_eq_true.mp k8 _ (by simp [eqs])
    me_Crew_changed := He.meth_ok (factOf c 61 rfl)
    me_Crew_cut := He.meth_ok (factOf c 62 rfl)
    me_Crew_look_at_kind := He.meth_ok (factOf c 63 rfl)
    me_Crew_share := He.meth_ok (factOf c 64 rfl)
    me_Crew_with_kind := He.meth_ok (factOf c 65 rfl)
    me_Crew_with_many := He.meth_ok (factOf c 66 rfl)
    me_Crew_without_kind := He.meth_ok (factOf c 67 rfl)
    pr_Crew_all_kinds := prpB_ok (q := ("Crew", "all_kinds")) (List.all_eq_true.mp k7 _ (List.mem_of_getElem? (i := 0) rfl))
    pr_Crew_full := prpB_ok (q := ("Crew", "full")) (List.all_eq_true.mp k7 _ (List.mem_of_getElem? (i := 1) rfl))
    pr_Crew_least := prpB_ok (q := ("Crew", "least")) (List.all_eq_true.mp k7 _ (List.mem_of_getElem? (i := 2) rfl))
    pr_Crew_members := prpB_ok (q := ("Crew", "members")) (List.all_eq_true.mp k7 _ (List.mem_of_getElem? (i := 3) rfl))
    pr_Crew_span := prpB_ok (q := ("Crew", "span")) (List.all_eq_true.mp k7 _ (List.mem_of_getElem? (i := 4) rfl))
    f_Crew___init__ := SaysZ.fun_ c 37 (d := df37) rfl
    f_Crew_changed := SaysZ.fun_ c 38 (d := df38) rfl
    f_Crew_look_at_kind := SaysZ.fun_ c 39 (d := df39) rfl
    f_Crew_cut := SaysZ.fun_ c 40 (d := df40) rfl
    f_Crew_all_kinds := SaysZ.fun_ c 41 (d := df41) rfl
    f_Crew_full := SaysZ.fun_ c 42 (d := df42) rfl
    f_Crew_least := SaysZ.fun_ c 43 (d := df43) rfl
    f_Crew_members := SaysZ.fun_ c 44 (d := df44) rfl
    f_Crew_span := SaysZ.fun_ c 45 (d := df45) rfl
    f_Crew_without_kind := SaysZ.fun_ c 46 (d := df46) rfl
    f_Crew_with_many := SaysZ.fun_ c 47 (d := df47) rfl
    f_Crew_with_kind := SaysZ.fun_ c 48 (d := df48) rfl
    f_Crew_share := SaysZ.fun_ c 49 (d := df49) rfl
    f_Crew___eq__ := SaysZ.fun_ c 50 (d := df50) rfl
    xi_InvalidCrew := SaysZ.ini_ c 0 (d := i_InvalidCrew) rfl
    xi_InvalidNumber := SaysZ.ini_ c 1 (d := i_InvalidNumber) rfl
    xi_TooMany := SaysZ.ini_ c 2 (d := i_TooMany) rfl
    ke__law_heard := exmB_ok e0
    l__law_heard_cut := lam_of nd (List.mem_of_getElem? (i := 0) rfl) TB
    l__law_heard_crew := lam_of nd (List.mem_of_getElem? (i := 1) rfl) TB
    l__law_heard_less := lam_of nd (List.mem_of_getElem? (i := 2) rfl) TB
    l__law_heard_many := lam_of nd (List.mem_of_getElem? (i := 3) rfl) TB
    l__law_heard_more := lam_of nd (List.mem_of_getElem? (i := 4) rfl) TB
    l__law_heard_share := lam_of nd (List.mem_of_getElem? (i := 5) rfl) TB
    l__law_ways_right := lam_of nd (List.mem_of_getElem? (i := 6) rfl) TB
  }
end
end ZL
open PySem PySem.W PySem.Calls PyProof.Rows in
theorem PySem.Challenge.cw_poolupto_k66_sums_cuts_and_shares_of_cre_holds : PySem.Challenge.rw_poolupto_k66_sums_cuts_and_shares_of_cre.Holds := by
  w_on; o_law
  refine HandSHeadRun.head_any (r := OpenLaw.row PySem.Challenge.rw_poolupto_k66_sums_cuts_and_shares_of_cre) (q := view (OpenLaw.row PySem.Challenge.rw_poolupto_k66_sums_cuts_and_shares_of_cre).prog [50]) (H := Z.hookZ 6 ZL.hk) (ob := ZL.ob) (M := 4000) (loose := ZL.loose) (d := HandSHeadRun.topDef (OpenLaw.row PySem.Challenge.rw_poolupto_k66_sums_cuts_and_shares_of_cre).prog 50) (kwd := []) ZL.ob_eq
    (by kernel_rfl) (fun s => by kernel_rfl) ZL.run (by kernel_rfl) (by kernel_rfl) (by kernel_rfl) (by rfl) (by first | assumption | decide +kernel) (by decide +kernel) ⟨rfl, rfl, rfl, rfl, rfl, by decide +kernel⟩ ?hw ?hc
  case hw => w_witness2
  case hc =>
    refine LamX.walk_ofTsE (l := PySem.Challenge.rw_poolupto_k66_sums_cuts_and_shares_of_cre) (n := 63) (k := 34) (x := "script") (CX := fun w => L2.CX (PySem.Challenge.rw_poolupto_k66_sums_cuts_and_shares_of_cre).prog w) rfl (by decide) (by kernel_rfl) ⟨rfl, by decide, by decide⟩ ?F (fun w H s e s' z => Z.noCX w H s e s' z)
    intro w mg fa h Y G hmg0
    obtain ⟨K, KX, c⟩ := Y
    have hmg : mg ("law" : PySem.Str) = some (.ref fa) := by
      have e : (HandSHeadRun.topDef (OpenLaw.row PySem.Challenge.rw_poolupto_k66_sums_cuts_and_shares_of_cre).prog 50).name = ("law" : PySem.Str) := by kernel_rfl
      rw [← e]
      exact hmg0
    obtain ⟨fd, F⟩ := Z.SaysZ.fun_ c 35 (d := ZL.df35) rfl
    have e := hmg.symm.trans (He.glo_ok KX G (ZL.factOf c 53 (f := .glo "law") rfl))
    cases e
    refine ⟨K, KX, Z.lawAt (h := ZL.hk) (F := ZL.m_law) KX c (fd := fd) (F.bindsN (fun _ _ _ _ _ _ us hl => match us, hl with | [_], _ => rfl)) (fun base KB G2 TB => ZL.fz_law (ZL.txt_of (by kernel_rfl) (by kernel_rfl) KB G2 c TB) F) ZL.law_spec (fun s v => (L2.FunD.bindsA (ps := ["script"]) F fun _ _ _ _ _ _ us hl => match us, hl with | [_], _ => rfl) s [v] rfl)⟩
end
